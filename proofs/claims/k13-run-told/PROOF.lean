import PyProof.Rows.All
import Wide.All
import OpenK.AllK
import Wide.FinOn
import KE.KStateDown
import HandS.ForMost
import HandS.ForExc
import HandS.IsInst
import HandS.Deep
import HandS.TupAny
import HandS.Style
import HandS.Sort
import HandS.More
import HandS.Conv
import HandS.Defaults
import HandS.WordsExc
import HandS.TryMany
import HandS.ExcIs
import HandS.ExcValue
import HandS.DictComp
import HandS.ListEq
import HandS.DictEq
import HandS.Text
import PyProof.Rows.StrMeet
import HandS.Head0
import HandS.Head1
import HandS.Head2
import HandS.HeadEnd
import HandS.HeadHook1
import HandS.HeadHook2
import HandS.HeadHook3
import HandS.HeadHook4
import PySem.Challenge.RW_chainkeep_k13_run_told
set_option Elab.async false
set_option linter.all false
set_option maxRecDepth 100000
set_option maxHeartbeats 4000000
set_option autoImplicit false
/-! Data-level calculus over HandS: values as PyData, an immutable heap G beside the heap H, slots with owned lists. -/
namespace Ck
open PySem PySem.Spec L2

abbrev Ex (H H' : Hp) : Prop := ∀ b o, H b = some o → H' b = some o
theorem Ex.rfl' (H : Hp) : Ex H H := fun _ _ h => h
theorem Ex.tr {H H1 H2 : Hp} (a : Ex H H1) (b : Ex H1 H2) : Ex H H2 := fun c o h => b c o (a c o h)
theorem Ex.no {H H' : Hp} (e : Ex H H') {a : Addr} (h : H' a = none) : H a = none := by
  cases q : H a with
  | none => rfl
  | some o => rw [e a o q] at h; cases h
theorem Ex.new {H : Hp} {p : Addr} {o : HO} (h : H p = none) : Ex H (upd H p o) := fun a u e => by
  rw [upd_ne (ne_of_none e h)]; exact e
theorem Ex.rd {H H' : Hp} (e : Ex H H') {a : Addr} {u : HO} (h : Rd H a u) : Rd H' a u := by
  rcases h with h | ⟨o, h⟩
  · exact .inl (e _ _ h)
  · exact .inr ⟨o, e _ _ h⟩

def kvI (p : Str × Int) : Key × V := (Sum.inr p.1, .int p.2)
def kvD (p : Str × Int) : PyData × PyData := (.str p.1, .int p.2)

mutual
inductive Rp (G : Hp) : V → PyData → Prop
  | non : Rp G .non .none
  | bl (b : Bool) : Rp G (.bl b) (.bool b)
  | int (i : Int) : Rp G (.int i) (.int i)
  | str (x : Str) : Rp G (.str x) (.str x)
  | lst {a : Addr} {xs : List V} {ds : List PyData} : Rd G a (.lst xs) → Rps G xs ds → Rp G (.ref a) (.list ds)
  | tup {a : Addr} {xs : List V} {ds : List PyData} : Rd G a (.tup xs) → Rps G xs ds → Rp G (.ref a) (.tuple ds)
  | dct {a : Addr} {kvs : List (Str × Int)} {ps : List (PyData × PyData)} : G a = some (.dK (kvs.map kvI)) → ps = kvs.map kvD → Rp G (.ref a) (.dict ps)
inductive Rps (G : Hp) : List V → List PyData → Prop
  | nil : Rps G [] []
  | cons {v : V} {vs : List V} {d : PyData} {ds : List PyData} : Rp G v d → Rps G vs ds → Rps G (v :: vs) (d :: ds)
end
mutual
theorem Rp.mono {G G' : Hp} (e : Ex G G') : ∀ (d : PyData) (v : V), Rp G v d → Rp G' v d
  | .none, _, h => by cases h; exact .non
  | .bool b, _, h => by cases h; exact .bl b
  | .int i, _, h => by cases h; exact .int i
  | .str x, _, h => by cases h; exact .str x
  | .list ds, _, h => by
    cases h with
    | lst h1 h2 => exact .lst (e.rd h1) (Rps.mono e ds _ h2)
  | .tuple ds, _, h => by
    cases h with
    | tup h1 h2 => exact .tup (e.rd h1) (Rps.mono e ds _ h2)
  | .dict ps, _, h => by
    cases h with
    | dct h1 h2 => exact .dct (e _ _ h1) h2
theorem Rps.mono {G G' : Hp} (e : Ex G G') : ∀ (ds : List PyData) (vs : List V), Rps G vs ds → Rps G' vs ds
  | [], _, h => by cases h; exact .nil
  | d :: ds, _, h => by
    cases h with
    | cons h1 h2 => exact .cons (Rp.mono e d _ h1) (Rps.mono e ds _ h2)
end
theorem Rp.up {G G' : Hp} {v : V} {d : PyData} (h : Rp G v d) (e : Ex G G') : Rp G' v d := Rp.mono e d v h
theorem Rps.up {G G' : Hp} {vs : List V} {ds : List PyData} (h : Rps G vs ds) (e : Ex G G') : Rps G' vs ds := Rps.mono e ds vs h
section
variable {K : PySem.W.Frag} {G H : Hp}
theorem rd_sql {a : Addr} {xs : List V} (h : Rd G a (.lst xs)) : SqL K G a xs := .inl h
theorem rd_sqt {a : Addr} {xs : List V} (h : Rd G a (.tup xs)) : SqT K G a xs := .inl h
theorem Rps.length : ∀ {vs : List V} {ds : List PyData}, Rps G vs ds → vs.length = ds.length
  | _, _, .nil => rfl
  | _, _, .cons _ t => congrArg (· + 1) (Rps.length t)
theorem Rps.get : ∀ {vs : List V} {ds : List PyData} {i : Nat} {d : PyData}, Rps G vs ds → ds[i]? = some d → ∃ v, vs[i]? = some v ∧ Rp G v d
  | _, _, _, _, .nil, e => by simp at e
  | _, _, 0, _, .cons r _, e => by simp at e; subst e; exact ⟨_, rfl, r⟩
  | _, _, i + 1, d, .cons _ t, e => by
    obtain ⟨v, h1, h2⟩ := Rps.get (i := i) (d := d) t (by simpa using e)
    exact ⟨v, by simpa using h1, h2⟩
theorem Rps.at : ∀ {vs : List V} {ds : List PyData} {i : Nat} {v : V}, Rps G vs ds → vs[i]? = some v → ∃ d, ds[i]? = some d ∧ Rp G v d
  | _, _, _, _, .nil, e => by simp at e
  | _, _, 0, _, .cons r _, e => by simp at e; subst e; exact ⟨_, rfl, r⟩
  | _, _, i + 1, v, .cons _ t, e => by
    obtain ⟨d, h1, h2⟩ := Rps.at (i := i) (v := v) t (by simpa using e)
    exact ⟨d, by simpa using h1, h2⟩
theorem Rps.app : ∀ {vs ws : List V} {ds es : List PyData}, Rps G vs ds → Rps G ws es → Rps G (vs ++ ws) (ds ++ es)
  | _, _, _, _, .nil, s => s
  | _, _, _, _, .cons r t, s => .cons r (Rps.app t s)
theorem Rps.take : ∀ {vs : List V} {ds : List PyData} (n : Nat), Rps G vs ds → Rps G (vs.take n) (ds.take n)
  | _, _, 0, _ => .nil
  | _, _, _ + 1, .nil => .nil
  | _, _, n + 1, .cons r t => .cons r (Rps.take n t)
theorem Rps.drop : ∀ {vs : List V} {ds : List PyData} (n : Nat), Rps G vs ds → Rps G (vs.drop n) (ds.drop n)
  | _, _, 0, r => r
  | _, _, _ + 1, .nil => .nil
  | _, _, n + 1, .cons _ t => Rps.drop n t
theorem Rps.set {v : V} {d : PyData} (r : Rp G v d) : ∀ {vs : List V} {ds : List PyData} (i : Nat), Rps G vs ds → Rps G (vs.set i v) (ds.set i d)
  | _, _, _, .nil => .nil
  | _, _, 0, .cons _ t => .cons r t
  | _, _, i + 1, .cons q t => .cons q (Rps.set r i t)
theorem Rps.rev : ∀ {vs : List V} {ds : List PyData}, Rps G vs ds → Rps G vs.reverse ds.reverse
  | _, _, .nil => .nil
  | _, _, .cons r t => by
    rw [List.reverse_cons, List.reverse_cons]
    exact (Rps.rev t).app (.cons r .nil)
theorem Rps.ints : ∀ {vs : List V} {ns : List Int}, Rps G vs (ns.map PyData.int) → vs = ns.map V.int
  | _, [], h => by cases h; rfl
  | _, n :: ns, h => by
    cases h with
    | cons h1 h2 => cases h1; rw [Rps.ints h2]; rfl
theorem Rps.ofInts : ∀ (ns : List Int), Rps G (ns.map V.int) (ns.map PyData.int)
  | [] => .nil
  | n :: ns => .cons (.int n) (Rps.ofInts ns)
theorem Rps.strs : ∀ {vs : List V} {ns : List Str}, Rps G vs (ns.map PyData.str) → vs = ns.map V.str
  | _, [], h => by cases h; rfl
  | _, n :: ns, h => by
    cases h with
    | cons h1 h2 => cases h1; rw [Rps.strs h2]; rfl
theorem Rps.ofStrs : ∀ (ns : List Str), Rps G (ns.map V.str) (ns.map PyData.str)
  | [] => .nil
  | n :: ns => .cons (.str n) (Rps.ofStrs ns)
theorem Rps.bls : ∀ {vs : List V} {ns : List Bool}, Rps G vs (ns.map PyData.bool) → vs = ns.map V.bl
  | _, [], h => by cases h; rfl
  | _, n :: ns, h => by
    cases h with
    | cons h1 h2 => cases h1; rw [Rps.bls h2]; rfl
theorem Rps.ofBls : ∀ (ns : List Bool), Rps G (ns.map V.bl) (ns.map PyData.bool)
  | [] => .nil
  | n :: ns => .cons (.bl n) (Rps.ofBls ns)
mutual
theorem Rp.dp : ∀ (d : PyData) (v : V), d.canLay0 = true → Rp G v d → Dp K G v d
  | .none, _, _, h => by cases h; exact .non
  | .bool b, _, _, h => by cases h; exact .bl b
  | .int i, _, _, h => by cases h; exact .int i
  | .str x, _, _, h => by cases h; exact .str x
  | .list ds, _, c, h => by
    cases h with
    | lst h1 h2 => exact .lst (rd_sql h1) (Rps.dps ds _ (by simpa only [PyData.canLay0] using c) h2)
  | .tuple ds, _, c, h => by
    cases h with
    | tup h1 h2 => exact .tup (rd_sqt h1) (Rps.dps ds _ (by simpa only [PyData.canLay0] using c) h2)
  | .dict ps, _, c, h => by simp [PyData.canLay0] at c
theorem Rps.dps : ∀ (ds : List PyData) (vs : List V), PyData.canLayAll0 ds = true → Rps G vs ds → DpAll K G vs ds
  | [], _, _, h => by cases h; exact .nil
  | d :: ds, _, c, h => by
    cases h with
    | cons h1 h2 =>
      have c' : d.canLay0 = true ∧ PyData.canLayAll0 ds = true := by simpa only [PyData.canLayAll0, Bool.and_eq_true] using c
      exact .cons (Rp.dp d _ c'.1 h1) (Rps.dps ds _ c'.2 h2)
end
theorem Rp.toDp {v : V} {d : PyData} (h : Rp G v d) (c : SeqAt.shaped d = true) : Dp K G v d := Rp.dp d v (SeqAt.canLay_of_shaped c) h
end

/-! ### steps of the two heaps -/
structure Stp (G H G' H' : Hp) : Prop where
  g : Ex G G'
  h : Ex H H'
  gh : Ex G' H'
  nw : ∀ a o, H a = some o → G a = none → G' a = none
theorem Stp.rfl' {G H : Hp} (e : Ex G H) : Stp G H G H := ⟨Ex.rfl' G, Ex.rfl' H, e, fun _ _ _ h => h⟩
theorem Stp.tr {G H G1 H1 G2 H2 : Hp} (a : Stp G H G1 H1) (b : Stp G1 H1 G2 H2) : Stp G H G2 H2 :=
  ⟨a.g.tr b.g, a.h.tr b.h, b.gh, fun x o h1 h2 => b.nw x o (a.h x o h1) (a.nw x o h1 h2)⟩
theorem Stp.new {G H : Hp} (e : Ex G H) {p : Addr} {o : HO} (hp : H p = none) : Stp G H (upd G p o) (upd H p o) := by
  refine ⟨Ex.new (e.no hp), Ex.new hp, fun b u q => ?_, fun a u h1 h2 => ?_⟩
  · by_cases hb : b = p
    · subst hb; rw [upd_same] at q ⊢; exact q
    · rw [upd_ne hb] at q ⊢; exact e b u q
  · rw [upd_ne (ne_of_none h1 hp)]; exact h2
theorem Stp.newH {G H : Hp} (e : Ex G H) {p : Addr} {o : HO} (hp : H p = none) : Stp G H G (upd H p o) :=
  ⟨Ex.rfl' G, Ex.new hp, e.tr (Ex.new hp), fun _ _ _ h => h⟩
/-- an owned new list is handed over -/
theorem Stp.give {G H G' H' : Hp} (s : Stp G H G' H') {a : Addr} {o : HO} (h0 : H a = none) (hg : G' a = none) (hh : H' a = some o) : Stp G H (upd G' a o) H' := by
  refine ⟨s.g.tr (Ex.new hg), s.h, fun b u q => ?_, fun x u h1 h2 => ?_⟩
  · by_cases hb : b = a
    · subst hb; rw [upd_same] at q; cases q; exact hh
    · rw [upd_ne hb] at q; exact s.gh b u q
  · rw [upd_ne (ne_of_none h1 h0)]; exact s.nw x u h1 h2

/-! ### owned trees: every list and dict in it is one's own; its tuples and what they hold lie in G -/
mutual
inductive Ro (G H : Hp) : V → PyData → List Addr → Prop
  | non : Ro G H .non .none []
  | bl (b : Bool) : Ro G H (.bl b) (.bool b) []
  | int (i : Int) : Ro G H (.int i) (.int i) []
  | str (x : Str) : Ro G H (.str x) (.str x) []
  | lst {a : Addr} {xs : List V} {ds : List PyData} {f : List Addr} : H a = some (.lst xs) → Ros G H xs ds f → Ro G H (.ref a) (.list ds) (a :: f)
  | tup {a : Addr} {xs : List V} {ds : List PyData} {f : List Addr} : Rd G a (.tup xs) → Ros G H xs ds f → Ro G H (.ref a) (.tuple ds) f
  | dct {a : Addr} {kvs : List (Str × Int)} {ps : List (PyData × PyData)} : H a = some (.dK (kvs.map kvI)) → ps = kvs.map kvD → Ro G H (.ref a) (.dict ps) [a]
inductive Ros (G H : Hp) : List V → List PyData → List Addr → Prop
  | nil : Ros G H [] [] []
  | cons {v : V} {vs : List V} {d : PyData} {ds : List PyData} {f g : List Addr} : Ro G H v d f → Ros G H vs ds g → Ros G H (v :: vs) (d :: ds) (f ++ g)
end
mutual
theorem Ro.fr {G H G' H' : Hp} (e : ∀ a xs, Rd G a (.tup xs) → Rd G' a (.tup xs)) : ∀ (d : PyData) (v : V) (f : List Addr), Ro G H v d f → (∀ a ∈ f, H' a = H a) → Ro G' H' v d f
  | .none, _, _, h, _ => by cases h; exact .non
  | .bool b, _, _, h, _ => by cases h; exact .bl b
  | .int i, _, _, h, _ => by cases h; exact .int i
  | .str x, _, _, h, _ => by cases h; exact .str x
  | .list ds, _, _, h, q => by
    cases h with
    | lst h1 h2 => exact .lst ((q _ List.mem_cons_self).trans h1) (Ros.fr e ds _ _ h2 fun a m => q a (List.mem_cons_of_mem _ m))
  | .tuple ds, _, _, h, q => by
    cases h with
    | tup h1 h2 => exact .tup (e _ _ h1) (Ros.fr e ds _ _ h2 q)
  | .dict ps, _, _, h, q => by
    cases h with
    | dct h1 h2 => exact .dct ((q _ List.mem_cons_self).trans h1) h2
theorem Ros.fr {G H G' H' : Hp} (e : ∀ a xs, Rd G a (.tup xs) → Rd G' a (.tup xs)) : ∀ (ds : List PyData) (vs : List V) (f : List Addr), Ros G H vs ds f → (∀ a ∈ f, H' a = H a) → Ros G' H' vs ds f
  | [], _, _, h, _ => by cases h; exact .nil
  | d :: ds, _, _, h, q => by
    cases h with
    | cons h1 h2 => exact .cons (Ro.fr e d _ _ h1 fun a m => q a (List.mem_append_left _ m)) (Ros.fr e ds _ _ h2 fun a m => q a (List.mem_append_right _ m))
end
mutual
/-- seen as data: the owned ones lie in G', too -/
theorem Ro.rp {G H G' : Hp} (e : ∀ a xs, Rd G a (.tup xs) → Rd G' a (.tup xs)) : ∀ (d : PyData) (v : V) (f : List Addr), Ro G H v d f → (∀ a ∈ f, G' a = H a) → Rp G' v d
  | .none, _, _, h, _ => by cases h; exact .non
  | .bool b, _, _, h, _ => by cases h; exact .bl b
  | .int i, _, _, h, _ => by cases h; exact .int i
  | .str x, _, _, h, _ => by cases h; exact .str x
  | .list ds, _, _, h, q => by
    cases h with
    | lst h1 h2 => exact .lst (.inl ((q _ List.mem_cons_self).trans h1)) (Ros.rp e ds _ _ h2 fun a m => q a (List.mem_cons_of_mem _ m))
  | .tuple ds, _, _, h, q => by
    cases h with
    | tup h1 h2 => exact .tup (e _ _ h1) (Ros.rp e ds _ _ h2 q)
  | .dict ps, _, _, h, q => by
    cases h with
    | dct h1 h2 => exact .dct ((q _ List.mem_cons_self).trans h1) h2
theorem Ros.rp {G H G' : Hp} (e : ∀ a xs, Rd G a (.tup xs) → Rd G' a (.tup xs)) : ∀ (ds : List PyData) (vs : List V) (f : List Addr), Ros G H vs ds f → (∀ a ∈ f, G' a = H a) → Rps G' vs ds
  | [], _, _, h, _ => by cases h; exact .nil
  | d :: ds, _, _, h, q => by
    cases h with
    | cons h1 h2 => exact .cons (Ro.rp e d _ _ h1 fun a m => q a (List.mem_append_left _ m)) (Ros.rp e ds _ _ h2 fun a m => q a (List.mem_append_right _ m))
end
/-- a list or a dict -/
def Mt (H : Hp) (a : Addr) : Prop := (∃ xs, H a = some (.lst xs)) ∨ ∃ kvs, H a = some (.dK kvs)
mutual
theorem Ro.mt {G H : Hp} : ∀ (d : PyData) (v : V) (f : List Addr), Ro G H v d f → ∀ a ∈ f, Mt H a
  | .none, _, _, h, a, m => by cases h; cases m
  | .bool b, _, _, h, a, m => by cases h; cases m
  | .int i, _, _, h, a, m => by cases h; cases m
  | .str x, _, _, h, a, m => by cases h; cases m
  | .list ds, _, _, h, a, m => by
    cases h with
    | lst h1 h2 =>
      rcases List.mem_cons.mp m with rfl | m
      · exact .inl ⟨_, h1⟩
      · exact Ros.mt ds _ _ h2 a m
  | .tuple ds, _, _, h, a, m => by
    cases h with
    | tup h1 h2 => exact Ros.mt ds _ _ h2 a m
  | .dict ps, _, _, h, a, m => by
    cases h with
    | dct h1 h2 =>
      rcases List.mem_cons.mp m with rfl | m
      · exact .inr ⟨_, h1⟩
      · cases m
theorem Ros.mt {G H : Hp} : ∀ (ds : List PyData) (vs : List V) (f : List Addr), Ros G H vs ds f → ∀ a ∈ f, Mt H a
  | [], _, _, h, a, m => by cases h; cases m
  | d :: ds, _, _, h, a, m => by
    cases h with
    | cons h1 h2 =>
      rcases List.mem_append.mp m with m | m
      · exact Ro.mt d _ _ h1 a m
      · exact Ros.mt ds _ _ h2 a m
end
mutual
/-- no list, no dict in it -/
def noL : PyData → Bool
  | .list _ => false
  | .dict _ => false
  | .tuple ds => noLs ds
  | _ => true
def noLs : List PyData → Bool
  | [] => true
  | d :: ds => noL d && noLs ds
end
mutual
theorem Rp.ro {G H : Hp} : ∀ (d : PyData) (v : V), noL d = true → Rp G v d → Ro G H v d []
  | .none, _, _, h => by cases h; exact .non
  | .bool b, _, _, h => by cases h; exact .bl b
  | .int i, _, _, h => by cases h; exact .int i
  | .str x, _, _, h => by cases h; exact .str x
  | .list ds, _, c, h => by simp [noL] at c
  | .tuple ds, _, c, h => by
    cases h with
    | tup h1 h2 => exact .tup h1 (Rps.ros ds _ (by simpa only [noL] using c) h2)
  | .dict ps, _, c, h => by simp [noL] at c
theorem Rps.ros {G H : Hp} : ∀ (ds : List PyData) (vs : List V), noLs ds = true → Rps G vs ds → Ros G H vs ds []
  | [], _, _, h => by cases h; exact .nil
  | d :: ds, _, c, h => by
    cases h with
    | cons h1 h2 =>
      have c' : noL d = true ∧ noLs ds = true := by simpa only [noLs, Bool.and_eq_true] using c
      exact Ros.cons (f := []) (g := []) (Rp.ro d _ c'.1 h1) (Rps.ros ds _ c'.2 h2)
end
theorem Rp.noL {G G' : Hp} {v : V} {d : PyData} (h : Rp G v d) (c : noL d = true) (e : ∀ a xs, Rd G a (.tup xs) → Rd G' a (.tup xs)) : Rp G' v d :=
  Ro.rp e d v [] (Rp.ro (H := G) d v c h) fun _ m => by cases m
theorem Rps.noL {G G' : Hp} {v : List V} {d : List PyData} (h : Rps G v d) (c : noLs d = true) (e : ∀ a xs, Rd G a (.tup xs) → Rd G' a (.tup xs)) : Rps G' v d :=
  Ros.rp e d v [] (Rps.ros (H := G) d v c h) fun _ m => by cases m

theorem Ros.len {G H : Hp} : ∀ (ds : List PyData) (vs : List V) (f : List Addr), Ros G H vs ds f → vs.length = ds.length
  | [], _, _, h => by cases h; rfl
  | d :: ds, _, _, h => by
    cases h with
    | cons h1 h2 => exact congrArg (· + 1) (Ros.len ds _ _ h2)
section
open Classical
/-- new ones are handed over -/
theorem Stp.giveL {G H G' H' : Hp} (s : Stp G H G' H') (f : List Addr) (hf : ∀ a ∈ f, H a = none ∧ G' a = none) :
    Stp G H (fun a => if a ∈ f then H' a else G' a) H' ∧ (∀ a xs, Rd G' a (.tup xs) → Rd (fun a => if a ∈ f then H' a else G' a) a (.tup xs)) ∧ ∀ a ∈ f, (if a ∈ f then H' a else G' a) = H' a := by
  have e : Ex G' (fun a => if a ∈ f then H' a else G' a) := fun a o q => by
    by_cases m : a ∈ f
    · rw [(hf a m).2] at q; cases q
    · show (if a ∈ f then H' a else G' a) = _
      rw [if_neg m]; exact q
  refine ⟨⟨s.g.tr e, s.h, fun a o q => ?_, fun a o q q' => ?_⟩, fun a xs r => e.rd r, fun a m => if_pos m⟩
  · by_cases m : a ∈ f
    · have q' : (if a ∈ f then H' a else G' a) = some o := q
      rw [if_pos m] at q'; exact q'
    · have q' : (if a ∈ f then H' a else G' a) = some o := q
      rw [if_neg m] at q'; exact s.gh a o q'
  · show (if a ∈ f then H' a else G' a) = none
    by_cases m : a ∈ f
    · rw [(hf a m).1] at q; cases q
    · rw [if_neg m]; exact s.nw a o q q'
end
/-! ### slots -/
inductive Sl where
  | un
  | d (x : PyData)
  | ex (a : Addr)
  | own (ds : List PyData)
  | ownD (kvs : List (Str × Int))
  | ow (x : PyData)
  | dl (kvs : List (Str × Int))
  | sn (x : PyData)
  | oa (a : Addr) (ds : List PyData)
  | ov (v : V) (x : PyData)
/-- f: what is one's own -/
def SlOk (G H : Hp) (o : Option (Option V)) (f : List Addr) : Sl → Prop
  | .un => True
  | .d x => ∃ v, o = some (some v) ∧ Rp G v x
  | .ex a => o = some (some (.ref a))
  | .own ds => ∃ a vs, o = some (some (.ref a)) ∧ a ∈ f ∧ H a = some (.lst vs) ∧ Rps G vs ds
  | .ownD kvs => ∃ a, o = some (some (.ref a)) ∧ a ∈ f ∧ H a = some (.dK (kvs.map kvI))
  | .ow x => ∃ v g, o = some (some v) ∧ Ro G H v x g ∧ g.Nodup ∧ ∀ a ∈ g, a ∈ f
  | .dl kvs => ∃ a, o = some (some (.ref a)) ∧ Rd G a (.dK (kvs.map kvI))
  | .sn x => ∃ p a vx, o = some (some (.ref p)) ∧ Rd G p (.tup [.ref a, vx]) ∧ Rp G vx x
  | .oa a ds => ∃ vs, o = some (some (.ref a)) ∧ a ∈ f ∧ H a = some (.lst vs) ∧ Rps G vs ds
  | .ov v x => ∃ g, o = some (some v) ∧ Ro G H v x g ∧ g.Nodup ∧ ∀ a ∈ g, a ∈ f
/-- where one began: the immutable heap that a loop holds on to; the two heaps at the def's entry (less what the def may change of it) -/
structure Bs where
  gb : Hp
  g0 : Hp
  h0 : Hp
structure OkF (B : Bs) (G : Hp) (σ : St) (H : Hp) (Γ : List Sl) (F : Nat → List Addr) : Prop where
  eb : Ex B.gb G
  st : Stp B.g0 B.h0 G H
  len : σ.length = Γ.length
  sl : ∀ (i : Nat) (s : Sl), Γ[i]? = some s → SlOk G H σ[i]? (F i) s
  fr : ∀ (i : Nat) (a : Addr), a ∈ F i → B.h0 a = none ∧ G a = none ∧ Mt H a
  ap : ∀ (i j : Nat) (a : Addr), i ≠ j → a ∈ F i → a ∈ F j → False
def Ok (B : Bs) (G : Hp) (σ : St) (H : Hp) (Γ : List Sl) : Prop := ∃ F, OkF B G σ H Γ F
section
variable {B : Bs} {G G' H H' : Hp} {σ : St} {Γ : List Sl} {F : Nat → List Addr}
theorem Mt.some {a : Addr} (h : Mt H a) : ∃ o, H a = some o := by
  rcases h with ⟨_, h⟩ | ⟨_, h⟩ <;> exact ⟨_, h⟩
theorem Mt.of {a : Addr} (h : Mt H a) (e : H' a = H a) : Mt H' a := by
  rcases h with ⟨_, h⟩ | ⟨_, h⟩
  · exact .inl ⟨_, e.trans h⟩
  · exact .inr ⟨_, e.trans h⟩
theorem Mt.ex {a : Addr} (h : Mt H a) (e : Ex H H') : H' a = H a := by
  obtain ⟨o, q⟩ := h.some
  rw [q]; exact e a o q
theorem exTup (e : Ex G G') : ∀ a xs, Rd G a (.tup xs) → Rd G' a (.tup xs) := fun _ _ h => e.rd h
/-- the frame rule -/
theorem SlOk.fr {o : Option (Option V)} {f : List Addr} {s : Sl} (h : SlOk G H o f s) (e : Ex G G') (q : ∀ a ∈ f, H' a = H a) : SlOk G' H' o f s := by
  cases s with
  | un => trivial
  | d x => obtain ⟨v, e1, r⟩ := h; exact ⟨v, e1, r.up e⟩
  | ex a => exact h
  | own ds => obtain ⟨a, vs, e1, m, hh, r⟩ := h; exact ⟨a, vs, e1, m, (q a m).trans hh, r.up e⟩
  | ownD kvs => obtain ⟨a, e1, m, hh⟩ := h; exact ⟨a, e1, m, (q a m).trans hh⟩
  | ow x => obtain ⟨v, g, e1, r, nd, m⟩ := h; exact ⟨v, g, e1, r.fr (exTup e) _ _ _ fun a ha => q a (m a ha), nd, m⟩
  | dl kvs => obtain ⟨a, e1, r⟩ := h; exact ⟨a, e1, e.rd r⟩
  | sn x => obtain ⟨p, a, vx, e1, r, rx⟩ := h; exact ⟨p, a, vx, e1, e.rd r, rx.up e⟩
  | oa a ds => obtain ⟨vs, e1, m, hh, r⟩ := h; exact ⟨vs, e1, m, (q a m).trans hh, r.up e⟩
  | ov v x => obtain ⟨g, e1, r, nd, m⟩ := h; exact ⟨g, e1, r.fr (exTup e) _ _ _ fun a ha => q a (m a ha), nd, m⟩
theorem OkF.step (k : OkF B G σ H Γ F) (p : Stp G H G' H') : OkF B G' σ H' Γ F :=
  ⟨k.eb.tr p.g, k.st.tr p, k.len, fun i s e => (k.sl i s e).fr p.g fun a m => (k.fr i a m).2.2.ex p.h, fun i a m => by
    obtain ⟨h0, hg, hm⟩ := k.fr i a m
    obtain ⟨o, q⟩ := hm.some
    exact ⟨h0, p.nw a o q hg, hm.of (hm.ex p.h)⟩, k.ap⟩
theorem Ok.step (k : Ok B G σ H Γ) (p : Stp G H G' H') : Ok B G' σ H' Γ := let ⟨F, k⟩ := k; ⟨F, k.step p⟩
theorem Ok.st (k : Ok B G σ H Γ) : Stp B.g0 B.h0 G H := let ⟨_, k⟩ := k; k.st
theorem Ok.eb (k : Ok B G σ H Γ) : Ex B.gb G := let ⟨_, k⟩ := k; k.eb
theorem Ok.len (k : Ok B G σ H Γ) : σ.length = Γ.length := let ⟨_, k⟩ := k; k.len
theorem Ok.gh (k : Ok B G σ H Γ) : Ex G H := k.st.gh
theorem Ok.reb (k : Ok B G σ H Γ) {gb : Hp} (e : Ex gb G) : Ok ⟨gb, B.g0, B.h0⟩ G σ H Γ := by
  obtain ⟨F, k⟩ := k
  exact ⟨F, e, k.st, k.len, k.sl, k.fr, k.ap⟩
theorem Ok.dat (k : Ok B G σ H Γ) {i : Nat} {x : PyData} (e : Γ[i]? = some (.d x)) : ∃ v, σ[i]? = some (some v) ∧ Rp G v x := by
  obtain ⟨F, k⟩ := k
  exact k.sl i _ e
theorem Ok.exc (k : Ok B G σ H Γ) {i : Nat} {a : Addr} (e : Γ[i]? = some (.ex a)) : σ[i]? = some (some (.ref a)) := by
  obtain ⟨F, k⟩ := k
  exact k.sl i _ e
theorem Ok.own (k : Ok B G σ H Γ) {i : Nat} {ds : List PyData} (e : Γ[i]? = some (.own ds)) : ∃ a vs, σ[i]? = some (some (.ref a)) ∧ B.h0 a = none ∧ G a = none ∧ H a = some (.lst vs) ∧ Rps G vs ds := by
  obtain ⟨F, k⟩ := k
  obtain ⟨a, vs, e1, m, hh, r⟩ := k.sl i _ e
  obtain ⟨h0, hg, _⟩ := k.fr i a m
  exact ⟨a, vs, e1, h0, hg, hh, r⟩
theorem Ok.ownD (k : Ok B G σ H Γ) {i : Nat} {kvs : List (Str × Int)} (e : Γ[i]? = some (.ownD kvs)) : ∃ a, σ[i]? = some (some (.ref a)) ∧ B.h0 a = none ∧ G a = none ∧ H a = some (.dK (kvs.map kvI)) := by
  obtain ⟨F, k⟩ := k
  obtain ⟨a, e1, m, hh⟩ := k.sl i _ e
  obtain ⟨h0, hg, _⟩ := k.fr i a m
  exact ⟨a, e1, h0, hg, hh⟩
/-- a slot is stored: f, new ones of its own, or none -/
theorem OkF.setF (k : OkF B G σ H Γ F) (i : Nat) {v : Option V} {s : Sl} {f : List Addr} (hs : SlOk G H (some v) f s) (hf : ∀ a ∈ f, B.h0 a = none ∧ G a = none ∧ Mt H a) (hn : ∀ a ∈ f, ∀ j, j ≠ i → a ∉ F j) :
    OkF B G (σ.set i v) H (Γ.set i s) (fun j => if j = i then f else F j) := by
  refine ⟨k.eb, k.st, by rw [List.length_set, List.length_set]; exact k.len, fun j t e => ?_, fun j a m => ?_, fun j l a hne m1 m2 => ?_⟩
  · by_cases hj : i = j
    · subst hj
      by_cases hi : i < Γ.length
      · rw [List.getElem?_set_self hi] at e
        cases e
        rw [List.getElem?_set_self (by rw [k.len]; exact hi), if_pos rfl]
        exact hs
      · rw [List.getElem?_eq_none (by rw [List.length_set]; omega)] at e
        cases e
    · rw [List.getElem?_set_ne hj] at e ⊢
      rw [if_neg (Ne.symm hj)]
      exact k.sl j t e
  · by_cases hj : j = i
    · rw [if_pos hj] at m; exact hf a m
    · rw [if_neg hj] at m; exact k.fr j a m
  · by_cases hj : j = i
    · rw [if_pos hj] at m1
      rw [if_neg (fun z => hne (hj.trans z.symm))] at m2
      exact hn a m1 l (fun z => hne (hj.trans z.symm)) m2
    · rw [if_neg hj] at m1
      by_cases hl : l = i
      · rw [if_pos hl] at m2; exact hn a m2 j hj m1
      · rw [if_neg hl] at m2; exact k.ap j l a hne m1 m2
theorem Ok.setD (k : Ok B G σ H Γ) (i : Nat) {v : V} {x : PyData} (r : Rp G v x) : Ok B G (σ.set i (some v)) H (Γ.set i (.d x)) :=
  let ⟨_, k⟩ := k
  ⟨_, k.setF i (f := []) ⟨v, rfl, r⟩ (fun _ m => by cases m) (fun _ m => by cases m)⟩
theorem Ok.setU (k : Ok B G σ H Γ) (i : Nat) (v : Option V) : Ok B G (σ.set i v) H (Γ.set i .un) :=
  let ⟨_, k⟩ := k
  ⟨_, k.setF i (f := []) trivial (fun _ m => by cases m) (fun _ m => by cases m)⟩
theorem Ok.setE (k : Ok B G σ H Γ) (i : Nat) (a : Addr) : Ok B G (σ.set i (some (.ref a))) H (Γ.set i (.ex a)) :=
  let ⟨_, k⟩ := k
  ⟨_, k.setF i (f := []) rfl (fun _ m => by cases m) (fun _ m => by cases m)⟩
/-- .. new ones, made by a step -/
theorem Ok.setF (k : Ok B G σ H Γ) (p : Stp G H G' H') (i : Nat) {v : V} {s : Sl} {f : List Addr} (hs : SlOk G' H' (some (some v)) f s) (hf : ∀ a ∈ f, H a = none ∧ G' a = none ∧ Mt H' a) : Ok B G' (σ.set i (some v)) H' (Γ.set i s) := by
  obtain ⟨F, k⟩ := k
  refine ⟨_, (k.step p).setF i hs (fun a m => ⟨k.st.h.no (hf a m).1, (hf a m).2⟩) fun a m j _ mj => ?_⟩
  obtain ⟨o, q⟩ := (k.fr j a mj).2.2.some
  rw [(hf a m).1] at q
  cases q
/-- what is known less -/
theorem Ok.weak (k : Ok B G σ H Γ) {Γ' : List Sl} (hl : Γ'.length = Γ.length) (h : ∀ (i : Nat) (s : Sl), Γ'[i]? = some s → s = .un ∨ Γ[i]? = some s) : Ok B G σ H Γ' := by
  obtain ⟨F, k⟩ := k
  refine ⟨F, k.eb, k.st, k.len.trans hl.symm, fun i s e => ?_, k.fr, k.ap⟩
  rcases h i s e with q | q
  · rw [q]; trivial
  · exact k.sl i s q
/-- what is one's own at i is changed: f, what is one's own then -/
theorem OkF.mut (k : OkF B G σ H Γ F) {i : Nat} {H' : Hp} {s' : Sl} (hc : ∀ b, b ∉ F i → H' b = H b) (hg : ∀ b ∈ F i, Mt H' b) (hs : SlOk G H' σ[i]? (F i) s') : OkF B G σ H' (Γ.set i s') F := by
  have hne : ∀ {b : Addr}, B.h0 b ≠ none → b ∉ F i := fun hb m => hb (k.fr i _ m).1
  have hng : ∀ {b : Addr}, G b ≠ none → b ∉ F i := fun hb m => hb (k.fr i _ m).2.1
  refine ⟨k.eb, ⟨k.st.g, fun b u q => ?_, fun b u q => ?_, k.st.nw⟩, by rw [List.length_set]; exact k.len, fun j t et => ?_, fun j a m => ?_, k.ap⟩
  · rw [hc b (hne (by rw [q]; exact fun z => by cases z))]; exact k.st.h b u q
  · rw [hc b (hng (by rw [q]; exact fun z => by cases z))]; exact k.st.gh b u q
  · by_cases hj : i = j
    · subst hj
      have hi : i < Γ.length := by
        have := (List.getElem?_eq_some_iff.mp et).1
        rw [List.length_set] at this; exact this
      rw [List.getElem?_set_self hi] at et
      cases et
      exact hs
    · rw [List.getElem?_set_ne hj] at et
      exact (k.sl j t et).fr (Ex.rfl' G) fun a m => hc a fun z => k.ap i j a hj z m
  · by_cases hj : i = j
    · subst hj
      exact ⟨(k.fr i a m).1, (k.fr i a m).2.1, hg a m⟩
    · exact ⟨(k.fr j a m).1, (k.fr j a m).2.1, (k.fr j a m).2.2.of (hc a fun z => k.ap i j a hj z m)⟩
/-- an owned list is handed over for good -/
theorem Ok.freeze (k : Ok B G σ H Γ) {i : Nat} {ds : List PyData} (e : Γ[i]? = some (.own ds)) : ∃ G', Ex G G' ∧ Ok B G' σ H (Γ.set i (.d (.list ds))) := by
  obtain ⟨F, k⟩ := k
  obtain ⟨a, vs, e1, m, hh, r⟩ := k.sl i _ e
  obtain ⟨h0, hg, _⟩ := k.fr i a m
  have st := k.st.give h0 hg hh
  have eg : Ex G (upd G a (.lst vs)) := Ex.new hg
  refine ⟨upd G a (.lst vs), eg, fun j => if j = i then [] else F j, k.eb.tr eg, st, by rw [List.length_set]; exact k.len, fun j t et => ?_, fun j b mb => ?_, fun j l b hne m1 m2 => ?_⟩
  · by_cases hj : i = j
    · subst hj
      have hi : i < Γ.length := (List.getElem?_eq_some_iff.mp e).1
      rw [List.getElem?_set_self hi] at et
      cases et
      exact ⟨.ref a, e1, .lst (.inl upd_same) (r.up eg)⟩
    · rw [List.getElem?_set_ne hj] at et
      rw [if_neg (Ne.symm hj)]
      exact (k.sl j t et).fr eg fun _ _ => rfl
  · by_cases hj : j = i
    · rw [if_pos hj] at mb; cases mb
    · rw [if_neg hj] at mb
      obtain ⟨b0, bg, bm⟩ := k.fr j b mb
      exact ⟨b0, by rw [upd_ne (fun z => by subst z; exact k.ap i j _ (Ne.symm hj) m mb)]; exact bg, bm⟩
  · by_cases hj : j = i
    · rw [if_pos hj] at m1; cases m1
    · rw [if_neg hj] at m1
      by_cases hl : l = i
      · rw [if_pos hl] at m2; cases m2
      · rw [if_neg hl] at m2; exact k.ap j l b hne m1 m2
end
end Ck

namespace Ck
open PySem PySem.Spec L2

/-! ### what evaluates to what -/
def Ev (te : TE) (Γ : List Sl) (d : PyData) : Prop := ∀ (B : Bs) (G : Hp) (σ : L2.St) (H : Hp), Ok B G σ H Γ → ∀ Q : VK, (∀ v G' H', Stp G H G' H' → Rp G' v d → Q v H') → te σ H Q
/-- a new list, not handed over yet -/
def EvN (te : TE) (Γ : List Sl) (ds : List PyData) : Prop := ∀ (B : Bs) (G : Hp) (σ : L2.St) (H : Hp), Ok B G σ H Γ → ∀ Q : VK, (∀ a vs G' H', Stp G H G' H' → H a = none → G' a = none → H' a = some (.lst vs) → Rps G' vs ds → Q (.ref a) H') → te σ H Q
def EvA (ta : TA) (Γ : List Sl) (ds : List PyData) : Prop := ∀ (B : Bs) (G : Hp) (σ : L2.St) (H : Hp), Ok B G σ H Γ → ∀ Q : List V → Hp → Prop, (∀ vs G' H', Stp G H G' H' → Rps G' vs ds → Q vs H') → ta σ H Q
def EvT (tt : TT) (Γ : List Sl) (b : Bool) : Prop := ∀ (B : Bs) (G : Hp) (σ : L2.St) (H : Hp), Ok B G σ H Γ → ∀ Q : Bool → Hp → Prop, (∀ G' H', Stp G H G' H' → Q b H') → tt σ H Q
def EvO (to : TO) (Γ : List Sl) (o : Option Int) : Prop := ∀ (B : Bs) (G : Hp) (σ : L2.St) (H : Hp), Ok B G σ H Γ → ∀ Q : Option Int → Hp → Prop, (∀ G' H', Stp G H G' H' → Q o H') → to σ H Q
/-- operations by their data -/
def RvD (r : R2) (x y z : PyData) : Prop := ∀ (G H : Hp) (v u : V), Ex G H → Rp G v x → Rp G u y → ∀ Q : VK, (∀ w G' H', Stp G H G' H' → Rp G' w z → Q w H') → r v u H Q
def RvN (r : R2) (x y : PyData) (ds : List PyData) : Prop := ∀ (G H : Hp) (v u : V), Ex G H → Rp G v x → Rp G u y → ∀ Q : VK, (∀ a vs G' H', Stp G H G' H' → H a = none → G' a = none → H' a = some (.lst vs) → Rps G' vs ds → Q (.ref a) H') → r v u H Q
def RuD (r : V → Hp → VK → Prop) (x z : PyData) : Prop := ∀ (G H : Hp) (v : V), Ex G H → Rp G v x → ∀ Q : VK, (∀ w G' H', Stp G H G' H' → Rp G' w z → Q w H') → r v H Q
def RcD (r : List V → Hp → VK → Prop) (xs : List PyData) (z : PyData) : Prop := ∀ (G H : Hp) (vs : List V), Ex G H → Rps G vs xs → ∀ Q : VK, (∀ w G' H', Stp G H G' H' → Rp G' w z → Q w H') → r vs H Q
def RcN (r : List V → Hp → VK → Prop) (xs : List PyData) (ds : List PyData) : Prop := ∀ (G H : Hp) (vs : List V), Ex G H → Rps G vs xs → ∀ Q : VK, (∀ a vs G' H', Stp G H G' H' → H a = none → G' a = none → H' a = some (.lst vs) → Rps G' vs ds → Q (.ref a) H') → r vs H Q
def RmD (T : String) (r : V → List V → Hp → VK → Prop) (x : PyData) (xs : List PyData) (z : PyData) : Prop := ∀ (K : PySem.W.Frag) (G H : Hp) (v : V) (vs : List V), Ex G H → Rp G v x → (∀ H1 : Hp, Ex G H1 → tyV K T v H1) ∧ (Rps G vs xs → ∀ Q : VK, (∀ w G' H', Stp G H G' H' → Rp G' w z → Q w H') → r v vs H Q)
def RsD (r : V → Option Int → Option Int → Hp → VK → Prop) (x : PyData) (lo hi : Option Int) (z : PyData) : Prop := ∀ (G H : Hp) (v : V), Ex G H → Rp G v x → ∀ Q : VK, (∀ w G' H', Stp G H G' H' → Rp G' w z → Q w H') → r v lo hi H Q
def RsN (r : V → Option Int → Option Int → Hp → VK → Prop) (x : PyData) (lo hi : Option Int) (ds : List PyData) : Prop := ∀ (G H : Hp) (v : V), Ex G H → Rp G v x → ∀ Q : VK, (∀ a vs G' H', Stp G H G' H' → H a = none → G' a = none → H' a = some (.lst vs) → Rps G' vs ds → Q (.ref a) H') → r v lo hi H Q

section
variable {K : PySem.W.Frag} {Γ : List Sl} {ta tb te : TE} {t u : TT} {d x y z : PyData} {ds xs ys : List PyData} {b c : Bool} {i : Nat} {r : R2}
theorem EvN.ev (h : EvN te Γ ds) : Ev te Γ (.list ds) := fun B G σ H ok Q q => h B G σ H ok Q fun a vs G' H' s h0 hg hh rr =>
  q (.ref a) _ H' (s.give h0 hg hh) (.lst (.inl upd_same) (rr.up (Ex.new hg)))
theorem ev_var (h : Γ[i]? = some (.d d)) : Ev (tVar i) Γ d := fun B G σ H ok Q q => by
  obtain ⟨v, e, r⟩ := ok.dat h
  exact ⟨v, e, q v G H (Stp.rfl' ok.gh) r⟩
theorem ev_int {n : Int} : Ev (tC (.int n)) Γ (.int n) := fun B G σ H ok Q q => q _ G H (Stp.rfl' ok.gh) (.int n)
theorem ev_str {n : Str} : Ev (tC (.str n)) Γ (.str n) := fun B G σ H ok Q q => q _ G H (Stp.rfl' ok.gh) (.str n)
theorem ev_bl {n : Bool} : Ev (tC (.bl n)) Γ (.bool n) := fun B G σ H ok Q q => q _ G H (Stp.rfl' ok.gh) (.bl n)
theorem ev_non : Ev (tC .non) Γ .none := fun B G σ H ok Q q => q _ G H (Stp.rfl' ok.gh) .non
theorem ev_is {d' : PyData} (h : Ev te Γ d) (e : d = d') : Ev te Γ d' := e ▸ h
theorem ev_op (ha : Ev ta Γ x) (hb : Ev tb Γ y) (hr : RvD r x y z) : Ev (tOp r ta tb) Γ z := fun B G σ H ok Q q =>
  ha B G σ H ok _ fun v G1 H1 s1 r1 => hb B G1 σ H1 (ok.step s1) _ fun u G2 H2 s2 r2 => hr G2 H2 v u s2.gh (r1.up s2.g) r2 Q fun w G3 H3 s3 r3 => q w G3 H3 ((s1.tr s2).tr s3) r3
theorem evN_op (ha : Ev ta Γ x) (hb : Ev tb Γ y) (hr : RvN r x y ds) : EvN (tOp r ta tb) Γ ds := fun B G σ H ok Q q =>
  ha B G σ H ok _ fun v G1 H1 s1 r1 => hb B G1 σ H1 (ok.step s1) _ fun u G2 H2 s2 r2 => hr G2 H2 v u s2.gh (r1.up s2.g) r2 Q fun a vs G3 H3 s3 h0 hg hh r3 =>
    q a vs G3 H3 ((s1.tr s2).tr s3) ((s1.h.tr s2.h).no h0) hg hh r3
theorem ev_un {r : V → Hp → VK → Prop} (ha : Ev ta Γ x) (hr : RuD r x z) : Ev (tUn r ta) Γ z := fun B G σ H ok Q q =>
  ha B G σ H ok _ fun v G1 H1 s1 r1 => hr G1 H1 v s1.gh r1 Q fun w G3 H3 s3 r3 => q w G3 H3 (s1.tr s3) r3
theorem ea_nil : EvA tNil Γ [] := fun B G σ H ok Q q => q [] G H (Stp.rfl' ok.gh) .nil
theorem ea_cons {tr : TA} (ha : Ev ta Γ x) (hr : EvA tr Γ xs) : EvA (tCons ta tr) Γ (x :: xs) := fun B G σ H ok Q q =>
  ha B G σ H ok _ fun v G1 H1 s1 r1 => hr B G1 σ H1 (ok.step s1) _ fun vs G2 H2 s2 r2 => q (v :: vs) G2 H2 (s1.tr s2) (.cons (r1.up s2.g) r2)
theorem ev_tup {t : TA} (h : EvA t Γ xs) (hl : xs.length ≤ sizeLine) : Ev (tTup t) Γ (.tuple xs) := fun B G σ H ok Q q =>
  h B G σ H ok _ fun vs G1 H1 s1 r1 => ⟨by rw [r1.length]; exact hl, fun p hp => q (.ref p) _ _ (s1.tr (Stp.new s1.gh hp)) (.tup (.inl upd_same) (r1.up (Ex.new (s1.gh.no hp))))⟩
theorem evN_lst {t : TA} (h : EvA t Γ xs) (hl : xs.length ≤ sizeLine) : EvN (tLst t) Γ xs := fun B G σ H ok Q q =>
  h B G σ H ok _ fun vs G1 H1 s1 r1 => ⟨by rw [r1.length]; exact hl, fun p hp => q p vs G1 _ (s1.tr (Stp.newH s1.gh hp)) (s1.h.no hp) (s1.gh.no hp) upd_same r1⟩
theorem ev_cb {t : TA} {r : List V → Hp → VK → Prop} (h : EvA t Γ xs) (hr : RcD r xs z) : Ev (tCB r t) Γ z := fun B G σ H ok Q q =>
  h B G σ H ok _ fun vs G1 H1 s1 r1 => hr G1 H1 vs s1.gh r1 Q fun w G3 H3 s3 r3 => q w G3 H3 (s1.tr s3) r3
theorem evN_cb {t : TA} {r : List V → Hp → VK → Prop} (h : EvA t Γ xs) (hr : RcN r xs ds) : EvN (tCB r t) Γ ds := fun B G σ H ok Q q =>
  h B G σ H ok _ fun vs G1 H1 s1 r1 => hr G1 H1 vs s1.gh r1 Q fun a ws G3 H3 s3 h0 hg hh r3 => q a ws G3 H3 (s1.tr s3) (s1.h.no h0) hg hh r3
theorem ev_bm {t : TA} {T : String} {r : V → List V → Hp → VK → Prop} (ho : Ev te Γ x) (h : EvA t Γ xs) (hr : RmD T r x xs z) : Ev (tBM K T r te t) Γ z := fun B G σ H ok Q q =>
  ho B G σ H ok _ fun v G1 H1 s1 r1 => ⟨(hr K G1 H1 v [] s1.gh r1).1 H1 s1.gh, h B G1 σ H1 (ok.step s1) _ fun vs G2 H2 s2 r2 => (hr K G2 H2 v vs s2.gh (r1.up s2.g)).2 r2 Q fun w G3 H3 s3 r3 => q w G3 H3 ((s1.tr s2).tr s3) r3⟩
/-! slices -/
theorem eo_none : EvO tNoPart Γ none := fun B G σ H ok Q q => q G H (Stp.rfl' ok.gh)
theorem eo_some {n : Int} (h : Ev te Γ (.int n)) : EvO (tPart te) Γ (some n) := fun B G σ H ok Q q => h B G σ H ok _ fun v G1 H1 s1 r1 => by
  cases r1; exact ⟨n, rfl, q G1 H1 s1⟩
theorem ev_sl {r : V → Option Int → Option Int → Hp → VK → Prop} {tl th : TO} {lo hi : Option Int} (ha : Ev te Γ x) (h1 : EvO tl Γ lo) (h2 : EvO th Γ hi) (hr : RsD r x lo hi z) : Ev (tSl r te tl th) Γ z := fun B G σ H ok Q q =>
  ha B G σ H ok _ fun v G1 H1 s1 r1 => h1 B G1 σ H1 (ok.step s1) _ fun G2 H2 s2 => h2 B G2 σ H2 (ok.step (s1.tr s2)) _ fun G3 H3 s3 => hr G3 H3 v s3.gh (r1.up (s2.g.tr s3.g)) Q fun w G4 H4 s4 r4 => q w G4 H4 (((s1.tr s2).tr s3).tr s4) r4
theorem evN_sl {r : V → Option Int → Option Int → Hp → VK → Prop} {tl th : TO} {lo hi : Option Int} (ha : Ev te Γ x) (h1 : EvO tl Γ lo) (h2 : EvO th Γ hi) (hr : RsN r x lo hi ds) : EvN (tSl r te tl th) Γ ds := fun B G σ H ok Q q =>
  ha B G σ H ok _ fun v G1 H1 s1 r1 => h1 B G1 σ H1 (ok.step s1) _ fun G2 H2 s2 => h2 B G2 σ H2 (ok.step (s1.tr s2)) _ fun G3 H3 s3 => hr G3 H3 v s3.gh (r1.up (s2.g.tr s3.g)) Q fun a vs G4 H4 s4 h0 hg hh r4 =>
    q a vs G4 H4 (((s1.tr s2).tr s3).tr s4) (((s1.h.tr s2.h).tr s3.h).no h0) hg hh r4
/-! tests -/
theorem et_test (h : Ev te Γ (.bool b)) : EvT (tTest te) Γ b := fun B G σ H ok Q q => h B G σ H ok _ fun v G1 H1 s1 r1 => by cases r1; exact ⟨b, rfl, q G1 H1 s1⟩
theorem et_B (h : Ev te Γ (.bool b)) : EvT (tB te) Γ b := fun B G σ H ok Q q => h B G σ H ok _ fun v G1 H1 s1 r1 => by cases r1; exact ⟨b, rfl, q G1 H1 s1⟩
theorem et_is (h : EvT t Γ b) (e : b = c) : EvT t Γ c := e ▸ h
theorem et_yes : EvT tYes Γ true := fun B G σ H ok Q q => q G H (Stp.rfl' ok.gh)
theorem et_and (h1 : EvT t Γ b) (h2 : b = true → EvT u Γ c) : EvT (tAnd t u) Γ (b && c) := fun B G σ H ok Q q => h1 B G σ H ok _ fun G1 H1 s1 => by
  cases b with
  | true => exact h2 rfl B G1 σ H1 (ok.step s1) Q fun G2 H2 s2 => q G2 H2 (s1.tr s2)
  | false => exact q G1 H1 s1
theorem et_or (h1 : EvT t Γ b) (h2 : b = false → EvT u Γ c) : EvT (tOr t u) Γ (b || c) := fun B G σ H ok Q q => h1 B G σ H ok _ fun G1 H1 s1 => by
  cases b with
  | true => exact q G1 H1 s1
  | false => exact h2 rfl B G1 σ H1 (ok.step s1) Q fun G2 H2 s2 => q G2 H2 (s1.tr s2)
theorem et_not (h1 : EvT t Γ b) : EvT (tNot t) Γ (!b) := fun B G σ H ok Q q => h1 B G σ H ok _ q
theorem ev_andV (h1 : Ev ta Γ (.bool b)) (h2 : b = true → Ev tb Γ (.bool c)) : Ev (tAndV ta tb) Γ (.bool (b && c)) := fun B G σ H ok Q q => h1 B G σ H ok _ fun v G1 H1 s1 r1 => by
  cases r1
  refine ⟨b, rfl, ?_⟩
  cases b with
  | true => exact h2 rfl B G1 σ H1 (ok.step s1) Q fun w G2 H2 s2 r2 => q w G2 H2 (s1.tr s2) r2
  | false => exact q _ G1 H1 s1 (.bl false)
theorem ev_orV (h1 : Ev ta Γ (.bool b)) (h2 : b = false → Ev tb Γ (.bool c)) : Ev (tOrV ta tb) Γ (.bool (b || c)) := fun B G σ H ok Q q => h1 B G σ H ok _ fun v G1 H1 s1 r1 => by
  cases r1
  refine ⟨b, rfl, ?_⟩
  cases b with
  | true => exact q _ G1 H1 s1 (.bl true)
  | false => exact h2 rfl B G1 σ H1 (ok.step s1) Q fun w G2 H2 s2 r2 => q w G2 H2 (s1.tr s2) r2
theorem ev_notV (h1 : Ev ta Γ (.bool b)) : Ev (tNotV ta) Γ (.bool (!b)) := fun B G σ H ok Q q => h1 B G σ H ok _ fun v G1 H1 s1 r1 => by
  cases r1
  exact ⟨b, rfl, q _ G1 H1 s1 (.bl _)⟩
end

/-! ### what is one's own, read -/
def Sl.fz : Sl → Sl
  | .own ds => .d (.list ds)
  | .ownD kvs => .d (.dict (kvs.map kvD))
  | .ow x => .d x
  | .oa _ ds => .d (.list ds)
  | .ov _ x => .d x
  | s => s
section
open Classical
/-- G with what is one's own; without -/
noncomputable def gPlus (F : Nat → List Addr) (G H : Hp) : Hp := fun a => if ∃ i, a ∈ F i then H a else G a
noncomputable def gMinus (F : Nat → List Addr) (G : Hp) : Hp := fun a => if ∃ i, a ∈ F i then none else G a
variable {B : Bs} {G H G' H' : Hp} {σ : L2.St} {Γ : List Sl} {F : Nat → List Addr}
theorem gPlus_in {i : Nat} {a : Addr} (m : a ∈ F i) : gPlus F G H a = H a := if_pos ⟨i, m⟩
theorem OkF.gPlus_ex (k : OkF B G σ H Γ F) : Ex G (gPlus F G H) := fun a o q => by
  unfold gPlus
  by_cases h : ∃ i, a ∈ F i
  · obtain ⟨i, m⟩ := h
    rw [(k.fr i a m).2.1] at q; cases q
  · rw [if_neg h]; exact q
theorem OkF.gPlus_h (k : OkF B G σ H Γ F) : Ex (gPlus F G H) H := fun a o q => by
  unfold gPlus at q
  by_cases h : ∃ i, a ∈ F i
  · rw [if_pos h] at q; exact q
  · rw [if_neg h] at q; exact k.st.gh a o q
theorem OkF.fz (k : OkF B G σ H Γ F) : Ok ⟨gPlus F G H, gPlus F G H, H⟩ (gPlus F G H) σ H (Γ.map Sl.fz) := by
  have ep := k.gPlus_ex
  refine ⟨fun _ => [], Ex.rfl' _, Stp.rfl' k.gPlus_h, by rw [List.length_map]; exact k.len, fun i s e => ?_, fun i a m => (by cases m), fun i j a _ m => (by cases m)⟩
  rw [List.getElem?_map] at e
  cases q : Γ[i]? with
  | none => rw [q] at e; cases e
  | some s' =>
    rw [q] at e
    have e' : s'.fz = s := Option.some.inj e
    subst e'
    have h := k.sl i _ q
    cases s' with
    | un => trivial
    | d x => obtain ⟨v, e, r⟩ := h; exact ⟨v, e, r.up ep⟩
    | ex a => exact h
    | own ds => obtain ⟨a, vs, e, m, hh, r⟩ := h; exact ⟨_, e, .lst (.inl ((gPlus_in m).trans hh)) (r.up ep)⟩
    | ownD kvs => obtain ⟨a, e, m, hh⟩ := h; exact ⟨_, e, .dct ((gPlus_in m).trans hh) rfl⟩
    | ow x => obtain ⟨v, g, e, r, nd, m⟩ := h; exact ⟨_, e, r.rp (exTup ep) _ _ _ fun a ha => gPlus_in (m a ha)⟩
    | dl kvs => obtain ⟨a, e, r⟩ := h; exact ⟨a, e, ep.rd r⟩
    | sn x => obtain ⟨p, a, vx, e, r, rx⟩ := h; exact ⟨p, a, vx, e, ep.rd r, rx.up ep⟩
    | oa a ds => obtain ⟨vs, e, m, hh, r⟩ := h; exact ⟨_, e, .lst (.inl ((gPlus_in m).trans hh)) (r.up ep)⟩
    | ov v x => obtain ⟨g, e, r, nd, m⟩ := h; exact ⟨_, e, r.rp (exTup ep) _ _ _ fun a ha => gPlus_in (m a ha)⟩
theorem OkF.unfz (k : OkF B G σ H Γ F) (s : Stp (gPlus F G H) H G' H') : Stp G H (gMinus F G') H' := by
  refine ⟨fun a o q => ?_, s.h, fun a o q => ?_, fun a o q q' => ?_⟩
  · unfold gMinus
    by_cases h : ∃ i, a ∈ F i
    · obtain ⟨i, m⟩ := h
      rw [(k.fr i a m).2.1] at q; cases q
    · rw [if_neg h]
      exact s.g a o (k.gPlus_ex a o q)
  · unfold gMinus at q
    by_cases h : ∃ i, a ∈ F i
    · rw [if_pos h] at q; cases q
    · rw [if_neg h] at q; exact s.gh a o q
  · unfold gMinus
    by_cases h : ∃ i, a ∈ F i
    · exact if_pos h
    · rw [if_neg h]
      refine s.nw a o q ?_
      unfold gPlus
      rw [if_neg h]; exact q'
theorem OkF.tup (k : OkF B G σ H Γ F) (s : Stp (gPlus F G H) H G' H') : ∀ a xs, Rd G' a (.tup xs) → Rd (gMinus F G') a (.tup xs) := fun a xs r => by
  have no : ¬ ∃ i, a ∈ F i := fun ⟨i, m⟩ => by
    have hm := (k.fr i a m).2.2
    obtain ⟨o, ho⟩ := hm.some
    have h1 : G' a = some o := s.g a o ((gPlus_in m).trans ho)
    rcases r with r | ⟨o2, r⟩ <;> rw [h1] at r <;> cases r <;> rcases hm with ⟨_, hm⟩ | ⟨_, hm⟩ <;> rw [ho] at hm <;> cases hm
  have e : gMinus F G' a = G' a := if_neg no
  unfold Rd
  rw [e]; exact r
theorem gMinus_none {a : Addr} (h : G' a = none) : gMinus F G' a = none := by
  unfold gMinus
  by_cases q : ∃ i, a ∈ F i
  · exact if_pos q
  · rw [if_neg q]; exact h
end
/-- a scalar -/
def Sc : PyData → Bool
  | .none => true
  | .bool _ => true
  | .int _ => true
  | .str _ => true
  | _ => false
theorem Rp.sc {G G' : Hp} {v : V} {d : PyData} (h : Rp G v d) (s : Sc d = true) : Rp G' v d := by
  cases h with
  | non => exact .non
  | bl b => exact .bl b
  | int i => exact .int i
  | str x => exact .str x
  | lst _ _ => cases s
  | tup _ _ => cases s
  | dct _ _ => cases s
theorem noL_sc {d : PyData} (s : Sc d = true) : noL d = true := by
  cases d <;> first | rfl | cases s
theorem ev_fzL {te : TE} {Γ : List Sl} {d : PyData} (h : Ev te (Γ.map Sl.fz) d) (s : noL d = true) : Ev te Γ d := fun B G σ H ok Q q => by
  obtain ⟨F, k⟩ := ok
  exact h _ _ σ H k.fz Q fun v G' H' st r => q v _ H' (k.unfz st) (r.noL s (k.tup st))
theorem ev_fz {te : TE} {Γ : List Sl} {d : PyData} (h : Ev te (Γ.map Sl.fz) d) (s : Sc d = true) : Ev te Γ d := ev_fzL h (noL_sc s)
theorem evN_fz {te : TE} {Γ : List Sl} {ds : List PyData} (h : EvN te (Γ.map Sl.fz) ds) (s : noLs ds = true) : EvN te Γ ds := fun B G σ H ok Q q => by
  obtain ⟨F, k⟩ := ok
  exact h _ _ σ H k.fz Q fun a vs G' H' st h0 hg hh r => q a vs _ H' (k.unfz st) h0 (gMinus_none hg) hh (r.noL s (k.tup st))
theorem et_fz {tt : TT} {Γ : List Sl} {b : Bool} (h : EvT tt (Γ.map Sl.fz) b) : EvT tt Γ b := fun B G σ H ok Q q => by
  obtain ⟨F, k⟩ := ok
  exact h _ _ σ H k.fz Q fun G' H' st => q _ H' (k.unfz st)

/-! ### what one may make one's own: new, or moved out of the slots S -/
def EvM (te : TE) (Γ : List Sl) (S : List Nat) (d : PyData) : Prop := ∀ (B : Bs) (G : Hp) (σ : L2.St) (H : Hp) (F : Nat → List Addr), OkF B G σ H Γ F → ∀ Q : VK,
  (∀ v f G' H', Stp G H G' H' → Ro G' H' v d f → f.Nodup → (∀ a ∈ f, G' a = none ∧ (H a = none ∨ ∃ i ∈ S, a ∈ F i)) → Q v H') → te σ H Q
def EvMs (ta : TA) (Γ : List Sl) (S : List Nat) (ds : List PyData) : Prop := ∀ (B : Bs) (G : Hp) (σ : L2.St) (H : Hp) (F : Nat → List Addr), OkF B G σ H Γ F → ∀ Q : List V → Hp → Prop,
  (∀ vs f G' H', Stp G H G' H' → Ros G' H' vs ds f → f.Nodup → (∀ a ∈ f, G' a = none ∧ (H a = none ∨ ∃ i ∈ S, a ∈ F i)) → Q vs H') → ta σ H Q
section
variable {Γ : List Sl} {ta te : TE} {tr : TA} {d : PyData} {ds : List PyData} {S S1 S2 : List Nat} {i : Nat}
theorem em_d (h : Ev te Γ d) (s : noL d = true) : EvM te Γ [] d := fun B G σ H F k Q q => h B G σ H ⟨F, k⟩ Q fun v G' H' st r => q v [] G' H' st (r.ro _ _ s) List.nodup_nil fun _ m => by cases m
theorem em_N (h : EvN te Γ ds) (s : noLs ds = true) : EvM te Γ [] (.list ds) := fun B G σ H F k Q q => h B G σ H ⟨F, k⟩ Q fun a vs G' H' st h0 hg hh r =>
  q _ [a] G' H' st (.lst hh (r.ros _ _ s)) (List.nodup_cons.mpr ⟨fun m => (by cases m), List.nodup_nil⟩) fun b m => by
    rcases List.mem_cons.mp m with rfl | m
    · exact ⟨hg, .inl h0⟩
    · cases m
theorem em_var (e : Γ[i]? = some (.ow d)) : EvM (tVar i) Γ [i] d := fun B G σ H F k Q q => by
  obtain ⟨v, g, e1, r, nd, m⟩ := k.sl i _ e
  exact ⟨v, e1, q v g G H (Stp.rfl' k.st.gh) r nd fun a ha => ⟨(k.fr i a (m a ha)).2.1, .inr ⟨i, List.mem_cons_self, m a ha⟩⟩⟩
theorem em_own (e : Γ[i]? = some (.own ds)) (s : noLs ds = true) : EvM (tVar i) Γ [i] (.list ds) := fun B G σ H F k Q q => by
  obtain ⟨a, vs, e1, m, hh, r⟩ := k.sl i _ e
  refine ⟨.ref a, e1, q _ [a] G H (Stp.rfl' k.st.gh) (.lst hh (r.ros _ _ s)) (List.nodup_cons.mpr ⟨fun m => (by cases m), List.nodup_nil⟩) fun b mb => ?_⟩
  rcases List.mem_cons.mp mb with rfl | mb
  · exact ⟨(k.fr i _ m).2.1, .inr ⟨i, List.mem_cons_self, m⟩⟩
  · cases mb
theorem em_ownD {kvs : List (Str × Int)} (e : Γ[i]? = some (.ownD kvs)) : EvM (tVar i) Γ [i] (.dict (kvs.map kvD)) := fun B G σ H F k Q q => by
  obtain ⟨a, e1, m, hh⟩ := k.sl i _ e
  refine ⟨.ref a, e1, q _ [a] G H (Stp.rfl' k.st.gh) (.dct hh rfl) (List.nodup_cons.mpr ⟨fun m => (by cases m), List.nodup_nil⟩) fun b mb => ?_⟩
  rcases List.mem_cons.mp mb with rfl | mb
  · exact ⟨(k.fr i _ m).2.1, .inr ⟨i, List.mem_cons_self, m⟩⟩
  · cases mb
theorem ems_nil : EvMs tNil Γ [] [] := fun B G σ H F k Q q => q [] [] G H (Stp.rfl' k.st.gh) .nil List.nodup_nil fun _ m => by cases m
theorem ems_cons (h : EvM ta Γ S1 d) (hr : EvMs tr Γ S2 ds) (hd : ∀ i ∈ S1, i ∉ S2) : EvMs (tCons ta tr) Γ (S1 ++ S2) (d :: ds) := fun B G σ H F k Q q =>
  h B G σ H F k _ fun v f G1 H1 s1 r1 n1 m1 => hr B G1 σ H1 F (k.step s1) _ fun vs g G2 H2 s2 r2 n2 m2 => by
    have mt1 := r1.mt _ _ _
    have key : ∀ a ∈ f, H2 a = H1 a := fun a ha => (mt1 a ha).ex s2.h
    refine q (v :: vs) (f ++ g) G2 H2 (s1.tr s2) (.cons (r1.fr (exTup s2.g) _ _ _ key) r2) ?_ fun a ha => ?_
    · refine List.nodup_append.mpr ⟨n1, n2, fun a ha b hb e => ?_⟩
      subst e
      rcases (m2 a hb).2 with z | ⟨j, hj, mj⟩
      · obtain ⟨o, ho⟩ := (mt1 a ha).some
        rw [z] at ho; cases ho
      · rcases (m1 a ha).2 with z | ⟨l, hl, ml⟩
        · obtain ⟨o, ho⟩ := (k.fr j a mj).2.2.some
          rw [z] at ho; cases ho
        · by_cases e : l = j
          · subst e; exact hd l hl hj
          · exact k.ap l j a e ml mj
    · rcases List.mem_append.mp ha with ha | ha
      · obtain ⟨o, ho⟩ := (mt1 a ha).some
        refine ⟨s2.nw a o ho (m1 a ha).1, ?_⟩
        rcases (m1 a ha).2 with z | ⟨l, hl, ml⟩
        · exact .inl z
        · exact .inr ⟨l, List.mem_append_left _ hl, ml⟩
      · refine ⟨(m2 a ha).1, ?_⟩
        rcases (m2 a ha).2 with z | ⟨l, hl, ml⟩
        · exact .inl (s1.h.no z)
        · exact .inr ⟨l, List.mem_append_right _ hl, ml⟩
theorem em_tup {t : TA} (h : EvMs t Γ S ds) (hl : ds.length ≤ sizeLine) : EvM (tTup t) Γ S (.tuple ds) := fun B G σ H F k Q q =>
  h B G σ H F k _ fun vs f G1 H1 s1 r1 n1 m1 => ⟨by rw [(r1.len _ _ _)]; exact hl, fun p hp => by
    have mt1 := r1.mt _ _ _
    have np : ∀ a ∈ f, a ≠ p := fun a ha z => by
      subst z
      obtain ⟨o, ho⟩ := (mt1 a ha).some
      rw [hp] at ho; cases ho
    exact q (.ref p) f _ _ (s1.tr (Stp.new s1.gh hp)) (.tup (.inl upd_same) (r1.fr (exTup (Ex.new (s1.gh.no hp))) _ _ _ fun a ha => upd_ne (np a ha))) n1 fun a ha => ⟨by rw [upd_ne (np a ha)]; exact (m1 a ha).1, (m1 a ha).2⟩⟩
theorem em_lst {t : TA} (h : EvMs t Γ S ds) (hl : ds.length ≤ sizeLine) : EvM (tLst t) Γ S (.list ds) := fun B G σ H F k Q q =>
  h B G σ H F k _ fun vs f G1 H1 s1 r1 n1 m1 => ⟨by rw [(r1.len _ _ _)]; exact hl, fun p hp => by
    have mt1 := r1.mt _ _ _
    have np : ∀ a ∈ f, a ≠ p := fun a ha z => by
      subst z
      obtain ⟨o, ho⟩ := (mt1 a ha).some
      rw [hp] at ho; cases ho
    refine q (.ref p) (p :: f) G1 _ (s1.tr (Stp.newH s1.gh hp)) (.lst upd_same (r1.fr (fun _ _ z => z) _ _ _ fun a ha => upd_ne (np a ha))) (List.nodup_cons.mpr ⟨fun m => np p m rfl, n1⟩) fun a ha => ?_
    rcases List.mem_cons.mp ha with rfl | ha
    · exact ⟨s1.gh.no hp, .inl (s1.h.no hp)⟩
    · exact m1 a ha⟩
/-- what is new is given away: mere data -/
theorem EvM.ev (h : EvM te Γ [] d) : Ev te Γ d := fun B G σ H ok Q q => by
  obtain ⟨F, k⟩ := ok
  refine h B G σ H F k Q fun v f G1 H1 s1 r1 n1 m1 => ?_
  have new : ∀ a ∈ f, H a = none ∧ G1 a = none := fun a ha => by
    rcases (m1 a ha).2 with z | ⟨l, hl, _⟩
    · exact ⟨z, (m1 a ha).1⟩
    · cases hl
  have st := s1.giveL f (fun a ha => new a ha)
  exact q v _ H1 st.1 (r1.rp st.2.1 _ _ _ st.2.2)
theorem em_fz (h : EvM te (Γ.map Sl.fz) [] d) : EvM te Γ [] d := fun B G σ H F k Q q => by
  obtain ⟨F2, k2⟩ := k.fz
  refine h _ _ σ H F2 k2 Q fun v f G1 H1 s1 r1 n1 m1 => q v f _ H1 (k.unfz s1) (r1.fr (k.tup s1) _ _ _ fun _ _ => rfl) n1 fun a ha => ?_
  rcases (m1 a ha).2 with z | ⟨l, hl, _⟩
  · exact ⟨gMinus_none (m1 a ha).1, .inl z⟩
  · cases hl
end

/-! ### what is walked -/
structure ItD (J : It) (G : Hp) (ds : List PyData) : Prop where
  stop : ∀ H, Ex G H → J.stop ds.length H
  go : ∀ i H, i < ds.length → Ex G H → J.go i H
  yld : ∀ (i : Nat) (H : Hp) (x : V) (H' : Hp) (d : PyData), ds[i]? = some d → Ex G H → J.yld i H x H' → H' = H ∧ Rp G x d
def EvI (wi : TI) (Γ : List Sl) (ds : List PyData) : Prop := ∀ (B : Bs) (G : Hp) (σ : L2.St) (H : Hp), Ok B G σ H Γ → ∀ R : It → Hp → Prop, (∀ J G' H', Stp G H G' H' → ItD J G' ds → R J H') → wi σ H R
section
variable {K : PySem.W.Frag} {Γ : List Sl} {ta tb te : TE} {d x y z : PyData} {ds xs ys : List PyData}
theorem ei_list (h : Ev te Γ (.list ds)) : EvI (iList K te) Γ ds := fun B G σ H ok R q => h B G σ H ok _ fun v G1 H1 s1 r1 => by
  cases r1 with
  | @lst a vs _ hd hr =>
    refine ⟨a, rfl, ⟨vs, rd_sql (s1.gh.rd hd)⟩, q _ G1 H1 s1 ⟨fun H e => ⟨vs, rd_sql (e.rd hd), by rw [hr.length]; exact Nat.le_refl _⟩, fun i H hi e => ?_, fun i H x H' d hd' e y => ?_⟩⟩
    · have hi' : i < vs.length := by rw [hr.length]; exact hi
      exact ⟨vs, vs[i], rd_sql (e.rd hd), List.getElem?_eq_getElem hi'⟩
    · obtain ⟨e1, y⟩ := y
      obtain ⟨v, h1, h2⟩ := hr.get hd'
      have h3 := y vs (rd_sql (e.rd hd))
      rw [h1] at h3
      cases h3
      exact ⟨e1, h2⟩
theorem ei_tup (h : Ev te Γ (.tuple ds)) : EvI (iTup K te) Γ ds := fun B G σ H ok R q => h B G σ H ok _ fun v G1 H1 s1 r1 => by
  cases r1 with
  | @tup a vs _ hd hr =>
    refine ⟨a, rfl, ⟨vs, rd_sqt (s1.gh.rd hd)⟩, q _ G1 H1 s1 ⟨fun H e => ⟨vs, rd_sqt (e.rd hd), by rw [hr.length]; exact Nat.le_refl _⟩, fun i H hi e => ?_, fun i H x H' d hd' e y => ?_⟩⟩
    · have hi' : i < vs.length := by rw [hr.length]; exact hi
      exact ⟨vs, vs[i], rd_sqt (e.rd hd), List.getElem?_eq_getElem hi'⟩
    · obtain ⟨e1, y⟩ := y
      obtain ⟨v, h1, h2⟩ := hr.get hd'
      have h3 := y vs (rd_sqt (e.rd hd))
      rw [h1] at h3
      cases h3
      exact ⟨e1, h2⟩
/-- lo, lo + 1, .. -/
def rngD (lo : Int) (n : Nat) : List PyData := (List.range n).map fun k : Nat => PyData.int (lo + k)
theorem rngD_length (lo : Int) (n : Nat) : (rngD lo n).length = n := by simp [rngD]
theorem rngD_get (lo : Int) (n i : Nat) (h : i < n) : (rngD lo n)[i]? = some (.int (lo + i)) := by
  unfold rngD
  rw [List.getElem?_map, List.getElem?_range h]
  rfl
theorem itd_rng {G : Hp} {lo : Int} {n : Nat} : ItD (Itr lo n) G (rngD lo n) := by
  refine ⟨fun H _ => ?_, fun i H hi _ => ?_, fun i H x H' d hd _ y => ?_⟩
  · show n ≤ _
    rw [rngD_length]; exact Nat.le_refl _
  · show i < n
    rw [rngD_length] at hi; exact hi
  · obtain ⟨e1, e2⟩ := y
    have hi : i < n := by
      have := (List.getElem?_eq_some_iff.mp hd).1
      rw [rngD_length] at this; exact this
    rw [rngD_get lo n i hi] at hd
    cases hd
    subst e2
    exact ⟨e1, .int _⟩
theorem ei_rng1 {n : Int} (h : Ev ta Γ (.int n)) (h1 : -(2 ^ 62) ≤ n) (h2 : n < 2 ^ 62) : EvI (iRng1 (tCons ta tNil)) Γ (rngD 0 n.toNat) := fun B G σ H ok R q => h B G σ H ok _ fun v G1 H1 s1 r1 => by
  cases r1
  exact ⟨n, rfl, h1, h2, q _ G1 H1 s1 itd_rng⟩
theorem ei_rng2 {m n : Int} (ha : Ev ta Γ (.int m)) (hb : Ev tb Γ (.int n)) (h1 : -(2 ^ 62) ≤ m) (h2 : m < 2 ^ 62) (h3 : -(2 ^ 62) ≤ n) (h4 : n < 2 ^ 62) : EvI (iRng2 (tCons ta (tCons tb tNil))) Γ (rngD m (n - m).toNat) := fun B G σ H ok R q =>
  ha B G σ H ok _ fun v G1 H1 s1 r1 => hb B G1 σ H1 (ok.step s1) _ fun u G2 H2 s2 r2 => by
  cases r1
  cases r2
  exact ⟨m, n, rfl, ⟨h1, h2, h3, h4⟩, q _ G2 H2 (s1.tr s2) itd_rng⟩
end

/-! ### comprehensions -/
section
variable {K : PySem.W.Frag} {Γ : List Sl} {te : TE} {tt : TT} {wi : TI} {ds : List PyData} {j : Nat}
/-- the wiped frame with the item in -/
theorem wipe_set (σ : L2.St) (j : Nat) (v : V) : (wipe σ [j]).set j (some v) = σ.set j (some v) := by
  show (σ.set j none).set j (some v) = _
  rw [List.set_set]
theorem wipe_after (σ : L2.St) (j : Nat) (v : V) : wipe ((wipe σ [j]).set j (some v)) [j] = wipe σ [j] := by
  show ((σ.set j none).set j (some v)).set j none = σ.set j none
  rw [List.set_set, List.set_set]
theorem evN_lc {α : Type} {js : List Nat} (enc : α → PyData) (xs : List α) (p : α → Bool) (f : α → PyData) (hj : js = [j]) (hi : EvI wi Γ (xs.map enc)) (hz : xs.length ≤ sizeLine) (ht : ∀ x ∈ xs, EvT tt (Γ.set j (.d (enc x))) (p x)) (he : ∀ x ∈ xs, p x = true → Ev te (Γ.set j (.d (enc x))) (f x)) :
    EvN (tLc wi (gName j) tt te js) Γ ((xs.filter p).map f) := fun B G σ H ok Q q => hi B G σ H ok _ fun J G1 H1 s1 it => by
  subst hj
  intro D hD
  have hGD : G1 D = none := s1.gh.no hD
  have hlen : (xs.map enc).length = xs.length := List.length_map _
  refine ⟨fun i m H2 => m = xs.length - i ∧ i ≤ xs.length ∧ ∃ G2 acc, Stp G1 H1 G2 H2 ∧ G2 D = none ∧ H2 D = some (.lst acc) ∧ Rps G2 acc (((xs.take i).filter p).map f), ⟨xs.length, by simp, Nat.zero_le _, G1, [], Stp.newH s1.gh hD, hGD, upd_same, .nil⟩, ?_⟩
  rintro i m H2 ⟨rfl, hil, G2, acc, s2, hg2, hh2, ra⟩
  by_cases hlt : i < xs.length
  · have hget : xs[i]? = some xs[i] := List.getElem?_eq_getElem hlt
    have hget' : (xs.map enc)[i]? = some (enc xs[i]) := by rw [List.getElem?_map, hget]; rfl
    have hmem : xs[i] ∈ xs := List.getElem_mem hlt
    have htk : xs.take (i + 1) = xs.take i ++ [xs[i]] := by rw [List.take_add_one, hget]; rfl
    refine .inr ⟨it.go i H2 (by rw [hlen]; exact hlt) (s2.g.tr s2.gh), fun H' => ∃ G' acc', Stp G1 H1 G' H' ∧ G' D = none ∧ H' D = some (.lst acc') ∧ Rps G' acc' (((xs.take (i + 1)).filter p).map f),
      fun H' h' => ⟨xs.length - (i + 1), by omega, rfl, hlt, h'⟩, fun x H' hy => ?_⟩
    obtain ⟨rfl, rx⟩ := it.yld i H2 x H' _ hget' (s2.g.tr s2.gh) hy
    refine ⟨wipe_after σ j x, ?_⟩
    rw [wipe_set]
    have ok2 : Ok B G2 (σ.set j (some x)) H' (Γ.set j (.d (enc xs[i]))) := ((ok.step s1).step s2).setD j (rx.up s2.g)
    refine ht _ hmem B G2 _ H' ok2 _ fun G3 H3 s3 => ?_
    have hg3 : G3 D = none := s3.nw D _ hh2 hg2
    have hh3 : H3 D = some (.lst acc) := s3.h D _ hh2
    cases hp : p xs[i] with
    | false =>
      rw [if_neg Bool.false_ne_true]
      refine ⟨G3, acc, s2.tr s3, hg3, hh3, ?_⟩
      rw [htk, List.filter_append, List.filter_cons_of_neg (by rw [hp]; exact Bool.false_ne_true), List.filter_nil, List.append_nil]
      exact ra.up s3.g
    | true =>
      rw [if_pos rfl]
      refine he _ hmem hp B G3 _ H3 (ok2.step s3) _ fun v G4 H4 s4 rv => ?_
      have hh4 : H4 D = some (.lst acc) := s4.h D _ hh3
      have hg4 : G4 D = none := s4.nw D _ hh3 hg3
      have hal : acc.length < sizeLine := by
        have h1 := ra.length
        rw [List.length_map] at h1
        have h2 := List.length_filter_le p (xs.take i)
        rw [List.length_take] at h2
        omega
      refine ⟨acc, hh4, hal, G4, acc ++ [v], ?_, hg4, upd_same, ?_⟩
      · have st := (s2.tr s3).tr s4
        refine ⟨st.g, fun b o e => ?_, fun b o e => ?_, st.nw⟩
        · rw [upd_ne (ne_of_none e hD)]
          exact st.h b o e
        · rw [upd_ne (fun z => by subst z; rw [hg4] at e; cases e)]
          exact st.gh b o e
      · rw [htk, List.filter_append, List.map_append, List.filter_cons_of_pos hp, List.filter_nil]
        exact ((ra.up s3.g).up s4.g).app (.cons rv .nil)
  · have e : i = xs.length := by omega
    subst e
    rw [List.take_length] at ra
    refine .inl ⟨?_, q D acc G2 H2 (s1.tr s2) (s1.h.no hD) hg2 hh2 ra⟩
    have h := it.stop H2 (s2.g.tr s2.gh)
    rw [hlen] at h
    exact h
/-- without a test -/
theorem evN_lcm {α : Type} {js : List Nat} (enc : α → PyData) (xs : List α) (f : α → PyData) (hj : js = [j]) (hi : EvI wi Γ (xs.map enc)) (hz : xs.length ≤ sizeLine) (he : ∀ x ∈ xs, Ev te (Γ.set j (.d (enc x))) (f x)) : EvN (tLc wi (gName j) tYes te js) Γ (xs.map f) := by
  have h := evN_lc (tt := tYes) (te := te) (j := j) enc xs (fun _ => true) f hj hi hz (fun _ _ => et_yes) fun x hx _ => he x hx
  rw [List.filter_eq_self.mpr fun _ _ => rfl] at h
  exact h
end
end Ck

namespace Ck
open PySem PySem.Spec L2

/-! ### statements -/
def At (B : Bs) (Γ : List Sl) (k : L2.St → Hp → Prop) : Prop := ∀ (G : Hp) (σ : L2.St) (H : Hp), Ok B G σ H Γ → k σ H
/-- an owned list or dict is changed -/
theorem Ok.mut {B : Bs} {G : Hp} {σ : L2.St} {H : Hp} {Γ : List Sl} (k : Ok B G σ H Γ) {i : Nat} {a : Addr} {o : HO} {s' : Sl} (ho : ∀ h : Hp, h a = some o → Mt h a) (hm : ∀ f, OkF B G σ H Γ f → a ∈ f i) (hs : ∀ f : List Addr, a ∈ f → SlOk G (upd H a o) σ[i]? f s') : Ok B G σ (upd H a o) (Γ.set i s') := by
  obtain ⟨F, k⟩ := k
  have m := hm F k
  exact ⟨F, k.mut (fun b hb => upd_ne fun z => hb (z ▸ m)) (fun b hb => by
    by_cases e : b = a
    · subst e; exact ho _ upd_same
    · exact (k.fr i b hb).2.2.of (upd_ne e)) (hs _ m)⟩
theorem OkF.inOwn {B : Bs} {G : Hp} {σ : L2.St} {H : Hp} {Γ : List Sl} {F : Nat → List Addr} (k : OkF B G σ H Γ F) {i : Nat} {ds : List PyData} {a : Addr} (e : Γ[i]? = some (.own ds)) (e1 : σ[i]? = some (some (.ref a))) : a ∈ F i := by
  obtain ⟨b, vs, e2, m, _⟩ := k.sl i _ e
  rw [e1] at e2
  cases e2
  exact m
theorem OkF.inOwnD {B : Bs} {G : Hp} {σ : L2.St} {H : Hp} {Γ : List Sl} {F : Nat → List Addr} (k : OkF B G σ H Γ F) {i : Nat} {kvs : List (Str × Int)} {a : Addr} (e : Γ[i]? = some (.ownD kvs)) (e1 : σ[i]? = some (some (.ref a))) : a ∈ F i := by
  obtain ⟨b, e2, m, _⟩ := k.sl i _ e
  rw [e1] at e2
  cases e2
  exact m
section
variable {K : PySem.W.Frag} {B : Bs} {Γ : List Sl} {nx bk ct : L2.St → Hp → Prop} {rt : VK} {t u : TS} {te ti ta : TE} {tt : TT} {d : PyData} {ds : List PyData} {i j : Nat} {b : Bool} {k : L2.St → Hp → Prop}
theorem at_seq (h : At B Γ (t ⟨u ⟨nx, rt, bk, ct⟩, rt, bk, ct⟩)) : At B Γ (tSeq t u ⟨nx, rt, bk, ct⟩) := h
theorem at_next (h : At B Γ nx) : At B Γ (tNext ⟨nx, rt, bk, ct⟩) := h
theorem at_brk (h : At B Γ bk) : At B Γ (tBreak ⟨nx, rt, bk, ct⟩) := h
theorem at_cont (h : At B Γ ct) : At B Γ (tCont ⟨nx, rt, bk, ct⟩) := h
theorem at_set (h : Ev te Γ d) (q : At B (Γ.set i (.d d)) nx) : At B Γ (tAsg te (gName i) ⟨nx, rt, bk, ct⟩) := fun G σ H ok =>
  h B G σ H ok _ fun v G' H' s r => q G' _ H' ((ok.step s).setD i r)
theorem at_setN (h : EvN te Γ ds) (q : At B (Γ.set i (.own ds)) nx) : At B Γ (tAsg te (gName i) ⟨nx, rt, bk, ct⟩) := fun G σ H ok =>
  h B G σ H ok _ fun a vs G' H' s h0 hg hh r => q G' _ H' (ok.setF s i (f := [a]) ⟨a, vs, rfl, List.mem_cons_self, hh, r⟩ fun b m => by
    rcases List.mem_cons.mp m with rfl | m
    · exact ⟨h0, hg, .inl ⟨_, hh⟩⟩
    · cases m)
theorem at_setO (h : EvM te Γ [] d) (q : At B (Γ.set i (.ow d)) nx) : At B Γ (tAsg te (gName i) ⟨nx, rt, bk, ct⟩) := fun G σ H ok => by
  obtain ⟨F, k⟩ := ok
  exact h B G σ H F k _ fun v f G' H' s r nd m => q G' _ H' (Ok.setF ⟨F, k⟩ s i (f := f) ⟨v, f, rfl, r, nd, fun a ha => ha⟩ fun b mb => by
    refine ⟨?_, (m b mb).1, r.mt _ _ _ b mb⟩
    rcases (m b mb).2 with z | ⟨l, hl, _⟩
    · exact z
    · cases hl)
theorem at_retO {S : List Nat} (h : EvM te Γ S d) (q : ∀ v f G H, Stp B.g0 B.h0 G H → Ro G H v d f → f.Nodup → (∀ a ∈ f, B.h0 a = none ∧ G a = none) → rt v H) : At B Γ (tRet te ⟨nx, rt, bk, ct⟩) := fun G σ H ok => by
  obtain ⟨F, k⟩ := ok
  refine h B G σ H F k _ fun v f G' H' s r nd m => q v f G' H' (k.st.tr s) r nd fun a ha => ⟨?_, (m a ha).1⟩
  rcases (m a ha).2 with z | ⟨l, _, ml⟩
  · exact k.st.h.no z
  · exact (k.fr l a ml).1
theorem at_drop (h : Ev te Γ d) (q : At B Γ nx) : At B Γ (tDrop te ⟨nx, rt, bk, ct⟩) := fun G σ H ok => h B G σ H ok _ fun v G' H' s r => q G' _ H' (ok.step s)
theorem at_ret (h : Ev te Γ d) (q : ∀ v G H, Stp B.g0 B.h0 G H → Rp G v d → rt v H) : At B Γ (tRet te ⟨nx, rt, bk, ct⟩) := fun G σ H ok => h B G σ H ok _ fun v G' H' s r => q v G' H' (ok.st.tr s) r
theorem at_retN (q : ∀ G H, Stp B.g0 B.h0 G H → rt .non H) : At B Γ (tRetN ⟨nx, rt, bk, ct⟩) := fun G σ H ok => q G H ok.st
theorem at_if (h : EvT tt Γ b) (h1 : b = true → At B Γ (t ⟨nx, rt, bk, ct⟩)) (h2 : b = false → At B Γ (u ⟨nx, rt, bk, ct⟩)) : At B Γ (tIfS tt t u ⟨nx, rt, bk, ct⟩) := fun G σ H ok => h B G σ H ok _ fun G' H' s => by
  cases b with
  | true => rw [if_pos rfl]; exact h1 rfl G' σ H' (ok.step s)
  | false => rw [if_neg Bool.false_ne_true]; exact h2 rfl G' σ H' (ok.step s)
theorem at_freeze (e : Γ[i]? = some (.own ds)) (q : At B (Γ.set i (.d (.list ds))) k) : At B Γ k := fun G σ H ok => by
  obtain ⟨G', _, ok'⟩ := ok.freeze e
  exact q G' σ H ok'
theorem at_weak {Γ' : List Sl} (hl : Γ'.length = Γ.length) (h : ∀ (i : Nat) (s : Sl), Γ'[i]? = some s → s = .un ∨ Γ[i]? = some s) (q : At B Γ' k) : At B Γ k := fun G σ H ok => q G σ H (ok.weak hl h)
theorem at_append (e : Γ[i]? = some (.own ds)) (h : Ev te Γ d) (hz : ds.length < sizeLine) (q : At B (Γ.set i (.own (ds ++ [d]))) nx) : At B Γ (tDrop (tBM K "list" rAppend (tVar i) (tCons te tNil)) ⟨nx, rt, bk, ct⟩) := fun G σ H ok => by
  obtain ⟨a, vs, e1, h0, hg, hh, r⟩ := ok.own e
  refine ⟨.ref a, e1, .inl ⟨rfl, _, .inl (.inl hh)⟩, ?_⟩
  refine h B G σ H ok _ fun v G' H' s rv => ?_
  have ok' := ok.step s
  have hh' := s.h _ _ hh
  have hg' := s.nw _ _ hh hg
  refine ⟨a, vs, v, rfl, rfl, hh', by rw [r.length]; exact hz, ?_⟩
  exact q G' σ _ (ok'.mut (fun _ z => .inl ⟨_, z⟩) (fun F k => k.inOwn e e1) fun f m => ⟨a, vs ++ [v], e1, m, upd_same, (r.up s.g).app (.cons rv .nil)⟩)
theorem at_setitem {n : Int} (e : Γ[i]? = some (.own ds)) (hv : Ev te Γ d) (hi : Ev ti Γ (.int n)) (hx : ixN ds.length n = some j) (q : At B (Γ.set i (.own (ds.set j d))) nx) : At B Γ (tAsg te (gSub (tVar i) ti rSetL) ⟨nx, rt, bk, ct⟩) := fun G σ H ok => by
  obtain ⟨a, vs, e1, h0, hg, hh, r⟩ := ok.own e
  refine hv B G σ H ok _ fun v G1 H1 s1 rv => ⟨.ref a, e1, ?_⟩
  refine hi B G1 σ H1 (ok.step s1) _ fun w G2 H2 s2 rw' => ?_
  cases rw'
  have s := s1.tr s2
  have hh' := s.h _ _ hh
  have hg' := s.nw _ _ hh hg
  refine ⟨a, vs, n, j, rfl, rfl, hh', by rw [r.length]; exact hx, ?_⟩
  exact q G2 σ _ ((ok.step s).mut (fun _ z => .inl ⟨_, z⟩) (fun F k => k.inOwn e e1) fun f m => ⟨a, vs.set j v, e1, m, upd_same, (r.up s.g).set (rv.up s2.g) j⟩)
/-- an item of an owned list -/
theorem ev_ixOwn {n : Int} (e : Γ[i]? = some (.own ds)) (hi : Ev ti Γ (.int n)) (hx : atI ds n = some d) : Ev (tOp (rIx K) (tVar i) ti) Γ d := fun B G σ H ok Q q => by
  obtain ⟨a, vs, e1, h0, hg, hh, r⟩ := ok.own e
  refine ⟨.ref a, e1, ?_⟩
  refine hi B G σ H ok _ fun w G2 H2 s2 rw' => ?_
  cases rw'
  unfold atI at hx
  obtain ⟨j, hj, hd⟩ := Option.bind_eq_some_iff.mp hx
  obtain ⟨v, hv, rv⟩ := r.get hd
  refine .inl ⟨a, vs, n, v, rfl, rfl, .inl (.inl (s2.h _ _ hh)), ?_, q v G2 H2 s2 (rv.up s2.g)⟩
  unfold atI
  rw [r.length, hj]
  exact hv
end
/-- less is known -/
inductive Wk : List Sl → List Sl → Prop
  | nil : Wk [] []
  | un {s : Sl} {a b : List Sl} : Wk a b → Wk (.un :: a) (s :: b)
  | same {s : Sl} {a b : List Sl} : Wk a b → Wk (s :: a) (s :: b)
theorem Wk.len {a b : List Sl} (h : Wk a b) : a.length = b.length := by
  induction h with
  | nil => rfl
  | un _ ih => exact congrArg (· + 1) ih
  | same _ ih => exact congrArg (· + 1) ih
theorem Wk.get {a b : List Sl} (h : Wk a b) : ∀ (i : Nat) (s : Sl), a[i]? = some s → s = .un ∨ b[i]? = some s := by
  induction h with
  | nil => intro i s e; simp at e
  | un _ ih =>
    intro i s e
    cases i with
    | zero => simp at e; exact .inl e.symm
    | succ i => simpa using ih i s (by simpa using e)
  | same _ ih =>
    intro i s e
    cases i with
    | zero => simp at e; subst e; exact .inr (by simp)
    | succ i => simpa using ih i s (by simpa using e)
theorem at_wk {B : Bs} {Γ Γ' : List Sl} {k : L2.St → Hp → Prop} (q : At B Γ' k) (h : Wk Γ' Γ) : At B Γ k := at_weak h.len h.get q
section
variable {K : PySem.W.Frag} {B : Bs} {Γ : List Sl} {nx bk ct : L2.St → Hp → Prop} {rt : VK} {t u : TS} {te ti ta : TE} {tt : TT} {d : PyData} {ds : List PyData} {i j : Nat} {b : Bool} {k : L2.St → Hp → Prop}
/-- the slots with another one at a place, written out -/
inductive SetAt : List Sl → Nat → Sl → List Sl → Prop
  | zero {a s : Sl} {l : List Sl} : SetAt (a :: l) 0 s (s :: l)
  | succ {a s : Sl} {l l' : List Sl} {i : Nat} : SetAt l i s l' → SetAt (a :: l) (i + 1) s (a :: l')
theorem SetAt.eq {l l' : List Sl} {i : Nat} {s : Sl} (h : SetAt l i s l') : l.set i s = l' := by
  induction h with
  | zero => rfl
  | succ _ ih => rw [List.set_cons_succ, ih]
inductive Nf : List Sl → List Sl → Prop
  | nil : Nf [] []
  | cons {a : Sl} {l l' : List Sl} : Nf l l' → Nf (a :: l) (a :: l')
theorem Nf.eq {l l' : List Sl} (h : Nf l l') : l = l' := by
  induction h with
  | nil => rfl
  | cons _ ih => rw [ih]
theorem at_nf {Γ' : List Sl} (q : At B Γ' k) (h : Nf Γ Γ') : At B Γ k := h.eq ▸ q
theorem at_setA {Γ' : List Sl} (h : Ev te Γ d) (hs : SetAt Γ i (.d d) Γ') (q : At B Γ' nx) : At B Γ (tAsg te (gName i) ⟨nx, rt, bk, ct⟩) := at_set h (hs.eq ▸ q)
theorem at_setNA {Γ' : List Sl} (h : EvN te Γ ds) (hs : SetAt Γ i (.own ds) Γ') (q : At B Γ' nx) : At B Γ (tAsg te (gName i) ⟨nx, rt, bk, ct⟩) := at_setN h (hs.eq ▸ q)
theorem at_appendA {Γ' : List Sl} (e : Γ[i]? = some (.own ds)) (h : Ev te Γ d) (hz : ds.length < sizeLine) (hs : SetAt Γ i (.own (ds ++ [d])) Γ') (q : At B Γ' nx) : At B Γ (tDrop (tBM K "list" rAppend (tVar i) (tCons te tNil)) ⟨nx, rt, bk, ct⟩) := at_append e h hz (hs.eq ▸ q)
theorem at_setitemA {Γ' : List Sl} {n : Int} (e : Γ[i]? = some (.own ds)) (hv : Ev te Γ d) (hi : Ev ti Γ (.int n)) (hx : ixN ds.length n = some j) (hs : SetAt Γ i (.own (ds.set j d)) Γ') (q : At B Γ' nx) : At B Γ (tAsg te (gSub (tVar i) ti rSetL) ⟨nx, rt, bk, ct⟩) := at_setitem e hv hi hx (hs.eq ▸ q)
theorem at_freezeA {Γ' : List Sl} (e : Γ[i]? = some (.own ds)) (hs : SetAt Γ i (.d (.list ds)) Γ') (q : At B Γ' k) : At B Γ k := at_freeze e (hs.eq ▸ q)
/-- if c: x = e, else as it was -/
theorem at_ifSet {Γ' : List Sl} {d1 d0 : PyData} (h : EvT tt Γ b) (he : b = true → Ev te Γ d1) (h0 : Γ[i]? = some (.d d0)) (hs : SetAt Γ i (.d (if b then d1 else d0)) Γ') (q : At B Γ' nx) : At B Γ (tIfS tt (tAsg te (gName i)) tNext ⟨nx, rt, bk, ct⟩) := by
  rw [← hs.eq] at q
  refine at_if h (fun hb => at_set (he hb) ?_) (fun hb => at_next ?_)
  · rw [hb, if_pos rfl] at q; exact q
  · rw [hb, if_neg Bool.false_ne_true] at q
    have e : Γ.set i (.d d0) = Γ := by
      obtain ⟨hl, hv⟩ := List.getElem?_eq_some_iff.mp h0
      rw [← hv]; exact List.set_getElem_self hl
    rw [e] at q; exact q
/-! loops -/
theorem at_for {wi : TI} (I : Nat → List Sl) (P : Nat → Prop) (hi : EvI wi Γ ds) (h0 : Wk (I 0) Γ) (p0 : P 0)
    (hs : ∀ (gb : Hp) (i : Nat) (d : PyData) (N : L2.St → Hp → Prop), ds[i]? = some d → P i → (P (i + 1) → At ⟨gb, B.g0, B.h0⟩ (I (i + 1)) N) → At ⟨gb, B.g0, B.h0⟩ ((I i).set j (.d d)) (t ⟨N, rt, nx, N⟩))
    (he : P ds.length → At B (I ds.length) nx) : At B Γ (tFor wi (gName j) t ⟨nx, rt, bk, ct⟩) := fun G σ H ok => hi B G σ H ok _ fun J G1 H1 s1 it => by
  refine ⟨fun i m σ2 H2 => m = ds.length - i ∧ i ≤ ds.length ∧ P i ∧ ∃ G2, Ex G1 G2 ∧ Ok B G2 σ2 H2 (I i), ⟨ds.length, by simp, Nat.zero_le _, p0, G1, Ex.rfl' G1, (ok.step s1).weak h0.len h0.get⟩, ?_⟩
  rintro i m σ2 H2 ⟨rfl, hil, pi, G2, e2, ok2⟩
  by_cases hlt : i < ds.length
  · have hget : ds[i]? = some ds[i] := List.getElem?_eq_getElem hlt
    refine .inr ⟨it.go i H2 hlt (e2.tr ok2.gh), fun σ' H' => P (i + 1) ∧ ∃ G', Ex G1 G' ∧ Ok B G' σ' H' (I (i + 1)), fun σ' H' h' => ⟨ds.length - (i + 1), by omega, rfl, hlt, h'⟩, fun x H' hy => ?_⟩
    obtain ⟨rfl, rx⟩ := it.yld i H2 x H' _ hget (e2.tr ok2.gh) hy
    have ok3 := ok2.setD j (v := x) (rx.up e2)
    refine hs G2 i _ (fun σ' H' => P (i + 1) ∧ ∃ G', Ex G1 G' ∧ Ok B G' σ' H' (I (i + 1))) hget pi (fun p1 G' σ' H' ok' => ⟨p1, G', e2.tr ok'.eb, ok'.reb (ok2.eb.tr ok'.eb)⟩) G2 _ H' (ok3.reb (Ex.rfl' G2))
  · have e : i = ds.length := by omega
    subst e
    exact .inl ⟨it.stop H2 (e2.tr ok2.gh), he pi G2 σ2 H2 ok2⟩
/-- while: the state a, its slots I a, a number that falls -/
theorem at_while {α : Type} (I : α → List Sl) (P : α → Prop) (μ : α → Nat) (cb : α → Bool) (a0 : α) (h0 : Wk (I a0) Γ) (p0 : P a0) (hc : ∀ a, P a → EvT tt (I a) (cb a))
    (hs : ∀ (a : α) (N : L2.St → Hp → Prop), P a → cb a = true → (∀ a', P a' → μ a' < μ a → At B (I a') N) → At B (I a) (t ⟨N, rt, nx, N⟩))
    (he : ∀ a, P a → cb a = false → At B (I a) nx) : At B Γ (tWhile tt t ⟨nx, rt, bk, ct⟩) := fun G σ H ok => by
  refine ⟨fun m σ2 H2 => ∃ a G2, m = μ a ∧ P a ∧ Ok B G2 σ2 H2 (I a), ⟨μ a0, a0, G, rfl, p0, ok.weak h0.len h0.get⟩, ?_⟩
  rintro m σ2 H2 ⟨a, G2, rfl, pa, ok2⟩
  refine hc a pa B G2 σ2 H2 ok2 _ fun G3 H3 s3 => ?_
  cases hb : cb a with
  | true =>
    rw [if_pos rfl]
    exact ⟨fun σ' H' => ∃ a' G', P a' ∧ μ a' < μ a ∧ Ok B G' σ' H' (I a'), fun σ' H' ⟨a', G', p', l, ok'⟩ => ⟨μ a', l, a', G', rfl, p', ok'⟩, hs a _ pa hb (fun a' p' l G' σ' H' ok' => ⟨a', G', p', l, ok'⟩) G3 σ2 H3 (ok2.step s3)⟩
  | false =>
    rw [if_neg Bool.false_ne_true]
    exact he a pa hb G3 σ2 H3 (ok2.step s3)
end

/-! ### promises -/
/-- a def that raises nothing: of the arguments ds (n of them) it tells d -/
def spP (n : Nat) (R : List PyData → PyData → Prop) : Sp := fun vs H Q _ => ∃ ds d G, Ex G H ∧ Rps G vs ds ∧ ds.length = n ∧ R ds d ∧ ∀ v G' H', Stp G H G' H' → Rp G' v d → Q v H'
theorem spP_len {n : Nat} {R : List PyData → PyData → Prop} {vs : List V} {H : Hp} {Q : VK} {E : XK} (h : spP n R vs H Q E) : vs.length = n := by
  obtain ⟨ds, d, G, _, r, l, _⟩ := h
  rw [r.length]; exact l
def sls (N : Nat) (ds : List PyData) : List Sl := ds.map Sl.d ++ List.replicate (N - ds.length) Sl.un
theorem ok_start {N : List Str} {vs : List V} {ds : List PyData} {G H : Hp} (e : Ex G H) (r : Rps G vs ds) : Ok ⟨G, G, H⟩ G (L2.start N vs) H (sls N.length ds) := by
  have hl := r.length
  refine ⟨fun _ => [], Ex.rfl' G, Stp.rfl' e, by simp [L2.start, sls, hl], fun i s q => ?_, fun i a m => (by cases m), fun i j a _ m => (by cases m)⟩
  unfold sls at q
  by_cases hi : i < ds.length
  · rw [List.getElem?_append_left (by rw [List.length_map]; exact hi), List.getElem?_map] at q
    have hd : ds[i]? = some ds[i] := List.getElem?_eq_getElem hi
    rw [hd] at q
    have q' : Sl.d ds[i] = s := Option.some.inj q
    obtain ⟨v, hv, rv⟩ := r.get hd
    subst q'
    refine ⟨v, ?_, rv⟩
    unfold L2.start
    rw [List.getElem?_append_left (by rw [List.length_map, hl]; exact hi), List.getElem?_map, hv]
    rfl
  · rw [List.getElem?_append_right (by rw [List.length_map]; omega)] at q
    have := List.mem_of_getElem? q
    rw [List.mem_replicate] at this
    rw [this.2]
    trivial
/-- a body's reading from its data -/
theorem spP_body {N : List Str} {n : Nat} {R : List PyData → PyData → Prop} {t : TS}
    (h : ∀ (ds : List PyData) (d : PyData) (B : Bs) (Q : VK), ds.length = n → R ds d → (∀ v G H, Stp B.g0 B.h0 G H → Rp G v d → Q v H) → At B (sls N.length ds) (t { nx := fun _ H' => Q .non H', rt := Q }))
    {vs : List V} {H : Hp} {Q : VK} {E : XK} (hs : spP n R vs H Q E) : t { nx := fun _ H' => Q .non H', rt := Q } (L2.start N vs) H := by
  obtain ⟨ds, d, G, e, r, l, hR, q⟩ := hs
  exact h ds d ⟨G, G, H⟩ Q l hR q G _ H (ok_start e r)
section
variable {Γ : List Sl} {ta : TA} {ds : List PyData} {d : PyData} {n : Nat} {R : List PyData → PyData → Prop} {E : XK}
theorem ev_call (h : EvA ta Γ ds) (hn : ds.length = n) (hR : R ds d) : Ev (tCall (spP n R) [] E ta) Γ d := fun B G σ H ok Q q =>
  h B G σ H ok _ fun vs G1 H1 s1 r1 => by
    rw [List.append_nil]
    exact ⟨ds, d, G1, s1.gh, r1, hn, hR, fun v G' H' s r => q v G' H' (s1.tr s) r⟩
end
end Ck

namespace Ck
open PySem PySem.Spec PyProof.Rows L2

/-! ### + -/
def rCatR : R2 := fun x y H Q => ∃ l b xs zs, x = .ref l ∧ y = .ref b ∧ Rd H l (.lst xs) ∧ Rd H b (.lst zs) ∧ xs.length + zs.length ≤ sizeLine ∧ ∀ p, H p = none → Q (.ref p) (upd H p (.lst (xs ++ zs)))
def rAddI : R2 := rI0 fun i j => .int (i + j)
def rAddS : R2 := fun x y H Q => ∃ i j, x = .str i ∧ y = .str j ∧ i.length + j.length ≤ sizeLine ∧ Q (.str (i ++ j)) H
def rAddU (K : PySem.W.Frag) : R2 := fun x y H Q => rAddI x y H Q ∨ rAddS x y H Q ∨ rCatR x y H Q ∨ rCatA K x y H Q
section
variable {X : Cx}
theorem op_catR : OpR X (binaryOp .Add) rCatR := by
  intro pins s σ H x y v u Q I rx ry h
  obtain ⟨l, b, xs, zs, rfl, rfl, hH, hB, hz, q⟩ := h
  cases rx
  cases ry
  obtain ⟨z, its, n, r, e⟩ := hH.ok I.hok
  obtain ⟨z2, its2, n2, r2, e2⟩ := hB.ok I.hok
  have hl := r.length
  have hl2 := r2.length
  refine PySem.P.add_list e e2 ?_ (by rw [List.size_toArray, List.size_toArray]; omega)
  have ea : its.toArray ++ its2.toArray = (its ++ its2).toArray := by simp
  rw [ea]
  exact ⟨.ref _, _, I.lnew (t' := s.toks) (r.append r2) (by rw [List.length_append]; omega), rfl, q _ I.fresh⟩
theorem op_addU : OpR X (binaryOp .Add) (rAddU X.K) := by
  intro pins s σ H x y v u Q I rx ry h
  rcases h with h | h | h | h
  · exact op_add pins s σ H x y v u Q I rx ry h
  · exact op_add_str pins s σ H x y v u Q I rx ry h
  · exact op_catR pins s σ H x y v u Q I rx ry h
  · exact op_catA pins s σ H x y v u Q I rx ry h
end
section
variable {K : PySem.W.Frag}
theorem rv_addI {i j : Int} : RvD (rAddU K) (.int i) (.int j) (.int (i + j)) := fun G H v u e rx ry Q q => by
  cases rx; cases ry
  exact .inl ⟨i, j, rfl, rfl, q _ G H (Stp.rfl' e) (.int _)⟩
theorem rv_addS {i j : Str} (h : i.length + j.length ≤ sizeLine) : RvD (rAddU K) (.str i) (.str j) (.str (i ++ j)) := fun G H v u e rx ry Q q => by
  cases rx; cases ry
  exact .inr (.inl ⟨i, j, rfl, rfl, h, q _ G H (Stp.rfl' e) (.str _)⟩)
theorem rvN_addL {xs ys : List PyData} (h : xs.length + ys.length ≤ sizeLine) : RvN (rAddU K) (.list xs) (.list ys) (xs ++ ys) := fun G H v u e rx ry Q q => by
  cases rx with
  | lst h1 r1 =>
    cases ry with
    | lst h2 r2 => exact .inr (.inr (.inl ⟨_, _, _, _, rfl, rfl, e.rd h1, e.rd h2, by rw [r1.length, r2.length]; exact h, fun p hp => q p _ G _ (Stp.newH e hp) hp (e.no hp) upd_same (r1.app r2)⟩))
theorem rv_addT {xs ys : List PyData} (h : xs.length + ys.length ≤ sizeLine) : RvD (rAddU K) (.tuple xs) (.tuple ys) (.tuple (xs ++ ys)) := fun G H v u e rx ry Q q => by
  cases rx with
  | @tup a vs _ h1 r1 =>
    cases ry with
    | @tup b ws _ h2 r2 =>
      refine .inr (.inr (.inr ⟨a, b, vs, ws, rfl, rfl, rd_sqt (e.rd h1), rd_sqt (e.rd h2), by rw [r1.length, r2.length]; exact h, fun z => ?_, fun z1 z2 => ?_, fun _ _ p hp => ?_⟩))
      · subst z
        cases r1
        exact q _ G H (Stp.rfl' e) (.tup h2 r2)
      · subst z2
        cases r2
        rw [List.append_nil] at q
        exact q _ G H (Stp.rfl' e) (.tup h1 r1)
      · exact q _ _ _ (Stp.new e hp) (.tup (.inl upd_same) ((r1.app r2).up (Ex.new (e.no hp))))
theorem rv_I0 {g : Int → Int → V} {i j : Int} {d : PyData} (h : ∀ G, Rp G (g i j) d) : RvD (rI0 g) (.int i) (.int j) d := fun G H v u e rx ry Q q => by
  cases rx; cases ry
  exact ⟨i, j, rfl, rfl, q _ G H (Stp.rfl' e) (h G)⟩
theorem rv_I {C : Int → Int → Prop} {g : Int → Int → V} {i j : Int} {d : PyData} (c : C i j) (h : ∀ G, Rp G (g i j) d) : RvD (rI C g) (.int i) (.int j) d := fun G H v u e rx ry Q q => by
  cases rx; cases ry
  exact ⟨i, j, rfl, rfl, c, q _ G H (Stp.rfl' e) (h G)⟩
theorem rv_sub {i j : Int} : RvD (rI0 fun i j => .int (i - j)) (.int i) (.int j) (.int (i - j)) := rv_I0 fun _ => .int _
theorem rv_lt {i j : Int} : RvD (rI0 fun i j => .bl (decide (i < j))) (.int i) (.int j) (.bool (decide (i < j))) := rv_I0 fun _ => .bl _
theorem rv_le {i j : Int} : RvD (rI0 fun i j => .bl (decide (i ≤ j))) (.int i) (.int j) (.bool (decide (i ≤ j))) := rv_I0 fun _ => .bl _
theorem rv_fdiv {i j : Int} (c : CDivN i j) : RvD (rI CDivN fun i j => .int (i.fdiv j)) (.int i) (.int j) (.int (i.fdiv j)) := rv_I c fun _ => .int _
theorem rv_mod {i j : Int} (c : j ≠ 0) : RvD (rI (fun _ j => j ≠ 0) fun i j => .int (i.fmod j)) (.int i) (.int j) (.int (i.fmod j)) := rv_I c fun _ => .int _
theorem rv_pow {i j : Int} (c : CPow i j) : RvD (rI CPow fun i j => .int (i ^ j.toNat)) (.int i) (.int j) (.int (i ^ j.toNat)) := rv_I c fun _ => .int _
end

/-! ### * -/
def rRepR : R2 := fun x y H Q => ∃ l k xs, x = .ref l ∧ y = .int k ∧ Rd H l (.lst xs) ∧ -(2 ^ 63) ≤ k ∧ k < 2 ^ 63 ∧ xs.length * k.toNat ≤ sizeLine ∧
  ∀ p, H p = none → Q (.ref p) (upd H p (.lst (List.replicate k.toNat xs).flatten))
def rMulS : R2 := fun x y H Q => ∃ (z : Str) (k : Int), x = .str z ∧ y = .int k ∧ MulOk z k ∧ Q (.str (Txt.mul z k)) H
def rMulU : R2 := fun x y H Q => rI CMul (fun i j => .int (i * j)) x y H Q ∨ rRepR x y H Q ∨ rMulS x y H Q
section
variable {X : Cx}
theorem op_repR : OpR X (binaryOp .Mult) rRepR := by
  intro pins s σ H x y v u Q I rx ry h
  obtain ⟨l, k, xs, rfl, rfl, hH, h1, h2, hz, q⟩ := h
  cases rx
  obtain ⟨t, rfl⟩ := ry
  obtain ⟨z, its, n, r, e⟩ := hH.ok I.hok
  have hl := r.length
  have hlen : its.toArray.size * k.toNat ≤ sizeLine := by rw [List.size_toArray, ← hl]; exact hz
  have hcap : ¬ its.toArray.size * k.toNat > (2 ^ 63 - 1) / 8 := by
    have : (sizeLine : Nat) ≤ (2 ^ 63 - 1) / 8 := by decide
    omega
  have hfit : ¬ (!Builtin.List.listFitsIndex k) = true := by
    rw [fitsIndex_both h1 h2]
    exact Bool.false_ne_true
  have hlong : ¬ Builtin.List.listTooLong (its.toArray.size * k.toNat) = true := by
    rw [notLongL hlen]
    exact Bool.false_ne_true
  have hnew : List.foldl (fun x1 x2 => x1 ++ x2) #[] (List.replicate (if its.toArray.isEmpty = true then 0 else k.toNat) its.toArray) = (List.replicate k.toNat its).flatten.toArray := by
    have f0 : ∀ m : Nat, List.foldl (fun x1 x2 => x1 ++ x2) #[] (List.replicate m its.toArray) = (List.replicate m its).flatten.toArray := fun m => by
      have := foldl_rep its m []
      rw [List.nil_append] at this
      exact this
    rw [f0]
    cases its with
    | nil => simp
    | cons a r' => rw [if_neg (by simp)]
  refine wpAny_binaryOp_repeat_ref (T := "list") (U := "int") (by decide) ⟨_, e, rfl⟩ (fun s' => typeIs_int s' k t) noFill_list_mul F.fills_int_mul F.slot_int_rmul repeat_list F.slot_int_index.lookup
    (call_meets F.slot_int_rmul (typeIs_int s k t) F.entry_int_rmul (F.args_int_rmul_2 _ _) (int___rmul___int_list k t l its.toArray n)
      ⟨e, rfl, ⟨_, e, rfl⟩, call_meets F.slot_list_mul ⟨_, e, rfl⟩ F.entry_list_mul (F.args_list_mul_2 _ _) (AutoListH.list___mul___list_int_3 l its.toArray n k t hfit hcap hlong) ⟨e, ?_⟩⟩)
  rw [hnew]
  exact ⟨.ref _, _, I.lnew (t' := s.toks) (r.rep k.toNat) (by rw [PyProof.Rows.lm_len_rep_flat, Nat.mul_comm]; exact hz), rfl, q _ I.fresh⟩
theorem op_mulS : OpR X (binaryOp .Mult) rMulS := by
  intro pins s σ H x y v u Q I rx ry h
  obtain ⟨z, k, rfl, rfl, hok, q⟩ := h
  obtain ⟨t, rfl⟩ := rx
  obtain ⟨t', rfl⟩ := ry
  exact PySem.SB.mul hok fun t2 k2 => ⟨.str _, H, I.tok _, ⟨_, rfl⟩, q⟩
theorem op_mulU : OpR X (binaryOp .Mult) rMulU := by
  intro pins s σ H x y v u Q I rx ry h
  rcases h with h | h | h
  · exact op_mul pins s σ H x y v u Q I rx ry h
  · exact op_repR pins s σ H x y v u Q I rx ry h
  · exact op_mulS pins s σ H x y v u Q I rx ry h
end
theorem rv_mulI {i j : Int} (c : CMul i j) : RvD rMulU (.int i) (.int j) (.int (i * j)) := fun G H v u e rx ry Q q => by
  cases rx; cases ry
  exact .inl ⟨i, j, rfl, rfl, c, q _ G H (Stp.rfl' e) (.int _)⟩
theorem rv_mulS {z : Str} {k : Int} (c : MulOk z k) : RvD rMulU (.str z) (.int k) (.str (Txt.mul z k)) := fun G H v u e rx ry Q q => by
  cases rx; cases ry
  exact .inr (.inr ⟨z, k, rfl, rfl, c, q _ G H (Stp.rfl' e) (.str _)⟩)
theorem Rps.rep {G : Hp} {vs : List V} {ds : List PyData} (r : Rps G vs ds) : ∀ n : Nat, Rps G (List.replicate n vs).flatten (List.replicate n ds).flatten
  | 0 => .nil
  | n + 1 => by
    rw [List.replicate_succ, List.replicate_succ, List.flatten_cons, List.flatten_cons]
    exact r.app (Rps.rep r n)
theorem rvN_mulL {xs : List PyData} {k : Int} (h1 : -(2 ^ 63) ≤ k) (h2 : k < 2 ^ 63) (h3 : xs.length * k.toNat ≤ sizeLine) : RvN rMulU (.list xs) (.int k) (List.replicate k.toNat xs).flatten := fun G H v u e rx ry Q q => by
  cases ry
  cases rx with
  | lst hd r => exact .inr (.inl ⟨_, k, _, rfl, rfl, e.rd hd, h1, h2, by rw [r.length]; exact h3, fun p hp => q p _ G _ (Stp.newH e hp) hp (e.no hp) upd_same (r.rep k.toNat)⟩)

/-! ### ==, in, is -/
section
variable {K : PySem.W.Frag}
theorem rv_eqD {x y : PyData} (sx : SeqAt.shaped x = true) (sy : SeqAt.shaped y = true) : RvD (rEqD K) x y (.bool (PyData.eqv x y)) := fun G H v u e rx ry Q q =>
  ⟨x, y, (rx.up e).toDp sx, (ry.up e).toDp sy, sx, sy, q _ G H (Stp.rfl' e) (.bl _)⟩
theorem rv_neD {x y : PyData} (sx : SeqAt.shaped x = true) (sy : SeqAt.shaped y = true) : RvD (rNeD K) x y (.bool (!PyData.eqv x y)) := fun G H v u e rx ry Q q =>
  ⟨x, y, (rx.up e).toDp sx, (ry.up e).toDp sy, sx, sy, q _ G H (Stp.rfl' e) (.bl _)⟩
end
def isNonD : PyData → Bool
  | .none => true
  | _ => false
def isTrueD : PyData → Bool
  | .bool b => b
  | _ => false
def rIsN' : R2 := fun x y H Q => y = .non ∧ Q (.bl (decide (x = .non))) H
def rNotN' : R2 := fun x y H Q => y = .non ∧ Q (.bl (!decide (x = .non))) H
theorem op_isN' {X : Cx} : OpR X (compareOp .Is) rIsN' := op_isN
theorem op_notN' {X : Cx} : OpR X (compareOp .IsNot) rNotN' := op_notN
theorem Rp.isNon {G : Hp} {v : V} {d : PyData} (h : Rp G v d) : decide (v = .non) = isNonD d := by
  cases h <;> rfl
theorem rv_isN {x : PyData} : RvD rIsN' x .none (.bool (isNonD x)) := fun G H v u e rx ry Q q => by
  cases ry
  refine ⟨rfl, ?_⟩
  rw [rx.isNon]
  exact q _ G H (Stp.rfl' e) (.bl _)
theorem rv_notN {x : PyData} : RvD rNotN' x .none (.bool (!isNonD x)) := fun G H v u e rx ry Q q => by
  cases ry
  refine ⟨rfl, ?_⟩
  rw [rx.isNon]
  exact q _ G H (Stp.rfl' e) (.bl _)
theorem rv_isB {a b : Bool} : RvD rIsB (.bool a) (.bool b) (.bool (decide (a = b))) := fun G H v u e rx ry Q q => by
  cases rx; cases ry
  exact ⟨a, b, rfl, rfl, q _ G H (Stp.rfl' e) (.bl _)⟩
/-- in: flat items of a list, a tuple; data in a list; one sign in a text -/
def rInU (K : PySem.W.Frag) : R2 := fun x y H Q => rIn K false x y H Q ∨ rInD K x y H Q ∨ (∃ (c : Nat) (z : Str), x = .str ⟨#[c]⟩ ∧ y = .str z ∧ Q (.bl (decide (c ∈ z.cps.toList))) H)
def rNotInU (K : PySem.W.Frag) : R2 := fun x y H Q => rIn K true x y H Q ∨ rNotInD K x y H Q
section
variable {X : Cx}
theorem op_inU (hu : X.A.units + 65 < cLine) : OpR X (compareOp .In) (rInU X.K) := by
  intro pins s σ H x y v u Q I rx ry h
  rcases h with h | h | h
  · exact op_in_seq pins s σ H x y v u Q I rx ry h
  · exact op_inD hu pins s σ H x y v u Q I rx ry h
  · exact op_in_sign pins s σ H x y v u Q I rx ry h
theorem op_notInU (hu : X.A.units + 65 < cLine) : OpR X (compareOp .NotIn) (rNotInU X.K) := by
  intro pins s σ H x y v u Q I rx ry h
  rcases h with h | h
  · exact op_notIn_seq pins s σ H x y v u Q I rx ry h
  · exact op_notInD hu pins s σ H x y v u Q I rx ry h
end
def eqS : PyData → PyData → Bool
  | .none, .none => true
  | .bool a, .bool b => a == b
  | .bool a, .int b => (if a then 1 else 0) == b
  | .int a, .bool b => a == (if b then 1 else 0)
  | .int a, .int b => a == b
  | .str a, .str b => a == b
  | _, _ => false
theorem Rp.flat {G : Hp} {v : V} {d : PyData} (h : Rp G v d) : flatV v = Sc d := by
  cases h <;> rfl
theorem Rps.flat {G : Hp} : ∀ {vs : List V} {ds : List PyData}, Rps G vs ds → vs.all flatV = ds.all Sc
  | _, _, .nil => rfl
  | _, _, .cons r t => by rw [List.all_cons, List.all_cons, r.flat, Rps.flat t]
theorem Rp.eqS {G : Hp} {v u : V} {d e : PyData} (h : Rp G v d) (k : Rp G u e) (fd : Sc d = true) (fe : Sc e = true) : eqV v u = eqS d e := by
  cases h with
  | lst _ _ => cases fd
  | tup _ _ => cases fd
  | dct _ _ => cases fd
  | _ => cases k with
    | lst _ _ => cases fe
    | tup _ _ => cases fe
    | dct _ _ => cases fe
    | _ => rfl
theorem Rps.inS {G : Hp} {x : V} {d : PyData} (h : Rp G x d) (fd : Sc d = true) : ∀ {vs : List V} {ds : List PyData}, Rps G vs ds → ds.all Sc = true → inV x vs = ds.any fun y => Ck.eqS y d
  | _, _, .nil, _ => rfl
  | _, _, .cons r t, f => by
    rw [List.all_cons, Bool.and_eq_true] at f
    unfold inV
    rw [List.any_cons, List.any_cons, r.eqS h f.1 fd]
    have := Rps.inS h fd t f.2
    unfold inV at this
    rw [this]
section
variable {K : PySem.W.Frag}
theorem rv_inT {x : PyData} {ds : List PyData} (sx : Sc x = true) (sd : ds.all Sc = true) : RvD (rInU K) x (.tuple ds) (.bool (ds.any fun y => eqS y x)) := fun G H v u e rx ry Q q => by
  cases ry with
  | tup hd r =>
    refine .inl ⟨_, _, rfl, .inr (rd_sqt (e.rd hd)), by rw [rx.flat]; exact sx, by rw [r.flat]; exact sd, ?_⟩
    rw [if_neg Bool.false_ne_true, Rps.inS rx sx r sd]
    exact q _ G H (Stp.rfl' e) (.bl _)
theorem rv_notInT {x : PyData} {ds : List PyData} (sx : Sc x = true) (sd : ds.all Sc = true) : RvD (rNotInU K) x (.tuple ds) (.bool (!ds.any fun y => eqS y x)) := fun G H v u e rx ry Q q => by
  cases ry with
  | tup hd r =>
    refine .inl ⟨_, _, rfl, .inr (rd_sqt (e.rd hd)), by rw [rx.flat]; exact sx, by rw [r.flat]; exact sd, ?_⟩
    rw [if_pos rfl, Rps.inS rx sx r sd]
    exact q _ G H (Stp.rfl' e) (.bl _)
theorem rv_inL {x : PyData} {ds : List PyData} (sx : SeqAt.shaped x = true) (sd : SeqAt.shaped (.list ds) = true) : RvD (rInU K) x (.list ds) (.bool (ds.any fun y => PyData.eqv y x)) := fun G H v u e rx ry Q q =>
  .inr (.inl ⟨x, ds, (rx.up e).toDp sx, (ry.up e).toDp sd, sx, sd, q _ G H (Stp.rfl' e) (.bl _)⟩)
theorem rv_notInL {x : PyData} {ds : List PyData} (sx : SeqAt.shaped x = true) (sd : SeqAt.shaped (.list ds) = true) : RvD (rNotInU K) x (.list ds) (.bool (!ds.any fun y => PyData.eqv y x)) := fun G H v u e rx ry Q q =>
  .inr ⟨x, ds, (rx.up e).toDp sx, (ry.up e).toDp sd, sx, sd, q _ G H (Stp.rfl' e) (.bl _)⟩
theorem rv_inS {c : Nat} {z : Str} : RvD (rInU K) (.str ⟨#[c]⟩) (.str z) (.bool (decide (c ∈ z.cps.toList))) := fun G H v u e rx ry Q q => by
  cases rx; cases ry
  exact .inr (.inr ⟨c, z, rfl, rfl, q _ G H (Stp.rfl' e) (.bl _)⟩)
end

/-! ### subscripts, slices -/
section
variable {K : PySem.W.Frag}
theorem rps_atI {G : Hp} {vs : List V} {ds : List PyData} {i : Int} {d : PyData} (r : Rps G vs ds) (h : atI ds i = some d) : ∃ v, atI vs i = some v ∧ Rp G v d := by
  unfold atI at h ⊢
  rw [r.length]
  obtain ⟨j, hj, hd⟩ := Option.bind_eq_some_iff.mp h
  obtain ⟨v, hv, rv⟩ := r.get hd
  exact ⟨v, by rw [hj]; exact hv, rv⟩
theorem rv_ixL {ds : List PyData} {i : Int} {d : PyData} (h : atI ds i = some d) : RvD (rIx K) (.list ds) (.int i) d := fun G H v u e rx ry Q q => by
  cases ry
  cases rx with
  | lst hd r =>
    obtain ⟨w, hw, rw'⟩ := rps_atI r h
    exact .inl ⟨_, _, i, w, rfl, rfl, rd_sql (e.rd hd), hw, q _ G H (Stp.rfl' e) rw'⟩
theorem rv_ixT {ds : List PyData} {i : Int} {d : PyData} (h : atI ds i = some d) : RvD (rIx K) (.tuple ds) (.int i) d := fun G H v u e rx ry Q q => by
  cases ry
  cases rx with
  | tup hd r =>
    obtain ⟨w, hw, rw'⟩ := rps_atI r h
    exact .inr (.inl ⟨_, _, i, w, rfl, rfl, rd_sqt (e.rd hd), hw, q _ G H (Stp.rfl' e) rw'⟩)
theorem rv_ixS {z : Str} {i : Int} {c : Nat} (hz : z.length ≤ sizeLine) (h : atI z.cps.toList i = some c) : RvD (rIx K) (.str z) (.int i) (.str ⟨#[c]⟩) := fun G H v u e rx ry Q q => by
  cases ry; cases rx
  exact .inr (.inr ⟨z, i, c, rfl, rfl, hz, h, q _ G H (Stp.rfl' e) (.str _)⟩)
end
def cutG {α : Type} (xs : List α) (lo hi : Option Int) : List α := (xs.drop (HT.sIx xs.length 0 lo)).take (HT.sIx xs.length xs.length hi - HT.sIx xs.length 0 lo)
theorem Rps.cut {G : Hp} {vs : List V} {ds : List PyData} (r : Rps G vs ds) (lo hi : Option Int) : Rps G (cutV vs lo hi) (cutG ds lo hi) := by
  unfold cutV cutG
  rw [r.length]
  exact (r.drop _).take _
theorem cutG_whole {α : Type} (xs : List α) {lo hi : Option Int} (h : HT.sIx xs.length 0 lo = 0 ∧ HT.sIx xs.length xs.length hi = xs.length) : cutG xs lo hi = xs := by
  unfold cutG
  rw [h.1, h.2, List.drop_zero, Nat.sub_zero, List.take_length]
def rSlS : V → Option Int → Option Int → Hp → VK → Prop := fun x lo hi H Q => ∃ z, x = .str z ∧ z.length ≤ sizeLine ∧ Q (.str (cutS z lo hi)) H
def rSlU (K : PySem.W.Frag) : V → Option Int → Option Int → Hp → VK → Prop := fun x lo hi H Q => rSlL K x lo hi H Q ∨ rSlA K x lo hi H Q ∨ rSlS x lo hi H Q
theorem sl_U {X : Cx} : SlR X (rSlU X.K) := sl_list.or (sl_tupA.or sl_str)
section
variable {K : PySem.W.Frag}
theorem rsN_L {ds : List PyData} {lo hi : Option Int} : RsN (rSlU K) (.list ds) lo hi (cutG ds lo hi) := fun G H v e rx Q q => by
  cases rx with
  | lst hd r => exact .inl ⟨_, _, rfl, rd_sql (e.rd hd), fun p hp => q p _ G _ (Stp.newH e hp) hp (e.no hp) upd_same (r.cut lo hi)⟩
theorem rs_T {ds : List PyData} {lo hi : Option Int} : RsD (rSlU K) (.tuple ds) lo hi (.tuple (cutG ds lo hi)) := fun G H v e rx Q q => by
  cases rx with
  | @tup a vs _ hd r =>
    refine .inr (.inl ⟨a, vs, rfl, rd_sqt (e.rd hd), fun w => ?_, fun _ p hp => ?_⟩)
    · rw [r.length] at w
      rw [cutG_whole ds w] at q
      exact q _ G H (Stp.rfl' e) (.tup hd r)
    · exact q _ _ _ (Stp.new e hp) (.tup (.inl upd_same) ((r.cut lo hi).up (Ex.new (e.no hp))))
theorem rs_S {z : Str} {lo hi : Option Int} (hz : z.length ≤ sizeLine) : RsD (rSlU K) (.str z) lo hi (.str (cutS z lo hi)) := fun G H v e rx Q q => by
  cases rx
  exact .inr (.inr ⟨z, rfl, hz, q _ G H (Stp.rfl' e) (.str _)⟩)
end

/-! ### calls of built-ins -/
def rLenV (K : PySem.W.Frag) : List V → Hp → VK → Prop := fun xs H Q => ∃ x n, xs = [x] ∧ LenV K x H n ∧ Q (.int n) H
theorem call_lenV {X : Cx} : CallR X (.builtin "len") (rLenV X.K) := call_len
def rListV (K : PySem.W.Frag) : List V → Hp → VK → Prop := fun xs H Q => ∃ p ys, xs = [.ref p] ∧ (SqL K H p ys ∨ SqT K H p ys) ∧ ∀ l, H l = none → Q (.ref l) (upd H l (.lst ys))
theorem call_listV {X : Cx} : CallR X (.type "list") (rListV X.K) := call_list_of
def rMax2V : List V → Hp → VK → Prop := fun xs H Q => ∃ i j, xs = [.int i, .int j] ∧ Q (.int (if j > i then j else i)) H
def rMin2V : List V → Hp → VK → Prop := fun xs H Q => ∃ i j, xs = [.int i, .int j] ∧ Q (.int (if j < i then j else i)) H
def rInt1V : List V → Hp → VK → Prop := fun xs H Q => (∃ i, xs = [.int i] ∧ Q (.int i) H) ∨ ∃ k, xs = [.bl k] ∧ Q (.int (if k then 1 else 0)) H
theorem call_max2V {X : Cx} (hc : X.calm = true) : CallR X (.builtin "max") rMax2V := call_max2 hc
theorem call_min2V {X : Cx} (hc : X.calm = true) : CallR X (.builtin "min") rMin2V := call_min2 hc
theorem call_int1V {X : Cx} : CallR X (.type "int") rInt1V := call_int1
section
variable {K : PySem.W.Frag} {Γ : List Sl} {ta tb : TE}
theorem rc_lenL {ds : List PyData} : RcD (rLenV K) [.list ds] (.int ds.length) := fun G H vs e r Q q => by
  cases r with
  | cons r1 r2 =>
    cases r2
    cases r1 with
    | lst hd r => exact ⟨_, ds.length, rfl, .inl ⟨_, rd_sql (e.rd hd), r.length.symm⟩, q _ G H (Stp.rfl' e) (.int _)⟩
theorem rc_lenT {ds : List PyData} : RcD (rLenV K) [.tuple ds] (.int ds.length) := fun G H vs e r Q q => by
  cases r with
  | cons r1 r2 =>
    cases r2
    cases r1 with
    | tup hd r => exact ⟨_, ds.length, rfl, .inr ⟨_, rd_sqt (e.rd hd), r.length.symm⟩, q _ G H (Stp.rfl' e) (.int _)⟩
theorem rc_lenS {z : Str} (hz : z.length ≤ sizeLine) : RcD (rLenV K) [.str z] (.int z.length) := fun G H vs e r Q q => by
  cases r with
  | cons r1 r2 =>
    cases r2
    cases r1
    exact ⟨_, z.length, rfl, ⟨hz, rfl⟩, q _ G H (Stp.rfl' e) (.int _)⟩
theorem rcN_listL {ds : List PyData} : RcN (rListV K) [.list ds] ds := fun G H vs e r Q q => by
  cases r with
  | cons r1 r2 =>
    cases r2
    cases r1 with
    | lst hd r => exact ⟨_, _, rfl, .inl (rd_sql (e.rd hd)), fun l hl => q l _ G _ (Stp.newH e hl) hl (e.no hl) upd_same r⟩
theorem rcN_listT {ds : List PyData} : RcN (rListV K) [.tuple ds] ds := fun G H vs e r Q q => by
  cases r with
  | cons r1 r2 =>
    cases r2
    cases r1 with
    | tup hd r => exact ⟨_, _, rfl, .inr (rd_sqt (e.rd hd)), fun l hl => q l _ G _ (Stp.newH e hl) hl (e.no hl) upd_same r⟩
theorem rc_max2 {i j : Int} : RcD rMax2V [.int i, .int j] (.int (max i j)) := fun G H vs e r Q q => by
  cases r with
  | cons r1 r2 =>
    cases r2 with
    | cons r2 r3 =>
      cases r3; cases r1; cases r2
      refine ⟨i, j, rfl, ?_⟩
      have : (if j > i then j else i) = max i j := by omega
      rw [this]
      exact q _ G H (Stp.rfl' e) (.int _)
theorem rc_min2 {i j : Int} : RcD rMin2V [.int i, .int j] (.int (min i j)) := fun G H vs e r Q q => by
  cases r with
  | cons r1 r2 =>
    cases r2 with
    | cons r2 r3 =>
      cases r3; cases r1; cases r2
      refine ⟨i, j, rfl, ?_⟩
      have : (if j < i then j else i) = min i j := by omega
      rw [this]
      exact q _ G H (Stp.rfl' e) (.int _)
theorem rc_intB {b : Bool} : RcD rInt1V [.bool b] (.int (if b then 1 else 0)) := fun G H vs e r Q q => by
  cases r with
  | cons r1 r2 =>
    cases r2; cases r1
    exact .inr ⟨b, rfl, q _ G H (Stp.rfl' e) (.int _)⟩
theorem rc_sum {ns : List Int} : RcD (rSum K) [.list (ns.map .int)] (.int ns.sum) := fun G H vs e r Q q => by
  cases r with
  | cons r1 r2 =>
    cases r2
    cases r1 with
    | lst hd r =>
      have e1 := r.ints
      subst e1
      exact ⟨_, ns, rfl, rd_sql (e.rd hd), q _ G H (Stp.rfl' e) (.int _)⟩
theorem rc_maxL {ns : List Int} {m : Int} (h0 : 0 < ns.length) (hm : ∀ k, k ∈ ns → (∀ y, y ∈ ns → y ≤ k) → k = m) : RcD (rMax K) [.list (ns.map .int)] (.int m) := fun G H vs e r Q q => by
  cases r with
  | cons r1 r2 =>
    cases r2
    cases r1 with
    | lst hd r =>
      have e1 := r.ints
      subst e1
      refine ⟨_, ns, rfl, rd_sql (e.rd hd), h0, fun k hk hle => ?_⟩
      rw [hm k hk hle]
      exact q _ G H (Stp.rfl' e) (.int _)
theorem rc_all {bs : List Bool} : RcD (rAll K) [.list (bs.map .bool)] (.bool (bs.all id)) := fun G H vs e r Q q => by
  cases r with
  | cons r1 r2 =>
    cases r2
    cases r1 with
    | lst hd r =>
      have e1 := r.bls
      subst e1
      exact ⟨_, bs, rfl, rd_sql (e.rd hd), q _ G H (Stp.rfl' e) (.bl _)⟩
theorem rcN_sorted {ns ns' : List Int} (h64 : ns.length < 64) (hp : ns'.Perm ns) (hs : ns'.Pairwise (· ≤ ·)) : RcN (rSorted K) [.list (ns.map .int)] (ns'.map .int) := fun G H vs e r Q q => by
  cases r with
  | cons r1 r2 =>
    cases r2
    cases r1 with
    | lst hd r =>
      have e1 := r.ints
      subst e1
      refine ⟨_, ns, rfl, rd_sql (e.rd hd), h64, fun ms p hpm hsm hn => ?_⟩
      have e2 : ms = ns' := by
        have hperm := hpm.trans hp.symm
        exact List.Perm.eq_of_pairwise (fun a b _ _ h1 h2 => Int.le_antisymm h1 h2) hsm hs hperm
      subst e2
      exact q p _ G _ (Stp.newH e hn) hn (e.no hn) upd_same (Rps.ofInts _)
/-! isinstance with a built-in class -/
def tyNm : PyData → String
  | .none => "NoneType"
  | .bool _ => "bool"
  | .int _ => "int"
  | .str _ => "str"
  | .list _ => "list"
  | .tuple _ => "tuple"
  | .dict _ => "dict"
theorem Rp.ty {G : Hp} {v : V} {d : PyData} (h : Rp G v d) : TyX K G v (.type (tyNm d)) := by
  cases h with
  | non => exact .base .non
  | bl b => exact .base (.bl b)
  | int i => exact .base (.int i)
  | str x => exact .base (.str x)
  | lst h r =>
    rcases h with h | ⟨o, h⟩
    · exact .base (.lst h)
    · exact .base (.frz h)
  | tup h r =>
    rcases h with h | ⟨o, h⟩
    · exact .base (.tup h)
    · exact .fTuple h
  | dct h _ => exact .base (.dK h)
theorem ev_isi {n : String} {d : PyData} {b : Bool} (h : Ev ta Γ d) (hb : kitB (tyNm d) n = some b) : Ev (tCB (rIsi K) (tCons ta (tCons (tC (.ty n)) tNil))) Γ (.bool b) := fun B G σ H ok Q q =>
  h B G σ H ok _ fun v G1 H1 s1 r1 => ⟨v, .ty n, .type (tyNm d), .type n, b, rfl, .ty n, (r1.up s1.gh).ty, kit_ty hb, q _ G1 H1 s1 (.bl b)⟩
end

/-! ### in a range -/
def rRange1 : List V → Hp → VK → Prop := fun vs H Q => ∃ j, vs = [V.int j] ∧ ∀ p, H p = none → Q (.ref p) (upd H p (.rng 0 j))
def rInR : R2 := fun x y H Q => ∃ i a lo hi, x = V.int i ∧ y = V.ref a ∧ H a = some (.rng lo hi) ∧ Q (.bl (decide (lo ≤ i ∧ i < hi))) H
def rNotInR : R2 := fun x y H Q => ∃ i a lo hi, x = V.int i ∧ y = V.ref a ∧ H a = some (.rng lo hi) ∧ Q (.bl (!decide (lo ≤ i ∧ i < hi))) H
section
variable {X : Cx}
theorem cr_range1 : CallR X (.type "range") rRange1 := by
  intro pins s σ H xs us Q I r h
  obtain ⟨j, rfl, q⟩ := h
  obtain ⟨u1, rfl, t, rfl⟩ := vals1 r
  refine call_range_1 ⟨.ref _, upd H _ (.rng 0 j), I.laid (fun b o e => Heap.get?_push_of_some _ e) (Nat.le_refl _) ?_, rfl, q _ (I.hok.fresh (Nat.le_refl _))⟩
  exact ⟨_, _, _, Heap.get?_push_size _ rfl⟩
theorem op_inR : OpR X (compareOp .In) rInR := op_in_rng
theorem op_notInR : OpR X (compareOp .NotIn) rNotInR := by
  intro pins s σ H x y v u Q I rx ry h
  obtain ⟨i, a, lo, hi, rfl, rfl, ha, q⟩ := h
  obtain ⟨k, rfl⟩ := rx
  obtain rfl : u = Value.ref a := ry
  obtain ⟨t1, t2, t3, ho⟩ := I.hok a _ ha
  show wpAny _ _ (do return Value.bool (!(← contains (Value.ref a) (Value.int i k)))) _ _ s
  refine wpAny_bind (wpAny_contains_slot (T := "range") ⟨_, ho, rfl⟩ F.slot_range_contains (call_meets F.slot_range_contains ⟨_, ho, rfl⟩ F.entry_range_contains (F.args_range_contains_2 _ _) (q_contains a lo hi i t1 t2 t3 k)
    ⟨ho, wpAny_truthy_bool (wpAny_pure ⟨.bl _, H, I, rfl, ?_⟩)⟩))
  rw [place1]
  exact q
end
section
variable {Γ : List Sl} {ta tn : TE} {i n : Int}
theorem ev_inR (h : Ev ta Γ (.int i)) (hn : Ev tn Γ (.int n)) : Ev (tOp rInR ta (tCB rRange1 (tCons tn tNil))) Γ (.bool (decide (0 ≤ i ∧ i < n))) := fun B G σ H ok Q q =>
  h B G σ H ok _ fun v G1 H1 s1 r1 => hn B G1 σ H1 (ok.step s1) _ fun u G2 H2 s2 r2 => by
    cases r1; cases r2
    exact ⟨n, rfl, fun p hp => ⟨i, p, 0, n, rfl, rfl, upd_same, q _ _ _ ((s1.tr s2).tr (Stp.newH s2.gh hp)) (.bl _)⟩⟩
theorem ev_notInR (h : Ev ta Γ (.int i)) (hn : Ev tn Γ (.int n)) : Ev (tOp rNotInR ta (tCB rRange1 (tCons tn tNil))) Γ (.bool (!decide (0 ≤ i ∧ i < n))) := fun B G σ H ok Q q =>
  h B G σ H ok _ fun v G1 H1 s1 r1 => hn B G1 σ H1 (ok.step s1) _ fun u G2 H2 s2 r2 => by
    cases r1; cases r2
    exact ⟨n, rfl, fun p hp => ⟨i, p, 0, n, rfl, rfl, upd_same, q _ _ _ ((s1.tr s2).tr (Stp.newH s2.gh hp)) (.bl _)⟩⟩
end
end Ck

namespace Ck
open PySem PySem.Spec PyProof.Rows L2

/-! ### the defs of the text -/
abbrev FnP (K : PySem.W.Frag) (x : Str) (st : Stmt) (f : Addr) (fd : FuncData) : Prop := FunD K x x (defArgs st) (defBody st) (defScope st) [] [] f fd
def Has (K : PySem.W.Frag) (mg : Str → Option Value) (x : Str) (st : Stmt) : Prop := ∃ f fd, FnP K x st f fd ∧ mg x = some (.ref f)
structure Def (P : Program) (w : World) (K : PySem.W.Frag) (mg : Str → Option Value) (base : Heap) (CX : CXT) (k : Nat) (x : Str) (ps : List Str) (sp : Sp) : Prop where
  ex : ∃ f fd, mg x = some (.ref f) ∧ PySem.W.keepIn K (.ref f) = true ∧ Binds K fd ps [] ∧ FnOk P w K mg base CX k f fd ps sp ∧ ∃ oc od osl, K.lookup f = some ⟨oc, od, .func fd, osl⟩
theorem passX0 {X : Cx} : Passes (L2.CX X.prog X.w) X E0 := fun _ _ _ _ _ _ _ h => by
  obtain ⟨_, _, _, _, _, _, _, _, _, _, _, _, z⟩ := h
  exact z.elim
/-- every parameter is written -/
abbrev BindsP (x : Str) (st : Stmt) (ps : List Str) : Prop := ∀ (kV doc pm : Value) (an : Option Addr) (cdv ct : Value) (us : List Value), us.length = ps.length →
  bindArgs (PySem.W.fnOf x x (defArgs st) (defBody st) (defScope st) .none kV doc pm an cdv ct) ⟨us, []⟩ = pure (ps.zip us)
section
variable {P : Program} {w : World} {K : PySem.W.Frag} {mg : Str → Option Value} {base : Heap} {x : Str} {st : Stmt} {N ps : List Str} {k n : Nat}
/-- what a returned value must bring -/
abbrev RtOk (B : Bs) (Q : VK) (d : PyData) : Prop := ∀ v G H, Stp B.g0 B.h0 G H → Rp G v d → Q v H
abbrev BodyP (N n : Nat) (R : List PyData → PyData → Prop) (t : TS) : Prop := ∀ (ds : List PyData) (d : PyData) (B : Bs) (Q : VK), ds.length = n → R ds d → RtOk B Q d → At B (sls N ds) (t { nx := fun _ H' => Q .non H', rt := Q })
theorem mk_def {CX : CXT} {sp : Sp} (h : Has K mg x st) (hb : BindsP x st ps) (S : FnScope N ps (defScope st)) (len : ∀ vs H Q E, sp vs H Q E → vs.length = ps.length)
    (hbody : ∀ (f : Addr) (cdv : Value) (A : Around) (outer : List Env) (s : Shared) (H : Hp) (vs : List V) (Q : VK) (E : XK), Room k (A.deeper (envOfC x (defScope st) s.heap.objs.size f cdv)) → sp vs H Q E →
      ∃ t, PSs (cxOf CX P w K mg base N x (defScope st) f cdv A outer s H E) (defBody st) t ∧ t { nx := fun _ H' => Q .non H', rt := Q } (L2.start N vs) H) : Def P w K mg base CX (k + 1) x ps sp := by
  obtain ⟨f, fd, F, g⟩ := h
  obtain ⟨oc, od, _, _, _, _, _, _, _, osl, _, lk, _⟩ := F.ex
  exact ⟨f, fd, g, F.kp, F.bindsN hb, F.ok S len fun cdv A outer s H vs Q E hr hsp => hbody f cdv A outer s H vs Q E hr hsp, oc, od, osl, lk⟩
/-- a def that raises nothing -/
theorem mkP {R : List PyData → PyData → Prop} (h : Has K mg x st) (hb : BindsP x st ps) (S : FnScope N ps (defScope st)) (hn : ps.length = n)
    (hbody : ∀ (f : Addr) (cdv : Value) (A : Around) (outer : List Env) (s : Shared) (H : Hp) (E : XK), Room k (A.deeper (envOfC x (defScope st) s.heap.objs.size f cdv)) →
      ∃ t, PSs (cxOf CX0 P w K mg base N x (defScope st) f cdv A outer s H E).nox (defBody st) t ∧ BodyP N.length n R t) : Def P w K mg base CX0 (k + 1) x ps (spP n R) :=
  mk_def h hb S (fun vs H Q E z => (spP_len z).trans hn.symm) fun f cdv A outer s H vs Q E hr hsp => by
    obtain ⟨t, h1, h2⟩ := hbody f cdv A outer s H E hr
    exact ⟨t, h1.nox, spP_body (N := N) (fun ds d B Q hl hR q => h2 ds d B Q hl hR q) hsp⟩
end
section
variable {X : Cx} {j k : Nat} {x : Str} {ps : List Str} {sp : Sp} {p pos : Pos} {e : Expr} {es : List Expr} {t : TA} {E : XK}
theorem pe_callD (D : Def X.prog X.w X.K X.mg X.base CX0 j x ps sp) (hr : Room k X.A) (ha : PA X (e :: es) t) (hj : j ≤ k := by decide) (hg : Gl X x := by rfl) (hdb : (x == ("__debug__" : Str)) = false := by decide)
    (he : starEach (e :: es) X.env = (false, eval e X.env) :: starEach es X.env := by rfl) (hpl : (backTo pos (starEach es X.env)).any (·.1) = false := by rfl) : PE X (.Call (.Name x p) (e :: es) [] pos) (tCall sp [] E0 t) := by
  obtain ⟨f, fd, hm, hk, hb, F, _⟩ := D.ex
  exact pe_call F (hr.mono hj) hg hm hk hb .nil pass0 ha hdb he hpl
/-- of a def that may raise, where it is known that it does not -/
theorem pe_callD0 (D : Def X.prog X.w X.K X.mg X.base (L2.CX X.prog X.w) j x ps sp) (hr : Room k X.A) (ha : PA X (e :: es) t) (hj : j ≤ k := by decide) (hg : Gl X x := by rfl) (hdb : (x == ("__debug__" : Str)) = false := by decide)
    (he : starEach (e :: es) X.env = (false, eval e X.env) :: starEach es X.env := by rfl) (hpl : (backTo pos (starEach es X.env)).any (·.1) = false := by rfl) : PE X (.Call (.Name x p) (e :: es) [] pos) (tCall sp [] E0 t) := by
  obtain ⟨f, fd, hm, hk, hb, F, _⟩ := D.ex
  exact pe_call F (hr.mono hj) hg hm hk hb .nil passX0 ha hdb he hpl
/-- .. which leaves this def, too -/
theorem pe_callDX (D : Def X.prog X.w X.K X.mg X.base (L2.CX X.prog X.w) j x ps sp) (hr : Room k X.A) (tk : Takes X fun cls d _ H => E cls d H) (ha : PA X (e :: es) t) (hj : j ≤ k := by decide) (hg : Gl X x := by rfl) (hdb : (x == ("__debug__" : Str)) = false := by decide)
    (he : starEach (e :: es) X.env = (false, eval e X.env) :: starEach es X.env := by rfl) (hpl : (backTo pos (starEach es X.env)).any (·.1) = false := by rfl) : PE X (.Call (.Name x p) (e :: es) [] pos) (tCall sp [] E t) := by
  obtain ⟨f, fd, hm, hk, hb, F, _⟩ := D.ex
  exact pe_call F (hr.mono hj) hg hm hk hb .nil (passes_call tk fun _ _ _ _ h => h) ha hdb he hpl
/-- .. in a try's body -/
theorem pe_callDS {W : WX} (D : Def X.prog X.w X.K X.mg X.base (L2.CX X.prog X.w) j x ps sp) (hr : Room k X.A) (tk : Takes X W) (ha : PA X (e :: es) t) (hj : j ≤ k := by decide) (hg : Gl X x := by rfl) (hdb : (x == ("__debug__" : Str)) = false := by decide)
    (he : starEach (e :: es) X.env = (false, eval e X.env) :: starEach es X.env := by rfl) (hpl : (backTo pos (starEach es X.env)).any (·.1) = false := by rfl) : PE X (.Call (.Name x p) (e :: es) [] pos) (tCallS sp (WE W) t) := by
  obtain ⟨f, fd, hm, hk, hb, F, _⟩ := D.ex
  exact pe_callS F (hr.mono hj) hg hm hk hb (fun σ => passAt tk σ) ha hdb he hpl
theorem hu64 {A : Around} (hr : Room k A) : A.units + 64 < cLine := by have := hr.un; omega
theorem hu65 {A : Around} (hr : Room k A) : A.units + 65 < cLine := by have := hr.un; omega
theorem hu1 {A : Around} (hr : Room k A) : A.units + 1 < cLine := by have := hr.un; omega
end
end Ck

namespace Ck
open PySem PySem.Spec PyProof.Rows L2

section
variable {K : PySem.W.Frag} {Γ : List Sl} {ta tb te : TE} {x y z : PyData} {ds xs ys : List PyData} {b c : Bool} {i : Nat} {r : R2}
theorem RvN.d (h : RvN r x y ds) : RvD r x y (.list ds) := fun G H v u e rx ry Q q => h G H v u e rx ry Q fun a vs G' H' s h0 hg hh rr => q (.ref a) _ H' (s.give h0 hg hh) (.lst (.inl upd_same) (rr.up (Ex.new hg)))
theorem RcN.d {r : List V → Hp → VK → Prop} (h : RcN r xs ds) : RcD r xs (.list ds) := fun G H vs e rx Q q => h G H vs e rx Q fun a vs G' H' s h0 hg hh rr => q (.ref a) _ H' (s.give h0 hg hh) (.lst (.inl upd_same) (rr.up (Ex.new hg)))
theorem RsN.d {r : V → Option Int → Option Int → Hp → VK → Prop} {lo hi : Option Int} (h : RsN r x lo hi ds) : RsD r x lo hi (.list ds) := fun G H v e rx Q q => h G H v e rx Q fun a vs G' H' s h0 hg hh rr => q (.ref a) _ H' (s.give h0 hg hh) (.lst (.inl upd_same) (rr.up (Ex.new hg)))
variable {d : PyData}
theorem rv_modP {i j : Int} (c : 0 < j) : RvD (rI (fun _ j => 0 < j) fun i j => .int (i % j)) (.int i) (.int j) (.int (i % j)) := rv_I c fun _ => .int _
theorem rv_fdivP {i j : Int} (c : CDiv i j) : RvD (rI CDiv fun i j => .int (i / j)) (.int i) (.int j) (.int (i / j)) := rv_I c fun _ => .int _
theorem rv_gt {i j : Int} : RvD (rI0 fun i j => .bl (decide (j < i))) (.int i) (.int j) (.bool (decide (j < i))) := rv_I0 fun _ => .bl _
theorem rv_ge {i j : Int} : RvD (rI0 fun i j => .bl (decide (j ≤ i))) (.int i) (.int j) (.bool (decide (j ≤ i))) := rv_I0 fun _ => .bl _
theorem ru_neg {n : Int} : RuD (rU fun i => .int (-i)) (.int n) (.int (-n)) := fun G H v e rx Q q => by
  cases rx; exact ⟨n, rfl, q _ G H (Stp.rfl' e) (.int _)⟩

/-! shapes -/
structure Shp (n : Nat) (d : PyData) : Prop where
  lay : d.canLay0 = true
  dep : d.depth ≤ n
theorem Shp.sh {n : Nat} (h : Shp n d) (hn : n ≤ 64 := by decide) : SeqAt.shaped d = true := by
  unfold SeqAt.shaped
  rw [h.lay, decide_eq_true (Nat.le_trans h.dep hn)]; rfl
theorem Shp.mono {n m : Nat} (h : Shp n d) (hn : n ≤ m) : Shp m d := ⟨h.lay, Nat.le_trans h.dep hn⟩
theorem shp_int {n : Nat} {k : Int} : Shp n (.int k) := ⟨by simp [PyData.canLay0], by simp [PyData.depth]⟩
theorem shp_bool {n : Nat} {k : Bool} : Shp n (.bool k) := ⟨by simp [PyData.canLay0], by simp [PyData.depth]⟩
theorem shp_none {n : Nat} : Shp n .none := ⟨by simp [PyData.canLay0], by simp [PyData.depth]⟩
theorem shp_str {n : Nat} {k : Str} (h : PyData.strOk k = true) : Shp n (.str k) := ⟨by simp [PyData.canLay0, h], by simp [PyData.depth]⟩
theorem layAll_of : ∀ {ds : List PyData}, (∀ x ∈ ds, x.canLay0 = true) → PyData.canLayAll0 ds = true
  | [], _ => by simp [PyData.canLayAll0]
  | x :: xs, h => by
    simp only [PyData.canLayAll0, Bool.and_eq_true]
    exact ⟨h x List.mem_cons_self, layAll_of fun y hy => h y (List.mem_cons_of_mem _ hy)⟩
theorem depAll_of {n : Nat} : ∀ {ds : List PyData}, (∀ x ∈ ds, x.depth ≤ n) → PyData.depthAll ds ≤ n
  | [], _ => by simp [PyData.depthAll]
  | x :: xs, h => by
    simp only [PyData.depthAll]
    have h1 := h x List.mem_cons_self
    have h2 := depAll_of (n := n) fun y hy => h y (List.mem_cons_of_mem _ hy)
    omega
theorem shp_list {n : Nat} (h : ∀ x ∈ ds, Shp n x) : Shp (n + 1) (.list ds) := ⟨by simp only [PyData.canLay0]; exact layAll_of fun x hx => (h x hx).lay, by simp only [PyData.depth]; exact Nat.succ_le_succ (depAll_of fun x hx => (h x hx).dep)⟩
theorem shp_tuple {n : Nat} (h : ∀ x ∈ ds, Shp n x) : Shp (n + 1) (.tuple ds) := ⟨by simp only [PyData.canLay0]; exact layAll_of fun x hx => (h x hx).lay, by simp only [PyData.depth]; exact Nat.succ_le_succ (depAll_of fun x hx => (h x hx).dep)⟩
theorem shp_mem {n : Nat} {ds : List PyData} {y : PyData} (h : Shp n (.list ds)) (hy : y ∈ ds) : Shp n y := by
  obtain ⟨h1, h2⟩ := h
  simp only [PyData.canLay0] at h1
  simp only [PyData.depth] at h2
  have key : ∀ {ds : List PyData}, PyData.canLayAll0 ds = true → y ∈ ds → y.canLay0 = true ∧ y.depth ≤ PyData.depthAll ds := by
    intro ds
    induction ds with
    | nil => intro _ h; cases h
    | cons x xs ih =>
      intro h hy
      simp only [PyData.canLayAll0, Bool.and_eq_true] at h
      simp only [PyData.depthAll]
      rcases List.mem_cons.mp hy with rfl | hy
      · exact ⟨h.1, by omega⟩
      · have := ih h.2 hy
        exact ⟨this.1, by omega⟩
  have := key h1 hy
  exact ⟨this.1, by omega⟩
/-! eqv of scalars -/
theorem eqv_int {m n : Int} : PyData.eqv (.int m) (.int n) = decide (m = n) := by simp only [PyData.eqv, Bool.beq_eq_decide_eq]
theorem eqv_str {m n : Str} : PyData.eqv (.str m) (.str n) = decide (m = n) := by
  simp only [PyData.eqv]
  by_cases h : m = n
  · subst h; simp
  · rw [decide_eq_false h]; exact beq_eq_false_iff_ne.mpr h
theorem rv_eqI {m n : Int} : RvD (rEqD K) (.int m) (.int n) (.bool (decide (m = n))) := by
  have h := rv_eqD (K := K) (x := .int m) (y := .int n) (shp_int (n := 0)).sh (shp_int (n := 0)).sh
  rw [eqv_int] at h; exact h
theorem rv_neI {m n : Int} : RvD (rNeD K) (.int m) (.int n) (.bool (!decide (m = n))) := by
  have h := rv_neD (K := K) (x := .int m) (y := .int n) (shp_int (n := 0)).sh (shp_int (n := 0)).sh
  rw [eqv_int] at h; exact h
theorem rv_eqS {m n : Str} (h1 : PyData.strOk m = true) (h2 : PyData.strOk n = true) : RvD (rEqD K) (.str m) (.str n) (.bool (decide (m = n))) := by
  have h := rv_eqD (K := K) (x := .str m) (y := .str n) (shp_str (n := 0) h1).sh (shp_str (n := 0) h2).sh
  rw [eqv_str] at h; exact h
theorem rv_neS {m n : Str} (h1 : PyData.strOk m = true) (h2 : PyData.strOk n = true) : RvD (rNeD K) (.str m) (.str n) (.bool (!decide (m = n))) := by
  have h := rv_neD (K := K) (x := .str m) (y := .str n) (shp_str (n := 0) h1).sh (shp_str (n := 0) h2).sh
  rw [eqv_str] at h; exact h
theorem eqv_bool {m n : Bool} : PyData.eqv (.bool m) (.bool n) = (m == n) := by simp only [PyData.eqv]
theorem rv_eqB {m n : Bool} : RvD (rEqD K) (.bool m) (.bool n) (.bool (m == n)) := by
  have h := rv_eqD (K := K) (x := .bool m) (y := .bool n) (shp_bool (n := 0)).sh (shp_bool (n := 0)).sh
  rw [eqv_bool] at h; exact h
theorem rv_neB {m n : Bool} : RvD (rNeD K) (.bool m) (.bool n) (.bool (!(m == n))) := by
  have h := rv_neD (K := K) (x := .bool m) (y := .bool n) (shp_bool (n := 0)).sh (shp_bool (n := 0)).sh
  rw [eqv_bool] at h; exact h
/-- a list against [] -/
theorem eqv_nil {ds : List PyData} : PyData.eqv (.list ds) (.list []) = ds.isEmpty := by
  cases ds <;> simp [PyData.eqv, PyData.eqvAll]
theorem rv_eqNil (h : ∃ n, n ≤ 64 ∧ Shp n (.list ds)) : RvD (rEqD K) (.list ds) (.list []) (.bool ds.isEmpty) := by
  obtain ⟨n, hn, h⟩ := h
  have h := rv_eqD (K := K) (h.sh hn) (shp_list (n := 0) (ds := []) fun x hx => by cases hx).sh
  rw [eqv_nil] at h; exact h
theorem rv_neNil (h : ∃ n, n ≤ 64 ∧ Shp n (.list ds)) : RvD (rNeD K) (.list ds) (.list []) (.bool (!ds.isEmpty)) := by
  obtain ⟨n, hn, h⟩ := h
  have h := rv_neD (K := K) (h.sh hn) (shp_list (n := 0) (ds := []) fun x hx => by cases hx).sh
  rw [eqv_nil] at h; exact h

/-! isinstance -/
def isIntD : PyData → Bool | .int _ => true | .bool _ => true | _ => false
def isBoolD : PyData → Bool | .bool _ => true | _ => false
def isStrD : PyData → Bool | .str _ => true | _ => false
def isListD : PyData → Bool | .list _ => true | _ => false
def isTupD : PyData → Bool | .tuple _ => true | _ => false
def isDictD : PyData → Bool | .dict _ => true | _ => false
theorem k_Int (d : PyData) : kitB (tyNm d) "int" = some (isIntD d) := by
  cases d
  · exact (by decide +kernel : kitB "NoneType" "int" = some false)
  · exact (by decide +kernel : kitB "bool" "int" = some true)
  · exact (by decide +kernel : kitB "int" "int" = some true)
  · exact (by decide +kernel : kitB "str" "int" = some false)
  · exact (by decide +kernel : kitB "list" "int" = some false)
  · exact (by decide +kernel : kitB "tuple" "int" = some false)
  · exact (by decide +kernel : kitB "dict" "int" = some false)
theorem k_Bool (d : PyData) : kitB (tyNm d) "bool" = some (isBoolD d) := by
  cases d
  · exact (by decide +kernel : kitB "NoneType" "bool" = some false)
  · exact (by decide +kernel : kitB "bool" "bool" = some true)
  · exact (by decide +kernel : kitB "int" "bool" = some false)
  · exact (by decide +kernel : kitB "str" "bool" = some false)
  · exact (by decide +kernel : kitB "list" "bool" = some false)
  · exact (by decide +kernel : kitB "tuple" "bool" = some false)
  · exact (by decide +kernel : kitB "dict" "bool" = some false)
theorem k_Str (d : PyData) : kitB (tyNm d) "str" = some (isStrD d) := by
  cases d
  · exact (by decide +kernel : kitB "NoneType" "str" = some false)
  · exact (by decide +kernel : kitB "bool" "str" = some false)
  · exact (by decide +kernel : kitB "int" "str" = some false)
  · exact (by decide +kernel : kitB "str" "str" = some true)
  · exact (by decide +kernel : kitB "list" "str" = some false)
  · exact (by decide +kernel : kitB "tuple" "str" = some false)
  · exact (by decide +kernel : kitB "dict" "str" = some false)
theorem k_List (d : PyData) : kitB (tyNm d) "list" = some (isListD d) := by
  cases d
  · exact (by decide +kernel : kitB "NoneType" "list" = some false)
  · exact (by decide +kernel : kitB "bool" "list" = some false)
  · exact (by decide +kernel : kitB "int" "list" = some false)
  · exact (by decide +kernel : kitB "str" "list" = some false)
  · exact (by decide +kernel : kitB "list" "list" = some true)
  · exact (by decide +kernel : kitB "tuple" "list" = some false)
  · exact (by decide +kernel : kitB "dict" "list" = some false)
theorem k_Tup (d : PyData) : kitB (tyNm d) "tuple" = some (isTupD d) := by
  cases d
  · exact (by decide +kernel : kitB "NoneType" "tuple" = some false)
  · exact (by decide +kernel : kitB "bool" "tuple" = some false)
  · exact (by decide +kernel : kitB "int" "tuple" = some false)
  · exact (by decide +kernel : kitB "str" "tuple" = some false)
  · exact (by decide +kernel : kitB "list" "tuple" = some false)
  · exact (by decide +kernel : kitB "tuple" "tuple" = some true)
  · exact (by decide +kernel : kitB "dict" "tuple" = some false)
theorem k_Dict (d : PyData) : kitB (tyNm d) "dict" = some (isDictD d) := by
  cases d
  · exact (by decide +kernel : kitB "NoneType" "dict" = some false)
  · exact (by decide +kernel : kitB "bool" "dict" = some false)
  · exact (by decide +kernel : kitB "int" "dict" = some false)
  · exact (by decide +kernel : kitB "str" "dict" = some false)
  · exact (by decide +kernel : kitB "list" "dict" = some false)
  · exact (by decide +kernel : kitB "tuple" "dict" = some false)
  · exact (by decide +kernel : kitB "dict" "dict" = some true)
theorem ev_isiInt (h : Ev ta Γ d) : Ev (tCB (rIsi K) (tCons ta (tCons (tC (.ty "int")) tNil))) Γ (.bool (isIntD d)) := ev_isi h (k_Int d)
theorem ev_isiBool (h : Ev ta Γ d) : Ev (tCB (rIsi K) (tCons ta (tCons (tC (.ty "bool")) tNil))) Γ (.bool (isBoolD d)) := ev_isi h (k_Bool d)
theorem ev_isiStr (h : Ev ta Γ d) : Ev (tCB (rIsi K) (tCons ta (tCons (tC (.ty "str")) tNil))) Γ (.bool (isStrD d)) := ev_isi h (k_Str d)
theorem ev_isiList (h : Ev ta Γ d) : Ev (tCB (rIsi K) (tCons ta (tCons (tC (.ty "list")) tNil))) Γ (.bool (isListD d)) := ev_isi h (k_List d)
theorem ev_isiTup (h : Ev ta Γ d) : Ev (tCB (rIsi K) (tCons ta (tCons (tC (.ty "tuple")) tNil))) Γ (.bool (isTupD d)) := ev_isi h (k_Tup d)
theorem ev_isiDict (h : Ev ta Γ d) : Ev (tCB (rIsi K) (tCons ta (tCons (tC (.ty "dict")) tNil))) Γ (.bool (isDictD d)) := ev_isi h (k_Dict d)

/-! texts -/
def sg (c : Nat) : PyData := .str ⟨#[c]⟩
def signs (z : Str) : List PyData := z.cps.toList.map sg
theorem ei_str {z : Str} (h : Ev te Γ (.str z)) : EvI (iStr te) Γ (signs z) := fun B G σ H ok R q => h B G σ H ok _ fun v G1 H1 s1 r1 => by
  cases r1
  have hl : (signs z).length = z.cps.size := by simp [signs]
  refine ⟨z, rfl, q _ G1 H1 s1 ⟨fun H _ => ?_, fun i H hi _ => ?_, fun i H x H' d hd _ y => ?_⟩⟩
  · show z.cps.size ≤ _
    rw [hl]; exact Nat.le_refl _
  · show i < z.cps.size
    rw [hl] at hi; exact hi
  · obtain ⟨e1, c, hc, rfl⟩ := y
    unfold signs at hd
    rw [List.getElem?_map, Array.getElem?_toList, hc] at hd
    cases hd
    exact ⟨e1, .str _⟩
theorem rm_find {a c : Str} : RmD "str" (fun x xs H Q => ∃ a b, x = .str a ∧ xs = [.str b] ∧ Q (.int (Txt.find a b)) H) (.str a) [.str c] (.int (Txt.find a c)) := fun K G H v vs e rx => by
  cases rx
  refine ⟨fun _ _ => rfl, fun rv Q q => ?_⟩
  cases rv with
  | cons r1 r2 => cases r1; cases r2; exact ⟨a, c, rfl, rfl, q _ G H (Stp.rfl' e) (.int _)⟩
theorem rm_count {a c : Str} : RmD "str" (fun x xs H Q => ∃ a b, x = .str a ∧ xs = [.str b] ∧ Q (.int (Txt.count a b)) H) (.str a) [.str c] (.int (Txt.count a c)) := fun K G H v vs e rx => by
  cases rx
  refine ⟨fun _ _ => rfl, fun rv Q q => ?_⟩
  cases rv with
  | cons r1 r2 => cases r1; cases r2; exact ⟨a, c, rfl, rfl, q _ G H (Stp.rfl' e) (.int _)⟩
theorem rm_join {a : Str} {ys : List Str} (hz : (ys.map (·.length)).sum + ys.length * a.length ≤ 16777216) :
    RmD "str" (fun x xs H Q => ∃ a p, ∃ ys : List Str, x = .str a ∧ xs = [.ref p] ∧ (SqL K H p (ys.map V.str) ∨ SqT K H p (ys.map V.str)) ∧ (ys.map (·.length)).sum + ys.length * a.length ≤ 16777216 ∧ Q (.str (Txt.join a ys)) H) (.str a) [.list (ys.map .str)] (.str (Txt.join a ys)) := fun K' G H v vs e rx => by
  cases rx
  refine ⟨fun _ _ => rfl, fun rv Q q => ?_⟩
  cases rv with
  | cons r1 r2 =>
    cases r2
    cases r1 with
    | lst hd r =>
      have e1 := r.strs
      subst e1
      exact ⟨a, _, ys, rfl, rfl, .inl (rd_sql (e.rd hd)), hz, q _ G H (Stp.rfl' e) (.str _)⟩
end
/-! constants of the module -/
section
variable {X : Cx} {x : Str} {p : Pos}
theorem pe_gstr {z : Str} (h : ∃ t, X.mg x = some (.str z t)) (hg : Gl X x := by rfl) (hd : (x == ("__debug__" : Str)) = false := by decide) : PE X (.Name x p) (tC (.str z)) := by
  obtain ⟨t, h⟩ := h
  exact pe_glob hg h ⟨t, rfl⟩ hd
theorem pe_gint {z : Int} (h : ∃ t, X.mg x = some (.int z t)) (hg : Gl X x := by rfl) (hd : (x == ("__debug__" : Str)) = false := by decide) : PE X (.Name x p) (tC (.int z)) := by
  obtain ⟨t, h⟩ := h
  exact pe_glob hg h ⟨t, rfl⟩ hd
end
end Ck
namespace Ck
open PySem PySem.Spec PyProof.Rows L2
section
variable {Γ : List Sl} {te : TE} {t u : TT} {xs : List PyData} {b : Bool}
theorem ev_lst {t : TA} (h : EvA t Γ xs) (hl : xs.length ≤ sizeLine) : Ev (tLst t) Γ (.list xs) := (evN_lst h hl).ev
/-- a way that is not gone -/
theorem et_no (h : b = false) : b = true → EvT u Γ false := fun z => by rw [h] at z; cases z
theorem et_noO (h : b = true) : b = false → EvT u Γ true := fun z => by rw [h] at z; cases z
theorem ev_no (h : b = false) : b = true → Ev te Γ (.bool false) := fun z => by rw [h] at z; cases z
theorem ev_noO (h : b = true) : b = false → Ev te Γ (.bool true) := fun z => by rw [h] at z; cases z
end
theorem sz_dec {n : Nat} (h : n ≤ 100000) : n ≤ sizeLine := Nat.le_trans h (by decide)
end Ck
namespace Ck
open PySem PySem.Spec PyProof.Rows L2
theorem at_rt {B : Bs} {Γ : List Sl} {nx bk ct : L2.St → Hp → Prop} {rt : VK} {te : TE} {d d' : PyData} (h : Ev te Γ d) (e : d = d') (q : ∀ v G H, Stp B.g0 B.h0 G H → Rp G v d' → rt v H) : At B Γ (tRet te ⟨nx, rt, bk, ct⟩) := at_ret h (e ▸ q)
end Ck
namespace Ck
open PySem PySem.Spec PyProof.Rows L2
/-! the rules with the written part by its own letter (within a comprehension the reading may not lean on the block) -/
section
variable {X : Cx} (K : PySem.W.Frag)
theorem op_addK (hK : X.K = K := by rfl) : OpR X (binaryOp .Add) (rAddU K) := hK ▸ op_addU
theorem op_eqK (hu : X.A.units + 64 < cLine) (hK : X.K = K := by rfl) : OpR X (compareOp .Eq) (rEqD K) := hK ▸ op_eqD hu
theorem op_neK (hu : X.A.units + 64 < cLine) (hK : X.K = K := by rfl) : OpR X (compareOp .NotEq) (rNeD K) := hK ▸ op_neD hu
theorem op_inK (hu : X.A.units + 65 < cLine) (hK : X.K = K := by rfl) : OpR X (compareOp .In) (rInU K) := hK ▸ op_inU hu
theorem op_notInK (hu : X.A.units + 65 < cLine) (hK : X.K = K := by rfl) : OpR X (compareOp .NotIn) (rNotInU K) := hK ▸ op_notInU hu
theorem ix_K (hK : X.K = K := by rfl) : IxR X (rIx K) := hK ▸ ix_seq
theorem sl_K (hK : X.K = K := by rfl) : SlR X (rSlU K) := hK ▸ sl_U
theorem isi_K (hK : X.K = K := by rfl) : CallR X (.builtin "isinstance") (rIsi K) := hK ▸ call_isi
theorem len_K (hK : X.K = K := by rfl) : CallR X (.builtin "len") (rLenV K) := hK ▸ call_lenV
theorem list_K (hK : X.K = K := by rfl) : CallR X (.type "list") (rListV K) := hK ▸ call_listV
theorem sum_K (hc : X.calm = true) (hK : X.K = K := by rfl) : CallR X (.builtin "sum") (rSum K) := hK ▸ cr_sum hc
theorem max_K (hc : X.calm = true) (hK : X.K = K := by rfl) : CallR X (.builtin "max") (rMax K) := hK ▸ cr_max hc
theorem all_K (hc : X.calm = true) (hK : X.K = K := by rfl) : CallR X (.builtin "all") (rAll K) := hK ▸ cr_all hc
theorem sorted_K (hK : X.K = K := by rfl) : CallR X (.builtin "sorted") (rSorted K) := hK ▸ cr_sorted
theorem pi_listK {tg l : Expr} {tl : TE} (hl : PE X l tl) (hK : X.K = K := by rfl) : PI X tg l (iList K tl) := hK ▸ pi_list hl
theorem pi_tupK {tg l : Expr} {tl : TE} (hl : PE X l tl) (hK : X.K = K := by rfl) : PI X tg l (iTup K tl) := hK ▸ pi_tup hl
theorem pe_revLK {e : Expr} {te : TE} {k : Nat} {p1 p2 p3 pos : Pos} (he : PE X e te) (hK : X.K = K := by rfl) : PE X (.Subscript e (.Slice none none (some (.UnaryOp .USub (.Constant (.int 1) k p1) p2)) p3) pos) (tRevL K te) := hK ▸ pe_revL he
theorem pe_bmK {o e : Expr} {es : List Expr} {to : TE} {t : TA} {name : Str} {apos cpos : Pos} {T id : String} {r : V → List V → Hp → VK → Prop} (pa : PlainAttrs T) (slot : Slot T name id) (hty : typeOf (.builtin id) = pure (.type "method_descriptor")) (hm : MtR X id r) (ho : PE X o to) (ha : PA X (e :: es) t)
    (hK : X.K = K := by rfl) (hbase : attributeBase o name X.env (eval o X.env) = eval o X.env := by rfl)
    (hfew : ((backTo cpos (starEach (e :: es) X.env)).all (fun x => !x.1) && (backToKw cpos (keywordEach [] X.env)).all (fun x => x.1.isSome)
      && decide ((e :: es).length + ([] : List Keyword).length + (if ([] : List Keyword).isEmpty then 0 else 1) < 30)) = true := by rfl)
    (hline : (apos.endLine == cpos.line) = true := by rfl) (hs : starEach (e :: es) X.env = (false, eval e X.env) :: starEach es X.env := by rfl) (hplain : (backTo cpos (starEach es X.env)).any (·.1) = false := by rfl) :
    PE X (.Call (.Attribute o name apos) (e :: es) [] cpos) (tBM K T r to t) := hK ▸ pe_bm pa slot hty hm ho ha hbase hfew hline hs hplain
end
def rJoin (K : PySem.W.Frag) : V → List V → Hp → VK → Prop := fun x xs H Q => ∃ a p, ∃ ys : List Str, x = .str a ∧ xs = [.ref p] ∧ (SqL K H p (ys.map V.str) ∨ SqT K H p (ys.map V.str)) ∧ (ys.map (·.length)).sum + ys.length * a.length ≤ 16777216 ∧ Q (.str (Txt.join a ys)) H
def rFind : V → List V → Hp → VK → Prop := fun x xs H Q => ∃ a b, x = .str a ∧ xs = [.str b] ∧ Q (.int (Txt.find a b)) H
def rCount : V → List V → Hp → VK → Prop := fun x xs H Q => ∃ a b, x = .str a ∧ xs = [.str b] ∧ Q (.int (Txt.count a b)) H
section
variable {X : Cx} (K : PySem.W.Frag)
theorem mt_joinK (hK : X.K = K := by rfl) : MtR X "str.join" (rJoin K) := hK ▸ mt_join
theorem mt_findK : MtR X "str.find" rFind := mt_find
theorem mt_countK : MtR X "str.count" rCount := mt_count
theorem rm_findK {a c : Str} : RmD "str" rFind (.str a) [.str c] (.int (Txt.find a c)) := rm_find
theorem rm_countK {a c : Str} : RmD "str" rCount (.str a) [.str c] (.int (Txt.count a c)) := rm_count
theorem rm_joinK {a : Str} {ys : List Str} (hz : (ys.map (·.length)).sum + ys.length * a.length ≤ 16777216) : RmD "str" (rJoin K) (.str a) [.list (ys.map .str)] (.str (Txt.join a ys)) := rm_join hz
end
end Ck
namespace Ck
open PySem PySem.Spec PyProof.Rows L2
section
variable {K : PySem.W.Frag} {Γ : List Sl} {ta : TE} {d : PyData} {b : Bool}
theorem ev_isiIntB (h : Ev ta Γ d) (e : isIntD d = b) : Ev (tCB (rIsi K) (tCons ta (tCons (tC (.ty "int")) tNil))) Γ (.bool b) := e ▸ ev_isiInt h
theorem ev_isiBoolB (h : Ev ta Γ d) (e : isBoolD d = b) : Ev (tCB (rIsi K) (tCons ta (tCons (tC (.ty "bool")) tNil))) Γ (.bool b) := e ▸ ev_isiBool h
theorem ev_isiStrB (h : Ev ta Γ d) (e : isStrD d = b) : Ev (tCB (rIsi K) (tCons ta (tCons (tC (.ty "str")) tNil))) Γ (.bool b) := e ▸ ev_isiStr h
theorem ev_isiListB (h : Ev ta Γ d) (e : isListD d = b) : Ev (tCB (rIsi K) (tCons ta (tCons (tC (.ty "list")) tNil))) Γ (.bool b) := e ▸ ev_isiList h
theorem ev_isiTupB (h : Ev ta Γ d) (e : isTupD d = b) : Ev (tCB (rIsi K) (tCons ta (tCons (tC (.ty "tuple")) tNil))) Γ (.bool b) := e ▸ ev_isiTup h
theorem ev_isiDictB (h : Ev ta Γ d) (e : isDictD d = b) : Ev (tCB (rIsi K) (tCons ta (tCons (tC (.ty "dict")) tNil))) Γ (.bool b) := e ▸ ev_isiDict h
end
end Ck
namespace Ck
open PySem PySem.Spec PyProof.Rows L2
/-- over a range, the state by the turn -/
theorem at_forR {B : Bs} {Γ : List Sl} {nx bk ct : L2.St → Hp → Prop} {rt : VK} {t : TS} {j : Nat} {wi : TI} {lo : Int} {n : Nat} (I : Nat → List Sl) (hi : EvI wi Γ (rngD lo n)) (h0 : Wk (I 0) Γ)
    (hs : ∀ (gb : Hp) (i : Nat) (N : L2.St → Hp → Prop), i < n → At ⟨gb, B.g0, B.h0⟩ (I (i + 1)) N → At ⟨gb, B.g0, B.h0⟩ ((I i).set j (.d (.int (lo + i)))) (t ⟨N, rt, nx, N⟩))
    (he : At B (I n) nx) : At B Γ (tFor wi (gName j) t ⟨nx, rt, bk, ct⟩) := by
  exact at_for I (fun i => i ≤ n) hi h0 (Nat.zero_le _) (fun gb i d N hd hp hN => by
    have hl : i < n := by
      have := (List.getElem?_eq_some_iff.mp hd).1
      rw [rngD_length] at this; exact this
    rw [rngD_get lo n i hl] at hd
    cases hd
    exact hs gb i N hl (hN hl)) (fun _ => by rw [rngD_length]; exact he)
/-- over a list of encoded things -/
theorem at_forL {α : Type} (enc : α → PyData) (xs : List α) {B : Bs} {Γ : List Sl} {nx bk ct : L2.St → Hp → Prop} {rt : VK} {t : TS} {j : Nat} {wi : TI} (I : Nat → List Sl) (hi : EvI wi Γ (xs.map enc)) (h0 : Wk (I 0) Γ)
    (hs : ∀ (gb : Hp) (i : Nat) (x : α) (N : L2.St → Hp → Prop), xs[i]? = some x → At ⟨gb, B.g0, B.h0⟩ (I (i + 1)) N → At ⟨gb, B.g0, B.h0⟩ ((I i).set j (.d (enc x))) (t ⟨N, rt, nx, N⟩))
    (he : At B (I xs.length) nx) : At B Γ (tFor wi (gName j) t ⟨nx, rt, bk, ct⟩) :=
  at_for I (fun _ => True) hi h0 trivial (fun gb i d N hd _ hN => by
    rw [List.getElem?_map] at hd
    cases hx : xs[i]? with
    | none => rw [hx] at hd; cases hd
    | some x =>
      rw [hx] at hd
      cases hd
      exact hs gb i x N hx (hN trivial)) (fun _ => by rw [List.length_map]; exact he)
end Ck
namespace Ck
open PySem PySem.Spec PyProof.Rows L2
theorem ev_head {sp : Sp} {dvs : List V} {E : XK} {t : TA} {Γ : List Sl} {d : PyData} (h : Ev (tCall sp dvs E t) Γ d) : Ev (tCall sp dvs E t) Γ d := h
end Ck

namespace Ck
open PySem PySem.Spec PyProof.Rows L2
section
variable {Γ : List Sl} {ta tb tc : TE} {E : XK} {x y : PyData}
/-! ### is_number, is_key, is_deed -/
def isNumD (x : PyData) : Bool := isIntD x && !isBoolD x
def R_is_number (ds : List PyData) (d : PyData) : Prop := ∃ x, ds = [x] ∧ d = .bool (isNumD x)
theorem ev_is_number (h : Ev ta Γ x) : Ev (tCall (spP 1 R_is_number) [] E (tCons ta tNil)) Γ (.bool (isNumD x)) := ev_call (ea_cons h ea_nil) rfl ⟨x, rfl, rfl⟩
abbrev LETTERS : Str := "abcdefghijklmnopqrstuvwxyz"
theorem letters_list : LETTERS.cps.toList = List.range' 97 26 := by decide +kernel
theorem letters_mem (c : Nat) : c ∈ LETTERS.cps.toList ↔ 97 ≤ c ∧ c < 123 := by rw [letters_list, List.mem_range'_1]
def lowD (z : Str) : Bool := z.cps.toList.all fun c => decide (c ∈ LETTERS.cps.toList)
def isKeyS (z : Str) : Bool := decide (1 ≤ z.length) && (decide (z.length ≤ 8) && lowD z)
def isKeyD : PyData → Bool
  | .str z => isKeyS z
  | _ => false
/-- texts of a moderate size -/
def SzS : PyData → Prop
  | .str z => z.length ≤ 100000
  | _ => True
def R_is_key (ds : List PyData) (d : PyData) : Prop := ∃ x, ds = [x] ∧ SzS x ∧ d = .bool (isKeyD x)
theorem ev_is_key (h : Ev ta Γ x) (hs : SzS x) : Ev (tCall (spP 1 R_is_key) [] E (tCons ta tNil)) Γ (.bool (isKeyD x)) := ev_call (ea_cons h ea_nil) rfl ⟨x, rfl, hs, rfl⟩
theorem ev_is_numberB {b : Bool} (h : Ev ta Γ x) (e : isNumD x = b) : Ev (tCall (spP 1 R_is_number) [] E (tCons ta tNil)) Γ (.bool b) := e ▸ ev_is_number h
theorem ev_is_keyB {b : Bool} (h : Ev ta Γ x) (hs : SzS x) (e : isKeyD x = b) : Ev (tCall (spP 1 R_is_key) [] E (tCons ta tNil)) Γ (.bool b) := e ▸ ev_is_key h hs
theorem num_or (x : PyData) : (∃ i, x = .int i) ∨ isNumD x = false := by
  cases x with
  | int i => exact .inl ⟨i, rfl⟩
  | _ => exact .inr rfl
theorem str_or (x : PyData) : (∃ z, x = .str z) ∨ isStrD x = false := by
  cases x with
  | str z => exact .inl ⟨z, rfl⟩
  | _ => exact .inr rfl
def StrOkD : PyData → Prop
  | .str z => PyData.strOk z = true
  | _ => True
abbrev wPut : Str := "put"
abbrev wAdd : Str := "add"
abbrev wOnce : Str := "once"
abbrev wAway : Str := "away"
def isWordS (w : Str) (v : Int) : Bool := (w == wPut || (w == wAdd || w == wOnce)) || (decide (w = wAway) && decide (v = 0))
def isDeed5 : PyData → PyData → PyData → PyData → PyData → Bool
  | .int a, .int t, .str w, k, .int v => decide (0 ≤ a) && decide (a ≤ 9) && decide (1 ≤ t) && isKeyD k && isWordS w v
  | _, _, _, _, _ => false
def isDeedD : PyData → Bool
  | .tuple [a, t, w, k, v] => isDeed5 a t w k v
  | _ => false
/-- of what may be asked whether it is a deed: no long texts, no odd signs -/
def DeedSz : PyData → Prop
  | .tuple ds => ∀ x ∈ ds, SzS x ∧ StrOkD x
  | _ => True
def R_is_deed (ds : List PyData) (d : PyData) : Prop := ∃ x, ds = [x] ∧ DeedSz x ∧ d = .bool (isDeedD x)
theorem ev_is_deed (h : Ev ta Γ x) (hs : DeedSz x) : Ev (tCall (spP 1 R_is_deed) [] E (tCons ta tNil)) Γ (.bool (isDeedD x)) := ev_call (ea_cons h ea_nil) rfl ⟨x, rfl, hs, rfl⟩
theorem ev_is_deedB {b : Bool} (h : Ev ta Γ x) (hs : DeedSz x) (e : isDeedD x = b) : Ev (tCall (spP 1 R_is_deed) [] E (tCons ta tNil)) Γ (.bool b) := e ▸ ev_is_deed h hs
theorem tup_or (x : PyData) : (∃ a t w k v, x = .tuple [a, t, w, k, v]) ∨ (∃ ds, x = .tuple ds ∧ ds.length ≠ 5) ∨ isTupD x = false := by
  cases x with
  | tuple ds =>
    by_cases h : ds.length = 5
    · match ds, h with
      | [a, t, w, k, v], _ => exact .inl ⟨a, t, w, k, v, rfl⟩
    · exact .inr (.inl ⟨ds, rfl, h⟩)
  | _ => exact .inr (.inr rfl)
theorem isDeed_len {ds : List PyData} (h : ds.length ≠ 5) : isDeedD (.tuple ds) = false := by
  unfold isDeedD
  split
  · rename_i e; cases e; exact absurd rfl h
  · rfl
theorem isDeed_tup {x : PyData} (h : isTupD x = false) : isDeedD x = false := by
  cases x with
  | tuple ds => cases h
  | _ => rfl
theorem isDeed5_a {a t w k v : PyData} (h : isNumD a = false) : isDeed5 a t w k v = false := by
  cases a with
  | int i => cases h
  | _ => rfl
theorem isDeed5_t {a t w k v : PyData} (h : isNumD t = false) : isDeed5 a t w k v = false := by
  cases t with
  | int i => cases h
  | _ => cases a <;> rfl
theorem isDeed5_v {a t w k v : PyData} (h : isNumD v = false) : isDeed5 a t w k v = false := by
  cases v with
  | int i => cases h
  | _ => cases a <;> cases t <;> cases w <;> rfl
theorem isDeed5_w {a t w k v : PyData} (h : isStrD w = false) : isDeed5 a t w k v = false := by
  cases w with
  | str i => cases h
  | _ => cases a <;> cases t <;> rfl
theorem isDeed5_no {ai ti : Int} {w k v : PyData} (h : ai < 0 ∨ 9 < ai ∨ ti < 1) : isDeed5 (.int ai) (.int ti) w k v = false := by
  cases w <;> cases v <;> try rfl
  show (decide (0 ≤ ai) && decide (ai ≤ 9) && decide (1 ≤ ti) && isKeyD k && isWordS _ _) = false
  rcases h with h | h | h
  · rw [decide_eq_false (p := 0 ≤ ai) (by omega)]; rfl
  · rw [decide_eq_false (p := ai ≤ 9) (by omega), Bool.and_false]; rfl
  · rw [decide_eq_false (p := 1 ≤ ti) (by omega), Bool.and_false]; rfl
theorem isDeed5_k {a t v : PyData} {ws : Str} {k : PyData} (h : isKeyD k = false) : isDeed5 a t (.str ws) k v = false := by
  cases a <;> cases t <;> cases v <;> try rfl
  show (_ && isKeyD k && isWordS _ _) = false
  rw [h, Bool.and_false]; rfl
theorem isDeed5_w1 {ai ti vi : Int} {ws : Str} {k : PyData} (h : ¬ ai < 0 ∧ ¬ 9 < ai ∧ ¬ ti < 1) (hk : isKeyD k = true) : isDeed5 (.int ai) (.int ti) (.str ws) k (.int vi) = isWordS ws vi := by
  show (decide (0 ≤ ai) && decide (ai ≤ 9) && decide (1 ≤ ti) && isKeyD k && isWordS _ _) = _
  rw [hk, decide_eq_true (p := 0 ≤ ai) (by omega), decide_eq_true (p := ai ≤ 9) (by omega), decide_eq_true (p := 1 ≤ ti) (by omega)]
  rfl
theorem isWordS_eq (w : Str) (v : Int) : (([PyData.str wPut, .str wAdd, .str wOnce].any fun y => eqS y (.str w)) || (decide (w = wAway) && decide (v = 0))) = isWordS w v := by
  unfold isWordS
  simp only [List.any_cons, List.any_nil, Bool.or_false, eqS]
  have e : ∀ z : Str, (z == w) = (w == z) := fun z => by
    by_cases h : z = w
    · subst h; rfl
    · rw [beq_eq_false_iff_ne.mpr h, beq_eq_false_iff_ne.mpr (Ne.symm h)]
  rw [e, e, e]
end
end Ck

namespace Ck
open PySem PySem.Spec PyProof.Rows L2
section
variable {Γ : List Sl} {ta tb tc : TE} {E : XK} {x y : PyData}
/-! ### the script's cells, the mixing -/
abbrev scr (ns : List Int) : PyData := .list (ns.map PyData.int)
def cellAt (ns : List Int) (k : Int) : Int := ns.getD k.toNat 0
def R_cell_at (ds : List PyData) (d : PyData) : Prop := ∃ (ns : List Int) (k : Int), ds = [scr ns, .int k] ∧ 0 ≤ k ∧ d = .int (cellAt ns k)
theorem ev_cell_at {ns : List Int} {k : Int} (h : Ev ta Γ (scr ns)) (hk : Ev tb Γ (.int k)) (h0 : 0 ≤ k) : Ev (tCall (spP 2 R_cell_at) [] E (tCons ta (tCons tb tNil))) Γ (.int (cellAt ns k)) :=
  ev_call (ea_cons h (ea_cons hk ea_nil)) rfl ⟨ns, k, rfl, h0, rfl⟩
def mix1 (c k : Int) : Int := (c * 48271 + k * 7919 + 1) % 1000003
def mixed (c k : Int) : Int := mix1 c k * (mix1 c k + 2 * k + 5) % 999983
theorem mix1_lo (c k : Int) : 0 ≤ mix1 c k := Int.emod_nonneg _ (by decide)
theorem mix1_hi (c k : Int) : mix1 c k < 1000003 := Int.emod_lt_of_pos _ (by decide)
theorem mixed_lo (c k : Int) : 0 ≤ mixed c k := Int.emod_nonneg _ (by decide)
theorem mixed_hi (c k : Int) : mixed c k < 999983 := Int.emod_lt_of_pos _ (by decide)
def R_mixed (ds : List PyData) (d : PyData) : Prop := ∃ c k, ds = [.int c, .int k] ∧ d = .int (mixed c k)
theorem ev_mixed {c k : Int} (h : Ev ta Γ (.int c)) (hk : Ev tb Γ (.int k)) : Ev (tCall (spP 2 R_mixed) [] E (tCons ta (tCons tb tNil))) Γ (.int (mixed c k)) :=
  ev_call (ea_cons h (ea_cons hk ea_nil)) rfl ⟨c, k, rfl, rfl⟩
/-! ### atI -/
theorem ixN_of {n i : Nat} (h : i < n) : ixN n (i : Int) = some i := by
  unfold ixN
  rw [if_pos (by omega), if_pos (by omega)]; simp
theorem atI_of {α : Type} {xs : List α} {i : Nat} {x : α} (h : xs[i]? = some x) : atI xs (i : Int) = some x := by
  unfold atI
  rw [ixN_of (List.getElem?_eq_some_iff.mp h).1]
  exact h
theorem atI_int {α : Type} {xs : List α} {i : Int} {x : α} (h0 : 0 ≤ i) (h : xs[i.toNat]? = some x) : atI xs i = some x := by
  have := atI_of h
  rw [Int.toNat_of_nonneg h0] at this
  exact this
theorem ixN_int {n : Nat} {i : Int} (h0 : 0 ≤ i) (h : i < n) : ixN n i = some i.toNat := by
  unfold ixN
  rw [if_pos h0, if_pos h]
theorem atI_map {α β : Type} {f : α → β} {xs : List α} {i : Int} {x : α} (h : atI xs i = some x) : atI (xs.map f) i = some (f x) := by
  unfold atI at h ⊢
  rw [List.length_map]
  obtain ⟨j, hj, hx⟩ := Option.bind_eq_some_iff.mp h
  rw [hj]
  show (xs.map f)[j]? = _
  rw [List.getElem?_map, hx]; rfl
theorem atI_neg1 {α : Type} {xs : List α} {x : α} (h : xs.getLast? = some x) : atI xs (-1) = some x := by
  cases xs with
  | nil => cases h
  | cons a r =>
    unfold atI ixN
    rw [if_neg (by decide), if_pos (by simp; omega)]
    show (a :: r)[(-1 + ((a :: r).length : Int)).toNat]? = _
    rw [show (-1 + ((a :: r).length : Int)).toNat = (a :: r).length - 1 by (simp only [List.length_cons]; omega), ← List.getLast?_eq_getElem?]
    exact h
theorem cellAt_get {ns : List Int} {k : Int} (h : k.toNat < ns.length) : ns[k.toNat]? = some (cellAt ns k) := by
  unfold cellAt
  rw [List.getD_eq_getElem?_getD, List.getElem?_eq_getElem h]; rfl
theorem cellAt_no {ns : List Int} {k : Int} (h : ¬ k.toNat < ns.length) : cellAt ns k = 0 := by
  unfold cellAt
  rw [List.getD_eq_getElem?_getD, List.getElem?_eq_none (by omega)]; rfl
/-! ### one sign counted -/
theorem count_in : ∀ c ∈ List.range' 97 26, Txt.count LETTERS ⟨#[c]⟩ = 1 := by decide +kernel
theorem count_out {c : Nat} (h : c ∉ LETTERS.cps.toList) : Txt.count LETTERS ⟨#[c]⟩ = 0 := by
  obtain ⟨f, hc⟩ := PySem.StrLaws.occ_chain LETTERS ⟨#[c]⟩ (LETTERS.length + 1)
  unfold Txt.count
  cases e : Builtin.Str.occurrences LETTERS ⟨#[c]⟩ 0 LETTERS.length (LETTERS.length + 1) with
  | nil => rfl
  | cons i r =>
    exfalso
    rw [e] at hc
    have hf := PySem.StrLaws.found_one LETTERS c
    have hn : (!(Builtin.Str.occurrences LETTERS ⟨#[c]⟩ 0 LETTERS.length 1).isEmpty) = true := by
      rw [PySem.StrLaws.found_iff]
      exact ⟨i, hc.2.1⟩
    rw [hn] at hf
    exact h (of_decide_eq_true hf.symm)
theorem count_eq (c : Nat) : decide (Txt.count LETTERS ⟨#[c]⟩ = 1) = decide (c ∈ LETTERS.cps.toList) := by
  by_cases h : c ∈ LETTERS.cps.toList
  · rw [decide_eq_true h]
    rw [letters_list] at h
    rw [count_in c h]; rfl
  · rw [decide_eq_false h, count_out h]; rfl
/-! ### picking from a written list -/
theorem pick {xs : List PyData} {i : Int} (h0 : 0 ≤ i) (h : i < xs.length) : ∃ x, x ∈ xs ∧ atI xs i = some x := by
  have hl : i.toNat < xs.length := by omega
  exact ⟨xs[i.toNat], List.getElem_mem hl, atI_int h0 (List.getElem?_eq_getElem hl)⟩
theorem pickS {z : Str} {i : Int} (h0 : 0 ≤ i) (h : i < z.length) : ∃ c, c ∈ z.cps.toList ∧ atI z.cps.toList i = some c := by
  have hl : i.toNat < z.cps.toList.length := by simp [Str.length] at h ⊢; omega
  exact ⟨z.cps.toList[i.toNat], List.getElem_mem hl, atI_int h0 (List.getElem?_eq_getElem hl)⟩
theorem strOk_app {a b : Str} (ha : PyData.strOk a = true) (hb : PyData.strOk b = true) : PyData.strOk (a ++ b) = true := by
  unfold PyData.strOk at *
  rw [PySem.Str.cps_append, Array.all_append, ha, hb]; rfl
theorem strOk_one {c : Nat} (h : c < 0x110000) : PyData.strOk ⟨#[c]⟩ = true := by
  unfold PyData.strOk
  simp [h]
theorem strOk_mem {z : Str} (h : PyData.strOk z = true) {c : Nat} (hc : c ∈ z.cps.toList) : c < 0x110000 := by
  unfold PyData.strOk at h
  rw [Array.all_eq_true_iff_forall_mem] at h
  have := h c (by simpa using hc)
  simpa using this
theorem cutG_take {α : Type} {xs : List α} {i : Int} (h0 : 0 ≤ i) (h : i ≤ xs.length) : cutG xs none (some i) = xs.take i.toNat := by
  obtain ⟨k, rfl⟩ := Int.eq_ofNat_of_zero_le h0
  have h' : k ≤ xs.length := by omega
  unfold cutG
  rw [HT.sIx_none, HT.sIx_nat, List.drop_zero, Nat.sub_zero, Nat.min_eq_left h']; simp
theorem cutG_drop {α : Type} {xs : List α} {i : Int} (h0 : 0 ≤ i) (h : i ≤ xs.length) : cutG xs (some i) none = xs.drop i.toNat := by
  obtain ⟨k, rfl⟩ := Int.eq_ofNat_of_zero_le h0
  have h' : k ≤ xs.length := by omega
  unfold cutG
  rw [HT.sIx_none, HT.sIx_nat, Nat.min_eq_left h', Int.toNat_natCast]
  exact List.take_of_length_le (by rw [List.length_drop]; exact Nat.le_refl _)
theorem cutG_mid {α : Type} {xs : List α} {i j : Int} (h0 : 0 ≤ i) (h1 : 0 ≤ j) : cutG xs (some i) (some j) = (xs.take j.toNat).drop i.toNat := by
  obtain ⟨k, rfl⟩ := Int.eq_ofNat_of_zero_le h0
  obtain ⟨l, rfl⟩ := Int.eq_ofNat_of_zero_le h1
  unfold cutG
  rw [HT.sIx_nat, HT.sIx_nat, Int.toNat_natCast, Int.toNat_natCast, ← List.drop_take]
  have e1 : xs.take (min l xs.length) = xs.take l := by
    by_cases hl : l ≤ xs.length
    · rw [Nat.min_eq_left hl]
    · rw [Nat.min_eq_right (by omega), List.take_length, List.take_of_length_le (by omega)]
  rw [e1]
  by_cases hk : k ≤ xs.length
  · rw [Nat.min_eq_left hk]
  · have hlen : (xs.take l).length ≤ xs.length := by rw [List.length_take]; omega
    rw [Nat.min_eq_right (by omega), List.drop_eq_nil_of_le hlen, List.drop_eq_nil_of_le (by omega)]
end
end Ck

namespace Ck
open PySem PySem.Spec PyProof.Rows L2

/-! ### outcomes: a value, or the name of a class -/
abbrev Oc := Except Str PyData
abbrev RtO (B : Bs) (Q : VK) (d : PyData) : Prop := ∀ v f G H, Stp B.g0 B.h0 G H → Ro G H v d f → f.Nodup → (∀ a ∈ f, B.h0 a = none ∧ G a = none) → Q v H
abbrev WK := Bs → VK → PyData → Prop
def OcW (W : WK) (K : PySem.W.Frag) (B : Bs) (Q : VK) (E : XK) : Oc → Prop
  | .ok d => W B Q d
  | .error c => ∀ G H, Stp B.g0 B.h0 G H → E (.ref (He.ga K c)) none H
def spW (W : WK) (K : PySem.W.Frag) (n : Nat) (R : List PyData → Oc → Prop) : Sp := fun vs H Q E => ∃ ds o G, Ex G H ∧ Rps G vs ds ∧ ds.length = n ∧ R ds o ∧ OcW W K ⟨G, G, H⟩ Q E o
abbrev WD : WK := RtOk
abbrev WO : WK := RtO
theorem spW_len {W : WK} {K : PySem.W.Frag} {n : Nat} {R : List PyData → Oc → Prop} {vs : List V} {H : Hp} {Q : VK} {E : XK} (h : spW W K n R vs H Q E) : vs.length = n := by
  obtain ⟨ds, d, G, _, r, l, _⟩ := h
  rw [r.length]; exact l
abbrev BodyW (W : WK) (K : PySem.W.Frag) (N n : Nat) (R : List PyData → Oc → Prop) (E : XK) (t : TS) : Prop := ∀ (ds : List PyData) (o : Oc) (B : Bs) (Q : VK), ds.length = n → R ds o → OcW W K B Q E o → At B (sls N ds) (t { nx := fun _ H' => Q .non H', rt := Q })
section
variable {P : Program} {w : World} {K : PySem.W.Frag} {mg : Str → Option Value} {base : Heap} {x : Str} {st : Stmt} {N ps : List Str} {k n : Nat} {W : WK} {R : List PyData → Oc → Prop}
/-- a def that may raise -/
theorem mkX (h : Has K mg x st) (hb : BindsP x st ps) (S : FnScope N ps (defScope st)) (hn : ps.length = n)
    (hbody : ∀ (f : Addr) (cdv : Value) (A : Around) (outer : List Env) (s : Shared) (H : Hp) (E : XK), Room k (A.deeper (envOfC x (defScope st) s.heap.objs.size f cdv)) →
      ∃ t, PSs (cxOf (L2.CX P w) P w K mg base N x (defScope st) f cdv A outer s H E) (defBody st) t ∧ BodyW W K N.length n R E t) : Def P w K mg base (L2.CX P w) (k + 1) x ps (spW W K n R) :=
  mk_def h hb S (fun vs H Q E z => (spW_len z).trans hn.symm) fun f cdv A outer s H vs Q E hr hsp => by
    obtain ⟨t, h1, h2⟩ := hbody f cdv A outer s H E hr
    obtain ⟨ds, o, G, e, r, l, hR, q⟩ := hsp
    exact ⟨t, h1, h2 ds o ⟨G, G, H⟩ Q l hR q G _ H (ok_start e r)⟩
/-- .. that does not -/
theorem mkW (h : Has K mg x st) (hb : BindsP x st ps) (S : FnScope N ps (defScope st)) (hn : ps.length = n)
    (hbody : ∀ (f : Addr) (cdv : Value) (A : Around) (outer : List Env) (s : Shared) (H : Hp) (E : XK), Room k (A.deeper (envOfC x (defScope st) s.heap.objs.size f cdv)) →
      ∃ t, PSs (cxOf CX0 P w K mg base N x (defScope st) f cdv A outer s H E).nox (defBody st) t ∧ BodyW W K N.length n R E t) : Def P w K mg base CX0 (k + 1) x ps (spW W K n R) :=
  mk_def h hb S (fun vs H Q E z => (spW_len z).trans hn.symm) fun f cdv A outer s H vs Q E hr hsp => by
    obtain ⟨t, h1, h2⟩ := hbody f cdv A outer s H E hr
    obtain ⟨ds, o, G, e, r, l, hR, q⟩ := hsp
    exact ⟨t, h1.nox, h2 ds o ⟨G, G, H⟩ Q l hR q G _ H (ok_start e r)⟩
/-- one that is not called -/
theorem mkF {CX : CXT} (h : Has K mg x st) (hb : BindsP x st ps) (S : FnScope N ps (defScope st)) : Def P w K mg base CX (k + 1) x ps (fun _ _ _ _ => False) :=
  mk_def h hb S (fun vs H Q E z => z.elim) fun f cdv A outer s H vs Q E hr hsp => hsp.elim
end

section
variable {K : PySem.W.Frag} {B : Bs} {Γ : List Sl} {nx bk ct : L2.St → Hp → Prop} {rt : VK} {t u : TS} {te : TE} {ta : TA} {tt : TT} {d : PyData} {ds : List PyData} {i j n : Nat} {R : List PyData → Oc → Prop} {E : XK} {W : WK} {c : Str} {S : List Nat} {D : Ends} {k : L2.St → Hp → Prop}
/-- what leaves the def -/
abbrev Xq (K : PySem.W.Frag) (B : Bs) (E : XK) (c : Str) : Prop := ∀ G H, Stp B.g0 B.h0 G H → E (.ref (He.ga K c)) none H
theorem ev_callW (h : EvA ta Γ ds) (hn : ds.length = n) (hR : R ds (.ok d)) : Ev (tCall (spW WD K n R) [] E ta) Γ d := fun B G σ H ok Q q =>
  h B G σ H ok _ fun vs G1 H1 s1 r1 => by
    rw [List.append_nil]
    exact ⟨ds, .ok d, G1, s1.gh, r1, hn, hR, fun v G' H' s r => q v G' H' (s1.tr s) r⟩
theorem em_callW (h : EvA ta Γ ds) (hn : ds.length = n) (hR : R ds (.ok d)) : EvM (tCall (spW WO K n R) [] E ta) Γ [] d := fun B G σ H F k Q q =>
  h B G σ H ⟨F, k⟩ _ fun vs G1 H1 s1 r1 => by
    rw [List.append_nil]
    exact ⟨ds, .ok d, G1, s1.gh, r1, hn, hR, fun v f G' H' s r nd m => q v f G' H' (s1.tr s) r nd fun a ha => ⟨(m a ha).2, .inl (s1.h.no (m a ha).1)⟩⟩
theorem ev_callWS {Wx : WX} (h : EvA ta Γ ds) (hn : ds.length = n) (hR : R ds (.ok d)) : Ev (tCallS (spW WD K n R) (WE Wx) ta) Γ d := fun B G σ H ok Q q =>
  h B G σ H ok _ fun vs G1 H1 s1 r1 => ⟨ds, .ok d, G1, s1.gh, r1, hn, hR, fun v G' H' s r => q v G' H' (s1.tr s) r⟩
theorem em_callWS {Wx : WX} (h : EvA ta Γ ds) (hn : ds.length = n) (hR : R ds (.ok d)) : EvM (tCallS (spW WO K n R) (WE Wx) ta) Γ [] d := fun B G σ H F k Q q =>
  h B G σ H ⟨F, k⟩ _ fun vs G1 H1 s1 r1 => ⟨ds, .ok d, G1, s1.gh, r1, hn, hR, fun v f G' H' s r nd m => q v f G' H' (s1.tr s) r nd fun a ha => ⟨(m a ha).2, .inl (s1.h.no (m a ha).1)⟩⟩
/-- an expression that raises -/
def Rz (te : TE) (Γ : List Sl) (X : L2.St → Hp → Prop) : Prop := ∀ (B : Bs) (G : Hp) (σ : L2.St) (H : Hp), Ok B G σ H Γ → (∀ G' H', Stp G H G' H' → X σ H') → ∀ Q, te σ H Q
theorem rz_callW (h : EvA ta Γ ds) (hn : ds.length = n) (hR : R ds (.error c)) : Rz (tCall (spW W K n R) [] E ta) Γ (fun _ H => E (.ref (He.ga K c)) none H) := fun B G σ H ok x Q =>
  h B G σ H ok _ fun vs G1 H1 s1 r1 => by
    rw [List.append_nil]
    exact ⟨ds, .error c, G1, s1.gh, r1, hn, hR, fun G' H' s => x G' H' (s1.tr s)⟩
theorem rz_callWS {Wx : WX} (h : EvA ta Γ ds) (hn : ds.length = n) (hR : R ds (.error c)) : Rz (tCallS (spW W K n R) (WE Wx) ta) Γ (fun σ H => Wx (.ref (He.ga K c)) none σ H) := fun B G σ H ok x Q =>
  h B G σ H ok _ fun vs G1 H1 s1 r1 => ⟨ds, .error c, G1, s1.gh, r1, hn, hR, fun G' H' s => x G' H' (s1.tr s)⟩
theorem Rz.at {X : L2.St → Hp → Prop} {f : VK → L2.St → VK} (h : Rz te Γ X) (q : At B Γ X) (hk : ∀ σ H, (∀ Q, te σ H Q) → k σ H) : At B Γ k := fun G σ H ok =>
  hk σ H (h B G σ H ok fun G' H' s => q G' σ H' (ok.step s))
theorem at_rzDrop {X : L2.St → Hp → Prop} (h : Rz te Γ X) (q : At B Γ X) : At B Γ (tDrop te D) := fun G σ H ok => h B G σ H ok (fun G' H' s => q G' σ H' (ok.step s)) _
theorem at_rzSet {X : L2.St → Hp → Prop} (h : Rz te Γ X) (q : At B Γ X) : At B Γ (tAsg te (gName i) D) := fun G σ H ok => h B G σ H ok (fun G' H' s => q G' σ H' (ok.step s)) _
theorem at_rzRet {X : L2.St → Hp → Prop} (h : Rz te Γ X) (q : At B Γ X) : At B Γ (tRet te D) := fun G σ H ok => h B G σ H ok (fun G' H' s => q G' σ H' (ok.step s)) _
theorem rz_arg {r : TA} {sp : Sp} {X : L2.St → Hp → Prop} (h : Rz te Γ X) : Rz (tCall sp [] E (tCons te r)) Γ X := fun B G σ H ok x Q => h B G σ H ok x _
theorem at_xq (h : Xq K B E c) : At B Γ (fun _ H => E (.ref (He.ga K c)) none H) := fun G σ H ok => h G H ok.st
/-- ends of a def's value -/
theorem at_rtO (h : EvM te Γ S d) {d' : PyData} (e : d = d') (q : RtO B rt d') : At B Γ (tRet te ⟨nx, rt, bk, ct⟩) := at_retO h (e ▸ q)
/-- what is one's own, given away as mere data -/
theorem at_rtM (h : EvM te Γ S d) {d' : PyData} (e : d = d') (q : RtOk B rt d') : At B Γ (tRet te ⟨nx, rt, bk, ct⟩) := by
  subst e
  exact at_retO h fun v f G H s r nd m => by
    have st := s.giveL f m
    exact q v _ H st.1 (r.rp st.2.1 _ _ _ st.2.2)
theorem rtO_of (q : RtOk B rt d) : RtO B rt d := fun v f G H s r nd m => by
  have st := s.giveL f m
  exact q v _ H st.1 (r.rp st.2.1 _ _ _ st.2.2)
/-! exceptions that are caught -/
theorem takes0 {X : Cx} : Takes X (fun _ _ _ _ => False) := fun u s' ⟨_, _, _, _, _, _, _, _, _, _, _, _, _, _, _, _, w⟩ => w.elim
theorem at_wAs {cv cls : Value} {dd : Option Addr} {ts : Addr → Value → Option Addr → TS} {Wout : WX} (hm : PySem.W.exmOne K cls cv = some true)
    (q : ∀ a, At B (Γ.set i (.ex a)) (ts a cls dd { nx := fun σ' H' => nx (σ'.set i none) H', rt := rt, bk := fun σ' H' => bk (σ'.set i none) H', ct := fun σ' H' => ct (σ'.set i none) H' })) :
    At B Γ (fun σ H => wAs K cv i ts Wout ⟨nx, rt, bk, ct⟩ cls dd σ H) := fun G σ H ok => ⟨true, hm, fun _ a _ => q a G _ H (ok.setE i a), fun z => by cases z⟩
theorem at_unE {Γ' : List Sl} (q : At B Γ' k) (h : ∃ Γ2 : List Sl, Γ.set i .un = Γ') : At B Γ (fun σ H => k (σ.set i none) H) := fun G σ H ok => by
  obtain ⟨_, e⟩ := h
  exact q G _ H (e ▸ ok.setU i none)
theorem at_wMany_hit {cv cls : Value} {dd : Option Addr} {ts : Addr → Value → Option Addr → TS} {l : List (Value × (Addr → Value → Option Addr → TS))} {Wout : WX} (hm : PySem.W.exmOne K cls cv = some true) (q : ∀ a, At B Γ (ts a cls dd D)) :
    At B Γ (fun σ H => wMany K Wout D ((cv, ts) :: l) cls dd σ H) := fun G σ H ok => ⟨true, hm, fun _ a _ => q a G _ H ok, fun z => by cases z⟩
theorem at_wMany_miss {cv cls : Value} {dd : Option Addr} {ts : Addr → Value → Option Addr → TS} {l : List (Value × (Addr → Value → Option Addr → TS))} {Wout : WX} (hm : PySem.W.exmOne K cls cv = some false) (q : At B Γ (fun σ H => wMany K Wout D l cls dd σ H)) :
    At B Γ (fun σ H => wMany K Wout D ((cv, ts) :: l) cls dd σ H) := fun G σ H ok => ⟨false, hm, fun z => (by cases z), fun _ => q G _ H ok⟩
theorem at_wMany_end {cls : Value} {dd : Option Addr} {Wout : WX} (q : At B Γ (fun σ H => Wout cls dd σ H)) : At B Γ (fun σ H => wMany K Wout D [] cls dd σ H) := q
end
/-! the classes in an except suite -/
theorem pss_cls {X : Cx} {b : List Stmt} {cls : Value} {d : Option Addr} {K : PySem.W.Frag} {names : List Str} {t : Str → TS} (h : ∀ nm ∈ names, cls = .ref (He.ga K nm) → d = none → PSs X b (t nm)) :
    PSs X b (fun D σ H => ∃ nm, nm ∈ names ∧ cls = .ref (He.ga K nm) ∧ d = none ∧ t nm D σ H) :=
  ⟨fun pins s σ H D I ⟨nm, m, e, e2, z⟩ => (h nm m e e2).run pins s σ H D I z⟩
theorem at_cls {K : PySem.W.Frag} {B : Bs} {Γ : List Sl} {names : List Str} {t : Str → TS} {D : Ends} {nm : Str} (m : nm ∈ names) (q : At B Γ (t nm D)) :
    At B Γ (fun σ H => ∃ n', n' ∈ names ∧ (Value.ref (He.ga K nm) : Value) = .ref (He.ga K n') ∧ (none : Option Addr) = none ∧ t n' D σ H) := fun G σ H ok => ⟨nm, m, rfl, rfl, q G σ H ok⟩
/-- which is a kind of which -/
def isX (x y : Str) : Bool := decide (x = y) || decide (y = "KeepError")
def excB (K : PySem.W.Frag) (D : Addr) : Bool :=
  decide (PySem.W.findIn K (.ref D) "__getattribute__" = some (some (.builtin "BaseException.__getattribute__"))) && (decide (PySem.W.findIn K (.ref D) "__getattr__" = some none) && (decide (PySem.W.subIn K (.ref D) (.type "BaseException") = some true) &&
  (PySem.W.hasDictIn K D && (decide (PySem.W.findIn K (.ref D) "__class__" = some (some (.builtin "object.__class__"))) && (decide (PySem.W.specialIn K (.builtin "object.__class__") "__get__" = some (some (.builtin "getset_descriptor.__get__"))) &&
  (decide (PySem.W.takesIn K (.builtin "object.__class__") = some true) && decide (PySem.W.mroIn K D (.type "object") = some true)))))))
theorem excB_C {K : PySem.W.Frag} {D : Addr} (h : excB K D = true) : ExcC K D := by
  unfold excB at h
  simp only [Bool.and_eq_true, decide_eq_true_eq] at h
  obtain ⟨h1, h2, h3, h4, h5, h6, h7, h8⟩ := h
  exact ⟨h1, h2, h3, h4, h5, h6, h7, h8⟩
/-- xs: those that are raised; ys: those that are asked for -/
def clsB (K : PySem.W.Frag) (xs ys : List Str) : Bool :=
  xs.all fun x => excB K (He.ga K x) && (decide (PySem.W.kitOne K (.ref (He.ga K x)) (.type "ValueError") = some true) && ys.all fun y => decide (PySem.W.exmOne K (.ref (He.ga K x)) (.ref (He.ga K y)) = some (isX x y)) && decide (PySem.W.kitOne K (.ref (He.ga K x)) (.ref (He.ga K y)) = some (isX x y)))
structure ClsOk (K : PySem.W.Frag) (xs ys : List Str) : Prop where
  ex : ∀ x ∈ xs, ExcC K (He.ga K x)
  ve : ∀ x ∈ xs, PySem.W.kitOne K (.ref (He.ga K x)) (.type "ValueError") = some true
  em : ∀ x ∈ xs, ∀ y ∈ ys, PySem.W.exmOne K (.ref (He.ga K x)) (.ref (He.ga K y)) = some (isX x y)
  is : ∀ x ∈ xs, ∀ y ∈ ys, PySem.W.kitOne K (.ref (He.ga K x)) (.ref (He.ga K y)) = some (isX x y)
theorem clsB_ok {K : PySem.W.Frag} {xs ys : List Str} (h : clsB K xs ys = true) : ClsOk K xs ys := by
  unfold clsB at h
  rw [List.all_eq_true] at h
  have h' : ∀ x ∈ xs, excB K (He.ga K x) = true ∧ PySem.W.kitOne K (.ref (He.ga K x)) (.type "ValueError") = some true ∧ ∀ y ∈ ys, PySem.W.exmOne K (.ref (He.ga K x)) (.ref (He.ga K y)) = some (isX x y) ∧ PySem.W.kitOne K (.ref (He.ga K x)) (.ref (He.ga K y)) = some (isX x y) := fun x hx => by
    have := h x hx
    simp only [Bool.and_eq_true, decide_eq_true_eq, List.all_eq_true] at this
    exact this
  exact ⟨fun x hx => excB_C (h' x hx).1, fun x hx => (h' x hx).2.1, fun x hx y hy => ((h' x hx).2.2 y hy).1, fun x hx y hy => ((h' x hx).2.2 y hy).2⟩
section
variable {K : PySem.W.Frag} {Γ : List Sl} {D a : Addr} {i : Nat} {b : Bool}
theorem ev_isE {C : Addr} (e : Γ[i]? = some (.ex a)) (h : PySem.W.kitOne K (.ref D) (.ref C) = some b) : Ev (tCB (rIsE K D a) (tCons (tVar i) (tCons (tC (.ref C)) tNil))) Γ (.bool b) := fun B G σ H ok Q q =>
  ⟨.ref a, ok.exc e, .ref C, .ref C, b, rfl, fun u r => (show u = Value.ref C from r), h, q _ G H (Stp.rfl' ok.gh) (.bl b)⟩
theorem ev_isEty {C : String} (e : Γ[i]? = some (.ex a)) (h : PySem.W.kitOne K (.ref D) (.type C) = some b) : Ev (tCB (rIsE K D a) (tCons (tVar i) (tCons (tC (.ty C)) tNil))) Γ (.bool b) := fun B G σ H ok Q q =>
  ⟨.ref a, ok.exc e, .ty C, .type C, b, rfl, fun u r => (show u = Value.type C from r), h, q _ G H (Stp.rfl' ok.gh) (.bl b)⟩
end
end Ck

namespace Ck
open PySem PySem.Spec PyProof.Rows L2

/-! ### deeds, keepers, chains as data -/
structure Dd where
  a : Int
  t : Int
  w : Str
  k : Str
  v : Int
deriving DecidableEq
def Dd.e (d : Dd) : PyData := .tuple [.int d.a, .int d.t, .str d.w, .str d.k, .int d.v]
structure Dd.ok (d : Dd) : Prop where
  a0 : 0 ≤ d.a
  a9 : d.a ≤ 9
  t1 : 1 ≤ d.t
  key : isKeyS d.k = true
  word : isWordS d.w d.v = true
theorem strOk_key {z : Str} (h : isKeyS z = true) : PyData.strOk z = true := by
  unfold isKeyS at h
  simp only [Bool.and_eq_true, decide_eq_true_eq] at h
  unfold PyData.strOk
  have h2 := h.2.2
  unfold lowD at h2
  rw [← Array.all_toList]
  rw [List.all_eq_true] at h2 ⊢
  intro c hc
  have := h2 c hc
  rw [decide_eq_true_eq, letters_mem] at this
  rw [decide_eq_true_eq]
  omega
theorem word_cases {w : Str} {v : Int} (h : isWordS w v = true) : (w = wPut ∨ w = wAdd ∨ w = wOnce) ∨ (w = wAway ∧ v = 0) := by
  unfold isWordS at h
  simp only [Bool.or_eq_true, Bool.and_eq_true, decide_eq_true_eq, beq_iff_eq] at h
  exact h
theorem strOk_word {w : Str} {v : Int} (h : isWordS w v = true) : PyData.strOk w = true := by
  rcases word_cases h with (rfl | rfl | rfl) | ⟨rfl, _⟩ <;> decide +kernel
theorem len_word {w : Str} {v : Int} (h : isWordS w v = true) : w.length ≤ 100000 := by
  rcases word_cases h with (rfl | rfl | rfl) | ⟨rfl, _⟩ <;> decide +kernel
theorem len_key {z : Str} (h : isKeyS z = true) : z.length ≤ 100000 := by
  unfold isKeyS at h
  simp only [Bool.and_eq_true, decide_eq_true_eq] at h
  omega
theorem Dd.ok.isDeed {d : Dd} (h : d.ok) : isDeedD d.e = true := by
  show (decide (0 ≤ d.a) && decide (d.a ≤ 9) && decide (1 ≤ d.t) && isKeyS d.k && isWordS d.w d.v) = true
  rw [decide_eq_true h.a0, decide_eq_true h.a9, decide_eq_true h.t1, h.key, h.word]; rfl
theorem deed_of {x : PyData} (h : isDeedD x = true) : ∃ d : Dd, d.ok ∧ x = d.e := by
  rcases tup_or x with ⟨a, t, w, k, v, rfl⟩ | ⟨ds, rfl, hd⟩ | hx
  · have h' : isDeed5 a t w k v = true := h
    cases a with
    | int a =>
      cases t with
      | int t =>
        cases w with
        | str w =>
          cases v with
          | int v =>
            have h2 : (decide (0 ≤ a) && decide (a ≤ 9) && decide (1 ≤ t) && isKeyD k && isWordS w v) = true := h'
            simp only [Bool.and_eq_true, decide_eq_true_eq] at h2
            cases k with
            | str k => exact ⟨⟨a, t, w, k, v⟩, ⟨h2.1.1.1.1, h2.1.1.1.2, h2.1.1.2, h2.1.2, h2.2⟩, rfl⟩
            | _ => exact absurd h2.1.2 (by simp [isKeyD])
          | _ => exact absurd h' (by simp [isDeed5])
        | _ => exact absurd h' (by simp [isDeed5])
      | _ => exact absurd h' (by simp [isDeed5])
    | _ => exact absurd h' (by simp [isDeed5])
  · rw [isDeed_len hd] at h; cases h
  · rw [isDeed_tup hx] at h; cases h
theorem Dd.ok.sz {d : Dd} (h : d.ok) : DeedSz d.e := fun x hx => by
  simp only [List.mem_cons, List.not_mem_nil, or_false] at hx
  rcases hx with rfl | rfl | rfl | rfl | rfl
  · exact ⟨trivial, trivial⟩
  · exact ⟨trivial, trivial⟩
  · exact ⟨len_word h.word, strOk_word h.word⟩
  · exact ⟨len_key h.key, strOk_key h.key⟩
  · exact ⟨trivial, trivial⟩
theorem Dd.ok.shp {d : Dd} (h : d.ok) : Shp 1 d.e := shp_tuple (n := 0) fun x hx => by
  simp only [List.mem_cons, List.not_mem_nil, or_false] at hx
  rcases hx with rfl | rfl | rfl | rfl | rfl
  · exact shp_int
  · exact shp_int
  · exact shp_str (strOk_word h.word)
  · exact shp_str (strOk_key h.key)
  · exact shp_int
theorem eqv_dd {c d : Dd} : PyData.eqv c.e d.e = decide (c = d) := by
  obtain ⟨a, t, w, k, v⟩ := c
  obtain ⟨a', t', w', k', v'⟩ := d
  show PyData.eqv (.tuple [.int a, .int t, .str w, .str k, .int v]) (.tuple [.int a', .int t', .str w', .str k', .int v']) = _
  simp only [PyData.eqv, PyData.eqvAll, Bool.and_true]
  by_cases h : (⟨a, t, w, k, v⟩ : Dd) = ⟨a', t', w', k', v'⟩
  · cases h; simp
  · rw [decide_eq_false h]
    rw [Bool.eq_false_iff]
    intro z
    simp only [Bool.and_eq_true, beq_iff_eq] at z
    exact h (by rw [z.1, z.2.1, z.2.2.1, z.2.2.2.1, z.2.2.2.2])
theorem noL_dd {d : Dd} : noL d.e = true := by simp [Dd.e, noL, noLs]
theorem noLs_map {α : Type} {f : α → PyData} (h : ∀ x, noL (f x) = true) : ∀ xs : List α, noLs (xs.map f) = true
  | [] => by simp [noLs]
  | x :: xs => by rw [List.map_cons]; simp only [noLs, h x, noLs_map h xs, Bool.and_self]
structure Kp where
  log : List Dd
  sure : Int
  down : List Dd
  up : List Int
def Kp.e (k : Kp) : PyData := .tuple [.list (k.log.map Dd.e), .int k.sure, .list (k.down.map Dd.e), .list (k.up.map .int)]
/-- of a moderate size, of deeds -/
structure Kp.ok (k : Kp) : Prop where
  ll : k.log.length ≤ 1000
  ld : k.down.length ≤ 1000
  lu : k.up.length ≤ 1000
  dl : ∀ d ∈ k.log, d.ok
  dd : ∀ d ∈ k.down, d.ok
def coE : Option (List Dd) → PyData
  | none => .none
  | some l => .list (l.map Dd.e)
structure Ch where
  ks : List Kp
  co : Option (List Dd)
def Ch.e (c : Ch) : PyData := .tuple [.list (c.ks.map Kp.e), coE c.co]
structure Ch.ok (c : Ch) : Prop where
  lk : c.ks.length ≤ 1000
  kp : ∀ k ∈ c.ks, k.ok
  lc : ∀ l, c.co = some l → l.length ≤ 1000 ∧ ∀ d ∈ l, d.ok
/-! what the defs tell -/
def nilK : Kp := ⟨[], 0, [], []⟩
def begunO (n : Int) : Oc := if n < 1 ∨ 9 < n then .error "TooMany" else .ok (Ch.e ⟨List.replicate n.toNat nilK, none⟩)
def R_begun (ds : List PyData) (o : Oc) : Prop := ∃ n : Int, ds = [.int n] ∧ o = begunO n
def R_keeper_of (ds : List PyData) (o : Oc) : Prop := ∃ k : Kp, ds = [k.e] ∧ o = .ok k.e
def R_chain_of (ds : List PyData) (o : Oc) : Prop := ∃ c : Ch, ds = [.list (c.ks.map Kp.e), coE c.co] ∧ c.ks.length ≤ 1001 ∧ o = .ok c.e
def R_with_keeper (ds : List PyData) (o : Oc) : Prop := ∃ (c : Ch) (p : Nat) (k : Kp), ds = [c.e, .int p, k.e] ∧ p < c.ks.length ∧ c.ok ∧ o = .ok (Ch.e ⟨c.ks.set p k, c.co⟩)
def atEnd (k : Kp) (d : Dd) (b : Bool) : Kp := if b then ⟨k.log ++ [d], k.log.length + 1, [], k.up⟩ else ⟨k.log ++ [d], k.sure, k.down ++ [d], k.up⟩
def R_at_end (ds : List PyData) (o : Oc) : Prop := ∃ (k : Kp) (d : Dd) (b : Bool), ds = [k.e, d.e, .bool b] ∧ k.ok ∧ o = .ok (atEnd k d b).e
def takeO (k : Kp) (ks : List Kp) (co : Option (List Dd)) (d : Dd) : Oc :=
  let same := k.log.filter fun x => decide (x.a = d.a)
  if (same.length : Int) + 1 < d.t then .error "BadTurn"
  else if d.t ≤ same.length then (if same[(d.t - 1).toNat]? ≠ some d then .error "OtherDeed" else .ok (Ch.e ⟨k :: ks, co⟩))
  else .ok (Ch.e ⟨atEnd k d ks.isEmpty :: ks, co⟩)
def R_take (ds : List PyData) (o : Oc) : Prop := ∃ (k : Kp) (ks : List Kp) (co : Option (List Dd)), (Ch.mk (k :: ks) co).ok ∧
  ((∃ x, ds = [(Ch.mk (k :: ks) co).e, x] ∧ DeedSz x ∧ isDeedD x = false ∧ o = .error "BadDeed") ∨ (∃ d : Dd, d.ok ∧ ds = [(Ch.mk (k :: ks) co).e, d.e] ∧ o = takeO k ks co d))
section
variable {K : PySem.W.Frag} {Γ : List Sl} {ta tb tc : TE} {E : XK} {W : WK}
theorem ev_at_end {k : Kp} {d : Dd} {b : Bool} (h1 : Ev ta Γ k.e) (h2 : Ev tb Γ d.e) (h3 : Ev tc Γ (.bool b)) (hk : k.ok) : Ev (tCall (spW WD K 3 R_at_end) [] E (tCons ta (tCons tb (tCons tc tNil)))) Γ (atEnd k d b).e :=
  ev_callW (ea_cons h1 (ea_cons h2 (ea_cons h3 ea_nil))) rfl ⟨k, d, b, rfl, hk, rfl⟩
theorem em_keeper_of {k : Kp} (h1 : Ev ta Γ k.e) : EvM (tCall (spW WO K 1 R_keeper_of) [] E (tCons ta tNil)) Γ [] k.e := em_callW (ea_cons h1 ea_nil) rfl ⟨k, rfl, rfl⟩
theorem em_chain_of {c : Ch} (h1 : Ev ta Γ (.list (c.ks.map Kp.e))) (h2 : Ev tb Γ (coE c.co)) (hz : c.ks.length ≤ 1001) : EvM (tCall (spW WO K 2 R_chain_of) [] E (tCons ta (tCons tb tNil))) Γ [] c.e :=
  em_callW (ea_cons h1 (ea_cons h2 ea_nil)) rfl ⟨c, rfl, hz, rfl⟩
theorem em_with_keeper {c : Ch} {p : Nat} {k : Kp} (h1 : Ev ta Γ c.e) (h2 : Ev tb Γ (.int p)) (h3 : Ev tc Γ k.e) (hp : p < c.ks.length) (hc : c.ok) : EvM (tCall (spW WO K 3 R_with_keeper) [] E (tCons ta (tCons tb (tCons tc tNil)))) Γ [] (Ch.e ⟨c.ks.set p k, c.co⟩) :=
  em_callW (ea_cons h1 (ea_cons h2 (ea_cons h3 ea_nil))) rfl ⟨c, p, k, rfl, hp, hc, rfl⟩
theorem em_S {S S' : List Nat} {d : PyData} (h : EvM ta Γ S d) (e : S = S') : EvM ta Γ S' d := e ▸ h
theorem atI_cons0 {α : Type} {x : α} {xs : List α} : atI (x :: xs) 0 = some x := atI_of (i := 0) rfl
/-! lists of owned things -/
theorem em_lcm {α : Type} {js : List Nat} {j : Nat} {wi : TI} (enc : α → PyData) (xs : List α) (f : α → PyData) (hj : js = [j]) (hi : EvI wi Γ (xs.map enc)) (hz : xs.length ≤ sizeLine) (he : ∀ x ∈ xs, EvM ta (Γ.set j (.d (enc x))) [] (f x)) :
    EvM (tLc wi (gName j) tYes ta js) Γ [] (.list (xs.map f)) := fun B G σ H F k Q q => hi B G σ H ⟨F, k⟩ _ fun J G1 H1 s1 it => by
  subst hj
  intro D hD
  have hGD : G1 D = none := s1.gh.no hD
  have hlen : (xs.map enc).length = xs.length := List.length_map _
  refine ⟨fun i m H2 => m = xs.length - i ∧ i ≤ xs.length ∧ ∃ G2 acc fp, Stp G1 H1 G2 H2 ∧ G2 D = none ∧ H2 D = some (.lst acc) ∧ Ros G2 H2 acc ((xs.take i).map f) fp ∧ fp.Nodup ∧ (∀ a ∈ fp, G2 a = none ∧ H1 a = none ∧ a ≠ D), ⟨xs.length, by simp, Nat.zero_le _, G1, [], [], Stp.newH s1.gh hD, hGD, upd_same, .nil, List.nodup_nil, fun _ m => by cases m⟩, ?_⟩
  rintro i m H2 ⟨rfl, hil, G2, acc, fp, s2, hg2, hh2, ra, nd, hfp⟩
  by_cases hlt : i < xs.length
  · have hget : xs[i]? = some xs[i] := List.getElem?_eq_getElem hlt
    have hget' : (xs.map enc)[i]? = some (enc xs[i]) := by rw [List.getElem?_map, hget]; rfl
    have hmem : xs[i] ∈ xs := List.getElem_mem hlt
    have htk : xs.take (i + 1) = xs.take i ++ [xs[i]] := by rw [List.take_add_one, hget]; rfl
    refine .inr ⟨it.go i H2 (by rw [hlen]; exact hlt) (s2.g.tr s2.gh), fun H' => ∃ G' acc' fp', Stp G1 H1 G' H' ∧ G' D = none ∧ H' D = some (.lst acc') ∧ Ros G' H' acc' ((xs.take (i + 1)).map f) fp' ∧ fp'.Nodup ∧ (∀ a ∈ fp', G' a = none ∧ H1 a = none ∧ a ≠ D),
      fun H' h' => ⟨xs.length - (i + 1), by omega, rfl, hlt, h'⟩, fun x H' hy => ?_⟩
    obtain ⟨rfl, rx⟩ := it.yld i H2 x H' _ hget' (s2.g.tr s2.gh) hy
    refine ⟨wipe_after σ j x, ?_⟩
    rw [wipe_set]
    have ok2 : Ok B G2 (σ.set j (some x)) H' (Γ.set j (.d (enc xs[i]))) := ((Ok.step ⟨F, k⟩ s1).step s2).setD j (rx.up s2.g)
    delta tYes
    dsimp only
    rw [if_pos rfl]
    obtain ⟨F2, k2⟩ := ok2
    refine he _ hmem B G2 _ H' F2 k2 _ fun v g G4 H4 s4 rv nd4 m4 => ?_
    have hh4 : H4 D = some (.lst acc) := s4.h D _ hh2
    have hg4 : G4 D = none := s4.nw D _ hh2 hg2
    have hal : acc.length < sizeLine := by
      have h1 := Ros.len _ _ _ ra
      rw [List.length_map, List.length_take] at h1
      omega
    have new4 : ∀ a ∈ g, H' a = none ∧ G4 a = none := fun a ha => by
      rcases (m4 a ha).2 with z | ⟨l, hl, _⟩
      · exact ⟨z, (m4 a ha).1⟩
      · cases hl
    have neD : ∀ a ∈ g, a ≠ D := fun a ha z => by
      have := (new4 a ha).1
      rw [z, hh2] at this; cases this
    have mta := Ros.mt _ _ _ ra
    have hfp4 : ∀ a ∈ fp, upd H4 D (.lst (acc ++ [v])) a = H' a := fun a ha => by
      rw [upd_ne (hfp a ha).2.2]
      exact (mta a ha).ex s4.h
    refine ⟨acc, hh4, hal, G4, acc ++ [v], fp ++ g, ?_, hg4, upd_same, ?_, ?_, ?_⟩
    · have st := s2.tr s4
      refine ⟨st.g, fun b o e => ?_, fun b o e => ?_, st.nw⟩
      · rw [upd_ne (ne_of_none e hD)]
        exact st.h b o e
      · rw [upd_ne (fun z => by subst z; rw [hg4] at e; cases e)]
        exact st.gh b o e
    · rw [htk, List.map_append]
      have h1 : Ros G4 (upd H4 D (.lst (acc ++ [v]))) acc ((xs.take i).map f) fp := Ros.fr (exTup s4.g) _ _ _ ra hfp4
      have h2 : Ros G4 (upd H4 D (.lst (acc ++ [v]))) [v] [f xs[i]] (g ++ []) := .cons (Ro.fr (fun _ _ z => z) _ _ _ rv fun a ha => upd_ne (neD a ha)) .nil
      rw [List.append_nil] at h2
      have app : ∀ {vs : List V} {ds : List PyData} {fa : List Addr}, Ros G4 (upd H4 D (.lst (acc ++ [v]))) vs ds fa → Ros G4 (upd H4 D (.lst (acc ++ [v]))) (vs ++ [v]) (ds ++ [f xs[i]]) (fa ++ g) := by
        intro vs ds fa hr
        induction ds generalizing vs fa with
        | nil => cases hr; exact h2
        | cons d ds ih =>
          cases hr with
          | cons a b =>
            rw [List.append_assoc]
            exact .cons a (ih b)
      exact app h1
    · refine List.nodup_append.mpr ⟨nd, nd4, fun a ha b hb e => ?_⟩
      subst e
      obtain ⟨o, ho⟩ := (mta a ha).some
      rw [(new4 a hb).1] at ho; cases ho
    · intro a ha
      rcases List.mem_append.mp ha with ha | ha
      · obtain ⟨o, ho⟩ := (mta a ha).some
        exact ⟨s4.nw a o ho (hfp a ha).1, (hfp a ha).2.1, (hfp a ha).2.2⟩
      · exact ⟨(new4 a ha).2, s2.h.no (new4 a ha).1, neD a ha⟩
  · have e : i = xs.length := by omega
    subst e
    rw [List.take_length] at ra
    refine .inl ⟨?_, q (.ref D) (D :: fp) G2 H2 (s1.tr s2) (.lst hh2 ra) (List.nodup_cons.mpr ⟨fun m => (hfp D m).2.2 rfl, nd⟩) fun a ha => ?_⟩
    · have h := it.stop H2 (s2.g.tr s2.gh)
      rw [hlen] at h
      exact h
    · rcases List.mem_cons.mp ha with rfl | ha
      · exact ⟨hg2, .inl (s1.h.no hD)⟩
      · exact ⟨(hfp a ha).1, .inl (s1.h.no (hfp a ha).2.1)⟩
end
end Ck
namespace Ck
open PySem PySem.Spec PyProof.Rows L2
def stp (w : Str) (i : Nat) : PyData := .tuple [.str w, .int i]
def kAt (ks : List Kp) (i : Nat) : Kp := ks.getD i nilK
def stepsD (c : Ch) : List PyData := ((List.range c.ks.length).filter fun i => !(kAt c.ks i).down.isEmpty).map (stp "pass") ++ ((List.range c.ks.length).filter fun i => !(kAt c.ks i).up.isEmpty).map (stp "back") ++ (if c.co.isSome then [stp "learn" c.ks.length] else [])
def R_steps_of (ds : List PyData) (d : PyData) : Prop := ∃ c : Ch, ds = [c.e] ∧ c.ok ∧ d = .list (stepsD c)
def R_done0 (ds : List PyData) (o : Oc) : Prop := ∃ (c : Ch) (w : Str) (i : Int), ds = [c.e, .tuple [.str w, .int i]] ∧ c.ok ∧ PyData.strOk w = true ∧ ((stepsD c).any fun y => PyData.eqv y (.tuple [.str w, .int i])) = false ∧ o = .error "NoStep"
def R_fall0 (ds : List PyData) (o : Oc) : Prop := ∃ (c : Ch) (p : Int), ds = [c.e, .int p] ∧ c.ok ∧ c.co = none ∧ (((p < 0 ∨ c.ks.length ≤ p) ∧ o = .error "NoKeeper") ∨ (0 ≤ p ∧ p < c.ks.length ∧ c.ks.length = 1 ∧ o = .error "OnlyKeeper"))
def R_ask0 (ds : List PyData) (o : Oc) : Prop := ∃ (c : PyData) (x : PyData), ds = [c, x] ∧ SzS x ∧ isKeyD x = false ∧ o = .error "BadKey"
def grownD (ks : List Kp) (l : List Dd) : Ch := if l.length = ((ks.getLast?.getD nilK).log).length then ⟨ks ++ [⟨l, l.length, [], []⟩], none⟩ else ⟨ks, some l⟩
def R_grown (ds : List PyData) (o : Oc) : Prop := ∃ (ks : List Kp) (l : List Dd), ds = [.list (ks.map Kp.e), .list (l.map Dd.e)] ∧ ks ≠ [] ∧ (Ch.mk ks (some l)).ok ∧ o = .ok (grownD ks l).e
def comeO (c : Ch) : Oc := if c.co.isSome then .error "OneComing" else if c.ks.length = 9 then .error "TooMany" else .ok (grownD c.ks []).e
def R_come (ds : List PyData) (o : Oc) : Prop := ∃ c : Ch, ds = [c.e] ∧ c.ok ∧ c.ks ≠ [] ∧ o = comeO c
section
variable {K : PySem.W.Frag} {Γ : List Sl} {ta tb tc te : TE} {E : XK} {W : WK}
theorem ev_listRg {n : Int} (h : Ev te Γ (.int n)) (h1 : 0 ≤ n) (h2 : n ≤ 1000) : Ev (tLstRg (tRg1 te)) Γ (.list (rngD 0 n.toNat)) := fun B G σ H ok Q q => h B G σ H ok _ fun v G1 H1 s1 r1 => by
  cases r1
  refine ⟨n, rfl, ⟨by omega, by omega, by omega, by omega, sz_dec (by omega)⟩, fun p hp => ?_⟩
  have e : rgV 0 n = (List.range n.toNat).map fun k : Nat => V.int (0 + k) := by
    unfold rgV
    rw [show (n - 0).toNat = n.toNat by omega]
  refine q (.ref p) _ _ (s1.tr (Stp.new s1.gh hp)) (.lst (.inl upd_same) ?_)
  rw [e]
  have key : ∀ (G : Hp) (l : List Nat), Rps G (l.map fun k : Nat => V.int (0 + k)) (l.map fun k : Nat => PyData.int (0 + k)) := fun G l => by
    induction l with
    | nil => exact .nil
    | cons a b ih => exact .cons (.int _) ih
  exact key _ _
theorem ev_steps_of {c : Ch} (h : Ev ta Γ c.e) (hc : c.ok) : Ev (tCall (spP 1 R_steps_of) [] E (tCons ta tNil)) Γ (.list (stepsD c)) := ev_call (ea_cons h ea_nil) rfl ⟨c, rfl, hc, rfl⟩
theorem em_grown {ks : List Kp} {l : List Dd} (h1 : Ev ta Γ (.list (ks.map Kp.e))) (h2 : Ev tb Γ (.list (l.map Dd.e))) (hn : ks ≠ []) (hc : (Ch.mk ks (some l)).ok) : EvM (tCall (spW WO K 2 R_grown) [] E (tCons ta (tCons tb tNil))) Γ [] (grownD ks l).e :=
  em_callW (ea_cons h1 (ea_cons h2 ea_nil)) rfl ⟨ks, l, rfl, hn, hc, rfl⟩
theorem shp_stp {w : Str} {i : Nat} (h : PyData.strOk w = true) : Shp 1 (stp w i) := shp_tuple (n := 0) fun x hx => by
  simp only [List.mem_cons, List.not_mem_nil, or_false] at hx
  rcases hx with rfl | rfl
  · exact shp_str h
  · exact shp_int
theorem shp_steps {c : Ch} : Shp 2 (.list (stepsD c)) := shp_list (n := 1) fun x hx => by
  unfold stepsD at hx
  rw [List.mem_append, List.mem_append, List.mem_map, List.mem_map] at hx
  rcases hx with (⟨i, _, rfl⟩ | ⟨i, _, rfl⟩) | hx
  · exact shp_stp (by decide +kernel)
  · exact shp_stp (by decide +kernel)
  · split at hx
    · rw [List.mem_singleton] at hx; subst hx; exact shp_stp (by decide +kernel)
    · cases hx
theorem stepsD_len {c : Ch} (hc : c.ok) : (stepsD c).length ≤ 2001 := by
  have h1 := List.length_filter_le (fun i => !(kAt c.ks i).down.isEmpty) (List.range c.ks.length)
  have h2 := List.length_filter_le (fun i => !(kAt c.ks i).up.isEmpty) (List.range c.ks.length)
  have h := hc.lk
  unfold stepsD
  rw [List.length_append, List.length_append, List.length_map, List.length_map]
  rw [List.length_range] at h1 h2
  split <;> simp <;> omega
theorem shp_ddl {l : List Dd} (h : ∀ d ∈ l, d.ok) : Shp 2 (.list (l.map Dd.e)) := shp_list (n := 1) fun x hx => by
  obtain ⟨d, hd, rfl⟩ := List.mem_map.mp hx
  exact (h d hd).shp
theorem shp_il {l : List Int} : Shp 1 (.list (l.map .int)) := shp_list (n := 0) fun x hx => by
  obtain ⟨d, hd, rfl⟩ := List.mem_map.mp hx
  exact shp_int
theorem kAt_mem {ks : List Kp} {i : Nat} (h : i < ks.length) : kAt ks i ∈ ks := by
  unfold kAt
  rw [List.getD_eq_getElem?_getD, List.getElem?_eq_getElem h]
  exact List.getElem_mem h
theorem kAt_get {ks : List Kp} {i : Nat} (h : i < ks.length) : atI (ks.map Kp.e) (i : Int) = some (kAt ks i).e := by
  refine atI_map (f := Kp.e) (atI_of ?_)
  unfold kAt
  rw [List.getD_eq_getElem?_getD, List.getElem?_eq_getElem h]; rfl
/-- == of lists of truths -/
theorem eqvAll_bls : ∀ bs : List Bool, PyData.eqvAll (bs.map .bool) (bs.map .bool) = true
  | [] => by simp [PyData.eqvAll]
  | b :: bs => by
    rw [List.map_cons]
    simp only [PyData.eqvAll, PyData.eqv, eqvAll_bls bs, beq_self_eq_true, Bool.and_self]
theorem rv_eqBls {bs : List Bool} : RvD (rEqD K) (.list (bs.map .bool)) (.list (bs.map .bool)) (.bool true) := by
  have s : Shp 1 (.list (bs.map .bool)) := shp_list (n := 0) fun x hx => by
    obtain ⟨d, hd, rfl⟩ := List.mem_map.mp hx
    exact shp_bool
  have h := rv_eqD (K := K) s.sh s.sh
  rw [show PyData.eqv (.list (bs.map .bool)) (.list (bs.map .bool)) = true by simp only [PyData.eqv, eqvAll_bls]] at h
  exact h
end
end Ck

namespace Ck
open PySem PySem.Spec PyProof.Rows L2

/-! ### the laws' numbers and keys -/
def greatI (n : Int) : Int := if n / 3 % 4 = 0 then n else if n / 3 % 4 = 1 then n ^ Int.toNat 2 else if n / 3 % 4 = 2 then n ^ Int.toNat 4 else n ^ Int.toNat 9
def numberI (n : Int) : Int := if n % 3 = 0 then greatI n * (1 - 2 * (n / 3 / 4 % 2)) else if n % 3 = 1 then n / 3 % 2000 - 1000 else n / 3 % 7 - 3
theorem great_at (n : Int) : atI [PyData.int n, .int (n ^ Int.toNat 2), .int (n ^ Int.toNat 4), .int (n ^ Int.toNat 9)] (n / 3 % 4) = some (.int (greatI n)) := by
  unfold greatI
  have h1 := Int.emod_nonneg (n / 3) (show (4 : Int) ≠ 0 by decide)
  have h2 := Int.emod_lt_of_pos (n / 3) (show (0 : Int) < 4 by decide)
  generalize n / 3 % 4 = m at h1 h2
  obtain rfl | rfl | rfl | rfl : m = 0 ∨ m = 1 ∨ m = 2 ∨ m = 3 := by omega
  · exact atI_of (i := 0) rfl
  · exact atI_of (i := 1) rfl
  · exact atI_of (i := 2) rfl
  · exact atI_of (i := 3) rfl
def R_number (ds : List PyData) (d : PyData) : Prop := ∃ n : Int, ds = [.int n] ∧ 0 ≤ n ∧ n < 1000000 ∧ d = .int (numberI n)
section
variable {Γ : List Sl} {ta tb : TE} {E : XK}
theorem ev_number {n : Int} (h : Ev ta Γ (.int n)) (h0 : 0 ≤ n) (h1 : n < 1000000) : Ev (tCall (spP 1 R_number) [] E (tCons ta tNil)) Γ (.int (numberI n)) := ev_call (ea_cons h ea_nil) rfl ⟨n, rfl, h0, h1, rfl⟩
end
/-! texts by their signs -/
abbrev ch1 (c : Nat) : Str := ⟨#[c]⟩
abbrev cps (z : Str) : List Nat := z.cps.toList
theorem cps_app (x y : Str) : cps (x ++ y) = cps x ++ cps y := by
  show (x ++ y).cps.toList = _
  rw [PySem.Str.cps_append, Array.toList_append]
theorem cps_len (z : Str) : z.length = (cps z).length := by simp [cps, Str.length]
theorem str_ext {x y : Str} (h : cps x = cps y) : x = y := Str.ext' (Array.toList_inj.mp h)
theorem cps_joinS : ∀ cs : List Nat, cps (Str.join "" (cs.map ch1)) = cs
  | [] => rfl
  | [_] => rfl
  | x :: z :: r => by
    show cps (ch1 x ++ "" ++ Str.join "" ((z :: r).map ch1)) = _
    rw [cps_app, cps_app, cps_joinS (z :: r)]
    rfl
theorem cps_join (cs : List Nat) : cps (Txt.join "" (cs.map ch1)) = cs := by
  show cps (Builtin.Str.glued (PySem.Str.ofString "") (cs.map ch1)) = _
  rw [StrLaws.glued_eq_join]
  exact cps_joinS cs
theorem find_ltr : ∀ c ∈ List.range' 97 26, Txt.find LETTERS ⟨#[c]⟩ = (c : Int) - 97 := by decide +kernel
theorem ltr_at {i : Int} (h0 : 0 ≤ i) (h1 : i < 26) : atI LETTERS.cps.toList i = some (97 + i.toNat) := by
  rw [letters_list]
  refine atI_int h0 ?_
  rw [List.getElem?_range' (by omega)]
  simp
def ltrOf (n : Int) (k : Nat) : Nat := 97 + ((n / (k + 1) + 3 * k) % 26).toNat
def sizeOf_ (n : Int) : Nat := (1 + n % 8).toNat
def wordL (n : Int) : List Nat := (List.range (sizeOf_ n)).map (ltrOf n)
def placeOf (n : Int) : Nat := (n / 8 % (sizeOf_ n : Int)).toNat
def otherOf (n : Int) : Nat := 97 + ((((wordL n).getD (placeOf n) 97 : Int) - 97 + 1 + n / 64 % 25) % 26).toNat
def wordS (n : Int) : Str := Txt.join "" ((wordL n).map ch1)
def keysS (n : Int) : List Str := [wordS n, cutS (wordS n) none (some (placeOf n : Int)) ++ ch1 (otherOf n) ++ cutS (wordS n) (some ((placeOf n : Int) + 1)) none, cutS (wordS n ++ ch1 (otherOf n)) none (some 8), "a"]
theorem size_lo (n : Int) : 1 ≤ sizeOf_ n ∧ sizeOf_ n ≤ 8 := by
  unfold sizeOf_
  have h1 := Int.emod_nonneg n (show (8 : Int) ≠ 0 by decide)
  have h2 := Int.emod_lt_of_pos n (show (0 : Int) < 8 by decide)
  omega
theorem place_lt (n : Int) : placeOf n < sizeOf_ n := by
  unfold placeOf
  have h := size_lo n
  have h1 := Int.emod_nonneg (n / 8) (show (sizeOf_ n : Int) ≠ 0 by omega)
  have h2 := Int.emod_lt_of_pos (n / 8) (show (0 : Int) < (sizeOf_ n : Int) by omega)
  omega
theorem wordL_len (n : Int) : (wordL n).length = sizeOf_ n := by simp [wordL]
theorem ltr26 (m : Int) : 97 ≤ 97 + (m % 26).toNat ∧ 97 + (m % 26).toNat < 123 := by
  have h1 := Int.emod_nonneg m (show (26 : Int) ≠ 0 by decide)
  have h2 := Int.emod_lt_of_pos m (show (0 : Int) < 26 by decide)
  omega
theorem wordL_low (n : Int) : ∀ c ∈ wordL n, 97 ≤ c ∧ c < 123 := fun c hc => by
  obtain ⟨k, _, rfl⟩ := List.mem_map.mp hc
  exact ltr26 _
theorem other_low (n : Int) : 97 ≤ otherOf n ∧ otherOf n < 123 := ltr26 _
theorem keyS_of {z : Str} (h1 : 1 ≤ (cps z).length) (h8 : (cps z).length ≤ 8) (hl : ∀ c ∈ cps z, 97 ≤ c ∧ c < 123) : isKeyS z = true := by
  unfold isKeyS lowD
  rw [cps_len, decide_eq_true h1, decide_eq_true h8]
  simp only [Bool.true_and, List.all_eq_true, decide_eq_true_eq]
  exact fun c hc => (letters_mem c).mpr (hl c hc)
end Ck
namespace Ck
open PySem PySem.Spec PyProof.Rows L2
theorem cps_word (n : Int) : cps (wordS n) = wordL n := cps_join _
theorem word_len (n : Int) : (wordS n).length = sizeOf_ n := by rw [cps_len, cps_word, wordL_len]
theorem cps_cut {z : Str} {lo hi : Option Int} : cps (cutS z lo hi) = cutG (cps z) lo hi := by
  unfold cutS cps
  simp [cutG]
  rfl
theorem keys_ok (n : Int) : ∀ k ∈ keysS n, isKeyS k = true := by
  have hs := size_lo n
  have hp := place_lt n
  have hw := wordL_low n
  have ho := other_low n
  have hl := wordL_len n
  intro k hk
  unfold keysS at hk
  simp only [List.mem_cons, List.not_mem_nil, or_false] at hk
  rcases hk with rfl | rfl | rfl | rfl
  · refine keyS_of ?_ ?_ ?_
    · rw [cps_word, hl]; omega
    · rw [cps_word, hl]; omega
    · rw [cps_word]; exact hw
  · have e : cps (cutS (wordS n) none (some (placeOf n : Int)) ++ ch1 (otherOf n) ++ cutS (wordS n) (some ((placeOf n : Int) + 1)) none) = (wordL n).take (placeOf n) ++ [otherOf n] ++ (wordL n).drop (placeOf n + 1) := by
      rw [cps_app, cps_app, cps_cut, cps_cut, cps_word, cutG_take (by omega) (by rw [hl]; omega), cutG_drop (by omega) (by rw [hl]; omega)]
      rw [show ((placeOf n : Int) + 1).toNat = placeOf n + 1 by omega]
      rfl
    refine keyS_of ?_ ?_ ?_
    · rw [e]; simp; omega
    · rw [e]; simp; omega
    · rw [e]
      intro c hc
      simp only [List.mem_append, List.mem_singleton] at hc
      rcases hc with (hc | rfl) | hc
      · exact hw c (List.mem_of_mem_take hc)
      · exact ho
      · exact hw c (List.mem_of_mem_drop hc)
  · have e : cps (cutS (wordS n ++ ch1 (otherOf n)) none (some 8)) = (wordL n ++ [otherOf n]).take 8 := by
      rw [cps_cut, cps_app, cps_word]
      show cutG (wordL n ++ [otherOf n]) none (some 8) = _
      by_cases h8 : sizeOf_ n + 1 ≤ 8
      · rw [List.take_of_length_le (by rw [List.length_append, hl]; exact h8)]
        unfold cutG
        have : HT.sIx (wordL n ++ [otherOf n]).length (wordL n ++ [otherOf n]).length (some 8) = (wordL n ++ [otherOf n]).length := by
          have hz : (wordL n ++ [otherOf n]).length = sizeOf_ n + 1 := by rw [List.length_append, hl]; rfl
          rw [hz]
          unfold HT.sIx
          simp
          omega
        rw [this]
        simp [HT.sIx]
        exact List.take_of_length_le (by simp)
      · exact cutG_take (i := 8) (by decide) (by rw [List.length_append, hl]; show (8 : Int) ≤ ((sizeOf_ n + 1 : Nat) : Int); omega)
    refine keyS_of ?_ ?_ ?_
    · rw [e]; simp; omega
    · rw [e]; simp; omega
    · rw [e]
      intro c hc
      have := List.mem_of_mem_take hc
      simp only [List.mem_append, List.mem_singleton] at this
      rcases this with hc | rfl
      · exact hw c hc
      · exact ho
  · decide +kernel
def R_keys (ds : List PyData) (d : PyData) : Prop := ∃ n : Int, ds = [.int n] ∧ 0 ≤ n ∧ n < 1000000 ∧ d = .list ((keysS n).map .str)
section
variable {Γ : List Sl} {ta tb : TE} {E : XK}
theorem ev_keys {n : Int} (h : Ev ta Γ (.int n)) (h0 : 0 ≤ n) (h1 : n < 1000000) : Ev (tCall (spP 1 R_keys) [] E (tCons ta tNil)) Γ (.list ((keysS n).map .str)) := ev_call (ea_cons h ea_nil) rfl ⟨n, rfl, h0, h1, rfl⟩
end
end Ck

namespace Ck
open PySem PySem.Spec PyProof.Rows L2

/-! ### dicts of texts and numbers -/
def valD (kvs : List (Str × Int)) (k : Str) : Option Int := (kvs.find? fun p => decide (p.1 = k)).map (·.2)
def putS (kvs : List (Str × Int)) (k : Str) (v : Int) : List (Str × Int) := if (kvs.any fun p => decide (p.1 = k)) = true then kvs.map (fun p => if p.1 = k then (p.1, v) else p) else kvs ++ [(k, v)]
def dropS (kvs : List (Str × Int)) (k : Str) : List (Str × Int) := kvs.filter fun p => decide (p.1 ≠ k)
theorem inr_dec {a b : Str} : decide ((Sum.inr a : Key) = Sum.inr b) = decide (a = b) := by
  by_cases h : a = b
  · rw [h]; simp
  · rw [decide_eq_false h]; exact decide_eq_false fun z => h (Sum.inr.inj z)
theorem valV_data (k : Str) : ∀ kvs : List (Str × Int), valV (kvs.map kvI) (Sum.inr k : Key) = (valD kvs k).map V.int
  | [] => rfl
  | p :: r => by
    by_cases e : p.1 = k
    · rw [List.map_cons, valV_pos (p := kvI p) (congrArg Sum.inr e)]
      unfold valD
      rw [List.find?_cons_of_pos (by simpa using e)]; rfl
    · rw [List.map_cons, valV_neg (p := kvI p) (fun z => e (Sum.inr.inj z)), valV_data k r]
      unfold valD
      rw [List.find?_cons_of_neg (by simpa using e)]
theorem any_data (k : Str) (kvs : List (Str × Int)) : ((kvs.map kvI).any fun kv => decide (kv.1 = (Sum.inr k : Key))) = kvs.any fun p => decide (p.1 = k) := by
  rw [List.any_map]
  congr 1
  funext p
  exact inr_dec
theorem putK_data (k : Str) (v : Int) (kvs : List (Str × Int)) : putK (kvs.map kvI) (Sum.inr k : Key) (.int v) = (putS kvs k v).map kvI := by
  unfold putK putS
  rw [any_data]
  split
  · rw [List.map_map, List.map_map]
    refine List.map_congr_left fun p _ => ?_
    show (if (Sum.inr p.1 : Key) = Sum.inr k then (Sum.inr p.1, V.int v) else kvI p) = kvI (if p.1 = k then (p.1, v) else p)
    by_cases e : p.1 = k
    · rw [if_pos e, if_pos (congrArg Sum.inr e)]; rfl
    · rw [if_neg e, if_neg fun z => e (Sum.inr.inj z)]
  · rw [List.map_append]; rfl
theorem dropK_data (k : Str) (kvs : List (Str × Int)) : dropK (kvs.map kvI) (Sum.inr k : Key) = (dropS kvs k).map kvI := by
  unfold dropK dropS
  rw [List.filter_map]
  congr 1
  refine List.filter_congr fun p _ => ?_
  exact decide_eq_decide.mpr (not_congr ⟨fun z => Sum.inr.inj z, fun z => congrArg Sum.inr z⟩)
def optI : Option Int → PyData
  | none => .none
  | some i => .int i
def optV : Option Int → V
  | none => .non
  | some i => .int i
theorem rp_opt {G : Hp} (o : Option Int) : Rp G (optV o) (optI o) := by
  cases o with
  | none => exact .non
  | some i => exact .int i
theorem Rp.dict {G H : Hp} {v : V} {kvs : List (Str × Int)} (r : Rp G v (.dict (kvs.map kvD))) : ∃ a ks, v = .ref a ∧ G a = some (.dK (List.map kvI ks)) ∧ ks = kvs := by
  generalize hp : kvs.map kvD = ps at r
  cases r with
  | @dct a ks _ h e =>
    refine ⟨a, ks, rfl, h, ?_⟩
    rw [e] at hp
    clear h e
    induction ks generalizing kvs with
    | nil => cases kvs with
      | nil => rfl
      | cons _ _ => cases hp
    | cons k ks ih => cases kvs with
      | nil => cases hp
      | cons p r =>
        rw [List.map_cons, List.map_cons] at hp
        have h1 := List.cons.inj hp
        rw [ih h1.2]
        have h2 := h1.1
        unfold kvD at h2
        obtain ⟨a, b⟩ := k
        obtain ⟨c, d⟩ := p
        cases h2
        rfl
section
variable {K : PySem.W.Frag} {Γ : List Sl} {td ty tx tv te : TE} {kvs : List (Str × Int)} {k : Str} {i : Nat} {z v : Int}
/-- an expression that tells a dict, to be read -/
def EvK (td : TE) (Γ : List Sl) (kvs : List (Str × Int)) : Prop := ∀ (B : Bs) (G : Hp) (σ : L2.St) (H : Hp), Ok B G σ H Γ → ∀ Q : VK, (∀ a G' H', Stp G H G' H' → Rd G' a (.dK (kvs.map kvI)) → Q (.ref a) H') → td σ H Q
theorem ek_d (h : Ev td Γ (.dict (kvs.map kvD))) : EvK td Γ kvs := fun B G σ H ok Q q => h B G σ H ok Q fun v G' H' s r => by
  obtain ⟨a, ks, rfl, e, rfl⟩ := r.dict (H := H')
  exact q a G' H' s (.inl e)
theorem ek_dl (e : Γ[i]? = some (.dl kvs)) : EvK (tVar i) Γ kvs := fun B G σ H ok Q q => by
  obtain ⟨F, k⟩ := ok
  obtain ⟨a, e1, r⟩ := k.sl i _ e
  exact ⟨.ref a, e1, q a G H (Stp.rfl' k.st.gh) r⟩
theorem dget_of {H : Hp} {a : Addr} (r : Rd H a (.dK (kvs.map kvI))) : DGet H a (.str k) ((valD kvs k).map V.int) := .inl ⟨kvs.map kvI, .inr k, r, rfl, (valV_data k kvs).symm⟩
theorem ev_dget1 (h : EvK td Γ kvs) (hk : Ev ty Γ (.str k)) : Ev (tDGet1 td ty) Γ (optI (valD kvs k)) := fun B G σ H ok Q q =>
  h B G σ H ok _ fun a G1 H1 s1 r1 => ⟨a, rfl, .inl ⟨_, s1.gh.rd r1⟩, hk B G1 σ H1 (ok.step s1) _ fun y G2 H2 s2 r2 => by
    cases r2
    refine ⟨_, dget_of ((s1.gh.tr s2.h).rd r1), ?_⟩
    have := q (optV (valD kvs k)) G2 H2 (s1.tr s2) (rp_opt _)
    cases e : valD kvs k <;> rw [e] at this <;> exact this⟩
theorem ev_dget2 (h : EvK td Γ kvs) (hk : Ev ty Γ (.str k)) (hx : Ev tx Γ (.int z)) : Ev (tDGet2 td ty tx) Γ (.int ((valD kvs k).getD z)) := fun B G σ H ok Q q =>
  h B G σ H ok _ fun a G1 H1 s1 r1 => ⟨a, rfl, .inl ⟨_, s1.gh.rd r1⟩, hk B G1 σ H1 (ok.step s1) _ fun y G2 H2 s2 r2 => hx B G2 σ H2 (ok.step (s1.tr s2)) _ fun x G3 H3 s3 r3 => by
    cases r2
    cases r3
    refine ⟨_, dget_of (((s1.gh.tr s2.h).tr s3.h).rd r1), ?_⟩
    have := q (.int ((valD kvs k).getD z)) G3 H3 ((s1.tr s2).tr s3) (.int _)
    cases e : valD kvs k <;> rw [e] at this <;> exact this⟩
theorem ev_dget (h : EvK td Γ kvs) (hk : Ev ty Γ (.str k)) (e : valD kvs k = some v) : Ev (tDGet td ty) Γ (.int v) := fun B G σ H ok Q q =>
  h B G σ H ok _ fun a G1 H1 s1 r1 => hk B G1 σ H1 (ok.step s1) _ fun y G2 H2 s2 r2 => by
    cases r2
    have g := dget_of (k := k) ((s1.gh.tr s2.h).rd r1)
    rw [e] at g
    exact ⟨a, .int v, rfl, g, q _ G2 H2 (s1.tr s2) (.int v)⟩
theorem ev_din (h : EvK td Γ kvs) (hk : Ev ty Γ (.str k)) : Ev (tDIn ty td) Γ (.bool (valD kvs k).isSome) := fun B G σ H ok Q q =>
  hk B G σ H ok _ fun y G1 H1 s1 r1 => h B G1 σ H1 (ok.step s1) _ fun a G2 H2 s2 r2 => by
    cases r1
    refine ⟨a, _, rfl, dget_of (s2.gh.rd r2), ?_⟩
    have := q (.bl (valD kvs k).isSome) G2 H2 (s1.tr s2) (.bl _)
    cases e : valD kvs k <;> rw [e] at this <;> exact this
/-- a new dict -/
def EvND (te : TE) (Γ : List Sl) (kvs : List (Str × Int)) : Prop := ∀ (B : Bs) (G : Hp) (σ : L2.St) (H : Hp), Ok B G σ H Γ → ∀ Q : VK, (∀ a G' H', Stp G H G' H' → H a = none → G' a = none → H' a = some (.dK (kvs.map kvI)) → Q (.ref a) H') → te σ H Q
theorem nd_empty : EvND tDNewK Γ [] := fun B G σ H ok Q q => fun p hp => q p G _ (Stp.newH ok.gh hp) hp (ok.gh.no hp) upd_same
theorem nd_copy (h : EvK te Γ kvs) : EvND (tCB (fun xs H Q => ∃ (a : Addr) (kvs : List (Key × V)), xs = [.ref a] ∧ Rd H a (.dK kvs) ∧ ∀ p, H p = none → Q (.ref p) (upd H p (.dK kvs))) (tCons te tNil)) Γ kvs := fun B G σ H ok Q q =>
  h B G σ H ok _ fun a G1 H1 s1 r1 => ⟨a, _, rfl, s1.gh.rd r1, fun p hp => q p G1 _ (s1.tr (Stp.newH s1.gh hp)) (s1.h.no hp) (s1.gh.no hp) upd_same⟩
theorem EvND.ev (h : EvND te Γ kvs) : Ev te Γ (.dict (kvs.map kvD)) := fun B G σ H ok Q q => h B G σ H ok Q fun a G' H' s h0 hg hh => q (.ref a) _ H' (s.give h0 hg hh) (.dct upd_same rfl)
variable {B : Bs} {nx bk ct : L2.St → Hp → Prop} {rt : VK} {Γ' : List Sl}
theorem at_setND (h : EvND te Γ kvs) (hs : SetAt Γ i (.ownD kvs) Γ') (q : At B Γ' nx) : At B Γ (tAsg te (gName i) ⟨nx, rt, bk, ct⟩) := fun G σ H ok =>
  h B G σ H ok _ fun a G' H' s h0 hg hh => q G' _ H' (hs.eq ▸ ok.setF s i (f := [a]) ⟨a, rfl, List.mem_cons_self, hh⟩ fun b m => by
    rcases List.mem_cons.mp m with rfl | m
    · exact ⟨h0, hg, .inr ⟨_, hh⟩⟩
    · cases m)
theorem at_dput (e : Γ[i]? = some (.ownD kvs)) (hv : Ev tv Γ (.int v)) (hk : Ev ty Γ (.str k)) (hz : kvs.length < sizeLine) (hs : SetAt Γ i (.ownD (putS kvs k v)) Γ') (q : At B Γ' nx) : At B Γ (sDPut (tVar i) ty tv ⟨nx, rt, bk, ct⟩) := fun G σ H ok => by
  obtain ⟨a, e1, h0, hg, hh⟩ := ok.ownD e
  refine hv B G σ H ok _ fun v' G1 H1 s1 r1 => ⟨.ref a, e1, ?_⟩
  refine hk B G1 σ H1 (ok.step s1) _ fun y G2 H2 s2 r2 => ?_
  cases r1
  cases r2
  have s := s1.tr s2
  refine ⟨a, _, rfl, .inl ⟨kvs.map kvI, .inr k, s.h _ _ hh, rfl, by rw [List.length_map]; exact hz, rfl⟩, ?_⟩
  rw [putK_data]
  exact q G2 σ _ (hs.eq ▸ (ok.step s).mut (fun _ z => .inr ⟨_, z⟩) (fun F k => k.inOwnD e e1) fun f m => ⟨a, e1, m, upd_same⟩)
theorem at_dpop1 (e : Γ[i]? = some (.ownD kvs)) (hk : Ev ty Γ (.str k)) (hv : valD kvs k = some v) (hs : SetAt Γ i (.ownD (dropS kvs k)) Γ') (q : At B Γ' nx) : At B Γ (tDrop (tDPop1 (tVar i) ty) ⟨nx, rt, bk, ct⟩) := fun G σ H ok => by
  obtain ⟨a, e1, h0, hg, hh⟩ := ok.ownD e
  refine ⟨.ref a, e1, a, rfl, .inl ⟨_, .inl hh⟩, ?_⟩
  refine hk B G σ H ok _ fun y G2 H2 s2 r2 => ?_
  cases r2
  refine ⟨kvs.map kvI, .inr k, .int v, s2.h _ _ hh, rfl, by rw [valV_data, hv]; rfl, ?_⟩
  rw [dropK_data]
  exact q G2 σ _ (hs.eq ▸ (ok.step s2).mut (fun _ z => .inr ⟨_, z⟩) (fun F k => k.inOwnD e e1) fun f m => ⟨a, e1, m, upd_same⟩)
theorem dropS_no {kvs : List (Str × Int)} (h : valD kvs k = none) : dropS kvs k = kvs := by
  unfold dropS
  refine List.filter_eq_self.mpr fun p hp => decide_eq_true fun z => ?_
  unfold valD at h
  rw [Option.map_eq_none_iff, List.find?_eq_none] at h
  exact h p hp (by simpa using z)
theorem at_dpop2 (e : Γ[i]? = some (.ownD kvs)) (hk : Ev ty Γ (.str k)) (hs : SetAt Γ i (.ownD (dropS kvs k)) Γ') (q : At B Γ' nx) : At B Γ (tDrop (tDPop2 (tVar i) ty (tC .non)) ⟨nx, rt, bk, ct⟩) := fun G σ H ok => by
  obtain ⟨a, e1, h0, hg, hh⟩ := ok.ownD e
  refine ⟨.ref a, e1, a, rfl, .inl ⟨_, .inl hh⟩, ?_⟩
  refine hk B G σ H ok _ fun y G2 H2 s2 r2 => ?_
  cases r2
  refine ⟨kvs.map kvI, .inr k, s2.h _ _ hh, rfl, fun v' hv => ?_, fun hv => ?_⟩
  · rw [dropK_data]
    exact q G2 σ _ (hs.eq ▸ (ok.step s2).mut (fun _ z => .inr ⟨_, z⟩) (fun F k => k.inOwnD e e1) fun f m => ⟨a, e1, m, upd_same⟩)
  · rw [valV_data] at hv
    have hn : valD kvs k = none := by
      cases e2 : valD kvs k with
      | none => rfl
      | some x => rw [e2] at hv; cases hv
    have hs' := hs.eq
    rw [dropS_no hn] at hs'
    have eq : Γ.set i (.ownD kvs) = Γ := by
      obtain ⟨hl, hv⟩ := List.getElem?_eq_some_iff.mp e
      rw [← hv]; exact List.set_getElem_self hl
    exact q G2 σ H2 (hs' ▸ eq.symm ▸ ok.step s2)
/-- an own dict, read -/
theorem ek_own (e : Γ[i]? = some (.ownD kvs)) : EvK (tVar i) (Γ.map Sl.fz) kvs := ek_d (ev_var (by rw [List.getElem?_map, e]; rfl))
end
end Ck

namespace Ck
open PySem PySem.Spec PyProof.Rows L2

/-! ### sorted keys: there is but one such list -/
theorem rising_pw : ∀ (l : List Str) (p : Str), risingS p l = true → (∀ x ∈ l, cps p ≤ cps x) ∧ l.Pairwise fun a b => cps a ≤ cps b
  | [], p, _ => ⟨fun x hx => (by cases hx), .nil⟩
  | x :: r, p, h => by
    have h' : (!ltCps x.cps.toList p.cps.toList && risingS x r) = true := h
    rw [Bool.and_eq_true, ltCps_eq, Bool.not_eq_true', decide_eq_false_iff_not] at h'
    have hp : cps p ≤ cps x := h'.1
    obtain ⟨i1, i2⟩ := rising_pw r x h'.2
    refine ⟨fun y hy => ?_, .cons i1 i2⟩
    rcases List.mem_cons.mp hy with rfl | hy
    · exact hp
    · exact List.le_trans hp (i1 y hy)
theorem sorted_pw : ∀ l : List Str, sortedS l = true → l.Pairwise fun a b => cps a ≤ cps b
  | [], _ => .nil
  | x :: r, h => .cons (rising_pw r x h).1 (rising_pw r x h).2
theorem sorted_one {ys zs ks : List Str} (h1 : ys.Perm ks) (s1 : sortedS ys = true) (h2 : zs.Perm ks) (s2 : sortedS zs = true) : ys = zs :=
  List.Perm.eq_of_pairwise (fun _ _ _ _ a b => str_ext (List.le_antisymm a b)) (sorted_pw ys s1) (sorted_pw zs s2) (h1.trans h2.symm)
open Classical in
noncomputable def sortK (ks : List Str) : List Str := if h : ∃ ys : List Str, ys.Perm ks ∧ sortedS ys = true then h.choose else ks
theorem sortK_eq {ys ks : List Str} (h : ys.Perm ks) (s : sortedS ys = true) : sortK ks = ys := by
  have e : ∃ ys : List Str, ys.Perm ks ∧ sortedS ys = true := ⟨ys, h, s⟩
  unfold sortK
  rw [dif_pos e]
  exact sorted_one e.choose_spec.1 e.choose_spec.2 h s
/-- sorted(d) -/
def rSortD : List V → Hp → VK → Prop := fun xs H Q =>
  ∃ (a : Addr) (kvs : List (Key × V)) (ks : List Str), xs = [.ref a] ∧ Rd H a (.dK kvs) ∧
    kvs.map (·.1) = ks.map Sum.inr ∧ ks.length < 64 ∧
    ∀ ys p, ys.Perm ks → sortedS ys = true → H p = none →
      Q (.ref p) (upd H p (.lst (ys.map V.str)))
theorem call_sortedK {X : Cx} (hc : X.calm = true) : CallR X (.builtin "sorted") rSortD := call_sortedD hc
section
variable {K : PySem.W.Frag} {Γ : List Sl} {td te : TE} {kvs : List (Str × Int)} {i : Nat}
theorem keys_inr (kvs : List (Str × Int)) : (kvs.map kvI).map (·.1) = (kvs.map (·.1)).map Sum.inr := by
  rw [List.map_map, List.map_map]; rfl
theorem evN_sortD (h : EvK td Γ kvs) (hz : kvs.length < 64) : EvN (tCB rSortD (tCons td tNil)) Γ ((sortK (kvs.map (·.1))).map .str) := fun B G σ H ok Q q =>
  h B G σ H ok _ fun a G1 H1 s1 r1 => ⟨a, _, kvs.map (·.1), rfl, s1.gh.rd r1, keys_inr kvs, by rw [List.length_map]; exact hz, fun ys p hp hs hn => by
    rw [sortK_eq hp hs] at q
    exact q p (ys.map V.str) G1 _ (s1.tr (Stp.newH s1.gh hn)) (s1.h.no hn) (s1.gh.no hn) upd_same (Rps.ofStrs ys)⟩
theorem nodup_kvI (h : (kvs.map (·.1)).Nodup) : ((kvs.map kvI).map (·.1)).Nodup := by
  rw [keys_inr]
  exact List.Pairwise.map Sum.inr (fun a b hne z => hne (Sum.inr.inj z)) h
theorem rv_eqDict (h : (kvs.map (·.1)).Nodup) : RvD rEqDA (.dict (kvs.map kvD)) (.dict (kvs.map kvD)) (.bool true) := fun G H v u e rx ry Q q => by
  obtain ⟨a, ks, rfl, e1, rfl⟩ := rx.dict (H := H)
  obtain ⟨b, ls, rfl, e2, rfl⟩ := ry.dict (H := H)
  refine ⟨a, b, _, _, rfl, rfl, e _ _ e1, e _ _ e2, rfl, fun p hp => ⟨val_nodup (nodup_kvI h) p hp, ?_⟩, q _ G H (Stp.rfl' e) (.bl true)⟩
  obtain ⟨x, _, rfl⟩ := List.mem_map.mp hp
  rfl
theorem rv_neDict (h : (kvs.map (·.1)).Nodup) : RvD rNeDA (.dict (kvs.map kvD)) (.dict (kvs.map kvD)) (.bool false) := fun G H v u e rx ry Q q => by
  obtain ⟨a, ks, rfl, e1, rfl⟩ := rx.dict (H := H)
  obtain ⟨b, ls, rfl, e2, rfl⟩ := ry.dict (H := H)
  refine ⟨a, b, _, _, rfl, rfl, e _ _ e1, e _ _ e2, rfl, fun p hp => ⟨val_nodup (nodup_kvI h) p hp, ?_⟩, q _ G H (Stp.rfl' e) (.bl false)⟩
  obtain ⟨x, _, rfl⟩ := List.mem_map.mp hp
  rfl
end

/-! ### a dict that is walked is locked meanwhile -/
def lkv (d : Addr) (od : Obj) (H : Hp) : Hp := fun a => if a = d then (match H a with
  | some (.dK kvs) => some (.frz od (.dK kvs))
  | o => o) else H a
def ulv (d : Addr) (H : Hp) : Hp := fun a => if a = d then (match H a with
  | some (.frz _ (.dK kvs)) => some (.dK kvs)
  | o => o) else H a
section
variable {d : Addr} {od : Obj} {G H G' H' : Hp} {kvs : List (Key × V)}
theorem lkv_ne {a : Addr} (h : a ≠ d) : lkv d od H a = H a := if_neg h
theorem ulv_ne {a : Addr} (h : a ≠ d) : ulv d H a = H a := if_neg h
theorem lkv_none {a : Addr} : lkv d od H a = none ↔ H a = none := by
  unfold lkv
  split
  · split
    · rename_i h; rw [h]; simp
    · rfl
  · rfl
theorem ulv_none {a : Addr} : ulv d H a = none ↔ H a = none := by
  unfold ulv
  split
  · split
    · rename_i h; rw [h]; simp
    · rfl
  · rfl
theorem Ex.lk (e : Ex H H') : Ex (lkv d od H) (lkv d od H') := fun a o q => by
  have hn : H a ≠ none := fun z => by rw [lkv_none.mpr z] at q; cases q
  obtain ⟨u, hu⟩ := Option.ne_none_iff_exists'.mp hn
  have hu' := e a u hu
  unfold lkv at q ⊢
  rw [hu] at q
  rw [hu']
  exact q
theorem Ex.ul (e : Ex H H') : Ex (ulv d H) (ulv d H') := fun a o q => by
  have hn : H a ≠ none := fun z => by rw [ulv_none.mpr z] at q; cases q
  obtain ⟨u, hu⟩ := Option.ne_none_iff_exists'.mp hn
  have hu' := e a u hu
  unfold ulv at q ⊢
  rw [hu] at q
  rw [hu']
  exact q
theorem Stp.lk (s : Stp G H G' H') : Stp (lkv d od G) (lkv d od H) (lkv d od G') (lkv d od H') := ⟨s.g.lk, s.h.lk, s.gh.lk, fun a o h1 h2 => by
  have hn : H a ≠ none := fun z => by rw [lkv_none.mpr z] at h1; cases h1
  obtain ⟨u, hu⟩ := Option.ne_none_iff_exists'.mp hn
  exact lkv_none.mpr (s.nw a u hu (lkv_none.mp h2))⟩
theorem Stp.ul (s : Stp G H G' H') : Stp (ulv d G) (ulv d H) (ulv d G') (ulv d H') := ⟨s.g.ul, s.h.ul, s.gh.ul, fun a o h1 h2 => by
  have hn : H a ≠ none := fun z => by rw [ulv_none.mpr z] at h1; cases h1
  obtain ⟨u, hu⟩ := Option.ne_none_iff_exists'.mp hn
  exact ulv_none.mpr (s.nw a u hu (ulv_none.mp h2))⟩
theorem lkv_at (h : H d = some (.dK kvs)) : lkv d od H = upd H d (.frz od (.dK kvs)) := by
  funext a
  by_cases e : a = d
  · subst e
    unfold lkv
    rw [if_pos rfl, h, upd_same]
  · rw [lkv_ne e, upd_ne e]
theorem ulv_at {o : Obj} (h : H d = some (.frz o (.dK kvs))) : ulv d H = upd H d (.dK kvs) := by
  funext a
  by_cases e : a = d
  · subst e
    unfold ulv
    rw [if_pos rfl, h, upd_same]
  · rw [ulv_ne e, upd_ne e]
/-- of a heap in which d is not locked -/
theorem ul_lk (h : H d = none ∨ H d = some (.dK kvs)) : ulv d (lkv d od H) = H := by
  funext a
  by_cases e : a = d
  · subst e
    unfold ulv lkv
    rw [if_pos rfl, if_pos rfl]
    rcases h with h | h <;> rw [h]
  · rw [ulv_ne e, lkv_ne e]
theorem Rd.lkT {a : Addr} {u : HO} (hp : ∀ k, u ≠ .dK k) (r : Rd H a u) : Rd (lkv d od H) a u := by
  by_cases e : a = d
  · subst e
    unfold Rd lkv
    rw [if_pos rfl]
    rcases r with r | ⟨o, r⟩
    · rw [r]
      left
      cases u with
      | dK k => exact absurd rfl (hp k)
      | _ => rfl
    · right; exact ⟨o, by rw [r]⟩
  · unfold Rd
    rw [lkv_ne e]; exact r
theorem Rd.ulT {a : Addr} {u : HO} (hp : ∀ k, u ≠ .dK k) (hf : ∀ o k, u ≠ .frz o k) (r : Rd H a u) : Rd (ulv d H) a u := by
  by_cases e : a = d
  · subst e
    unfold Rd ulv
    rw [if_pos rfl]
    rcases r with r | ⟨o, r⟩
    · rw [r]
      left
      cases u with
      | dK k => exact absurd rfl (hp k)
      | frz o k => exact absurd rfl (hf o k)
      | _ => rfl
    · right
      refine ⟨o, ?_⟩
      rw [r]
      cases u with
      | dK k => exact absurd rfl (hp k)
      | _ => rfl
  · unfold Rd
    rw [ulv_ne e]; exact r
theorem Rd.lkD {a : Addr} (r : Rd H a (.dK kvs)) : Rd (lkv d od H) a (.dK kvs) := by
  by_cases e : a = d
  · subst e
    unfold Rd lkv
    rw [if_pos rfl]
    rcases r with r | ⟨o, r⟩
    · right; exact ⟨od, by rw [r]⟩
    · right; exact ⟨o, by rw [r]⟩
  · unfold Rd
    rw [lkv_ne e]; exact r
theorem Rd.ulD {a : Addr} (r : Rd H a (.dK kvs)) : Rd (ulv d H) a (.dK kvs) := by
  by_cases e : a = d
  · subst e
    unfold Rd ulv
    rw [if_pos rfl]
    rcases r with r | ⟨o, r⟩
    · left; rw [r]
    · left; rw [r]
  · unfold Rd
    rw [ulv_ne e]; exact r
end
mutual
/-- no dict in it -/
def noD : PyData → Bool
  | .list ds => noDs ds
  | .dict _ => false
  | .tuple ds => noDs ds
  | _ => true
def noDs : List PyData → Bool
  | [] => true
  | d :: ds => noD d && noDs ds
end
mutual
theorem Rp.noD {G G' : Hp} (e : ∀ a u, (∀ k, u ≠ HO.dK k) → (∀ o k, u ≠ HO.frz o k) → Rd G a u → Rd G' a u) : ∀ (d : PyData) (v : V), Ck.noD d = true → Rp G v d → Rp G' v d
  | .none, _, _, h => by cases h; exact .non
  | .bool b, _, _, h => by cases h; exact .bl b
  | .int i, _, _, h => by cases h; exact .int i
  | .str x, _, _, h => by cases h; exact .str x
  | .list ds, _, c, h => by
    cases h with
    | lst h1 h2 => exact .lst (e _ _ (fun _ z => by cases z) (fun _ _ z => by cases z) h1) (Rps.noD e ds _ (by simpa only [Ck.noD] using c) h2)
  | .tuple ds, _, c, h => by
    cases h with
    | tup h1 h2 => exact .tup (e _ _ (fun _ z => by cases z) (fun _ _ z => by cases z) h1) (Rps.noD e ds _ (by simpa only [Ck.noD] using c) h2)
  | .dict ps, _, c, h => by simp [Ck.noD] at c
theorem Rps.noD {G G' : Hp} (e : ∀ a u, (∀ k, u ≠ HO.dK k) → (∀ o k, u ≠ HO.frz o k) → Rd G a u → Rd G' a u) : ∀ (ds : List PyData) (vs : List V), noDs ds = true → Rps G vs ds → Rps G' vs ds
  | [], _, _, h => by cases h; exact .nil
  | d :: ds, _, c, h => by
    cases h with
    | cons h1 h2 =>
      have c' : Ck.noD d = true ∧ noDs ds = true := by simpa only [noDs, Bool.and_eq_true] using c
      exact .cons (Rp.noD e d _ c'.1 h1) (Rps.noD e ds _ c'.2 h2)
end
def lkOk : Sl → Bool
  | .d x => noD x
  | .own ds => noDs ds
  | .sn x => noD x
  | .oa _ ds => noDs ds
  | _ => true
/-- what changes at d alone, from a dict to a locked one or back -/
theorem SlOk.at_ {d : Addr} {G G' H H' : Hp} {o : Option (Option V)} {f : List Addr} {s : Sl} (h : SlOk G H o f s) (hl : lkOk s = true) (hq : ∀ a ∈ f, H' a = H a)
    (eT : ∀ a u, (∀ k, u ≠ HO.dK k) → (∀ o k, u ≠ HO.frz o k) → Rd G a u → Rd G' a u) (eD : ∀ a kvs, Rd G a (.dK kvs) → Rd G' a (.dK kvs)) : SlOk G' H' o f s := by
  have eU : ∀ a xs, Rd G a (.tup xs) → Rd G' a (.tup xs) := fun a xs => eT a _ (fun _ z => by cases z) (fun _ _ z => by cases z)
  cases s with
  | un => trivial
  | d x => obtain ⟨v, e1, r⟩ := h; exact ⟨v, e1, Rp.noD eT x v hl r⟩
  | ex a => exact h
  | own ds => obtain ⟨a, vs, e1, m, hh, r⟩ := h; exact ⟨a, vs, e1, m, (hq a m).trans hh, Rps.noD eT ds vs hl r⟩
  | ownD kvs => obtain ⟨a, e1, m, hh⟩ := h; exact ⟨a, e1, m, (hq a m).trans hh⟩
  | ow x => obtain ⟨v, g, e1, r, nd, m⟩ := h; exact ⟨v, g, e1, r.fr eU _ _ _ fun a ha => hq a (m a ha), nd, m⟩
  | dl kvs => obtain ⟨a, e1, r⟩ := h; exact ⟨a, e1, eD a _ r⟩
  | sn x => obtain ⟨p, a, vx, e1, r, rx⟩ := h; exact ⟨p, a, vx, e1, eU p _ r, Rp.noD eT x vx hl rx⟩
  | oa a ds => obtain ⟨vs, e1, m, hh, r⟩ := h; exact ⟨vs, e1, m, (hq a m).trans hh, Rps.noD eT ds vs hl r⟩
  | ov v x => obtain ⟨g, e1, r, nd, m⟩ := h; exact ⟨g, e1, r.fr eU _ _ _ fun a ha => hq a (m a ha), nd, m⟩
section
variable {d : Addr} {od : Obj} {B : Bs} {G H : Hp} {σ : L2.St} {Γ : List Sl} {F : Nat → List Addr} {kvs : List (Key × V)}
theorem OkF.lk (k : OkF B G σ H Γ F) (hd : G d ≠ none) (hl : ∀ s ∈ Γ, lkOk s = true) : OkF ⟨lkv d od B.gb, lkv d od B.g0, lkv d od B.h0⟩ (lkv d od G) σ (lkv d od H) Γ F := by
  have ne : ∀ i a, a ∈ F i → a ≠ d := fun i a m z => hd (z ▸ (k.fr i a m).2.1)
  exact ⟨k.eb.lk, k.st.lk, k.len, fun i s e => (k.sl i s e).at_ (d := d) (hl s (List.mem_of_getElem? e)) (fun a m => lkv_ne (ne i a m)) (fun a u h1 _ r => Rd.lkT h1 r) (fun a _ r => Rd.lkD r),
    fun i a m => ⟨lkv_none.mpr (k.fr i a m).1, lkv_none.mpr (k.fr i a m).2.1, (k.fr i a m).2.2.of (lkv_ne (ne i a m))⟩, k.ap⟩
theorem OkF.ul (k : OkF ⟨lkv d od B.gb, lkv d od B.g0, lkv d od B.h0⟩ G σ H Γ F) (hd : G d ≠ none) (hl : ∀ s ∈ Γ, lkOk s = true) (hb : B.gb d = none ∨ B.gb d = some (.dK kvs)) (h0 : B.g0 d = none ∨ B.g0 d = some (.dK kvs)) (h1 : B.h0 d = none ∨ B.h0 d = some (.dK kvs)) : OkF B (ulv d G) σ (ulv d H) Γ F := by
  have ne : ∀ i a, a ∈ F i → a ≠ d := fun i a m z => hd (z ▸ (k.fr i a m).2.1)
  have eb := k.eb.ul (d := d)
  have st := k.st.ul (d := d)
  dsimp only at eb st
  rw [ul_lk hb] at eb
  rw [ul_lk h0, ul_lk h1] at st
  exact ⟨eb, st, k.len, fun i s e => (k.sl i s e).at_ (d := d) (hl s (List.mem_of_getElem? e)) (fun a m => ulv_ne (ne i a m)) (fun a u h1 h2 r => Rd.ulT h1 h2 r) (fun a _ r => Rd.ulD r),
    fun i a m => ⟨lkv_none.mp (k.fr i a m).1, ulv_none.mpr (k.fr i a m).2.1, (k.fr i a m).2.2.of (ulv_ne (ne i a m))⟩, k.ap⟩
end
section
variable {B : Bs} {Γ : List Sl} {nx bk ct : L2.St → Hp → Prop} {rt : VK} {t : TS} {ds : List PyData} {j : Nat}
/-- for, from one state -/
theorem at_for0 {wi : TI} {G : Hp} {σ : L2.St} {H : Hp} (ok : Ok B G σ H Γ) (I : Nat → List Sl) (P : Nat → Prop) (hi : ∀ R : It → Hp → Prop, (∀ J G' H', Stp G H G' H' → ItD J G' ds → R J H') → wi σ H R) (h0 : Wk (I 0) Γ) (p0 : P 0)
    (hs : ∀ (gb : Hp) (i : Nat) (d : PyData) (N : L2.St → Hp → Prop), ds[i]? = some d → P i → (P (i + 1) → At ⟨gb, B.g0, B.h0⟩ (I (i + 1)) N) → At ⟨gb, B.g0, B.h0⟩ ((I i).set j (.d d)) (t ⟨N, rt, nx, N⟩))
    (he : P ds.length → ∀ G' σ' H', Ex G G' → Ok B G' σ' H' (I ds.length) → nx σ' H') : tFor wi (gName j) t ⟨nx, rt, bk, ct⟩ σ H := hi _ fun J G1 H1 s1 it => by
  refine ⟨fun i m σ2 H2 => m = ds.length - i ∧ i ≤ ds.length ∧ P i ∧ ∃ G2, Ex G1 G2 ∧ Ok B G2 σ2 H2 (I i), ⟨ds.length, by simp, Nat.zero_le _, p0, G1, Ex.rfl' G1, (ok.step s1).weak h0.len h0.get⟩, ?_⟩
  rintro i m σ2 H2 ⟨rfl, hil, pi, G2, e2, ok2⟩
  by_cases hlt : i < ds.length
  · have hget : ds[i]? = some ds[i] := List.getElem?_eq_getElem hlt
    refine .inr ⟨it.go i H2 hlt (e2.tr ok2.gh), fun σ' H' => P (i + 1) ∧ ∃ G', Ex G1 G' ∧ Ok B G' σ' H' (I (i + 1)), fun σ' H' h' => ⟨ds.length - (i + 1), by omega, rfl, hlt, h'⟩, fun x H' hy => ?_⟩
    obtain ⟨rfl, rx⟩ := it.yld i H2 x H' _ hget (e2.tr ok2.gh) hy
    have ok3 := ok2.setD j (v := x) (rx.up e2)
    refine hs G2 i _ (fun σ' H' => P (i + 1) ∧ ∃ G', Ex G1 G' ∧ Ok B G' σ' H' (I (i + 1))) hget pi (fun p1 G' σ' H' ok' => ⟨p1, G', e2.tr ok'.eb, ok'.reb (ok2.eb.tr ok'.eb)⟩) G2 _ H' (ok3.reb (Ex.rfl' G2))
  · have e : i = ds.length := by omega
    subst e
    exact .inl ⟨it.stop H2 (e2.tr ok2.gh), he pi G2 σ2 H2 (s1.g.tr e2) ok2⟩
/-- for k in d -/
theorem at_forK {i : Nat} {kvs : List (Str × Int)} (e : Γ[i]? = some (.d (.dict (kvs.map kvD)))) (I : Nat → List Sl) (P : Nat → Prop) (h0 : Wk (I 0) (Γ.set i (.dl kvs))) (p0 : P 0) (hl0 : ∀ s ∈ I 0, lkOk s = true) (hl : ∀ s ∈ I kvs.length, lkOk s = true) (hI : (I 0)[i]? = some (.dl kvs))
    (hs : ∀ (B' : Bs) (n : Nat) (p : Str × Int) (N nx' : L2.St → Hp → Prop) (rt' : VK), kvs[n]? = some p → P n → (P (n + 1) → At B' (I (n + 1)) N) → At B' ((I n).set j (.d (.str p.1))) (t ⟨N, rt', nx', N⟩))
    (he : P kvs.length → At B (I kvs.length) nx) : At B Γ (tLock (tFor (iKeys (tVar i)) (gName j) t) ⟨nx, rt, bk, ct⟩) := fun G σ H ok => by
  obtain ⟨v, e1, r⟩ := ok.dat e
  obtain ⟨a, ks, rfl, hg, rfl⟩ := r.dict (H := H)
  have hh := ok.gh _ _ hg
  refine ⟨a, _, hh, trivial, fun od => ?_⟩
  rw [← lkv_at (od := od) hh]
  have cond : ∀ {X : Hp}, Ex X H → X a = none ∨ X a = some (.dK (ks.map kvI)) := fun {X} ex => by
    cases q : X a with
    | none => exact .inl rfl
    | some o =>
      have := ex a o q
      rw [hh] at this
      exact .inr this.symm
  have hB := ok.st
  have heb := ok.eb
  obtain ⟨F, k⟩ := ok
  have kd : OkF B G σ H (Γ.set i (.dl ks)) F := by
    refine ⟨k.eb, k.st, by rw [List.length_set]; exact k.len, fun m s es => ?_, k.fr, k.ap⟩
    by_cases hm : i = m
    · subst hm
      have hi : i < Γ.length := (List.getElem?_eq_some_iff.mp e).1
      rw [List.getElem?_set_self hi] at es
      cases es
      exact ⟨a, e1, .inl hg⟩
    · rw [List.getElem?_set_ne hm] at es
      exact k.sl m s es
  have kw : Ok B G σ H (I 0) := Ok.weak ⟨F, kd⟩ h0.len h0.get
  obtain ⟨F2, k2⟩ := kw
  have kl := k2.lk (d := a) (od := od) (by rw [hg]; exact fun z => by cases z) hl0
  have gl : lkv a od G a = some (.frz od (.dK (ks.map kvI))) := by rw [lkv_at hg, upd_same]
  have hl' : lkv a od H a = some (.frz od (.dK (ks.map kvI))) := by rw [lkv_at hh, upd_same]
  refine at_for0 (B := ⟨lkv a od B.gb, lkv a od B.g0, lkv a od B.h0⟩) (ds := (ks.map (·.1)).map .str) ⟨F2, kl⟩ I P (fun R q => ?_) ?_ p0 (fun gb n d N hd hp hN => ?_) (fun hp G' σ' H' ex ok' => ?_)
  · refine ⟨.ref a, e1, a, od, rfl, .inl ⟨_, hl', q _ _ _ (Stp.rfl' kl.st.gh) ⟨fun H ex => ⟨ex _ _ gl, by simp⟩, fun n H hn ex => ⟨ex _ _ gl, by simpa using hn⟩, fun n H x H' d hd ex y => ?_⟩⟩⟩
    obtain ⟨rfl, kk, vv, hk, rfl⟩ := y
    rw [List.getElem?_map] at hk
    rw [List.getElem?_map, List.getElem?_map] at hd
    cases hq : ks[n]? with
    | none => rw [hq] at hk; cases hk
    | some p =>
      rw [hq] at hk hd
      cases hk
      cases hd
      exact ⟨rfl, .str _⟩
  · have : ∀ l : List Sl, Wk l l := fun l => by
      induction l with
      | nil => exact .nil
      | cons a b ih => exact .same ih
    exact this _
  · rw [List.getElem?_map, List.getElem?_map] at hd
    cases hq : ks[n]? with
    | none => rw [hq] at hd; cases hd
    | some p =>
      rw [hq] at hd
      cases hd
      exact hs _ n p N _ _ hq hp hN
  · have e9 : ((ks.map (·.1)).map PyData.str).length = ks.length := by simp
    rw [e9] at ok' hp
    have gd := ex _ _ gl
    have hd := ok'.gh _ _ gd
    refine ⟨hd, ?_⟩
    rw [← ulv_at hd]
    obtain ⟨F3, k3⟩ := ok'
    exact he hp _ _ _ ⟨F3, k3.ul (by rw [gd]; exact fun z => by cases z) hl (cond (heb.tr hB.gh)) (cond ((hB.g).tr hB.gh)) (cond hB.h)⟩
end
end Ck

namespace Ck
open PySem PySem.Spec PyProof.Rows L2
/-! ### done_by, plainly -/
def doneS (kvs : List (Str × Int)) (w k : Str) (v : Int) : List (Str × Int) :=
  if w = "put" then putS kvs k v else if w = "away" then dropS kvs k else if w = "add" ∨ valD kvs k = none then putS kvs k ((valD kvs k).getD 0 + v) else kvs
def doneA (kvs : List (Str × Int)) (w k : Str) (v : Int) : Option Int := if w = "put" ∨ w = "away" then valD kvs k else valD (doneS kvs w k v) k
abbrev dictD (kvs : List (Str × Int)) : PyData := .dict (kvs.map kvD)
def doneT (kvs : List (Str × Int)) (w k : Str) (v : Int) : PyData := .tuple [dictD (doneS kvs w k v), optI (doneA kvs w k v)]
theorem valD_put (kvs : List (Str × Int)) (k : Str) (v : Int) : valD (putS kvs k v) k = some v := by
  have h := valV_put (kvs.map kvI) (Sum.inr k : Key) (Sum.inr k) (.int v)
  rw [putK_data, valV_data, if_pos rfl] at h
  cases e : valD (putS kvs k v) k with
  | none => rw [e] at h; cases h
  | some x => rw [e] at h; cases h; rfl
def R_done_by (ds : List PyData) (o : Oc) : Prop := ∃ (kvs : List (Str × Int)) (a t v : Int) (w k : Str), ds = [dictD kvs, .tuple [.int a, .int t, .str w, .str k, .int v]] ∧ PyData.strOk w = true ∧ kvs.length ≤ 1000 ∧ o = .ok (doneT kvs w k v)
theorem isNon_opt {o : Option Int} : isNonD (optI o) = o.isNone := by cases o <;> rfl
section
variable {K : PySem.W.Frag} {Γ : List Sl} {ta tb : TE} {E : XK}
theorem em_done_by {kvs : List (Str × Int)} {a t v : Int} {w k : Str} (h1 : Ev ta Γ (dictD kvs)) (h2 : Ev tb Γ (.tuple [.int a, .int t, .str w, .str k, .int v])) (hw : PyData.strOk w = true) (hz : kvs.length ≤ 1000) : EvM (tCall (spW WO K 2 R_done_by) [] E (tCons ta (tCons tb tNil))) Γ [] (doneT kvs w k v) :=
  em_callW (ea_cons h1 (ea_cons h2 ea_nil)) rfl ⟨kvs, a, t, v, w, k, rfl, hw, hz, rfl⟩
end
theorem putS_len (kvs : List (Str × Int)) (k : Str) (v : Int) : (putS kvs k v).length ≤ kvs.length + 1 := by
  unfold putS
  split
  · rw [List.length_map]; omega
  · rw [List.length_append]; exact Nat.le_refl _
/-- the keys of a dict, each once, good texts -/
structure DkOk (kvs : List (Str × Int)) : Prop where
  nd : (kvs.map (·.1)).Nodup
  ok : ∀ p ∈ kvs, PyData.strOk p.1 = true
theorem dkOk_put {kvs : List (Str × Int)} {k : Str} {v : Int} (h : DkOk kvs) (hk : PyData.strOk k = true) : DkOk (putS kvs k v) := by
  unfold putS
  split
  · refine ⟨?_, fun p hp => ?_⟩
    · rw [List.map_map]
      have e : ((fun x : Str × Int => x.1) ∘ fun p => if p.1 = k then (p.1, v) else p) = (fun p => p.1) := by
        funext p; show (if p.1 = k then (p.1, v) else p).1 = p.1; split <;> rfl
      rw [e]; exact h.nd
    · obtain ⟨x, hx, rfl⟩ := List.mem_map.mp hp
      split
      · exact h.ok x hx
      · exact h.ok x hx
  · rename_i hn
    refine ⟨?_, fun p hp => ?_⟩
    · rw [List.map_append]
      refine List.nodup_append.mpr ⟨h.nd, List.nodup_cons.mpr ⟨fun m => (by cases m), List.nodup_nil⟩, fun a ha b hb e => ?_⟩
      obtain ⟨x, hx, rfl⟩ := List.mem_map.mp ha
      rcases List.mem_singleton.mp hb with rfl
      exact hn (List.any_eq_true.mpr ⟨x, hx, by simpa using e⟩)
    · rcases List.mem_append.mp hp with hp | hp
      · exact h.ok p hp
      · rw [List.mem_singleton.mp hp]; exact hk
theorem dkOk_drop {kvs : List (Str × Int)} {k : Str} (h : DkOk kvs) : DkOk (dropS kvs k) :=
  ⟨h.nd.sublist (List.Sublist.map _ List.filter_sublist), fun p hp => h.ok p (List.mem_filter.mp hp).1⟩
theorem dkOk_done {kvs : List (Str × Int)} {w k : Str} {v : Int} (h : DkOk kvs) (hk : PyData.strOk k = true) : DkOk (doneS kvs w k v) := by
  unfold doneS
  split
  · exact dkOk_put h hk
  · split
    · exact dkOk_drop h
    · split
      · exact dkOk_put h hk
      · exact h
theorem dropS_len (kvs : List (Str × Int)) (k : Str) : (dropS kvs k).length ≤ kvs.length := List.length_filter_le _ _
theorem doneS_len (kvs : List (Str × Int)) (w k : Str) (v : Int) : (doneS kvs w k v).length ≤ kvs.length + 1 := by
  unfold doneS
  split
  · exact putS_len _ _ _
  · split
    · exact Nat.le_trans (dropS_len _ _) (by omega)
    · split
      · exact putS_len _ _ _
      · omega
theorem valD_mem {kvs : List (Str × Int)} (h : (kvs.map (·.1)).Nodup) {p : Str × Int} (hp : p ∈ kvs) : valD kvs p.1 = some p.2 := by
  have e := val_nodup (nodup_kvI h) (kvI p) (List.mem_map.mpr ⟨p, hp, rfl⟩)
  have e2 : valV (kvs.map kvI) (Sum.inr p.1 : Key) = some (.int p.2) := e
  rw [valV_data] at e2
  cases q : valD kvs p.1 with
  | none => rw [q] at e2; cases e2
  | some x => rw [q] at e2; cases e2; rfl
theorem kvD_inj : ∀ {ks ls : List (Str × Int)}, ks.map kvD = ls.map kvD → ks = ls
  | [], [], _ => rfl
  | [], _ :: _, h => by cases h
  | _ :: _, [], h => by cases h
  | (a, b) :: ks, (c, d) :: ls, h => by
    rw [List.map_cons, List.map_cons] at h
    have h1 := List.cons.inj h
    have h2 : (PyData.str a, PyData.int b) = (PyData.str c, PyData.int d) := h1.1
    cases h2
    rw [kvD_inj h1.2]
mutual
theorem roNil {G H : Hp} : ∀ (d : PyData) (v : V) (f : List Addr), noL d = true → Ro G H v d f → f = []
  | .none, _, _, _, h => by cases h; rfl
  | .bool b, _, _, _, h => by cases h; rfl
  | .int i, _, _, _, h => by cases h; rfl
  | .str x, _, _, _, h => by cases h; rfl
  | .list ds, _, _, c, h => by simp [noL] at c
  | .tuple ds, _, _, c, h => by
    cases h with
    | tup h1 h2 => exact rosNil ds _ _ (by simpa only [noL] using c) h2
  | .dict ps, _, _, c, h => by simp [noL] at c
theorem rosNil {G H : Hp} : ∀ (ds : List PyData) (v : List V) (f : List Addr), noLs ds = true → Ros G H v ds f → f = []
  | [], _, _, _, h => by cases h; rfl
  | d :: ds, _, _, c, h => by
    cases h with
    | cons h1 h2 =>
      have c' : noL d = true ∧ noLs ds = true := by simpa only [noLs, Bool.and_eq_true] using c
      rw [roNil d _ _ c'.1 h1, rosNil ds _ _ c'.2 h2]; rfl
end
section
variable {K : PySem.W.Frag} {B : Bs} {G H : Hp} {σ : L2.St} {Γ Γ' : List Sl} {F : Nat → List Addr} {i j : Nat} {kvs : List (Str × Int)} {x : PyData} {nx bk ct : L2.St → Hp → Prop} {rt : VK} {k : Str} {z : Int}
/-- y = t[0], the dict moved out of one's own pair t -/
theorem at_mv0 (e : Γ[i]? = some (.ow (.tuple [dictD kvs, x]))) (hx : noL x = true) (hij : i ≠ j) (q : At B ((Γ.set i (.sn x)).set j (.ownD kvs)) nx) : At B Γ (tAsg (tOp (rIx K) (tVar i) (tC (.int 0))) (gName j) ⟨nx, rt, bk, ct⟩) := fun G σ H ok => by
  obtain ⟨F, h⟩ := ok
  obtain ⟨v, g, e1, r, nd, m⟩ := h.sl i _ e
  cases r with
  | tup h1 h2 =>
    cases h2 with
    | cons ha hb =>
      cases hb with
      | @cons vx _ _ _ fx _ hxx hn =>
        cases hn
        generalize hd : dictD kvs = dd at ha
        cases ha with
        | @dct a ks ps hh hp =>
          have hk : kvs = ks := by
            have : PyData.dict (kvs.map kvD) = .dict ps := hd
            rw [hp] at this
            exact kvD_inj (PyData.dict.inj this)
          subst hk
          rename_i p
          refine ⟨.ref p, e1, .inr (.inl ⟨p, [.ref a, vx], 0, .ref a, rfl, rfl, rd_sqt (h.st.gh.rd h1), atI_cons0, ?_⟩)⟩
          have rx : Rp G vx x := by
            have hfx : ∀ b ∈ fx, G b = H b → True := fun _ _ _ => trivial
            have : ∀ (d : PyData) (v : V) (f : List Addr), noL d = true → Ro G H v d f → Rp G v d := by
              intro d v f hd r
              have hf : ∀ (d : PyData) (v : V) (f : List Addr), noL d = true → Ro G H v d f → f = [] := fun d v f hd r => roNil d v f hd r
              have e := hf d v f hd r
              subst e
              exact r.rp (fun _ _ z => z) _ _ _ fun _ m => by cases m
            exact this x vx fx hx hxx
          have hma := m a List.mem_cons_self
          have hi : i < Γ.length := (List.getElem?_eq_some_iff.mp e).1
          refine q G _ H ?_
          have h3 : OkF B G σ H (Γ.set i (.sn x)) (fun n => if n = i then [] else F n) := by
            refine ⟨h.eb, h.st, by rw [List.length_set]; exact h.len, fun n s es => ?_, fun n b mb => ?_, fun n l b hne m1 m2 => ?_⟩
            · by_cases hn : i = n
              · subst hn
                rw [List.getElem?_set_self hi] at es
                cases es
                exact ⟨p, a, vx, e1, h1, rx⟩
              · rw [List.getElem?_set_ne hn] at es
                rw [if_neg (Ne.symm hn)]
                exact h.sl n s es
            · by_cases hn : n = i
              · rw [if_pos hn] at mb; cases mb
              · rw [if_neg hn] at mb; exact h.fr n b mb
            · by_cases hn : n = i
              · rw [if_pos hn] at m1; cases m1
              · rw [if_neg hn] at m1
                by_cases hl : l = i
                · rw [if_pos hl] at m2; cases m2
                · rw [if_neg hl] at m2; exact h.ap n l b hne m1 m2
          have hfr := h.fr i a hma
          exact ⟨_, h3.setF j (v := some (.ref a)) (f := [a]) ⟨a, rfl, List.mem_cons_self, hh⟩ (fun b mb => by
            rcases List.mem_cons.mp mb with rfl | mb
            · exact hfr
            · cases mb) fun b mb n hn mn => by
            rcases List.mem_cons.mp mb with rfl | mb
            · by_cases hni : n = i
              · rw [if_pos hni] at mn; cases mn
              · rw [if_neg hni] at mn; exact h.ap i n b (Ne.symm hni) hma mn
            · cases mb⟩
        | _ => cases hd
/-- t[1] then -/
theorem ev_sn (e : Γ[i]? = some (.sn x)) : Ev (tOp (rIx K) (tVar i) (tC (.int 1))) Γ x := fun B G σ H ok Q q => by
  obtain ⟨F, h⟩ := ok
  obtain ⟨p, a, vx, e1, r, rx⟩ := h.sl i _ e
  exact ⟨.ref p, e1, .inr (.inl ⟨p, [.ref a, vx], 1, vx, rfl, rfl, rd_sqt (h.st.gh.rd r), atI_of (i := 1) rfl, q vx G H (Stp.rfl' h.st.gh) rx⟩)⟩
end
/-- what one plain keeper makes of deeds -/
def plainN (ds : List Dd) : Nat → List (Str × Int)
  | 0 => []
  | n + 1 => match ds[n]? with
    | some d => doneS (plainN ds n) d.w d.k d.v
    | none => plainN ds n
def plainA (ds : List Dd) (n : Nat) : Option Int := match ds[n]? with
  | some d => doneA (plainN ds n) d.w d.k d.v
  | none => none
def plainS (ds : List Dd) : List (Str × Int) := plainN ds ds.length
def answersOf (ds : List Dd) : List (Option Int) := (List.range ds.length).map (plainA ds)
def plainT (ds : List Dd) : PyData := .tuple [dictD (plainS ds), .list ((answersOf ds).map optI)]
theorem plainN_len (ds : List Dd) : ∀ n, (plainN ds n).length ≤ n
  | 0 => Nat.le_refl 0
  | n + 1 => by
    have h := plainN_len ds n
    unfold plainN
    split
    · exact Nat.le_trans (doneS_len _ _ _ _) (by omega)
    · omega
def R_plainly (ds : List PyData) (o : Oc) : Prop := ∃ l : List Dd, ds = [.list (l.map Dd.e)] ∧ l.length ≤ 1000 ∧ (∀ d ∈ l, d.ok) ∧ o = .ok (plainT l)
end Ck
namespace Ck
open PySem PySem.Spec PyProof.Rows L2
/-! ### _law_alike: of a thing and itself, by depth -/
def Alk : Nat → PyData → Prop
  | 0, _ => False
  | n + 1, .list ds => ds.length ≤ 1000 ∧ ∀ y ∈ ds, Alk n y
  | n + 1, .tuple ds => ds.length ≤ 1000 ∧ ∀ y ∈ ds, Alk n y
  | _ + 1, .dict _ => False
  | _ + 1, .str z => PyData.strOk z = true
  | _ + 1, _ => True
def R_alike (n : Nat) (ds : List PyData) (d : PyData) : Prop := ∃ x, ds = [x, x] ∧ Alk n x ∧ d = .bool true
theorem mkF0 {P : Program} {w : World} {K : PySem.W.Frag} {mg : Str → Option Value} {base : Heap} {x : Str} {st : Stmt} {ps : List Str} {n : Nat} {R : List PyData → PyData → Prop} (h : Has K mg x st) (hb : BindsP x st ps) (hR : ∀ ds d, ¬ R ds d) : Def P w K mg base CX0 0 x ps (spP n R) := by
  obtain ⟨f, fd, F, g⟩ := h
  have no : ∀ {vs : List V} {H : Hp} {Q : VK} {E : XK}, spP n R vs H Q E → False := fun ⟨ds, d, _, _, _, _, r, _⟩ => hR ds d r
  obtain ⟨oc, od, _, _, _, _, _, _, _, osl, _, lk, _⟩ := F.ex
  exact ⟨f, fd, g, F.kp, F.bindsN hb, ⟨fun vs H Q E z => (no z).elim, fun _ _ _ _ _ _ _ _ _ _ _ _ _ z => (no z).elim⟩, oc, od, osl, lk⟩
end Ck

namespace Ck
open PySem PySem.Spec PyProof.Rows L2

/-! ### arguments that are one's own, and what is used up -/
def unS (S : List Nat) (Γ : List Sl) : List Sl := S.foldl (fun Γ i => Γ.set i .un) Γ
theorem unS_len (S : List Nat) : ∀ Γ : List Sl, (unS S Γ).length = Γ.length := by
  induction S with
  | nil => exact fun _ => rfl
  | cons j S ih =>
    intro Γ
    show (unS S (Γ.set j .un)).length = _
    rw [ih, List.length_set]
theorem unS_in (S : List Nat) : ∀ (Γ : List Sl) (i : Nat) (s : Sl), i ∈ S → (unS S Γ)[i]? = some s → s = .un := by
  induction S with
  | nil => intro _ _ _ h; cases h
  | cons j S ih =>
    intro Γ i s hi e
    have e' : (unS S (Γ.set j .un))[i]? = some s := e
    by_cases hs : i ∈ S
    · exact ih _ i s hs e'
    · have hij : i = j := by
        rcases List.mem_cons.mp hi with h | h
        · exact h
        · exact absurd h hs
      subst hij
      clear ih hi e
      have key : ∀ (S : List Nat) (Γ : List Sl), i ∉ S → (unS S Γ)[i]? = Γ[i]? := by
        intro S
        induction S with
        | nil => intro _ _; rfl
        | cons k S ih =>
          intro Γ h
          show (unS S (Γ.set k .un))[i]? = _
          rw [ih _ fun z => h (List.mem_cons_of_mem _ z), List.getElem?_set_ne fun z => h (List.mem_cons.mpr (.inl z.symm))]
      rw [key S _ hs] at e'
      by_cases hl : i < Γ.length
      · rw [List.getElem?_set_self hl] at e'
        cases e'; rfl
      · rw [List.getElem?_eq_none (by rw [List.length_set]; omega)] at e'
        cases e'
theorem unS_no (S : List Nat) : ∀ (Γ : List Sl) (i : Nat), i ∉ S → (unS S Γ)[i]? = Γ[i]? := by
  induction S with
  | nil => intro _ _ _; rfl
  | cons k S ih =>
    intro Γ i h
    show (unS S (Γ.set k .un))[i]? = _
    rw [ih _ i fun z => h (List.mem_cons_of_mem _ z), List.getElem?_set_ne fun z => h (List.mem_cons.mpr (.inl z.symm))]
section
open Classical
variable {B : Bs} {G H G' H' h0 : Hp} {σ : L2.St} {Γ : List Sl} {F : Nat → List Addr} {S : List Nat}
noncomputable def fS (S : List Nat) (F : Nat → List Addr) : Nat → List Addr := fun i => if i ∈ S then [] else F i
/-- what is at S is used up -/
theorem OkF.used (k : OkF B G σ H Γ F) (hG : Ex G h0) (hB : Ex B.h0 h0) (hs : ∀ i, i ∉ S → ∀ a ∈ F i, h0 a = H a) (s : Stp G h0 G' H') : OkF B G' σ H' (unS S Γ) (fS S F) := by
  have p0 : Stp B.g0 B.h0 G h0 := ⟨k.st.g, hB, hG, k.st.nw⟩
  have key : ∀ i, i ∉ S → ∀ a ∈ F i, H' a = H a := fun i hi a m => by
    obtain ⟨o, q⟩ := (k.fr i a m).2.2.some
    have q0 : h0 a = some o := (hs i hi a m).trans q
    rw [s.h a o q0, q]
  refine ⟨k.eb.tr s.g, p0.tr s, by rw [unS_len]; exact k.len, fun i t e => ?_, fun i a m => ?_, fun i j a hne m1 m2 => ?_⟩
  · by_cases hi : i ∈ S
    · rw [unS_in S Γ i t hi e]; trivial
    · rw [unS_no S Γ i hi] at e
      show SlOk G' H' σ[i]? (if i ∈ S then [] else F i) t
      rw [if_neg hi]
      exact (k.sl i t e).fr s.g (key i hi)
  · have m' : a ∈ (if i ∈ S then [] else F i) := m
    by_cases hi : i ∈ S
    · rw [if_pos hi] at m'; cases m'
    · rw [if_neg hi] at m'
      obtain ⟨b0, bg, bm⟩ := k.fr i a m'
      obtain ⟨o, q⟩ := bm.some
      exact ⟨b0, s.nw a o ((hs i hi a m').trans q) bg, bm.of (key i hi a m')⟩
  · have m1' : a ∈ (if i ∈ S then [] else F i) := m1
    have m2' : a ∈ (if j ∈ S then [] else F j) := m2
    by_cases hi : i ∈ S
    · rw [if_pos hi] at m1'; cases m1'
    · by_cases hj : j ∈ S
      · rw [if_pos hj] at m2'; cases m2'
      · rw [if_neg hi] at m1'
        rw [if_neg hj] at m2'
        exact k.ap i j a hne m1' m2'
theorem fS_in {i : Nat} {a : Addr} (m : a ∈ fS S F i) : i ∉ S ∧ a ∈ F i := by
  have m' : a ∈ (if i ∈ S then [] else F i) := m
  by_cases hi : i ∈ S
  · rw [if_pos hi] at m'; cases m'
  · rw [if_neg hi] at m'; exact ⟨hi, m'⟩
/-- a heap less all that is owned -/
noncomputable def hLess (F : Nat → List Addr) (H : Hp) : Hp := fun a => if ∃ i, a ∈ F i then none else H a
theorem hLess_no {a : Addr} (h : ∀ i, a ∉ F i) : hLess F H a = H a := if_neg fun ⟨i, m⟩ => h i m
theorem hLess_in {i : Nat} {a : Addr} (h : a ∈ F i) : hLess F H a = none := if_pos ⟨i, h⟩
theorem hLess_ex : Ex (hLess F H) H := fun a o q => by
  unfold hLess at q
  by_cases h : ∃ i, a ∈ F i
  · rw [if_pos h] at q; cases q
  · rw [if_neg h] at q; exact q
theorem OkF.exLess (k : OkF B G σ H Γ F) {X : Hp} (hx : Ex X H) (hn : ∀ i, ∀ a ∈ F i, X a = none) : Ex X (hLess F H) := fun a o q => by
  rw [hLess_no fun i m => by rw [hn i a m] at q; cases q]
  exact hx a o q
theorem OkF.rebase (k : OkF B G σ H Γ F) : OkF ⟨G, G, hLess F H⟩ G σ H Γ F :=
  ⟨Ex.rfl' G, ⟨Ex.rfl' G, hLess_ex, k.st.gh, fun _ _ _ h => h⟩, k.len, k.sl, fun i a m => ⟨hLess_in m, (k.fr i a m).2⟩, k.ap⟩
theorem OkF.stLess (k : OkF B G σ H Γ F) : Stp B.g0 B.h0 G (hLess F H) := ⟨k.st.g, k.exLess k.st.h fun i a m => (k.fr i a m).1, k.exLess k.st.gh fun i a m => (k.fr i a m).2.1, k.st.nw⟩
theorem OkF.unbase {σ' : L2.St} {Γ' : List Sl} {F' : Nat → List Addr} {Hb : Hp} (hb : Ex B.gb G) (st : Stp B.g0 B.h0 G Hb) (k : OkF ⟨G, G, Hb⟩ G' σ' H' Γ' F') : OkF B G' σ' H' Γ' F' :=
  ⟨hb.tr k.eb, st.tr k.st, k.len, k.sl, fun i a m => ⟨st.h.no (k.fr i a m).1, (k.fr i a m).2⟩, k.ap⟩
/-- an address that is nobody's is changed -/
theorem OkF.other (k : OkF B G σ H Γ F) {D : Addr} {o : HO} (hD : ∀ i, D ∉ F i) (hg : G D = none) (h0 : B.h0 D = none) : OkF B G σ (upd H D o) Γ F := by
  refine ⟨k.eb, ⟨k.st.g, fun a u q => ?_, fun a u q => ?_, k.st.nw⟩, k.len, fun i s e => (k.sl i s e).fr (Ex.rfl' G) fun a m => upd_ne fun z => hD i (by rw [← z]; exact m), fun i a m => ⟨(k.fr i a m).1, (k.fr i a m).2.1, (k.fr i a m).2.2.of (upd_ne fun z => hD i (by rw [← z]; exact m))⟩, k.ap⟩
  · rw [upd_ne (ne_of_none q h0)]; exact k.st.h a u q
  · rw [upd_ne (ne_of_none q hg)]; exact k.st.gh a u q
/-- an address that is nobody's is handed over -/
theorem OkF.giveA (k : OkF B G σ H Γ F) {D : Addr} {o : HO} (hD : ∀ i, D ∉ F i) (hg : G D = none) (h0 : B.h0 D = none) (hh : H D = some o) : OkF B (upd G D o) σ H Γ F := by
  have eg : Ex G (upd G D o) := Ex.new hg
  exact ⟨k.eb.tr eg, k.st.give h0 hg hh, k.len, fun i s e => (k.sl i s e).fr eg fun _ _ => rfl, fun i a m => ⟨(k.fr i a m).1, by rw [upd_ne fun z => hD i (by rw [← z]; exact m)]; exact (k.fr i a m).2.1, (k.fr i a m).2.2⟩, k.ap⟩
end
/-! ### expressions with an effect: from the slots Γ to Γ' -/
def EvP (te : TE) (Γ Γ' : List Sl) (d : PyData) : Prop := ∀ (B : Bs) (G : Hp) (σ : L2.St) (H : Hp), Ok B G σ H Γ → ∀ Q : VK, (∀ v G' H', Ex G G' → Ok B G' σ H' Γ' → Rp G' v d → Q v H') → te σ H Q
def EvQ (te : TE) (Γ Γ' : List Sl) (d : PyData) : Prop := ∀ (B : Bs) (G : Hp) (σ : L2.St) (H : Hp), Ok B G σ H Γ → ∀ Q : VK,
  (∀ v f G' H' F', OkF B G' σ H' Γ' F' → Ro G' H' v d f → f.Nodup → (∀ a ∈ f, B.h0 a = none ∧ G' a = none ∧ ∀ i, a ∉ F' i) → Q v H') → te σ H Q
section
variable {K : PySem.W.Frag} {B : Bs} {Γ Γ' Γ2 : List Sl} {nx bk ct : L2.St → Hp → Prop} {rt : VK} {te tc ti ta : TE} {d c : PyData} {ds : List PyData} {i j : Nat} {S : List Nat}
theorem Ev.p (h : Ev te Γ d) : EvP te Γ Γ d := fun B G σ H ok Q q => h B G σ H ok Q fun v G' H' s r => q v G' H' s.g (ok.step s) r
theorem evp_is {d' : PyData} (h : EvP te Γ Γ' d) (e : d = d') : EvP te Γ Γ' d' := e ▸ h
theorem EvM.q (h : EvM te Γ S d) : EvQ te Γ (unS S Γ) d := fun B G σ H ok Q q => by
  obtain ⟨F, k⟩ := ok
  refine h B G σ H F k Q fun v f G' H' s r nd m => ?_
  have k2 : OkF B G' σ H' (unS S Γ) (fS S F) := k.used k.st.gh k.st.h (fun _ _ _ _ => rfl) s
  refine q v f G' H' _ k2 r nd fun a ha => ⟨?_, (m a ha).1, fun i hi => ?_⟩
  · rcases (m a ha).2 with z | ⟨l, _, ml⟩
    · exact k.st.h.no z
    · exact (k.fr l a ml).1
  · obtain ⟨hS, hF⟩ := fS_in hi
    rcases (m a ha).2 with z | ⟨l, hl, ml⟩
    · obtain ⟨o, ho⟩ := (k.fr i a hF).2.2.some
      rw [z] at ho; cases ho
    · by_cases e : l = i
      · subst e; exact hS hl
      · exact k.ap l i a e ml hF
theorem at_setP {Γ3 : List Sl} (h : EvP te Γ Γ' d) (hs : SetAt Γ' i (.d d) Γ3) (q : At B Γ3 nx) : At B Γ (tAsg te (gName i) ⟨nx, rt, bk, ct⟩) := fun G σ H ok =>
  h B G σ H ok _ fun v G' H' _ ok' r => q G' _ H' (hs.eq ▸ ok'.setD i r)
theorem at_setQ {Γ3 : List Sl} (h : EvQ te Γ Γ' d) (hs : SetAt Γ' i (.ow d) Γ3) (q : At B Γ3 nx) : At B Γ (tAsg te (gName i) ⟨nx, rt, bk, ct⟩) := fun G σ H ok =>
  h B G σ H ok _ fun v f G' H' F' k r nd m => q G' _ H' (hs.eq ▸ ⟨_, k.setF i (f := f) ⟨v, f, rfl, r, nd, fun a ha => ha⟩ (fun a ha => ⟨(m a ha).1, (m a ha).2.1, r.mt _ _ _ a ha⟩) fun a ha j _ => (m a ha).2.2 j⟩)
theorem at_dropP (h : EvP te Γ Γ' d) (q : At B Γ' nx) : At B Γ (tDrop te ⟨nx, rt, bk, ct⟩) := fun G σ H ok => h B G σ H ok _ fun v G' H' _ ok' r => q G' _ H' ok'
theorem at_rtP (h : EvP te Γ Γ' d) {d' : PyData} (e : d = d') (q : RtOk B rt d') : At B Γ (tRet te ⟨nx, rt, bk, ct⟩) := fun G σ H ok => h B G σ H ok _ fun v G' H' _ ok' r => q v G' H' ok'.st (e ▸ r)
theorem at_rtQ (h : EvQ te Γ Γ' d) {d' : PyData} (e : d = d') (q : RtO B rt d') : At B Γ (tRet te ⟨nx, rt, bk, ct⟩) := fun G σ H ok =>
  h B G σ H ok _ fun v f G' H' F' k r nd m => q v f G' H' k.st (e ▸ r) nd fun a ha => ⟨(m a ha).1, (m a ha).2.1⟩
theorem at_rtQM (h : EvQ te Γ Γ' d) {d' : PyData} (e : d = d') (q : RtOk B rt d') : At B Γ (tRet te ⟨nx, rt, bk, ct⟩) := at_rtQ h e (rtO_of q)
/-- two things, the second with an effect -/
theorem evp_tup2 (h1 : Ev tc Γ c) (h2 : EvP te Γ Γ' d) : EvP (tTup (tCons tc (tCons te tNil))) Γ Γ' (.tuple [c, d]) := fun B G σ H ok Q q =>
  h1 B G σ H ok _ fun v G1 H1 s1 r1 => h2 B G1 σ H1 (ok.step s1) _ fun u G2 H2 e2 ok2 r2 => ⟨by show 2 ≤ sizeLine; decide, fun p hp =>
    q (.ref p) _ _ ((s1.g.tr e2).tr (Ex.new (ok2.gh.no hp))) (ok2.step (Stp.new ok2.gh hp)) (.tup (.inl upd_same) (.cons ((r1.up e2).up (Ex.new (ok2.gh.no hp))) (.cons (r2.up (Ex.new (ok2.gh.no hp))) .nil)))⟩
/-- the value alone is looked at -/
theorem evp_un {r : V → Hp → VK → Prop} {z : PyData} (h : EvP te Γ Γ' d) (hr : RuD r d z) : EvP (tUn r te) Γ Γ' z := fun B G σ H ok Q q =>
  h B G σ H ok _ fun v G1 H1 e1 ok1 r1 => hr G1 H1 v ok1.gh r1 Q fun w G3 H3 s3 r3 => q w G3 H3 (e1.tr s3.g) (ok1.step s3) r3
end
/-! ### arguments -/
def Es1 (te : TE) (Γ : List Sl) (S : List Nat) (s : Sl) : Prop := ∀ (B : Bs) (G : Hp) (σ : L2.St) (H : Hp) (F : Nat → List Addr), OkF B G σ H Γ F → ∀ Q : VK,
  (∀ v f G' H', Stp G H G' H' → SlOk G' H' (some (some v)) f s → (∀ a ∈ f, G' a = none ∧ Mt H' a ∧ (H a = none ∨ ∃ i ∈ S, a ∈ F i)) → Q v H') → te σ H Q
def EvS (ta : TA) (Γ : List Sl) (S : List Nat) (ss : List Sl) : Prop := ∀ (B : Bs) (G : Hp) (σ : L2.St) (H : Hp) (F : Nat → List Addr), OkF B G σ H Γ F → ∀ Q : List V → Hp → Prop,
  (∀ (vs : List V) (f : Nat → List Addr) G' H', Stp G H G' H' → vs.length = ss.length → (∀ i s, ss[i]? = some s → SlOk G' H' (vs[i]?.map some) (f i) s) →
    (∀ i, ∀ a ∈ f i, G' a = none ∧ Mt H' a ∧ (H a = none ∨ ∃ j ∈ S, a ∈ F j)) → (∀ i j a, i ≠ j → a ∈ f i → a ∈ f j → False) → Q vs H') → ta σ H Q
section
variable {K : PySem.W.Frag} {Γ : List Sl} {te : TE} {tr : TA} {d : PyData} {ds : List PyData} {S S1 S2 : List Nat} {s : Sl} {ss : List Sl}
theorem e1_d (h : Ev te Γ d) : Es1 te Γ [] (.d d) := fun B G σ H F k Q q => h B G σ H ⟨F, k⟩ Q fun v G' H' st r => q v [] G' H' st ⟨v, rfl, r⟩ fun _ m => by cases m
theorem e1_m (h : EvM te Γ S d) : Es1 te Γ S (.ow d) := fun B G σ H F k Q q => h B G σ H F k Q fun v f G' H' st r nd m => q v f G' H' st ⟨v, f, rfl, r, nd, fun _ z => z⟩ fun a ha => ⟨(m a ha).1, r.mt _ _ _ a ha, (m a ha).2⟩
theorem e1_N (h : EvN te Γ ds) : Es1 te Γ [] (.own ds) := fun B G σ H F k Q q => h B G σ H ⟨F, k⟩ Q fun a vs G' H' st h0 hg hh r => q (.ref a) [a] G' H' st ⟨a, vs, rfl, List.mem_cons_self, hh, r⟩ fun b hb => by
  rcases List.mem_cons.mp hb with rfl | hb
  · exact ⟨hg, .inl ⟨_, hh⟩, .inl h0⟩
  · cases hb
theorem es_nil : EvS tNil Γ [] [] := fun B G σ H F k Q q => q [] (fun _ => []) G H (Stp.rfl' k.st.gh) rfl (fun i s e => by simp at e) (fun i a m => by cases m) (fun i j a _ m => by cases m)
theorem es_cons (h : Es1 te Γ S1 s) (hr : EvS tr Γ S2 ss) (hd : ∀ i ∈ S1, i ∉ S2) : EvS (tCons te tr) Γ (S1 ++ S2) (s :: ss) := fun B G σ H F k Q q =>
  h B G σ H F k _ fun v f G1 H1 s1 r1 m1 => hr B G1 σ H1 F (k.step s1) _ fun vs g G2 H2 s2 hl r2 m2 ap2 => by
    have key : ∀ a ∈ f, H2 a = H1 a := fun a ha => (m1 a ha).2.1.ex s2.h
    have cross : ∀ i a, a ∈ f → a ∈ g i → False := fun i a ha hb => by
      obtain ⟨o, ho⟩ := (m1 a ha).2.1.some
      rcases (m2 i a hb).2.2 with z | ⟨j, hj, mj⟩
      · rw [z] at ho; cases ho
      · rcases (m1 a ha).2.2 with z | ⟨l, hl, ml⟩
        · obtain ⟨o, ho⟩ := (k.fr j a mj).2.2.some
          rw [z] at ho; cases ho
        · by_cases e : l = j
          · subst e; exact hd l hl hj
          · exact k.ap l j a e ml mj
    refine q (v :: vs) (fun i => match i with | 0 => f | i + 1 => g i) G2 H2 (s1.tr s2) (by rw [List.length_cons, List.length_cons, hl]) (fun i t e => ?_) (fun i a ha => ?_) (fun i j a hne ha hb => ?_)
    · cases i with
      | zero =>
        cases e
        exact r1.fr s2.g key
      | succ i => exact r2 i t (by simpa using e)
    · cases i with
      | zero =>
        have ha' : a ∈ f := ha
        obtain ⟨o, ho⟩ := (m1 a ha').2.1.some
        refine ⟨s2.nw a o ho (m1 a ha').1, (m1 a ha').2.1.of (key a ha'), ?_⟩
        rcases (m1 a ha').2.2 with z | ⟨l, hl, ml⟩
        · exact .inl z
        · exact .inr ⟨l, List.mem_append_left _ hl, ml⟩
      | succ i =>
        have ha' : a ∈ g i := ha
        refine ⟨(m2 i a ha').1, (m2 i a ha').2.1, ?_⟩
        rcases (m2 i a ha').2.2 with z | ⟨l, hl, ml⟩
        · exact .inl (s1.h.no z)
        · exact .inr ⟨l, List.mem_append_right _ hl, ml⟩
    · cases i with
      | zero =>
        cases j with
        | zero => exact hne rfl
        | succ j => exact cross j a ha hb
      | succ i =>
        cases j with
        | zero => exact cross i a hb ha
        | succ j => exact ap2 i j a (fun z => hne (congrArg _ z)) ha hb
theorem es_d {x : PyData} (h : Ev te Γ x) (hr : EvS tr Γ S ss) : EvS (tCons te tr) Γ S (.d x :: ss) := es_cons (S1 := []) (e1_d h) hr fun _ z => by cases z
end
/-! ### promises with arguments of one's own -/
def spG (W : WK) (K : PySem.W.Frag) (n : Nat) (R : List Sl → Oc → Prop) : Sp := fun vs H Q E => ∃ ss o G h0 f, vs.length = n ∧ OkF ⟨G, G, h0⟩ G (vs.map some) H ss f ∧ R ss o ∧ OcW W K ⟨G, G, h0⟩ Q E o
abbrev BodyG (W : WK) (K : PySem.W.Frag) (N n : Nat) (R : List Sl → Oc → Prop) (E : XK) (t : TS) : Prop := ∀ (ss : List Sl) (o : Oc) (B : Bs) (Q : VK), ss.length = n → R ss o → OcW W K B Q E o → At B (ss ++ List.replicate (N - n) .un) (t { nx := fun _ H' => Q .non H', rt := Q })
theorem okF_more {B : Bs} {G H : Hp} {vs : List V} {ss : List Sl} {f : Nat → List Addr} {m : Nat} (k : OkF B G (vs.map some) H ss f) : OkF B G (vs.map some ++ List.replicate m none) H (ss ++ List.replicate m .un) f := by
  refine ⟨k.eb, k.st, by rw [List.length_append, List.length_append, k.len, List.length_replicate, List.length_replicate], fun i s e => ?_, k.fr, k.ap⟩
  by_cases hi : i < ss.length
  · rw [List.getElem?_append_left hi] at e
    rw [List.getElem?_append_left (by rw [k.len]; exact hi)]
    exact k.sl i s e
  · rw [List.getElem?_append_right (by omega)] at e
    have := List.mem_of_getElem? e
    rw [List.mem_replicate] at this
    rw [this.2]; trivial
section
variable {P : Program} {w : World} {K : PySem.W.Frag} {mg : Str → Option Value} {base : Heap} {x : Str} {st : Stmt} {N ps : List Str} {k n : Nat} {W : WK} {R : List Sl → Oc → Prop}
theorem mkG (h : Has K mg x st) (hb : BindsP x st ps) (S : FnScope N ps (defScope st)) (hn : ps.length = n)
    (hbody : ∀ (f : Addr) (cdv : Value) (A : Around) (outer : List Env) (s : Shared) (H : Hp) (E : XK), Room k (A.deeper (envOfC x (defScope st) s.heap.objs.size f cdv)) →
      ∃ t, PSs (cxOf CX0 P w K mg base N x (defScope st) f cdv A outer s H E).nox (defBody st) t ∧ BodyG W K N.length n R E t) : Def P w K mg base CX0 (k + 1) x ps (spG W K n R) :=
  mk_def h hb S (fun vs H Q E z => by obtain ⟨_, _, _, _, _, hl, _⟩ := z; exact hl.trans hn.symm) fun f cdv A outer s H vs Q E hr hsp => by
    obtain ⟨t, h1, h2⟩ := hbody f cdv A outer s H E hr
    obtain ⟨ss, o, G, h0, ff, hl, k, hR, q⟩ := hsp
    have hss : ss.length = n := by rw [← hl, ← k.len, List.length_map]
    refine ⟨t, h1.nox, h2 ss o ⟨G, G, h0⟩ Q hss hR q G _ H ⟨ff, ?_⟩⟩
    have := okF_more (m := N.length - n) k
    unfold L2.start
    rw [hl]
    exact this
/-- .. that may raise -/
theorem mkGX (h : Has K mg x st) (hb : BindsP x st ps) (S : FnScope N ps (defScope st)) (hn : ps.length = n)
    (hbody : ∀ (f : Addr) (cdv : Value) (A : Around) (outer : List Env) (s : Shared) (H : Hp) (E : XK), Room k (A.deeper (envOfC x (defScope st) s.heap.objs.size f cdv)) →
      ∃ t, PSs (cxOf (L2.CX P w) P w K mg base N x (defScope st) f cdv A outer s H E) (defBody st) t ∧ BodyG W K N.length n R E t) : Def P w K mg base (L2.CX P w) (k + 1) x ps (spG W K n R) :=
  mk_def h hb S (fun vs H Q E z => by obtain ⟨_, _, _, _, _, hl, _⟩ := z; exact hl.trans hn.symm) fun f cdv A outer s H vs Q E hr hsp => by
    obtain ⟨t, h1, h2⟩ := hbody f cdv A outer s H E hr
    obtain ⟨ss, o, G, h0, ff, hl, k, hR, q⟩ := hsp
    have hss : ss.length = n := by rw [← hl, ← k.len, List.length_map]
    refine ⟨t, h1, h2 ss o ⟨G, G, h0⟩ Q hss hR q G _ H ⟨ff, ?_⟩⟩
    have := okF_more (m := N.length - n) k
    unfold L2.start
    rw [hl]
    exact this
end
section
open Classical
variable {K : PySem.W.Frag} {Γ : List Sl} {ta : TA} {d : PyData} {n : Nat} {S : List Nat} {ss : List Sl} {R : List Sl → Oc → Prop} {E : XK}
/-- the heap less what the arguments own, and less what was at S -/
noncomputable def hArg (f F : Nat → List Addr) (S : List Nat) (H : Hp) : Hp := fun a => if (∃ i, a ∈ f i) ∨ ∃ j ∈ S, a ∈ F j then none else H a
theorem args_ok {B : Bs} {G G1 H H1 : Hp} {σ : L2.St} {F f : Nat → List Addr} {vs : List V} (k : OkF B G σ H Γ F) (s1 : Stp G H G1 H1) (hl : vs.length = ss.length) (hs : ∀ i s, ss[i]? = some s → SlOk G1 H1 (vs[i]?.map some) (f i) s)
    (hf : ∀ i, ∀ a ∈ f i, G1 a = none ∧ Mt H1 a ∧ (H a = none ∨ ∃ j ∈ S, a ∈ F j)) (ap : ∀ i j a, i ≠ j → a ∈ f i → a ∈ f j → False) :
    OkF ⟨G1, G1, hArg f F S H1⟩ G1 (vs.map some) H1 ss f ∧ ∀ G' H', Stp G1 (hArg f F S H1) G' H' → OkF B G' σ H' (unS S Γ) (fS S F) ∧ ∀ a, hArg f F S H1 a = none → B.h0 a = none ∧ ∀ i, a ∉ fS S F i := by
  have k1 := k.step s1
  have hh : Ex (hArg f F S H1) H1 := fun a o q => by
    unfold hArg at q
    by_cases h : (∃ i, a ∈ f i) ∨ ∃ j ∈ S, a ∈ F j
    · rw [if_pos h] at q; cases q
    · rw [if_neg h] at q; exact q
  have up : ∀ {X : Hp}, Ex X H1 → (∀ i, ∀ a ∈ f i, X a = none) → (∀ i, ∀ a ∈ F i, X a = none) → Ex X (hArg f F S H1) := fun {X} hx h1 h2 a o q => by
    unfold hArg
    rw [if_neg]
    · exact hx a o q
    · rintro (⟨i, m⟩ | ⟨j, _, m⟩)
      · rw [h1 i a m] at q; cases q
      · rw [h2 j a m] at q; cases q
  have bf : ∀ i, ∀ a ∈ f i, B.h0 a = none := fun i a m => by
    rcases (hf i a m).2.2 with z | ⟨j, _, mj⟩
    · exact k.st.h.no z
    · exact (k.fr j a mj).1
  have exG : Ex G1 (hArg f F S H1) := up s1.gh (fun i a m => (hf i a m).1) (fun i a m => (k1.fr i a m).2.1)
  have exB : Ex B.h0 (hArg f F S H1) := up k1.st.h bf (fun i a m => (k1.fr i a m).1)
  have keep : ∀ i, i ∉ S → ∀ a ∈ F i, hArg f F S H1 a = H1 a := fun i hi a m => by
    unfold hArg
    rw [if_neg]
    rintro (⟨l, ml⟩ | ⟨j, hj, mj⟩)
    · rcases (hf l a ml).2.2 with z | ⟨j, hj, mj⟩
      · obtain ⟨o, ho⟩ := (k.fr i a m).2.2.some
        rw [z] at ho; cases ho
      · exact k.ap i j a (fun z => hi (z ▸ hj)) m mj
    · exact k.ap i j a (fun z => hi (z ▸ hj)) m mj
  refine ⟨⟨Ex.rfl' G1, ⟨Ex.rfl' G1, hh, s1.gh, fun _ _ _ h => h⟩, by rw [List.length_map]; exact hl, fun i s e => ?_, fun i a m => ⟨?_, (hf i a m).1, (hf i a m).2.1⟩, ap⟩, fun G' H' s => ⟨k1.used exG exB keep s, fun a ha => ⟨exB.no ha, fun i hi => ?_⟩⟩⟩
  · rw [List.getElem?_map]; exact hs i s e
  · show (if (∃ i, a ∈ f i) ∨ ∃ j ∈ S, a ∈ F j then none else H1 a) = none
    exact if_pos (.inl ⟨i, m⟩)
  · obtain ⟨hS, hF⟩ := fS_in hi
    obtain ⟨o, ho⟩ := (k1.fr i a hF).2.2.some
    rw [keep i hS a hF, ho] at ha; cases ha
theorem evq_callG (h : EvS ta Γ S ss) (hn : ss.length = n) (hR : R ss (.ok d)) : EvQ (tCall (spG WO K n R) [] E ta) Γ (unS S Γ) d := fun B G σ H ok Q q => by
  obtain ⟨F, k⟩ := ok
  refine h B G σ H F k _ fun vs f G1 H1 s1 hl hs hf ap => ?_
  rw [List.append_nil]
  obtain ⟨a1, a2⟩ := args_ok k s1 hl hs hf ap
  refine ⟨ss, .ok d, G1, _, f, hl.trans hn, a1, hR, fun v g G' H' s r nd m => ?_⟩
  obtain ⟨k2, hh⟩ := a2 G' H' s
  exact q v g G' H' _ k2 r nd fun a ha => ⟨(hh a (m a ha).1).1, (m a ha).2, (hh a (m a ha).1).2⟩
theorem evp_callG (h : EvS ta Γ S ss) (hn : ss.length = n) (hR : R ss (.ok d)) : EvP (tCall (spG WD K n R) [] E ta) Γ (unS S Γ) d := fun B G σ H ok Q q => by
  obtain ⟨F, k⟩ := ok
  refine h B G σ H F k _ fun vs f G1 H1 s1 hl hs hf ap => ?_
  rw [List.append_nil]
  obtain ⟨a1, a2⟩ := args_ok k s1 hl hs hf ap
  refine ⟨ss, .ok d, G1, _, f, hl.trans hn, a1, hR, fun v G' H' s r => ?_⟩
  obtain ⟨k2, hh⟩ := a2 G' H' s
  exact q v G' H' (s1.g.tr s.g) ⟨_, k2⟩ r
theorem evq_callGS {Wx : WX} (h : EvS ta Γ S ss) (hn : ss.length = n) (hR : R ss (.ok d)) : EvQ (tCallS (spG WO K n R) (WE Wx) ta) Γ (unS S Γ) d := fun B G σ H ok Q q => by
  obtain ⟨F, k⟩ := ok
  refine h B G σ H F k _ fun vs f G1 H1 s1 hl hs hf ap => ?_
  obtain ⟨a1, a2⟩ := args_ok k s1 hl hs hf ap
  refine ⟨ss, .ok d, G1, _, f, hl.trans hn, a1, hR, fun v g G' H' s r nd m => ?_⟩
  obtain ⟨k2, hh⟩ := a2 G' H' s
  exact q v g G' H' _ k2 r nd fun a ha => ⟨(hh a (m a ha).1).1, (m a ha).2, (hh a (m a ha).1).2⟩
end
/-! ### a list that is changed in place, the third argument -/
def hBut (a : Addr) (H : Hp) : Hp := fun b => if b = a then none else H b
theorem hBut_ne {a b : Addr} {H : Hp} (h : b ≠ a) : hBut a H b = H b := if_neg h
theorem hBut_same {a : Addr} {H : Hp} : hBut a H a = none := if_pos rfl
theorem hBut_ex {a : Addr} {H : Hp} : Ex (hBut a H) H := fun b o q => by
  unfold hBut at q
  split at q
  · cases q
  · exact q
theorem ex_hBut {a : Addr} {H X : Hp} (h : Ex X H) (n : X a = none) : Ex X (hBut a H) := fun b o q => by
  rw [hBut_ne fun z => by subst z; rw [n] at q; cases q]; exact h b o q
abbrev RtI (B : Bs) (Q : VK) (a : Addr) (ts : List PyData) (d : PyData) : Prop := ∀ v ys G H, Stp B.g0 B.h0 G H → G a = none → H a = some (.lst ys) → Rps G ys ts → Rp G v d → Q v H
def spI (m : Nat) (R : List PyData → List PyData → List PyData → PyData → Prop) : Sp := fun vs H Q _ => ∃ (ds es : List PyData) (v1 v2 : List V) (ts ts' : List PyData) (d : PyData) (a : Addr) (xs : List V) (G : Hp),
  vs = v1 ++ .ref a :: v2 ∧ Ex G H ∧ Rps G v1 ds ∧ Rps G v2 es ∧ ds.length = 2 ∧ es.length = m ∧ G a = none ∧ H a = some (.lst xs) ∧ Rps G xs ts ∧ R (ds ++ es) ts ts' d ∧ RtI ⟨G, G, hBut a H⟩ Q a ts' d
abbrev BodyI (N m : Nat) (R : List PyData → List PyData → List PyData → PyData → Prop) (t : TS) : Prop := ∀ (ds es ts ts' : List PyData) (d : PyData) (a : Addr) (B : Bs) (Q : VK), ds.length = 2 → es.length = m → R (ds ++ es) ts ts' d → RtI B Q a ts' d →
  At B (ds.map .d ++ .oa a ts :: (es.map .d ++ List.replicate (N - (3 + m)) .un)) (t { nx := fun _ H' => Q .non H', rt := Q })
theorem mkI {P : Program} {w : World} {K : PySem.W.Frag} {mg : Str → Option Value} {base : Heap} {x : Str} {st : Stmt} {N ps : List Str} {k m : Nat} {R : List PyData → List PyData → List PyData → PyData → Prop} (h : Has K mg x st) (hb : BindsP x st ps) (S : FnScope N ps (defScope st)) (hn : ps.length = 3 + m)
    (hbody : ∀ (f : Addr) (cdv : Value) (A : Around) (outer : List Env) (s : Shared) (H : Hp) (E : XK), Room k (A.deeper (envOfC x (defScope st) s.heap.objs.size f cdv)) →
      ∃ t, PSs (cxOf CX0 P w K mg base N x (defScope st) f cdv A outer s H E).nox (defBody st) t ∧ BodyI N.length m R t) : Def P w K mg base CX0 (k + 1) x ps (spI m R) :=
  mk_def h hb S (fun vs H Q E ⟨ds, es, v1, v2, _, _, _, _, _, _, e, _, r1, r2, l1, l2, _⟩ => by
    rw [e, List.length_append, List.length_cons, r1.length, r2.length, l1, l2, hn]; omega) fun f cdv A outer s H vs Q E hr hsp => by
    obtain ⟨t, h1, h2⟩ := hbody f cdv A outer s H E hr
    obtain ⟨ds, es, v1, v2, ts, ts', d, a, xs, G, rfl, ex, r1, r2, l1, l2, hg, hh, rx, hR, q⟩ := hsp
    refine ⟨t, h1.nox, h2 ds es ts ts' d a ⟨G, G, hBut a H⟩ Q l1 l2 hR q G _ H ⟨fun i => if i = 2 then [a] else [], Ex.rfl' G, ⟨Ex.rfl' G, hBut_ex, ex, fun _ _ _ h => h⟩, ?_, fun i s e => ?_, fun i b mb => ?_, fun i j b hne m1 m2 => ?_⟩⟩
    · unfold L2.start
      simp only [List.length_append, List.length_map, List.length_cons, List.length_replicate, r1.length, r2.length, l1, l2]
      omega
    · unfold L2.start
      by_cases h0 : i < 2
      · rw [List.getElem?_append_left (by rw [List.length_map, l1]; exact h0), List.getElem?_map] at e
        have hd : ds[i]? = some ds[i] := List.getElem?_eq_getElem (by omega)
        rw [hd] at e
        cases e
        obtain ⟨v, hv, rv⟩ := r1.get hd
        refine ⟨v, ?_, rv⟩
        rw [List.getElem?_append_left (by rw [List.length_map, List.length_append, r1.length, l1]; omega), List.getElem?_map, List.getElem?_append_left (by rw [r1.length, l1]; exact h0), hv]
        rfl
      · rw [List.getElem?_append_right (by rw [List.length_map, l1]; omega), List.length_map, l1] at e
        by_cases h2 : i = 2
        · subst h2
          cases e
          refine ⟨xs, ?_, by simp, hh, rx⟩
          rw [List.getElem?_append_left (by rw [List.length_map, List.length_append, r1.length, l1, List.length_cons]; omega), List.getElem?_map, List.getElem?_append_right (by rw [r1.length, l1]; exact Nat.le_refl _), r1.length, l1]
          rfl
        · obtain ⟨j, rfl⟩ : ∃ j, i = j + 3 := ⟨i - 3, by omega⟩
          rw [show j + 3 - 2 = j + 1 by omega, List.getElem?_cons_succ] at e
          by_cases h3 : j < es.length
          · rw [List.getElem?_append_left (by rw [List.length_map]; exact h3), List.getElem?_map] at e
            have hd : es[j]? = some es[j] := List.getElem?_eq_getElem h3
            rw [hd] at e
            cases e
            obtain ⟨v, hv, rv⟩ := r2.get hd
            refine ⟨v, ?_, rv⟩
            rw [List.getElem?_append_left (by rw [List.length_map, List.length_append, r1.length, l1, List.length_cons, r2.length]; omega), List.getElem?_map, List.getElem?_append_right (by rw [r1.length, l1]; omega), r1.length, l1, show j + 3 - 2 = j + 1 by omega, List.getElem?_cons_succ, hv]
            rfl
          · rw [List.getElem?_append_right (by rw [List.length_map]; omega)] at e
            have := List.mem_of_getElem? e
            rw [List.mem_replicate] at this
            rw [this.2]; trivial
    · have mb' : b ∈ (if i = 2 then [a] else []) := mb
      split at mb'
      · rcases List.mem_cons.mp mb' with rfl | z
        · exact ⟨hBut_same, hg, .inl ⟨_, hh⟩⟩
        · cases z
      · cases mb'
    · have m1' : b ∈ (if i = 2 then [a] else []) := m1
      have m2' : b ∈ (if j = 2 then [a] else []) := m2
      split at m1'
      · split at m2'
        · rename_i e1 e2; exact hne (e1.trans e2.symm)
        · cases m2'
      · cases m1'
section
variable {K : PySem.W.Frag} {B : Bs} {Γ Γ' : List Sl} {nx bk ct : L2.St → Hp → Prop} {rt : VK} {te t1 t2 t3 ti : TE} {tr : TA} {d x y : PyData} {ds es ts ts' : List PyData} {i j m : Nat} {a : Addr} {R : List PyData → List PyData → List PyData → PyData → Prop} {E : XK}
theorem Ok.oaG {G H : Hp} {σ : L2.St} (k : Ok B G σ H Γ) (e : Γ[i]? = some (.oa a ts)) : G a = none ∧ ∃ vs, H a = some (.lst vs) ∧ Rps G vs ts := by
  obtain ⟨F, k⟩ := k
  obtain ⟨vs, _, m, hh, r⟩ := k.sl i _ e
  exact ⟨(k.fr i a m).2.1, vs, hh, r⟩
theorem at_rtI (h : Ev te Γ d) (e : Γ[i]? = some (.oa a ts)) {d' : PyData} (ed : d = d') (q : RtI B rt a ts d') : At B Γ (tRet te ⟨nx, rt, bk, ct⟩) := fun G σ H ok =>
  h B G σ H ok _ fun v G' H' s r => by
    obtain ⟨hg, vs, hh, rr⟩ := (ok.step s).oaG e
    exact q v vs G' H' (ok.step s).st hg hh rr (ed ▸ r)
theorem at_rtIP (h : EvP te Γ Γ' d) (e : Γ'[i]? = some (.oa a ts)) {d' : PyData} (ed : d = d') (q : RtI B rt a ts d') : At B Γ (tRet te ⟨nx, rt, bk, ct⟩) := fun G σ H ok =>
  h B G σ H ok _ fun v G' H' _ ok' r => by
    obtain ⟨hg, vs, hh, rr⟩ := ok'.oaG e
    exact q v vs G' H' ok'.st hg hh rr (ed ▸ r)
theorem OkF.inOa {G : Hp} {σ : L2.St} {H : Hp} {F : Nat → List Addr} (k : OkF B G σ H Γ F) (e : Γ[i]? = some (.oa a ds)) : σ[i]? = some (some (.ref a)) ∧ a ∈ F i := by
  obtain ⟨vs, e2, m, _⟩ := k.sl i _ e
  exact ⟨e2, m⟩
theorem at_setitemOa {n : Int} (e : Γ[i]? = some (.oa a ds)) (hv : Ev te Γ d) (hi : Ev ti Γ (.int n)) (hx : ixN ds.length n = some j) (hs : SetAt Γ i (.oa a (ds.set j d)) Γ') (q : At B Γ' nx) : At B Γ (tAsg te (gSub (tVar i) ti rSetL) ⟨nx, rt, bk, ct⟩) := fun G σ H ok => by
  refine hv B G σ H ok _ fun v G1 H1 s1 rv => ?_
  have ok1 := ok.step s1
  obtain ⟨e1, _⟩ : σ[i]? = some (some (.ref a)) ∧ True := by
    obtain ⟨F, k⟩ := ok; exact ⟨(k.inOa e).1, trivial⟩
  refine ⟨.ref a, e1, ?_⟩
  refine hi B G1 σ H1 ok1 _ fun w G2 H2 s2 rw' => ?_
  cases rw'
  have ok2 := ok1.step s2
  obtain ⟨hg, vs, hh, r⟩ := ok2.oaG e
  refine ⟨a, vs, n, j, rfl, rfl, hh, by rw [r.length]; exact hx, ?_⟩
  exact q G2 σ _ (hs.eq ▸ ok2.mut (fun _ z => .inl ⟨_, z⟩) (fun F k => (k.inOa e).2) fun f m => ⟨vs.set j v, e1, m, upd_same, r.set (rv.up s2.g) j⟩)
/-- one's own list is handed on, to be changed in place -/
theorem evp_inplace {s : Sl} (hs : ∀ (G H : Hp) (o : Option (Option V)) (f : List Addr), SlOk G H o f s → ∃ a vs, o = some (some (.ref a)) ∧ a ∈ f ∧ H a = some (.lst vs) ∧ Rps G vs ts) {s' : Sl}
    (hs' : ∀ (G H : Hp) (o : Option (Option V)) (f : List Addr) (a : Addr) (ys : List V), (∃ G0 H0 f0, SlOk G0 H0 o f0 s) → o = some (some (.ref a)) → a ∈ f → H a = some (.lst ys) → Rps G ys ts' → SlOk G H o f s')
    (e : Γ[i]? = some s) (h1 : Ev t1 Γ x) (h2 : Ev t2 Γ y) (h3 : EvA tr Γ es) (hn : es.length = m) (hR : R ([x, y] ++ es) ts ts' d) : EvP (tCall (spI m R) [] E (tCons t1 (tCons t2 (tCons (tVar i) tr)))) Γ (Γ.set i s') d := fun B G σ H ok Q q =>
  h1 B G σ H ok _ fun v G1 H1 s1 r1 => h2 B G1 σ H1 (ok.step s1) _ fun u G2 H2 s2 r2 => by
    have ok2 := (ok.step s1).step s2
    obtain ⟨F, k2⟩ := ok2
    obtain ⟨a, xs, e1, ma, hh, rx⟩ := hs _ _ _ _ (k2.sl i _ e)
    refine ⟨.ref a, e1, h3 B G2 σ H2 ⟨F, k2⟩ _ fun ws G3 H3 s3 r3 => ?_⟩
    show spI m R ((v :: u :: V.ref a :: ws) ++ []) H3 Q E
    rw [List.append_nil]
    have k3 := k2.step s3
    have hh3 := s3.h _ _ hh
    obtain ⟨b0, bg, _⟩ := k3.fr i a ma
    refine ⟨[x, y], es, [v, u], ws, ts, ts', d, a, xs, G3, rfl, s3.gh, .cons ((r1.up s2.g).up s3.g) (.cons (r2.up s3.g) .nil), r3, rfl, hn, bg, hh3, rx.up s3.g, hR, fun z ys G' H' st hg' hh' rys rz => ?_⟩
    have keep : ∀ b o, b ≠ a → H3 b = some o → H' b = some o := fun b o hb ho => st.h b o ((hBut_ne hb).trans ho)
    refine q z G' H' (((s1.g.tr s2.g).tr s3.g).tr st.g) ⟨F, k3.eb.tr st.g, ?_, by rw [List.length_set]; exact k3.len, fun j t et => ?_, fun j b mb => ?_, k3.ap⟩ rz
    · have p0 : Stp B.g0 B.h0 G3 (hBut a H3) := ⟨k3.st.g, ex_hBut k3.st.h b0, ex_hBut k3.st.gh bg, k3.st.nw⟩
      exact p0.tr st
    · by_cases hj : i = j
      · subst hj
        have hi : i < Γ.length := (List.getElem?_eq_some_iff.mp e).1
        rw [List.getElem?_set_self hi] at et
        cases et
        exact hs' _ _ _ _ a ys ⟨_, _, _, k3.sl i _ e⟩ e1 ma hh' rys
      · rw [List.getElem?_set_ne hj] at et
        refine (k3.sl j t et).fr st.g fun b mb => ?_
        have hb : b ≠ a := fun z => k3.ap i j a hj ma (z ▸ mb)
        obtain ⟨o, ho⟩ := (k3.fr j b mb).2.2.some
        rw [keep b o hb ho, ho]
    · obtain ⟨c0, cg, cm⟩ := k3.fr j b mb
      by_cases hb : b = a
      · subst hb; exact ⟨c0, hg', .inl ⟨_, hh'⟩⟩
      · obtain ⟨o, ho⟩ := cm.some
        exact ⟨c0, st.nw b o ((hBut_ne hb).trans ho) cg, cm.of ((keep b o hb ho).trans ho.symm)⟩
theorem evp_callI (e : Γ[i]? = some (.own ts)) (h1 : Ev t1 Γ x) (h2 : Ev t2 Γ y) (h3 : EvA tr Γ es) (hn : es.length = m) (hR : R ([x, y] ++ es) ts ts' d) : EvP (tCall (spI m R) [] E (tCons t1 (tCons t2 (tCons (tVar i) tr)))) Γ (Γ.set i (.own ts')) d :=
  evp_inplace (s := .own ts) (s' := .own ts') (fun G H o f h => h) (fun G H o f a ys _ e m hh r => ⟨a, ys, e, m, hh, r⟩) e h1 h2 h3 hn hR
theorem evp_callIa (e : Γ[i]? = some (.oa a ts)) (h1 : Ev t1 Γ x) (h2 : Ev t2 Γ y) (h3 : EvA tr Γ es) (hn : es.length = m) (hR : R ([x, y] ++ es) ts ts' d) : EvP (tCall (spI m R) [] E (tCons t1 (tCons t2 (tCons (tVar i) tr)))) Γ (Γ.set i (.oa a ts')) d :=
  evp_inplace (s := .oa a ts) (s' := .oa a ts') (fun G H o f ⟨vs, e, m, hh, r⟩ => ⟨a, vs, e, m, hh, r⟩) (fun G H o f b ys ⟨G0, H0, f0, vs, e0, _⟩ e m hh r => by
    rw [e0] at e
    cases e
    exact ⟨ys, e0, m, hh, r⟩) e h1 h2 h3 hn hR
/-- .. a new one -/
theorem ev_callIn (h1 : Ev t1 Γ x) (h2 : Ev t2 Γ y) (h3 : EvN t3 Γ ts) (hm : m = 0) (hR : R [x, y] ts ts' d) : Ev (tCall (spI m R) [] E (tCons t1 (tCons t2 (tCons t3 tNil)))) Γ d := fun B G σ H ok Q q =>
  h1 B G σ H ok _ fun v G1 H1 s1 r1 => h2 B G1 σ H1 (ok.step s1) _ fun u G2 H2 s2 r2 => h3 B G2 σ H2 ((ok.step s1).step s2) _ fun a xs G3 H3 s3 h0 hg hh rx => by
    subst hm
    refine ⟨[x, y], [], [v, u], [], ts, ts', d, a, xs, G3, rfl, s3.gh, .cons ((r1.up s2.g).up s3.g) (.cons (r2.up s3.g) .nil), .nil, rfl, rfl, hg, hh, rx, hR, fun z ys G' H' st hg' hh' rys rz => ?_⟩
    refine q z G' H' ((s1.tr s2).tr ⟨s3.g.tr st.g, (ex_hBut s3.h h0).tr st.h, st.gh, fun b o ho hn => ?_⟩) rz
    have hb : b ≠ a := ne_of_none ho h0
    exact st.nw b o ((hBut_ne hb).trans (s3.h b o ho)) (s3.nw b o ho hn)
end
/-! ### a comprehension whose element has an effect -/
theorem OkF.unset {B : Bs} {G H : Hp} {σ : L2.St} {Γ : List Sl} {F : Nat → List Addr} {j : Nat} {v : Option V} (k : OkF B G (σ.set j v) H Γ F) : OkF B G σ H (Γ.set j .un) F := by
  refine ⟨k.eb, k.st, by have := k.len; rw [List.length_set] at this ⊢; exact this, fun i s e => ?_, k.fr, k.ap⟩
  by_cases hi : j = i
  · subst hi
    by_cases hl : j < Γ.length
    · rw [List.getElem?_set_self hl] at e
      cases e; trivial
    · rw [List.getElem?_eq_none (by rw [List.length_set]; omega)] at e
      cases e
  · rw [List.getElem?_set_ne hi] at e
    have := k.sl i s e
    rw [List.getElem?_set_ne hi] at this
    exact this
theorem evp_lc {Γ : List Sl} {wi : TI} {te : TE} {j : Nat} {α : Type} {js : List Nat} (enc : α → PyData) (xs : List α) (I : Nat → List Sl) (f : Nat → PyData) (hj : js = [j]) (h0 : I 0 = Γ) (hu : ∀ n, (I n).set j .un = I n) (hi : EvI wi Γ (xs.map enc)) (hz : xs.length ≤ sizeLine)
    (he : ∀ n x, xs[n]? = some x → EvP te ((I n).set j (.d (enc x))) ((I (n + 1)).set j (.d (enc x))) (f n)) : EvP (tLc wi (gName j) tYes te js) Γ (I xs.length) (.list ((List.range xs.length).map f)) := fun B G σ H ok Q q => hi B G σ H ok _ fun J G1 H1 s1 it => by
  subst hj
  intro D hD
  have hGD : G1 D = none := s1.gh.no hD
  have hlen : (xs.map enc).length = xs.length := List.length_map _
  have ok1 := ok.step s1
  have hBD : B.h0 D = none := ok1.st.h.no hD
  refine ⟨fun n m H2 => m = xs.length - n ∧ n ≤ xs.length ∧ ∃ G2 acc F, Ex G1 G2 ∧ G2 D = none ∧ H2 D = some (.lst acc) ∧ (∀ i, D ∉ F i) ∧ OkF B G2 σ H2 (I n) F ∧ Rps G2 acc ((List.range n).map f), ⟨xs.length, by simp, Nat.zero_le _, ?_⟩, ?_⟩
  · obtain ⟨F, k⟩ := ok1
    have nD : ∀ i, D ∉ F i := fun i m => by
      obtain ⟨o, ho⟩ := (k.fr i D m).2.2.some
      rw [hD] at ho; cases ho
    exact ⟨G1, [], F, Ex.rfl' _, hGD, upd_same, nD, h0 ▸ k.other nD hGD hBD, .nil⟩
  rintro n m H2 ⟨rfl, hil, G2, acc, F, e2, hg2, hh2, nD, k2, ra⟩
  by_cases hlt : n < xs.length
  · have hget : xs[n]? = some xs[n] := List.getElem?_eq_getElem hlt
    have hget' : (xs.map enc)[n]? = some (enc xs[n]) := by rw [List.getElem?_map, hget]; rfl
    refine .inr ⟨it.go n H2 (by rw [hlen]; exact hlt) (e2.tr k2.st.gh), fun H' => ∃ G2 acc F, Ex G1 G2 ∧ G2 D = none ∧ H' D = some (.lst acc) ∧ (∀ i, D ∉ F i) ∧ OkF B G2 σ H' (I (n + 1)) F ∧ Rps G2 acc ((List.range (n + 1)).map f),
      fun H' h' => ⟨xs.length - (n + 1), by omega, rfl, hlt, h'⟩, fun x H' hy => ?_⟩
    obtain ⟨rfl, rx⟩ := it.yld n H2 x H' _ hget' (e2.tr k2.st.gh) hy
    refine ⟨wipe_after σ j x, ?_⟩
    rw [wipe_set]
    delta tYes
    dsimp only
    rw [if_pos rfl]
    have kb := k2.rebase
    have stb := k2.stLess
    have okx : Ok ⟨G2, G2, hLess F H'⟩ G2 (σ.set j (some x)) H' ((I n).set j (.d (enc xs[n]))) := Ok.setD ⟨F, kb⟩ j (rx.up e2)
    refine he n xs[n] hget _ G2 _ H' okx _ fun v G4 H4 e4 ok4 rv => ?_
    obtain ⟨F4, k4⟩ := ok4
    have hDb : hLess F H' D = some (.lst acc) := by rw [hLess_no nD]; exact hh2
    have hh4 : H4 D = some (.lst acc) := k4.st.h D _ hDb
    have hg4 : G4 D = none := k4.st.nw D _ hDb hg2
    have nD4 : ∀ i, D ∉ F4 i := fun i m => by
      have h := (k4.fr i D m).1
      have h' : hLess F H' D = none := h
      rw [hDb] at h'; cases h'
    have hal : acc.length < sizeLine := by
      have h1 := ra.length
      rw [List.length_map, List.length_range] at h1
      omega
    have k5 : OkF B G4 (σ.set j (some x)) H4 ((I (n + 1)).set j (.d (enc xs[n]))) F4 := OkF.unbase k2.eb stb k4
    have k6 : OkF B G4 σ H4 (I (n + 1)) F4 := by
      have := k5.unset
      rw [List.set_set, hu] at this
      exact this
    refine ⟨acc, hh4, hal, G4, acc ++ [v], F4, e2.tr e4, hg4, upd_same, nD4, k6.other nD4 hg4 hBD, ?_⟩
    rw [List.range_succ, List.map_append]
    exact (ra.up e4).app (.cons rv .nil)
  · have e : n = xs.length := by omega
    subst e
    refine .inl ⟨?_, q (.ref D) (upd G2 D (.lst acc)) H2 ((s1.g.tr e2).tr (Ex.new hg2)) ⟨F, k2.giveA nD hg2 hBD hh2⟩ (.lst (.inl upd_same) (ra.up (Ex.new hg2)))⟩
    have h := it.stop H2 (e2.tr k2.st.gh)
    rw [hlen] at h
    exact h
end Ck

namespace Ck
open PySem PySem.Spec PyProof.Rows L2

/-! ### the laws' deeds -/
theorem cutG_map {α β : Type} (f : α → β) (xs : List α) (lo hi : Option Int) : cutG (xs.map f) lo hi = (cutG xs lo hi).map f := by
  unfold cutG
  rw [List.length_map, List.map_take, List.map_drop]
theorem cutG_le {α : Type} (xs : List α) (lo hi : Option Int) : (cutG xs lo hi).length ≤ xs.length := by
  unfold cutG
  rw [List.length_take, List.length_drop]
  omega
theorem cutG_mem {α : Type} {xs : List α} {lo hi : Option Int} {x : α} (h : x ∈ cutG xs lo hi) : x ∈ xs := List.mem_of_mem_drop (List.mem_of_mem_take h)
def askerI (n : Int) : Int := if n / 3 % 5 = 1 then n / 15 % 10 else n % 3
def wordOf (n : Int) : Str := if n / 150 % 4 = 0 then wPut else if n / 150 % 4 = 1 then wAdd else if n / 150 % 4 = 2 then wOnce else wAway
def valueI (n : Int) : Int := if wordOf n = wAway then 0 else numberI (n / 600)
def keyAt (keys : List Str) (n : Int) : Str := keys.getD (n / 7 % 4).toNat ""
def turnAt (ts : List Int) (n : Int) : Int := ts.getD (askerI n).toNat 0 + 1
def deedI (n : Int) (keys : List Str) (ts : List Int) : Dd := ⟨askerI n, turnAt ts n, wordOf n, keyAt keys n, valueI n⟩
def bumpI (ts : List Int) (n : Int) : List Int := ts.set (askerI n).toNat (turnAt ts n)
theorem asker_lo (n : Int) : 0 ≤ askerI n := by
  unfold askerI
  split
  · exact Int.emod_nonneg _ (by decide)
  · exact Int.emod_nonneg _ (by decide)
theorem asker_hi (n : Int) : askerI n ≤ 9 := by
  unfold askerI
  split <;> omega
theorem word_at (n : Int) : atI [PyData.str wPut, .str wAdd, .str wOnce, .str wAway] (n / 150 % 4) = some (.str (wordOf n)) := by
  unfold wordOf
  have h1 := Int.emod_nonneg (n / 150) (show (4 : Int) ≠ 0 by decide)
  have h2 := Int.emod_lt_of_pos (n / 150) (show (0 : Int) < 4 by decide)
  generalize n / 150 % 4 = m at h1 h2
  obtain rfl | rfl | rfl | rfl : m = 0 ∨ m = 1 ∨ m = 2 ∨ m = 3 := by omega
  · exact atI_of (i := 0) rfl
  · exact atI_of (i := 1) rfl
  · exact atI_of (i := 2) rfl
  · exact atI_of (i := 3) rfl
theorem word_in (n : Int) : wordOf n = wPut ∨ wordOf n = wAdd ∨ wordOf n = wOnce ∨ wordOf n = wAway := by
  unfold wordOf
  split
  · exact .inl rfl
  · split
    · exact .inr (.inl rfl)
    · split
      · exact .inr (.inr (.inl rfl))
      · exact .inr (.inr (.inr rfl))
theorem strOk_wordOf (n : Int) : PyData.strOk (wordOf n) = true := by
  rcases word_in n with h | h | h | h <;> rw [h] <;> decide +kernel
theorem word_ok {w : Str} {v : Int} (h : w = wPut ∨ w = wAdd ∨ w = wOnce ∨ w = wAway) (hv : w = wAway → v = 0) : isWordS w v = true := by
  unfold isWordS
  rcases h with rfl | rfl | rfl | rfl
  · rfl
  · rfl
  · rfl
  · rw [hv rfl]; rfl
theorem keyAt_mem {keys : List Str} (h : keys.length = 4) (n : Int) : keyAt keys n ∈ keys := by
  unfold keyAt
  have h1 := Int.emod_nonneg (n / 7) (show (4 : Int) ≠ 0 by decide)
  have h2 := Int.emod_lt_of_pos (n / 7) (show (0 : Int) < 4 by decide)
  rw [List.getD_eq_getElem?_getD, List.getElem?_eq_getElem (by omega)]
  exact List.getElem_mem _
theorem keyAt_at {keys : List Str} (h : keys.length = 4) (n : Int) : atI (keys.map PyData.str) (n / 7 % 4) = some (.str (keyAt keys n)) := by
  have h1 := Int.emod_nonneg (n / 7) (show (4 : Int) ≠ 0 by decide)
  have h2 := Int.emod_lt_of_pos (n / 7) (show (0 : Int) < 4 by decide)
  refine atI_map (f := PyData.str) (atI_int h1 ?_)
  unfold keyAt
  rw [List.getD_eq_getElem?_getD, List.getElem?_eq_getElem (by omega)]; rfl
theorem turn_get {ts : List Int} (h : ts.length = 10) (n : Int) : ts[(askerI n).toNat]? = some (ts.getD (askerI n).toNat 0) := by
  have h1 := asker_lo n
  have h2 := asker_hi n
  rw [List.getD_eq_getElem?_getD, List.getElem?_eq_getElem (by omega)]; rfl
theorem bump_len (ts : List Int) (n : Int) : (bumpI ts n).length = ts.length := by simp [bumpI]
theorem bump_get {ts : List Int} (h : ts.length = 10) (n : Int) : (bumpI ts n)[(askerI n).toNat]? = some (turnAt ts n) := by
  have h1 := asker_lo n
  have h2 := asker_hi n
  unfold bumpI
  rw [List.getElem?_set_self (by omega)]
theorem deedI_ok {n : Int} {keys : List Str} {ts : List Int} (hk : ∀ k ∈ keys, isKeyS k = true) (h4 : keys.length = 4) (ht : ∀ t ∈ ts, 0 ≤ t) : (deedI n keys ts).ok := by
  refine ⟨asker_lo n, asker_hi n, ?_, hk _ (keyAt_mem h4 n), word_ok (word_in n) fun h => ?_⟩
  · show 1 ≤ turnAt ts n
    unfold turnAt
    rw [List.getD_eq_getElem?_getD]
    cases e : ts[(askerI n).toNat]? with
    | none => simp
    | some t =>
      have := ht t (List.mem_of_getElem? e)
      rw [Option.getD_some]; omega
  · show valueI n = 0
    unfold valueI
    exact if_pos h
theorem bump_nn {ts : List Int} (ht : ∀ t ∈ ts, 0 ≤ t) (n : Int) : ∀ t ∈ bumpI ts n, 0 ≤ t := fun t h => by
  unfold bumpI at h
  rcases List.mem_or_eq_of_mem_set h with h | h
  · exact ht t h
  · subst h
    unfold turnAt
    rw [List.getD_eq_getElem?_getD]
    cases e : ts[(askerI n).toNat]? with
    | none => simp
    | some t =>
      have := ht t (List.mem_of_getElem? e)
      rw [Option.getD_some]; omega
def R_deed (ds ts ts' : List PyData) (d : PyData) : Prop := ∃ (n : Int) (keys : List Str) (tn : List Int), ds = [.int n, .list (keys.map .str)] ∧ 0 ≤ n ∧ n < 1000000 ∧ keys.length = 4 ∧ tn.length = 10 ∧ ts = tn.map .int ∧ ts' = (bumpI tn n).map .int ∧ d = (deedI n keys tn).e
def turnsN (cells : List Int) : Nat → List Int
  | 0 => List.replicate 10 0
  | n + 1 => bumpI (turnsN cells n) (mixed (cells.getD n 0) n)
theorem turnsN_len (cells : List Int) : ∀ n, (turnsN cells n).length = 10
  | 0 => rfl
  | n + 1 => by rw [turnsN, bump_len, turnsN_len cells n]
theorem turnsN_nn (cells : List Int) : ∀ n, ∀ t ∈ turnsN cells n, 0 ≤ t
  | 0 => fun t h => by
    unfold turnsN at h
    rw [List.mem_replicate] at h
    omega
  | n + 1 => bump_nn (turnsN_nn cells n) _
def deedAt (cells : List Int) (keys : List Str) (k : Nat) : Dd := deedI (mixed (cells.getD k 0) k) keys (turnsN cells k)
def deedsL (cells : List Int) (keys : List Str) : List Dd := (List.range cells.length).map (deedAt cells keys)
theorem deedsL_len (cells : List Int) (keys : List Str) : (deedsL cells keys).length = cells.length := by simp [deedsL]
theorem deedsL_ok {cells : List Int} {keys : List Str} (hk : ∀ k ∈ keys, isKeyS k = true) (h4 : keys.length = 4) : ∀ d ∈ deedsL cells keys, d.ok := fun d hd => by
  obtain ⟨k, _, rfl⟩ := List.mem_map.mp hd
  exact deedI_ok hk h4 (turnsN_nn cells k)
def R_deeds (ds : List PyData) (d : PyData) : Prop := ∃ (cells : List Int) (keys : List Str), ds = [.list (cells.map .int), .list (keys.map .str)] ∧ cells.length ≤ 1000 ∧ keys.length = 4 ∧ d = .list ((deedsL cells keys).map Dd.e)
theorem keysS_len (n : Int) : (keysS n).length = 4 := rfl
section
variable {Γ : List Sl} {ta tb : TE} {E : XK}
theorem ev_deeds {cells : List Int} {keys : List Str} (h1 : Ev ta Γ (.list (cells.map .int))) (h2 : Ev tb Γ (.list (keys.map .str))) (hz : cells.length ≤ 1000) (h4 : keys.length = 4) : Ev (tCall (spP 2 R_deeds) [] E (tCons ta (tCons tb tNil))) Γ (.list ((deedsL cells keys).map Dd.e)) :=
  ev_call (ea_cons h1 (ea_cons h2 ea_nil)) rfl ⟨cells, keys, rfl, hz, h4, rfl⟩
end
/-! a thing is like itself -/
mutual
theorem eqv_refl : ∀ d : PyData, d.canLay0 = true → PyData.eqv d d = true
  | .none, _ => by simp [PyData.eqv]
  | .bool b, _ => by simp [PyData.eqv]
  | .int i, _ => by simp [PyData.eqv]
  | .str x, _ => by simp [PyData.eqv]
  | .list ds, h => by
    simp only [PyData.eqv]
    exact eqvAll_refl ds (by simpa only [PyData.canLay0] using h)
  | .tuple ds, h => by
    simp only [PyData.eqv]
    exact eqvAll_refl ds (by simpa only [PyData.canLay0] using h)
  | .dict ps, h => by simp [PyData.canLay0] at h
theorem eqvAll_refl : ∀ ds : List PyData, PyData.canLayAll0 ds = true → PyData.eqvAll ds ds = true
  | [], _ => by simp [PyData.eqvAll]
  | d :: ds, h => by
    have h' : d.canLay0 = true ∧ PyData.canLayAll0 ds = true := by simpa only [PyData.canLayAll0, Bool.and_eq_true] using h
    simp only [PyData.eqvAll, eqv_refl d h'.1, eqvAll_refl ds h'.2, Bool.and_self]
end
theorem rv_eqSelf {K : PySem.W.Frag} {x : PyData} (h : ∃ n, n ≤ 64 ∧ Shp n x) : RvD (rEqD K) x x (.bool true) := by
  obtain ⟨n, hn, h⟩ := h
  have e := rv_eqD (K := K) (h.sh hn) (h.sh hn)
  rw [eqv_refl x h.lay] at e
  exact e
theorem rv_neSelf {K : PySem.W.Frag} {x : PyData} (h : ∃ n, n ≤ 64 ∧ Shp n x) : RvD (rNeD K) x x (.bool false) := by
  obtain ⟨n, hn, h⟩ := h
  have e := rv_neD (K := K) (h.sh hn) (h.sh hn)
  rw [eqv_refl x h.lay] at e
  exact e
section
variable {Γ : List Sl} {ta tb : TE} {E : XK}
theorem ev_alike {x : PyData} {n : Nat} (h1 : Ev ta Γ x) (h2 : Ev tb Γ x) (hx : Alk n x) : Ev (tCall (spP 2 (R_alike n)) [] E (tCons ta (tCons tb tNil))) Γ (.bool true) := ev_call (ea_cons h1 (ea_cons h2 ea_nil)) rfl ⟨x, rfl, hx, rfl⟩
end
theorem Alk.up : ∀ {n : Nat} {x : PyData}, Alk n x → Alk (n + 1) x
  | 0, x, h => h.elim
  | n + 1, .list ds, h => ⟨h.1, fun y hy => Alk.up (h.2 y hy)⟩
  | n + 1, .tuple ds, h => ⟨h.1, fun y hy => Alk.up (h.2 y hy)⟩
  | n + 1, .dict _, h => h.elim
  | n + 1, .str z, h => h
  | n + 1, .none, _ => trivial
  | n + 1, .bool _, _ => trivial
  | n + 1, .int _, _ => trivial
theorem alk_list {n : Nat} {ds : List PyData} (hz : ds.length ≤ 1000) (h : ∀ y ∈ ds, Alk n y) : Alk (n + 1) (.list ds) := ⟨hz, h⟩
theorem alk_tuple {n : Nat} {ds : List PyData} (hz : ds.length ≤ 1000) (h : ∀ y ∈ ds, Alk n y) : Alk (n + 1) (.tuple ds) := ⟨hz, h⟩
theorem alk_int {n : Nat} {i : Int} : Alk (n + 1) (.int i) := trivial
theorem alk_none {n : Nat} : Alk (n + 1) .none := trivial
theorem alk_bool {n : Nat} {b : Bool} : Alk (n + 1) (.bool b) := trivial
theorem alk_str {n : Nat} {z : Str} (h : PyData.strOk z = true) : Alk (n + 1) (.str z) := h
theorem alk_opt {n : Nat} {o : Option Int} : Alk (n + 1) (optI o) := by cases o <;> trivial
theorem Dd.ok.alk {d : Dd} (h : d.ok) {n : Nat} : Alk (n + 2) d.e := alk_tuple (by show 5 ≤ 1000; decide) fun y hy => by
  simp only [List.mem_cons, List.not_mem_nil, or_false] at hy
  rcases hy with rfl | rfl | rfl | rfl | rfl
  · exact alk_int
  · exact alk_int
  · exact alk_str (strOk_word h.word)
  · exact alk_str (strOk_key h.key)
  · exact alk_int
theorem alk_dds {l : List Dd} (h : ∀ d ∈ l, d.ok) (hz : l.length ≤ 1000) {n : Nat} : Alk (n + 3) (.list (l.map Dd.e)) := alk_list (by rw [List.length_map]; exact hz) fun y hy => by
  obtain ⟨d, hd, rfl⟩ := List.mem_map.mp hy
  exact (h d hd).alk
theorem alk_ints {l : List Int} (hz : l.length ≤ 1000) {n : Nat} : Alk (n + 2) (.list (l.map .int)) := alk_list (by rw [List.length_map]; exact hz) fun y hy => by
  obtain ⟨d, hd, rfl⟩ := List.mem_map.mp hy
  exact alk_int
theorem Kp.ok.alk {k : Kp} (h : k.ok) {n : Nat} : Alk (n + 4) k.e := alk_tuple (by show 4 ≤ 1000; decide) fun y hy => by
  simp only [List.mem_cons, List.not_mem_nil, or_false] at hy
  rcases hy with rfl | rfl | rfl | rfl
  · exact alk_dds h.dl h.ll
  · exact alk_int
  · exact alk_dds h.dd h.ld
  · exact alk_ints h.lu
theorem Ch.ok.alk {c : Ch} (h : c.ok) : Alk 6 c.e := alk_tuple (by show 2 ≤ 1000; decide) fun y hy => by
  simp only [List.mem_cons, List.not_mem_nil, or_false] at hy
  rcases hy with rfl | rfl
  · exact alk_list (by rw [List.length_map]; exact h.lk) fun y hy => by
      obtain ⟨k, hk, rfl⟩ := List.mem_map.mp hy
      exact (h.kp k hk).alk
  · cases e : c.co with
    | none => exact alk_none
    | some l => exact alk_dds (h.lc l e).2 (h.lc l e).1
end Ck

namespace Ck
open PySem PySem.Spec PyProof.Rows L2

/-! ### own trees by their addresses -/
inductive TD where
  | dat (x : PyData)
  | lst (a : Addr) (xs : List TD)
  | tup (xs : List TD)
mutual
/-- the data -/
def TD.er : TD → PyData
  | .dat x => x
  | .lst _ xs => .list (TD.ers xs)
  | .tup xs => .tuple (TD.ers xs)
def TD.ers : List TD → List PyData
  | [] => []
  | x :: xs => x.er :: TD.ers xs
end
mutual
/-- the lists' addresses -/
def TD.ad : TD → List Addr
  | .dat _ => []
  | .lst a xs => a :: TD.ads xs
  | .tup xs => TD.ads xs
def TD.ads : List TD → List Addr
  | [] => []
  | x :: xs => x.ad ++ TD.ads xs
end
mutual
/-- the leaves are scalars -/
def TD.sl : TD → Bool
  | .dat x => Sc x
  | .lst _ xs => TD.sls xs
  | .tup xs => TD.sls xs
def TD.sls : List TD → Bool
  | [] => true
  | x :: xs => x.sl && TD.sls xs
end
theorem ers_map : ∀ xs : List TD, TD.ers xs = xs.map TD.er
  | [] => rfl
  | x :: xs => by rw [TD.ers, ers_map xs]; rfl
theorem mem_ads : ∀ {xs : List TD} {a : Addr}, a ∈ TD.ads xs ↔ ∃ t ∈ xs, a ∈ t.ad
  | [], a => by simp [TD.ads]
  | x :: xs, a => by
    rw [TD.ads, List.mem_append, mem_ads]
    simp
theorem ads_app : ∀ xs ys : List TD, TD.ads (xs ++ ys) = TD.ads xs ++ TD.ads ys
  | [], _ => rfl
  | x :: xs, ys => by rw [List.cons_append, TD.ads, TD.ads, ads_app xs ys, List.append_assoc]
mutual
inductive Rt (G H : Hp) : V → TD → Prop
  | dat {v : V} {x : PyData} : Rp G v x → noL x = true → Rt G H v (.dat x)
  | lst {a : Addr} {vs : List V} {xs : List TD} : H a = some (.lst vs) → Rts G H vs xs → Rt G H (.ref a) (.lst a xs)
  | tup {p : Addr} {vs : List V} {xs : List TD} : Rd G p (.tup vs) → Rts G H vs xs → Rt G H (.ref p) (.tup xs)
inductive Rts (G H : Hp) : List V → List TD → Prop
  | nil : Rts G H [] []
  | cons {v : V} {vs : List V} {t : TD} {ts : List TD} : Rt G H v t → Rts G H vs ts → Rts G H (v :: vs) (t :: ts)
end
mutual
theorem Rt.up {G H G' H' : Hp} (e : Ex G G') : ∀ (t : TD) (v : V), Rt G H v t → (∀ a ∈ t.ad, H' a = H a) → Rt G' H' v t
  | .dat x, _, h, _ => by cases h with | dat h1 h2 => exact .dat (h1.up e) h2
  | .lst a xs, _, h, q => by
    cases h with
    | lst h1 h2 =>
      rw [TD.ad] at q
      exact .lst ((q a List.mem_cons_self).trans h1) (Rts.up e xs _ h2 fun b m => q b (List.mem_cons_of_mem _ m))
  | .tup xs, _, h, q => by
    cases h with
    | tup h1 h2 =>
      rw [TD.ad] at q
      exact .tup (e.rd h1) (Rts.up e xs _ h2 q)
theorem Rts.up {G H G' H' : Hp} (e : Ex G G') : ∀ (ts : List TD) (vs : List V), Rts G H vs ts → (∀ a ∈ TD.ads ts, H' a = H a) → Rts G' H' vs ts
  | [], _, h, _ => by cases h; exact .nil
  | t :: ts, _, h, q => by
    cases h with
    | cons h1 h2 =>
      rw [TD.ads] at q
      exact .cons (Rt.up e t _ h1 fun a m => q a (List.mem_append_left _ m)) (Rts.up e ts _ h2 fun a m => q a (List.mem_append_right _ m))
end
mutual
theorem Rt.ro {G H : Hp} : ∀ (t : TD) (v : V), Rt G H v t → Ro G H v t.er t.ad
  | .dat x, _, h => by cases h with | dat h1 h2 => exact h1.ro _ _ h2
  | .lst a xs, _, h => by
    cases h with
    | lst h1 h2 => rw [TD.er, TD.ad]; exact .lst h1 (Rts.ro xs _ h2)
  | .tup xs, _, h => by
    cases h with
    | tup h1 h2 => rw [TD.er, TD.ad]; exact .tup h1 (Rts.ro xs _ h2)
theorem Rts.ro {G H : Hp} : ∀ (ts : List TD) (vs : List V), Rts G H vs ts → Ros G H vs (TD.ers ts) (TD.ads ts)
  | [], _, h => by cases h; exact .nil
  | t :: ts, _, h => by
    cases h with
    | cons h1 h2 => rw [TD.ers, TD.ads]; exact .cons (Rt.ro t _ h1) (Rts.ro ts _ h2)
end
mutual
theorem Ro.rt {G H : Hp} : ∀ (d : PyData) (v : V) (f : List Addr), noD d = true → Ro G H v d f → ∃ t : TD, Rt G H v t ∧ t.er = d ∧ t.ad = f ∧ t.sl = true
  | .none, _, _, _, h => by cases h; exact ⟨.dat .none, .dat .non rfl, rfl, rfl, rfl⟩
  | .bool b, _, _, _, h => by cases h; exact ⟨.dat (.bool b), .dat (.bl b) rfl, rfl, rfl, rfl⟩
  | .int i, _, _, _, h => by cases h; exact ⟨.dat (.int i), .dat (.int i) rfl, rfl, rfl, rfl⟩
  | .str x, _, _, _, h => by cases h; exact ⟨.dat (.str x), .dat (.str x) rfl, rfl, rfl, rfl⟩
  | .list ds, _, _, c, h => by
    cases h with
    | @lst a vs _ f h1 h2 =>
      obtain ⟨ts, r, e1, e2, e3⟩ := Ros.rt ds _ _ (by simpa only [noD] using c) h2
      exact ⟨.lst a ts, .lst h1 r, by rw [TD.er, e1], by rw [TD.ad, e2], by rw [TD.sl, e3]⟩
  | .tuple ds, _, _, c, h => by
    cases h with
    | @tup a vs _ f h1 h2 =>
      obtain ⟨ts, r, e1, e2, e3⟩ := Ros.rt ds _ _ (by simpa only [noD] using c) h2
      exact ⟨.tup ts, .tup h1 r, by rw [TD.er, e1], by rw [TD.ad, e2], by rw [TD.sl, e3]⟩
  | .dict ps, _, _, c, h => by simp [noD] at c
theorem Ros.rt {G H : Hp} : ∀ (ds : List PyData) (vs : List V) (f : List Addr), noDs ds = true → Ros G H vs ds f → ∃ ts : List TD, Rts G H vs ts ∧ TD.ers ts = ds ∧ TD.ads ts = f ∧ TD.sls ts = true
  | [], _, _, _, h => by cases h; exact ⟨[], .nil, rfl, rfl, rfl⟩
  | d :: ds, _, _, c, h => by
    cases h with
    | cons h1 h2 =>
      have c' : noD d = true ∧ noDs ds = true := by simpa only [noDs, Bool.and_eq_true] using c
      obtain ⟨t, r1, e1, f1, g1⟩ := Ro.rt d _ _ c'.1 h1
      obtain ⟨ts, r2, e2, f2, g2⟩ := Ros.rt ds _ _ c'.2 h2
      exact ⟨t :: ts, .cons r1 r2, by rw [TD.ers, e1, e2], by rw [TD.ads, f1, f2], by rw [TD.sls, g1, g2]; rfl⟩
end
theorem Rts.length {G H : Hp} : ∀ {vs : List V} {ts : List TD}, Rts G H vs ts → vs.length = ts.length
  | _, _, .nil => rfl
  | _, _, .cons _ t => congrArg (· + 1) (Rts.length t)
theorem Rts.get {G H : Hp} : ∀ {vs : List V} {ts : List TD} {i : Nat} {t : TD}, Rts G H vs ts → ts[i]? = some t → ∃ v, vs[i]? = some v ∧ Rt G H v t
  | _, _, _, _, .nil, e => by simp at e
  | _, _, 0, _, .cons r _, e => by simp at e; subst e; exact ⟨_, rfl, r⟩
  | _, _, i + 1, t, .cons _ r, e => by
    obtain ⟨v, h1, h2⟩ := Rts.get (i := i) (t := t) r (by simpa using e)
    exact ⟨v, by simpa using h1, h2⟩
theorem Rts.app {G H : Hp} : ∀ {vs ws : List V} {ts us : List TD}, Rts G H vs ts → Rts G H ws us → Rts G H (vs ++ ws) (ts ++ us)
  | _, _, _, _, .nil, s => s
  | _, _, _, _, .cons r t, s => .cons r (Rts.app t s)
theorem Rts.take {G H : Hp} : ∀ {vs : List V} {ts : List TD} (n : Nat), Rts G H vs ts → Rts G H (vs.take n) (ts.take n)
  | _, _, 0, _ => .nil
  | _, _, _ + 1, .nil => .nil
  | _, _, n + 1, .cons r t => .cons r (Rts.take n t)
theorem Rts.drop {G H : Hp} : ∀ {vs : List V} {ts : List TD} (n : Nat), Rts G H vs ts → Rts G H (vs.drop n) (ts.drop n)
  | _, _, 0, r => r
  | _, _, _ + 1, .nil => .nil
  | _, _, n + 1, .cons _ t => Rts.drop n t
theorem Rts.set {G H : Hp} {v : V} {u : TD} (r : Rt G H v u) : ∀ {vs : List V} {ts : List TD} (i : Nat), Rts G H vs ts → Rts G H (vs.set i v) (ts.set i u)
  | _, _, _, .nil => .nil
  | _, _, 0, .cons _ t => .cons r t
  | _, _, i + 1, .cons q t => .cons q (Rts.set r i t)
theorem Rts.cut {G H : Hp} {vs : List V} {ts : List TD} (r : Rts G H vs ts) (lo hi : Option Int) : Rts G H (cutV vs lo hi) (cutG ts lo hi) := by
  unfold cutV cutG
  rw [r.length]
  exact (r.drop _).take _
mutual
theorem Rt.mtA {G H : Hp} : ∀ (t : TD) (v : V), Rt G H v t → ∀ a ∈ t.ad, Mt H a
  | .dat x, _, h, a, m => by rw [TD.ad] at m; cases m
  | .lst b xs, _, h, a, m => by
    cases h with
    | lst h1 h2 =>
      rw [TD.ad] at m
      rcases List.mem_cons.mp m with rfl | m
      · exact .inl ⟨_, h1⟩
      · exact Rts.mtA xs _ h2 a m
  | .tup xs, _, h, a, m => by
    cases h with
    | tup h1 h2 => rw [TD.ad] at m; exact Rts.mtA xs _ h2 a m
theorem Rts.mtA {G H : Hp} : ∀ (ts : List TD) (vs : List V), Rts G H vs ts → ∀ a ∈ TD.ads ts, Mt H a
  | [], _, h, a, m => by rw [TD.ads] at m; cases m
  | t :: ts, _, h, a, m => by
    cases h with
    | cons h1 h2 =>
      rw [TD.ads] at m
      rcases List.mem_append.mp m with m | m
      · exact Rt.mtA t _ h1 a m
      · exact Rts.mtA ts _ h2 a m
end
mutual
theorem noL_ad {G H : Hp} : ∀ (t : TD) (v : V), Rt G H v t → noL t.er = true → t.ad = []
  | .dat x, _, h, _ => rfl
  | .lst b xs, _, h, c => by rw [TD.er] at c; simp [noL] at c
  | .tup xs, _, h, c => by
    cases h with
    | tup h1 h2 =>
      rw [TD.er] at c
      rw [TD.ad]
      exact noLs_ads xs _ h2 (by simpa only [noL] using c)
theorem noLs_ads {G H : Hp} : ∀ (ts : List TD) (vs : List V), Rts G H vs ts → noLs (TD.ers ts) = true → TD.ads ts = []
  | [], _, h, _ => rfl
  | t :: ts, _, h, c => by
    cases h with
    | cons h1 h2 =>
      rw [TD.ers] at c
      have c' : noL t.er = true ∧ noLs (TD.ers ts) = true := by simpa only [noLs, Bool.and_eq_true] using c
      rw [TD.ads, noL_ad t _ h1 c'.1, noLs_ads ts _ h2 c'.2]; rfl
end
/-! states -/
structure OkT (B : Bs) (S0 : List Addr) (G : Hp) (σ : L2.St) (H : Hp) (Γ : List (Option TD)) (T : List Addr) : Prop where
  st : Stp B.g0 B.h0 G H
  len : σ.length = Γ.length
  sl : ∀ (i : Nat) (t : TD), Γ[i]? = some (some t) → ∃ v, σ[i]? = some (some v) ∧ Rt G H v t ∧ ∀ a ∈ t.ad, a ∈ T
  fr : ∀ a ∈ T, G a = none ∧ Mt H a ∧ (B.h0 a = none ∨ a ∈ S0)
def AtT (B : Bs) (S0 : List Addr) (Γ : List (Option TD)) (T : List Addr) (k : L2.St → Hp → Prop) : Prop := ∀ (G : Hp) (σ : L2.St) (H : Hp), OkT B S0 G σ H Γ T → k σ H
section
variable {B : Bs} {S0 T : List Addr} {G G' H H' : Hp} {σ : L2.St} {Γ : List (Option TD)}
theorem OkT.step (k : OkT B S0 G σ H Γ T) (s : Stp G H G' H') : OkT B S0 G' σ H' Γ T :=
  ⟨k.st.tr s, k.len, fun i t e => by
    obtain ⟨v, e1, r, m⟩ := k.sl i t e
    exact ⟨v, e1, r.up s.g _ _ fun a ha => (k.fr a (m a ha)).2.1.ex s.h, m⟩, fun a ha => by
    obtain ⟨hg, hm, hb⟩ := k.fr a ha
    obtain ⟨o, ho⟩ := hm.some
    exact ⟨s.nw a o ho hg, hm.of (hm.ex s.h), hb⟩⟩
def fT (T : List Addr) : Nat → List Addr := fun i => if i = 0 then T else []
theorem fT_in {i : Nat} {a : Addr} (h : a ∈ fT T i) : i = 0 ∧ a ∈ T := by
  unfold fT at h
  split at h
  · rename_i e; exact ⟨e, h⟩
  · cases h
theorem OkT.okF (k : OkT B S0 G σ H Γ T) : OkF ⟨G, G, hLess (fT T) H⟩ G σ H (List.replicate Γ.length .un) (fT T) := by
  refine ⟨Ex.rfl' G, ⟨Ex.rfl' G, hLess_ex, k.st.gh, fun _ _ _ h => h⟩, by rw [List.length_replicate]; exact k.len, fun i s e => ?_, fun i a m => ?_, fun i j a hne m1 m2 => ?_⟩
  · have := List.mem_of_getElem? e
    rw [List.mem_replicate] at this
    rw [this.2]; trivial
  · have h := k.fr a (fT_in m).2
    exact ⟨hLess_in m, h.1, h.2.1⟩
  · exact hne ((fT_in m1).1.trans (fT_in m2).1.symm)
def fzT : Option TD → Sl
  | none => .un
  | some t => .d t.er
theorem OkT.fz (k : OkT B S0 G σ H Γ T) : Ok ⟨gPlus (fT T) G H, gPlus (fT T) G H, H⟩ (gPlus (fT T) G H) σ H (Γ.map fzT) := by
  have kf := k.okF
  refine ⟨fun _ => [], Ex.rfl' _, Stp.rfl' kf.gPlus_h, by rw [List.length_map]; exact k.len, fun i s e => ?_, fun i a m => (by cases m), fun i j a _ m => (by cases m)⟩
  rw [List.getElem?_map] at e
  cases q : Γ[i]? with
  | none => rw [q] at e; cases e
  | some s' =>
    rw [q] at e
    cases s' with
    | none => cases e; trivial
    | some t =>
      cases e
      obtain ⟨v, e1, r, m⟩ := k.sl i t q
      exact ⟨v, e1, Ro.rp (exTup kf.gPlus_ex) _ _ _ (r.ro _ _) fun a ha => gPlus_in (F := fT T) (i := 0) (m a ha)⟩
end
/-! ### what is evaluated there -/
def Evt (te : TE) (Γ : List (Option TD)) (T : List Addr) (d : PyData) : Prop := ∀ (B : Bs) (S0 : List Addr) (G : Hp) (σ : L2.St) (H : Hp), OkT B S0 G σ H Γ T → ∀ Q : VK, (∀ v G' H', Stp G H G' H' → Rp G' v d → Q v H') → te σ H Q
def Ett (tt : TT) (Γ : List (Option TD)) (T : List Addr) (b : Bool) : Prop := ∀ (B : Bs) (S0 : List Addr) (G : Hp) (σ : L2.St) (H : Hp), OkT B S0 G σ H Γ T → ∀ Q : Bool → Hp → Prop, (∀ G' H', Stp G H G' H' → Q b H') → tt σ H Q
/-- the very thing -/
def Tv (te : TE) (Γ : List (Option TD)) (T : List Addr) (t : TD) : Prop := ∀ (B : Bs) (S0 : List Addr) (G : Hp) (σ : L2.St) (H : Hp), OkT B S0 G σ H Γ T → ∀ Q : VK, (∀ v G' H', Stp G H G' H' → Rt G' H' v t → (∀ a ∈ t.ad, a ∈ T) → Q v H') → te σ H Q
def TvA (ta : TA) (Γ : List (Option TD)) (T : List Addr) (ts : List TD) : Prop := ∀ (B : Bs) (S0 : List Addr) (G : Hp) (σ : L2.St) (H : Hp), OkT B S0 G σ H Γ T → ∀ Q : List V → Hp → Prop, (∀ vs G' H', Stp G H G' H' → Rts G' H' vs ts → (∀ a ∈ TD.ads ts, a ∈ T) → Q vs H') → ta σ H Q
/-- a new list of these very things -/
def TvN (te : TE) (Γ : List (Option TD)) (T : List Addr) (ts : List TD) : Prop := ∀ (B : Bs) (S0 : List Addr) (G : Hp) (σ : L2.St) (H : Hp), OkT B S0 G σ H Γ T → ∀ Q : VK, (∀ c vs G' H', Stp G H G' H' → H c = none → G' c = none → H' c = some (.lst vs) → Rts G' H' vs ts → (∀ a ∈ TD.ads ts, a ∈ T) → Q (.ref c) H') → te σ H Q
/-- a list of these very things -/
def TL (te : TE) (Γ : List (Option TD)) (T : List Addr) (ts : List TD) : Prop := ∀ (B : Bs) (S0 : List Addr) (G : Hp) (σ : L2.St) (H : Hp), OkT B S0 G σ H Γ T → ∀ Q : VK, (∀ c vs G' H', Stp G H G' H' → H' c = some (.lst vs) → Rts G' H' vs ts → (∀ a ∈ TD.ads ts, a ∈ T) → Q (.ref c) H') → te σ H Q
/-- one's own: new, or out of S -/
def Tm (te : TE) (Γ : List (Option TD)) (T S : List Addr) (d : PyData) : Prop := ∀ (B : Bs) (S0 : List Addr) (G : Hp) (σ : L2.St) (H : Hp), OkT B S0 G σ H Γ T → ∀ Q : VK,
  (∀ v f G' H', Stp G H G' H' → Ro G' H' v d f → f.Nodup → (∀ a ∈ f, G' a = none ∧ (H a = none ∨ a ∈ S ∧ a ∈ T)) → Q v H') → te σ H Q
def Tms (ta : TA) (Γ : List (Option TD)) (T S : List Addr) (ds : List PyData) : Prop := ∀ (B : Bs) (S0 : List Addr) (G : Hp) (σ : L2.St) (H : Hp), OkT B S0 G σ H Γ T → ∀ Q : List V → Hp → Prop,
  (∀ vs f G' H', Stp G H G' H' → Ros G' H' vs ds f → f.Nodup → (∀ a ∈ f, G' a = none ∧ (H a = none ∨ a ∈ S ∧ a ∈ T)) → Q vs H') → ta σ H Q
/-- a list whose things are one's own -/
def Ti (te : TE) (Γ : List (Option TD)) (T S : List Addr) (ds : List PyData) : Prop := ∀ (B : Bs) (S0 : List Addr) (G : Hp) (σ : L2.St) (H : Hp), OkT B S0 G σ H Γ T → ∀ Q : VK,
  (∀ c vs f G' H', Stp G H G' H' → H' c = some (.lst vs) → Ros G' H' vs ds f → f.Nodup → (∀ a ∈ f, G' a = none ∧ (H a = none ∨ a ∈ S ∧ a ∈ T)) → Q (.ref c) H') → te σ H Q
section
variable {K : PySem.W.Frag} {Γ : List (Option TD)} {T S S1 S2 : List Addr} {te ta tb ti : TE} {tr tl : TA} {tt : TT} {d : PyData} {ds ds1 ds2 : List PyData} {t : TD} {ts us : List TD} {i : Nat} {n : Int} {b : Bool} {a : Addr}
theorem evt (h : Ev te (Γ.map fzT) d) (s : noL d = true) : Evt te Γ T d := fun B S0 G σ H k Q q =>
  h _ _ σ H k.fz Q fun v G' H' st r => q v _ H' (k.okF.unfz st) (r.noL s (k.okF.tup st))
theorem ett (h : EvT tt (Γ.map fzT) b) : Ett tt Γ T b := fun B S0 G σ H k Q q => h _ _ σ H k.fz Q fun G' H' st => q _ H' (k.okF.unfz st)
theorem tx_var (e : Γ[i]? = some (some t)) : Tv (tVar i) Γ T t := fun B S0 G σ H k Q q => by
  obtain ⟨v, e1, r, m⟩ := k.sl i t e
  exact ⟨v, e1, q v G H (Stp.rfl' k.st.gh) r m⟩
theorem Rts.atI {G H : Hp} {vs : List V} (r : Rts G H vs ts) (h : atI ts n = some t) : ∃ v, L2.atI vs n = some v ∧ Rt G H v t := by
  unfold L2.atI at h ⊢
  rw [r.length]
  obtain ⟨j, hj, hd⟩ := Option.bind_eq_some_iff.mp h
  obtain ⟨v, hv, rv⟩ := r.get hd
  exact ⟨v, by rw [hj]; exact hv, rv⟩
theorem atI_mem {α : Type} {xs : List α} {x : α} (h : atI xs n = some x) : x ∈ xs := by
  unfold L2.atI at h
  obtain ⟨j, _, hd⟩ := Option.bind_eq_some_iff.mp h
  exact List.mem_of_getElem? hd
theorem tx_ixT (h : Tv te Γ T (.tup ts)) (hi : Evt ti Γ T (.int n)) (hx : atI ts n = some t) : Tv (tOp (rIx K) te ti) Γ T t := fun B S0 G σ H k Q q =>
  h B S0 G σ H k _ fun v G1 H1 s1 r1 m1 => hi B S0 G1 σ H1 (k.step s1) _ fun w G2 H2 s2 r2 => by
    cases r2
    rw [TD.ad] at m1
    have k2 := (k.step s1).step s2
    have r1' := r1.up s2.g _ _ fun b hb => ((k.step s1).fr b (m1 b (by rw [TD.ad] at hb; exact hb))).2.1.ex s2.h
    cases r1' with
    | tup h1 h2 =>
      obtain ⟨u, hu, ru⟩ := h2.atI hx
      exact .inr (.inl ⟨_, _, n, u, rfl, rfl, rd_sqt (s2.gh.rd h1), hu, q u G2 H2 (s1.tr s2) ru fun b hb => m1 b (mem_ads.mpr ⟨t, atI_mem hx, hb⟩)⟩)
theorem tx_ixL (h : TL te Γ T ts) (hi : Evt ti Γ T (.int n)) (hx : atI ts n = some t) : Tv (tOp (rIx K) te ti) Γ T t := fun B S0 G σ H k Q q =>
  h B S0 G σ H k _ fun c vs G1 H1 s1 hc r1 m1 => hi B S0 G1 σ H1 (k.step s1) _ fun w G2 H2 s2 r2 => by
    cases r2
    have r1' := Rts.up s2.g _ _ r1 fun b hb => ((k.step s1).fr b (m1 b hb)).2.1.ex s2.h
    obtain ⟨u, hu, ru⟩ := r1'.atI hx
    exact .inl ⟨_, _, n, u, rfl, rfl, rd_sql (.inl (s2.h _ _ hc)), hu, q u G2 H2 (s1.tr s2) ru fun b hb => m1 b (mem_ads.mpr ⟨t, atI_mem hx, hb⟩)⟩
theorem Tv.l (h : Tv te Γ T (.lst a ts)) : TL te Γ T ts := fun B S0 G σ H k Q q => h B S0 G σ H k _ fun v G1 H1 s1 r1 m1 => by
  cases r1 with
  | lst h1 h2 => exact q a _ G1 H1 s1 h1 h2 fun b hb => m1 b (by rw [TD.ad]; exact List.mem_cons_of_mem _ hb)
theorem TvN.l (h : TvN te Γ T ts) : TL te Γ T ts := fun B S0 G σ H k Q q => h B S0 G σ H k _ fun c vs G1 H1 s1 h0 hg hc r m => q c vs G1 H1 s1 hc r m
theorem tx_d (h : Evt te Γ T d) (s : noL d = true) : Tv te Γ T (.dat d) := fun B S0 G σ H k Q q => h B S0 G σ H k Q fun v G' H' st r => q v G' H' st (.dat r s) fun a m => by rw [TD.ad] at m; cases m
theorem txa_nil : TvA tNil Γ T [] := fun B S0 G σ H k Q q => q [] G H (Stp.rfl' k.st.gh) .nil fun a m => by rw [TD.ads] at m; cases m
theorem txa_cons (h : Tv te Γ T t) (hr : TvA tr Γ T ts) : TvA (tCons te tr) Γ T (t :: ts) := fun B S0 G σ H k Q q =>
  h B S0 G σ H k _ fun v G1 H1 s1 r1 m1 => hr B S0 G1 σ H1 (k.step s1) _ fun vs G2 H2 s2 r2 m2 => q (v :: vs) G2 H2 (s1.tr s2) (.cons (r1.up s2.g _ _ fun b hb => ((k.step s1).fr b (m1 b hb)).2.1.ex s2.h) r2) fun a ha => by
    rw [TD.ads] at ha
    rcases List.mem_append.mp ha with ha | ha
    · exact m1 a ha
    · exact m2 a ha
theorem txn_lst (h : TvA tr Γ T ts) (hl : ts.length ≤ sizeLine) : TvN (tLst tr) Γ T ts := fun B S0 G σ H k Q q =>
  h B S0 G σ H k _ fun vs G1 H1 s1 r1 m1 => ⟨by rw [r1.length]; exact hl, fun p hp => q p vs G1 _ (s1.tr (Stp.newH s1.gh hp)) (s1.h.no hp) (s1.gh.no hp) upd_same (r1.up (Ex.rfl' _) _ _ fun b hb => upd_ne fun z => by
    obtain ⟨o, ho⟩ := ((k.step s1).fr b (m1 b hb)).2.1.some
    rw [z, hp] at ho; cases ho) m1⟩
theorem txn_sl {tlo thi : TO} {lo hi : Option Int} (h : TL te Γ T ts) (h1 : ∀ {B : Bs} {S0 : List Addr} {G : Hp} {σ : L2.St} {H : Hp}, OkT B S0 G σ H Γ T → ∀ Q : Option Int → Hp → Prop, (∀ G' H', Stp G H G' H' → Q lo H') → tlo σ H Q)
    (h2 : ∀ {B : Bs} {S0 : List Addr} {G : Hp} {σ : L2.St} {H : Hp}, OkT B S0 G σ H Γ T → ∀ Q : Option Int → Hp → Prop, (∀ G' H', Stp G H G' H' → Q hi H') → thi σ H Q) : TvN (tSl (rSlU K) te tlo thi) Γ T (cutG ts lo hi) := fun B S0 G σ H k Q q =>
  h B S0 G σ H k _ fun c vs G1 H1 s1 hc r1 m1 => h1 (k.step s1) _ fun G2 H2 s2 => h2 ((k.step s1).step s2) _ fun G3 H3 s3 => by
    have r3 := Rts.up (s2.g.tr s3.g) _ _ r1 fun b hb => ((k.step s1).fr b (m1 b hb)).2.1.ex (s2.h.tr s3.h)
    have st := (s1.tr s2).tr s3
    refine .inl ⟨c, vs, rfl, rd_sql (.inl (s3.h _ _ (s2.h _ _ hc))), fun p hp => q p _ G3 _ (st.tr (Stp.newH s3.gh hp)) (st.h.no hp) (s3.gh.no hp) upd_same ((r3.up (Ex.rfl' _) _ _ fun b hb => upd_ne fun z => ?_).cut lo hi) fun a ha => ?_⟩
    · obtain ⟨o, ho⟩ := ((k.step st).fr b (m1 b hb)).2.1.some
      rw [z, hp] at ho; cases ho
    · obtain ⟨t, ht, hta⟩ := mem_ads.mp ha
      exact m1 a (mem_ads.mpr ⟨t, cutG_mem ht, hta⟩)
theorem ot_none {B : Bs} {S0 : List Addr} {G : Hp} {σ : L2.St} {H : Hp} (k : OkT B S0 G σ H Γ T) (Q : Option Int → Hp → Prop) (q : ∀ G' H', Stp G H G' H' → Q none H') : tNoPart σ H Q := q G H (Stp.rfl' k.st.gh)
theorem ot_some (h : Evt te Γ T (.int n)) {B : Bs} {S0 : List Addr} {G : Hp} {σ : L2.St} {H : Hp} (k : OkT B S0 G σ H Γ T) (Q : Option Int → Hp → Prop) (q : ∀ G' H', Stp G H G' H' → Q (some n) H') : tPart te σ H Q :=
  h B S0 G σ H k _ fun v G1 H1 s1 r1 => by cases r1; exact ⟨n, rfl, q G1 H1 s1⟩
theorem txn_cat (h1 : TL ta Γ T ts) (h2 : TL tb Γ T us) (hz : ts.length + us.length ≤ sizeLine) : TvN (tOp (rAddU K) ta tb) Γ T (ts ++ us) := fun B S0 G σ H k Q q =>
  h1 B S0 G σ H k _ fun c vs G1 H1 s1 hc r1 m1 => h2 B S0 G1 σ H1 (k.step s1) _ fun c2 ws G2 H2 s2 hc2 r2 m2 => by
    have r1' := Rts.up s2.g _ _ r1 fun b hb => ((k.step s1).fr b (m1 b hb)).2.1.ex s2.h
    have st := s1.tr s2
    refine .inr (.inr (.inl ⟨c, c2, vs, ws, rfl, rfl, .inl (s2.h _ _ hc), .inl hc2, by rw [r1.length, r2.length]; exact hz, fun p hp => q p _ G2 _ (st.tr (Stp.newH s2.gh hp)) (st.h.no hp) (s2.gh.no hp) upd_same ((r1'.app r2).up (Ex.rfl' _) _ _ fun b hb => upd_ne fun z => ?_) fun a ha => ?_⟩))
    · have hT : b ∈ T := by
        rw [ads_app] at hb
        rcases List.mem_append.mp hb with hb | hb
        · exact m1 b hb
        · exact m2 b hb
      obtain ⟨o, ho⟩ := ((k.step st).fr b hT).2.1.some
      rw [z, hp] at ho; cases ho
    · rw [ads_app] at ha
      rcases List.mem_append.mp ha with ha | ha
      · exact m1 a ha
      · exact m2 a ha
/-! one's own -/
theorem tm_x (h : Tv te Γ T t) (nd : t.ad.Nodup) : Tm te Γ T t.ad t.er := fun B S0 G σ H k Q q => h B S0 G σ H k Q fun v G1 H1 s1 r1 m1 => q v t.ad G1 H1 s1 (r1.ro _ _) nd fun a ha => ⟨((k.step s1).fr a (m1 a ha)).1, .inr ⟨ha, m1 a ha⟩⟩
theorem tm_xN (h : TvN te Γ T ts) (nd : (TD.ads ts).Nodup) : Tm te Γ T (TD.ads ts) (.list (TD.ers ts)) := fun B S0 G σ H k Q q => h B S0 G σ H k Q fun c vs G1 H1 s1 h0 hg hc r1 m1 =>
  q (.ref c) (c :: TD.ads ts) G1 H1 s1 (.lst hc (r1.ro _ _)) (List.nodup_cons.mpr ⟨fun m => (by
    obtain ⟨o, ho⟩ := (k.fr c (m1 c m)).2.1.some
    rw [h0] at ho; cases ho), nd⟩) fun a ha => by
    rcases List.mem_cons.mp ha with rfl | ha
    · exact ⟨hg, .inl h0⟩
    · exact ⟨((k.step s1).fr a (m1 a ha)).1, .inr ⟨ha, m1 a ha⟩⟩
theorem tm_d (h : Evt te Γ T d) (s : noL d = true) : Tm te Γ T [] d := fun B S0 G σ H k Q q => h B S0 G σ H k Q fun v G' H' st r => q v [] G' H' st (r.ro _ _ s) List.nodup_nil fun _ m => by cases m
theorem tm_N (h : EvN te (Γ.map fzT) ds) (s : noLs ds = true) : Tm te Γ T [] (.list ds) := fun B S0 G σ H k Q q =>
  h _ _ σ H k.fz Q fun a vs G' H' st h0 hg hh r => q _ [a] _ H' (k.okF.unfz st) (.lst hh ((r.noL s (k.okF.tup st)).ros _ _ s)) (List.nodup_cons.mpr ⟨fun m => (by cases m), List.nodup_nil⟩) fun b m => by
    rcases List.mem_cons.mp m with rfl | m
    · exact ⟨gMinus_none hg, .inl h0⟩
    · cases m
theorem tm_weak (h : Tm te Γ T S d) {S' : List Addr} (hs : ∀ a ∈ S, a ∈ S') : Tm te Γ T S' d := fun B S0 G σ H k Q q => h B S0 G σ H k Q fun v f G' H' st r nd m => q v f G' H' st r nd fun a ha => ⟨(m a ha).1, (m a ha).2.imp id fun z => ⟨hs a z.1, z.2⟩⟩
theorem tm_is {d' : PyData} (h : Tm te Γ T S d) (e : d = d') : Tm te Γ T S d' := e ▸ h
theorem tms_nil : Tms tNil Γ T [] [] := fun B S0 G σ H k Q q => q [] [] G H (Stp.rfl' k.st.gh) .nil List.nodup_nil fun _ m => by cases m
theorem tms_cons (h : Tm te Γ T S1 d) (hr : Tms tr Γ T S2 ds) (hd : ∀ a ∈ S1, a ∉ S2) : Tms (tCons te tr) Γ T (S1 ++ S2) (d :: ds) := fun B S0 G σ H k Q q =>
  h B S0 G σ H k _ fun v f G1 H1 s1 r1 n1 m1 => hr B S0 G1 σ H1 (k.step s1) _ fun vs g G2 H2 s2 r2 n2 m2 => by
    have mt1 := r1.mt _ _ _
    have key : ∀ a ∈ f, H2 a = H1 a := fun a ha => (mt1 a ha).ex s2.h
    refine q (v :: vs) (f ++ g) G2 H2 (s1.tr s2) (.cons (r1.fr (exTup s2.g) _ _ _ key) r2) ?_ fun a ha => ?_
    · refine List.nodup_append.mpr ⟨n1, n2, fun a ha b hb e => ?_⟩
      subst e
      obtain ⟨o, ho⟩ := (mt1 a ha).some
      rcases (m2 a hb).2 with z | ⟨z, zT⟩
      · rw [z] at ho; cases ho
      · rcases (m1 a ha).2 with y | ⟨y, _⟩
        · obtain ⟨o, ho⟩ := (k.fr a zT).2.1.some
          rw [y] at ho; cases ho
        · exact hd a y z
    · rcases List.mem_append.mp ha with ha | ha
      · obtain ⟨o, ho⟩ := (mt1 a ha).some
        exact ⟨s2.nw a o ho (m1 a ha).1, (m1 a ha).2.imp id fun z => ⟨List.mem_append_left _ z.1, z.2⟩⟩
      · exact ⟨(m2 a ha).1, (m2 a ha).2.imp (fun z => s1.h.no z) fun z => ⟨List.mem_append_right _ z.1, z.2⟩⟩
theorem tm_tup (h : Tms tr Γ T S ds) (hl : ds.length ≤ sizeLine) : Tm (tTup tr) Γ T S (.tuple ds) := fun B S0 G σ H k Q q =>
  h B S0 G σ H k _ fun vs f G1 H1 s1 r1 n1 m1 => ⟨by rw [r1.len _ _ _]; exact hl, fun p hp => by
    have mt1 := r1.mt _ _ _
    have np : ∀ a ∈ f, a ≠ p := fun a ha z => by
      subst z
      obtain ⟨o, ho⟩ := (mt1 a ha).some
      rw [hp] at ho; cases ho
    exact q (.ref p) f _ _ (s1.tr (Stp.new s1.gh hp)) (.tup (.inl upd_same) (r1.fr (exTup (Ex.new (s1.gh.no hp))) _ _ _ fun a ha => upd_ne (np a ha))) n1 fun a ha => ⟨by rw [upd_ne (np a ha)]; exact (m1 a ha).1, (m1 a ha).2⟩⟩
theorem tm_lst (h : Tms tr Γ T S ds) (hl : ds.length ≤ sizeLine) : Tm (tLst tr) Γ T S (.list ds) := fun B S0 G σ H k Q q =>
  h B S0 G σ H k _ fun vs f G1 H1 s1 r1 n1 m1 => ⟨by rw [r1.len _ _ _]; exact hl, fun p hp => by
    have mt1 := r1.mt _ _ _
    have np : ∀ a ∈ f, a ≠ p := fun a ha z => by
      subst z
      obtain ⟨o, ho⟩ := (mt1 a ha).some
      rw [hp] at ho; cases ho
    refine q (.ref p) (p :: f) G1 _ (s1.tr (Stp.newH s1.gh hp)) (.lst upd_same (r1.fr (fun _ _ z => z) _ _ _ fun a ha => upd_ne (np a ha))) (List.nodup_cons.mpr ⟨fun m => np p m rfl, n1⟩) fun a ha => ?_
    rcases List.mem_cons.mp ha with rfl | ha
    · exact ⟨s1.gh.no hp, .inl (s1.h.no hp)⟩
    · exact m1 a ha⟩
theorem TL.its (h : TL te Γ T ts) (nd : (TD.ads ts).Nodup) : Ti te Γ T (TD.ads ts) (TD.ers ts) := fun B S0 G σ H k Q q => h B S0 G σ H k _ fun c vs G1 H1 s1 hc r1 m1 =>
  q c vs (TD.ads ts) G1 H1 s1 hc (r1.ro _ _) nd fun a ha => ⟨((k.step s1).fr a (m1 a ha)).1, .inr ⟨ha, m1 a ha⟩⟩
theorem tl_is (h : TL te Γ T ts) (e : ts = us) : TL te Γ T us := e ▸ h
theorem Tm.its (h : Tm te Γ T S (.list ds)) : Ti te Γ T S ds := fun B S0 G σ H k Q q => h B S0 G σ H k _ fun v f G1 H1 s1 r1 nd m1 => by
  cases r1 with
  | lst hc hr => exact q _ _ _ G1 H1 s1 hc hr (List.nodup_cons.mp nd).2 fun b hb => m1 b (List.mem_cons_of_mem _ hb)
theorem ros_app {G H : Hp} : ∀ {vs ws : List V} {ds es : List PyData} {f g : List Addr}, Ros G H vs ds f → Ros G H ws es g → Ros G H (vs ++ ws) (ds ++ es) (f ++ g)
  | _, _, [], _, _, _, h, s => by cases h; exact s
  | _, _, d :: ds, _, _, _, h, s => by
    cases h with
    | cons a b =>
      rw [List.append_assoc]
      exact .cons a (ros_app b s)
theorem tm_cat (h1 : Ti ta Γ T S1 ds1) (h2 : Ti tb Γ T S2 ds2) (hd : ∀ a ∈ S1, a ∉ S2) (hz : ds1.length + ds2.length ≤ sizeLine) : Tm (tOp (rAddU K) ta tb) Γ T (S1 ++ S2) (.list (ds1 ++ ds2)) := fun B S0 G σ H k Q q =>
  h1 B S0 G σ H k _ fun c vs f G1 H1 s1 hc r1 n1 m1 => h2 B S0 G1 σ H1 (k.step s1) _ fun c2 ws g G2 H2 s2 hc2 r2 n2 m2 => by
    have mt1 := r1.mt _ _ _
    have mt2 := r2.mt _ _ _
    have key : ∀ a ∈ f, H2 a = H1 a := fun a ha => (mt1 a ha).ex s2.h
    have r1' := r1.fr (exTup s2.g) _ _ _ key
    have st := s1.tr s2
    refine .inr (.inr (.inl ⟨c, c2, vs, ws, rfl, rfl, .inl (s2.h _ _ hc), .inl hc2, by rw [r1.len _ _ _, r2.len _ _ _]; exact hz, fun p hp => ?_⟩))
    have np : ∀ a ∈ f ++ g, a ≠ p := fun a ha z => by
      subst z
      rcases List.mem_append.mp ha with ha | ha
      · obtain ⟨o, ho⟩ := (mt1 a ha).some
        rw [← key a ha, hp] at ho; cases ho
      · obtain ⟨o, ho⟩ := (mt2 a ha).some
        rw [hp] at ho; cases ho
    have hn : (f ++ g).Nodup := by
      refine List.nodup_append.mpr ⟨n1, n2, fun a ha b hb e => ?_⟩
      subst e
      obtain ⟨o, ho⟩ := (mt1 a ha).some
      rcases (m2 a hb).2 with z | ⟨z, zT⟩
      · rw [z] at ho; cases ho
      · rcases (m1 a ha).2 with y | ⟨y, _⟩
        · obtain ⟨o, ho⟩ := (k.fr a zT).2.1.some
          rw [y] at ho; cases ho
        · exact hd a y z
    refine q (.ref p) (p :: (f ++ g)) G2 _ (st.tr (Stp.newH s2.gh hp)) (.lst upd_same ((ros_app r1' r2).fr (fun _ _ z => z) _ _ _ fun a ha => upd_ne (np a ha))) (List.nodup_cons.mpr ⟨fun m => np p m rfl, hn⟩) fun a ha => ?_
    rcases List.mem_cons.mp ha with rfl | ha
    · exact ⟨s2.gh.no hp, .inl (st.h.no hp)⟩
    · rcases List.mem_append.mp ha with ha | ha
      · obtain ⟨o, ho⟩ := (mt1 a ha).some
        exact ⟨s2.nw a o ho (m1 a ha).1, (m1 a ha).2.imp id fun z => ⟨List.mem_append_left _ z.1, z.2⟩⟩
      · exact ⟨(m2 a ha).1, (m2 a ha).2.imp (fun z => s1.h.no z) fun z => ⟨List.mem_append_right _ z.1, z.2⟩⟩
end
theorem ettZ {Γ : List (Option TD)} {Γz : List Sl} {T : List Addr} {tt : TT} {b : Bool} (h : EvT tt Γz b) (e : Γ.map fzT = Γz) : Ett tt Γ T b := ett (e ▸ h)
theorem evtZ {Γ : List (Option TD)} {Γz : List Sl} {T : List Addr} {te : TE} {d : PyData} (h : Ev te Γz d) (s : noL d = true) (e : Γ.map fzT = Γz) : Evt te Γ T d := evt (e ▸ h) s
theorem tm_NZ {Γ : List (Option TD)} {Γz : List Sl} {T : List Addr} {te : TE} {ds : List PyData} (h : EvN te Γz ds) (s : noLs ds = true) (e : Γ.map fzT = Γz) : Tm te Γ T [] (.list ds) := tm_N (e ▸ h) s
/-! taken apart -/
theorem er_tuple {t : TD} {ds : List PyData} (h : t.sl = true) (e : t.er = .tuple ds) : ∃ xs, t = .tup xs ∧ TD.ers xs = ds ∧ TD.sls xs = true := by
  cases t with
  | dat x => rw [TD.er] at e; subst e; simp [TD.sl, Sc] at h
  | lst a xs => rw [TD.er] at e; cases e
  | tup xs => rw [TD.er] at e; exact ⟨xs, rfl, PyData.tuple.inj e, by rw [TD.sl] at h; exact h⟩
theorem er_list {t : TD} {ds : List PyData} (h : t.sl = true) (e : t.er = .list ds) : ∃ a xs, t = .lst a xs ∧ TD.ers xs = ds ∧ TD.sls xs = true := by
  cases t with
  | dat x => rw [TD.er] at e; subst e; simp [TD.sl, Sc] at h
  | lst a xs => rw [TD.er] at e; exact ⟨a, xs, rfl, PyData.list.inj e, by rw [TD.sl] at h; exact h⟩
  | tup xs => rw [TD.er] at e; cases e
theorem ers_cons {xs : List TD} {d : PyData} {ds : List PyData} (h : TD.sls xs = true) (e : TD.ers xs = d :: ds) : ∃ t ts, xs = t :: ts ∧ t.er = d ∧ TD.ers ts = ds ∧ t.sl = true ∧ TD.sls ts = true := by
  cases xs with
  | nil => rw [TD.ers] at e; cases e
  | cons t ts =>
    rw [TD.ers] at e
    rw [TD.sls, Bool.and_eq_true] at h
    exact ⟨t, ts, rfl, (List.cons.inj e).1, (List.cons.inj e).2, h.1, h.2⟩
theorem ers_nil {xs : List TD} (e : TD.ers xs = []) : xs = [] := by
  cases xs with
  | nil => rfl
  | cons t ts => rw [TD.ers] at e; cases e
theorem er_int {t : TD} {i : Int} (e : t.er = .int i) : t = .dat (.int i) := by
  cases t with
  | dat x => rw [TD.er] at e; rw [e]
  | lst a xs => rw [TD.er] at e; cases e
  | tup xs => rw [TD.er] at e; cases e
theorem kp_td {t : TD} {k : Kp} (h : t.sl = true) (e : t.er = k.e) : ∃ l tl dn td u tu, t = .tup [.lst l tl, .dat (.int k.sure), .lst dn td, .lst u tu] ∧ TD.ers tl = k.log.map Dd.e ∧ TD.ers td = k.down.map Dd.e ∧ TD.ers tu = k.up.map .int ∧ TD.sls tl = true ∧ TD.sls td = true ∧ TD.sls tu = true := by
  obtain ⟨xs, rfl, e1, h1⟩ := er_tuple h e
  obtain ⟨t1, ts1, rfl, f1, e2, s1, h2⟩ := ers_cons h1 e1
  obtain ⟨t2, ts2, rfl, f2, e3, s2, h3⟩ := ers_cons h2 e2
  obtain ⟨t3, ts3, rfl, f3, e4, s3, h4⟩ := ers_cons h3 e3
  obtain ⟨t4, ts4, rfl, f4, e5, s4, h5⟩ := ers_cons h4 e4
  have := ers_nil e5
  subst this
  obtain ⟨l, tl, rfl, g1, q1⟩ := er_list s1 f1
  obtain ⟨dn, td, rfl, g3, q3⟩ := er_list s3 f3
  obtain ⟨u, tu, rfl, g4, q4⟩ := er_list s4 f4
  have := er_int f2
  subst this
  exact ⟨l, tl, dn, td, u, tu, rfl, g1, g3, g4, q1, q3, q4⟩
theorem ch_td {t : TD} {c : Ch} (h : t.sl = true) (e : t.er = c.e) : ∃ a ts tc, t = .tup [.lst a ts, tc] ∧ TD.ers ts = c.ks.map Kp.e ∧ tc.er = coE c.co ∧ TD.sls ts = true ∧ tc.sl = true := by
  obtain ⟨xs, rfl, e1, h1⟩ := er_tuple h e
  obtain ⟨t1, ts1, rfl, f1, e2, s1, h2⟩ := ers_cons h1 e1
  obtain ⟨t2, ts2, rfl, f2, e3, s2, h3⟩ := ers_cons h2 e2
  have := ers_nil e3
  subst this
  obtain ⟨a, ts, rfl, g1, q1⟩ := er_list s1 f1
  exact ⟨a, ts, t2, rfl, g1, f2, q1, s2⟩
theorem noD_dd {d : Dd} : noD d.e = true := by simp [Dd.e, noD, noDs]
theorem noDs_map {α : Type} {f : α → PyData} (h : ∀ x, noD (f x) = true) : ∀ xs : List α, noDs (xs.map f) = true
  | [] => by simp [noDs]
  | x :: xs => by rw [List.map_cons]; simp only [noDs, h x, noDs_map h xs, Bool.and_self]
theorem noD_dds {l : List Dd} : noD (.list (l.map Dd.e)) = true := by rw [noD]; exact noDs_map (fun _ => noD_dd) l
theorem noD_kp {k : Kp} : noD k.e = true := by
  show noD (.tuple [.list (k.log.map Dd.e), .int k.sure, .list (k.down.map Dd.e), .list (k.up.map .int)]) = true
  simp only [noD, noDs, noDs_map (fun _ => noD_dd), noDs_map (f := PyData.int) (fun _ => by simp [noD]), Bool.and_self]
theorem noD_ch {c : Ch} : noD c.e = true := by
  show noD (.tuple [.list (c.ks.map Kp.e), coE c.co]) = true
  have h : noD (coE c.co) = true := by
    cases c.co with
    | none => simp [coE, noD]
    | some l => exact noD_dds
  simp only [noD, noDs, noDs_map (fun _ => noD_kp), h, Bool.and_self]
/-! ### statements there -/
section
variable {K : PySem.W.Frag} {B : Bs} {S0 T S : List Addr} {Γ : List (Option TD)} {nx bk ct : L2.St → Hp → Prop} {rt : VK} {t u : TS} {te ti : TE} {tt : TT} {d : PyData} {ts : List TD} {x : TD} {i j : Nat} {b : Bool} {n : Int}
theorem OkT.set {G H : Hp} {σ : L2.St} (k : OkT B S0 G σ H Γ T) (i : Nat) {v : V} {x : TD} {T' : List Addr} (r : Rt G H v x) (hT : ∀ a ∈ T, a ∈ T') (hx : ∀ a ∈ x.ad, a ∈ T') (hf : ∀ a ∈ T', a ∉ T → G a = none ∧ Mt H a ∧ (B.h0 a = none ∨ a ∈ S0)) : OkT B S0 G (σ.set i (some v)) H (Γ.set i (some x)) T' := by
  refine ⟨k.st, by rw [List.length_set, List.length_set]; exact k.len, fun j t e => ?_, fun a ha => ?_⟩
  · by_cases hj : i = j
    · subst hj
      by_cases hi : i < Γ.length
      · rw [List.getElem?_set_self hi] at e
        cases e
        exact ⟨v, List.getElem?_set_self (by rw [k.len]; exact hi), r, hx⟩
      · rw [List.getElem?_eq_none (by rw [List.length_set]; omega)] at e
        cases e
    · rw [List.getElem?_set_ne hj] at e ⊢
      obtain ⟨v, e1, r1, m1⟩ := k.sl j t e
      exact ⟨v, e1, r1, fun a ha => hT a (m1 a ha)⟩
  · by_cases h : a ∈ T
    · exact k.fr a h
    · exact hf a ha h
theorem att_set (h : Tv te Γ T x) (q : AtT B S0 (Γ.set i (some x)) T nx) : AtT B S0 Γ T (tAsg te (gName i) ⟨nx, rt, bk, ct⟩) := fun G σ H k =>
  h B S0 G σ H k _ fun v G1 H1 s1 r1 m1 => q G1 _ H1 ((k.step s1).set i r1 (fun _ z => z) m1 fun a ha hn => absurd ha hn)
theorem att_setN (h : TvN te Γ T ts) (q : ∀ c, c ∉ T → B.h0 c = none → AtT B S0 (Γ.set i (some (.lst c ts))) (c :: T) nx) : AtT B S0 Γ T (tAsg te (gName i) ⟨nx, rt, bk, ct⟩) := fun G σ H k =>
  h B S0 G σ H k _ fun c vs G1 H1 s1 h0 hg hc r1 m1 => by
    have nc : c ∉ T := fun m => by
      obtain ⟨o, ho⟩ := (k.fr c m).2.1.some
      rw [h0] at ho; cases ho
    refine q c nc (k.st.h.no h0) G1 _ H1 ((k.step s1).set i (.lst hc r1) (fun _ z => List.mem_cons_of_mem _ z) (fun a ha => ?_) fun a ha hn => ?_)
    · rw [TD.ad] at ha
      rcases List.mem_cons.mp ha with rfl | ha
      · exact List.mem_cons_self
      · exact List.mem_cons_of_mem _ (m1 a ha)
    · rcases List.mem_cons.mp ha with rfl | ha
      · exact ⟨hg, .inl ⟨_, hc⟩, .inl (k.st.h.no h0)⟩
      · exact absurd ha hn
theorem att_setM (h : Tm te Γ T S d) (hd : noD d = true) (q : ∀ x : TD, x.er = d → x.sl = true → x.ad.Nodup → (∀ a ∈ x.ad, a ∉ T ∨ a ∈ S) → AtT B S0 (Γ.set i (some x)) (x.ad ++ T) nx) : AtT B S0 Γ T (tAsg te (gName i) ⟨nx, rt, bk, ct⟩) := fun G σ H k =>
  h B S0 G σ H k _ fun v f G1 H1 s1 r1 n1 m1 => by
    have mt1 := r1.mt _ _ _
    obtain ⟨x, rx, ex, ax, lx⟩ := r1.rt _ _ _ hd
    subst ax
    refine q x ex lx n1 (fun a ha => (m1 a ha).2.imp (fun z m => ?_) fun z => z.1) G1 _ H1 ((k.step s1).set i rx (fun _ z => List.mem_append_right _ z) (fun a ha => List.mem_append_left _ ha) fun a ha hn => ?_)
    · obtain ⟨o, ho⟩ := (k.fr a m).2.1.some
      rw [z] at ho; cases ho
    · rcases List.mem_append.mp ha with ha | ha
      · refine ⟨(m1 a ha).1, mt1 a ha, ?_⟩
        rcases (m1 a ha).2 with z | ⟨_, z⟩
        · exact .inl (k.st.h.no z)
        · exact absurd z hn
      · exact absurd ha hn
theorem att_if (h : Ett tt Γ T b) (h1 : b = true → AtT B S0 Γ T (t ⟨nx, rt, bk, ct⟩)) (h2 : b = false → AtT B S0 Γ T (u ⟨nx, rt, bk, ct⟩)) : AtT B S0 Γ T (tIfS tt t u ⟨nx, rt, bk, ct⟩) := fun G σ H k => h B S0 G σ H k _ fun G' H' s => by
  cases b with
  | true => rw [if_pos rfl]; exact h1 rfl G' σ H' (k.step s)
  | false => rw [if_neg Bool.false_ne_true]; exact h2 rfl G' σ H' (k.step s)
theorem att_seq (h : AtT B S0 Γ T (t ⟨u ⟨nx, rt, bk, ct⟩, rt, bk, ct⟩)) : AtT B S0 Γ T (tSeq t u ⟨nx, rt, bk, ct⟩) := h
theorem att_next (h : AtT B S0 Γ T nx) : AtT B S0 Γ T (tNext ⟨nx, rt, bk, ct⟩) := h
theorem att_nf {Γ' : List (Option TD)} (q : AtT B S0 Γ' T nx) (h : Γ = Γ') : AtT B S0 Γ T nx := h ▸ q
abbrev RtT (B : Bs) (S0 : List Addr) (Q : VK) (d : PyData) : Prop := ∀ v f G H, Stp B.g0 B.h0 G H → Ro G H v d f → f.Nodup → (∀ a ∈ f, G a = none ∧ (B.h0 a = none ∨ a ∈ S0)) → Q v H
theorem att_rt (h : Tm te Γ T S d) {d' : PyData} (e : d = d') (q : RtT B S0 rt d') : AtT B S0 Γ T (tRet te ⟨nx, rt, bk, ct⟩) := fun G σ H k =>
  h B S0 G σ H k _ fun v f G1 H1 s1 r1 n1 m1 => q v f G1 H1 (k.st.tr s1) (e ▸ r1) n1 fun a ha => ⟨(m1 a ha).1, (m1 a ha).2.elim (fun z => .inl (k.st.h.no z)) fun z => (k.fr a z.2).2.2⟩
theorem rtT_O (q : RtO B rt d) : RtT B [] rt d := fun v f G H s r nd m => q v f G H s r nd fun a ha => ⟨(m a ha).2.elim id fun z => (by cases z), (m a ha).1⟩
/-! a place of a list is set -/
mutual
def TD.put (a : Addr) (ys : List TD) : TD → TD
  | .dat x => .dat x
  | .lst c xs => if c = a then .lst a ys else .lst c (TD.puts a ys xs)
  | .tup xs => .tup (TD.puts a ys xs)
def TD.puts (a : Addr) (ys : List TD) : List TD → List TD
  | [] => []
  | x :: xs => x.put a ys :: TD.puts a ys xs
end
mutual
theorem put_id {a : Addr} {ys : List TD} : ∀ t : TD, a ∉ t.ad → t.put a ys = t
  | .dat x, _ => by rw [TD.put]
  | .lst c xs, h => by
    rw [TD.ad] at h
    rw [TD.put, if_neg fun z => h (List.mem_cons.mpr (.inl z.symm)), puts_id xs fun z => h (List.mem_cons_of_mem _ z)]
  | .tup xs, h => by
    rw [TD.ad] at h
    rw [TD.put, puts_id xs h]
theorem puts_id {a : Addr} {ys : List TD} : ∀ ts : List TD, a ∉ TD.ads ts → TD.puts a ys ts = ts
  | [], _ => by rw [TD.puts]
  | t :: ts, h => by
    rw [TD.ads] at h
    rw [TD.puts, put_id t fun z => h (List.mem_append_left _ z), puts_id ts fun z => h (List.mem_append_right _ z)]
end
mutual
theorem Rt.put {G H : Hp} {a : Addr} {ws : List V} {ys : List TD} (hy : Rts G (upd H a (.lst ws)) ws ys) : ∀ (t : TD) (v : V), Rt G H v t → Rt G (upd H a (.lst ws)) v (t.put a ys)
  | .dat x, _, h => by cases h with | dat h1 h2 => rw [TD.put]; exact .dat h1 h2
  | .lst c xs, _, h => by
    cases h with
    | lst h1 h2 =>
      rw [TD.put]
      by_cases hc : c = a
      · subst hc
        rw [if_pos rfl]
        exact .lst upd_same hy
      · rw [if_neg hc]
        exact .lst (by rw [upd_ne hc]; exact h1) (Rts.put hy xs _ h2)
  | .tup xs, _, h => by
    cases h with
    | tup h1 h2 => rw [TD.put]; exact .tup h1 (Rts.put hy xs _ h2)
theorem Rts.put {G H : Hp} {a : Addr} {ws : List V} {ys : List TD} (hy : Rts G (upd H a (.lst ws)) ws ys) : ∀ (ts : List TD) (vs : List V), Rts G H vs ts → Rts G (upd H a (.lst ws)) vs (TD.puts a ys ts)
  | [], _, h => by cases h; rw [TD.puts]; exact .nil
  | t :: ts, _, h => by
    cases h with
    | cons h1 h2 => rw [TD.puts]; exact .cons (Rt.put hy t _ h1) (Rts.put hy ts _ h2)
end
mutual
theorem put_ad {a b : Addr} {ys : List TD} : ∀ t : TD, b ∈ (t.put a ys).ad → b ∈ t.ad ∨ b ∈ TD.ads ys
  | .dat x, h => by rw [TD.put] at h; exact .inl h
  | .lst c xs, h => by
    rw [TD.put] at h
    rw [TD.ad]
    by_cases hc : c = a
    · rw [if_pos hc, TD.ad] at h
      rcases List.mem_cons.mp h with rfl | h
      · subst hc; exact .inl List.mem_cons_self
      · exact .inr h
    · rw [if_neg hc, TD.ad] at h
      rcases List.mem_cons.mp h with rfl | h
      · exact .inl List.mem_cons_self
      · exact (puts_ad xs h).imp (List.mem_cons_of_mem _) id
  | .tup xs, h => by
    rw [TD.put, TD.ad] at h
    rw [TD.ad]
    exact puts_ad xs h
theorem puts_ad {a b : Addr} {ys : List TD} : ∀ ts : List TD, b ∈ TD.ads (TD.puts a ys ts) → b ∈ TD.ads ts ∨ b ∈ TD.ads ys
  | [], h => by rw [TD.puts] at h; exact .inl h
  | t :: ts, h => by
    rw [TD.puts, TD.ads] at h
    rw [TD.ads]
    rcases List.mem_append.mp h with h | h
    · exact (put_ad t h).imp (List.mem_append_left _) id
    · exact (puts_ad ts h).imp (List.mem_append_right _) id
end
theorem mem_ads_set {xs : List TD} {x : TD} {b : Addr} (h : b ∈ TD.ads (xs.set j x)) : b ∈ TD.ads xs ∨ b ∈ x.ad := by
  obtain ⟨t, ht, hb⟩ := mem_ads.mp h
  rcases List.mem_or_eq_of_mem_set ht with z | z
  · exact .inl (mem_ads.mpr ⟨t, z, hb⟩)
  · exact .inr (z ▸ hb)
theorem att_item {a : Addr} (e : Γ[i]? = some (some (.lst a ts))) (hv : Tm te Γ T S d) (hd : noD d = true) (hi : ∀ x : TD, Evt ti Γ T (.int n)) (hx : ixN ts.length n = some j) (ha : B.h0 a = none) (hS : a ∉ S) (hn : (TD.lst a ts).ad.Nodup)
    (q : ∀ x : TD, x.er = d → x.sl = true → x.ad.Nodup → (∀ b ∈ x.ad, b ∉ T ∨ b ∈ S) → AtT B S0 (Γ.map (Option.map (TD.put a (ts.set j x)))) (x.ad ++ T) nx) : AtT B S0 Γ T (tAsg te (gSub (tVar i) ti rSetL) ⟨nx, rt, bk, ct⟩) := fun G σ H k =>
  hv B S0 G σ H k _ fun v f G1 H1 s1 r1 n1 m1 => by
    have mt1 := r1.mt _ _ _
    obtain ⟨x, rx, ex, ax, lx⟩ := r1.rt _ _ _ hd
    subst ax
    have k1 := k.step s1
    obtain ⟨w, e1, rl, ml⟩ := k1.sl i _ e
    have aT : a ∈ T := ml a (by rw [TD.ad]; exact List.mem_cons_self)
    cases rl with
    | @lst _ vs _ hc hr =>
      refine ⟨.ref a, e1, hi x B S0 G1 σ H1 k1 _ fun y G2 H2 s2 r2 => ?_⟩
      cases r2
      have k2 := k1.step s2
      have hc2 := s2.h _ _ hc
      have hr2 := Rts.up s2.g _ _ hr fun b hb => (k1.fr b (ml b (by rw [TD.ad]; exact List.mem_cons_of_mem _ hb))).2.1.ex s2.h
      have rx2 := rx.up s2.g _ _ fun b hb => (mt1 b hb).ex s2.h
      refine ⟨a, vs, n, j, rfl, rfl, hc2, by rw [hr.length]; exact hx, ?_⟩
      rw [TD.ad] at hn
      have na : a ∉ x.ad := fun m => (m1 a m).2.elim (fun z => by
        obtain ⟨o, ho⟩ := (k.fr a aT).2.1.some
        rw [z] at ho; cases ho) fun z => hS z.1
      have nas : a ∉ TD.ads (ts.set j x) := fun m => (mem_ads_set m).elim (fun z => (List.nodup_cons.mp hn).1 z) na
      have hy : Rts G2 (upd H2 a (.lst (vs.set j v))) (vs.set j v) (ts.set j x) := Rts.up (Ex.rfl' _) _ _ (hr2.set rx2 j) fun b hb => upd_ne fun z => nas (z ▸ hb)
      refine q x ex lx n1 (fun b hb => (m1 b hb).2.imp (fun z m => ?_) fun z => z.1) G2 σ _ ⟨⟨k2.st.g, fun b o hb => ?_, fun b o hb => ?_, k2.st.nw⟩, by rw [List.length_map]; exact k2.len, fun l y hy' => ?_, fun b hb => ?_⟩
      · obtain ⟨o, ho⟩ := (k.fr b m).2.1.some
        rw [z] at ho; cases ho
      · rw [upd_ne fun z => by subst z; rw [ha] at hb; cases hb]
        exact k2.st.h b o hb
      · rw [upd_ne fun z => by subst z; rw [(k2.fr b aT).1] at hb; cases hb]
        exact k2.st.gh b o hb
      · rw [List.getElem?_map] at hy'
        cases ql : Γ[l]? with
        | none => rw [ql] at hy'; cases hy'
        | some o =>
          rw [ql] at hy'
          cases o with
          | none => cases hy'
          | some y0 =>
            cases hy'
            obtain ⟨vl, el, rl, mll⟩ := k2.sl l y0 ql
            refine ⟨vl, el, Rt.put hy y0 vl rl, fun b hb => ?_⟩
            rcases put_ad y0 hb with z | z
            · exact List.mem_append_right _ (mll b z)
            · rcases mem_ads_set z with z | z
              · exact List.mem_append_right _ (ml b (by rw [TD.ad]; exact List.mem_cons_of_mem _ z))
              · exact List.mem_append_left _ z
      · by_cases hb2 : b = a
        · subst hb2
          exact ⟨(k2.fr b aT).1, .inl ⟨_, upd_same⟩, .inl ha⟩
        · rcases List.mem_append.mp hb with hb | hb
          · obtain ⟨o, ho⟩ := (mt1 b hb).some
            refine ⟨s2.nw b o ho (m1 b hb).1, (mt1 b hb).of (by rw [upd_ne hb2]; exact (mt1 b hb).ex s2.h), ?_⟩
            rcases (m1 b hb).2 with z | ⟨_, z⟩
            · exact .inl (k.st.h.no z)
            · exact (k.fr b z).2.2
          · obtain ⟨h1, h2, h3⟩ := k2.fr b hb
            exact ⟨h1, h2.of (upd_ne hb2), h3⟩
end
/-! ### into it -/
inductive CvT : List Sl → List (Option TD) → Prop
  | nil : CvT [] []
  | no {s : Sl} {l : List Sl} {m : List (Option TD)} : CvT l m → CvT (s :: l) (none :: m)
  | d {x : PyData} {l : List Sl} {m : List (Option TD)} : noL x = true → CvT l m → CvT (.d x :: l) (some (.dat x) :: m)
theorem CvT.len {l : List Sl} {m : List (Option TD)} (h : CvT l m) : m.length = l.length := by
  induction h with
  | nil => rfl
  | no _ ih => exact congrArg (· + 1) ih
  | d _ _ ih => exact congrArg (· + 1) ih
theorem CvT.get {l : List Sl} {m : List (Option TD)} (h : CvT l m) : ∀ (i : Nat) (t : TD), m[i]? = some (some t) → ∃ x, l[i]? = some (.d x) ∧ t = .dat x ∧ noL x = true := by
  induction h with
  | nil => intro i t e; simp at e
  | no _ ih =>
    intro i t e
    cases i with
    | zero => simp at e
    | succ i => simpa using ih i t (by simpa using e)
  | d hx _ ih =>
    intro i t e
    cases i with
    | zero => simp at e; exact ⟨_, by simp, e.symm, hx⟩
    | succ i => simpa using ih i t (by simpa using e)
theorem at_toT {B : Bs} {Γ : List Sl} {Γt : List (Option TD)} {k : L2.St → Hp → Prop} {i : Nat} {d : PyData} (e : Γ[i]? = some (.ow d)) (hd : noD d = true) (hc : CvT Γ Γt) (q : ∀ t : TD, t.er = d → t.sl = true → t.ad.Nodup → (∀ a ∈ t.ad, B.h0 a = none) → AtT B [] (Γt.set i (some t)) t.ad k) : At B Γ k := fun G σ H ok => by
  obtain ⟨F, h⟩ := ok
  obtain ⟨v, f, e1, r, nd, m⟩ := h.sl i _ e
  obtain ⟨t, rt, et, at_, lt⟩ := r.rt _ _ _ hd
  subst at_
  refine q t et lt nd (fun a ha => (h.fr i a (m a ha)).1) G σ H ⟨h.st, by rw [List.length_set, hc.len]; exact h.len, fun j u ej => ?_, fun a ha => ⟨(h.fr i a (m a ha)).2.1, (h.fr i a (m a ha)).2.2, .inl (h.fr i a (m a ha)).1⟩⟩
  by_cases hj : i = j
  · subst hj
    have hi : i < Γt.length := by rw [hc.len]; exact (List.getElem?_eq_some_iff.mp e).1
    rw [List.getElem?_set_self hi] at ej
    cases ej
    exact ⟨v, e1, rt, fun a ha => ha⟩
  · rw [List.getElem?_set_ne hj] at ej
    obtain ⟨x, el, rfl, hx⟩ := hc.get j u ej
    obtain ⟨w, ew, rw'⟩ := h.sl j _ el
    exact ⟨w, ew, .dat rw' hx, fun a ha => by rw [TD.ad] at ha; cases ha⟩
/-- a slot whose value is not looked at any more -/
theorem at_setUn {B : Bs} {Γ Γ' : List Sl} {nx bk ct : L2.St → Hp → Prop} {rt : VK} {i : Nat} {te : TE} {d : PyData} (h : Ev te (Γ.map Sl.fz) d) (hs : SetAt Γ i .un Γ') (q : At B Γ' nx) : At B Γ (tAsg te (gName i) ⟨nx, rt, bk, ct⟩) := fun G σ H ok => by
  obtain ⟨F, k⟩ := ok
  exact h _ _ σ H k.fz _ fun v G' H' st r => q _ _ H' (hs.eq ▸ (Ok.step ⟨F, k⟩ (k.unfz st)).setU i (some v))
/-! ### a promise that looks at own trees and tells one out of them -/
def spT (n : Nat) (R : List TD → PyData → Prop) : Sp := fun vs H Q _ => ∃ ts d G, Ex G H ∧ Rts G H vs ts ∧ ts.length = n ∧ (TD.ads ts).Nodup ∧ (∀ a ∈ TD.ads ts, G a = none) ∧ R ts d ∧ RtT ⟨G, G, H⟩ (TD.ads ts) Q d
abbrev BodyT (N n : Nat) (R : List TD → PyData → Prop) (t : TS) : Prop := ∀ (ts : List TD) (d : PyData) (B : Bs) (Q : VK), ts.length = n → (TD.ads ts).Nodup → R ts d → RtT B (TD.ads ts) Q d → AtT B (TD.ads ts) (ts.map some ++ List.replicate (N - n) none) (TD.ads ts) (t { nx := fun _ H' => Q .non H', rt := Q })
theorem mkT {P : Program} {w : World} {K : PySem.W.Frag} {mg : Str → Option Value} {base : Heap} {x : Str} {st : Stmt} {N ps : List Str} {k n : Nat} {R : List TD → PyData → Prop} (h : Has K mg x st) (hb : BindsP x st ps) (S : FnScope N ps (defScope st)) (hn : ps.length = n)
    (hbody : ∀ (f : Addr) (cdv : Value) (A : Around) (outer : List Env) (s : Shared) (H : Hp) (E : XK), Room k (A.deeper (envOfC x (defScope st) s.heap.objs.size f cdv)) →
      ∃ t, PSs (cxOf CX0 P w K mg base N x (defScope st) f cdv A outer s H E).nox (defBody st) t ∧ BodyT N.length n R t) : Def P w K mg base CX0 (k + 1) x ps (spT n R) :=
  mk_def h hb S (fun vs H Q E ⟨ts, _, _, _, r, l, _⟩ => by rw [r.length, l, hn]) fun f cdv A outer s H vs Q E hr hsp => by
    obtain ⟨t, h1, h2⟩ := hbody f cdv A outer s H E hr
    obtain ⟨ts, d, G, ex, r, l, nd, hg, hR, q⟩ := hsp
    refine ⟨t, h1.nox, h2 ts d ⟨G, G, H⟩ Q l nd hR q G _ H ⟨Stp.rfl' ex, ?_, fun i u e => ?_, fun a ha => ⟨hg a ha, r.mtA _ _ a ha, .inr ha⟩⟩⟩
    · unfold L2.start
      rw [List.length_append, List.length_append, List.length_map, List.length_map, List.length_replicate, List.length_replicate, r.length, l]
    · unfold L2.start
      by_cases hi : i < ts.length
      · rw [List.getElem?_append_left (by rw [List.length_map]; exact hi), List.getElem?_map] at e
        have hd : ts[i]? = some ts[i] := List.getElem?_eq_getElem hi
        rw [hd] at e
        cases e
        obtain ⟨v, hv, rv⟩ := r.get hd
        refine ⟨v, ?_, rv, fun a ha => mem_ads.mpr ⟨_, List.getElem_mem hi, ha⟩⟩
        rw [List.getElem?_append_left (by rw [List.length_map, r.length]; exact hi), List.getElem?_map, hv]
        rfl
      · rw [List.getElem?_append_right (by rw [List.length_map]; omega)] at e
        have := List.mem_of_getElem? e
        rw [List.mem_replicate] at this
        cases this.2
theorem tm_callT {Γ : List (Option TD)} {T : List Addr} {ta : TA} {ts : List TD} {d : PyData} {n : Nat} {R : List TD → PyData → Prop} {E : XK} (h : TvA ta Γ T ts) (nd : (TD.ads ts).Nodup) (hn : ts.length = n) (hR : R ts d) : Tm (tCall (spT n R) [] E ta) Γ T (TD.ads ts) d := fun B S0 G σ H k Q q =>
  h B S0 G σ H k _ fun vs G1 H1 s1 r1 m1 => by
    rw [List.append_nil]
    exact ⟨ts, d, G1, s1.gh, r1, hn, nd, fun a ha => ((k.step s1).fr a (m1 a ha)).1, hR, fun v f G' H' s r nf m => q v f G' H' (s1.tr s) r nf fun a ha => ⟨(m a ha).1, (m a ha).2.imp (fun z => s1.h.no z) fun z => ⟨z, m1 a z⟩⟩⟩
/-- what owns nothing but new things -/
theorem em_callG {K : PySem.W.Frag} {Γ : List Sl} {ta : TA} {d : PyData} {n : Nat} {ss : List Sl} {R : List Sl → Oc → Prop} {E : XK} (h : EvS ta Γ [] ss) (hn : ss.length = n) (hR : R ss (.ok d)) : EvM (tCall (spG WO K n R) [] E ta) Γ [] d := fun B G σ H F k Q q => by
  refine h B G σ H F k _ fun vs f G1 H1 s1 hl hs hf ap => ?_
  rw [List.append_nil]
  obtain ⟨a1, a2⟩ := args_ok (ss := ss) k s1 hl hs hf ap
  refine ⟨ss, .ok d, G1, _, f, hl.trans hn, a1, hR, fun v g G' H' s r nd m => ?_⟩
  have hx : Ex H (hArg f F [] H1) := fun a o ho => by
    unfold hArg
    rw [if_neg]
    · exact s1.h a o ho
    · rintro (⟨i, mi⟩ | ⟨j, hj, _⟩)
      · rcases (hf i a mi).2.2 with z | ⟨j, hj, _⟩
        · rw [ho] at z; cases z
        · cases hj
      · cases hj
  exact q v g G' H' ⟨s1.g.tr s.g, hx.tr s.h, s.gh, fun a o ho hn => s.nw a o (hx a o ho) (s1.nw a o ho hn)⟩ r nd fun a ha => ⟨(m a ha).2, .inl (hx.no (m a ha).1)⟩
end Ck

namespace Ck
open PySem PySem.Spec PyProof.Rows L2

/-! ### _law_spoilt: each list of one's own tree gets a thing more -/
def hOff (f : List Addr) (H : Hp) : Hp := fun a => if a ∈ f then none else H a
theorem hOff_in {f : List Addr} {H : Hp} {a : Addr} (h : a ∈ f) : hOff f H a = none := if_pos h
theorem hOff_no {f : List Addr} {H : Hp} {a : Addr} (h : a ∉ f) : hOff f H a = H a := if_neg h
theorem hOff_ex {f : List Addr} {H : Hp} : Ex (hOff f H) H := fun a o q => by
  by_cases h : a ∈ f
  · rw [hOff_in h] at q; cases q
  · rw [hOff_no h] at q; exact q
theorem ex_hOff {f : List Addr} {H X : Hp} (h : Ex X H) (n : ∀ a ∈ f, X a = none) : Ex X (hOff f H) := fun a o q => by
  rw [hOff_no fun m => by rw [n a m] at q; cases q]
  exact h a o q
abbrev moreD : PyData := .str "more"
mutual
def spoilD : PyData → PyData
  | .list ds => .list (spoilDs ds ++ [moreD])
  | .tuple ds => .tuple (spoilDs ds)
  | d => d
def spoilDs : List PyData → List PyData
  | [] => []
  | d :: ds => spoilD d :: spoilDs ds
end
theorem spoilDs_map : ∀ ds : List PyData, spoilDs ds = ds.map spoilD
  | [] => rfl
  | d :: ds => by rw [spoilDs, spoilDs_map ds]; rfl
mutual
theorem spoil_noL : ∀ d : PyData, noL d = true → spoilD d = d
  | .none, _ => by simp [spoilD]
  | .bool b, _ => by simp [spoilD]
  | .int i, _ => by simp [spoilD]
  | .str x, _ => by simp [spoilD]
  | .list ds, h => by simp [noL] at h
  | .tuple ds, h => by rw [spoilD, spoils_noL ds (by simpa only [noL] using h)]
  | .dict ps, h => by simp [noL] at h
theorem spoils_noL : ∀ ds : List PyData, noLs ds = true → spoilDs ds = ds
  | [], _ => rfl
  | d :: ds, h => by
    have h' : noL d = true ∧ noLs ds = true := by simpa only [noLs, Bool.and_eq_true] using h
    rw [spoilDs, spoil_noL d h'.1, spoils_noL ds h'.2]
end
/-- as Alk, by a greatest length -/
def AlkB (m : Nat) : Nat → PyData → Prop
  | 0, _ => False
  | n + 1, .list ds => ds.length ≤ m ∧ ∀ y ∈ ds, AlkB m n y
  | n + 1, .tuple ds => ds.length ≤ m ∧ ∀ y ∈ ds, AlkB m n y
  | _ + 1, .dict _ => False
  | _ + 1, .str z => PyData.strOk z = true
  | _ + 1, _ => True
theorem AlkB.alk {m : Nat} (hm : m ≤ 1000) : ∀ {n : Nat} {x : PyData}, AlkB m n x → Alk n x
  | 0, _, h => h.elim
  | n + 1, .list ds, h => ⟨Nat.le_trans h.1 hm, fun y hy => AlkB.alk hm (h.2 y hy)⟩
  | n + 1, .tuple ds, h => ⟨Nat.le_trans h.1 hm, fun y hy => AlkB.alk hm (h.2 y hy)⟩
  | n + 1, .dict _, h => h.elim
  | n + 1, .str z, h => h
  | n + 1, .none, _ => trivial
  | n + 1, .bool _, _ => trivial
  | n + 1, .int _, _ => trivial
theorem AlkB.spoil {m : Nat} : ∀ {n : Nat} {x : PyData}, AlkB m (n + 1) x → AlkB (m + 1) (n + 2) (spoilD x)
  | n, .list ds, h => by
    rw [spoilD]
    refine ⟨by rw [List.length_append, spoilDs_map, List.length_map]; exact Nat.succ_le_succ h.1, fun y hy => ?_⟩
    rcases List.mem_append.mp hy with hy | hy
    · rw [spoilDs_map] at hy
      obtain ⟨x, hx, rfl⟩ := List.mem_map.mp hy
      match n, h.2 x hx with
      | n + 1, hb => exact AlkB.spoil hb
    · rw [List.mem_singleton.mp hy]
      show PyData.strOk _ = true
      decide +kernel
  | n, .tuple ds, h => by
    rw [spoilD]
    refine ⟨by rw [spoilDs_map, List.length_map]; exact Nat.le_succ_of_le h.1, fun y hy => ?_⟩
    rw [spoilDs_map] at hy
    obtain ⟨x, hx, rfl⟩ := List.mem_map.mp hy
    match n, h.2 x hx with
    | n + 1, hb => exact AlkB.spoil hb
  | n, .dict _, h => h.elim
  | n, .str z, h => h
  | n, .none, _ => by rw [spoilD]; trivial; all_goals simp
  | n, .bool _, _ => by rw [spoilD]; trivial; all_goals simp
  | n, .int _, _ => by rw [spoilD]; trivial; all_goals simp
theorem AlkB.up {m : Nat} : ∀ {n : Nat} {x : PyData}, AlkB m n x → AlkB m (n + 1) x
  | 0, x, h => h.elim
  | n + 1, .list ds, h => ⟨h.1, fun y hy => AlkB.up (h.2 y hy)⟩
  | n + 1, .tuple ds, h => ⟨h.1, fun y hy => AlkB.up (h.2 y hy)⟩
  | n + 1, .dict _, h => h.elim
  | n + 1, .str z, h => h
  | n + 1, .none, _ => trivial
  | n + 1, .bool _, _ => trivial
  | n + 1, .int _, _ => trivial
theorem alkB_list {m n : Nat} {ds : List PyData} (hz : ds.length ≤ m) (h : ∀ y ∈ ds, AlkB m n y) : AlkB m (n + 1) (.list ds) := ⟨hz, h⟩
theorem alkB_tuple {m n : Nat} {ds : List PyData} (hz : ds.length ≤ m) (h : ∀ y ∈ ds, AlkB m n y) : AlkB m (n + 1) (.tuple ds) := ⟨hz, h⟩
/-- a chain's lists, no longer than m -/
structure Ch.small (m : Nat) (c : Ch) : Prop where
  m5 : 5 ≤ m
  ks : c.ks.length ≤ m
  kp : ∀ k ∈ c.ks, k.log.length ≤ m ∧ k.down.length ≤ m ∧ k.up.length ≤ m ∧ (∀ d ∈ k.log, d.ok) ∧ ∀ d ∈ k.down, d.ok
  co : ∀ l, c.co = some l → l.length ≤ m ∧ ∀ d ∈ l, d.ok
theorem Dd.ok.alkB {d : Dd} (h : d.ok) {m n : Nat} (hm : 5 ≤ m) : AlkB m (n + 2) d.e := alkB_tuple hm fun y hy => by
  simp only [List.mem_cons, List.not_mem_nil, or_false] at hy
  rcases hy with rfl | rfl | rfl | rfl | rfl
  · trivial
  · trivial
  · exact strOk_word h.word
  · exact strOk_key h.key
  · trivial
theorem alkB_dds {m n : Nat} {l : List Dd} (hm : 5 ≤ m) (h : ∀ d ∈ l, d.ok) (hz : l.length ≤ m) : AlkB m (n + 3) (.list (l.map Dd.e)) := alkB_list (by rw [List.length_map]; exact hz) fun y hy => by
  obtain ⟨d, hd, rfl⟩ := List.mem_map.mp hy
  exact (h d hd).alkB hm
theorem Ch.small.alkB {m : Nat} {c : Ch} (h : c.small m) : AlkB m 6 c.e := alkB_tuple (by have := h.m5; show 2 ≤ m; omega) fun y hy => by
  simp only [List.mem_cons, List.not_mem_nil, or_false] at hy
  rcases hy with rfl | rfl
  · refine alkB_list (by rw [List.length_map]; exact h.ks) fun y hy => ?_
    obtain ⟨k, hk, rfl⟩ := List.mem_map.mp hy
    obtain ⟨h1, h2, h3, h4, h5⟩ := h.kp k hk
    refine alkB_tuple (by have := h.m5; show 4 ≤ m; omega) fun y hy => ?_
    simp only [List.mem_cons, List.not_mem_nil, or_false] at hy
    rcases hy with rfl | rfl | rfl | rfl
    · exact alkB_dds h.m5 h4 h1
    · trivial
    · exact alkB_dds h.m5 h5 h2
    · refine alkB_list (by rw [List.length_map]; exact h3) fun y hy => ?_
      obtain ⟨d, hd, rfl⟩ := List.mem_map.mp hy
      trivial
  · cases e : c.co with
    | none => trivial
    | some l => exact alkB_dds h.m5 (h.co l e).2 (h.co l e).1
theorem Ch.small.ok {m : Nat} {c : Ch} (h : c.small m) (hm : m ≤ 1000) : c.ok :=
  ⟨Nat.le_trans h.ks hm, fun k hk => by
    obtain ⟨h1, h2, h3, h4, h5⟩ := h.kp k hk
    exact ⟨Nat.le_trans h1 hm, Nat.le_trans h2 hm, Nat.le_trans h3 hm, h4, h5⟩, fun l e => ⟨Nat.le_trans (h.co l e).1 hm, (h.co l e).2⟩⟩
theorem Ch.small.spoilt {m : Nat} {c : Ch} (h : c.small m) (hm : m < 1000) : Alk 7 (spoilD c.e) := (AlkB.spoil h.alkB).alk hm
def spSp (n : Nat) : Sp := fun vs H Q _ => ∃ v d f G, vs = [v] ∧ Ex G H ∧ Ro G H v d f ∧ f.Nodup ∧ (∀ a ∈ f, G a = none) ∧ Alk n d ∧
  ∀ G' H' f', Stp G (hOff f H) G' H' → Ro G' H' v (spoilD d) f' → f'.Nodup → (∀ a ∈ f', hOff f H a = none ∧ G' a = none) → Q .non H'
/-- a list or a tuple, as d is -/
def likeD : PyData → List PyData → PyData
  | .list _, ds => .list ds
  | _, ds => .tuple ds
/-- a list, a tuple that is one's own, seen by its things -/
theorem ro_parts {G H : Hp} {v : V} {d : PyData} {g : List Addr} {ds : List PyData} (r : Ro G H v d g) (hd : d = .list ds ∨ d = .tuple ds) :
    ∃ a vs hd f, v = .ref a ∧ g = hd ++ f ∧ (Rd H a (.lst vs) ∨ Rd G a (.tup vs)) ∧ Ros G H vs ds f ∧
      ∀ G' H' ds' f', Ex G G' → (∀ b ∈ hd, H' b = H b) → Ros G' H' vs ds' f' → Ro G' H' v (likeD d ds') (hd ++ f') := by
  rcases hd with rfl | rfl
  · cases r with
    | @lst a vs _ f h1 h2 => exact ⟨a, vs, [a], f, rfl, rfl, .inl (.inl h1), h2, fun G' H' ds' f' _ k r => .lst ((k a List.mem_cons_self).trans h1) r⟩
  · cases r with
    | @tup a vs _ f h1 h2 => exact ⟨a, vs, [], g, rfl, rfl, .inr h1, h2, fun G' H' ds' f' e _ r => .tup (e.rd h1) r⟩
theorem ros_split {G H : Hp} : ∀ {vs : List V} {ds : List PyData} {f : List Addr} {i : Nat} {d : PyData}, Ros G H vs ds f → ds[i]? = some d →
    ∃ v f1 f2 f3, vs[i]? = some v ∧ f = f1 ++ (f2 ++ f3) ∧ Ro G H v d f2 ∧
      ∀ G' H' d' f2', (∀ a xs, Rd G a (.tup xs) → Rd G' a (.tup xs)) → (∀ a ∈ f1 ++ f3, H' a = H a) → Ro G' H' v d' f2' → Ros G' H' vs (ds.set i d') (f1 ++ (f2' ++ f3))
  | _, [], _, i, _, h, e => by simp at e
  | _, d0 :: ds, _, 0, d, h, e => by
    cases h with
    | @cons v vs _ _ f g h1 h2 =>
      simp at e
      subst e
      exact ⟨v, [], f, g, rfl, rfl, h1, fun G' H' d' f2' e k r => show Ros G' H' _ _ (f2' ++ g) from .cons r (h2.fr e _ _ _ fun a ha => k a ha)⟩
  | _, d0 :: ds, _, i + 1, d, h, e => by
    cases h with
    | @cons v vs _ _ f g h1 h2 =>
      obtain ⟨w, f1, f2, f3, e1, rfl, r, up⟩ := ros_split (i := i) h2 (by simpa using e)
      refine ⟨w, f ++ f1, f2, f3, by simpa using e1, by rw [List.append_assoc], r, fun G' H' d' f2' e k r => ?_⟩
      rw [List.append_assoc]
      exact .cons (h1.fr e _ _ _ fun a ha => k a (by simp [ha])) (up G' H' d' f2' e (fun a ha => k a (by
        rcases List.mem_append.mp ha with z | z <;> simp [z])) r)
section
variable {K : PySem.W.Frag} {B : Bs} {nx bk ct : L2.St → Hp → Prop} {rt : VK} {v : V} {d : PyData} {ds : List PyData} {n : Nat} {E : XK}
theorem at_spoilFor (hd : d = .list ds ∨ d = .tuple ds) (hz : ds.length ≤ 1000) (ha : ∀ y ∈ ds, Alk n y) (q : At B [.ov v (likeD d (spoilDs ds)), .un] nx) :
    At B [.ov v d, .un] (tFor (iList K (tCB (rListV K) (tCons (tVar 0) tNil))) (gName 1) (tDrop (tCall (spSp n) [] E (tCons (tVar 1) tNil))) ⟨nx, rt, bk, ct⟩) := fun G σ H ok => by
  obtain ⟨F, k⟩ := ok
  obtain ⟨g, e1, r, nd, m⟩ := k.sl 0 _ rfl
  have ez : σ.length = 2 := k.len
  obtain ⟨a, vs, hd', f, rfl, rfl, hrd, rs, up⟩ := ro_parts r hd
  have hl := rs.len
  have hF : ∀ b ∈ f, b ∈ F 0 := fun b hb => m b (List.mem_append_right _ hb)
  have hgf : ∀ b ∈ f, G b = none := fun b hb => (k.fr 0 b (hF b hb)).2.1
  have nf : f.Nodup := (List.nodup_append.mp nd).2.1
  have mtf := rs.mt _ _ _
  have hsq : SqL K H a vs ∨ SqT K H a vs := by
    rcases hrd with z | z
    · exact .inl (rd_sql z)
    · exact .inr (rd_sqt (k.st.gh.rd z))
  refine ⟨.ref a, e1, a, vs, rfl, hsq, fun c hc => ⟨c, rfl, ⟨vs, rd_sql (.inl upd_same)⟩, ?_⟩⟩
  have hgc : G c = none := k.st.gh.no hc
  have nc : c ∉ f := fun z => by
    obtain ⟨o, ho⟩ := (mtf c z).some
    rw [hc] at ho; cases ho
  have st1 : Stp G H G (upd H c (.lst vs)) := Stp.newH k.st.gh hc
  have ex1 : Ex G (hOff f (upd H c (.lst vs))) := ex_hOff st1.gh hgf
  refine ⟨fun i mm σ2 H2 => mm = ds.length - i ∧ i ≤ ds.length ∧ σ2.length = 2 ∧ σ2[0]? = some (some (.ref a)) ∧ ∃ G2 f2, Stp G (hOff f (upd H c (.lst vs))) G2 H2 ∧ Ros G2 H2 vs (spoilDs (ds.take i) ++ ds.drop i) f2 ∧ f2.Nodup ∧ (∀ b ∈ f2, G2 b = none ∧ (upd H c (.lst vs) b = none ∨ b ∈ f)) ∧ c ∉ f2,
    ⟨ds.length, by simp, Nat.zero_le _, ez, e1, G, f, ⟨Ex.rfl' G, hOff_ex, st1.gh, fun _ _ _ h => h⟩, ?_, nf, fun b hb => ⟨hgf b hb, .inr hb⟩, nc⟩, ?_⟩
  · rw [List.take_zero, List.drop_zero]
    exact rs.fr (fun _ _ z => z) _ _ _ fun b hb => upd_ne fun z => nc (z ▸ hb)
  rintro i mm σ2 H2 ⟨rfl, hil, ez2, e2, G2, f2, st2, rs2, nd2, m2, nc2⟩
  have hc2 : H2 c = some (.lst vs) := st2.h c _ ((hOff_no nc).trans upd_same)
  by_cases hlt : i < ds.length
  · have hget : ds[i]? = some ds[i] := List.getElem?_eq_getElem hlt
    have hget2 : (spoilDs (ds.take i) ++ ds.drop i)[i]? = some ds[i] := by
      rw [List.getElem?_append_right (by rw [spoilDs_map, List.length_map, List.length_take]; omega), spoilDs_map, List.length_map, List.length_take, Nat.min_eq_left (Nat.le_of_lt hlt), Nat.sub_self, List.getElem?_drop, Nat.add_zero, hget]
    obtain ⟨w, f1, fi, f3, ew, rfl, ri, upi⟩ := ros_split rs2 hget2
    refine .inr ⟨⟨vs, w, rd_sql (.inl hc2), ew⟩, fun σ' H' => σ'.length = 2 ∧ σ'[0]? = some (some (.ref a)) ∧ ∃ G2 f2, Stp G (hOff f (upd H c (.lst vs))) G2 H' ∧ Ros G2 H' vs (spoilDs (ds.take (i + 1)) ++ ds.drop (i + 1)) f2 ∧ f2.Nodup ∧ (∀ b ∈ f2, G2 b = none ∧ (upd H c (.lst vs) b = none ∨ b ∈ f)) ∧ c ∉ f2,
      fun σ' H' h' => ⟨ds.length - (i + 1), by omega, rfl, hlt, h'⟩, fun x H' hy => ?_⟩
    obtain ⟨rfl, hy⟩ := hy
    have hx := hy vs (rd_sql (.inl hc2))
    rw [ew] at hx
    cases hx
    have nd2' := List.nodup_append.mp nd2
    have nd23 := List.nodup_append.mp nd2'.2.1
    have mti := ri.mt _ _ _
    have mt2 := rs2.mt _ _ _
    have hgi : ∀ b ∈ fi, G2 b = none := fun b hb => (m2 b (by simp [hb])).1
    refine ⟨_, List.getElem?_set_self (by omega), w, ds[i], fi, G2, rfl, st2.gh, ri, nd23.1, hgi, ha _ (List.getElem_mem hlt), fun G3 H3 fi' st3 ri3 ni3 mi3 => ?_⟩
    have off : ∀ b ∈ f1 ++ f3, H3 b = H' b := fun b hb => by
      have hbn : b ∉ fi := fun z => by
        rcases List.mem_append.mp hb with y | y
        · exact nd2'.2.2 b y b (List.mem_append_left _ z) rfl
        · exact nd23.2.2 b z b y rfl
      obtain ⟨o, ho⟩ := (mt2 b (by rcases List.mem_append.mp hb with y | y <;> simp [y])).some
      rw [st3.h b o ((hOff_no hbn).trans ho), ho]
    have rs3 := upi G3 H3 (spoilD ds[i]) fi' (exTup st3.g) off ri3
    have hset : (spoilDs (ds.take i) ++ ds.drop i).set i (spoilD ds[i]) = spoilDs (ds.take (i + 1)) ++ ds.drop (i + 1) := by
      have e3 : ds.drop i = ds[i] :: ds.drop (i + 1) := List.drop_eq_getElem_cons hlt
      have e4 : ds.take (i + 1) = ds.take i ++ [ds[i]] := by rw [List.take_add_one, hget]; rfl
      have e5 : (spoilDs (ds.take i)).length = i := by rw [spoilDs_map, List.length_map, List.length_take]; omega
      rw [e3, e4, spoilDs_map, spoilDs_map, List.map_append, List.append_assoc, List.set_append_right _ _ (by rw [List.length_map, List.length_take]; omega), List.length_map, List.length_take, Nat.min_eq_left (Nat.le_of_lt hlt), Nat.sub_self]
      rfl
    rw [hset] at rs3
    have fiOf : ∀ b ∈ fi', (upd H c (.lst vs) b = none ∨ b ∈ f) ∧ b ∉ f1 ∧ b ∉ f3 ∧ b ≠ c := fun b hb => by
      have h := (mi3 b hb).1
      by_cases hb2 : b ∈ fi
      · refine ⟨(m2 b (by simp [hb2])).2, fun z => nd2'.2.2 b z b (List.mem_append_left _ hb2) rfl, fun z => nd23.2.2 b hb2 b z rfl, fun z => nc2 (z ▸ by simp [hb2])⟩
      · rw [hOff_no hb2] at h
        have n2 : ∀ l : List Addr, (∀ x ∈ l, x ∈ f1 ++ (fi ++ f3)) → b ∉ l := fun l hl z => by
          obtain ⟨o, ho⟩ := (mt2 b (hl b z)).some
          rw [h] at ho; cases ho
        refine ⟨?_, n2 f1 fun x hx => by simp [hx], n2 f3 fun x hx => by simp [hx], fun z => by rw [z, hc2] at h; cases h⟩
        by_cases hbf : b ∈ f
        · exact .inr hbf
        · refine .inl ?_
          cases e9 : upd H c (.lst vs) b with
          | none => rfl
          | some o =>
            have := st2.h b o ((hOff_no hbf).trans e9)
            rw [h] at this; cases this
    refine ⟨by rw [List.length_set]; exact ez2, by rw [List.getElem?_set_ne (by decide)]; exact e2, G3, f1 ++ (fi' ++ f3), ?_, rs3, ?_, fun b hb => ?_, ?_⟩
    · refine Stp.tr ⟨st2.g, ?_, ?_, st2.nw⟩ st3
      · refine ex_hOff st2.h fun b hb => ?_
        rcases (m2 b (by simp [hb])).2 with z | z
        · by_cases hbf : b ∈ f
          · exact hOff_in hbf
          · rw [hOff_no hbf]; exact z
        · exact hOff_in z
      · exact ex_hOff st2.gh hgi
    · refine List.nodup_append.mpr ⟨nd2'.1, List.nodup_append.mpr ⟨ni3, nd23.2.1, fun b hb b' hb' z => (fiOf b hb).2.2.1 (z ▸ hb')⟩, fun b hb b' hb' z => ?_⟩
      subst z
      rcases List.mem_append.mp hb' with y | y
      · exact (fiOf b y).2.1 hb
      · exact nd2'.2.2 b hb b (List.mem_append_right _ y) rfl
    · have old : b ∈ f1 ++ f3 → G3 b = none ∧ (upd H c (.lst vs) b = none ∨ b ∈ f) := fun hb => by
        have hb2 : b ∈ f1 ++ (fi ++ f3) := by rcases List.mem_append.mp hb with y | y <;> simp [y]
        have hbn : b ∉ fi := fun z => by
          rcases List.mem_append.mp hb with y | y
          · exact nd2'.2.2 b y b (List.mem_append_left _ z) rfl
          · exact nd23.2.2 b z b y rfl
        obtain ⟨o, ho⟩ := (mt2 b hb2).some
        exact ⟨st3.nw b o ((hOff_no hbn).trans ho) (m2 b hb2).1, (m2 b hb2).2⟩
      rcases List.mem_append.mp hb with y | y
      · exact old (List.mem_append_left _ y)
      · rcases List.mem_append.mp y with y | y
        · exact ⟨(mi3 b y).2, (fiOf b y).1⟩
        · exact old (List.mem_append_right _ y)
    · intro z
      rcases List.mem_append.mp z with y | y
      · exact nc2 (by simp [y])
      · rcases List.mem_append.mp y with y | y
        · exact (fiOf c y).2.2.2 rfl
        · exact nc2 (by simp [y])
  · have e : i = ds.length := by omega
    subst e
    rw [List.take_length, List.drop_length, List.append_nil] at rs2
    refine .inl ⟨⟨vs, rd_sql (.inl hc2), by rw [hl]; exact Nat.le_refl _⟩, ?_⟩
    have hdn : ∀ b ∈ hd', b ∉ f := fun b hb z => (List.nodup_append.mp nd).2.2 b hb b z rfl
    have mtg := r.mt _ _ _
    have hnc : ∀ b ∈ hd', b ≠ c := fun b hb z => by
      obtain ⟨o, ho⟩ := (mtg b (List.mem_append_left _ hb)).some
      rw [z, hc] at ho; cases ho
    have hkeep : ∀ b ∈ hd', H2 b = H b := fun b hb => by
      obtain ⟨o, ho⟩ := (mtg b (List.mem_append_left _ hb)).some
      rw [st2.h b o ((hOff_no (hdn b hb)).trans ((upd_ne (hnc b hb)).trans ho)), ho]
    have r2 := up G2 H2 (spoilDs ds) f2 st2.g hkeep rs2
    have b0 : ∀ b ∈ f2, B.h0 b = none := fun b hb => by
      rcases (m2 b hb).2 with z | z
      · exact k.st.h.no (by
          by_cases hbc : b = c
          · rw [hbc]; exact hc
          · rw [upd_ne hbc] at z; exact z)
      · exact (k.fr 0 b (hF b z)).1
    have hbc0 : B.h0 c = none := k.st.h.no hc
    refine q G2 σ2 H2 ⟨fun j => if j = 0 then hd' ++ f2 else [], k.eb.tr st2.g, Stp.tr ⟨k.st.g, ?_, ex1, k.st.nw⟩ st2, ez2, fun j s ej => ?_, fun j b hb => ?_, fun j l b hne m1 mm2 => ?_⟩
    · exact ex_hOff (fun b o hb => by rw [upd_ne (ne_of_none hb hbc0)]; exact k.st.h b o hb) fun b hb => (k.fr 0 b (hF b hb)).1
    · match j, ej with
      | 0, ej =>
        cases ej
        rw [if_pos rfl]
        refine ⟨_, e2, r2, List.nodup_append.mpr ⟨(List.nodup_append.mp nd).1, nd2, fun b hb b' hb' z => ?_⟩, fun b hb => hb⟩
        subst z
        rcases (m2 b hb').2 with z | z
        · obtain ⟨o, ho⟩ := (mtg b (List.mem_append_left _ hb)).some
          rw [upd_ne (hnc b hb), ho] at z; cases z
        · exact hdn b hb z
      | 1, ej => cases ej; trivial
    · have hb' : b ∈ (if j = 0 then hd' ++ f2 else []) := hb
      split at hb'
      · rcases List.mem_append.mp hb' with y | y
        · have h := k.fr 0 b (m b (List.mem_append_left _ y))
          obtain ⟨o, ho⟩ := h.2.2.some
          exact ⟨h.1, st2.nw b o ((hOff_no (hdn b y)).trans ((upd_ne (hnc b y)).trans ho)) h.2.1, h.2.2.of (hkeep b y)⟩
        · exact ⟨b0 b y, (m2 b y).1, rs2.mt _ _ _ b y⟩
      · cases hb'
    · have h1 : b ∈ (if j = 0 then hd' ++ f2 else []) := m1
      have h2 : b ∈ (if l = 0 then hd' ++ f2 else []) := mm2
      split at h1
      · split at h2
        · rename_i x y; exact hne (x.trans y.symm)
        · cases h2
      · cases h1
end
end Ck
namespace Ck
open PySem PySem.Spec PyProof.Rows L2
section
variable {K : PySem.W.Frag} {B : Bs} {Γ Γ' : List Sl} {nx bk ct : L2.St → Hp → Prop} {rt : VK} {te : TE} {d : PyData} {ds : List PyData} {v : V} {i n : Nat} {S : List Nat} {E : XK}
theorem at_appendV (e : Γ[i]? = some (.ov v (.list ds))) (h : Ev te Γ d) (hd : noL d = true) (hz : ds.length < sizeLine) (hs : SetAt Γ i (.ov v (.list (ds ++ [d]))) Γ') (q : At B Γ' nx) : At B Γ (tDrop (tBM K "list" rAppend (tVar i) (tCons te tNil)) ⟨nx, rt, bk, ct⟩) := fun G σ H ok => by
  obtain ⟨F, k⟩ := ok
  obtain ⟨g, e1, r, nd, m⟩ := k.sl i _ e
  cases r with
  | @lst a vs _ f hh hr =>
    refine ⟨.ref a, e1, .inl ⟨rfl, _, .inl (.inl hh)⟩, ?_⟩
    refine h B G σ H ⟨F, k⟩ _ fun w G' H' s rw' => ?_
    have k' := k.step s
    have hh' := s.h _ _ hh
    have ma : a ∈ F i := m a List.mem_cons_self
    have na : ∀ b ∈ f, b ≠ a := fun b hb z => (List.nodup_cons.mp nd).1 (z ▸ hb)
    have mt := hr.mt _ _ _
    refine ⟨a, vs, w, rfl, rfl, hh', by rw [hr.len]; exact hz, ?_⟩
    have hr' : Ros G' (upd H' a (.lst (vs ++ [w]))) vs ds f := hr.fr (exTup s.g) _ _ _ fun b hb => by rw [upd_ne (na b hb)]; exact (mt b hb).ex s.h
    have hn : Ros G' (upd H' a (.lst (vs ++ [w]))) [w] [d] [] := Ros.cons (f := []) (g := []) (rw'.ro _ _ hd) .nil
    have hall := ros_app hr' hn
    rw [List.append_nil] at hall
    refine q G' σ _ (hs.eq ▸ ⟨F, k'.mut (fun b hb => upd_ne fun z => hb (z ▸ ma)) (fun b hb => ?_) ⟨a :: f, e1, .lst upd_same hall, nd, m⟩⟩)
    by_cases hb2 : b = a
    · subst hb2; exact .inl ⟨_, upd_same⟩
    · exact (k'.fr i b hb).2.2.of (upd_ne hb2)
theorem at_appendO (e : Γ[i]? = some (.ow (.list ds))) (h : EvM te Γ S d) (hi : i ∉ S) (hz : ds.length < sizeLine) (hs : SetAt (unS S Γ) i (.ow (.list (ds ++ [d]))) Γ') (q : At B Γ' nx) : At B Γ (tDrop (tBM K "list" rAppend (tVar i) (tCons te tNil)) ⟨nx, rt, bk, ct⟩) := fun G σ H ok => by
  obtain ⟨F, k⟩ := ok
  obtain ⟨v, g, e1, r, nd, m⟩ := k.sl i _ e
  cases r with
  | @lst a vs _ f hh hr =>
    refine ⟨.ref a, e1, .inl ⟨rfl, _, .inl (.inl hh)⟩, ?_⟩
    refine h B G σ H F k _ fun w fw G' H' s rw' ndw mw => ?_
    have k' := k.step s
    have k2 : OkF B G' σ H' (unS S Γ) (fS S F) := k.used k.st.gh k.st.h (fun _ _ _ _ => rfl) s
    have hh' := s.h _ _ hh
    have ma : a ∈ F i := m a List.mem_cons_self
    have na : ∀ b ∈ f, b ≠ a := fun b hb z => (List.nodup_cons.mp nd).1 (z ▸ hb)
    have mt := hr.mt _ _ _
    have mtw := rw'.mt _ _ _
    have cross : ∀ j, j ∉ S → ∀ b ∈ F j, b ∉ fw := fun j hj b hb z => by
      rcases (mw b z).2 with y | ⟨l, hl, ml⟩
      · obtain ⟨o, ho⟩ := (k.fr j b hb).2.2.some
        rw [y] at ho; cases ho
      · exact k.ap l j b (fun w => hj (w ▸ hl)) ml hb
    have naw : ∀ b ∈ fw, b ≠ a := fun b hb z => cross i hi a ma (z ▸ hb)
    refine ⟨a, vs, w, rfl, rfl, hh', by rw [hr.len]; exact hz, ?_⟩
    have hr' : Ros G' (upd H' a (.lst (vs ++ [w]))) vs ds f := hr.fr (exTup s.g) _ _ _ fun b hb => by rw [upd_ne (na b hb)]; exact (mt b hb).ex s.h
    have hn : Ros G' (upd H' a (.lst (vs ++ [w]))) [w] [d] (fw ++ []) := .cons (rw'.fr (fun _ _ z => z) _ _ _ fun b hb => upd_ne (naw b hb)) .nil
    rw [List.append_nil] at hn
    have hall := ros_app hr' hn
    refine q G' σ _ (hs.eq ▸ ⟨fun j => if j = i then a :: (f ++ fw) else fS S F j, k2.eb, ⟨k2.st.g, fun b u hb => ?_, fun b u hb => ?_, k2.st.nw⟩, by rw [List.length_set]; exact k2.len, fun j t et => ?_, fun j b hb => ?_, fun j l b hne m1 m2 => ?_⟩)
    · rw [upd_ne fun z => by subst z; rw [(k.fr i b ma).1] at hb; cases hb]
      exact k2.st.h b u hb
    · rw [upd_ne fun z => by subst z; rw [(k'.fr i b ma).2.1] at hb; cases hb]
      exact k2.st.gh b u hb
    · by_cases hj : i = j
      · subst hj
        have hil : i < (unS S Γ).length := by rw [unS_len]; exact (List.getElem?_eq_some_iff.mp e).1
        rw [List.getElem?_set_self hil] at et
        cases et
        rw [if_pos rfl]
        exact ⟨.ref a, a :: (f ++ fw), e1, .lst upd_same hall, List.nodup_cons.mpr ⟨fun z => (List.mem_append.mp z).elim (fun y => na a y rfl) fun y => naw a y rfl, List.nodup_append.mpr ⟨(List.nodup_cons.mp nd).2, ndw, fun b hb b' hb' z => cross i hi b (m b (List.mem_cons_of_mem _ hb)) (z ▸ hb')⟩⟩, fun b hb => hb⟩
      · rw [List.getElem?_set_ne hj] at et
        rw [if_neg (Ne.symm hj)]
        refine (k2.sl j t et).fr (Ex.rfl' _) fun b hb => upd_ne fun z => ?_
        obtain ⟨_, hF⟩ := fS_in hb
        exact k.ap i j a hj ma (z ▸ hF)
    · by_cases hj : j = i
      · rw [if_pos hj] at hb
        rcases List.mem_cons.mp hb with rfl | hb
        · exact ⟨(k'.fr i b ma).1, (k'.fr i b ma).2.1, .inl ⟨_, upd_same⟩⟩
        · rcases List.mem_append.mp hb with hb | hb
          · have h := k'.fr i b (m b (List.mem_cons_of_mem _ hb))
            exact ⟨h.1, h.2.1, h.2.2.of (upd_ne (na b hb))⟩
          · refine ⟨?_, (mw b hb).1, (mtw b hb).of (upd_ne (naw b hb))⟩
            rcases (mw b hb).2 with y | ⟨l, _, ml⟩
            · exact k.st.h.no y
            · exact (k.fr l b ml).1
      · rw [if_neg hj] at hb
        obtain ⟨h1, h2, h3⟩ := k2.fr j b hb
        refine ⟨h1, h2, h3.of (upd_ne fun z => ?_)⟩
        obtain ⟨_, hF⟩ := fS_in hb
        exact k.ap i j a (Ne.symm hj) ma (z ▸ hF)
    · have inI : ∀ {b : Addr}, b ∈ a :: (f ++ fw) → ∀ l, l ≠ i → b ∈ fS S F l → False := fun {b} hb l hl hbl => by
        obtain ⟨hS, hF⟩ := fS_in hbl
        rcases List.mem_cons.mp hb with rfl | hb
        · exact k.ap i l b (Ne.symm hl) ma hF
        · rcases List.mem_append.mp hb with hb | hb
          · exact k.ap i l b (Ne.symm hl) (m b (List.mem_cons_of_mem _ hb)) hF
          · exact cross l hS b hF hb
      by_cases hj : j = i
      · rw [if_pos hj] at m1
        have hl : l ≠ i := fun z => hne (hj.trans z.symm)
        rw [if_neg hl] at m2
        exact inI m1 l hl m2
      · rw [if_neg hj] at m1
        by_cases hl : l = i
        · rw [if_pos hl] at m2
          exact inI m2 j hj m1
        · rw [if_neg hl] at m2
          exact k2.ap j l b hne m1 m2
theorem at_spoilt (e : Γ[i]? = some (.ow d)) (hd : Alk n d) (hs : SetAt Γ i (.ow (spoilD d)) Γ') (q : At B Γ' nx) : At B Γ (tDrop (tCall (spSp n) [] E (tCons (tVar i) tNil)) ⟨nx, rt, bk, ct⟩) := fun G σ H ok => by
  obtain ⟨F, k⟩ := ok
  obtain ⟨v, g, e1, r, nd, m⟩ := k.sl i _ e
  refine ⟨v, e1, v, d, g, G, rfl, k.st.gh, r, nd, fun a ha => (k.fr i a (m a ha)).2.1, hd, fun G' H' f' st r' nd' m' => ?_⟩
  have hB : Ex B.h0 (hOff g H) := ex_hOff k.st.h fun a ha => (k.fr i a (m a ha)).1
  have out : ∀ j, j ≠ i → ∀ a ∈ F j, a ∉ g := fun j hj a ha z => k.ap i j a (Ne.symm hj) (m a z) ha
  have k2 : OkF B G' σ H' (unS [i] Γ) (fS [i] F) := k.used (ex_hOff k.st.gh fun a ha => (k.fr i a (m a ha)).2.1) hB (fun j hj a ha => hOff_no (out j (fun z => hj (by rw [z]; exact List.mem_singleton.mpr rfl)) a ha)) st
  have inO : ∀ {j b}, j ≠ i → b ∈ f' → b ∈ fS [i] F j → False := fun {j b} hj hb hbj => by
    obtain ⟨_, hF⟩ := fS_in hbj
    have := (m' b hb).1
    rw [hOff_no (out j hj b hF)] at this
    obtain ⟨o, ho⟩ := (k.fr j b hF).2.2.some
    rw [this] at ho; cases ho
  refine q G' σ H' (hs.eq ▸ ⟨fun j => if j = i then f' else fS [i] F j, k2.eb, k2.st, by rw [List.length_set]; exact k.len, fun j t et => ?_, fun j b hb => ?_, fun j l b hne m1 m2 => ?_⟩)
  · by_cases hj : i = j
    · subst hj
      rw [List.getElem?_set_self (List.getElem?_eq_some_iff.mp e).1] at et
      cases et
      rw [if_pos rfl]
      exact ⟨v, f', e1, r', nd', fun a ha => ha⟩
    · rw [List.getElem?_set_ne hj] at et
      rw [if_neg (Ne.symm hj)]
      exact k2.sl j t (by rw [unS_no [i] Γ j (fun z => hj (List.mem_singleton.mp z).symm)]; exact et)
  · by_cases hj : j = i
    · rw [if_pos hj] at hb
      exact ⟨hB.no (m' b hb).1, (m' b hb).2, r'.mt _ _ _ b hb⟩
    · rw [if_neg hj] at hb
      exact k2.fr j b hb
  · by_cases hj : j = i
    · rw [if_pos hj] at m1
      have hl : l ≠ i := fun z => hne (hj.trans z.symm)
      rw [if_neg hl] at m2
      exact inO hl m1 m2
    · rw [if_neg hj] at m1
      by_cases hl : l = i
      · rw [if_pos hl] at m2; exact inO hj m2 m1
      · rw [if_neg hl] at m2; exact k2.ap j l b hne m1 m2
end
abbrev RtS (B : Bs) (Q : VK) (v : V) (d : PyData) : Prop := ∀ G' H' f', Stp B.g0 B.h0 G' H' → Ro G' H' v (spoilD d) f' → f'.Nodup → (∀ a ∈ f', B.h0 a = none ∧ G' a = none) → Q .non H'
abbrev BodySp (N n : Nat) (t : TS) : Prop := ∀ (v : V) (d : PyData) (B : Bs) (Q : VK), Alk n d → RtS B Q v d → At B (.ov v d :: List.replicate (N - 1) .un) (t { nx := fun _ H' => Q .non H', rt := Q })
theorem mk0 {P : Program} {w : World} {K : PySem.W.Frag} {mg : Str → Option Value} {base : Heap} {x : Str} {st : Stmt} {ps : List Str} {sp : Sp} (h : Has K mg x st) (hb : BindsP x st ps) (no : ∀ vs H Q E, ¬ sp vs H Q E) : Def P w K mg base CX0 0 x ps sp := by
  obtain ⟨f, fd, F, g⟩ := h
  obtain ⟨oc, od, _, _, _, _, _, _, _, osl, _, lk, _⟩ := F.ex
  exact ⟨f, fd, g, F.kp, F.bindsN hb, ⟨fun vs H Q E z => (no _ _ _ _ z).elim, fun _ _ _ _ _ _ _ _ _ _ _ _ _ z => (no _ _ _ _ z).elim⟩, oc, od, osl, lk⟩
theorem mkSp {P : Program} {w : World} {K : PySem.W.Frag} {mg : Str → Option Value} {base : Heap} {x : Str} {st : Stmt} {N ps : List Str} {k n : Nat} (h : Has K mg x st) (hb : BindsP x st ps) (S : FnScope N ps (defScope st)) (hn : ps.length = 1)
    (hbody : ∀ (f : Addr) (cdv : Value) (A : Around) (outer : List Env) (s : Shared) (H : Hp) (E : XK), Room k (A.deeper (envOfC x (defScope st) s.heap.objs.size f cdv)) →
      ∃ t, PSs (cxOf CX0 P w K mg base N x (defScope st) f cdv A outer s H E).nox (defBody st) t ∧ BodySp N.length n t) : Def P w K mg base CX0 (k + 1) x ps (spSp n) :=
  mk_def h hb S (fun vs H Q E ⟨v, _, _, _, e, _⟩ => by rw [e, hn]; rfl) fun f cdv A outer s H vs Q E hr hsp => by
    obtain ⟨t, h1, h2⟩ := hbody f cdv A outer s H E hr
    obtain ⟨v, d, g, G, rfl, ex, r, nd, hg, hx, q⟩ := hsp
    refine ⟨t, h1.nox, h2 v d ⟨G, G, hOff g H⟩ Q hx q G _ H ⟨fun i => if i = 0 then g else [], Ex.rfl' G, ⟨Ex.rfl' G, hOff_ex, ex, fun _ _ _ h => h⟩, ?_, fun i s e => ?_, fun i a ha => ?_, fun i j a hne m1 m2 => ?_⟩⟩
    · unfold L2.start
      simp
    · cases i with
      | zero => cases e; exact ⟨g, rfl, r, nd, fun a ha => ha⟩
      | succ i =>
        have e' : (List.replicate (N.length - 1) Sl.un)[i]? = some s := by simpa using e
        have := List.mem_of_getElem? e'
        rw [List.mem_replicate] at this
        rw [this.2]; trivial
    · have ha' : a ∈ (if i = 0 then g else []) := ha
      split at ha'
      · exact ⟨hOff_in ha', hg a ha', r.mt _ _ _ a ha'⟩
      · cases ha'
    · have h1 : a ∈ (if i = 0 then g else []) := m1
      have h2 : a ∈ (if j = 0 then g else []) := m2
      split at h1
      · split at h2
        · rename_i x y; exact hne (x.trans y.symm)
        · cases h2
      · cases h1
theorem at_spEnd {B : Bs} {Γ : List Sl} {Q : VK} {v : V} {d d' : PyData} (q : RtS B Q v d') (e : spoilD d' = d) : At B (.ov v d :: Γ) (fun _ H' => Q .non H') := fun G σ H ok => by
  subst e
  obtain ⟨F, k⟩ := ok
  obtain ⟨g, e1, r, nd, m⟩ := k.sl 0 _ rfl
  exact q G H g k.st r nd fun a ha => ⟨(k.fr 0 a (m a ha)).1, (k.fr 0 a (m a ha)).2.1⟩
end Ck

namespace Ck
open PySem PySem.Spec PyProof.Rows L2

/-! ### the laws' drawn chains -/
def fallN (cells : List Int) (first : Int) : Nat → Int
  | 0 => first
  | n + 1 => max 0 (fallN cells first n - mixed (cells.getD n 0) (50 + n) % 4)
def fallL (cells : List Int) (first : Int) : List Int := (List.range (cells.length + 1)).map (fallN cells first)
theorem fallL_len (cells : List Int) (first : Int) : (fallL cells first).length = cells.length + 1 := by simp [fallL]
theorem fallL_get {cells : List Int} {first : Int} {k : Nat} (h : k ≤ cells.length) : (fallL cells first)[k]? = some (fallN cells first k) := by
  unfold fallL
  rw [List.getElem?_map, List.getElem?_range (by omega)]; rfl
theorem fallN_nn {cells : List Int} {first : Int} (h : 0 ≤ first) : ∀ n, 0 ≤ fallN cells first n
  | 0 => h
  | n + 1 => by unfold fallN; omega
theorem fallN_step {cells : List Int} {first : Int} (h : 0 ≤ first) (n : Nat) : fallN cells first (n + 1) ≤ fallN cells first n := by
  have h1 := fallN_nn (cells := cells) h n
  have h2 := Int.emod_nonneg (mixed (cells.getD n 0) (50 + n)) (show (4 : Int) ≠ 0 by decide)
  rw [fallN]
  omega
theorem fallN_le {cells : List Int} {first : Int} (h : 0 ≤ first) {m : Nat} : ∀ n, m ≤ n → fallN cells first n ≤ fallN cells first m
  | 0, hm => by
    have : m = 0 := by omega
    subst this; exact Int.le_refl _
  | n + 1, hm => by
    by_cases e : m = n + 1
    · subst e; exact Int.le_refl _
    · exact Int.le_trans (fallN_step h n) (fallN_le h n (by omega))
def R_falling (ds : List PyData) (d : PyData) : Prop := ∃ (cells : List Int) (first : Int), ds = [.list (cells.map .int), .int first] ∧ cells.length ≤ 1000 ∧ d = .list ((fallL cells first).map .int)
def upsS (n own : Int) : List Int := ((List.range (n % 3).toNat).map fun k : Nat => mixed n (60 + k) % (own + 1)).mergeSort (fun a b => decide (a ≤ b))
def upsL (n ahead own : Int) : List Int := upsS n own ++ (if ahead < own then [own] else [])
theorem upsS_perm (n own : Int) : (upsS n own).Perm ((List.range (n % 3).toNat).map fun k : Nat => mixed n (60 + k) % (own + 1)) := List.mergeSort_perm _ _
theorem upsS_sorted (n own : Int) : (upsS n own).Pairwise (· ≤ ·) := by
  have h := List.pairwise_mergeSort (le := fun a b : Int => decide (a ≤ b)) (fun a b c h1 h2 => by simp at *; omega) (fun a b => by simp; omega) ((List.range (n % 3).toNat).map fun k : Nat => mixed n (60 + k) % (own + 1))
  exact h.imp fun h => by simpa using h
theorem upsS_mem {n own x : Int} (h0 : 0 ≤ own) (h : x ∈ upsS n own) : 0 ≤ x ∧ x ≤ own := by
  have h' := (upsS_perm n own).mem_iff.mp h
  obtain ⟨k, _, rfl⟩ := List.mem_map.mp h'
  have h1 := Int.emod_nonneg (mixed n (60 + k)) (show own + 1 ≠ 0 by omega)
  have h2 := Int.emod_lt_of_pos (mixed n (60 + k)) (show 0 < own + 1 by omega)
  omega
theorem upsS_len (n own : Int) : (upsS n own).length ≤ 2 := by
  rw [(upsS_perm n own).length_eq, List.length_map, List.length_range]
  omega
theorem upsL_len (n ahead own : Int) : (upsL n ahead own).length ≤ 3 := by
  have := upsS_len n own
  unfold upsL
  rw [List.length_append]
  split <;> simp <;> omega
def R_ups (ds : List PyData) (o : Oc) : Prop := ∃ n ahead own : Int, ds = [.int n, .int ahead, .int own] ∧ 0 ≤ own ∧ o = .ok (.list ((upsL n ahead own).map .int))
def manyI (first : Int) : Nat := (if first / 5 % 6 = 1 then 1 + first / 30 % 9 else 1 + first % 5).toNat
theorem many_lo (first : Int) : 1 ≤ manyI first ∧ manyI first ≤ 9 := by
  unfold manyI
  split <;> omega
def sumAt (cells : List Int) (k : Nat) : Int := (cutG cells (some (k : Int)) (some ((k : Int) + 1))).sum
def moreL (cells : List Int) (first : Int) : List Int := (List.range (2 * manyI first)).map fun k : Nat => mixed first (70 + k) + sumAt cells k
def sizesC (cells : List Int) (first : Int) : List Int := cutG (moreL cells first) none (some ((manyI first : Int) - 1))
def suresC (cells : List Int) (first : Int) : List Int := cutG (moreL cells first) (some (manyI first : Int)) (some (2 * (manyI first : Int) - 1))
theorem moreL_len (cells : List Int) (first : Int) : (moreL cells first).length = 2 * manyI first := by simp [moreL]
theorem sizesC_len (cells : List Int) (first : Int) : (sizesC cells first).length = manyI first - 1 := by
  have h := many_lo first
  unfold sizesC
  rw [cutG_take (by omega) (by rw [moreL_len]; omega), List.length_take, moreL_len]
  omega
theorem suresC_len (cells : List Int) (first : Int) : (suresC cells first).length = manyI first - 1 := by
  have h := many_lo first
  unfold suresC
  rw [cutG_mid (by omega) (by omega), List.length_drop, List.length_take, moreL_len]
  omega
/-- how long the k-th log is; how many of it are sure -/
def sizeC (cells : List Int) (m : Nat) (first : Int) (k : Nat) : Int := fallN (sizesC cells first) m k
def lastC (cells : List Int) (m : Nat) (first : Int) : Int := sizeC cells m first (manyI first - 1)
def sureC (cells : List Int) (m : Nat) (first : Int) (k : Nat) : Int := fallN (suresC cells first) (lastC cells m first) (manyI first - 1 - k)
def sizesL (cells : List Int) (m : Nat) (first : Int) : List Int := fallL (sizesC cells first) m
def suresL (cells : List Int) (m : Nat) (first : Int) : List Int := (fallL (suresC cells first) (lastC cells m first)).reverse
theorem sizesL_len (cells : List Int) (m : Nat) (first : Int) : (sizesL cells m first).length = manyI first := by
  have h := many_lo first
  unfold sizesL
  rw [fallL_len, sizesC_len]; omega
theorem suresL_len (cells : List Int) (m : Nat) (first : Int) : (suresL cells m first).length = manyI first := by
  have h := many_lo first
  unfold suresL
  rw [List.length_reverse, fallL_len, suresC_len]; omega
theorem sizesL_get {cells : List Int} {m : Nat} {first : Int} {k : Nat} (h : k < manyI first) : (sizesL cells m first)[k]? = some (sizeC cells m first k) := fallL_get (by rw [sizesC_len]; omega)
theorem sizesL_last (cells : List Int) (m : Nat) (first : Int) : (sizesL cells m first).getLast? = some (lastC cells m first) := by
  have h := many_lo first
  rw [List.getLast?_eq_getElem?, sizesL_len]
  exact sizesL_get (by omega)
theorem suresL_get {cells : List Int} {m : Nat} {first : Int} {k : Nat} (h : k < manyI first) : (suresL cells m first)[k]? = some (sureC cells m first k) := by
  unfold suresL
  rw [List.getElem?_reverse (by rw [fallL_len, suresC_len]; omega), fallL_len, suresC_len, show manyI first - 1 + 1 - 1 - k = manyI first - 1 - k by omega]
  exact fallL_get (by rw [suresC_len]; omega)
theorem sizeC_nn (cells : List Int) (m : Nat) (first : Int) (k : Nat) : 0 ≤ sizeC cells m first k := fallN_nn (by omega) k
theorem sizeC_le {cells : List Int} {m : Nat} {first : Int} {j k : Nat} (h : j ≤ k) : sizeC cells m first k ≤ sizeC cells m first j := fallN_le (by omega) k h
theorem sizeC_m (cells : List Int) (m : Nat) (first : Int) (k : Nat) : sizeC cells m first k ≤ m := sizeC_le (j := 0) (Nat.zero_le k)
theorem lastC_nn (cells : List Int) (m : Nat) (first : Int) : 0 ≤ lastC cells m first := sizeC_nn _ _ _ _
theorem sureC_nn (cells : List Int) (m : Nat) (first : Int) (k : Nat) : 0 ≤ sureC cells m first k := fallN_nn (lastC_nn _ _ _) _
theorem sureC_le {cells : List Int} {m : Nat} {first : Int} {j k : Nat} (h : j ≤ k) : sureC cells m first j ≤ sureC cells m first k := fallN_le (lastC_nn _ _ _) _ (by omega)
theorem sureC_last {cells : List Int} {m : Nat} {first : Int} {k : Nat} (h : manyI first ≤ k + 1) : sureC cells m first k = lastC cells m first := by
  unfold sureC
  rw [show manyI first - 1 - k = 0 by omega]; rfl
def upC (cells : List Int) (m : Nat) (first : Int) (k : Nat) : List Int := if 0 < k then upsL ((moreL cells first).getD k 0 / 7 % 1000) (sureC cells m first (k - 1)) (sureC cells m first k) else []
def behindC (cells : List Int) (m : Nat) (first : Int) (k : Nat) : Int := if k + 1 < manyI first then sizeC cells m first (k + 1) else lastC cells m first
def kpC (cells : List Int) (l : List Dd) (first : Int) (k : Nat) : Kp :=
  ⟨cutG l none (some (sizeC cells l.length first k)), sureC cells l.length first k, cutG l (some (behindC cells l.length first k)) (some (sizeC cells l.length first k)), upC cells l.length first k⟩
def coC (cells : List Int) (l : List Dd) (first : Int) : Option (List Dd) :=
  if 0 < lastC cells l.length first ∧ manyI first < 9 ∧ first / 270 % 2 = 1 then some (cutG l none (some (first / 540 % lastC cells l.length first))) else none
def chainL (cells : List Int) (l : List Dd) (first : Int) : Ch := ⟨(List.range (manyI first)).map (kpC cells l first), coC cells l first⟩
theorem chainL_small {cells : List Int} {l : List Dd} {first : Int} (hz : l.length ≤ 300) (hok : ∀ d ∈ l, d.ok) : (chainL cells l first).small 300 := by
  refine ⟨by decide, ?_, fun k hk => ?_, fun l' e => ?_⟩
  · show ((List.range (manyI first)).map _).length ≤ _
    rw [List.length_map, List.length_range]
    have := many_lo first
    omega
  · obtain ⟨i, _, rfl⟩ := List.mem_map.mp hk
    refine ⟨Nat.le_trans (cutG_le _ _ _) hz, Nat.le_trans (cutG_le _ _ _) hz, ?_, fun d hd => hok d (cutG_mem hd), fun d hd => hok d (cutG_mem hd)⟩
    show (upC cells l.length first i).length ≤ 300
    unfold upC
    split
    · have := upsL_len ((moreL cells first).getD i 0 / 7 % 1000) (sureC cells l.length first (i - 1)) (sureC cells l.length first i)
      omega
    · simp
  · have e' : coC cells l first = some l' := e
    unfold coC at e'
    split at e'
    · cases e'
      exact ⟨Nat.le_trans (cutG_le _ _ _) hz, fun d hd => hok d (cutG_mem hd)⟩
    · cases e'
theorem chainL_ne (cells : List Int) (l : List Dd) (first : Int) : (chainL cells l first).ks ≠ [] := by
  have := many_lo first
  intro h
  have h2 := congrArg List.length h
  have h3 : ((List.range (manyI first)).map (kpC cells l first)).length = 0 := h2
  rw [List.length_map, List.length_range] at h3
  omega
def R_chain (ds : List PyData) (o : Oc) : Prop := ∃ (cells : List Int) (l : List Dd) (first : Int), ds = [.list (cells.map .int), .list (l.map Dd.e), .int first] ∧ l.length ≤ 500 ∧ 0 ≤ first ∧ first < 2000000 ∧ o = .ok (chainL cells l first).e
section
variable {K : PySem.W.Frag} {Γ : List Sl} {ta tb tc : TE} {E : XK}
theorem ev_falling {cells : List Int} {first : Int} (h1 : Ev ta Γ (.list (cells.map .int))) (h2 : Ev tb Γ (.int first)) (hz : cells.length ≤ 1000) : Ev (tCall (spP 2 R_falling) [] E (tCons ta (tCons tb tNil))) Γ (.list ((fallL cells first).map .int)) := ev_call (ea_cons h1 (ea_cons h2 ea_nil)) rfl ⟨cells, first, rfl, hz, rfl⟩
theorem em_ups {n ahead own : Int} (h1 : Ev ta Γ (.int n)) (h2 : Ev tb Γ (.int ahead)) (h3 : Ev tc Γ (.int own)) (h0 : 0 ≤ own) : EvM (tCall (spW WO K 3 R_ups) [] E (tCons ta (tCons tb (tCons tc tNil)))) Γ [] (.list ((upsL n ahead own).map .int)) := em_callW (ea_cons h1 (ea_cons h2 (ea_cons h3 ea_nil))) rfl ⟨n, ahead, own, rfl, h0, rfl⟩
theorem em_chain {cells : List Int} {l : List Dd} {first : Int} (h1 : Ev ta Γ (.list (cells.map .int))) (h2 : Ev tb Γ (.list (l.map Dd.e))) (h3 : Ev tc Γ (.int first)) (hz : l.length ≤ 500) (h0 : 0 ≤ first) (hm : first < 2000000) : EvM (tCall (spW WO K 3 R_chain) [] E (tCons ta (tCons tb (tCons tc tNil)))) Γ [] (chainL cells l first).e := em_callW (ea_cons h1 (ea_cons h2 (ea_cons h3 ea_nil))) rfl ⟨cells, l, first, rfl, hz, h0, hm, rfl⟩
theorem evN_is {te : TE} {ds ds' : List PyData} (h : EvN te Γ ds) (e : ds = ds') : EvN te Γ ds' := e ▸ h
theorem evN_rev {te : TE} {ds : List PyData} (h : Ev te Γ (.list ds)) : EvN (tRevL K te) Γ ds.reverse := fun B G σ H ok Q q => h B G σ H ok _ fun v G1 H1 s1 r1 => by
  cases r1 with
  | lst hd r => exact ⟨_, _, rfl, rd_sql (s1.gh.rd hd), fun p hp => q p _ G1 _ (s1.tr (Stp.newH s1.gh hp)) (s1.h.no hp) (s1.gh.no hp) upd_same r.rev⟩
end
/-- x is True, x a truth or a number -/
def rIsBU : R2 := fun x y H Q => rIsB x y H Q ∨ ∃ (i : Int) (b : Bool), x = .int i ∧ y = .bl b ∧ Q (.bl false) H
theorem op_isBU {X : Cx} : OpR X (compareOp .Is) rIsBU := by
  intro pins s σ H x y v u Q I rx ry h
  rcases h with h | ⟨i, b, rfl, rfl, q⟩
  · exact op_isBl pins s σ H x y v u Q I rx ry h
  · obtain ⟨t, rfl⟩ := rx
    cases (show u = Value.bool b from ry)
    exact wpAny_is_other rfl (fun z => by cases z) ⟨.bl false, H, I, rfl, q⟩
theorem rv_isBU {a b : Bool} : RvD rIsBU (.bool a) (.bool b) (.bool (decide (a = b))) := fun G H v u e rx ry Q q => .inl (rv_isB G H v u e rx ry Q q)
theorem rv_isBI {i : Int} {b : Bool} : RvD rIsBU (.int i) (.bool b) (.bool false) := fun G H v u e rx ry Q q => by
  cases rx; cases ry
  exact .inr ⟨i, b, rfl, rfl, q _ G H (Stp.rfl' e) (.bl _)⟩
/-- two ways that meet again -/
theorem at_ifJ {B : Bs} {Γ : List Sl} (Γ' : List Sl) {nx bk ct : L2.St → Hp → Prop} {rt : VK} {tt : TT} {t u : TS} {b : Bool} (h : EvT tt Γ b) (h1 : b = true → ∀ N : L2.St → Hp → Prop, At B Γ' N → At B Γ (t ⟨N, rt, bk, ct⟩)) (h2 : b = false → ∀ N : L2.St → Hp → Prop, At B Γ' N → At B Γ (u ⟨N, rt, bk, ct⟩)) (q : At B Γ' nx) : At B Γ (tIfS tt t u ⟨nx, rt, bk, ct⟩) :=
  at_if h (fun hb => h1 hb _ q) (fun hb => h2 hb _ q)
/-- if c: x = e, else as it was, one's own -/
theorem at_ifSetO {B : Bs} {Γ Γ' : List Sl} {nx bk ct : L2.St → Hp → Prop} {rt : VK} {tt : TT} {te : TE} {i : Nat} {b : Bool} {d1 d0 : PyData} (h : EvT tt Γ b) (he : b = true → EvM te Γ [] d1) (h0 : Γ[i]? = some (.ow d0)) (hs : SetAt Γ i (.ow (if b then d1 else d0)) Γ') (q : At B Γ' nx) : At B Γ (tIfS tt (tAsg te (gName i)) tNext ⟨nx, rt, bk, ct⟩) := by
  rw [← hs.eq] at q
  refine at_if h (fun hb => at_setO (he hb) ?_) (fun hb => at_next ?_)
  · rw [hb, if_pos rfl] at q; exact q
  · rw [hb, if_neg Bool.false_ne_true] at q
    have e : Γ.set i (.ow d0) = Γ := by
      obtain ⟨hl, hv⟩ := List.getElem?_eq_some_iff.mp h0
      rw [← hv]; exact List.set_getElem_self hl
    rw [e] at q; exact q
/-! the chain that is given -/
def keysG (ns : List Int) : List Str := keysS (mixed (cellAt ns 0) 1)
def deedsG (ns : List Int) : List Dd := if cellAt ns 1 % 7 = 1 then deedsL ((List.range 40).map fun k : Nat => mixed (cellAt ns 1) k) (keysG ns) else deedsL (cutG ns (some 12) (some 40)) (keysG ns)
def chainG (ns : List Int) : Ch := chainL (cutG ns (some 6) (some 12)) (deedsG ns) (mixed (cellAt ns 2) 2)
theorem keysG_ok (ns : List Int) : ∀ k ∈ keysG ns, isKeyS k = true := keys_ok _
theorem deedsG_ok (ns : List Int) : ∀ d ∈ deedsG ns, d.ok := by
  unfold deedsG
  split
  · exact deedsL_ok (keysG_ok ns) rfl
  · exact deedsL_ok (keysG_ok ns) rfl
theorem deedsG_len {ns : List Int} (h : ns.length ≤ 63) : (deedsG ns).length ≤ 40 := by
  unfold deedsG
  split
  · rw [deedsL_len]; simp
  · rw [deedsL_len, cutG_mid (by decide) (by decide), List.length_drop, List.length_take]
    show min 40 ns.length - 12 ≤ 40
    omega
theorem chainG_small {ns : List Int} (h : ns.length ≤ 63) : (chainG ns).small 300 := chainL_small (Nat.le_trans (deedsG_len h) (by decide)) (deedsG_ok ns)
theorem chainG_ne (ns : List Int) : (chainG ns).ks ≠ [] := chainL_ne _ _ _
def R_given (ds : List PyData) (o : Oc) : Prop := ∃ ns : List Int, ds = [scr ns] ∧ ns.length ≤ 63 ∧ o = .ok (chainG ns).e
section
variable {K : PySem.W.Frag} {Γ : List Sl} {ta tb tc : TE} {E : XK}
theorem em_given {ns : List Int} (h : Ev ta Γ (scr ns)) (h63 : ns.length ≤ 63) : EvM (tCall (spW WO K 1 R_given) [] E (tCons ta tNil)) Γ [] (chainG ns).e := em_callW (ea_cons h ea_nil) rfl ⟨ns, rfl, h63, rfl⟩
end
def R_law (ds : List PyData) (d : PyData) : Prop := ∃ ns : List Int, ds = [scr ns] ∧ ns.length ≤ 63 ∧ d = .bool true
end Ck

namespace Ck
open PySem PySem.Spec PyProof.Rows L2

/-! ### tests with an effect -/
def EvTP (tt : TT) (Γ Γ' : List Sl) (b : Bool) : Prop := ∀ (B : Bs) (G : Hp) (σ : L2.St) (H : Hp), Ok B G σ H Γ → ∀ Q : Bool → Hp → Prop, (∀ G' H', Ok B G' σ H' Γ' → Q b H') → tt σ H Q
section
variable {K : PySem.W.Frag} {B : Bs} {Γ Γ1 Γ' : List Sl} {nx bk ct : L2.St → Hp → Prop} {rt : VK} {te ta tb : TE} {t u : TS} {tt tu : TT} {b c : Bool} {i : Nat}
theorem etp_of (h : EvT tt Γ b) : EvTP tt Γ Γ b := fun B G σ H ok Q q => h B G σ H ok Q fun G' H' s => q G' H' (ok.step s)
theorem etp_wk (h : EvTP tt Γ Γ1 b) (w : Wk Γ' Γ1) : EvTP tt Γ Γ' b := fun B G σ H ok Q q => h B G σ H ok Q fun G' H' ok' => q G' H' (ok'.weak w.len w.get)
theorem etp_test (h : EvP te Γ Γ' (.bool b)) : EvTP (tTest te) Γ Γ' b := fun B G σ H ok Q q => h B G σ H ok _ fun v G' H' _ ok' r => by cases r; exact ⟨b, rfl, q G' H' ok'⟩
theorem etp_not (h : EvTP tt Γ Γ' b) : EvTP (tNot tt) Γ Γ' (!b) := fun B G σ H ok Q q => h B G σ H ok _ q
theorem etp_is (h : EvTP tt Γ Γ' b) (e : b = c) : EvTP tt Γ Γ' c := e ▸ h
theorem etp_and (h1 : EvTP tt Γ Γ1 true) (h2 : EvTP tu Γ1 Γ' c) : EvTP (tAnd tt tu) Γ Γ' c := fun B G σ H ok Q q => h1 B G σ H ok _ fun G1 H1 ok1 => h2 B G1 σ H1 ok1 Q q
theorem etp_andF (h1 : EvTP tt Γ Γ' false) : EvTP (tAnd tt tu) Γ Γ' false := fun B G σ H ok Q q => h1 B G σ H ok _ fun G1 H1 ok1 => q G1 H1 ok1
theorem etp_or (h1 : EvTP tt Γ Γ1 false) (h2 : EvTP tu Γ1 Γ' c) : EvTP (tOr tt tu) Γ Γ' c := fun B G σ H ok Q q => h1 B G σ H ok _ fun G1 H1 ok1 => h2 B G1 σ H1 ok1 Q q
theorem etp_orT (h1 : EvTP tt Γ Γ' true) : EvTP (tOr tt tu) Γ Γ' true := fun B G σ H ok Q q => h1 B G σ H ok _ fun G1 H1 ok1 => q G1 H1 ok1
theorem at_ifP (h : EvTP tt Γ Γ' b) (h1 : b = true → At B Γ' (t ⟨nx, rt, bk, ct⟩)) (h2 : b = false → At B Γ' (u ⟨nx, rt, bk, ct⟩)) : At B Γ (tIfS tt t u ⟨nx, rt, bk, ct⟩) := fun G σ H ok => h B G σ H ok _ fun G' H' ok' => by
  cases b with
  | true => rw [if_pos rfl]; exact h1 rfl G' σ H' ok'
  | false => rw [if_neg Bool.false_ne_true]; exact h2 rfl G' σ H' ok'
theorem evp_andV (h1 : Ev ta Γ (.bool true)) (h2 : EvP tb Γ Γ' (.bool c)) : EvP (tAndV ta tb) Γ Γ' (.bool c) := fun B G σ H ok Q q => h1 B G σ H ok _ fun v G1 H1 s1 r1 => by
  cases r1
  exact ⟨true, rfl, h2 B G1 σ H1 (ok.step s1) Q fun w G2 H2 e2 ok2 r2 => q w G2 H2 (s1.g.tr e2) ok2 r2⟩
end
def toldD : Oc → PyData
  | .ok d => d
  | .error c => .str c
/-- what is found and what is due are each one's own, and alike, when each list of theirs gets a thing more, too; g: the chain that is given -/
def R_afterC (g : List Int → Ch) (ss : List Sl) (o : Oc) : Prop := ∃ (x : PyData) (ns : List Int), ss = [.ow x, .ow x, .d (g ns).e, .d (scr ns)] ∧ ns.length ≤ 63 ∧ Alk 6 x ∧ Alk 7 (spoilD x) ∧ Alk 6 (g ns).e ∧ o = .ok (.bool true)
section
variable {K : PySem.W.Frag} {Γ : List Sl} {ta tb tc td : TE} {E : XK} {S1 S2 : List Nat} {g : List Int → Ch}
theorem evp_after {x : PyData} {ns : List Int} (h1 : EvM ta Γ S1 x) (h2 : EvM tb Γ S2 x) (h3 : Ev tc Γ (g ns).e) (h4 : Ev td Γ (scr ns)) (hd : ∀ i ∈ S1, i ∉ S2) (h63 : ns.length ≤ 63) (h6 : Alk 6 x) (h7 : Alk 7 (spoilD x)) (hg : Alk 6 (g ns).e) :
    EvP (tCall (spG WD K 4 (R_afterC g)) [] E (tCons ta (tCons tb (tCons tc (tCons td tNil))))) Γ (unS (S1 ++ (S2 ++ [])) Γ) (.bool true) :=
  evp_callG (es_cons (e1_m h1) (es_cons (e1_m h2) (es_d h3 (es_d h4 es_nil)) (fun _ _ z => by cases z)) (fun i hi z => by rw [List.append_nil] at z; exact hd i hi z)) rfl ⟨x, ns, rfl, h63, h6, h7, hg, rfl⟩
end
end Ck

namespace Ck
open PySem PySem.Spec PyProof.Rows L2

/-! ### falling out -/
theorem cutG_from {α : Type} (xs : List α) (n : Nat) : cutG xs (some (n : Int)) none = xs.drop n := by
  unfold cutG
  rw [HT.sIx_none, HT.sIx_nat]
  by_cases h : n ≤ xs.length
  · rw [Nat.min_eq_left h]
    exact List.take_of_length_le (by rw [List.length_drop]; exact Nat.le_refl _)
  · rw [Nat.min_eq_right (by omega), List.drop_of_length_le (Nat.le_refl _), List.drop_of_length_le (by omega)]
    simp
theorem cutG_to {α : Type} (xs : List α) (n : Nat) : cutG xs none (some (n : Int)) = xs.take n := by
  unfold cutG
  rw [HT.sIx_none, HT.sIx_nat, List.drop_zero, Nat.sub_zero]
  by_cases h : n ≤ xs.length
  · rw [Nat.min_eq_left h]
  · rw [Nat.min_eq_right (by omega), List.take_of_length_le (Nat.le_refl _), List.take_of_length_le (by omega)]
def joinA (a b : Kp) : Kp := ⟨a.log, a.sure, a.log.drop b.log.length, a.up⟩
def joinB (b : Kp) : Kp := ⟨b.log, b.sure, b.down, [b.sure]⟩
def noUp (b : Kp) : Kp := ⟨b.log, b.sure, b.down, []⟩
def lastK (k : Kp) (first : Bool) : Kp := ⟨k.log, k.log.length, [], if first then k.up else k.up ++ [(k.log.length : Int)]⟩
def leftK (ks : List Kp) (p : Nat) : List Kp := ks.take p ++ ks.drop (p + 1)
def fallK (ks : List Kp) (p : Nat) : List Kp :=
  if p = 0 then (leftK ks p).set 0 (noUp (kAt ks 1))
  else if p + 1 = ks.length then (leftK ks p).set (p - 1) (lastK (kAt ks (p - 1)) (decide (p = 1)))
  else ((leftK ks p).set (p - 1) (joinA (kAt ks (p - 1)) (kAt ks (p + 1)))).set p (joinB (kAt ks (p + 1)))
def fallO (c : Ch) (p : Int) : Oc :=
  if p = c.ks.length ∧ c.co.isSome then .ok (Ch.mk c.ks none).e
  else if p < 0 ∨ c.ks.length ≤ p then .error "NoKeeper"
  else if c.ks.length = 1 then .error "OnlyKeeper"
  else .ok (Ch.mk (fallK c.ks p.toNat) c.co).e
def R_fall (ds : List PyData) (o : Oc) : Prop := ∃ (c : Ch) (p : Int), ds = [c.e, .int p] ∧ c.ok ∧ o = fallO c p
def R_joined (ds : List PyData) (d : PyData) : Prop := ∃ a b : Kp, ds = [a.e, b.e] ∧ d = .list [(joinA a b).e, (joinB b).e]
def R_made_last (ds : List PyData) (d : PyData) : Prop := ∃ (k : Kp) (b : Bool), ds = [k.e, .bool b] ∧ k.ok ∧ d = (lastK k b).e
theorem fallO_err {c : Ch} {p : Int} {x : Str} (h : fallO c p = .error x) : x = "NoKeeper" ∨ x = "OnlyKeeper" := by
  unfold fallO at h
  split at h
  · cases h
  · split at h
    · cases h; exact .inl rfl
    · split at h
      · cases h; exact .inr rfl
      · cases h
theorem leftK_len {ks : List Kp} {p : Nat} (h : p < ks.length) : (leftK ks p).length = ks.length - 1 := by
  unfold leftK
  rw [List.length_append, List.length_take, List.length_drop]
  omega
theorem leftK_lo {ks : List Kp} {p i : Nat} (h : i < p) (hp : p < ks.length) : (leftK ks p)[i]? = some (kAt ks i) := by
  unfold leftK kAt
  rw [List.getElem?_append_left (by rw [List.length_take]; omega), List.getElem?_take_of_lt h, List.getD_eq_getElem?_getD, List.getElem?_eq_getElem (by omega)]; rfl
theorem leftK_hi {ks : List Kp} {p i : Nat} (h : p ≤ i) (hi : i + 1 < ks.length) : (leftK ks p)[i]? = some (kAt ks (i + 1)) := by
  unfold leftK kAt
  rw [List.getElem?_append_right (by rw [List.length_take]; omega), List.length_take, Nat.min_eq_left (by omega), List.getElem?_drop, show p + 1 + (i - p) = i + 1 by omega, List.getD_eq_getElem?_getD, List.getElem?_eq_getElem hi]; rfl
theorem leftK_mem {ks : List Kp} {p : Nat} {k : Kp} (h : k ∈ leftK ks p) : k ∈ ks := by
  unfold leftK at h
  rcases List.mem_append.mp h with h | h
  · exact List.mem_of_mem_take h
  · exact List.mem_of_mem_drop h
structure KpS (m : Nat) (k : Kp) : Prop where
  ll : k.log.length ≤ m
  ld : k.down.length ≤ m
  lu : k.up.length ≤ m
  dl : ∀ d ∈ k.log, d.ok
  dd : ∀ d ∈ k.down, d.ok
theorem Ch.small.kps {m : Nat} {c : Ch} (h : c.small m) {k : Kp} (hk : k ∈ c.ks) : KpS m k := by
  obtain ⟨h1, h2, h3, h4, h5⟩ := h.kp k hk
  exact ⟨h1, h2, h3, h4, h5⟩
theorem KpS.up {m : Nat} {k : Kp} (h : KpS m k) : KpS (m + 1) k := ⟨Nat.le_succ_of_le h.ll, Nat.le_succ_of_le h.ld, Nat.le_succ_of_le h.lu, h.dl, h.dd⟩
theorem small_of {m : Nat} {c : Ch} (h5 : 5 ≤ m) (hl : c.ks.length ≤ m) (hk : ∀ k ∈ c.ks, KpS m k) (hc : ∀ l, c.co = some l → l.length ≤ m ∧ ∀ d ∈ l, d.ok) : c.small m :=
  ⟨h5, hl, fun k h => ⟨(hk k h).ll, (hk k h).ld, (hk k h).lu, (hk k h).dl, (hk k h).dd⟩, hc⟩
theorem joinA_s {m : Nat} {a b : Kp} (h : KpS m a) : KpS m (joinA a b) := ⟨h.ll, by show (a.log.drop _).length ≤ m; rw [List.length_drop]; have := h.ll; omega, h.lu, h.dl, fun d hd => h.dl d (List.mem_of_mem_drop hd)⟩
theorem joinB_s {m : Nat} {b : Kp} (h : KpS m b) (hm : 1 ≤ m) : KpS m (joinB b) := ⟨h.ll, h.ld, hm, h.dl, h.dd⟩
theorem noUp_s {m : Nat} {b : Kp} (h : KpS m b) : KpS m (noUp b) := ⟨h.ll, h.ld, Nat.zero_le _, h.dl, h.dd⟩
theorem lastK_s {m : Nat} {b : Kp} {f : Bool} (h : KpS m b) : KpS (m + 1) (lastK b f) := ⟨Nat.le_succ_of_le h.ll, Nat.zero_le _, by
  show (if f then b.up else b.up ++ [(b.log.length : Int)]).length ≤ m + 1
  have := h.lu
  split
  · omega
  · rw [List.length_append]; exact Nat.succ_le_succ this, h.dl, fun d hd => by cases hd⟩
theorem kAt_s {m : Nat} {ks : List Kp} (h : ∀ k ∈ ks, KpS m k) {i : Nat} : KpS m (kAt ks i) := by
  by_cases hi : i < ks.length
  · exact h _ (kAt_mem hi)
  · unfold kAt
    rw [List.getD_eq_getElem?_getD, List.getElem?_eq_none (by omega)]
    exact ⟨Nat.zero_le _, Nat.zero_le _, Nat.zero_le _, fun d hd => (by cases hd), fun d hd => (by cases hd)⟩
theorem fallK_s {m : Nat} {ks : List Kp} (h : ∀ k ∈ ks, KpS m k) (hm : 1 ≤ m) (p : Nat) : ∀ k ∈ fallK ks p, KpS (m + 1) k := fun k hk => by
  have hl : ∀ k ∈ leftK ks p, KpS (m + 1) k := fun k hk => (h k (leftK_mem hk)).up
  unfold fallK at hk
  split at hk
  · rcases List.mem_or_eq_of_mem_set hk with hk | rfl
    · exact hl k hk
    · exact (noUp_s (kAt_s h)).up
  · split at hk
    · rcases List.mem_or_eq_of_mem_set hk with hk | rfl
      · exact hl k hk
      · exact lastK_s (kAt_s h)
    · rcases List.mem_or_eq_of_mem_set hk with hk | rfl
      · rcases List.mem_or_eq_of_mem_set hk with hk | rfl
        · exact hl k hk
        · exact (joinA_s (kAt_s h)).up
      · exact (joinB_s (kAt_s h) hm).up
theorem fallK_len {ks : List Kp} {p : Nat} (h : p < ks.length) : (fallK ks p).length = ks.length - 1 := by
  unfold fallK
  split
  · rw [List.length_set, leftK_len h]
  · split
    · rw [List.length_set, leftK_len h]
    · rw [List.length_set, List.length_set, leftK_len h]
/-- what comes of it, a chain or a refusal -/
theorem fallO_cases {m : Nat} {c : Ch} (hs : c.small m) (p : Int) : (∃ x, fallO c p = .error x) ∨ ∃ c' : Ch, fallO c p = .ok c'.e ∧ c'.small (m + 1) := by
  have h5 := hs.m5
  have hk : ∀ k ∈ c.ks, KpS m k := fun k hk => hs.kps hk
  have hc : ∀ l, c.co = some l → l.length ≤ m + 1 ∧ ∀ d ∈ l, d.ok := fun l e => ⟨Nat.le_succ_of_le (hs.co l e).1, (hs.co l e).2⟩
  unfold fallO
  split
  · exact .inr ⟨_, rfl, small_of (by omega) (Nat.le_succ_of_le hs.ks) (fun k h => (hk k h).up) fun l e => by cases e⟩
  · split
    · exact .inl ⟨_, rfl⟩
    · split
      · exact .inl ⟨_, rfl⟩
      · rename_i h1 h2 h3
        exact .inr ⟨_, rfl, small_of (by omega) (by show (fallK c.ks p.toNat).length ≤ _; rw [fallK_len (by omega)]; have := hs.ks; omega) (fallK_s hk (by omega) _) hc⟩
section
variable {K : PySem.W.Frag} {Γ : List Sl} {ta tb tc : TE} {E : XK}
theorem ev_joined {a b : Kp} (h1 : Ev ta Γ a.e) (h2 : Ev tb Γ b.e) : Ev (tCall (spP 2 R_joined) [] E (tCons ta (tCons tb tNil))) Γ (.list [(joinA a b).e, (joinB b).e]) := ev_call (ea_cons h1 (ea_cons h2 ea_nil)) rfl ⟨a, b, rfl, rfl⟩
theorem ev_made_last {k : Kp} {b : Bool} (h1 : Ev ta Γ k.e) (h2 : Ev tb Γ (.bool b)) (hk : k.ok) : Ev (tCall (spP 2 R_made_last) [] E (tCons ta (tCons tb tNil))) Γ (lastK k b).e := ev_call (ea_cons h1 (ea_cons h2 ea_nil)) rfl ⟨k, b, rfl, hk, rfl⟩
end
theorem Kp.ok.shp {k : Kp} (h : k.ok) : Shp 3 k.e := shp_tuple (n := 2) fun x hx => by
  simp only [List.mem_cons, List.not_mem_nil, or_false] at hx
  rcases hx with rfl | rfl | rfl | rfl
  · exact shp_ddl h.dl
  · exact shp_int
  · exact shp_ddl h.dd
  · exact shp_il.mono (by decide)
theorem shp_kps {ks : List Kp} (h : ∀ k ∈ ks, k.ok) : Shp 4 (.list (ks.map Kp.e)) := shp_list (n := 3) fun x hx => by
  obtain ⟨k, hk, rfl⟩ := List.mem_map.mp hx
  exact (h k hk).shp
theorem put_self {a : Addr} {xs ys : List TD} : (TD.lst a xs).put a ys = .lst a ys := by rw [TD.put, if_pos rfl]
theorem put_dat {a : Addr} {ys : List TD} {x : PyData} : (TD.dat x).put a ys = .dat x := by rw [TD.put]
/-! things by their places -/
theorem ts_get {ts : List TD} {ks : List Kp} (e : TD.ers ts = ks.map Kp.e) (h : TD.sls ts = true) {i : Nat} {k : Kp} (hk : ks[i]? = some k) : ∃ t, ts[i]? = some t ∧ t.er = k.e ∧ t.sl = true := by
  induction ts generalizing ks i with
  | nil =>
    cases ks with
    | nil => simp at hk
    | cons _ _ => rw [TD.ers] at e; cases e
  | cons t ts ih =>
    cases ks with
    | nil => rw [TD.ers] at e; cases e
    | cons k0 ks =>
      rw [TD.ers, List.map_cons] at e
      rw [TD.sls, Bool.and_eq_true] at h
      cases i with
      | zero =>
        simp at hk
        subst hk
        exact ⟨t, by simp, (List.cons.inj e).1, h.1⟩
      | succ i =>
        obtain ⟨u, h1, h2⟩ := ih (List.cons.inj e).2 h.2 (by simpa using hk)
        exact ⟨u, by simpa using h1, h2⟩
theorem ads_sub {ts : List TD} {i : Nat} {t : TD} (h : ts[i]? = some t) {a : Addr} (ha : a ∈ t.ad) : a ∈ TD.ads ts := mem_ads.mpr ⟨t, List.mem_of_getElem? h, ha⟩
theorem ads_nd {ts : List TD} (h : (TD.ads ts).Nodup) {i : Nat} {t : TD} (hi : ts[i]? = some t) : t.ad.Nodup := by
  induction ts generalizing i with
  | nil => simp at hi
  | cons u ts ih =>
    rw [TD.ads, List.nodup_append] at h
    cases i with
    | zero => simp at hi; subst hi; exact h.1
    | succ i => exact ih h.2.1 (by simpa using hi)
theorem ads_apart {ts : List TD} (h : (TD.ads ts).Nodup) {i j : Nat} (hij : i ≠ j) {t u : TD} (hi : ts[i]? = some t) (hj : ts[j]? = some u) {a : Addr} (ha : a ∈ t.ad) (hb : a ∈ u.ad) : False := by
  induction ts generalizing i j with
  | nil => simp at hi
  | cons x ts ih =>
    rw [TD.ads, List.nodup_append] at h
    cases i with
    | zero =>
      simp at hi; subst hi
      cases j with
      | zero => exact hij rfl
      | succ j => exact h.2.2 a ha a (ads_sub (i := j) (by simpa using hj) hb) rfl
    | succ i =>
      cases j with
      | zero =>
        simp at hj; subst hj
        exact h.2.2 a hb a (ads_sub (i := i) (by simpa using hi) ha) rfl
      | succ j => exact ih h.2.1 (fun z => hij (congrArg _ z)) (by simpa using hi) (by simpa using hj)
theorem ads_set_nd {ts : List TD} (h : (TD.ads ts).Nodup) {j : Nat} {y x : TD} (hj : ts[j]? = some y) (hx : x.ad.Nodup) (hn : ∀ a ∈ x.ad, a ∈ y.ad ∨ a ∉ TD.ads ts) : (TD.ads (ts.set j x)).Nodup := by
  induction ts generalizing j with
  | nil => simp at hj
  | cons u ts ih =>
    have h' := h
    rw [TD.ads, List.nodup_append] at h'
    cases j with
    | zero =>
      simp at hj; subst hj
      rw [List.set_cons_zero, TD.ads, List.nodup_append]
      refine ⟨hx, h'.2.1, fun a ha b hb z => ?_⟩
      subst z
      rcases hn a ha with w | w
      · exact h'.2.2 a w a hb rfl
      · exact w (by rw [TD.ads]; exact List.mem_append_right _ hb)
    | succ j =>
      have hj' : ts[j]? = some y := by simpa using hj
      rw [List.set_cons_succ, TD.ads, List.nodup_append]
      refine ⟨h'.1, ih h'.2.1 hj' (fun a ha => (hn a ha).imp id fun w z => w (by rw [TD.ads]; exact List.mem_append_right _ z)), fun a ha b hb z => ?_⟩
      subst z
      rcases mem_ads_set hb with w | w
      · exact h'.2.2 a ha a w rfl
      · rcases hn a w with w | w
        · exact h'.2.2 a ha a (ads_sub hj' w) rfl
        · exact w (by rw [TD.ads]; exact List.mem_append_left _ ha)
theorem ers_set {ts : List TD} {j : Nat} {x : TD} : TD.ers (ts.set j x) = (TD.ers ts).set j x.er := by
  rw [ers_map, ers_map, List.map_set]
theorem ers_app {ts us : List TD} : TD.ers (ts ++ us) = TD.ers ts ++ TD.ers us := by
  rw [ers_map, ers_map, ers_map, List.map_append]
theorem ers_take {ts : List TD} {n : Nat} : TD.ers (ts.take n) = (TD.ers ts).take n := by
  rw [ers_map, ers_map, List.map_take]
theorem ers_drop {ts : List TD} {n : Nat} : TD.ers (ts.drop n) = (TD.ers ts).drop n := by
  rw [ers_map, ers_map, List.map_drop]
theorem ers_len (ts : List TD) : (TD.ers ts).length = ts.length := by rw [ers_map, List.length_map]
theorem sls_app {ts us : List TD} : TD.sls (ts ++ us) = (TD.sls ts && TD.sls us) := by
  induction ts with
  | nil => rfl
  | cons t ts ih => rw [List.cons_append, TD.sls, TD.sls, ih, Bool.and_assoc]
theorem sls_all {ts : List TD} : TD.sls ts = true ↔ ∀ t ∈ ts, t.sl = true := by
  induction ts with
  | nil => simp [TD.sls]
  | cons t ts ih => rw [TD.sls, Bool.and_eq_true, ih]; simp
theorem sls_sub {ts us : List TD} (h : TD.sls ts = true) (hs : ∀ t ∈ us, t ∈ ts) : TD.sls us = true := sls_all.mpr fun t ht => sls_all.mp h t (hs t ht)
/-- one left out -/
theorem ads_left_nd {ts : List TD} (h : (TD.ads ts).Nodup) (p : Nat) : (TD.ads (ts.take p ++ ts.drop (p + 1))).Nodup := by
  rw [ads_app, List.nodup_append]
  have e : ts = ts.take p ++ ts.drop p := (List.take_append_drop p ts).symm
  have h2 := h
  rw [e, ads_app, List.nodup_append] at h2
  have sub : ∀ a ∈ TD.ads (ts.drop (p + 1)), a ∈ TD.ads (ts.drop p) := fun a ha => by
    obtain ⟨t, ht, hta⟩ := mem_ads.mp ha
    refine mem_ads.mpr ⟨t, ?_, hta⟩
    rw [← List.drop_drop] at ht
    exact List.mem_of_mem_drop ht
  refine ⟨h2.1, ?_, fun a ha b hb z => h2.2.2 a ha b (sub b hb) z⟩
  cases e2 : ts.drop p with
  | nil =>
    have : ts.drop (p + 1) = [] := by rw [← List.drop_drop, e2]; rfl
    rw [this]; exact List.nodup_nil
  | cons t r =>
    have : ts.drop (p + 1) = r := by rw [← List.drop_drop, e2]; rfl
    rw [this]
    have h3 := h2.2.1
    rw [e2, TD.ads, List.nodup_append] at h3
    exact h3.2.1
/-- a keeper's parts -/
structure KpT (t : TD) (k : Kp) (l : Addr) (tl : List TD) (dn : Addr) (td : List TD) (u : Addr) (tu : List TD) : Prop where
  eq : t = .tup [.lst l tl, .dat (.int k.sure), .lst dn td, .lst u tu]
  el : TD.ers tl = k.log.map Dd.e
  ed : TD.ers td = k.down.map Dd.e
  eu : TD.ers tu = k.up.map .int
  nl : (TD.lst l tl).ad.Nodup
  nd : (TD.lst dn td).ad.Nodup
  nu : (TD.lst u tu).ad.Nodup
  ld : ∀ a ∈ (TD.lst l tl).ad, a ∉ (TD.lst dn td).ad
  lu : ∀ a ∈ (TD.lst l tl).ad, a ∉ (TD.lst u tu).ad
  du : ∀ a ∈ (TD.lst dn td).ad, a ∉ (TD.lst u tu).ad
  sl : ∀ a ∈ (TD.lst l tl).ad, a ∈ t.ad
  sd : ∀ a ∈ (TD.lst dn td).ad, a ∈ t.ad
  su : ∀ a ∈ (TD.lst u tu).ad, a ∈ t.ad
theorem kp_parts {t : TD} {k : Kp} (h : t.sl = true) (e : t.er = k.e) (n : t.ad.Nodup) : ∃ l tl dn td u tu, KpT t k l tl dn td u tu := by
  obtain ⟨l, tl, dn, td, u, tu, rfl, h1, h2, h3, _, _, _⟩ := kp_td h e
  have e0 : (TD.tup [.lst l tl, .dat (.int k.sure), .lst dn td, .lst u tu]).ad = (TD.lst l tl).ad ++ ((TD.lst dn td).ad ++ (TD.lst u tu).ad) := by
    simp [TD.ad, TD.ads]
  rw [e0, List.nodup_append, List.nodup_append] at n
  refine ⟨l, tl, dn, td, u, tu, rfl, h1, h2, h3, n.1, n.2.1.1, n.2.1.2.1, fun a ha z => n.2.2 a ha a (List.mem_append_left _ z) rfl, fun a ha z => n.2.2 a ha a (List.mem_append_right _ z) rfl, fun a ha z => n.2.1.2.2 a ha a z rfl, fun a ha => ?_, fun a ha => ?_, fun a ha => ?_⟩
  · rw [e0]; exact List.mem_append_left _ ha
  · rw [e0]; exact List.mem_append_right _ (List.mem_append_left _ ha)
  · rw [e0]; exact List.mem_append_right _ (List.mem_append_right _ ha)
end Ck

namespace Ck
open PySem PySem.Spec PyProof.Rows L2

/-! ### steps -/
def headD (l : List Dd) : Dd := l.headD ⟨0, 0, "", "", 0⟩
def recv (k : Kp) (d : Dd) (last : Bool) : Kp := if last then ⟨k.log ++ [d], k.log.length + 1, [], k.up ++ [(k.log.length : Int) + 1]⟩ else ⟨k.log ++ [d], k.sure, k.down ++ [d], k.up⟩
def gaveK (k : Kp) : Kp := ⟨k.log, k.sure, k.down.drop 1, k.up⟩
def passK (ks : List Kp) (p : Nat) : List Kp := (ks.set p (gaveK (kAt ks p))).set (p + 1) (recv (kAt ks (p + 1)) (headD (kAt ks p).down) (decide (p + 2 = ks.length)))
def toldK (k : Kp) : Kp := ⟨k.log, k.sure, k.down, k.up.drop 1⟩
def maxS (t g : Kp) : Int := max t.sure (g.up.headD 0)
def heard (t : Kp) (s : Int) (first : Bool) : Kp := ⟨t.log, s, t.down, if first then t.up else t.up ++ [s]⟩
def backK (ks : List Kp) (p : Nat) : List Kp := (ks.set p (toldK (kAt ks p))).set (p - 1) (heard (kAt ks (p - 1)) (maxS (kAt ks (p - 1)) (kAt ks p)) (decide (p = 1)))
def lastOf (ks : List Kp) : Kp := ks.getLast?.getD nilK
def learnt (c : Ch) : List Dd := (c.co.getD []) ++ [(lastOf c.ks).log.getD (c.co.getD []).length ⟨0, 0, "", "", 0⟩]
def stepC (c : Ch) (w : Str) (p : Nat) : Ch := if w = "pass" then ⟨passK c.ks p, c.co⟩ else if w = "back" then ⟨backK c.ks p, c.co⟩ else grownD c.ks (learnt c)
/-- what steps rest on -/
structure Wf (c : Ch) : Prop where
  ne : c.ks ≠ []
  ld : (kAt c.ks (c.ks.length - 1)).down = []
  fu : (kAt c.ks 0).up = []
  co : ∀ l, c.co = some l → l.length < (lastOf c.ks).log.length
def R_steps_ofW (ds : List PyData) (o : Oc) : Prop := ∃ c : Ch, ds = [c.e] ∧ c.ok ∧ o = .ok (.list (stepsD c))
def R_passed (ds : List PyData) (o : Oc) : Prop := ∃ (c : Ch) (p : Nat), ds = [c.e, .int p] ∧ c.ok ∧ p + 1 < c.ks.length ∧ (kAt c.ks p).down ≠ [] ∧ o = .ok (Ch.mk (passK c.ks p) c.co).e
def R_backed (ds : List PyData) (o : Oc) : Prop := ∃ (c : Ch) (p : Nat), ds = [c.e, .int p] ∧ c.ok ∧ 0 < p ∧ p < c.ks.length ∧ (kAt c.ks p).up ≠ [] ∧ o = .ok (Ch.mk (backK c.ks p) c.co).e
theorem noL_stp {w : Str} {i : Nat} : noL (stp w i) = true := by simp [stp, noL, noLs]
theorem noLs_steps (c : Ch) : noLs (stepsD c) = true := by
  have app : ∀ xs ys : List PyData, noLs xs = true → noLs ys = true → noLs (xs ++ ys) = true := fun xs ys h1 h2 => by
    induction xs with
    | nil => exact h2
    | cons x xs ih =>
      rw [List.cons_append]
      simp only [noLs, Bool.and_eq_true] at h1 ⊢
      exact ⟨h1.1, ih h1.2⟩
  unfold stepsD
  refine app _ _ (app _ _ (noLs_map (fun _ => noL_stp) _) (noLs_map (fun _ => noL_stp) _)) ?_
  split
  · simp [noLs, noL_stp]
  · simp [noLs]
section
variable {K : PySem.W.Frag} {Γ : List Sl} {ta tb tc : TE} {E : XK}
theorem em_steps_of {c : Ch} (h : Ev ta Γ c.e) (hc : c.ok) : EvM (tCall (spW WO K 1 R_steps_ofW) [] E (tCons ta tNil)) Γ [] (.list (stepsD c)) := em_callW (ea_cons h ea_nil) rfl ⟨c, rfl, hc, rfl⟩
theorem ev_stepsW {c : Ch} (h : Ev ta Γ c.e) (hc : c.ok) : Ev (tCall (spW WO K 1 R_steps_ofW) [] E (tCons ta tNil)) Γ (.list (stepsD c)) := EvM.ev (em_steps_of h hc)
theorem em_passed {c : Ch} {p : Nat} (h1 : Ev ta Γ c.e) (h2 : Ev tb Γ (.int p)) (hc : c.ok) (hp : p + 1 < c.ks.length) (hd : (kAt c.ks p).down ≠ []) : EvM (tCall (spW WO K 2 R_passed) [] E (tCons ta (tCons tb tNil))) Γ [] (Ch.mk (passK c.ks p) c.co).e := em_callW (ea_cons h1 (ea_cons h2 ea_nil)) rfl ⟨c, p, rfl, hc, hp, hd, rfl⟩
theorem em_backed {c : Ch} {p : Nat} (h1 : Ev ta Γ c.e) (h2 : Ev tb Γ (.int p)) (hc : c.ok) (h0 : 0 < p) (hp : p < c.ks.length) (hd : (kAt c.ks p).up ≠ []) : EvM (tCall (spW WO K 2 R_backed) [] E (tCons ta (tCons tb tNil))) Γ [] (Ch.mk (backK c.ks p) c.co).e := em_callW (ea_cons h1 (ea_cons h2 ea_nil)) rfl ⟨c, p, rfl, hc, h0, hp, hd, rfl⟩
end
/-! which steps there are -/
theorem eqv_stp {w v : Str} {i : Nat} {j : Int} : PyData.eqv (stp w i) (.tuple [.str v, .int j]) = (decide (w = v) && decide ((i : Int) = j)) := by
  show PyData.eqv (.tuple [.str w, .int i]) (.tuple [.str v, .int j]) = _
  simp only [PyData.eqv, PyData.eqvAll, Bool.and_true]
  by_cases h : w = v
  · subst h; simp [Bool.beq_eq_decide_eq]
  · rw [decide_eq_false h, beq_eq_false_iff_ne.mpr h]; rfl
/-- a step that can be done -/
def Can (c : Ch) (w : Str) (p : Nat) : Prop := (w = "pass" ∧ p < c.ks.length ∧ (kAt c.ks p).down ≠ []) ∨ (w = "back" ∧ p < c.ks.length ∧ (kAt c.ks p).up ≠ []) ∨ (w = "learn" ∧ p = c.ks.length ∧ c.co.isSome = true)
theorem isEmpty_ne {α : Type} {l : List α} : (!l.isEmpty) = true ↔ l ≠ [] := by cases l <;> simp
theorem steps_mem {c : Ch} {x : PyData} (h : x ∈ stepsD c) : ∃ w p, x = stp w p ∧ Can c w p := by
  unfold stepsD at h
  rw [List.mem_append, List.mem_append, List.mem_map, List.mem_map] at h
  rcases h with (⟨i, hi, rfl⟩ | ⟨i, hi, rfl⟩) | h
  · obtain ⟨h1, h2⟩ := List.mem_filter.mp hi
    exact ⟨_, _, rfl, .inl ⟨rfl, List.mem_range.mp h1, isEmpty_ne.mp h2⟩⟩
  · obtain ⟨h1, h2⟩ := List.mem_filter.mp hi
    exact ⟨_, _, rfl, .inr (.inl ⟨rfl, List.mem_range.mp h1, isEmpty_ne.mp h2⟩)⟩
  · split at h
    · rename_i hc
      rw [List.mem_singleton] at h
      exact ⟨_, _, h, .inr (.inr ⟨rfl, rfl, hc⟩)⟩
    · cases h
theorem steps_of_can {c : Ch} {w : Str} {p : Nat} (h : Can c w p) : stp w p ∈ stepsD c := by
  unfold stepsD
  rw [List.mem_append, List.mem_append, List.mem_map, List.mem_map]
  rcases h with ⟨rfl, h1, h2⟩ | ⟨rfl, h1, h2⟩ | ⟨rfl, rfl, h1⟩
  · exact .inl (.inl ⟨p, List.mem_filter.mpr ⟨List.mem_range.mpr h1, isEmpty_ne.mpr h2⟩, rfl⟩)
  · exact .inl (.inr ⟨p, List.mem_filter.mpr ⟨List.mem_range.mpr h1, isEmpty_ne.mpr h2⟩, rfl⟩)
  · rw [if_pos h1]
    exact .inr (List.mem_singleton.mpr rfl)
theorem steps_any {c : Ch} {w : Str} {p : Int} : ((stepsD c).any fun y => PyData.eqv y (.tuple [.str w, .int p])) = true ↔ ∃ n : Nat, p = n ∧ Can c w n := by
  rw [List.any_eq_true]
  constructor
  · rintro ⟨x, hx, he⟩
    obtain ⟨v, n, rfl, hc⟩ := steps_mem hx
    rw [eqv_stp, Bool.and_eq_true, decide_eq_true_eq, decide_eq_true_eq] at he
    obtain ⟨rfl, rfl⟩ := he
    exact ⟨n, rfl, hc⟩
  · rintro ⟨n, rfl, hc⟩
    exact ⟨_, steps_of_can hc, by rw [eqv_stp]; simp⟩
/-- of a step that can be done the chain, else the refusal -/
def R_done (ds : List PyData) (o : Oc) : Prop := ∃ (c : Ch) (w : Str) (i : Int), ds = [c.e, .tuple [.str w, .int i]] ∧ c.ok ∧ PyData.strOk w = true ∧
  ((∃ p : Nat, i = p ∧ Can c w p ∧ Wf c ∧ o = .ok (stepC c w p).e) ∨ ((¬ ∃ p : Nat, i = p ∧ Can c w p) ∧ o = .error "NoStep"))
theorem can_word {c : Ch} {w : Str} {p : Nat} (h : Can c w p) : PyData.strOk w = true := by
  rcases h with ⟨rfl, _⟩ | ⟨rfl, _⟩ | ⟨rfl, _⟩ <;> decide +kernel
section
variable {K : PySem.W.Frag} {Γ : List Sl} {ta tb tc : TE} {E : XK}
theorem em_done {c : Ch} {w : Str} {p : Nat} (h1 : Ev ta Γ c.e) (h2 : Ev tb Γ (stp w p)) (hc : c.ok) (hp : Can c w p) (hw : Wf c) : EvM (tCall (spW WO K 2 R_done) [] E (tCons ta (tCons tb tNil))) Γ [] (stepC c w p).e := em_callW (ea_cons h1 (ea_cons h2 ea_nil)) rfl ⟨c, w, p, rfl, hc, can_word hp, .inl ⟨p, rfl, hp, hw, rfl⟩⟩
end
/-! smallness -/
theorem headD_mem {l : List Dd} (h : l ≠ []) : headD l ∈ l := by
  cases l with
  | nil => exact absurd rfl h
  | cons d r => exact List.mem_cons_self
theorem recv_s {m : Nat} {k : Kp} {d : Dd} {b : Bool} (h : KpS m k) (hd : d.ok) : KpS (m + 1) (recv k d b) := by
  have hl : ∀ x ∈ k.log ++ [d], x.ok := fun x hx => by
    rcases List.mem_append.mp hx with hx | hx
    · exact h.dl x hx
    · rw [List.mem_singleton.mp hx]; exact hd
  have hll : (k.log ++ [d]).length ≤ m + 1 := by rw [List.length_append]; exact Nat.succ_le_succ h.ll
  unfold recv
  split
  · exact ⟨hll, Nat.zero_le _, by show (k.up ++ [_]).length ≤ _; rw [List.length_append]; exact Nat.succ_le_succ h.lu, hl, fun x hx => by cases hx⟩
  · refine ⟨hll, by show (k.down ++ [d]).length ≤ _; rw [List.length_append]; exact Nat.succ_le_succ h.ld, Nat.le_succ_of_le h.lu, hl, fun x hx => ?_⟩
    rcases List.mem_append.mp hx with hx | hx
    · exact h.dd x hx
    · rw [List.mem_singleton.mp hx]; exact hd
theorem gave_s {m : Nat} {k : Kp} (h : KpS m k) : KpS m (gaveK k) := ⟨h.ll, by show (k.down.drop 1).length ≤ m; rw [List.length_drop]; have := h.ld; omega, h.lu, h.dl, fun d hd => h.dd d (List.mem_of_mem_drop hd)⟩
theorem told_s {m : Nat} {k : Kp} (h : KpS m k) : KpS m (toldK k) := ⟨h.ll, h.ld, by show (k.up.drop 1).length ≤ m; rw [List.length_drop]; have := h.lu; omega, h.dl, h.dd⟩
theorem heard_s {m : Nat} {k : Kp} {s : Int} {b : Bool} (h : KpS m k) : KpS (m + 1) (heard k s b) := ⟨Nat.le_succ_of_le h.ll, Nat.le_succ_of_le h.ld, by
  show (if b then k.up else k.up ++ [s]).length ≤ m + 1
  have := h.lu
  split
  · omega
  · rw [List.length_append]; exact Nat.succ_le_succ this, h.dl, h.dd⟩
theorem lastOf_at {ks : List Kp} (h : ks ≠ []) : lastOf ks = kAt ks (ks.length - 1) := by
  unfold lastOf kAt
  rw [List.getLast?_eq_getElem?, List.getD_eq_getElem?_getD]
theorem learnt_s {m : Nat} {c : Ch} (hs : c.small m) (hw : Wf c) {l : List Dd} (e : c.co = some l) : (learnt c).length ≤ m + 1 ∧ ∀ d ∈ learnt c, d.ok := by
  have hlt := hw.co l e
  have hk := hs.kps (k := lastOf c.ks) (by
    rw [lastOf_at hw.ne]
    exact kAt_mem (by have := List.length_pos_iff.mpr hw.ne; omega))
  have hl := hs.co l e
  unfold learnt
  rw [e, Option.getD_some]
  refine ⟨by rw [List.length_append]; exact Nat.succ_le_succ hl.1, fun d hd => ?_⟩
  rcases List.mem_append.mp hd with hd | hd
  · exact hl.2 d hd
  · rw [List.mem_singleton.mp hd, List.getD_eq_getElem?_getD, List.getElem?_eq_getElem hlt]
    exact hk.dl _ (List.getElem_mem hlt)
theorem grownD_s {m : Nat} {ks : List Kp} {l : List Dd} (hk : ∀ k ∈ ks, KpS m k) (hn : ks.length + 1 ≤ m) (h5 : 5 ≤ m) (hl : l.length ≤ m) (hd : ∀ d ∈ l, d.ok) : (grownD ks l).small m := by
  unfold grownD
  split
  · refine small_of h5 (by show (ks ++ [_]).length ≤ m; rw [List.length_append]; exact hn) (fun k h => ?_) fun l' e => by cases e
    rcases List.mem_append.mp h with h | h
    · exact hk k h
    · rw [List.mem_singleton.mp h]
      exact ⟨hl, Nat.zero_le _, Nat.zero_le _, hd, fun d hd => by cases hd⟩
  · exact small_of h5 (by show ks.length ≤ m; omega) hk fun l' e => by cases e; exact ⟨hl, hd⟩
theorem stepC_s {m : Nat} {c : Ch} (hs : c.small m) (hw : Wf c) {w : Str} {p : Nat} (hp : Can c w p) : (stepC c w p).small (m + 1) := by
  have h5 := hs.m5
  have hkl := hs.ks
  have hk : ∀ k ∈ c.ks, KpS m k := fun k h => hs.kps h
  have hc : ∀ l, c.co = some l → l.length ≤ m + 1 ∧ ∀ d ∈ l, d.ok := fun l e => ⟨Nat.le_succ_of_le (hs.co l e).1, (hs.co l e).2⟩
  unfold stepC
  rcases hp with ⟨rfl, h1, h2⟩ | ⟨rfl, h1, h2⟩ | ⟨rfl, rfl, h1⟩
  · rw [if_pos rfl]
    refine small_of (by omega) (by show (passK c.ks p).length ≤ _; unfold passK; rw [List.length_set, List.length_set]; omega) (fun k h => ?_) hc
    have hd : (headD (kAt c.ks p).down).ok := (kAt_s hk).dd _ (headD_mem h2)
    rcases List.mem_or_eq_of_mem_set h with h | rfl
    · rcases List.mem_or_eq_of_mem_set h with h | rfl
      · exact (hk k h).up
      · exact (gave_s (kAt_s hk)).up
    · exact recv_s (kAt_s hk) hd
  · rw [if_neg (by decide), if_pos rfl]
    refine small_of (by omega) (by show (backK c.ks p).length ≤ _; unfold backK; rw [List.length_set, List.length_set]; omega) (fun k h => ?_) hc
    rcases List.mem_or_eq_of_mem_set h with h | rfl
    · rcases List.mem_or_eq_of_mem_set h with h | rfl
      · exact (hk k h).up
      · exact (told_s (kAt_s hk)).up
    · exact heard_s (kAt_s hk)
  · rw [if_neg (by decide), if_neg (by decide)]
    obtain ⟨l, e⟩ := Option.isSome_iff_exists.mp h1
    obtain ⟨l1, l2⟩ := learnt_s hs hw e
    exact grownD_s (fun k h => (hk k h).up) (by omega) (by omega) l1 l2
end Ck

namespace Ck
open PySem PySem.Spec PyProof.Rows L2

/-! ### what holds in a chain -/
structure Link (a b : Kp) : Prop where
  log : a.log = b.log ++ a.down
  sure : a.sure ≤ b.sure
  mono : b.up.Pairwise (· ≤ ·)
  le : ∀ x ∈ b.up, x ≤ b.sure
  top : b.sure = a.sure ∨ b.sure ∈ b.up
structure Inv (c : Ch) : Prop where
  ne : c.ks ≠ []
  n9 : c.ks.length ≤ 9
  fu : (kAt c.ks 0).up = []
  ld : (kAt c.ks (c.ks.length - 1)).down = []
  ls : (kAt c.ks (c.ks.length - 1)).sure = (kAt c.ks (c.ks.length - 1)).log.length
  s0 : 0 ≤ (kAt c.ks 0).sure
  lk : ∀ i, i + 1 < c.ks.length → Link (kAt c.ks i) (kAt c.ks (i + 1))
  co : ∀ l, c.co = some l → c.ks.length < 9 ∧ l = (lastOf c.ks).log.take l.length ∧ l.length < (lastOf c.ks).log.length
theorem Inv.wf {c : Ch} (h : Inv c) : Wf c := ⟨h.ne, h.ld, h.fu, fun l e => (h.co l e).2.2⟩
theorem kAt_chainL {cells : List Int} {l : List Dd} {first : Int} {k : Nat} (h : k < manyI first) : kAt (chainL cells l first).ks k = kpC cells l first k := by
  unfold kAt
  show ((List.range (manyI first)).map (kpC cells l first)).getD k nilK = _
  rw [List.getD_eq_getElem?_getD, List.getElem?_map, List.getElem?_range h]; rfl
theorem chainL_len (cells : List Int) (l : List Dd) (first : Int) : (chainL cells l first).ks.length = manyI first := by
  show ((List.range (manyI first)).map (kpC cells l first)).length = _
  rw [List.length_map, List.length_range]
theorem logC {cells : List Int} {l : List Dd} {first : Int} {k : Nat} : (kpC cells l first k).log = l.take (sizeC cells l.length first k).toNat := by
  have h0 := sizeC_nn cells l.length first k
  show cutG l none (some (sizeC cells l.length first k)) = _
  have e : sizeC cells l.length first k = ((sizeC cells l.length first k).toNat : Int) := by omega
  rw [e, cutG_to]; rw [Int.toNat_natCast]
theorem downC {cells : List Int} {l : List Dd} {first : Int} {k : Nat} : (kpC cells l first k).down = (l.take (sizeC cells l.length first k).toNat).drop (behindC cells l.length first k).toNat := by
  have h0 := sizeC_nn cells l.length first k
  have h1 : 0 ≤ behindC cells l.length first k := by
    unfold behindC
    split
    · exact sizeC_nn _ _ _ _
    · exact lastC_nn _ _ _
  exact cutG_mid h1 h0
theorem inv_chainL (cells : List Int) (l : List Dd) (first : Int) : Inv (chainL cells l first) := by
  have hm := many_lo first
  have hl := chainL_len cells l first
  have hlast : lastOf (chainL cells l first).ks = kpC cells l first (manyI first - 1) := by
    rw [lastOf_at (chainL_ne _ _ _), hl]
    exact kAt_chainL (by omega)
  have hz := sizeC_m cells l.length first (manyI first - 1)
  have hz0 := sizeC_nn cells l.length first (manyI first - 1)
  refine ⟨chainL_ne _ _ _, by omega, ?_, ?_, ?_, ?_, fun i hi => ?_, fun l' e => ?_⟩
  · rw [kAt_chainL (by omega)]; rfl
  · rw [hl, kAt_chainL (by omega), downC, List.drop_eq_nil_of_le]
    rw [List.length_take]
    unfold behindC
    rw [if_neg (by omega)]
    unfold lastC
    omega
  · rw [hl, kAt_chainL (by omega), logC]
    show sureC cells l.length first (manyI first - 1) = _
    rw [sureC_last (by omega), List.length_take]
    unfold lastC
    omega
  · rw [kAt_chainL (by omega)]
    exact sureC_nn _ _ _ _
  · rw [hl] at hi
    rw [kAt_chainL (by omega), kAt_chainL hi]
    have h1 := sizeC_le (cells := cells) (m := l.length) (first := first) (j := i) (k := i + 1) (by omega)
    have h0 := sizeC_nn cells l.length first (i + 1)
    have hs := sureC_le (cells := cells) (m := l.length) (first := first) (j := i) (k := i + 1) (by omega)
    have hu : (kpC cells l first (i + 1)).up = upsL ((moreL cells first).getD (i + 1) 0 / 7 % 1000) (sureC cells l.length first i) (sureC cells l.length first (i + 1)) := by
      show upC cells l.length first (i + 1) = _
      unfold upC
      rw [if_pos (by omega)]; rfl
    have h00 := sureC_nn cells l.length first (i + 1)
    refine ⟨?_, hs, ?_, fun x hx => ?_, ?_⟩
    · rw [logC, logC, downC]
      have hb : behindC cells l.length first i = sizeC cells l.length first (i + 1) := by unfold behindC; rw [if_pos hi]
      rw [hb]
      have e := List.take_append_drop (sizeC cells l.length first (i + 1)).toNat (l.take (sizeC cells l.length first i).toNat)
      rw [List.take_take, Nat.min_eq_left (by omega)] at e
      exact e.symm
    · rw [hu]
      unfold upsL
      rw [List.pairwise_append]
      refine ⟨upsS_sorted _ _, ?_, fun a ha b hb => ?_⟩
      · split
        · exact List.pairwise_singleton _ _
        · exact .nil
      · have := (upsS_mem h00 ha).2
        split at hb
        · rw [List.mem_singleton.mp hb]; exact this
        · cases hb
    · rw [hu] at hx
      unfold upsL at hx
      rcases List.mem_append.mp hx with hx | hx
      · exact (upsS_mem h00 hx).2
      · split at hx
        · rw [List.mem_singleton.mp hx]; exact Int.le_refl _
        · cases hx
    · rw [hu]
      by_cases h : sureC cells l.length first i < sureC cells l.length first (i + 1)
      · refine .inr ?_
        unfold upsL
        rw [if_pos h]
        exact List.mem_append_right _ (List.mem_singleton.mpr rfl)
      · refine .inl ?_
        show sureC cells l.length first (i + 1) = sureC cells l.length first i
        omega
  · have e' : coC cells l first = some l' := e
    unfold coC at e'
    split at e'
    · rename_i hc
      cases e'
      have hr0 := Int.emod_nonneg (first / 540) (show lastC cells l.length first ≠ 0 by omega)
      have hr1 := Int.emod_lt_of_pos (first / 540) hc.1
      have er : first / 540 % lastC cells l.length first = ((first / 540 % lastC cells l.length first).toNat : Int) := by omega
      have ez : (sizeC cells l.length first (manyI first - 1)) = lastC cells l.length first := rfl
      rw [hlast, logC, er, cutG_to, ez]
      rw [ez] at hz hz0
      have hlt : (l.take (first / 540 % lastC cells l.length first).toNat).length = (first / 540 % lastC cells l.length first).toNat := by rw [List.length_take]; omega
      refine ⟨by rw [hl]; exact hc.2.1, ?_, ?_⟩
      · rw [hlt, List.take_take, Nat.min_eq_left (by omega)]
      · rw [hlt, List.length_take]; omega
    · cases e'
theorem inv_chainG (ns : List Int) : Inv (chainG ns) := inv_chainL _ _ _
end Ck

namespace Ck
open PySem PySem.Spec PyProof.Rows L2

/-! ### steps keep what holds, and end -/
theorem kAt_set {ks : List Kp} {i j : Nat} {x : Kp} (hj : j < ks.length) : kAt (ks.set i x) j = if i = j then x else kAt ks j := by
  unfold kAt
  rw [List.getD_eq_getElem?_getD, List.getElem?_set]
  split
  · rw [if_pos (by omega)]; rfl
  · rw [List.getD_eq_getElem?_getD]
theorem kAt_app_lo {ks l : List Kp} {j : Nat} (hj : j < ks.length) : kAt (ks ++ l) j = kAt ks j := by
  unfold kAt
  rw [List.getD_eq_getElem?_getD, List.getElem?_append_left hj, List.getD_eq_getElem?_getD]
theorem kAt_app_last {ks : List Kp} {k : Kp} : kAt (ks ++ [k]) ks.length = k := by
  unfold kAt
  rw [List.getD_eq_getElem?_getD, List.getElem?_append_right (Nat.le_refl _), Nat.sub_self]; rfl
theorem passK_len {ks : List Kp} {p : Nat} : (passK ks p).length = ks.length := by
  unfold passK; rw [List.length_set, List.length_set]
theorem backK_len {ks : List Kp} {p : Nat} : (backK ks p).length = ks.length := by
  unfold backK; rw [List.length_set, List.length_set]
theorem kAt_pass {ks : List Kp} {p j : Nat} (hj : j < ks.length) : kAt (passK ks p) j = if j = p + 1 then recv (kAt ks (p + 1)) (headD (kAt ks p).down) (decide (p + 2 = ks.length)) else if j = p then gaveK (kAt ks p) else kAt ks j := by
  unfold passK
  rw [kAt_set (by rw [List.length_set]; exact hj), kAt_set hj]
  by_cases h1 : j = p + 1
  · rw [if_pos h1, if_pos h1.symm]
  · rw [if_neg h1, if_neg (fun z => h1 z.symm)]
    by_cases h2 : j = p
    · rw [if_pos h2, if_pos h2.symm]
    · rw [if_neg h2, if_neg (fun z => h2 z.symm)]
theorem kAt_back {ks : List Kp} {p j : Nat} (hj : j < ks.length) (h0 : 0 < p) : kAt (backK ks p) j = if j = p - 1 then heard (kAt ks (p - 1)) (maxS (kAt ks (p - 1)) (kAt ks p)) (decide (p = 1)) else if j = p then toldK (kAt ks p) else kAt ks j := by
  unfold backK
  rw [kAt_set (by rw [List.length_set]; exact hj), kAt_set hj]
  by_cases h1 : j = p - 1
  · rw [if_pos h1, if_pos h1.symm]
  · rw [if_neg h1, if_neg (fun z => h1 z.symm)]
    by_cases h2 : j = p
    · rw [if_pos h2, if_pos h2.symm]
    · rw [if_neg h2, if_neg (fun z => h2 z.symm)]
theorem Inv.sure_nn {c : Ch} (h : Inv c) : ∀ i, i < c.ks.length → 0 ≤ (kAt c.ks i).sure
  | 0, _ => h.s0
  | i + 1, hi => Int.le_trans (Inv.sure_nn h i (by omega)) (h.lk i hi).sure
theorem Inv.sure_le {c : Ch} (h : Inv c) : ∀ n i, i + n = c.ks.length - 1 → (kAt c.ks i).sure ≤ (kAt c.ks (c.ks.length - 1)).sure
  | 0, i, e => by rw [show i = c.ks.length - 1 by omega]; exact Int.le_refl _
  | n + 1, i, e => Int.le_trans (h.lk i (by omega)).sure (Inv.sure_le h n (i + 1) (by omega))
theorem inv_pass {c : Ch} {p : Nat} (h : Inv c) (hp : p + 1 < c.ks.length) (hd : (kAt c.ks p).down ≠ []) : Inv ⟨passK c.ks p, c.co⟩ := by
  obtain ⟨ks, co⟩ := c
  obtain ⟨ne, n9, fu, ld, ls, s0, lk, hco⟩ := h
  dsimp only at ne n9 fu ld ls s0 lk hco hp hd
  have hK : ∀ {j}, j < ks.length → kAt (passK ks p) j = _ := fun h => kAt_pass (p := p) h
  have hl : (passK ks p).length = ks.length := passK_len
  obtain ⟨d, dr, hdd⟩ : ∃ d dr, (kAt ks p).down = d :: dr := by
    cases e : (kAt ks p).down with
    | nil => exact absurd e hd
    | cons a b => exact ⟨a, b, rfl⟩
  have hhd : headD (kAt ks p).down = d := by rw [hdd]; rfl
  have hg : gaveK (kAt ks p) = ⟨(kAt ks p).log, (kAt ks p).sure, dr, (kAt ks p).up⟩ := by unfold gaveK; rw [hdd]; rfl
  have hsl : (kAt ks (ks.length - 1)).sure = (kAt ks (ks.length - 1)).log.length := ls
  have hpn : passK ks p ≠ [] := fun z => by rw [z] at hl; simp at hl; omega
  refine ⟨hpn, by show (passK ks p).length ≤ 9; omega, ?_, ?_, ?_, ?_, fun i hi => ?_, fun l e => ?_⟩
  · show (kAt (passK ks p) 0).up = []
    rw [hK (by omega), if_neg (by omega)]
    by_cases h0 : 0 = p
    · rw [if_pos h0]; show (kAt ks p).up = []; rw [← h0]; exact fu
    · rw [if_neg h0]; exact fu
  · show (kAt (passK ks p) ((passK ks p).length - 1)).down = []
    rw [hl, hK (by omega)]
    by_cases h1 : ks.length - 1 = p + 1
    · rw [if_pos h1, decide_eq_true (by omega)]; rfl
    · rw [if_neg h1, if_neg (by omega)]; exact ld
  · show (kAt (passK ks p) ((passK ks p).length - 1)).sure = (kAt (passK ks p) ((passK ks p).length - 1)).log.length
    rw [hl, hK (by omega)]
    by_cases h1 : ks.length - 1 = p + 1
    · rw [if_pos h1, decide_eq_true (by omega)]
      show ((kAt ks (p + 1)).log.length : Int) + 1 = ((kAt ks (p + 1)).log ++ [_]).length
      rw [List.length_append]; rfl
    · rw [if_neg h1, if_neg (by omega)]; exact ls
  · show 0 ≤ (kAt (passK ks p) 0).sure
    rw [hK (by omega), if_neg (by omega)]
    by_cases h0 : 0 = p
    · rw [if_pos h0]; show 0 ≤ (kAt ks p).sure; rw [← h0]; exact s0
    · rw [if_neg h0]; exact s0
  · have hi' : i + 1 < ks.length := by rw [← hl]; exact hi
    show Link (kAt (passK ks p) i) (kAt (passK ks p) (i + 1))
    have L := lk i hi'
    rw [hK (by omega), hK hi', hhd, hg]
    by_cases h1 : i = p
    · subst h1
      rw [if_neg (by omega), if_pos rfl, if_pos rfl]
      have e1 : (kAt ks i).log = ((kAt ks (i + 1)).log ++ [d]) ++ dr := by rw [L.log, hdd, List.append_assoc]; rfl
      by_cases hz : i + 2 = ks.length
      · rw [decide_eq_true hz]
        have hlen : (kAt ks (i + 1)).sure = (kAt ks (i + 1)).log.length := by
          rw [show i + 1 = ks.length - 1 by omega]; exact ls
        have h2 := L.sure
        refine ⟨e1, ?_, ?_, ?_, ?_⟩
        · show (kAt ks i).sure ≤ ((kAt ks (i + 1)).log.length : Int) + 1
          omega
        · show ((kAt ks (i + 1)).up ++ [((kAt ks (i + 1)).log.length : Int) + 1]).Pairwise (· ≤ ·)
          refine List.pairwise_append.mpr ⟨L.mono, List.pairwise_singleton _ _, fun x hx y hy => ?_⟩
          rw [List.mem_singleton.mp hy]
          have := L.le x hx
          omega
        · intro x hx
          show x ≤ ((kAt ks (i + 1)).log.length : Int) + 1
          rcases List.mem_append.mp hx with hx | hx
          · have := L.le x hx
            omega
          · rw [List.mem_singleton.mp hx]; exact Int.le_refl _
        · exact .inr (List.mem_append_right _ (List.mem_singleton.mpr rfl))
      · rw [decide_eq_false hz]
        exact ⟨e1, L.sure, L.mono, L.le, L.top⟩
    · by_cases h2 : i = p + 1
      · subst h2
        rw [if_pos rfl, if_neg (by omega), if_neg (by omega), decide_eq_false (by omega)]
        refine ⟨?_, L.sure, L.mono, L.le, L.top⟩
        show (kAt ks (p + 1)).log ++ [d] = (kAt ks (p + 1 + 1)).log ++ ((kAt ks (p + 1)).down ++ [d])
        rw [L.log, List.append_assoc]
      · rw [if_neg h2, if_neg h1, if_neg (by omega)]
        by_cases h3 : i + 1 = p
        · rw [if_pos h3]
          rw [h3] at L
          exact ⟨L.log, L.sure, L.mono, L.le, L.top⟩
        · rw [if_neg h3]; exact L
  · obtain ⟨h1, h2, h3⟩ := hco l e
    refine ⟨by show (passK ks p).length < 9; omega, ?_⟩
    have elast : lastOf (passK ks p) = kAt (passK ks p) (ks.length - 1) := by rw [lastOf_at hpn, hl]
    have elast0 : lastOf ks = kAt ks (ks.length - 1) := lastOf_at ne
    show l = (lastOf (passK ks p)).log.take l.length ∧ l.length < (lastOf (passK ks p)).log.length
    rw [elast, hK (by omega)]
    rw [elast0] at h2 h3
    by_cases h4 : ks.length - 1 = p + 1
    · rw [if_pos h4, decide_eq_true (by omega), ← h4]
      show l = ((kAt ks (ks.length - 1)).log ++ [_]).take l.length ∧ l.length < ((kAt ks (ks.length - 1)).log ++ [_]).length
      rw [List.take_append_of_le_length (by omega), List.length_append]
      exact ⟨h2, by omega⟩
    · rw [if_neg h4, if_neg (by omega)]; exact ⟨h2, h3⟩
theorem inv_back {c : Ch} {p : Nat} (h : Inv c) (h0 : 0 < p) (hp : p < c.ks.length) (hd : (kAt c.ks p).up ≠ []) : Inv ⟨backK c.ks p, c.co⟩ := by
  obtain ⟨ks, co⟩ := c
  obtain ⟨ne, n9, fu, ld, ls, s0, lk, hco⟩ := h
  dsimp only at ne n9 fu ld ls s0 lk hco hp hd
  have hK : ∀ {j}, j < ks.length → kAt (backK ks p) j = _ := fun h => kAt_back (p := p) h h0
  have hl : (backK ks p).length = ks.length := backK_len
  obtain ⟨u, ur, huu⟩ : ∃ d dr, (kAt ks p).up = d :: dr := by
    cases e : (kAt ks p).up with
    | nil => exact absurd e hd
    | cons a b => exact ⟨a, b, rfl⟩
  have hmx : maxS (kAt ks (p - 1)) (kAt ks p) = max (kAt ks (p - 1)).sure u := by unfold maxS; rw [huu]; rfl
  have htd : toldK (kAt ks p) = ⟨(kAt ks p).log, (kAt ks p).sure, (kAt ks p).down, ur⟩ := by unfold toldK; rw [huu]; rfl
  have Lp : Link (kAt ks (p - 1)) (kAt ks p) := by
    have := lk (p - 1) (by omega)
    rwa [show p - 1 + 1 = p by omega] at this
  have hu : u ≤ (kAt ks p).sure := Lp.le u (by rw [huu]; exact List.mem_cons_self)
  have hts := Lp.sure
  have hpn : backK ks p ≠ [] := fun z => by rw [z] at hl; simp at hl; omega
  have elog : ∀ {j}, j < ks.length → (kAt (backK ks p) j).log = (kAt ks j).log := fun {j} hj => by
    rw [hK hj]
    by_cases h1 : j = p - 1
    · rw [if_pos h1, h1]; rfl
    · rw [if_neg h1]
      by_cases h2 : j = p
      · rw [if_pos h2, h2]; rfl
      · rw [if_neg h2]
  have edown : ∀ {j}, j < ks.length → (kAt (backK ks p) j).down = (kAt ks j).down := fun {j} hj => by
    rw [hK hj]
    by_cases h1 : j = p - 1
    · rw [if_pos h1, h1]; rfl
    · rw [if_neg h1]
      by_cases h2 : j = p
      · rw [if_pos h2, h2]; rfl
      · rw [if_neg h2]
  have esure : ∀ {j}, j < ks.length → j ≠ p - 1 → (kAt (backK ks p) j).sure = (kAt ks j).sure := fun {j} hj h1 => by
    rw [hK hj, if_neg h1]
    by_cases h2 : j = p
    · rw [if_pos h2, h2]; rfl
    · rw [if_neg h2]
  have esure1 : (kAt (backK ks p) (p - 1)).sure = max (kAt ks (p - 1)).sure u := by
    rw [hK (by omega), if_pos rfl, hmx]; rfl
  refine ⟨hpn, by show (backK ks p).length ≤ 9; omega, ?_, ?_, ?_, ?_, fun i hi => ?_, fun l e => ?_⟩
  · show (kAt (backK ks p) 0).up = []
    rw [hK (by omega)]
    by_cases h1 : 0 = p - 1
    · rw [if_pos h1, decide_eq_true (by omega), ← h1]; exact fu
    · rw [if_neg h1, if_neg (by omega)]; exact fu
  · show (kAt (backK ks p) ((backK ks p).length - 1)).down = []
    rw [hl, edown (by omega)]; exact ld
  · show (kAt (backK ks p) ((backK ks p).length - 1)).sure = (kAt (backK ks p) ((backK ks p).length - 1)).log.length
    rw [hl, elog (by omega), esure (by omega) (by omega)]; exact ls
  · show 0 ≤ (kAt (backK ks p) 0).sure
    by_cases h1 : 0 = p - 1
    · have e0 : (kAt (backK ks p) 0).sure = max (kAt ks 0).sure u := by
        have := esure1
        rwa [← h1] at this
      rw [e0]
      omega
    · rw [esure (by omega) h1]; exact s0
  · have hi' : i + 1 < ks.length := by rw [← hl]; exact hi
    have L := lk i hi'
    show Link (kAt (backK ks p) i) (kAt (backK ks p) (i + 1))
    have hlog : (kAt (backK ks p) i).log = (kAt (backK ks p) (i + 1)).log ++ (kAt (backK ks p) i).down := by
      rw [elog (by omega), elog hi', edown (by omega)]; exact L.log
    by_cases h1 : i + 1 = p
    · have e1 : i = p - 1 := by omega
      have eu : (kAt (backK ks p) (i + 1)).up = ur := by
        rw [hK hi', if_neg (by omega), if_pos h1, htd]
      have es : (kAt (backK ks p) (i + 1)).sure = (kAt ks p).sure := by rw [esure hi' (by omega), h1]
      have es1 : (kAt (backK ks p) i).sure = max (kAt ks (p - 1)).sure u := by rw [e1]; exact esure1
      have hm : ((kAt ks p).up).Pairwise (· ≤ ·) := Lp.mono
      rw [huu] at hm
      refine ⟨hlog, ?_, ?_, ?_, ?_⟩
      · rw [es, es1]; omega
      · rw [eu]; exact (List.pairwise_cons.mp hm).2
      · rw [eu, es]; exact fun x hx => Lp.le x (by rw [huu]; exact List.mem_cons_of_mem _ hx)
      · rw [eu, es, es1]
        rcases Lp.top with t | t
        · left; omega
        · rw [huu] at t
          rcases List.mem_cons.mp t with t | t
          · left; omega
          · exact .inr t
    · by_cases h2 : i + 1 = p - 1
      · have eu : (kAt (backK ks p) (i + 1)).up = (kAt ks (i + 1)).up ++ [max (kAt ks (i + 1)).sure u] := by
          rw [hK hi', if_pos h2, hmx, decide_eq_false (by omega), h2]; rfl
        have es : (kAt (backK ks p) (i + 1)).sure = max (kAt ks (i + 1)).sure u := by
          have := esure1
          rwa [← h2] at this
        have es1 : (kAt (backK ks p) i).sure = (kAt ks i).sure := esure (by omega) (by omega)
        have := L.sure
        refine ⟨hlog, ?_, ?_, ?_, ?_⟩
        · rw [es, es1]; omega
        · rw [eu]
          refine List.pairwise_append.mpr ⟨L.mono, List.pairwise_singleton _ _, fun x hx y hy => ?_⟩
          rw [List.mem_singleton.mp hy]
          have := L.le x hx
          omega
        · rw [eu, es]
          intro x hx
          rcases List.mem_append.mp hx with hx | hx
          · have := L.le x hx
            omega
          · rw [List.mem_singleton.mp hx]; exact Int.le_refl _
        · rw [eu, es]; exact .inr (List.mem_append_right _ (List.mem_singleton.mpr rfl))
      · have eu : (kAt (backK ks p) (i + 1)).up = (kAt ks (i + 1)).up := by
          rw [hK hi', if_neg h2, if_neg h1]
        have es : (kAt (backK ks p) (i + 1)).sure = (kAt ks (i + 1)).sure := esure hi' h2
        have es1 : (kAt ks i).sure ≤ (kAt (backK ks p) i).sure ∧ (kAt (backK ks p) i).sure ≤ (kAt ks (i + 1)).sure ∧ ((kAt ks (i + 1)).sure = (kAt (backK ks p) i).sure ∨ (kAt ks (i + 1)).sure ∈ (kAt ks (i + 1)).up) := by
          rw [esure (by omega) (by omega)]
          exact ⟨Int.le_refl _, L.sure, L.top⟩
        exact ⟨hlog, by rw [es]; exact es1.2.1, by rw [eu]; exact L.mono, by rw [eu, es]; exact L.le, by rw [eu, es]; exact es1.2.2⟩
  · obtain ⟨h1, h2, h3⟩ := hco l e
    refine ⟨by show (backK ks p).length < 9; omega, ?_⟩
    have elast : lastOf (backK ks p) = kAt (backK ks p) (ks.length - 1) := by rw [lastOf_at hpn, hl]
    have elast0 : lastOf ks = kAt ks (ks.length - 1) := lastOf_at ne
    show l = (lastOf (backK ks p)).log.take l.length ∧ l.length < (lastOf (backK ks p)).log.length
    rw [elast, elog (by omega), ← elast0]
    exact ⟨h2, h3⟩
theorem inv_grown {ks : List Kp} {nw : List Dd} {co : Option (List Dd)} (h : Inv ⟨ks, co⟩) (h9 : ks.length < 9) (hp : nw = (lastOf ks).log.take nw.length) : Inv (grownD ks nw) := by
  obtain ⟨ne, n9, fu, ld, ls, s0, lk, hco⟩ := h
  dsimp only at ne n9 fu ld ls s0 lk hco
  have elast0 : lastOf ks = kAt ks (ks.length - 1) := lastOf_at ne
  have hpos : 0 < ks.length := List.length_pos_iff.mpr ne
  have hle : nw.length ≤ (lastOf ks).log.length := by
    have := congrArg List.length hp
    rw [List.length_take] at this
    omega
  unfold grownD
  change Inv (if nw.length = (lastOf ks).log.length then _ else _)
  split
  · rename_i hz
    have enw : nw = (lastOf ks).log := by rw [hp, List.take_of_length_le (by omega)]
    have hl : (ks ++ [(⟨nw, nw.length, [], []⟩ : Kp)]).length = ks.length + 1 := by rw [List.length_append]; rfl
    refine ⟨by simp, (by rw [hl]; omega), ?_, ?_, ?_, ?_, (fun i hi => ?_), (fun l e => by cases e)⟩
    · show (kAt (ks ++ [_]) 0).up = []
      rw [kAt_app_lo hpos]; exact fu
    · show (kAt (ks ++ [_]) ((ks ++ [_]).length - 1)).down = []
      rw [hl, Nat.add_sub_cancel, kAt_app_last]
    · show (kAt (ks ++ [_]) ((ks ++ [_]).length - 1)).sure = (kAt (ks ++ [_]) ((ks ++ [_]).length - 1)).log.length
      rw [hl, Nat.add_sub_cancel, kAt_app_last]
    · show 0 ≤ (kAt (ks ++ [_]) 0).sure
      rw [kAt_app_lo hpos]; exact s0
    · have hi' : i + 1 < ks.length + 1 := by rw [← hl]; exact hi
      show Link (kAt (ks ++ [_]) i) (kAt (ks ++ [_]) (i + 1))
      rw [kAt_app_lo (by omega)]
      by_cases h1 : i + 1 = ks.length
      · rw [h1, kAt_app_last, show i = ks.length - 1 by omega]
        refine ⟨?_, ?_, List.Pairwise.nil, (fun x hx => by cases hx), .inl ?_⟩
        · show _ = nw ++ _
          rw [ld, List.append_nil, enw, elast0]
        · show _ ≤ (nw.length : Int)
          rw [ls, hz, elast0]; exact Int.le_refl _
        · show (nw.length : Int) = _
          rw [ls, hz, elast0]
      · rw [kAt_app_lo (by omega)]
        exact lk i (by omega)
  · rename_i hz
    exact ⟨ne, n9, fu, ld, ls, s0, lk, fun l e => by
      cases e
      exact ⟨h9, hp, by show nw.length < (lastOf ks).log.length; omega⟩⟩
theorem learnt_take {ks : List Kp} {l : List Dd} (h : l = (lastOf ks).log.take l.length) (h2 : l.length < (lastOf ks).log.length) : learnt ⟨ks, some l⟩ = (lastOf ks).log.take (l.length + 1) := by
  unfold learnt
  show l ++ [(lastOf ks).log.getD l.length _] = _
  rw [List.getD_eq_getElem?_getD, List.getElem?_eq_getElem h2, List.take_succ, List.getElem?_eq_getElem h2]
  show l ++ [_] = _ ++ [_]
  rw [← h]; rfl
theorem learnt_len {ks : List Kp} {l : List Dd} : (learnt ⟨ks, some l⟩).length = l.length + 1 := by
  unfold learnt
  show (l ++ [_]).length = _
  rw [List.length_append]; rfl
theorem Inv.back_pos {c : Ch} {p : Nat} (h : Inv c) (hu : (kAt c.ks p).up ≠ []) : 0 < p := by
  rcases Nat.eq_zero_or_pos p with rfl | h0
  · exact absurd h.fu hu
  · exact h0
theorem Inv.pass_lt {c : Ch} {p : Nat} (h : Inv c) (hp : p < c.ks.length) (hu : (kAt c.ks p).down ≠ []) : p + 1 < c.ks.length := by
  by_cases e : p + 1 = c.ks.length
  · have := h.ld
    rw [show c.ks.length - 1 = p by omega] at this
    exact absurd this hu
  · omega
theorem inv_step {c : Ch} {wd : Str} {p : Nat} (h : Inv c) (hc : Can c wd p) : Inv (stepC c wd p) := by
  unfold stepC
  rcases hc with ⟨rfl, h1, h2⟩ | ⟨rfl, h1, h2⟩ | ⟨rfl, h1, h2⟩
  · rw [if_pos rfl]
    exact inv_pass h (h.pass_lt h1 h2) h2
  · rw [if_neg (by decide), if_pos rfl]
    exact inv_back h (h.back_pos h2) h1 h2
  · rw [if_neg (by decide), if_neg (by decide)]
    obtain ⟨ks, co⟩ := c
    obtain ⟨l, e⟩ := Option.isSome_iff_exists.mp h2
    obtain rfl : co = some l := e
    obtain ⟨h3, h4, h5⟩ := h.co l rfl
    refine inv_grown h h3 ?_
    rw [learnt_len]
    exact learnt_take h4 h5
end Ck

namespace Ck
open PySem PySem.Spec PyProof.Rows L2

/-! ### steps end: a number that falls -/
def sumK (f : Nat → Kp → Nat) : Nat → List Kp → Nat
  | _, [] => 0
  | i, k :: ks => f i k + sumK f (i + 1) ks
theorem sumK_set (f : Nat → Kp → Nat) (x : Kp) : ∀ (ks : List Kp) (i j : Nat), j < ks.length → sumK f i (ks.set j x) + f (i + j) (kAt ks j) = sumK f i ks + f (i + j) x
  | [], i, j, h => absurd h (Nat.not_lt_zero _)
  | k :: ks, i, 0, h => by
    show f i x + sumK f (i + 1) ks + f i k = f i k + sumK f (i + 1) ks + f i x
    omega
  | k :: ks, i, j + 1, h => by
    have e : kAt (k :: ks) (j + 1) = kAt ks j := rfl
    have := sumK_set f x ks (i + 1) j (Nat.lt_of_succ_lt_succ h)
    rw [e]
    show f i k + sumK f (i + 1) (ks.set j x) + f (i + (j + 1)) (kAt ks j) = f i k + sumK f (i + 1) ks + f (i + (j + 1)) x
    rw [show i + (j + 1) = i + 1 + j by omega]
    omega
theorem sumK_app (f : Nat → Kp → Nat) (x : Kp) : ∀ (ks : List Kp) (i : Nat), sumK f i (ks ++ [x]) = sumK f i ks + f (i + ks.length) x
  | [], i => by show f i x + 0 = 0 + f (i + 0) x; simp
  | k :: ks, i => by
    show f i k + sumK f (i + 1) (ks ++ [x]) = f i k + sumK f (i + 1) ks + f (i + (ks.length + 1)) x
    rw [sumK_app f x ks (i + 1), show i + (ks.length + 1) = i + 1 + ks.length by omega]
    omega
theorem sumK_le (f : Nat → Kp → Nat) {j : Nat} : ∀ (ks : List Kp) (i : Nat), j < ks.length → f (i + j) (kAt ks j) ≤ sumK f i ks := fun ks i h => by
  induction ks generalizing i j with
  | nil => exact absurd h (Nat.not_lt_zero _)
  | cons k ks ih =>
    cases j with
    | zero => show f i k ≤ f i k + _; omega
    | succ j =>
      have := ih (j := j) (i + 1) (Nat.lt_of_succ_lt_succ h)
      show f (i + (j + 1)) (kAt ks j) ≤ f i k + sumK f (i + 1) ks
      rw [show i + (j + 1) = i + 1 + j by omega]
      omega
def wM (N : Nat) (i : Nat) (k : Kp) : Nat := k.down.length * (2 * N + 2 - i) + k.up.length * i
def wS (_ : Nat) (k : Kp) : Nat := k.down.length + k.up.length
/-- as many as there will be -/
def manyF (c : Ch) : Nat := c.ks.length + (if c.co.isSome then 1 else 0)
def coN (c : Ch) : Nat := match c.co with
  | none => 0
  | some l => (lastOf c.ks).log.length - l.length
def loadC (c : Ch) : Nat := sumK wS 0 c.ks
def stepsN (c : Ch) : Nat := sumK (wM (manyF c)) 0 c.ks + coN c
theorem set2 {f : Nat → Kp → Nat} {ks : List Kp} {p q : Nat} {x y : Kp} (hp : p < ks.length) (hq : q < ks.length) (hpq : p ≠ q) :
    sumK f 0 ((ks.set p x).set q y) + f p (kAt ks p) + f q (kAt ks q) = sumK f 0 ks + f p x + f q y := by
  have h1 := sumK_set f x ks 0 p hp
  have h2 := sumK_set f y (ks.set p x) 0 q (by rw [List.length_set]; exact hq)
  rw [kAt_set hq, if_neg hpq] at h2
  simp only [Nat.zero_add] at h1 h2
  omega
theorem lastOf_pass {ks : List Kp} {p : Nat} (hp : p + 1 < ks.length) : (lastOf (passK ks p)).log.length = (lastOf ks).log.length + (if p + 2 = ks.length then 1 else 0) := by
  have hne : ks ≠ [] := fun z => by rw [z] at hp; exact absurd hp (Nat.not_lt_zero _)
  have hpn : passK ks p ≠ [] := fun z => by
    have := passK_len (ks := ks) (p := p)
    rw [z] at this; simp at this; omega
  rw [lastOf_at hne, lastOf_at hpn, passK_len, kAt_pass (by omega)]
  by_cases h : p + 2 = ks.length
  · rw [if_pos (by omega), decide_eq_true h, if_pos h, show ks.length - 1 = p + 1 by omega]
    show ((kAt ks (p + 1)).log ++ [_]).length = _
    rw [List.length_append]; rfl
  · rw [if_neg (by omega), if_neg (by omega), if_neg h]; rfl
theorem lastOf_back {ks : List Kp} {p : Nat} (h0 : 0 < p) (hp : p < ks.length) : (lastOf (backK ks p)).log = (lastOf ks).log := by
  have hne : ks ≠ [] := fun z => by rw [z] at hp; exact absurd hp (Nat.not_lt_zero _)
  have hpn : backK ks p ≠ [] := fun z => by
    have := backK_len (ks := ks) (p := p)
    rw [z] at this; simp at this; omega
  rw [lastOf_at hne, lastOf_at hpn, backK_len, kAt_back (by omega) h0, if_neg (by omega)]
  by_cases h : ks.length - 1 = p
  · rw [if_pos h, h]; rfl
  · rw [if_neg h]
theorem recv_dn {k : Kp} {d : Dd} {b : Bool} : (recv k d b).down.length = if b then 0 else k.down.length + 1 := by
  cases b
  · show (k.down ++ [d]).length = _; rw [List.length_append]; rfl
  · rfl
theorem recv_up {k : Kp} {d : Dd} {b : Bool} : (recv k d b).up.length = if b then k.up.length + 1 else k.up.length := by
  cases b
  · rfl
  · show (k.up ++ [_]).length = _; rw [List.length_append]; rfl
theorem heard_up {k : Kp} {s : Int} {b : Bool} : (heard k s b).up.length = if b then k.up.length else k.up.length + 1 := by
  cases b
  · show (k.up ++ [_]).length = _; rw [List.length_append]; rfl
  · rfl
theorem steps_pass {c : Ch} {p : Nat} (h : Inv c) (hp : p + 1 < c.ks.length) (hd : (kAt c.ks p).down ≠ []) : stepsN ⟨passK c.ks p, c.co⟩ < stepsN c ∧ loadC ⟨passK c.ks p, c.co⟩ ≤ loadC c := by
  obtain ⟨ks, co⟩ := c
  dsimp only at hp hd
  have hdl : 0 < (kAt ks p).down.length := List.length_pos_iff.mpr hd
  have hld : (kAt ks (ks.length - 1)).down = [] := h.ld
  have eN : manyF ⟨passK ks p, co⟩ = manyF ⟨ks, co⟩ := by unfold manyF; rw [passK_len]
  have hN : ks.length ≤ manyF ⟨ks, co⟩ := Nat.le_add_right _ _
  have hco : coN ⟨passK ks p, co⟩ ≤ coN ⟨ks, co⟩ + (if p + 2 = ks.length then 1 else 0) := by
    have hL := lastOf_pass hp
    cases co with
    | none => exact Nat.zero_le _
    | some l =>
      show (lastOf (passK ks p)).log.length - l.length ≤ (lastOf ks).log.length - l.length + _
      omega
  have hM := set2 (f := wM (manyF ⟨ks, co⟩)) (ks := ks) (p := p) (q := p + 1) (x := gaveK (kAt ks p)) (y := recv (kAt ks (p + 1)) (headD (kAt ks p).down) (decide (p + 2 = ks.length))) (by omega) hp (by omega)
  have hS := set2 (f := wS) (ks := ks) (p := p) (q := p + 1) (x := gaveK (kAt ks p)) (y := recv (kAt ks (p + 1)) (headD (kAt ks p).down) (decide (p + 2 = ks.length))) (by omega) hp (by omega)
  have eg : (gaveK (kAt ks p)).down.length = (kAt ks p).down.length - 1 := List.length_drop
  have egu : (gaveK (kAt ks p)).up = (kAt ks p).up := rfl
  unfold stepsN loadC
  rw [eN]
  change sumK (wM (manyF ⟨ks, co⟩)) 0 (passK ks p) + coN ⟨passK ks p, co⟩ < sumK (wM (manyF ⟨ks, co⟩)) 0 ks + coN ⟨ks, co⟩ ∧ sumK wS 0 (passK ks p) ≤ sumK wS 0 ks
  unfold passK at hco ⊢
  generalize manyF ⟨ks, co⟩ = N at *
  generalize hx : (ks.set p (gaveK (kAt ks p))).set (p + 1) (recv (kAt ks (p + 1)) (headD (kAt ks p).down) (decide (p + 2 = ks.length))) = ks' at *
  simp only [wM, wS, eg, egu, recv_dn, recv_up] at hM hS
  obtain ⟨a, ha⟩ : ∃ a, (kAt ks p).down.length = a + 1 := ⟨_, (Nat.succ_pred_eq_of_pos hdl).symm⟩
  rw [ha] at hM hS
  rw [Nat.add_sub_cancel] at hM hS
  rw [show (a + 1) * (2 * N + 2 - p) = a * (2 * N + 2 - p) + (2 * N + 2 - p) from Nat.succ_mul _ _] at hM
  by_cases hz : p + 2 = ks.length
  · rw [decide_eq_true hz, if_pos rfl, if_pos rfl] at hM hS
    rw [if_pos hz] at hco
    have hdn : (kAt ks (p + 1)).down.length = 0 := by rw [show p + 1 = ks.length - 1 by omega, hld]; rfl
    rw [hdn] at hM hS
    rw [show ((kAt ks (p + 1)).up.length + 1) * (p + 1) = (kAt ks (p + 1)).up.length * (p + 1) + (p + 1) from Nat.succ_mul _ _] at hM
    simp only [Nat.zero_mul] at hM
    generalize a * (2 * N + 2 - p) = z1 at hM
    generalize (kAt ks p).up.length * p = z2 at hM
    generalize (kAt ks (p + 1)).up.length * (p + 1) = z3 at hM
    omega
  · rw [decide_eq_false hz, if_neg Bool.false_ne_true, if_neg Bool.false_ne_true] at hM hS
    rw [if_neg hz] at hco
    rw [show ((kAt ks (p + 1)).down.length + 1) * (2 * N + 2 - (p + 1)) = (kAt ks (p + 1)).down.length * (2 * N + 2 - (p + 1)) + (2 * N + 2 - (p + 1)) from Nat.succ_mul _ _] at hM
    generalize a * (2 * N + 2 - p) = z1 at hM
    generalize (kAt ks p).up.length * p = z2 at hM
    generalize (kAt ks (p + 1)).up.length * (p + 1) = z3 at hM
    generalize (kAt ks (p + 1)).down.length * (2 * N + 2 - (p + 1)) = z4 at hM
    omega
theorem steps_back {c : Ch} {p : Nat} (h : Inv c) (h0 : 0 < p) (hp : p < c.ks.length) (hd : (kAt c.ks p).up ≠ []) : stepsN ⟨backK c.ks p, c.co⟩ < stepsN c ∧ loadC ⟨backK c.ks p, c.co⟩ ≤ loadC c := by
  obtain ⟨ks, co⟩ := c
  dsimp only at hp hd
  have hdl : 0 < (kAt ks p).up.length := List.length_pos_iff.mpr hd
  have eN : manyF ⟨backK ks p, co⟩ = manyF ⟨ks, co⟩ := by unfold manyF; rw [backK_len]
  have hco : coN ⟨backK ks p, co⟩ = coN ⟨ks, co⟩ := by
    have hL := lastOf_back h0 hp
    unfold coN
    dsimp only
    rw [hL]
  have hM := set2 (f := wM (manyF ⟨ks, co⟩)) (ks := ks) (p := p) (q := p - 1) (x := toldK (kAt ks p)) (y := heard (kAt ks (p - 1)) (maxS (kAt ks (p - 1)) (kAt ks p)) (decide (p = 1))) hp (by omega) (by omega)
  have hS := set2 (f := wS) (ks := ks) (p := p) (q := p - 1) (x := toldK (kAt ks p)) (y := heard (kAt ks (p - 1)) (maxS (kAt ks (p - 1)) (kAt ks p)) (decide (p = 1))) hp (by omega) (by omega)
  have eg : (toldK (kAt ks p)).up.length = (kAt ks p).up.length - 1 := List.length_drop
  have egu : (toldK (kAt ks p)).down = (kAt ks p).down := rfl
  have ehd : (heard (kAt ks (p - 1)) (maxS (kAt ks (p - 1)) (kAt ks p)) (decide (p = 1))).down = (kAt ks (p - 1)).down := rfl
  unfold stepsN loadC
  rw [eN, hco]
  change sumK (wM (manyF ⟨ks, co⟩)) 0 (backK ks p) + coN ⟨ks, co⟩ < sumK (wM (manyF ⟨ks, co⟩)) 0 ks + coN ⟨ks, co⟩ ∧ sumK wS 0 (backK ks p) ≤ sumK wS 0 ks
  unfold backK
  generalize manyF ⟨ks, co⟩ = N at *
  generalize hx : (ks.set p (toldK (kAt ks p))).set (p - 1) (heard (kAt ks (p - 1)) (maxS (kAt ks (p - 1)) (kAt ks p)) (decide (p = 1))) = ks' at *
  simp only [wM, wS, eg, egu, ehd, heard_up] at hM hS
  obtain ⟨a, ha⟩ : ∃ a, (kAt ks p).up.length = a + 1 := ⟨_, (Nat.succ_pred_eq_of_pos hdl).symm⟩
  rw [ha] at hM hS
  rw [Nat.add_sub_cancel] at hM hS
  rw [show (a + 1) * p = a * p + p from Nat.succ_mul _ _] at hM
  by_cases hz : p = 1
  · rw [decide_eq_true hz, if_pos rfl] at hM hS
    generalize a * p = z1 at hM
    generalize (kAt ks p).down.length * (2 * N + 2 - p) = z2 at hM
    generalize (kAt ks (p - 1)).down.length * (2 * N + 2 - (p - 1)) = z3 at hM
    generalize (kAt ks (p - 1)).up.length * (p - 1) = z4 at hM
    omega
  · rw [decide_eq_false hz, if_neg Bool.false_ne_true] at hM hS
    rw [show ((kAt ks (p - 1)).up.length + 1) * (p - 1) = (kAt ks (p - 1)).up.length * (p - 1) + (p - 1) from Nat.succ_mul _ _] at hM
    generalize a * p = z1 at hM
    generalize (kAt ks p).down.length * (2 * N + 2 - p) = z2 at hM
    generalize (kAt ks (p - 1)).down.length * (2 * N + 2 - (p - 1)) = z3 at hM
    generalize (kAt ks (p - 1)).up.length * (p - 1) = z4 at hM
    omega
theorem steps_learn {ks : List Kp} {l nw : List Dd} (h : Inv ⟨ks, some l⟩) (hl : l.length < (lastOf ks).log.length) (hn : nw.length = l.length + 1) : stepsN (grownD ks nw) < stepsN ⟨ks, some l⟩ ∧ loadC (grownD ks nw) ≤ loadC ⟨ks, some l⟩ ∧ manyF (grownD ks nw) = manyF ⟨ks, some l⟩ := by
  have hc : coN ⟨ks, some l⟩ = (lastOf ks).log.length - l.length := rfl
  unfold grownD
  change stepsN (if nw.length = (lastOf ks).log.length then _ else _) < _ ∧ loadC (if nw.length = (lastOf ks).log.length then _ else _) ≤ _ ∧ manyF (if nw.length = (lastOf ks).log.length then _ else _) = _
  split
  · rename_i hz
    have eN : manyF ⟨ks ++ [⟨nw, nw.length, [], []⟩], none⟩ = manyF ⟨ks, some l⟩ := by
      unfold manyF
      dsimp only
      rw [List.length_append]; rfl
    refine ⟨?_, ?_, eN⟩
    · unfold stepsN
      rw [eN, hc]
      show sumK _ 0 (ks ++ [_]) + 0 < _
      rw [sumK_app]
      have e0 : wM (manyF ⟨ks, some l⟩) (0 + ks.length) ⟨nw, nw.length, [], []⟩ = 0 := by unfold wM; simp
      rw [e0]
      show sumK (wM (manyF ⟨ks, some l⟩)) 0 ks + 0 + 0 < sumK (wM (manyF ⟨ks, some l⟩)) 0 ks + _
      omega
    · unfold loadC
      show sumK _ 0 (ks ++ [_]) ≤ _
      rw [sumK_app]
      have e0 : wS (0 + ks.length) ⟨nw, nw.length, [], []⟩ = 0 := rfl
      rw [e0]; exact Nat.le_refl _
  · rename_i hz
    refine ⟨?_, Nat.le_refl _, rfl⟩
    show sumK (wM (manyF ⟨ks, some l⟩)) 0 ks + ((lastOf ks).log.length - nw.length) < sumK (wM (manyF ⟨ks, some l⟩)) 0 ks + ((lastOf ks).log.length - l.length)
    omega
theorem log0_pass {ks : List Kp} {p : Nat} (hp : p + 1 < ks.length) : (kAt (passK ks p) 0).log = (kAt ks 0).log := by
  rw [kAt_pass (by omega), if_neg (by omega)]
  by_cases h : 0 = p
  · rw [if_pos h, ← h]; rfl
  · rw [if_neg h]
theorem log0_back {ks : List Kp} {p : Nat} (h0 : 0 < p) (hp : p < ks.length) : (kAt (backK ks p) 0).log = (kAt ks 0).log := by
  rw [kAt_back (by omega) h0]
  by_cases h : 0 = p - 1
  · rw [if_pos h, ← h]; rfl
  · rw [if_neg h, if_neg (by omega)]
/-- what one step does -/
theorem step_all {c : Ch} {wd : Str} {p : Nat} (h : Inv c) (hc : Can c wd p) : Inv (stepC c wd p) ∧ stepsN (stepC c wd p) < stepsN c ∧ loadC (stepC c wd p) ≤ loadC c ∧ manyF (stepC c wd p) = manyF c ∧ (kAt (stepC c wd p).ks 0).log = (kAt c.ks 0).log := by
  refine ⟨inv_step h hc, ?_⟩
  unfold stepC
  rcases hc with ⟨rfl, h1, h2⟩ | ⟨rfl, h1, h2⟩ | ⟨rfl, h1, h2⟩
  · rw [if_pos rfl]
    have hp := h.pass_lt h1 h2
    have := steps_pass h hp h2
    exact ⟨this.1, this.2, by unfold manyF; dsimp only; rw [passK_len], log0_pass hp⟩
  · rw [if_neg (by decide), if_pos rfl]
    have h0 := h.back_pos h2
    have := steps_back h h0 h1 h2
    exact ⟨this.1, this.2, by unfold manyF; dsimp only; rw [backK_len], log0_back h0 h1⟩
  · rw [if_neg (by decide), if_neg (by decide)]
    obtain ⟨ks, co⟩ := c
    obtain ⟨l, e⟩ := Option.isSome_iff_exists.mp h2
    obtain rfl : co = some l := e
    obtain ⟨h3, h4, h5⟩ := h.co l rfl
    have := steps_learn h h5 (learnt_len (ks := ks) (l := l))
    refine ⟨this.1, this.2.1, this.2.2, ?_⟩
    unfold grownD
    split
    · show (kAt (ks ++ [_]) 0).log = _
      rw [kAt_app_lo (List.length_pos_iff.mpr h.ne)]
    · rfl
/-- where nothing can be done -/
theorem no_steps {c : Ch} (h : Inv c) (hs : stepsD c = []) : c = ⟨List.replicate (manyF c) ⟨(kAt c.ks 0).log, (kAt c.ks 0).log.length, [], []⟩, none⟩ := by
  have hno : ∀ wd p, ¬ Can c wd p := fun wd p hc => by
    have := steps_of_can hc
    rw [hs] at this
    cases this
  have hco : c.co = none := by
    cases e : c.co with
    | none => rfl
    | some l => exact absurd (.inr (.inr ⟨rfl, rfl, by rw [e]; rfl⟩)) (hno "learn" c.ks.length)
  have hd : ∀ i, i < c.ks.length → (kAt c.ks i).down = [] := fun i hi => Classical.byContradiction fun z => hno "pass" i (.inl ⟨rfl, hi, z⟩)
  have hu : ∀ i, i < c.ks.length → (kAt c.ks i).up = [] := fun i hi => Classical.byContradiction fun z => hno "back" i (.inr (.inl ⟨rfl, hi, z⟩))
  have hl : ∀ i, i < c.ks.length → (kAt c.ks i).log = (kAt c.ks 0).log ∧ (kAt c.ks i).sure = (kAt c.ks 0).sure := fun i => by
    induction i with
    | zero => exact fun _ => ⟨rfl, rfl⟩
    | succ i ih =>
      intro hi
      have L := h.lk i hi
      obtain ⟨e1, e2⟩ := ih (by omega)
      refine ⟨?_, ?_⟩
      · rw [← e1, L.log, hd i (by omega), List.append_nil]
      · rcases L.top with t | t
        · rw [t, e2]
        · rw [hu _ hi] at t; cases t
  have hpos : 0 < c.ks.length := List.length_pos_iff.mpr h.ne
  have hs0 : (kAt c.ks 0).sure = (kAt c.ks 0).log.length := by
    have := h.ls
    rw [(hl _ (by omega)).1, (hl _ (by omega)).2] at this
    exact this
  have hN : manyF c = c.ks.length := by unfold manyF; rw [hco]; rfl
  obtain ⟨ks, co⟩ := c
  obtain rfl : co = none := hco
  rw [hN]
  dsimp only at *
  congr 1
  refine List.eq_replicate_iff.mpr ⟨rfl, fun k hk => ?_⟩
  obtain ⟨i, hi, rfl⟩ := List.getElem_of_mem hk
  have e : ks[i] = kAt ks i := by
    unfold kAt
    rw [List.getD_eq_getElem?_getD, List.getElem?_eq_getElem hi]; rfl
  rw [e]
  have e1 := (hl i hi).1
  have e2 := (hl i hi).2
  have e3 := hd i hi
  have e4 := hu i hi
  generalize kAt ks i = k at e1 e2 e3 e4
  obtain ⟨a, b, c, d⟩ := k
  dsimp only at e1 e2 e3 e4
  rw [e1, e2, e3, e4, hs0]
theorem Inv.log_le {c : Ch} (h : Inv c) : ∀ i, i < c.ks.length → ∃ t, (kAt c.ks 0).log = (kAt c.ks i).log ++ t
  | 0, _ => ⟨[], (List.append_nil _).symm⟩
  | i + 1, hi => by
    obtain ⟨t, e⟩ := Inv.log_le h i (by omega)
    have L := (h.lk i hi).log
    rw [L, List.append_assoc] at e
    exact ⟨_, e⟩
/-- how large -/
theorem Inv.small {c : Ch} (h : Inv c) {m : Nat} (h9 : 9 ≤ m) (hl : (kAt c.ks 0).log.length ≤ m) (hd : ∀ d ∈ (kAt c.ks 0).log, d.ok) (hs : loadC c ≤ m) : c.small m := by
  have hg : ∀ k ∈ c.ks, ∃ i, i < c.ks.length ∧ k = kAt c.ks i := fun k hk => by
    obtain ⟨i, hi, rfl⟩ := List.getElem_of_mem hk
    refine ⟨i, hi, ?_⟩
    unfold kAt
    rw [List.getD_eq_getElem?_getD, List.getElem?_eq_getElem hi]; rfl
  have hb : ∀ i, i < c.ks.length → (kAt c.ks i).log.length ≤ m ∧ ∀ d ∈ (kAt c.ks i).log, d.ok := fun i hi => by
    obtain ⟨t, e⟩ := h.log_le i hi
    refine ⟨?_, fun d hd' => hd d (by rw [e]; exact List.mem_append_left _ hd')⟩
    have := congrArg List.length e
    rw [List.length_append] at this
    omega
  have hpos : 0 < c.ks.length := List.length_pos_iff.mpr h.ne
  refine ⟨by omega, Nat.le_trans h.n9 h9, fun k hk => ?_, fun l e => ?_⟩
  · obtain ⟨i, hi, rfl⟩ := hg k hk
    have hw := sumK_le wS (j := i) c.ks 0 hi
    change (kAt c.ks i).down.length + (kAt c.ks i).up.length ≤ loadC c at hw
    obtain ⟨h1, h2⟩ := hb i hi
    refine ⟨h1, by omega, by omega, h2, fun d hd' => ?_⟩
    by_cases hz : i + 1 < c.ks.length
    · exact h2 d (by rw [(h.lk i hz).log]; exact List.mem_append_right _ hd')
    · have := h.ld
      rw [show c.ks.length - 1 = i by omega] at this
      rw [this] at hd'; cases hd'
  · obtain ⟨h1, h2, h3⟩ := h.co l e
    obtain ⟨h4, h5⟩ := hb (c.ks.length - 1) (by omega)
    rw [lastOf_at h.ne] at h2 h3
    exact ⟨by omega, fun d hd' => h5 d (List.mem_of_mem_take (by rw [← h2]; exact hd'))⟩
theorem em_isD {te : TE} {Γ : List Sl} {S : List Nat} {d d' : PyData} (h : EvM te Γ S d) (e : d = d') : EvM te Γ S d' := e ▸ h
theorem chainL_smallM {m : Nat} {cells : List Int} {l : List Dd} {first : Int} (h9 : 9 ≤ m) (hz : l.length ≤ m) (hok : ∀ d ∈ l, d.ok) : (chainL cells l first).small m := by
  refine ⟨by omega, ?_, fun k hk => ?_, fun l' e => ?_⟩
  · show ((List.range (manyI first)).map (kpC cells l first)).length ≤ _
    rw [List.length_map, List.length_range]
    have := many_lo first
    omega
  · obtain ⟨i, _, rfl⟩ := List.mem_map.mp hk
    refine ⟨Nat.le_trans (cutG_le _ _ _) hz, Nat.le_trans (cutG_le _ _ _) hz, ?_, fun d hd => hok d (cutG_mem hd), fun d hd => hok d (cutG_mem hd)⟩
    show (upC cells l.length first i).length ≤ m
    unfold upC
    split
    · have := upsL_len ((moreL cells first).getD i 0 / 7 % 1000) (sureC cells l.length first (i - 1)) (sureC cells l.length first i)
      omega
    · simp
  · have e' : coC cells l first = some l' := e
    unfold coC at e'
    split at e'
    · cases e'
      exact ⟨Nat.le_trans (cutG_le _ _ _) hz, fun d hd => hok d (cutG_mem hd)⟩
    · cases e'
theorem sumK_mul {f : Nat → Kp → Nat} {b : Nat} : ∀ (ks : List Kp) (i : Nat), (∀ j, ∀ k ∈ ks, f j k ≤ b) → sumK f i ks ≤ ks.length * b
  | [], i, h => Nat.zero_le _
  | k :: ks, i, h => by
    have h1 := h i k List.mem_cons_self
    have h2 := sumK_mul ks (i + 1) fun j k' hk => h j k' (List.mem_cons_of_mem _ hk)
    show f i k + sumK f (i + 1) ks ≤ (ks.length + 1) * b
    rw [Nat.succ_mul]
    omega
theorem Ch.small.load {m : Nat} {c : Ch} (h : c.small m) (h9 : c.ks.length ≤ 9) : loadC c ≤ 9 * (2 * m) := by
  have h1 := sumK_mul (f := wS) (b := 2 * m) c.ks 0 fun j k hk => by
    obtain ⟨_, h2, h3, _⟩ := h.kp k hk
    show k.down.length + k.up.length ≤ _
    omega
  exact Nat.le_trans h1 (Nat.mul_le_mul_right _ h9)
end Ck

namespace Ck
open PySem PySem.Spec PyProof.Rows L2

/-! ### turns: each asker's deeds are counted -/
def Trn (l : List Dd) : Prop := ∀ (i : Nat) (d : Dd), l[i]? = some d → d.t = (((l.take i).filter fun x => decide (x.a = d.a)).length : Int) + 1
theorem Trn.take {l : List Dd} (h : Trn l) (n : Nat) : Trn (l.take n) := fun i d e => by
  have hi := (List.getElem?_eq_some_iff.mp e).1
  rw [List.length_take] at hi
  rw [List.getElem?_take_of_lt (by omega)] at e
  rw [List.take_take, Nat.min_eq_left (by omega)]
  exact h i d e
theorem Trn.pre {l t : List Dd} (h : Trn (l ++ t)) : Trn l := by
  have := h.take l.length
  rwa [List.take_left'] at this
  rfl
theorem Trn.lt {l : List Dd} (h : Trn l) {i j : Nat} {x y : Dd} (hx : l[i]? = some x) (hy : l[j]? = some y) (hij : i < j) (ha : x.a = y.a) : x.t < y.t := by
  have hi := (List.getElem?_eq_some_iff.mp hx).1
  rw [h i x hx, h j y hy, ha]
  have e : l.take j = l.take i ++ (x :: (l.take j).drop (i + 1)) := by
    have e1 : (l.take j)[i]? = some x := by rw [List.getElem?_take_of_lt hij]; exact hx
    obtain ⟨h1, h2⟩ := List.getElem?_eq_some_iff.mp e1
    have := (List.take_append_drop i (l.take j)).symm
    rw [List.take_take, Nat.min_eq_left (by omega), List.drop_eq_getElem_cons h1, h2] at this
    exact this
  rw [e, List.filter_append, List.length_append, List.filter_cons_of_pos (by simpa using ha)]
  simp only [List.length_cons]
  omega
theorem Trn.uniq {l : List Dd} (h : Trn l) {i j : Nat} {x y : Dd} (hx : l[i]? = some x) (hy : l[j]? = some y) (ha : x.a = y.a) (ht : x.t = y.t) : i = j := by
  rcases Nat.lt_trichotomy i j with z | z | z
  · have := h.lt hx hy z ha; omega
  · exact z
  · have := h.lt hy hx z ha.symm; omega
theorem Trn.snoc {l : List Dd} (h : Trn l) {d : Dd} (hd : d.t = ((l.filter fun x => decide (x.a = d.a)).length : Int) + 1) : Trn (l ++ [d]) := fun i x e => by
  by_cases hi : i < l.length
  · rw [List.getElem?_append_left hi] at e
    rw [List.take_append_of_le_length (by omega)]
    exact h i x e
  · have hi2 := (List.getElem?_eq_some_iff.mp e).1
    rw [List.length_append] at hi2
    have : i = l.length := by have : [d].length = 1 := rfl; omega
    subst this
    rw [List.getElem?_append_right (Nat.le_refl _), Nat.sub_self] at e
    cases e
    rw [List.take_left' rfl]
    exact hd
theorem Trn.nil : Trn [] := fun i d e => by cases e
theorem turns_count (cells : List Int) (keys : List Str) {a : Int} (h0 : 0 ≤ a) (h9 : a ≤ 9) : ∀ n : Nat, (turnsN cells n).getD a.toNat 0 = ((((List.range n).map (deedAt cells keys)).filter fun x => decide (x.a = a)).length : Int)
  | 0 => by
    show ([0, 0, 0, 0, 0, 0, 0, 0, 0, 0] : List Int).getD a.toNat 0 = 0
    obtain ⟨m, rfl⟩ : ∃ m : Nat, a = m := ⟨a.toNat, by omega⟩
    rw [Int.toNat_natCast]
    have : m ≤ 9 := by omega
    rcases m with _ | _ | _ | _ | _ | _ | _ | _ | _ | _ | m
    all_goals first | rfl | omega
  | n + 1 => by
    have ih := turns_count cells keys h0 h9 n
    rw [List.range_succ, List.map_append, List.filter_append, List.length_append, turnsN]
    have hl := turnsN_len cells n
    have hlo := asker_lo (mixed (cells.getD n 0) n)
    have hhi := asker_hi (mixed (cells.getD n 0) n)
    unfold bumpI
    rw [List.getD_eq_getElem?_getD, List.getElem?_set]
    have ea : (deedAt cells keys n).a = askerI (mixed (cells.getD n 0) n) := rfl
    by_cases e : askerI (mixed (cells.getD n 0) n) = a
    · rw [if_pos (by rw [e]), if_pos (by rw [e, hl]; omega)]
      show turnAt _ _ = _
      unfold turnAt
      rw [e, ih, List.map_singleton, List.filter_cons_of_pos (by rw [ea]; simpa using e)]
      rfl
    · rw [if_neg (by omega), ← List.getD_eq_getElem?_getD, ih, List.map_singleton, List.filter_cons_of_neg (by rw [ea]; simpa using e)]
      rfl
theorem trn_deedsL (cells : List Int) (keys : List Str) : Trn (deedsL cells keys) := fun i d e => by
  have hi := (List.getElem?_eq_some_iff.mp e).1
  rw [deedsL_len] at hi
  unfold deedsL at e ⊢
  rw [List.getElem?_map, List.getElem?_range hi] at e
  cases e
  rw [← List.map_take, List.take_range, Nat.min_eq_left (by omega)]
  have ea : (deedAt cells keys i).a = askerI (mixed (cells.getD i 0) i) := rfl
  rw [ea]
  have := turns_count cells keys (asker_lo (mixed (cells.getD i 0) i)) (asker_hi (mixed (cells.getD i 0) i)) i
  rw [← this]
  rfl
end Ck

namespace Ck
open PySem PySem.Spec PyProof.Rows L2

/-! ### what doings keep: a deed that is taken, a keeper that falls, a new one -/
theorem kAt_cons0 {k : Kp} {ks : List Kp} : kAt (k :: ks) 0 = k := rfl
theorem kAt_consS {k : Kp} {ks : List Kp} {j : Nat} : kAt (k :: ks) (j + 1) = kAt ks j := rfl
theorem sumK_cat (f : Nat → Kp → Nat) : ∀ (a b : List Kp) (i : Nat), sumK f i (a ++ b) = sumK f i a + sumK f (i + a.length) b
  | [], b, i => by show sumK f i b = 0 + sumK f (i + 0) b; simp
  | k :: a, b, i => by
    show f i k + sumK f (i + 1) (a ++ b) = f i k + sumK f (i + 1) a + sumK f (i + (a.length + 1)) b
    rw [sumK_cat f a b (i + 1), show i + (a.length + 1) = i + 1 + a.length by omega]
    omega
theorem sumW_at : ∀ (ks : List Kp) (i : Nat), sumK wS i ks = sumK wS 0 ks
  | [], i => rfl
  | k :: ks, i => by
    show wS i k + sumK wS (i + 1) ks = wS 0 k + sumK wS 1 ks
    rw [sumW_at ks (i + 1), sumW_at ks 1]; rfl
/-! a deed is taken -/
theorem inv_take {k : Kp} {ks : List Kp} {co : Option (List Dd)} {d : Dd} (h : Inv ⟨k :: ks, co⟩) : Inv ⟨atEnd k d ks.isEmpty :: ks, co⟩ ∧ loadC ⟨atEnd k d ks.isEmpty :: ks, co⟩ ≤ loadC ⟨k :: ks, co⟩ + 1 ∧ (atEnd k d ks.isEmpty).log = k.log ++ [d] := by
  obtain ⟨ne, n9, fu, ld, ls, s0, lk, hco⟩ := h
  have elog : (atEnd k d ks.isEmpty).log = k.log ++ [d] := by unfold atEnd; split <;> rfl
  have eup : (atEnd k d ks.isEmpty).up = k.up := by unfold atEnd; split <;> rfl
  refine ⟨?_, ?_, elog⟩
  · cases ks with
    | nil =>
      change k.up = [] at fu
      change k.down = [] at ld
      change k.sure = k.log.length at ls
      refine ⟨by simp, n9, ?_, rfl, ?_, ?_, fun i hi => ?_, fun l e => ?_⟩
      · exact fu
      · show ((k.log.length : Int) + 1) = (k.log ++ [d]).length
        rw [List.length_append]; rfl
      · show 0 ≤ (k.log.length : Int) + 1
        omega
      · exact absurd hi (by show ¬ i + 1 < 1; omega)
      · obtain ⟨h1, h2, h3⟩ := hco l e
        change l = k.log.take l.length at h2
        change l.length < k.log.length at h3
        refine ⟨h1, ?_⟩
        show l = (k.log ++ [d]).take l.length ∧ l.length < (k.log ++ [d]).length
        rw [List.take_append_of_le_length (by omega), List.length_append]
        exact ⟨h2, by omega⟩
    | cons b bs =>
      have hlen : (k :: b :: bs).length = bs.length + 2 := rfl
      have elast : ∀ x : Kp, kAt (x :: b :: bs) (bs.length + 1) = kAt (b :: bs) bs.length := fun x => rfl
      change (kAt (k :: b :: bs) (bs.length + 1)).down = [] at ld
      change (kAt (k :: b :: bs) (bs.length + 1)).sure = (kAt (k :: b :: bs) (bs.length + 1)).log.length at ls
      have hlo : ∀ x : Kp, lastOf (x :: b :: bs) = kAt (b :: bs) bs.length := fun x => by
        rw [lastOf_at (by simp)]; rfl
      refine ⟨by simp, n9, fu, ld, ls, s0, fun i hi => ?_, fun l e => ?_⟩
      · cases i with
        | zero =>
          have L : Link k b := lk 0 (by show 1 < bs.length + 2; omega)
          refine ⟨?_, L.sure, L.mono, L.le, L.top⟩
          show k.log ++ [d] = b.log ++ (k.down ++ [d])
          rw [L.log, List.append_assoc]
        | succ i => exact lk (i + 1) hi
      · have := hco l e
        rw [hlo] at this
        show _ ∧ l = (lastOf (_ :: b :: bs)).log.take l.length ∧ _ < (lastOf (_ :: b :: bs)).log.length
        rw [hlo]
        exact this
  · show wS 0 (atEnd k d ks.isEmpty) + sumK wS 1 ks ≤ wS 0 k + sumK wS 1 ks + 1
    have : wS 0 (atEnd k d ks.isEmpty) ≤ wS 0 k + 1 := by
      unfold wS
      rw [eup]
      unfold atEnd
      split
      · show 0 + k.up.length ≤ _; omega
      · show (k.down ++ [d]).length + k.up.length ≤ _
        rw [List.length_append]
        show k.down.length + 1 + _ ≤ _
        omega
    omega
/-! a keeper falls -/
theorem kAt_left {ks : List Kp} {p j : Nat} (hp : p < ks.length) (hj : j + 1 < ks.length) : kAt (leftK ks p) j = if j < p then kAt ks j else kAt ks (j + 1) := by
  by_cases h : j < p
  · rw [if_pos h]
    have := leftK_lo (ks := ks) h hp
    unfold kAt at this ⊢
    rw [List.getD_eq_getElem?_getD, this]; rfl
  · rw [if_neg h]
    have := leftK_hi (ks := ks) (p := p) (i := j) (by omega) hj
    unfold kAt at this ⊢
    rw [List.getD_eq_getElem?_getD, this]; rfl
theorem fallK_len2 {ks : List Kp} {p : Nat} (hp : p < ks.length) : (fallK ks p).length = ks.length - 1 := by
  unfold fallK
  split
  · rw [List.length_set, leftK_len hp]
  · split
    · rw [List.length_set, leftK_len hp]
    · rw [List.length_set, List.length_set, leftK_len hp]
theorem kAt_fall {ks : List Kp} {p j : Nat} (hp : p < ks.length) (hj : j + 1 < ks.length) : kAt (fallK ks p) j =
    if p = 0 then (if j = 0 then noUp (kAt ks 1) else kAt ks (j + 1))
    else if p + 1 = ks.length then (if j = p - 1 then lastK (kAt ks (p - 1)) (decide (p = 1)) else kAt ks j)
    else if j = p then joinB (kAt ks (p + 1)) else if j = p - 1 then joinA (kAt ks (p - 1)) (kAt ks (p + 1)) else if j < p then kAt ks j else kAt ks (j + 1) := by
  have hl := leftK_len hp
  unfold fallK
  by_cases h0 : p = 0
  · rw [if_pos h0, if_pos h0, kAt_set (by omega), kAt_left hp hj]
    by_cases h1 : j = 0
    · rw [if_pos h1.symm, if_pos h1]
    · rw [if_neg (fun z => h1 z.symm), if_neg h1, if_neg (by omega)]
  · rw [if_neg h0, if_neg h0]
    by_cases h2 : p + 1 = ks.length
    · rw [if_pos h2, if_pos h2, kAt_set (by omega), kAt_left hp hj]
      by_cases h1 : j = p - 1
      · rw [if_pos h1.symm, if_pos h1]
      · rw [if_neg (fun z => h1 z.symm), if_neg h1, if_pos (by omega)]
    · rw [if_neg h2, if_neg h2, kAt_set (by rw [List.length_set]; omega), kAt_set (by omega), kAt_left hp hj]
      by_cases h1 : j = p
      · rw [if_pos h1.symm, if_pos h1]
      · rw [if_neg (fun z => h1 z.symm), if_neg h1]
        by_cases h3 : j = p - 1
        · rw [if_pos h3.symm, if_pos h3]
        · rw [if_neg (fun z => h3 z.symm), if_neg h3]
theorem left_load {ks : List Kp} {p : Nat} (hp : p < ks.length) : sumK wS 0 (leftK ks p) + wS 0 (kAt ks p) = sumK wS 0 ks := by
  have e : ks = ks.take p ++ (kAt ks p :: ks.drop (p + 1)) := by
    have h := (List.take_append_drop p ks).symm
    rw [List.drop_eq_getElem_cons hp] at h
    have ek : ks[p] = kAt ks p := by
      unfold kAt
      rw [List.getD_eq_getElem?_getD, List.getElem?_eq_getElem hp]; rfl
    rw [ek] at h
    exact h
  conv => rhs; rw [e]
  unfold leftK
  rw [sumK_cat, sumK_cat, sumW_at (ks.drop (p + 1)), sumW_at (kAt ks p :: ks.drop (p + 1))]
  show _ + _ + _ = _ + (wS 0 (kAt ks p) + sumK wS 1 (ks.drop (p + 1)))
  rw [sumW_at (ks.drop (p + 1)) 1]
  omega
theorem inv_fall {ks : List Kp} {co : Option (List Dd)} {p : Nat} (h : Inv ⟨ks, co⟩) (hp : p < ks.length) (h1 : 1 < ks.length) : Inv ⟨fallK ks p, co⟩ ∧ loadC ⟨fallK ks p, co⟩ ≤ loadC ⟨ks, co⟩ + 1 ∧ ∃ t, (kAt ks 0).log = (kAt (fallK ks p) 0).log ++ t := by
  have hI := h
  obtain ⟨ne, n9, fu, ld, ls, s0, lk, hco⟩ := h
  dsimp only at ne n9 fu ld ls s0 lk hco
  have hF : ∀ {j}, j + 1 < ks.length → kAt (fallK ks p) j = _ := fun h => kAt_fall hp h
  have hl := fallK_len2 hp
  have hne : fallK ks p ≠ [] := fun z => by rw [z] at hl; simp at hl; omega
  have hll := leftK_len hp
  have hload := left_load hp
  have hlast0 : lastOf ks = kAt ks (ks.length - 1) := lastOf_at ne
  have hlastF : lastOf (fallK ks p) = kAt (fallK ks p) (ks.length - 2) := by rw [lastOf_at hne, hl]; rfl
  by_cases h0 : p = 0
  · -- the first one
    subst h0
    have hG : ∀ {j}, j + 1 < ks.length → kAt (fallK ks 0) j = if j = 0 then noUp (kAt ks 1) else kAt ks (j + 1) := fun h => by rw [hF h, if_pos rfl]
    have L0 := lk 0 (by omega)
    have e0 := hG (j := 0) (by omega)
    rw [if_pos rfl] at e0
    have ek : ∀ {j}, j + 1 < ks.length → (kAt (fallK ks 0) j).log = (kAt ks (j + 1)).log ∧ (kAt (fallK ks 0) j).sure = (kAt ks (j + 1)).sure ∧ (kAt (fallK ks 0) j).down = (kAt ks (j + 1)).down := fun {j} hj => by
      rw [hG hj]
      by_cases z : j = 0
      · rw [if_pos z, z]; exact ⟨rfl, rfl, rfl⟩
      · rw [if_neg z]; exact ⟨rfl, rfl, rfl⟩
    refine ⟨⟨hne, by show (fallK ks 0).length ≤ 9; omega, by show (kAt (fallK ks 0) 0).up = []; rw [e0]; rfl, ?_, ?_, ?_, fun i hi => ?_, fun l e => ?_⟩, ?_, ?_⟩
    · show (kAt (fallK ks 0) ((fallK ks 0).length - 1)).down = []
      rw [hl, (ek (by omega)).2.2, show ks.length - 1 - 1 + 1 = ks.length - 1 by omega]; exact ld
    · show (kAt (fallK ks 0) ((fallK ks 0).length - 1)).sure = (kAt (fallK ks 0) ((fallK ks 0).length - 1)).log.length
      rw [hl, (ek (by omega)).1, (ek (by omega)).2.1, show ks.length - 1 - 1 + 1 = ks.length - 1 by omega]; exact ls
    · show 0 ≤ (kAt (fallK ks 0) 0).sure
      rw [(ek (by omega)).2.1]
      exact hI.sure_nn 1 h1
    · have hi' : i + 2 < ks.length := by
        have : i + 1 < (fallK ks 0).length := hi
        omega
      show Link (kAt (fallK ks 0) i) (kAt (fallK ks 0) (i + 1))
      have L := lk (i + 1) hi'
      have e1 := hG (j := i + 1) hi'
      rw [if_neg (by omega)] at e1
      obtain ⟨a1, a2, a3⟩ := ek (j := i) (by omega)
      exact ⟨by rw [a1, a3, e1]; exact L.log, by rw [a2, e1]; exact L.sure, by rw [e1]; exact L.mono, by rw [e1]; exact L.le, by rw [a2, e1]; exact L.top⟩
    · obtain ⟨c1, c2, c3⟩ := hco l e
      refine ⟨by show (fallK ks 0).length < 9; omega, ?_⟩
      show l = (lastOf (fallK ks 0)).log.take l.length ∧ l.length < (lastOf (fallK ks 0)).log.length
      rw [hlastF, (ek (by omega)).1, show ks.length - 2 + 1 = ks.length - 1 by omega, ← hlast0]
      exact ⟨c2, c3⟩
    · show sumK wS 0 (fallK ks 0) ≤ sumK wS 0 ks + 1
      have hs := sumK_set wS (noUp (kAt ks 1)) (leftK ks 0) 0 0 (by omega)
      rw [kAt_left hp (by omega), if_neg (by omega)] at hs
      have e2 : fallK ks 0 = (leftK ks 0).set 0 (noUp (kAt ks 1)) := by unfold fallK; rw [if_pos rfl]
      rw [e2]
      have e3 : wS (0 + 0) (noUp (kAt ks 1)) ≤ wS (0 + 0) (kAt ks (0 + 1)) := by
        show (kAt ks 1).down.length + 0 ≤ (kAt ks 1).down.length + _
        omega
      omega
    · refine ⟨(kAt ks 0).down, ?_⟩
      rw [(ek (by omega)).1]; exact L0.log
  have hpre : (kAt (fallK ks p) 0).log = (kAt ks 0).log := by
    rw [hF (by omega), if_neg h0]
    by_cases h2 : p + 1 = ks.length
    · rw [if_pos h2]
      by_cases z : 0 = p - 1
      · rw [if_pos z, ← z]; rfl
      · rw [if_neg z]
    · rw [if_neg h2, if_neg (fun z => h0 z.symm)]
      by_cases z : 0 = p - 1
      · rw [if_pos z, ← z]; rfl
      · rw [if_neg z, if_pos (by omega)]
  by_cases h2 : p + 1 = ks.length
  · -- the last one
    have hG : ∀ {j}, j + 1 < ks.length → kAt (fallK ks p) j = if j = p - 1 then lastK (kAt ks (p - 1)) (decide (p = 1)) else kAt ks j := fun h => by rw [hF h, if_neg h0, if_pos h2]
    have L1 := lk (p - 1) (by omega)
    rw [show p - 1 + 1 = p by omega] at L1
    have el : (kAt ks p).log.length ≤ (kAt ks (p - 1)).log.length := by rw [L1.log, List.length_append]; omega
    have es : (kAt ks p).sure = (kAt ks p).log.length := by rw [show p = ks.length - 1 by omega]; exact ls
    have esl : (kAt ks (p - 1)).sure ≤ (kAt ks (p - 1)).log.length := by have := L1.sure; omega
    refine ⟨⟨hne, by show (fallK ks p).length ≤ 9; omega, ?_, ?_, ?_, ?_, fun i hi => ?_, fun l e => ?_⟩, ?_, ⟨[], by rw [hpre, List.append_nil]⟩⟩
    · show (kAt (fallK ks p) 0).up = []
      rw [hG (by omega)]
      by_cases z : 0 = p - 1
      · rw [if_pos z, decide_eq_true (by omega), ← z]; exact fu
      · rw [if_neg z]; exact fu
    · show (kAt (fallK ks p) ((fallK ks p).length - 1)).down = []
      rw [hl, hG (by omega), if_pos (by omega)]; rfl
    · show (kAt (fallK ks p) ((fallK ks p).length - 1)).sure = (kAt (fallK ks p) ((fallK ks p).length - 1)).log.length
      rw [hl, hG (by omega), if_pos (by omega)]; rfl
    · show 0 ≤ (kAt (fallK ks p) 0).sure
      rw [hG (by omega)]
      by_cases z : 0 = p - 1
      · rw [if_pos z]; show (0 : Int) ≤ ((kAt ks (p - 1)).log.length : Int); omega
      · rw [if_neg z]; exact s0
    · have hi' : i + 2 < ks.length := by
        have : i + 1 < (fallK ks p).length := hi
        omega
      show Link (kAt (fallK ks p) i) (kAt (fallK ks p) (i + 1))
      have L := lk i (by omega)
      rw [hG (by omega), hG (by omega), if_neg (by omega)]
      by_cases z : i + 1 = p - 1
      · rw [if_pos z, decide_eq_false (by omega)]
        rw [z] at L
        have hm : ∀ x ∈ (kAt ks (p - 1)).up, x ≤ ((kAt ks (p - 1)).log.length : Int) := fun x hx => by have := L.le x hx; omega
        refine ⟨L.log, ?_, ?_, ?_, ?_⟩
        · show _ ≤ ((kAt ks (p - 1)).log.length : Int)
          have := L.sure; omega
        · show ((kAt ks (p - 1)).up ++ [_]).Pairwise (· ≤ ·)
          refine List.pairwise_append.mpr ⟨L.mono, List.pairwise_singleton _ _, fun x hx y hy => ?_⟩
          rw [List.mem_singleton.mp hy]; exact hm x hx
        · intro x hx
          show x ≤ ((kAt ks (p - 1)).log.length : Int)
          rcases List.mem_append.mp hx with hx | hx
          · exact hm x hx
          · rw [List.mem_singleton.mp hx]; exact Int.le_refl _
        · exact .inr (List.mem_append_right _ (List.mem_singleton.mpr rfl))
      · rw [if_neg z]; exact L
    · obtain ⟨c1, c2, c3⟩ := hco l e
      refine ⟨by show (fallK ks p).length < 9; omega, ?_⟩
      show l = (lastOf (fallK ks p)).log.take l.length ∧ l.length < (lastOf (fallK ks p)).log.length
      rw [hlastF, hG (by omega), if_pos (by omega)]
      show l = (kAt ks (p - 1)).log.take l.length ∧ l.length < (kAt ks (p - 1)).log.length
      rw [hlast0, show ks.length - 1 = p by omega] at c2 c3
      rw [L1.log, List.take_append_of_le_length (by omega), List.length_append]
      exact ⟨c2, by omega⟩
    · show sumK wS 0 (fallK ks p) ≤ sumK wS 0 ks + 1
      have hs := sumK_set wS (lastK (kAt ks (p - 1)) (decide (p = 1))) (leftK ks p) 0 (p - 1) (by omega)
      rw [kAt_left hp (by omega), if_pos (by omega)] at hs
      have e2 : fallK ks p = (leftK ks p).set (p - 1) (lastK (kAt ks (p - 1)) (decide (p = 1))) := by unfold fallK; rw [if_neg h0, if_pos h2]
      rw [e2]
      have e3 : wS (0 + (p - 1)) (lastK (kAt ks (p - 1)) (decide (p = 1))) ≤ wS (0 + (p - 1)) (kAt ks (p - 1)) + 1 := by
        unfold wS lastK
        dsimp only
        split
        · show 0 + _ ≤ _; omega
        · rw [List.length_append]
          show 0 + (_ + 1) ≤ _; omega
      omega
  · -- one between
    have hG : ∀ {j}, j + 1 < ks.length → kAt (fallK ks p) j = if j = p then joinB (kAt ks (p + 1)) else if j = p - 1 then joinA (kAt ks (p - 1)) (kAt ks (p + 1)) else if j < p then kAt ks j else kAt ks (j + 1) := fun h => by rw [hF h, if_neg h0, if_neg h2]
    have L1 := lk (p - 1) (by omega)
    rw [show p - 1 + 1 = p by omega] at L1
    have L2 := lk p (by omega)
    have edn : (kAt ks (p - 1)).log.drop (kAt ks (p + 1)).log.length = (kAt ks p).down ++ (kAt ks (p - 1)).down := by
      rw [L1.log, L2.log, List.append_assoc, List.drop_left' rfl]
    have elast : ∀ {j}, j + 1 < ks.length → p ≤ j → (kAt (fallK ks p) j).log = (kAt ks (j + 1)).log ∧ (kAt (fallK ks p) j).sure = (kAt ks (j + 1)).sure ∧ (kAt (fallK ks p) j).down = (kAt ks (j + 1)).down := fun {j} hj hpj => by
      rw [hG hj]
      by_cases z : j = p
      · rw [if_pos z, z]; exact ⟨rfl, rfl, rfl⟩
      · rw [if_neg z, if_neg (by omega), if_neg (by omega)]; exact ⟨rfl, rfl, rfl⟩
    refine ⟨⟨hne, by show (fallK ks p).length ≤ 9; omega, ?_, ?_, ?_, ?_, fun i hi => ?_, fun l e => ?_⟩, ?_, ⟨[], by rw [hpre, List.append_nil]⟩⟩
    · show (kAt (fallK ks p) 0).up = []
      rw [hG (by omega), if_neg (fun z => h0 z.symm)]
      by_cases z : 0 = p - 1
      · rw [if_pos z, ← z]; exact fu
      · rw [if_neg z, if_pos (by omega)]; exact fu
    · show (kAt (fallK ks p) ((fallK ks p).length - 1)).down = []
      rw [hl, (elast (by omega) (by omega)).2.2, show ks.length - 1 - 1 + 1 = ks.length - 1 by omega]; exact ld
    · show (kAt (fallK ks p) ((fallK ks p).length - 1)).sure = (kAt (fallK ks p) ((fallK ks p).length - 1)).log.length
      rw [hl, (elast (by omega) (by omega)).1, (elast (by omega) (by omega)).2.1, show ks.length - 1 - 1 + 1 = ks.length - 1 by omega]; exact ls
    · show 0 ≤ (kAt (fallK ks p) 0).sure
      rw [hG (by omega), if_neg (fun z => h0 z.symm)]
      by_cases z : 0 = p - 1
      · rw [if_pos z, ← z]; exact s0
      · rw [if_neg z, if_pos (by omega)]; exact s0
    · have hi' : i + 2 < ks.length := by
        have : i + 1 < (fallK ks p).length := hi
        omega
      show Link (kAt (fallK ks p) i) (kAt (fallK ks p) (i + 1))
      by_cases z1 : i = p - 1
      · rw [hG (by omega), hG (by omega), if_neg (by omega), if_pos z1, if_pos (by omega)]
        refine ⟨?_, Int.le_trans L1.sure L2.sure, List.pairwise_singleton _ _, ?_, .inr (List.mem_singleton.mpr rfl)⟩
        · show (kAt ks (p - 1)).log = (kAt ks (p + 1)).log ++ (kAt ks (p - 1)).log.drop (kAt ks (p + 1)).log.length
          rw [edn, L1.log, L2.log, List.append_assoc]
        · intro x hx
          rw [List.mem_singleton.mp hx]; exact Int.le_refl _
      · by_cases z2 : i < p
        · have L := lk i (by omega)
          rw [hG (by omega), if_neg (by omega), if_neg z1, if_pos z2, hG (by omega), if_neg (by omega)]
          by_cases z3 : i + 1 = p - 1
          · rw [if_pos z3]
            rw [z3] at L
            exact ⟨L.log, L.sure, L.mono, L.le, L.top⟩
          · rw [if_neg z3, if_pos (by omega)]; exact L
        · have L := lk (i + 1) hi'
          obtain ⟨a1, a2, a3⟩ := elast (j := i) (by omega) (by omega)
          have e1 : kAt (fallK ks p) (i + 1) = kAt ks (i + 2) := by
            rw [hG hi', if_neg (by omega), if_neg (by omega), if_neg (by omega)]
          exact ⟨by rw [a1, a3, e1]; exact L.log, by rw [a2, e1]; exact L.sure, by rw [e1]; exact L.mono, by rw [e1]; exact L.le, by rw [a2, e1]; exact L.top⟩
    · obtain ⟨c1, c2, c3⟩ := hco l e
      refine ⟨by show (fallK ks p).length < 9; omega, ?_⟩
      show l = (lastOf (fallK ks p)).log.take l.length ∧ l.length < (lastOf (fallK ks p)).log.length
      rw [hlastF, (elast (by omega) (by omega)).1, show ks.length - 2 + 1 = ks.length - 1 by omega, ← hlast0]
      exact ⟨c2, c3⟩
    · show sumK wS 0 (fallK ks p) ≤ sumK wS 0 ks + 1
      have hs := set2 (f := wS) (ks := leftK ks p) (p := p - 1) (q := p) (x := joinA (kAt ks (p - 1)) (kAt ks (p + 1))) (y := joinB (kAt ks (p + 1))) (by omega) (by omega) (by omega)
      rw [kAt_left hp (by omega), if_pos (by omega), kAt_left hp (by omega), if_neg (by omega)] at hs
      have e2 : fallK ks p = ((leftK ks p).set (p - 1) (joinA (kAt ks (p - 1)) (kAt ks (p + 1)))).set p (joinB (kAt ks (p + 1))) := by unfold fallK; rw [if_neg h0, if_neg h2]
      rw [e2]
      have e3 : wS (p - 1) (joinA (kAt ks (p - 1)) (kAt ks (p + 1))) = (kAt ks p).down.length + wS (p - 1) (kAt ks (p - 1)) := by
        show ((kAt ks (p - 1)).log.drop (kAt ks (p + 1)).log.length).length + (kAt ks (p - 1)).up.length = _
        rw [edn, List.length_append]
        unfold wS; omega
      have e4 : wS p (joinB (kAt ks (p + 1))) ≤ wS p (kAt ks (p + 1)) + 1 := by
        show (kAt ks (p + 1)).down.length + 1 ≤ (kAt ks (p + 1)).down.length + _ + 1
        omega
      have e5 : (kAt ks p).down.length ≤ wS 0 (kAt ks p) := Nat.le_add_right _ _
      omega
end Ck

namespace Ck
open PySem PySem.Spec PyProof.Rows L2

/-! ### quiet -/
/-- what is kept on the way to quiet -/
structure Qb (L : List Dd) (N : Nat) (c : Ch) : Prop where
  inv : Inv c
  log : (kAt c.ks 0).log = L
  many : manyF c = N
  load : loadC c ≤ 900
  ll : L.length ≤ 900
  ld : ∀ d ∈ L, d.ok
theorem Qb.small {L : List Dd} {N : Nat} {c : Ch} (h : Qb L N c) : c.small 900 := h.inv.small (by decide) (by rw [h.log]; exact h.ll) (by rw [h.log]; exact h.ld) h.load
theorem Qb.ok {L : List Dd} {N : Nat} {c : Ch} (h : Qb L N c) : c.ok := h.small.ok (by decide)
theorem Qb.step {L : List Dd} {N : Nat} {c : Ch} {wd : Str} {p : Nat} (h : Qb L N c) (hc : Can c wd p) : Qb L N (stepC c wd p) ∧ stepsN (stepC c wd p) < stepsN c := by
  obtain ⟨h1, h2, h3, h4, h5⟩ := step_all h.inv hc
  exact ⟨⟨h1, h5.trans h.log, h4.trans h.many, Nat.le_trans h3 h.load, h.ll, h.ld⟩, h2⟩
def quietC (c : Ch) : Ch := ⟨List.replicate (manyF c) ⟨(kAt c.ks 0).log, (kAt c.ks 0).log.length, [], []⟩, none⟩
def R_quiet (ds : List PyData) (o : Oc) : Prop := ∃ c : Ch, ds = [c.e] ∧ Qb (kAt c.ks 0).log (manyF c) c ∧ o = .ok (quietC c).e
section
variable {K : PySem.W.Frag} {Γ : List Sl} {ta tb tc td : TE} {E : XK}
theorem em_quiet {c : Ch} (h : Ev ta Γ c.e) (hc : Qb (kAt c.ks 0).log (manyF c) c) : EvM (tCall (spW WO K 1 R_quiet) [] E (tCons ta tNil)) Γ [] (quietC c).e := em_callW (ea_cons h ea_nil) rfl ⟨c, rfl, hc, rfl⟩
end
theorem many10 {c : Ch} (h : Inv c) : manyF c ≤ 9 := by
  have h9 := h.n9
  unfold manyF
  split
  · rename_i hc
    obtain ⟨l, e⟩ := Option.isSome_iff_exists.mp hc
    have := (h.co l e).1
    omega
  · omega
theorem many_pos {c : Ch} (h : Inv c) : 0 < manyF c := Nat.lt_of_lt_of_le (List.length_pos_iff.mpr h.ne) (Nat.le_add_right _ _)
theorem kAt_rep {n i : Nat} {k : Kp} (h : i < n) : kAt (List.replicate n k) i = k := by
  unfold kAt
  rw [List.getD_eq_getElem?_getD, List.getElem?_replicate, if_pos h]; rfl
theorem inv_rep {n : Nat} {l : List Dd} (h0 : 0 < n) (h9 : n ≤ 9) : Inv ⟨List.replicate n ⟨l, l.length, [], []⟩, none⟩ := by
  have hk : ∀ {i}, i < n → kAt (List.replicate n (⟨l, l.length, [], []⟩ : Kp)) i = ⟨l, l.length, [], []⟩ := fun h => kAt_rep h
  have hl : (List.replicate n (⟨l, l.length, [], []⟩ : Kp)).length = n := List.length_replicate
  refine ⟨fun z => ?_, ?_, ?_, ?_, ?_, ?_, fun i hi => ?_, fun l' e => by cases e⟩
  · have := congrArg List.length z
    dsimp only at this
    rw [hl] at this
    exact absurd this (by show n ≠ 0; omega)
  · show (List.replicate n _).length ≤ 9
    rw [hl]; exact h9
  · show (kAt (List.replicate n _) 0).up = []
    rw [hk h0]
  · show (kAt (List.replicate n _) ((List.replicate n _).length - 1)).down = []
    rw [hl, hk (by omega)]
  · show (kAt (List.replicate n _) ((List.replicate n _).length - 1)).sure = (kAt (List.replicate n _) ((List.replicate n _).length - 1)).log.length
    rw [hl, hk (by omega)]
  · show 0 ≤ (kAt (List.replicate n _) 0).sure
    rw [hk h0]; show (0 : Int) ≤ (l.length : Int); omega
  · have hi' : i + 1 < n := by
      have : i + 1 < (List.replicate n _).length := hi
      rw [hl] at this; exact this
    show Link (kAt (List.replicate n _) i) (kAt (List.replicate n _) (i + 1))
    rw [hk (by omega), hk hi']
    exact ⟨(List.append_nil _).symm, Int.le_refl _, List.Pairwise.nil, (fun x hx => by cases hx), .inl rfl⟩
theorem load_rep {n : Nat} {l : List Dd} {s : Int} : ∀ i, sumK wS i (List.replicate n ⟨l, s, [], []⟩) = 0 := by
  induction n with
  | zero => intro i; rfl
  | succ n ih =>
    intro i
    rw [List.replicate_succ]
    show 0 + sumK wS (i + 1) _ = 0
    rw [ih]
/-! ### doings -/
inductive Dg
  | step (w : Str) (p : Nat)
  | fall (p : Nat)
  | come
  | quiet
  | take (d : Dd)
def Dg.e : Dg → PyData
  | .step w p => stp w p
  | .fall p => .tuple [.str "fall", .int p]
  | .come => .tuple [.str "come", .int 0]
  | .quiet => .tuple [.str "quiet", .int 0]
  | .take d => .tuple [.str "take", d.e]
def cntD (a : Int) (l : List Dd) : Nat := (l.filter fun x => decide (x.a = a)).length
def Fit (c : Ch) : Dg → Prop
  | .step w p => Can c w p
  | .fall p => (p < c.ks.length ∧ 1 < c.ks.length) ∨ (p = c.ks.length ∧ c.co.isSome = true)
  | .come => c.co = none ∧ c.ks.length < 9
  | .quiet => True
  | .take d => d.ok ∧ (d.t = (cntD d.a (kAt c.ks 0).log : Int) + 1 ∨ d ∈ (kAt c.ks 0).log)
def takeC (c : Ch) (d : Dd) : Ch := match c.ks with
  | [] => c
  | k :: ks => if d.t ≤ (cntD d.a k.log : Int) then c else ⟨atEnd k d ks.isEmpty :: ks, c.co⟩
def fallC (c : Ch) (p : Nat) : Ch := if p = c.ks.length ∧ c.co.isSome then ⟨c.ks, none⟩ else ⟨fallK c.ks p, c.co⟩
def did (c : Ch) : Dg → Ch
  | .step w p => stepC c w p
  | .fall p => fallC c p
  | .come => grownD c.ks []
  | .quiet => quietC c
  | .take d => takeC c d
structure Good (n : Nat) (c : Ch) : Prop where
  inv : Inv c
  trn : Trn (kAt c.ks 0).log
  ok : ∀ d ∈ (kAt c.ks 0).log, d.ok
  ll : (kAt c.ks 0).log.length ≤ n
  load : loadC c ≤ n
theorem Good.small {n : Nat} {c : Ch} (h : Good n c) (h9 : 9 ≤ n) : c.small n := h.inv.small h9 h.ll h.ok h.load
theorem Good.up {n m : Nat} {c : Ch} (h : Good n c) (hm : n ≤ m) : Good m c := ⟨h.inv, h.trn, h.ok, Nat.le_trans h.ll hm, Nat.le_trans h.load hm⟩
theorem Good.qb {n : Nat} {c : Ch} (h : Good n c) (hn : n ≤ 900) : Qb (kAt c.ks 0).log (manyF c) c := ⟨h.inv, rfl, rfl, Nat.le_trans h.load hn, Nat.le_trans h.ll hn, h.ok⟩
theorem Good.cok {n : Nat} {c : Ch} (h : Good n c) (hn : n ≤ 900) : c.ok := (h.qb hn).ok
theorem good_quiet {n : Nat} {c : Ch} (h : Good n c) : Good n (quietC c) := by
  have hk : kAt (quietC c).ks 0 = ⟨(kAt c.ks 0).log, (kAt c.ks 0).log.length, [], []⟩ := kAt_rep (many_pos h.inv)
  refine ⟨inv_rep (many_pos h.inv) (many10 h.inv), ?_, ?_, ?_, ?_⟩
  · rw [hk]; exact h.trn
  · rw [hk]; exact h.ok
  · rw [hk]; exact h.ll
  · show sumK wS 0 (List.replicate _ _) ≤ n
    rw [load_rep]; exact Nat.zero_le _
theorem kAt_head {c : Ch} {k : Kp} {ks : List Kp} (e : c.ks = k :: ks) : kAt c.ks 0 = k := by rw [e]; rfl
theorem cnt_take_lt {l : List Dd} {i : Nat} {d : Dd} (h : l[i]? = some d) : cntD d.a (l.take i) < cntD d.a l ∧ (l.filter fun x => decide (x.a = d.a))[cntD d.a (l.take i)]? = some d := by
  obtain ⟨hi, e⟩ := List.getElem?_eq_some_iff.mp h
  have e1 : l = l.take i ++ d :: l.drop (i + 1) := by
    have := (List.take_append_drop i l).symm
    rwa [List.drop_eq_getElem_cons hi, e] at this
  have e2 : (l.filter fun x => decide (x.a = d.a)) = ((l.take i).filter fun x => decide (x.a = d.a)) ++ d :: ((l.drop (i + 1)).filter fun x => decide (x.a = d.a)) := by
    conv => lhs; rw [e1]
    rw [List.filter_append, List.filter_cons_of_pos (by simp)]
  unfold cntD
  rw [e2]
  refine ⟨by rw [List.length_append, List.length_cons]; omega, ?_⟩
  rw [List.getElem?_append_right (Nat.le_refl _), Nat.sub_self]; rfl
/-- what `take` tells of a deed that fits -/
theorem takeO_fit {c : Ch} {d : Dd} {k : Kp} {ks : List Kp} (e : c.ks = k :: ks) (ht : Trn k.log) (hf : Fit c (.take d)) : takeO k ks c.co d = .ok (takeC c d).e := by
  obtain ⟨hok, hf⟩ := hf
  rw [kAt_head e] at hf
  have eC : takeC c d = if d.t ≤ (cntD d.a k.log : Int) then c else ⟨atEnd k d ks.isEmpty :: ks, c.co⟩ := by
    unfold takeC; rw [e]
  have ec : c = ⟨k :: ks, c.co⟩ := by obtain ⟨a, b⟩ := c; dsimp only at e; rw [e]
  rw [eC]
  unfold takeO
  dsimp only
  change (if (cntD d.a k.log : Int) + 1 < d.t then _ else if d.t ≤ (cntD d.a k.log : Int) then _ else _) = _
  rcases hf with h1 | h1
  · rw [if_neg (by omega), if_neg (by omega), if_neg (by omega)]
  · obtain ⟨i, hi, hd⟩ := List.getElem_of_mem h1
    have hg : k.log[i]? = some d := by rw [List.getElem?_eq_getElem hi, hd]
    have h2 := ht i d hg
    obtain ⟨h3, h4⟩ := cnt_take_lt hg
    change d.t = (cntD d.a (k.log.take i) : Int) + 1 at h2
    have h6 : d.t ≤ (cntD d.a k.log : Int) := by omega
    rw [if_neg (by omega), if_pos h6, if_pos h6, if_neg]
    · conv => rhs; rw [ec]
    · rw [h2, show (cntD d.a (k.log.take i) : Int) + 1 - 1 = (cntD d.a (k.log.take i) : Int) by omega, Int.toNat_natCast, h4]
      exact fun z => z rfl
theorem good_did {n : Nat} {c : Ch} {g : Dg} (h : Good n c) (hf : Fit c g) : Good (n + 1) (did c g) := by
  cases g with
  | step w p =>
    obtain ⟨h1, _, h3, _, h5⟩ := step_all h.inv hf
    show Good (n + 1) (stepC c w p)
    exact ⟨h1, by rw [h5]; exact h.trn, by rw [h5]; exact h.ok, by rw [h5]; have := h.ll; omega, by have := h.load; omega⟩
  | fall p =>
    show Good (n + 1) (fallC c p)
    unfold fallC
    split
    · obtain ⟨h1, h2, h3, h4, h5, h6, h7, h8⟩ := h.inv
      exact Good.up ⟨⟨h1, h2, h3, h4, h5, h6, h7, fun l e => by cases e⟩, h.trn, h.ok, h.ll, h.load⟩ (Nat.le_succ n)
    · rename_i hx
      rcases hf with ⟨h1, h2⟩ | hz
      · obtain ⟨h3, h4, t, h5⟩ := inv_fall (co := c.co) h.inv h1 h2
        have hl : (kAt c.ks 0).log.length = (kAt (fallK c.ks p) 0).log.length + t.length := by rw [h5, List.length_append]
        have := h.ll
        have := h.load
        refine ⟨h3, ?_, ?_, ?_, ?_⟩
        · have := h.trn
          rw [h5] at this
          exact this.pre
        · exact fun d hd => h.ok d (by rw [h5]; exact List.mem_append_left _ hd)
        · show (kAt (fallK c.ks p) 0).log.length ≤ _; omega
        · exact Nat.le_trans h4 (by show loadC c + 1 ≤ _; omega)
      · exact absurd hz hx
  | come =>
    obtain ⟨h1, h2⟩ := hf
    show Good (n + 1) (grownD c.ks [])
    have hi : Inv ⟨c.ks, c.co⟩ := h.inv
    have h3 := inv_grown (nw := []) hi h2 (by simp)
    have hpos := List.length_pos_iff.mpr h.inv.ne
    have hk : kAt (grownD c.ks []).ks 0 = kAt c.ks 0 := by
      unfold grownD
      split
      · exact kAt_app_lo hpos
      · rfl
    have hl : loadC (grownD c.ks []) = loadC c := by
      unfold grownD loadC
      split
      · show sumK wS 0 (c.ks ++ [_]) = _
        rw [sumK_app]; rfl
      · rfl
    exact Good.up ⟨h3, by rw [hk]; exact h.trn, by rw [hk]; exact h.ok, by rw [hk]; exact h.ll, by rw [hl]; exact h.load⟩ (Nat.le_succ n)
  | quiet => exact (good_quiet h).up (Nat.le_succ n)
  | take d =>
    show Good (n + 1) (takeC c d)
    obtain ⟨ks0, co⟩ := c
    cases ks0 with
    | nil => exact absurd rfl h.inv.ne
    | cons k ks =>
      obtain ⟨hok, hf⟩ := hf
      change d.t = (cntD d.a k.log : Int) + 1 ∨ d ∈ k.log at hf
      show Good (n + 1) (if d.t ≤ (cntD d.a k.log : Int) then _ else _)
      split
      · exact h.up (Nat.le_succ n)
      · rename_i hx
        obtain ⟨h1, h2, h3⟩ := inv_take (d := d) h.inv
        have htr : Trn k.log := h.trn
        have ht : d.t = (cntD d.a k.log : Int) + 1 := by
          rcases hf with z | z
          · exact z
          · obtain ⟨i, hi, hd⟩ := List.getElem_of_mem z
            have hg : k.log[i]? = some d := by rw [List.getElem?_eq_getElem hi, hd]
            have h4 := htr i d hg
            have h5 := (cnt_take_lt hg).1
            change d.t = (cntD d.a (k.log.take i) : Int) + 1 at h4
            omega
        have hll : k.log.length ≤ n := h.ll
        have hld := h.load
        have hko : ∀ x ∈ k.log, x.ok := h.ok
        refine ⟨h1, ?_, ?_, ?_, ?_⟩
        · show Trn (atEnd k d ks.isEmpty).log
          rw [h3]; exact htr.snoc ht
        · show ∀ x ∈ (atEnd k d ks.isEmpty).log, x.ok
          rw [h3]
          intro x hx
          rcases List.mem_append.mp hx with hx | hx
          · exact hko x hx
          · rw [List.mem_singleton.mp hx]; exact hok
        · show (atEnd k d ks.isEmpty).log.length ≤ _
          rw [h3, List.length_append]
          show k.log.length + 1 ≤ _; omega
        · exact Nat.le_trans h2 (by show loadC _ + 1 ≤ _; omega)
/-! ### the doing that is drawn -/
def tnL (l : List Dd) : List Int := (List.range 10).map fun a : Nat => (cntD a l : Int)
def nextG (n : Int) (l : List Dd) (keys : List Str) : Dd := if n % 9 = 1 ∧ l ≠ [] then l.getD (n / 9 % l.length).toNat ⟨0, 0, "", "", 0⟩ else deedI (n / 9) keys (tnL l)
def stepOf : PyData → Dg
  | .tuple [.str w, .int i] => .step w i.toNat
  | _ => .come
def stepAt (c : Ch) (i : Int) : PyData := (stepsD c).getD i.toNat .none
def doingG (n : Int) (c : Ch) (keys : List Str) : Dg :=
  if n % 16 < 7 ∧ stepsD c ≠ [] then stepOf (stepAt c (n / 16 % (stepsD c).length))
  else if (n % 16 = 7 ∨ n % 16 = 11) ∧ 1 < c.ks.length then .fall (n / 16 % c.ks.length).toNat
  else if (n % 16 = 8 ∨ n % 16 = 12) ∧ c.co = none ∧ c.ks.length < 9 then .come
  else if n % 16 = 9 ∧ n / 16 % 4 = 0 then .quiet
  else if n % 16 = 10 ∧ c.co.isSome = true then .fall c.ks.length
  else .take (nextG (n / 16) (kAt c.ks 0).log keys)
theorem tnL_len (l : List Dd) : (tnL l).length = 10 := by unfold tnL; rw [List.length_map, List.length_range]
theorem tnL_nn (l : List Dd) : ∀ t ∈ tnL l, 0 ≤ t := fun t ht => by
  obtain ⟨a, _, rfl⟩ := List.mem_map.mp ht
  omega
theorem tnL_get {l : List Dd} {a : Int} (h0 : 0 ≤ a) (h9 : a ≤ 9) : (tnL l).getD a.toNat 0 = (cntD a l : Int) := by
  unfold tnL
  rw [List.getD_eq_getElem?_getD, List.getElem?_map, List.getElem?_range (by omega)]
  show ((cntD ((a.toNat : Nat) : Int) l : Nat) : Int) = _
  rw [Int.toNat_of_nonneg h0]
theorem next_fit {n : Int} {c : Ch} {keys : List Str} (hok : ∀ d ∈ (kAt c.ks 0).log, d.ok) (hk : ∀ k ∈ keys, isKeyS k = true) (h4 : keys.length = 4) : Fit c (.take (nextG n (kAt c.ks 0).log keys)) := by
  show _ ∧ (_ ∨ _)
  unfold nextG
  generalize (kAt c.ks 0).log = l at hok
  split
  · rename_i h
    have hp : 0 < l.length := List.length_pos_iff.mpr h.2
    have h0 := Int.emod_nonneg (n / 9) (show (l.length : Int) ≠ 0 by omega)
    have h1 := Int.emod_lt_of_pos (n / 9) (show (0 : Int) < (l.length : Int) by omega)
    rw [List.getD_eq_getElem?_getD, List.getElem?_eq_getElem (by omega)]
    exact ⟨hok _ (List.getElem_mem _), .inr (List.getElem_mem _)⟩
  · refine ⟨deedI_ok hk h4 (tnL_nn l), .inl ?_⟩
    show turnAt (tnL l) (n / 9) = (cntD (askerI (n / 9)) l : Int) + 1
    unfold turnAt
    rw [tnL_get (asker_lo _) (asker_hi _)]
theorem stepAt_can {c : Ch} {n : Int} (hs : stepsD c ≠ []) : ∃ w p, stepAt c (n % (stepsD c).length) = stp w p ∧ Can c w p ∧ atI (stepsD c) (n % (stepsD c).length) = some (stp w p) := by
  have hp : 0 < (stepsD c).length := List.length_pos_iff.mpr hs
  have h0 := Int.emod_nonneg n (show ((stepsD c).length : Int) ≠ 0 by omega)
  have h1 := Int.emod_lt_of_pos n (show (0 : Int) < ((stepsD c).length : Int) by omega)
  have hg : (stepsD c)[(n % ((stepsD c).length : Int)).toNat]? = some (stepAt c (n % (stepsD c).length)) := by
    unfold stepAt
    rw [List.getD_eq_getElem?_getD, List.getElem?_eq_getElem (by omega)]; rfl
  obtain ⟨w, p, e, hc⟩ := steps_mem (List.mem_of_getElem? hg)
  exact ⟨w, p, e, hc, by rw [← e]; exact atI_int h0 hg⟩
theorem stepOf_stp (w : Str) (p : Nat) : stepOf (stp w p) = .step w p := by
  show Dg.step w (p : Int).toNat = _
  rw [Int.toNat_natCast]
theorem doing_fit {n : Int} {c : Ch} {keys : List Str} (hn : 0 ≤ n) (hne : c.ks ≠ []) (hok : ∀ d ∈ (kAt c.ks 0).log, d.ok) (hk : ∀ k ∈ keys, isKeyS k = true) (h4 : keys.length = 4) : Fit c (doingG n c keys) := by
  unfold doingG
  have hp : 0 < c.ks.length := List.length_pos_iff.mpr hne
  split
  · rename_i h
    obtain ⟨w, p, e, hc, _⟩ := stepAt_can (n := n / 16) h.2
    rw [e, stepOf_stp]
    exact hc
  · split
    · rename_i h
      have h0 := Int.emod_nonneg (n / 16) (show (c.ks.length : Int) ≠ 0 by omega)
      have h1 := Int.emod_lt_of_pos (n / 16) (show (0 : Int) < (c.ks.length : Int) by omega)
      exact .inl ⟨by omega, h.2⟩
    · split
      · rename_i h
        exact h.2
      · split
        · trivial
        · split
          · rename_i h
            exact .inr ⟨rfl, h.2⟩
          · exact next_fit hok hk h4
end Ck

namespace Ck
open PySem PySem.Spec PyProof.Rows L2

/-! ### one's own pair: its first thing taken out, spoilt; its list made longer -/
section
variable {K : PySem.W.Frag} {B : Bs} {G H : Hp} {σ : L2.St} {Γ Γ' : List Sl} {F : Nat → List Addr} {i j n : Nat} {x y : PyData} {xs ds : List PyData} {nx bk ct : L2.St → Hp → Prop} {rt : VK} {E : XK}
/-- z = t[0], a tree moved out of one's own pair t -/
theorem at_mvX {Γ3 : List Sl} (e : Γ[i]? = some (.ow (.tuple [.tuple xs, y]))) (hy : noL y = true) (hij : i ≠ j) (hs : (Γ.set i (.sn y)).set j (.ow (.tuple xs)) = Γ3) (q : At B Γ3 nx) : At B Γ (tAsg (tOp (rIx K) (tVar i) (tC (.int 0))) (gName j) ⟨nx, rt, bk, ct⟩) := fun G σ H ok => by
  obtain ⟨F, h⟩ := ok
  obtain ⟨v, g, e1, r, nd, m⟩ := h.sl i _ e
  cases r with
  | tup h1 h2 =>
    cases h2 with
    | @cons v0 _ _ _ fx _ ha hb =>
      cases hb with
      | @cons vy _ _ _ fy _ hyy hn =>
        cases hn
        have hfy := roNil _ _ _ hy hyy
        subst hfy
        have ha' := ha
        cases ha with
        | @tup a _ _ _ t1 t2 =>
          rename_i p vs
          have rx : Rp G vy y := hyy.rp (fun _ _ z => z) _ _ _ fun _ m => by cases m
          refine ⟨.ref p, e1, .inr (.inl ⟨p, [.ref a, vy], 0, .ref a, rfl, rfl, rd_sqt (h.st.gh.rd h1), atI_cons0, ?_⟩)⟩
          have hi : i < Γ.length := (List.getElem?_eq_some_iff.mp e).1
          have ndx : fx.Nodup := (List.nodup_append.mp nd).1
          have mx : ∀ b ∈ fx, b ∈ F i := fun b hb => m b (List.mem_append_left _ hb)
          refine q G _ H ?_
          have h3 : OkF B G σ H (Γ.set i (.sn y)) (fun n => if n = i then [] else F n) := by
            refine ⟨h.eb, h.st, by rw [List.length_set]; exact h.len, fun n s es => ?_, fun n b mb => ?_, fun n l b hne m1 m2 => ?_⟩
            · by_cases hn : i = n
              · subst hn
                rw [List.getElem?_set_self hi] at es
                cases es
                exact ⟨p, a, vy, e1, h1, rx⟩
              · rw [List.getElem?_set_ne hn] at es
                rw [if_neg (Ne.symm hn)]
                exact h.sl n s es
            · by_cases hn : n = i
              · rw [if_pos hn] at mb; cases mb
              · rw [if_neg hn] at mb; exact h.fr n b mb
            · by_cases hn : n = i
              · rw [if_pos hn] at m1; cases m1
              · rw [if_neg hn] at m1
                by_cases hl : l = i
                · rw [if_pos hl] at m2; cases m2
                · rw [if_neg hl] at m2; exact h.ap n l b hne m1 m2
          exact hs ▸ ⟨_, h3.setF j (v := some (.ref a)) (f := fx) (s := .ow (.tuple xs)) ⟨.ref a, fx, rfl, ha', ndx, fun b hb => hb⟩ (fun b mb => h.fr i b (mx b mb)) fun b mb n hn mn => by
            by_cases hni : n = i
            · rw [if_pos hni] at mn; cases mn
            · rw [if_neg hni] at mn; exact h.ap i n b (Ne.symm hni) (mx b mb) mn⟩
/-- t[1].append(d), t one's own pair -/
theorem at_append1 {te : TE} {d : PyData} (e : Γ[i]? = some (.ow (.tuple [x, .list ds]))) (hz : ds.length < sizeLine) (hte : Ev te Γ d) (hd : noL d = true) (hs : SetAt Γ i (.ow (.tuple [x, .list (ds ++ [d])])) Γ') (q : At B Γ' nx) :
    At B Γ (tDrop (tBM K "list" rAppend (tOp (rIx K) (tVar i) (tC (.int 1))) (tCons te tNil)) ⟨nx, rt, bk, ct⟩) := fun G σ H ok => by
  obtain ⟨F, h⟩ := ok
  obtain ⟨v, g, e1, r, nd, m⟩ := h.sl i _ e
  cases r with
  | @tup p _ _ _ h1 h2 =>
    cases h2 with
    | @cons vx _ _ _ fx _ ha hb =>
      cases hb with
      | @cons vy _ _ _ fy _ hy hn =>
        cases hn
        cases hy with
        | @lst a vs _ fl hh hr =>
          have hl := hr.len
          refine ⟨.ref p, e1, .inr (.inl ⟨p, [vx, .ref a], 1, .ref a, rfl, rfl, rd_sqt (h.st.gh.rd h1), atI_of (i := 1) rfl, .inl ⟨rfl, _, .inl (.inl hh)⟩, ?_⟩)⟩
          refine hte B G σ H ⟨F, h⟩ _ fun w G' H' s rw' => ?_
          have h' := h.step s
          have hh' := s.h _ _ hh
          refine ⟨a, vs, w, rfl, rfl, hh', by rw [hl]; exact hz, ?_⟩
          have ma : a ∈ F i := m a (List.mem_append_right _ (List.mem_append_left _ List.mem_cons_self))
          have hsome : ∀ b ∈ fx ++ ((a :: fl) ++ []), H' b = H b := fun b hb => by
            obtain ⟨o, ho⟩ := (h.fr i b (m b hb)).2.2.some
            rw [s.h b o ho, ho]
          have nax : ∀ b ∈ fx, b ≠ a := fun b hb z => (List.nodup_append.mp nd).2.2 b hb a (List.mem_append_left _ List.mem_cons_self) z
          have nal : ∀ b ∈ fl, b ≠ a := fun b hb z => by
            have := (List.nodup_append.mp (List.nodup_append.mp nd).2.1).1
            exact (List.nodup_cons.mp this).1 (z ▸ hb)
          have rx' : Ro G' (upd H' a (.lst (vs ++ [w]))) vx x fx := ha.fr (fun _ _ z => s.g.rd z) _ _ _ fun b hb => by
            rw [upd_ne (nax b hb)]; exact hsome b (List.mem_append_left _ hb)
          have rl' : Ros G' (upd H' a (.lst (vs ++ [w]))) vs ds fl := hr.fr (fun _ _ z => s.g.rd z) _ _ _ fun b hb => by
            rw [upd_ne (nal b hb)]; exact hsome b (List.mem_append_right _ (List.mem_append_left _ (List.mem_cons_of_mem _ hb)))
          have rw2 : Ro G' (upd H' a (.lst (vs ++ [w]))) w d [] := Rp.ro _ _ hd rw'
          have rall : Ros G' (upd H' a (.lst (vs ++ [w]))) (vs ++ [w]) (ds ++ [d]) (fl ++ ([] ++ [])) := ros_app rl' (.cons rw2 .nil)
          have efl : fl ++ ([] ++ []) = fl := by simp
          rw [efl] at rall
          refine q G' σ _ (hs.eq ▸ ⟨F, h'.mut (fun b hb => upd_ne fun z => hb (z ▸ ma)) (fun b hb => ?_) ⟨.ref p, _, e1, .tup (s.g.rd h1) (.cons rx' (.cons (.lst upd_same rall) .nil)), nd, m⟩⟩)
          by_cases hb2 : b = a
          · subst hb2; exact .inl ⟨_, upd_same⟩
          · exact (h'.fr i b hb).2.2.of (upd_ne hb2)
/-- spoilt(t[0]), t one's own pair -/
theorem at_spoilt0 (e : Γ[i]? = some (.ow (.tuple [x, y]))) (hd : Alk n x) (hs : SetAt Γ i (.ow (.tuple [spoilD x, y])) Γ') (q : At B Γ' nx) : At B Γ (tDrop (tCall (spSp n) [] E (tCons (tOp (rIx K) (tVar i) (tC (.int 0))) tNil)) ⟨nx, rt, bk, ct⟩) := fun G σ H ok => by
  obtain ⟨F, k⟩ := ok
  obtain ⟨v, g, e1, r, nd, m⟩ := k.sl i _ e
  cases r with
  | @tup p _ _ _ h1 h2 =>
    cases h2 with
    | @cons vx _ _ _ fx _ ha hb =>
      cases hb with
      | @cons vy _ _ _ fy _ hy hn =>
        cases hn
        have mx : ∀ a ∈ fx, a ∈ F i := fun a ha => m a (List.mem_append_left _ ha)
        have my : ∀ a ∈ fy ++ [], a ∈ F i := fun a ha => m a (List.mem_append_right _ ha)
        have ndx := (List.nodup_append.mp nd).1
        have ndy := (List.nodup_append.mp nd).2.1
        have nxy : ∀ a ∈ fy ++ [], a ∉ fx := fun a ha hb => (List.nodup_append.mp nd).2.2 a hb a ha rfl
        refine ⟨.ref p, e1, .inr (.inl ⟨p, [vx, vy], 0, vx, rfl, rfl, rd_sqt (k.st.gh.rd h1), atI_cons0, ?_⟩)⟩
        refine ⟨vx, x, fx, G, rfl, k.st.gh, ha, ndx, fun a ha => (k.fr i a (mx a ha)).2.1, hd, fun G' H' f' st r' nd' m' => ?_⟩
        have hB : Ex B.h0 (hOff fx H) := ex_hOff k.st.h fun a ha => (k.fr i a (mx a ha)).1
        have out : ∀ j, j ≠ i → ∀ a ∈ F j, a ∉ fx := fun j hj a ha z => k.ap i j a (Ne.symm hj) (mx a z) ha
        have k2 : OkF B G' σ H' (unS [i] Γ) (fS [i] F) := k.used (ex_hOff k.st.gh fun a ha => (k.fr i a (mx a ha)).2.1) hB (fun j hj a ha => hOff_no (out j (fun z => hj (by rw [z]; exact List.mem_singleton.mpr rfl)) a ha)) st
        have inO : ∀ {j b}, j ≠ i → b ∈ f' → b ∈ fS [i] F j → False := fun {j b} hj hb hbj => by
          obtain ⟨_, hF⟩ := fS_in hbj
          have := (m' b hb).1
          rw [hOff_no (out j hj b hF)] at this
          obtain ⟨o, ho⟩ := (k.fr j b hF).2.2.some
          rw [this] at ho; cases ho
        have keepY : ∀ b ∈ fy ++ [], H' b = H b := fun b hb => by
          obtain ⟨o, ho⟩ := (k.fr i b (my b hb)).2.2.some
          have : hOff fx H b = some o := by rw [hOff_no (nxy b hb)]; exact ho
          rw [st.h b o this, ho]
        have inY : ∀ b ∈ f', b ∉ fy ++ [] := fun b hb hy => by
          have := (m' b hb).1
          rw [hOff_no (nxy b hy)] at this
          obtain ⟨o, ho⟩ := (k.fr i b (my b hy)).2.2.some
          rw [this] at ho; cases ho
        have hgY : ∀ b ∈ fy ++ [], G' b = none := fun b hb => by
          have hg : G b = none := (k.fr i b (my b hb)).2.1
          obtain ⟨o, ho⟩ := (k.fr i b (my b hb)).2.2.some
          exact st.nw b o (by rw [hOff_no (nxy b hb)]; exact ho) hg
        have rall : Ro G' H' (.ref p) (.tuple [spoilD x, y]) (f' ++ (fy ++ [])) := .tup (st.g.rd h1) (.cons r' (.cons (hy.fr (fun _ _ z => st.g.rd z) _ _ _ fun b hb => keepY b (List.mem_append_left _ hb)) .nil))
        have ndall : (f' ++ (fy ++ [])).Nodup := List.nodup_append.mpr ⟨nd', ndy, fun a ha b hb z => inY a ha (z ▸ hb)⟩
        refine q G' σ H' (hs.eq ▸ ⟨fun j => if j = i then f' ++ (fy ++ []) else fS [i] F j, k2.eb, k2.st, by rw [List.length_set]; exact k.len, fun j t et => ?_, fun j b hb => ?_, fun j l b hne m1 m2 => ?_⟩)
        · by_cases hj : i = j
          · subst hj
            rw [List.getElem?_set_self (List.getElem?_eq_some_iff.mp e).1] at et
            cases et
            rw [if_pos rfl]
            exact ⟨.ref p, _, e1, rall, ndall, fun a ha => ha⟩
          · rw [List.getElem?_set_ne hj] at et
            rw [if_neg (Ne.symm hj)]
            exact k2.sl j t (by rw [unS_no [i] Γ j (fun z => hj (List.mem_singleton.mp z).symm)]; exact et)
        · by_cases hj : j = i
          · rw [if_pos hj] at hb
            rcases List.mem_append.mp hb with hb | hb
            · exact ⟨hB.no (m' b hb).1, (m' b hb).2, r'.mt _ _ _ b hb⟩
            · exact ⟨(k.fr i b (my b hb)).1, hgY b hb, (k.fr i b (my b hb)).2.2.of (keepY b hb)⟩
          · rw [if_neg hj] at hb
            exact k2.fr j b hb
        · have inI : ∀ {b : Addr} {l : Nat}, l ≠ i → b ∈ f' ++ (fy ++ []) → b ∈ fS [i] F l → False := fun {b l} hl hb hbl => by
            rcases List.mem_append.mp hb with hb | hb
            · exact inO hl hb hbl
            · obtain ⟨_, hF⟩ := fS_in hbl
              exact k.ap i l b (Ne.symm hl) (my b hb) hF
          by_cases hj : j = i
          · rw [if_pos hj] at m1
            have hl : l ≠ i := fun z => hne (hj.trans z.symm)
            rw [if_neg hl] at m2
            exact inI hl m1 m2
          · rw [if_neg hj] at m1
            by_cases hl : l = i
            · rw [if_pos hl] at m2
              exact inI hj m2 m1
            · rw [if_neg hl] at m2
              exact k2.ap j l b hne m1 m2
end
end Ck

namespace Ck
open PySem PySem.Spec PyProof.Rows L2
/-! doings of any kind -/
inductive Dz
  | bad (y : PyData)
  | take (d : Dd)
  | fall (p : Int)
  | word (w : Str) (i : Int)
def Dz.e : Dz → PyData
  | .bad y => .tuple [.str "take", y]
  | .take d => .tuple [.str "take", d.e]
  | .fall p => .tuple [.str "fall", .int p]
  | .word w i => .tuple [.str w, .int i]
structure BadY (y : PyData) : Prop where
  sz : DeedSz y
  no : isDeedD y = false
  nl : noL y = true
  sh : Shp 1 y
def Dz.ok : Dz → Prop
  | .bad y => BadY y
  | .take d => d.ok
  | .fall _ => True
  | .word w _ => PyData.strOk w = true ∧ w ≠ "take" ∧ w ≠ "fall"
def takeE (c : Ch) (d : Dd) : Except Str Ch := match c.ks with
  | [] => .ok c
  | k :: ks =>
    if (cntD d.a k.log : Int) + 1 < d.t then .error "BadTurn"
    else if d.t ≤ (cntD d.a k.log : Int) then (if (k.log.filter fun x => decide (x.a = d.a))[(d.t - 1).toNat]? ≠ some d then .error "OtherDeed" else .ok c)
    else .ok ⟨atEnd k d ks.isEmpty :: ks, c.co⟩
def fallE (c : Ch) (p : Int) : Except Str Ch :=
  if p = c.ks.length ∧ c.co.isSome then .ok ⟨c.ks, none⟩
  else if p < 0 ∨ c.ks.length ≤ p then .error "NoKeeper"
  else if c.ks.length = 1 then .error "OnlyKeeper"
  else .ok ⟨fallK c.ks p.toNat, c.co⟩
def comeE (c : Ch) : Except Str Ch := if c.co.isSome then .error "OneComing" else if c.ks.length = 9 then .error "TooMany" else .ok (grownD c.ks [])
open Classical in
noncomputable def stepE (c : Ch) (w : Str) (i : Int) : Except Str Ch := if ∃ p : Nat, i = p ∧ Can c w p then .ok (stepC c w i.toNat) else .error "NoStep"
noncomputable def nextE (c : Ch) : Dz → Except Str Ch
  | .bad _ => .error "BadDeed"
  | .take d => takeE c d
  | .fall p => fallE c p
  | .word w i => if w = "come" ∧ i = 0 then comeE c else if w = "quiet" ∧ i = 0 then .ok (quietC c) else stepE c w i
def ocOf : Except Str Ch → Oc
  | .ok c => .ok c.e
  | .error s => .error s
def errs : List Str := ["BadDeed", "BadTurn", "OtherDeed", "NoStep", "NoKeeper", "OnlyKeeper", "OneComing", "TooMany"]
theorem nextE_err {c : Ch} {g : Dz} {s : Str} (h : nextE c g = .error s) : s ∈ errs := by
  cases g with
  | bad y => cases h; decide
  | take d =>
    change takeE c d = _ at h
    unfold takeE at h
    split at h
    · cases h
    · split at h
      · cases h; decide
      · split at h
        · split at h
          · cases h; decide
          · cases h
        · cases h
  | fall p =>
    change fallE c p = _ at h
    unfold fallE at h
    split at h
    · cases h
    · split at h
      · cases h; decide
      · split at h
        · cases h; decide
        · cases h
  | word w i =>
    change (if w = "come" ∧ i = 0 then comeE c else if w = "quiet" ∧ i = 0 then .ok (quietC c) else stepE c w i) = _ at h
    split at h
    · unfold comeE at h
      split at h
      · cases h; decide
      · split at h
        · cases h; decide
        · cases h
    · split at h
      · cases h
      · unfold stepE at h
        split at h
        · cases h
        · cases h; decide
theorem good_next {n : Nat} {c c' : Ch} {g : Dz} (hg : Good n c) (hz : g.ok) (h : nextE c g = .ok c') : Good (n + 1) c' := by
  cases g with
  | bad y => cases h
  | take d =>
    change takeE c d = _ at h
    obtain ⟨ks0, co⟩ := c
    cases ks0 with
    | nil => exact absurd rfl hg.inv.ne
    | cons k ks =>
      change (if (cntD d.a k.log : Int) + 1 < d.t then _ else if d.t ≤ (cntD d.a k.log : Int) then _ else _) = _ at h
      split at h
      · cases h
      · split at h
        · split at h
          · cases h
          · cases h; exact hg.up (Nat.le_succ n)
        · rename_i h1 h2
          have hf : Fit ⟨k :: ks, co⟩ (.take d) := ⟨hz, .inl (by show d.t = (cntD d.a k.log : Int) + 1; omega)⟩
          have := good_did hg hf
          have e : did ⟨k :: ks, co⟩ (.take d) = ⟨atEnd k d ks.isEmpty :: ks, co⟩ := by
            show (if d.t ≤ (cntD d.a k.log : Int) then _ else _) = _
            rw [if_neg h2]
          rw [e] at this
          cases h
          exact this
  | fall p =>
    change fallE c p = _ at h
    unfold fallE at h
    split at h
    · rename_i h1
      cases h
      have hf : Fit c (.fall c.ks.length) := .inr ⟨rfl, h1.2⟩
      have := good_did hg hf
      have e : did c (.fall c.ks.length) = ⟨c.ks, none⟩ := by
        show fallC c _ = _
        unfold fallC
        rw [if_pos ⟨rfl, h1.2⟩]
      rwa [e] at this
    · rename_i h0
      split at h
      · cases h
      · split at h
        · cases h
        · rename_i h1 h2
          cases h
          have hpos := List.length_pos_iff.mpr hg.inv.ne
          have hf : Fit c (.fall p.toNat) := .inl ⟨by omega, by omega⟩
          have := good_did hg hf
          have e : did c (.fall p.toNat) = ⟨fallK c.ks p.toNat, c.co⟩ := by
            show fallC c _ = _
            unfold fallC
            rw [if_neg]
            intro z
            omega
          rwa [e] at this
  | word w i =>
    change (if w = "come" ∧ i = 0 then comeE c else if w = "quiet" ∧ i = 0 then .ok (quietC c) else stepE c w i) = _ at h
    split at h
    · unfold comeE at h
      split at h
      · cases h
      · split at h
        · cases h
        · rename_i h1 h2
          cases h
          have h9 := hg.inv.n9
          exact good_did hg (g := .come) ⟨by cases e : c.co with | none => rfl | some l => rw [e] at h1; exact absurd rfl h1, by omega⟩
    · split at h
      · cases h
        exact (good_quiet hg).up (Nat.le_succ n)
      · unfold stepE at h
        split at h
        · rename_i hx
          obtain ⟨p, rfl, hc⟩ := hx
          cases h
          rw [Int.toNat_natCast]
          exact good_did hg (g := .step w p) hc
        · cases h
def R_one (ds : List PyData) (o : Oc) : Prop := ∃ (c : Ch) (g : Dz) (n : Nat), ds = [c.e, g.e] ∧ Good n c ∧ n ≤ 900 ∧ g.ok ∧ o = ocOf (nextE c g)
noncomputable def chE (c : Ch) (g : Dz) : Ch := match nextE c g with
  | .ok c' => c'
  | .error _ => c
noncomputable def wdE (c : Ch) (g : Dz) : Str := match nextE c g with
  | .ok _ => "done"
  | .error s => s
theorem good_ch {n : Nat} {c : Ch} {g : Dz} (hg : Good n c) (hz : g.ok) : Good (n + 1) (chE c g) := by
  unfold chE
  split
  · rename_i c' e
    exact good_next hg hz e
  · exact hg.up (Nat.le_succ n)
def R_tried (ss : List Sl) (o : Oc) : Prop := ∃ (c : Ch) (g : Dz) (n : Nat), ss = [.ow c.e, .d g.e] ∧ Good n c ∧ n ≤ 900 ∧ g.ok ∧ o = .ok (.tuple [(chE c g).e, .str (wdE c g)])
/-! the whole run -/
noncomputable def runN (m : Int) (gs : List Dz) : Nat → Ch
  | 0 => ⟨List.replicate m.toNat nilK, none⟩
  | i + 1 => match gs[i]? with
    | some g => chE (runN m gs i) g
    | none => runN m gs i
noncomputable def wdN (m : Int) (gs : List Dz) (i : Nat) : Str := match gs[i]? with
  | some g => wdE (runN m gs i) g
  | none => ""
noncomputable def runT (m : Int) (gs : List Dz) : PyData := .tuple [(runN m gs gs.length).e, .list ((List.range gs.length).map fun i => .str (wdN m gs i))]
noncomputable def runO (m : Int) (gs : List Dz) : Oc := if m < 1 ∨ 9 < m then .error "TooMany" else .ok (runT m gs)
def R_run (ds : List PyData) (o : Oc) : Prop := ∃ (m : Int) (gs : List Dz), ds = [.int m, .list (gs.map Dz.e)] ∧ gs.length ≤ 800 ∧ (∀ g ∈ gs, g.ok) ∧ o = runO m gs
noncomputable def lrunD (m : Int) (gs : List Dz) : PyData := if m < 1 ∨ 9 < m then .none else runT m gs
def R_lrun (ds : List PyData) (o : Oc) : Prop := ∃ (m : Int) (gs : List Dz), ds = [.int m, .list (gs.map Dz.e)] ∧ gs.length ≤ 800 ∧ (∀ g ∈ gs, g.ok) ∧ o = .ok (lrunD m gs)
theorem good_runN {m : Int} {gs : List Dz} (h0 : 1 ≤ m) (h9 : m ≤ 9) (hz : ∀ g ∈ gs, g.ok) : ∀ i, Good i (runN m gs i)
  | 0 => by
    have e : m.toNat ≤ 9 := by omega
    have hk : kAt (List.replicate m.toNat nilK) 0 = nilK := kAt_rep (by omega)
    refine ⟨inv_rep (l := []) (by omega) e, ?_, ?_, ?_, ?_⟩
    · show Trn (kAt (List.replicate m.toNat nilK) 0).log
      rw [hk]; exact Trn.nil
    · show ∀ d ∈ (kAt (List.replicate m.toNat nilK) 0).log, d.ok
      rw [hk]; intro d hd; cases hd
    · show (kAt (List.replicate m.toNat nilK) 0).log.length ≤ 0
      rw [hk]; exact Nat.le_refl 0
    · show sumK wS 0 (List.replicate m.toNat nilK) ≤ 0
      rw [show nilK = ⟨[], 0, [], []⟩ from rfl, load_rep]; exact Nat.le_refl 0
  | i + 1 => by
    have ih := good_runN h0 h9 hz i
    unfold runN
    split
    · rename_i g hg
      exact good_ch ih (hz g (List.mem_of_getElem? hg))
    · exact ih.up (Nat.le_succ i)
section
variable {K : PySem.W.Frag} {Γ : List Sl} {te : TE} {E : XK} {X : L2.St → Hp → Prop}
theorem rz_fz (h : Rz te (Γ.map Sl.fz) X) : Rz te Γ X := fun B G σ H ok x Q => by
  obtain ⟨F, k⟩ := ok
  exact h _ _ σ H k.fz (fun G' H' st => x _ H' (k.unfz st)) Q
theorem rz_tup {r : TA} (h : Rz te Γ X) : Rz (tTup (tCons te r)) Γ X := fun B G σ H ok x Q => h B G σ H ok x _
end
theorem takeO_E {k : Kp} {ks : List Kp} {co : Option (List Dd)} {d : Dd} : takeO k ks co d = ocOf (takeE ⟨k :: ks, co⟩ d) := by
  unfold takeO takeE cntD
  dsimp only
  split
  · rfl
  · split
    · split <;> rfl
    · rfl
/-! the doing that is drawn -/
def backT (dd : Dd) (t : Int) : Dz := if 1 ≤ t then .take ⟨dd.a, t, dd.w, dd.k, dd.v⟩ else .bad (.tuple [.int dd.a, .int t, .str dd.w, .str dd.k, .int dd.v])
def fourT (dd : Dd) : PyData := .tuple [.int dd.a, .int dd.t, .str dd.w, .str dd.k]
def backs (dd : Dd) (more : Int) : Int := ([dd.t - 1, dd.t + 1, 1, 2] : List Int).getD (more % 4).toNat 0
def wrongG (dd : Dd) (more : Int) : Dz :=
  if more / 4 % 4 = 1 then .bad (fourT dd) else if more / 4 % 4 = 2 then .bad (.int more) else backT dd (backs dd more)
def someG (more : Int) : List Dz := [.word "quiet" 0, .word "come" 1, .word "quiet" 2, .word "" 0, .word "went" (more % 5), .word "falls" 0, .word "takes" 0,
  .word "comes" 0, .word "Fall" 0, .word "tak" 0, .word "quie" 0, .word "passes" (more % 3), .word "come " 0, .word "Learn" (more % 4), .word "bac" 1]
def dozG (n : Int) (keys : List Str) (tn : List Int) : Dz :=
  if n % 12 < 4 then .take (deedI (n / 12) keys tn)
  else if n % 12 = 4 then wrongG (deedI (n / 12) keys tn) (n / 12)
  else if n % 12 < 8 then .word (([("pass" : Str), "back", "learn"] : List Str).getD (n % 12 - 5).toNat "") (n / 12 % 9)
  else if n % 12 = 8 then .fall (n / 12 % 10 - (if n / 12 % 40 = 20 then 1 else 0))
  else if n % 12 = 9 then .word "come" 0
  else if n % 12 = 10 ∧ 0 < n / 12 % 5 then .word "pass" (n / 12 % 3)
  else (someG (n / 12)).getD (n / 12 / 5 % 15).toNat (.fall 0)
def dozT (n : Int) (tn : List Int) : List Int := if n % 12 < 4 then bumpI tn (n / 12) else tn
def R_dz (ds ts ts' : List PyData) (d : PyData) : Prop := ∃ (x k : Int) (keys : List Str) (tn : List Int), ds = [.int x, .int k, .list (keys.map .str)] ∧ keys.length = 4 ∧ tn.length = 10 ∧ (∀ k ∈ keys, isKeyS k = true) ∧ (∀ t ∈ tn, 0 ≤ t) ∧ ts = tn.map .int ∧ ts' = (dozT (mixed x k) tn).map .int ∧ d = (dozG (mixed x k) keys tn).e
theorem back_e (dd : Dd) (t : Int) : (backT dd t).e = .tuple [.str "take", .tuple [.int dd.a, .int t, .str dd.w, .str dd.k, .int dd.v]] := by
  unfold backT
  split <;> rfl
theorem szStr8 {z : Str} (h : z.length ≤ 8) : SzS (.str z) := by show z.length ≤ 100000; omega
theorem back_ok {dd : Dd} (h : dd.ok) (t : Int) : (backT dd t).ok := by
  unfold backT
  split
  · exact ⟨h.a0, h.a9, by assumption, h.key, h.word⟩
  · rename_i h1
    have hs := h.sz
    refine ⟨?_, ?_, rfl, ?_⟩
    · intro x hx
      simp only [List.mem_cons, List.not_mem_nil, or_false] at hx
      rcases hx with rfl | rfl | rfl | rfl | rfl
      · exact ⟨trivial, trivial⟩
      · exact ⟨trivial, trivial⟩
      · exact hs (.str dd.w) (by simp)
      · exact hs (.str dd.k) (by simp)
      · exact ⟨trivial, trivial⟩
    · show (decide (0 ≤ dd.a) && decide (dd.a ≤ 9) && decide (1 ≤ t) && isKeyD (.str dd.k) && isWordS dd.w dd.v) = false
      rw [decide_eq_false h1]
      simp
    · exact shp_tuple (n := 0) fun x hx => by
        simp only [List.mem_cons, List.not_mem_nil, or_false] at hx
        rcases hx with rfl | rfl | rfl | rfl | rfl
        · exact shp_int
        · exact shp_int
        · exact shp_str (strOk_word h.word)
        · exact shp_str (strOk_key h.key)
        · exact shp_int
theorem wrong_ok {dd : Dd} (h : dd.ok) (more : Int) : (wrongG dd more).ok := by
  unfold wrongG
  split
  · have hs := h.sz
    refine ⟨?_, rfl, rfl, ?_⟩
    · intro x hx
      simp only [List.mem_cons, List.not_mem_nil, or_false] at hx
      rcases hx with rfl | rfl | rfl | rfl
      · exact ⟨trivial, trivial⟩
      · exact ⟨trivial, trivial⟩
      · exact hs (.str dd.w) (by simp)
      · exact hs (.str dd.k) (by simp)
    · exact shp_tuple (n := 0) fun x hx => by
        simp only [List.mem_cons, List.not_mem_nil, or_false] at hx
        rcases hx with rfl | rfl | rfl | rfl
        · exact shp_int
        · exact shp_int
        · exact shp_str (strOk_word h.word)
        · exact shp_str (strOk_key h.key)
  · split
    · exact ⟨trivial, rfl, rfl, shp_int⟩
    · exact back_ok h _
theorem some_ok {more : Int} {g : Dz} (h : g ∈ someG more) : g.ok := by
  simp only [someG, List.mem_cons, List.not_mem_nil, or_false] at h
  rcases h with rfl | rfl | rfl | rfl | rfl | rfl | rfl | rfl | rfl | rfl | rfl | rfl | rfl | rfl | rfl <;> exact ⟨by decide +kernel, by decide, by decide⟩
theorem doz_ok {n : Int} {keys : List Str} {tn : List Int} (hn : 0 ≤ n) (hk : ∀ k ∈ keys, isKeyS k = true) (h4 : keys.length = 4) (ht : ∀ t ∈ tn, 0 ≤ t) : (dozG n keys tn).ok := by
  have hd := deedI_ok (n := n / 12) hk h4 ht
  unfold dozG
  split
  · exact hd
  · split
    · exact wrong_ok hd _
    · split
      · rename_i h1 h2 h3
        have h0 : n % 12 = 5 ∨ n % 12 = 6 ∨ n % 12 = 7 := by omega
        rcases h0 with h | h | h <;> rw [h] <;> exact ⟨by decide +kernel, by decide, by decide⟩
      · split
        · trivial
        · split
          · exact ⟨by decide +kernel, by decide, by decide⟩
          · split
            · exact ⟨by decide +kernel, by decide, by decide⟩
            · have h0 := Int.emod_nonneg (n / 12 / 5) (show (15 : Int) ≠ 0 by decide)
              have h1 := Int.emod_lt_of_pos (n / 12 / 5) (show (0 : Int) < 15 by decide)
              rw [List.getD_eq_getElem?_getD, List.getElem?_eq_getElem (by show _ < 15; omega)]
              exact some_ok (List.getElem_mem _)
theorem dozT_len {n : Int} {tn : List Int} : (dozT n tn).length = tn.length := by
  unfold dozT
  split
  · exact bump_len _ _
  · rfl
theorem dozT_nn {n : Int} {tn : List Int} (ht : ∀ t ∈ tn, 0 ≤ t) : ∀ t ∈ dozT n tn, 0 ≤ t := by
  unfold dozT
  split
  · exact bump_nn ht _
  · exact ht
theorem backs_at (dd : Dd) (more : Int) : atI [PyData.int (dd.t - 1), .int (dd.t + 1), .int 1, .int 2] (more % 4) = some (.int (backs dd more)) := by
  have h0 := Int.emod_nonneg more (show (4 : Int) ≠ 0 by decide)
  have h1 := Int.emod_lt_of_pos more (show (0 : Int) < 4 by decide)
  unfold backs
  generalize more % 4 = j at h0 h1
  obtain rfl | rfl | rfl | rfl : j = 0 ∨ j = 1 ∨ j = 2 ∨ j = 3 := by omega
  · exact atI_of (i := 0) rfl
  · exact atI_of (i := 1) rfl
  · exact atI_of (i := 2) rfl
  · exact atI_of (i := 3) rfl
theorem wrong_at (dd : Dd) (more : Int) : ∃ y, atI [PyData.tuple [.int dd.a, .int (backs dd more), .str dd.w, .str dd.k, .int dd.v], fourT dd, .int more, .tuple [.int dd.a, .int (backs dd more), .str dd.w, .str dd.k, .int dd.v]] (more / 4 % 4) = some y ∧ (wrongG dd more).e = .tuple [.str "take", y] := by
  have h0 := Int.emod_nonneg (more / 4) (show (4 : Int) ≠ 0 by decide)
  have h1 := Int.emod_lt_of_pos (more / 4) (show (0 : Int) < 4 by decide)
  unfold wrongG
  generalize more / 4 % 4 = j at h0 h1
  obtain rfl | rfl | rfl | rfl : j = 0 ∨ j = 1 ∨ j = 2 ∨ j = 3 := by omega
  · exact ⟨_, atI_of (i := 0) rfl, by rw [if_neg (by decide), if_neg (by decide), back_e]⟩
  · exact ⟨_, atI_of (i := 1) rfl, rfl⟩
  · exact ⟨_, atI_of (i := 2) rfl, rfl⟩
  · exact ⟨_, atI_of (i := 3) rfl, by rw [if_neg (by decide), if_neg (by decide), back_e]⟩
theorem Alk.shpS : ∀ {n : Nat} {d : PyData}, Alk n d → Shp n (spoilD d)
  | 0, d, h => h.elim
  | n + 1, .none, _ => by simp only [spoilD]; exact shp_none
  | n + 1, .bool b, _ => by simp only [spoilD]; exact shp_bool
  | n + 1, .int i, _ => by simp only [spoilD]; exact shp_int
  | n + 1, .str z, h => by simp only [spoilD]; exact shp_str h
  | n + 1, .list ds, h => by
    rw [spoilD, spoilDs_map]
    refine shp_list (n := n) fun x hx => ?_
    rcases List.mem_append.mp hx with hx | hx
    · obtain ⟨y, hy, rfl⟩ := List.mem_map.mp hx
      exact (h.2 y hy).shpS
    · rw [List.mem_singleton.mp hx]
      exact shp_str (by decide +kernel)
  | n + 1, .tuple ds, h => by
    rw [spoilD, spoilDs_map]
    refine shp_tuple (n := n) fun x hx => ?_
    obtain ⟨y, hy, rfl⟩ := List.mem_map.mp hx
    exact (h.2 y hy).shpS
  | n + 1, .dict ps, h => h.elim
theorem Ch.ok.shp {c : Ch} (h : c.ok) : Shp 6 c.e := shp_tuple (n := 5) fun x hx => by
  simp only [List.mem_cons, List.not_mem_nil, or_false] at hx
  rcases hx with rfl | rfl
  · exact (shp_list (n := 3) fun y hy => by
      obtain ⟨k, hk, rfl⟩ := List.mem_map.mp hy
      exact (h.kp k hk).shp).mono (by decide)
  · cases e : c.co with
    | none => exact shp_none
    | some l => exact (shp_ddl (h.lc l e).2).mono (by decide)
theorem Dz.ok.shp {g : Dz} (h : g.ok) : Shp 2 g.e := by
  have two : ∀ {z : Str} {y : PyData}, PyData.strOk z = true → Shp 1 y → Shp 2 (.tuple [.str z, y]) := fun hz hy => shp_tuple (n := 1) fun x hx => by
    simp only [List.mem_cons, List.not_mem_nil, or_false] at hx
    rcases hx with rfl | rfl
    · exact shp_str hz
    · exact hy
  cases g with
  | bad y => exact two (by decide +kernel) h.sh
  | take d => exact two (by decide +kernel) (Dd.ok.shp h)
  | fall p => exact two (by decide +kernel) shp_int
  | word w i => exact two h.1 shp_int
theorem wdE_ok {c : Ch} {g : Dz} : PyData.strOk (wdE c g) = true := by
  unfold wdE
  split
  · decide +kernel
  · rename_i s e
    have := nextE_err e
    have h : ∀ x ∈ errs, PyData.strOk x = true := by decide +kernel
    exact h s this
theorem wdN_ok {m : Int} {gs : List Dz} {i : Nat} : PyData.strOk (wdN m gs i) = true := by
  unfold wdN
  split
  · exact wdE_ok
  · decide +kernel
theorem runT_shp {m : Int} {gs : List Dz} (h : (runN m gs gs.length).ok) : Shp 7 (runT m gs) := shp_tuple (n := 6) fun x hx => by
  simp only [List.mem_cons, List.not_mem_nil, or_false] at hx
  rcases hx with rfl | rfl
  · exact h.shp
  · exact (shp_list (n := 0) fun y hy => by
      obtain ⟨i, _, rfl⟩ := List.mem_map.mp hy
      exact shp_str wdN_ok).mono (by decide)
/-! the doings of a script -/
def numZ (ns : List Int) (i : Nat) : Int := mixed (ns.getD (i + 2) 0) ((i + 2 : Nat) : Int)
def turnsZ (ns : List Int) : Nat → List Int
  | 0 => [0, 0, 0, 0, 0, 0, 0, 0, 0, 0]
  | i + 1 => dozT (numZ ns i) (turnsZ ns i)
def doingZ (ns : List Int) (keys : List Str) (i : Nat) : Dz := dozG (numZ ns i) keys (turnsZ ns i)
def gsZ (ns : List Int) (keys : List Str) : List Dz := (List.range (min (ns.length : Int) 52 - 2).toNat).map (doingZ ns keys)
theorem turnsZ_len (ns : List Int) : ∀ i, (turnsZ ns i).length = 10
  | 0 => rfl
  | i + 1 => by rw [turnsZ, dozT_len, turnsZ_len ns i]
theorem turnsZ_nn (ns : List Int) : ∀ i, ∀ t ∈ turnsZ ns i, 0 ≤ t
  | 0 => by
    intro t ht
    have : ∀ t ∈ ([0, 0, 0, 0, 0, 0, 0, 0, 0, 0] : List Int), 0 ≤ t := by decide
    exact this t ht
  | i + 1 => dozT_nn (turnsZ_nn ns i)
theorem gsZ_ok {ns : List Int} {keys : List Str} (hk : ∀ k ∈ keys, isKeyS k = true) (h4 : keys.length = 4) : ∀ g ∈ gsZ ns keys, g.ok := fun g hg => by
  obtain ⟨i, _, rfl⟩ := List.mem_map.mp hg
  exact doz_ok (mixed_lo _ _) hk h4 (turnsZ_nn ns i)
theorem gsZ_len {ns : List Int} {keys : List Str} : (gsZ ns keys).length ≤ 50 := by
  unfold gsZ
  rw [List.length_map, List.length_range]
  omega
end Ck
namespace Ck
open PySem PySem.Spec PyProof.Rows L2
def topS (i : Nat) : Stmt := PySem.Challenge.pw_chainkeep_k13_run_told.main.body.getD i (.Pass ⟨0, 0, 0, 0⟩)
abbrev s_is_number : Stmt := topS 2
abbrev N_is_number : List Str := ["thing"]
theorem sc_is_number : FnScope N_is_number ["thing"] (defScope s_is_number) := ⟨rfl, rfl, rfl, by decide +kernel, rfl, by decide +kernel, by decide +kernel⟩
theorem b_is_number : BindsP "is_number" s_is_number ["thing"] := fun _ _ _ _ _ _ us hl => match us, hl with | [_], _ => rfl
abbrev s_is_key : Stmt := topS 3
abbrev N_is_key : List Str := ["thing", "sign"]
theorem sc_is_key : FnScope N_is_key ["thing"] (defScope s_is_key) := ⟨rfl, rfl, rfl, by decide +kernel, rfl, by decide +kernel, by decide +kernel⟩
theorem b_is_key : BindsP "is_key" s_is_key ["thing"] := fun _ _ _ _ _ _ us hl => match us, hl with | [_], _ => rfl
abbrev s_is_deed : Stmt := topS 4
abbrev N_is_deed : List Str := ["thing"]
theorem sc_is_deed : FnScope N_is_deed ["thing"] (defScope s_is_deed) := ⟨rfl, rfl, rfl, by decide +kernel, rfl, by decide +kernel, by decide +kernel⟩
theorem b_is_deed : BindsP "is_deed" s_is_deed ["thing"] := fun _ _ _ _ _ _ us hl => match us, hl with | [_], _ => rfl
abbrev s_begun : Stmt := topS 17
abbrev N_begun : List Str := ["many", "place"]
theorem sc_begun : FnScope N_begun ["many"] (defScope s_begun) := ⟨rfl, rfl, rfl, by decide +kernel, rfl, by decide +kernel, by decide +kernel⟩
theorem b_begun : BindsP "begun" s_begun ["many"] := fun _ _ _ _ _ _ us hl => match us, hl with | [_], _ => rfl
abbrev s_keeper_of : Stmt := topS 18
abbrev N_keeper_of : List Str := ["keeper"]
theorem sc_keeper_of : FnScope N_keeper_of ["keeper"] (defScope s_keeper_of) := ⟨rfl, rfl, rfl, by decide +kernel, rfl, by decide +kernel, by decide +kernel⟩
theorem b_keeper_of : BindsP "keeper_of" s_keeper_of ["keeper"] := fun _ _ _ _ _ _ us hl => match us, hl with | [_], _ => rfl
abbrev s_chain_of : Stmt := topS 19
abbrev N_chain_of : List Str := ["keepers", "coming", "keeper"]
theorem sc_chain_of : FnScope N_chain_of ["keepers", "coming"] (defScope s_chain_of) := ⟨rfl, rfl, rfl, by decide +kernel, rfl, by decide +kernel, by decide +kernel⟩
theorem b_chain_of : BindsP "chain_of" s_chain_of ["keepers", "coming"] := fun _ _ _ _ _ _ us hl => match us, hl with | [_, _], _ => rfl
abbrev s_with_keeper : Stmt := topS 20
abbrev N_with_keeper : List Str := ["chain", "place", "keeper", "keepers"]
theorem sc_with_keeper : FnScope N_with_keeper ["chain", "place", "keeper"] (defScope s_with_keeper) := ⟨rfl, rfl, rfl, by decide +kernel, rfl, by decide +kernel, by decide +kernel⟩
theorem b_with_keeper : BindsP "with_keeper" s_with_keeper ["chain", "place", "keeper"] := fun _ _ _ _ _ _ us hl => match us, hl with | [_, _, _], _ => rfl
abbrev s_at_end : Stmt := topS 21
abbrev N_at_end : List Str := ["keeper", "deed", "last", "log"]
theorem sc_at_end : FnScope N_at_end ["keeper", "deed", "last"] (defScope s_at_end) := ⟨rfl, rfl, rfl, by decide +kernel, rfl, by decide +kernel, by decide +kernel⟩
theorem b_at_end : BindsP "at_end" s_at_end ["keeper", "deed", "last"] := fun _ _ _ _ _ _ us hl => match us, hl with | [_, _, _], _ => rfl
abbrev s_take : Stmt := topS 22
abbrev N_take : List Str := ["chain", "deed", "keeper", "same", "one"]
theorem sc_take : FnScope N_take ["chain", "deed"] (defScope s_take) := ⟨rfl, rfl, rfl, by decide +kernel, rfl, by decide +kernel, by decide +kernel⟩
theorem b_take : BindsP "take" s_take ["chain", "deed"] := fun _ _ _ _ _ _ us hl => match us, hl with | [_, _], _ => rfl
abbrev s_steps_of : Stmt := topS 24
abbrev N_steps_of : List Str := ["chain", "places", "found", "place"]
theorem sc_steps_of : FnScope N_steps_of ["chain"] (defScope s_steps_of) := ⟨rfl, rfl, rfl, by decide +kernel, rfl, by decide +kernel, by decide +kernel⟩
theorem b_steps_of : BindsP "steps_of" s_steps_of ["chain"] := fun _ _ _ _ _ _ us hl => match us, hl with | [_], _ => rfl
abbrev s_passed : Stmt := topS 25
abbrev N_passed : List Str := ["chain", "place", "keepers", "giver", "last", "taker"]
theorem sc_passed : FnScope N_passed ["chain", "place"] (defScope s_passed) := ⟨rfl, rfl, rfl, by decide +kernel, rfl, by decide +kernel, by decide +kernel⟩
theorem b_passed : BindsP "passed" s_passed ["chain", "place"] := fun _ _ _ _ _ _ us hl => match us, hl with | [_, _], _ => rfl
abbrev s_backed : Stmt := topS 26
abbrev N_backed : List Str := ["chain", "place", "keepers", "giver", "taker", "sure", "up"]
theorem sc_backed : FnScope N_backed ["chain", "place"] (defScope s_backed) := ⟨rfl, rfl, rfl, by decide +kernel, rfl, by decide +kernel, by decide +kernel⟩
theorem b_backed : BindsP "backed" s_backed ["chain", "place"] := fun _ _ _ _ _ _ us hl => match us, hl with | [_, _], _ => rfl
abbrev s_grown : Stmt := topS 27
abbrev N_grown : List Str := ["keepers", "coming"]
theorem sc_grown : FnScope N_grown ["keepers", "coming"] (defScope s_grown) := ⟨rfl, rfl, rfl, by decide +kernel, rfl, by decide +kernel, by decide +kernel⟩
theorem b_grown : BindsP "grown" s_grown ["keepers", "coming"] := fun _ _ _ _ _ _ us hl => match us, hl with | [_, _], _ => rfl
abbrev s_done : Stmt := topS 28
abbrev N_done : List Str := ["chain", "step"]
theorem sc_done : FnScope N_done ["chain", "step"] (defScope s_done) := ⟨rfl, rfl, rfl, by decide +kernel, rfl, by decide +kernel, by decide +kernel⟩
theorem b_done : BindsP "done" s_done ["chain", "step"] := fun _ _ _ _ _ _ us hl => match us, hl with | [_, _], _ => rfl
abbrev s_quiet : Stmt := topS 29
abbrev N_quiet : List Str := ["chain", "steps"]
theorem sc_quiet : FnScope N_quiet ["chain"] (defScope s_quiet) := ⟨rfl, rfl, rfl, by decide +kernel, rfl, by decide +kernel, by decide +kernel⟩
theorem b_quiet : BindsP "quiet" s_quiet ["chain"] := fun _ _ _ _ _ _ us hl => match us, hl with | [_], _ => rfl
abbrev s_joined : Stmt := topS 31
abbrev N_joined : List Str := ["ahead", "behind", "down"]
theorem sc_joined : FnScope N_joined ["ahead", "behind"] (defScope s_joined) := ⟨rfl, rfl, rfl, by decide +kernel, rfl, by decide +kernel, by decide +kernel⟩
theorem b_joined : BindsP "joined" s_joined ["ahead", "behind"] := fun _ _ _ _ _ _ us hl => match us, hl with | [_, _], _ => rfl
abbrev s_made_last : Stmt := topS 32
abbrev N_made_last : List Str := ["keeper", "first", "many", "up"]
theorem sc_made_last : FnScope N_made_last ["keeper", "first"] (defScope s_made_last) := ⟨rfl, rfl, rfl, by decide +kernel, rfl, by decide +kernel, by decide +kernel⟩
theorem b_made_last : BindsP "made_last" s_made_last ["keeper", "first"] := fun _ _ _ _ _ _ us hl => match us, hl with | [_, _], _ => rfl
abbrev s_fall : Stmt := topS 33
abbrev N_fall : List Str := ["chain", "place", "keepers", "many", "ahead", "behind", "both"]
theorem sc_fall : FnScope N_fall ["chain", "place"] (defScope s_fall) := ⟨rfl, rfl, rfl, by decide +kernel, rfl, by decide +kernel, by decide +kernel⟩
theorem b_fall : BindsP "fall" s_fall ["chain", "place"] := fun _ _ _ _ _ _ us hl => match us, hl with | [_, _], _ => rfl
abbrev s_come : Stmt := topS 34
abbrev N_come : List Str := ["chain"]
theorem sc_come : FnScope N_come ["chain"] (defScope s_come) := ⟨rfl, rfl, rfl, by decide +kernel, rfl, by decide +kernel, by decide +kernel⟩
theorem b_come : BindsP "come" s_come ["chain"] := fun _ _ _ _ _ _ us hl => match us, hl with | [_], _ => rfl
abbrev s_one_done : Stmt := topS 36
abbrev N_one_done : List Str := ["chain", "doing"]
theorem sc_one_done : FnScope N_one_done ["chain", "doing"] (defScope s_one_done) := ⟨rfl, rfl, rfl, by decide +kernel, rfl, by decide +kernel, by decide +kernel⟩
theorem b_one_done : BindsP "one_done" s_one_done ["chain", "doing"] := fun _ _ _ _ _ _ us hl => match us, hl with | [_, _], _ => rfl
abbrev s_tried : Stmt := topS 37
abbrev N_tried : List Str := ["chain", "doing"]
theorem sc_tried : FnScope N_tried ["chain", "doing"] (defScope s_tried) := ⟨rfl, rfl, rfl, by decide +kernel, rfl, by decide +kernel, by decide +kernel⟩
theorem b_tried : BindsP "tried" s_tried ["chain", "doing"] := fun _ _ _ _ _ _ us hl => match us, hl with | [_, _], _ => rfl
abbrev s_run : Stmt := topS 38
abbrev N_run : List Str := ["many", "doings", "chain", "found", "doing", "behind"]
theorem sc_run : FnScope N_run ["many", "doings"] (defScope s_run) := ⟨rfl, rfl, rfl, by decide +kernel, rfl, by decide +kernel, by decide +kernel⟩
theorem b_run : BindsP "run" s_run ["many", "doings"] := fun _ _ _ _ _ _ us hl => match us, hl with | [_, _], _ => rfl
abbrev s__law_cell_at : Stmt := topS 40
abbrev N__law_cell_at : List Str := ["_law_script", "_law_k"]
theorem sc__law_cell_at : FnScope N__law_cell_at ["_law_script", "_law_k"] (defScope s__law_cell_at) := ⟨rfl, rfl, rfl, by decide +kernel, rfl, by decide +kernel, by decide +kernel⟩
theorem b__law_cell_at : BindsP "_law_cell_at" s__law_cell_at ["_law_script", "_law_k"] := fun _ _ _ _ _ _ us hl => match us, hl with | [_, _], _ => rfl
abbrev s__law_mixed : Stmt := topS 41
abbrev N__law_mixed : List Str := ["_law_cell", "_law_k", "_law_number_here"]
theorem sc__law_mixed : FnScope N__law_mixed ["_law_cell", "_law_k"] (defScope s__law_mixed) := ⟨rfl, rfl, rfl, by decide +kernel, rfl, by decide +kernel, by decide +kernel⟩
theorem b__law_mixed : BindsP "_law_mixed" s__law_mixed ["_law_cell", "_law_k"] := fun _ _ _ _ _ _ us hl => match us, hl with | [_, _], _ => rfl
abbrev s__law_number : Stmt := topS 42
abbrev N__law_number : List Str := ["_law_number_here", "_law_way", "_law_more", "_law_great"]
theorem sc__law_number : FnScope N__law_number ["_law_number_here"] (defScope s__law_number) := ⟨rfl, rfl, rfl, by decide +kernel, rfl, by decide +kernel, by decide +kernel⟩
theorem b__law_number : BindsP "_law_number" s__law_number ["_law_number_here"] := fun _ _ _ _ _ _ us hl => match us, hl with | [_], _ => rfl
abbrev s__law_keys : Stmt := topS 43
abbrev N__law_keys : List Str := ["_law_number_here", "_law_letters", "_law_size", "_law_word", "_law_at", "_law_other", "_law_k"]
theorem sc__law_keys : FnScope N__law_keys ["_law_number_here"] (defScope s__law_keys) := ⟨rfl, rfl, rfl, by decide +kernel, rfl, by decide +kernel, by decide +kernel⟩
theorem b__law_keys : BindsP "_law_keys" s__law_keys ["_law_number_here"] := fun _ _ _ _ _ _ us hl => match us, hl with | [_], _ => rfl
abbrev s__law_deed : Stmt := topS 44
abbrev N__law_deed : List Str := ["_law_number_here", "_law_keys_here", "_law_turns", "_law_asker", "_law_word", "_law_value"]
theorem sc__law_deed : FnScope N__law_deed ["_law_number_here", "_law_keys_here", "_law_turns"] (defScope s__law_deed) := ⟨rfl, rfl, rfl, by decide +kernel, rfl, by decide +kernel, by decide +kernel⟩
theorem b__law_deed : BindsP "_law_deed" s__law_deed ["_law_number_here", "_law_keys_here", "_law_turns"] := fun _ _ _ _ _ _ us hl => match us, hl with | [_, _, _], _ => rfl
abbrev s__law_doing : Stmt := topS 45
abbrev N__law_doing : List Str := ["_law_cell", "_law_k", "_law_turns", "_law_keys_here", "_law_number_here", "_law_way", "_law_more", "_law_deed_here", "_law_back", "_law_some"]
theorem sc__law_doing : FnScope N__law_doing ["_law_cell", "_law_k", "_law_turns", "_law_keys_here"] (defScope s__law_doing) := ⟨rfl, rfl, rfl, by decide +kernel, rfl, by decide +kernel, by decide +kernel⟩
theorem b__law_doing : BindsP "_law_doing" s__law_doing ["_law_cell", "_law_k", "_law_turns", "_law_keys_here"] := fun _ _ _ _ _ _ us hl => match us, hl with | [_, _, _, _], _ => rfl
abbrev s__law_did : Stmt := topS 46
abbrev N__law_did : List Str := ["_law_chain", "_law_doing_here"]
theorem sc__law_did : FnScope N__law_did ["_law_chain", "_law_doing_here"] (defScope s__law_did) := ⟨rfl, rfl, rfl, by decide +kernel, rfl, by decide +kernel, by decide +kernel⟩
theorem b__law_did : BindsP "_law_did" s__law_did ["_law_chain", "_law_doing_here"] := fun _ _ _ _ _ _ us hl => match us, hl with | [_, _], _ => rfl
abbrev s__law_tried : Stmt := topS 47
abbrev N__law_tried : List Str := ["_law_chain", "_law_doing_here"]
theorem sc__law_tried : FnScope N__law_tried ["_law_chain", "_law_doing_here"] (defScope s__law_tried) := ⟨rfl, rfl, rfl, by decide +kernel, rfl, by decide +kernel, by decide +kernel⟩
theorem b__law_tried : BindsP "_law_tried" s__law_tried ["_law_chain", "_law_doing_here"] := fun _ _ _ _ _ _ us hl => match us, hl with | [_, _], _ => rfl
abbrev s__law_run : Stmt := topS 48
abbrev N__law_run : List Str := ["_law_many", "_law_doings"]
theorem sc__law_run : FnScope N__law_run ["_law_many", "_law_doings"] (defScope s__law_run) := ⟨rfl, rfl, rfl, by decide +kernel, rfl, by decide +kernel, by decide +kernel⟩
theorem b__law_run : BindsP "_law_run" s__law_run ["_law_many", "_law_doings"] := fun _ _ _ _ _ _ us hl => match us, hl with | [_, _], _ => rfl
abbrev s__law_spoilt : Stmt := topS 49
abbrev N__law_spoilt : List Str := ["_law_thing", "_law_one"]
theorem sc__law_spoilt : FnScope N__law_spoilt ["_law_thing"] (defScope s__law_spoilt) := ⟨rfl, rfl, rfl, by decide +kernel, rfl, by decide +kernel, by decide +kernel⟩
theorem b__law_spoilt : BindsP "_law_spoilt" s__law_spoilt ["_law_thing"] := fun _ _ _ _ _ _ us hl => match us, hl with | [_], _ => rfl
abbrev s_law : Stmt := topS 50
abbrev N_law : List Str := ["_law_script", "_law_keys_here", "_law_many", "_law_turns", "_law_doings", "_law_handed", "_law_found", "_law_chain", "_law_due", "_law_doing_here", "_law_behind", "_law_k"]
theorem sc_law : FnScope N_law ["_law_script"] (defScope s_law) := ⟨rfl, rfl, rfl, by decide +kernel, rfl, by decide +kernel, by decide +kernel⟩
theorem b_law : BindsP "law" s_law ["_law_script"] := fun _ _ _ _ _ _ us hl => match us, hl with | [_], _ => rfl
abbrev YN : List Str := ["KeepError", "BadDeed", "BadTurn", "OtherDeed", "NoStep", "NoKeeper", "OnlyKeeper", "OneComing", "TooMany"]
abbrev XN : List Str := ["BadDeed", "BadTurn", "OtherDeed", "NoStep", "NoKeeper", "OnlyKeeper", "OneComing", "TooMany"]
structure Tx (K : PySem.W.Frag) (mg : Str → Option Value) : Prop where
  z_ValueError : mg "ValueError" = none
  z_all : mg "all" = none
  z_bool : mg "bool" = none
  z_int : mg "int" = none
  z_isinstance : mg "isinstance" = none
  z_len : mg "len" = none
  z_list : mg "list" = none
  z_max : mg "max" = none
  z_min : mg "min" = none
  z_range : mg "range" = none
  z_str : mg "str" = none
  z_tuple : mg "tuple" = none
  c_LETTERS : ∃ t, mg "LETTERS" = some (.str "abcdefghijklmnopqrstuvwxyz" t)
  c_MOST_KEEPERS : ∃ t, mg "MOST_KEEPERS" = some (.int 9 t)
  f_is_number : Has K mg "is_number" s_is_number
  f_is_key : Has K mg "is_key" s_is_key
  f_is_deed : Has K mg "is_deed" s_is_deed
  f_begun : Has K mg "begun" s_begun
  f_keeper_of : Has K mg "keeper_of" s_keeper_of
  f_chain_of : Has K mg "chain_of" s_chain_of
  f_with_keeper : Has K mg "with_keeper" s_with_keeper
  f_at_end : Has K mg "at_end" s_at_end
  f_take : Has K mg "take" s_take
  f_steps_of : Has K mg "steps_of" s_steps_of
  f_passed : Has K mg "passed" s_passed
  f_backed : Has K mg "backed" s_backed
  f_grown : Has K mg "grown" s_grown
  f_done : Has K mg "done" s_done
  f_quiet : Has K mg "quiet" s_quiet
  f_joined : Has K mg "joined" s_joined
  f_made_last : Has K mg "made_last" s_made_last
  f_fall : Has K mg "fall" s_fall
  f_come : Has K mg "come" s_come
  f_one_done : Has K mg "one_done" s_one_done
  f_tried : Has K mg "tried" s_tried
  f_run : Has K mg "run" s_run
  f__law_cell_at : Has K mg "_law_cell_at" s__law_cell_at
  f__law_mixed : Has K mg "_law_mixed" s__law_mixed
  f__law_number : Has K mg "_law_number" s__law_number
  f__law_keys : Has K mg "_law_keys" s__law_keys
  f__law_deed : Has K mg "_law_deed" s__law_deed
  f__law_doing : Has K mg "_law_doing" s__law_doing
  f__law_did : Has K mg "_law_did" s__law_did
  f__law_tried : Has K mg "_law_tried" s__law_tried
  f__law_run : Has K mg "_law_run" s__law_run
  f__law_spoilt : Has K mg "_law_spoilt" s__law_spoilt
  g_KeepError : mg "KeepError" = some (.ref (He.ga K "KeepError"))
  x_KeepError : PySem.W.excIn K (He.ga K "KeepError") He.veBase "ValueError.__new__" = true ∧ PySem.W.keepIn K (.ref (He.ga K "KeepError")) = true ∧ PySem.W.subIn K (.ref (He.ga K "KeepError")) (.type "BaseException") = some true ∧ PySem.W.typeIn K (.ref (He.ga K "KeepError")) = some (.type "type")
  g_BadDeed : mg "BadDeed" = some (.ref (He.ga K "BadDeed"))
  x_BadDeed : PySem.W.excIn K (He.ga K "BadDeed") He.veBase "ValueError.__new__" = true ∧ PySem.W.keepIn K (.ref (He.ga K "BadDeed")) = true ∧ PySem.W.subIn K (.ref (He.ga K "BadDeed")) (.type "BaseException") = some true ∧ PySem.W.typeIn K (.ref (He.ga K "BadDeed")) = some (.type "type")
  g_BadTurn : mg "BadTurn" = some (.ref (He.ga K "BadTurn"))
  x_BadTurn : PySem.W.excIn K (He.ga K "BadTurn") He.veBase "ValueError.__new__" = true ∧ PySem.W.keepIn K (.ref (He.ga K "BadTurn")) = true ∧ PySem.W.subIn K (.ref (He.ga K "BadTurn")) (.type "BaseException") = some true ∧ PySem.W.typeIn K (.ref (He.ga K "BadTurn")) = some (.type "type")
  g_OtherDeed : mg "OtherDeed" = some (.ref (He.ga K "OtherDeed"))
  x_OtherDeed : PySem.W.excIn K (He.ga K "OtherDeed") He.veBase "ValueError.__new__" = true ∧ PySem.W.keepIn K (.ref (He.ga K "OtherDeed")) = true ∧ PySem.W.subIn K (.ref (He.ga K "OtherDeed")) (.type "BaseException") = some true ∧ PySem.W.typeIn K (.ref (He.ga K "OtherDeed")) = some (.type "type")
  g_NoStep : mg "NoStep" = some (.ref (He.ga K "NoStep"))
  x_NoStep : PySem.W.excIn K (He.ga K "NoStep") He.veBase "ValueError.__new__" = true ∧ PySem.W.keepIn K (.ref (He.ga K "NoStep")) = true ∧ PySem.W.subIn K (.ref (He.ga K "NoStep")) (.type "BaseException") = some true ∧ PySem.W.typeIn K (.ref (He.ga K "NoStep")) = some (.type "type")
  g_NoKeeper : mg "NoKeeper" = some (.ref (He.ga K "NoKeeper"))
  x_NoKeeper : PySem.W.excIn K (He.ga K "NoKeeper") He.veBase "ValueError.__new__" = true ∧ PySem.W.keepIn K (.ref (He.ga K "NoKeeper")) = true ∧ PySem.W.subIn K (.ref (He.ga K "NoKeeper")) (.type "BaseException") = some true ∧ PySem.W.typeIn K (.ref (He.ga K "NoKeeper")) = some (.type "type")
  g_OnlyKeeper : mg "OnlyKeeper" = some (.ref (He.ga K "OnlyKeeper"))
  x_OnlyKeeper : PySem.W.excIn K (He.ga K "OnlyKeeper") He.veBase "ValueError.__new__" = true ∧ PySem.W.keepIn K (.ref (He.ga K "OnlyKeeper")) = true ∧ PySem.W.subIn K (.ref (He.ga K "OnlyKeeper")) (.type "BaseException") = some true ∧ PySem.W.typeIn K (.ref (He.ga K "OnlyKeeper")) = some (.type "type")
  g_OneComing : mg "OneComing" = some (.ref (He.ga K "OneComing"))
  x_OneComing : PySem.W.excIn K (He.ga K "OneComing") He.veBase "ValueError.__new__" = true ∧ PySem.W.keepIn K (.ref (He.ga K "OneComing")) = true ∧ PySem.W.subIn K (.ref (He.ga K "OneComing")) (.type "BaseException") = some true ∧ PySem.W.typeIn K (.ref (He.ga K "OneComing")) = some (.type "type")
  g_TooMany : mg "TooMany" = some (.ref (He.ga K "TooMany"))
  x_TooMany : PySem.W.excIn K (He.ga K "TooMany") He.veBase "ValueError.__new__" = true ∧ PySem.W.keepIn K (.ref (He.ga K "TooMany")) = true ∧ PySem.W.subIn K (.ref (He.ga K "TooMany")) (.type "BaseException") = some true ∧ PySem.W.typeIn K (.ref (He.ga K "TooMany")) = some (.type "type")
  cls : ClsOk K XN YN
local macro_rules | `(tactic| k_memK) => `(tactic| first
  | with_reducible exact ev_int
  | with_reducible exact ev_str
  | with_reducible exact ev_bl
  | with_reducible exact ev_non
  | with_reducible exact ea_nil
  | with_reducible exact eo_none
  | with_reducible exact et_yes
  | ((with_reducible apply ev_var); rfl)
  | ((with_reducible apply ea_cons); k_memK; k_memK)
  | ((with_reducible apply ev_head); kas_types)
  | ((with_reducible apply ev_ixOwn); rfl; k_memK; k_allIn)
  | ((with_reducible apply ev_inR); k_memK; k_memK)
  | ((with_reducible apply ev_notInR); k_memK; k_memK)
  | ((with_reducible apply ev_op); k_memK; k_memK; k_subL)
  | ((with_reducible apply ev_un); k_memK; exact ru_neg)
  | ((with_reducible apply ev_tup); k_memK; k_ownIn)
  | ((with_reducible apply ev_lst); k_memK; k_ownIn)
  | ((with_reducible apply ev_isiIntB); k_memK; assumption)
  | ((with_reducible apply ev_isiInt); k_memK)
  | ((with_reducible apply ev_isiBoolB); k_memK; assumption)
  | ((with_reducible apply ev_isiBool); k_memK)
  | ((with_reducible apply ev_isiStrB); k_memK; assumption)
  | ((with_reducible apply ev_isiStr); k_memK)
  | ((with_reducible apply ev_isiListB); k_memK; assumption)
  | ((with_reducible apply ev_isiList); k_memK)
  | ((with_reducible apply ev_isiTupB); k_memK; assumption)
  | ((with_reducible apply ev_isiTup); k_memK)
  | ((with_reducible apply ev_isiDictB); k_memK; assumption)
  | ((with_reducible apply ev_isiDict); k_memK)
  | ((with_reducible apply ev_cb); k_memK; k_clsL)
  | ((with_reducible apply ev_sl); k_memK; k_memK; k_memK; k_offL)
  | ((with_reducible apply eo_some); k_memK)
  | ((with_reducible apply ev_bm); k_memK; k_memK; k_places)
  | ((with_reducible apply et_test); k_memK)
  | ((with_reducible apply et_B); k_memK)
  | ((with_reducible apply et_not); k_memK)
  | ((with_reducible apply et_and); k_memK; first | (intro _; k_memK) | exact et_no rfl)
  | ((with_reducible apply et_or); k_memK; first | (intro _; k_memK) | exact et_noO rfl)
  | ((with_reducible apply ev_andV); k_memK; first | (intro _; k_memK) | exact ev_no rfl)
  | ((with_reducible apply ev_orV); k_memK; first | (intro _; k_memK) | exact ev_noO rfl)
  | ((with_reducible apply ev_notV); k_memK))
local macro_rules | `(tactic| k_subL) => `(tactic| first
  | with_reducible exact rv_addI
  | with_reducible exact rv_sub
  | ((with_reducible apply rv_mulI); tlg_ne)
  | ((with_reducible apply rv_modP); first | decide | omega)
  | ((with_reducible apply rv_fdivP); first | exact ⟨by decide, by decide⟩ | exact ⟨by omega, by omega⟩)
  | ((with_reducible apply rv_pow); lcg_off)
  | with_reducible exact rv_lt
  | with_reducible exact rv_gt
  | with_reducible exact rv_le
  | with_reducible exact rv_ge
  | with_reducible exact rv_eqI
  | with_reducible exact rv_neI
  | with_reducible exact rv_eqB
  | with_reducible exact rv_neB
  | ((with_reducible apply rv_eqS) <;> lcg_sub)
  | ((with_reducible apply rv_neS) <;> lcg_sub)
  | ((with_reducible apply rv_eqNil); lcg_src)
  | ((with_reducible apply rv_neNil); lcg_src)
  | with_reducible exact rv_isN
  | with_reducible exact rv_notN
  | with_reducible exact rv_isB
  | ((with_reducible apply rv_ixT); k_allIn)
  | ((with_reducible apply rv_ixL); k_allIn)
  | ((with_reducible apply rv_ixS); k_ownIn; k_allIn)
  | ((with_reducible apply rv_addS); k_ownIn)
  | ((with_reducible apply rv_addT); k_ownIn)
  | ((with_reducible apply RvN.d); (with_reducible apply rvN_addL); k_ownIn)
  | with_reducible exact rv_inS
  | ((with_reducible apply rv_inT) <;> rfl)
  | ((with_reducible apply rv_notInT) <;> rfl))
local macro_rules | `(tactic| tlg_ne) => `(tactic| first
  | exact .inr ⟨by decide, by decide⟩
  | exact .inl ⟨by decide, by decide⟩
  | exact .inr ⟨by omega, by omega⟩
  | exact .inl ⟨by omega, by omega⟩)
local macro_rules | `(tactic| k_clsL) => `(tactic| first
  | with_reducible exact rc_lenL
  | with_reducible exact rc_lenT
  | ((with_reducible apply rc_lenS); k_ownIn)
  | with_reducible exact rc_max2
  | with_reducible exact rc_min2
  | with_reducible exact rc_intB
  | ((with_reducible apply RcN.d); with_reducible exact rcN_listL)
  | ((with_reducible apply RcN.d); with_reducible exact rcN_listT))
local macro_rules | `(tactic| k_offL) => `(tactic| first
  | ((with_reducible apply RsN.d); with_reducible exact rsN_L)
  | with_reducible exact rs_T
  | ((with_reducible apply rs_S); k_ownIn))
local macro_rules | `(tactic| k_places) => `(tactic| first
  | with_reducible exact rm_findK
  | with_reducible exact rm_countK
  | ((with_reducible apply rm_joinK); k_ownIn))
local macro_rules | `(tactic| k_allIn) => `(tactic| first | assumption | (with_reducible exact atI_cons0) | rfl)
local macro_rules | `(tactic| k_ownIn) => `(tactic| first | (exact sz_dec (Nat.le_of_ble_eq_true rfl)) | assumption | (exact sz_dec (by omega)) | (exact sz_dec (by simp; omega)))
local macro_rules | `(tactic| lcg_sub) => `(tactic| first | assumption | decide +kernel)
local macro_rules | `(tactic| lcg_src) => `(tactic| first | assumption | (exact ⟨_, by decide, by assumption⟩))
/-- statements -/
local macro_rules | `(tactic| l_intsC) => `(tactic| (k_updF; (with_reducible apply at_setA); (k_memK); (k_intsEnd)))
local macro_rules | `(tactic| k_updF) => `(tactic| repeat (first | (with_reducible apply at_seq) | (with_reducible apply at_next)))
local macro_rules | `(tactic| kxs_still) => `(tactic| (k_updF; (with_reducible apply at_ret); (k_memK)))
local macro_rules | `(tactic| l_intsW) => `(tactic| (k_updF; (with_reducible apply at_if); (k_memK)))
local macro_rules | `(tactic| kc_close) => `(tactic| (k_updF; (refine' at_rt ?h ?e (by assumption)); (case h => k_memK)))
local macro_rules | `(tactic| lcg_off) => `(tactic| exact ⟨by decide, by decide, by first | decide | omega⟩)
local macro_rules | `(tactic| kas_types) => `(tactic| first
  | keq_rows
  | ((with_reducible apply ev_mixed); k_memK; k_memK)
  | ((with_reducible apply ev_cell_at); k_memK; k_memK; first | decide | omega)
  | ((with_reducible apply ev_is_numberB (b := true)); k_memK; keq_hits)
  | ((with_reducible apply ev_is_numberB (b := false)); k_memK; keq_hits)
  | ((with_reducible apply ev_is_number); k_memK)
  | ((with_reducible apply ev_is_keyB (b := true)); k_memK; k_upd; keq_hits)
  | ((with_reducible apply ev_is_keyB (b := false)); k_memK; k_upd; keq_hits)
  | ((with_reducible apply ev_is_key); k_memK; k_upd))
local macro_rules | `(tactic| keq_hits) => `(tactic| first | assumption | rfl)
local macro_rules | `(tactic| k_upd) => `(tactic| first | assumption | exact And.left (by assumption) | trivial)
local macro_rules | `(tactic| k_intsEnd) => `(tactic| repeat (first | exact SetAt.zero | apply SetAt.succ))
local macro_rules | `(tactic| k_caught0) => `(tactic| (apply at_nf; rotate_left; (repeat (first | exact Nf.nil | apply Nf.cons))))
/-- what is one's own -/
local macro_rules | `(tactic| is_list) => `(tactic| first
  | ((with_reducible apply em_tup); is_tup; k_ownIn)
  | ((with_reducible apply em_lst); is_tup; k_ownIn)
  | with_reducible exact em_var rfl
  | (refine em_own rfl ?_; end_int)
  | with_reducible exact em_ownD rfl
  | end_str
  | (refine em_d ?_ ?_; k_memK; end_int))
local macro_rules | `(tactic| is_tup) => `(tactic| first
  | with_reducible exact ems_nil
  | ((with_reducible apply ems_cons); is_list; is_tup; decide))
local macro_rules | `(tactic| end_int) => `(tactic| first | assumption | rfl | exact noL_dd | exact noLs_map (fun _ => noL_dd) _ | exact noLs_map (fun _ => rfl) _)
local macro_rules | `(tactic| end_none) => `(tactic| (k_updF; (refine' at_rtO ?h ?e (by assumption)); (case h => is_list)))


section
variable {P : Program} {w : World} {K : PySem.W.Frag} {mg : Str → Option Value} {base : Heap}
theorem ok_is_number (T : Tx K mg) : Def P w K mg base CX0 1 "is_number" ["thing"] (spP 1 R_is_number) := by
  refine mkP T.f_is_number b_is_number sc_is_number rfl fun f cdv A outer s H E hr => ⟨_, (pss_one (ps_ret (pe_and (pe_callB (isi_K K) (by rfl) T.z_isinstance (by decide +kernel) (pa_cons (pv 0) (pa_cons (pe_bltn (v := .ty "int") (by rfl) T.z_int (by decide +kernel) rfl) pa_nil))) (pe_one (pe_not (pe_callB (isi_K K) (by rfl) T.z_isinstance (by decide +kernel) (pa_cons (pv 0) (pa_cons (pe_bltn (v := .ty "bool") (by rfl) T.z_bool (by decide +kernel) rfl) pa_nil)))))))), ?_⟩
  rintro ds d B Q hl ⟨x, rfl, rfl⟩ q
  kxs_still
  exact q

theorem ok_is_key (T : Tx K mg) : Def P w K mg base CX0 1 "is_key" ["thing"] (spP 1 R_is_key) := by
  refine mkP T.f_is_key b_is_key sc_is_key rfl fun f cdv A outer s H E hr => ⟨_, (pss_cons (ps_if (PW.pt (pw_or (pt_not (pt_val (pe_callB (isi_K K) (by rfl) T.z_isinstance (by decide +kernel) (pa_cons (pv 0) (pa_cons (pe_bltn (v := .ty "str") (by rfl) T.z_str (by decide +kernel) rfl) pa_nil))))) (pw_or (pt_cmpR op_lt (pe_callB (len_K K) (by rfl) T.z_len (by decide +kernel) (pa_cons (pv 0) pa_nil)) pe_int (nomark _)) (pw_or1 (pt_cmpR op_gt (pe_callB (len_K K) (by rfl) T.z_len (by decide +kernel) (pa_cons (pv 0) pa_nil)) pe_int (nomark _))))))
      (pss_one (ps_ret pe_bl))
      pss_nil)
      (pss_one (ps_ret (pe_callB (all_K K rfl) (by rfl) T.z_all (by decide +kernel) (pa_cons (pe_lc (own := [("sign", 1)]) (g := gName 1) (by rfl) sc_is_key.nd (pi_str (pv 0)) (blkOk_by (own := [("sign", 1)]) (N := N_is_key) (sc := defScope s_is_key) (by decide +kernel)) (fun _ _ _ _ _ => pg_name (i := 1) sc_is_key.nd rfl (Or.inl rfl)) (fun _ _ _ _ _ => pts_nil) (fun _ _ _ _ _ => (pe_cmpR (op_inK K (hu65 hr)) (pv 1) (pe_gstr T.c_LETTERS) (by with_unfolding_all rfl)))) pa_nil))))), ?_⟩
  rintro ds d B Q hl ⟨x, rfl, hs, rfl⟩ q
  cases x with
  | str z =>
    have hz : z.length ≤ sizeLine := sz_dec hs
    l_intsW
    · intro hb
      kxs_still
      rw [show isKeyD (.str z) = false by
        have hb' : (decide ((z.length : Int) < 1) || decide (8 < (z.length : Int))) = true := hb
        rw [Bool.or_eq_true, decide_eq_true_eq, decide_eq_true_eq] at hb'
        show (decide (1 ≤ z.length) && (decide (z.length ≤ 8) && lowD z)) = false
        rcases hb' with h | h
        · rw [decide_eq_false (by omega)]; rfl
        · rw [decide_eq_false (p := z.length ≤ 8) (by omega)]; simp] at q
      exact q
    · intro hb
      have hb' : (decide ((z.length : Int) < 1) || decide (8 < (z.length : Int))) = false := hb
      rw [Bool.or_eq_false_iff, decide_eq_false_iff_not, decide_eq_false_iff_not] at hb'
      apply at_next
      refine at_rt (d := .bool ((z.cps.toList.map fun c => decide (c ∈ LETTERS.cps.toList)).all id)) ?_ ?_ q
      · refine ev_cb (ea_cons (EvN.ev (evN_lcm (j := 1) sg z.cps.toList (fun c => .bool (decide (c ∈ LETTERS.cps.toList))) rfl (ei_str (by k_memK)) ?_ fun c hc => ?_)) ea_nil) ?_
        · have : z.cps.toList.length = z.length := by simp [Str.length]
          rw [this]; exact hz
        · refine ev_op (ev_var rfl) ev_str rv_inS
        · rw [show (z.cps.toList.map fun c => PyData.bool (decide (c ∈ LETTERS.cps.toList))) = (z.cps.toList.map fun c => decide (c ∈ LETTERS.cps.toList)).map PyData.bool by rw [List.map_map]; rfl]
          exact rc_all
      · have h : isKeyD (.str z) = lowD z := by
          show (decide (1 ≤ z.length) && (decide (z.length ≤ 8) && lowD z)) = lowD z
          rw [decide_eq_true (by omega), decide_eq_true (p := z.length ≤ 8) (by omega)]; rfl
        rw [h, List.all_map]; rfl
  | _ =>
    l_intsW
    · intro hb
      kxs_still
      exact q
    · intro hb; cases hb

theorem ok_is_deed (T : Tx K mg) : Def P w K mg base CX0 2 "is_deed" ["thing"] (spP 1 R_is_deed) := by
  refine mkP T.f_is_deed b_is_deed sc_is_deed rfl fun f cdv A outer s H E hr => ⟨_, (pss_cons (ps_if (PW.pt (pw_or (pt_not (pt_val (pe_callB (isi_K K) (by rfl) T.z_isinstance (by decide +kernel) (pa_cons (pv 0) (pa_cons (pe_bltn (v := .ty "tuple") (by rfl) T.z_tuple (by decide +kernel) rfl) pa_nil))))) (pw_or1 (pt_cmpR (op_neK K (hu64 hr)) (pe_callB (len_K K) (by rfl) T.z_len (by decide +kernel) (pa_cons (pv 0) pa_nil)) pe_int (nomark _)))))
      (pss_one (ps_ret pe_bl))
      pss_nil)
      (pss_cons (ps_if (PW.pt (pw_or (pt_not (pt_val (pe_callD (ok_is_number T) hr (pa_cons (pe_ix (ix_K K) (pv 0) pe_int (fun _ _ => rfl)) pa_nil)))) (pw_or (pt_cmpR op_lt (pe_ix (ix_K K) (pv 0) pe_int (fun _ _ => rfl)) pe_int (nomark _)) (pw_or (pt_cmpR op_gt (pe_ix (ix_K K) (pv 0) pe_int (fun _ _ => rfl)) pe_int (nomark _)) (pw_or (pt_not (pt_val (pe_callD (ok_is_number T) hr (pa_cons (pe_ix (ix_K K) (pv 0) pe_int (fun _ _ => rfl)) pa_nil)))) (pw_or1 (pt_cmpR op_lt (pe_ix (ix_K K) (pv 0) pe_int (fun _ _ => rfl)) pe_int (nomark _))))))))
      (pss_one (ps_ret pe_bl))
      pss_nil)
      (pss_cons (ps_if (PW.pt (pw_or (pt_not (pt_val (pe_callD (ok_is_key T) hr (pa_cons (pe_ix (ix_K K) (pv 0) pe_int (fun _ _ => rfl)) pa_nil)))) (pw_or (pt_not (pt_val (pe_callD (ok_is_number T) hr (pa_cons (pe_ix (ix_K K) (pv 0) pe_int (fun _ _ => rfl)) pa_nil)))) (pw_or1 (pt_not (pt_val (pe_callB (isi_K K) (by rfl) T.z_isinstance (by decide +kernel) (pa_cons (pe_ix (ix_K K) (pv 0) pe_int (fun _ _ => rfl)) (pa_cons (pe_bltn (v := .ty "str") (by rfl) T.z_str (by decide +kernel) rfl) pa_nil)))))))))
      (pss_one (ps_ret pe_bl))
      pss_nil)
      (pss_one (ps_ret (pe_or (pe_cmpR (op_inK K (hu65 hr)) (pe_ix (ix_K K) (pv 0) pe_int (fun _ _ => rfl)) (pe_tup (pa_cons pe_str (pa_cons pe_str (pa_cons pe_str pa_nil)))) (by with_unfolding_all rfl)) (pe_one (pe_and (pe_cmpR (op_eqK K (hu64 hr)) (pe_ix (ix_K K) (pv 0) pe_int (fun _ _ => rfl)) pe_str (nomark _)) (pe_one (pe_cmpR (op_eqK K (hu64 hr)) (pe_ix (ix_K K) (pv 0) pe_int (fun _ _ => rfl)) pe_int (nomark _))))))))))), ?_⟩
  rintro ds d B Q hl ⟨x, rfl, hs, rfl⟩ q
  rcases tup_or x with ⟨a, t, w, k, v, rfl⟩ | ⟨ds, rfl, hd⟩ | hx
  · have ha := hs a (by simp)
    have ht := hs t (by simp)
    have hw := hs w (by simp)
    have hk := hs k (by simp)
    have hv := hs v (by simp)
    l_intsW
    · intro hb; cases hb
    · intro _
      rcases num_or a with ⟨ai, rfl⟩ | hna
      · rcases num_or t with ⟨ti, rfl⟩ | hnt
        · l_intsW
          · intro hb
            kc_close
            simp only [Bool.not_true, Bool.false_or, Bool.or_eq_true, decide_eq_true_eq] at hb
            rw [show isDeedD (.tuple [.int ai, .int ti, w, k, v]) = false from isDeed5_no hb]
          · intro hb
            simp only [Bool.not_true, Bool.false_or, Bool.or_eq_false_iff, decide_eq_false_iff_not] at hb
            rcases num_or v with ⟨vi, rfl⟩ | hnv
            · rcases str_or w with ⟨ws, rfl⟩ | hsw
              · have hws : PyData.strOk ws = true := hw.2
                l_intsW
                · intro hb2
                  kc_close
                  have hk0 : isKeyD k = false := by simpa [isStrD] using hb2
                  rw [show isDeedD (.tuple [.int ai, .int ti, .str ws, k, .int vi]) = false from isDeed5_k (a := .int ai) (t := .int ti) (v := .int vi) hk0]
                · intro hb2
                  have hk1 : isKeyD k = true := by simpa [isStrD] using hb2
                  kc_close
                  rw [show isDeedD (.tuple [.int ai, .int ti, .str ws, k, .int vi]) = isWordS ws vi from isDeed5_w1 hb hk1]
                  exact congrArg PyData.bool (isWordS_eq ws vi)
              · l_intsW
                · intro _
                  kc_close
                  rw [show isDeedD (.tuple [.int ai, .int ti, w, k, .int vi]) = false from isDeed5_w hsw]
                · intro hb2
                  exfalso
                  simp [hsw] at hb2
            · l_intsW
              · intro _
                kc_close
                rw [show isDeedD (.tuple [.int ai, .int ti, w, k, v]) = false from isDeed5_v hnv]
              · intro hb2
                exfalso
                simp at hb2
        · l_intsW
          · intro _
            kc_close
            rw [show isDeedD (.tuple [.int ai, t, w, k, v]) = false from isDeed5_t hnt]
          · intro hb
            exfalso
            simp at hb
      · l_intsW
        · intro _
          kc_close
          rw [show isDeedD (.tuple [a, t, w, k, v]) = false from isDeed5_a hna]
        · intro hb; cases hb
  · l_intsW
    · intro hb
      kc_close
      rw [isDeed_len hd]
    · intro hb
      exfalso
      rw [show isTupD (.tuple ds) = true from rfl] at hb
      simp at hb
      omega
  · l_intsW
    · intro _
      kc_close
      rw [isDeed_tup hx]
    · intro hb; cases hb

theorem ok_begun (T : Tx K mg) : Def P w K mg base (L2.CX P w) 1 "begun" ["many"] (spW WO K 1 R_begun) := by
  refine mkX T.f_begun b_begun sc_begun rfl fun f cdv A outer s H E hr => ⟨_, (pss_cons (ps_if (PW.pt (pw_or (pt_cmpR op_lt (pv 0) pe_int (nomark _)) (pw_or1 (pt_cmpR op_gt (pv 0) (pe_gint T.c_MOST_KEEPERS) (nomark _)))))
      (pss_one (ps_raise rfl (takes_of rfl rfl rfl rfl) (pmk_own PySem.F.excBase_ValueError T.x_TooMany.1 T.g_TooMany T.x_TooMany.2.1 (raises_own T.x_TooMany.2.2.1 T.x_TooMany.2.2.2) (by exact rfl))))
      pss_nil)
      (pss_one (ps_ret (pe_tup (pa_cons (pe_lc (own := [("place", 1)]) (g := gName 1) (by rfl) sc_begun.nd (pi_range1 (by rfl) T.z_range (pa_cons (pv 0) pa_nil)) (blkOk_by (own := [("place", 1)]) (N := N_begun) (sc := defScope s_begun) (by decide +kernel)) (fun _ _ _ _ _ => pg_name (i := 1) sc_begun.nd rfl (Or.inl rfl)) (fun _ _ _ _ _ => pts_nil) (fun _ _ _ _ _ => (pe_tup (pa_cons (pe_lst pa_nil) (pa_cons pe_int (pa_cons (pe_lst pa_nil) (pa_cons (pe_lst pa_nil) pa_nil))))))) (pa_cons pe_non pa_nil)))))), ?_⟩
  rintro ds o B Q hl ⟨n, rfl, rfl⟩ q
  l_intsW
  · intro hb
    have h : n < 1 ∨ 9 < n := by simpa using hb
    unfold begunO at q
    rw [if_pos h] at q
    exact at_xq q
  · intro hb
    have h : ¬ (n < 1 ∨ 9 < n) := by simpa using hb
    unfold begunO at q
    rw [if_neg h] at q
    have q' : RtO B Q _ := q
    k_updF
    refine at_rtO (S := []) (em_tup (ems_cons (S1 := []) (S2 := []) (em_lcm (j := 1) (fun i : Nat => .int (0 + i)) (List.range n.toNat) (fun _ => nilK.e) rfl (ei_rng1 (by k_memK) (by omega) (by omega)) ?_ fun x hx => ?_) (ems_cons (S1 := []) (S2 := []) (em_d ev_non rfl) ems_nil (by decide)) (by decide)) (by k_ownIn)) ?_ q'
    · rw [List.length_range]; exact sz_dec (by omega)
    · show EvM _ _ [] (.tuple [.list [], .int 0, .list [], .list []])
      apply em_S
      · is_list
      · rfl
    · rw [List.map_const', List.length_range]
      show _ = PyData.tuple [.list ((List.replicate n.toNat nilK).map Kp.e), .none]
      rw [List.map_replicate]

theorem ok_keeper_of (T : Tx K mg) : Def P w K mg base CX0 1 "keeper_of" ["keeper"] (spW WO K 1 R_keeper_of) := by
  refine mkW T.f_keeper_of b_keeper_of sc_keeper_of rfl fun f cdv A outer s H E hr => ⟨_, (pss_one (ps_ret (pe_tup (pa_cons (pe_callTy (list_K K) (by rfl) T.z_list (by decide +kernel) (pa_cons (pe_ix (ix_K K) (pv 0) pe_int (fun _ _ => rfl)) pa_nil)) (pa_cons (pe_ix (ix_K K) (pv 0) pe_int (fun _ _ => rfl)) (pa_cons (pe_callTy (list_K K) (by rfl) T.z_list (by decide +kernel) (pa_cons (pe_ix (ix_K K) (pv 0) pe_int (fun _ _ => rfl)) pa_nil)) (pa_cons (pe_callTy (list_K K) (by rfl) T.z_list (by decide +kernel) (pa_cons (pe_ix (ix_K K) (pv 0) pe_int (fun _ _ => rfl)) pa_nil)) pa_nil))))))), ?_⟩
  rintro ds o B Q hl ⟨⟨l, s0, dn, up⟩, rfl, rfl⟩ q
  have q' : RtO B Q _ := q
  dsimp only [Kp.e]
  k_updF
  refine at_rtO (S := []) (em_tup (ems_cons (S1 := []) (S2 := []) (em_N (ds := l.map Dd.e) (evN_cb (xs := [.list (l.map Dd.e)]) (by k_memK) rcN_listL) (by end_int)) (ems_cons (S1 := []) (S2 := []) (em_d (by k_memK) rfl) (ems_cons (S1 := []) (S2 := []) (em_N (ds := dn.map Dd.e) (evN_cb (xs := [.list (dn.map Dd.e)]) (by k_memK) rcN_listL) (by end_int))
    (ems_cons (S1 := []) (S2 := []) (em_N (ds := up.map .int) (evN_cb (xs := [.list (up.map .int)]) (by k_memK) rcN_listL) (by end_int)) ems_nil (by decide)) (by decide)) (by decide)) (by decide)) (by k_ownIn)) rfl q'

theorem ok_chain_of (T : Tx K mg) : Def P w K mg base CX0 2 "chain_of" ["keepers", "coming"] (spW WO K 2 R_chain_of) := by
  refine mkW T.f_chain_of b_chain_of sc_chain_of rfl fun f cdv A outer s H E hr => ⟨_, (pss_cons (ps_if (pt_cmpR op_notN' (pv 1) pe_non (nomark _))
      (pss_one (ps_set (i := 1) sc_chain_of.nd rfl (Or.inl rfl) (pe_callTy (list_K K) (by rfl) T.z_list (by decide +kernel) (pa_cons (pv 1) pa_nil))))
      pss_nil)
      (pss_one (ps_ret (pe_tup (pa_cons (pe_lc (own := [("keeper", 2)]) (g := gName 2) (by rfl) sc_chain_of.nd (pi_listK K (pv 0)) (blkOk_by (own := [("keeper", 2)]) (N := N_chain_of) (sc := defScope s_chain_of) (by decide +kernel)) (fun _ _ _ _ _ => pg_name (i := 2) sc_chain_of.nd rfl (Or.inl rfl)) (fun _ _ _ _ _ => pts_nil) (fun _ _ _ _ _ => (pe_callD (ok_keeper_of T) hr (pa_cons (pv 2) pa_nil)))) (pa_cons (pv 1) pa_nil)))))), ?_⟩
  rintro ds o B Q hl ⟨⟨ks, co⟩, rfl, hz, rfl⟩ q
  have q' : RtO B Q _ := q
  have hz0 : ks.length ≤ 1001 := hz
  have hz' : ks.length ≤ sizeLine := sz_dec (by omega)
  cases co with
  | none =>
    l_intsW
    · intro hb; cases hb
    · intro _
      k_updF
      refine at_rtO (S := []) (em_tup (ems_cons (S1 := []) (S2 := []) (em_lcm (j := 2) Kp.e ks Kp.e rfl (ei_list (by k_memK)) hz' fun x hx => em_keeper_of (ev_var rfl)) (ems_cons (S1 := []) (S2 := []) (em_d (by k_memK) rfl) ems_nil (by decide)) (by decide)) (by k_ownIn)) rfl q'
  | some l =>
    l_intsW
    · intro _
      k_updF
      refine at_setNA (i := 1) (ds := l.map Dd.e) (evN_cb (xs := [.list (l.map Dd.e)]) (by k_memK) rcN_listL) (by k_intsEnd) ?_
      k_updF
      refine at_rtO (S := [1]) (em_tup (ems_cons (S1 := []) (S2 := [1]) (em_lcm (j := 2) Kp.e ks Kp.e rfl (ei_list (by k_memK)) hz' fun x hx => em_keeper_of (ev_var rfl)) (ems_cons (S1 := [1]) (S2 := []) (em_own (i := 1) rfl (by end_int)) ems_nil (by decide)) (by decide)) (by k_ownIn)) rfl q'
    · intro hb; cases hb

theorem ok_with_keeper (T : Tx K mg) : Def P w K mg base CX0 3 "with_keeper" ["chain", "place", "keeper"] (spW WO K 3 R_with_keeper) := by
  refine mkW T.f_with_keeper b_with_keeper sc_with_keeper rfl fun f cdv A outer s H E hr => ⟨_, (pss_cons (ps_set (i := 3) sc_with_keeper.nd rfl (Or.inl rfl) (pe_callTy (list_K K) (by rfl) T.z_list (by decide +kernel) (pa_cons (pe_ix (ix_K K) (pv 0) pe_int (fun _ _ => rfl)) pa_nil)))
      (pss_cons (ps_asg (pv 2) (pg_sub (pv 3) (pv 1) set_list))
      (pss_one (ps_ret (pe_callD (ok_chain_of T) hr (pa_cons (pv 3) (pa_cons (pe_ix (ix_K K) (pv 0) pe_int (fun _ _ => rfl)) pa_nil))))))), ?_⟩
  rintro ds o B Q hl ⟨⟨ks, co⟩, p, k, rfl, hp, hc, rfl⟩ q
  have q' : RtO B Q _ := q
  have hl : ks.length ≤ 1000 := hc.lk
  dsimp only [Ch.e]
  k_updF
  refine at_setNA (i := 3) (ds := ks.map Kp.e) (evN_cb (xs := [.list (ks.map Kp.e)]) (by k_memK) rcN_listL) (by k_intsEnd) ?_
  k_updF
  refine at_setitemA (i := 3) (j := p) (n := (p : Int)) rfl (ev_var rfl) (ev_var rfl) (ixN_of (by rw [List.length_map]; exact hp)) (by k_intsEnd) ?_
  rw [← List.map_set]
  k_updF
  refine at_rtO (S := []) (em_fz (em_chain_of (c := ⟨ks.set p k, co⟩) (ev_var rfl) (by k_memK) (by rw [List.length_set]; omega))) rfl q'

theorem ok_at_end (T : Tx K mg) : Def P w K mg base CX0 1 "at_end" ["keeper", "deed", "last"] (spW WD K 3 R_at_end) := by
  refine mkW T.f_at_end b_at_end sc_at_end rfl fun f cdv A outer s H E hr => ⟨_, (pss_cons (ps_set (i := 3) sc_at_end.nd rfl (Or.inl rfl) (pe_op (op_addK K) (pe_ix (ix_K K) (pv 0) pe_int (fun _ _ => rfl)) (pe_lst (pa_cons (pv 1) pa_nil))))
      (pss_cons (ps_if (pt_val (pv 2))
      (pss_one (ps_ret (pe_tup (pa_cons (pv 3) (pa_cons (pe_callB (len_K K) (by rfl) T.z_len (by decide +kernel) (pa_cons (pv 3) pa_nil)) (pa_cons (pe_lst pa_nil) (pa_cons (pe_ix (ix_K K) (pv 0) pe_int (fun _ _ => rfl)) pa_nil)))))))
      pss_nil)
      (pss_one (ps_ret (pe_tup (pa_cons (pv 3) (pa_cons (pe_ix (ix_K K) (pv 0) pe_int (fun _ _ => rfl)) (pa_cons (pe_op (op_addK K) (pe_ix (ix_K K) (pv 0) pe_int (fun _ _ => rfl)) (pe_lst (pa_cons (pv 1) pa_nil))) (pa_cons (pe_ix (ix_K K) (pv 0) pe_int (fun _ _ => rfl)) pa_nil))))))))), ?_⟩
  rintro ds o B Q hl ⟨⟨l, s0, dn, up⟩, d, b, rfl, hk, rfl⟩ q
  have q' : RtOk B Q _ := q
  have h1 : l.length ≤ 1000 := hk.ll
  have h2 : dn.length ≤ 1000 := hk.ld
  dsimp only [Kp.e]
  l_intsC
  l_intsW
  · intro hb
    subst hb
    k_updF
    refine at_rt (d := (atEnd ⟨l, s0, dn, up⟩ d true).e) (ev_is (d := .tuple [.list (l.map Dd.e ++ [d.e]), .int (l.map Dd.e ++ [d.e]).length, .list [], .list (up.map .int)]) (by k_memK) ?_) rfl q'
    simp [atEnd, Kp.e]
  · intro hb
    subst hb
    k_updF
    refine at_rt (d := (atEnd ⟨l, s0, dn, up⟩ d false).e) (ev_is (d := .tuple [.list (l.map Dd.e ++ [d.e]), .int s0, .list (dn.map Dd.e ++ [d.e]), .list (up.map .int)]) (by k_memK) ?_) rfl q'
    simp [atEnd, Kp.e]

theorem ok_take (T : Tx K mg) : Def P w K mg base (L2.CX P w) 4 "take" ["chain", "deed"] (spW WO K 2 R_take) := by
  refine mkX T.f_take b_take sc_take rfl fun f cdv A outer s H E hr => ⟨_, (pss_cons (ps_if (pt_not (pt_val (pe_callD (ok_is_deed T) hr (pa_cons (pv 1) pa_nil))))
      (pss_one (ps_raise rfl (takes_of rfl rfl rfl rfl) (pmk_own PySem.F.excBase_ValueError T.x_BadDeed.1 T.g_BadDeed T.x_BadDeed.2.1 (raises_own T.x_BadDeed.2.2.1 T.x_BadDeed.2.2.2) (by exact rfl))))
      pss_nil)
      (pss_cons (ps_set (i := 2) sc_take.nd rfl (Or.inl rfl) (pe_ix (ix_K K) (pe_ix (ix_K K) (pv 0) pe_int (fun _ _ => rfl)) pe_int (fun _ _ => rfl)))
      (pss_cons (ps_setLc (i := 3) (own := [("one", 4)]) (g := gName 4) rfl sc_take.nd rfl rfl (sw_true rfl rfl rfl (by decide +kernel)) (pi_listK K (pe_ix (ix_K K) (pv 2) pe_int (fun _ _ => rfl))) (blkOk_by (own := [("one", 4)]) (N := N_take) (sc := defScope s_take) (by decide +kernel)) (fun _ _ _ _ _ => pg_name (i := 4) sc_take.nd rfl (Or.inl rfl)) (fun _ _ _ _ _ => (pts_one (pt_cmpR (op_eqK K (hu64 hr)) (pe_ix (ix_K K) (pv 4) pe_int (fun _ _ => rfl)) (pe_ix (ix_K K) (pv 1) pe_int (fun _ _ => rfl)) (nomark _)))) (fun _ _ _ _ _ => (pv 4)))
      (pss_cons (ps_if (pt_cmpR op_gt (pe_ix (ix_K K) (pv 1) pe_int (fun _ _ => rfl)) (pe_op (op_addK K) (pe_callB (len_K K) (by rfl) T.z_len (by decide +kernel) (pa_cons (pv 3) pa_nil)) pe_int) (nomark _))
      (pss_one (ps_raise rfl (takes_of rfl rfl rfl rfl) (pmk_own PySem.F.excBase_ValueError T.x_BadTurn.1 T.g_BadTurn T.x_BadTurn.2.1 (raises_own T.x_BadTurn.2.2.1 T.x_BadTurn.2.2.2) (by exact rfl))))
      pss_nil)
      (pss_cons (ps_if (pt_cmpR op_le (pe_ix (ix_K K) (pv 1) pe_int (fun _ _ => rfl)) (pe_callB (len_K K) (by rfl) T.z_len (by decide +kernel) (pa_cons (pv 3) pa_nil)) (nomark _))
      (pss_cons (ps_if (pt_cmpR (op_neK K (hu64 hr)) (pe_ix (ix_K K) (pv 3) (pe_op op_sub (pe_ix (ix_K K) (pv 1) pe_int (fun _ _ => rfl)) pe_int) (fun _ _ => rfl)) (pv 1) (nomark _))
      (pss_one (ps_raise rfl (takes_of rfl rfl rfl rfl) (pmk_own PySem.F.excBase_ValueError T.x_OtherDeed.1 T.g_OtherDeed T.x_OtherDeed.2.1 (raises_own T.x_OtherDeed.2.2.1 T.x_OtherDeed.2.2.2) (by exact rfl))))
      pss_nil)
      (pss_one (ps_ret (pe_callD (ok_chain_of T) hr (pa_cons (pe_ix (ix_K K) (pv 0) pe_int (fun _ _ => rfl)) (pa_cons (pe_ix (ix_K K) (pv 0) pe_int (fun _ _ => rfl)) pa_nil))))))
      pss_nil)
      (pss_one (ps_ret (pe_callD (ok_with_keeper T) hr (pa_cons (pv 0) (pa_cons pe_int (pa_cons (pe_callD (ok_at_end T) hr (pa_cons (pv 2) (pa_cons (pv 1) (pa_cons (pe_cmpR (op_eqK K (hu64 hr)) (pe_callB (len_K K) (by rfl) T.z_len (by decide +kernel) (pa_cons (pe_ix (ix_K K) (pv 0) pe_int (fun _ _ => rfl)) pa_nil)) pe_int (nomark _)) pa_nil)))) pa_nil))))))))))), ?_⟩
  rintro ds o B Q hl ⟨k, ks, co, hc, h⟩ q
  have hk : k.ok := hc.kp k List.mem_cons_self
  have hll : k.log.length ≤ 1000 := hk.ll
  rcases h with ⟨x, rfl, hx, hd, rfl⟩ | ⟨d, hd, rfl, rfl⟩
  · k_updF
    refine at_if (b := true) (et_is (et_not (et_test (ev_is_deedB (ev_var rfl) hx hd))) rfl) (fun _ => ?_) (fun hb => by cases hb)
    exact at_xq q
  · k_updF
    refine at_if (b := false) (et_is (et_not (et_test (ev_is_deedB (ev_var rfl) hd.sz hd.isDeed))) rfl) (fun hb => by cases hb) (fun _ => ?_)
    obtain ⟨l, s0, dn, up⟩ := k
    change At B (sls _ [.tuple [.list (.tuple [.list (l.map Dd.e), .int s0, .list (dn.map Dd.e), .list (up.map .int)] :: ks.map Kp.e), coE co], .tuple [.int d.a, .int d.t, .str d.w, .str d.k, .int d.v]]) _
    have hsh : ∀ d ∈ l, d.ok := hk.dl
    have hll2 : l.length ≤ 1000 := hll
    l_intsC
    k_updF
    have hf : ((l.filter fun x => decide (x.a = d.a)).length : Nat) ≤ 1000 := Nat.le_trans (List.length_filter_le _ _) hll
    refine at_setA (d := .list ((l.filter fun x => decide (x.a = d.a)).map Dd.e)) (EvN.ev (evN_lc (j := 4) Dd.e l (fun x => decide (x.a = d.a)) Dd.e rfl (ei_list (ev_op (ev_var rfl) ev_int (rv_ixT rfl))) (sz_dec (by omega)) (fun x hx => ?_) (fun x hx _ => ev_var rfl))) (by k_intsEnd) ?_
    · exact et_test (ev_op (ev_op (ev_var rfl) ev_int (rv_ixT (by rfl))) (ev_op (ev_var rfl) ev_int (rv_ixT (by rfl))) rv_eqI)
    · unfold takeO at q
      dsimp only at q
      have hsame : ∀ x ∈ l.filter (fun x => decide (x.a = d.a)), x.ok := fun x hx => hsh x (List.mem_filter.mp hx).1
      generalize l.filter (fun x => decide (x.a = d.a)) = same at hf q hsame ⊢
      l_intsW
      · intro hb
        have h : (same.length : Int) + 1 < d.t := by simpa using hb
        rw [if_pos h] at q
        exact at_xq q
      · intro hb
        have h : ¬ (same.length : Int) + 1 < d.t := by simpa using hb
        rw [if_neg h] at q
        l_intsW
        · intro hb2
          have h2 : d.t ≤ same.length := by simpa using hb2
          rw [if_pos h2] at q
          have ht1 := hd.t1
          obtain ⟨c, hcs⟩ : ∃ c, same[(d.t - 1).toNat]? = some c := ⟨_, List.getElem?_eq_getElem (by omega)⟩
          have hco : c.ok := hsame c (List.mem_of_getElem? hcs)
          have hne : RvD (rNeD K) c.e d.e (.bool (!decide (c = d))) := by
            have h := rv_neD (K := K) hco.shp.sh hd.shp.sh
            rw [eqv_dd] at h; exact h
          have hat : atI (same.map Dd.e) (d.t - 1) = some c.e := atI_map (f := Dd.e) (atI_int (by omega) hcs)
          k_updF
          refine at_if (b := !decide (c = d)) (et_test (ev_op (ev_op (ev_var rfl) (ev_op (ev_op (ev_var rfl) ev_int (rv_ixT rfl)) ev_int rv_sub) (rv_ixL hat)) (ev_var rfl) hne)) (fun hb3 => ?_) (fun hb3 => ?_)
          · have hcd : c ≠ d := by simpa using hb3
            rw [if_pos (by rw [hcs]; exact fun z => hcd (Option.some.inj z))] at q
            exact at_xq q
          · have hcd : c = d := by simpa using hb3
            rw [if_neg (by rw [hcs, hcd]; exact fun z => z rfl)] at q
            have q' : RtO B Q _ := q
            k_updF
            exact at_rtO (S := []) (em_chain_of (c := ⟨⟨l, s0, dn, up⟩ :: ks, co⟩) (ev_op (ev_var rfl) ev_int (rv_ixT rfl)) (ev_op (ev_var rfl) ev_int (rv_ixT rfl)) (by have := hc.lk; omega)) rfl q'
        · intro hb2
          have h2 : ¬ d.t ≤ same.length := by simpa using hb2
          rw [if_neg h2] at q
          have q' : RtO B Q _ := q
          have hz := hc.lk
          k_updF
          have hb0 : (decide ((((Kp.mk l s0 dn up :: ks).map Kp.e).length : Int) = 1)) = ks.isEmpty := by
            cases ks with
            | nil => rfl
            | cons a b =>
              rw [List.map_cons, List.map_cons, List.length_cons, List.length_cons]
              exact decide_eq_false (by omega)
          refine at_rtO (S := []) (em_with_keeper (c := ⟨⟨l, s0, dn, up⟩ :: ks, co⟩) (p := 0) (k := atEnd ⟨l, s0, dn, up⟩ d ks.isEmpty) (ev_var rfl) ev_int (ev_at_end (k := ⟨l, s0, dn, up⟩) (d := d) (b := ks.isEmpty) (ev_var rfl) (ev_var rfl) ?_ hk) (by simp) hc) rfl q'
          rw [← hb0]
          exact ev_op (ev_cb (ea_cons (ev_op (ev_var rfl) ev_int (rv_ixT rfl)) ea_nil) rc_lenL) ev_int rv_eqI

theorem ok_steps_of (T : Tx K mg) : Def P w K mg base CX0 1 "steps_of" ["chain"] (spW WO K 1 R_steps_ofW) := by
  refine mkW T.f_steps_of b_steps_of sc_steps_of rfl fun f cdv A outer s H E hr => ⟨_, (pss_cons (ps_set (i := 1) sc_steps_of.nd rfl (Or.inl rfl) (pe_listRg rfl (by rfl) T.z_list (prg_1 (by rfl) T.z_range (pe_callB (len_K K) (by rfl) T.z_len (by decide +kernel) (pa_cons (pe_ix (ix_K K) (pv 0) pe_int (fun _ _ => rfl)) pa_nil)))))
      (pss_cons (ps_setLc (i := 2) (own := [("place", 3)]) (g := gName 3) rfl sc_steps_of.nd rfl rfl (sw_true rfl rfl rfl (by decide +kernel)) (pi_listK K (pv 1)) (blkOk_by (own := [("place", 3)]) (N := N_steps_of) (sc := defScope s_steps_of) (by decide +kernel)) (fun _ _ _ _ _ => pg_name (i := 3) sc_steps_of.nd rfl (Or.inl rfl)) (fun _ _ _ _ _ => (pts_one (pt_cmpR (op_neK K (hu64 hr)) (pe_ix (ix_K K) (pe_ix (ix_K K) (pe_ix (ix_K K) (pv 0) pe_int (fun _ _ => rfl)) (pv 3) (fun _ _ => rfl)) pe_int (fun _ _ => rfl)) (pe_lst pa_nil) (nomark _)))) (fun _ _ _ _ _ => (pe_tup (pa_cons pe_str (pa_cons (pv 3) pa_nil)))))
      (pss_cons (ps_set (i := 2) sc_steps_of.nd rfl (Or.inl rfl) (pe_op (op_addK K) (pv 2) (pe_lc (own := [("place", 3)]) (g := gName 3) (by rfl) sc_steps_of.nd (pi_listK K (pv 1)) (blkOk_by (own := [("place", 3)]) (N := N_steps_of) (sc := defScope s_steps_of) (by decide +kernel)) (fun _ _ _ _ _ => pg_name (i := 3) sc_steps_of.nd rfl (Or.inl rfl)) (fun _ _ _ _ _ => (pts_one (pt_cmpR (op_neK K (hu64 hr)) (pe_ix (ix_K K) (pe_ix (ix_K K) (pe_ix (ix_K K) (pv 0) pe_int (fun _ _ => rfl)) (pv 3) (fun _ _ => rfl)) pe_int (fun _ _ => rfl)) (pe_lst pa_nil) (nomark _)))) (fun _ _ _ _ _ => (pe_tup (pa_cons pe_str (pa_cons (pv 3) pa_nil)))))))
      (pss_cons (ps_if (pt_cmpR op_notN' (pe_ix (ix_K K) (pv 0) pe_int (fun _ _ => rfl)) pe_non (nomark _))
      (pss_one (ps_expr (pe_bmK K PySem.F.plainAttrs_list PySem.F.slot_list_append PySem.F.type_list_append mt_append (pv 2) (pa_cons (pe_tup (pa_cons pe_str (pa_cons (pe_callB (len_K K) (by rfl) T.z_len (by decide +kernel) (pa_cons (pe_ix (ix_K K) (pv 0) pe_int (fun _ _ => rfl)) pa_nil)) pa_nil))) pa_nil))))
      pss_nil)
      (pss_one (ps_ret (pv 2))))))), ?_⟩
  rintro ds o B Q hl ⟨⟨ks, co⟩, rfl, hc, rfl⟩ q
  have q' : RtO B Q (.list (stepsD ⟨ks, co⟩)) := q
  have hz : ks.length ≤ 1000 := hc.lk
  have hkp : ∀ k ∈ ks, k.ok := hc.kp
  have hmz : (ks.map Kp.e).length = ks.length := List.length_map _
  change At B (sls _ [.tuple [.list (ks.map Kp.e), coE co]]) _
  have ha : ∀ x, x < ks.length → atI (ks.map Kp.e) (0 + x : Int) = some (.tuple [.list ((kAt ks x).log.map Dd.e), .int (kAt ks x).sure, .list ((kAt ks x).down.map Dd.e), .list ((kAt ks x).up.map .int)]) := fun x hx => by
    rw [show (0 + x : Int) = (x : Int) by omega]
    exact kAt_get hx
  k_updF
  refine at_setA (ev_listRg (ev_cb (ea_cons (ev_op (ev_var rfl) ev_int (rv_ixT rfl)) ea_nil) rc_lenL) (by omega) (by rw [hmz]; omega)) (by k_intsEnd) ?_
  rw [show ((ks.map Kp.e).length : Int).toNat = ks.length by rw [hmz]; omega]
  k_updF
  refine at_setA (d := .list (((List.range ks.length).filter fun i => !(kAt ks i).down.isEmpty).map (stp "pass"))) (EvN.ev (evN_lc (j := 3) (fun i : Nat => .int (0 + i)) (List.range ks.length) (fun i => !(kAt ks i).down.isEmpty) (stp "pass") rfl (ei_list (ev_var rfl)) (by rw [List.length_range]; exact sz_dec (by omega)) (fun x hx => ?_) (fun x hx _ => ?_))) (by k_intsEnd) ?_
  · have hx' := List.mem_range.mp hx
    refine et_is (et_test (ev_op (ev_op (ev_op (ev_op (ev_var rfl) ev_int (rv_ixT rfl)) (ev_var rfl) (rv_ixL (ha x hx'))) ev_int (rv_ixT rfl)) (ev_lst ea_nil (by decide)) (rv_neNil ⟨2, by decide, shp_ddl (hkp _ (kAt_mem hx')).dd⟩))) ?_
    rw [List.isEmpty_map]
  · refine ev_is (ev_tup (ea_cons ev_str (ea_cons (ev_var rfl) ea_nil)) (by k_ownIn)) ?_
    unfold stp
    rw [show (0 + x : Int) = (x : Int) by omega]
  k_updF
  refine at_setNA (ds := ((List.range ks.length).filter fun i => !(kAt ks i).down.isEmpty).map (stp "pass") ++ ((List.range ks.length).filter fun i => !(kAt ks i).up.isEmpty).map (stp "back")) (evN_op (ev_var rfl) (EvN.ev (evN_lc (j := 3) (fun i : Nat => .int (0 + i)) (List.range ks.length) (fun i => !(kAt ks i).up.isEmpty) (stp "back") rfl (ei_list (ev_var rfl)) (by rw [List.length_range]; exact sz_dec (by omega)) (fun x hx => ?_) (fun x hx _ => ?_))) (rvN_addL ?_)) (by k_intsEnd) ?_
  · have hx' := List.mem_range.mp hx
    refine et_is (et_test (ev_op (ev_op (ev_op (ev_op (ev_var rfl) ev_int (rv_ixT rfl)) (ev_var rfl) (rv_ixL (ha x hx'))) ev_int (rv_ixT rfl)) (ev_lst ea_nil (by decide)) (rv_neNil ⟨1, by decide, shp_il⟩))) ?_
    rw [List.isEmpty_map]
  · refine ev_is (ev_tup (ea_cons ev_str (ea_cons (ev_var rfl) ea_nil)) (by k_ownIn)) ?_
    unfold stp
    rw [show (0 + x : Int) = (x : Int) by omega]
  · have h := stepsD_len (c := ⟨ks, none⟩) ⟨hz, hkp, fun l z => by cases z⟩
    unfold stepsD at h
    simp only [Option.isSome_none, Bool.false_eq_true, if_false, List.append_nil, List.length_append] at h
    exact sz_dec (by omega)
  have hzz := stepsD_len (c := ⟨ks, none⟩) ⟨hz, hkp, fun l z => by cases z⟩
  unfold stepsD at hzz
  simp only [Option.isSome_none, Bool.false_eq_true, if_false, List.append_nil] at hzz
  k_updF
  cases co with
  | none =>
    refine at_if (b := false) (et_test (ev_op (ev_op (ev_var rfl) ev_int (rv_ixT rfl)) ev_non rv_notN)) (fun hb => by cases hb) (fun _ => ?_)
    k_updF
    refine at_rtO (S := [2]) (em_own (i := 2) rfl ?_) ?_ q'
    · have := noLs_steps ⟨ks, none⟩
      unfold stepsD at this
      simpa using this
    · unfold stepsD
      simp
  | some l =>
    refine at_if (b := true) (et_test (ev_op (ev_op (ev_var rfl) ev_int (rv_ixT rfl)) ev_non rv_notN)) (fun _ => ?_) (fun hb => by cases hb)
    refine at_appendA (i := 2) (d := stp "learn" ks.length) rfl ?_ (by rw [sizeLine_eq]; omega) (by k_intsEnd) ?_
    · refine ev_is (ev_tup (ea_cons ev_str (ea_cons (ev_cb (ea_cons (ev_op (ev_var rfl) ev_int (rv_ixT rfl)) ea_nil) rc_lenL) ea_nil)) (by k_ownIn)) ?_
      unfold stp
      rw [hmz]
    k_updF
    refine at_rtO (S := [2]) (em_own (i := 2) rfl ?_) ?_ q'
    · have := noLs_steps ⟨ks, some l⟩
      unfold stepsD at this
      simpa using this
    · unfold stepsD
      simp

theorem ok_passed (T : Tx K mg) : Def P w K mg base CX0 3 "passed" ["chain", "place"] (spW WO K 2 R_passed) := by
  refine mkW T.f_passed b_passed sc_passed rfl fun f cdv A outer s H E hr => ⟨_, (pss_cons (ps_set (i := 2) sc_passed.nd rfl (Or.inl rfl) (pe_callTy (list_K K) (by rfl) T.z_list (by decide +kernel) (pa_cons (pe_ix (ix_K K) (pv 0) pe_int (fun _ _ => rfl)) pa_nil)))
      (pss_cons (ps_set (i := 3) sc_passed.nd rfl (Or.inl rfl) (pe_ix (ix_K K) (pv 2) (pv 1) (fun _ _ => rfl)))
      (pss_cons (ps_asg (pe_tup (pa_cons (pe_ix (ix_K K) (pv 3) pe_int (fun _ _ => rfl)) (pa_cons (pe_ix (ix_K K) (pv 3) pe_int (fun _ _ => rfl)) (pa_cons (pe_slice (sl_K K) (pe_ix (ix_K K) (pv 3) pe_int (fun _ _ => rfl)) (po_some pe_int) po_none) (pa_cons (pe_ix (ix_K K) (pv 3) pe_int (fun _ _ => rfl)) pa_nil))))) (pg_sub (pv 2) (pv 1) set_list))
      (pss_cons (ps_set (i := 4) sc_passed.nd rfl (Or.inl rfl) (pe_cmpR (op_eqK K (hu64 hr)) (pe_op (op_addK K) (pv 1) pe_int) (pe_callB (len_K K) (by rfl) T.z_len (by decide +kernel) (pa_cons (pv 2) pa_nil)) (nomark _)))
      (pss_cons (ps_set (i := 5) sc_passed.nd rfl (Or.inl rfl) (pe_callD (ok_at_end T) hr (pa_cons (pe_ix (ix_K K) (pv 2) (pe_op (op_addK K) (pv 1) pe_int) (fun _ _ => rfl)) (pa_cons (pe_ix (ix_K K) (pe_ix (ix_K K) (pv 3) pe_int (fun _ _ => rfl)) pe_int (fun _ _ => rfl)) (pa_cons (pv 4) pa_nil)))))
      (pss_cons (ps_if (pt_val (pv 4))
      (pss_one (ps_set (i := 5) sc_passed.nd rfl (Or.inl rfl) (pe_tup (pa_cons (pe_ix (ix_K K) (pv 5) pe_int (fun _ _ => rfl)) (pa_cons (pe_ix (ix_K K) (pv 5) pe_int (fun _ _ => rfl)) (pa_cons (pe_ix (ix_K K) (pv 5) pe_int (fun _ _ => rfl)) (pa_cons (pe_op (op_addK K) (pe_ix (ix_K K) (pv 5) pe_int (fun _ _ => rfl)) (pe_lst (pa_cons (pe_ix (ix_K K) (pv 5) pe_int (fun _ _ => rfl)) pa_nil))) pa_nil)))))))
      pss_nil)
      (pss_cons (ps_asg (pv 5) (pg_sub (pv 2) (pe_op (op_addK K) (pv 1) pe_int) set_list))
      (pss_one (ps_ret (pe_callD (ok_chain_of T) hr (pa_cons (pv 2) (pa_cons (pe_ix (ix_K K) (pv 0) pe_int (fun _ _ => rfl)) pa_nil)))))))))))), ?_⟩
  rintro ds o B Q hl ⟨⟨ks, co⟩, p, rfl, hc, hp, hd, rfl⟩ q
  have q' : RtO B Q (Ch.mk (passK ks p) co).e := q
  have hp' : p + 1 < ks.length := hp
  have hz : ks.length ≤ 1000 := hc.lk
  have hkp : ∀ k ∈ ks, k.ok := hc.kp
  have hmz : (ks.map Kp.e).length = ks.length := List.length_map _
  have hat := kAt_get (ks := ks) (i := p) (by omega)
  have hat1 := kAt_get (ks := ks) (i := p + 1) hp'
  have hk1 : (kAt ks (p + 1)).ok := hkp _ (kAt_mem hp')
  have hku := hk1.lu
  change At B (sls _ [.tuple [.list (ks.map Kp.e), coE co], .int p]) _
  unfold passK at q'
  obtain ⟨dh, dr, hdd⟩ : ∃ dh dr, (kAt ks p).down = dh :: dr := by
    cases e : (kAt ks p).down with
    | nil => exact absurd e hd
    | cons a b => exact ⟨a, b, rfl⟩
  generalize hg : kAt ks p = g at q' hat hdd
  generalize hg1 : kAt ks (p + 1) = t at q' hat1 hk1 hku
  obtain ⟨lg, s0, dn, up⟩ := g
  obtain rfl : dn = dh :: dr := hdd
  k_updF
  refine at_setNA (i := 2) (ds := ks.map Kp.e) (evN_cb (ea_cons (ev_op (ev_var rfl) ev_int (rv_ixT rfl)) ea_nil) rcN_listL) (by k_intsEnd) ?_
  k_updF
  refine at_setA (i := 3) (d := .tuple [.list (lg.map Dd.e), .int s0, .list ((dh :: dr).map Dd.e), .list (up.map .int)]) (ev_ixOwn rfl (ev_var rfl) hat) (by k_intsEnd) ?_
  k_updF
  refine at_setitemA (i := 2) (j := p) (n := (p : Int)) (d := (gaveK ⟨lg, s0, dh :: dr, up⟩).e) rfl (ev_tup (ea_cons (ev_op (ev_var rfl) ev_int (rv_ixT rfl)) (ea_cons (ev_op (ev_var rfl) ev_int (rv_ixT rfl)) (ea_cons (ev_is (ev_sl (ev_op (ev_var rfl) ev_int (rv_ixT rfl)) (eo_some ev_int) eo_none (RsN.d rsN_L)) (congrArg PyData.list (cutG_from _ 1))) (ea_cons (ev_op (ev_var rfl) ev_int (rv_ixT rfl)) ea_nil)))) (by k_ownIn)) (ev_var rfl) (ixN_of (by rw [hmz]; omega)) (by k_intsEnd) ?_
  rw [← List.map_set]
  have hlen : (((ks.set p (gaveK ⟨lg, s0, dh :: dr, up⟩)).map Kp.e).length : Int) = ks.length := by rw [List.length_map, List.length_set]
  k_updF
  refine at_setA (i := 4) (d := .bool (decide (p + 2 = ks.length))) (ev_is (ev_fz (ev_op (ev_op (ev_var rfl) ev_int rv_addI) (ev_cb (ea_cons (ev_var rfl) ea_nil) rc_lenL) rv_eqI) rfl) (by rw [hlen]; congr 1; exact decide_eq_decide.mpr (by omega))) (by k_intsEnd) ?_
  have hat2 : atI ((ks.set p (gaveK ⟨lg, s0, dh :: dr, up⟩)).map Kp.e) ((p : Int) + 1) = some t.e := by
    rw [show ((p : Int) + 1) = ((p + 1 : Nat) : Int) by omega]
    refine atI_map (f := Kp.e) (atI_of ?_)
    rw [List.getElem?_set_ne (by omega), ← hg1]
    unfold kAt
    rw [List.getD_eq_getElem?_getD, List.getElem?_eq_getElem hp']; rfl
  k_updF
  refine at_setA (i := 5) (d := (atEnd t dh (decide (p + 2 = ks.length))).e) (ev_at_end (ev_ixOwn rfl (ev_op (ev_var rfl) ev_int rv_addI) hat2) (ev_op (x := .list ((dh :: dr).map Dd.e)) (ev_op (ev_var rfl) ev_int (rv_ixT rfl)) ev_int (rv_ixL atI_cons0)) (ev_var rfl) hk1) (by k_intsEnd) ?_
  have hup : (atEnd t dh true).up = t.up := rfl
  k_updF
  refine at_ifSet (i := 5) (b := decide (p + 2 = ks.length)) (d0 := (atEnd t dh (decide (p + 2 = ks.length))).e) (d1 := (recv t dh true).e) (et_test (ev_var rfl)) (fun hb => ?_) rfl (by k_intsEnd) ?_
  · rw [hb]
    refine ev_is (ev_tup (ea_cons (ev_op (x := (atEnd t dh true).e) (ev_var rfl) ev_int (rv_ixT rfl)) (ea_cons (ev_op (x := (atEnd t dh true).e) (ev_var rfl) ev_int (rv_ixT rfl)) (ea_cons (ev_op (x := (atEnd t dh true).e) (ev_var rfl) ev_int (rv_ixT rfl)) (ea_cons (ev_op (ev_op (x := (atEnd t dh true).e) (ev_var rfl) ev_int (rv_ixT rfl)) (ev_lst (ea_cons (ev_op (x := (atEnd t dh true).e) (ev_var rfl) ev_int (rv_ixT rfl)) ea_nil) (by k_ownIn)) (RvN.d (rvN_addL (by rw [List.length_map]; exact sz_dec (by show t.up.length + 1 ≤ _; omega))))) ea_nil)))) (by k_ownIn)) ?_
    simp [recv, atEnd, Kp.e]
  have er : (if decide (p + 2 = ks.length) = true then (recv t dh true).e else (atEnd t dh (decide (p + 2 = ks.length))).e) = (recv t dh (decide (p + 2 = ks.length))).e := by
    cases decide (p + 2 = ks.length) <;> rfl
  rw [er]
  k_updF
  refine at_setitemA (i := 2) (j := p + 1) (n := (p : Int) + 1) rfl (ev_var rfl) (ev_op (ev_var rfl) ev_int rv_addI) (by rw [show ((p : Int) + 1) = ((p + 1 : Nat) : Int) by omega]; exact ixN_of (by rw [List.length_map, List.length_set]; exact hp')) (by k_intsEnd) ?_
  rw [← List.map_set]
  k_updF
  refine at_rtO (S := []) (em_fz (em_chain_of (c := ⟨(ks.set p (gaveK ⟨lg, s0, dh :: dr, up⟩)).set (p + 1) (recv t dh (decide (p + 2 = ks.length))), co⟩) (ev_var rfl) (by k_memK) (by show (List.set _ _ _).length ≤ _; rw [List.length_set, List.length_set]; omega))) rfl q'

theorem ok_backed (T : Tx K mg) : Def P w K mg base CX0 3 "backed" ["chain", "place"] (spW WO K 2 R_backed) := by
  refine mkW T.f_backed b_backed sc_backed rfl fun f cdv A outer s H E hr => ⟨_, (pss_cons (ps_set (i := 2) sc_backed.nd rfl (Or.inl rfl) (pe_callTy (list_K K) (by rfl) T.z_list (by decide +kernel) (pa_cons (pe_ix (ix_K K) (pv 0) pe_int (fun _ _ => rfl)) pa_nil)))
      (pss_cons (ps_set (i := 3) sc_backed.nd rfl (Or.inl rfl) (pe_ix (ix_K K) (pv 2) (pv 1) (fun _ _ => rfl)))
      (pss_cons (ps_asg (pe_tup (pa_cons (pe_ix (ix_K K) (pv 3) pe_int (fun _ _ => rfl)) (pa_cons (pe_ix (ix_K K) (pv 3) pe_int (fun _ _ => rfl)) (pa_cons (pe_ix (ix_K K) (pv 3) pe_int (fun _ _ => rfl)) (pa_cons (pe_slice (sl_K K) (pe_ix (ix_K K) (pv 3) pe_int (fun _ _ => rfl)) (po_some pe_int) po_none) pa_nil))))) (pg_sub (pv 2) (pv 1) set_list))
      (pss_cons (ps_set (i := 4) sc_backed.nd rfl (Or.inl rfl) (pe_ix (ix_K K) (pv 2) (pe_op op_sub (pv 1) pe_int) (fun _ _ => rfl)))
      (pss_cons (ps_set (i := 5) sc_backed.nd rfl (Or.inl rfl) (pe_callB (call_max2V rfl) (by rfl) T.z_max (by decide +kernel) (pa_cons (pe_ix (ix_K K) (pv 4) pe_int (fun _ _ => rfl)) (pa_cons (pe_ix (ix_K K) (pe_ix (ix_K K) (pv 3) pe_int (fun _ _ => rfl)) pe_int (fun _ _ => rfl)) pa_nil))))
      (pss_cons (ps_set (i := 6) sc_backed.nd rfl (Or.inl rfl) (pe_ix (ix_K K) (pv 4) pe_int (fun _ _ => rfl)))
      (pss_cons (ps_if (pt_cmpR op_gt (pv 1) pe_int (nomark _))
      (pss_one (ps_set (i := 6) sc_backed.nd rfl (Or.inl rfl) (pe_op (op_addK K) (pv 6) (pe_lst (pa_cons (pv 5) pa_nil)))))
      pss_nil)
      (pss_cons (ps_asg (pe_tup (pa_cons (pe_ix (ix_K K) (pv 4) pe_int (fun _ _ => rfl)) (pa_cons (pv 5) (pa_cons (pe_ix (ix_K K) (pv 4) pe_int (fun _ _ => rfl)) (pa_cons (pv 6) pa_nil))))) (pg_sub (pv 2) (pe_op op_sub (pv 1) pe_int) set_list))
      (pss_one (ps_ret (pe_callD (ok_chain_of T) hr (pa_cons (pv 2) (pa_cons (pe_ix (ix_K K) (pv 0) pe_int (fun _ _ => rfl)) pa_nil))))))))))))), ?_⟩
  rintro ds o B Q hl ⟨⟨ks, co⟩, p, rfl, hc, h0, hp, hd, rfl⟩ q
  have q' : RtO B Q (Ch.mk (backK ks p) co).e := q
  have hp' : p < ks.length := hp
  have hz : ks.length ≤ 1000 := hc.lk
  have hkp : ∀ k ∈ ks, k.ok := hc.kp
  have hmz : (ks.map Kp.e).length = ks.length := List.length_map _
  have hat := kAt_get (ks := ks) (i := p) hp'
  have hk1 : (kAt ks (p - 1)).ok := hkp _ (kAt_mem (by omega))
  have hku := hk1.lu
  change At B (sls _ [.tuple [.list (ks.map Kp.e), coE co], .int p]) _
  unfold backK at q'
  obtain ⟨uh, ur, hdd⟩ : ∃ uh ur, (kAt ks p).up = uh :: ur := by
    cases e : (kAt ks p).up with
    | nil => exact absurd e hd
    | cons a b => exact ⟨a, b, rfl⟩
  generalize hg : kAt ks p = g at q' hat hdd
  generalize hg1 : kAt ks (p - 1) = t at q' hk1 hku
  obtain ⟨lg, s0, dn, up⟩ := g
  obtain rfl : up = uh :: ur := hdd
  obtain ⟨lg1, s1, dn1, up1⟩ := t
  k_updF
  refine at_setNA (i := 2) (ds := ks.map Kp.e) (evN_cb (ea_cons (ev_op (ev_var rfl) ev_int (rv_ixT rfl)) ea_nil) rcN_listL) (by k_intsEnd) ?_
  k_updF
  refine at_setA (i := 3) (d := .tuple [.list (lg.map Dd.e), .int s0, .list (dn.map Dd.e), .list ((uh :: ur).map .int)]) (ev_ixOwn rfl (ev_var rfl) hat) (by k_intsEnd) ?_
  k_updF
  refine at_setitemA (i := 2) (j := p) (n := (p : Int)) (d := (toldK ⟨lg, s0, dn, uh :: ur⟩).e) rfl (ev_tup (ea_cons (ev_op (ev_var rfl) ev_int (rv_ixT rfl)) (ea_cons (ev_op (ev_var rfl) ev_int (rv_ixT rfl)) (ea_cons (ev_op (ev_var rfl) ev_int (rv_ixT rfl)) (ea_cons (ev_is (ev_sl (ev_op (ev_var rfl) ev_int (rv_ixT rfl)) (eo_some ev_int) eo_none (RsN.d rsN_L)) (congrArg PyData.list (cutG_from _ 1))) ea_nil)))) (by k_ownIn)) (ev_var rfl) (ixN_of (by rw [hmz]; omega)) (by k_intsEnd) ?_
  rw [← List.map_set]
  have hat2 : atI ((ks.set p (toldK ⟨lg, s0, dn, uh :: ur⟩)).map Kp.e) ((p : Int) - 1) = some (.tuple [.list (lg1.map Dd.e), .int s1, .list (dn1.map Dd.e), .list (up1.map .int)]) := by
    rw [show ((p : Int) - 1) = ((p - 1 : Nat) : Int) by omega]
    refine atI_map (f := Kp.e) (atI_of (x := ⟨lg1, s1, dn1, up1⟩) ?_)
    rw [List.getElem?_set_ne (by omega), ← hg1]
    unfold kAt
    rw [List.getD_eq_getElem?_getD, List.getElem?_eq_getElem (by omega)]; rfl
  k_updF
  refine at_setA (i := 4) (d := .tuple [.list (lg1.map Dd.e), .int s1, .list (dn1.map Dd.e), .list (up1.map .int)]) (ev_ixOwn rfl (ev_op (ev_var rfl) ev_int rv_sub) hat2) (by k_intsEnd) ?_
  k_updF
  refine at_setA (i := 5) (d := .int (max s1 uh)) (ev_cb (ea_cons (ev_op (ev_var rfl) ev_int (rv_ixT rfl)) (ea_cons (ev_op (x := .list ((uh :: ur).map .int)) (ev_op (ev_var rfl) ev_int (rv_ixT rfl)) ev_int (rv_ixL atI_cons0)) ea_nil)) rc_max2) (by k_intsEnd) ?_
  k_updF
  refine at_setA (i := 6) (d := .list (up1.map .int)) (ev_op (ev_var rfl) ev_int (rv_ixT rfl)) (by k_intsEnd) ?_
  have hup : up1.length ≤ 1000 := hku
  k_updF
  refine at_ifSet (i := 6) (b := decide (1 < (p : Int))) (d0 := .list (up1.map .int)) (d1 := .list ((up1 ++ [max s1 uh]).map .int)) (et_test (by k_memK)) (fun _ => ev_is (ev_op (ev_var rfl) (ev_lst (ea_cons (ev_var rfl) ea_nil) (by k_ownIn)) (RvN.d (rvN_addL (by rw [List.length_map]; exact sz_dec (by show up1.length + 1 ≤ _; omega))))) (by rw [List.map_append]; rfl)) rfl (by k_intsEnd) ?_
  k_updF
  refine at_setitemA (i := 2) (j := p - 1) (n := (p : Int) - 1) (d := (heard ⟨lg1, s1, dn1, up1⟩ (max s1 uh) (decide (p = 1))).e) rfl (ev_is (ev_tup (ea_cons (ev_op (ev_var rfl) ev_int (rv_ixT rfl)) (ea_cons (ev_var rfl) (ea_cons (ev_op (ev_var rfl) ev_int (rv_ixT rfl)) (ea_cons (ev_var rfl) ea_nil)))) (by k_ownIn)) ?_) (ev_op (ev_var rfl) ev_int rv_sub) (by rw [show ((p : Int) - 1) = ((p - 1 : Nat) : Int) by omega]; exact ixN_of (by rw [List.length_map, List.length_set]; omega)) (by k_intsEnd) ?_
  · by_cases h1 : p = 1
    · rw [if_neg (by rw [decide_eq_true_eq]; omega), decide_eq_true h1]; rfl
    · rw [if_pos (by rw [decide_eq_true_eq]; omega), decide_eq_false h1]; rfl
  rw [← List.map_set]
  k_updF
  refine at_rtO (S := []) (em_fz (em_chain_of (c := ⟨(ks.set p (toldK ⟨lg, s0, dn, uh :: ur⟩)).set (p - 1) (heard ⟨lg1, s1, dn1, up1⟩ (max s1 uh) (decide (p = 1))), co⟩) (ev_var rfl) (by k_memK) (by show (List.set _ _ _).length ≤ _; rw [List.length_set, List.length_set]; omega))) rfl q'

theorem ok_grown (T : Tx K mg) : Def P w K mg base CX0 3 "grown" ["keepers", "coming"] (spW WO K 2 R_grown) := by
  refine mkW T.f_grown b_grown sc_grown rfl fun f cdv A outer s H E hr => ⟨_, (pss_cons (ps_if (pt_cmpR (op_eqK K (hu64 hr)) (pe_callB (len_K K) (by rfl) T.z_len (by decide +kernel) (pa_cons (pv 1) pa_nil)) (pe_callB (len_K K) (by rfl) T.z_len (by decide +kernel) (pa_cons (pe_ix (ix_K K) (pe_ix (ix_K K) (pv 0) (pe_un un_neg pe_int) (fun _ _ => rfl)) pe_int (fun _ _ => rfl)) pa_nil)) (nomark _))
      (pss_one (ps_ret (pe_callD (ok_chain_of T) hr (pa_cons (pe_op (op_addK K) (pv 0) (pe_lst (pa_cons (pe_tup (pa_cons (pv 1) (pa_cons (pe_callB (len_K K) (by rfl) T.z_len (by decide +kernel) (pa_cons (pv 1) pa_nil)) (pa_cons (pe_lst pa_nil) (pa_cons (pe_lst pa_nil) pa_nil))))) pa_nil))) (pa_cons pe_non pa_nil)))))
      pss_nil)
      (pss_one (ps_ret (pe_callD (ok_chain_of T) hr (pa_cons (pv 0) (pa_cons (pv 1) pa_nil)))))), ?_⟩
  rintro ds o B Q hl ⟨ks, l, rfl, hn, hc, rfl⟩ q
  have q' : RtO B Q _ := q
  have hz : ks.length ≤ 1000 := hc.lk
  have hlz : l.length ≤ 1000 := (hc.lc l rfl).1
  obtain ⟨k, hk⟩ : ∃ k, ks.getLast? = some k := ⟨_, List.getLast?_eq_some_getLast hn⟩
  unfold grownD at q'
  rw [hk, Option.getD_some] at q'
  have hat : atI (ks.map Kp.e) (-1) = some (.tuple [.list (k.log.map Dd.e), .int k.sure, .list (k.down.map Dd.e), .list (k.up.map .int)]) := atI_map (f := Kp.e) (atI_neg1 hk)
  k_updF
  refine at_if (b := decide (((l.map Dd.e).length : Int) = ((k.log.map Dd.e).length : Int))) (et_test (ev_op (ev_cb (ea_cons (ev_var rfl) ea_nil) rc_lenL) (ev_cb (ea_cons (ev_op (ev_op (ev_var rfl) (ev_un ev_int ru_neg) (rv_ixL hat)) ev_int (rv_ixT rfl)) ea_nil) rc_lenL) rv_eqI)) (fun hb => ?_) (fun hb => ?_)
  · have h : l.length = k.log.length := by
      rw [decide_eq_true_eq, List.length_map, List.length_map] at hb; omega
    rw [if_pos h] at q'
    k_updF
    refine at_rtO (S := []) (em_chain_of (c := ⟨ks ++ [⟨l, l.length, [], []⟩], none⟩) (ev_is (ev_op (ev_var rfl) (ev_lst (ea_cons (ev_tup (ea_cons (ev_var rfl) (ea_cons (ev_cb (ea_cons (ev_var rfl) ea_nil) rc_lenL) (ea_cons (ev_lst ea_nil (by k_ownIn)) (ea_cons (ev_lst ea_nil (by k_ownIn)) ea_nil)))) (by k_ownIn)) ea_nil) (by k_ownIn)) (RvN.d (rvN_addL (sz_dec (by rw [List.length_map]; show ks.length + 1 ≤ _; omega))))) ?_) ev_non (by rw [List.length_append]; show ks.length + 1 ≤ _; omega)) rfl q'
    simp [Kp.e]
  · have h : ¬ l.length = k.log.length := by
      rw [decide_eq_false_iff_not, List.length_map, List.length_map] at hb; omega
    rw [if_neg h] at q'
    k_updF
    exact at_rtO (S := []) (em_chain_of (c := ⟨ks, some l⟩) (ev_var rfl) (ev_var rfl) (by show ks.length ≤ _; omega)) rfl q'

theorem ok_done (T : Tx K mg) : Def P w K mg base (L2.CX P w) 4 "done" ["chain", "step"] (spW WO K 2 R_done) := by
  refine mkX T.f_done b_done sc_done rfl fun f cdv A outer s H E hr => ⟨_, (pss_cons (ps_if (pt_cmpR (op_notInK K (hu65 hr)) (pv 1) (pe_callD (ok_steps_of T) hr (pa_cons (pv 0) pa_nil)) (by with_unfolding_all rfl))
      (pss_one (ps_raise rfl (takes_of rfl rfl rfl rfl) (pmk_own PySem.F.excBase_ValueError T.x_NoStep.1 T.g_NoStep T.x_NoStep.2.1 (raises_own T.x_NoStep.2.2.1 T.x_NoStep.2.2.2) (by exact rfl))))
      pss_nil)
      (pss_cons (ps_if (pt_cmpR (op_eqK K (hu64 hr)) (pe_ix (ix_K K) (pv 1) pe_int (fun _ _ => rfl)) pe_str (nomark _))
      (pss_one (ps_ret (pe_callD (ok_passed T) hr (pa_cons (pv 0) (pa_cons (pe_ix (ix_K K) (pv 1) pe_int (fun _ _ => rfl)) pa_nil)))))
      pss_nil)
      (pss_cons (ps_if (pt_cmpR (op_eqK K (hu64 hr)) (pe_ix (ix_K K) (pv 1) pe_int (fun _ _ => rfl)) pe_str (nomark _))
      (pss_one (ps_ret (pe_callD (ok_backed T) hr (pa_cons (pv 0) (pa_cons (pe_ix (ix_K K) (pv 1) pe_int (fun _ _ => rfl)) pa_nil)))))
      pss_nil)
      (pss_one (ps_ret (pe_callD (ok_grown T) hr (pa_cons (pe_ix (ix_K K) (pv 0) pe_int (fun _ _ => rfl)) (pa_cons (pe_op (op_addK K) (pe_ix (ix_K K) (pv 0) pe_int (fun _ _ => rfl)) (pe_lst (pa_cons (pe_ix (ix_K K) (pe_ix (ix_K K) (pe_ix (ix_K K) (pe_ix (ix_K K) (pv 0) pe_int (fun _ _ => rfl)) (pe_un un_neg pe_int) (fun _ _ => rfl)) pe_int (fun _ _ => rfl)) (pe_callB (len_K K) (by rfl) T.z_len (by decide +kernel) (pa_cons (pe_ix (ix_K K) (pv 0) pe_int (fun _ _ => rfl)) pa_nil)) (fun _ _ => rfl)) pa_nil))) pa_nil)))))))), ?_⟩
  rintro ds o B Q hl ⟨⟨ks, co⟩, wd, i, rfl, hc, hw, h⟩ q
  have hz : ks.length ≤ 1000 := hc.lk
  have hsh : SeqAt.shaped (PyData.tuple [.str wd, .int i]) = true := (shp_tuple (n := 0) fun x hx => by
    simp only [List.mem_cons, List.not_mem_nil, or_false] at hx
    rcases hx with rfl | rfl
    · exact shp_str hw
    · exact shp_int).sh
  change At B (sls _ [.tuple [.list (ks.map Kp.e), coE co], .tuple [.str wd, .int i]]) _
  k_updF
  rcases h with ⟨p, rfl, hcan, hwf, rfl⟩ | ⟨hno, rfl⟩
  · have hany := steps_any.mpr ⟨p, rfl, hcan⟩
    refine at_if (b := false) (et_is (et_test (ev_op (ev_var rfl) (ev_stepsW (c := ⟨ks, co⟩) (ev_var rfl) hc) (rv_notInL hsh shp_steps.sh))) (by rw [hany]; rfl)) (fun hb => by cases hb) (fun _ => ?_)
    have q' : RtO B Q (stepC ⟨ks, co⟩ wd p).e := q
    have hkc : ∀ {Γ : List Sl}, Γ[0]? = some (.d (.tuple [.list (ks.map Kp.e), coE co])) → Ev (tVar 0) Γ (Ch.mk ks co).e := fun e => ev_var e
    have hsp : ∀ {Γ : List Sl}, Γ[1]? = some (.d (.tuple [.str wd, .int p])) → Ev (tOp (rIx K) (tVar 1) (tC (.int 1))) Γ (.int p) := fun e => ev_op (ev_var e) ev_int (rv_ixT rfl)
    k_updF
    refine at_if (b := decide (wd = "pass")) (et_test (ev_op (ev_op (ev_var rfl) ev_int (rv_ixT rfl)) ev_str (rv_eqS hw (by decide +kernel)))) (fun hb => ?_) (fun hb => ?_)
    · have h1 : wd = "pass" := by simpa using hb
      unfold stepC at q'
      rw [if_pos h1] at q'
      rcases hcan with ⟨_, h2, h3⟩ | ⟨h2, _⟩ | ⟨h2, _⟩
      · have hld : (kAt ks (ks.length - 1)).down = [] := hwf.ld
        have h2' : p < ks.length := h2
        have hp1 : p + 1 < ks.length := by
          by_cases e : p = ks.length - 1
          · subst e; exact absurd hld h3
          · omega
        k_updF
        exact at_rtO (S := []) (em_passed (c := ⟨ks, co⟩) (hkc rfl) (hsp rfl) hc hp1 h3) rfl q'
      · rw [h1] at h2; exact absurd h2 (by decide)
      · rw [h1] at h2; exact absurd h2 (by decide)
    · have h1 : wd ≠ "pass" := by simpa using hb
      unfold stepC at q'
      rw [if_neg h1] at q'
      k_updF
      refine at_if (b := decide (wd = "back")) (et_test (ev_op (ev_op (ev_var rfl) ev_int (rv_ixT rfl)) ev_str (rv_eqS hw (by decide +kernel)))) (fun hb2 => ?_) (fun hb2 => ?_)
      · have h2 : wd = "back" := by simpa using hb2
        rw [if_pos h2] at q'
        rcases hcan with ⟨h3, _⟩ | ⟨_, h3, h4⟩ | ⟨h3, _⟩
        · exact absurd h3 h1
        · have hfu : (kAt ks 0).up = [] := hwf.fu
          have h0 : 0 < p := by
            rcases Nat.eq_zero_or_pos p with e | e
            · subst e; exact absurd hfu h4
            · exact e
          k_updF
          exact at_rtO (S := []) (em_backed (c := ⟨ks, co⟩) (hkc rfl) (hsp rfl) hc h0 h3 h4) rfl q'
        · rw [h2] at h3; exact absurd h3 (by decide)
      · have h2 : wd ≠ "back" := by simpa using hb2
        rw [if_neg h2] at q'
        rcases hcan with ⟨h3, _⟩ | ⟨h3, _⟩ | ⟨_, h4, h5⟩
        · exact absurd h3 h1
        · exact absurd h3 h2
        · obtain ⟨l, hl'⟩ := Option.isSome_iff_exists.mp h5
          have hl0 : co = some l := hl'
          subst hl0
          have hne : ks ≠ [] := hwf.ne
          have hlt : l.length < (lastOf ks).log.length := hwf.co l rfl
          have hlst : ks.getLast? = some (lastOf ks) := by
            unfold lastOf
            rw [List.getLast?_eq_some_getLast hne]; rfl
          have hlz : l.length ≤ 1000 := (hc.lc l rfl).1
          have hkk : (lastOf ks).ok := hc.kp _ (List.mem_of_getLast? hlst)
          have hkl := hkk.ll
          have hln : learnt ⟨ks, some l⟩ = l ++ [(lastOf ks).log[l.length]] := by
            unfold learnt
            show l ++ [(lastOf ks).log.getD l.length _] = _
            rw [List.getD_eq_getElem?_getD, List.getElem?_eq_getElem hlt]; rfl
          rw [hln] at q'
          have hat : atI (ks.map Kp.e) (-1) = some (.tuple [.list ((lastOf ks).log.map Dd.e), .int (lastOf ks).sure, .list ((lastOf ks).down.map Dd.e), .list ((lastOf ks).up.map .int)]) := atI_map (f := Kp.e) (atI_neg1 hlst)
          have hati : atI ((lastOf ks).log.map Dd.e) (((l.map Dd.e).length : Nat) : Int) = some ((lastOf ks).log[l.length]).e := by
            rw [List.length_map]
            exact atI_map (f := Dd.e) (atI_of (List.getElem?_eq_getElem hlt))
          k_updF
          exact at_rtO (S := []) (em_grown (ks := ks) (l := l ++ [(lastOf ks).log[l.length]]) (ev_op (ev_var rfl) ev_int (rv_ixT rfl)) (ev_is (ev_op (ev_op (x := .tuple [.list (ks.map Kp.e), .list (l.map Dd.e)]) (ev_var rfl) ev_int (rv_ixT rfl)) (ev_lst (ea_cons (ev_op (ev_op (ev_op (ev_op (ev_var rfl) ev_int (rv_ixT rfl)) (ev_un ev_int ru_neg) (rv_ixL hat)) ev_int (rv_ixT rfl)) (ev_cb (ea_cons (ev_op (x := .tuple [.list (ks.map Kp.e), .list (l.map Dd.e)]) (ev_var rfl) ev_int (rv_ixT rfl)) ea_nil) rc_lenL) (rv_ixL hati)) ea_nil) (by k_ownIn)) (RvN.d (rvN_addL (by rw [List.length_map]; exact sz_dec (by show l.length + 1 ≤ _; omega))))) (by rw [List.map_append]; rfl)) hne ⟨hz, hc.kp, fun l' e => by
            cases e
            refine ⟨by rw [List.length_append]; show l.length + 1 ≤ 1000; omega, fun d hd => ?_⟩
            rcases List.mem_append.mp hd with hd | hd
            · exact (hc.lc l rfl).2 d hd
            · rw [List.mem_singleton.mp hd]; exact hkk.dl _ (List.getElem_mem hlt)⟩) rfl q'
  · have hany : ((stepsD ⟨ks, co⟩).any fun y => PyData.eqv y (.tuple [.str wd, .int i])) = false := by
      rw [Bool.eq_false_iff]
      exact fun z => hno (steps_any.mp z)
    refine at_if (b := true) (et_is (et_test (ev_op (ev_var rfl) (ev_stepsW (c := ⟨ks, co⟩) (ev_var rfl) hc) (rv_notInL hsh shp_steps.sh))) (by rw [hany]; rfl)) (fun _ => ?_) (fun hb => by cases hb)
    exact at_xq q

theorem ok_quiet (T : Tx K mg) : Def P w K mg base CX0 5 "quiet" ["chain"] (spW WO K 1 R_quiet) := by
  refine mkW T.f_quiet b_quiet sc_quiet rfl fun f cdv A outer s H E hr => ⟨_, (pss_cons (ps_set (i := 0) sc_quiet.nd rfl (Or.inl rfl) (pe_callD (ok_chain_of T) hr (pa_cons (pe_ix (ix_K K) (pv 0) pe_int (fun _ _ => rfl)) (pa_cons (pe_ix (ix_K K) (pv 0) pe_int (fun _ _ => rfl)) pa_nil))))
      (pss_cons (ps_set (i := 1) sc_quiet.nd rfl (Or.inl rfl) (pe_callD (ok_steps_of T) hr (pa_cons (pv 0) pa_nil)))
      (pss_cons (ps_while PassesOwn.never (pt_cmpR (op_neK K (hu64 hr)) (pv 1) (pe_lst pa_nil) (nomark _))
      (pss_cons (ps_set (i := 0) sc_quiet.nd rfl (Or.inl rfl) (pe_callD0 (ok_done T) hr (pa_cons (pv 0) (pa_cons (pe_ix (ix_K K) (pv 1) pe_int (fun _ _ => rfl)) pa_nil))))
      (pss_one (ps_set (i := 1) sc_quiet.nd rfl (Or.inl rfl) (pe_callD (ok_steps_of T) hr (pa_cons (pv 0) pa_nil))))))
      (pss_one (ps_ret (pv 0)))))), ?_⟩
  rintro ds o B Q hl ⟨c, rfl, hb, rfl⟩ q
  have q' : RtO B Q (quietC c).e := q
  have hlk := hb.ok.lk
  k_updF
  refine at_setO (i := 0) (d := c.e) (em_fz (em_chain_of (c := c) (ev_op (x := .tuple [.list (c.ks.map Kp.e), coE c.co]) (ev_var rfl) ev_int (rv_ixT rfl)) (ev_op (x := .tuple [.list (c.ks.map Kp.e), coE c.co]) (ev_var rfl) ev_int (rv_ixT rfl)) (by omega))) ?_
  k_caught0
  k_updF
  refine at_setO (i := 1) (d := .list (stepsD c)) (em_fz (em_steps_of (ev_var rfl) hb.ok)) ?_
  k_caught0
  k_updF
  refine at_while (α := Ch) (fun c' => [.ow c'.e, .ow (.list (stepsD c'))]) (Qb (kAt c.ks 0).log (manyF c)) stepsN (fun c' => !(stepsD c').isEmpty) c (.same (.same .nil)) hb (fun c' hb' => et_fz (et_test (ev_op (ev_var rfl) (ev_lst ea_nil (by k_ownIn)) (rv_neNil ⟨2, by decide, shp_steps⟩)))) (fun c' N hb' hs hN => ?_) (fun c' hb' hs => ?_)
  · obtain ⟨x, xs, hx⟩ : ∃ x xs, stepsD c' = x :: xs := by
      cases e : stepsD c' with
      | nil => rw [e] at hs; cases hs
      | cons x xs => exact ⟨x, xs, rfl⟩
    obtain ⟨wd, p, rfl, hcan⟩ := steps_mem (c := c') (x := x) (by rw [hx]; exact List.mem_cons_self)
    obtain ⟨hb2, hlt⟩ := hb'.step hcan
    k_updF
    refine at_setO (i := 0) (d := (stepC c' wd p).e) (em_fz (em_done (ev_var rfl) (ev_op (ev_var rfl) ev_int (rv_ixL (by rw [hx]; exact atI_cons0))) hb'.ok hcan hb'.inv.wf)) ?_
    k_caught0
    refine at_setO (i := 1) (d := .list (stepsD (stepC c' wd p))) (em_fz (em_steps_of (ev_var rfl) hb2.ok)) ?_
    k_caught0
    exact hN _ hb2 hlt
  · have he : stepsD c' = [] := by
      cases e : stepsD c' with
      | nil => rfl
      | cons x xs => rw [e] at hs; cases hs
    have e1 := no_steps hb'.inv he
    rw [hb'.log, hb'.many] at e1
    change c' = quietC c at e1
    rw [e1]
    exact at_rtO (em_var rfl) rfl q'

theorem ok_joined (T : Tx K mg) : Def P w K mg base CX0 1 "joined" ["ahead", "behind"] (spP 2 R_joined) := by
  refine mkP T.f_joined b_joined sc_joined rfl fun f cdv A outer s H E hr => ⟨_, (pss_cons (ps_set (i := 2) sc_joined.nd rfl (Or.inl rfl) (pe_slice (sl_K K) (pe_ix (ix_K K) (pv 0) pe_int (fun _ _ => rfl)) (po_some (pe_callB (len_K K) (by rfl) T.z_len (by decide +kernel) (pa_cons (pe_ix (ix_K K) (pv 1) pe_int (fun _ _ => rfl)) pa_nil))) po_none))
      (pss_one (ps_ret (pe_lst (pa_cons (pe_tup (pa_cons (pe_ix (ix_K K) (pv 0) pe_int (fun _ _ => rfl)) (pa_cons (pe_ix (ix_K K) (pv 0) pe_int (fun _ _ => rfl)) (pa_cons (pv 2) (pa_cons (pe_ix (ix_K K) (pv 0) pe_int (fun _ _ => rfl)) pa_nil))))) (pa_cons (pe_tup (pa_cons (pe_ix (ix_K K) (pv 1) pe_int (fun _ _ => rfl)) (pa_cons (pe_ix (ix_K K) (pv 1) pe_int (fun _ _ => rfl)) (pa_cons (pe_ix (ix_K K) (pv 1) pe_int (fun _ _ => rfl)) (pa_cons (pe_lst (pa_cons (pe_ix (ix_K K) (pv 1) pe_int (fun _ _ => rfl)) pa_nil)) pa_nil))))) pa_nil)))))), ?_⟩
  rintro ds d B Q hl ⟨⟨l1, s1, d1, u1⟩, ⟨l2, s2, d2, u2⟩, rfl, rfl⟩ q
  dsimp only [Kp.e]
  have hl2 : ((l2.map Dd.e).length : Int) = (l2.length : Nat) := by rw [List.length_map]
  k_updF
  refine at_setA (i := 2) (d := .list ((l1.drop l2.length).map Dd.e)) (ev_is (ev_sl (ev_op (ev_var rfl) ev_int (rv_ixT rfl)) (eo_some (ev_is (ev_cb (ea_cons (ev_op (ev_var rfl) ev_int (rv_ixT rfl)) ea_nil) rc_lenL) (congrArg PyData.int hl2))) eo_none (RsN.d rsN_L)) (by rw [cutG_from, List.map_drop])) (by k_intsEnd) ?_
  k_updF
  exact at_rt (ev_lst (ea_cons (ev_tup (ea_cons (ev_op (ev_var rfl) ev_int (rv_ixT rfl)) (ea_cons (ev_op (ev_var rfl) ev_int (rv_ixT rfl)) (ea_cons (ev_var rfl) (ea_cons (ev_op (ev_var rfl) ev_int (rv_ixT rfl)) ea_nil)))) (by k_ownIn)) (ea_cons (ev_tup (ea_cons (ev_op (ev_var rfl) ev_int (rv_ixT rfl)) (ea_cons (ev_op (ev_var rfl) ev_int (rv_ixT rfl)) (ea_cons (ev_op (ev_var rfl) ev_int (rv_ixT rfl)) (ea_cons (ev_lst (ea_cons (ev_op (ev_var rfl) ev_int (rv_ixT rfl)) ea_nil) (by k_ownIn)) ea_nil)))) (by k_ownIn)) ea_nil)) (by k_ownIn)) rfl q

theorem ok_made_last (T : Tx K mg) : Def P w K mg base CX0 1 "made_last" ["keeper", "first"] (spP 2 R_made_last) := by
  refine mkP T.f_made_last b_made_last sc_made_last rfl fun f cdv A outer s H E hr => ⟨_, (pss_cons (ps_set (i := 2) sc_made_last.nd rfl (Or.inl rfl) (pe_callB (len_K K) (by rfl) T.z_len (by decide +kernel) (pa_cons (pe_ix (ix_K K) (pv 0) pe_int (fun _ _ => rfl)) pa_nil)))
      (pss_cons (ps_set (i := 3) sc_made_last.nd rfl (Or.inl rfl) (pe_ix (ix_K K) (pv 0) pe_int (fun _ _ => rfl)))
      (pss_cons (ps_if (pt_not (pt_val (pv 1)))
      (pss_one (ps_set (i := 3) sc_made_last.nd rfl (Or.inl rfl) (pe_op (op_addK K) (pv 3) (pe_lst (pa_cons (pv 2) pa_nil)))))
      pss_nil)
      (pss_one (ps_ret (pe_tup (pa_cons (pe_ix (ix_K K) (pv 0) pe_int (fun _ _ => rfl)) (pa_cons (pv 2) (pa_cons (pe_lst pa_nil) (pa_cons (pv 3) pa_nil)))))))))), ?_⟩
  rintro ds d B Q hl ⟨⟨l1, s1, d1, u1⟩, b, rfl, hk, rfl⟩ q
  have hu : u1.length ≤ 1000 := hk.lu
  dsimp only [Kp.e]
  have hl2 : ((l1.map Dd.e).length : Int) = (l1.length : Nat) := by rw [List.length_map]
  k_updF
  refine at_setA (i := 2) (d := .int l1.length) (ev_is (ev_cb (ea_cons (ev_op (ev_var rfl) ev_int (rv_ixT rfl)) ea_nil) rc_lenL) (congrArg PyData.int hl2)) (by k_intsEnd) ?_
  l_intsC
  k_updF
  refine at_ifSet (i := 3) (b := !b) (d0 := .list (u1.map .int)) (d1 := .list ((u1 ++ [(l1.length : Int)]).map .int)) (et_not (et_test (ev_var rfl))) (fun _ => ev_is (ev_op (ev_var rfl) (ev_lst (ea_cons (ev_var rfl) ea_nil) (by k_ownIn)) (RvN.d (rvN_addL (by rw [List.length_map]; exact sz_dec (by show u1.length + 1 ≤ _; omega))))) (by rw [List.map_append]; rfl)) rfl (by k_intsEnd) ?_
  k_updF
  refine at_rt (ev_tup (ea_cons (ev_op (ev_var rfl) ev_int (rv_ixT rfl)) (ea_cons (ev_var rfl) (ea_cons (ev_lst ea_nil (by k_ownIn)) (ea_cons (ev_var rfl) ea_nil)))) (by k_ownIn)) ?_ q
  cases b <;> rfl

theorem ok_fall (T : Tx K mg) : Def P w K mg base (L2.CX P w) 3 "fall" ["chain", "place"] (spW WO K 2 R_fall) := by
  refine mkX T.f_fall b_fall sc_fall rfl fun f cdv A outer s H E hr => ⟨_, (pss_cons (ps_set (i := 2) sc_fall.nd rfl (Or.inl rfl) (pe_callTy (list_K K) (by rfl) T.z_list (by decide +kernel) (pa_cons (pe_ix (ix_K K) (pv 0) pe_int (fun _ _ => rfl)) pa_nil)))
      (pss_cons (ps_set (i := 3) sc_fall.nd rfl (Or.inl rfl) (pe_callB (len_K K) (by rfl) T.z_len (by decide +kernel) (pa_cons (pv 2) pa_nil)))
      (pss_cons (ps_if (PW.pt (pw_and (pt_cmpR (op_eqK K (hu64 hr)) (pv 1) (pv 3) (nomark _)) (pw_and1 (pt_cmpR op_notN' (pe_ix (ix_K K) (pv 0) pe_int (fun _ _ => rfl)) pe_non (nomark _)))))
      (pss_one (ps_ret (pe_callD (ok_chain_of T) hr (pa_cons (pv 2) (pa_cons pe_non pa_nil)))))
      pss_nil)
      (pss_cons (ps_if (PW.pt (pw_or (pt_cmpR op_lt (pv 1) pe_int (nomark _)) (pw_or1 (pt_cmpR op_ge (pv 1) (pv 3) (nomark _)))))
      (pss_one (ps_raise rfl (takes_of rfl rfl rfl rfl) (pmk_own PySem.F.excBase_ValueError T.x_NoKeeper.1 T.g_NoKeeper T.x_NoKeeper.2.1 (raises_own T.x_NoKeeper.2.2.1 T.x_NoKeeper.2.2.2) (by exact rfl))))
      pss_nil)
      (pss_cons (ps_if (pt_cmpR (op_eqK K (hu64 hr)) (pv 3) pe_int (nomark _))
      (pss_one (ps_raise rfl (takes_of rfl rfl rfl rfl) (pmk_own PySem.F.excBase_ValueError T.x_OnlyKeeper.1 T.g_OnlyKeeper T.x_OnlyKeeper.2.1 (raises_own T.x_OnlyKeeper.2.2.1 T.x_OnlyKeeper.2.2.2) (by exact rfl))))
      pss_nil)
      (pss_cons (ps_set (i := 4) sc_fall.nd rfl (Or.inl rfl) (pe_slice (sl_K K) (pv 2) po_none (po_some (pv 1))))
      (pss_cons (ps_set (i := 5) sc_fall.nd rfl (Or.inl rfl) (pe_slice (sl_K K) (pv 2) (po_some (pe_op (op_addK K) (pv 1) pe_int)) po_none))
      (pss_cons (ps_if (pt_cmpR (op_eqK K (hu64 hr)) (pv 4) (pe_lst pa_nil) (nomark _))
      (pss_one (ps_asg (pe_tup (pa_cons (pe_ix (ix_K K) (pe_ix (ix_K K) (pv 5) pe_int (fun _ _ => rfl)) pe_int (fun _ _ => rfl)) (pa_cons (pe_ix (ix_K K) (pe_ix (ix_K K) (pv 5) pe_int (fun _ _ => rfl)) pe_int (fun _ _ => rfl)) (pa_cons (pe_ix (ix_K K) (pe_ix (ix_K K) (pv 5) pe_int (fun _ _ => rfl)) pe_int (fun _ _ => rfl)) (pa_cons (pe_lst pa_nil) pa_nil))))) (pg_sub (pv 5) pe_int set_list)))
      (pss_one (ps_if (pt_cmpR (op_eqK K (hu64 hr)) (pv 5) (pe_lst pa_nil) (nomark _))
      (pss_one (ps_asg (pe_callD (ok_made_last T) hr (pa_cons (pe_ix (ix_K K) (pv 4) (pe_un un_neg pe_int) (fun _ _ => rfl)) (pa_cons (pe_cmpR (op_eqK K (hu64 hr)) (pv 1) pe_int (nomark _)) pa_nil))) (pg_sub (pv 4) (pe_un un_neg pe_int) set_list)))
      (pss_cons (ps_set (i := 6) sc_fall.nd rfl (Or.inl rfl) (pe_callD (ok_joined T) hr (pa_cons (pe_ix (ix_K K) (pv 4) (pe_un un_neg pe_int) (fun _ _ => rfl)) (pa_cons (pe_ix (ix_K K) (pv 5) pe_int (fun _ _ => rfl)) pa_nil))))
      (pss_cons (ps_asg (pe_ix (ix_K K) (pv 6) pe_int (fun _ _ => rfl)) (pg_sub (pv 4) (pe_un un_neg pe_int) set_list))
      (pss_one (ps_asg (pe_ix (ix_K K) (pv 6) pe_int (fun _ _ => rfl)) (pg_sub (pv 5) pe_int set_list))))))))
      (pss_one (ps_ret (pe_callD (ok_chain_of T) hr (pa_cons (pe_op (op_addK K) (pv 4) (pv 5)) (pa_cons (pe_ix (ix_K K) (pv 0) pe_int (fun _ _ => rfl)) pa_nil))))))))))))), ?_⟩
  rintro ds o B Q hl ⟨⟨ks, co⟩, p, rfl, hc, rfl⟩ q
  have hz : ks.length ≤ 1000 := hc.lk
  have hkp : ∀ k ∈ ks, k.ok := hc.kp
  have hmz : ((ks.map Kp.e).length : Int) = ks.length := by rw [List.length_map]
  change At B (sls _ [.tuple [.list (ks.map Kp.e), coE co], .int p]) _
  unfold fallO at q
  dsimp only at q
  k_updF
  refine at_setA (i := 2) (d := .list (ks.map Kp.e)) (EvN.ev (evN_cb (ea_cons (ev_op (ev_var rfl) ev_int (rv_ixT rfl)) ea_nil) rcN_listL)) (by k_intsEnd) ?_
  k_updF
  refine at_setA (i := 3) (d := .int ks.length) (ev_is (ev_cb (ea_cons (ev_var rfl) ea_nil) rc_lenL) (congrArg PyData.int hmz)) (by k_intsEnd) ?_
  k_updF
  refine at_if (b := decide (p = ks.length) && co.isSome) (et_and (et_test (by k_memK)) fun _ => et_is (et_test (ev_op (ev_op (ev_var rfl) ev_int (rv_ixT rfl)) ev_non rv_notN)) (by cases co <;> rfl)) (fun hb => ?_) (fun hb => ?_)
  · have h : p = ks.length ∧ co.isSome = true := by simpa using hb
    rw [if_pos h] at q
    have q' : RtO B Q _ := q
    k_updF
    exact at_rtO (S := []) (em_chain_of (c := ⟨ks, none⟩) (ev_var rfl) ev_non (by show ks.length ≤ _; omega)) rfl q'
  · have h : ¬ (p = ks.length ∧ co.isSome = true) := by
      intro z
      rw [decide_eq_true z.1, z.2] at hb; cases hb
    rw [if_neg h] at q
    l_intsW
    · intro hb2
      have h2 : p < 0 ∨ ks.length ≤ p := by simpa using hb2
      rw [if_pos h2] at q
      exact at_xq q
    · intro hb2
      have h2 : ¬ (p < 0 ∨ ks.length ≤ p) := by
        intro z
        simp only [Bool.or_eq_false_iff, decide_eq_false_iff_not] at hb2
        omega
      rw [if_neg h2] at q
      k_updF
      refine at_if (b := decide ((ks.length : Int) = 1)) (et_test (by k_memK)) (fun hb3 => ?_) (fun hb3 => ?_)
      · have h3 : ks.length = 1 := by
          have : (ks.length : Int) = 1 := by simpa using hb3
          omega
        rw [if_pos h3] at q
        exact at_xq q
      · have h3 : ¬ ks.length = 1 := by
          have : ¬ (ks.length : Int) = 1 := by simpa using hb3
          omega
        rw [if_neg h3] at q
        have q' : RtO B Q _ := q
        obtain ⟨n, rfl⟩ : ∃ n : Nat, p = (n : Int) := ⟨p.toNat, by omega⟩
        rw [Int.toNat_natCast] at q'
        have hn : n < ks.length := by omega
        have htl : ((ks.take n).map Kp.e).length = n := by rw [List.length_map, List.length_take]; omega
        have hdl : ((ks.drop (n + 1)).map Kp.e).length = ks.length - (n + 1) := by rw [List.length_map, List.length_drop]
        k_updF
        refine at_setNA (i := 4) (ds := (ks.take n).map Kp.e) (evN_is (evN_sl (ev_var rfl) eo_none (eo_some (ev_var rfl)) rsN_L) (by rw [cutG_to, List.map_take])) (by k_intsEnd) ?_
        k_updF
        refine at_setNA (i := 5) (ds := (ks.drop (n + 1)).map Kp.e) (evN_is (evN_sl (ev_var rfl) (eo_some (ev_op (ev_var rfl) ev_int rv_addI)) eo_none rsN_L) (by rw [show ((n : Int) + 1) = ((n + 1 : Nat) : Int) by omega, cutG_from, List.map_drop])) (by k_intsEnd) ?_
        have eN : ∀ {ks' : List Kp}, (∀ k ∈ ks', k.ok) → ∃ m, m ≤ 64 ∧ Shp m (.list (ks'.map Kp.e)) := fun h => ⟨4, by decide, shp_kps h⟩
        have hat : ∀ {i : Nat}, i < n → (ks.take n)[i]? = some (kAt ks i) := fun {i} h => by
          rw [List.getElem?_take_of_lt h]
          unfold kAt
          rw [List.getD_eq_getElem?_getD, List.getElem?_eq_getElem (by omega)]; rfl
        have had : n + 1 < ks.length → (ks.drop (n + 1))[0]? = some (kAt ks (n + 1)) := fun h => by
          rw [List.getElem?_drop]
          unfold kAt
          rw [List.getD_eq_getElem?_getD, List.getElem?_eq_getElem h]; rfl
        have fin : ∀ {as bs : List Kp}, as.length + bs.length ≤ 1000 → as ++ bs = fallK ks n → At B [.d (.tuple [.list (ks.map Kp.e), coE co]), .d (.int n), .d (.list (ks.map Kp.e)), .d (.int ks.length), .own (as.map Kp.e), .own (bs.map Kp.e), .un] (tRet (tCall (spW WO K 2 R_chain_of) [] E0 (tCons (tOp (rAddU K) (tVar 4) (tVar 5)) (tCons (tOp (rIx K) (tVar 0) (tC (.int 1))) tNil))) { nx := fun _ H' => Q .non H', rt := Q }) := fun {as bs} hz e => by
          rw [← e] at q'
          exact at_rtO (S := []) (em_fz (em_chain_of (c := ⟨as ++ bs, co⟩) (ev_is (ev_op (ev_var rfl) (ev_var rfl) (RvN.d (rvN_addL (by rw [List.length_map, List.length_map]; exact sz_dec (by omega))))) (by rw [List.map_append])) (ev_op (ev_var rfl) ev_int (rv_ixT rfl)) (by show (as ++ bs).length ≤ _; rw [List.length_append]; omega))) rfl q'
        have hta : (ks.take n).length = n := by rw [List.length_take]; omega
        have hda : (ks.drop (n + 1)).length = ks.length - (n + 1) := List.length_drop
        k_updF
        refine at_if (b := ((ks.take n).map Kp.e).isEmpty) (et_fz (et_test (ev_op (ev_var rfl) (ev_lst ea_nil (by k_ownIn)) (rv_eqNil (eN fun k hk => hkp k (List.mem_of_mem_take hk)))))) (fun hb4 => ?_) (fun hb4 => ?_)
        · have h4 : n = 0 := by
            have h := List.isEmpty_iff.mp hb4
            have := congrArg List.length h
            rw [htl] at this; exact this
          subst h4
          have hk1 := had (by omega)
          have hix : atI ((ks.drop (0 + 1)).map Kp.e) 0 = some (.tuple [.list ((kAt ks 1).log.map Dd.e), .int (kAt ks 1).sure, .list ((kAt ks 1).down.map Dd.e), .list ((kAt ks 1).up.map .int)]) := atI_map (f := Kp.e) (atI_of (i := 0) hk1)
          k_updF
          refine at_setitemA (i := 5) (j := 0) (n := 0) (d := (noUp (kAt ks 1)).e) rfl (ev_tup (ea_cons (ev_op (ev_ixOwn rfl ev_int hix) ev_int (rv_ixT rfl)) (ea_cons (ev_op (ev_ixOwn rfl ev_int hix) ev_int (rv_ixT rfl)) (ea_cons (ev_op (ev_ixOwn rfl ev_int hix) ev_int (rv_ixT rfl)) (ea_cons (ev_lst ea_nil (by k_ownIn)) ea_nil)))) (by k_ownIn)) ev_int (ixN_of (i := 0) (by rw [hdl]; omega)) (by k_intsEnd) ?_
          rw [← List.map_set]
          refine fin (by rw [List.length_set, hta, hda]; omega) ?_
          unfold fallK leftK
          rw [if_pos rfl]; rfl
        · have h4 : n ≠ 0 := fun z => by
            subst z
            simp at hb4
          refine at_if (b := ((ks.drop (n + 1)).map Kp.e).isEmpty) (et_fz (et_test (ev_op (ev_var rfl) (ev_lst ea_nil (by k_ownIn)) (rv_eqNil (eN fun k hk => hkp k (List.mem_of_mem_drop hk)))))) (fun hb5 => ?_) (fun hb5 => ?_)
          · have h5 : n + 1 = ks.length := by
              have h := List.isEmpty_iff.mp hb5
              have := congrArg List.length h
              rw [hdl] at this
              have h0 : ([] : List PyData).length = 0 := rfl
              omega
            have hlast : (ks.take n).getLast? = some (kAt ks (n - 1)) := by
              rw [List.getLast?_eq_getElem?, hta]
              exact hat (by omega)
            have hix : atI ((ks.take n).map Kp.e) (-1) = some (kAt ks (n - 1)).e := atI_map (f := Kp.e) (atI_neg1 hlast)
            have hxi : ixN ((ks.take n).map Kp.e).length (-1) = some (n - 1) := by
              rw [htl]
              unfold ixN
              rw [if_neg (by decide), if_pos (by omega)]
              congr 1; omega
            k_updF
            refine at_setitemA (i := 4) (j := n - 1) (n := -1) (d := (lastK (kAt ks (n - 1)) (decide (n = 1))).e) rfl (ev_made_last (b := decide (n = 1)) (ev_ixOwn rfl (ev_un ev_int ru_neg) hix) (ev_is (ev_op (ev_var rfl) ev_int rv_eqI) (by congr 1; exact decide_eq_decide.mpr (by omega))) (hkp _ (kAt_mem (by omega)))) (ev_un ev_int ru_neg) hxi (by k_intsEnd) ?_
            rw [← List.map_set]
            refine fin (by rw [List.length_set, hta, hda]; omega) ?_
            have hd0 : ks.drop (n + 1) = [] := List.drop_eq_nil_of_le (by omega)
            unfold fallK leftK
            rw [if_neg h4, if_pos h5, hd0, List.append_nil, List.append_nil]
          · have h5 : n + 1 ≠ ks.length := fun z => by
              have hd0 : ks.drop (n + 1) = [] := List.drop_eq_nil_of_le (by omega)
              rw [hd0] at hb5; cases hb5
            have hk1 := had (by omega)
            have hix : atI ((ks.drop (n + 1)).map Kp.e) 0 = some (kAt ks (n + 1)).e := atI_map (f := Kp.e) (atI_of (i := 0) hk1)
            have hlast : (ks.take n).getLast? = some (kAt ks (n - 1)) := by
              rw [List.getLast?_eq_getElem?, hta]
              exact hat (by omega)
            have hia : atI ((ks.take n).map Kp.e) (-1) = some (kAt ks (n - 1)).e := atI_map (f := Kp.e) (atI_neg1 hlast)
            have hxi : ixN ((ks.take n).map Kp.e).length (-1) = some (n - 1) := by
              rw [htl]
              unfold ixN
              rw [if_neg (by decide), if_pos (by omega)]
              congr 1; omega
            k_updF
            refine at_setA (i := 6) (d := .list [(joinA (kAt ks (n - 1)) (kAt ks (n + 1))).e, (joinB (kAt ks (n + 1))).e]) (ev_joined (ev_ixOwn rfl (ev_un ev_int ru_neg) hia) (ev_ixOwn rfl ev_int hix)) (by k_intsEnd) ?_
            k_updF
            refine at_setitemA (i := 4) (j := n - 1) (n := -1) (d := (joinA (kAt ks (n - 1)) (kAt ks (n + 1))).e) rfl (ev_op (ev_var rfl) ev_int (rv_ixL atI_cons0)) (ev_un ev_int ru_neg) hxi (by k_intsEnd) ?_
            k_updF
            refine at_setitemA (i := 5) (j := 0) (n := 0) (d := (joinB (kAt ks (n + 1))).e) rfl (ev_op (ev_var rfl) ev_int (rv_ixL (atI_of (i := 1) rfl))) ev_int (ixN_of (i := 0) (by rw [hdl]; omega)) (by k_intsEnd) ?_
            rw [← List.map_set, ← List.map_set]
            refine at_wk (fin (as := (ks.take n).set (n - 1) (joinA (kAt ks (n - 1)) (kAt ks (n + 1)))) (bs := (ks.drop (n + 1)).set 0 (joinB (kAt ks (n + 1)))) (by rw [List.length_set, List.length_set, hta, hda]; omega) ?_) (.same (.same (.same (.same (.same (.same (.un .nil)))))))
            unfold fallK leftK
            rw [if_neg h4, if_neg h5, List.set_append_left _ _ (by rw [hta]; omega), List.set_append_right _ _ (by rw [List.length_set, hta]; omega), List.length_set, hta, Nat.sub_self]

theorem ok_come (T : Tx K mg) : Def P w K mg base (L2.CX P w) 4 "come" ["chain"] (spW WO K 1 R_come) := by
  refine mkX T.f_come b_come sc_come rfl fun f cdv A outer s H E hr => ⟨_, (pss_cons (ps_if (pt_cmpR op_notN' (pe_ix (ix_K K) (pv 0) pe_int (fun _ _ => rfl)) pe_non (nomark _))
      (pss_one (ps_raise rfl (takes_of rfl rfl rfl rfl) (pmk_own PySem.F.excBase_ValueError T.x_OneComing.1 T.g_OneComing T.x_OneComing.2.1 (raises_own T.x_OneComing.2.2.1 T.x_OneComing.2.2.2) (by exact rfl))))
      pss_nil)
      (pss_cons (ps_if (pt_cmpR (op_eqK K (hu64 hr)) (pe_callB (len_K K) (by rfl) T.z_len (by decide +kernel) (pa_cons (pe_ix (ix_K K) (pv 0) pe_int (fun _ _ => rfl)) pa_nil)) (pe_gint T.c_MOST_KEEPERS) (nomark _))
      (pss_one (ps_raise rfl (takes_of rfl rfl rfl rfl) (pmk_own PySem.F.excBase_ValueError T.x_TooMany.1 T.g_TooMany T.x_TooMany.2.1 (raises_own T.x_TooMany.2.2.1 T.x_TooMany.2.2.2) (by exact rfl))))
      pss_nil)
      (pss_one (ps_ret (pe_callD (ok_grown T) hr (pa_cons (pe_ix (ix_K K) (pv 0) pe_int (fun _ _ => rfl)) (pa_cons (pe_lst pa_nil) pa_nil))))))), ?_⟩
  rintro ds o B Q hl ⟨⟨ks, co⟩, rfl, hc, hn, rfl⟩ q
  have hz : ks.length ≤ 1000 := hc.lk
  change At B (sls _ [.tuple [.list (ks.map Kp.e), coE co]]) _
  unfold comeO at q
  cases co with
  | some l =>
    k_updF
    refine at_if (b := true) (et_test (ev_op (ev_op (ev_var rfl) ev_int (rv_ixT rfl)) ev_non rv_notN)) (fun _ => ?_) (fun hb => by cases hb)
    exact at_xq q
  | none =>
    k_updF
    refine at_if (b := false) (et_test (ev_op (ev_op (ev_var rfl) ev_int (rv_ixT rfl)) ev_non rv_notN)) (fun hb => by cases hb) (fun _ => ?_)
    k_updF
    refine at_if (b := decide (((ks.map Kp.e).length : Int) = 9)) (et_test (ev_op (ev_cb (ea_cons (ev_op (ev_var rfl) ev_int (rv_ixT rfl)) ea_nil) rc_lenL) (by k_memK) rv_eqI)) (fun hb => ?_) (fun hb => ?_)
    · have h : ks.length = 9 := by rw [decide_eq_true_eq, List.length_map] at hb; omega
      simp only [Option.isSome_none, Bool.false_eq_true, if_false, h, if_true] at q
      exact at_xq q
    · have h : ¬ ks.length = 9 := by rw [decide_eq_false_iff_not, List.length_map] at hb; omega
      simp only [Option.isSome_none, Bool.false_eq_true, if_false, h] at q
      have q' : RtO B Q _ := q
      k_updF
      exact at_rtO (S := []) (em_grown (ks := ks) (l := []) (ev_op (ev_var rfl) ev_int (rv_ixT rfl)) (ev_lst ea_nil (by k_ownIn)) hn ⟨hz, hc.kp, fun l e => by cases e; exact ⟨by show 0 ≤ _; omega, fun d hd => by cases hd⟩⟩) rfl q'

theorem ok_one_done (T : Tx K mg) : Def P w K mg base (L2.CX P w) 6 "one_done" ["chain", "doing"] (spW WO K 2 R_one) := by
  refine mkX T.f_one_done b_one_done sc_one_done rfl fun f cdv A outer s H E hr => ⟨_, (pss_cons (ps_if (pt_cmpR (op_eqK K (hu64 hr)) (pe_ix (ix_K K) (pv 1) pe_int (fun _ _ => rfl)) pe_str (nomark _))
      (pss_one (ps_ret (pe_callDX (ok_take T) hr (takes_of rfl rfl rfl rfl) (pa_cons (pv 0) (pa_cons (pe_ix (ix_K K) (pv 1) pe_int (fun _ _ => rfl)) pa_nil)))))
      pss_nil)
      (pss_cons (ps_if (pt_cmpR (op_eqK K (hu64 hr)) (pe_ix (ix_K K) (pv 1) pe_int (fun _ _ => rfl)) pe_str (nomark _))
      (pss_one (ps_ret (pe_callDX (ok_fall T) hr (takes_of rfl rfl rfl rfl) (pa_cons (pv 0) (pa_cons (pe_ix (ix_K K) (pv 1) pe_int (fun _ _ => rfl)) pa_nil)))))
      pss_nil)
      (pss_cons (ps_if (pt_cmpR (op_eqK K (hu64 hr)) (pv 1) (pe_tup (pa_cons pe_str (pa_cons pe_int pa_nil))) (nomark _))
      (pss_one (ps_ret (pe_callDX (ok_come T) hr (takes_of rfl rfl rfl rfl) (pa_cons (pv 0) pa_nil))))
      pss_nil)
      (pss_cons (ps_if (pt_cmpR (op_eqK K (hu64 hr)) (pv 1) (pe_tup (pa_cons pe_str (pa_cons pe_int pa_nil))) (nomark _))
      (pss_one (ps_ret (pe_callD (ok_quiet T) hr (pa_cons (pv 0) pa_nil))))
      pss_nil)
      (pss_one (ps_ret (pe_callDX (ok_done T) hr (takes_of rfl rfl rfl rfl) (pa_cons (pv 0) (pa_cons (pv 1) pa_nil))))))))), ?_⟩
  rintro ds o B Q hl ⟨c, g, n, rfl, hg, hn, hz, rfl⟩ q
  have hc := hg.cok hn
  have hne := hg.inv.ne
  have word : ∀ {wd : Str} {x : PyData} {t : Str} {Γ : List Sl}, Γ[1]? = some (.d (.tuple [.str wd, x])) → PyData.strOk wd = true → PyData.strOk t = true → EvT (tTest (tOp (rEqD K) (tOp (rIx K) (tVar 1) (tC (.int 0))) (tC (.str t)))) Γ (decide (wd = t)) := fun e h1 h2 => et_test (ev_op (ev_op (ev_var e) ev_int (rv_ixT atI_cons0)) ev_str (rv_eqS h1 h2))
  have s1 : PyData.strOk "take" = true := by decide +kernel
  have s2 : PyData.strOk "fall" = true := by decide +kernel
  have s3 : PyData.strOk "come" = true := by decide +kernel
  have s4 : PyData.strOk "quiet" = true := by decide +kernel
  cases g with
  | bad y =>
    have q' : Xq K B E "BadDeed" := q
    obtain ⟨ks0, co⟩ := c
    cases ks0 with
    | nil => exact absurd rfl hne
    | cons k ks =>
      change At B (sls _ [(Ch.mk (k :: ks) co).e, .tuple [.str "take", y]]) _
      k_updF
      refine at_if (word rfl s1 s1) (fun _ => ?_) (fun hb => absurd rfl (of_decide_eq_false hb))
      exact at_rzRet (rz_callW (c := "BadDeed") (ea_cons (ev_var rfl) (ea_cons (ev_op (x := .tuple [.str "take", y]) (ev_var rfl) ev_int (rv_ixT rfl)) ea_nil)) rfl ⟨k, ks, co, hc, .inl ⟨y, rfl, hz.sz, hz.no, rfl⟩⟩) (at_xq q')
  | take d =>
    obtain ⟨ks0, co⟩ := c
    cases ks0 with
    | nil => exact absurd rfl hne
    | cons k ks =>
      have q2 : OcW WO K B Q E (ocOf (takeE ⟨k :: ks, co⟩ d)) := q
      have e : takeO k ks co d = ocOf (takeE ⟨k :: ks, co⟩ d) := takeO_E
      rw [← e] at q2
      change At B (sls _ [(Ch.mk (k :: ks) co).e, .tuple [.str "take", d.e]]) _
      k_updF
      refine at_if (word rfl s1 s1) (fun _ => ?_) (fun hb => absurd rfl (of_decide_eq_false hb))
      have hR : R_take [(Ch.mk (k :: ks) co).e, d.e] (takeO k ks co d) := ⟨k, ks, co, hc, .inr ⟨d, hz, rfl, rfl⟩⟩
      generalize takeO k ks co d = oc at q2 hR
      cases oc with
      | ok x => exact at_rtO (S := []) (em_callW (ea_cons (ev_var rfl) (ea_cons (ev_op (x := .tuple [.str "take", d.e]) (ev_var rfl) ev_int (rv_ixT rfl)) ea_nil)) rfl hR) rfl q2
      | error s => exact at_rzRet (rz_callW (ea_cons (ev_var rfl) (ea_cons (ev_op (x := .tuple [.str "take", d.e]) (ev_var rfl) ev_int (rv_ixT rfl)) ea_nil)) rfl hR) (at_xq q2)
  | fall p =>
    have q2 : OcW WO K B Q E (ocOf (fallE c p)) := q
    have e : fallO c p = ocOf (fallE c p) := by
      unfold fallO fallE
      split
      · rfl
      · split
        · rfl
        · split <;> rfl
    rw [← e] at q2
    change At B (sls _ [c.e, .tuple [.str "fall", .int p]]) _
    k_updF
    refine at_if (word rfl s2 s1) (fun hb => absurd (of_decide_eq_true hb) (by decide)) (fun _ => ?_)
    k_updF
    refine at_if (word rfl s2 s2) (fun _ => ?_) (fun hb => absurd rfl (of_decide_eq_false hb))
    have hR : R_fall [c.e, .int p] (fallO c p) := ⟨c, p, rfl, hc, rfl⟩
    generalize fallO c p = oc at q2 hR
    cases oc with
    | ok x => exact at_rtO (S := []) (em_callW (ea_cons (ev_var rfl) (ea_cons (ev_op (x := .tuple [.str "fall", .int p]) (ev_var rfl) ev_int (rv_ixT rfl)) ea_nil)) rfl hR) rfl q2
    | error s => exact at_rzRet (rz_callW (ea_cons (ev_var rfl) (ea_cons (ev_op (x := .tuple [.str "fall", .int p]) (ev_var rfl) ev_int (rv_ixT rfl)) ea_nil)) rfl hR) (at_xq q2)
  | word wd i =>
    obtain ⟨hw, hw1, hw2⟩ := hz
    have q2 : OcW WO K B Q E (ocOf (if wd = "come" ∧ i = 0 then comeE c else if wd = "quiet" ∧ i = 0 then .ok (quietC c) else stepE c wd i)) := q
    have hsh : ∀ {v : Str} {j : Int}, PyData.strOk v = true → Shp 1 (.tuple [.str v, .int j]) := fun {v j} hv => shp_tuple (n := 0) fun x hx => by
      simp only [List.mem_cons, List.not_mem_nil, or_false] at hx
      rcases hx with rfl | rfl
      · exact shp_str hv
      · exact shp_int
    have heq : ∀ {v : Str}, PyData.eqv (.tuple [.str wd, .int i]) (.tuple [.str v, .int 0]) = decide (wd = v ∧ i = 0) := fun {v} => by
      simp only [PyData.eqv, PyData.eqvAll, Bool.and_true]
      by_cases h1 : wd = v
      · subst h1
        by_cases h2 : i = 0
        · subst h2; simp
        · simp [h2]
      · rw [beq_eq_false_iff_ne.mpr h1, decide_eq_false (fun z => h1 z.1)]; rfl
    change At B (sls _ [c.e, .tuple [.str wd, .int i]]) _
    k_updF
    refine at_if (word rfl hw s1) (fun hb => absurd (of_decide_eq_true hb) hw1) (fun _ => ?_)
    k_updF
    refine at_if (word rfl hw s2) (fun hb => absurd (of_decide_eq_true hb) hw2) (fun _ => ?_)
    k_updF
    refine at_if (et_is (et_test (ev_op (x := .tuple [.str wd, .int i]) (ev_var rfl) (ev_tup (ea_cons ev_str (ea_cons ev_int ea_nil)) (by k_ownIn)) (rv_eqD (hsh hw).sh (hsh s3).sh))) heq) (fun hb => ?_) (fun hb => ?_)
    · rw [if_pos (of_decide_eq_true hb)] at q2
      have e : comeO c = ocOf (comeE c) := by
        unfold comeO comeE
        split
        · rfl
        · split <;> rfl
      rw [← e] at q2
      have hR : R_come [c.e] (comeO c) := ⟨c, rfl, hc, hne, rfl⟩
      generalize comeO c = oc at q2 hR
      cases oc with
      | ok x => exact at_rtO (S := []) (em_callW (ea_cons (ev_var rfl) ea_nil) rfl hR) rfl q2
      | error s => exact at_rzRet (rz_callW (ea_cons (ev_var rfl) ea_nil) rfl hR) (at_xq q2)
    rw [if_neg (of_decide_eq_false hb)] at q2
    k_updF
    refine at_if (et_is (et_test (ev_op (x := .tuple [.str wd, .int i]) (ev_var rfl) (ev_tup (ea_cons ev_str (ea_cons ev_int ea_nil)) (by k_ownIn)) (rv_eqD (hsh hw).sh (hsh s4).sh))) heq) (fun hb => ?_) (fun hb => ?_)
    · rw [if_pos (of_decide_eq_true hb)] at q2
      exact at_rtO (S := []) (em_quiet (ev_var rfl) (hg.qb hn)) rfl q2
    rw [if_neg (of_decide_eq_false hb)] at q2
    k_updF
    unfold stepE at q2
    by_cases hx : ∃ p : Nat, i = p ∧ Can c wd p
    · rw [if_pos hx] at q2
      obtain ⟨p, rfl, hcan⟩ := hx
      rw [Int.toNat_natCast] at q2
      exact at_rtO (S := []) (em_done (w := wd) (p := p) (ev_var rfl) (ev_var rfl) hc hcan hg.inv.wf) rfl q2
    · rw [if_neg hx] at q2
      exact at_rzRet (rz_callW (c := "NoStep") (ea_cons (ev_var rfl) (ea_cons (ev_var rfl) ea_nil)) rfl ⟨c, wd, i, rfl, hc, hw, .inr ⟨hx, rfl⟩⟩) (at_xq q2)

theorem ok_tried (T : Tx K mg) : Def P w K mg base CX0 7 "tried" ["chain", "doing"] (spG WO K 2 R_tried) := by
  refine mkG T.f_tried b_tried sc_tried rfl fun f cdv A outer s H E hr => ⟨_, (pss_one (ps_try_many rfl rfl takes0 (fun W pn xe tk po => (pss_one (ps_ret (pe_tup (pa_cons (pe_callDS (ok_one_done T) hr tk (pa_cons (pv 0) (pa_cons (pv 1) pa_nil))) (pa_cons pe_str pa_nil)))))) (.cons ⟨by rfl, by decide, Or.inl T.g_BadDeed⟩ (fun a oe cls d pn hz hf => (pss_one (ps_ret (pe_tup (pa_cons (pv 0) (pa_cons pe_str pa_nil)))))) (.cons ⟨by rfl, by decide, Or.inl T.g_BadTurn⟩ (fun a oe cls d pn hz hf => (pss_one (ps_ret (pe_tup (pa_cons (pv 0) (pa_cons pe_str pa_nil)))))) (.cons ⟨by rfl, by decide, Or.inl T.g_OtherDeed⟩ (fun a oe cls d pn hz hf => (pss_one (ps_ret (pe_tup (pa_cons (pv 0) (pa_cons pe_str pa_nil)))))) (.cons ⟨by rfl, by decide, Or.inl T.g_NoStep⟩ (fun a oe cls d pn hz hf => (pss_one (ps_ret (pe_tup (pa_cons (pv 0) (pa_cons pe_str pa_nil)))))) (.cons ⟨by rfl, by decide, Or.inl T.g_NoKeeper⟩ (fun a oe cls d pn hz hf => (pss_one (ps_ret (pe_tup (pa_cons (pv 0) (pa_cons pe_str pa_nil)))))) (.cons ⟨by rfl, by decide, Or.inl T.g_OnlyKeeper⟩ (fun a oe cls d pn hz hf => (pss_one (ps_ret (pe_tup (pa_cons (pv 0) (pa_cons pe_str pa_nil)))))) (.cons ⟨by rfl, by decide, Or.inl T.g_OneComing⟩ (fun a oe cls d pn hz hf => (pss_one (ps_ret (pe_tup (pa_cons (pv 0) (pa_cons pe_str pa_nil)))))) (.cons ⟨by rfl, by decide, Or.inl T.g_TooMany⟩ (fun a oe cls d pn hz hf => (pss_one (ps_ret (pe_tup (pa_cons (pv 0) (pa_cons pe_str pa_nil)))))) .nil)))))))))), ?_⟩
  rintro ss o B Q hl ⟨c, g, n, rfl, hg, hn, hz, rfl⟩ q
  have q' : RtO B Q (.tuple [(chE c g).e, .str (wdE c g)]) := q
  have hR : R_one [c.e, g.e] (ocOf (nextE c g)) := ⟨c, g, n, rfl, hg, hn, hz, rfl⟩
  have herr : ∀ s, nextE c g = .error s → s ∈ errs := fun s h => nextE_err h
  have hm : ∀ c ∈ XN, ∀ y ∈ XN, PySem.W.exmOne K (.ref (He.ga K c)) (.ref (He.ga K y)) = some (isX c y) := fun c hc y hy => T.cls.em c hc y (by
    have : ∀ y ∈ XN, y ∈ YN := by decide
    exact this y hy)
  k_caught0
  k_updF
  cases e : nextE c g with
  | ok c' =>
    rw [e] at hR
    have q2 : RtO B Q (.tuple [c'.e, .str "done"]) := by
      unfold chE wdE at q'
      rw [e] at q'; exact q'
    exact at_rtO (S := []) (em_tup (ems_cons (S1 := []) (S2 := []) (em_fz (em_callWS (ea_cons (ev_var rfl) (ea_cons (ev_var rfl) ea_nil)) rfl hR)) (ems_cons (S1 := []) (S2 := []) (em_d ev_str rfl) ems_nil (by decide)) (by decide)) (by k_ownIn)) rfl q2
  | error s =>
    rw [e] at hR
    have q2 : RtO B Q (.tuple [c.e, .str s]) := by
      unfold chE wdE at q'
      rw [e] at q'; exact q'
    have hs := herr s e
    refine at_rzRet (rz_tup (rz_fz (rz_callWS (ea_cons (ev_var rfl) (ea_cons (ev_var rfl) ea_nil)) rfl hR))) ?_
    simp only [errs, List.mem_cons, List.not_mem_nil, or_false] at hs
    rcases hs with rfl | rfl | rfl | rfl | rfl | rfl | rfl | rfl
    · refine at_wMany_hit (hm _ (by decide) _ (by decide)) fun a => ?_
      k_updF
      exact at_rtO (S := [0]) (em_tup (ems_cons (S1 := [0]) (S2 := []) (em_var rfl) (ems_cons (S1 := []) (S2 := []) (em_d ev_str rfl) ems_nil (by decide)) (by decide)) (by k_ownIn)) rfl q2
    · refine at_wMany_miss ((show isX "BadTurn" "BadDeed" = false by decide +kernel) ▸ hm _ (by decide) _ (by decide)) (at_wMany_hit (hm _ (by decide) _ (by decide)) fun a => ?_)
      k_updF
      exact at_rtO (S := [0]) (em_tup (ems_cons (S1 := [0]) (S2 := []) (em_var rfl) (ems_cons (S1 := []) (S2 := []) (em_d ev_str rfl) ems_nil (by decide)) (by decide)) (by k_ownIn)) rfl q2
    · refine at_wMany_miss ((show isX "OtherDeed" "BadDeed" = false by decide +kernel) ▸ hm _ (by decide) _ (by decide)) (at_wMany_miss ((show isX "OtherDeed" "BadTurn" = false by decide +kernel) ▸ hm _ (by decide) _ (by decide)) (at_wMany_hit (hm _ (by decide) _ (by decide)) fun a => ?_))
      k_updF
      exact at_rtO (S := [0]) (em_tup (ems_cons (S1 := [0]) (S2 := []) (em_var rfl) (ems_cons (S1 := []) (S2 := []) (em_d ev_str rfl) ems_nil (by decide)) (by decide)) (by k_ownIn)) rfl q2
    · refine at_wMany_miss ((show isX "NoStep" "BadDeed" = false by decide +kernel) ▸ hm _ (by decide) _ (by decide)) (at_wMany_miss ((show isX "NoStep" "BadTurn" = false by decide +kernel) ▸ hm _ (by decide) _ (by decide)) (at_wMany_miss ((show isX "NoStep" "OtherDeed" = false by decide +kernel) ▸ hm _ (by decide) _ (by decide)) (at_wMany_hit (hm _ (by decide) _ (by decide)) fun a => ?_)))
      k_updF
      exact at_rtO (S := [0]) (em_tup (ems_cons (S1 := [0]) (S2 := []) (em_var rfl) (ems_cons (S1 := []) (S2 := []) (em_d ev_str rfl) ems_nil (by decide)) (by decide)) (by k_ownIn)) rfl q2
    · refine at_wMany_miss ((show isX "NoKeeper" "BadDeed" = false by decide +kernel) ▸ hm _ (by decide) _ (by decide)) (at_wMany_miss ((show isX "NoKeeper" "BadTurn" = false by decide +kernel) ▸ hm _ (by decide) _ (by decide)) (at_wMany_miss ((show isX "NoKeeper" "OtherDeed" = false by decide +kernel) ▸ hm _ (by decide) _ (by decide)) (at_wMany_miss ((show isX "NoKeeper" "NoStep" = false by decide +kernel) ▸ hm _ (by decide) _ (by decide)) (at_wMany_hit (hm _ (by decide) _ (by decide)) fun a => ?_))))
      k_updF
      exact at_rtO (S := [0]) (em_tup (ems_cons (S1 := [0]) (S2 := []) (em_var rfl) (ems_cons (S1 := []) (S2 := []) (em_d ev_str rfl) ems_nil (by decide)) (by decide)) (by k_ownIn)) rfl q2
    · refine at_wMany_miss ((show isX "OnlyKeeper" "BadDeed" = false by decide +kernel) ▸ hm _ (by decide) _ (by decide)) (at_wMany_miss ((show isX "OnlyKeeper" "BadTurn" = false by decide +kernel) ▸ hm _ (by decide) _ (by decide)) (at_wMany_miss ((show isX "OnlyKeeper" "OtherDeed" = false by decide +kernel) ▸ hm _ (by decide) _ (by decide)) (at_wMany_miss ((show isX "OnlyKeeper" "NoStep" = false by decide +kernel) ▸ hm _ (by decide) _ (by decide)) (at_wMany_miss ((show isX "OnlyKeeper" "NoKeeper" = false by decide +kernel) ▸ hm _ (by decide) _ (by decide)) (at_wMany_hit (hm _ (by decide) _ (by decide)) fun a => ?_)))))
      k_updF
      exact at_rtO (S := [0]) (em_tup (ems_cons (S1 := [0]) (S2 := []) (em_var rfl) (ems_cons (S1 := []) (S2 := []) (em_d ev_str rfl) ems_nil (by decide)) (by decide)) (by k_ownIn)) rfl q2
    · refine at_wMany_miss ((show isX "OneComing" "BadDeed" = false by decide +kernel) ▸ hm _ (by decide) _ (by decide)) (at_wMany_miss ((show isX "OneComing" "BadTurn" = false by decide +kernel) ▸ hm _ (by decide) _ (by decide)) (at_wMany_miss ((show isX "OneComing" "OtherDeed" = false by decide +kernel) ▸ hm _ (by decide) _ (by decide)) (at_wMany_miss ((show isX "OneComing" "NoStep" = false by decide +kernel) ▸ hm _ (by decide) _ (by decide)) (at_wMany_miss ((show isX "OneComing" "NoKeeper" = false by decide +kernel) ▸ hm _ (by decide) _ (by decide)) (at_wMany_miss ((show isX "OneComing" "OnlyKeeper" = false by decide +kernel) ▸ hm _ (by decide) _ (by decide)) (at_wMany_hit (hm _ (by decide) _ (by decide)) fun a => ?_))))))
      k_updF
      exact at_rtO (S := [0]) (em_tup (ems_cons (S1 := [0]) (S2 := []) (em_var rfl) (ems_cons (S1 := []) (S2 := []) (em_d ev_str rfl) ems_nil (by decide)) (by decide)) (by k_ownIn)) rfl q2
    · refine at_wMany_miss ((show isX "TooMany" "BadDeed" = false by decide +kernel) ▸ hm _ (by decide) _ (by decide)) (at_wMany_miss ((show isX "TooMany" "BadTurn" = false by decide +kernel) ▸ hm _ (by decide) _ (by decide)) (at_wMany_miss ((show isX "TooMany" "OtherDeed" = false by decide +kernel) ▸ hm _ (by decide) _ (by decide)) (at_wMany_miss ((show isX "TooMany" "NoStep" = false by decide +kernel) ▸ hm _ (by decide) _ (by decide)) (at_wMany_miss ((show isX "TooMany" "NoKeeper" = false by decide +kernel) ▸ hm _ (by decide) _ (by decide)) (at_wMany_miss ((show isX "TooMany" "OnlyKeeper" = false by decide +kernel) ▸ hm _ (by decide) _ (by decide)) (at_wMany_miss ((show isX "TooMany" "OneComing" = false by decide +kernel) ▸ hm _ (by decide) _ (by decide)) (at_wMany_hit (hm _ (by decide) _ (by decide)) fun a => ?_)))))))
      k_updF
      exact at_rtO (S := [0]) (em_tup (ems_cons (S1 := [0]) (S2 := []) (em_var rfl) (ems_cons (S1 := []) (S2 := []) (em_d ev_str rfl) ems_nil (by decide)) (by decide)) (by k_ownIn)) rfl q2

theorem ok_run (T : Tx K mg) : Def P w K mg base (L2.CX P w) 8 "run" ["many", "doings"] (spW WO K 2 R_run) := by
  refine mkX T.f_run b_run sc_run rfl fun f cdv A outer s H E hr => ⟨_, (pss_cons (ps_set (i := 2) sc_run.nd rfl (Or.inl rfl) (pe_callDX (ok_begun T) hr (takes_of rfl rfl rfl rfl) (pa_cons (pv 0) pa_nil)))
      (pss_cons (ps_set (i := 3) sc_run.nd rfl (Or.inl rfl) (pe_lst pa_nil))
      (pss_cons (ps_for (passes_of rfl) rfl (pi_listK K (pv 1)) (pg_name (i := 4) sc_run.nd rfl (Or.inl rfl))
      (pss_cons (ps_set (i := 5) sc_run.nd rfl (Or.inl rfl) (pe_callD (ok_tried T) hr (pa_cons (pv 2) (pa_cons (pv 4) pa_nil))))
      (pss_cons (ps_set (i := 2) sc_run.nd rfl (Or.inl rfl) (pe_ix (ix_K K) (pv 5) pe_int (fun _ _ => rfl)))
      (pss_one (ps_expr (pe_bmK K PySem.F.plainAttrs_list PySem.F.slot_list_append PySem.F.type_list_append mt_append (pv 3) (pa_cons (pe_ix (ix_K K) (pv 5) pe_int (fun _ _ => rfl)) pa_nil)))))))
      (pss_one (ps_ret (pe_tup (pa_cons (pv 2) (pa_cons (pv 3) pa_nil)))))))), ?_⟩
  rintro ds o B Q hl ⟨m, gs, rfl, hz, hok, rfl⟩ q
  unfold runO at q
  k_updF
  by_cases hm : m < 1 ∨ 9 < m
  · rw [if_pos hm] at q
    have eb : begunO m = .error "TooMany" := by unfold begunO; rw [if_pos hm]
    exact at_rzSet (rz_callW (ea_cons (ev_var rfl) ea_nil) rfl ⟨m, rfl, eb.symm⟩) (at_xq q)
  · rw [if_neg hm] at q
    have q' : RtO B Q (runT m gs) := q
    have eb : begunO m = .ok (runN m gs 0).e := by unfold begunO; rw [if_neg hm]; rfl
    have hG := fun i => good_runN (m := m) (gs := gs) (by omega) (by omega) hok i
    refine at_setO (i := 2) (d := (runN m gs 0).e) (em_callW (ea_cons (ev_var rfl) ea_nil) rfl ⟨m, rfl, eb.symm⟩) ?_
    k_caught0
    k_updF
    refine at_setNA (i := 3) (ds := []) (evN_lst ea_nil (by k_ownIn)) (by k_intsEnd) ?_
    k_updF
    refine at_forL Dz.e gs (fun n => [.d (.int m), .d (.list (gs.map Dz.e)), .ow (runN m gs n).e, .own ((List.range n).map fun i => .str (wdN m gs i)), .un, .un]) (ei_list (ev_var rfl)) (.same (.same (.same (.same (.un (.un .nil)))))) (fun gb n g N hd hN => ?_) ?_
    · have hlt := (List.getElem?_eq_some_iff.mp hd).1
      have hgn := hG n
      have hgz := hok g (List.mem_of_getElem? hd)
      have e1 : runN m gs (n + 1) = chE (runN m gs n) g := by rw [runN, hd]
      have e2 : wdN m gs n = wdE (runN m gs n) g := by unfold wdN; rw [hd]
      rw [show (List.range (n + 1)).map (fun i => PyData.str (wdN m gs i)) = ((List.range n).map fun i => PyData.str (wdN m gs i)) ++ [.str (wdN m gs n)] by rw [List.range_succ, List.map_append]; rfl, e1, e2] at hN
      generalize runN m gs n = c at hgn hN
      generalize hws : ((List.range n).map fun i => PyData.str (wdN m gs i)) = ws at hN
      have hwl : ws.length = n := by rw [← hws, List.length_map, List.length_range]
      k_updF
      refine at_setQ (i := 5) (d := .tuple [(chE c g).e, .str (wdE c g)]) (evq_callG (es_cons (S1 := [2]) (S2 := []) (e1_m (em_var rfl)) (es_d (ev_var rfl) es_nil) (fun _ _ z => by cases z)) rfl ⟨c, g, n, rfl, hgn, by omega, hgz, rfl⟩) (by k_intsEnd) ?_
      generalize wdE c g = wd at hN
      generalize chE c g = c' at hN
      k_caught0
      k_updF
      refine at_mvX (i := 5) (j := 2) (xs := [.list (c'.ks.map Kp.e), coE c'.co]) (y := .str wd) rfl rfl (by decide) rfl ?_
      k_caught0
      refine at_appendA (i := 3) (d := .str wd) rfl (ev_sn (i := 5) rfl) (by rw [hwl, sizeLine_eq]; omega) (by k_intsEnd) ?_
      exact at_wk hN (.same (.same (.same (.same (.un (.un .nil))))))
    · k_updF
      refine at_rtO (S := [2, 3]) (em_tup (ems_cons (S1 := [2]) (S2 := [3]) (em_var (i := 2) rfl) (ems_cons (S1 := [3]) (S2 := []) (em_own (i := 3) rfl (noLs_map (fun i => rfl) _)) ems_nil (by decide)) (by decide)) (by k_ownIn)) rfl q'

theorem ok__law_cell_at (T : Tx K mg) : Def P w K mg base CX0 1 "_law_cell_at" ["_law_script", "_law_k"] (spP 2 R_cell_at) := by
  refine mkP T.f__law_cell_at b__law_cell_at sc__law_cell_at rfl fun f cdv A outer s H E hr => ⟨_, (pss_cons (ps_if (pt_cmpR op_lt (pv 1) (pe_callB (len_K K) (by rfl) T.z_len (by decide +kernel) (pa_cons (pv 0) pa_nil)) (nomark _))
      (pss_one (ps_ret (pe_ix (ix_K K) (pv 0) (pv 1) (fun _ _ => rfl))))
      pss_nil)
      (pss_one (ps_ret pe_int))), ?_⟩
  rintro ds d B Q hl ⟨ns, k, rfl, h0, rfl⟩ q
  l_intsW
  · intro hb
    have hk : k.toNat < ns.length := by rw [decide_eq_true_eq, List.length_map] at hb; omega
    refine at_rt (ev_op (ev_var rfl) (ev_var rfl) (rv_ixL (atI_map (f := PyData.int) (atI_int h0 (cellAt_get hk))))) rfl q
  · intro hb
    have hk : ¬ k.toNat < ns.length := by rw [decide_eq_false_iff_not, List.length_map] at hb; omega
    kc_close
    rw [cellAt_no hk]

theorem ok__law_mixed (T : Tx K mg) : Def P w K mg base CX0 1 "_law_mixed" ["_law_cell", "_law_k"] (spP 2 R_mixed) := by
  refine mkP T.f__law_mixed b__law_mixed sc__law_mixed rfl fun f cdv A outer s H E hr => ⟨_, (pss_cons (ps_set (i := 2) sc__law_mixed.nd rfl (Or.inl rfl) (pe_op op_mod (pe_op (op_addK K) (pe_op (op_addK K) (pe_op op_mulU (pv 0) pe_int) (pe_op op_mulU (pv 1) pe_int)) pe_int) pe_int))
      (pss_one (ps_ret (pe_op op_mod (pe_op op_mulU (pv 2) (pe_op (op_addK K) (pe_op (op_addK K) (pv 2) (pe_op op_mulU pe_int (pv 1))) pe_int)) pe_int)))), ?_⟩
  rintro ds d B Q hl ⟨c, k, rfl, rfl⟩ q
  l_intsC
  have h1 := mix1_lo c k
  have h2 := mix1_hi c k
  unfold mix1 at h1 h2
  kc_close
  rfl

theorem ok__law_number (T : Tx K mg) : Def P w K mg base CX0 1 "_law_number" ["_law_number_here"] (spP 1 R_number) := by
  refine mkP T.f__law_number b__law_number sc__law_number rfl fun f cdv A outer s H E hr => ⟨_, (pss_cons (ps_set (i := 1) sc__law_number.nd rfl (Or.inl rfl) (pe_op op_mod (pv 0) pe_int))
      (pss_cons (ps_set (i := 2) sc__law_number.nd rfl (Or.inl rfl) (pe_op op_fdiv (pv 0) pe_int))
      (pss_cons (ps_if (pt_cmpR (op_eqK K (hu64 hr)) (pv 1) pe_int (nomark _))
      (pss_cons (ps_set (i := 3) sc__law_number.nd rfl (Or.inl rfl) (pe_ix (ix_K K) (pe_lst (pa_cons (pv 0) (pa_cons (pe_op op_pow (pv 0) pe_int) (pa_cons (pe_op op_pow (pv 0) pe_int) (pa_cons (pe_op op_pow (pv 0) pe_int) pa_nil))))) (pe_op op_mod (pv 2) pe_int) (fun _ _ => rfl)))
      (pss_one (ps_ret (pe_op op_mulU (pv 3) (pe_op op_sub pe_int (pe_op op_mulU pe_int (pe_op op_mod (pe_op op_fdiv (pv 2) pe_int) pe_int)))))))
      pss_nil)
      (pss_cons (ps_if (pt_cmpR (op_eqK K (hu64 hr)) (pv 1) pe_int (nomark _))
      (pss_one (ps_ret (pe_op op_sub (pe_op op_mod (pv 2) pe_int) pe_int)))
      pss_nil)
      (pss_one (ps_ret (pe_op op_sub (pe_op op_mod (pv 2) pe_int) pe_int))))))), ?_⟩
  rintro ds d B Q hl ⟨n, rfl, h0, h1, rfl⟩ q
  l_intsC
  l_intsC
  l_intsW
  · intro hb
    have hw : n % 3 = 0 := by simpa using hb
    have hn2 : CPow n 2 := ⟨by decide, by decide, by omega⟩
    have hn4 : CPow n 4 := ⟨by decide, by decide, by omega⟩
    have hn9 : CPow n 9 := ⟨by decide, by decide, by omega⟩
    k_updF
    refine at_setA (d := .int (greatI n)) (ev_op (ev_lst (ea_cons (ev_var rfl) (ea_cons (ev_op (ev_var rfl) ev_int (rv_pow hn2)) (ea_cons (ev_op (ev_var rfl) ev_int (rv_pow hn4)) (ea_cons (ev_op (ev_var rfl) ev_int (rv_pow hn9)) ea_nil)))) (by k_ownIn)) (ev_op (ev_var rfl) ev_int (rv_modP (by decide))) (rv_ixL (great_at n))) (by k_intsEnd) ?_
    kc_close
    unfold numberI
    rw [if_pos hw]
  · intro hb
    have hw : ¬ n % 3 = 0 := by simpa using hb
    l_intsW
    · intro hb2
      have hw2 : n % 3 = 1 := by simpa using hb2
      kc_close
      unfold numberI
      rw [if_neg hw, if_pos hw2]
    · intro hb2
      have hw2 : ¬ n % 3 = 1 := by simpa using hb2
      kc_close
      unfold numberI
      rw [if_neg hw, if_neg hw2]

theorem ok__law_keys (T : Tx K mg) : Def P w K mg base CX0 1 "_law_keys" ["_law_number_here"] (spP 1 R_keys) := by
  refine mkP T.f__law_keys b__law_keys sc__law_keys rfl fun f cdv A outer s H E hr => ⟨_, (pss_cons (ps_set (i := 1) sc__law_keys.nd rfl (Or.inr rfl) pe_str)
      (pss_cons (ps_set (i := 2) sc__law_keys.nd rfl (Or.inl rfl) (pe_op (op_addK K) pe_int (pe_op op_mod (pv 0) pe_int)))
      (pss_cons (ps_set (i := 3) sc__law_keys.nd rfl (Or.inl rfl) (pe_bmK K PySem.F.plainAttrs_str PySem.F.slot_str_join PySem.F.type_str_join (mt_joinK K) pe_str (pa_cons (pe_lc (own := [("_law_k", 6)]) (g := gName 6) (by rfl) sc__law_keys.nd (pi_range1 (by rfl) T.z_range (pa_cons (pv 2) pa_nil)) (blkOk_by (own := [("_law_k", 6)]) (N := N__law_keys) (sc := defScope s__law_keys) (by decide +kernel)) (fun _ _ _ _ _ => pg_name (i := 6) sc__law_keys.nd rfl (Or.inl rfl)) (fun _ _ _ _ _ => pts_nil) (fun _ _ _ _ _ => (pe_ix (ix_K K) (pv 1) (pe_op op_mod (pe_op (op_addK K) (pe_op op_fdiv (pv 0) (pe_op (op_addK K) (pv 6) pe_int)) (pe_op op_mulU pe_int (pv 6))) pe_int) (fun _ _ => rfl)))) pa_nil)))
      (pss_cons (ps_set (i := 4) sc__law_keys.nd rfl (Or.inl rfl) (pe_op op_mod (pe_op op_fdiv (pv 0) pe_int) (pv 2)))
      (pss_cons (ps_set (i := 5) sc__law_keys.nd rfl (Or.inl rfl) (pe_ix (ix_K K) (pv 1) (pe_op op_mod (pe_op (op_addK K) (pe_op (op_addK K) (pe_bmK K PySem.F.plainAttrs_str PySem.F.slot_str_find PySem.F.type_str_find mt_findK (pv 1) (pa_cons (pe_ix (ix_K K) (pv 3) (pv 4) (fun _ _ => rfl)) pa_nil)) pe_int) (pe_op op_mod (pe_op op_fdiv (pv 0) pe_int) pe_int)) pe_int) (fun _ _ => rfl)))
      (pss_one (ps_ret (pe_lst (pa_cons (pv 3) (pa_cons (pe_op (op_addK K) (pe_op (op_addK K) (pe_slice (sl_K K) (pv 3) po_none (po_some (pv 4))) (pv 5)) (pe_slice (sl_K K) (pv 3) (po_some (pe_op (op_addK K) (pv 4) pe_int)) po_none)) (pa_cons (pe_slice (sl_K K) (pe_op (op_addK K) (pv 3) (pv 5)) po_none (po_some pe_int)) (pa_cons pe_str pa_nil)))))))))))), ?_⟩
  rintro ds d B Q hl ⟨n, rfl, h0, h1, rfl⟩ q
  have hs := size_lo n
  have hp := place_lt n
  have hwl := word_len n
  have hsz : (1 + n % 8) = (sizeOf_ n : Int) := by
    unfold sizeOf_
    have h1 := Int.emod_nonneg n (show (8 : Int) ≠ 0 by decide)
    omega
  have hpl : n / 8 % (sizeOf_ n : Int) = (placeOf n : Int) := by
    unfold placeOf
    have h1 := Int.emod_nonneg (n / 8) (show (sizeOf_ n : Int) ≠ 0 by omega)
    omega
  l_intsC
  k_updF
  refine at_setA (d := .int (sizeOf_ n)) (ev_is (by k_memK) (congrArg PyData.int hsz)) (by k_intsEnd) ?_
  k_updF
  refine at_setA (d := .str (wordS n)) (ev_bm ev_str (ea_cons (ev_is (EvN.ev (evN_lcm (j := 6) (fun k : Nat => .int (0 + k)) (List.range (sizeOf_ n)) (fun k => .str (ch1 (ltrOf n k))) rfl (ei_rng1 (n := (sizeOf_ n : Int)) (ev_var rfl) (by omega) (by omega)) (by rw [List.length_range]; exact sz_dec (by omega)) fun x hx => ?_)) (d' := .list (((wordL n).map ch1).map .str)) ?_) ea_nil) (rm_joinK K ?_)) (by k_intsEnd) ?_
  · have hx' := List.mem_range.mp hx
    have e1 := Int.emod_nonneg (n / (x + 1) + 3 * x) (show (26 : Int) ≠ 0 by decide)
    have e2 := Int.emod_lt_of_pos (n / (x + 1) + 3 * x) (show (0 : Int) < 26 by decide)
    refine ev_op (ev_var rfl) (ev_is (d := .int ((n / (0 + (x : Int) + 1) + 3 * (0 + (x : Int))) % 26)) (ev_op (ev_op (ev_op (ev_var rfl) (ev_op (ev_var rfl) ev_int rv_addI) (rv_fdivP ⟨by omega, by omega⟩)) (ev_op ev_int (ev_var rfl) (rv_mulI (by tlg_ne))) rv_addI) ev_int (rv_modP (by decide))) (d' := .int ((n / (x + 1) + 3 * x) % 26)) ?_) (rv_ixS (sz_dec (by decide +kernel)) (ltr_at e1 e2))
    rw [Int.zero_add]
  · rw [wordL, List.map_map, List.map_map]
    rfl
  · rw [List.map_map, List.length_map, wordL_len]
    have : ((wordL n).map (Str.length ∘ ch1)).sum = sizeOf_ n := by
      rw [show (Str.length ∘ ch1) = fun _ => 1 from rfl, List.map_const', List.sum_replicate_nat, wordL_len]; omega
    rw [this]
    show sizeOf_ n + sizeOf_ n * 0 ≤ _
    omega
  k_updF
  refine at_setA (d := .int (placeOf n)) (ev_is (ev_op (ev_op (ev_var rfl) ev_int (rv_fdivP ⟨by decide, by decide⟩)) (ev_var rfl) (rv_modP (by omega))) (congrArg PyData.int hpl)) (by k_intsEnd) ?_
  have hg : (wordL n)[placeOf n]? = some ((wordL n).getD (placeOf n) 97) := by
    rw [List.getD_eq_getElem?_getD, List.getElem?_eq_getElem (by rw [wordL_len]; exact hp)]; rfl
  have hc := wordL_low n _ (List.mem_of_getElem? hg)
  have hat : atI (wordS n).cps.toList (placeOf n : Int) = some ((wordL n).getD (placeOf n) 97) := by
    rw [show (wordS n).cps.toList = wordL n from cps_word n]
    exact atI_of hg
  have hf : Txt.find LETTERS ⟨#[(wordL n).getD (placeOf n) 97]⟩ = ((wordL n).getD (placeOf n) 97 : Int) - 97 := find_ltr _ (by rw [List.mem_range'_1]; exact hc)
  have g1 := Int.emod_nonneg (((wordL n).getD (placeOf n) 97 : Int) - 97 + 1 + n / 64 % 25) (show (26 : Int) ≠ 0 by decide)
  have g2 := Int.emod_lt_of_pos (((wordL n).getD (placeOf n) 97 : Int) - 97 + 1 + n / 64 % 25) (show (0 : Int) < 26 by decide)
  k_updF
  refine at_setA (d := .str (ch1 (otherOf n))) (ev_op (ev_var rfl) (ev_op (ev_op (ev_op (ev_is (ev_bm (ev_var rfl) (ea_cons (ev_op (ev_var rfl) (ev_var rfl) (rv_ixS (sz_dec (by omega)) hat)) ea_nil) rm_findK) (congrArg PyData.int hf)) ev_int rv_addI) (ev_op (ev_op (ev_var rfl) ev_int (rv_fdivP ⟨by decide, by decide⟩)) ev_int (rv_modP (by decide))) rv_addI) ev_int (rv_modP (by decide))) (rv_ixS (sz_dec (by decide +kernel)) (ltr_at g1 g2))) (by k_intsEnd) ?_
  have hz1 : (cutS (wordS n) none (some (placeOf n : Int))).length ≤ 8 := by
    rw [cps_len, cps_cut, cps_word, cutG_take (by omega) (by rw [wordL_len]; omega), List.length_take, wordL_len]; omega
  have hz2 : (cutS (wordS n) (some ((placeOf n : Int) + 1)) none).length ≤ 8 := by
    rw [cps_len, cps_cut, cps_word, cutG_drop (by omega) (by rw [wordL_len]; omega), List.length_drop, wordL_len]; omega
  have ho : (ch1 (otherOf n)).length = 1 := rfl
  k_updF
  refine at_rt (ev_lst (ea_cons (ev_var rfl) (ea_cons (ev_op (ev_op (ev_sl (ev_var rfl) eo_none (eo_some (ev_var rfl)) (rs_S (sz_dec (by omega)))) (ev_var rfl) (rv_addS (sz_dec (by omega)))) (ev_sl (ev_var rfl) (eo_some (ev_op (ev_var rfl) ev_int rv_addI)) eo_none (rs_S (sz_dec (by omega)))) (rv_addS (sz_dec (by rw [PySem.Str.length_append]; omega)))) (ea_cons (ev_sl (ev_op (ev_var rfl) (ev_var rfl) (rv_addS (sz_dec (by omega)))) eo_none (eo_some ev_int) (rs_S (sz_dec (by rw [PySem.Str.length_append]; omega)))) (ea_cons ev_str ea_nil)))) (by k_ownIn)) rfl q

theorem ok__law_deed (T : Tx K mg) : Def P w K mg base CX0 2 "_law_deed" ["_law_number_here", "_law_keys_here", "_law_turns"] (spI 0 R_deed) := by
  refine mkI T.f__law_deed b__law_deed sc__law_deed rfl fun f cdv A outer s H E hr => ⟨_, (pss_cons (ps_set (i := 3) sc__law_deed.nd rfl (Or.inl rfl) (pe_op op_mod (pv 0) pe_int))
      (pss_cons (ps_if (pt_cmpR (op_eqK K (hu64 hr)) (pe_op op_mod (pe_op op_fdiv (pv 0) pe_int) pe_int) pe_int (nomark _))
      (pss_one (ps_set (i := 3) sc__law_deed.nd rfl (Or.inl rfl) (pe_op op_mod (pe_op op_fdiv (pv 0) pe_int) pe_int)))
      pss_nil)
      (pss_cons (ps_asg (pe_op (op_addK K) (pe_ix (ix_K K) (pv 2) (pv 3) (fun _ _ => rfl)) pe_int) (pg_sub (pv 2) (pv 3) set_list))
      (pss_cons (ps_set (i := 4) sc__law_deed.nd rfl (Or.inl rfl) (pe_ix (ix_K K) (pe_lst (pa_cons pe_str (pa_cons pe_str (pa_cons pe_str (pa_cons pe_str pa_nil))))) (pe_op op_mod (pe_op op_fdiv (pv 0) pe_int) pe_int) (fun _ _ => rfl)))
      (pss_cons (ps_set (i := 5) sc__law_deed.nd rfl (Or.inl rfl) (pe_callD (ok__law_number T) hr (pa_cons (pe_op op_fdiv (pv 0) pe_int) pa_nil)))
      (pss_cons (ps_if (pt_cmpR (op_eqK K (hu64 hr)) (pv 4) pe_str (nomark _))
      (pss_one (ps_set (i := 5) sc__law_deed.nd rfl (Or.inl rfl) pe_int))
      pss_nil)
      (pss_one (ps_ret (pe_tup (pa_cons (pv 3) (pa_cons (pe_ix (ix_K K) (pv 2) (pv 3) (fun _ _ => rfl)) (pa_cons (pv 4) (pa_cons (pe_ix (ix_K K) (pv 1) (pe_op op_mod (pe_op op_fdiv (pv 0) pe_int) pe_int) (fun _ _ => rfl)) (pa_cons (pv 5) pa_nil)))))))))))))), ?_⟩
  rintro ds es ts ts' d a B Q hl1 hl2 ⟨n, keys, tn, hds, hn0, hn1, hk, ht, rfl, rfl, rfl⟩ q
  have hes : es = [] := List.length_eq_zero_iff.mp hl2
  subst hes
  rw [List.append_nil] at hds
  subst hds
  have a0 := asker_lo n
  have a9 := asker_hi n
  have hmt : (tn.map PyData.int).length = 10 := by rw [List.length_map, ht]
  k_caught0
  l_intsC
  k_updF
  refine at_ifSet (i := 3) (b := decide (n / 3 % 5 = 1)) (d0 := .int (n % 3)) (d1 := .int (n / 15 % 10)) (et_test (by k_memK)) (fun _ => by k_memK) rfl (by k_intsEnd) ?_
  have ea : (if decide (n / 3 % 5 = 1) then PyData.int (n / 15 % 10) else PyData.int (n % 3)) = .int (askerI n) := by
    unfold askerI
    by_cases h : n / 3 % 5 = 1
    · rw [if_pos h, decide_eq_true h]; rfl
    · rw [if_neg h, decide_eq_false h]; rfl
  rw [ea]
  have hat : ∀ {tm : List Int} {x : Int}, tm[(askerI n).toNat]? = some x → atI (tm.map PyData.int) (askerI n) = some (.int x) := fun h => atI_map (f := PyData.int) (atI_int a0 h)
  k_updF
  refine at_setitemOa (i := 2) (d := .int (turnAt tn n)) (n := askerI n) (j := (askerI n).toNat) rfl (ev_fz (ev_op (ev_op (ev_var rfl) (ev_var rfl) (rv_ixL (hat (turn_get ht n)))) ev_int rv_addI) rfl) (ev_var rfl) (ixN_int a0 (by rw [hmt]; omega)) (by k_intsEnd) ?_
  rw [show (tn.map PyData.int).set (askerI n).toNat (.int (turnAt tn n)) = (bumpI tn n).map .int by unfold bumpI; rw [List.map_set]]
  k_updF
  refine at_setA (i := 4) (d := .str (wordOf n)) (ev_op (ev_lst (ea_cons ev_str (ea_cons ev_str (ea_cons ev_str (ea_cons ev_str ea_nil)))) (by k_ownIn)) (by k_memK) (rv_ixL (word_at n))) (by k_intsEnd) ?_
  k_updF
  refine at_setA (i := 5) (d := .int (numberI (n / 600))) (ev_number (by k_memK) (by omega) (by omega)) (by k_intsEnd) ?_
  k_updF
  refine at_ifSet (i := 5) (b := decide (wordOf n = wAway)) (d0 := .int (numberI (n / 600))) (d1 := .int 0) (et_test (ev_op (ev_var rfl) ev_str (rv_eqS (strOk_wordOf n) (by decide +kernel)))) (fun _ => ev_int) rfl (by k_intsEnd) ?_
  have ev : (if decide (wordOf n = wAway) then PyData.int 0 else PyData.int (numberI (n / 600))) = .int (valueI n) := by
    unfold valueI
    by_cases h : wordOf n = wAway
    · rw [if_pos h, decide_eq_true h]; rfl
    · rw [if_neg h, decide_eq_false h]; rfl
  rw [ev]
  refine at_rtI (i := 2) (a := a) (ev_fzL (d := (deedI n keys tn).e) (ev_tup (ea_cons (ev_var rfl) (ea_cons (ev_op (ev_var rfl) (ev_var rfl) (rv_ixL (hat (bump_get ht n)))) (ea_cons (ev_var rfl) (ea_cons (ev_op (ev_var rfl) (by k_memK) (rv_ixL (keyAt_at hk n))) (ea_cons (ev_var rfl) ea_nil))))) (by k_ownIn)) noL_dd) rfl rfl q

theorem ok__law_doing (T : Tx K mg) : Def P w K mg base CX0 3 "_law_doing" ["_law_cell", "_law_k", "_law_turns", "_law_keys_here"] (spI 1 R_dz) := by
  refine mkI T.f__law_doing b__law_doing sc__law_doing rfl fun f cdv A outer s H E hr => ⟨_, (pss_cons (ps_set (i := 4) sc__law_doing.nd rfl (Or.inl rfl) (pe_callD (ok__law_mixed T) hr (pa_cons (pv 0) (pa_cons (pv 1) pa_nil))))
      (pss_cons (ps_set (i := 5) sc__law_doing.nd rfl (Or.inl rfl) (pe_op op_mod (pv 4) pe_int))
      (pss_cons (ps_set (i := 6) sc__law_doing.nd rfl (Or.inl rfl) (pe_op op_fdiv (pv 4) pe_int))
      (pss_cons (ps_if (pt_cmpR op_lt (pv 5) pe_int (nomark _))
      (pss_one (ps_ret (pe_tup (pa_cons pe_str (pa_cons (pe_callD (ok__law_deed T) hr (pa_cons (pv 6) (pa_cons (pv 3) (pa_cons (pv 2) pa_nil)))) pa_nil)))))
      pss_nil)
      (pss_cons (ps_if (pt_cmpR (op_eqK K (hu64 hr)) (pv 5) pe_int (nomark _))
      (pss_cons (ps_set (i := 7) sc__law_doing.nd rfl (Or.inl rfl) (pe_callD (ok__law_deed T) hr (pa_cons (pv 6) (pa_cons (pv 3) (pa_cons (pe_callTy (list_K K) (by rfl) T.z_list (by decide +kernel) (pa_cons (pv 2) pa_nil)) pa_nil)))))
      (pss_cons (ps_set (i := 8) sc__law_doing.nd rfl (Or.inl rfl) (pe_ix (ix_K K) (pe_lst (pa_cons (pe_op op_sub (pe_ix (ix_K K) (pv 7) pe_int (fun _ _ => rfl)) pe_int) (pa_cons (pe_op (op_addK K) (pe_ix (ix_K K) (pv 7) pe_int (fun _ _ => rfl)) pe_int) (pa_cons pe_int (pa_cons pe_int pa_nil))))) (pe_op op_mod (pv 6) pe_int) (fun _ _ => rfl)))
      (pss_one (ps_ret (pe_tup (pa_cons pe_str (pa_cons (pe_ix (ix_K K) (pe_lst (pa_cons (pe_op (op_addK K) (pe_tup (pa_cons (pe_ix (ix_K K) (pv 7) pe_int (fun _ _ => rfl)) (pa_cons (pv 8) pa_nil))) (pe_slice (sl_K K) (pv 7) (po_some pe_int) po_none)) (pa_cons (pe_slice (sl_K K) (pv 7) po_none (po_some pe_int)) (pa_cons (pv 6) (pa_cons (pe_op (op_addK K) (pe_tup (pa_cons (pe_ix (ix_K K) (pv 7) pe_int (fun _ _ => rfl)) (pa_cons (pv 8) pa_nil))) (pe_slice (sl_K K) (pv 7) (po_some pe_int) po_none)) pa_nil))))) (pe_op op_mod (pe_op op_fdiv (pv 6) pe_int) pe_int) (fun _ _ => rfl)) pa_nil)))))))
      pss_nil)
      (pss_cons (ps_if (pt_cmpR op_lt (pv 5) pe_int (nomark _))
      (pss_one (ps_ret (pe_tup (pa_cons (pe_ix (ix_K K) (pe_lst (pa_cons pe_str (pa_cons pe_str (pa_cons pe_str pa_nil)))) (pe_op op_sub (pv 5) pe_int) (fun _ _ => rfl)) (pa_cons (pe_op op_mod (pv 6) pe_int) pa_nil)))))
      pss_nil)
      (pss_cons (ps_if (pt_cmpR (op_eqK K (hu64 hr)) (pv 5) pe_int (nomark _))
      (pss_one (ps_ret (pe_tup (pa_cons pe_str (pa_cons (pe_op op_sub (pe_op op_mod (pv 6) pe_int) (pe_callTy call_int1V (by rfl) T.z_int (by decide +kernel) (pa_cons (pe_cmpR (op_eqK K (hu64 hr)) (pe_op op_mod (pv 6) pe_int) pe_int (nomark _)) pa_nil))) pa_nil)))))
      pss_nil)
      (pss_cons (ps_if (pt_cmpR (op_eqK K (hu64 hr)) (pv 5) pe_int (nomark _))
      (pss_one (ps_ret (pe_tup (pa_cons pe_str (pa_cons pe_int pa_nil)))))
      pss_nil)
      (pss_cons (ps_if (PW.pt (pw_and (pt_cmpR (op_eqK K (hu64 hr)) (pv 5) pe_int (nomark _)) (pw_and1 (pt_cmpR op_gt (pe_op op_mod (pv 6) pe_int) pe_int (nomark _)))))
      (pss_one (ps_ret (pe_tup (pa_cons pe_str (pa_cons (pe_op op_mod (pv 6) pe_int) pa_nil)))))
      pss_nil)
      (pss_cons (ps_set (i := 9) sc__law_doing.nd rfl (Or.inl rfl) (pe_lst (pa_cons (pe_tup (pa_cons pe_str (pa_cons pe_int pa_nil))) (pa_cons (pe_tup (pa_cons pe_str (pa_cons pe_int pa_nil))) (pa_cons (pe_tup (pa_cons pe_str (pa_cons pe_int pa_nil))) (pa_cons (pe_tup (pa_cons pe_str (pa_cons pe_int pa_nil))) (pa_cons (pe_tup (pa_cons pe_str (pa_cons (pe_op op_mod (pv 6) pe_int) pa_nil))) (pa_cons (pe_tup (pa_cons pe_str (pa_cons pe_int pa_nil))) (pa_cons (pe_tup (pa_cons pe_str (pa_cons pe_int pa_nil))) pa_nil)))))))))
      (pss_cons (ps_set (i := 9) sc__law_doing.nd rfl (Or.inl rfl) (pe_op (op_addK K) (pv 9) (pe_lst (pa_cons (pe_tup (pa_cons pe_str (pa_cons pe_int pa_nil))) (pa_cons (pe_tup (pa_cons pe_str (pa_cons pe_int pa_nil))) (pa_cons (pe_tup (pa_cons pe_str (pa_cons pe_int pa_nil))) (pa_cons (pe_tup (pa_cons pe_str (pa_cons pe_int pa_nil))) (pa_cons (pe_tup (pa_cons pe_str (pa_cons (pe_op op_mod (pv 6) pe_int) pa_nil))) (pa_cons (pe_tup (pa_cons pe_str (pa_cons pe_int pa_nil))) pa_nil)))))))))
      (pss_cons (ps_set (i := 9) sc__law_doing.nd rfl (Or.inl rfl) (pe_op (op_addK K) (pv 9) (pe_lst (pa_cons (pe_tup (pa_cons pe_str (pa_cons (pe_op op_mod (pv 6) pe_int) pa_nil))) (pa_cons (pe_tup (pa_cons pe_str (pa_cons pe_int pa_nil))) pa_nil)))))
      (pss_one (ps_ret (pe_ix (ix_K K) (pv 9) (pe_op op_mod (pe_op op_fdiv (pv 6) pe_int) pe_int) (fun _ _ => rfl)))))))))))))))), ?_⟩
  rintro ds es ts ts' d a B Q hl1 hl2 ⟨x, k, keys, tn, hds, h4, htl, hkk, htn, rfl, rfl, rfl⟩ q
  obtain ⟨d1, d2, rfl⟩ : ∃ d1 d2, ds = [d1, d2] := by
    rcases ds with _ | ⟨d1, _ | ⟨d2, _ | ⟨d3, ds⟩⟩⟩
    · cases hl1
    · cases hl1
    · exact ⟨d1, d2, rfl⟩
    · simp at hl1
  obtain ⟨e1, rfl⟩ := List.length_eq_one_iff.mp hl2
  cases hds
  have hn0 := mixed_lo x k
  have hn1 := mixed_hi x k
  k_caught0
  k_updF
  refine at_setA (i := 4) (d := .int (mixed x k)) (ev_mixed (ev_var rfl) (ev_var rfl)) (by k_intsEnd) ?_
  generalize mixed x k = n at hn0 hn1 q ⊢
  k_updF
  refine at_setA (i := 5) (d := .int (n % 12)) (by k_memK) (by k_intsEnd) ?_
  k_updF
  refine at_setA (i := 6) (d := .int (n / 12)) (by k_memK) (by k_intsEnd) ?_
  have w0 := Int.emod_nonneg n (show (12 : Int) ≠ 0 by decide)
  have w1 := Int.emod_lt_of_pos n (show (0 : Int) < 12 by decide)
  have hm0 : 0 ≤ n / 12 := by omega
  have hm1 : n / 12 < 1000000 := by omega
  unfold dozT dozG at q
  k_updF
  refine at_if (b := decide (n % 12 < 4)) (et_test (by k_memK)) (fun hb => ?_) (fun hb => ?_)
  · have h1 : n % 12 < 4 := of_decide_eq_true hb
    rw [if_pos h1, if_pos h1] at q
    exact at_rtIP (i := 2) (evp_tup2 ev_str (evp_callIa (i := 2) (ts' := (bumpI tn (n / 12)).map .int) rfl (ev_var rfl) (ev_var rfl) ea_nil rfl ⟨n / 12, keys, tn, rfl, hm0, hm1, h4, htl, rfl, rfl, rfl⟩)) rfl rfl q
  have h1 : ¬ n % 12 < 4 := of_decide_eq_false hb
  rw [if_neg h1, if_neg h1] at q
  k_updF
  refine at_if (b := decide (n % 12 = 4)) (et_test (by k_memK)) (fun hb => ?_) (fun hb => ?_)
  · rw [if_pos (of_decide_eq_true hb)] at q
    k_updF
    refine at_setA (i := 7) (d := (deedI (n / 12) keys tn).e) (ev_callIn (ts := tn.map .int) (ts' := (bumpI tn (n / 12)).map .int) (ev_var rfl) (ev_var rfl) (evN_fz (evN_cb (ea_cons (ev_var rfl) ea_nil) rcN_listL) (noLs_map (f := PyData.int) (fun _ => rfl) _)) rfl ⟨n / 12, keys, tn, rfl, hm0, hm1, h4, htl, rfl, rfl, rfl⟩) (by k_intsEnd) ?_
    generalize deedI (n / 12) keys tn = dd at q
    generalize n / 12 = more at q hm0 hm1
    obtain ⟨y, hy, ey⟩ := wrong_at dd more
    have m0 := Int.emod_nonneg more (show (4 : Int) ≠ 0 by decide)
    have part : ∀ {Γ : List Sl} {j : Int} {z : PyData}, Γ[7]? = some (.d (.tuple [.int dd.a, .int dd.t, .str dd.w, .str dd.k, .int dd.v])) → atI [PyData.int dd.a, .int dd.t, .str dd.w, .str dd.k, .int dd.v] j = some z → Ev (tOp (rIx K) (tVar 7) (tC (.int j))) Γ z := fun e h => ev_op (x := .tuple [.int dd.a, .int dd.t, .str dd.w, .str dd.k, .int dd.v]) (ev_var e) ev_int (rv_ixT h)
    k_updF
    refine at_setA (i := 8) (d := .int (backs dd more)) (ev_op (ev_lst (ea_cons (ev_op (x := .int dd.t) (part rfl rfl) ev_int rv_sub) (ea_cons (ev_op (x := .int dd.t) (part rfl rfl) ev_int rv_addI) (ea_cons ev_int (ea_cons ev_int ea_nil)))) (by k_ownIn)) (by k_memK) (rv_ixL (backs_at dd more))) (by k_intsEnd) ?_
    have tl2 : ∀ {Γ : List Sl}, Γ[7]? = some (.d (.tuple [.int dd.a, .int dd.t, .str dd.w, .str dd.k, .int dd.v])) → Γ[8]? = some (.d (.int (backs dd more))) → Ev (tOp (rAddU K) (tTup (tCons (tOp (rIx K) (tVar 7) (tC (.int 0))) (tCons (tVar 8) tNil))) (tSl (rSlU K) (tVar 7) (tPart (tC (.int 2))) tNoPart)) Γ (.tuple [.int dd.a, .int (backs dd more), .str dd.w, .str dd.k, .int dd.v]) := fun e e8 =>
      ev_is (ev_op (x := .tuple [.int dd.a, .int (backs dd more)]) (ev_tup (ea_cons (part e rfl) (ea_cons (ev_var e8) ea_nil)) (by k_ownIn)) (ev_is (ev_sl (x := .tuple [.int dd.a, .int dd.t, .str dd.w, .str dd.k, .int dd.v]) (ev_var e) (eo_some ev_int) eo_none rs_T) (show PyData.tuple (cutG _ (some (2 : Nat)) none) = .tuple [.str dd.w, .str dd.k, .int dd.v] by rw [cutG_from]; rfl)) (rv_addT (by show 2 + 3 ≤ sizeLine; decide))) rfl
    k_updF
    exact at_rtI (i := 2) (ev_is (ev_tup (ea_cons ev_str (ea_cons (ev_op (ev_lst (ea_cons (tl2 rfl rfl) (ea_cons (ev_is (ev_sl (x := .tuple [.int dd.a, .int dd.t, .str dd.w, .str dd.k, .int dd.v]) (ev_var rfl) eo_none (eo_some ev_int) rs_T) (show PyData.tuple (cutG _ none (some (4 : Nat))) = fourT dd by rw [cutG_to]; rfl)) (ea_cons (ev_var rfl) (ea_cons (tl2 rfl rfl) ea_nil)))) (by k_ownIn)) (by k_memK) (rv_ixL hy)) ea_nil)) (by k_ownIn)) ey.symm) rfl rfl q
  rw [if_neg (of_decide_eq_false hb)] at q
  have h2 : ¬ n % 12 = 4 := of_decide_eq_false hb
  k_updF
  refine at_if (b := decide (n % 12 < 8)) (et_test (by k_memK)) (fun hb => ?_) (fun hb => ?_)
  · have h3 : n % 12 < 8 := of_decide_eq_true hb
    rw [if_pos h3] at q
    have hat : atI (([("pass" : Str), "back", "learn"] : List Str).map PyData.str) (n % 12 - 5) = some (.str (([("pass" : Str), "back", "learn"] : List Str).getD (n % 12 - 5).toNat "")) := by
      refine atI_map (f := PyData.str) (atI_int (by omega) ?_)
      rw [List.getD_eq_getElem?_getD, List.getElem?_eq_getElem (by show _ < 3; omega)]; rfl
    exact at_rtI (i := 2) (ev_tup (ea_cons (ev_op (ev_lst (ea_cons ev_str (ea_cons ev_str (ea_cons ev_str ea_nil))) (by k_ownIn)) (by k_memK) (rv_ixL hat)) (ea_cons (by k_memK) ea_nil)) (by k_ownIn)) rfl rfl q
  rw [if_neg (of_decide_eq_false hb)] at q
  k_updF
  refine at_if (b := decide (n % 12 = 8)) (et_test (by k_memK)) (fun hb => ?_) (fun hb => ?_)
  · rw [if_pos (of_decide_eq_true hb)] at q
    refine at_rtI (i := 2) (ev_tup (ea_cons ev_str (ea_cons (ev_op (x := .int (n / 12 % 10)) (by k_memK) (ev_cb (ea_cons (ev_op (x := .int (n / 12 % 40)) (by k_memK) ev_int rv_eqI) ea_nil) rc_intB) rv_sub) ea_nil)) (by k_ownIn)) rfl ?_ q
    show PyData.tuple [.str "fall", .int (n / 12 % 10 - (if decide (n / 12 % 40 = 20) = true then 1 else 0))] = .tuple [.str "fall", .int (n / 12 % 10 - (if n / 12 % 40 = 20 then 1 else 0))]
    by_cases hz : n / 12 % 40 = 20
    · rw [if_pos hz, decide_eq_true hz]; rfl
    · rw [if_neg hz, decide_eq_false hz]; rfl
  rw [if_neg (of_decide_eq_false hb)] at q
  k_updF
  refine at_if (b := decide (n % 12 = 9)) (et_test (by k_memK)) (fun hb => ?_) (fun hb => ?_)
  · rw [if_pos (of_decide_eq_true hb)] at q
    exact at_rtI (i := 2) (ev_tup (ea_cons ev_str (ea_cons ev_int ea_nil)) (by k_ownIn)) rfl rfl q
  rw [if_neg (of_decide_eq_false hb)] at q
  k_updF
  refine at_if (b := decide (n % 12 = 10) && decide (0 < n / 12 % 5)) (et_and (et_test (by k_memK)) fun _ => et_test (by k_memK)) (fun hb => ?_) (fun hb => ?_)
  · rw [Bool.and_eq_true] at hb
    rw [if_pos ⟨of_decide_eq_true hb.1, of_decide_eq_true hb.2⟩] at q
    exact at_rtI (i := 2) (ev_tup (ea_cons ev_str (ea_cons (by k_memK) ea_nil)) (by k_ownIn)) rfl rfl q
  have h5 : ¬ (n % 12 = 10 ∧ 0 < n / 12 % 5) := fun z => by
    rw [decide_eq_true z.1, decide_eq_true z.2] at hb; cases hb
  rw [if_neg h5] at q
  have v0 := Int.emod_nonneg (n / 12 / 5) (show (15 : Int) ≠ 0 by decide)
  have v1 := Int.emod_lt_of_pos (n / 12 / 5) (show (0 : Int) < 15 by decide)
  have hsat : atI ((someG (n / 12)).map Dz.e) (n / 12 / 5 % 15) = some ((someG (n / 12)).getD (n / 12 / 5 % 15).toNat (.fall 0)).e := by
    refine atI_map (f := Dz.e) (atI_int v0 ?_)
    rw [List.getD_eq_getElem?_getD, List.getElem?_eq_getElem (by show _ < 15; omega)]; rfl
  have pair : ∀ {Γ : List Sl} {z : Str} {i : Int} {t : TE}, Ev t Γ (.int i) → Ev (tTup (tCons (tC (.str z)) (tCons t tNil))) Γ (.tuple [.str z, .int i]) := fun h => ev_tup (ea_cons ev_str (ea_cons h ea_nil)) (by show 2 ≤ sizeLine; decide)
  k_updF
  refine at_setA (i := 9) (d := .list (((someG (n / 12)).take 7).map Dz.e)) (ev_is (ev_lst (ea_cons (pair ev_int) (ea_cons (pair ev_int) (ea_cons (pair ev_int) (ea_cons (pair ev_int) (ea_cons (pair (i := n / 12 % 5) (by k_memK)) (ea_cons (pair ev_int) (ea_cons (pair ev_int) ea_nil))))))) (by k_ownIn)) rfl) (by k_intsEnd) ?_
  k_updF
  refine at_setA (i := 9) (d := .list (((someG (n / 12)).take 13).map Dz.e)) (ev_is (ev_op (x := .list (((someG (n / 12)).take 7).map Dz.e)) (ev_var rfl) (ev_lst (ea_cons (pair ev_int) (ea_cons (pair ev_int) (ea_cons (pair ev_int) (ea_cons (pair ev_int) (ea_cons (pair (i := n / 12 % 3) (by k_memK)) (ea_cons (pair ev_int) ea_nil)))))) (by k_ownIn)) (RvN.d (rvN_addL (by show 7 + 6 ≤ sizeLine; decide)))) rfl) (by k_intsEnd) ?_
  k_updF
  refine at_setA (i := 9) (d := .list ((someG (n / 12)).map Dz.e)) (ev_is (ev_op (x := .list (((someG (n / 12)).take 13).map Dz.e)) (ev_var rfl) (ev_lst (ea_cons (pair (i := n / 12 % 4) (by k_memK)) (ea_cons (pair ev_int) ea_nil)) (by k_ownIn)) (RvN.d (rvN_addL (by show 13 + 2 ≤ sizeLine; decide)))) rfl) (by k_intsEnd) ?_
  k_updF
  exact at_rtI (i := 2) (ev_op (x := .list ((someG (n / 12)).map Dz.e)) (ev_var rfl) (by k_memK) (rv_ixL hsat)) rfl rfl q

theorem ok__law_did (T : Tx K mg) : Def P w K mg base (L2.CX P w) 6 "_law_did" ["_law_chain", "_law_doing_here"] (spW WO K 2 R_one) := by
  refine mkX T.f__law_did b__law_did sc__law_did rfl fun f cdv A outer s H E hr => ⟨_, (pss_cons (ps_if (pt_cmpR (op_eqK K (hu64 hr)) (pe_ix (ix_K K) (pv 1) pe_int (fun _ _ => rfl)) pe_str (nomark _))
      (pss_one (ps_ret (pe_callDX (ok_take T) hr (takes_of rfl rfl rfl rfl) (pa_cons (pv 0) (pa_cons (pe_ix (ix_K K) (pv 1) pe_int (fun _ _ => rfl)) pa_nil)))))
      pss_nil)
      (pss_cons (ps_if (pt_cmpR (op_eqK K (hu64 hr)) (pe_ix (ix_K K) (pv 1) pe_int (fun _ _ => rfl)) pe_str (nomark _))
      (pss_one (ps_ret (pe_callDX (ok_fall T) hr (takes_of rfl rfl rfl rfl) (pa_cons (pv 0) (pa_cons (pe_ix (ix_K K) (pv 1) pe_int (fun _ _ => rfl)) pa_nil)))))
      pss_nil)
      (pss_cons (ps_if (pt_cmpR (op_eqK K (hu64 hr)) (pv 1) (pe_tup (pa_cons pe_str (pa_cons pe_int pa_nil))) (nomark _))
      (pss_one (ps_ret (pe_callDX (ok_come T) hr (takes_of rfl rfl rfl rfl) (pa_cons (pv 0) pa_nil))))
      pss_nil)
      (pss_cons (ps_if (pt_cmpR (op_eqK K (hu64 hr)) (pv 1) (pe_tup (pa_cons pe_str (pa_cons pe_int pa_nil))) (nomark _))
      (pss_one (ps_ret (pe_callD (ok_quiet T) hr (pa_cons (pv 0) pa_nil))))
      pss_nil)
      (pss_one (ps_ret (pe_callDX (ok_done T) hr (takes_of rfl rfl rfl rfl) (pa_cons (pv 0) (pa_cons (pv 1) pa_nil))))))))), ?_⟩
  rintro ds o B Q hl ⟨c, g, n, rfl, hg, hn, hz, rfl⟩ q
  have hc := hg.cok hn
  have hne := hg.inv.ne
  have word : ∀ {wd : Str} {x : PyData} {t : Str} {Γ : List Sl}, Γ[1]? = some (.d (.tuple [.str wd, x])) → PyData.strOk wd = true → PyData.strOk t = true → EvT (tTest (tOp (rEqD K) (tOp (rIx K) (tVar 1) (tC (.int 0))) (tC (.str t)))) Γ (decide (wd = t)) := fun e h1 h2 => et_test (ev_op (ev_op (ev_var e) ev_int (rv_ixT atI_cons0)) ev_str (rv_eqS h1 h2))
  have s1 : PyData.strOk "take" = true := by decide +kernel
  have s2 : PyData.strOk "fall" = true := by decide +kernel
  have s3 : PyData.strOk "come" = true := by decide +kernel
  have s4 : PyData.strOk "quiet" = true := by decide +kernel
  cases g with
  | bad y =>
    have q' : Xq K B E "BadDeed" := q
    obtain ⟨ks0, co⟩ := c
    cases ks0 with
    | nil => exact absurd rfl hne
    | cons k ks =>
      change At B (sls _ [(Ch.mk (k :: ks) co).e, .tuple [.str "take", y]]) _
      k_updF
      refine at_if (word rfl s1 s1) (fun _ => ?_) (fun hb => absurd rfl (of_decide_eq_false hb))
      exact at_rzRet (rz_callW (c := "BadDeed") (ea_cons (ev_var rfl) (ea_cons (ev_op (x := .tuple [.str "take", y]) (ev_var rfl) ev_int (rv_ixT rfl)) ea_nil)) rfl ⟨k, ks, co, hc, .inl ⟨y, rfl, hz.sz, hz.no, rfl⟩⟩) (at_xq q')
  | take d =>
    obtain ⟨ks0, co⟩ := c
    cases ks0 with
    | nil => exact absurd rfl hne
    | cons k ks =>
      have q2 : OcW WO K B Q E (ocOf (takeE ⟨k :: ks, co⟩ d)) := q
      have e : takeO k ks co d = ocOf (takeE ⟨k :: ks, co⟩ d) := takeO_E
      rw [← e] at q2
      change At B (sls _ [(Ch.mk (k :: ks) co).e, .tuple [.str "take", d.e]]) _
      k_updF
      refine at_if (word rfl s1 s1) (fun _ => ?_) (fun hb => absurd rfl (of_decide_eq_false hb))
      have hR : R_take [(Ch.mk (k :: ks) co).e, d.e] (takeO k ks co d) := ⟨k, ks, co, hc, .inr ⟨d, hz, rfl, rfl⟩⟩
      generalize takeO k ks co d = oc at q2 hR
      cases oc with
      | ok x => exact at_rtO (S := []) (em_callW (ea_cons (ev_var rfl) (ea_cons (ev_op (x := .tuple [.str "take", d.e]) (ev_var rfl) ev_int (rv_ixT rfl)) ea_nil)) rfl hR) rfl q2
      | error s => exact at_rzRet (rz_callW (ea_cons (ev_var rfl) (ea_cons (ev_op (x := .tuple [.str "take", d.e]) (ev_var rfl) ev_int (rv_ixT rfl)) ea_nil)) rfl hR) (at_xq q2)
  | fall p =>
    have q2 : OcW WO K B Q E (ocOf (fallE c p)) := q
    have e : fallO c p = ocOf (fallE c p) := by
      unfold fallO fallE
      split
      · rfl
      · split
        · rfl
        · split <;> rfl
    rw [← e] at q2
    change At B (sls _ [c.e, .tuple [.str "fall", .int p]]) _
    k_updF
    refine at_if (word rfl s2 s1) (fun hb => absurd (of_decide_eq_true hb) (by decide)) (fun _ => ?_)
    k_updF
    refine at_if (word rfl s2 s2) (fun _ => ?_) (fun hb => absurd rfl (of_decide_eq_false hb))
    have hR : R_fall [c.e, .int p] (fallO c p) := ⟨c, p, rfl, hc, rfl⟩
    generalize fallO c p = oc at q2 hR
    cases oc with
    | ok x => exact at_rtO (S := []) (em_callW (ea_cons (ev_var rfl) (ea_cons (ev_op (x := .tuple [.str "fall", .int p]) (ev_var rfl) ev_int (rv_ixT rfl)) ea_nil)) rfl hR) rfl q2
    | error s => exact at_rzRet (rz_callW (ea_cons (ev_var rfl) (ea_cons (ev_op (x := .tuple [.str "fall", .int p]) (ev_var rfl) ev_int (rv_ixT rfl)) ea_nil)) rfl hR) (at_xq q2)
  | word wd i =>
    obtain ⟨hw, hw1, hw2⟩ := hz
    have q2 : OcW WO K B Q E (ocOf (if wd = "come" ∧ i = 0 then comeE c else if wd = "quiet" ∧ i = 0 then .ok (quietC c) else stepE c wd i)) := q
    have hsh : ∀ {v : Str} {j : Int}, PyData.strOk v = true → Shp 1 (.tuple [.str v, .int j]) := fun {v j} hv => shp_tuple (n := 0) fun x hx => by
      simp only [List.mem_cons, List.not_mem_nil, or_false] at hx
      rcases hx with rfl | rfl
      · exact shp_str hv
      · exact shp_int
    have heq : ∀ {v : Str}, PyData.eqv (.tuple [.str wd, .int i]) (.tuple [.str v, .int 0]) = decide (wd = v ∧ i = 0) := fun {v} => by
      simp only [PyData.eqv, PyData.eqvAll, Bool.and_true]
      by_cases h1 : wd = v
      · subst h1
        by_cases h2 : i = 0
        · subst h2; simp
        · simp [h2]
      · rw [beq_eq_false_iff_ne.mpr h1, decide_eq_false (fun z => h1 z.1)]; rfl
    change At B (sls _ [c.e, .tuple [.str wd, .int i]]) _
    k_updF
    refine at_if (word rfl hw s1) (fun hb => absurd (of_decide_eq_true hb) hw1) (fun _ => ?_)
    k_updF
    refine at_if (word rfl hw s2) (fun hb => absurd (of_decide_eq_true hb) hw2) (fun _ => ?_)
    k_updF
    refine at_if (et_is (et_test (ev_op (x := .tuple [.str wd, .int i]) (ev_var rfl) (ev_tup (ea_cons ev_str (ea_cons ev_int ea_nil)) (by k_ownIn)) (rv_eqD (hsh hw).sh (hsh s3).sh))) heq) (fun hb => ?_) (fun hb => ?_)
    · rw [if_pos (of_decide_eq_true hb)] at q2
      have e : comeO c = ocOf (comeE c) := by
        unfold comeO comeE
        split
        · rfl
        · split <;> rfl
      rw [← e] at q2
      have hR : R_come [c.e] (comeO c) := ⟨c, rfl, hc, hne, rfl⟩
      generalize comeO c = oc at q2 hR
      cases oc with
      | ok x => exact at_rtO (S := []) (em_callW (ea_cons (ev_var rfl) ea_nil) rfl hR) rfl q2
      | error s => exact at_rzRet (rz_callW (ea_cons (ev_var rfl) ea_nil) rfl hR) (at_xq q2)
    rw [if_neg (of_decide_eq_false hb)] at q2
    k_updF
    refine at_if (et_is (et_test (ev_op (x := .tuple [.str wd, .int i]) (ev_var rfl) (ev_tup (ea_cons ev_str (ea_cons ev_int ea_nil)) (by k_ownIn)) (rv_eqD (hsh hw).sh (hsh s4).sh))) heq) (fun hb => ?_) (fun hb => ?_)
    · rw [if_pos (of_decide_eq_true hb)] at q2
      exact at_rtO (S := []) (em_quiet (ev_var rfl) (hg.qb hn)) rfl q2
    rw [if_neg (of_decide_eq_false hb)] at q2
    k_updF
    unfold stepE at q2
    by_cases hx : ∃ p : Nat, i = p ∧ Can c wd p
    · rw [if_pos hx] at q2
      obtain ⟨p, rfl, hcan⟩ := hx
      rw [Int.toNat_natCast] at q2
      exact at_rtO (S := []) (em_done (w := wd) (p := p) (ev_var rfl) (ev_var rfl) hc hcan hg.inv.wf) rfl q2
    · rw [if_neg hx] at q2
      exact at_rzRet (rz_callW (c := "NoStep") (ea_cons (ev_var rfl) (ea_cons (ev_var rfl) ea_nil)) rfl ⟨c, wd, i, rfl, hc, hw, .inr ⟨hx, rfl⟩⟩) (at_xq q2)

theorem ok__law_tried (T : Tx K mg) : Def P w K mg base CX0 7 "_law_tried" ["_law_chain", "_law_doing_here"] (spG WO K 2 R_tried) := by
  refine mkG T.f__law_tried b__law_tried sc__law_tried rfl fun f cdv A outer s H E hr => ⟨_, (pss_one (ps_try_many rfl rfl takes0 (fun W pn xe tk po => (pss_one (ps_ret (pe_tup (pa_cons (pe_callDS (ok__law_did T) hr tk (pa_cons (pv 0) (pa_cons (pv 1) pa_nil))) (pa_cons pe_str pa_nil)))))) (.cons ⟨by rfl, by decide, Or.inl T.g_BadDeed⟩ (fun a oe cls d pn hz hf => (pss_one (ps_ret (pe_tup (pa_cons (pv 0) (pa_cons pe_str pa_nil)))))) (.cons ⟨by rfl, by decide, Or.inl T.g_BadTurn⟩ (fun a oe cls d pn hz hf => (pss_one (ps_ret (pe_tup (pa_cons (pv 0) (pa_cons pe_str pa_nil)))))) (.cons ⟨by rfl, by decide, Or.inl T.g_OtherDeed⟩ (fun a oe cls d pn hz hf => (pss_one (ps_ret (pe_tup (pa_cons (pv 0) (pa_cons pe_str pa_nil)))))) (.cons ⟨by rfl, by decide, Or.inl T.g_NoStep⟩ (fun a oe cls d pn hz hf => (pss_one (ps_ret (pe_tup (pa_cons (pv 0) (pa_cons pe_str pa_nil)))))) (.cons ⟨by rfl, by decide, Or.inl T.g_NoKeeper⟩ (fun a oe cls d pn hz hf => (pss_one (ps_ret (pe_tup (pa_cons (pv 0) (pa_cons pe_str pa_nil)))))) (.cons ⟨by rfl, by decide, Or.inl T.g_OnlyKeeper⟩ (fun a oe cls d pn hz hf => (pss_one (ps_ret (pe_tup (pa_cons (pv 0) (pa_cons pe_str pa_nil)))))) (.cons ⟨by rfl, by decide, Or.inl T.g_OneComing⟩ (fun a oe cls d pn hz hf => (pss_one (ps_ret (pe_tup (pa_cons (pv 0) (pa_cons pe_str pa_nil)))))) (.cons ⟨by rfl, by decide, Or.inl T.g_TooMany⟩ (fun a oe cls d pn hz hf => (pss_one (ps_ret (pe_tup (pa_cons (pv 0) (pa_cons pe_str pa_nil)))))) .nil)))))))))), ?_⟩
  rintro ss o B Q hl ⟨c, g, n, rfl, hg, hn, hz, rfl⟩ q
  have q' : RtO B Q (.tuple [(chE c g).e, .str (wdE c g)]) := q
  have hR : R_one [c.e, g.e] (ocOf (nextE c g)) := ⟨c, g, n, rfl, hg, hn, hz, rfl⟩
  have herr : ∀ s, nextE c g = .error s → s ∈ errs := fun s h => nextE_err h
  have hm : ∀ c ∈ XN, ∀ y ∈ XN, PySem.W.exmOne K (.ref (He.ga K c)) (.ref (He.ga K y)) = some (isX c y) := fun c hc y hy => T.cls.em c hc y (by
    have : ∀ y ∈ XN, y ∈ YN := by decide
    exact this y hy)
  k_caught0
  k_updF
  cases e : nextE c g with
  | ok c' =>
    rw [e] at hR
    have q2 : RtO B Q (.tuple [c'.e, .str "done"]) := by
      unfold chE wdE at q'
      rw [e] at q'; exact q'
    exact at_rtO (S := []) (em_tup (ems_cons (S1 := []) (S2 := []) (em_fz (em_callWS (ea_cons (ev_var rfl) (ea_cons (ev_var rfl) ea_nil)) rfl hR)) (ems_cons (S1 := []) (S2 := []) (em_d ev_str rfl) ems_nil (by decide)) (by decide)) (by k_ownIn)) rfl q2
  | error s =>
    rw [e] at hR
    have q2 : RtO B Q (.tuple [c.e, .str s]) := by
      unfold chE wdE at q'
      rw [e] at q'; exact q'
    have hs := herr s e
    refine at_rzRet (rz_tup (rz_fz (rz_callWS (ea_cons (ev_var rfl) (ea_cons (ev_var rfl) ea_nil)) rfl hR))) ?_
    simp only [errs, List.mem_cons, List.not_mem_nil, or_false] at hs
    rcases hs with rfl | rfl | rfl | rfl | rfl | rfl | rfl | rfl
    · refine at_wMany_hit (hm _ (by decide) _ (by decide)) fun a => ?_
      k_updF
      exact at_rtO (S := [0]) (em_tup (ems_cons (S1 := [0]) (S2 := []) (em_var rfl) (ems_cons (S1 := []) (S2 := []) (em_d ev_str rfl) ems_nil (by decide)) (by decide)) (by k_ownIn)) rfl q2
    · refine at_wMany_miss ((show isX "BadTurn" "BadDeed" = false by decide +kernel) ▸ hm _ (by decide) _ (by decide)) (at_wMany_hit (hm _ (by decide) _ (by decide)) fun a => ?_)
      k_updF
      exact at_rtO (S := [0]) (em_tup (ems_cons (S1 := [0]) (S2 := []) (em_var rfl) (ems_cons (S1 := []) (S2 := []) (em_d ev_str rfl) ems_nil (by decide)) (by decide)) (by k_ownIn)) rfl q2
    · refine at_wMany_miss ((show isX "OtherDeed" "BadDeed" = false by decide +kernel) ▸ hm _ (by decide) _ (by decide)) (at_wMany_miss ((show isX "OtherDeed" "BadTurn" = false by decide +kernel) ▸ hm _ (by decide) _ (by decide)) (at_wMany_hit (hm _ (by decide) _ (by decide)) fun a => ?_))
      k_updF
      exact at_rtO (S := [0]) (em_tup (ems_cons (S1 := [0]) (S2 := []) (em_var rfl) (ems_cons (S1 := []) (S2 := []) (em_d ev_str rfl) ems_nil (by decide)) (by decide)) (by k_ownIn)) rfl q2
    · refine at_wMany_miss ((show isX "NoStep" "BadDeed" = false by decide +kernel) ▸ hm _ (by decide) _ (by decide)) (at_wMany_miss ((show isX "NoStep" "BadTurn" = false by decide +kernel) ▸ hm _ (by decide) _ (by decide)) (at_wMany_miss ((show isX "NoStep" "OtherDeed" = false by decide +kernel) ▸ hm _ (by decide) _ (by decide)) (at_wMany_hit (hm _ (by decide) _ (by decide)) fun a => ?_)))
      k_updF
      exact at_rtO (S := [0]) (em_tup (ems_cons (S1 := [0]) (S2 := []) (em_var rfl) (ems_cons (S1 := []) (S2 := []) (em_d ev_str rfl) ems_nil (by decide)) (by decide)) (by k_ownIn)) rfl q2
    · refine at_wMany_miss ((show isX "NoKeeper" "BadDeed" = false by decide +kernel) ▸ hm _ (by decide) _ (by decide)) (at_wMany_miss ((show isX "NoKeeper" "BadTurn" = false by decide +kernel) ▸ hm _ (by decide) _ (by decide)) (at_wMany_miss ((show isX "NoKeeper" "OtherDeed" = false by decide +kernel) ▸ hm _ (by decide) _ (by decide)) (at_wMany_miss ((show isX "NoKeeper" "NoStep" = false by decide +kernel) ▸ hm _ (by decide) _ (by decide)) (at_wMany_hit (hm _ (by decide) _ (by decide)) fun a => ?_))))
      k_updF
      exact at_rtO (S := [0]) (em_tup (ems_cons (S1 := [0]) (S2 := []) (em_var rfl) (ems_cons (S1 := []) (S2 := []) (em_d ev_str rfl) ems_nil (by decide)) (by decide)) (by k_ownIn)) rfl q2
    · refine at_wMany_miss ((show isX "OnlyKeeper" "BadDeed" = false by decide +kernel) ▸ hm _ (by decide) _ (by decide)) (at_wMany_miss ((show isX "OnlyKeeper" "BadTurn" = false by decide +kernel) ▸ hm _ (by decide) _ (by decide)) (at_wMany_miss ((show isX "OnlyKeeper" "OtherDeed" = false by decide +kernel) ▸ hm _ (by decide) _ (by decide)) (at_wMany_miss ((show isX "OnlyKeeper" "NoStep" = false by decide +kernel) ▸ hm _ (by decide) _ (by decide)) (at_wMany_miss ((show isX "OnlyKeeper" "NoKeeper" = false by decide +kernel) ▸ hm _ (by decide) _ (by decide)) (at_wMany_hit (hm _ (by decide) _ (by decide)) fun a => ?_)))))
      k_updF
      exact at_rtO (S := [0]) (em_tup (ems_cons (S1 := [0]) (S2 := []) (em_var rfl) (ems_cons (S1 := []) (S2 := []) (em_d ev_str rfl) ems_nil (by decide)) (by decide)) (by k_ownIn)) rfl q2
    · refine at_wMany_miss ((show isX "OneComing" "BadDeed" = false by decide +kernel) ▸ hm _ (by decide) _ (by decide)) (at_wMany_miss ((show isX "OneComing" "BadTurn" = false by decide +kernel) ▸ hm _ (by decide) _ (by decide)) (at_wMany_miss ((show isX "OneComing" "OtherDeed" = false by decide +kernel) ▸ hm _ (by decide) _ (by decide)) (at_wMany_miss ((show isX "OneComing" "NoStep" = false by decide +kernel) ▸ hm _ (by decide) _ (by decide)) (at_wMany_miss ((show isX "OneComing" "NoKeeper" = false by decide +kernel) ▸ hm _ (by decide) _ (by decide)) (at_wMany_miss ((show isX "OneComing" "OnlyKeeper" = false by decide +kernel) ▸ hm _ (by decide) _ (by decide)) (at_wMany_hit (hm _ (by decide) _ (by decide)) fun a => ?_))))))
      k_updF
      exact at_rtO (S := [0]) (em_tup (ems_cons (S1 := [0]) (S2 := []) (em_var rfl) (ems_cons (S1 := []) (S2 := []) (em_d ev_str rfl) ems_nil (by decide)) (by decide)) (by k_ownIn)) rfl q2
    · refine at_wMany_miss ((show isX "TooMany" "BadDeed" = false by decide +kernel) ▸ hm _ (by decide) _ (by decide)) (at_wMany_miss ((show isX "TooMany" "BadTurn" = false by decide +kernel) ▸ hm _ (by decide) _ (by decide)) (at_wMany_miss ((show isX "TooMany" "OtherDeed" = false by decide +kernel) ▸ hm _ (by decide) _ (by decide)) (at_wMany_miss ((show isX "TooMany" "NoStep" = false by decide +kernel) ▸ hm _ (by decide) _ (by decide)) (at_wMany_miss ((show isX "TooMany" "NoKeeper" = false by decide +kernel) ▸ hm _ (by decide) _ (by decide)) (at_wMany_miss ((show isX "TooMany" "OnlyKeeper" = false by decide +kernel) ▸ hm _ (by decide) _ (by decide)) (at_wMany_miss ((show isX "TooMany" "OneComing" = false by decide +kernel) ▸ hm _ (by decide) _ (by decide)) (at_wMany_hit (hm _ (by decide) _ (by decide)) fun a => ?_)))))))
      k_updF
      exact at_rtO (S := [0]) (em_tup (ems_cons (S1 := [0]) (S2 := []) (em_var rfl) (ems_cons (S1 := []) (S2 := []) (em_d ev_str rfl) ems_nil (by decide)) (by decide)) (by k_ownIn)) rfl q2

theorem ok__law_run (T : Tx K mg) : Def P w K mg base CX0 9 "_law_run" ["_law_many", "_law_doings"] (spW WO K 2 R_lrun) := by
  refine mkW T.f__law_run b__law_run sc__law_run rfl fun f cdv A outer s H E hr => ⟨_, (pss_one (ps_try_many rfl rfl takes0 (fun W pn xe tk po => (pss_one (ps_ret (pe_callDS (ok_run T) hr tk (pa_cons (pv 0) (pa_cons (pv 1) pa_nil)))))) (.cons ⟨by rfl, by decide, Or.inl T.g_TooMany⟩ (fun a oe cls d pn hz hf => (pss_one (ps_ret pe_non))) .nil))), ?_⟩
  rintro ds o B Q hl ⟨m, gs, rfl, hz, hok, rfl⟩ q
  have q' : RtO B Q (lrunD m gs) := q
  have hm : PySem.W.exmOne K (.ref (He.ga K "TooMany")) (.ref (He.ga K "TooMany")) = some (isX "TooMany" "TooMany") := T.cls.em _ (by decide) _ (by decide)
  have hR : R_run [.int m, .list (gs.map Dz.e)] (runO m gs) := ⟨m, gs, rfl, hz, hok, rfl⟩
  unfold lrunD at q'
  unfold runO at hR
  k_updF
  by_cases h : m < 1 ∨ 9 < m
  · rw [if_pos h] at q' hR
    refine at_rzRet (rz_callWS (ea_cons (ev_var rfl) (ea_cons (ev_var rfl) ea_nil)) rfl hR) (at_wMany_hit hm fun a => ?_)
    k_updF
    exact at_rtO (S := []) (em_d ev_non rfl) rfl q'
  · rw [if_neg h] at q' hR
    exact at_rtO (S := []) (em_callWS (ea_cons (ev_var rfl) (ea_cons (ev_var rfl) ea_nil)) rfl hR) rfl q'

theorem spoilt_all (T : Tx K mg) : ∀ n, Def P w K mg base CX0 n "_law_spoilt" ["_law_thing"] (spSp n)
  | 0 => mk0 T.f__law_spoilt b__law_spoilt fun vs H Q E ⟨_, _, _, _, _, _, _, _, _, h, _⟩ => h
  | n + 1 => by
    have ih := spoilt_all T n
    refine mkSp T.f__law_spoilt b__law_spoilt sc__law_spoilt rfl fun f cdv A outer s H E hr => ⟨_, (pss_cons (ps_if (PW.pt (pw_or (pt_val (pe_callB (isi_K K) (by rfl) T.z_isinstance (by decide +kernel) (pa_cons (pv 0) (pa_cons (pe_bltn (v := .ty "tuple") (by rfl) T.z_tuple (by decide +kernel) rfl) pa_nil)))) (pw_or1 (pt_val (pe_callB (isi_K K) (by rfl) T.z_isinstance (by decide +kernel) (pa_cons (pv 0) (pa_cons (pe_bltn (v := .ty "list") (by rfl) T.z_list (by decide +kernel) rfl) pa_nil)))))))
      (pss_one (ps_for PassesOwn.never rfl (pi_listK K (pe_callTy (list_K K) (by rfl) T.z_list (by decide +kernel) (pa_cons (pv 0) pa_nil))) (pg_name (i := 1) sc__law_spoilt.nd rfl (Or.inl rfl))
      (pss_one (ps_expr (pe_callD (hj := Nat.le_refl _) ih hr (pa_cons (pv 1) pa_nil))))))
      pss_nil)
      (pss_one (ps_if (pt_val (pe_callB (isi_K K) (by rfl) T.z_isinstance (by decide +kernel) (pa_cons (pv 0) (pa_cons (pe_bltn (v := .ty "list") (by rfl) T.z_list (by decide +kernel) rfl) pa_nil))))
      (pss_one (ps_expr (pe_bmK K PySem.F.plainAttrs_list PySem.F.slot_list_append PySem.F.type_list_append mt_append (pv 0) (pa_cons pe_str pa_nil))))
      pss_nil))), ?_⟩
    rintro v d B Q hx q
    cases d with
    | list ds =>
      k_updF
      refine at_if (b := true) (et_fz (et_is (et_or (et_test (ev_isiTup (ev_var rfl))) fun _ => et_test (ev_isiList (ev_var rfl))) rfl)) (fun _ => ?_) (fun hb => by cases hb)
      refine at_spoilFor (.inl rfl) hx.1 hx.2 ?_
      k_updF
      refine at_if (b := true) (et_fz (et_is (et_test (ev_isiList (ev_var rfl))) rfl)) (fun _ => ?_) (fun hb => by cases hb)
      refine at_appendV (i := 0) (ds := spoilDs ds) (d := moreD) rfl ev_str rfl (by rw [spoilDs_map, List.length_map, sizeLine_eq]; have := hx.1; omega) .zero ?_
      k_updF
      exact at_spEnd q (by rw [spoilD])
    | tuple ds =>
      k_updF
      refine at_if (b := true) (et_fz (et_is (et_or (et_test (ev_isiTup (ev_var rfl))) fun _ => et_test (ev_isiList (ev_var rfl))) rfl)) (fun _ => ?_) (fun hb => by cases hb)
      refine at_spoilFor (.inr rfl) hx.1 hx.2 ?_
      k_updF
      refine at_if (b := false) (et_fz (et_is (et_test (ev_isiList (ev_var rfl))) rfl)) (fun hb => by cases hb) (fun _ => ?_)
      k_updF
      exact at_spEnd q (by rw [spoilD]; rfl)
    | dict ps => exact hx.elim
    | none =>
      k_updF
      refine at_if (b := false) (et_fz (et_is (et_or (et_test (ev_isiTup (ev_var rfl))) fun _ => et_test (ev_isiList (ev_var rfl))) rfl)) (fun hb => by cases hb) (fun _ => ?_)
      k_updF
      refine at_if (b := false) (et_fz (et_is (et_test (ev_isiList (ev_var rfl))) rfl)) (fun hb => by cases hb) (fun _ => ?_)
      k_updF
      exact at_spEnd q (by rw [spoilD] <;> simp)
    | bool b =>
      k_updF
      refine at_if (b := false) (et_fz (et_is (et_or (et_test (ev_isiTup (ev_var rfl))) fun _ => et_test (ev_isiList (ev_var rfl))) rfl)) (fun hb => by cases hb) (fun _ => ?_)
      k_updF
      refine at_if (b := false) (et_fz (et_is (et_test (ev_isiList (ev_var rfl))) rfl)) (fun hb => by cases hb) (fun _ => ?_)
      k_updF
      exact at_spEnd q (by rw [spoilD] <;> simp)
    | int i =>
      k_updF
      refine at_if (b := false) (et_fz (et_is (et_or (et_test (ev_isiTup (ev_var rfl))) fun _ => et_test (ev_isiList (ev_var rfl))) rfl)) (fun hb => by cases hb) (fun _ => ?_)
      k_updF
      refine at_if (b := false) (et_fz (et_is (et_test (ev_isiList (ev_var rfl))) rfl)) (fun hb => by cases hb) (fun _ => ?_)
      k_updF
      exact at_spEnd q (by rw [spoilD] <;> simp)
    | str z =>
      k_updF
      refine at_if (b := false) (et_fz (et_is (et_or (et_test (ev_isiTup (ev_var rfl))) fun _ => et_test (ev_isiList (ev_var rfl))) rfl)) (fun hb => by cases hb) (fun _ => ?_)
      k_updF
      refine at_if (b := false) (et_fz (et_is (et_test (ev_isiList (ev_var rfl))) rfl)) (fun hb => by cases hb) (fun _ => ?_)
      k_updF
      exact at_spEnd q (by rw [spoilD] <;> simp)
theorem ok__law_spoilt (T : Tx K mg) : Def P w K mg base CX0 6 "_law_spoilt" ["_law_thing"] (spSp 6) := spoilt_all T 6

theorem ok_law (T : Tx K mg) (hL : Has K mg "law" s_law) : Def P w K mg base CX0 10 "law" ["_law_script"] (spP 1 R_law) := by
  refine mkP hL b_law sc_law rfl fun f cdv A outer s H E hr => ⟨_, (pss_cons (ps_set (i := 1) sc_law.nd rfl (Or.inr rfl) (pe_callD (ok__law_keys T) hr (pa_cons (pe_callD (ok__law_mixed T) hr (pa_cons (pe_callD (ok__law_cell_at T) hr (pa_cons (pv 0) (pa_cons pe_int pa_nil))) (pa_cons pe_int pa_nil))) pa_nil)))
      (pss_cons (ps_set (i := 2) sc_law.nd rfl (Or.inl rfl) (pe_op (op_addK K) pe_int (pe_op op_mod (pe_callD (ok__law_cell_at T) hr (pa_cons (pv 0) (pa_cons pe_int pa_nil))) pe_int)))
      (pss_cons (ps_if (pt_cmpR (op_eqK K (hu64 hr)) (pe_op op_mod (pe_op op_fdiv (pe_callD (ok__law_cell_at T) hr (pa_cons (pv 0) (pa_cons pe_int pa_nil))) pe_int) pe_int) pe_int (nomark _))
      (pss_one (ps_set (i := 2) sc_law.nd rfl (Or.inl rfl) (pe_op op_sub (pe_op op_mod (pe_op op_fdiv (pe_callD (ok__law_cell_at T) hr (pa_cons (pv 0) (pa_cons pe_int pa_nil))) pe_int) pe_int) pe_int)))
      pss_nil)
      (pss_cons (ps_set (i := 3) sc_law.nd rfl (Or.inr rfl) (pe_op op_mulU (pe_lst (pa_cons pe_int pa_nil)) pe_int))
      (pss_cons (ps_setLc (i := 4) (own := [("_law_k", 11)]) (g := gName 11) rfl sc_law.nd rfl rfl (sw_true rfl rfl rfl (by decide +kernel)) (pi_range2 (by rfl) T.z_range (pa_cons pe_int (pa_cons (pe_callB (call_min2V rfl) (by rfl) T.z_min (by decide +kernel) (pa_cons (pe_callB (len_K K) (by rfl) T.z_len (by decide +kernel) (pa_cons (pv 0) pa_nil)) (pa_cons pe_int pa_nil))) pa_nil))) (blkOk_by (own := [("_law_k", 11)]) (N := N_law) (sc := defScope s_law) (by decide +kernel)) (fun _ _ _ _ _ => pg_name (i := 11) sc_law.nd rfl (Or.inl rfl)) (fun _ _ _ _ _ => pts_nil) (fun _ _ _ _ _ => (pe_callD (ok__law_doing T) hr (pa_cons (pe_ix (ix_K K) (pv 0) (pv 11) (fun _ _ => rfl)) (pa_cons (pv 11) (pa_cons (pv 3) (pa_cons (pv 1) pa_nil)))))))
      (pss_cons (ps_set (i := 5) sc_law.nd rfl (Or.inl rfl) (pe_callTy (list_K K) (by rfl) T.z_list (by decide +kernel) (pa_cons (pv 4) pa_nil)))
      (pss_cons (ps_set (i := 6) sc_law.nd rfl (Or.inl rfl) (pe_callD (ok__law_run T) hr (pa_cons (pv 2) (pa_cons (pv 5) pa_nil))))
      (pss_cons (ps_if (PW.pt (pw_or (pt_cmpR op_lt (pv 2) pe_int (nomark _)) (pw_or1 (pt_cmpR op_gt (pv 2) pe_int (nomark _)))))
      (pss_one (ps_ret (pe_cmpR op_isN' (pv 6) pe_non (nomark _))))
      pss_nil)
      (pss_cons (ps_if (PW.pt (pw_or (pt_not (pt_val (pe_callB (isi_K K) (by rfl) T.z_isinstance (by decide +kernel) (pa_cons (pv 6) (pa_cons (pe_bltn (v := .ty "tuple") (by rfl) T.z_tuple (by decide +kernel) rfl) pa_nil))))) (pw_or (pt_cmpR (op_neK K (hu64 hr)) (pe_callB (len_K K) (by rfl) T.z_len (by decide +kernel) (pa_cons (pv 6) pa_nil)) pe_int (nomark _)) (pw_or (pt_not (pt_val (pe_callB (isi_K K) (by rfl) T.z_isinstance (by decide +kernel) (pa_cons (pe_ix (ix_K K) (pv 6) pe_int (fun _ _ => rfl)) (pa_cons (pe_bltn (v := .ty "list") (by rfl) T.z_list (by decide +kernel) rfl) pa_nil))))) (pw_or1 (pt_cmpR (op_neK K (hu64 hr)) (pv 5) (pv 4) (nomark _)))))))
      (pss_one (ps_ret pe_bl))
      pss_nil)
      (pss_cons (ps_set (i := 7) sc_law.nd rfl (Or.inl rfl) (pe_callD0 (ok_begun T) hr (pa_cons (pv 2) pa_nil)))
      (pss_cons (ps_set (i := 8) sc_law.nd rfl (Or.inl rfl) (pe_lst pa_nil))
      (pss_cons (ps_for PassesOwn.never rfl (pi_listK K (pv 4)) (pg_name (i := 9) sc_law.nd rfl (Or.inl rfl))
      (pss_cons (ps_set (i := 10) sc_law.nd rfl (Or.inl rfl) (pe_callD (ok__law_tried T) hr (pa_cons (pv 7) (pa_cons (pv 9) pa_nil))))
      (pss_cons (ps_set (i := 7) sc_law.nd rfl (Or.inl rfl) (pe_ix (ix_K K) (pv 10) pe_int (fun _ _ => rfl)))
      (pss_one (ps_expr (pe_bmK K PySem.F.plainAttrs_list PySem.F.slot_list_append PySem.F.type_list_append mt_append (pv 8) (pa_cons (pe_ix (ix_K K) (pv 10) pe_int (fun _ _ => rfl)) pa_nil)))))))
      (pss_cons (ps_if (pt_cmpR (op_neK K (hu64 hr)) (pv 6) (pe_tup (pa_cons (pv 7) (pa_cons (pv 8) pa_nil))) (nomark _))
      (pss_one (ps_ret pe_bl))
      pss_nil)
      (pss_cons (ps_expr (pe_bmK K PySem.F.plainAttrs_list PySem.F.slot_list_append PySem.F.type_list_append mt_append (pe_ix (ix_K K) (pv 6) pe_int (fun _ _ => rfl)) (pa_cons pe_str pa_nil)))
      (pss_cons (ps_expr (pe_callD (ok__law_spoilt T) hr (pa_cons (pe_ix (ix_K K) (pv 6) pe_int (fun _ _ => rfl)) pa_nil)))
      (pss_cons (ps_if (pt_cmpR (op_neK K (hu64 hr)) (pe_callD0 (ok_run T) hr (pa_cons (pv 2) (pa_cons (pv 5) pa_nil))) (pe_tup (pa_cons (pv 7) (pa_cons (pv 8) pa_nil))) (nomark _))
      (pss_one (ps_ret pe_bl))
      pss_nil)
      (pss_cons (ps_expr (pe_callD (ok__law_spoilt T) hr (pa_cons (pv 7) pa_nil)))
      (pss_one (ps_ret (pe_cmpR (op_eqK K (hu64 hr)) (pe_ix (ix_K K) (pv 6) pe_int (fun _ _ => rfl)) (pv 7) (nomark _))))))))))))))))))))), ?_⟩
  rintro ds d B Q hl ⟨ns, rfl, h63, rfl⟩ q
  have hm0 := mixed_lo (cellAt ns 0) 1
  have hm1 := mixed_hi (cellAt ns 0) 1
  have hks := keysG_ok ns
  have hk4 : (keysG ns).length = 4 := rfl
  have hnl : ((ns.map PyData.int).length : Int) = (ns.length : Nat) := by rw [List.length_map]
  k_updF
  refine at_setA (i := 1) (d := .list ((keysG ns).map .str)) (ev_keys (ev_mixed (ev_cell_at (ev_var rfl) ev_int (by decide)) ev_int) hm0 (by omega)) (by k_intsEnd) ?_
  generalize hkk : keysG ns = keys at hks hk4
  k_updF
  refine at_setA (i := 2) (d := .int (1 + cellAt ns 1 % 4)) (ev_op ev_int (ev_op (ev_cell_at (ev_var rfl) ev_int (by decide)) ev_int (rv_modP (by decide))) rv_addI) (by k_intsEnd) ?_
  k_updF
  refine at_ifSet (i := 2) (b := decide (cellAt ns 1 / 4 % 4 = 1)) (d0 := .int (1 + cellAt ns 1 % 4)) (d1 := .int (cellAt ns 1 / 16 % 13 - 1)) (et_test (ev_op (ev_op (ev_op (ev_cell_at (ev_var rfl) ev_int (by decide)) ev_int (rv_fdivP ⟨by decide, by decide⟩)) ev_int (rv_modP (by decide))) ev_int rv_eqI)) (fun _ => ev_op (ev_op (ev_op (ev_cell_at (ev_var rfl) ev_int (by decide)) ev_int (rv_fdivP ⟨by decide, by decide⟩)) ev_int (rv_modP (by decide))) ev_int rv_sub) rfl (by k_intsEnd) ?_
  obtain ⟨m, hm⟩ : ∃ m : Int, (if decide (cellAt ns 1 / 4 % 4 = 1) = true then PyData.int (cellAt ns 1 / 16 % 13 - 1) else .int (1 + cellAt ns 1 % 4)) = .int m := by
    split
    · exact ⟨_, rfl⟩
    · exact ⟨_, rfl⟩
  rw [hm]
  k_updF
  refine at_setNA (i := 3) (ds := (turnsZ ns 0).map .int) (evN_op (x := .list [.int 0]) (y := .int 10) (ev_lst (ea_cons ev_int ea_nil) (by k_ownIn)) ev_int (rvN_mulL (by decide) (by decide) (by decide))) (by k_intsEnd) ?_
  have hgz := gsZ_ok (ns := ns) hks hk4
  have hgl := gsZ_len (ns := ns) (keys := keys)
  have hgs : ((List.range (min (ns.length : Int) 52 - 2).toNat).map fun n => (doingZ ns keys n).e) = (gsZ ns keys).map Dz.e := by
    unfold gsZ
    rw [List.map_map]; rfl
  k_updF
  refine at_setP (i := 4) (d := .list ((gsZ ns keys).map Dz.e)) (evp_is (evp_lc (j := 11) (fun k : Nat => .int (2 + k)) (List.range (min (ns.length : Int) 52 - 2).toNat) (fun n => [.d (scr ns), .d (.list (keys.map .str)), .d (.int m), .own ((turnsZ ns n).map .int), .un, .un, .un, .un, .un, .un, .un, .un]) (fun n => (doingZ ns keys n).e) rfl rfl (fun _ => rfl) (ei_rng2 (m := 2) (n := min (ns.length : Int) 52) ev_int (ev_cb (ea_cons (ev_is (ev_cb (xs := [.list (ns.map .int)]) (ea_cons (ev_var rfl) ea_nil) rc_lenL) (congrArg PyData.int hnl)) (ea_cons ev_int ea_nil)) rc_min2) (by decide) (by decide) (by omega) (by omega)) (by rw [List.length_range, sizeLine_eq]; omega) fun n x hx => ?_) (by rw [List.length_range, hgs])) (by k_intsEnd) ?_
  · obtain ⟨hx1, hx2⟩ := List.getElem?_eq_some_iff.mp hx
    rw [List.length_range] at hx1
    rw [List.getElem_range] at hx2
    subst hx2
    have hi2 : n + 2 < ns.length := by omega
    have hat : atI (ns.map PyData.int) (2 + (n : Int)) = some (.int (ns.getD (n + 2) 0)) := by
      rw [show (2 + (n : Int)) = ((n + 2 : Nat) : Int) by omega]
      refine atI_map (f := PyData.int) (atI_of ?_)
      rw [List.getD_eq_getElem?_getD, List.getElem?_eq_getElem hi2]; rfl
    have e2 : (2 + (n : Int)) = ((n + 2 : Nat) : Int) := by omega
    exact evp_callI (i := 3) (ts' := (turnsZ ns (n + 1)).map .int) rfl (ev_op (x := .list (ns.map .int)) (ev_var rfl) (ev_var rfl) (rv_ixL hat)) (ev_is (ev_var rfl) (congrArg PyData.int e2)) (ea_cons (ev_var rfl) ea_nil) rfl ⟨ns.getD (n + 2) 0, ((n + 2 : Nat) : Int), keys, turnsZ ns n, rfl, hk4, turnsZ_len ns n, hks, turnsZ_nn ns n, rfl, rfl, rfl⟩
  generalize gsZ ns keys = gs at hgz hgl
  have hgsh : Shp 3 (.list (gs.map Dz.e)) := shp_list (n := 2) fun x hx => by
    obtain ⟨g, hg, rfl⟩ := List.mem_map.mp hx
    exact (hgz g hg).shp
  k_caught0
  generalize (turnsZ ns _).map PyData.int = tz
  k_updF
  refine at_setA (i := 5) (d := .list (gs.map Dz.e)) (EvN.ev (evN_cb (xs := [.list (gs.map Dz.e)]) (ea_cons (ev_var rfl) ea_nil) rcN_listL)) (by k_intsEnd) ?_
  k_updF
  refine at_setO (i := 6) (d := lrunD m gs) (em_callW (ea_cons (ev_var rfl) (ea_cons (ev_var rfl) ea_nil)) rfl ⟨m, gs, rfl, by omega, hgz, rfl⟩) ?_
  k_caught0
  k_updF
  by_cases hmm : m < 1 ∨ 9 < m
  · refine at_if (b := true) (et_fz (et_is (et_or (et_test (ev_op (x := .int m) (ev_var rfl) ev_int rv_lt)) fun _ => et_test (ev_op (x := .int m) (ev_var rfl) ev_int rv_gt)) (by rw [← Bool.decide_or, decide_eq_true hmm]))) (fun _ => ?_) (fun hb => by cases hb)
    have e : lrunD m gs = .none := by unfold lrunD; rw [if_pos hmm]
    rw [e]
    exact at_rt (ev_fz (ev_op (x := .none) (ev_var rfl) ev_non rv_isN) rfl) rfl q
  · refine at_if (b := false) (et_fz (et_is (et_or (et_test (ev_op (x := .int m) (ev_var rfl) ev_int rv_lt)) fun _ => et_test (ev_op (x := .int m) (ev_var rfl) ev_int rv_gt)) (by rw [← Bool.decide_or, decide_eq_false hmm]))) (fun hb => by cases hb) (fun _ => ?_)
    have e : lrunD m gs = runT m gs := by unfold lrunD; rw [if_neg hmm]
    rw [e]
    have hG := fun i => good_runN (m := m) (gs := gs) (by omega) (by omega) hgz i
    have hcok := (hG gs.length).cok (by omega)
    have hrsh := runT_shp hcok
    have eb : begunO m = .ok (runN m gs 0).e := by unfold begunO; rw [if_neg hmm]; rfl
    have hR : R_run [.int m, .list (gs.map Dz.e)] (.ok (runT m gs)) := ⟨m, gs, rfl, by omega, hgz, by unfold runO; rw [if_neg hmm]⟩
    change At B [_, _, _, _, _, _, .ow (.tuple [(runN m gs gs.length).e, .list ((List.range gs.length).map fun i => .str (wdN m gs i))]), _, _, _, _, _] _
    k_updF
    refine at_if (b := false) (et_fz (et_is (et_or (b := false) (c := false) (et_is (et_not (et_test (ev_isiTupB (b := true) (ev_var rfl) rfl))) rfl) fun _ => et_is (et_or (b := false) (c := false) (et_is (et_test (ev_op (ev_cb (ea_cons (ev_var rfl) ea_nil) rc_lenT) ev_int rv_neI)) rfl) fun _ => et_is (et_or (b := false) (c := false) (et_is (et_not (et_test (ev_isiListB (b := true) (ev_op (x := .tuple [(runN m gs gs.length).e, .list ((List.range gs.length).map fun i => .str (wdN m gs i))]) (ev_var rfl) ev_int (rv_ixT rfl)) rfl))) rfl) fun _ => et_test (ev_op (ev_var rfl) (ev_var rfl) (rv_neSelf ⟨3, by decide, hgsh⟩))) rfl) rfl) rfl)) (fun hb => by cases hb) (fun _ => ?_)
    k_updF
    refine at_setO (i := 7) (d := (runN m gs 0).e) (em_callW (ea_cons (ev_var rfl) ea_nil) rfl ⟨m, rfl, eb.symm⟩) ?_
    k_caught0
    k_updF
    refine at_setNA (i := 8) (ds := []) (evN_lst ea_nil (by k_ownIn)) (by k_intsEnd) ?_
    k_updF
    refine at_forL Dz.e gs (fun n => [.d (scr ns), .d (.list (keys.map .str)), .d (.int m), .own tz, .d (.list (gs.map Dz.e)), .d (.list (gs.map Dz.e)), .ow (.tuple [(runN m gs gs.length).e, .list ((List.range gs.length).map fun i => .str (wdN m gs i))]), .ow (runN m gs n).e, .own ((List.range n).map fun i => .str (wdN m gs i)), .un, .un, .un]) (ei_list (ev_var rfl)) (.same (.same (.same (.same (.same (.same (.same (.same (.same (.un (.un (.un .nil)))))))))))) (fun gb n g N hd hN => ?_) ?_
    · have hlt := (List.getElem?_eq_some_iff.mp hd).1
      have hgn := hG n
      have hgz2 := hgz g (List.mem_of_getElem? hd)
      have e1 : runN m gs (n + 1) = chE (runN m gs n) g := by rw [runN, hd]
      have e2 : wdN m gs n = wdE (runN m gs n) g := by unfold wdN; rw [hd]
      rw [show (List.range (n + 1)).map (fun i => PyData.str (wdN m gs i)) = ((List.range n).map fun i => PyData.str (wdN m gs i)) ++ [.str (wdN m gs n)] by rw [List.range_succ, List.map_append]; rfl, e1, e2] at hN
      generalize runN m gs n = c at hgn hN
      generalize hws : ((List.range n).map fun i => PyData.str (wdN m gs i)) = ws at hN
      have hwl : ws.length = n := by rw [← hws, List.length_map, List.length_range]
      k_updF
      refine at_setQ (i := 10) (d := .tuple [(chE c g).e, .str (wdE c g)]) (evq_callG (es_cons (S1 := [7]) (S2 := []) (e1_m (em_var rfl)) (es_d (ev_var rfl) es_nil) (fun _ _ z => by cases z)) rfl ⟨c, g, n, rfl, hgn, by omega, hgz2, rfl⟩) (by k_intsEnd) ?_
      generalize wdE c g = wd at hN
      generalize chE c g = c' at hN
      k_caught0
      k_updF
      refine at_mvX (i := 10) (j := 7) (xs := [.list (c'.ks.map Kp.e), coE c'.co]) (y := .str wd) rfl rfl (by decide) rfl ?_
      k_caught0
      refine at_appendA (i := 8) (d := .str wd) rfl (ev_sn (i := 10) rfl) (by rw [hwl, sizeLine_eq]; omega) (by k_intsEnd) ?_
      exact at_wk hN (.same (.same (.same (.same (.same (.same (.same (.same (.same (.un (.un (.un .nil))))))))))))
    · have hsm : (runN m gs gs.length).small 900 := ((hG gs.length).up (by omega : gs.length ≤ 900)).small (by decide)
      have hg6 := hcok.alk
      have hssh := Alk.shpS hg6
      have hwl : ((List.range gs.length).map fun i => PyData.str (wdN m gs i)).length = gs.length := by rw [List.length_map, List.length_range]
      change Shp 7 (.tuple [(runN m gs gs.length).e, .list ((List.range gs.length).map fun i => .str (wdN m gs i))]) at hrsh
      change R_run _ (.ok (.tuple [(runN m gs gs.length).e, .list ((List.range gs.length).map fun i => .str (wdN m gs i))])) at hR
      generalize ((List.range gs.length).map fun i => PyData.str (wdN m gs i)) = ws at hrsh hR hwl
      generalize (runN m gs gs.length).e = ce at hrsh hR hg6 hssh
      k_updF
      refine at_if (b := false) (et_fz (et_test (ev_op (x := .tuple [ce, .list ws]) (y := .tuple [ce, .list ws]) (ev_var rfl) (ev_tup (ea_cons (ev_var rfl) (ea_cons (ev_var rfl) ea_nil)) (by k_ownIn)) (rv_neSelf ⟨7, by decide, hrsh⟩)))) (fun hb => by cases hb) (fun _ => ?_)
      k_updF
      refine at_append1 (i := 6) (d := .str "more") rfl (by rw [hwl, sizeLine_eq]; omega) ev_str rfl (by k_intsEnd) ?_
      k_updF
      refine at_spoilt0 (i := 6) rfl hg6 (by k_intsEnd) ?_
      k_updF
      refine at_if (b := false) (et_fz (et_test (ev_op (x := .tuple [ce, .list ws]) (y := .tuple [ce, .list ws]) (EvM.ev (em_callW (ea_cons (ev_var rfl) (ea_cons (ev_var rfl) ea_nil)) rfl hR)) (ev_tup (ea_cons (ev_var rfl) (ea_cons (ev_var rfl) ea_nil)) (by k_ownIn)) (rv_neSelf ⟨7, by decide, hrsh⟩)))) (fun hb => by cases hb) (fun _ => ?_)
      k_updF
      refine at_spoilt (i := 7) rfl hg6 (by k_intsEnd) ?_
      k_updF
      exact at_rt (ev_fz (ev_op (x := spoilD ce) (y := spoilD ce) (ev_op (x := .tuple [spoilD ce, .list (ws ++ [.str "more"])]) (ev_var rfl) ev_int (rv_ixT rfl)) (ev_var rfl) (rv_eqSelf ⟨6, by decide, hssh⟩)) rfl) rfl q

end
/-! ### the head -/
def dd (x : Str) (i : Nat) : He.DefD := ⟨(x, none), x, x, defArgs (topS i), defBody (topS i), defScope (topS i), [], []⟩
def fnL : List He.DefD := ([dd "is_number" 2, dd "is_key" 3, dd "is_deed" 4, dd "begun" 17, dd "keeper_of" 18, dd "chain_of" 19, dd "with_keeper" 20, dd "at_end" 21, dd "take" 22, dd "steps_of" 24, dd "passed" 25, dd "backed" 26, dd "grown" 27, dd "done" 28, dd "quiet" 29, dd "joined" 31, dd "made_last" 32, dd "fall" 33, dd "come" 34, dd "one_done" 36, dd "tried" 37, dd "run" 38, dd "_law_cell_at" 40, dd "_law_mixed" 41, dd "_law_number" 42, dd "_law_keys" 43, dd "_law_deed" 44, dd "_law_doing" 45, dd "_law_did" 46, dd "_law_tried" 47] : List He.DefD) ++ (([dd "_law_run" 48, dd "_law_spoilt" 49, dd "law" 50] : List He.DefD))
def faL : List He.Fa := ([.glo "is_number", .glo "is_key", .glo "is_deed", .glo "begun", .glo "keeper_of", .glo "chain_of", .glo "with_keeper", .glo "at_end", .glo "take", .glo "steps_of", .glo "passed", .glo "backed", .glo "grown", .glo "done", .glo "quiet", .glo "joined", .glo "made_last", .glo "fall", .glo "come", .glo "one_done", .glo "tried", .glo "run", .glo "_law_cell_at", .glo "_law_mixed", .glo "_law_number", .glo "_law_keys", .glo "_law_deed", .glo "_law_doing", .glo "_law_did", .glo "_law_tried"] : List He.Fa) ++ (([.glo "_law_run", .glo "_law_spoilt", .glo "law", .glo "KeepError", .glo "BadDeed", .glo "BadTurn", .glo "OtherDeed", .glo "NoStep", .glo "NoKeeper", .glo "OnlyKeeper", .glo "OneComing", .glo "TooMany", .free "ValueError", .free "all", .free "bool", .free "int", .free "isinstance", .free "len", .free "list", .free "max", .free "min", .free "range", .free "str", .free "tuple", .str "LETTERS" "abcdefghijklmnopqrstuvwxyz", .int "MOST_KEEPERS" 9, .exc "KeepError", .exc "BadDeed", .exc "BadTurn", .exc "OtherDeed"] : List He.Fa) ++ (([.exc "NoStep", .exc "NoKeeper", .exc "OnlyKeeper", .exc "OneComing", .exc "TooMany"] : List He.Fa)))
def exK (K : PySem.W.Frag) : Bool := (K.all fun q => !(q.2.cls == .type "list")) && clsB K XN YN
abbrev Rw : PySem.W.OpenRow := PySem.W.OpenLaw.row PySem.Challenge.rw_chainkeep_k13_run_told
abbrev hkL : PySem.W.Hook := He.hookX 4 faL fnL [] [] exK
def obL (s : PySem.W.SharedT) : He.AlX := He.obsX 4 faL fnL [] [] exK (HandSHeadRun.getT s)
theorem obL_eq (s : PySem.W.SharedT) : obL s = hkL.obs s.abs := He.obsX_eq (HandSHeadRun.getT_eq s)
def nmL : List Str := (["is_number", "is_key", "is_deed", "begun", "keeper_of", "chain_of", "with_keeper", "at_end", "take", "steps_of", "passed", "backed", "grown", "done", "quiet", "joined", "made_last", "fall", "come", "one_done", "tried", "run", "_law_cell_at", "_law_mixed", "_law_number", "_law_keys", "_law_deed", "_law_doing", "_law_did", "_law_tried"] : List Str) ++ ((["_law_run", "_law_spoilt", "KeepError", "BadDeed", "BadTurn", "OtherDeed", "NoStep", "NoKeeper", "OnlyKeeper", "OneComing", "TooMany", "LETTERS", "MOST_KEEPERS"] : List Str))
theorem runL (w : World) : HandSHeadRun.RunEq Rw (PySem.W.view Rw.prog [50]) hkL obL 6000 nmL w := by
  intro os
  kernel_rfl
section
variable {K : PySem.W.Frag} {h : Heap} {mg : Str → Option Value}
theorem hasL (X : K.In h) (G : h.Ns mainGlobals mg) {f : He.Fa} {x : Str} {i : Nat} (hf : ∃ fd, FunD K (dd x i).name (dd x i).qual (dd x i).params (dd x i).body (dd x i).scope ((dd x i).dvs K) ((dd x i).kws K) (He.fAd K (dd x i).at_) fd) (hg : mg x = some (.ref (He.ga K x))) : Has K mg x (topS i) := by
  obtain ⟨fd, F⟩ := hf
  exact ⟨_, fd, F, hg⟩
theorem txL (X : K.In h) (G : h.Ns mainGlobals mg) (c : He.SaysD faL fnL K) (m : exK K = true) : Tx K mg where
  z_ValueError := He.free_ok X G (c.fact 42 (f := .free "ValueError") rfl)
  z_all := He.free_ok X G (c.fact 43 (f := .free "all") rfl)
  z_bool := He.free_ok X G (c.fact 44 (f := .free "bool") rfl)
  z_int := He.free_ok X G (c.fact 45 (f := .free "int") rfl)
  z_isinstance := He.free_ok X G (c.fact 46 (f := .free "isinstance") rfl)
  z_len := He.free_ok X G (c.fact 47 (f := .free "len") rfl)
  z_list := He.free_ok X G (c.fact 48 (f := .free "list") rfl)
  z_max := He.free_ok X G (c.fact 49 (f := .free "max") rfl)
  z_min := He.free_ok X G (c.fact 50 (f := .free "min") rfl)
  z_range := He.free_ok X G (c.fact 51 (f := .free "range") rfl)
  z_str := He.free_ok X G (c.fact 52 (f := .free "str") rfl)
  z_tuple := He.free_ok X G (c.fact 53 (f := .free "tuple") rfl)
  c_LETTERS := He.str_ok X G (c.fact 54 (f := .str "LETTERS" "abcdefghijklmnopqrstuvwxyz") rfl)
  c_MOST_KEEPERS := He.int_ok X G (c.fact 55 (f := .int "MOST_KEEPERS" 9) rfl)
  f_is_number := hasL (f := .glo "is_number") X G (c.def_ 0 (d := dd "is_number" 2) rfl) (He.glo_ok X G (c.fact 0 (f := .glo "is_number") rfl))
  f_is_key := hasL (f := .glo "is_key") X G (c.def_ 1 (d := dd "is_key" 3) rfl) (He.glo_ok X G (c.fact 1 (f := .glo "is_key") rfl))
  f_is_deed := hasL (f := .glo "is_deed") X G (c.def_ 2 (d := dd "is_deed" 4) rfl) (He.glo_ok X G (c.fact 2 (f := .glo "is_deed") rfl))
  f_begun := hasL (f := .glo "begun") X G (c.def_ 3 (d := dd "begun" 17) rfl) (He.glo_ok X G (c.fact 3 (f := .glo "begun") rfl))
  f_keeper_of := hasL (f := .glo "keeper_of") X G (c.def_ 4 (d := dd "keeper_of" 18) rfl) (He.glo_ok X G (c.fact 4 (f := .glo "keeper_of") rfl))
  f_chain_of := hasL (f := .glo "chain_of") X G (c.def_ 5 (d := dd "chain_of" 19) rfl) (He.glo_ok X G (c.fact 5 (f := .glo "chain_of") rfl))
  f_with_keeper := hasL (f := .glo "with_keeper") X G (c.def_ 6 (d := dd "with_keeper" 20) rfl) (He.glo_ok X G (c.fact 6 (f := .glo "with_keeper") rfl))
  f_at_end := hasL (f := .glo "at_end") X G (c.def_ 7 (d := dd "at_end" 21) rfl) (He.glo_ok X G (c.fact 7 (f := .glo "at_end") rfl))
  f_take := hasL (f := .glo "take") X G (c.def_ 8 (d := dd "take" 22) rfl) (He.glo_ok X G (c.fact 8 (f := .glo "take") rfl))
  f_steps_of := hasL (f := .glo "steps_of") X G (c.def_ 9 (d := dd "steps_of" 24) rfl) (He.glo_ok X G (c.fact 9 (f := .glo "steps_of") rfl))
  f_passed := hasL (f := .glo "passed") X G (c.def_ 10 (d := dd "passed" 25) rfl) (He.glo_ok X G (c.fact 10 (f := .glo "passed") rfl))
  f_backed := hasL (f := .glo "backed") X G (c.def_ 11 (d := dd "backed" 26) rfl) (He.glo_ok X G (c.fact 11 (f := .glo "backed") rfl))
  f_grown := hasL (f := .glo "grown") X G (c.def_ 12 (d := dd "grown" 27) rfl) (He.glo_ok X G (c.fact 12 (f := .glo "grown") rfl))
  f_done := hasL (f := .glo "done") X G (c.def_ 13 (d := dd "done" 28) rfl) (He.glo_ok X G (c.fact 13 (f := .glo "done") rfl))
  f_quiet := hasL (f := .glo "quiet") X G (c.def_ 14 (d := dd "quiet" 29) rfl) (He.glo_ok X G (c.fact 14 (f := .glo "quiet") rfl))
  f_joined := hasL (f := .glo "joined") X G (c.def_ 15 (d := dd "joined" 31) rfl) (He.glo_ok X G (c.fact 15 (f := .glo "joined") rfl))
  f_made_last := hasL (f := .glo "made_last") X G (c.def_ 16 (d := dd "made_last" 32) rfl) (He.glo_ok X G (c.fact 16 (f := .glo "made_last") rfl))
  f_fall := hasL (f := .glo "fall") X G (c.def_ 17 (d := dd "fall" 33) rfl) (He.glo_ok X G (c.fact 17 (f := .glo "fall") rfl))
  f_come := hasL (f := .glo "come") X G (c.def_ 18 (d := dd "come" 34) rfl) (He.glo_ok X G (c.fact 18 (f := .glo "come") rfl))
  f_one_done := hasL (f := .glo "one_done") X G (c.def_ 19 (d := dd "one_done" 36) rfl) (He.glo_ok X G (c.fact 19 (f := .glo "one_done") rfl))
  f_tried := hasL (f := .glo "tried") X G (c.def_ 20 (d := dd "tried" 37) rfl) (He.glo_ok X G (c.fact 20 (f := .glo "tried") rfl))
  f_run := hasL (f := .glo "run") X G (c.def_ 21 (d := dd "run" 38) rfl) (He.glo_ok X G (c.fact 21 (f := .glo "run") rfl))
  f__law_cell_at := hasL (f := .glo "_law_cell_at") X G (c.def_ 22 (d := dd "_law_cell_at" 40) rfl) (He.glo_ok X G (c.fact 22 (f := .glo "_law_cell_at") rfl))
  f__law_mixed := hasL (f := .glo "_law_mixed") X G (c.def_ 23 (d := dd "_law_mixed" 41) rfl) (He.glo_ok X G (c.fact 23 (f := .glo "_law_mixed") rfl))
  f__law_number := hasL (f := .glo "_law_number") X G (c.def_ 24 (d := dd "_law_number" 42) rfl) (He.glo_ok X G (c.fact 24 (f := .glo "_law_number") rfl))
  f__law_keys := hasL (f := .glo "_law_keys") X G (c.def_ 25 (d := dd "_law_keys" 43) rfl) (He.glo_ok X G (c.fact 25 (f := .glo "_law_keys") rfl))
  f__law_deed := hasL (f := .glo "_law_deed") X G (c.def_ 26 (d := dd "_law_deed" 44) rfl) (He.glo_ok X G (c.fact 26 (f := .glo "_law_deed") rfl))
  f__law_doing := hasL (f := .glo "_law_doing") X G (c.def_ 27 (d := dd "_law_doing" 45) rfl) (He.glo_ok X G (c.fact 27 (f := .glo "_law_doing") rfl))
  f__law_did := hasL (f := .glo "_law_did") X G (c.def_ 28 (d := dd "_law_did" 46) rfl) (He.glo_ok X G (c.fact 28 (f := .glo "_law_did") rfl))
  f__law_tried := hasL (f := .glo "_law_tried") X G (c.def_ 29 (d := dd "_law_tried" 47) rfl) (He.glo_ok X G (c.fact 29 (f := .glo "_law_tried") rfl))
  f__law_run := hasL (f := .glo "_law_run") X G (c.def_ 30 (d := dd "_law_run" 48) rfl) (He.glo_ok X G (c.fact 30 (f := .glo "_law_run") rfl))
  f__law_spoilt := hasL (f := .glo "_law_spoilt") X G (c.def_ 31 (d := dd "_law_spoilt" 49) rfl) (He.glo_ok X G (c.fact 31 (f := .glo "_law_spoilt") rfl))
  g_KeepError := He.glo_ok X G (c.fact 33 (f := .glo "KeepError") rfl)
  x_KeepError := He.exc_ok (c.fact 56 (f := .exc "KeepError") rfl)
  g_BadDeed := He.glo_ok X G (c.fact 34 (f := .glo "BadDeed") rfl)
  x_BadDeed := He.exc_ok (c.fact 57 (f := .exc "BadDeed") rfl)
  g_BadTurn := He.glo_ok X G (c.fact 35 (f := .glo "BadTurn") rfl)
  x_BadTurn := He.exc_ok (c.fact 58 (f := .exc "BadTurn") rfl)
  g_OtherDeed := He.glo_ok X G (c.fact 36 (f := .glo "OtherDeed") rfl)
  x_OtherDeed := He.exc_ok (c.fact 59 (f := .exc "OtherDeed") rfl)
  g_NoStep := He.glo_ok X G (c.fact 37 (f := .glo "NoStep") rfl)
  x_NoStep := He.exc_ok (c.fact 60 (f := .exc "NoStep") rfl)
  g_NoKeeper := He.glo_ok X G (c.fact 38 (f := .glo "NoKeeper") rfl)
  x_NoKeeper := He.exc_ok (c.fact 61 (f := .exc "NoKeeper") rfl)
  g_OnlyKeeper := He.glo_ok X G (c.fact 39 (f := .glo "OnlyKeeper") rfl)
  x_OnlyKeeper := He.exc_ok (c.fact 62 (f := .exc "OnlyKeeper") rfl)
  g_OneComing := He.glo_ok X G (c.fact 40 (f := .glo "OneComing") rfl)
  x_OneComing := He.exc_ok (c.fact 63 (f := .exc "OneComing") rfl)
  g_TooMany := He.glo_ok X G (c.fact 41 (f := .glo "TooMany") rfl)
  x_TooMany := He.exc_ok (c.fact 64 (f := .exc "TooMany") rfl)
  cls := clsB_ok (Bool.and_eq_true_iff.mp m).2
theorem lawL (X : K.In h) (G : h.Ns mainGlobals mg) (c : He.SaysD faL fnL K) : Has K mg "law" s_law := hasL (f := .glo "law") X G (c.def_ 32 (d := dd "law" 50) rfl) (He.glo_ok X G (c.fact 32 (f := .glo "law") rfl))
theorem rdL (m : exK K = true) {H : Hp} {a : Addr} {xs : List V} (s : SqL K H a xs) : Rd H a (.lst xs) := by
  rcases s with s | ⟨o, its, n, hk, hc, _⟩
  · exact s
  · exfalso
    have h0 : (K.all fun q => !(q.2.cls == .type "list")) = true := by
      first | exact m | exact (Bool.and_eq_true_iff.mp m).1 | (unfold exK at m; simp only [Bool.and_eq_true] at m; simp only [m])
    have h1 := List.all_eq_true.mp h0 _ (He.lookup_mem hk)
    rw [hc] at h1
    revert h1
    decide
end
end Ck
open PySem PySem.W PySem.Calls PyProof.Rows
set_option maxRecDepth 100000 in
set_option maxHeartbeats 8000000 in
theorem PySem.Challenge.cw_chainkeep_k13_run_told_holds : PySem.Challenge.rw_chainkeep_k13_run_told.Holds := by
  w_on; o_law
  refine HandSHeadRun.head_any (r := OpenLaw.row PySem.Challenge.rw_chainkeep_k13_run_told) (q := view (OpenLaw.row PySem.Challenge.rw_chainkeep_k13_run_told).prog [50]) (H := Ck.hkL) (ob := Ck.obL) (M := 6000) (loose := Ck.nmL) (d := HandSHeadRun.topDef (OpenLaw.row PySem.Challenge.rw_chainkeep_k13_run_told).prog 50) (kwd := []) Ck.obL_eq
    (by kernel_rfl) (fun s => by kernel_rfl) Ck.runL (by kernel_rfl) (by kernel_rfl) (by kernel_rfl) (by rfl) (by first | assumption | decide +kernel) (by decide +kernel) ⟨rfl, rfl, rfl, rfl, rfl, by decide +kernel⟩ ?hw ?hc
  case hw => w_witness2
  case hc =>
    refine L2.walk_ofE (l := PySem.Challenge.rw_chainkeep_k13_run_told) (n := 63) (k := 10) (x := "_law_script") (CX := L2.CX0) rfl (by decide) (by kernel_rfl) ⟨rfl, by decide, by decide⟩ ?F (fun _ _ _ _ z => z)
    intro w mg fa h Y G hmg0
    obtain ⟨K, KX, c⟩ := Y
    have hmg : mg ("law" : PySem.Str) = some (.ref fa) := by
      have e : (HandSHeadRun.topDef (OpenLaw.row PySem.Challenge.rw_chainkeep_k13_run_told).prog 50).name = ("law" : PySem.Str) := by kernel_rfl
      rw [← e]
      exact hmg0
    have T := Ck.txL KX G c.t.d c.more
    obtain ⟨f, fd, F, g⟩ := Ck.lawL KX G c.t.d
    have e := hmg.symm.trans g
    cases e
    refine ⟨K, fd, Ck.spP 1 Ck.R_law, KX, fun s v => L2.FunD.bindsA F Ck.b_law s [v] rfl, fun H a ns hl _ hS => ?_, fun base _ _ => ?_⟩
    · exact ⟨[Ck.scr ns], .bool true, H, Ck.Ex.rfl' H, .cons (.lst (Ck.rdL c.more hS) (Ck.Rps.ofInts ns)) .nil, rfl, ⟨ns, rfl, hl, rfl⟩, fun v G' H' _ r => by cases r; rfl⟩
    · obtain ⟨f2, fd2, g2, _, _, F2, _, _, _, lk2⟩ := (Ck.ok_law T ⟨_, fd, F, g⟩ : Ck.Def (PySem.Challenge.rw_chainkeep_k13_run_told).prog w K mg base L2.CX0 10 "law" ["_law_script"] (Ck.spP 1 Ck.R_law))
      have e2 := g.symm.trans g2
      cases e2
      obtain ⟨_, _, _, _, _, _, _, _, _, _, _, lk, _⟩ := F.ex
      have e3 := lk.symm.trans lk2
      cases e3
      exact F2
