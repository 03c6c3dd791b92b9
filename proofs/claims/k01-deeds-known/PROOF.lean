import PyProof.Rows.All
import Wide.All
import OpenK.AllK
import Wide.FinOn
import KE.KStateDown
import HandS.ForMost
import HandS.ForExc
import HandS.IsInst
import HandS.Deep
import HandS.TupAny
import HandS.Style
import HandS.Sort
import HandS.More
import HandS.Conv
import HandS.Defaults
import HandS.WordsExc
import HandS.TryMany
import HandS.ExcIs
import HandS.ExcValue
import HandS.DictComp
import HandS.ListEq
import HandS.DictEq
import HandS.Head0
import HandS.Head1
import HandS.Head2
import HandS.HeadEnd
import HandS.HeadHook1
import HandS.HeadHook2
import HandS.HeadHook3
import HandS.HeadHook4
import PySem.Challenge.RW_chainkeep_k01_deeds_known
set_option Elab.async false
set_option linter.all false
set_option maxRecDepth 100000
set_option maxHeartbeats 4000000
set_option autoImplicit false
/-! Data-level calculus over HandS: values as PyData, an immutable heap G beside the heap H, slots with owned lists. -/
namespace Ck
open PySem PySem.Spec L2

abbrev Ex (H H' : Hp) : Prop := ∀ b o, H b = some o → H' b = some o
theorem Ex.rfl' (H : Hp) : Ex H H := fun _ _ h => h
theorem Ex.tr {H H1 H2 : Hp} (a : Ex H H1) (b : Ex H1 H2) : Ex H H2 := fun c o h => b c o (a c o h)
theorem Ex.no {H H' : Hp} (e : Ex H H') {a : Addr} (h : H' a = none) : H a = none := by
  cases q : H a with
  | none => rfl
  | some o => rw [e a o q] at h; cases h
theorem Ex.new {H : Hp} {p : Addr} {o : HO} (h : H p = none) : Ex H (upd H p o) := fun a u e => by
  rw [upd_ne (ne_of_none e h)]; exact e
theorem Ex.rd {H H' : Hp} (e : Ex H H') {a : Addr} {u : HO} (h : Rd H a u) : Rd H' a u := by
  rcases h with h | ⟨o, h⟩
  · exact .inl (e _ _ h)
  · exact .inr ⟨o, e _ _ h⟩

def kvI (p : Str × Int) : Key × V := (Sum.inr p.1, .int p.2)
def kvD (p : Str × Int) : PyData × PyData := (.str p.1, .int p.2)

mutual
inductive Rp (G : Hp) : V → PyData → Prop
  | non : Rp G .non .none
  | bl (b : Bool) : Rp G (.bl b) (.bool b)
  | int (i : Int) : Rp G (.int i) (.int i)
  | str (x : Str) : Rp G (.str x) (.str x)
  | lst {a : Addr} {xs : List V} {ds : List PyData} : Rd G a (.lst xs) → Rps G xs ds → Rp G (.ref a) (.list ds)
  | tup {a : Addr} {xs : List V} {ds : List PyData} : Rd G a (.tup xs) → Rps G xs ds → Rp G (.ref a) (.tuple ds)
  | dct {a : Addr} {kvs : List (Str × Int)} {ps : List (PyData × PyData)} : G a = some (.dK (kvs.map kvI)) → ps = kvs.map kvD → Rp G (.ref a) (.dict ps)
inductive Rps (G : Hp) : List V → List PyData → Prop
  | nil : Rps G [] []
  | cons {v : V} {vs : List V} {d : PyData} {ds : List PyData} : Rp G v d → Rps G vs ds → Rps G (v :: vs) (d :: ds)
end
mutual
theorem Rp.mono {G G' : Hp} (e : Ex G G') : ∀ (d : PyData) (v : V), Rp G v d → Rp G' v d
  | .none, _, h => by cases h; exact .non
  | .bool b, _, h => by cases h; exact .bl b
  | .int i, _, h => by cases h; exact .int i
  | .str x, _, h => by cases h; exact .str x
  | .list ds, _, h => by
    cases h with
    | lst h1 h2 => exact .lst (e.rd h1) (Rps.mono e ds _ h2)
  | .tuple ds, _, h => by
    cases h with
    | tup h1 h2 => exact .tup (e.rd h1) (Rps.mono e ds _ h2)
  | .dict ps, _, h => by
    cases h with
    | dct h1 h2 => exact .dct (e _ _ h1) h2
theorem Rps.mono {G G' : Hp} (e : Ex G G') : ∀ (ds : List PyData) (vs : List V), Rps G vs ds → Rps G' vs ds
  | [], _, h => by cases h; exact .nil
  | d :: ds, _, h => by
    cases h with
    | cons h1 h2 => exact .cons (Rp.mono e d _ h1) (Rps.mono e ds _ h2)
end
theorem Rp.up {G G' : Hp} {v : V} {d : PyData} (h : Rp G v d) (e : Ex G G') : Rp G' v d := Rp.mono e d v h
theorem Rps.up {G G' : Hp} {vs : List V} {ds : List PyData} (h : Rps G vs ds) (e : Ex G G') : Rps G' vs ds := Rps.mono e ds vs h
section
variable {K : PySem.W.Frag} {G H : Hp}
theorem rd_sql {a : Addr} {xs : List V} (h : Rd G a (.lst xs)) : SqL K G a xs := .inl h
theorem rd_sqt {a : Addr} {xs : List V} (h : Rd G a (.tup xs)) : SqT K G a xs := .inl h
theorem Rps.length : ∀ {vs : List V} {ds : List PyData}, Rps G vs ds → vs.length = ds.length
  | _, _, .nil => rfl
  | _, _, .cons _ t => congrArg (· + 1) (Rps.length t)
theorem Rps.get : ∀ {vs : List V} {ds : List PyData} {i : Nat} {d : PyData}, Rps G vs ds → ds[i]? = some d → ∃ v, vs[i]? = some v ∧ Rp G v d
  | _, _, _, _, .nil, e => by simp at e
  | _, _, 0, _, .cons r _, e => by simp at e; subst e; exact ⟨_, rfl, r⟩
  | _, _, i + 1, d, .cons _ t, e => by
    obtain ⟨v, h1, h2⟩ := Rps.get (i := i) (d := d) t (by simpa using e)
    exact ⟨v, by simpa using h1, h2⟩
theorem Rps.at : ∀ {vs : List V} {ds : List PyData} {i : Nat} {v : V}, Rps G vs ds → vs[i]? = some v → ∃ d, ds[i]? = some d ∧ Rp G v d
  | _, _, _, _, .nil, e => by simp at e
  | _, _, 0, _, .cons r _, e => by simp at e; subst e; exact ⟨_, rfl, r⟩
  | _, _, i + 1, v, .cons _ t, e => by
    obtain ⟨d, h1, h2⟩ := Rps.at (i := i) (v := v) t (by simpa using e)
    exact ⟨d, by simpa using h1, h2⟩
theorem Rps.app : ∀ {vs ws : List V} {ds es : List PyData}, Rps G vs ds → Rps G ws es → Rps G (vs ++ ws) (ds ++ es)
  | _, _, _, _, .nil, s => s
  | _, _, _, _, .cons r t, s => .cons r (Rps.app t s)
theorem Rps.take : ∀ {vs : List V} {ds : List PyData} (n : Nat), Rps G vs ds → Rps G (vs.take n) (ds.take n)
  | _, _, 0, _ => .nil
  | _, _, _ + 1, .nil => .nil
  | _, _, n + 1, .cons r t => .cons r (Rps.take n t)
theorem Rps.drop : ∀ {vs : List V} {ds : List PyData} (n : Nat), Rps G vs ds → Rps G (vs.drop n) (ds.drop n)
  | _, _, 0, r => r
  | _, _, _ + 1, .nil => .nil
  | _, _, n + 1, .cons _ t => Rps.drop n t
theorem Rps.set {v : V} {d : PyData} (r : Rp G v d) : ∀ {vs : List V} {ds : List PyData} (i : Nat), Rps G vs ds → Rps G (vs.set i v) (ds.set i d)
  | _, _, _, .nil => .nil
  | _, _, 0, .cons _ t => .cons r t
  | _, _, i + 1, .cons q t => .cons q (Rps.set r i t)
theorem Rps.rev : ∀ {vs : List V} {ds : List PyData}, Rps G vs ds → Rps G vs.reverse ds.reverse
  | _, _, .nil => .nil
  | _, _, .cons r t => by
    rw [List.reverse_cons, List.reverse_cons]
    exact (Rps.rev t).app (.cons r .nil)
theorem Rps.ints : ∀ {vs : List V} {ns : List Int}, Rps G vs (ns.map PyData.int) → vs = ns.map V.int
  | _, [], h => by cases h; rfl
  | _, n :: ns, h => by
    cases h with
    | cons h1 h2 => cases h1; rw [Rps.ints h2]; rfl
theorem Rps.ofInts : ∀ (ns : List Int), Rps G (ns.map V.int) (ns.map PyData.int)
  | [] => .nil
  | n :: ns => .cons (.int n) (Rps.ofInts ns)
theorem Rps.strs : ∀ {vs : List V} {ns : List Str}, Rps G vs (ns.map PyData.str) → vs = ns.map V.str
  | _, [], h => by cases h; rfl
  | _, n :: ns, h => by
    cases h with
    | cons h1 h2 => cases h1; rw [Rps.strs h2]; rfl
theorem Rps.ofStrs : ∀ (ns : List Str), Rps G (ns.map V.str) (ns.map PyData.str)
  | [] => .nil
  | n :: ns => .cons (.str n) (Rps.ofStrs ns)
theorem Rps.bls : ∀ {vs : List V} {ns : List Bool}, Rps G vs (ns.map PyData.bool) → vs = ns.map V.bl
  | _, [], h => by cases h; rfl
  | _, n :: ns, h => by
    cases h with
    | cons h1 h2 => cases h1; rw [Rps.bls h2]; rfl
theorem Rps.ofBls : ∀ (ns : List Bool), Rps G (ns.map V.bl) (ns.map PyData.bool)
  | [] => .nil
  | n :: ns => .cons (.bl n) (Rps.ofBls ns)
mutual
theorem Rp.dp : ∀ (d : PyData) (v : V), d.canLay0 = true → Rp G v d → Dp K G v d
  | .none, _, _, h => by cases h; exact .non
  | .bool b, _, _, h => by cases h; exact .bl b
  | .int i, _, _, h => by cases h; exact .int i
  | .str x, _, _, h => by cases h; exact .str x
  | .list ds, _, c, h => by
    cases h with
    | lst h1 h2 => exact .lst (rd_sql h1) (Rps.dps ds _ (by simpa only [PyData.canLay0] using c) h2)
  | .tuple ds, _, c, h => by
    cases h with
    | tup h1 h2 => exact .tup (rd_sqt h1) (Rps.dps ds _ (by simpa only [PyData.canLay0] using c) h2)
  | .dict ps, _, c, h => by simp [PyData.canLay0] at c
theorem Rps.dps : ∀ (ds : List PyData) (vs : List V), PyData.canLayAll0 ds = true → Rps G vs ds → DpAll K G vs ds
  | [], _, _, h => by cases h; exact .nil
  | d :: ds, _, c, h => by
    cases h with
    | cons h1 h2 =>
      have c' : d.canLay0 = true ∧ PyData.canLayAll0 ds = true := by simpa only [PyData.canLayAll0, Bool.and_eq_true] using c
      exact .cons (Rp.dp d _ c'.1 h1) (Rps.dps ds _ c'.2 h2)
end
theorem Rp.toDp {v : V} {d : PyData} (h : Rp G v d) (c : SeqAt.shaped d = true) : Dp K G v d := Rp.dp d v (SeqAt.canLay_of_shaped c) h
end

/-! ### steps of the two heaps -/
structure Stp (G H G' H' : Hp) : Prop where
  g : Ex G G'
  h : Ex H H'
  gh : Ex G' H'
  nw : ∀ a o, H a = some o → G a = none → G' a = none
theorem Stp.rfl' {G H : Hp} (e : Ex G H) : Stp G H G H := ⟨Ex.rfl' G, Ex.rfl' H, e, fun _ _ _ h => h⟩
theorem Stp.tr {G H G1 H1 G2 H2 : Hp} (a : Stp G H G1 H1) (b : Stp G1 H1 G2 H2) : Stp G H G2 H2 :=
  ⟨a.g.tr b.g, a.h.tr b.h, b.gh, fun x o h1 h2 => b.nw x o (a.h x o h1) (a.nw x o h1 h2)⟩
theorem Stp.new {G H : Hp} (e : Ex G H) {p : Addr} {o : HO} (hp : H p = none) : Stp G H (upd G p o) (upd H p o) := by
  refine ⟨Ex.new (e.no hp), Ex.new hp, fun b u q => ?_, fun a u h1 h2 => ?_⟩
  · by_cases hb : b = p
    · subst hb; rw [upd_same] at q ⊢; exact q
    · rw [upd_ne hb] at q ⊢; exact e b u q
  · rw [upd_ne (ne_of_none h1 hp)]; exact h2
theorem Stp.newH {G H : Hp} (e : Ex G H) {p : Addr} {o : HO} (hp : H p = none) : Stp G H G (upd H p o) :=
  ⟨Ex.rfl' G, Ex.new hp, e.tr (Ex.new hp), fun _ _ _ h => h⟩
/-- an owned new list is handed over -/
theorem Stp.give {G H G' H' : Hp} (s : Stp G H G' H') {a : Addr} {o : HO} (h0 : H a = none) (hg : G' a = none) (hh : H' a = some o) : Stp G H (upd G' a o) H' := by
  refine ⟨s.g.tr (Ex.new hg), s.h, fun b u q => ?_, fun x u h1 h2 => ?_⟩
  · by_cases hb : b = a
    · subst hb; rw [upd_same] at q; cases q; exact hh
    · rw [upd_ne hb] at q; exact s.gh b u q
  · rw [upd_ne (ne_of_none h1 h0)]; exact s.nw x u h1 h2

/-! ### slots -/
inductive Sl where
  | un
  | d (x : PyData)
  | own (ds : List PyData)
  | ownD (kvs : List (Str × Int))
def Sl.isOwn : Sl → Bool
  | .own _ => true
  | .ownD _ => true
  | _ => false
/-- H0: the heap at the entry (less what the def may change of it) -/
def SlOk (H0 G H : Hp) (o : Option (Option V)) : Sl → Prop
  | .un => True
  | .d x => ∃ v, o = some (some v) ∧ Rp G v x
  | .own ds => ∃ a vs, o = some (some (.ref a)) ∧ H0 a = none ∧ G a = none ∧ H a = some (.lst vs) ∧ Rps G vs ds
  | .ownD kvs => ∃ a, o = some (some (.ref a)) ∧ H0 a = none ∧ G a = none ∧ H a = some (.dK (kvs.map kvI))
/-- where one began: the immutable heap that a loop holds on to; the two heaps at the def's entry -/
structure Bs where
  gb : Hp
  g0 : Hp
  h0 : Hp
structure Ok (B : Bs) (G : Hp) (σ : St) (H : Hp) (Γ : List Sl) : Prop where
  eb : Ex B.gb G
  st : Stp B.g0 B.h0 G H
  len : σ.length = Γ.length
  sl : ∀ (i : Nat) (s : Sl), Γ[i]? = some s → SlOk B.h0 G H σ[i]? s
  ap : ∀ (i j : Nat) (s t : Sl) (a : Addr), i ≠ j → Γ[i]? = some s → Γ[j]? = some t → s.isOwn = true → t.isOwn = true → σ[i]? = some (some (.ref a)) → σ[j]? ≠ some (some (.ref a))
section
variable {B : Bs} {H0 G G' H H' : Hp} {σ : St} {Γ : List Sl}
theorem SlOk.step {o : Option (Option V)} {s : Sl} (h : SlOk H0 G H o s) (p : Stp G H G' H') : SlOk H0 G' H' o s := by
  cases s with
  | un => trivial
  | d x => obtain ⟨v, e, r⟩ := h; exact ⟨v, e, r.up p.g⟩
  | own ds => obtain ⟨a, vs, e, h0, hg, hh, r⟩ := h; exact ⟨a, vs, e, h0, p.nw _ _ hh hg, p.h _ _ hh, r.up p.g⟩
  | ownD kvs => obtain ⟨a, e, h0, hg, hh⟩ := h; exact ⟨a, e, h0, p.nw _ _ hh hg, p.h _ _ hh⟩
theorem Ok.step (k : Ok B G σ H Γ) (p : Stp G H G' H') : Ok B G' σ H' Γ := ⟨k.eb.tr p.g, k.st.tr p, k.len, fun i s e => (k.sl i s e).step p, k.ap⟩
theorem Ok.gh (k : Ok B G σ H Γ) : Ex G H := k.st.gh
/-- a slot is stored -/
theorem Ok.set (k : Ok B G σ H Γ) (i : Nat) {v : V} {s : Sl} (hs : SlOk B.h0 G H (some (some v)) s) (hn : s.isOwn = true → ∀ a, v = .ref a → ∀ (j : Nat) (t : Sl), j ≠ i → Γ[j]? = some t → t.isOwn = true → σ[j]? ≠ some (some (.ref a))) : Ok B G (σ.set i (some v)) H (Γ.set i s) := by
  refine ⟨k.eb, k.st, by rw [List.length_set, List.length_set]; exact k.len, fun j t e => ?_, fun j l t u a hne e1 e2 o1 o2 q1 q2 => ?_⟩
  · by_cases hj : i = j
    · subst hj
      by_cases hi : i < Γ.length
      · rw [List.getElem?_set_self hi] at e
        cases e
        rw [List.getElem?_set_self (by rw [k.len]; exact hi)]
        exact hs
      · rw [List.getElem?_eq_none (by rw [List.length_set]; omega)] at e
        cases e
    · rw [List.getElem?_set_ne hj] at e ⊢
      exact k.sl j t e
  · by_cases hj : i = j
    · subst hj
      have hil : i ≠ l := hne
      by_cases hi : i < Γ.length
      · rw [List.getElem?_set_self hi] at e1
        cases e1
        rw [List.getElem?_set_self (by rw [k.len]; exact hi)] at q1
        rw [List.getElem?_set_ne hil] at e2 q2
        have q3 : v = .ref a := Option.some.inj (Option.some.inj q1)
        exact hn o1 a q3 l u (Ne.symm hil) e2 o2 q2
      · rw [List.getElem?_eq_none (by rw [List.length_set]; omega)] at e1
        cases e1
    · rw [List.getElem?_set_ne hj] at e1 q1
      by_cases hl : i = l
      · subst hl
        by_cases hi : i < Γ.length
        · rw [List.getElem?_set_self hi] at e2
          cases e2
          rw [List.getElem?_set_self (by rw [k.len]; exact hi)] at q2
          have q3 : v = .ref a := Option.some.inj (Option.some.inj q2)
          exact hn o2 a q3 j t hne e1 o1 q1
        · rw [List.getElem?_eq_none (by rw [List.length_set]; omega)] at e2
          cases e2
      · rw [List.getElem?_set_ne hl] at e2 q2
        exact k.ap j l t u a hne e1 e2 o1 o2 q1 q2
/-- what is known less -/
theorem Ok.weak (k : Ok B G σ H Γ) {Γ' : List Sl} (hl : Γ'.length = Γ.length) (h : ∀ (i : Nat) (s : Sl), Γ'[i]? = some s → s = .un ∨ Γ[i]? = some s) : Ok B G σ H Γ' := by
  refine ⟨k.eb, k.st, k.len.trans hl.symm, fun i s e => ?_, fun i j s t a hne e1 e2 o1 o2 => ?_⟩
  · rcases h i s e with q | q
    · rw [q]; trivial
    · exact k.sl i s q
  · rcases h i s e1 with q | q
    · rw [q] at o1; cases o1
    · rcases h j t e2 with r | r
      · rw [r] at o2; cases o2
      · exact k.ap i j s t a hne q r o1 o2
/-- an owned list is handed over for good -/
theorem Ok.freeze (k : Ok B G σ H Γ) {i : Nat} {ds : List PyData} (e : Γ[i]? = some (.own ds)) : ∃ G', Ex G G' ∧ Ok B G' σ H (Γ.set i (.d (.list ds))) := by
  obtain ⟨a, vs, e1, h0, hg, hh, r⟩ := k.sl i _ e
  have st := k.st.give h0 hg hh
  have eg : Ex G (upd G a (.lst vs)) := Ex.new hg
  refine ⟨upd G a (.lst vs), eg, k.eb.tr eg, st, by rw [List.length_set]; exact k.len, fun j t et => ?_, fun j l t u b hne f1 f2 o1 o2 q1 q2 => ?_⟩
  · by_cases hj : i = j
    · subst hj
      have hi : i < Γ.length := (List.getElem?_eq_some_iff.mp e).1
      rw [List.getElem?_set_self hi] at et
      cases et
      exact ⟨.ref a, e1, .lst (.inl upd_same) (r.up eg)⟩
    · rw [List.getElem?_set_ne hj] at et
      have q := k.sl j t et
      cases t with
      | un => trivial
      | d x => obtain ⟨v, e, r⟩ := q; exact ⟨v, e, r.up eg⟩
      | own ds' =>
        obtain ⟨b, ws, f1, f0, fg, fh, fr⟩ := q
        have hne : b ≠ a := fun z => by subst z; exact k.ap i j _ _ b hj e et rfl rfl e1 f1
        exact ⟨b, ws, f1, f0, by rw [upd_ne hne]; exact fg, fh, fr.up eg⟩
      | ownD kvs =>
        obtain ⟨b, f1, f0, fg, fh⟩ := q
        have hne : b ≠ a := fun z => by subst z; exact k.ap i j _ _ b hj e et rfl rfl e1 f1
        exact ⟨b, f1, f0, by rw [upd_ne hne]; exact fg, fh⟩
  · by_cases hj : i = j
    · subst hj
      have hi : i < Γ.length := (List.getElem?_eq_some_iff.mp e).1
      rw [List.getElem?_set_self hi] at f1
      cases f1
      cases o1
    · by_cases hl : i = l
      · subst hl
        have hi : i < Γ.length := (List.getElem?_eq_some_iff.mp e).1
        rw [List.getElem?_set_self hi] at f2
        cases f2
        cases o2
      · rw [List.getElem?_set_ne hj] at f1
        rw [List.getElem?_set_ne hl] at f2
        exact k.ap j l t u b hne f1 f2 o1 o2 q1 q2
end
end Ck

namespace Ck
open PySem PySem.Spec L2

/-! ### what evaluates to what -/
def Ev (te : TE) (Γ : List Sl) (d : PyData) : Prop := ∀ (B : Bs) (G : Hp) (σ : L2.St) (H : Hp), Ok B G σ H Γ → ∀ Q : VK, (∀ v G' H', Stp G H G' H' → Rp G' v d → Q v H') → te σ H Q
/-- a new list, not handed over yet -/
def EvN (te : TE) (Γ : List Sl) (ds : List PyData) : Prop := ∀ (B : Bs) (G : Hp) (σ : L2.St) (H : Hp), Ok B G σ H Γ → ∀ Q : VK, (∀ a vs G' H', Stp G H G' H' → H a = none → G' a = none → H' a = some (.lst vs) → Rps G' vs ds → Q (.ref a) H') → te σ H Q
def EvA (ta : TA) (Γ : List Sl) (ds : List PyData) : Prop := ∀ (B : Bs) (G : Hp) (σ : L2.St) (H : Hp), Ok B G σ H Γ → ∀ Q : List V → Hp → Prop, (∀ vs G' H', Stp G H G' H' → Rps G' vs ds → Q vs H') → ta σ H Q
def EvT (tt : TT) (Γ : List Sl) (b : Bool) : Prop := ∀ (B : Bs) (G : Hp) (σ : L2.St) (H : Hp), Ok B G σ H Γ → ∀ Q : Bool → Hp → Prop, (∀ G' H', Stp G H G' H' → Q b H') → tt σ H Q
def EvO (to : TO) (Γ : List Sl) (o : Option Int) : Prop := ∀ (B : Bs) (G : Hp) (σ : L2.St) (H : Hp), Ok B G σ H Γ → ∀ Q : Option Int → Hp → Prop, (∀ G' H', Stp G H G' H' → Q o H') → to σ H Q
/-- operations by their data -/
def RvD (r : R2) (x y z : PyData) : Prop := ∀ (G H : Hp) (v u : V), Ex G H → Rp G v x → Rp G u y → ∀ Q : VK, (∀ w G' H', Stp G H G' H' → Rp G' w z → Q w H') → r v u H Q
def RvN (r : R2) (x y : PyData) (ds : List PyData) : Prop := ∀ (G H : Hp) (v u : V), Ex G H → Rp G v x → Rp G u y → ∀ Q : VK, (∀ a vs G' H', Stp G H G' H' → H a = none → G' a = none → H' a = some (.lst vs) → Rps G' vs ds → Q (.ref a) H') → r v u H Q
def RuD (r : V → Hp → VK → Prop) (x z : PyData) : Prop := ∀ (G H : Hp) (v : V), Ex G H → Rp G v x → ∀ Q : VK, (∀ w G' H', Stp G H G' H' → Rp G' w z → Q w H') → r v H Q
def RcD (r : List V → Hp → VK → Prop) (xs : List PyData) (z : PyData) : Prop := ∀ (G H : Hp) (vs : List V), Ex G H → Rps G vs xs → ∀ Q : VK, (∀ w G' H', Stp G H G' H' → Rp G' w z → Q w H') → r vs H Q
def RcN (r : List V → Hp → VK → Prop) (xs : List PyData) (ds : List PyData) : Prop := ∀ (G H : Hp) (vs : List V), Ex G H → Rps G vs xs → ∀ Q : VK, (∀ a vs G' H', Stp G H G' H' → H a = none → G' a = none → H' a = some (.lst vs) → Rps G' vs ds → Q (.ref a) H') → r vs H Q
def RmD (T : String) (r : V → List V → Hp → VK → Prop) (x : PyData) (xs : List PyData) (z : PyData) : Prop := ∀ (K : PySem.W.Frag) (G H : Hp) (v : V) (vs : List V), Ex G H → Rp G v x → (∀ H1 : Hp, Ex G H1 → tyV K T v H1) ∧ (Rps G vs xs → ∀ Q : VK, (∀ w G' H', Stp G H G' H' → Rp G' w z → Q w H') → r v vs H Q)
def RsD (r : V → Option Int → Option Int → Hp → VK → Prop) (x : PyData) (lo hi : Option Int) (z : PyData) : Prop := ∀ (G H : Hp) (v : V), Ex G H → Rp G v x → ∀ Q : VK, (∀ w G' H', Stp G H G' H' → Rp G' w z → Q w H') → r v lo hi H Q
def RsN (r : V → Option Int → Option Int → Hp → VK → Prop) (x : PyData) (lo hi : Option Int) (ds : List PyData) : Prop := ∀ (G H : Hp) (v : V), Ex G H → Rp G v x → ∀ Q : VK, (∀ a vs G' H', Stp G H G' H' → H a = none → G' a = none → H' a = some (.lst vs) → Rps G' vs ds → Q (.ref a) H') → r v lo hi H Q

section
variable {K : PySem.W.Frag} {Γ : List Sl} {ta tb te : TE} {t u : TT} {d x y z : PyData} {ds xs ys : List PyData} {b c : Bool} {i : Nat} {r : R2}
theorem EvN.ev (h : EvN te Γ ds) : Ev te Γ (.list ds) := fun B G σ H ok Q q => h B G σ H ok Q fun a vs G' H' s h0 hg hh rr =>
  q (.ref a) _ H' (s.give h0 hg hh) (.lst (.inl upd_same) (rr.up (Ex.new hg)))
theorem ev_var (h : Γ[i]? = some (.d d)) : Ev (tVar i) Γ d := fun B G σ H ok Q q => by
  obtain ⟨v, e, r⟩ := ok.sl i _ h
  exact ⟨v, e, q v G H (Stp.rfl' ok.gh) r⟩
theorem ev_int {n : Int} : Ev (tC (.int n)) Γ (.int n) := fun B G σ H ok Q q => q _ G H (Stp.rfl' ok.gh) (.int n)
theorem ev_str {n : Str} : Ev (tC (.str n)) Γ (.str n) := fun B G σ H ok Q q => q _ G H (Stp.rfl' ok.gh) (.str n)
theorem ev_bl {n : Bool} : Ev (tC (.bl n)) Γ (.bool n) := fun B G σ H ok Q q => q _ G H (Stp.rfl' ok.gh) (.bl n)
theorem ev_non : Ev (tC .non) Γ .none := fun B G σ H ok Q q => q _ G H (Stp.rfl' ok.gh) .non
theorem ev_is {d' : PyData} (h : Ev te Γ d) (e : d = d') : Ev te Γ d' := e ▸ h
theorem ev_op (ha : Ev ta Γ x) (hb : Ev tb Γ y) (hr : RvD r x y z) : Ev (tOp r ta tb) Γ z := fun B G σ H ok Q q =>
  ha B G σ H ok _ fun v G1 H1 s1 r1 => hb B G1 σ H1 (ok.step s1) _ fun u G2 H2 s2 r2 => hr G2 H2 v u s2.gh (r1.up s2.g) r2 Q fun w G3 H3 s3 r3 => q w G3 H3 ((s1.tr s2).tr s3) r3
theorem evN_op (ha : Ev ta Γ x) (hb : Ev tb Γ y) (hr : RvN r x y ds) : EvN (tOp r ta tb) Γ ds := fun B G σ H ok Q q =>
  ha B G σ H ok _ fun v G1 H1 s1 r1 => hb B G1 σ H1 (ok.step s1) _ fun u G2 H2 s2 r2 => hr G2 H2 v u s2.gh (r1.up s2.g) r2 Q fun a vs G3 H3 s3 h0 hg hh r3 =>
    q a vs G3 H3 ((s1.tr s2).tr s3) ((s1.h.tr s2.h).no h0) hg hh r3
theorem ev_un {r : V → Hp → VK → Prop} (ha : Ev ta Γ x) (hr : RuD r x z) : Ev (tUn r ta) Γ z := fun B G σ H ok Q q =>
  ha B G σ H ok _ fun v G1 H1 s1 r1 => hr G1 H1 v s1.gh r1 Q fun w G3 H3 s3 r3 => q w G3 H3 (s1.tr s3) r3
theorem ea_nil : EvA tNil Γ [] := fun B G σ H ok Q q => q [] G H (Stp.rfl' ok.gh) .nil
theorem ea_cons {tr : TA} (ha : Ev ta Γ x) (hr : EvA tr Γ xs) : EvA (tCons ta tr) Γ (x :: xs) := fun B G σ H ok Q q =>
  ha B G σ H ok _ fun v G1 H1 s1 r1 => hr B G1 σ H1 (ok.step s1) _ fun vs G2 H2 s2 r2 => q (v :: vs) G2 H2 (s1.tr s2) (.cons (r1.up s2.g) r2)
theorem ev_tup {t : TA} (h : EvA t Γ xs) (hl : xs.length ≤ sizeLine) : Ev (tTup t) Γ (.tuple xs) := fun B G σ H ok Q q =>
  h B G σ H ok _ fun vs G1 H1 s1 r1 => ⟨by rw [r1.length]; exact hl, fun p hp => q (.ref p) _ _ (s1.tr (Stp.new s1.gh hp)) (.tup (.inl upd_same) (r1.up (Ex.new (s1.gh.no hp))))⟩
theorem evN_lst {t : TA} (h : EvA t Γ xs) (hl : xs.length ≤ sizeLine) : EvN (tLst t) Γ xs := fun B G σ H ok Q q =>
  h B G σ H ok _ fun vs G1 H1 s1 r1 => ⟨by rw [r1.length]; exact hl, fun p hp => q p vs G1 _ (s1.tr (Stp.newH s1.gh hp)) (s1.h.no hp) (s1.gh.no hp) upd_same r1⟩
theorem ev_cb {t : TA} {r : List V → Hp → VK → Prop} (h : EvA t Γ xs) (hr : RcD r xs z) : Ev (tCB r t) Γ z := fun B G σ H ok Q q =>
  h B G σ H ok _ fun vs G1 H1 s1 r1 => hr G1 H1 vs s1.gh r1 Q fun w G3 H3 s3 r3 => q w G3 H3 (s1.tr s3) r3
theorem evN_cb {t : TA} {r : List V → Hp → VK → Prop} (h : EvA t Γ xs) (hr : RcN r xs ds) : EvN (tCB r t) Γ ds := fun B G σ H ok Q q =>
  h B G σ H ok _ fun vs G1 H1 s1 r1 => hr G1 H1 vs s1.gh r1 Q fun a ws G3 H3 s3 h0 hg hh r3 => q a ws G3 H3 (s1.tr s3) (s1.h.no h0) hg hh r3
theorem ev_bm {t : TA} {T : String} {r : V → List V → Hp → VK → Prop} (ho : Ev te Γ x) (h : EvA t Γ xs) (hr : RmD T r x xs z) : Ev (tBM K T r te t) Γ z := fun B G σ H ok Q q =>
  ho B G σ H ok _ fun v G1 H1 s1 r1 => ⟨(hr K G1 H1 v [] s1.gh r1).1 H1 s1.gh, h B G1 σ H1 (ok.step s1) _ fun vs G2 H2 s2 r2 => (hr K G2 H2 v vs s2.gh (r1.up s2.g)).2 r2 Q fun w G3 H3 s3 r3 => q w G3 H3 ((s1.tr s2).tr s3) r3⟩
/-! slices -/
theorem eo_none : EvO tNoPart Γ none := fun B G σ H ok Q q => q G H (Stp.rfl' ok.gh)
theorem eo_some {n : Int} (h : Ev te Γ (.int n)) : EvO (tPart te) Γ (some n) := fun B G σ H ok Q q => h B G σ H ok _ fun v G1 H1 s1 r1 => by
  cases r1; exact ⟨n, rfl, q G1 H1 s1⟩
theorem ev_sl {r : V → Option Int → Option Int → Hp → VK → Prop} {tl th : TO} {lo hi : Option Int} (ha : Ev te Γ x) (h1 : EvO tl Γ lo) (h2 : EvO th Γ hi) (hr : RsD r x lo hi z) : Ev (tSl r te tl th) Γ z := fun B G σ H ok Q q =>
  ha B G σ H ok _ fun v G1 H1 s1 r1 => h1 B G1 σ H1 (ok.step s1) _ fun G2 H2 s2 => h2 B G2 σ H2 (ok.step (s1.tr s2)) _ fun G3 H3 s3 => hr G3 H3 v s3.gh (r1.up (s2.g.tr s3.g)) Q fun w G4 H4 s4 r4 => q w G4 H4 (((s1.tr s2).tr s3).tr s4) r4
theorem evN_sl {r : V → Option Int → Option Int → Hp → VK → Prop} {tl th : TO} {lo hi : Option Int} (ha : Ev te Γ x) (h1 : EvO tl Γ lo) (h2 : EvO th Γ hi) (hr : RsN r x lo hi ds) : EvN (tSl r te tl th) Γ ds := fun B G σ H ok Q q =>
  ha B G σ H ok _ fun v G1 H1 s1 r1 => h1 B G1 σ H1 (ok.step s1) _ fun G2 H2 s2 => h2 B G2 σ H2 (ok.step (s1.tr s2)) _ fun G3 H3 s3 => hr G3 H3 v s3.gh (r1.up (s2.g.tr s3.g)) Q fun a vs G4 H4 s4 h0 hg hh r4 =>
    q a vs G4 H4 (((s1.tr s2).tr s3).tr s4) (((s1.h.tr s2.h).tr s3.h).no h0) hg hh r4
/-! tests -/
theorem et_test (h : Ev te Γ (.bool b)) : EvT (tTest te) Γ b := fun B G σ H ok Q q => h B G σ H ok _ fun v G1 H1 s1 r1 => by cases r1; exact ⟨b, rfl, q G1 H1 s1⟩
theorem et_B (h : Ev te Γ (.bool b)) : EvT (tB te) Γ b := fun B G σ H ok Q q => h B G σ H ok _ fun v G1 H1 s1 r1 => by cases r1; exact ⟨b, rfl, q G1 H1 s1⟩
theorem et_is (h : EvT t Γ b) (e : b = c) : EvT t Γ c := e ▸ h
theorem et_yes : EvT tYes Γ true := fun B G σ H ok Q q => q G H (Stp.rfl' ok.gh)
theorem et_and (h1 : EvT t Γ b) (h2 : b = true → EvT u Γ c) : EvT (tAnd t u) Γ (b && c) := fun B G σ H ok Q q => h1 B G σ H ok _ fun G1 H1 s1 => by
  cases b with
  | true => exact h2 rfl B G1 σ H1 (ok.step s1) Q fun G2 H2 s2 => q G2 H2 (s1.tr s2)
  | false => exact q G1 H1 s1
theorem et_or (h1 : EvT t Γ b) (h2 : b = false → EvT u Γ c) : EvT (tOr t u) Γ (b || c) := fun B G σ H ok Q q => h1 B G σ H ok _ fun G1 H1 s1 => by
  cases b with
  | true => exact q G1 H1 s1
  | false => exact h2 rfl B G1 σ H1 (ok.step s1) Q fun G2 H2 s2 => q G2 H2 (s1.tr s2)
theorem et_not (h1 : EvT t Γ b) : EvT (tNot t) Γ (!b) := fun B G σ H ok Q q => h1 B G σ H ok _ q
theorem ev_andV (h1 : Ev ta Γ (.bool b)) (h2 : b = true → Ev tb Γ (.bool c)) : Ev (tAndV ta tb) Γ (.bool (b && c)) := fun B G σ H ok Q q => h1 B G σ H ok _ fun v G1 H1 s1 r1 => by
  cases r1
  refine ⟨b, rfl, ?_⟩
  cases b with
  | true => exact h2 rfl B G1 σ H1 (ok.step s1) Q fun w G2 H2 s2 r2 => q w G2 H2 (s1.tr s2) r2
  | false => exact q _ G1 H1 s1 (.bl false)
theorem ev_orV (h1 : Ev ta Γ (.bool b)) (h2 : b = false → Ev tb Γ (.bool c)) : Ev (tOrV ta tb) Γ (.bool (b || c)) := fun B G σ H ok Q q => h1 B G σ H ok _ fun v G1 H1 s1 r1 => by
  cases r1
  refine ⟨b, rfl, ?_⟩
  cases b with
  | true => exact q _ G1 H1 s1 (.bl true)
  | false => exact h2 rfl B G1 σ H1 (ok.step s1) Q fun w G2 H2 s2 r2 => q w G2 H2 (s1.tr s2) r2
theorem ev_notV (h1 : Ev ta Γ (.bool b)) : Ev (tNotV ta) Γ (.bool (!b)) := fun B G σ H ok Q q => h1 B G σ H ok _ fun v G1 H1 s1 r1 => by
  cases r1
  exact ⟨b, rfl, q _ G1 H1 s1 (.bl _)⟩
end

/-! ### owned lists, read for a scalar -/
def Sl.fz : Sl → Sl
  | .own ds => .d (.list ds)
  | .ownD kvs => .d (.dict (kvs.map kvD))
  | s => s
theorem Ok.fz {B : Bs} {G : Hp} {σ : L2.St} {H : Hp} {Γ : List Sl} (k : Ok B G σ H Γ) : Ok ⟨H, H, H⟩ H σ H (Γ.map Sl.fz) := by
  have noown : ∀ s : Sl, s.fz.isOwn = false := fun s => by cases s <;> rfl
  refine ⟨Ex.rfl' H, Stp.rfl' (Ex.rfl' H), by rw [List.length_map]; exact k.len, fun i s e => ?_, fun i j s t a hne e1 e2 o1 _ => ?_⟩
  · rw [List.getElem?_map] at e
    cases q : Γ[i]? with
    | none => rw [q] at e; cases e
    | some s' =>
      rw [q] at e
      have e' : s'.fz = s := Option.some.inj e
      subst e'
      have h := k.sl i _ q
      cases s' with
      | un => trivial
      | d x => obtain ⟨v, e, r⟩ := h; exact ⟨v, e, r.up k.gh⟩
      | own ds => obtain ⟨a, vs, e, h0, hg, hh, r⟩ := h; exact ⟨_, e, .lst (.inl hh) (r.up k.gh)⟩
      | ownD kvs => obtain ⟨a, e, h0, hg, hh⟩ := h; exact ⟨_, e, .dct hh rfl⟩
  · rw [List.getElem?_map] at e1
    cases q : Γ[i]? with
    | none => rw [q] at e1; cases e1
    | some s' =>
      rw [q] at e1
      have e' : s'.fz = s := Option.some.inj e1
      rw [← e', noown] at o1
      cases o1
/-- a scalar -/
def Sc : PyData → Bool
  | .none => true
  | .bool _ => true
  | .int _ => true
  | .str _ => true
  | _ => false
theorem Rp.sc {G G' : Hp} {v : V} {d : PyData} (h : Rp G v d) (s : Sc d = true) : Rp G' v d := by
  cases h with
  | non => exact .non
  | bl b => exact .bl b
  | int i => exact .int i
  | str x => exact .str x
  | lst _ _ => cases s
  | tup _ _ => cases s
  | dct _ _ => cases s
theorem Stp.unfz {G H G' H' : Hp} (e : Ex G H) (s : Stp H H G' H') : Stp G H G H' := ⟨Ex.rfl' G, s.h, e.tr s.h, fun _ _ _ h => h⟩
theorem ev_fz {te : TE} {Γ : List Sl} {d : PyData} (h : Ev te (Γ.map Sl.fz) d) (s : Sc d = true) : Ev te Γ d := fun B G σ H ok Q q =>
  h ⟨H, H, H⟩ H σ H ok.fz Q fun v G' H' st r => q v G H' (Stp.unfz ok.gh st) (r.sc s)
theorem et_fz {tt : TT} {Γ : List Sl} {b : Bool} (h : EvT tt (Γ.map Sl.fz) b) : EvT tt Γ b := fun B G σ H ok Q q =>
  h ⟨H, H, H⟩ H σ H ok.fz Q fun G' H' st => q G H' (Stp.unfz ok.gh st)

/-! ### what is walked -/
structure ItD (J : It) (G : Hp) (ds : List PyData) : Prop where
  stop : ∀ H, Ex G H → J.stop ds.length H
  go : ∀ i H, i < ds.length → Ex G H → J.go i H
  yld : ∀ (i : Nat) (H : Hp) (x : V) (H' : Hp) (d : PyData), ds[i]? = some d → Ex G H → J.yld i H x H' → H' = H ∧ Rp G x d
def EvI (wi : TI) (Γ : List Sl) (ds : List PyData) : Prop := ∀ (B : Bs) (G : Hp) (σ : L2.St) (H : Hp), Ok B G σ H Γ → ∀ R : It → Hp → Prop, (∀ J G' H', Stp G H G' H' → ItD J G' ds → R J H') → wi σ H R
section
variable {K : PySem.W.Frag} {Γ : List Sl} {ta tb te : TE} {d x y z : PyData} {ds xs ys : List PyData}
theorem ei_list (h : Ev te Γ (.list ds)) : EvI (iList K te) Γ ds := fun B G σ H ok R q => h B G σ H ok _ fun v G1 H1 s1 r1 => by
  cases r1 with
  | @lst a vs _ hd hr =>
    refine ⟨a, rfl, ⟨vs, rd_sql (s1.gh.rd hd)⟩, q _ G1 H1 s1 ⟨fun H e => ⟨vs, rd_sql (e.rd hd), by rw [hr.length]; exact Nat.le_refl _⟩, fun i H hi e => ?_, fun i H x H' d hd' e y => ?_⟩⟩
    · have hi' : i < vs.length := by rw [hr.length]; exact hi
      exact ⟨vs, vs[i], rd_sql (e.rd hd), List.getElem?_eq_getElem hi'⟩
    · obtain ⟨e1, y⟩ := y
      obtain ⟨v, h1, h2⟩ := hr.get hd'
      have h3 := y vs (rd_sql (e.rd hd))
      rw [h1] at h3
      cases h3
      exact ⟨e1, h2⟩
theorem ei_tup (h : Ev te Γ (.tuple ds)) : EvI (iTup K te) Γ ds := fun B G σ H ok R q => h B G σ H ok _ fun v G1 H1 s1 r1 => by
  cases r1 with
  | @tup a vs _ hd hr =>
    refine ⟨a, rfl, ⟨vs, rd_sqt (s1.gh.rd hd)⟩, q _ G1 H1 s1 ⟨fun H e => ⟨vs, rd_sqt (e.rd hd), by rw [hr.length]; exact Nat.le_refl _⟩, fun i H hi e => ?_, fun i H x H' d hd' e y => ?_⟩⟩
    · have hi' : i < vs.length := by rw [hr.length]; exact hi
      exact ⟨vs, vs[i], rd_sqt (e.rd hd), List.getElem?_eq_getElem hi'⟩
    · obtain ⟨e1, y⟩ := y
      obtain ⟨v, h1, h2⟩ := hr.get hd'
      have h3 := y vs (rd_sqt (e.rd hd))
      rw [h1] at h3
      cases h3
      exact ⟨e1, h2⟩
/-- lo, lo + 1, .. -/
def rngD (lo : Int) (n : Nat) : List PyData := (List.range n).map fun k : Nat => PyData.int (lo + k)
theorem rngD_length (lo : Int) (n : Nat) : (rngD lo n).length = n := by simp [rngD]
theorem rngD_get (lo : Int) (n i : Nat) (h : i < n) : (rngD lo n)[i]? = some (.int (lo + i)) := by
  unfold rngD
  rw [List.getElem?_map, List.getElem?_range h]
  rfl
theorem itd_rng {G : Hp} {lo : Int} {n : Nat} : ItD (Itr lo n) G (rngD lo n) := by
  refine ⟨fun H _ => ?_, fun i H hi _ => ?_, fun i H x H' d hd _ y => ?_⟩
  · show n ≤ _
    rw [rngD_length]; exact Nat.le_refl _
  · show i < n
    rw [rngD_length] at hi; exact hi
  · obtain ⟨e1, e2⟩ := y
    have hi : i < n := by
      have := (List.getElem?_eq_some_iff.mp hd).1
      rw [rngD_length] at this; exact this
    rw [rngD_get lo n i hi] at hd
    cases hd
    subst e2
    exact ⟨e1, .int _⟩
theorem ei_rng1 {n : Int} (h : Ev ta Γ (.int n)) (h1 : -(2 ^ 62) ≤ n) (h2 : n < 2 ^ 62) : EvI (iRng1 (tCons ta tNil)) Γ (rngD 0 n.toNat) := fun B G σ H ok R q => h B G σ H ok _ fun v G1 H1 s1 r1 => by
  cases r1
  exact ⟨n, rfl, h1, h2, q _ G1 H1 s1 itd_rng⟩
theorem ei_rng2 {m n : Int} (ha : Ev ta Γ (.int m)) (hb : Ev tb Γ (.int n)) (h1 : -(2 ^ 62) ≤ m) (h2 : m < 2 ^ 62) (h3 : -(2 ^ 62) ≤ n) (h4 : n < 2 ^ 62) : EvI (iRng2 (tCons ta (tCons tb tNil))) Γ (rngD m (n - m).toNat) := fun B G σ H ok R q =>
  ha B G σ H ok _ fun v G1 H1 s1 r1 => hb B G1 σ H1 (ok.step s1) _ fun u G2 H2 s2 r2 => by
  cases r1
  cases r2
  exact ⟨m, n, rfl, ⟨h1, h2, h3, h4⟩, q _ G2 H2 (s1.tr s2) itd_rng⟩
end

/-! ### comprehensions -/
section
variable {K : PySem.W.Frag} {Γ : List Sl} {te : TE} {tt : TT} {wi : TI} {ds : List PyData} {j : Nat}
/-- the wiped frame with the item in -/
theorem wipe_set (σ : L2.St) (j : Nat) (v : V) : (wipe σ [j]).set j (some v) = σ.set j (some v) := by
  show (σ.set j none).set j (some v) = _
  rw [List.set_set]
theorem wipe_after (σ : L2.St) (j : Nat) (v : V) : wipe ((wipe σ [j]).set j (some v)) [j] = wipe σ [j] := by
  show ((σ.set j none).set j (some v)).set j none = σ.set j none
  rw [List.set_set, List.set_set]
theorem evN_lc {α : Type} {js : List Nat} (enc : α → PyData) (xs : List α) (p : α → Bool) (f : α → PyData) (hj : js = [j]) (hi : EvI wi Γ (xs.map enc)) (hz : xs.length ≤ sizeLine) (ht : ∀ x ∈ xs, EvT tt (Γ.set j (.d (enc x))) (p x)) (he : ∀ x ∈ xs, p x = true → Ev te (Γ.set j (.d (enc x))) (f x)) :
    EvN (tLc wi (gName j) tt te js) Γ ((xs.filter p).map f) := fun B G σ H ok Q q => hi B G σ H ok _ fun J G1 H1 s1 it => by
  subst hj
  intro D hD
  have hGD : G1 D = none := s1.gh.no hD
  have hlen : (xs.map enc).length = xs.length := List.length_map _
  refine ⟨fun i m H2 => m = xs.length - i ∧ i ≤ xs.length ∧ ∃ G2 acc, Stp G1 H1 G2 H2 ∧ G2 D = none ∧ H2 D = some (.lst acc) ∧ Rps G2 acc (((xs.take i).filter p).map f), ⟨xs.length, by simp, Nat.zero_le _, G1, [], Stp.newH s1.gh hD, hGD, upd_same, .nil⟩, ?_⟩
  rintro i m H2 ⟨rfl, hil, G2, acc, s2, hg2, hh2, ra⟩
  by_cases hlt : i < xs.length
  · have hget : xs[i]? = some xs[i] := List.getElem?_eq_getElem hlt
    have hget' : (xs.map enc)[i]? = some (enc xs[i]) := by rw [List.getElem?_map, hget]; rfl
    have hmem : xs[i] ∈ xs := List.getElem_mem hlt
    have htk : xs.take (i + 1) = xs.take i ++ [xs[i]] := by rw [List.take_add_one, hget]; rfl
    refine .inr ⟨it.go i H2 (by rw [hlen]; exact hlt) (s2.g.tr s2.gh), fun H' => ∃ G' acc', Stp G1 H1 G' H' ∧ G' D = none ∧ H' D = some (.lst acc') ∧ Rps G' acc' (((xs.take (i + 1)).filter p).map f),
      fun H' h' => ⟨xs.length - (i + 1), by omega, rfl, hlt, h'⟩, fun x H' hy => ?_⟩
    obtain ⟨rfl, rx⟩ := it.yld i H2 x H' _ hget' (s2.g.tr s2.gh) hy
    refine ⟨wipe_after σ j x, ?_⟩
    rw [wipe_set]
    have ok2 : Ok B G2 (σ.set j (some x)) H' (Γ.set j (.d (enc xs[i]))) := ((ok.step s1).step s2).set j ⟨x, rfl, rx.up s2.g⟩ (fun z => by cases z)
    refine ht _ hmem B G2 _ H' ok2 _ fun G3 H3 s3 => ?_
    have hg3 : G3 D = none := s3.nw D _ hh2 hg2
    have hh3 : H3 D = some (.lst acc) := s3.h D _ hh2
    cases hp : p xs[i] with
    | false =>
      rw [if_neg Bool.false_ne_true]
      refine ⟨G3, acc, s2.tr s3, hg3, hh3, ?_⟩
      rw [htk, List.filter_append, List.filter_cons_of_neg (by rw [hp]; exact Bool.false_ne_true), List.filter_nil, List.append_nil]
      exact ra.up s3.g
    | true =>
      rw [if_pos rfl]
      refine he _ hmem hp B G3 _ H3 (ok2.step s3) _ fun v G4 H4 s4 rv => ?_
      have hh4 : H4 D = some (.lst acc) := s4.h D _ hh3
      have hg4 : G4 D = none := s4.nw D _ hh3 hg3
      have hal : acc.length < sizeLine := by
        have h1 := ra.length
        rw [List.length_map] at h1
        have h2 := List.length_filter_le p (xs.take i)
        rw [List.length_take] at h2
        omega
      refine ⟨acc, hh4, hal, G4, acc ++ [v], ?_, hg4, upd_same, ?_⟩
      · have st := (s2.tr s3).tr s4
        refine ⟨st.g, fun b o e => ?_, fun b o e => ?_, st.nw⟩
        · rw [upd_ne (ne_of_none e hD)]
          exact st.h b o e
        · rw [upd_ne (fun z => by subst z; rw [hg4] at e; cases e)]
          exact st.gh b o e
      · rw [htk, List.filter_append, List.map_append, List.filter_cons_of_pos hp, List.filter_nil]
        exact ((ra.up s3.g).up s4.g).app (.cons rv .nil)
  · have e : i = xs.length := by omega
    subst e
    rw [List.take_length] at ra
    refine .inl ⟨?_, q D acc G2 H2 (s1.tr s2) (s1.h.no hD) hg2 hh2 ra⟩
    have h := it.stop H2 (s2.g.tr s2.gh)
    rw [hlen] at h
    exact h
/-- without a test -/
theorem evN_lcm {α : Type} {js : List Nat} (enc : α → PyData) (xs : List α) (f : α → PyData) (hj : js = [j]) (hi : EvI wi Γ (xs.map enc)) (hz : xs.length ≤ sizeLine) (he : ∀ x ∈ xs, Ev te (Γ.set j (.d (enc x))) (f x)) : EvN (tLc wi (gName j) tYes te js) Γ (xs.map f) := by
  have h := evN_lc (tt := tYes) (te := te) (j := j) enc xs (fun _ => true) f hj hi hz (fun _ _ => et_yes) fun x hx _ => he x hx
  rw [List.filter_eq_self.mpr fun _ _ => rfl] at h
  exact h
end
end Ck

namespace Ck
open PySem PySem.Spec L2

/-! ### statements -/
def At (B : Bs) (Γ : List Sl) (k : L2.St → Hp → Prop) : Prop := ∀ (G : Hp) (σ : L2.St) (H : Hp), Ok B G σ H Γ → k σ H
/-- an owned list is changed -/
theorem Ok.mut {B : Bs} {G : Hp} {σ : L2.St} {H : Hp} {Γ : List Sl} (k : Ok B G σ H Γ) {i : Nat} {a : Addr} {o : HO} {s s' : Sl} (e : Γ[i]? = some s) (os : s.isOwn = true) (e1 : σ[i]? = some (some (.ref a))) (h0 : B.h0 a = none) (hg : G a = none)
    (hs : SlOk B.h0 G (upd H a o) σ[i]? s') (os' : s'.isOwn = true) : Ok B G σ (upd H a o) (Γ.set i s') := by
  have hi : i < Γ.length := (List.getElem?_eq_some_iff.mp e).1
  refine ⟨k.eb, ⟨k.st.g, fun b u q => ?_, fun b u q => ?_, k.st.nw⟩, by rw [List.length_set]; exact k.len, fun j t et => ?_, fun j l t u b hne f1 f2 o1 o2 q1 q2 => ?_⟩
  · rw [upd_ne (ne_of_none q h0)]; exact k.st.h b u q
  · rw [upd_ne (ne_of_none q hg)]; exact k.gh b u q
  · by_cases hj : i = j
    · subst hj
      rw [List.getElem?_set_self hi] at et
      cases et
      exact hs
    · rw [List.getElem?_set_ne hj] at et
      have q := k.sl j t et
      cases t with
      | un => trivial
      | d x => exact q
      | own ds =>
        obtain ⟨b, ws, f1, f0, fg, fh, fr⟩ := q
        have hne : b ≠ a := fun z => by subst z; exact k.ap i j _ _ b hj e et os rfl e1 f1
        exact ⟨b, ws, f1, f0, fg, by rw [upd_ne hne]; exact fh, fr⟩
      | ownD kvs =>
        obtain ⟨b, f1, f0, fg, fh⟩ := q
        have hne : b ≠ a := fun z => by subst z; exact k.ap i j _ _ b hj e et os rfl e1 f1
        exact ⟨b, f1, f0, fg, by rw [upd_ne hne]; exact fh⟩
  · have key : ∀ (m : Nat) (t : Sl), (Γ.set i s')[m]? = some t → t.isOwn = true → ∃ t', Γ[m]? = some t' ∧ t'.isOwn = true := fun m t h o => by
      by_cases hm : i = m
      · subst hm; exact ⟨s, e, os⟩
      · rw [List.getElem?_set_ne hm] at h; exact ⟨t, h, o⟩
    obtain ⟨t', g1, p1⟩ := key j t f1 o1
    obtain ⟨u', g2, p2⟩ := key l u f2 o2
    exact k.ap j l t' u' b hne g1 g2 p1 p2 q1 q2
section
variable {K : PySem.W.Frag} {B : Bs} {Γ : List Sl} {nx bk ct : L2.St → Hp → Prop} {rt : VK} {t u : TS} {te ti ta : TE} {tt : TT} {d : PyData} {ds : List PyData} {i j : Nat} {b : Bool} {k : L2.St → Hp → Prop}
theorem at_seq (h : At B Γ (t ⟨u ⟨nx, rt, bk, ct⟩, rt, bk, ct⟩)) : At B Γ (tSeq t u ⟨nx, rt, bk, ct⟩) := h
theorem at_next (h : At B Γ nx) : At B Γ (tNext ⟨nx, rt, bk, ct⟩) := h
theorem at_brk (h : At B Γ bk) : At B Γ (tBreak ⟨nx, rt, bk, ct⟩) := h
theorem at_cont (h : At B Γ ct) : At B Γ (tCont ⟨nx, rt, bk, ct⟩) := h
theorem at_set (h : Ev te Γ d) (q : At B (Γ.set i (.d d)) nx) : At B Γ (tAsg te (gName i) ⟨nx, rt, bk, ct⟩) := fun G σ H ok =>
  h B G σ H ok _ fun v G' H' s r => q G' _ H' ((ok.step s).set i ⟨v, rfl, r⟩ fun z => by cases z)
theorem at_setN (h : EvN te Γ ds) (q : At B (Γ.set i (.own ds)) nx) : At B Γ (tAsg te (gName i) ⟨nx, rt, bk, ct⟩) := fun G σ H ok =>
  h B G σ H ok _ fun a vs G' H' s h0 hg hh r => q G' _ H' ((ok.step s).set i ⟨a, vs, rfl, ok.st.h.no h0, hg, hh, r⟩ fun _ b eb j t _ et ot q2 => by
    cases eb
    have w := ok.sl j t et
    cases t with
    | un => cases ot
    | d x => cases ot
    | own es =>
      obtain ⟨c, ws, f1, _, _, fh, _⟩ := w
      rw [f1] at q2
      cases q2
      rw [h0] at fh
      cases fh
    | ownD kvs =>
      obtain ⟨c, f1, _, _, fh⟩ := w
      rw [f1] at q2
      cases q2
      rw [h0] at fh
      cases fh)
theorem at_drop (h : Ev te Γ d) (q : At B Γ nx) : At B Γ (tDrop te ⟨nx, rt, bk, ct⟩) := fun G σ H ok => h B G σ H ok _ fun v G' H' s r => q G' _ H' (ok.step s)
theorem at_ret (h : Ev te Γ d) (q : ∀ v G H, Stp B.g0 B.h0 G H → Rp G v d → rt v H) : At B Γ (tRet te ⟨nx, rt, bk, ct⟩) := fun G σ H ok => h B G σ H ok _ fun v G' H' s r => q v G' H' (ok.st.tr s) r
theorem at_retN (q : ∀ G H, Stp B.g0 B.h0 G H → rt .non H) : At B Γ (tRetN ⟨nx, rt, bk, ct⟩) := fun G σ H ok => q G H ok.st
theorem at_if (h : EvT tt Γ b) (h1 : b = true → At B Γ (t ⟨nx, rt, bk, ct⟩)) (h2 : b = false → At B Γ (u ⟨nx, rt, bk, ct⟩)) : At B Γ (tIfS tt t u ⟨nx, rt, bk, ct⟩) := fun G σ H ok => h B G σ H ok _ fun G' H' s => by
  cases b with
  | true => rw [if_pos rfl]; exact h1 rfl G' σ H' (ok.step s)
  | false => rw [if_neg Bool.false_ne_true]; exact h2 rfl G' σ H' (ok.step s)
theorem at_freeze (e : Γ[i]? = some (.own ds)) (q : At B (Γ.set i (.d (.list ds))) k) : At B Γ k := fun G σ H ok => by
  obtain ⟨G', _, ok'⟩ := ok.freeze e
  exact q G' σ H ok'
theorem at_weak {Γ' : List Sl} (hl : Γ'.length = Γ.length) (h : ∀ (i : Nat) (s : Sl), Γ'[i]? = some s → s = .un ∨ Γ[i]? = some s) (q : At B Γ' k) : At B Γ k := fun G σ H ok => q G σ H (ok.weak hl h)
theorem at_append (e : Γ[i]? = some (.own ds)) (h : Ev te Γ d) (hz : ds.length < sizeLine) (q : At B (Γ.set i (.own (ds ++ [d]))) nx) : At B Γ (tDrop (tBM K "list" rAppend (tVar i) (tCons te tNil)) ⟨nx, rt, bk, ct⟩) := fun G σ H ok => by
  obtain ⟨a, vs, e1, h0, hg, hh, r⟩ := ok.sl i _ e
  refine ⟨.ref a, e1, .inl ⟨rfl, _, .inl (.inl hh)⟩, ?_⟩
  refine h B G σ H ok _ fun v G' H' s rv => ?_
  have ok' := ok.step s
  have hh' := s.h _ _ hh
  have hg' := s.nw _ _ hh hg
  refine ⟨a, vs, v, rfl, rfl, hh', by rw [r.length]; exact hz, ?_⟩
  exact q G' σ _ (ok'.mut e rfl e1 h0 hg' ⟨a, vs ++ [v], e1, h0, hg', upd_same, (r.up s.g).app (.cons rv .nil)⟩ rfl)
theorem at_setitem {n : Int} (e : Γ[i]? = some (.own ds)) (hv : Ev te Γ d) (hi : Ev ti Γ (.int n)) (hx : ixN ds.length n = some j) (q : At B (Γ.set i (.own (ds.set j d))) nx) : At B Γ (tAsg te (gSub (tVar i) ti rSetL) ⟨nx, rt, bk, ct⟩) := fun G σ H ok => by
  obtain ⟨a, vs, e1, h0, hg, hh, r⟩ := ok.sl i _ e
  refine hv B G σ H ok _ fun v G1 H1 s1 rv => ⟨.ref a, e1, ?_⟩
  refine hi B G1 σ H1 (ok.step s1) _ fun w G2 H2 s2 rw' => ?_
  cases rw'
  have s := s1.tr s2
  have hh' := s.h _ _ hh
  have hg' := s.nw _ _ hh hg
  refine ⟨a, vs, n, j, rfl, rfl, hh', by rw [r.length]; exact hx, ?_⟩
  exact q G2 σ _ ((ok.step s).mut e rfl e1 h0 hg' ⟨a, vs.set j v, e1, h0, hg', upd_same, (r.up s.g).set (rv.up s2.g) j⟩ rfl)
/-- an item of an owned list -/
theorem ev_ixOwn {n : Int} (e : Γ[i]? = some (.own ds)) (hi : Ev ti Γ (.int n)) (hx : atI ds n = some d) : Ev (tOp (rIx K) (tVar i) ti) Γ d := fun B G σ H ok Q q => by
  obtain ⟨a, vs, e1, h0, hg, hh, r⟩ := ok.sl i _ e
  refine ⟨.ref a, e1, ?_⟩
  refine hi B G σ H ok _ fun w G2 H2 s2 rw' => ?_
  cases rw'
  unfold atI at hx
  obtain ⟨j, hj, hd⟩ := Option.bind_eq_some_iff.mp hx
  obtain ⟨v, hv, rv⟩ := r.get hd
  refine .inl ⟨a, vs, n, v, rfl, rfl, .inl (.inl (s2.h _ _ hh)), ?_, q v G2 H2 s2 (rv.up s2.g)⟩
  unfold atI
  rw [r.length, hj]
  exact hv
end
/-- less is known -/
inductive Wk : List Sl → List Sl → Prop
  | nil : Wk [] []
  | un {s : Sl} {a b : List Sl} : Wk a b → Wk (.un :: a) (s :: b)
  | same {s : Sl} {a b : List Sl} : Wk a b → Wk (s :: a) (s :: b)
theorem Wk.len {a b : List Sl} (h : Wk a b) : a.length = b.length := by
  induction h with
  | nil => rfl
  | un _ ih => exact congrArg (· + 1) ih
  | same _ ih => exact congrArg (· + 1) ih
theorem Wk.get {a b : List Sl} (h : Wk a b) : ∀ (i : Nat) (s : Sl), a[i]? = some s → s = .un ∨ b[i]? = some s := by
  induction h with
  | nil => intro i s e; simp at e
  | un _ ih =>
    intro i s e
    cases i with
    | zero => simp at e; exact .inl e.symm
    | succ i => simpa using ih i s (by simpa using e)
  | same _ ih =>
    intro i s e
    cases i with
    | zero => simp at e; subst e; exact .inr (by simp)
    | succ i => simpa using ih i s (by simpa using e)
theorem at_wk {B : Bs} {Γ Γ' : List Sl} {k : L2.St → Hp → Prop} (q : At B Γ' k) (h : Wk Γ' Γ) : At B Γ k := at_weak h.len h.get q
section
variable {K : PySem.W.Frag} {B : Bs} {Γ : List Sl} {nx bk ct : L2.St → Hp → Prop} {rt : VK} {t u : TS} {te ti ta : TE} {tt : TT} {d : PyData} {ds : List PyData} {i j : Nat} {b : Bool} {k : L2.St → Hp → Prop}
/-- the slots with another one at a place, written out -/
inductive SetAt : List Sl → Nat → Sl → List Sl → Prop
  | zero {a s : Sl} {l : List Sl} : SetAt (a :: l) 0 s (s :: l)
  | succ {a s : Sl} {l l' : List Sl} {i : Nat} : SetAt l i s l' → SetAt (a :: l) (i + 1) s (a :: l')
theorem SetAt.eq {l l' : List Sl} {i : Nat} {s : Sl} (h : SetAt l i s l') : l.set i s = l' := by
  induction h with
  | zero => rfl
  | succ _ ih => rw [List.set_cons_succ, ih]
inductive Nf : List Sl → List Sl → Prop
  | nil : Nf [] []
  | cons {a : Sl} {l l' : List Sl} : Nf l l' → Nf (a :: l) (a :: l')
theorem Nf.eq {l l' : List Sl} (h : Nf l l') : l = l' := by
  induction h with
  | nil => rfl
  | cons _ ih => rw [ih]
theorem at_nf {Γ' : List Sl} (q : At B Γ' k) (h : Nf Γ Γ') : At B Γ k := h.eq ▸ q
theorem at_setA {Γ' : List Sl} (h : Ev te Γ d) (hs : SetAt Γ i (.d d) Γ') (q : At B Γ' nx) : At B Γ (tAsg te (gName i) ⟨nx, rt, bk, ct⟩) := at_set h (hs.eq ▸ q)
theorem at_setNA {Γ' : List Sl} (h : EvN te Γ ds) (hs : SetAt Γ i (.own ds) Γ') (q : At B Γ' nx) : At B Γ (tAsg te (gName i) ⟨nx, rt, bk, ct⟩) := at_setN h (hs.eq ▸ q)
theorem at_appendA {Γ' : List Sl} (e : Γ[i]? = some (.own ds)) (h : Ev te Γ d) (hz : ds.length < sizeLine) (hs : SetAt Γ i (.own (ds ++ [d])) Γ') (q : At B Γ' nx) : At B Γ (tDrop (tBM K "list" rAppend (tVar i) (tCons te tNil)) ⟨nx, rt, bk, ct⟩) := at_append e h hz (hs.eq ▸ q)
theorem at_setitemA {Γ' : List Sl} {n : Int} (e : Γ[i]? = some (.own ds)) (hv : Ev te Γ d) (hi : Ev ti Γ (.int n)) (hx : ixN ds.length n = some j) (hs : SetAt Γ i (.own (ds.set j d)) Γ') (q : At B Γ' nx) : At B Γ (tAsg te (gSub (tVar i) ti rSetL) ⟨nx, rt, bk, ct⟩) := at_setitem e hv hi hx (hs.eq ▸ q)
theorem at_freezeA {Γ' : List Sl} (e : Γ[i]? = some (.own ds)) (hs : SetAt Γ i (.d (.list ds)) Γ') (q : At B Γ' k) : At B Γ k := at_freeze e (hs.eq ▸ q)
/-- if c: x = e, else as it was -/
theorem at_ifSet {Γ' : List Sl} {d1 d0 : PyData} (h : EvT tt Γ b) (he : b = true → Ev te Γ d1) (h0 : Γ[i]? = some (.d d0)) (hs : SetAt Γ i (.d (if b then d1 else d0)) Γ') (q : At B Γ' nx) : At B Γ (tIfS tt (tAsg te (gName i)) tNext ⟨nx, rt, bk, ct⟩) := by
  rw [← hs.eq] at q
  refine at_if h (fun hb => at_set (he hb) ?_) (fun hb => at_next ?_)
  · rw [hb, if_pos rfl] at q; exact q
  · rw [hb, if_neg Bool.false_ne_true] at q
    have e : Γ.set i (.d d0) = Γ := by
      obtain ⟨hl, hv⟩ := List.getElem?_eq_some_iff.mp h0
      rw [← hv]; exact List.set_getElem_self hl
    rw [e] at q; exact q
/-! loops -/
theorem at_for {wi : TI} (I : Nat → List Sl) (P : Nat → Prop) (hi : EvI wi Γ ds) (h0 : Wk (I 0) Γ) (p0 : P 0)
    (hs : ∀ (gb : Hp) (i : Nat) (d : PyData) (N : L2.St → Hp → Prop), ds[i]? = some d → P i → (P (i + 1) → At ⟨gb, B.g0, B.h0⟩ (I (i + 1)) N) → At ⟨gb, B.g0, B.h0⟩ ((I i).set j (.d d)) (t ⟨N, rt, nx, N⟩))
    (he : P ds.length → At B (I ds.length) nx) : At B Γ (tFor wi (gName j) t ⟨nx, rt, bk, ct⟩) := fun G σ H ok => hi B G σ H ok _ fun J G1 H1 s1 it => by
  refine ⟨fun i m σ2 H2 => m = ds.length - i ∧ i ≤ ds.length ∧ P i ∧ ∃ G2, Ex G1 G2 ∧ Ok B G2 σ2 H2 (I i), ⟨ds.length, by simp, Nat.zero_le _, p0, G1, Ex.rfl' G1, (ok.step s1).weak h0.len h0.get⟩, ?_⟩
  rintro i m σ2 H2 ⟨rfl, hil, pi, G2, e2, ok2⟩
  by_cases hlt : i < ds.length
  · have hget : ds[i]? = some ds[i] := List.getElem?_eq_getElem hlt
    refine .inr ⟨it.go i H2 hlt (e2.tr ok2.gh), fun σ' H' => P (i + 1) ∧ ∃ G', Ex G1 G' ∧ Ok B G' σ' H' (I (i + 1)), fun σ' H' h' => ⟨ds.length - (i + 1), by omega, rfl, hlt, h'⟩, fun x H' hy => ?_⟩
    obtain ⟨rfl, rx⟩ := it.yld i H2 x H' _ hget (e2.tr ok2.gh) hy
    have ok3 := ok2.set j (v := x) (s := .d ds[i]) ⟨x, rfl, rx.up e2⟩ fun z => by cases z
    refine hs G2 i _ (fun σ' H' => P (i + 1) ∧ ∃ G', Ex G1 G' ∧ Ok B G' σ' H' (I (i + 1))) hget pi (fun p1 G' σ' H' ok' => ⟨p1, G', e2.tr ok'.eb, ⟨ok2.eb.tr ok'.eb, ok'.st, ok'.len, ok'.sl, ok'.ap⟩⟩) G2 _ H' ⟨Ex.rfl' G2, ok3.st, ok3.len, ok3.sl, ok3.ap⟩
  · have e : i = ds.length := by omega
    subst e
    exact .inl ⟨it.stop H2 (e2.tr ok2.gh), he pi G2 σ2 H2 ok2⟩
/-- while: the state a, its slots I a, a number that falls -/
theorem at_while {α : Type} (I : α → List Sl) (P : α → Prop) (μ : α → Nat) (cb : α → Bool) (a0 : α) (h0 : Wk (I a0) Γ) (p0 : P a0) (hc : ∀ a, P a → EvT tt (I a) (cb a))
    (hs : ∀ (a : α) (N : L2.St → Hp → Prop), P a → cb a = true → (∀ a', P a' → μ a' < μ a → At B (I a') N) → At B (I a) (t ⟨N, rt, nx, N⟩))
    (he : ∀ a, P a → cb a = false → At B (I a) nx) : At B Γ (tWhile tt t ⟨nx, rt, bk, ct⟩) := fun G σ H ok => by
  refine ⟨fun m σ2 H2 => ∃ a G2, m = μ a ∧ P a ∧ Ok B G2 σ2 H2 (I a), ⟨μ a0, a0, G, rfl, p0, ok.weak h0.len h0.get⟩, ?_⟩
  rintro m σ2 H2 ⟨a, G2, rfl, pa, ok2⟩
  refine hc a pa B G2 σ2 H2 ok2 _ fun G3 H3 s3 => ?_
  cases hb : cb a with
  | true =>
    rw [if_pos rfl]
    exact ⟨fun σ' H' => ∃ a' G', P a' ∧ μ a' < μ a ∧ Ok B G' σ' H' (I a'), fun σ' H' ⟨a', G', p', l, ok'⟩ => ⟨μ a', l, a', G', rfl, p', ok'⟩, hs a _ pa hb (fun a' p' l G' σ' H' ok' => ⟨a', G', p', l, ok'⟩) G3 σ2 H3 (ok2.step s3)⟩
  | false =>
    rw [if_neg Bool.false_ne_true]
    exact he a pa hb G3 σ2 H3 (ok2.step s3)
end

/-! ### promises -/
/-- a def that raises nothing: of the arguments ds (n of them) it tells d -/
def spP (n : Nat) (R : List PyData → PyData → Prop) : Sp := fun vs H Q _ => ∃ ds d G, Ex G H ∧ Rps G vs ds ∧ ds.length = n ∧ R ds d ∧ ∀ v G' H', Stp G H G' H' → Rp G' v d → Q v H'
theorem spP_len {n : Nat} {R : List PyData → PyData → Prop} {vs : List V} {H : Hp} {Q : VK} {E : XK} (h : spP n R vs H Q E) : vs.length = n := by
  obtain ⟨ds, d, G, _, r, l, _⟩ := h
  rw [r.length]; exact l
def sls (N : Nat) (ds : List PyData) : List Sl := ds.map Sl.d ++ List.replicate (N - ds.length) Sl.un
theorem ok_start {N : List Str} {vs : List V} {ds : List PyData} {G H : Hp} (e : Ex G H) (r : Rps G vs ds) : Ok ⟨G, G, H⟩ G (L2.start N vs) H (sls N.length ds) := by
  have hl := r.length
  refine ⟨Ex.rfl' G, Stp.rfl' e, by simp [L2.start, sls, hl], fun i s q => ?_, fun i j s t a _ e1 e2 o1 _ => ?_⟩
  · unfold sls at q
    by_cases hi : i < ds.length
    · rw [List.getElem?_append_left (by rw [List.length_map]; exact hi), List.getElem?_map] at q
      have hd : ds[i]? = some ds[i] := List.getElem?_eq_getElem hi
      rw [hd] at q
      have q' : Sl.d ds[i] = s := Option.some.inj q
      obtain ⟨v, hv, rv⟩ := r.get hd
      subst q'
      refine ⟨v, ?_, rv⟩
      unfold L2.start
      rw [List.getElem?_append_left (by rw [List.length_map, hl]; exact hi), List.getElem?_map, hv]
      rfl
    · rw [List.getElem?_append_right (by rw [List.length_map]; omega)] at q
      have := List.mem_of_getElem? q
      rw [List.mem_replicate] at this
      rw [this.2]
      trivial
  · exfalso
    unfold sls at e1
    have hm := List.mem_of_getElem? e1
    rw [List.mem_append, List.mem_map, List.mem_replicate] at hm
    rcases hm with ⟨x, _, rfl⟩ | ⟨_, rfl⟩
    · cases o1
    · cases o1
/-- a body's reading from its data -/
theorem spP_body {N : List Str} {n : Nat} {R : List PyData → PyData → Prop} {t : TS}
    (h : ∀ (ds : List PyData) (d : PyData) (B : Bs) (Q : VK), ds.length = n → R ds d → (∀ v G H, Stp B.g0 B.h0 G H → Rp G v d → Q v H) → At B (sls N.length ds) (t { nx := fun _ H' => Q .non H', rt := Q }))
    {vs : List V} {H : Hp} {Q : VK} {E : XK} (hs : spP n R vs H Q E) : t { nx := fun _ H' => Q .non H', rt := Q } (L2.start N vs) H := by
  obtain ⟨ds, d, G, e, r, l, hR, q⟩ := hs
  exact h ds d ⟨G, G, H⟩ Q l hR q G _ H (ok_start e r)
section
variable {Γ : List Sl} {ta : TA} {ds : List PyData} {d : PyData} {n : Nat} {R : List PyData → PyData → Prop} {E : XK}
theorem ev_call (h : EvA ta Γ ds) (hn : ds.length = n) (hR : R ds d) : Ev (tCall (spP n R) [] E ta) Γ d := fun B G σ H ok Q q =>
  h B G σ H ok _ fun vs G1 H1 s1 r1 => by
    rw [List.append_nil]
    exact ⟨ds, d, G1, s1.gh, r1, hn, hR, fun v G' H' s r => q v G' H' (s1.tr s) r⟩
end
end Ck

namespace Ck
open PySem PySem.Spec PyProof.Rows L2

/-! ### + -/
def rCatR : R2 := fun x y H Q => ∃ l b xs zs, x = .ref l ∧ y = .ref b ∧ Rd H l (.lst xs) ∧ Rd H b (.lst zs) ∧ xs.length + zs.length ≤ sizeLine ∧ ∀ p, H p = none → Q (.ref p) (upd H p (.lst (xs ++ zs)))
def rAddI : R2 := rI0 fun i j => .int (i + j)
def rAddS : R2 := fun x y H Q => ∃ i j, x = .str i ∧ y = .str j ∧ i.length + j.length ≤ sizeLine ∧ Q (.str (i ++ j)) H
def rAddU (K : PySem.W.Frag) : R2 := fun x y H Q => rAddI x y H Q ∨ rAddS x y H Q ∨ rCatR x y H Q ∨ rCatA K x y H Q
section
variable {X : Cx}
theorem op_catR : OpR X (binaryOp .Add) rCatR := by
  intro pins s σ H x y v u Q I rx ry h
  obtain ⟨l, b, xs, zs, rfl, rfl, hH, hB, hz, q⟩ := h
  cases rx
  cases ry
  obtain ⟨z, its, n, r, e⟩ := hH.ok I.hok
  obtain ⟨z2, its2, n2, r2, e2⟩ := hB.ok I.hok
  have hl := r.length
  have hl2 := r2.length
  refine PySem.P.add_list e e2 ?_ (by rw [List.size_toArray, List.size_toArray]; omega)
  have ea : its.toArray ++ its2.toArray = (its ++ its2).toArray := by simp
  rw [ea]
  exact ⟨.ref _, _, I.lnew (t' := s.toks) (r.append r2) (by rw [List.length_append]; omega), rfl, q _ I.fresh⟩
theorem op_addU : OpR X (binaryOp .Add) (rAddU X.K) := by
  intro pins s σ H x y v u Q I rx ry h
  rcases h with h | h | h | h
  · exact op_add pins s σ H x y v u Q I rx ry h
  · exact op_add_str pins s σ H x y v u Q I rx ry h
  · exact op_catR pins s σ H x y v u Q I rx ry h
  · exact op_catA pins s σ H x y v u Q I rx ry h
end
section
variable {K : PySem.W.Frag}
theorem rv_addI {i j : Int} : RvD (rAddU K) (.int i) (.int j) (.int (i + j)) := fun G H v u e rx ry Q q => by
  cases rx; cases ry
  exact .inl ⟨i, j, rfl, rfl, q _ G H (Stp.rfl' e) (.int _)⟩
theorem rv_addS {i j : Str} (h : i.length + j.length ≤ sizeLine) : RvD (rAddU K) (.str i) (.str j) (.str (i ++ j)) := fun G H v u e rx ry Q q => by
  cases rx; cases ry
  exact .inr (.inl ⟨i, j, rfl, rfl, h, q _ G H (Stp.rfl' e) (.str _)⟩)
theorem rvN_addL {xs ys : List PyData} (h : xs.length + ys.length ≤ sizeLine) : RvN (rAddU K) (.list xs) (.list ys) (xs ++ ys) := fun G H v u e rx ry Q q => by
  cases rx with
  | lst h1 r1 =>
    cases ry with
    | lst h2 r2 => exact .inr (.inr (.inl ⟨_, _, _, _, rfl, rfl, e.rd h1, e.rd h2, by rw [r1.length, r2.length]; exact h, fun p hp => q p _ G _ (Stp.newH e hp) hp (e.no hp) upd_same (r1.app r2)⟩))
theorem rv_addT {xs ys : List PyData} (h : xs.length + ys.length ≤ sizeLine) : RvD (rAddU K) (.tuple xs) (.tuple ys) (.tuple (xs ++ ys)) := fun G H v u e rx ry Q q => by
  cases rx with
  | @tup a vs _ h1 r1 =>
    cases ry with
    | @tup b ws _ h2 r2 =>
      refine .inr (.inr (.inr ⟨a, b, vs, ws, rfl, rfl, rd_sqt (e.rd h1), rd_sqt (e.rd h2), by rw [r1.length, r2.length]; exact h, fun z => ?_, fun z1 z2 => ?_, fun _ _ p hp => ?_⟩))
      · subst z
        cases r1
        exact q _ G H (Stp.rfl' e) (.tup h2 r2)
      · subst z2
        cases r2
        rw [List.append_nil] at q
        exact q _ G H (Stp.rfl' e) (.tup h1 r1)
      · exact q _ _ _ (Stp.new e hp) (.tup (.inl upd_same) ((r1.app r2).up (Ex.new (e.no hp))))
theorem rv_I0 {g : Int → Int → V} {i j : Int} {d : PyData} (h : ∀ G, Rp G (g i j) d) : RvD (rI0 g) (.int i) (.int j) d := fun G H v u e rx ry Q q => by
  cases rx; cases ry
  exact ⟨i, j, rfl, rfl, q _ G H (Stp.rfl' e) (h G)⟩
theorem rv_I {C : Int → Int → Prop} {g : Int → Int → V} {i j : Int} {d : PyData} (c : C i j) (h : ∀ G, Rp G (g i j) d) : RvD (rI C g) (.int i) (.int j) d := fun G H v u e rx ry Q q => by
  cases rx; cases ry
  exact ⟨i, j, rfl, rfl, c, q _ G H (Stp.rfl' e) (h G)⟩
theorem rv_sub {i j : Int} : RvD (rI0 fun i j => .int (i - j)) (.int i) (.int j) (.int (i - j)) := rv_I0 fun _ => .int _
theorem rv_lt {i j : Int} : RvD (rI0 fun i j => .bl (decide (i < j))) (.int i) (.int j) (.bool (decide (i < j))) := rv_I0 fun _ => .bl _
theorem rv_le {i j : Int} : RvD (rI0 fun i j => .bl (decide (i ≤ j))) (.int i) (.int j) (.bool (decide (i ≤ j))) := rv_I0 fun _ => .bl _
theorem rv_fdiv {i j : Int} (c : CDivN i j) : RvD (rI CDivN fun i j => .int (i.fdiv j)) (.int i) (.int j) (.int (i.fdiv j)) := rv_I c fun _ => .int _
theorem rv_mod {i j : Int} (c : j ≠ 0) : RvD (rI (fun _ j => j ≠ 0) fun i j => .int (i.fmod j)) (.int i) (.int j) (.int (i.fmod j)) := rv_I c fun _ => .int _
theorem rv_pow {i j : Int} (c : CPow i j) : RvD (rI CPow fun i j => .int (i ^ j.toNat)) (.int i) (.int j) (.int (i ^ j.toNat)) := rv_I c fun _ => .int _
end

/-! ### * -/
def rRepR : R2 := fun x y H Q => ∃ l k xs, x = .ref l ∧ y = .int k ∧ Rd H l (.lst xs) ∧ -(2 ^ 63) ≤ k ∧ k < 2 ^ 63 ∧ xs.length * k.toNat ≤ sizeLine ∧
  ∀ p, H p = none → Q (.ref p) (upd H p (.lst (List.replicate k.toNat xs).flatten))
def rMulS : R2 := fun x y H Q => ∃ (z : Str) (k : Int), x = .str z ∧ y = .int k ∧ MulOk z k ∧ Q (.str (Txt.mul z k)) H
def rMulU : R2 := fun x y H Q => rI CMul (fun i j => .int (i * j)) x y H Q ∨ rRepR x y H Q ∨ rMulS x y H Q
section
variable {X : Cx}
theorem op_repR : OpR X (binaryOp .Mult) rRepR := by
  intro pins s σ H x y v u Q I rx ry h
  obtain ⟨l, k, xs, rfl, rfl, hH, h1, h2, hz, q⟩ := h
  cases rx
  obtain ⟨t, rfl⟩ := ry
  obtain ⟨z, its, n, r, e⟩ := hH.ok I.hok
  have hl := r.length
  have hlen : its.toArray.size * k.toNat ≤ sizeLine := by rw [List.size_toArray, ← hl]; exact hz
  have hcap : ¬ its.toArray.size * k.toNat > (2 ^ 63 - 1) / 8 := by
    have : (sizeLine : Nat) ≤ (2 ^ 63 - 1) / 8 := by decide
    omega
  have hfit : ¬ (!Builtin.List.listFitsIndex k) = true := by
    rw [fitsIndex_both h1 h2]
    exact Bool.false_ne_true
  have hlong : ¬ Builtin.List.listTooLong (its.toArray.size * k.toNat) = true := by
    rw [notLongL hlen]
    exact Bool.false_ne_true
  have hnew : List.foldl (fun x1 x2 => x1 ++ x2) #[] (List.replicate (if its.toArray.isEmpty = true then 0 else k.toNat) its.toArray) = (List.replicate k.toNat its).flatten.toArray := by
    have f0 : ∀ m : Nat, List.foldl (fun x1 x2 => x1 ++ x2) #[] (List.replicate m its.toArray) = (List.replicate m its).flatten.toArray := fun m => by
      have := foldl_rep its m []
      rw [List.nil_append] at this
      exact this
    rw [f0]
    cases its with
    | nil => simp
    | cons a r' => rw [if_neg (by simp)]
  refine wpAny_binaryOp_repeat_ref (T := "list") (U := "int") (by decide) ⟨_, e, rfl⟩ (fun s' => typeIs_int s' k t) noFill_list_mul F.fills_int_mul F.slot_int_rmul repeat_list F.slot_int_index.lookup
    (call_meets F.slot_int_rmul (typeIs_int s k t) F.entry_int_rmul (F.args_int_rmul_2 _ _) (int___rmul___int_list k t l its.toArray n)
      ⟨e, rfl, ⟨_, e, rfl⟩, call_meets F.slot_list_mul ⟨_, e, rfl⟩ F.entry_list_mul (F.args_list_mul_2 _ _) (AutoListH.list___mul___list_int_3 l its.toArray n k t hfit hcap hlong) ⟨e, ?_⟩⟩)
  rw [hnew]
  exact ⟨.ref _, _, I.lnew (t' := s.toks) (r.rep k.toNat) (by rw [PyProof.Rows.lm_len_rep_flat, Nat.mul_comm]; exact hz), rfl, q _ I.fresh⟩
theorem op_mulS : OpR X (binaryOp .Mult) rMulS := by
  intro pins s σ H x y v u Q I rx ry h
  obtain ⟨z, k, rfl, rfl, hok, q⟩ := h
  obtain ⟨t, rfl⟩ := rx
  obtain ⟨t', rfl⟩ := ry
  exact PySem.SB.mul hok fun t2 k2 => ⟨.str _, H, I.tok _, ⟨_, rfl⟩, q⟩
theorem op_mulU : OpR X (binaryOp .Mult) rMulU := by
  intro pins s σ H x y v u Q I rx ry h
  rcases h with h | h | h
  · exact op_mul pins s σ H x y v u Q I rx ry h
  · exact op_repR pins s σ H x y v u Q I rx ry h
  · exact op_mulS pins s σ H x y v u Q I rx ry h
end
theorem rv_mulI {i j : Int} (c : CMul i j) : RvD rMulU (.int i) (.int j) (.int (i * j)) := fun G H v u e rx ry Q q => by
  cases rx; cases ry
  exact .inl ⟨i, j, rfl, rfl, c, q _ G H (Stp.rfl' e) (.int _)⟩
theorem rv_mulS {z : Str} {k : Int} (c : MulOk z k) : RvD rMulU (.str z) (.int k) (.str (Txt.mul z k)) := fun G H v u e rx ry Q q => by
  cases rx; cases ry
  exact .inr (.inr ⟨z, k, rfl, rfl, c, q _ G H (Stp.rfl' e) (.str _)⟩)
theorem Rps.rep {G : Hp} {vs : List V} {ds : List PyData} (r : Rps G vs ds) : ∀ n : Nat, Rps G (List.replicate n vs).flatten (List.replicate n ds).flatten
  | 0 => .nil
  | n + 1 => by
    rw [List.replicate_succ, List.replicate_succ, List.flatten_cons, List.flatten_cons]
    exact r.app (Rps.rep r n)
theorem rvN_mulL {xs : List PyData} {k : Int} (h1 : -(2 ^ 63) ≤ k) (h2 : k < 2 ^ 63) (h3 : xs.length * k.toNat ≤ sizeLine) : RvN rMulU (.list xs) (.int k) (List.replicate k.toNat xs).flatten := fun G H v u e rx ry Q q => by
  cases ry
  cases rx with
  | lst hd r => exact .inr (.inl ⟨_, k, _, rfl, rfl, e.rd hd, h1, h2, by rw [r.length]; exact h3, fun p hp => q p _ G _ (Stp.newH e hp) hp (e.no hp) upd_same (r.rep k.toNat)⟩)

/-! ### ==, in, is -/
section
variable {K : PySem.W.Frag}
theorem rv_eqD {x y : PyData} (sx : SeqAt.shaped x = true) (sy : SeqAt.shaped y = true) : RvD (rEqD K) x y (.bool (PyData.eqv x y)) := fun G H v u e rx ry Q q =>
  ⟨x, y, (rx.up e).toDp sx, (ry.up e).toDp sy, sx, sy, q _ G H (Stp.rfl' e) (.bl _)⟩
theorem rv_neD {x y : PyData} (sx : SeqAt.shaped x = true) (sy : SeqAt.shaped y = true) : RvD (rNeD K) x y (.bool (!PyData.eqv x y)) := fun G H v u e rx ry Q q =>
  ⟨x, y, (rx.up e).toDp sx, (ry.up e).toDp sy, sx, sy, q _ G H (Stp.rfl' e) (.bl _)⟩
end
def isNonD : PyData → Bool
  | .none => true
  | _ => false
def isTrueD : PyData → Bool
  | .bool b => b
  | _ => false
def rIsN' : R2 := fun x y H Q => y = .non ∧ Q (.bl (decide (x = .non))) H
def rNotN' : R2 := fun x y H Q => y = .non ∧ Q (.bl (!decide (x = .non))) H
theorem op_isN' {X : Cx} : OpR X (compareOp .Is) rIsN' := op_isN
theorem op_notN' {X : Cx} : OpR X (compareOp .IsNot) rNotN' := op_notN
theorem Rp.isNon {G : Hp} {v : V} {d : PyData} (h : Rp G v d) : decide (v = .non) = isNonD d := by
  cases h <;> rfl
theorem rv_isN {x : PyData} : RvD rIsN' x .none (.bool (isNonD x)) := fun G H v u e rx ry Q q => by
  cases ry
  refine ⟨rfl, ?_⟩
  rw [rx.isNon]
  exact q _ G H (Stp.rfl' e) (.bl _)
theorem rv_notN {x : PyData} : RvD rNotN' x .none (.bool (!isNonD x)) := fun G H v u e rx ry Q q => by
  cases ry
  refine ⟨rfl, ?_⟩
  rw [rx.isNon]
  exact q _ G H (Stp.rfl' e) (.bl _)
theorem rv_isB {a b : Bool} : RvD rIsB (.bool a) (.bool b) (.bool (decide (a = b))) := fun G H v u e rx ry Q q => by
  cases rx; cases ry
  exact ⟨a, b, rfl, rfl, q _ G H (Stp.rfl' e) (.bl _)⟩
/-- in: flat items of a list, a tuple; data in a list; one sign in a text -/
def rInU (K : PySem.W.Frag) : R2 := fun x y H Q => rIn K false x y H Q ∨ rInD K x y H Q ∨ (∃ (c : Nat) (z : Str), x = .str ⟨#[c]⟩ ∧ y = .str z ∧ Q (.bl (decide (c ∈ z.cps.toList))) H)
def rNotInU (K : PySem.W.Frag) : R2 := fun x y H Q => rIn K true x y H Q ∨ rNotInD K x y H Q
section
variable {X : Cx}
theorem op_inU (hu : X.A.units + 65 < cLine) : OpR X (compareOp .In) (rInU X.K) := by
  intro pins s σ H x y v u Q I rx ry h
  rcases h with h | h | h
  · exact op_in_seq pins s σ H x y v u Q I rx ry h
  · exact op_inD hu pins s σ H x y v u Q I rx ry h
  · exact op_in_sign pins s σ H x y v u Q I rx ry h
theorem op_notInU (hu : X.A.units + 65 < cLine) : OpR X (compareOp .NotIn) (rNotInU X.K) := by
  intro pins s σ H x y v u Q I rx ry h
  rcases h with h | h
  · exact op_notIn_seq pins s σ H x y v u Q I rx ry h
  · exact op_notInD hu pins s σ H x y v u Q I rx ry h
end
def eqS : PyData → PyData → Bool
  | .none, .none => true
  | .bool a, .bool b => a == b
  | .bool a, .int b => (if a then 1 else 0) == b
  | .int a, .bool b => a == (if b then 1 else 0)
  | .int a, .int b => a == b
  | .str a, .str b => a == b
  | _, _ => false
theorem Rp.flat {G : Hp} {v : V} {d : PyData} (h : Rp G v d) : flatV v = Sc d := by
  cases h <;> rfl
theorem Rps.flat {G : Hp} : ∀ {vs : List V} {ds : List PyData}, Rps G vs ds → vs.all flatV = ds.all Sc
  | _, _, .nil => rfl
  | _, _, .cons r t => by rw [List.all_cons, List.all_cons, r.flat, Rps.flat t]
theorem Rp.eqS {G : Hp} {v u : V} {d e : PyData} (h : Rp G v d) (k : Rp G u e) (fd : Sc d = true) (fe : Sc e = true) : eqV v u = eqS d e := by
  cases h with
  | lst _ _ => cases fd
  | tup _ _ => cases fd
  | dct _ _ => cases fd
  | _ => cases k with
    | lst _ _ => cases fe
    | tup _ _ => cases fe
    | dct _ _ => cases fe
    | _ => rfl
theorem Rps.inS {G : Hp} {x : V} {d : PyData} (h : Rp G x d) (fd : Sc d = true) : ∀ {vs : List V} {ds : List PyData}, Rps G vs ds → ds.all Sc = true → inV x vs = ds.any fun y => Ck.eqS y d
  | _, _, .nil, _ => rfl
  | _, _, .cons r t, f => by
    rw [List.all_cons, Bool.and_eq_true] at f
    unfold inV
    rw [List.any_cons, List.any_cons, r.eqS h f.1 fd]
    have := Rps.inS h fd t f.2
    unfold inV at this
    rw [this]
section
variable {K : PySem.W.Frag}
theorem rv_inT {x : PyData} {ds : List PyData} (sx : Sc x = true) (sd : ds.all Sc = true) : RvD (rInU K) x (.tuple ds) (.bool (ds.any fun y => eqS y x)) := fun G H v u e rx ry Q q => by
  cases ry with
  | tup hd r =>
    refine .inl ⟨_, _, rfl, .inr (rd_sqt (e.rd hd)), by rw [rx.flat]; exact sx, by rw [r.flat]; exact sd, ?_⟩
    rw [if_neg Bool.false_ne_true, Rps.inS rx sx r sd]
    exact q _ G H (Stp.rfl' e) (.bl _)
theorem rv_notInT {x : PyData} {ds : List PyData} (sx : Sc x = true) (sd : ds.all Sc = true) : RvD (rNotInU K) x (.tuple ds) (.bool (!ds.any fun y => eqS y x)) := fun G H v u e rx ry Q q => by
  cases ry with
  | tup hd r =>
    refine .inl ⟨_, _, rfl, .inr (rd_sqt (e.rd hd)), by rw [rx.flat]; exact sx, by rw [r.flat]; exact sd, ?_⟩
    rw [if_pos rfl, Rps.inS rx sx r sd]
    exact q _ G H (Stp.rfl' e) (.bl _)
theorem rv_inL {x : PyData} {ds : List PyData} (sx : SeqAt.shaped x = true) (sd : SeqAt.shaped (.list ds) = true) : RvD (rInU K) x (.list ds) (.bool (ds.any fun y => PyData.eqv y x)) := fun G H v u e rx ry Q q =>
  .inr (.inl ⟨x, ds, (rx.up e).toDp sx, (ry.up e).toDp sd, sx, sd, q _ G H (Stp.rfl' e) (.bl _)⟩)
theorem rv_notInL {x : PyData} {ds : List PyData} (sx : SeqAt.shaped x = true) (sd : SeqAt.shaped (.list ds) = true) : RvD (rNotInU K) x (.list ds) (.bool (!ds.any fun y => PyData.eqv y x)) := fun G H v u e rx ry Q q =>
  .inr ⟨x, ds, (rx.up e).toDp sx, (ry.up e).toDp sd, sx, sd, q _ G H (Stp.rfl' e) (.bl _)⟩
theorem rv_inS {c : Nat} {z : Str} : RvD (rInU K) (.str ⟨#[c]⟩) (.str z) (.bool (decide (c ∈ z.cps.toList))) := fun G H v u e rx ry Q q => by
  cases rx; cases ry
  exact .inr (.inr ⟨c, z, rfl, rfl, q _ G H (Stp.rfl' e) (.bl _)⟩)
end

/-! ### subscripts, slices -/
section
variable {K : PySem.W.Frag}
theorem rps_atI {G : Hp} {vs : List V} {ds : List PyData} {i : Int} {d : PyData} (r : Rps G vs ds) (h : atI ds i = some d) : ∃ v, atI vs i = some v ∧ Rp G v d := by
  unfold atI at h ⊢
  rw [r.length]
  obtain ⟨j, hj, hd⟩ := Option.bind_eq_some_iff.mp h
  obtain ⟨v, hv, rv⟩ := r.get hd
  exact ⟨v, by rw [hj]; exact hv, rv⟩
theorem rv_ixL {ds : List PyData} {i : Int} {d : PyData} (h : atI ds i = some d) : RvD (rIx K) (.list ds) (.int i) d := fun G H v u e rx ry Q q => by
  cases ry
  cases rx with
  | lst hd r =>
    obtain ⟨w, hw, rw'⟩ := rps_atI r h
    exact .inl ⟨_, _, i, w, rfl, rfl, rd_sql (e.rd hd), hw, q _ G H (Stp.rfl' e) rw'⟩
theorem rv_ixT {ds : List PyData} {i : Int} {d : PyData} (h : atI ds i = some d) : RvD (rIx K) (.tuple ds) (.int i) d := fun G H v u e rx ry Q q => by
  cases ry
  cases rx with
  | tup hd r =>
    obtain ⟨w, hw, rw'⟩ := rps_atI r h
    exact .inr (.inl ⟨_, _, i, w, rfl, rfl, rd_sqt (e.rd hd), hw, q _ G H (Stp.rfl' e) rw'⟩)
theorem rv_ixS {z : Str} {i : Int} {c : Nat} (hz : z.length ≤ sizeLine) (h : atI z.cps.toList i = some c) : RvD (rIx K) (.str z) (.int i) (.str ⟨#[c]⟩) := fun G H v u e rx ry Q q => by
  cases ry; cases rx
  exact .inr (.inr ⟨z, i, c, rfl, rfl, hz, h, q _ G H (Stp.rfl' e) (.str _)⟩)
end
def cutG {α : Type} (xs : List α) (lo hi : Option Int) : List α := (xs.drop (HT.sIx xs.length 0 lo)).take (HT.sIx xs.length xs.length hi - HT.sIx xs.length 0 lo)
theorem Rps.cut {G : Hp} {vs : List V} {ds : List PyData} (r : Rps G vs ds) (lo hi : Option Int) : Rps G (cutV vs lo hi) (cutG ds lo hi) := by
  unfold cutV cutG
  rw [r.length]
  exact (r.drop _).take _
theorem cutG_whole {α : Type} (xs : List α) {lo hi : Option Int} (h : HT.sIx xs.length 0 lo = 0 ∧ HT.sIx xs.length xs.length hi = xs.length) : cutG xs lo hi = xs := by
  unfold cutG
  rw [h.1, h.2, List.drop_zero, Nat.sub_zero, List.take_length]
def rSlS : V → Option Int → Option Int → Hp → VK → Prop := fun x lo hi H Q => ∃ z, x = .str z ∧ z.length ≤ sizeLine ∧ Q (.str (cutS z lo hi)) H
def rSlU (K : PySem.W.Frag) : V → Option Int → Option Int → Hp → VK → Prop := fun x lo hi H Q => rSlL K x lo hi H Q ∨ rSlA K x lo hi H Q ∨ rSlS x lo hi H Q
theorem sl_U {X : Cx} : SlR X (rSlU X.K) := sl_list.or (sl_tupA.or sl_str)
section
variable {K : PySem.W.Frag}
theorem rsN_L {ds : List PyData} {lo hi : Option Int} : RsN (rSlU K) (.list ds) lo hi (cutG ds lo hi) := fun G H v e rx Q q => by
  cases rx with
  | lst hd r => exact .inl ⟨_, _, rfl, rd_sql (e.rd hd), fun p hp => q p _ G _ (Stp.newH e hp) hp (e.no hp) upd_same (r.cut lo hi)⟩
theorem rs_T {ds : List PyData} {lo hi : Option Int} : RsD (rSlU K) (.tuple ds) lo hi (.tuple (cutG ds lo hi)) := fun G H v e rx Q q => by
  cases rx with
  | @tup a vs _ hd r =>
    refine .inr (.inl ⟨a, vs, rfl, rd_sqt (e.rd hd), fun w => ?_, fun _ p hp => ?_⟩)
    · rw [r.length] at w
      rw [cutG_whole ds w] at q
      exact q _ G H (Stp.rfl' e) (.tup hd r)
    · exact q _ _ _ (Stp.new e hp) (.tup (.inl upd_same) ((r.cut lo hi).up (Ex.new (e.no hp))))
theorem rs_S {z : Str} {lo hi : Option Int} (hz : z.length ≤ sizeLine) : RsD (rSlU K) (.str z) lo hi (.str (cutS z lo hi)) := fun G H v e rx Q q => by
  cases rx
  exact .inr (.inr ⟨z, rfl, hz, q _ G H (Stp.rfl' e) (.str _)⟩)
end

/-! ### calls of built-ins -/
def rLenV (K : PySem.W.Frag) : List V → Hp → VK → Prop := fun xs H Q => ∃ x n, xs = [x] ∧ LenV K x H n ∧ Q (.int n) H
theorem call_lenV {X : Cx} : CallR X (.builtin "len") (rLenV X.K) := call_len
def rListV (K : PySem.W.Frag) : List V → Hp → VK → Prop := fun xs H Q => ∃ p ys, xs = [.ref p] ∧ (SqL K H p ys ∨ SqT K H p ys) ∧ ∀ l, H l = none → Q (.ref l) (upd H l (.lst ys))
theorem call_listV {X : Cx} : CallR X (.type "list") (rListV X.K) := call_list_of
def rMax2V : List V → Hp → VK → Prop := fun xs H Q => ∃ i j, xs = [.int i, .int j] ∧ Q (.int (if j > i then j else i)) H
def rMin2V : List V → Hp → VK → Prop := fun xs H Q => ∃ i j, xs = [.int i, .int j] ∧ Q (.int (if j < i then j else i)) H
def rInt1V : List V → Hp → VK → Prop := fun xs H Q => (∃ i, xs = [.int i] ∧ Q (.int i) H) ∨ ∃ k, xs = [.bl k] ∧ Q (.int (if k then 1 else 0)) H
theorem call_max2V {X : Cx} (hc : X.calm = true) : CallR X (.builtin "max") rMax2V := call_max2 hc
theorem call_min2V {X : Cx} (hc : X.calm = true) : CallR X (.builtin "min") rMin2V := call_min2 hc
theorem call_int1V {X : Cx} : CallR X (.type "int") rInt1V := call_int1
section
variable {K : PySem.W.Frag} {Γ : List Sl} {ta tb : TE}
theorem rc_lenL {ds : List PyData} : RcD (rLenV K) [.list ds] (.int ds.length) := fun G H vs e r Q q => by
  cases r with
  | cons r1 r2 =>
    cases r2
    cases r1 with
    | lst hd r => exact ⟨_, ds.length, rfl, .inl ⟨_, rd_sql (e.rd hd), r.length.symm⟩, q _ G H (Stp.rfl' e) (.int _)⟩
theorem rc_lenT {ds : List PyData} : RcD (rLenV K) [.tuple ds] (.int ds.length) := fun G H vs e r Q q => by
  cases r with
  | cons r1 r2 =>
    cases r2
    cases r1 with
    | tup hd r => exact ⟨_, ds.length, rfl, .inr ⟨_, rd_sqt (e.rd hd), r.length.symm⟩, q _ G H (Stp.rfl' e) (.int _)⟩
theorem rc_lenS {z : Str} (hz : z.length ≤ sizeLine) : RcD (rLenV K) [.str z] (.int z.length) := fun G H vs e r Q q => by
  cases r with
  | cons r1 r2 =>
    cases r2
    cases r1
    exact ⟨_, z.length, rfl, ⟨hz, rfl⟩, q _ G H (Stp.rfl' e) (.int _)⟩
theorem rcN_listL {ds : List PyData} : RcN (rListV K) [.list ds] ds := fun G H vs e r Q q => by
  cases r with
  | cons r1 r2 =>
    cases r2
    cases r1 with
    | lst hd r => exact ⟨_, _, rfl, .inl (rd_sql (e.rd hd)), fun l hl => q l _ G _ (Stp.newH e hl) hl (e.no hl) upd_same r⟩
theorem rcN_listT {ds : List PyData} : RcN (rListV K) [.tuple ds] ds := fun G H vs e r Q q => by
  cases r with
  | cons r1 r2 =>
    cases r2
    cases r1 with
    | tup hd r => exact ⟨_, _, rfl, .inr (rd_sqt (e.rd hd)), fun l hl => q l _ G _ (Stp.newH e hl) hl (e.no hl) upd_same r⟩
theorem rc_max2 {i j : Int} : RcD rMax2V [.int i, .int j] (.int (max i j)) := fun G H vs e r Q q => by
  cases r with
  | cons r1 r2 =>
    cases r2 with
    | cons r2 r3 =>
      cases r3; cases r1; cases r2
      refine ⟨i, j, rfl, ?_⟩
      have : (if j > i then j else i) = max i j := by omega
      rw [this]
      exact q _ G H (Stp.rfl' e) (.int _)
theorem rc_min2 {i j : Int} : RcD rMin2V [.int i, .int j] (.int (min i j)) := fun G H vs e r Q q => by
  cases r with
  | cons r1 r2 =>
    cases r2 with
    | cons r2 r3 =>
      cases r3; cases r1; cases r2
      refine ⟨i, j, rfl, ?_⟩
      have : (if j < i then j else i) = min i j := by omega
      rw [this]
      exact q _ G H (Stp.rfl' e) (.int _)
theorem rc_intB {b : Bool} : RcD rInt1V [.bool b] (.int (if b then 1 else 0)) := fun G H vs e r Q q => by
  cases r with
  | cons r1 r2 =>
    cases r2; cases r1
    exact .inr ⟨b, rfl, q _ G H (Stp.rfl' e) (.int _)⟩
theorem rc_sum {ns : List Int} : RcD (rSum K) [.list (ns.map .int)] (.int ns.sum) := fun G H vs e r Q q => by
  cases r with
  | cons r1 r2 =>
    cases r2
    cases r1 with
    | lst hd r =>
      have e1 := r.ints
      subst e1
      exact ⟨_, ns, rfl, rd_sql (e.rd hd), q _ G H (Stp.rfl' e) (.int _)⟩
theorem rc_maxL {ns : List Int} {m : Int} (h0 : 0 < ns.length) (hm : ∀ k, k ∈ ns → (∀ y, y ∈ ns → y ≤ k) → k = m) : RcD (rMax K) [.list (ns.map .int)] (.int m) := fun G H vs e r Q q => by
  cases r with
  | cons r1 r2 =>
    cases r2
    cases r1 with
    | lst hd r =>
      have e1 := r.ints
      subst e1
      refine ⟨_, ns, rfl, rd_sql (e.rd hd), h0, fun k hk hle => ?_⟩
      rw [hm k hk hle]
      exact q _ G H (Stp.rfl' e) (.int _)
theorem rc_all {bs : List Bool} : RcD (rAll K) [.list (bs.map .bool)] (.bool (bs.all id)) := fun G H vs e r Q q => by
  cases r with
  | cons r1 r2 =>
    cases r2
    cases r1 with
    | lst hd r =>
      have e1 := r.bls
      subst e1
      exact ⟨_, bs, rfl, rd_sql (e.rd hd), q _ G H (Stp.rfl' e) (.bl _)⟩
theorem rcN_sorted {ns ns' : List Int} (h64 : ns.length < 64) (hp : ns'.Perm ns) (hs : ns'.Pairwise (· ≤ ·)) : RcN (rSorted K) [.list (ns.map .int)] (ns'.map .int) := fun G H vs e r Q q => by
  cases r with
  | cons r1 r2 =>
    cases r2
    cases r1 with
    | lst hd r =>
      have e1 := r.ints
      subst e1
      refine ⟨_, ns, rfl, rd_sql (e.rd hd), h64, fun ms p hpm hsm hn => ?_⟩
      have e2 : ms = ns' := by
        have hperm := hpm.trans hp.symm
        exact List.Perm.eq_of_pairwise (fun a b _ _ h1 h2 => Int.le_antisymm h1 h2) hsm hs hperm
      subst e2
      exact q p _ G _ (Stp.newH e hn) hn (e.no hn) upd_same (Rps.ofInts _)
/-! isinstance with a built-in class -/
def tyNm : PyData → String
  | .none => "NoneType"
  | .bool _ => "bool"
  | .int _ => "int"
  | .str _ => "str"
  | .list _ => "list"
  | .tuple _ => "tuple"
  | .dict _ => "dict"
theorem Rp.ty {G : Hp} {v : V} {d : PyData} (h : Rp G v d) : TyX K G v (.type (tyNm d)) := by
  cases h with
  | non => exact .base .non
  | bl b => exact .base (.bl b)
  | int i => exact .base (.int i)
  | str x => exact .base (.str x)
  | lst h r =>
    rcases h with h | ⟨o, h⟩
    · exact .base (.lst h)
    · exact .base (.frz h)
  | tup h r =>
    rcases h with h | ⟨o, h⟩
    · exact .base (.tup h)
    · exact .fTuple h
  | dct h _ => exact .base (.dK h)
theorem ev_isi {n : String} {d : PyData} {b : Bool} (h : Ev ta Γ d) (hb : kitB (tyNm d) n = some b) : Ev (tCB (rIsi K) (tCons ta (tCons (tC (.ty n)) tNil))) Γ (.bool b) := fun B G σ H ok Q q =>
  h B G σ H ok _ fun v G1 H1 s1 r1 => ⟨v, .ty n, .type (tyNm d), .type n, b, rfl, .ty n, (r1.up s1.gh).ty, kit_ty hb, q _ G1 H1 s1 (.bl b)⟩
end

/-! ### in a range -/
def rRange1 : List V → Hp → VK → Prop := fun vs H Q => ∃ j, vs = [V.int j] ∧ ∀ p, H p = none → Q (.ref p) (upd H p (.rng 0 j))
def rInR : R2 := fun x y H Q => ∃ i a lo hi, x = V.int i ∧ y = V.ref a ∧ H a = some (.rng lo hi) ∧ Q (.bl (decide (lo ≤ i ∧ i < hi))) H
def rNotInR : R2 := fun x y H Q => ∃ i a lo hi, x = V.int i ∧ y = V.ref a ∧ H a = some (.rng lo hi) ∧ Q (.bl (!decide (lo ≤ i ∧ i < hi))) H
section
variable {X : Cx}
theorem cr_range1 : CallR X (.type "range") rRange1 := by
  intro pins s σ H xs us Q I r h
  obtain ⟨j, rfl, q⟩ := h
  obtain ⟨u1, rfl, t, rfl⟩ := vals1 r
  refine call_range_1 ⟨.ref _, upd H _ (.rng 0 j), I.laid (fun b o e => Heap.get?_push_of_some _ e) (Nat.le_refl _) ?_, rfl, q _ (I.hok.fresh (Nat.le_refl _))⟩
  exact ⟨_, _, _, Heap.get?_push_size _ rfl⟩
theorem op_inR : OpR X (compareOp .In) rInR := op_in_rng
theorem op_notInR : OpR X (compareOp .NotIn) rNotInR := by
  intro pins s σ H x y v u Q I rx ry h
  obtain ⟨i, a, lo, hi, rfl, rfl, ha, q⟩ := h
  obtain ⟨k, rfl⟩ := rx
  obtain rfl : u = Value.ref a := ry
  obtain ⟨t1, t2, t3, ho⟩ := I.hok a _ ha
  show wpAny _ _ (do return Value.bool (!(← contains (Value.ref a) (Value.int i k)))) _ _ s
  refine wpAny_bind (wpAny_contains_slot (T := "range") ⟨_, ho, rfl⟩ F.slot_range_contains (call_meets F.slot_range_contains ⟨_, ho, rfl⟩ F.entry_range_contains (F.args_range_contains_2 _ _) (q_contains a lo hi i t1 t2 t3 k)
    ⟨ho, wpAny_truthy_bool (wpAny_pure ⟨.bl _, H, I, rfl, ?_⟩)⟩))
  rw [place1]
  exact q
end
section
variable {Γ : List Sl} {ta tn : TE} {i n : Int}
theorem ev_inR (h : Ev ta Γ (.int i)) (hn : Ev tn Γ (.int n)) : Ev (tOp rInR ta (tCB rRange1 (tCons tn tNil))) Γ (.bool (decide (0 ≤ i ∧ i < n))) := fun B G σ H ok Q q =>
  h B G σ H ok _ fun v G1 H1 s1 r1 => hn B G1 σ H1 (ok.step s1) _ fun u G2 H2 s2 r2 => by
    cases r1; cases r2
    exact ⟨n, rfl, fun p hp => ⟨i, p, 0, n, rfl, rfl, upd_same, q _ _ _ ((s1.tr s2).tr (Stp.newH s2.gh hp)) (.bl _)⟩⟩
theorem ev_notInR (h : Ev ta Γ (.int i)) (hn : Ev tn Γ (.int n)) : Ev (tOp rNotInR ta (tCB rRange1 (tCons tn tNil))) Γ (.bool (!decide (0 ≤ i ∧ i < n))) := fun B G σ H ok Q q =>
  h B G σ H ok _ fun v G1 H1 s1 r1 => hn B G1 σ H1 (ok.step s1) _ fun u G2 H2 s2 r2 => by
    cases r1; cases r2
    exact ⟨n, rfl, fun p hp => ⟨i, p, 0, n, rfl, rfl, upd_same, q _ _ _ ((s1.tr s2).tr (Stp.newH s2.gh hp)) (.bl _)⟩⟩
end
end Ck

namespace Ck
open PySem PySem.Spec PyProof.Rows L2

/-! ### the defs of the text -/
abbrev FnP (K : PySem.W.Frag) (x : Str) (st : Stmt) (f : Addr) (fd : FuncData) : Prop := FunD K x x (defArgs st) (defBody st) (defScope st) [] [] f fd
def Has (K : PySem.W.Frag) (mg : Str → Option Value) (x : Str) (st : Stmt) : Prop := ∃ f fd, FnP K x st f fd ∧ mg x = some (.ref f)
structure Def (P : Program) (w : World) (K : PySem.W.Frag) (mg : Str → Option Value) (base : Heap) (CX : CXT) (k : Nat) (x : Str) (ps : List Str) (sp : Sp) : Prop where
  ex : ∃ f fd, mg x = some (.ref f) ∧ PySem.W.keepIn K (.ref f) = true ∧ Binds K fd ps [] ∧ FnOk P w K mg base CX k f fd ps sp ∧ ∃ oc od osl, K.lookup f = some ⟨oc, od, .func fd, osl⟩
theorem passX0 {X : Cx} : Passes (L2.CX X.prog X.w) X E0 := fun _ _ _ _ _ _ _ h => by
  obtain ⟨_, _, _, _, _, _, _, _, _, _, _, _, z⟩ := h
  exact z.elim
/-- every parameter is written -/
abbrev BindsP (x : Str) (st : Stmt) (ps : List Str) : Prop := ∀ (kV doc pm : Value) (an : Option Addr) (cdv ct : Value) (us : List Value), us.length = ps.length →
  bindArgs (PySem.W.fnOf x x (defArgs st) (defBody st) (defScope st) .none kV doc pm an cdv ct) ⟨us, []⟩ = pure (ps.zip us)
section
variable {P : Program} {w : World} {K : PySem.W.Frag} {mg : Str → Option Value} {base : Heap} {x : Str} {st : Stmt} {N ps : List Str} {k n : Nat}
/-- what a returned value must bring -/
abbrev RtOk (B : Bs) (Q : VK) (d : PyData) : Prop := ∀ v G H, Stp B.g0 B.h0 G H → Rp G v d → Q v H
abbrev BodyP (N n : Nat) (R : List PyData → PyData → Prop) (t : TS) : Prop := ∀ (ds : List PyData) (d : PyData) (B : Bs) (Q : VK), ds.length = n → R ds d → RtOk B Q d → At B (sls N ds) (t { nx := fun _ H' => Q .non H', rt := Q })
theorem mk_def {CX : CXT} {sp : Sp} (h : Has K mg x st) (hb : BindsP x st ps) (S : FnScope N ps (defScope st)) (len : ∀ vs H Q E, sp vs H Q E → vs.length = ps.length)
    (hbody : ∀ (f : Addr) (cdv : Value) (A : Around) (outer : List Env) (s : Shared) (H : Hp) (vs : List V) (Q : VK) (E : XK), Room k (A.deeper (envOfC x (defScope st) s.heap.objs.size f cdv)) → sp vs H Q E →
      ∃ t, PSs (cxOf CX P w K mg base N x (defScope st) f cdv A outer s H E) (defBody st) t ∧ t { nx := fun _ H' => Q .non H', rt := Q } (L2.start N vs) H) : Def P w K mg base CX (k + 1) x ps sp := by
  obtain ⟨f, fd, F, g⟩ := h
  obtain ⟨oc, od, _, _, _, _, _, _, _, osl, _, lk, _⟩ := F.ex
  exact ⟨f, fd, g, F.kp, F.bindsN hb, F.ok S len fun cdv A outer s H vs Q E hr hsp => hbody f cdv A outer s H vs Q E hr hsp, oc, od, osl, lk⟩
/-- a def that raises nothing -/
theorem mkP {R : List PyData → PyData → Prop} (h : Has K mg x st) (hb : BindsP x st ps) (S : FnScope N ps (defScope st)) (hn : ps.length = n)
    (hbody : ∀ (f : Addr) (cdv : Value) (A : Around) (outer : List Env) (s : Shared) (H : Hp) (E : XK), Room k (A.deeper (envOfC x (defScope st) s.heap.objs.size f cdv)) →
      ∃ t, PSs (cxOf CX0 P w K mg base N x (defScope st) f cdv A outer s H E).nox (defBody st) t ∧ BodyP N.length n R t) : Def P w K mg base CX0 (k + 1) x ps (spP n R) :=
  mk_def h hb S (fun vs H Q E z => (spP_len z).trans hn.symm) fun f cdv A outer s H vs Q E hr hsp => by
    obtain ⟨t, h1, h2⟩ := hbody f cdv A outer s H E hr
    exact ⟨t, h1.nox, spP_body (N := N) (fun ds d B Q hl hR q => h2 ds d B Q hl hR q) hsp⟩
end
section
variable {X : Cx} {j k : Nat} {x : Str} {ps : List Str} {sp : Sp} {p pos : Pos} {e : Expr} {es : List Expr} {t : TA} {E : XK}
theorem pe_callD (D : Def X.prog X.w X.K X.mg X.base CX0 j x ps sp) (hr : Room k X.A) (ha : PA X (e :: es) t) (hj : j ≤ k := by decide) (hg : Gl X x := by rfl) (hdb : (x == ("__debug__" : Str)) = false := by decide)
    (he : starEach (e :: es) X.env = (false, eval e X.env) :: starEach es X.env := by rfl) (hpl : (backTo pos (starEach es X.env)).any (·.1) = false := by rfl) : PE X (.Call (.Name x p) (e :: es) [] pos) (tCall sp [] E0 t) := by
  obtain ⟨f, fd, hm, hk, hb, F, _⟩ := D.ex
  exact pe_call F (hr.mono hj) hg hm hk hb .nil pass0 ha hdb he hpl
/-- of a def that may raise, where it is known that it does not -/
theorem pe_callD0 (D : Def X.prog X.w X.K X.mg X.base (L2.CX X.prog X.w) j x ps sp) (hr : Room k X.A) (ha : PA X (e :: es) t) (hj : j ≤ k := by decide) (hg : Gl X x := by rfl) (hdb : (x == ("__debug__" : Str)) = false := by decide)
    (he : starEach (e :: es) X.env = (false, eval e X.env) :: starEach es X.env := by rfl) (hpl : (backTo pos (starEach es X.env)).any (·.1) = false := by rfl) : PE X (.Call (.Name x p) (e :: es) [] pos) (tCall sp [] E0 t) := by
  obtain ⟨f, fd, hm, hk, hb, F, _⟩ := D.ex
  exact pe_call F (hr.mono hj) hg hm hk hb .nil passX0 ha hdb he hpl
/-- .. which leaves this def, too -/
theorem pe_callDX (D : Def X.prog X.w X.K X.mg X.base (L2.CX X.prog X.w) j x ps sp) (hr : Room k X.A) (tk : Takes X fun cls d _ H => E cls d H) (ha : PA X (e :: es) t) (hj : j ≤ k := by decide) (hg : Gl X x := by rfl) (hdb : (x == ("__debug__" : Str)) = false := by decide)
    (he : starEach (e :: es) X.env = (false, eval e X.env) :: starEach es X.env := by rfl) (hpl : (backTo pos (starEach es X.env)).any (·.1) = false := by rfl) : PE X (.Call (.Name x p) (e :: es) [] pos) (tCall sp [] E t) := by
  obtain ⟨f, fd, hm, hk, hb, F, _⟩ := D.ex
  exact pe_call F (hr.mono hj) hg hm hk hb .nil (passes_call tk fun _ _ _ _ h => h) ha hdb he hpl
/-- .. in a try's body -/
theorem pe_callDS {W : WX} (D : Def X.prog X.w X.K X.mg X.base (L2.CX X.prog X.w) j x ps sp) (hr : Room k X.A) (tk : Takes X W) (ha : PA X (e :: es) t) (hj : j ≤ k := by decide) (hg : Gl X x := by rfl) (hdb : (x == ("__debug__" : Str)) = false := by decide)
    (he : starEach (e :: es) X.env = (false, eval e X.env) :: starEach es X.env := by rfl) (hpl : (backTo pos (starEach es X.env)).any (·.1) = false := by rfl) : PE X (.Call (.Name x p) (e :: es) [] pos) (tCallS sp (WE W) t) := by
  obtain ⟨f, fd, hm, hk, hb, F, _⟩ := D.ex
  exact pe_callS F (hr.mono hj) hg hm hk hb (fun σ => passAt tk σ) ha hdb he hpl
theorem hu64 {A : Around} (hr : Room k A) : A.units + 64 < cLine := by have := hr.un; omega
theorem hu65 {A : Around} (hr : Room k A) : A.units + 65 < cLine := by have := hr.un; omega
theorem hu1 {A : Around} (hr : Room k A) : A.units + 1 < cLine := by have := hr.un; omega
end
end Ck

namespace Ck
open PySem PySem.Spec PyProof.Rows L2

section
variable {K : PySem.W.Frag} {Γ : List Sl} {ta tb te : TE} {x y z : PyData} {ds xs ys : List PyData} {b c : Bool} {i : Nat} {r : R2}
theorem RvN.d (h : RvN r x y ds) : RvD r x y (.list ds) := fun G H v u e rx ry Q q => h G H v u e rx ry Q fun a vs G' H' s h0 hg hh rr => q (.ref a) _ H' (s.give h0 hg hh) (.lst (.inl upd_same) (rr.up (Ex.new hg)))
theorem RcN.d {r : List V → Hp → VK → Prop} (h : RcN r xs ds) : RcD r xs (.list ds) := fun G H vs e rx Q q => h G H vs e rx Q fun a vs G' H' s h0 hg hh rr => q (.ref a) _ H' (s.give h0 hg hh) (.lst (.inl upd_same) (rr.up (Ex.new hg)))
theorem RsN.d {r : V → Option Int → Option Int → Hp → VK → Prop} {lo hi : Option Int} (h : RsN r x lo hi ds) : RsD r x lo hi (.list ds) := fun G H v e rx Q q => h G H v e rx Q fun a vs G' H' s h0 hg hh rr => q (.ref a) _ H' (s.give h0 hg hh) (.lst (.inl upd_same) (rr.up (Ex.new hg)))
variable {d : PyData}
theorem rv_modP {i j : Int} (c : 0 < j) : RvD (rI (fun _ j => 0 < j) fun i j => .int (i % j)) (.int i) (.int j) (.int (i % j)) := rv_I c fun _ => .int _
theorem rv_fdivP {i j : Int} (c : CDiv i j) : RvD (rI CDiv fun i j => .int (i / j)) (.int i) (.int j) (.int (i / j)) := rv_I c fun _ => .int _
theorem rv_gt {i j : Int} : RvD (rI0 fun i j => .bl (decide (j < i))) (.int i) (.int j) (.bool (decide (j < i))) := rv_I0 fun _ => .bl _
theorem rv_ge {i j : Int} : RvD (rI0 fun i j => .bl (decide (j ≤ i))) (.int i) (.int j) (.bool (decide (j ≤ i))) := rv_I0 fun _ => .bl _
theorem ru_neg {n : Int} : RuD (rU fun i => .int (-i)) (.int n) (.int (-n)) := fun G H v e rx Q q => by
  cases rx; exact ⟨n, rfl, q _ G H (Stp.rfl' e) (.int _)⟩

/-! shapes -/
structure Shp (n : Nat) (d : PyData) : Prop where
  lay : d.canLay0 = true
  dep : d.depth ≤ n
theorem Shp.sh {n : Nat} (h : Shp n d) (hn : n ≤ 64 := by decide) : SeqAt.shaped d = true := by
  unfold SeqAt.shaped
  rw [h.lay, decide_eq_true (Nat.le_trans h.dep hn)]; rfl
theorem Shp.mono {n m : Nat} (h : Shp n d) (hn : n ≤ m) : Shp m d := ⟨h.lay, Nat.le_trans h.dep hn⟩
theorem shp_int {n : Nat} {k : Int} : Shp n (.int k) := ⟨by simp [PyData.canLay0], by simp [PyData.depth]⟩
theorem shp_bool {n : Nat} {k : Bool} : Shp n (.bool k) := ⟨by simp [PyData.canLay0], by simp [PyData.depth]⟩
theorem shp_none {n : Nat} : Shp n .none := ⟨by simp [PyData.canLay0], by simp [PyData.depth]⟩
theorem shp_str {n : Nat} {k : Str} (h : PyData.strOk k = true) : Shp n (.str k) := ⟨by simp [PyData.canLay0, h], by simp [PyData.depth]⟩
theorem layAll_of : ∀ {ds : List PyData}, (∀ x ∈ ds, x.canLay0 = true) → PyData.canLayAll0 ds = true
  | [], _ => by simp [PyData.canLayAll0]
  | x :: xs, h => by
    simp only [PyData.canLayAll0, Bool.and_eq_true]
    exact ⟨h x List.mem_cons_self, layAll_of fun y hy => h y (List.mem_cons_of_mem _ hy)⟩
theorem depAll_of {n : Nat} : ∀ {ds : List PyData}, (∀ x ∈ ds, x.depth ≤ n) → PyData.depthAll ds ≤ n
  | [], _ => by simp [PyData.depthAll]
  | x :: xs, h => by
    simp only [PyData.depthAll]
    have h1 := h x List.mem_cons_self
    have h2 := depAll_of (n := n) fun y hy => h y (List.mem_cons_of_mem _ hy)
    omega
theorem shp_list {n : Nat} (h : ∀ x ∈ ds, Shp n x) : Shp (n + 1) (.list ds) := ⟨by simp only [PyData.canLay0]; exact layAll_of fun x hx => (h x hx).lay, by simp only [PyData.depth]; exact Nat.succ_le_succ (depAll_of fun x hx => (h x hx).dep)⟩
theorem shp_tuple {n : Nat} (h : ∀ x ∈ ds, Shp n x) : Shp (n + 1) (.tuple ds) := ⟨by simp only [PyData.canLay0]; exact layAll_of fun x hx => (h x hx).lay, by simp only [PyData.depth]; exact Nat.succ_le_succ (depAll_of fun x hx => (h x hx).dep)⟩
theorem shp_mem {n : Nat} {ds : List PyData} {y : PyData} (h : Shp n (.list ds)) (hy : y ∈ ds) : Shp n y := by
  obtain ⟨h1, h2⟩ := h
  simp only [PyData.canLay0] at h1
  simp only [PyData.depth] at h2
  have key : ∀ {ds : List PyData}, PyData.canLayAll0 ds = true → y ∈ ds → y.canLay0 = true ∧ y.depth ≤ PyData.depthAll ds := by
    intro ds
    induction ds with
    | nil => intro _ h; cases h
    | cons x xs ih =>
      intro h hy
      simp only [PyData.canLayAll0, Bool.and_eq_true] at h
      simp only [PyData.depthAll]
      rcases List.mem_cons.mp hy with rfl | hy
      · exact ⟨h.1, by omega⟩
      · have := ih h.2 hy
        exact ⟨this.1, by omega⟩
  have := key h1 hy
  exact ⟨this.1, by omega⟩
/-! eqv of scalars -/
theorem eqv_int {m n : Int} : PyData.eqv (.int m) (.int n) = decide (m = n) := by simp only [PyData.eqv, Bool.beq_eq_decide_eq]
theorem eqv_str {m n : Str} : PyData.eqv (.str m) (.str n) = decide (m = n) := by
  simp only [PyData.eqv]
  by_cases h : m = n
  · subst h; simp
  · rw [decide_eq_false h]; exact beq_eq_false_iff_ne.mpr h
theorem rv_eqI {m n : Int} : RvD (rEqD K) (.int m) (.int n) (.bool (decide (m = n))) := by
  have h := rv_eqD (K := K) (x := .int m) (y := .int n) (shp_int (n := 0)).sh (shp_int (n := 0)).sh
  rw [eqv_int] at h; exact h
theorem rv_neI {m n : Int} : RvD (rNeD K) (.int m) (.int n) (.bool (!decide (m = n))) := by
  have h := rv_neD (K := K) (x := .int m) (y := .int n) (shp_int (n := 0)).sh (shp_int (n := 0)).sh
  rw [eqv_int] at h; exact h
theorem rv_eqS {m n : Str} (h1 : PyData.strOk m = true) (h2 : PyData.strOk n = true) : RvD (rEqD K) (.str m) (.str n) (.bool (decide (m = n))) := by
  have h := rv_eqD (K := K) (x := .str m) (y := .str n) (shp_str (n := 0) h1).sh (shp_str (n := 0) h2).sh
  rw [eqv_str] at h; exact h
theorem rv_neS {m n : Str} (h1 : PyData.strOk m = true) (h2 : PyData.strOk n = true) : RvD (rNeD K) (.str m) (.str n) (.bool (!decide (m = n))) := by
  have h := rv_neD (K := K) (x := .str m) (y := .str n) (shp_str (n := 0) h1).sh (shp_str (n := 0) h2).sh
  rw [eqv_str] at h; exact h
theorem eqv_bool {m n : Bool} : PyData.eqv (.bool m) (.bool n) = (m == n) := by simp only [PyData.eqv]
theorem rv_eqB {m n : Bool} : RvD (rEqD K) (.bool m) (.bool n) (.bool (m == n)) := by
  have h := rv_eqD (K := K) (x := .bool m) (y := .bool n) (shp_bool (n := 0)).sh (shp_bool (n := 0)).sh
  rw [eqv_bool] at h; exact h
theorem rv_neB {m n : Bool} : RvD (rNeD K) (.bool m) (.bool n) (.bool (!(m == n))) := by
  have h := rv_neD (K := K) (x := .bool m) (y := .bool n) (shp_bool (n := 0)).sh (shp_bool (n := 0)).sh
  rw [eqv_bool] at h; exact h
/-- a list against [] -/
theorem eqv_nil {ds : List PyData} : PyData.eqv (.list ds) (.list []) = ds.isEmpty := by
  cases ds <;> simp [PyData.eqv, PyData.eqvAll]
theorem rv_eqNil (h : ∃ n, n ≤ 64 ∧ Shp n (.list ds)) : RvD (rEqD K) (.list ds) (.list []) (.bool ds.isEmpty) := by
  obtain ⟨n, hn, h⟩ := h
  have h := rv_eqD (K := K) (h.sh hn) (shp_list (n := 0) (ds := []) fun x hx => by cases hx).sh
  rw [eqv_nil] at h; exact h
theorem rv_neNil (h : ∃ n, n ≤ 64 ∧ Shp n (.list ds)) : RvD (rNeD K) (.list ds) (.list []) (.bool (!ds.isEmpty)) := by
  obtain ⟨n, hn, h⟩ := h
  have h := rv_neD (K := K) (h.sh hn) (shp_list (n := 0) (ds := []) fun x hx => by cases hx).sh
  rw [eqv_nil] at h; exact h

/-! isinstance -/
def isIntD : PyData → Bool | .int _ => true | .bool _ => true | _ => false
def isBoolD : PyData → Bool | .bool _ => true | _ => false
def isStrD : PyData → Bool | .str _ => true | _ => false
def isListD : PyData → Bool | .list _ => true | _ => false
def isTupD : PyData → Bool | .tuple _ => true | _ => false
def isDictD : PyData → Bool | .dict _ => true | _ => false
theorem k_Int (d : PyData) : kitB (tyNm d) "int" = some (isIntD d) := by
  cases d
  · exact (by decide +kernel : kitB "NoneType" "int" = some false)
  · exact (by decide +kernel : kitB "bool" "int" = some true)
  · exact (by decide +kernel : kitB "int" "int" = some true)
  · exact (by decide +kernel : kitB "str" "int" = some false)
  · exact (by decide +kernel : kitB "list" "int" = some false)
  · exact (by decide +kernel : kitB "tuple" "int" = some false)
  · exact (by decide +kernel : kitB "dict" "int" = some false)
theorem k_Bool (d : PyData) : kitB (tyNm d) "bool" = some (isBoolD d) := by
  cases d
  · exact (by decide +kernel : kitB "NoneType" "bool" = some false)
  · exact (by decide +kernel : kitB "bool" "bool" = some true)
  · exact (by decide +kernel : kitB "int" "bool" = some false)
  · exact (by decide +kernel : kitB "str" "bool" = some false)
  · exact (by decide +kernel : kitB "list" "bool" = some false)
  · exact (by decide +kernel : kitB "tuple" "bool" = some false)
  · exact (by decide +kernel : kitB "dict" "bool" = some false)
theorem k_Str (d : PyData) : kitB (tyNm d) "str" = some (isStrD d) := by
  cases d
  · exact (by decide +kernel : kitB "NoneType" "str" = some false)
  · exact (by decide +kernel : kitB "bool" "str" = some false)
  · exact (by decide +kernel : kitB "int" "str" = some false)
  · exact (by decide +kernel : kitB "str" "str" = some true)
  · exact (by decide +kernel : kitB "list" "str" = some false)
  · exact (by decide +kernel : kitB "tuple" "str" = some false)
  · exact (by decide +kernel : kitB "dict" "str" = some false)
theorem k_List (d : PyData) : kitB (tyNm d) "list" = some (isListD d) := by
  cases d
  · exact (by decide +kernel : kitB "NoneType" "list" = some false)
  · exact (by decide +kernel : kitB "bool" "list" = some false)
  · exact (by decide +kernel : kitB "int" "list" = some false)
  · exact (by decide +kernel : kitB "str" "list" = some false)
  · exact (by decide +kernel : kitB "list" "list" = some true)
  · exact (by decide +kernel : kitB "tuple" "list" = some false)
  · exact (by decide +kernel : kitB "dict" "list" = some false)
theorem k_Tup (d : PyData) : kitB (tyNm d) "tuple" = some (isTupD d) := by
  cases d
  · exact (by decide +kernel : kitB "NoneType" "tuple" = some false)
  · exact (by decide +kernel : kitB "bool" "tuple" = some false)
  · exact (by decide +kernel : kitB "int" "tuple" = some false)
  · exact (by decide +kernel : kitB "str" "tuple" = some false)
  · exact (by decide +kernel : kitB "list" "tuple" = some false)
  · exact (by decide +kernel : kitB "tuple" "tuple" = some true)
  · exact (by decide +kernel : kitB "dict" "tuple" = some false)
theorem k_Dict (d : PyData) : kitB (tyNm d) "dict" = some (isDictD d) := by
  cases d
  · exact (by decide +kernel : kitB "NoneType" "dict" = some false)
  · exact (by decide +kernel : kitB "bool" "dict" = some false)
  · exact (by decide +kernel : kitB "int" "dict" = some false)
  · exact (by decide +kernel : kitB "str" "dict" = some false)
  · exact (by decide +kernel : kitB "list" "dict" = some false)
  · exact (by decide +kernel : kitB "tuple" "dict" = some false)
  · exact (by decide +kernel : kitB "dict" "dict" = some true)
theorem ev_isiInt (h : Ev ta Γ d) : Ev (tCB (rIsi K) (tCons ta (tCons (tC (.ty "int")) tNil))) Γ (.bool (isIntD d)) := ev_isi h (k_Int d)
theorem ev_isiBool (h : Ev ta Γ d) : Ev (tCB (rIsi K) (tCons ta (tCons (tC (.ty "bool")) tNil))) Γ (.bool (isBoolD d)) := ev_isi h (k_Bool d)
theorem ev_isiStr (h : Ev ta Γ d) : Ev (tCB (rIsi K) (tCons ta (tCons (tC (.ty "str")) tNil))) Γ (.bool (isStrD d)) := ev_isi h (k_Str d)
theorem ev_isiList (h : Ev ta Γ d) : Ev (tCB (rIsi K) (tCons ta (tCons (tC (.ty "list")) tNil))) Γ (.bool (isListD d)) := ev_isi h (k_List d)
theorem ev_isiTup (h : Ev ta Γ d) : Ev (tCB (rIsi K) (tCons ta (tCons (tC (.ty "tuple")) tNil))) Γ (.bool (isTupD d)) := ev_isi h (k_Tup d)
theorem ev_isiDict (h : Ev ta Γ d) : Ev (tCB (rIsi K) (tCons ta (tCons (tC (.ty "dict")) tNil))) Γ (.bool (isDictD d)) := ev_isi h (k_Dict d)

/-! texts -/
def sg (c : Nat) : PyData := .str ⟨#[c]⟩
def signs (z : Str) : List PyData := z.cps.toList.map sg
theorem ei_str {z : Str} (h : Ev te Γ (.str z)) : EvI (iStr te) Γ (signs z) := fun B G σ H ok R q => h B G σ H ok _ fun v G1 H1 s1 r1 => by
  cases r1
  have hl : (signs z).length = z.cps.size := by simp [signs]
  refine ⟨z, rfl, q _ G1 H1 s1 ⟨fun H _ => ?_, fun i H hi _ => ?_, fun i H x H' d hd _ y => ?_⟩⟩
  · show z.cps.size ≤ _
    rw [hl]; exact Nat.le_refl _
  · show i < z.cps.size
    rw [hl] at hi; exact hi
  · obtain ⟨e1, c, hc, rfl⟩ := y
    unfold signs at hd
    rw [List.getElem?_map, Array.getElem?_toList, hc] at hd
    cases hd
    exact ⟨e1, .str _⟩
theorem rm_find {a c : Str} : RmD "str" (fun x xs H Q => ∃ a b, x = .str a ∧ xs = [.str b] ∧ Q (.int (Txt.find a b)) H) (.str a) [.str c] (.int (Txt.find a c)) := fun K G H v vs e rx => by
  cases rx
  refine ⟨fun _ _ => rfl, fun rv Q q => ?_⟩
  cases rv with
  | cons r1 r2 => cases r1; cases r2; exact ⟨a, c, rfl, rfl, q _ G H (Stp.rfl' e) (.int _)⟩
theorem rm_count {a c : Str} : RmD "str" (fun x xs H Q => ∃ a b, x = .str a ∧ xs = [.str b] ∧ Q (.int (Txt.count a b)) H) (.str a) [.str c] (.int (Txt.count a c)) := fun K G H v vs e rx => by
  cases rx
  refine ⟨fun _ _ => rfl, fun rv Q q => ?_⟩
  cases rv with
  | cons r1 r2 => cases r1; cases r2; exact ⟨a, c, rfl, rfl, q _ G H (Stp.rfl' e) (.int _)⟩
theorem rm_join {a : Str} {ys : List Str} (hz : (ys.map (·.length)).sum + ys.length * a.length ≤ 16777216) :
    RmD "str" (fun x xs H Q => ∃ a p, ∃ ys : List Str, x = .str a ∧ xs = [.ref p] ∧ (SqL K H p (ys.map V.str) ∨ SqT K H p (ys.map V.str)) ∧ (ys.map (·.length)).sum + ys.length * a.length ≤ 16777216 ∧ Q (.str (Txt.join a ys)) H) (.str a) [.list (ys.map .str)] (.str (Txt.join a ys)) := fun K' G H v vs e rx => by
  cases rx
  refine ⟨fun _ _ => rfl, fun rv Q q => ?_⟩
  cases rv with
  | cons r1 r2 =>
    cases r2
    cases r1 with
    | lst hd r =>
      have e1 := r.strs
      subst e1
      exact ⟨a, _, ys, rfl, rfl, .inl (rd_sql (e.rd hd)), hz, q _ G H (Stp.rfl' e) (.str _)⟩
end
/-! constants of the module -/
section
variable {X : Cx} {x : Str} {p : Pos}
theorem pe_gstr {z : Str} (h : ∃ t, X.mg x = some (.str z t)) (hg : Gl X x := by rfl) (hd : (x == ("__debug__" : Str)) = false := by decide) : PE X (.Name x p) (tC (.str z)) := by
  obtain ⟨t, h⟩ := h
  exact pe_glob hg h ⟨t, rfl⟩ hd
theorem pe_gint {z : Int} (h : ∃ t, X.mg x = some (.int z t)) (hg : Gl X x := by rfl) (hd : (x == ("__debug__" : Str)) = false := by decide) : PE X (.Name x p) (tC (.int z)) := by
  obtain ⟨t, h⟩ := h
  exact pe_glob hg h ⟨t, rfl⟩ hd
end
end Ck
namespace Ck
open PySem PySem.Spec PyProof.Rows L2
section
variable {Γ : List Sl} {te : TE} {t u : TT} {xs : List PyData} {b : Bool}
theorem ev_lst {t : TA} (h : EvA t Γ xs) (hl : xs.length ≤ sizeLine) : Ev (tLst t) Γ (.list xs) := (evN_lst h hl).ev
/-- a way that is not gone -/
theorem et_no (h : b = false) : b = true → EvT u Γ false := fun z => by rw [h] at z; cases z
theorem et_noO (h : b = true) : b = false → EvT u Γ true := fun z => by rw [h] at z; cases z
theorem ev_no (h : b = false) : b = true → Ev te Γ (.bool false) := fun z => by rw [h] at z; cases z
theorem ev_noO (h : b = true) : b = false → Ev te Γ (.bool true) := fun z => by rw [h] at z; cases z
end
theorem sz_dec {n : Nat} (h : n ≤ 100000) : n ≤ sizeLine := Nat.le_trans h (by decide)
end Ck
namespace Ck
open PySem PySem.Spec PyProof.Rows L2
theorem at_rt {B : Bs} {Γ : List Sl} {nx bk ct : L2.St → Hp → Prop} {rt : VK} {te : TE} {d d' : PyData} (h : Ev te Γ d) (e : d = d') (q : ∀ v G H, Stp B.g0 B.h0 G H → Rp G v d' → rt v H) : At B Γ (tRet te ⟨nx, rt, bk, ct⟩) := at_ret h (e ▸ q)
end Ck
namespace Ck
open PySem PySem.Spec PyProof.Rows L2
/-! the rules with the written part by its own letter (within a comprehension the reading may not lean on the block) -/
section
variable {X : Cx} (K : PySem.W.Frag)
theorem op_addK (hK : X.K = K := by rfl) : OpR X (binaryOp .Add) (rAddU K) := hK ▸ op_addU
theorem op_eqK (hu : X.A.units + 64 < cLine) (hK : X.K = K := by rfl) : OpR X (compareOp .Eq) (rEqD K) := hK ▸ op_eqD hu
theorem op_neK (hu : X.A.units + 64 < cLine) (hK : X.K = K := by rfl) : OpR X (compareOp .NotEq) (rNeD K) := hK ▸ op_neD hu
theorem op_inK (hu : X.A.units + 65 < cLine) (hK : X.K = K := by rfl) : OpR X (compareOp .In) (rInU K) := hK ▸ op_inU hu
theorem op_notInK (hu : X.A.units + 65 < cLine) (hK : X.K = K := by rfl) : OpR X (compareOp .NotIn) (rNotInU K) := hK ▸ op_notInU hu
theorem ix_K (hK : X.K = K := by rfl) : IxR X (rIx K) := hK ▸ ix_seq
theorem sl_K (hK : X.K = K := by rfl) : SlR X (rSlU K) := hK ▸ sl_U
theorem isi_K (hK : X.K = K := by rfl) : CallR X (.builtin "isinstance") (rIsi K) := hK ▸ call_isi
theorem len_K (hK : X.K = K := by rfl) : CallR X (.builtin "len") (rLenV K) := hK ▸ call_lenV
theorem list_K (hK : X.K = K := by rfl) : CallR X (.type "list") (rListV K) := hK ▸ call_listV
theorem sum_K (hc : X.calm = true) (hK : X.K = K := by rfl) : CallR X (.builtin "sum") (rSum K) := hK ▸ cr_sum hc
theorem max_K (hc : X.calm = true) (hK : X.K = K := by rfl) : CallR X (.builtin "max") (rMax K) := hK ▸ cr_max hc
theorem all_K (hc : X.calm = true) (hK : X.K = K := by rfl) : CallR X (.builtin "all") (rAll K) := hK ▸ cr_all hc
theorem sorted_K (hK : X.K = K := by rfl) : CallR X (.builtin "sorted") (rSorted K) := hK ▸ cr_sorted
theorem pi_listK {tg l : Expr} {tl : TE} (hl : PE X l tl) (hK : X.K = K := by rfl) : PI X tg l (iList K tl) := hK ▸ pi_list hl
theorem pi_tupK {tg l : Expr} {tl : TE} (hl : PE X l tl) (hK : X.K = K := by rfl) : PI X tg l (iTup K tl) := hK ▸ pi_tup hl
theorem pe_revLK {e : Expr} {te : TE} {k : Nat} {p1 p2 p3 pos : Pos} (he : PE X e te) (hK : X.K = K := by rfl) : PE X (.Subscript e (.Slice none none (some (.UnaryOp .USub (.Constant (.int 1) k p1) p2)) p3) pos) (tRevL K te) := hK ▸ pe_revL he
theorem pe_bmK {o e : Expr} {es : List Expr} {to : TE} {t : TA} {name : Str} {apos cpos : Pos} {T id : String} {r : V → List V → Hp → VK → Prop} (pa : PlainAttrs T) (slot : Slot T name id) (hty : typeOf (.builtin id) = pure (.type "method_descriptor")) (hm : MtR X id r) (ho : PE X o to) (ha : PA X (e :: es) t)
    (hK : X.K = K := by rfl) (hbase : attributeBase o name X.env (eval o X.env) = eval o X.env := by rfl)
    (hfew : ((backTo cpos (starEach (e :: es) X.env)).all (fun x => !x.1) && (backToKw cpos (keywordEach [] X.env)).all (fun x => x.1.isSome)
      && decide ((e :: es).length + ([] : List Keyword).length + (if ([] : List Keyword).isEmpty then 0 else 1) < 30)) = true := by rfl)
    (hline : (apos.endLine == cpos.line) = true := by rfl) (hs : starEach (e :: es) X.env = (false, eval e X.env) :: starEach es X.env := by rfl) (hplain : (backTo cpos (starEach es X.env)).any (·.1) = false := by rfl) :
    PE X (.Call (.Attribute o name apos) (e :: es) [] cpos) (tBM K T r to t) := hK ▸ pe_bm pa slot hty hm ho ha hbase hfew hline hs hplain
end
def rJoin (K : PySem.W.Frag) : V → List V → Hp → VK → Prop := fun x xs H Q => ∃ a p, ∃ ys : List Str, x = .str a ∧ xs = [.ref p] ∧ (SqL K H p (ys.map V.str) ∨ SqT K H p (ys.map V.str)) ∧ (ys.map (·.length)).sum + ys.length * a.length ≤ 16777216 ∧ Q (.str (Txt.join a ys)) H
def rFind : V → List V → Hp → VK → Prop := fun x xs H Q => ∃ a b, x = .str a ∧ xs = [.str b] ∧ Q (.int (Txt.find a b)) H
def rCount : V → List V → Hp → VK → Prop := fun x xs H Q => ∃ a b, x = .str a ∧ xs = [.str b] ∧ Q (.int (Txt.count a b)) H
section
variable {X : Cx} (K : PySem.W.Frag)
theorem mt_joinK (hK : X.K = K := by rfl) : MtR X "str.join" (rJoin K) := hK ▸ mt_join
theorem mt_findK : MtR X "str.find" rFind := mt_find
theorem mt_countK : MtR X "str.count" rCount := mt_count
theorem rm_findK {a c : Str} : RmD "str" rFind (.str a) [.str c] (.int (Txt.find a c)) := rm_find
theorem rm_countK {a c : Str} : RmD "str" rCount (.str a) [.str c] (.int (Txt.count a c)) := rm_count
theorem rm_joinK {a : Str} {ys : List Str} (hz : (ys.map (·.length)).sum + ys.length * a.length ≤ 16777216) : RmD "str" (rJoin K) (.str a) [.list (ys.map .str)] (.str (Txt.join a ys)) := rm_join hz
end
end Ck
namespace Ck
open PySem PySem.Spec PyProof.Rows L2
section
variable {K : PySem.W.Frag} {Γ : List Sl} {ta : TE} {d : PyData} {b : Bool}
theorem ev_isiIntB (h : Ev ta Γ d) (e : isIntD d = b) : Ev (tCB (rIsi K) (tCons ta (tCons (tC (.ty "int")) tNil))) Γ (.bool b) := e ▸ ev_isiInt h
theorem ev_isiBoolB (h : Ev ta Γ d) (e : isBoolD d = b) : Ev (tCB (rIsi K) (tCons ta (tCons (tC (.ty "bool")) tNil))) Γ (.bool b) := e ▸ ev_isiBool h
theorem ev_isiStrB (h : Ev ta Γ d) (e : isStrD d = b) : Ev (tCB (rIsi K) (tCons ta (tCons (tC (.ty "str")) tNil))) Γ (.bool b) := e ▸ ev_isiStr h
theorem ev_isiListB (h : Ev ta Γ d) (e : isListD d = b) : Ev (tCB (rIsi K) (tCons ta (tCons (tC (.ty "list")) tNil))) Γ (.bool b) := e ▸ ev_isiList h
theorem ev_isiTupB (h : Ev ta Γ d) (e : isTupD d = b) : Ev (tCB (rIsi K) (tCons ta (tCons (tC (.ty "tuple")) tNil))) Γ (.bool b) := e ▸ ev_isiTup h
theorem ev_isiDictB (h : Ev ta Γ d) (e : isDictD d = b) : Ev (tCB (rIsi K) (tCons ta (tCons (tC (.ty "dict")) tNil))) Γ (.bool b) := e ▸ ev_isiDict h
end
end Ck
namespace Ck
open PySem PySem.Spec PyProof.Rows L2
/-- over a range, the state by the turn -/
theorem at_forR {B : Bs} {Γ : List Sl} {nx bk ct : L2.St → Hp → Prop} {rt : VK} {t : TS} {j : Nat} {wi : TI} {lo : Int} {n : Nat} (I : Nat → List Sl) (hi : EvI wi Γ (rngD lo n)) (h0 : Wk (I 0) Γ)
    (hs : ∀ (gb : Hp) (i : Nat) (N : L2.St → Hp → Prop), i < n → At ⟨gb, B.g0, B.h0⟩ (I (i + 1)) N → At ⟨gb, B.g0, B.h0⟩ ((I i).set j (.d (.int (lo + i)))) (t ⟨N, rt, nx, N⟩))
    (he : At B (I n) nx) : At B Γ (tFor wi (gName j) t ⟨nx, rt, bk, ct⟩) := by
  exact at_for I (fun i => i ≤ n) hi h0 (Nat.zero_le _) (fun gb i d N hd hp hN => by
    have hl : i < n := by
      have := (List.getElem?_eq_some_iff.mp hd).1
      rw [rngD_length] at this; exact this
    rw [rngD_get lo n i hl] at hd
    cases hd
    exact hs gb i N hl (hN hl)) (fun _ => by rw [rngD_length]; exact he)
/-- over a list of encoded things -/
theorem at_forL {α : Type} (enc : α → PyData) (xs : List α) {B : Bs} {Γ : List Sl} {nx bk ct : L2.St → Hp → Prop} {rt : VK} {t : TS} {j : Nat} {wi : TI} (I : Nat → List Sl) (hi : EvI wi Γ (xs.map enc)) (h0 : Wk (I 0) Γ)
    (hs : ∀ (gb : Hp) (i : Nat) (x : α) (N : L2.St → Hp → Prop), xs[i]? = some x → At ⟨gb, B.g0, B.h0⟩ (I (i + 1)) N → At ⟨gb, B.g0, B.h0⟩ ((I i).set j (.d (enc x))) (t ⟨N, rt, nx, N⟩))
    (he : At B (I xs.length) nx) : At B Γ (tFor wi (gName j) t ⟨nx, rt, bk, ct⟩) :=
  at_for I (fun _ => True) hi h0 trivial (fun gb i d N hd _ hN => by
    rw [List.getElem?_map] at hd
    cases hx : xs[i]? with
    | none => rw [hx] at hd; cases hd
    | some x =>
      rw [hx] at hd
      cases hd
      exact hs gb i x N hx (hN trivial)) (fun _ => by rw [List.length_map]; exact he)
end Ck
namespace Ck
open PySem PySem.Spec PyProof.Rows L2
theorem ev_head {sp : Sp} {dvs : List V} {E : XK} {t : TA} {Γ : List Sl} {d : PyData} (h : Ev (tCall sp dvs E t) Γ d) : Ev (tCall sp dvs E t) Γ d := h
end Ck

namespace Ck
open PySem PySem.Spec PyProof.Rows L2
section
variable {Γ : List Sl} {ta tb tc : TE} {E : XK} {x y : PyData}
/-! ### is_number, is_key, is_deed -/
def isNumD (x : PyData) : Bool := isIntD x && !isBoolD x
def R_is_number (ds : List PyData) (d : PyData) : Prop := ∃ x, ds = [x] ∧ d = .bool (isNumD x)
theorem ev_is_number (h : Ev ta Γ x) : Ev (tCall (spP 1 R_is_number) [] E (tCons ta tNil)) Γ (.bool (isNumD x)) := ev_call (ea_cons h ea_nil) rfl ⟨x, rfl, rfl⟩
abbrev LETTERS : Str := "abcdefghijklmnopqrstuvwxyz"
theorem letters_list : LETTERS.cps.toList = List.range' 97 26 := by decide +kernel
theorem letters_mem (c : Nat) : c ∈ LETTERS.cps.toList ↔ 97 ≤ c ∧ c < 123 := by rw [letters_list, List.mem_range'_1]
def lowD (z : Str) : Bool := z.cps.toList.all fun c => decide (c ∈ LETTERS.cps.toList)
def isKeyS (z : Str) : Bool := decide (1 ≤ z.length) && (decide (z.length ≤ 8) && lowD z)
def isKeyD : PyData → Bool
  | .str z => isKeyS z
  | _ => false
/-- texts of a moderate size -/
def SzS : PyData → Prop
  | .str z => z.length ≤ 100000
  | _ => True
def R_is_key (ds : List PyData) (d : PyData) : Prop := ∃ x, ds = [x] ∧ SzS x ∧ d = .bool (isKeyD x)
theorem ev_is_key (h : Ev ta Γ x) (hs : SzS x) : Ev (tCall (spP 1 R_is_key) [] E (tCons ta tNil)) Γ (.bool (isKeyD x)) := ev_call (ea_cons h ea_nil) rfl ⟨x, rfl, hs, rfl⟩
theorem ev_is_numberB {b : Bool} (h : Ev ta Γ x) (e : isNumD x = b) : Ev (tCall (spP 1 R_is_number) [] E (tCons ta tNil)) Γ (.bool b) := e ▸ ev_is_number h
theorem ev_is_keyB {b : Bool} (h : Ev ta Γ x) (hs : SzS x) (e : isKeyD x = b) : Ev (tCall (spP 1 R_is_key) [] E (tCons ta tNil)) Γ (.bool b) := e ▸ ev_is_key h hs
theorem num_or (x : PyData) : (∃ i, x = .int i) ∨ isNumD x = false := by
  cases x with
  | int i => exact .inl ⟨i, rfl⟩
  | _ => exact .inr rfl
theorem str_or (x : PyData) : (∃ z, x = .str z) ∨ isStrD x = false := by
  cases x with
  | str z => exact .inl ⟨z, rfl⟩
  | _ => exact .inr rfl
def StrOkD : PyData → Prop
  | .str z => PyData.strOk z = true
  | _ => True
abbrev wPut : Str := "put"
abbrev wAdd : Str := "add"
abbrev wOnce : Str := "once"
abbrev wAway : Str := "away"
def isWordS (w : Str) (v : Int) : Bool := (w == wPut || (w == wAdd || w == wOnce)) || (decide (w = wAway) && decide (v = 0))
def isDeed5 : PyData → PyData → PyData → PyData → PyData → Bool
  | .int a, .int t, .str w, k, .int v => decide (0 ≤ a) && decide (a ≤ 9) && decide (1 ≤ t) && isKeyD k && isWordS w v
  | _, _, _, _, _ => false
def isDeedD : PyData → Bool
  | .tuple [a, t, w, k, v] => isDeed5 a t w k v
  | _ => false
/-- of what may be asked whether it is a deed: no long texts, no odd signs -/
def DeedSz : PyData → Prop
  | .tuple ds => ∀ x ∈ ds, SzS x ∧ StrOkD x
  | _ => True
def R_is_deed (ds : List PyData) (d : PyData) : Prop := ∃ x, ds = [x] ∧ DeedSz x ∧ d = .bool (isDeedD x)
theorem ev_is_deed (h : Ev ta Γ x) (hs : DeedSz x) : Ev (tCall (spP 1 R_is_deed) [] E (tCons ta tNil)) Γ (.bool (isDeedD x)) := ev_call (ea_cons h ea_nil) rfl ⟨x, rfl, hs, rfl⟩
theorem ev_is_deedB {b : Bool} (h : Ev ta Γ x) (hs : DeedSz x) (e : isDeedD x = b) : Ev (tCall (spP 1 R_is_deed) [] E (tCons ta tNil)) Γ (.bool b) := e ▸ ev_is_deed h hs
theorem tup_or (x : PyData) : (∃ a t w k v, x = .tuple [a, t, w, k, v]) ∨ (∃ ds, x = .tuple ds ∧ ds.length ≠ 5) ∨ isTupD x = false := by
  cases x with
  | tuple ds =>
    by_cases h : ds.length = 5
    · match ds, h with
      | [a, t, w, k, v], _ => exact .inl ⟨a, t, w, k, v, rfl⟩
    · exact .inr (.inl ⟨ds, rfl, h⟩)
  | _ => exact .inr (.inr rfl)
theorem isDeed_len {ds : List PyData} (h : ds.length ≠ 5) : isDeedD (.tuple ds) = false := by
  unfold isDeedD
  split
  · rename_i e; cases e; exact absurd rfl h
  · rfl
theorem isDeed_tup {x : PyData} (h : isTupD x = false) : isDeedD x = false := by
  cases x with
  | tuple ds => cases h
  | _ => rfl
theorem isDeed5_a {a t w k v : PyData} (h : isNumD a = false) : isDeed5 a t w k v = false := by
  cases a with
  | int i => cases h
  | _ => rfl
theorem isDeed5_t {a t w k v : PyData} (h : isNumD t = false) : isDeed5 a t w k v = false := by
  cases t with
  | int i => cases h
  | _ => cases a <;> rfl
theorem isDeed5_v {a t w k v : PyData} (h : isNumD v = false) : isDeed5 a t w k v = false := by
  cases v with
  | int i => cases h
  | _ => cases a <;> cases t <;> cases w <;> rfl
theorem isDeed5_w {a t w k v : PyData} (h : isStrD w = false) : isDeed5 a t w k v = false := by
  cases w with
  | str i => cases h
  | _ => cases a <;> cases t <;> rfl
theorem isDeed5_no {ai ti : Int} {w k v : PyData} (h : ai < 0 ∨ 9 < ai ∨ ti < 1) : isDeed5 (.int ai) (.int ti) w k v = false := by
  cases w <;> cases v <;> try rfl
  show (decide (0 ≤ ai) && decide (ai ≤ 9) && decide (1 ≤ ti) && isKeyD k && isWordS _ _) = false
  rcases h with h | h | h
  · rw [decide_eq_false (p := 0 ≤ ai) (by omega)]; rfl
  · rw [decide_eq_false (p := ai ≤ 9) (by omega), Bool.and_false]; rfl
  · rw [decide_eq_false (p := 1 ≤ ti) (by omega), Bool.and_false]; rfl
theorem isDeed5_k {a t v : PyData} {ws : Str} {k : PyData} (h : isKeyD k = false) : isDeed5 a t (.str ws) k v = false := by
  cases a <;> cases t <;> cases v <;> try rfl
  show (_ && isKeyD k && isWordS _ _) = false
  rw [h, Bool.and_false]; rfl
theorem isDeed5_w1 {ai ti vi : Int} {ws : Str} {k : PyData} (h : ¬ ai < 0 ∧ ¬ 9 < ai ∧ ¬ ti < 1) (hk : isKeyD k = true) : isDeed5 (.int ai) (.int ti) (.str ws) k (.int vi) = isWordS ws vi := by
  show (decide (0 ≤ ai) && decide (ai ≤ 9) && decide (1 ≤ ti) && isKeyD k && isWordS _ _) = _
  rw [hk, decide_eq_true (p := 0 ≤ ai) (by omega), decide_eq_true (p := ai ≤ 9) (by omega), decide_eq_true (p := 1 ≤ ti) (by omega)]
  rfl
theorem isWordS_eq (w : Str) (v : Int) : (([PyData.str wPut, .str wAdd, .str wOnce].any fun y => eqS y (.str w)) || (decide (w = wAway) && decide (v = 0))) = isWordS w v := by
  unfold isWordS
  simp only [List.any_cons, List.any_nil, Bool.or_false, eqS]
  have e : ∀ z : Str, (z == w) = (w == z) := fun z => by
    by_cases h : z = w
    · subst h; rfl
    · rw [beq_eq_false_iff_ne.mpr h, beq_eq_false_iff_ne.mpr (Ne.symm h)]
  rw [e, e, e]
end
end Ck

namespace Ck
open PySem PySem.Spec PyProof.Rows L2
section
variable {Γ : List Sl} {ta tb tc : TE} {E : XK} {x y : PyData}
/-! ### the script's cells, the mixing -/
abbrev scr (ns : List Int) : PyData := .list (ns.map PyData.int)
def cellAt (ns : List Int) (k : Int) : Int := ns.getD k.toNat 0
def R_cell_at (ds : List PyData) (d : PyData) : Prop := ∃ (ns : List Int) (k : Int), ds = [scr ns, .int k] ∧ 0 ≤ k ∧ d = .int (cellAt ns k)
theorem ev_cell_at {ns : List Int} {k : Int} (h : Ev ta Γ (scr ns)) (hk : Ev tb Γ (.int k)) (h0 : 0 ≤ k) : Ev (tCall (spP 2 R_cell_at) [] E (tCons ta (tCons tb tNil))) Γ (.int (cellAt ns k)) :=
  ev_call (ea_cons h (ea_cons hk ea_nil)) rfl ⟨ns, k, rfl, h0, rfl⟩
def mix1 (c k : Int) : Int := (c * 48271 + k * 7919 + 1) % 1000003
def mixed (c k : Int) : Int := mix1 c k * (mix1 c k + 2 * k + 5) % 999983
theorem mix1_lo (c k : Int) : 0 ≤ mix1 c k := Int.emod_nonneg _ (by decide)
theorem mix1_hi (c k : Int) : mix1 c k < 1000003 := Int.emod_lt_of_pos _ (by decide)
theorem mixed_lo (c k : Int) : 0 ≤ mixed c k := Int.emod_nonneg _ (by decide)
theorem mixed_hi (c k : Int) : mixed c k < 999983 := Int.emod_lt_of_pos _ (by decide)
def R_mixed (ds : List PyData) (d : PyData) : Prop := ∃ c k, ds = [.int c, .int k] ∧ d = .int (mixed c k)
theorem ev_mixed {c k : Int} (h : Ev ta Γ (.int c)) (hk : Ev tb Γ (.int k)) : Ev (tCall (spP 2 R_mixed) [] E (tCons ta (tCons tb tNil))) Γ (.int (mixed c k)) :=
  ev_call (ea_cons h (ea_cons hk ea_nil)) rfl ⟨c, k, rfl, rfl⟩
/-! ### atI -/
theorem ixN_of {n i : Nat} (h : i < n) : ixN n (i : Int) = some i := by
  unfold ixN
  rw [if_pos (by omega), if_pos (by omega)]; simp
theorem atI_of {α : Type} {xs : List α} {i : Nat} {x : α} (h : xs[i]? = some x) : atI xs (i : Int) = some x := by
  unfold atI
  rw [ixN_of (List.getElem?_eq_some_iff.mp h).1]
  exact h
theorem atI_int {α : Type} {xs : List α} {i : Int} {x : α} (h0 : 0 ≤ i) (h : xs[i.toNat]? = some x) : atI xs i = some x := by
  have := atI_of h
  rw [Int.toNat_of_nonneg h0] at this
  exact this
theorem ixN_int {n : Nat} {i : Int} (h0 : 0 ≤ i) (h : i < n) : ixN n i = some i.toNat := by
  unfold ixN
  rw [if_pos h0, if_pos h]
theorem atI_map {α β : Type} {f : α → β} {xs : List α} {i : Int} {x : α} (h : atI xs i = some x) : atI (xs.map f) i = some (f x) := by
  unfold atI at h ⊢
  rw [List.length_map]
  obtain ⟨j, hj, hx⟩ := Option.bind_eq_some_iff.mp h
  rw [hj]
  show (xs.map f)[j]? = _
  rw [List.getElem?_map, hx]; rfl
theorem atI_neg1 {α : Type} {xs : List α} {x : α} (h : xs.getLast? = some x) : atI xs (-1) = some x := by
  cases xs with
  | nil => cases h
  | cons a r =>
    unfold atI ixN
    rw [if_neg (by decide), if_pos (by simp; omega)]
    show (a :: r)[(-1 + ((a :: r).length : Int)).toNat]? = _
    rw [show (-1 + ((a :: r).length : Int)).toNat = (a :: r).length - 1 by (simp only [List.length_cons]; omega), ← List.getLast?_eq_getElem?]
    exact h
theorem cellAt_get {ns : List Int} {k : Int} (h : k.toNat < ns.length) : ns[k.toNat]? = some (cellAt ns k) := by
  unfold cellAt
  rw [List.getD_eq_getElem?_getD, List.getElem?_eq_getElem h]; rfl
theorem cellAt_no {ns : List Int} {k : Int} (h : ¬ k.toNat < ns.length) : cellAt ns k = 0 := by
  unfold cellAt
  rw [List.getD_eq_getElem?_getD, List.getElem?_eq_none (by omega)]; rfl
/-! ### one sign counted -/
theorem count_in : ∀ c ∈ List.range' 97 26, Txt.count LETTERS ⟨#[c]⟩ = 1 := by decide +kernel
theorem count_out {c : Nat} (h : c ∉ LETTERS.cps.toList) : Txt.count LETTERS ⟨#[c]⟩ = 0 := by
  obtain ⟨f, hc⟩ := PySem.StrLaws.occ_chain LETTERS ⟨#[c]⟩ (LETTERS.length + 1)
  unfold Txt.count
  cases e : Builtin.Str.occurrences LETTERS ⟨#[c]⟩ 0 LETTERS.length (LETTERS.length + 1) with
  | nil => rfl
  | cons i r =>
    exfalso
    rw [e] at hc
    have hf := PySem.StrLaws.found_one LETTERS c
    have hn : (!(Builtin.Str.occurrences LETTERS ⟨#[c]⟩ 0 LETTERS.length 1).isEmpty) = true := by
      rw [PySem.StrLaws.found_iff]
      exact ⟨i, hc.2.1⟩
    rw [hn] at hf
    exact h (of_decide_eq_true hf.symm)
theorem count_eq (c : Nat) : decide (Txt.count LETTERS ⟨#[c]⟩ = 1) = decide (c ∈ LETTERS.cps.toList) := by
  by_cases h : c ∈ LETTERS.cps.toList
  · rw [decide_eq_true h]
    rw [letters_list] at h
    rw [count_in c h]; rfl
  · rw [decide_eq_false h, count_out h]; rfl
/-! ### picking from a written list -/
theorem pick {xs : List PyData} {i : Int} (h0 : 0 ≤ i) (h : i < xs.length) : ∃ x, x ∈ xs ∧ atI xs i = some x := by
  have hl : i.toNat < xs.length := by omega
  exact ⟨xs[i.toNat], List.getElem_mem hl, atI_int h0 (List.getElem?_eq_getElem hl)⟩
theorem pickS {z : Str} {i : Int} (h0 : 0 ≤ i) (h : i < z.length) : ∃ c, c ∈ z.cps.toList ∧ atI z.cps.toList i = some c := by
  have hl : i.toNat < z.cps.toList.length := by simp [Str.length] at h ⊢; omega
  exact ⟨z.cps.toList[i.toNat], List.getElem_mem hl, atI_int h0 (List.getElem?_eq_getElem hl)⟩
theorem strOk_app {a b : Str} (ha : PyData.strOk a = true) (hb : PyData.strOk b = true) : PyData.strOk (a ++ b) = true := by
  unfold PyData.strOk at *
  rw [PySem.Str.cps_append, Array.all_append, ha, hb]; rfl
theorem strOk_one {c : Nat} (h : c < 0x110000) : PyData.strOk ⟨#[c]⟩ = true := by
  unfold PyData.strOk
  simp [h]
theorem strOk_mem {z : Str} (h : PyData.strOk z = true) {c : Nat} (hc : c ∈ z.cps.toList) : c < 0x110000 := by
  unfold PyData.strOk at h
  rw [Array.all_eq_true_iff_forall_mem] at h
  have := h c (by simpa using hc)
  simpa using this
theorem cutG_take {α : Type} {xs : List α} {i : Int} (h0 : 0 ≤ i) (h : i ≤ xs.length) : cutG xs none (some i) = xs.take i.toNat := by
  obtain ⟨k, rfl⟩ := Int.eq_ofNat_of_zero_le h0
  have h' : k ≤ xs.length := by omega
  unfold cutG
  rw [HT.sIx_none, HT.sIx_nat, List.drop_zero, Nat.sub_zero, Nat.min_eq_left h']; simp
theorem cutG_drop {α : Type} {xs : List α} {i : Int} (h0 : 0 ≤ i) (h : i ≤ xs.length) : cutG xs (some i) none = xs.drop i.toNat := by
  obtain ⟨k, rfl⟩ := Int.eq_ofNat_of_zero_le h0
  have h' : k ≤ xs.length := by omega
  unfold cutG
  rw [HT.sIx_none, HT.sIx_nat, Nat.min_eq_left h', Int.toNat_natCast]
  exact List.take_of_length_le (by rw [List.length_drop]; exact Nat.le_refl _)
theorem cutG_mid {α : Type} {xs : List α} {i j : Int} (h0 : 0 ≤ i) (h1 : 0 ≤ j) : cutG xs (some i) (some j) = (xs.take j.toNat).drop i.toNat := by
  obtain ⟨k, rfl⟩ := Int.eq_ofNat_of_zero_le h0
  obtain ⟨l, rfl⟩ := Int.eq_ofNat_of_zero_le h1
  unfold cutG
  rw [HT.sIx_nat, HT.sIx_nat, Int.toNat_natCast, Int.toNat_natCast, ← List.drop_take]
  have e1 : xs.take (min l xs.length) = xs.take l := by
    by_cases hl : l ≤ xs.length
    · rw [Nat.min_eq_left hl]
    · rw [Nat.min_eq_right (by omega), List.take_length, List.take_of_length_le (by omega)]
  rw [e1]
  by_cases hk : k ≤ xs.length
  · rw [Nat.min_eq_left hk]
  · have hlen : (xs.take l).length ≤ xs.length := by rw [List.length_take]; omega
    rw [Nat.min_eq_right (by omega), List.drop_eq_nil_of_le hlen, List.drop_eq_nil_of_le (by omega)]
end
end Ck

namespace Ck
open PySem PySem.Spec PyProof.Rows L2
/-! ### k01: what its own defs compute -/
abbrev SIGNS : Str := " !\"#$&'()*+,-./0123456789:;<=>?@ABCDEFGHIJKLMNOPQRSTUVWXYZ[\\]^_`{|}~\t\n"
def oneOf (z : Str) (i : Int) : Str := ⟨#[z.cps.toList.getD i.toNat 0]⟩
theorem atI_oneOf {z : Str} {i : Int} (h0 : 0 ≤ i) (h : i < z.length) : atI z.cps.toList i = some (z.cps.toList.getD i.toNat 0) := by
  have hl : i.toNat < z.cps.toList.length := by simp [Str.length] at h ⊢; omega
  exact atI_int h0 (by rw [List.getD_eq_getElem?_getD, List.getElem?_eq_getElem hl]; rfl)
theorem oneOf_ok {z : Str} {i : Int} (hz : PyData.strOk z = true) (h0 : 0 ≤ i) (h : i < z.length) : PyData.strOk (oneOf z i) = true := by
  have hl : i.toNat < z.cps.toList.length := by simp [Str.length] at h ⊢; omega
  refine strOk_one (strOk_mem hz ?_)
  rw [List.getD_eq_getElem?_getD, List.getElem?_eq_getElem hl]
  exact List.getElem_mem hl
theorem signs_len : SIGNS.length = 70 := by decide +kernel
theorem signs_ok : PyData.strOk SIGNS = true := by decide +kernel
theorem letters_len : LETTERS.length = 26 := by decide +kernel
theorem letters_ok : PyData.strOk LETTERS = true := by decide +kernel
def txt1 (ns : List Int) (i : Nat) : Str :=
  if decide (mixed (cellAt ns 1) i % 9 = 1) && decide (cellAt ns 2 % 2 = 1) then oneOf SIGNS (mixed (cellAt ns 1) i / 9 % 70) else oneOf LETTERS (mixed (cellAt ns 1) i / 9 % 26)
def txtN (ns : List Int) : Nat → Str
  | 0 => Str.empty
  | i + 1 => txtN ns i ++ txt1 ns i
def textS (ns : List Int) : Str := txtN ns (cellAt ns 0 % 11).toNat
theorem txt1_ok (ns : List Int) (i : Nat) : PyData.strOk (txt1 ns i) = true ∧ (txt1 ns i).length = 1 := by
  have h := mixed_lo (cellAt ns 1) i
  unfold txt1
  split
  · exact ⟨oneOf_ok signs_ok (by omega) (by rw [signs_len]; omega), rfl⟩
  · exact ⟨oneOf_ok letters_ok (by omega) (by rw [letters_len]; omega), rfl⟩
theorem txtN_ok (ns : List Int) : ∀ i, PyData.strOk (txtN ns i) = true ∧ (txtN ns i).length = i
  | 0 => ⟨(by decide +kernel : PyData.strOk Str.empty = true), rfl⟩
  | i + 1 => by
    have h1 := txtN_ok ns i
    have h2 := txt1_ok ns i
    exact ⟨strOk_app h1.1 h2.1, by show (txtN ns i ++ txt1 ns i).length = _; rw [PySem.Str.length_append, h1.2, h2.2]⟩
theorem textS_ok (ns : List Int) : PyData.strOk (textS ns) = true ∧ (textS ns).length ≤ 10 := by
  have h := txtN_ok ns (cellAt ns 0 % 11).toNat
  exact ⟨h.1, by unfold textS; rw [h.2]; omega⟩
section
variable {Γ : List Sl} {ta tb tc : TE} {E : XK} {x y : PyData}
def R_text (ds : List PyData) (d : PyData) : Prop := ∃ ns, ds = [scr ns] ∧ d = .str (textS ns)
theorem ev_text {ns : List Int} (h : Ev ta Γ (scr ns)) : Ev (tCall (spP 1 R_text) [] E (tCons ta tNil)) Γ (.str (textS ns)) := ev_call (ea_cons h ea_nil) rfl ⟨ns, rfl, rfl⟩
def putL (many : Int) (z : Str) : List PyData := [.int (0 - many), .int many, .int (10 + many % 9), .bool true, .bool false, .none, .str "", .str "put", .str z, .list [], .tuple [], .list [.int many], .int 0, .int 9, .int (-1), .int 1] ++ [.str "Put", .str "adds", .str "onc", .str "away ", .str "away", .str "putadd", .str "pu"]
def putX (n : Int) (z : Str) : PyData := (putL (n / 5 % 1000000) z).getD (n / 35 % 23).toNat .none
def putD (ds : List PyData) (n : Int) (z : Str) : List PyData := ds.take (n % 5).toNat ++ (putX n z :: ds.drop ((n % 5).toNat + 1))
def R_put (ds : List PyData) (d : PyData) : Prop := ∃ xs n z, ds = [.tuple xs, .int n, .str z] ∧ xs.length = 5 ∧ 0 ≤ n ∧ d = .tuple (putD xs n z)
theorem ev_put {xs : List PyData} {n : Int} {z : Str} (h : Ev ta Γ (.tuple xs)) (hn : Ev tb Γ (.int n)) (hz : Ev tc Γ (.str z)) (hl : xs.length = 5) (h0 : 0 ≤ n) : Ev (tCall (spP 3 R_put) [] E (tCons ta (tCons tb (tCons tc tNil)))) Γ (.tuple (putD xs n z)) :=
  ev_call (ea_cons h (ea_cons hn (ea_cons hz ea_nil))) rfl ⟨xs, n, z, rfl, hl, h0, rfl⟩
theorem putD_len {xs : List PyData} {n : Int} {z : Str} (hl : xs.length = 5) : (putD xs n z).length = 5 := by
  have := Int.emod_nonneg n (show (5 : Int) ≠ 0 by decide)
  have := Int.emod_lt_of_pos n (show (0 : Int) < 5 by decide)
  unfold putD
  rw [List.length_append, List.length_cons, List.length_take, List.length_drop]
  omega
def Sm (x : PyData) : Prop := SzS x ∧ StrOkD x
theorem putL_sm {many : Int} {z : Str} (hz : Sm (.str z)) : ∀ x ∈ putL many z, Sm x := by
  have e1 : ∀ w : String, (w = "" ∨ w = "put" ∨ w = "Put" ∨ w = "adds" ∨ w = "onc" ∨ w = "away " ∨ w = "away" ∨ w = "putadd" ∨ w = "pu") → Sm (.str w) := by
    intro w h
    rcases h with rfl | rfl | rfl | rfl | rfl | rfl | rfl | rfl | rfl <;> exact ⟨by show Str.length _ ≤ _; decide +kernel, by show PyData.strOk _ = true; decide +kernel⟩
  intro x hx
  simp only [putL, List.cons_append, List.nil_append, List.mem_cons, List.not_mem_nil, or_false] at hx
  rcases hx with rfl | rfl | rfl | rfl | rfl | rfl | rfl | rfl | rfl | rfl | rfl | rfl | rfl | rfl | rfl | rfl | rfl | rfl | rfl | rfl | rfl | rfl | rfl
  all_goals first | exact ⟨trivial, trivial⟩ | exact hz | exact e1 _ (by simp)
theorem putX_mem {n : Int} {z : Str} : putX n z ∈ putL (n / 5 % 1000000) z := by
  have h0 := Int.emod_nonneg (n / 35) (show (23 : Int) ≠ 0 by decide)
  have h1 := Int.emod_lt_of_pos (n / 35) (show (0 : Int) < 23 by decide)
  have hl : (n / 35 % 23).toNat < (putL (n / 5 % 1000000) z).length := by
    show (n / 35 % 23).toNat < 23
    omega
  unfold putX
  rw [List.getD_eq_getElem?_getD, List.getElem?_eq_getElem hl]
  exact List.getElem_mem hl
theorem putD_sm {xs : List PyData} {n : Int} {z : Str} (hx : ∀ x ∈ xs, Sm x) (hz : Sm (.str z)) : ∀ x ∈ putD xs n z, Sm x := by
  intro x h
  unfold putD at h
  rw [List.mem_append, List.mem_cons] at h
  rcases h with h | rfl | h
  · exact hx x (List.mem_of_mem_take h)
  · exact putL_sm hz _ putX_mem
  · exact hx x (List.mem_of_mem_drop h)
def R_truth (ds : List PyData) (d : PyData) : Prop := ∃ a b, ds = [.bool a, .bool b] ∧ d = .bool (a == b)
theorem ev_truth {a b : Bool} (h : Ev ta Γ (.bool a)) (hb : Ev tb Γ (.bool b)) : Ev (tCall (spP 2 R_truth) [] E (tCons ta (tCons tb tNil))) Γ (.bool (a == b)) := ev_call (ea_cons h (ea_cons hb ea_nil)) rfl ⟨a, b, rfl, rfl⟩
theorem ev_keydue (h : Ev ta Γ x) (hs : SzS x) : Ev (tCall (spP 1 R_is_key) [] E (tCons ta tNil)) Γ (.bool (isKeyD x)) := ev_is_key h hs
end
theorem isWordS_eq2 (w : Str) (v : Int) : (decide (w = wPut) || (decide (w = wAdd) || (decide (w = wOnce) || (decide (w = wAway) && decide (v = 0))))) = isWordS w v := by
  have e : ∀ z : Str, (w == z) = decide (w = z) := fun z => by
    by_cases h : w = z
    · subst h; simp
    · rw [decide_eq_false h]; exact beq_eq_false_iff_ne.mpr h
  unfold isWordS
  rw [e, e, e]
  simp only [Bool.or_assoc]
end Ck
namespace Ck
open PySem PySem.Spec PyProof.Rows L2
def topS (i : Nat) : Stmt := PySem.Challenge.pw_chainkeep_k01_deeds_known.main.body.getD i (.Pass ⟨0, 0, 0, 0⟩)
abbrev s_is_number : Stmt := topS 2
abbrev N_is_number : List Str := ["thing"]
theorem sc_is_number : FnScope N_is_number ["thing"] (defScope s_is_number) := ⟨rfl, rfl, rfl, by decide +kernel, rfl, by decide +kernel, by decide +kernel⟩
theorem b_is_number : BindsP "is_number" s_is_number ["thing"] := fun _ _ _ _ _ _ us hl => match us, hl with | [_], _ => rfl
abbrev s_is_key : Stmt := topS 3
abbrev N_is_key : List Str := ["thing", "sign"]
theorem sc_is_key : FnScope N_is_key ["thing"] (defScope s_is_key) := ⟨rfl, rfl, rfl, by decide +kernel, rfl, by decide +kernel, by decide +kernel⟩
theorem b_is_key : BindsP "is_key" s_is_key ["thing"] := fun _ _ _ _ _ _ us hl => match us, hl with | [_], _ => rfl
abbrev s_is_deed : Stmt := topS 4
abbrev N_is_deed : List Str := ["thing"]
theorem sc_is_deed : FnScope N_is_deed ["thing"] (defScope s_is_deed) := ⟨rfl, rfl, rfl, by decide +kernel, rfl, by decide +kernel, by decide +kernel⟩
theorem b_is_deed : BindsP "is_deed" s_is_deed ["thing"] := fun _ _ _ _ _ _ us hl => match us, hl with | [_], _ => rfl
abbrev s__law_cell_at : Stmt := topS 6
abbrev N__law_cell_at : List Str := ["_law_script", "_law_k"]
theorem sc__law_cell_at : FnScope N__law_cell_at ["_law_script", "_law_k"] (defScope s__law_cell_at) := ⟨rfl, rfl, rfl, by decide +kernel, rfl, by decide +kernel, by decide +kernel⟩
theorem b__law_cell_at : BindsP "_law_cell_at" s__law_cell_at ["_law_script", "_law_k"] := fun _ _ _ _ _ _ us hl => match us, hl with | [_, _], _ => rfl
abbrev s__law_mixed : Stmt := topS 7
abbrev N__law_mixed : List Str := ["_law_cell", "_law_k", "_law_number"]
theorem sc__law_mixed : FnScope N__law_mixed ["_law_cell", "_law_k"] (defScope s__law_mixed) := ⟨rfl, rfl, rfl, by decide +kernel, rfl, by decide +kernel, by decide +kernel⟩
theorem b__law_mixed : BindsP "_law_mixed" s__law_mixed ["_law_cell", "_law_k"] := fun _ _ _ _ _ _ us hl => match us, hl with | [_, _], _ => rfl
abbrev s__law_whole : Stmt := topS 8
abbrev N__law_whole : List Str := ["_law_found"]
theorem sc__law_whole : FnScope N__law_whole ["_law_found"] (defScope s__law_whole) := ⟨rfl, rfl, rfl, by decide +kernel, rfl, by decide +kernel, by decide +kernel⟩
theorem b__law_whole : BindsP "_law_whole" s__law_whole ["_law_found"] := fun _ _ _ _ _ _ us hl => match us, hl with | [_], _ => rfl
abbrev s__law_text : Stmt := topS 9
abbrev N__law_text : List Str := ["_law_script", "_law_signs", "_law_text_here", "_law_k", "_law_number"]
theorem sc__law_text : FnScope N__law_text ["_law_script"] (defScope s__law_text) := ⟨rfl, rfl, rfl, by decide +kernel, rfl, by decide +kernel, by decide +kernel⟩
theorem b__law_text : BindsP "_law_text" s__law_text ["_law_script"] := fun _ _ _ _ _ _ us hl => match us, hl with | [_], _ => rfl
abbrev s__law_put : Stmt := topS 10
abbrev N__law_put : List Str := ["_law_deed", "_law_number", "_law_text_here", "_law_at", "_law_many", "_law_some"]
theorem sc__law_put : FnScope N__law_put ["_law_deed", "_law_number", "_law_text_here"] (defScope s__law_put) := ⟨rfl, rfl, rfl, by decide +kernel, rfl, by decide +kernel, by decide +kernel⟩
theorem b__law_put : BindsP "_law_put" s__law_put ["_law_deed", "_law_number", "_law_text_here"] := fun _ _ _ _ _ _ us hl => match us, hl with | [_, _, _], _ => rfl
abbrev s__law_key_due : Stmt := topS 11
abbrev N__law_key_due : List Str := ["_law_thing", "_law_sign"]
theorem sc__law_key_due : FnScope N__law_key_due ["_law_thing"] (defScope s__law_key_due) := ⟨rfl, rfl, rfl, by decide +kernel, rfl, by decide +kernel, by decide +kernel⟩
theorem b__law_key_due : BindsP "_law_key_due" s__law_key_due ["_law_thing"] := fun _ _ _ _ _ _ us hl => match us, hl with | [_], _ => rfl
abbrev s__law_deed_due : Stmt := topS 12
abbrev N__law_deed_due : List Str := ["_law_deed", "_law_k"]
theorem sc__law_deed_due : FnScope N__law_deed_due ["_law_deed"] (defScope s__law_deed_due) := ⟨rfl, rfl, rfl, by decide +kernel, rfl, by decide +kernel, by decide +kernel⟩
theorem b__law_deed_due : BindsP "_law_deed_due" s__law_deed_due ["_law_deed"] := fun _ _ _ _ _ _ us hl => match us, hl with | [_], _ => rfl
abbrev s__law_truth : Stmt := topS 13
abbrev N__law_truth : List Str := ["_law_found", "_law_due"]
theorem sc__law_truth : FnScope N__law_truth ["_law_found", "_law_due"] (defScope s__law_truth) := ⟨rfl, rfl, rfl, by decide +kernel, rfl, by decide +kernel, by decide +kernel⟩
theorem b__law_truth : BindsP "_law_truth" s__law_truth ["_law_found", "_law_due"] := fun _ _ _ _ _ _ us hl => match us, hl with | [_, _], _ => rfl
abbrev s_law : Stmt := topS 14
abbrev N_law : List Str := ["_law_script", "_law_text_here", "_law_first", "_law_word", "_law_value", "_law_key", "_law_deed", "_law_ways", "_law_shape", "_law_thing", "_law_one"]
theorem sc_law : FnScope N_law ["_law_script"] (defScope s_law) := ⟨rfl, rfl, rfl, by decide +kernel, rfl, by decide +kernel, by decide +kernel⟩
theorem b_law : BindsP "law" s_law ["_law_script"] := fun _ _ _ _ _ _ us hl => match us, hl with | [_], _ => rfl
structure Tx (K : PySem.W.Frag) (mg : Str → Option Value) : Prop where
  z_all : mg "all" = none
  z_bool : mg "bool" = none
  z_int : mg "int" = none
  z_isinstance : mg "isinstance" = none
  z_len : mg "len" = none
  z_list : mg "list" = none
  z_range : mg "range" = none
  z_str : mg "str" = none
  z_tuple : mg "tuple" = none
  c_LETTERS : ∃ t, mg "LETTERS" = some (.str "abcdefghijklmnopqrstuvwxyz" t)
  f_is_number : Has K mg "is_number" s_is_number
  f_is_key : Has K mg "is_key" s_is_key
  f_is_deed : Has K mg "is_deed" s_is_deed
  f__law_cell_at : Has K mg "_law_cell_at" s__law_cell_at
  f__law_mixed : Has K mg "_law_mixed" s__law_mixed
  f__law_whole : Has K mg "_law_whole" s__law_whole
  f__law_text : Has K mg "_law_text" s__law_text
  f__law_put : Has K mg "_law_put" s__law_put
  f__law_key_due : Has K mg "_law_key_due" s__law_key_due
  f__law_deed_due : Has K mg "_law_deed_due" s__law_deed_due
  f__law_truth : Has K mg "_law_truth" s__law_truth
local macro_rules | `(tactic| k_memK) => `(tactic| first
  | with_reducible exact ev_int
  | with_reducible exact ev_str
  | with_reducible exact ev_bl
  | with_reducible exact ev_non
  | with_reducible exact ea_nil
  | with_reducible exact eo_none
  | with_reducible exact et_yes
  | ((with_reducible apply ev_var); rfl)
  | ((with_reducible apply ea_cons); k_memK; k_memK)
  | ((with_reducible apply ev_head); kas_types)
  | ((with_reducible apply ev_ixOwn); rfl; k_memK; k_allIn)
  | ((with_reducible apply ev_inR); k_memK; k_memK)
  | ((with_reducible apply ev_notInR); k_memK; k_memK)
  | ((with_reducible apply ev_op); k_memK; k_memK; k_subL)
  | ((with_reducible apply ev_un); k_memK; exact ru_neg)
  | ((with_reducible apply ev_tup); k_memK; k_ownIn)
  | ((with_reducible apply ev_lst); k_memK; k_ownIn)
  | ((with_reducible apply ev_isiIntB); k_memK; assumption)
  | ((with_reducible apply ev_isiInt); k_memK)
  | ((with_reducible apply ev_isiBoolB); k_memK; assumption)
  | ((with_reducible apply ev_isiBool); k_memK)
  | ((with_reducible apply ev_isiStrB); k_memK; assumption)
  | ((with_reducible apply ev_isiStr); k_memK)
  | ((with_reducible apply ev_isiListB); k_memK; assumption)
  | ((with_reducible apply ev_isiList); k_memK)
  | ((with_reducible apply ev_isiTupB); k_memK; assumption)
  | ((with_reducible apply ev_isiTup); k_memK)
  | ((with_reducible apply ev_isiDictB); k_memK; assumption)
  | ((with_reducible apply ev_isiDict); k_memK)
  | ((with_reducible apply ev_cb); k_memK; k_clsL)
  | ((with_reducible apply ev_sl); k_memK; k_memK; k_memK; k_offL)
  | ((with_reducible apply eo_some); k_memK)
  | ((with_reducible apply ev_bm); k_memK; k_memK; k_places)
  | ((with_reducible apply et_test); k_memK)
  | ((with_reducible apply et_B); k_memK)
  | ((with_reducible apply et_not); k_memK)
  | ((with_reducible apply et_and); k_memK; first | (intro _; k_memK) | exact et_no rfl)
  | ((with_reducible apply et_or); k_memK; first | (intro _; k_memK) | exact et_noO rfl)
  | ((with_reducible apply ev_andV); k_memK; first | (intro _; k_memK) | exact ev_no rfl)
  | ((with_reducible apply ev_orV); k_memK; first | (intro _; k_memK) | exact ev_noO rfl)
  | ((with_reducible apply ev_notV); k_memK))
local macro_rules | `(tactic| k_subL) => `(tactic| first
  | with_reducible exact rv_addI
  | with_reducible exact rv_sub
  | ((with_reducible apply rv_mulI); tlg_ne)
  | ((with_reducible apply rv_modP); first | decide | omega)
  | ((with_reducible apply rv_fdivP); first | exact ⟨by decide, by decide⟩ | exact ⟨by omega, by omega⟩)
  | ((with_reducible apply rv_pow); lcg_off)
  | with_reducible exact rv_lt
  | with_reducible exact rv_gt
  | with_reducible exact rv_le
  | with_reducible exact rv_ge
  | with_reducible exact rv_eqI
  | with_reducible exact rv_neI
  | with_reducible exact rv_eqB
  | with_reducible exact rv_neB
  | ((with_reducible apply rv_eqS) <;> lcg_sub)
  | ((with_reducible apply rv_neS) <;> lcg_sub)
  | ((with_reducible apply rv_eqNil); lcg_src)
  | ((with_reducible apply rv_neNil); lcg_src)
  | with_reducible exact rv_isN
  | with_reducible exact rv_notN
  | with_reducible exact rv_isB
  | ((with_reducible apply rv_ixT); k_allIn)
  | ((with_reducible apply rv_ixL); k_allIn)
  | ((with_reducible apply rv_ixS); k_ownIn; k_allIn)
  | ((with_reducible apply rv_addS); k_ownIn)
  | ((with_reducible apply rv_addT); k_ownIn)
  | ((with_reducible apply RvN.d); (with_reducible apply rvN_addL); k_ownIn)
  | with_reducible exact rv_inS
  | ((with_reducible apply rv_inT) <;> rfl)
  | ((with_reducible apply rv_notInT) <;> rfl))
local macro_rules | `(tactic| tlg_ne) => `(tactic| first
  | exact .inr ⟨by decide, by decide⟩
  | exact .inl ⟨by decide, by decide⟩
  | exact .inr ⟨by omega, by omega⟩
  | exact .inl ⟨by omega, by omega⟩)
local macro_rules | `(tactic| k_clsL) => `(tactic| first
  | with_reducible exact rc_lenL
  | with_reducible exact rc_lenT
  | ((with_reducible apply rc_lenS); k_ownIn)
  | with_reducible exact rc_max2
  | with_reducible exact rc_min2
  | with_reducible exact rc_intB
  | ((with_reducible apply RcN.d); with_reducible exact rcN_listL)
  | ((with_reducible apply RcN.d); with_reducible exact rcN_listT))
local macro_rules | `(tactic| k_offL) => `(tactic| first
  | ((with_reducible apply RsN.d); with_reducible exact rsN_L)
  | with_reducible exact rs_T
  | ((with_reducible apply rs_S); k_ownIn))
local macro_rules | `(tactic| k_places) => `(tactic| first
  | with_reducible exact rm_findK
  | with_reducible exact rm_countK
  | ((with_reducible apply rm_joinK); k_ownIn))
local macro_rules | `(tactic| k_allIn) => `(tactic| first | assumption | rfl)
local macro_rules | `(tactic| k_ownIn) => `(tactic| first | (exact sz_dec (Nat.le_of_ble_eq_true rfl)) | assumption | (exact sz_dec (by omega)) | (exact sz_dec (by simp; omega)))
local macro_rules | `(tactic| lcg_sub) => `(tactic| first | assumption | decide +kernel)
local macro_rules | `(tactic| lcg_src) => `(tactic| first | assumption | (exact ⟨_, by decide, by assumption⟩))
/-- statements -/
local macro_rules | `(tactic| l_intsC) => `(tactic| (k_updF; (with_reducible apply at_setA); (k_memK); (k_intsEnd)))
local macro_rules | `(tactic| k_updF) => `(tactic| repeat (first | (with_reducible apply at_seq) | (with_reducible apply at_next)))
local macro_rules | `(tactic| kxs_still) => `(tactic| (k_updF; (with_reducible apply at_ret); (k_memK)))
local macro_rules | `(tactic| l_intsW) => `(tactic| (k_updF; (with_reducible apply at_if); (k_memK)))
local macro_rules | `(tactic| kc_close) => `(tactic| (k_updF; (refine' at_rt ?h ?e (by assumption)); (case h => k_memK)))
local macro_rules | `(tactic| lcg_off) => `(tactic| exact ⟨by decide, by decide, by first | decide | omega⟩)
local macro_rules | `(tactic| kas_types) => `(tactic| first
  | keq_rows
  | ((with_reducible apply ev_mixed); k_memK; k_memK)
  | ((with_reducible apply ev_cell_at); k_memK; k_memK; first | decide | omega)
  | ((with_reducible apply ev_is_numberB (b := true)); k_memK; keq_hits)
  | ((with_reducible apply ev_is_numberB (b := false)); k_memK; keq_hits)
  | ((with_reducible apply ev_is_number); k_memK)
  | ((with_reducible apply ev_is_keyB (b := true)); k_memK; k_upd; keq_hits)
  | ((with_reducible apply ev_is_keyB (b := false)); k_memK; k_upd; keq_hits)
  | ((with_reducible apply ev_is_key); k_memK; k_upd))
local macro_rules | `(tactic| keq_hits) => `(tactic| first | assumption | rfl)
local macro_rules | `(tactic| k_upd) => `(tactic| first | assumption | exact And.left (by assumption) | trivial)
local macro_rules | `(tactic| k_intsEnd) => `(tactic| repeat (first | exact SetAt.zero | apply SetAt.succ))
local macro_rules | `(tactic| k_caught0) => `(tactic| (apply at_nf; rotate_left; (repeat (first | exact Nf.nil | apply Nf.cons))))

local macro_rules | `(tactic| keq_rows) => `(tactic| first
  | ((with_reducible apply ev_text); k_memK)
  | ((with_reducible apply ev_put); k_memK; k_memK; k_memK; assumption; assumption)
  | ((with_reducible apply ev_truth); k_memK; k_memK)
  | ((with_reducible apply ev_is_deed); k_memK; assumption))


section
variable {P : Program} {w : World} {K : PySem.W.Frag} {mg : Str → Option Value} {base : Heap}
theorem ok_is_number (T : Tx K mg) : Def P w K mg base CX0 1 "is_number" ["thing"] (spP 1 R_is_number) := by
  refine mkP T.f_is_number b_is_number sc_is_number rfl fun f cdv A outer s H E hr => ⟨_, (pss_one (ps_ret (pe_and (pe_callB (isi_K K) (by rfl) T.z_isinstance (by decide +kernel) (pa_cons (pv 0) (pa_cons (pe_bltn (v := .ty "int") (by rfl) T.z_int (by decide +kernel) rfl) pa_nil))) (pe_one (pe_not (pe_callB (isi_K K) (by rfl) T.z_isinstance (by decide +kernel) (pa_cons (pv 0) (pa_cons (pe_bltn (v := .ty "bool") (by rfl) T.z_bool (by decide +kernel) rfl) pa_nil)))))))), ?_⟩
  rintro ds d B Q hl ⟨x, rfl, rfl⟩ q
  kxs_still
  exact q

theorem ok_is_key (T : Tx K mg) : Def P w K mg base CX0 1 "is_key" ["thing"] (spP 1 R_is_key) := by
  refine mkP T.f_is_key b_is_key sc_is_key rfl fun f cdv A outer s H E hr => ⟨_, (pss_cons (ps_if (PW.pt (pw_or (pt_not (pt_val (pe_callB (isi_K K) (by rfl) T.z_isinstance (by decide +kernel) (pa_cons (pv 0) (pa_cons (pe_bltn (v := .ty "str") (by rfl) T.z_str (by decide +kernel) rfl) pa_nil))))) (pw_or (pt_cmpR op_lt (pe_callB (len_K K) (by rfl) T.z_len (by decide +kernel) (pa_cons (pv 0) pa_nil)) pe_int (nomark _)) (pw_or1 (pt_cmpR op_gt (pe_callB (len_K K) (by rfl) T.z_len (by decide +kernel) (pa_cons (pv 0) pa_nil)) pe_int (nomark _))))))
      (pss_one (ps_ret pe_bl))
      pss_nil)
      (pss_one (ps_ret (pe_callB (all_K K rfl) (by rfl) T.z_all (by decide +kernel) (pa_cons (pe_lc (own := [("sign", 1)]) (g := gName 1) (by rfl) sc_is_key.nd (pi_str (pv 0)) (blkOk_by (own := [("sign", 1)]) (N := N_is_key) (sc := defScope s_is_key) (by decide +kernel)) (fun _ _ _ _ _ => pg_name (i := 1) sc_is_key.nd rfl (Or.inl rfl)) (fun _ _ _ _ _ => pts_nil) (fun _ _ _ _ _ => (pe_cmpR (op_inK K (hu65 hr)) (pv 1) (pe_gstr T.c_LETTERS) (by with_unfolding_all rfl)))) pa_nil))))), ?_⟩
  rintro ds d B Q hl ⟨x, rfl, hs, rfl⟩ q
  cases x with
  | str z =>
    have hz : z.length ≤ sizeLine := sz_dec hs
    l_intsW
    · intro hb
      kxs_still
      rw [show isKeyD (.str z) = false by
        have hb' : (decide ((z.length : Int) < 1) || decide (8 < (z.length : Int))) = true := hb
        rw [Bool.or_eq_true, decide_eq_true_eq, decide_eq_true_eq] at hb'
        show (decide (1 ≤ z.length) && (decide (z.length ≤ 8) && lowD z)) = false
        rcases hb' with h | h
        · rw [decide_eq_false (by omega)]; rfl
        · rw [decide_eq_false (p := z.length ≤ 8) (by omega)]; simp] at q
      exact q
    · intro hb
      have hb' : (decide ((z.length : Int) < 1) || decide (8 < (z.length : Int))) = false := hb
      rw [Bool.or_eq_false_iff, decide_eq_false_iff_not, decide_eq_false_iff_not] at hb'
      apply at_next
      refine at_rt (d := .bool ((z.cps.toList.map fun c => decide (c ∈ LETTERS.cps.toList)).all id)) ?_ ?_ q
      · refine ev_cb (ea_cons (EvN.ev (evN_lcm (j := 1) sg z.cps.toList (fun c => .bool (decide (c ∈ LETTERS.cps.toList))) rfl (ei_str (by k_memK)) ?_ fun c hc => ?_)) ea_nil) ?_
        · have : z.cps.toList.length = z.length := by simp [Str.length]
          rw [this]; exact hz
        · refine ev_op (ev_var rfl) ev_str rv_inS
        · rw [show (z.cps.toList.map fun c => PyData.bool (decide (c ∈ LETTERS.cps.toList))) = (z.cps.toList.map fun c => decide (c ∈ LETTERS.cps.toList)).map PyData.bool by rw [List.map_map]; rfl]
          exact rc_all
      · have h : isKeyD (.str z) = lowD z := by
          show (decide (1 ≤ z.length) && (decide (z.length ≤ 8) && lowD z)) = lowD z
          rw [decide_eq_true (by omega), decide_eq_true (p := z.length ≤ 8) (by omega)]; rfl
        rw [h, List.all_map]; rfl
  | _ =>
    l_intsW
    · intro hb
      kxs_still
      exact q
    · intro hb; cases hb

theorem ok_is_deed (T : Tx K mg) : Def P w K mg base CX0 2 "is_deed" ["thing"] (spP 1 R_is_deed) := by
  refine mkP T.f_is_deed b_is_deed sc_is_deed rfl fun f cdv A outer s H E hr => ⟨_, (pss_cons (ps_if (PW.pt (pw_or (pt_not (pt_val (pe_callB (isi_K K) (by rfl) T.z_isinstance (by decide +kernel) (pa_cons (pv 0) (pa_cons (pe_bltn (v := .ty "tuple") (by rfl) T.z_tuple (by decide +kernel) rfl) pa_nil))))) (pw_or1 (pt_cmpR (op_neK K (hu64 hr)) (pe_callB (len_K K) (by rfl) T.z_len (by decide +kernel) (pa_cons (pv 0) pa_nil)) pe_int (nomark _)))))
      (pss_one (ps_ret pe_bl))
      pss_nil)
      (pss_cons (ps_if (PW.pt (pw_or (pt_not (pt_val (pe_callD (ok_is_number T) hr (pa_cons (pe_ix (ix_K K) (pv 0) pe_int (fun _ _ => rfl)) pa_nil)))) (pw_or (pt_cmpR op_lt (pe_ix (ix_K K) (pv 0) pe_int (fun _ _ => rfl)) pe_int (nomark _)) (pw_or (pt_cmpR op_gt (pe_ix (ix_K K) (pv 0) pe_int (fun _ _ => rfl)) pe_int (nomark _)) (pw_or (pt_not (pt_val (pe_callD (ok_is_number T) hr (pa_cons (pe_ix (ix_K K) (pv 0) pe_int (fun _ _ => rfl)) pa_nil)))) (pw_or1 (pt_cmpR op_lt (pe_ix (ix_K K) (pv 0) pe_int (fun _ _ => rfl)) pe_int (nomark _))))))))
      (pss_one (ps_ret pe_bl))
      pss_nil)
      (pss_cons (ps_if (PW.pt (pw_or (pt_not (pt_val (pe_callD (ok_is_key T) hr (pa_cons (pe_ix (ix_K K) (pv 0) pe_int (fun _ _ => rfl)) pa_nil)))) (pw_or (pt_not (pt_val (pe_callD (ok_is_number T) hr (pa_cons (pe_ix (ix_K K) (pv 0) pe_int (fun _ _ => rfl)) pa_nil)))) (pw_or1 (pt_not (pt_val (pe_callB (isi_K K) (by rfl) T.z_isinstance (by decide +kernel) (pa_cons (pe_ix (ix_K K) (pv 0) pe_int (fun _ _ => rfl)) (pa_cons (pe_bltn (v := .ty "str") (by rfl) T.z_str (by decide +kernel) rfl) pa_nil)))))))))
      (pss_one (ps_ret pe_bl))
      pss_nil)
      (pss_one (ps_ret (pe_or (pe_cmpR (op_inK K (hu65 hr)) (pe_ix (ix_K K) (pv 0) pe_int (fun _ _ => rfl)) (pe_tup (pa_cons pe_str (pa_cons pe_str (pa_cons pe_str pa_nil)))) (by with_unfolding_all rfl)) (pe_one (pe_and (pe_cmpR (op_eqK K (hu64 hr)) (pe_ix (ix_K K) (pv 0) pe_int (fun _ _ => rfl)) pe_str (nomark _)) (pe_one (pe_cmpR (op_eqK K (hu64 hr)) (pe_ix (ix_K K) (pv 0) pe_int (fun _ _ => rfl)) pe_int (nomark _))))))))))), ?_⟩
  rintro ds d B Q hl ⟨x, rfl, hs, rfl⟩ q
  rcases tup_or x with ⟨a, t, w, k, v, rfl⟩ | ⟨ds, rfl, hd⟩ | hx
  · have ha := hs a (by simp)
    have ht := hs t (by simp)
    have hw := hs w (by simp)
    have hk := hs k (by simp)
    have hv := hs v (by simp)
    l_intsW
    · intro hb; cases hb
    · intro _
      rcases num_or a with ⟨ai, rfl⟩ | hna
      · rcases num_or t with ⟨ti, rfl⟩ | hnt
        · l_intsW
          · intro hb
            kc_close
            simp only [Bool.not_true, Bool.false_or, Bool.or_eq_true, decide_eq_true_eq] at hb
            rw [show isDeedD (.tuple [.int ai, .int ti, w, k, v]) = false from isDeed5_no hb]
          · intro hb
            simp only [Bool.not_true, Bool.false_or, Bool.or_eq_false_iff, decide_eq_false_iff_not] at hb
            rcases num_or v with ⟨vi, rfl⟩ | hnv
            · rcases str_or w with ⟨ws, rfl⟩ | hsw
              · have hws : PyData.strOk ws = true := hw.2
                l_intsW
                · intro hb2
                  kc_close
                  have hk0 : isKeyD k = false := by simpa [isStrD] using hb2
                  rw [show isDeedD (.tuple [.int ai, .int ti, .str ws, k, .int vi]) = false from isDeed5_k (a := .int ai) (t := .int ti) (v := .int vi) hk0]
                · intro hb2
                  have hk1 : isKeyD k = true := by simpa [isStrD] using hb2
                  kc_close
                  rw [show isDeedD (.tuple [.int ai, .int ti, .str ws, k, .int vi]) = isWordS ws vi from isDeed5_w1 hb hk1]
                  exact congrArg PyData.bool (isWordS_eq ws vi)
              · l_intsW
                · intro _
                  kc_close
                  rw [show isDeedD (.tuple [.int ai, .int ti, w, k, .int vi]) = false from isDeed5_w hsw]
                · intro hb2
                  exfalso
                  simp [hsw] at hb2
            · l_intsW
              · intro _
                kc_close
                rw [show isDeedD (.tuple [.int ai, .int ti, w, k, v]) = false from isDeed5_v hnv]
              · intro hb2
                exfalso
                simp at hb2
        · l_intsW
          · intro _
            kc_close
            rw [show isDeedD (.tuple [.int ai, t, w, k, v]) = false from isDeed5_t hnt]
          · intro hb
            exfalso
            simp at hb
      · l_intsW
        · intro _
          kc_close
          rw [show isDeedD (.tuple [a, t, w, k, v]) = false from isDeed5_a hna]
        · intro hb; cases hb
  · l_intsW
    · intro hb
      kc_close
      rw [isDeed_len hd]
    · intro hb
      exfalso
      rw [show isTupD (.tuple ds) = true from rfl] at hb
      simp at hb
      omega
  · l_intsW
    · intro _
      kc_close
      rw [isDeed_tup hx]
    · intro hb; cases hb

theorem ok__law_cell_at (T : Tx K mg) : Def P w K mg base CX0 1 "_law_cell_at" ["_law_script", "_law_k"] (spP 2 R_cell_at) := by
  refine mkP T.f__law_cell_at b__law_cell_at sc__law_cell_at rfl fun f cdv A outer s H E hr => ⟨_, (pss_cons (ps_if (pt_cmpR op_lt (pv 1) (pe_callB (len_K K) (by rfl) T.z_len (by decide +kernel) (pa_cons (pv 0) pa_nil)) (nomark _))
      (pss_one (ps_ret (pe_ix (ix_K K) (pv 0) (pv 1) (fun _ _ => rfl))))
      pss_nil)
      (pss_one (ps_ret pe_int))), ?_⟩
  rintro ds d B Q hl ⟨ns, k, rfl, h0, rfl⟩ q
  l_intsW
  · intro hb
    have hk : k.toNat < ns.length := by rw [decide_eq_true_eq, List.length_map] at hb; omega
    refine at_rt (ev_op (ev_var rfl) (ev_var rfl) (rv_ixL (atI_map (f := PyData.int) (atI_int h0 (cellAt_get hk))))) rfl q
  · intro hb
    have hk : ¬ k.toNat < ns.length := by rw [decide_eq_false_iff_not, List.length_map] at hb; omega
    kc_close
    rw [cellAt_no hk]

theorem ok__law_mixed (T : Tx K mg) : Def P w K mg base CX0 1 "_law_mixed" ["_law_cell", "_law_k"] (spP 2 R_mixed) := by
  refine mkP T.f__law_mixed b__law_mixed sc__law_mixed rfl fun f cdv A outer s H E hr => ⟨_, (pss_cons (ps_set (i := 2) sc__law_mixed.nd rfl (Or.inl rfl) (pe_op op_mod (pe_op (op_addK K) (pe_op (op_addK K) (pe_op op_mulU (pv 0) pe_int) (pe_op op_mulU (pv 1) pe_int)) pe_int) pe_int))
      (pss_one (ps_ret (pe_op op_mod (pe_op op_mulU (pv 2) (pe_op (op_addK K) (pe_op (op_addK K) (pv 2) (pe_op op_mulU pe_int (pv 1))) pe_int)) pe_int)))), ?_⟩
  rintro ds d B Q hl ⟨c, k, rfl, rfl⟩ q
  l_intsC
  have h1 := mix1_lo c k
  have h2 := mix1_hi c k
  unfold mix1 at h1 h2
  kc_close
  rfl

theorem ok__law_whole (T : Tx K mg) : Def P w K mg base CX0 1 "_law_whole" ["_law_found"] (spP 1 R_is_number) := by
  refine mkP T.f__law_whole b__law_whole sc__law_whole rfl fun f cdv A outer s H E hr => ⟨_, (pss_one (ps_ret (pe_and (pe_callB (isi_K K) (by rfl) T.z_isinstance (by decide +kernel) (pa_cons (pv 0) (pa_cons (pe_bltn (v := .ty "int") (by rfl) T.z_int (by decide +kernel) rfl) pa_nil))) (pe_one (pe_not (pe_callB (isi_K K) (by rfl) T.z_isinstance (by decide +kernel) (pa_cons (pv 0) (pa_cons (pe_bltn (v := .ty "bool") (by rfl) T.z_bool (by decide +kernel) rfl) pa_nil)))))))), ?_⟩
  rintro ds d B Q hl ⟨x, rfl, rfl⟩ q
  kxs_still
  exact q

theorem ok__law_text (T : Tx K mg) : Def P w K mg base CX0 2 "_law_text" ["_law_script"] (spP 1 R_text) := by
  refine mkP T.f__law_text b__law_text sc__law_text rfl fun f cdv A outer s H E hr => ⟨_, (pss_cons (ps_set (i := 1) sc__law_text.nd rfl (Or.inl rfl) pe_str)
      (pss_cons (ps_set (i := 2) sc__law_text.nd rfl (Or.inl rfl) pe_str)
      (pss_cons (ps_for PassesOwn.never rfl (pi_range1 (by rfl) T.z_range (pa_cons (pe_op op_mod (pe_callD (ok__law_cell_at T) hr (pa_cons (pv 0) (pa_cons pe_int pa_nil))) pe_int) pa_nil)) (pg_name (i := 3) sc__law_text.nd rfl (Or.inl rfl))
      (pss_cons (ps_set (i := 4) sc__law_text.nd rfl (Or.inl rfl) (pe_callD (ok__law_mixed T) hr (pa_cons (pe_callD (ok__law_cell_at T) hr (pa_cons (pv 0) (pa_cons pe_int pa_nil))) (pa_cons (pv 3) pa_nil))))
      (pss_one (ps_if (PW.pt (pw_and (pt_cmpR (op_eqK K (hu64 hr)) (pe_op op_mod (pv 4) pe_int) pe_int (nomark _)) (pw_and1 (pt_cmpR (op_eqK K (hu64 hr)) (pe_op op_mod (pe_callD (ok__law_cell_at T) hr (pa_cons (pv 0) (pa_cons pe_int pa_nil))) pe_int) pe_int (nomark _)))))
      (pss_one (ps_set (i := 2) sc__law_text.nd rfl (Or.inl rfl) (pe_op (op_addK K) (pv 2) (pe_ix (ix_K K) (pv 1) (pe_op op_mod (pe_op op_fdiv (pv 4) pe_int) (pe_callB (len_K K) (by rfl) T.z_len (by decide +kernel) (pa_cons (pv 1) pa_nil))) (fun _ _ => rfl)))))
      (pss_one (ps_set (i := 2) sc__law_text.nd rfl (Or.inl rfl) (pe_op (op_addK K) (pv 2) (pe_ix (ix_K K) pe_str (pe_op op_mod (pe_op op_fdiv (pv 4) pe_int) pe_int) (fun _ _ => rfl)))))))))
      (pss_one (ps_ret (pv 2)))))), ?_⟩
  rintro ds d B Q hl ⟨ns, rfl, rfl⟩ q
  have h0 := Int.emod_nonneg (cellAt ns 0) (show (11 : Int) ≠ 0 by decide)
  have h1 := Int.emod_lt_of_pos (cellAt ns 0) (show (0 : Int) < 11 by decide)
  l_intsC
  l_intsC
  k_updF
  refine at_forR (fun i => [.d (scr ns), .d (.str SIGNS), .d (.str (txtN ns i)), .un, .un]) (ei_rng1 (n := cellAt ns 0 % 11) (by k_memK) (by omega) (by omega)) (.same (.same (.same (.un (.un .nil))))) (fun gb i N hi hN => ?_) ?_
  · have hm0 := mixed_lo (cellAt ns 1) i
    have hlen := (txtN_ok ns i).2
    have hl1 : ((txtN ns i).length + 1) ≤ sizeLine := sz_dec (by omega)
    l_intsC
    l_intsW
    · intro hb
      have e : txt1 ns i = oneOf SIGNS (mixed (cellAt ns 1) i / 9 % 70) := by
        unfold txt1
        rw [if_pos (by simpa using hb)]
      refine at_set (d := .str (txtN ns (i + 1))) ?_ (at_wk hN (.same (.same (.same (.un (.un .nil))))))
      have ea := atI_oneOf (z := SIGNS) (i := mixed (cellAt ns 1) i / 9 % 70) (by omega) (by rw [signs_len]; omega)
      rw [show txtN ns (i + 1) = txtN ns i ++ oneOf SIGNS (mixed (cellAt ns 1) i / 9 % 70) by rw [← e]; rfl]
      refine ev_op (ev_var rfl) (ev_op (ev_var rfl) (ev_op (ev_op (ev_var rfl) ev_int (rv_fdivP ⟨by decide, by decide⟩)) (ev_cb (ea_cons (ev_var rfl) ea_nil) (rc_lenS (sz_dec (by rw [signs_len]; decide)))) (rv_modP (by rw [signs_len]; decide))) (rv_ixS (sz_dec (by rw [signs_len]; decide)) ?_)) (rv_addS hl1)
      rw [signs_len]
      simpa using ea
    · intro hb
      have e : txt1 ns i = oneOf LETTERS (mixed (cellAt ns 1) i / 9 % 26) := by
        unfold txt1
        rw [if_neg (by simpa using hb)]
      refine at_set (d := .str (txtN ns (i + 1))) ?_ (at_wk hN (.same (.same (.same (.un (.un .nil))))))
      have ea := atI_oneOf (z := LETTERS) (i := mixed (cellAt ns 1) i / 9 % 26) (by omega) (by rw [letters_len]; omega)
      rw [show txtN ns (i + 1) = txtN ns i ++ oneOf LETTERS (mixed (cellAt ns 1) i / 9 % 26) by rw [← e]; rfl]
      refine ev_op (ev_var rfl) (ev_op ev_str (ev_op (ev_op (ev_var rfl) ev_int (rv_fdivP ⟨by decide, by decide⟩)) ev_int (rv_modP (by decide))) (rv_ixS (sz_dec (by rw [letters_len]; decide)) ?_)) (rv_addS hl1)
      simpa using ea
  · kc_close
    rfl

theorem ok__law_put (T : Tx K mg) : Def P w K mg base CX0 1 "_law_put" ["_law_deed", "_law_number", "_law_text_here"] (spP 3 R_put) := by
  refine mkP T.f__law_put b__law_put sc__law_put rfl fun f cdv A outer s H E hr => ⟨_, (pss_cons (ps_set (i := 3) sc__law_put.nd rfl (Or.inl rfl) (pe_op op_mod (pv 1) pe_int))
      (pss_cons (ps_set (i := 4) sc__law_put.nd rfl (Or.inl rfl) (pe_op op_mod (pe_op op_fdiv (pv 1) pe_int) (pe_op op_pow pe_int pe_int)))
      (pss_cons (ps_set (i := 5) sc__law_put.nd rfl (Or.inl rfl) (pe_lst (pa_cons (pe_op op_sub pe_int (pv 4)) (pa_cons (pv 4) (pa_cons (pe_op (op_addK K) pe_int (pe_op op_mod (pv 4) pe_int)) (pa_cons pe_bl (pa_cons pe_bl (pa_cons pe_non (pa_cons pe_str (pa_cons pe_str (pa_cons (pv 2) (pa_cons (pe_lst pa_nil) (pa_cons (pe_tup pa_nil) (pa_cons (pe_lst (pa_cons (pv 4) pa_nil)) (pa_cons pe_int (pa_cons pe_int (pa_cons (pe_un un_neg pe_int) (pa_cons pe_int pa_nil))))))))))))))))))
      (pss_cons (ps_set (i := 5) sc__law_put.nd rfl (Or.inl rfl) (pe_op (op_addK K) (pv 5) (pe_lst (pa_cons pe_str (pa_cons pe_str (pa_cons pe_str (pa_cons pe_str (pa_cons pe_str (pa_cons pe_str (pa_cons pe_str pa_nil))))))))))
      (pss_one (ps_ret (pe_op (op_addK K) (pe_op (op_addK K) (pe_slice (sl_K K) (pv 0) po_none (po_some (pv 3))) (pe_tup (pa_cons (pe_ix (ix_K K) (pv 5) (pe_op op_mod (pe_op op_fdiv (pv 1) pe_int) pe_int) (fun _ _ => rfl)) pa_nil))) (pe_slice (sl_K K) (pv 0) (po_some (pe_op (op_addK K) (pv 3) pe_int)) po_none)))))))), ?_⟩
  rintro ds d B Q hl ⟨xs, n, z, rfl, h5, hn, rfl⟩ q
  have h0 := Int.emod_nonneg n (show (5 : Int) ≠ 0 by decide)
  have h1 := Int.emod_lt_of_pos n (show (0 : Int) < 5 by decide)
  have h2 := Int.emod_nonneg (n / 35) (show (23 : Int) ≠ 0 by decide)
  have h3 := Int.emod_lt_of_pos (n / 35) (show (0 : Int) < 23 by decide)
  l_intsC
  l_intsC
  l_intsC
  l_intsC
  have ea : atI (putL (n / 5 % 1000000) z) (n / 35 % 23) = some (putX n z) := by
    have hl : (n / 35 % 23).toNat < (putL (n / 5 % 1000000) z).length := by
      show (n / 35 % 23).toNat < 23
      omega
    exact atI_int h2 (by unfold putX; rw [List.getD_eq_getElem?_getD, List.getElem?_eq_getElem hl]; rfl)
  k_updF
  refine at_rt (ev_op (ev_op (ev_sl (ev_var rfl) eo_none (eo_some (ev_var rfl)) rs_T) (ev_tup (ea_cons (ev_op (ev_var rfl) (ev_op (ev_op (ev_var rfl) ev_int (rv_fdivP ⟨by decide, by decide⟩)) ev_int (rv_modP (by decide))) (rv_ixL ea)) ea_nil) (sz_dec (Nat.le_of_ble_eq_true rfl))) (rv_addT ?_)) (ev_sl (ev_var rfl) (eo_some (ev_op (ev_var rfl) ev_int rv_addI)) eo_none rs_T) (rv_addT ?_)) ?_ q
  · exact sz_dec (by rw [cutG_take h0 (by omega), List.length_take]; simp; omega)
  · exact sz_dec (by rw [cutG_take h0 (by omega), cutG_drop (by omega) (by omega)]; simp; omega)
  · rw [cutG_take h0 (by omega), cutG_drop (by omega) (by omega), List.append_assoc]
    unfold putD
    rw [show (n % 5 + 1).toNat = (n % 5).toNat + 1 by omega]
    rfl

theorem ok__law_key_due (T : Tx K mg) : Def P w K mg base CX0 1 "_law_key_due" ["_law_thing"] (spP 1 R_is_key) := by
  refine mkP T.f__law_key_due b__law_key_due sc__law_key_due rfl fun f cdv A outer s H E hr => ⟨_, (pss_cons (ps_if (PW.pt (pw_or (pt_not (pt_val (pe_callB (isi_K K) (by rfl) T.z_isinstance (by decide +kernel) (pa_cons (pv 0) (pa_cons (pe_bltn (v := .ty "str") (by rfl) T.z_str (by decide +kernel) rfl) pa_nil))))) (pw_or (pt_cmpR (op_eqK K (hu64 hr)) (pe_callB (len_K K) (by rfl) T.z_len (by decide +kernel) (pa_cons (pv 0) pa_nil)) pe_int (nomark _)) (pw_or1 (pt_cmpR op_gt (pe_callB (len_K K) (by rfl) T.z_len (by decide +kernel) (pa_cons (pv 0) pa_nil)) pe_int (nomark _))))))
      (pss_one (ps_ret pe_bl))
      pss_nil)
      (pss_cons (ps_for PassesOwn.never rfl (pi_str (pv 0)) (pg_name (i := 1) sc__law_key_due.nd rfl (Or.inl rfl))
      (pss_one (ps_if (pt_cmpR (op_neK K (hu64 hr)) (pe_bmK K PySem.F.plainAttrs_str PySem.F.slot_str_count PySem.F.type_str_count mt_countK pe_str (pa_cons (pv 1) pa_nil)) pe_int (nomark _))
      (pss_one (ps_ret pe_bl))
      pss_nil)))
      (pss_one (ps_ret pe_bl)))), ?_⟩
  rintro ds d B Q hl ⟨x, rfl, hs, rfl⟩ q
  cases x with
  | str z =>
    have hz : z.length ≤ sizeLine := sz_dec hs
    have hz2 : z.cps.toList.length = z.length := by simp [Str.length]
    l_intsW
    · intro hb
      kc_close
      rw [show isKeyD (.str z) = false by
        have hb' : (decide ((z.length : Int) = 0) || decide (8 < (z.length : Int))) = true := hb
        rw [Bool.or_eq_true, decide_eq_true_eq, decide_eq_true_eq] at hb'
        show (decide (1 ≤ z.length) && (decide (z.length ≤ 8) && lowD z)) = false
        rcases hb' with h | h
        · rw [decide_eq_false (by omega)]; rfl
        · rw [decide_eq_false (p := z.length ≤ 8) (by omega)]; simp]
    · intro hb
      have hb' : (decide ((z.length : Int) = 0) || decide (8 < (z.length : Int))) = false := hb
      rw [Bool.or_eq_false_iff, decide_eq_false_iff_not, decide_eq_false_iff_not] at hb'
      have e0 : isKeyD (.str z) = lowD z := by
        show (decide (1 ≤ z.length) && (decide (z.length ≤ 8) && lowD z)) = lowD z
        rw [decide_eq_true (by omega), decide_eq_true (p := z.length ≤ 8) (by omega)]; rfl
      k_updF
      refine at_for (fun _ => [.d (.str z), .un]) (fun i => ∀ j c, j < i → z.cps.toList[j]? = some c → c ∈ LETTERS.cps.toList) (ei_str (by k_memK)) (.same (.un .nil)) (fun j c h => absurd h (Nat.not_lt_zero _)) (fun gb i d N hd hp hN => ?_) (fun hp => ?_)
      · unfold signs at hd
        rw [List.getElem?_map] at hd
        obtain ⟨c, hc, rfl⟩ := Option.map_eq_some_iff.mp hd
        refine at_if (b := !decide (Txt.count LETTERS ⟨#[c]⟩ = 1)) (et_test (ev_op (ev_bm ev_str (ea_cons (ev_var rfl) ea_nil) rm_countK) ev_int rv_neI)) (fun hb => ?_) (fun hb => ?_)
        · rw [count_eq] at hb
          refine at_rt ev_bl ?_ q
          rw [e0]
          have hn : c ∉ LETTERS.cps.toList := by simpa using hb
          rw [show lowD z = false by
            unfold lowD
            rw [List.all_eq_false]
            exact ⟨c, List.mem_of_getElem? hc, by simpa using hn⟩]
        · rw [count_eq] at hb
          have hn : c ∈ LETTERS.cps.toList := by simpa using hb
          refine at_next (at_wk (hN fun j c' hj hc' => ?_) (.same (.un .nil)))
          by_cases hji : j = i
          · subst hji
            rw [hc] at hc'
            cases hc'
            exact hn
          · exact hp j c' (by omega) hc'
      · kc_close
        rw [e0, show lowD z = true by
          unfold lowD
          rw [List.all_eq_true]
          intro c hc
          obtain ⟨j, hj, e⟩ := List.mem_iff_getElem.mp hc
          exact decide_eq_true (hp j c (by simpa [signs] using hj) (by rw [List.getElem?_eq_getElem hj, e]))]
  | _ =>
    l_intsW
    · intro hb
      kc_close
      rfl
    · intro hb; cases hb

theorem ok__law_deed_due (T : Tx K mg) : Def P w K mg base CX0 2 "_law_deed_due" ["_law_deed"] (spP 1 R_is_deed) := by
  refine mkP T.f__law_deed_due b__law_deed_due sc__law_deed_due rfl fun f cdv A outer s H E hr => ⟨_, (pss_cons (ps_if (PW.pt (pw_or (pt_not (pt_val (pe_callB (isi_K K) (by rfl) T.z_isinstance (by decide +kernel) (pa_cons (pv 0) (pa_cons (pe_bltn (v := .ty "tuple") (by rfl) T.z_tuple (by decide +kernel) rfl) pa_nil))))) (pw_or1 (pt_cmpR (op_neK K (hu64 hr)) (pe_callB (len_K K) (by rfl) T.z_len (by decide +kernel) (pa_cons (pv 0) pa_nil)) pe_int (nomark _)))))
      (pss_one (ps_ret pe_bl))
      pss_nil)
      (pss_cons (ps_for PassesOwn.never rfl (pi_tupK K (pe_tup (pa_cons pe_int (pa_cons pe_int (pa_cons pe_int pa_nil))))) (pg_name (i := 1) sc__law_deed_due.nd rfl (Or.inl rfl))
      (pss_one (ps_if (pt_not (pt_val (pe_callD (ok__law_whole T) hr (pa_cons (pe_ix (ix_K K) (pv 0) (pv 1) (fun _ _ => rfl)) pa_nil))))
      (pss_one (ps_ret pe_bl))
      pss_nil)))
      (pss_cons (ps_if (PW.pt (pw_or (pt_cmpR op_notInR (pe_ix (ix_K K) (pv 0) pe_int (fun _ _ => rfl)) (pe_callTy cr_range1 (by rfl) T.z_range (by decide +kernel) (pa_cons pe_int pa_nil)) (by with_unfolding_all rfl)) (pw_or (pt_cmpR op_lt (pe_ix (ix_K K) (pv 0) pe_int (fun _ _ => rfl)) pe_int (nomark _)) (pw_or1 (pt_not (pt_val (pe_callD (ok__law_key_due T) hr (pa_cons (pe_ix (ix_K K) (pv 0) pe_int (fun _ _ => rfl)) pa_nil))))))))
      (pss_one (ps_ret pe_bl))
      pss_nil)
      (pss_cons (ps_if (pt_not (pt_val (pe_callB (isi_K K) (by rfl) T.z_isinstance (by decide +kernel) (pa_cons (pe_ix (ix_K K) (pv 0) pe_int (fun _ _ => rfl)) (pa_cons (pe_bltn (v := .ty "str") (by rfl) T.z_str (by decide +kernel) rfl) pa_nil)))))
      (pss_one (ps_ret pe_bl))
      pss_nil)
      (pss_one (ps_ret (pe_or (pe_cmpR (op_eqK K (hu64 hr)) (pe_ix (ix_K K) (pv 0) pe_int (fun _ _ => rfl)) pe_str (nomark _)) (pe_or (pe_cmpR (op_eqK K (hu64 hr)) (pe_ix (ix_K K) (pv 0) pe_int (fun _ _ => rfl)) pe_str (nomark _)) (pe_or (pe_cmpR (op_eqK K (hu64 hr)) (pe_ix (ix_K K) (pv 0) pe_int (fun _ _ => rfl)) pe_str (nomark _)) (pe_one (pe_and (pe_cmpR (op_eqK K (hu64 hr)) (pe_ix (ix_K K) (pv 0) pe_int (fun _ _ => rfl)) pe_str (nomark _)) (pe_one (pe_cmpR (op_eqK K (hu64 hr)) (pe_ix (ix_K K) (pv 0) pe_int (fun _ _ => rfl)) pe_int (nomark _)))))))))))))), ?_⟩
  rintro ds d B Q hl ⟨x, rfl, hs, rfl⟩ q
  rcases tup_or x with ⟨a, t, w, k, v, rfl⟩ | ⟨ds, rfl, hd⟩ | hx
  · have ha := hs a (by simp)
    have ht := hs t (by simp)
    have hw := hs w (by simp)
    have hk := hs k (by simp)
    have hv := hs v (by simp)
    l_intsW
    · intro hb; cases hb
    · intro _
      k_updF
      refine at_for (fun _ => [.d (.tuple [a, t, w, k, v]), .un]) (fun i => (0 < i → isNumD a = true) ∧ (1 < i → isNumD t = true) ∧ (2 < i → isNumD v = true)) (ei_tup (ds := [.int 0, .int 1, .int 4]) (by k_memK)) (.same (.un .nil))
        ⟨fun h => absurd h (by decide), fun h => absurd h (by decide), fun h => absurd h (by decide)⟩ (fun gb i d N hd hp hN => ?_) (fun hp => ?_)
      · match i, hd with
        | 0, hd =>
          cases hd
          refine at_if (b := !isNumD a) (by k_memK) (fun hb => ?_) (fun hb => ?_)
          · kc_close
            rw [show isDeedD (.tuple [a, t, w, k, v]) = false from isDeed5_a (by simpa using hb)]
          · exact at_next (at_wk (hN ⟨fun _ => by simpa using hb, fun h => absurd h (by decide), fun h => absurd h (by decide)⟩) (.same (.un .nil)))
        | 1, hd =>
          cases hd
          refine at_if (b := !isNumD t) (by k_memK) (fun hb => ?_) (fun hb => ?_)
          · kc_close
            rw [show isDeedD (.tuple [a, t, w, k, v]) = false from isDeed5_t (by simpa using hb)]
          · exact at_next (at_wk (hN ⟨fun _ => hp.1 (by decide), fun _ => by simpa using hb, fun h => absurd h (by decide)⟩) (.same (.un .nil)))
        | 2, hd =>
          cases hd
          refine at_if (b := !isNumD v) (by k_memK) (fun hb => ?_) (fun hb => ?_)
          · kc_close
            rw [show isDeedD (.tuple [a, t, w, k, v]) = false from isDeed5_v (by simpa using hb)]
          · exact at_next (at_wk (hN ⟨fun _ => hp.1 (by decide), fun _ => hp.2.1 (by decide), fun _ => by simpa using hb⟩) (.same (.un .nil)))
        | i + 3, hd => cases hd
      · have na := hp.1 (by decide)
        have nt := hp.2.1 (by decide)
        have nv := hp.2.2 (by decide)
        clear hp
        obtain ⟨ai, rfl⟩ : ∃ i, a = .int i := (num_or a).resolve_right (by rw [na]; decide)
        obtain ⟨ti, rfl⟩ : ∃ i, t = .int i := (num_or t).resolve_right (by rw [nt]; decide)
        obtain ⟨vi, rfl⟩ : ∃ i, v = .int i := (num_or v).resolve_right (by rw [nv]; decide)
        l_intsW
        · intro hb
          kc_close
          simp only [Bool.or_eq_true, Bool.not_eq_true', decide_eq_false_iff_not, decide_eq_true_eq] at hb
          rcases hb with hb | hb | hb
          · rw [show isDeedD (.tuple [.int ai, .int ti, w, k, .int vi]) = false from isDeed5_no (by omega)]
          · rw [show isDeedD (.tuple [.int ai, .int ti, w, k, .int vi]) = false from isDeed5_no (by omega)]
          · rw [show isDeedD (.tuple [.int ai, .int ti, w, k, .int vi]) = false by
              rcases str_or w with ⟨ws, rfl⟩ | hsw
              · exact isDeed5_k (a := .int ai) (t := .int ti) (v := .int vi) hb
              · exact isDeed5_w (a := .int ai) (t := .int ti) (v := .int vi) hsw]
        · intro hb
          simp only [Bool.or_eq_false_iff, Bool.not_eq_false', decide_eq_true_eq, decide_eq_false_iff_not] at hb
          obtain ⟨hb1, hb2, hb3⟩ := hb
          rcases str_or w with ⟨ws, rfl⟩ | hsw
          · have hws : PyData.strOk ws = true := hw.2
            l_intsW
            · intro hb; cases hb
            · intro _
              kc_close
              rw [show isDeedD (.tuple [.int ai, .int ti, .str ws, k, .int vi]) = isWordS ws vi from isDeed5_w1 (by omega) hb3]
              congr 1
              exact isWordS_eq2 ws vi
          · l_intsW
            · intro _
              kc_close
              rw [show isDeedD (.tuple [.int ai, .int ti, w, k, .int vi]) = false from isDeed5_w hsw]
            · intro hb; cases hb
  · l_intsW
    · intro hb
      kc_close
      rw [isDeed_len hd]
    · intro hb
      exfalso
      rw [show isTupD (.tuple ds) = true from rfl] at hb
      simp at hb
      omega
  · l_intsW
    · intro _
      kc_close
      rw [isDeed_tup hx]
    · intro hb; cases hb

theorem ok__law_truth (T : Tx K mg) : Def P w K mg base CX0 1 "_law_truth" ["_law_found", "_law_due"] (spP 2 R_truth) := by
  refine mkP T.f__law_truth b__law_truth sc__law_truth rfl fun f cdv A outer s H E hr => ⟨_, (pss_one (ps_ret (pe_and (pe_callB (isi_K K) (by rfl) T.z_isinstance (by decide +kernel) (pa_cons (pv 0) (pa_cons (pe_bltn (v := .ty "bool") (by rfl) T.z_bool (by decide +kernel) rfl) pa_nil))) (pe_one (pe_cmpR (op_eqK K (hu64 hr)) (pv 0) (pv 1) (nomark _)))))), ?_⟩
  rintro ds d B Q hl ⟨a, b, rfl, rfl⟩ q
  kc_close
  rfl

def R_law (ds : List PyData) (d : PyData) : Prop := ∃ ns : List Int, ds = [scr ns] ∧ ns.length ≤ 63 ∧ d = .bool true
theorem ok_law (T : Tx K mg) (hL : Has K mg "law" s_law) : Def P w K mg base CX0 3 "law" ["_law_script"] (spP 1 R_law) := by
  refine mkP hL b_law sc_law rfl fun f cdv A outer s H E hr => ⟨_, (pss_cons (ps_set (i := 1) sc_law.nd rfl (Or.inl rfl) (pe_callD (ok__law_text T) hr (pa_cons (pv 0) pa_nil)))
      (pss_cons (ps_set (i := 2) sc_law.nd rfl (Or.inl rfl) (pe_callD (ok__law_mixed T) hr (pa_cons (pe_callD (ok__law_cell_at T) hr (pa_cons (pv 0) (pa_cons pe_int pa_nil))) (pa_cons pe_int pa_nil))))
      (pss_cons (ps_set (i := 3) sc_law.nd rfl (Or.inl rfl) (pe_ix (ix_K K) (pe_lst (pa_cons pe_str (pa_cons pe_str (pa_cons pe_str (pa_cons pe_str pa_nil))))) (pe_op op_mod (pe_op op_fdiv (pv 2) pe_int) pe_int) (fun _ _ => rfl)))
      (pss_cons (ps_set (i := 4) sc_law.nd rfl (Or.inl rfl) (pe_ix (ix_K K) (pe_lst (pa_cons pe_int (pa_cons (pe_op op_sub (pe_op op_mod (pv 2) pe_int) pe_int) (pa_cons (pe_op (op_addK K) (pe_op op_pow pe_int pe_int) (pv 2)) pa_nil)))) (pe_op op_mod (pe_op op_fdiv (pv 2) pe_int) pe_int) (fun _ _ => rfl)))
      (pss_cons (ps_if (pt_cmpR (op_eqK K (hu64 hr)) (pv 3) pe_str (nomark _))
      (pss_one (ps_set (i := 4) sc_law.nd rfl (Or.inl rfl) pe_int))
      pss_nil)
      (pss_cons (ps_set (i := 5) sc_law.nd rfl (Or.inl rfl) (pv 1))
      (pss_cons (ps_if (PW.pt (pw_and (pt_not (pt_val (pe_callD (ok__law_key_due T) hr (pa_cons (pv 1) pa_nil)))) (pw_and1 (pt_cmpR op_gt (pe_op op_mod (pe_op op_fdiv (pv 2) pe_int) pe_int) pe_int (nomark _)))))
      (pss_one (ps_set (i := 5) sc_law.nd rfl (Or.inl rfl) pe_str))
      pss_nil)
      (pss_cons (ps_set (i := 6) sc_law.nd rfl (Or.inl rfl) (pe_tup (pa_cons (pe_op op_mod (pv 2) pe_int) (pa_cons (pe_op (op_addK K) pe_int (pe_op op_mod (pe_op op_fdiv (pv 2) pe_int) pe_int)) (pa_cons (pv 3) (pa_cons (pv 5) (pa_cons (pv 4) pa_nil)))))))
      (pss_cons (ps_set (i := 7) sc_law.nd rfl (Or.inl rfl) (pe_op op_mod (pe_callD (ok__law_cell_at T) hr (pa_cons (pv 0) (pa_cons pe_int pa_nil))) pe_int))
      (pss_cons (ps_if (pt_cmpR op_gt (pv 7) pe_int (nomark _))
      (pss_one (ps_set (i := 6) sc_law.nd rfl (Or.inl rfl) (pe_callD (ok__law_put T) hr (pa_cons (pv 6) (pa_cons (pe_callD (ok__law_mixed T) hr (pa_cons (pe_callD (ok__law_cell_at T) hr (pa_cons (pv 0) (pa_cons pe_int pa_nil))) (pa_cons pe_int pa_nil))) (pa_cons (pv 1) pa_nil))))))
      pss_nil)
      (pss_cons (ps_if (pt_cmpR (op_eqK K (hu64 hr)) (pv 7) pe_int (nomark _))
      (pss_one (ps_set (i := 6) sc_law.nd rfl (Or.inl rfl) (pe_callD (ok__law_put T) hr (pa_cons (pv 6) (pa_cons (pe_callD (ok__law_mixed T) hr (pa_cons (pe_callD (ok__law_cell_at T) hr (pa_cons (pv 0) (pa_cons pe_int pa_nil))) (pa_cons pe_int pa_nil))) (pa_cons (pv 1) pa_nil))))))
      pss_nil)
      (pss_cons (ps_set (i := 8) sc_law.nd rfl (Or.inl rfl) (pe_op op_mod (pe_callD (ok__law_cell_at T) hr (pa_cons (pv 0) (pa_cons pe_int pa_nil))) pe_int))
      (pss_cons (ps_set (i := 9) sc_law.nd rfl (Or.inl rfl) (pv 6))
      (pss_cons (ps_if (pt_cmpR op_lt (pv 8) pe_int (nomark _))
      (pss_one (ps_set (i := 9) sc_law.nd rfl (Or.inl rfl) (pe_ix (ix_K K) (pe_lst (pa_cons (pe_callTy (list_K K) (by rfl) T.z_list (by decide +kernel) (pa_cons (pv 6) pa_nil)) (pa_cons (pe_slice (sl_K K) (pv 6) po_none (po_some pe_int)) (pa_cons (pe_op (op_addK K) (pv 6) (pe_tup (pa_cons pe_int pa_nil))) (pa_cons pe_int (pa_cons pe_bl (pa_cons (pe_tup pa_nil) (pa_cons pe_non (pa_cons pe_str (pa_cons (pe_lst (pa_cons (pv 6) pa_nil)) pa_nil)))))))))) (pv 8) (fun _ _ => rfl))))
      pss_nil)
      (pss_cons (ps_for PassesOwn.never rfl (pi_listK K (pe_lst (pa_cons (pv 1) (pa_cons (pe_ix (ix_K K) (pv 6) pe_int (fun _ _ => rfl)) (pa_cons (pe_ix (ix_K K) (pv 6) pe_int (fun _ _ => rfl)) (pa_cons (pv 9) pa_nil)))))) (pg_name (i := 10) sc_law.nd rfl (Or.inl rfl))
      (pss_one (ps_if (pt_not (pt_val (pe_callD (ok__law_truth T) hr (pa_cons (pe_callD (ok_is_key T) hr (pa_cons (pv 10) pa_nil)) (pa_cons (pe_callD (ok__law_key_due T) hr (pa_cons (pv 10) pa_nil)) pa_nil)))))
      (pss_one (ps_ret pe_bl))
      pss_nil)))
      (pss_one (ps_ret (pe_and (pe_callD (ok__law_truth T) hr (pa_cons (pe_callD (ok_is_deed T) hr (pa_cons (pv 9) pa_nil)) (pa_cons (pe_callD (ok__law_deed_due T) hr (pa_cons (pv 9) pa_nil)) pa_nil))) (pe_one (pe_cmpR op_isBl (pe_callD (ok_is_deed T) hr (pa_cons (pv 1) pa_nil)) pe_bl (nomark _))))))))))))))))))))), ?_⟩
  rintro ds d B Q hl ⟨ns, rfl, h63, rfl⟩ q
  have hzs := textS_ok ns
  l_intsC
  generalize textS ns = z at hzs ⊢
  have hz : Sm (.str z) := ⟨by show z.length ≤ _; omega, hzs.1⟩
  have hz1 := hz.1
  l_intsC
  have hm0 := mixed_lo (cellAt ns 3) 3
  generalize mixed (cellAt ns 3) 3 = m at hm0 ⊢
  obtain ⟨w, hw, ew⟩ := pick (xs := [.str "put", .str "add", .str "once", .str "away"]) (i := m / 10 % 4) (by omega) (by show _ < 4; omega)
  l_intsC
  obtain ⟨v, hv, ev⟩ := pick (xs := [.int 0, .int (m % 100 - 50), .int (10 ^ Int.toNat 40 + m)]) (i := m / 40 % 3) (by omega) (by show _ < 3; omega)
  l_intsC
  obtain ⟨ws, rfl, hws⟩ : ∃ ws : Str, w = .str ws ∧ Sm (.str ws) := by
    simp only [List.mem_cons, List.not_mem_nil, or_false] at hw
    rcases hw with rfl | rfl | rfl | rfl <;> exact ⟨_, rfl, by show Str.length _ ≤ _; decide +kernel, by show PyData.strOk _ = true; decide +kernel⟩
  obtain ⟨vi, rfl⟩ : ∃ vi, v = .int vi := by
    simp only [List.mem_cons, List.not_mem_nil, or_false] at hv
    rcases hv with rfl | rfl | rfl <;> exact ⟨_, rfl⟩
  have hwok : PyData.strOk ws = true := hws.2
  k_updF
  refine at_ifSet (d1 := .int 0) (d0 := .int vi) (by k_memK) (fun _ => by k_memK) rfl (by k_intsEnd) ?_
  obtain ⟨v2, hv2⟩ : ∃ v2, (if decide (ws = "away") = true then PyData.int 0 else PyData.int vi) = .int v2 := by
    split
    · exact ⟨_, rfl⟩
    · exact ⟨_, rfl⟩
  rw [hv2]
  l_intsC
  k_updF
  refine at_ifSet (d1 := .str "key") (d0 := .str z) (by k_memK) (fun _ => by k_memK) rfl (by k_intsEnd) ?_
  obtain ⟨k, hk, hks⟩ : ∃ k, (if (!isKeyD (.str z) && decide (0 < m / 160 % 3)) = true then PyData.str "key" else PyData.str z) = k ∧ Sm k := by
    refine ⟨_, rfl, ?_⟩
    split
    · exact ⟨by show Str.length _ ≤ _; decide +kernel, by show PyData.strOk _ = true; decide +kernel⟩
    · exact hz
  rw [hk]
  l_intsC
  have h5 : [PyData.int (m % 10), .int (1 + m / 480 % 9), .str ws, k, .int v2].length = 5 := rfl
  have hsm : ∀ x ∈ [PyData.int (m % 10), .int (1 + m / 480 % 9), .str ws, k, .int v2], Sm x := by
    intro x hx
    simp only [List.mem_cons, List.not_mem_nil, or_false] at hx
    rcases hx with rfl | rfl | rfl | rfl | rfl
    all_goals first | exact ⟨trivial, trivial⟩ | exact hws | exact hks
  generalize [PyData.int (m % 10), .int (1 + m / 480 % 9), .str ws, k, .int v2] = D0 at h5 hsm ⊢
  l_intsC
  generalize cellAt ns 4 % 4 = wy
  have hm5 := mixed_lo (cellAt ns 5) 5
  have hm6 := mixed_lo (cellAt ns 6) 6
  k_updF
  refine at_ifSet (d1 := .tuple (putD D0 (mixed (cellAt ns 5) 5) z)) (d0 := .tuple D0) (by k_memK) (fun _ => by k_memK) rfl (by k_intsEnd) ?_
  obtain ⟨D1, e1, h51, hsm1⟩ : ∃ D1, (if decide (1 < wy) = true then PyData.tuple (putD D0 (mixed (cellAt ns 5) 5) z) else .tuple D0) = .tuple D1 ∧ D1.length = 5 ∧ ∀ x ∈ D1, Sm x := by
    split
    · exact ⟨_, rfl, putD_len h5, putD_sm hsm hz⟩
    · exact ⟨_, rfl, h5, hsm⟩
  rw [e1]
  k_updF
  refine at_ifSet (d1 := .tuple (putD D1 (mixed (cellAt ns 6) 6) z)) (d0 := .tuple D1) (by k_memK) (fun _ => by k_memK) rfl (by k_intsEnd) ?_
  obtain ⟨D2, e2, h52, hsm2⟩ : ∃ D2, (if decide (wy = 3) = true then PyData.tuple (putD D1 (mixed (cellAt ns 6) 6) z) else .tuple D1) = .tuple D2 ∧ D2.length = 5 ∧ ∀ x ∈ D2, Sm x := by
    split
    · exact ⟨_, rfl, putD_len h51, putD_sm hsm1 hz⟩
    · exact ⟨_, rfl, h51, hsm1⟩
  rw [e2]
  l_intsC
  have hsh := Int.emod_nonneg (cellAt ns 7) (show (20 : Int) ≠ 0 by decide)
  generalize cellAt ns 7 % 20 = sh at hsh ⊢
  l_intsC
  k_updF
  have hD2z : D2.length + 1 ≤ sizeLine := sz_dec (by omega)
  refine at_ifSet (b := decide (sh < 9)) (d1 := ([.list D2, .tuple (cutG D2 none (some 4)), .tuple (D2 ++ [.int 0]), .int 5, .bool true, .tuple [], .none, .str "abcde", .list [.tuple D2]] : List PyData).getD sh.toNat .none) (d0 := .tuple D2) (by k_memK) (fun hb => ?_) rfl (by k_intsEnd) ?_
  · have hb9 : sh < 9 := by simpa using hb
    have ea : atI ([.list D2, .tuple (cutG D2 none (some 4)), .tuple (D2 ++ [.int 0]), .int 5, .bool true, .tuple [], .none, .str "abcde", .list [.tuple D2]] : List PyData) sh = some (([.list D2, .tuple (cutG D2 none (some 4)), .tuple (D2 ++ [.int 0]), .int 5, .bool true, .tuple [], .none, .str "abcde", .list [.tuple D2]] : List PyData).getD sh.toNat .none) := by
      refine atI_int hsh ?_
      have hl9 : sh.toNat < 9 := by omega
      rw [List.getD_eq_getElem?_getD, List.getElem?_eq_getElem (by exact hl9)]; rfl
    k_memK
  obtain ⟨th, et, hth, hth2⟩ : ∃ th, (if decide (sh < 9) = true then ([.list D2, .tuple (cutG D2 none (some 4)), .tuple (D2 ++ [.int 0]), .int 5, .bool true, .tuple [], .none, .str "abcde", .list [.tuple D2]] : List PyData).getD sh.toNat .none else .tuple D2) = th ∧ SzS th ∧ DeedSz th := by
    refine ⟨_, rfl, ?_⟩
    split
    · rename_i hb
      have hb9 : sh < 9 := by simpa using hb
      have hl9 : sh.toNat < 9 := by omega
      have hm : ([.list D2, .tuple (cutG D2 none (some 4)), .tuple (D2 ++ [.int 0]), .int 5, .bool true, .tuple [], .none, .str "abcde", .list [.tuple D2]] : List PyData).getD sh.toNat .none ∈ ([.list D2, .tuple (cutG D2 none (some 4)), .tuple (D2 ++ [.int 0]), .int 5, .bool true, .tuple [], .none, .str "abcde", .list [.tuple D2]] : List PyData) := by
        rw [List.getD_eq_getElem?_getD, List.getElem?_eq_getElem (by exact hl9)]
        exact List.getElem_mem _
      generalize ([.list D2, .tuple (cutG D2 none (some 4)), .tuple (D2 ++ [.int 0]), .int 5, .bool true, .tuple [], .none, .str "abcde", .list [.tuple D2]] : List PyData).getD sh.toNat .none = y at hm ⊢
      simp only [List.mem_cons, List.not_mem_nil, or_false] at hm
      rcases hm with rfl | rfl | rfl | rfl | rfl | rfl | rfl | rfl | rfl
      · exact ⟨trivial, trivial⟩
      · refine ⟨trivial, fun x hx => ?_⟩
        rw [cutG_take (by decide) (by omega)] at hx
        exact hsm2 x (List.mem_of_mem_take hx)
      · refine ⟨trivial, fun x hx => ?_⟩
        rw [List.mem_append, List.mem_singleton] at hx
        rcases hx with hx | rfl
        · exact hsm2 x hx
        · exact ⟨trivial, trivial⟩
      · exact ⟨trivial, trivial⟩
      · exact ⟨trivial, trivial⟩
      · exact ⟨trivial, fun x hx => by cases hx⟩
      · exact ⟨trivial, trivial⟩
      · exact ⟨by show Str.length _ ≤ _; decide +kernel, trivial⟩
      · exact ⟨trivial, trivial⟩
    · exact ⟨trivial, hsm2⟩
  rw [et]
  clear et e1 e2 hk hv2
  obtain ⟨a, t, w', k', v', rfl⟩ : ∃ a t w k v, D2 = [a, t, w, k, v] := by
    match D2, h52 with
    | [a, t, w, k, v], _ => exact ⟨a, t, w, k, v, rfl⟩
  have sa := (hsm2 a (by simp)).1
  have sk := (hsm2 k' (by simp)).1
  k_updF
  refine at_for (fun _ => [.d (scr ns), .d (.str z), .un, .un, .un, .un, .un, .un, .un, .d th, .un]) (fun _ => True) (ei_list (ds := [.str z, a, k', th]) (by k_memK)) (.same (.same (.un (.un (.un (.un (.un (.un (.un (.same (.un .nil))))))))))) trivial (fun gb i d N hd _ hN => ?_) (fun _ => ?_)
  · have hds : SzS d := by
      have := List.mem_of_getElem? hd
      simp only [List.mem_cons, List.not_mem_nil, or_false] at this
      rcases this with rfl | rfl | rfl | rfl
      · exact hz1
      · exact sa
      · exact sk
      · exact hth
    refine at_if (b := !(isKeyD d == isKeyD d)) (by k_memK) (fun hb => ?_) (fun hb => ?_)
    · simp at hb
    · exact at_next (at_wk (hN trivial) (.same (.same (.un (.un (.un (.un (.un (.un (.un (.same (.un .nil))))))))))))
  · have hz2 : DeedSz (.str z) := trivial
    kc_close
    rw [beq_self_eq_true]
    rfl

end
/-! ### the head -/
def dd (x : Str) (i : Nat) : He.DefD := ⟨(x, none), x, x, defArgs (topS i), defBody (topS i), defScope (topS i), [], []⟩
def fnL : List He.DefD := ([dd "is_number" 2, dd "is_key" 3, dd "is_deed" 4, dd "_law_cell_at" 6, dd "_law_mixed" 7, dd "_law_whole" 8, dd "_law_text" 9, dd "_law_put" 10, dd "_law_key_due" 11, dd "_law_deed_due" 12, dd "_law_truth" 13, dd "law" 14] : List He.DefD)
def faL : List He.Fa := ([.glo "is_number", .glo "is_key", .glo "is_deed", .glo "_law_cell_at", .glo "_law_mixed", .glo "_law_whole", .glo "_law_text", .glo "_law_put", .glo "_law_key_due", .glo "_law_deed_due", .glo "_law_truth", .glo "law", .free "all", .free "bool", .free "int", .free "isinstance", .free "len", .free "list", .free "range", .free "str", .free "tuple", .str "LETTERS" "abcdefghijklmnopqrstuvwxyz"] : List He.Fa)
def exK (K : PySem.W.Frag) : Bool := (K.all fun q => !(q.2.cls == .type "list"))
abbrev Rw : PySem.W.OpenRow := PySem.W.OpenLaw.row PySem.Challenge.rw_chainkeep_k01_deeds_known
abbrev hkL : PySem.W.Hook := He.hookX 4 faL fnL [] [] exK
def obL (s : PySem.W.SharedT) : He.AlX := He.obsX 4 faL fnL [] [] exK (HandSHeadRun.getT s)
theorem obL_eq (s : PySem.W.SharedT) : obL s = hkL.obs s.abs := He.obsX_eq (HandSHeadRun.getT_eq s)
def nmL : List Str := (["is_number", "is_key", "is_deed", "_law_cell_at", "_law_mixed", "_law_whole", "_law_text", "_law_put", "_law_key_due", "_law_deed_due", "_law_truth", "LETTERS"] : List Str)
theorem runL (w : World) : HandSHeadRun.RunEq Rw (PySem.W.view Rw.prog [14]) hkL obL 6000 nmL w := by
  intro os
  kernel_rfl
section
variable {K : PySem.W.Frag} {h : Heap} {mg : Str → Option Value}
theorem hasL (X : K.In h) (G : h.Ns mainGlobals mg) {f : He.Fa} {x : Str} {i : Nat} (hf : ∃ fd, FunD K (dd x i).name (dd x i).qual (dd x i).params (dd x i).body (dd x i).scope ((dd x i).dvs K) ((dd x i).kws K) (He.fAd K (dd x i).at_) fd) (hg : mg x = some (.ref (He.ga K x))) : Has K mg x (topS i) := by
  obtain ⟨fd, F⟩ := hf
  exact ⟨_, fd, F, hg⟩
theorem txL (X : K.In h) (G : h.Ns mainGlobals mg) (c : He.SaysD faL fnL K) (m : exK K = true) : Tx K mg where
  z_all := He.free_ok X G (c.fact 12 (f := .free "all") rfl)
  z_bool := He.free_ok X G (c.fact 13 (f := .free "bool") rfl)
  z_int := He.free_ok X G (c.fact 14 (f := .free "int") rfl)
  z_isinstance := He.free_ok X G (c.fact 15 (f := .free "isinstance") rfl)
  z_len := He.free_ok X G (c.fact 16 (f := .free "len") rfl)
  z_list := He.free_ok X G (c.fact 17 (f := .free "list") rfl)
  z_range := He.free_ok X G (c.fact 18 (f := .free "range") rfl)
  z_str := He.free_ok X G (c.fact 19 (f := .free "str") rfl)
  z_tuple := He.free_ok X G (c.fact 20 (f := .free "tuple") rfl)
  c_LETTERS := He.str_ok X G (c.fact 21 (f := .str "LETTERS" "abcdefghijklmnopqrstuvwxyz") rfl)
  f_is_number := hasL (f := .glo "is_number") X G (c.def_ 0 (d := dd "is_number" 2) rfl) (He.glo_ok X G (c.fact 0 (f := .glo "is_number") rfl))
  f_is_key := hasL (f := .glo "is_key") X G (c.def_ 1 (d := dd "is_key" 3) rfl) (He.glo_ok X G (c.fact 1 (f := .glo "is_key") rfl))
  f_is_deed := hasL (f := .glo "is_deed") X G (c.def_ 2 (d := dd "is_deed" 4) rfl) (He.glo_ok X G (c.fact 2 (f := .glo "is_deed") rfl))
  f__law_cell_at := hasL (f := .glo "_law_cell_at") X G (c.def_ 3 (d := dd "_law_cell_at" 6) rfl) (He.glo_ok X G (c.fact 3 (f := .glo "_law_cell_at") rfl))
  f__law_mixed := hasL (f := .glo "_law_mixed") X G (c.def_ 4 (d := dd "_law_mixed" 7) rfl) (He.glo_ok X G (c.fact 4 (f := .glo "_law_mixed") rfl))
  f__law_whole := hasL (f := .glo "_law_whole") X G (c.def_ 5 (d := dd "_law_whole" 8) rfl) (He.glo_ok X G (c.fact 5 (f := .glo "_law_whole") rfl))
  f__law_text := hasL (f := .glo "_law_text") X G (c.def_ 6 (d := dd "_law_text" 9) rfl) (He.glo_ok X G (c.fact 6 (f := .glo "_law_text") rfl))
  f__law_put := hasL (f := .glo "_law_put") X G (c.def_ 7 (d := dd "_law_put" 10) rfl) (He.glo_ok X G (c.fact 7 (f := .glo "_law_put") rfl))
  f__law_key_due := hasL (f := .glo "_law_key_due") X G (c.def_ 8 (d := dd "_law_key_due" 11) rfl) (He.glo_ok X G (c.fact 8 (f := .glo "_law_key_due") rfl))
  f__law_deed_due := hasL (f := .glo "_law_deed_due") X G (c.def_ 9 (d := dd "_law_deed_due" 12) rfl) (He.glo_ok X G (c.fact 9 (f := .glo "_law_deed_due") rfl))
  f__law_truth := hasL (f := .glo "_law_truth") X G (c.def_ 10 (d := dd "_law_truth" 13) rfl) (He.glo_ok X G (c.fact 10 (f := .glo "_law_truth") rfl))
theorem lawL (X : K.In h) (G : h.Ns mainGlobals mg) (c : He.SaysD faL fnL K) : Has K mg "law" s_law := hasL (f := .glo "law") X G (c.def_ 11 (d := dd "law" 14) rfl) (He.glo_ok X G (c.fact 11 (f := .glo "law") rfl))
theorem rdL (m : exK K = true) {H : Hp} {a : Addr} {xs : List V} (s : SqL K H a xs) : Rd H a (.lst xs) := by
  rcases s with s | ⟨o, its, n, hk, hc, _⟩
  · exact s
  · exfalso
    have h0 : (K.all fun q => !(q.2.cls == .type "list")) = true := by
      first | exact m | exact (Bool.and_eq_true_iff.mp m).1 | (unfold exK at m; simp only [Bool.and_eq_true] at m; simp only [m])
    have h1 := List.all_eq_true.mp h0 _ (He.lookup_mem hk)
    rw [hc] at h1
    revert h1
    decide
end
end Ck
open PySem PySem.W PySem.Calls PyProof.Rows
set_option maxRecDepth 100000 in
set_option maxHeartbeats 8000000 in
theorem PySem.Challenge.cw_chainkeep_k01_deeds_known_holds : PySem.Challenge.rw_chainkeep_k01_deeds_known.Holds := by
  w_on; o_law
  refine HandSHeadRun.head_any (r := OpenLaw.row PySem.Challenge.rw_chainkeep_k01_deeds_known) (q := view (OpenLaw.row PySem.Challenge.rw_chainkeep_k01_deeds_known).prog [14]) (H := Ck.hkL) (ob := Ck.obL) (M := 6000) (loose := Ck.nmL) (d := HandSHeadRun.topDef (OpenLaw.row PySem.Challenge.rw_chainkeep_k01_deeds_known).prog 14) (kwd := []) Ck.obL_eq
    (by kernel_rfl) (fun s => by kernel_rfl) Ck.runL (by kernel_rfl) (by kernel_rfl) (by kernel_rfl) (by rfl) (by first | assumption | decide +kernel) (by decide +kernel) ⟨rfl, rfl, rfl, rfl, rfl, by decide +kernel⟩ ?hw ?hc
  case hw => w_witness2
  case hc =>
    refine L2.walk_ofE (l := PySem.Challenge.rw_chainkeep_k01_deeds_known) (n := 63) (k := 3) (x := "_law_script") (CX := L2.CX0) rfl (by decide) (by kernel_rfl) ⟨rfl, by decide, by decide⟩ ?F (fun _ _ _ _ z => z)
    intro w mg fa h Y G hmg0
    obtain ⟨K, KX, c⟩ := Y
    have hmg : mg ("law" : PySem.Str) = some (.ref fa) := by
      have e : (HandSHeadRun.topDef (OpenLaw.row PySem.Challenge.rw_chainkeep_k01_deeds_known).prog 14).name = ("law" : PySem.Str) := by kernel_rfl
      rw [← e]
      exact hmg0
    have T := Ck.txL KX G c.t.d c.more
    obtain ⟨f, fd, F, g⟩ := Ck.lawL KX G c.t.d
    have e := hmg.symm.trans g
    cases e
    refine ⟨K, fd, Ck.spP 1 Ck.R_law, KX, fun s v => L2.FunD.bindsA F Ck.b_law s [v] rfl, fun H a ns hl _ hS => ?_, fun base _ _ => ?_⟩
    · exact ⟨[Ck.scr ns], .bool true, H, Ck.Ex.rfl' H, .cons (.lst (Ck.rdL c.more hS) (Ck.Rps.ofInts ns)) .nil, rfl, ⟨ns, rfl, hl, rfl⟩, fun v G' H' _ r => by cases r; rfl⟩
    · obtain ⟨f2, fd2, g2, _, _, F2, _, _, _, lk2⟩ := (Ck.ok_law T ⟨_, fd, F, g⟩ : Ck.Def (PySem.Challenge.rw_chainkeep_k01_deeds_known).prog w K mg base L2.CX0 3 "law" ["_law_script"] (Ck.spP 1 Ck.R_law))
      have e2 := g.symm.trans g2
      cases e2
      obtain ⟨_, _, _, _, _, _, _, _, _, _, _, lk, _⟩ := F.ex
      have e3 := lk.symm.trans lk2
      cases e3
      exact F2
