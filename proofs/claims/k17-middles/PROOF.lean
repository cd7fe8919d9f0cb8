import PyProof.Rows.All
import Wide.All
import OpenK.AllK
import Wide.FinOn
import HandS.ForMost
import HandS.ForExc
import HandS.Wide
import HandS.TupAny
import HandS.Deep
import HandS.TupLe
import HandS.Style
import HandS.IsInst
import HandS.SortInts
import HandS.Conv
import HandS.Rev
import HandS.TryOnly
import HandS.Zip
import HandS.Comp
import HandS.SetFor
import HandS.Strs
import KE.KIsAll
import PySem.Challenge.RW_endsastold_k17_middles_of_two_pairs
set_option Elab.async false
set_option linter.all false
set_option autoImplicit false
set_option maxRecDepth 100000
set_option maxHeartbeats 4000000
/-! DL: a layer of data over the hand layer: values as trees, defs as functions of trees. -/
namespace DL
open PySem PySem.Spec PyProof.Rows L2

/-- data: what a value is, without addresses -/
inductive D where
  | non | bl (b : Bool) | int (i : Int) | str (x : Str)
  | tup (xs : List D) | lst (xs : List D) | scr (ns : List Int)
  | obj (C : Str) (ks : List Str) (ds : List D)

inductive Er where
  | stuck | exc (C : Str) (ks : List Str) (ds : List D)
abbrev M := Except Er
@[simp] theorem ok_bind {α β : Type} (a : α) (f : α → M β) : ((Except.ok a : M α) >>= f) = f a := rfl
@[simp] theorem er_bind {α β : Type} (e : Er) (f : α → M β) : ((Except.error e : M α) >>= f) = Except.error e := rfl
@[simp] theorem pure_ok {α : Type} (a : α) : (pure a : M α) = Except.ok a := rfl
abbrev stk {α : Type} : M α := .error .stuck

abbrev Frag := PySem.W.Frag
abbrev St := L2.St
abbrev Mg := Str → Option Value

mutual
def R (K : Frag) (mg : Mg) (F : Hp) : D → V → Prop
  | .non, v => v = .non
  | .bl b, v => v = .bl b
  | .int i, v => v = .int i
  | .str x, v => v = .str x
  | .tup ds, v => ∃ a vs, v = .ref a ∧ SqT K F a vs ∧ Rs K mg F ds vs
  | .lst ds, v => ∃ a vs, v = .ref a ∧ F a = some (.lst vs) ∧ Rs K mg F ds vs
  | .scr ns, v => ∃ a, v = .ref a ∧ SqL K F a (ns.map V.int)
  | .obj C ks ds, v => ∃ a c dx vs, v = .ref a ∧ mg C = some (.ref c) ∧ F a = some (.ins c dx (ks.zip vs)) ∧ ks.length = vs.length ∧ Rs K mg F ds vs
def Rs (K : Frag) (mg : Mg) (F : Hp) : List D → List V → Prop
  | [], vs => vs = []
  | d :: ds, vs => ∃ v r, vs = v :: r ∧ R K mg F d v ∧ Rs K mg F ds r
end

section
variable {K : Frag} {mg : Mg} {F F' : Hp}
theorem Same.sqT {H H' : Hp} {a : Addr} {xs : List V} (e : Same H H') (h : SqT K H a xs) : SqT K H' a xs := by
  rcases h with (h | ⟨o, h⟩) | h
  · exact .inl (.inl (e _ _ h))
  · exact .inl (.inr ⟨o, e _ _ h⟩)
  · exact .inr h
mutual
theorem R.mono (e : Same F F') : ∀ (d : D) (v : V), R K mg F d v → R K mg F' d v
  | .non, v, h => by unfold R at *; exact h
  | .bl b, v, h => by unfold R at *; exact h
  | .int i, v, h => by unfold R at *; exact h
  | .str x, v, h => by unfold R at *; exact h
  | .tup ds, v, h => by
    unfold R at *
    obtain ⟨a, vs, h1, h2, h3⟩ := h
    exact ⟨a, vs, h1, Same.sqT e h2, Rs.mono e ds vs h3⟩
  | .lst ds, v, h => by
    unfold R at *
    obtain ⟨a, vs, h1, h2, h3⟩ := h
    exact ⟨a, vs, h1, e _ _ h2, Rs.mono e ds vs h3⟩
  | .scr ns, v, h => by
    unfold R at *
    obtain ⟨a, h1, h2⟩ := h
    exact ⟨a, h1, e.seq h2⟩
  | .obj C ks ds, v, h => by
    unfold R at *
    obtain ⟨a, c, dx, vs, h1, h2, h3, h4, h5⟩ := h
    exact ⟨a, c, dx, vs, h1, h2, e _ _ h3, h4, Rs.mono e ds vs h5⟩
theorem Rs.mono (e : Same F F') : ∀ (ds : List D) (vs : List V), Rs K mg F ds vs → Rs K mg F' ds vs
  | [], vs, h => by unfold Rs at *; exact h
  | d :: ds, vs, h => by
    unfold Rs at *
    obtain ⟨v, r, h1, h2, h3⟩ := h
    exact ⟨v, r, h1, R.mono e d v h2, Rs.mono e ds r h3⟩
end
theorem Rs.nil : Rs K mg F [] [] := by unfold Rs; rfl
theorem Rs.cons {d : D} {v : V} {ds : List D} {vs : List V} (h : R K mg F d v) (t : Rs K mg F ds vs) : Rs K mg F (d :: ds) (v :: vs) := by
  unfold Rs; exact ⟨v, vs, rfl, h, t⟩
theorem Rs.nil_inv {vs : List V} (h : Rs K mg F [] vs) : vs = [] := by unfold Rs at h; exact h
theorem Rs.cons_inv {d : D} {ds : List D} {vs : List V} (h : Rs K mg F (d :: ds) vs) : ∃ v r, vs = v :: r ∧ R K mg F d v ∧ Rs K mg F ds r := by unfold Rs at h; exact h
theorem Rs.length : ∀ {ds : List D} {vs : List V}, Rs K mg F ds vs → ds.length = vs.length
  | [], vs, h => by rw [h.nil_inv]; rfl
  | d :: ds, vs, h => by
    obtain ⟨v, r, e, _, t⟩ := h.cons_inv
    rw [e, List.length_cons, List.length_cons, Rs.length t]
theorem Rs.get : ∀ {ds : List D} {vs : List V} {i : Nat} {d : D}, Rs K mg F ds vs → ds[i]? = some d → ∃ v, vs[i]? = some v ∧ R K mg F d v
  | [], _, _, _, _, e => by simp at e
  | d :: ds, vs, 0, d', h, e => by
    obtain ⟨v, r, rfl, hv, t⟩ := h.cons_inv
    cases e
    exact ⟨v, rfl, hv⟩
  | d :: ds, vs, i + 1, d', h, e => by
    obtain ⟨v, r, rfl, hv, t⟩ := h.cons_inv
    exact Rs.get (i := i) t e
theorem Rs.getv : ∀ {ds : List D} {vs : List V} {i : Nat} {v : V}, Rs K mg F ds vs → vs[i]? = some v → ∃ d, ds[i]? = some d ∧ R K mg F d v
  | [], vs, i, v, h, e => by rw [h.nil_inv] at e; simp at e
  | d :: ds, vs, 0, v', h, e => by
    obtain ⟨v, r, rfl, hv, t⟩ := h.cons_inv
    cases e
    exact ⟨d, rfl, hv⟩
  | d :: ds, vs, i + 1, v', h, e => by
    obtain ⟨v, r, rfl, hv, t⟩ := h.cons_inv
    exact Rs.getv (i := i) t e
theorem Rs.append : ∀ {ds es : List D} {vs us : List V}, Rs K mg F ds vs → Rs K mg F es us → Rs K mg F (ds ++ es) (vs ++ us)
  | [], es, vs, us, h, g => by rw [h.nil_inv]; exact g
  | d :: ds, es, vs, us, h, g => by
    obtain ⟨v, r, rfl, hv, t⟩ := h.cons_inv
    exact Rs.cons hv (Rs.append t g)
theorem Rs.take : ∀ {ds : List D} {vs : List V} (n : Nat), Rs K mg F ds vs → Rs K mg F (ds.take n) (vs.take n)
  | _, _, 0, _ => by rw [List.take_zero, List.take_zero]; exact .nil
  | [], vs, n + 1, h => by rw [h.nil_inv]; exact .nil
  | d :: ds, vs, n + 1, h => by
    obtain ⟨v, r, rfl, hv, t⟩ := h.cons_inv
    exact Rs.cons hv (Rs.take n t)
theorem Rs.drop : ∀ {ds : List D} {vs : List V} (n : Nat), Rs K mg F ds vs → Rs K mg F (ds.drop n) (vs.drop n)
  | _, _, 0, h => h
  | [], vs, n + 1, h => by rw [h.nil_inv]; exact .nil
  | d :: ds, vs, n + 1, h => by
    obtain ⟨v, r, rfl, hv, t⟩ := h.cons_inv
    exact Rs.drop n t
theorem Rs.set : ∀ {ds : List D} {vs : List V} (i : Nat) {d : D} {v : V}, Rs K mg F ds vs → R K mg F d v → Rs K mg F (ds.set i d) (vs.set i v)
  | [], vs, i, d, v, h, _ => by rw [h.nil_inv]; exact .nil
  | _ :: ds, vs, 0, d, v, h, g => by
    obtain ⟨w, r, rfl, hv, t⟩ := h.cons_inv
    exact Rs.cons g t
  | _ :: ds, vs, i + 1, d, v, h, g => by
    obtain ⟨w, r, rfl, hv, t⟩ := h.cons_inv
    exact Rs.cons hv (Rs.set i t g)
theorem Rs.reverse {ds : List D} {vs : List V} (h : Rs K mg F ds vs) : Rs K mg F ds.reverse vs.reverse := by
  induction ds generalizing vs with
  | nil => rw [h.nil_inv]; exact .nil
  | cons d ds ih =>
    obtain ⟨v, r, rfl, hv, t⟩ := h.cons_inv
    rw [List.reverse_cons, List.reverse_cons]
    exact (ih t).append (.cons hv .nil)
theorem Rs.eraseIdx : ∀ {ds : List D} {vs : List V} (i : Nat), Rs K mg F ds vs → Rs K mg F (ds.eraseIdx i) (vs.eraseIdx i)
  | [], vs, i, h => by rw [h.nil_inv]; exact .nil
  | _ :: ds, vs, 0, h => by
    obtain ⟨w, r, rfl, hv, t⟩ := h.cons_inv
    exact t
  | _ :: ds, vs, i + 1, h => by
    obtain ⟨w, r, rfl, hv, t⟩ := h.cons_inv
    exact Rs.cons hv (Rs.eraseIdx i t)
theorem R.int {i : Int} : R K mg F (.int i) (.int i) := by unfold R; rfl
theorem R.bl {i : Bool} : R K mg F (.bl i) (.bl i) := by unfold R; rfl
theorem R.str {i : Str} : R K mg F (.str i) (.str i) := by unfold R; rfl
theorem R.non : R K mg F .non .non := by unfold R; rfl
theorem R.int_inv {i : Int} {v : V} (h : R K mg F (.int i) v) : v = .int i := by unfold R at h; exact h
theorem R.bl_inv {i : Bool} {v : V} (h : R K mg F (.bl i) v) : v = .bl i := by unfold R at h; exact h
theorem R.str_inv {i : Str} {v : V} (h : R K mg F (.str i) v) : v = .str i := by unfold R at h; exact h
theorem R.non_inv {v : V} (h : R K mg F .non v) : v = .non := by unfold R at h; exact h
theorem R.tup_inv {ds : List D} {v : V} (h : R K mg F (.tup ds) v) : ∃ a vs, v = .ref a ∧ SqT K F a vs ∧ Rs K mg F ds vs := by unfold R at h; exact h
theorem R.lst_inv {ds : List D} {v : V} (h : R K mg F (.lst ds) v) : ∃ a vs, v = .ref a ∧ F a = some (.lst vs) ∧ Rs K mg F ds vs := by unfold R at h; exact h
theorem R.scr_inv {ds : List Int} {v : V} (h : R K mg F (.scr ds) v) : ∃ a, v = .ref a ∧ SqL K F a (ds.map V.int) := by unfold R at h; exact h
theorem R.obj_inv {C : Str} {ks : List Str} {ds : List D} {v : V} (h : R K mg F (.obj C ks ds) v) : ∃ a c dx vs, v = .ref a ∧ mg C = some (.ref c) ∧ F a = some (.ins c dx (ks.zip vs)) ∧ ks.length = vs.length ∧ Rs K mg F ds vs := by unfold R at h; exact h
theorem R.tup {ds : List D} {a : Addr} {vs : List V} (h : SqT K F a vs) (r : Rs K mg F ds vs) : R K mg F (.tup ds) (.ref a) := by unfold R; exact ⟨a, vs, rfl, h, r⟩
theorem R.lst {ds : List D} {a : Addr} {vs : List V} (h : F a = some (.lst vs)) (r : Rs K mg F ds vs) : R K mg F (.lst ds) (.ref a) := by unfold R; exact ⟨a, vs, rfl, h, r⟩
theorem R.scr {ns : List Int} {a : Addr} (h : SqL K F a (ns.map V.int)) : R K mg F (.scr ns) (.ref a) := by unfold R; exact ⟨a, rfl, h⟩
theorem Rs.ints : ∀ {ns : List Int}, Rs K mg F (ns.map D.int) (ns.map V.int)
  | [] => .nil
  | n :: ns => .cons .int Rs.ints
theorem Rs.ints_inv : ∀ {ns : List Int} {vs : List V}, Rs K mg F (ns.map D.int) vs → vs = ns.map V.int
  | [], vs, h => h.nil_inv
  | n :: ns, vs, h => by
    obtain ⟨v, r, rfl, hv, t⟩ := h.cons_inv
    rw [hv.int_inv, Rs.ints_inv t]; rfl
end

/-- the length of what is tracked -/
def Lim (H : Hp) : Prop := ∀ a xs, (Rd H a (.lst xs) ∨ Rd H a (.tup xs)) → xs.length ≤ sizeLine
theorem Lim.of {P : Program} {w : World} {H : Hp} {h : Heap} (x : HOk P w H h) : Lim H := fun a xs e => by
  rcases e with e | e
  · exact (e.ok x).1
  · exact (e.ok x).1
theorem Lim.sqL {K : Frag} {H : Hp} (l : Lim H) {a : Addr} {xs : List V} (h : SqL K H a xs) : xs.length ≤ sizeLine := by
  rcases h with h | ⟨o, its, n, _, _, _, _, hz, r⟩
  · exact l a xs (.inl h)
  · rw [r.length]; simpa using hz
theorem Lim.sqT {K : Frag} {H : Hp} (l : Lim H) {a : Addr} {xs : List V} (h : SqT K H a xs) : xs.length ≤ sizeLine := by
  rcases h with h | ⟨o, its, n, _, _, _, hz, r⟩
  · exact l a xs (.inr h)
  · rw [r.length]; simpa using hz
/-- one more object, a short one -/
theorem Lim.put {H : Hp} (l : Lim H) {p : Addr} {o : HO} (ho : ∀ xs, o = .lst xs ∨ o = .tup xs → xs.length ≤ sizeLine) (nf : ∀ ob u, o ≠ .frz ob u) : Lim (upd H p o) := fun a xs e => by
  by_cases h : a = p
  · subst h
    rcases e with (e | ⟨ob, e⟩) | (e | ⟨ob, e⟩)
    · rw [upd_same] at e; exact ho xs (.inl (Option.some.inj e))
    · rw [upd_same] at e; exact absurd (Option.some.inj e) (nf _ _)
    · rw [upd_same] at e; exact ho xs (.inr (Option.some.inj e))
    · rw [upd_same] at e; exact absurd (Option.some.inj e) (nf _ _)
  · unfold Rd at e
    rw [upd_ne h] at e
    exact l a xs e

/-- the frozen part F of the heap H grows to F' within H' -/
structure Grow (F H F' H' : Hp) : Prop where
  f : Same F F'
  h : Same H H'
  s : Same F' H'
  n : ∀ a, H a ≠ none → F a = none → F' a = none
theorem Grow.refl {F H : Hp} (s : Same F H) : Grow F H F H := ⟨.refl _, .refl _, s, fun _ _ h => h⟩
theorem Grow.trans {F H F1 H1 F2 H2 : Hp} (a : Grow F H F1 H1) (b : Grow F1 H1 F2 H2) : Grow F H F2 H2 :=
  ⟨a.f.trans b.f, a.h.trans b.h, b.s, fun c h1 h2 => b.n c (fun z => by
    cases q : H c with
    | none => exact h1 q
    | some o => rw [a.h c o q] at z; cases z) (a.n c h1 h2)⟩
theorem Grow.new {F H : Hp} (s : Same F H) {p : Addr} {o : HO} (np : H p = none) : Grow F H (upd F p o) (upd H p o) := by
  have fp : F p = none := by
    cases q : F p with
    | none => rfl
    | some u => rw [s p u q] at np; cases np
  refine ⟨fun b u e => ?_, fun b u e => ?_, fun b u e => ?_, fun a h1 h2 => ?_⟩
  · rw [upd_ne (ne_of_none e fp)]; exact e
  · rw [upd_ne (ne_of_none e np)]; exact e
  · by_cases hb : b = p
    · subst hb; rw [upd_same] at e ⊢; exact e
    · rw [upd_ne hb] at e ⊢; exact s _ _ e
  · by_cases hb : a = p
    · subst hb; exact absurd np h1
    · rw [upd_ne hb]; exact h2

/-- a list of one's own within a tree of lists: written as data that no frozen value is -/
abbrev mtl (ds : List D) : D := .obj "" [] (.non :: ds)
/-- what a name holds: data; a list of one's own; an instance being made; a tree of lists of one's own -/
inductive Cell where
  | val (d : D) | own (ds : List D) | ins (C : Str) (ks : List Str) (ds : List D) | tre (ds : List D)
abbrev DEnv := List (Option Cell)
def Cell.mine : Cell → Bool
  | .val _ => false
  | _ => true
mutual
/-- a list of one's own stands within -/
def hasM : D → Bool
  | .tup ds => hasMs ds
  | .obj C ks _ => decide (C = "") && ks.isEmpty
  | .non => false
  | .bl _ => false
  | .int _ => false
  | .str _ => false
  | .lst _ => false
  | .scr _ => false
def hasMs : List D → Bool
  | [] => false
  | d :: ds => hasM d || hasMs ds
end
mutual
/-- data among which lists may be one's own (at the addresses told) -/
def RT (K : Frag) (mg : Mg) (F H : Hp) : D → V → List Addr → Prop
  | .tup ds, v, as => (R K mg F (.tup ds) v ∧ as = []) ∨ (hasMs ds = true ∧ ∃ a vs, v = .ref a ∧ H a = some (.tup vs) ∧ RTs K mg F H ds vs as)
  | .obj C ks ds, v, as => (R K mg F (.obj C ks ds) v ∧ as = []) ∨ (C = "" ∧ ks = [] ∧ ∃ a vs bs, v = .ref a ∧ H a = some (.lst vs) ∧ RTm K mg F H ds vs bs ∧ as = a :: bs)
  | .non, v, as => R K mg F .non v ∧ as = []
  | .bl b, v, as => R K mg F (.bl b) v ∧ as = []
  | .int b, v, as => R K mg F (.int b) v ∧ as = []
  | .str b, v, as => R K mg F (.str b) v ∧ as = []
  | .lst b, v, as => R K mg F (.lst b) v ∧ as = []
  | .scr b, v, as => R K mg F (.scr b) v ∧ as = []
def RTs (K : Frag) (mg : Mg) (F H : Hp) : List D → List V → List Addr → Prop
  | [], vs, as => vs = [] ∧ as = []
  | d :: ds, vs, as => ∃ v r a1 a2, vs = v :: r ∧ RT K mg F H d v a1 ∧ RTs K mg F H ds r a2 ∧ as = a1 ++ a2
/-- behind the mark -/
def RTm (K : Frag) (mg : Mg) (F H : Hp) : List D → List V → List Addr → Prop
  | [], _, _ => False
  | _ :: ds, vs, as => RTs K mg F H ds vs as
end
section
variable {K : Frag} {mg : Mg} {F H F' H' : Hp}
mutual
theorem RT.mono (f : Same F F') : ∀ (d : D) (v : V) (as : List Addr), (∀ a o, H a = some o → (a ∈ as ∨ ∃ xs, o = .tup xs) → H' a = some o) → RT K mg F H d v as → RT K mg F' H' d v as
  | .tup ds, v, as, h, r => by
    unfold RT at *
    rcases r with ⟨r, e⟩ | ⟨hm, a, vs, e, h1, r⟩
    · exact .inl ⟨R.mono f _ _ r, e⟩
    · exact .inr ⟨hm, a, vs, e, h _ _ h1 (.inr ⟨_, rfl⟩), RTs.mono f ds vs as h r⟩
  | .obj C ks ds, v, as, h, r => by
    unfold RT at *
    rcases r with ⟨r, e⟩ | ⟨e1, e2, a, vs, bs, e, h1, r, e3⟩
    · exact .inl ⟨R.mono f _ _ r, e⟩
    · subst e3
      exact .inr ⟨e1, e2, a, vs, bs, e, h _ _ h1 (.inl List.mem_cons_self), RTm.mono f ds vs bs (fun b o hb hc => h b o hb (hc.imp (List.mem_cons_of_mem _) id)) r, rfl⟩
  | .non, v, as, h, r => by unfold RT at *; exact ⟨R.mono f _ _ r.1, r.2⟩
  | .bl _, v, as, h, r => by unfold RT at *; exact ⟨R.mono f _ _ r.1, r.2⟩
  | .int _, v, as, h, r => by unfold RT at *; exact ⟨R.mono f _ _ r.1, r.2⟩
  | .str _, v, as, h, r => by unfold RT at *; exact ⟨R.mono f _ _ r.1, r.2⟩
  | .lst _, v, as, h, r => by unfold RT at *; exact ⟨R.mono f _ _ r.1, r.2⟩
  | .scr _, v, as, h, r => by unfold RT at *; exact ⟨R.mono f _ _ r.1, r.2⟩
theorem RTs.mono (f : Same F F') : ∀ (ds : List D) (vs : List V) (as : List Addr), (∀ a o, H a = some o → (a ∈ as ∨ ∃ xs, o = .tup xs) → H' a = some o) → RTs K mg F H ds vs as → RTs K mg F' H' ds vs as
  | [], vs, as, h, r => by unfold RTs at *; exact r
  | d :: ds, vs, as, h, r => by
    unfold RTs at *
    obtain ⟨v, t, a1, a2, e1, r1, r2, e2⟩ := r
    subst e2
    exact ⟨v, t, a1, a2, e1, RT.mono f d v a1 (fun b o hb hc => h b o hb (hc.imp (List.mem_append_left _) id)) r1, RTs.mono f ds t a2 (fun b o hb hc => h b o hb (hc.imp (List.mem_append_right _) id)) r2, rfl⟩
theorem RTm.mono (f : Same F F') : ∀ (ds : List D) (vs : List V) (as : List Addr), (∀ a o, H a = some o → (a ∈ as ∨ ∃ xs, o = .tup xs) → H' a = some o) → RTm K mg F H ds vs as → RTm K mg F' H' ds vs as
  | [], vs, as, h, r => by unfold RTm at *; exact r
  | d :: ds, vs, as, h, r => by
    unfold RTm at *
    exact RTs.mono f ds vs as h r
end
mutual
theorem RT.live : ∀ (d : D) (v : V) (as : List Addr), RT K mg F H d v as → ∀ a ∈ as, ∃ xs, H a = some (.lst xs)
  | .tup ds, v, as, r => by
    unfold RT at r
    rcases r with ⟨_, e⟩ | ⟨_, a, vs, e, h1, r⟩
    · subst e; intro a h; cases h
    · exact RTs.live ds vs as r
  | .obj C ks ds, v, as, r => by
    unfold RT at r
    rcases r with ⟨_, e⟩ | ⟨e1, e2, a, vs, bs, e, h1, r, e3⟩
    · subst e; intro a h; cases h
    · subst e3
      intro b hb
      rcases List.mem_cons.mp hb with rfl | hb
      · exact ⟨_, h1⟩
      · exact RTm.live ds vs bs r b hb
  | .non, v, as, r => by unfold RT at r; rw [r.2]; intro a h; cases h
  | .bl _, v, as, r => by unfold RT at r; rw [r.2]; intro a h; cases h
  | .int _, v, as, r => by unfold RT at r; rw [r.2]; intro a h; cases h
  | .str _, v, as, r => by unfold RT at r; rw [r.2]; intro a h; cases h
  | .lst _, v, as, r => by unfold RT at r; rw [r.2]; intro a h; cases h
  | .scr _, v, as, r => by unfold RT at r; rw [r.2]; intro a h; cases h
theorem RTs.live : ∀ (ds : List D) (vs : List V) (as : List Addr), RTs K mg F H ds vs as → ∀ a ∈ as, ∃ xs, H a = some (.lst xs)
  | [], vs, as, r => by unfold RTs at r; rw [r.2]; intro a h; cases h
  | d :: ds, vs, as, r => by
    unfold RTs at r
    obtain ⟨v, t, a1, a2, e1, r1, r2, e2⟩ := r
    subst e2
    intro a h
    rcases List.mem_append.mp h with h | h
    · exact RT.live d v a1 r1 a h
    · exact RTs.live ds t a2 r2 a h
theorem RTm.live : ∀ (ds : List D) (vs : List V) (as : List Addr), RTm K mg F H ds vs as → ∀ a ∈ as, ∃ xs, H a = some (.lst xs)
  | [], vs, as, r => by unfold RTm at r; exact r.elim
  | d :: ds, vs, as, r => by unfold RTm at r; exact RTs.live ds vs as r
end
theorem RT.of : ∀ {d : D} {v : V}, R K mg F d v → RT K mg F H d v []
  | .tup ds, v, r => by unfold RT; exact .inl ⟨r, rfl⟩
  | .obj C ks ds, v, r => by unfold RT; exact .inl ⟨r, rfl⟩
  | .non, v, r => by unfold RT; exact ⟨r, rfl⟩
  | .bl _, v, r => by unfold RT; exact ⟨r, rfl⟩
  | .int _, v, r => by unfold RT; exact ⟨r, rfl⟩
  | .str _, v, r => by unfold RT; exact ⟨r, rfl⟩
  | .lst _, v, r => by unfold RT; exact ⟨r, rfl⟩
  | .scr _, v, r => by unfold RT; exact ⟨r, rfl⟩
theorem RTs.of : ∀ {ds : List D} {vs : List V}, Rs K mg F ds vs → RTs K mg F H ds vs []
  | [], vs, r => by unfold RTs; exact ⟨r.nil_inv, rfl⟩
  | d :: ds, vs, r => by
    obtain ⟨v, t, rfl, h1, h2⟩ := r.cons_inv
    unfold RTs
    exact ⟨v, t, [], [], rfl, RT.of h1, RTs.of h2, rfl⟩
end
section
variable {K : Frag} {mg : Mg} {F H : Hp}
theorem RT.free : ∀ {d : D} {v : V} {as : List Addr}, hasM d = false → RT K mg F H d v as → R K mg F d v ∧ as = []
  | .tup ds, v, as, h, r => by
    unfold RT at r
    rcases r with r | ⟨hm, _⟩
    · exact r
    · have h : hasMs ds = false := by unfold hasM at h; exact h
      rw [h] at hm; cases hm
  | .obj C ks ds, v, as, h, r => by
    unfold RT at r
    rcases r with r | ⟨e1, e2, _⟩
    · exact r
    · subst e1; subst e2
      unfold hasM at h
      simp at h
  | .non, v, as, _, r => by unfold RT at r; exact r
  | .bl _, v, as, _, r => by unfold RT at r; exact r
  | .int _, v, as, _, r => by unfold RT at r; exact r
  | .str _, v, as, _, r => by unfold RT at r; exact r
  | .lst _, v, as, _, r => by unfold RT at r; exact r
  | .scr _, v, as, _, r => by unfold RT at r; exact r
theorem RTs.free : ∀ {ds : List D} {vs : List V} {as : List Addr}, hasMs ds = false → RTs K mg F H ds vs as → Rs K mg F ds vs ∧ as = []
  | [], vs, as, _, r => by unfold RTs at r; rw [r.1]; exact ⟨.nil, r.2⟩
  | d :: ds, vs, as, h, r => by
    unfold RTs at r
    obtain ⟨v, t, a1, a2, rfl, r1, r2, rfl⟩ := r
    have h' : (hasM d || hasMs ds) = false := by unfold hasMs at h; exact h
    rw [Bool.or_eq_false_iff] at h'
    obtain ⟨q1, rfl⟩ := RT.free h'.1 r1
    obtain ⟨q2, rfl⟩ := RTs.free h'.2 r2
    exact ⟨.cons q1 q2, rfl⟩
/-- what is written as an own list is none that is frozen -/
theorem R.mtl {ds : List D} {v : V} (h : R K mg F (mtl ds) v) : False := by
  obtain ⟨a, c, dx, vs, _, _, _, hl, r⟩ := h.obj_inv
  have := r.length
  rw [← hl] at this
  simp at this
theorem RT.mtl_inv {ds : List D} {v : V} {as : List Addr} (h : RT K mg F H (mtl ds) v as) : ∃ a vs bs, v = .ref a ∧ H a = some (.lst vs) ∧ RTs K mg F H ds vs bs ∧ as = a :: bs := by
  unfold RT at h
  rcases h with ⟨h, _⟩ | ⟨_, _, a, vs, bs, e, h1, r, e2⟩
  · exact h.mtl.elim
  · unfold RTm at r
    exact ⟨a, vs, bs, e, h1, r, e2⟩
theorem RT.mtl {ds : List D} {a : Addr} {vs : List V} {bs : List Addr} (h : H a = some (.lst vs)) (r : RTs K mg F H ds vs bs) : RT K mg F H (mtl ds) (.ref a) (a :: bs) := by
  unfold RT
  exact .inr ⟨rfl, rfl, a, vs, bs, rfl, h, by unfold RTm; exact r, rfl⟩
end
/-- what a name holds, and the addresses that are its own -/
def CellF (K : Frag) (mg : Mg) (F H : Hp) (v : V) : Cell → List Addr → Prop
  | .val d, as => R K mg F d v ∧ as = []
  | .own ds, as => ∃ a vs, v = .ref a ∧ H a = some (.lst vs) ∧ Rs K mg F ds vs ∧ as = [a]
  | .ins C ks ds, as => ∃ a c dx vs, v = .ref a ∧ mg C = some (.ref c) ∧ H a = some (.ins c dx (ks.zip vs)) ∧ ks.length = vs.length ∧ Rs K mg F ds vs ∧ as = [a]
  | .tre ds, as => ∃ a vs bs, v = .ref a ∧ H a = some (.lst vs) ∧ RTs K mg F H ds vs bs ∧ as = a :: bs
def CellOk (K : Frag) (mg : Mg) (H0 F H : Hp) (v : V) : Cell → Prop
  | .val d => R K mg F d v
  | .own ds => ∃ a vs, v = .ref a ∧ H a = some (.lst vs) ∧ F a = none ∧ H0 a = none ∧ Rs K mg F ds vs
  | .ins C ks ds => ∃ a c dx vs, v = .ref a ∧ mg C = some (.ref c) ∧ H a = some (.ins c dx (ks.zip vs)) ∧ F a = none ∧ H0 a = none ∧ ks.length = vs.length ∧ Rs K mg F ds vs
  | .tre ds => ∃ a vs bs, v = .ref a ∧ H a = some (.lst vs) ∧ RTs K mg F H ds vs bs ∧ (a :: bs).Nodup ∧ ∀ b ∈ a :: bs, F b = none ∧ H0 b = none

/-- the frozen part at the start, and where the instance stands that is being made -/
abbrev Bs := Hp × Addr
/-- the names' own addresses -/
structure Fps (K : Frag) (mg : Mg) (H0 F H : Hp) (σ : St) (δ : DEnv) (fp : Nat → List Addr) : Prop where
  c : ∀ (i : Nat) (c : Cell), δ[i]? = some (some c) → ∃ v, σ[i]? = some (some v) ∧ CellF K mg F H v c (fp i)
  n : ∀ (i : Nat) (c : Cell), δ[i]? = some (some c) → (fp i).Nodup
  z : ∀ (i : Nat) (c : Cell), δ[i]? = some (some c) → ∀ a ∈ fp i, F a = none ∧ H0 a = none
  d : ∀ (i j : Nat) (c c' : Cell), i ≠ j → δ[i]? = some (some c) → δ[j]? = some (some c') → ∀ a ∈ fp i, a ∉ fp j
structure EnvOk (K : Frag) (mg : Mg) (F0 : Bs) (H0 F H : Hp) (σ : St) (δ : DEnv) : Prop where
  g : Grow F0.1 H0 F H
  lim : Lim H
  len : δ.length = σ.length
  ex : ∃ fp, Fps K mg H0 F H σ δ fp
  pn : ∀ (i : Nat) (C : Str) (ks : List Str) (ds : List D), δ[i]? = some (some (.ins C ks ds)) → σ[i]? = some (some (.ref F0.2))

section
variable {K : Frag} {mg : Mg} {F0 : Bs} {H0 F H F' H' : Hp} {σ : St} {δ : DEnv}
theorem CellF.live {v : V} : ∀ {c : Cell} {as : List Addr}, CellF K mg F H v c as → ∀ a ∈ as, ∃ o, H a = some o ∧ ∀ xs, o ≠ .tup xs
  | .val d, as, h => by rw [h.2]; intro a h; cases h
  | .own ds, as, h => by
    obtain ⟨a, vs, _, h1, _, rfl⟩ := h
    intro b hb
    rw [List.mem_singleton.mp hb]
    exact ⟨_, h1, fun _ z => by cases z⟩
  | .ins C ks ds, as, h => by
    obtain ⟨a, c, dx, vs, _, _, h1, _, _, rfl⟩ := h
    intro b hb
    rw [List.mem_singleton.mp hb]
    exact ⟨_, h1, fun _ z => by cases z⟩
  | .tre ds, as, h => by
    obtain ⟨a, vs, bs, _, h1, r, rfl⟩ := h
    intro b hb
    rcases List.mem_cons.mp hb with rfl | hb
    · exact ⟨_, h1, fun _ z => by cases z⟩
    · obtain ⟨xs, e⟩ := RTs.live ds vs bs r b hb
      exact ⟨_, e, fun _ z => by cases z⟩
theorem CellF.mono {v : V} (f : Same F F') : ∀ {c : Cell} {as : List Addr}, (∀ a o, H a = some o → (a ∈ as ∨ ∃ xs, o = .tup xs) → H' a = some o) → CellF K mg F H v c as → CellF K mg F' H' v c as
  | .val d, as, _, h => ⟨R.mono f _ _ h.1, h.2⟩
  | .own ds, as, k, h => by
    obtain ⟨a, vs, e, h1, r, rfl⟩ := h
    exact ⟨a, vs, e, k _ _ h1 (.inl List.mem_cons_self), r.mono f, rfl⟩
  | .ins C ks ds, as, k, h => by
    obtain ⟨a, c, dx, vs, e, e2, h1, h4, h5, rfl⟩ := h
    exact ⟨a, c, dx, vs, e, e2, k _ _ h1 (.inl List.mem_cons_self), h4, h5.mono f, rfl⟩
  | .tre ds, as, k, h => by
    obtain ⟨a, vs, bs, e, h1, r, rfl⟩ := h
    exact ⟨a, vs, bs, e, k _ _ h1 (.inl List.mem_cons_self), RTs.mono f ds vs bs (fun b o hb hc => k b o hb (hc.imp (List.mem_cons_of_mem _) id)) r, rfl⟩
/-- the root is one's own -/
theorem CellF.root {v : V} {c : Cell} {as : List Addr} {a : Addr} (m : c.mine = true) (h : CellF K mg F H v c as) (e : v = .ref a) : a ∈ as := by
  subst e
  cases c with
  | val d => cases m
  | own ds => obtain ⟨a', vs, e, _, _, rfl⟩ := h; cases e; exact List.mem_cons_self
  | ins C ks ds => obtain ⟨a', c, dx, vs, e, _, _, _, _, rfl⟩ := h; cases e; exact List.mem_cons_self
  | tre ds => obtain ⟨a', vs, bs, e, _, _, rfl⟩ := h; cases e; exact List.mem_cons_self
theorem EnvOk.sl (E : EnvOk K mg F0 H0 F H σ δ) (i : Nat) (c : Cell) (h : δ[i]? = some (some c)) : ∃ v, σ[i]? = some (some v) ∧ CellOk K mg H0 F H v c := by
  obtain ⟨fp, P⟩ := E.ex
  obtain ⟨v, h1, h2⟩ := P.c i c h
  have hz := P.z i c h
  have hn := P.n i c h
  refine ⟨v, h1, ?_⟩
  cases c with
  | val d => exact h2.1
  | own ds =>
    obtain ⟨a, vs, e, h3, r, e2⟩ := h2
    rw [e2] at hz
    exact ⟨a, vs, e, h3, (hz a List.mem_cons_self).1, (hz a List.mem_cons_self).2, r⟩
  | ins C ks ds =>
    obtain ⟨a, c, dx, vs, e, e3, h3, h4, r, e2⟩ := h2
    rw [e2] at hz
    exact ⟨a, c, dx, vs, e, e3, h3, (hz a List.mem_cons_self).1, (hz a List.mem_cons_self).2, h4, r⟩
  | tre ds =>
    obtain ⟨a, vs, bs, e, h3, r, e2⟩ := h2
    rw [e2] at hz hn
    exact ⟨a, vs, bs, e, h3, r, hn, hz⟩
theorem EnvOk.nd (E : EnvOk K mg F0 H0 F H σ δ) (i j : Nat) (c c' : Cell) (a : Addr) (hij : i ≠ j) (h1 : δ[i]? = some (some c)) (h2 : δ[j]? = some (some c')) (m1 : c.mine = true) (m2 : c'.mine = true) (s1 : σ[i]? = some (some (.ref a))) (s2 : σ[j]? = some (some (.ref a))) : False := by
  obtain ⟨fp, P⟩ := E.ex
  obtain ⟨v, e1, r1⟩ := P.c i c h1
  obtain ⟨w, e2, r2⟩ := P.c j c' h2
  rw [s1] at e1
  rw [s2] at e2
  cases e1
  cases e2
  exact P.d i j c c' hij h1 h2 a (r1.root m1 rfl) (r2.root m2 rfl)
/-- one name holds something new, the others stay -/
theorem EnvOk.one (E : EnvOk K mg F0 H0 F H σ δ) (i : Nat) {c : Cell} {v : V} {as : List Addr} {σ' : St} (g : Grow F0.1 H0 F' H') (l : Lim H') (hσ : σ'.length = σ.length) (hi : i < δ.length → σ'[i]? = some (some v)) (hs : ∀ j, j ≠ i → σ'[j]? = σ[j]?)
    (hc : CellF K mg F' H' v c as) (hn : as.Nodup) (hz : ∀ a ∈ as, F' a = none ∧ H0 a = none) (f : Same F F')
    (old : ∀ fp, Fps K mg H0 F H σ δ fp → ∀ (j : Nat) (c' : Cell), j ≠ i → δ[j]? = some (some c') → (∀ a o, H a = some o → (a ∈ fp j ∨ ∃ xs, o = .tup xs) → H' a = some o) ∧ (∀ a ∈ fp j, F' a = none ∧ a ∉ as))
    (hp : ∀ C ks ds, c = .ins C ks ds → i < δ.length → v = .ref F0.2) : EnvOk K mg F0 H0 F' H' σ' (δ.set i (some c)) := by
  obtain ⟨fp, P⟩ := E.ex
  have O := old fp P
  have key : ∀ (j : Nat) (c' : Cell), (δ.set i (some c))[j]? = some (some c') → (j = i ∧ c' = c ∧ i < δ.length) ∨ (j ≠ i ∧ δ[j]? = some (some c')) := fun j c' e => by
    by_cases hj : j = i
    · subst hj
      by_cases hl : j < δ.length
      · rw [List.getElem?_set_self hl] at e
        cases e
        exact .inl ⟨rfl, rfl, hl⟩
      · rw [List.getElem?_eq_none (by rw [List.length_set]; omega)] at e; cases e
    · rw [List.getElem?_set_ne (Ne.symm hj)] at e
      exact .inr ⟨hj, e⟩
  refine ⟨g, l, by rw [List.length_set, hσ, E.len], ⟨fun j => if j = i then as else fp j, ⟨fun j c' e => ?_, fun j c' e => ?_, fun j c' e => ?_, fun j k c1 c2 hjk e1 e2 a ha => ?_⟩⟩, fun j C ks ds e => ?_⟩
  · rcases key j c' e with ⟨rfl, rfl, hl⟩ | ⟨hj, e⟩
    · exact ⟨v, hi hl, by rw [if_pos rfl]; exact hc⟩
    · obtain ⟨w, h1, h2⟩ := P.c j c' e
      exact ⟨w, by rw [hs j hj]; exact h1, by rw [if_neg hj]; exact h2.mono f (O j c' hj e).1⟩
  · rcases key j c' e with ⟨rfl, rfl, hl⟩ | ⟨hj, e⟩
    · rw [if_pos rfl]; exact hn
    · rw [if_neg hj]; exact P.n j c' e
  · rcases key j c' e with ⟨rfl, rfl, hl⟩ | ⟨hj, e⟩
    · rw [if_pos rfl]; exact hz
    · rw [if_neg hj]
      exact fun a ha => ⟨((O j c' hj e).2 a ha).1, (P.z j c' e a ha).2⟩
  · rcases key j c1 e1 with ⟨hj, _, _⟩ | ⟨hj, e1⟩
    · rcases key k c2 e2 with ⟨hk, _, _⟩ | ⟨hk, e2⟩
      · exact absurd (hj.trans hk.symm) hjk
      · rw [if_pos hj] at ha
        rw [if_neg hk]
        exact fun z => ((O k c2 hk e2).2 a z).2 ha
    · rw [if_neg hj] at ha
      rcases key k c2 e2 with ⟨hk, _, _⟩ | ⟨hk, e2⟩
      · rw [if_pos hk]
        exact ((O j c1 hj e1).2 a ha).2
      · rw [if_neg hk]
        exact P.d j k c1 c2 hjk e1 e2 a ha
  · rcases key j _ e with ⟨rfl, h, hl⟩ | ⟨hj, e⟩
    · rw [hi hl, hp C ks ds h.symm hl]
    · rw [hs j hj]; exact E.pn _ _ _ _ e
theorem EnvOk.grow (E : EnvOk K mg F0 H0 F H σ δ) (g : Grow F H F' H') (l : Lim H') : EnvOk K mg F0 H0 F' H' σ δ := by
  obtain ⟨fp, P⟩ := E.ex
  refine ⟨E.g.trans g, l, E.len, ⟨fp, ⟨fun i c e => ?_, P.n, fun i c e a ha => ?_, P.d⟩⟩, E.pn⟩
  · obtain ⟨v, h1, h2⟩ := P.c i c e
    exact ⟨v, h1, h2.mono g.f fun a o h _ => g.h _ _ h⟩
  · obtain ⟨v, h1, h2⟩ := P.c i c e
    obtain ⟨o, h3, _⟩ := h2.live a ha
    exact ⟨g.n a (by rw [h3]; simp) (P.z i c e a ha).1, (P.z i c e a ha).2⟩
/-- a name takes data -/
theorem EnvOk.set (E : EnvOk K mg F0 H0 F H σ δ) (i : Nat) {d : D} {v : V} (r : R K mg F d v) : EnvOk K mg F0 H0 F H (σ.set i (some v)) (δ.set i (some (.val d))) :=
  E.one i (as := []) E.g E.lim (List.length_set ..) (fun hl => by rw [List.getElem?_set_self (by rw [← E.len]; exact hl)]) (fun j hj => by rw [List.getElem?_set_ne (Ne.symm hj)]) ⟨r, rfl⟩ .nil (fun a h => by cases h) (.refl _)
    (fun fp P j c' hj e => ⟨fun a o h _ => h, fun a ha => ⟨(P.z j c' e a ha).1, fun z => by cases z⟩⟩) (fun _ _ _ h => by cases h)
/-- a name is forgotten -/
theorem EnvOk.drop (E : EnvOk K mg F0 H0 F H σ δ) (i : Nat) (v : Option V) : EnvOk K mg F0 H0 F H (σ.set i v) (δ.set i none) := by
  have key : ∀ (j : Nat) (c : Cell), (δ.set i none)[j]? = some (some c) → j ≠ i ∧ δ[j]? = some (some c) := fun j c e => by
    by_cases hj : j = i
    · subst hj
      by_cases hl : j < δ.length
      · rw [List.getElem?_set_self hl] at e; cases e
      · rw [List.getElem?_eq_none (by rw [List.length_set]; omega)] at e; cases e
    · rw [List.getElem?_set_ne (Ne.symm hj)] at e
      exact ⟨hj, e⟩
  obtain ⟨fp, P⟩ := E.ex
  refine ⟨E.g, E.lim, by rw [List.length_set, List.length_set, E.len], ⟨fp, ⟨fun j c e => ?_, fun j c e => P.n j c (key j c e).2, fun j c e => P.z j c (key j c e).2, fun j k c1 c2 hjk e1 e2 => P.d j k c1 c2 hjk (key j c1 e1).2 (key k c2 e2).2⟩⟩, fun j C ks ds e => ?_⟩
  · obtain ⟨hj, e⟩ := key j c e
    obtain ⟨w, h1, h2⟩ := P.c j c e
    exact ⟨w, by rw [List.getElem?_set_ne (Ne.symm hj)]; exact h1, h2⟩
  · obtain ⟨hj, e⟩ := key j _ e
    rw [List.getElem?_set_ne (Ne.symm hj)]; exact E.pn _ _ _ _ e
end

/-! ### judgements -/
abbrev Ev := DEnv → M D
abbrev EvT := DEnv → M Bool
abbrev EvA := DEnv → M (List D)
/-- borrowed: the list itself may be one's own -/
def RB (K : Frag) (mg : Mg) (F H : Hp) (d : D) (v : V) : Prop := R K mg F d v ∨ ∃ ds a vs, d = .lst ds ∧ v = .ref a ∧ H a = some (.lst vs) ∧ Rs K mg F ds vs
theorem RB.grow {K : Frag} {mg : Mg} {F H F' H' : Hp} {d : D} {v : V} (g : Grow F H F' H') (h : RB K mg F H d v) : RB K mg F' H' d v := by
  rcases h with h | ⟨ds, a, vs, e1, e2, h1, h2⟩
  · exact .inl (h.mono g.f)
  · exact .inr ⟨ds, a, vs, e1, e2, g.h _ _ h1, h2.mono g.f⟩
/-- an exception's own dict -/
def ExRep (K : Frag) (mg : Mg) (F H : Hp) (ks : List Str) (ds : List D) (dd : Option Addr) : Prop :=
  (ks = [] ∧ ds = [] ∧ dd = none) ∨ ∃ d vs, dd = some d ∧ H d = some (.xd (ks.zip vs)) ∧ ks.length = vs.length ∧ Rs K mg F ds vs

/-- what is wanted of an exception -/
def PostX (K : Frag) (mg : Mg) (W : WX) (F H : Hp) (σ : St) : Er → Prop
  | .stuck => False
  | .exc C ks ds => ∀ c dd F' H', Grow F H F' H' → mg C = some (.ref c) → ExRep K mg F' H' ks ds dd → W (.ref c) dd σ H'
def PostE (K : Frag) (mg : Mg) (W : WX) (F H : Hp) (σ : St) (Q : VK) : M D → Prop
  | .ok d => ∀ v F' H', Grow F H F' H' → Lim H' → R K mg F' d v → Q v H'
  | .error e => PostX K mg W F H σ e
def PostB (K : Frag) (mg : Mg) (W : WX) (F H : Hp) (σ : St) (Q : VK) : M D → Prop
  | .ok d => ∀ v F' H', Grow F H F' H' → Lim H' → RB K mg F' H' d v → Q v H'
  | .error e => PostX K mg W F H σ e
def PostT (K : Frag) (mg : Mg) (W : WX) (F H : Hp) (σ : St) (Q : Bool → Hp → Prop) : M Bool → Prop
  | .ok b => ∀ F' H', Grow F H F' H' → Lim H' → Q b H'
  | .error e => PostX K mg W F H σ e
def PostA (K : Frag) (mg : Mg) (W : WX) (F H : Hp) (σ : St) (Q : List V → Hp → Prop) : M (List D) → Prop
  | .ok ds => ∀ vs F' H', Grow F H F' H' → Lim H' → Rs K mg F' ds vs → Q vs H'
  | .error e => PostX K mg W F H σ e

def DE (X : Cx) (W : WX) (e : Expr) (ev : Ev) : Prop := ∃ t : TE, PE X e t ∧ ∀ F0 H0 F H σ δ (Q : VK), EnvOk X.K X.mg F0 H0 F H σ δ → PostE X.K X.mg W F H σ Q (ev δ) → t σ H Q
def DB (X : Cx) (W : WX) (e : Expr) (ev : Ev) : Prop := ∃ t : TE, PE X e t ∧ ∀ F0 H0 F H σ δ (Q : VK), EnvOk X.K X.mg F0 H0 F H σ δ → PostB X.K X.mg W F H σ Q (ev δ) → t σ H Q
def DT (X : Cx) (W : WX) (e : Expr) (ev : EvT) : Prop := ∃ t : TT, PT X e t ∧ ∀ F0 H0 F H σ δ (Q : Bool → Hp → Prop), EnvOk X.K X.mg F0 H0 F H σ δ → PostT X.K X.mg W F H σ Q (ev δ) → t σ H Q
def DW (X : Cx) (W : WX) (e : Expr) (ev : EvT) : Prop := ∃ t : TT, PW X e t ∧ ∀ F0 H0 F H σ δ (Q : Bool → Hp → Prop), EnvOk X.K X.mg F0 H0 F H σ δ → PostT X.K X.mg W F H σ Q (ev δ) → t σ H Q
def DA (X : Cx) (W : WX) (es : List Expr) (ev : EvA) : Prop := ∃ t : TA, PA X es t ∧ ∀ F0 H0 F H σ δ (Q : List V → Hp → Prop), EnvOk X.K X.mg F0 H0 F H σ δ → PostA X.K X.mg W F H σ Q (ev δ) → t σ H Q

section
variable {X : Cx} {W : WX} {e a b : Expr} {ev ea eb : Ev} {pos : Pos}

/-! ### lengths for nothing -/
theorem PE.suf {t : TE} (h : PE X e t) : PE X e (fun σ H Q => t σ H fun v H' => Lim H' → Q v H') :=
  ⟨fun pins s σ H Q I w => thn (h.run pins s σ H _ I w) fun u s1 ⟨v, H', I', r, q⟩ => ⟨v, H', I', r, q (.of I'.hok)⟩⟩
theorem PT.suf {t : TT} (h : PT X e t) : PT X e (fun σ H Q => t σ H fun v H' => Lim H' → Q v H') :=
  ⟨fun pins s σ H Q I w => thn (h.run pins s σ H _ I w) fun u s1 ⟨H', I', q⟩ => ⟨H', I', q (.of I'.hok)⟩⟩
theorem PW.suf {t : TT} (h : PW X e t) : PW X e (fun σ H Q => t σ H fun v H' => Lim H' → Q v H') :=
  ⟨fun wh pins s σ H Q I w => thn (h.run wh pins s σ H _ I w) fun u s1 ⟨H', I', q⟩ => ⟨H', I', q (.of I'.hok)⟩⟩

theorem PostX.grow {K : Frag} {mg : Mg} {F H F1 H1 : Hp} {σ : St} {er : Er} (g : Grow F H F1 H1) (h : PostX K mg W F H σ er) : PostX K mg W F1 H1 σ er := by
  cases er with
  | stuck => exact h
  | exc C ks ds => exact fun c dd F' H' g' => h c dd F' H' (g.trans g')

/-- a frozen value may be borrowed -/
theorem DE.bor (h : DE X W e ev) : DB X W e ev := by
  obtain ⟨t, p, q⟩ := h
  refine ⟨t, p, fun F0 H0 F H σ δ Q E po => q F0 H0 F H σ δ Q E ?_⟩
  cases hv : ev δ with
  | ok d =>
    rw [hv] at po
    exact fun v F' H' g l r => po v F' H' g l (.inl r)
  | error er =>
    rw [hv] at po
    exact po
/-- equal functions -/
theorem DE.eq {ev' : Ev} (h : DE X W e ev) (q : ev = ev') : DE X W e ev' := q ▸ h
end
end DL

namespace DL
open PySem PySem.Spec PyProof.Rows L2

/-! ### equality of data -/
mutual
def D.beq : D → D → Bool
  | .non, .non => true
  | .bl a, .bl b => a == b
  | .int a, .int b => a == b
  | .str a, .str b => a == b
  | .tup xs, .tup ys => D.beqs xs ys
  | .lst xs, .lst ys => D.beqs xs ys
  | .scr xs, .scr ys => xs == ys
  | .obj C ks ds, .obj C' ks' ds' => C == C' && ks == ks' && D.beqs ds ds'
  | .non, .bl _ | .non, .int _ | .non, .str _ | .non, .tup _ | .non, .lst _ | .non, .scr _ | .non, .obj _ _ _ => false
  | .bl _, .non | .bl _, .int _ | .bl _, .str _ | .bl _, .tup _ | .bl _, .lst _ | .bl _, .scr _ | .bl _, .obj _ _ _ => false
  | .int _, .non | .int _, .bl _ | .int _, .str _ | .int _, .tup _ | .int _, .lst _ | .int _, .scr _ | .int _, .obj _ _ _ => false
  | .str _, .non | .str _, .bl _ | .str _, .int _ | .str _, .tup _ | .str _, .lst _ | .str _, .scr _ | .str _, .obj _ _ _ => false
  | .tup _, .non | .tup _, .bl _ | .tup _, .int _ | .tup _, .str _ | .tup _, .lst _ | .tup _, .scr _ | .tup _, .obj _ _ _ => false
  | .lst _, .non | .lst _, .bl _ | .lst _, .int _ | .lst _, .str _ | .lst _, .tup _ | .lst _, .scr _ | .lst _, .obj _ _ _ => false
  | .scr _, .non | .scr _, .bl _ | .scr _, .int _ | .scr _, .str _ | .scr _, .tup _ | .scr _, .lst _ | .scr _, .obj _ _ _ => false
  | .obj _ _ _, .non | .obj _ _ _, .bl _ | .obj _ _ _, .int _ | .obj _ _ _, .str _ | .obj _ _ _, .tup _ | .obj _ _ _, .lst _ | .obj _ _ _, .scr _ => false
def D.beqs : List D → List D → Bool
  | [], [] => true
  | x :: xs, y :: ys => D.beq x y && D.beqs xs ys
  | [], _ :: _ | _ :: _, [] => false
end
mutual
theorem D.beq_iff : ∀ (a b : D), D.beq a b = true ↔ a = b
  | .non, b => by cases b <;> simp [D.beq]
  | .bl x, b => by cases b <;> simp [D.beq]
  | .int x, b => by cases b <;> simp [D.beq]
  | .str x, b => by cases b <;> simp [D.beq]
  | .scr x, b => by cases b <;> simp [D.beq]
  | .tup xs, b => by
    cases b <;> simp [D.beq]
    exact D.beqs_iff xs _
  | .lst xs, b => by
    cases b <;> simp [D.beq]
    exact D.beqs_iff xs _
  | .obj C ks ds, b => by
    cases b <;> simp [D.beq]
    rw [D.beqs_iff ds _]
    exact ⟨fun h => ⟨h.1.1, h.1.2, h.2⟩, fun h => ⟨⟨h.1, h.2.1⟩, h.2.2⟩⟩
theorem D.beqs_iff : ∀ (a b : List D), D.beqs a b = true ↔ a = b
  | [], b => by cases b <;> simp [D.beqs]
  | x :: xs, b => by
    cases b with
    | nil => simp [D.beqs]
    | cons y ys => simp [D.beqs, D.beq_iff x y, D.beqs_iff xs ys]
end
instance : DecidableEq D := fun a b => decidable_of_iff _ (D.beq_iff a b)

mutual
/-- the same as the kit's data -/
def D.py : D → PyData
  | .non => .none
  | .bl b => .bool b
  | .int i => .int i
  | .str x => .str x
  | .tup xs => .tuple (D.pys xs)
  | .lst xs => .list (D.pys xs)
  | .scr ns => .list (ns.map PyData.int)
  | .obj _ _ _ => .none
def D.pys : List D → List PyData
  | [] => []
  | d :: ds => D.py d :: D.pys ds
end
/-- data that == is asked of: no bool within, texts that are texts, n deep at most -/
def D.okE : Nat → D → Bool
  | _, .non => true
  | _, .int _ => true
  | _, .str x => PyData.strOk x
  | n + 1, .tup xs => xs.all (D.okE n)
  | n + 1, .lst xs => xs.all (D.okE n)
  | _, _ => false
theorem okE_list {n : Nat} {xs : List D} : (xs.all (D.okE n) = true) ↔ ∀ x ∈ xs, D.okE n x = true := List.all_eq_true
theorem py_lay : ∀ (n : Nat) (d : D), d.okE n = true → d.py.canLay0 = true ∧ d.py.depth ≤ n := by
  intro n
  induction n with
  | zero =>
    intro d h
    cases d <;> simp_all [D.okE, D.py, PyData.canLay0, PyData.depth]
  | succ n ih =>
    have all : ∀ xs : List D, (∀ x ∈ xs, D.okE n x = true) → PyData.canLayAll0 (D.pys xs) = true ∧ PyData.depthAll (D.pys xs) ≤ n := by
      intro xs
      induction xs with
      | nil => intro _; simp [D.pys, PyData.canLayAll0, PyData.depthAll]
      | cons x xs ihx =>
        intro h
        have h1 := ih x (h x List.mem_cons_self)
        have h2 := ihx fun y hy => h y (List.mem_cons_of_mem _ hy)
        simp only [D.pys, PyData.canLayAll0, PyData.depthAll, h1.1, h2.1, Bool.and_self, true_and]
        exact Nat.max_le.mpr ⟨h1.2, h2.2⟩
    intro d h
    cases d with
    | tup xs =>
      have a := all xs (okE_list.mp h)
      simp only [D.py, PyData.canLay0, PyData.depth]
      exact ⟨a.1, by omega⟩
    | lst xs =>
      have a := all xs (okE_list.mp h)
      simp only [D.py, PyData.canLay0, PyData.depth]
      exact ⟨a.1, by omega⟩
    | _ => simp_all [D.okE, D.py, PyData.canLay0, PyData.depth]
def eqDepth : Nat := 60
theorem py_shaped {d : D} (h : d.okE eqDepth = true) : SeqAt.shaped d.py = true := by
  obtain ⟨a, b⟩ := py_lay _ d h
  unfold SeqAt.shaped
  rw [a, Bool.true_and]
  exact decide_eq_true (by unfold eqDepth at b; omega)
theorem eqv_iff : ∀ (n : Nat) (a b : D), a.okE n = true → b.okE n = true → PyData.eqv a.py b.py = decide (a = b) := by
  intro n
  induction n with
  | zero =>
    intro a b ha hb
    cases a <;> cases b <;> simp_all [D.okE, D.py, PyData.eqv, Bool.beq_eq_decide_eq]
  | succ n ih =>
    have all : ∀ xs ys : List D, (∀ x ∈ xs, D.okE n x = true) → (∀ x ∈ ys, D.okE n x = true) → PyData.eqvAll (D.pys xs) (D.pys ys) = decide (xs = ys) := by
      intro xs
      induction xs with
      | nil =>
        intro ys _ _
        cases ys <;> simp [D.pys, PyData.eqvAll]
      | cons x xs ihx =>
        intro ys hx hy
        cases ys with
        | nil => simp [D.pys, PyData.eqvAll]
        | cons y ys =>
          simp only [D.pys, PyData.eqvAll]
          rw [ih x y (hx x List.mem_cons_self) (hy y List.mem_cons_self), ihx ys (fun z hz => hx z (List.mem_cons_of_mem _ hz)) fun z hz => hy z (List.mem_cons_of_mem _ hz)]
          rw [← Bool.decide_and]
          simp
    intro a b ha hb
    cases a with
    | tup xs =>
      cases b with
      | tup ys =>
        simp only [D.py, PyData.eqv]
        rw [all xs ys (okE_list.mp ha) (okE_list.mp hb)]
        simp
      | _ => simp_all [D.okE, D.py, PyData.eqv]
    | lst xs =>
      cases b with
      | lst ys =>
        simp only [D.py, PyData.eqv]
        rw [all xs ys (okE_list.mp ha) (okE_list.mp hb)]
        simp
      | _ => simp_all [D.okE, D.py, PyData.eqv]
    | _ => cases b <;> simp_all [D.okE, D.py, PyData.eqv, Bool.beq_eq_decide_eq]
section
variable {K : Frag} {mg : Mg} {F H : Hp}
theorem dp_of : ∀ (n : Nat) (d : D) (v : V), d.okE n = true → R K mg F d v → Dp K F v d.py := by
  intro n
  induction n with
  | zero =>
    intro d v h r
    cases d with
    | non => rw [r.non_inv]; exact .non
    | int i => rw [r.int_inv]; exact .int i
    | str x => rw [r.str_inv]; exact .str x
    | _ => simp [D.okE] at h
  | succ n ih =>
    have all : ∀ (xs : List D) (vs : List V), (∀ x ∈ xs, D.okE n x = true) → Rs K mg F xs vs → DpAll K F vs (D.pys xs) := by
      intro xs
      induction xs with
      | nil => intro vs _ r; rw [r.nil_inv]; exact .nil
      | cons x xs ihx =>
        intro vs h r
        obtain ⟨v, rr, rfl, hv, t⟩ := r.cons_inv
        exact .cons (ih x v (h x List.mem_cons_self) hv) (ihx rr (fun y hy => h y (List.mem_cons_of_mem _ hy)) t)
    intro d v h r
    cases d with
    | non => rw [r.non_inv]; exact .non
    | int i => rw [r.int_inv]; exact .int i
    | str x => rw [r.str_inv]; exact .str x
    | tup xs =>
      obtain ⟨a, vs, rfl, h1, h2⟩ := r.tup_inv
      exact .tup h1 (all xs vs (okE_list.mp h) h2)
    | lst xs =>
      obtain ⟨a, vs, rfl, h1, h2⟩ := r.lst_inv
      exact .lst (.of h1) (all xs vs (okE_list.mp h) h2)
    | _ => simp [D.okE] at h
theorem dps_of {n : Nat} : ∀ (xs : List D) (vs : List V), (∀ x ∈ xs, D.okE n x = true) → Rs K mg F xs vs → DpAll K F vs (D.pys xs)
  | [], vs, _, r => by rw [r.nil_inv]; exact .nil
  | x :: xs, vs, h, r => by
    obtain ⟨v, rr, rfl, hv, t⟩ := r.cons_inv
    exact .cons (dp_of n x v (h x List.mem_cons_self) hv) (dps_of xs rr (fun y hy => h y (List.mem_cons_of_mem _ hy)) t)
/-- a borrowed value's data, in the heap itself -/
theorem RB.inH (s : Same F H) {d : D} {v : V} (r : RB K mg F H d v) : R K mg H d v := by
  rcases r with r | ⟨ds, a, vs, rfl, rfl, h1, h2⟩
  · exact r.mono s
  · exact .lst h1 (h2.mono s)
end

/-! ### operators by data -/
/-- what an operator's end wants -/
def PostO (K : Frag) (mg : Mg) (F H : Hp) (Q : VK) : Option D → Prop
  | some d => ∀ v F' H', Grow F H F' H' → R K mg F' d v → Q v H'
  | none => False
def OpD (K : Frag) (mg : Mg) (r : R2) (op : D → D → Option D) : Prop :=
  ∀ F H x y a b (Q : VK), Same F H → Lim H → RB K mg F H a x → RB K mg F H b y → PostO K mg F H Q (op a b) → r x y H Q
def lft {α : Type} : Option α → M α
  | some a => .ok a
  | none => stk
@[simp] theorem lft_some {α : Type} (a : α) : lft (some a) = .ok a := rfl
@[simp] theorem lft_none {α : Type} : lft (none : Option α) = stk := rfl
/-- the evaluation of two operands, then op -/
def e2 (op : D → D → Option D) (ea eb : Ev) : Ev := fun δ => do let x ← ea δ; let y ← eb δ; lft (op x y)
def e1 (op : D → Option D) (ea : Ev) : Ev := fun δ => do let x ← ea δ; lft (op x)
def asB : D → M Bool
  | .bl b => .ok b
  | _ => stk
@[simp] theorem asB_bl (b : Bool) : asB (.bl b) = .ok b := rfl
def eT (ev : Ev) : EvT := fun δ => do let x ← ev δ; asB x

section
variable {X : Cx} {W : WX} {e a b c : Expr} {ev ea eb ec : Ev} {pos : Pos}
/-- an end without lengths -/
def PostE' (K : Frag) (mg : Mg) (W : WX) (F H : Hp) (σ : St) (Q : VK) : M D → Prop
  | .ok d => ∀ v F' H', Grow F H F' H' → R K mg F' d v → Q v H'
  | .error e => PostX K mg W F H σ e
theorem PostE.un {K : Frag} {mg : Mg} {F H : Hp} {σ : St} {Q : VK} {m : M D} (h : PostE K mg W F H σ Q m) : PostE' K mg W F H σ (fun v H' => Lim H' → Q v H') m := by
  cases m with
  | ok d => exact fun v F' H' g r l => h v F' H' g l r
  | error e => exact h

theorem bin_run {r : R2} {op : D → D → Option D} (hr : OpD X.K X.mg r op) {ta tb : TE}
    (qa : ∀ F0 H0 F H σ δ (Q : VK), EnvOk X.K X.mg F0 H0 F H σ δ → PostB X.K X.mg W F H σ Q (ea δ) → ta σ H Q)
    (qb : ∀ F0 H0 F H σ δ (Q : VK), EnvOk X.K X.mg F0 H0 F H σ δ → PostB X.K X.mg W F H σ Q (eb δ) → tb σ H Q)
    {F0 : Bs} {H0 F H : Hp} {σ : St} {δ : DEnv} {Q : VK} (E : EnvOk X.K X.mg F0 H0 F H σ δ)
    (po : PostE' X.K X.mg W F H σ Q (e2 op ea eb δ)) : tOp r ta tb σ H Q := by
  refine qa F0 H0 F H σ δ _ E ?_
  unfold e2 at po
  cases ha : ea δ with
  | error er => rw [ha] at po; exact po
  | ok da =>
    rw [ha] at po
    intro v1 F1 H1 g1 l1 r1
    refine qb F0 H0 F1 H1 σ δ _ (E.grow g1 l1) ?_
    cases hb : eb δ with
    | error er =>
      rw [hb] at po
      exact PostX.grow g1 po
    | ok db =>
      rw [hb] at po
      intro v2 F2 H2 g2 l2 r2
      refine hr F2 H2 v1 v2 da db Q g2.s l2 (r1.grow g2) r2 ?_
      simp only [ok_bind] at po
      cases ho : op da db with
      | none => rw [ho] at po; exact po
      | some d =>
        rw [ho] at po
        exact fun v F' H' g r => po v F' H' (g1.trans (g2.trans g)) r
/-- a op b -/
theorem de_op {op : Operator} {r : R2} {f : D → D → Option D} (ho : OpR X (binaryOp op) r) (hr : OpD X.K X.mg r f) (ha : DB X W a ea) (hb : DB X W b eb) : DE X W (.BinOp a op b pos) (e2 f ea eb) := by
  obtain ⟨ta, pa, qa⟩ := ha
  obtain ⟨tb, pb, qb⟩ := hb
  exact ⟨_, PE.suf (pe_op ho pa pb), fun F0 H0 F H σ δ Q E po => bin_run hr qa qb E po.un⟩
theorem de_cmp {op : CmpOp} {r : R2} {f : D → D → Option D} (ho : OpR X (compareOp op) r) (hr : OpD X.K X.mg r f) (hm : behindInMarks op b = false) (ha : DB X W a ea) (hb : DB X W b eb) : DE X W (.Compare a [op] [b] pos) (e2 f ea eb) := by
  obtain ⟨ta, pa, qa⟩ := ha
  obtain ⟨tb, pb, qb⟩ := hb
  exact ⟨_, PE.suf (pe_cmpR ho pa pb hm), fun F0 H0 F H σ δ Q E po => bin_run hr qa qb E po.un⟩
/-- from a value's end to a test's -/
theorem PostT.un {K : Frag} {mg : Mg} {F H : Hp} {σ : St} {Q : Bool → Hp → Prop} {m : M D} (h : PostT K mg W F H σ Q (m >>= asB)) :
    PostE' K mg W F H σ (fun x H' => ∃ k, x = .bl k ∧ (Lim H' → Q k H')) m := by
  cases m with
  | error e => exact h
  | ok d =>
    intro v F' H' g r
    cases d with
    | bl k => exact ⟨k, r.bl_inv, fun l => h F' H' g l⟩
    | _ => exact h.elim
theorem dt_cmp {op : CmpOp} {r : R2} {f : D → D → Option D} (ho : OpR X (compareOp op) r) (hr : OpD X.K X.mg r f) (hm : behindInMarks op b = false) (ha : DB X W a ea) (hb : DB X W b eb) : DT X W (.Compare a [op] [b] pos) (eT (e2 f ea eb)) := by
  obtain ⟨ta, pa, qa⟩ := ha
  obtain ⟨tb, pb, qb⟩ := hb
  exact ⟨_, PT.suf (pt_cmpR ho pa pb hm), fun F0 H0 F H σ δ Q E po => bin_run hr qa qb E po.un⟩
/-- a value that is a bool, as a test -/
theorem dt_val (ha : DE X W e ev) (he : ∀ whole, isTrue e X.env whole = (do let v ← whole; standAt e.pos; holding [v] (truthy v)) := by intro _; rfl) : DT X W e (eT ev) := by
  obtain ⟨t, p, q⟩ := ha
  refine ⟨_, PT.suf (pt_val p he), fun F0 H0 F H σ δ Q E po => q F0 H0 F H σ δ _ E ?_⟩
  have h := PostT.un (m := ev δ) po
  revert h
  cases ev δ with
  | error e => exact id
  | ok d => exact fun h v F' H' g l r => h v F' H' g r

/-! ### tests: and, or, not -/
def tAndD (a b : EvT) : EvT := fun δ => do let x ← a δ; if x then b δ else .ok false
def tOrD (a b : EvT) : EvT := fun δ => do let x ← a δ; if x then .ok true else b δ
def tNotD (a : EvT) : EvT := fun δ => do let x ← a δ; .ok (!x)
variable {va vb : EvT} {rest : List Expr}
theorem DW.t (h : DW X W e va) : DT X W e va := by
  obtain ⟨t, p, q⟩ := h
  exact ⟨t, p.pt, q⟩
theorem dw_and1 (ha : DT X W a va) : DW X W (.BoolOp .And [a] pos) va := by
  obtain ⟨t, p, q⟩ := ha
  exact ⟨t, pw_and1 p, q⟩
theorem dw_or1 (ha : DT X W a va) : DW X W (.BoolOp .Or [a] pos) va := by
  obtain ⟨t, p, q⟩ := ha
  exact ⟨t, pw_or1 p, q⟩
theorem PostT.grow {K : Frag} {mg : Mg} {F H F1 H1 : Hp} {σ : St} {Q : Bool → Hp → Prop} {m : M Bool} (g : Grow F H F1 H1) (h : PostT K mg W F H σ Q m) : PostT K mg W F1 H1 σ Q m := by
  cases m with
  | ok b => exact fun F' H' g' l => h F' H' (g.trans g') l
  | error e => exact PostX.grow g h
theorem dw_and (ha : DT X W a va) (hb : DW X W (.BoolOp .And (b :: rest) pos) vb) : DW X W (.BoolOp .And (a :: b :: rest) pos) (tAndD va vb) := by
  obtain ⟨ta, pa, qa⟩ := ha
  obtain ⟨tb, pb, qb⟩ := hb
  refine ⟨_, pw_and pa pb, fun F0 H0 F H σ δ Q E po => qa F0 H0 F H σ δ _ E ?_⟩
  unfold tAndD at po
  cases h : va δ with
  | error er => rw [h] at po; exact po
  | ok k =>
    rw [h] at po
    intro F1 H1 g l
    cases k with
    | true =>
      rw [if_pos rfl]
      exact qb F0 H0 F1 H1 σ δ Q (E.grow g l) (PostT.grow g (by simpa using po))
    | false =>
      rw [if_neg Bool.false_ne_true]
      exact (show PostT X.K X.mg W F H σ Q (.ok false) from by simpa using po) F1 H1 g l
theorem dw_or (ha : DT X W a va) (hb : DW X W (.BoolOp .Or (b :: rest) pos) vb) : DW X W (.BoolOp .Or (a :: b :: rest) pos) (tOrD va vb) := by
  obtain ⟨ta, pa, qa⟩ := ha
  obtain ⟨tb, pb, qb⟩ := hb
  refine ⟨_, pw_or pa pb, fun F0 H0 F H σ δ Q E po => qa F0 H0 F H σ δ _ E ?_⟩
  unfold tOrD at po
  cases h : va δ with
  | error er => rw [h] at po; exact po
  | ok k =>
    rw [h] at po
    intro F1 H1 g l
    cases k with
    | true =>
      rw [if_pos rfl]
      exact (show PostT X.K X.mg W F H σ Q (.ok true) from by simpa using po) F1 H1 g l
    | false =>
      rw [if_neg Bool.false_ne_true]
      exact qb F0 H0 F1 H1 σ δ Q (E.grow g l) (PostT.grow g (by simpa using po))
theorem dt_not (ha : DT X W a va) : DT X W (.UnaryOp .Not a pos) (tNotD va) := by
  obtain ⟨ta, pa, qa⟩ := ha
  refine ⟨_, pt_not pa, fun F0 H0 F H σ δ Q E po => qa F0 H0 F H σ δ _ E ?_⟩
  unfold tNotD at po
  cases h : va δ with
  | error er => rw [h] at po; exact po
  | ok k => rw [h] at po; exact po

/-! ### .. as values (bools but for the last) -/
def eAnd (a b : Ev) : Ev := fun δ => do let x ← eT a δ; if x then b δ else .ok (.bl false)
def eOr (a b : Ev) : Ev := fun δ => do let x ← eT a δ; if x then .ok (.bl true) else b δ
def eNot (a : Ev) : Ev := fun δ => do let x ← eT a δ; .ok (.bl (!x))
def eIf (c : EvT) (a b : Ev) : Ev := fun δ => do let x ← c δ; if x then a δ else b δ
theorem PostE.grow {K : Frag} {mg : Mg} {F H F1 H1 : Hp} {σ : St} {Q : VK} {m : M D} (g : Grow F H F1 H1) (h : PostE K mg W F H σ Q m) : PostE K mg W F1 H1 σ Q m := by
  cases m with
  | ok b => exact fun v F' H' g' l => h v F' H' (g.trans g') l
  | error e => exact PostX.grow g h
/-- the end of a bool operand -/
theorem PostE.bool {K : Frag} {mg : Mg} {F H : Hp} {σ : St} {Q : VK} {f : Bool → M D} {m : M D} (h : PostE K mg W F H σ Q (m >>= fun d => asB d >>= f)) :
    PostE K mg W F H σ (fun v H' => ∃ k, v = .bl k ∧ ∃ F', Grow F H F' H' ∧ Lim H' ∧ PostE K mg W F H σ Q (f k)) m := by
  cases m with
  | error e => exact h
  | ok d =>
    intro v F' H' g l r
    cases d with
    | bl k => exact ⟨k, r.bl_inv, F', g, l, h⟩
    | _ => exact h.elim
theorem bool_run {f : Bool → M D} {ta : TE} (qa : ∀ F0 H0 F H σ δ (Q : VK), EnvOk X.K X.mg F0 H0 F H σ δ → PostE X.K X.mg W F H σ Q (ea δ) → ta σ H Q) {F0 : Bs} {H0 F H : Hp} {σ : St} {δ : DEnv} {Q Q2 : VK} (E : EnvOk X.K X.mg F0 H0 F H σ δ)
    (po : PostE X.K X.mg W F H σ Q (eT ea δ >>= f)) (h : ∀ k F' H', Grow F H F' H' → Lim H' → PostE X.K X.mg W F' H' σ Q (f k) → Q2 (.bl k) H') : ta σ H Q2 := by
  refine qa F0 H0 F H σ δ Q2 E ?_
  have h2 := PostE.bool (m := ea δ) (f := f) (by
    unfold eT at po
    cases hh : ea δ with
    | error e => rw [hh] at po; exact po
    | ok d => rw [hh] at po; exact po)
  revert h2
  cases ea δ with
  | error e => exact id
  | ok d =>
    intro h2 v F' H' g l r
    obtain ⟨k, rfl, F2, g2, l2, po2⟩ := h2 v F' H' g l r
    exact h k F' H' g l (po2.grow g)
theorem de_one {op} (ha : DE X W a ea) : DE X W (.BoolOp op [a] pos) ea := by
  obtain ⟨t, p, q⟩ := ha
  exact ⟨t, pe_one p, q⟩
theorem de_and (ha : DE X W a ea) (hb : DE X W (.BoolOp .And (b :: rest) pos) eb) : DE X W (.BoolOp .And (a :: b :: rest) pos) (eAnd ea eb) := by
  obtain ⟨ta, pa, qa⟩ := ha
  obtain ⟨tb, pb, qb⟩ := hb
  refine ⟨_, PE.suf (pe_and pa pb), fun F0 H0 F H σ δ Q E po => bool_run qa E po fun k F' H' g l po' => ⟨k, rfl, ?_⟩⟩
  cases k with
  | true =>
    rw [if_pos rfl]
    refine qb F0 H0 F' H' σ δ _ (E.grow g l) ?_
    have : PostE X.K X.mg W F' H' σ Q (eb δ) := by simpa using po'
    revert this
    cases eb δ with
    | error e => exact id
    | ok d => exact fun h v F2 H2 g2 l2 r2 _ => h v F2 H2 g2 l2 r2
  | false =>
    rw [if_neg Bool.false_ne_true]
    exact fun l' => (show PostE X.K X.mg W F' H' σ Q (.ok (.bl false)) from by simpa using po') (.bl false) F' H' (.refl g.s) l' .bl
theorem de_or (ha : DE X W a ea) (hb : DE X W (.BoolOp .Or (b :: rest) pos) eb) : DE X W (.BoolOp .Or (a :: b :: rest) pos) (eOr ea eb) := by
  obtain ⟨ta, pa, qa⟩ := ha
  obtain ⟨tb, pb, qb⟩ := hb
  refine ⟨_, PE.suf (pe_or pa pb), fun F0 H0 F H σ δ Q E po => bool_run qa E po fun k F' H' g l po' => ⟨k, rfl, ?_⟩⟩
  cases k with
  | false =>
    rw [if_neg Bool.false_ne_true]
    refine qb F0 H0 F' H' σ δ _ (E.grow g l) ?_
    have : PostE X.K X.mg W F' H' σ Q (eb δ) := by simpa using po'
    revert this
    cases eb δ with
    | error e => exact id
    | ok d => exact fun h v F2 H2 g2 l2 r2 _ => h v F2 H2 g2 l2 r2
  | true =>
    rw [if_pos rfl]
    exact fun l' => (show PostE X.K X.mg W F' H' σ Q (.ok (.bl true)) from by simpa using po') (.bl true) F' H' (.refl g.s) l' .bl
theorem de_not (ha : DE X W a ea) : DE X W (.UnaryOp .Not a pos) (eNot ea) := by
  obtain ⟨ta, pa, qa⟩ := ha
  refine ⟨_, PE.suf (pe_not pa), fun F0 H0 F H σ δ Q E po => bool_run qa E po fun k F' H' g l po' => ⟨k, rfl, fun l' => ?_⟩⟩
  exact po' (.bl (!k)) F' H' (.refl g.s) l' .bl
theorem de_if {va : EvT} (hc : DT X W c va) (ha : DE X W a ea) (hb : DE X W b eb) : DE X W (.IfExp c a b pos) (eIf va ea eb) := by
  obtain ⟨tc, pc, qc⟩ := hc
  obtain ⟨ta, pa, qa⟩ := ha
  obtain ⟨tb, pb, qb⟩ := hb
  refine ⟨_, pe_ifExp pc pa pb, fun F0 H0 F H σ δ Q E po => qc F0 H0 F H σ δ _ E ?_⟩
  unfold eIf at po
  cases h : va δ with
  | error er => rw [h] at po; exact po
  | ok k =>
    rw [h] at po
    intro F1 H1 g l
    cases k with
    | true =>
      rw [if_pos rfl]
      exact qa F0 H0 F1 H1 σ δ Q (E.grow g l) (PostE.grow g (by simpa using po))
    | false =>
      rw [if_neg Bool.false_ne_true]
      exact qb F0 H0 F1 H1 σ δ Q (E.grow g l) (PostE.grow g (by simpa using po))

/-! ### names, constants -/
def eVar (i : Nat) : Ev := fun δ => match δ[i]? with
  | some (some (.val d)) => .ok d
  | _ => stk
def eVarB (i : Nat) : Ev := fun δ => match δ[i]? with
  | some (some (.val d)) => .ok d
  | some (some (.own ds)) => .ok (.lst ds)
  | _ => stk
def eC (d : D) : Ev := fun _ => .ok d
theorem de_var {i : Nat} {x : Str} (hN : X.N[i]? = some x) (hv : Vis X.env.scope x) (hd : (x == ("__debug__" : Str)) = false := by decide) (hcd : (x == ("__classdict__" : Str)) = false := by decide) : DE X W (.Name x pos) (eVar i) := by
  refine ⟨_, pe_var hN hv hd hcd, fun F0 H0 F H σ δ Q E po => ?_⟩
  unfold eVar at po
  split at po
  · rename_i d hd
    obtain ⟨v, h1, h2⟩ := E.sl i _ hd
    exact ⟨v, h1, po v F H (.refl E.g.s) E.lim h2⟩
  · exact po.elim
theorem db_var {i : Nat} {x : Str} (hN : X.N[i]? = some x) (hv : Vis X.env.scope x) (hd : (x == ("__debug__" : Str)) = false := by decide) (hcd : (x == ("__classdict__" : Str)) = false := by decide) : DB X W (.Name x pos) (eVarB i) := by
  refine ⟨_, pe_var hN hv hd hcd, fun F0 H0 F H σ δ Q E po => ?_⟩
  unfold eVarB at po
  split at po
  · rename_i d hd
    obtain ⟨v, h1, h2⟩ := E.sl i _ hd
    exact ⟨v, h1, po v F H (.refl E.g.s) E.lim (.inl h2)⟩
  · rename_i ds hd
    obtain ⟨v, h1, a, vs, h2, h3, h4, h5, h6⟩ := E.sl i _ hd
    exact ⟨v, h1, po v F H (.refl E.g.s) E.lim (.inr ⟨ds, a, vs, rfl, h2, h3, h6⟩)⟩
  · exact po.elim
theorem de_int {i : Int} {j} : DE X W (.Constant (.int i) j pos) (eC (.int i)) := ⟨_, pe_int, fun F0 H0 F H σ δ Q E po => po _ F H (.refl E.g.s) E.lim .int⟩
theorem de_bl {i : Bool} {j} : DE X W (.Constant (.bool i) j pos) (eC (.bl i)) := ⟨_, pe_bl, fun F0 H0 F H σ δ Q E po => po _ F H (.refl E.g.s) E.lim .bl⟩
theorem de_str {i : Str} {j} : DE X W (.Constant (.str i) j pos) (eC (.str i)) := ⟨_, pe_str, fun F0 H0 F H σ δ Q E po => po _ F H (.refl E.g.s) E.lim .str⟩
theorem de_non {j} : DE X W (.Constant .none j pos) (eC .non) := ⟨_, pe_non, fun F0 H0 F H σ δ Q E po => po _ F H (.refl E.g.s) E.lim .non⟩
/-- a module's constant -/
theorem de_glob {x : Str} {d : D} {v : V} {u : Value} (hg : Gl X x) (hm : X.mg x = some u) (r : RelV v u) (rd : ∀ F, R X.K X.mg F d v) (hd : (x == ("__debug__" : Str)) = false := by decide) : DE X W (.Name x pos) (eC d) :=
  ⟨_, pe_glob hg hm r hd, fun F0 H0 F H σ δ Q E po => po _ F H (.refl E.g.s) E.lim (rd F)⟩

/-! ### argument lists, displays -/
def eNil : EvA := fun _ => .ok []
def eCons (a : Ev) (r : EvA) : EvA := fun δ => do let x ← a δ; let xs ← r δ; .ok (x :: xs)
theorem da_nil : DA X W [] eNil := ⟨_, pa_nil, fun F0 H0 F H σ δ Q E po => po [] F H (.refl E.g.s) E.lim .nil⟩
variable {es : List Expr} {er : EvA}
theorem da_cons (ha : DE X W a ea) (hr : DA X W es er) (hs : starEach (a :: es) X.env = (false, eval a X.env) :: starEach es X.env := by rfl) : DA X W (a :: es) (eCons ea er) := by
  obtain ⟨ta, pa, qa⟩ := ha
  obtain ⟨tr, pr, qr⟩ := hr
  refine ⟨_, pa_cons pa pr hs, fun F0 H0 F H σ δ Q E po => qa F0 H0 F H σ δ _ E ?_⟩
  unfold eCons at po
  cases h : ea δ with
  | error e => rw [h] at po; exact po
  | ok d =>
    rw [h] at po
    intro v F1 H1 g1 l1 r1
    refine qr F0 H0 F1 H1 σ δ _ (E.grow g1 l1) ?_
    cases h2 : er δ with
    | error e => rw [h2] at po; exact PostX.grow g1 po
    | ok ds =>
      rw [h2] at po
      exact fun vs F2 H2 g2 l2 r2 => po (v :: vs) F2 H2 (g1.trans g2) l2 (.cons (r1.mono g2.f) r2)
def eTup (r : EvA) : Ev := fun δ => do let xs ← r δ; if xs.length ≤ sizeLine then .ok (.tup xs) else stk
def eLst (r : EvA) : Ev := fun δ => do let xs ← r δ; if xs.length ≤ sizeLine then .ok (.lst xs) else stk
theorem de_tup {x1} (h : DA X W es er) : DE X W (.Tuple es x1 pos) (eTup er) := by
  obtain ⟨t, p, q⟩ := h
  refine ⟨_, PE.suf (pe_tup p), fun F0 H0 F H σ δ Q E po => q F0 H0 F H σ δ _ E ?_⟩
  unfold eTup at po
  cases h : er δ with
  | error e => rw [h] at po; exact po
  | ok ds =>
    rw [h] at po
    intro vs F1 H1 g1 l1 r1
    simp only [ok_bind] at po
    by_cases hz : ds.length ≤ sizeLine
    · rw [if_pos hz] at po
      refine ⟨by rw [← r1.length]; exact hz, fun p hp l => ?_⟩
      have gn := Grow.new g1.s (o := .tup vs) hp
      exact po (.ref p) _ _ (g1.trans gn) l (.tup (.of upd_same) (r1.mono gn.f))
    · rw [if_neg hz] at po; exact po.elim
theorem de_lst (h : DA X W es er) : DE X W (.List es pos) (eLst er) := by
  obtain ⟨t, p, q⟩ := h
  refine ⟨_, PE.suf (pe_lst p), fun F0 H0 F H σ δ Q E po => q F0 H0 F H σ δ _ E ?_⟩
  unfold eLst at po
  cases h : er δ with
  | error e => rw [h] at po; exact po
  | ok ds =>
    rw [h] at po
    intro vs F1 H1 g1 l1 r1
    simp only [ok_bind] at po
    by_cases hz : ds.length ≤ sizeLine
    · rw [if_pos hz] at po
      refine ⟨by rw [← r1.length]; exact hz, fun p hp l => ?_⟩
      have gn := Grow.new g1.s (o := .lst vs) hp
      exact po (.ref p) _ _ (g1.trans gn) l (.lst upd_same (r1.mono gn.f))
    · rw [if_neg hz] at po; exact po.elim
end
end DL

namespace DL
open PySem PySem.Spec PyProof.Rows L2

section
variable {K : Frag} {mg : Mg} {F H : Hp}
theorem RB.int_inv {i : Int} {v : V} (h : RB K mg F H (.int i) v) : v = .int i := by
  rcases h with h | ⟨_, _, _, e, _⟩
  · exact h.int_inv
  · cases e
theorem RB.bl_inv {i : Bool} {v : V} (h : RB K mg F H (.bl i) v) : v = .bl i := by
  rcases h with h | ⟨_, _, _, e, _⟩
  · exact h.bl_inv
  · cases e
theorem RB.str_inv {i : Str} {v : V} (h : RB K mg F H (.str i) v) : v = .str i := by
  rcases h with h | ⟨_, _, _, e, _⟩
  · exact h.str_inv
  · cases e
theorem RB.non_inv {v : V} (h : RB K mg F H .non v) : v = .non := by
  rcases h with h | ⟨_, _, _, e, _⟩
  · exact h.non_inv
  · cases e
theorem RB.tup_inv {ds : List D} {v : V} (h : RB K mg F H (.tup ds) v) : ∃ a vs, v = .ref a ∧ SqT K F a vs ∧ Rs K mg F ds vs := by
  rcases h with h | ⟨_, _, _, e, _⟩
  · exact h.tup_inv
  · cases e
theorem RB.scr_inv {ds : List Int} {v : V} (h : RB K mg F H (.scr ds) v) : ∃ a, v = .ref a ∧ SqL K F a (ds.map V.int) := by
  rcases h with h | ⟨_, _, _, e, _⟩
  · exact h.scr_inv
  · cases e
theorem RB.obj_inv {C : Str} {ks : List Str} {ds : List D} {v : V} (h : RB K mg F H (.obj C ks ds) v) : ∃ a c dx vs, v = .ref a ∧ mg C = some (.ref c) ∧ F a = some (.ins c dx (ks.zip vs)) ∧ ks.length = vs.length ∧ Rs K mg F ds vs := by
  rcases h with h | ⟨_, _, _, e, _⟩
  · exact h.obj_inv
  · cases e
theorem RB.lst_inv (s : Same F H) {ds : List D} {v : V} (h : RB K mg F H (.lst ds) v) : ∃ a vs, v = .ref a ∧ H a = some (.lst vs) ∧ Rs K mg F ds vs := by
  rcases h with h | ⟨ds', a, vs, e, rfl, h1, h2⟩
  · obtain ⟨a, vs, rfl, h1, h2⟩ := h.lst_inv
    exact ⟨a, vs, rfl, s _ _ h1, h2⟩
  · cases e
    exact ⟨a, vs, rfl, h1, h2⟩
/-- a new list, a new tuple -/
theorem new_lst {s : Same F H} {Q : VK} {ds : List D} {vs : List V} (r : Rs K mg F ds vs) (q : PostO K mg F H Q (some (.lst ds))) : ∀ p, H p = none → Q (.ref p) (upd H p (.lst vs)) := fun p hp =>
  have g := Grow.new s (o := .lst vs) hp
  q (.ref p) _ _ g (.lst upd_same (r.mono g.f))
theorem new_tup {s : Same F H} {Q : VK} {ds : List D} {vs : List V} (r : Rs K mg F ds vs) (q : PostO K mg F H Q (some (.tup ds))) : ∀ p, H p = none → Q (.ref p) (upd H p (.tup vs)) := fun p hp =>
  have g := Grow.new s (o := .tup vs) hp
  q (.ref p) _ _ g (.tup (.of upd_same) (r.mono g.f))
/-- a value without an object -/
theorem PostO.fl {s : Same F H} {Q : VK} {d : D} {v : V} (q : PostO K mg F H Q (some d)) (r : R K mg F d v) : Q v H := q v F H (.refl s) r
end

/-! ### arithmetic -/
def oAdd : D → D → Option D
  | .int i, .int j => some (.int (i + j))
  | .str x, .str y => if x.length + y.length ≤ sizeLine then some (.str (x ++ y)) else none
  | .tup xs, .tup ys => if xs.length + ys.length ≤ sizeLine then some (.tup (xs ++ ys)) else none
  | .lst xs, .lst ys => if xs.length + ys.length ≤ sizeLine then some (.lst (xs ++ ys)) else none
  | _, _ => none
def oSub : D → D → Option D
  | .int i, .int j => some (.int (i - j))
  | _, _ => none
/-- one factor is small, or both have fewer than 400000 bits -/
def mulOk (i j : Int) : Bool := decide (-(2 ^ 64) < i ∧ i < 2 ^ 64) || decide (-(2 ^ 64) < j ∧ j < 2 ^ 64) || decide (i.natAbs.log2 + j.natAbs.log2 < 1000000)
def oMul : D → D → Option D
  | .int i, .int j => if mulOk i j then some (.int (i * j)) else none
  | .lst xs, .int k => if -(2 ^ 63) ≤ k ∧ k < 2 ^ 63 ∧ xs.length * k.toNat ≤ sizeLine then some (.lst (List.replicate k.toNat xs).flatten) else none
  | _, _ => none
def divOk (j : Int) : Bool := decide (0 < j) && decide (j.natAbs.log2 < 9000)
def oDiv : D → D → Option D
  | .int i, .int j => if divOk j then some (.int (i / j)) else none
  | _, _ => none
def oMod : D → D → Option D
  | .int i, .int j => if 0 < j then some (.int (i % j)) else none
  | _, _ => none
def oPow : D → D → Option D
  | .int i, .int j => if 0 ≤ j ∧ j ≤ 1000000 ∧ i.natAbs < 2 ^ 64 then some (.int (i ^ j.toNat)) else none
  | _, _ => none
def oNeg : D → Option D
  | .int i => some (.int (-i))
  | _ => none

theorem Rs.rep {K : Frag} {mg : Mg} {F : Hp} {ds : List D} {vs : List V} (h : Rs K mg F ds vs) : ∀ k : Nat, Rs K mg F (List.replicate k ds).flatten (List.replicate k vs).flatten
  | 0 => .nil
  | k + 1 => by
    rw [List.replicate_succ, List.replicate_succ, List.flatten_cons, List.flatten_cons]
    exact h.append (Rs.rep h k)

section
variable {X : Cx}
def rAddD (X : Cx) : R2 := fun x y H Q => (∃ i j, x = .int i ∧ y = .int j ∧ Q (.int (i + j)) H) ∨ (∃ i j, x = .str i ∧ y = .str j ∧ i.length + j.length ≤ sizeLine ∧ Q (.str (i ++ j)) H) ∨ rCatA X.K x y H Q ∨ rCat x y H Q
theorem or_add : OpR X (binaryOp .Add) (rAddD X) := (op_add (X := X)).or ((op_add_str (X := X)).or ((op_catA (X := X)).or (op_cat (X := X))))
theorem od_add : OpD X.K X.mg (rAddD X) oAdd := by
  intro F H x y a b Q s l ra rb po
  unfold oAdd at po
  split at po
  · rw [ra.int_inv, rb.int_inv]
    exact .inl ⟨_, _, rfl, rfl, PostO.fl (s := s) po .int⟩
  · rename_i x1 y1
    split at po
    · rename_i hz
      rw [ra.str_inv, rb.str_inv]
      exact .inr (.inl ⟨_, _, rfl, rfl, hz, PostO.fl (s := s) po .str⟩)
    · exact po.elim
  · rename_i xs ys
    split at po
    · rename_i hz
      obtain ⟨a1, vs, rfl, h1, r1⟩ := ra.tup_inv
      obtain ⟨a2, us, rfl, h2, r2⟩ := rb.tup_inv
      refine .inr (.inr (.inl ⟨a1, a2, vs, us, rfl, rfl, Same.sqT s h1, Same.sqT s h2, by rw [← r1.length, ← r2.length]; exact hz, fun e => ?_, fun _ e => ?_, fun _ _ => new_tup (s := s) (r1.append r2) po⟩))
      · subst e
        have : xs = [] := List.eq_nil_of_length_eq_zero (by rw [r1.length]; rfl)
        subst this
        exact PostO.fl (s := s) po (.tup h2 r2)
      · subst e
        have : ys = [] := List.eq_nil_of_length_eq_zero (by rw [r2.length]; rfl)
        subst this
        exact PostO.fl (s := s) po (.tup h1 (by rw [List.append_nil]; exact r1))
    · exact po.elim
  · rename_i xs ys
    split at po
    · rename_i hz
      obtain ⟨a1, vs, rfl, h1, r1⟩ := ra.lst_inv s
      obtain ⟨a2, us, rfl, h2, r2⟩ := rb.lst_inv s
      exact .inr (.inr (.inr ⟨a1, a2, vs, us, rfl, rfl, h1, h2, by rw [← r1.length, ← r2.length]; exact hz, new_lst (s := s) (r1.append r2) po⟩))
    · exact po.elim
  · exact po.elim
theorem od_sub : OpD X.K X.mg (rI0 fun i j => .int (i - j)) oSub := by
  intro F H x y a b Q s l ra rb po
  unfold oSub at po
  split at po
  · rw [ra.int_inv, rb.int_inv]
    exact ⟨_, _, rfl, rfl, PostO.fl (s := s) po .int⟩
  · exact po.elim
def rMulD : R2 := fun x y H Q => (∃ i j, x = .int i ∧ y = .int j ∧ CMul i j ∧ Q (.int (i * j)) H) ∨ (∃ i j, x = .int i ∧ y = .int j ∧ CMulW i j ∧ Q (.int (i * j)) H) ∨ rRep x y H Q
theorem or_mul : OpR X (binaryOp .Mult) rMulD := (op_mul (X := X)).or ((op_mulW (X := X)).or (op_rep (X := X)))
theorem od_mul : OpD X.K X.mg rMulD oMul := by
  intro F H x y a b Q s l ra rb po
  unfold oMul at po
  split at po
  · split at po
    · rename_i hz
      rw [ra.int_inv, rb.int_inv]
      unfold mulOk at hz
      rw [Bool.or_eq_true, Bool.or_eq_true] at hz
      rcases hz with (h | h) | h
      · exact .inl ⟨_, _, rfl, rfl, .inl (of_decide_eq_true h), PostO.fl (s := s) po .int⟩
      · exact .inl ⟨_, _, rfl, rfl, .inr (of_decide_eq_true h), PostO.fl (s := s) po .int⟩
      · have h2 := of_decide_eq_true h
        exact .inr (.inl ⟨_, _, rfl, rfl, h2, PostO.fl (s := s) po .int⟩)
    · exact po.elim
  · split at po
    · rename_i hz
      obtain ⟨a1, vs, rfl, h1, r1⟩ := ra.lst_inv s
      rw [rb.int_inv]
      exact .inr (.inr ⟨a1, _, vs, rfl, rfl, h1, hz.1, hz.2.1, by rw [← r1.length]; exact hz.2.2, new_lst (s := s) (r1.rep _) po⟩)
    · exact po.elim
  · exact po.elim
theorem od_div : OpD X.K X.mg (rI CDivW fun i j => .int (i / j)) oDiv := by
  intro F H x y a b Q s l ra rb po
  unfold oDiv at po
  split at po
  · split at po
    · rename_i hz
      rw [ra.int_inv, rb.int_inv]
      unfold divOk at hz
      rw [Bool.and_eq_true] at hz
      exact ⟨_, _, rfl, rfl, ⟨of_decide_eq_true hz.1, of_decide_eq_true hz.2⟩, PostO.fl (s := s) po .int⟩
    · exact po.elim
  · exact po.elim
theorem od_mod : OpD X.K X.mg (rI (fun _ j => 0 < j) fun i j => .int (i % j)) oMod := by
  intro F H x y a b Q s l ra rb po
  unfold oMod at po
  split at po
  · split at po
    · rename_i hz
      rw [ra.int_inv, rb.int_inv]
      exact ⟨_, _, rfl, rfl, hz, PostO.fl (s := s) po .int⟩
    · exact po.elim
  · exact po.elim
theorem od_pow : OpD X.K X.mg (rI CPow fun i j => .int (i ^ j.toNat)) oPow := by
  intro F H x y a b Q s l ra rb po
  unfold oPow at po
  split at po
  · split at po
    · rename_i hz
      rw [ra.int_inv, rb.int_inv]
      exact ⟨_, _, rfl, rfl, hz, PostO.fl (s := s) po .int⟩
    · exact po.elim
  · exact po.elim

/-! ### comparisons -/
def oLt : D → D → Option D
  | .int i, .int j => some (.bl (decide (i < j)))
  | _, _ => none
def oLe : D → D → Option D
  | .int i, .int j => some (.bl (decide (i ≤ j)))
  | _, _ => none
def oGt : D → D → Option D
  | .int i, .int j => some (.bl (decide (j < i)))
  | _, _ => none
def oGe : D → D → Option D
  | .int i, .int j => some (.bl (decide (j ≤ i)))
  | _, _ => none
theorem od_lt : OpD X.K X.mg (rI0 fun i j => .bl (decide (i < j))) oLt := by
  intro F H x y a b Q s l ra rb po
  unfold oLt at po
  split at po
  · rw [ra.int_inv, rb.int_inv]
    exact ⟨_, _, rfl, rfl, PostO.fl (s := s) po .bl⟩
  · exact po.elim
theorem od_le : OpD X.K X.mg (rI0 fun i j => .bl (decide (i ≤ j))) oLe := by
  intro F H x y a b Q s l ra rb po
  unfold oLe at po
  split at po
  · rw [ra.int_inv, rb.int_inv]
    exact ⟨_, _, rfl, rfl, PostO.fl (s := s) po .bl⟩
  · exact po.elim
theorem od_gt : OpD X.K X.mg (rI0 fun i j => .bl (decide (j < i))) oGt := by
  intro F H x y a b Q s l ra rb po
  unfold oGt at po
  split at po
  · rw [ra.int_inv, rb.int_inv]
    exact ⟨_, _, rfl, rfl, PostO.fl (s := s) po .bl⟩
  · exact po.elim
theorem od_ge : OpD X.K X.mg (rI0 fun i j => .bl (decide (j ≤ i))) oGe := by
  intro F H x y a b Q s l ra rb po
  unfold oGe at po
  split at po
  · rw [ra.int_inv, rb.int_inv]
    exact ⟨_, _, rfl, rfl, PostO.fl (s := s) po .bl⟩
  · exact po.elim
/-- ==: two bools, or two data without bools -/
def eqD (a b : D) : Option Bool := match a, b with
  | .bl x, .bl y => some (x == y)
  | a, b => if a.okE eqDepth && b.okE eqDepth then some (decide (a = b)) else none
def oEq (a b : D) : Option D := (eqD a b).map .bl
def oNe (a b : D) : Option D := (eqD a b).map fun k => .bl (!k)
theorem eqD_dp {F H : Hp} {K : Frag} {mg : Mg} {a b : D} {x y : V} {k : Bool} (s : Same F H) (ra : RB K mg F H a x) (rb : RB K mg F H b y) (h : eqD a b = some k) :
    ∃ d e, Dp K H x d ∧ Dp K H y e ∧ SeqAt.shaped d = true ∧ SeqAt.shaped e = true ∧ PyData.eqv d e = k := by
  unfold eqD at h
  split at h
  · rename_i p q
    rw [ra.bl_inv, rb.bl_inv]
    cases h
    refine ⟨_, _, .bl p, .bl q, by rfl, by rfl, ?_⟩
    simp only [PyData.eqv]
  · split at h
    · rename_i hz
      cases h
      rw [Bool.and_eq_true] at hz
      exact ⟨_, _, dp_of _ a x hz.1 (ra.inH s), dp_of _ b y hz.2 (rb.inH s), py_shaped hz.1, py_shaped hz.2, eqv_iff _ a b hz.1 hz.2⟩
    · cases h
theorem od_eq : OpD X.K X.mg (rEqD X.K) oEq := by
  intro F H x y a b Q s l ra rb po
  unfold oEq at po
  cases h : eqD a b with
  | none => rw [h] at po; exact po.elim
  | some k =>
    rw [h] at po
    obtain ⟨d, e, h1, h2, h3, h4, h5⟩ := eqD_dp s ra rb h
    exact ⟨d, e, h1, h2, h3, h4, by rw [h5]; exact PostO.fl (s := s) po .bl⟩
theorem od_ne : OpD X.K X.mg (rNeD X.K) oNe := by
  intro F H x y a b Q s l ra rb po
  unfold oNe at po
  cases h : eqD a b with
  | none => rw [h] at po; exact po.elim
  | some k =>
    rw [h] at po
    obtain ⟨d, e, h1, h2, h3, h4, h5⟩ := eqD_dp s ra rb h
    exact ⟨d, e, h1, h2, h3, h4, by rw [h5]; exact PostO.fl (s := s) po .bl⟩

/-! ### is: None, True, False -/
def rIsC : R2 := fun x y H Q => ∃ b : Bool, y = .bl b ∧ Q (.bl (decide (x = .bl b))) H
def rNotC : R2 := fun x y H Q => ∃ b : Bool, y = .bl b ∧ Q (.bl (!decide (x = .bl b))) H
theorem relV_bool {x : V} {v : Value} {b : Bool} (r : RelV x v) : plainIs v (.bool b) = true ∧ (v == Value.bool b) = decide (x = .bl b) := by
  cases x with
  | non => cases r; exact ⟨rfl, by simp⟩
  | bl c => cases r; exact ⟨rfl, by rw [Bool.beq_eq_decide_eq]; simp⟩
  | int _ => obtain ⟨t, rfl⟩ := r; exact ⟨rfl, by simp⟩
  | str _ => obtain ⟨t, rfl⟩ := r; exact ⟨rfl, by simp⟩
  | byt _ => obtain ⟨t, rfl⟩ := r; exact ⟨rfl, by simp⟩
  | flt _ => obtain ⟨t, rfl⟩ := r; exact ⟨rfl, by simp⟩
  | ref _ => cases r; exact ⟨rfl, by simp⟩
  | ty _ => cases r; exact ⟨rfl, by simp⟩
theorem or_isC : OpR X (compareOp .Is) rIsC := by
  intro pins s σ H x y v u Q I rx ry h
  obtain ⟨b, rfl, q⟩ := h
  cases ry
  obtain ⟨h1, h2⟩ := relV_bool (b := b) rx
  exact wpAny_is_plain h1 ⟨.bl _, H, I, by rw [h2]; rfl, q⟩
theorem or_notC : OpR X (compareOp .IsNot) rNotC := by
  intro pins s σ H x y v u Q I rx ry h
  obtain ⟨b, rfl, q⟩ := h
  cases ry
  obtain ⟨h1, h2⟩ := relV_bool (b := b) rx
  exact wpAny_isNot_plain h1 ⟨.bl _, H, I, by rw [h2]; rfl, q⟩
/-- x is None | True | False -/
def isD (a b : D) : Option Bool := match a, b with
  | .non, .non => some true
  | _, .non => some false
  | .bl x, .bl y => some (x == y)
  | _, .bl _ => some false
  | _, _ => none
def oIs (a b : D) : Option D := (isD a b).map .bl
def oIsNot (a b : D) : Option D := (isD a b).map fun k => .bl (!k)
theorem RB.shape {K : Frag} {mg : Mg} {F H : Hp} {d : D} {v : V} (r : RB K mg F H d v) : (v = .non ↔ d = .non) ∧ ∀ b, v = .bl b ↔ d = .bl b := by
  cases d with
  | non => rw [r.non_inv]; simp
  | bl _ => rw [r.bl_inv]; simp
  | int _ => rw [r.int_inv]; simp
  | str _ => rw [r.str_inv]; simp
  | tup _ => obtain ⟨a, vs, rfl, _⟩ := r.tup_inv; simp
  | scr _ => obtain ⟨a, rfl, _⟩ := r.scr_inv; simp
  | obj _ _ _ => obtain ⟨a, c, dx, vs, rfl, _⟩ := r.obj_inv; simp
  | lst _ =>
    rcases r with r | ⟨_, _, _, _, rfl, _⟩
    · obtain ⟨a, vs, rfl, _⟩ := r.lst_inv; simp
    · simp
def rIsD : R2 := fun x y H Q => (y = .non ∧ Q (.bl (decide (x = .non))) H) ∨ rIsC x y H Q
def rIsNotD : R2 := fun x y H Q => (y = .non ∧ Q (.bl (!decide (x = .non))) H) ∨ rNotC x y H Q
theorem or_is : OpR X (compareOp .Is) rIsD := (op_isN (X := X)).or or_isC
theorem or_isnot : OpR X (compareOp .IsNot) rIsNotD := (op_notN (X := X)).or or_notC
theorem isD_non {a : D} {k : Bool} (h : isD a .non = some k) : k = decide (a = .non) := by
  cases a <;> simp_all [isD]
theorem isD_bl {a : D} {b k : Bool} (h : isD a (.bl b) = some k) : k = decide (a = .bl b) := by
  cases a <;> simp_all [isD, Bool.beq_eq_decide_eq]
theorem od_is : OpD X.K X.mg rIsD oIs := by
  intro F H x y a b Q s l ra rb po
  unfold oIs at po
  cases h : isD a b with
  | none => rw [h] at po; exact po.elim
  | some k =>
    rw [h] at po
    have sh := ra.shape
    cases b with
    | non =>
      rw [rb.non_inv]
      refine .inl ⟨rfl, ?_⟩
      rw [show decide (x = .non) = k by rw [isD_non h]; exact decide_eq_decide.mpr sh.1]
      exact PostO.fl (s := s) po .bl
    | bl b =>
      rw [rb.bl_inv]
      refine .inr ⟨b, rfl, ?_⟩
      rw [show decide (x = .bl b) = k by rw [isD_bl h]; exact decide_eq_decide.mpr (sh.2 b)]
      exact PostO.fl (s := s) po .bl
    | _ => simp [isD] at h
theorem od_isnot : OpD X.K X.mg rIsNotD oIsNot := by
  intro F H x y a b Q s l ra rb po
  unfold oIsNot at po
  cases h : isD a b with
  | none => rw [h] at po; exact po.elim
  | some k =>
    rw [h] at po
    have sh := ra.shape
    cases b with
    | non =>
      rw [rb.non_inv]
      refine .inl ⟨rfl, ?_⟩
      rw [show decide (x = .non) = k by rw [isD_non h]; exact decide_eq_decide.mpr sh.1]
      exact PostO.fl (s := s) po .bl
    | bl b =>
      rw [rb.bl_inv]
      refine .inr ⟨b, rfl, ?_⟩
      rw [show decide (x = .bl b) = k by rw [isD_bl h]; exact decide_eq_decide.mpr (sh.2 b)]
      exact PostO.fl (s := s) po .bl
    | _ => simp [isD] at h
end
end DL

namespace DL
open PySem PySem.Spec PyProof.Rows L2

/-! ### items, slices, fields -/
theorem Rs.atI {K : Frag} {mg : Mg} {F : Hp} {ds : List D} {vs : List V} {i : Int} {d : D} (r : Rs K mg F ds vs) (h : L2.atI ds i = some d) : ∃ v, L2.atI vs i = some v ∧ R K mg F d v := by
  unfold L2.atI at h ⊢
  rw [r.length] at h
  cases hn : ixN vs.length i with
  | none => rw [hn] at h; cases h
  | some j =>
    rw [hn] at h
    exact r.get h
theorem atI_map {α β : Type} (f : α → β) (xs : List α) (i : Int) : L2.atI (xs.map f) i = (L2.atI xs i).map f := by
  unfold L2.atI
  rw [List.length_map]
  cases ixN xs.length i with
  | none => rfl
  | some j => simp
def oIx : D → D → Option D
  | .lst ds, .int i => L2.atI ds i
  | .tup ds, .int i => L2.atI ds i
  | .scr ns, .int i => (L2.atI ns i).map .int
  | .str x, .int i => if x.length ≤ sizeLine then (L2.atI x.cps.toList i).map fun c => .str ⟨#[c]⟩ else none
  | _, _ => none
def cutD {α : Type} (xs : List α) (lo hi : Option Int) : List α := (xs.drop (HT.sIx xs.length 0 lo)).take (HT.sIx xs.length xs.length hi - HT.sIx xs.length 0 lo)
def oSl (d : D) (lo hi : Option Int) : Option D := match d with
  | .lst ds => some (.lst (cutD ds lo hi))
  | .tup ds => some (.tup (cutD ds lo hi))
  | .scr ns => some (.lst ((cutD ns lo hi).map .int))
  | _ => none
def oFld (cs : List Str) (f : Str) : D → Option D
  | .obj C ks ds => if C ∈ cs then (ks.zip ds).lookup f else none
  | _ => none
theorem Rs.cut {K : Frag} {mg : Mg} {F : Hp} {ds : List D} {vs : List V} (r : Rs K mg F ds vs) (lo hi : Option Int) : Rs K mg F (cutD ds lo hi) (cutV vs lo hi) := by
  unfold cutD cutV
  rw [r.length]
  exact (r.drop _).take _
theorem Rs.lookup {K : Frag} {mg : Mg} {F : Hp} {f : Str} : ∀ {ks : List Str} {ds : List D} {vs : List V} {d : D}, Rs K mg F ds vs → (ks.zip ds).lookup f = some d → ∃ v, (ks.zip vs).lookup f = some v ∧ R K mg F d v
  | [], _, _, _, _, h => by simp at h
  | _ :: _, [], _, _, _, h => by simp at h
  | k :: ks, d :: ds, vs, d', r, h => by
    obtain ⟨v, t, rfl, hv, ht⟩ := r.cons_inv
    rw [List.zip_cons_cons, List.lookup_cons] at h ⊢
    cases hk : f == k with
    | true =>
      rw [hk] at h
      cases h
      exact ⟨v, rfl, hv⟩
    | false =>
      rw [hk] at h
      exact Rs.lookup ht h
theorem cutV_map {α : Type} (f : α → V) (xs : List α) (lo hi : Option Int) : cutV (xs.map f) lo hi = (cutD xs lo hi).map f := by
  unfold cutV cutD
  rw [List.length_map, List.map_take, List.map_drop]

section
variable {X : Cx} {W : WX} {e a b c : Expr} {ev ea eb ec : Ev} {pos : Pos}
theorem od_ix : OpD X.K X.mg (rIx X.K) oIx := by
  intro F H x y a b Q s l ra rb po
  unfold oIx at po
  split at po
  · rename_i ds i
    obtain ⟨a1, vs, rfl, h1, r1⟩ := ra.lst_inv s
    rw [rb.int_inv]
    cases h : L2.atI ds i with
    | none => rw [h] at po; exact po.elim
    | some d =>
      rw [h] at po
      obtain ⟨v, h2, r2⟩ := r1.atI h
      exact .inl ⟨a1, vs, i, v, rfl, rfl, .of h1, h2, PostO.fl (s := s) po r2⟩
  · rename_i ds i
    obtain ⟨a1, vs, rfl, h1, r1⟩ := ra.tup_inv
    rw [rb.int_inv]
    cases h : L2.atI ds i with
    | none => rw [h] at po; exact po.elim
    | some d =>
      rw [h] at po
      obtain ⟨v, h2, r2⟩ := r1.atI h
      exact .inr (.inl ⟨a1, vs, i, v, rfl, rfl, Same.sqT s h1, h2, PostO.fl (s := s) po r2⟩)
  · rename_i ns i
    obtain ⟨a1, rfl, h1⟩ := ra.scr_inv
    rw [rb.int_inv]
    cases h : L2.atI ns i with
    | none => rw [h] at po; exact po.elim
    | some d =>
      rw [h] at po
      exact .inl ⟨a1, _, i, .int d, rfl, rfl, s.seq h1, by rw [atI_map, h]; rfl, PostO.fl (s := s) po .int⟩
  · rename_i z i
    split at po
    · rename_i hz
      rw [rb.int_inv, ra.str_inv]
      cases h : L2.atI z.cps.toList i with
      | none => rw [h] at po; exact po.elim
      | some d =>
        rw [h] at po
        exact .inr (.inr ⟨z, i, d, rfl, rfl, hz, h, PostO.fl (s := s) po .str⟩)
    · exact po.elim
  · exact po.elim
/-- a[b] -/
theorem de_ix (ha : DB X W a ea) (hb : DB X W b eb) (hs : PlainIx b := by exact fun _ _ => rfl) : DE X W (.Subscript a b pos) (e2 oIx ea eb) := by
  obtain ⟨ta, pa, qa⟩ := ha
  obtain ⟨tb, pb, qb⟩ := hb
  exact ⟨_, PE.suf (pe_ix ix_seq pa pb hs), fun F0 H0 F H σ δ Q E po => bin_run od_ix qa qb E po.un⟩

/-- a part of a slice -/
abbrev EvO := DEnv → M (Option Int)
def oNo : EvO := fun _ => .ok none
def asI : D → M (Option Int)
  | .int i => .ok (some i)
  | _ => stk
@[simp] theorem asI_int (i : Int) : asI (.int i) = .ok (some i) := rfl
def oPart (a : Ev) : EvO := fun δ => do let x ← a δ; asI x
def PostOp (K : Frag) (mg : Mg) (W : WX) (F H : Hp) (σ : St) (Q : Option Int → Hp → Prop) : M (Option Int) → Prop
  | .ok o => ∀ F' H', Grow F H F' H' → Lim H' → Q o H'
  | .error e => PostX K mg W F H σ e
def DO (X : Cx) (W : WX) (e : Option Expr) (ev : EvO) : Prop := ∃ t : TO, PO X e t ∧ ∀ F0 H0 F H σ δ (Q : Option Int → Hp → Prop), EnvOk X.K X.mg F0 H0 F H σ δ → PostOp X.K X.mg W F H σ Q (ev δ) → t σ H Q
theorem do_none : DO X W none oNo := ⟨_, po_none, fun F0 H0 F H σ δ Q E po => po F H (.refl E.g.s) E.lim⟩
theorem do_some (h : DE X W a ea) : DO X W (some a) (oPart ea) := by
  obtain ⟨t, p, q⟩ := h
  refine ⟨_, po_some p, fun F0 H0 F H σ δ Q E po => q F0 H0 F H σ δ _ E ?_⟩
  unfold oPart at po
  cases h : ea δ with
  | error e => rw [h] at po; exact po
  | ok d =>
    rw [h] at po
    intro v F1 H1 g l r
    cases d with
    | int i => exact ⟨i, r.int_inv, po F1 H1 g l⟩
    | _ => exact po.elim
variable {ol oh : EvO} {lo hi : Option Expr} {p2 : Pos}
def eSl (a : Ev) (l h : EvO) : Ev := fun δ => do let x ← a δ; let i ← l δ; let j ← h δ; lft (oSl x i j)
def rSlD (K : Frag) : V → Option Int → Option Int → Hp → VK → Prop := fun x lo hi H Q => rSlL K x lo hi H Q ∨ rSlA K x lo hi H Q
theorem sl_D : SlR X (rSlD X.K) := sl_list.or sl_tupA
theorem de_slice (ha : DB X W a ea) (hl : DO X W lo ol) (hh : DO X W hi oh) : DE X W (.Subscript a (.Slice lo hi none p2) pos) (eSl ea ol oh) := by
  obtain ⟨ta, pa, qa⟩ := ha
  obtain ⟨tl, pl, ql⟩ := hl
  obtain ⟨th, ph, qh⟩ := hh
  refine ⟨_, PE.suf (pe_slice sl_D pa pl ph), fun F0 H0 F H σ δ Q E po => qa F0 H0 F H σ δ _ E ?_⟩
  unfold eSl at po
  cases h1 : ea δ with
  | error e => rw [h1] at po; exact po
  | ok d =>
    rw [h1] at po
    intro v F1 H1 g1 l1 r1
    refine ql F0 H0 F1 H1 σ δ _ (E.grow g1 l1) ?_
    cases h2 : ol δ with
    | error e => rw [h2] at po; exact PostX.grow g1 po
    | ok i =>
      rw [h2] at po
      intro F2 H2 g2 l2
      refine qh F0 H0 F2 H2 σ δ _ (E.grow (g1.trans g2) l2) ?_
      cases h3 : oh δ with
      | error e => rw [h3] at po; exact PostX.grow (g1.trans g2) po
      | ok j =>
        rw [h3] at po
        intro F3 H3 g3 l3
        simp only [ok_bind] at po
        have g := g1.trans (g2.trans g3)
        have r := r1.grow (g2.trans g3)
        cases d with
        | lst ds =>
          obtain ⟨a1, vs, rfl, h1, r1⟩ := r.lst_inv g.s
          exact .inl ⟨a1, vs, rfl, .of h1, fun p hp lm => (new_lst (s := g.s) (Q := fun v H' => Lim H' → Q v H') (r1.cut i j) fun v F' H' g' r' l' => po v F' H' (g.trans g') l' r') p hp lm⟩
        | tup ds =>
          obtain ⟨a1, vs, rfl, h1, r1⟩ := r.tup_inv
          refine .inr ⟨a1, vs, rfl, Same.sqT g.s h1, fun hw lm => ?_, fun _ p hp lm => (new_tup (s := g.s) (Q := fun v H' => Lim H' → Q v H') (r1.cut i j) fun v F' H' g' r' l' => po v F' H' (g.trans g') l' r') p hp lm⟩
          have hc : cutD ds i j = ds := by
            unfold cutD
            rw [r1.length, hw.1, hw.2, List.drop_zero, Nat.sub_zero, ← r1.length, List.take_length]
          exact po (.ref a1) F3 H3 g lm (.tup h1 (by rw [hc]; exact r1))
        | scr ns =>
          obtain ⟨a1, rfl, h1⟩ := r.scr_inv
          refine .inl ⟨a1, _, rfl, g.s.seq h1, fun p hp lm => ?_⟩
          rw [cutV_map] at lm ⊢
          exact (new_lst (s := g.s) (Q := fun v H' => Lim H' → Q v H') Rs.ints fun v F' H' g' r' l' => po v F' H' (g.trans g') l' r') p hp lm
        | _ => exact po.elim

/-- a class (by its name) whose instances bear the attribute f -/
def FldOk (K : Frag) (mg : Mg) (cs : List Str) (f : Str) : Prop := ∀ C ∈ cs, ∀ c, mg C = some (.ref c) → Cls K c ∧ NoAttr K c f
theorem de_fld {cs : List Str} {f : Str} (hf : FldOk X.K X.mg cs f) (ha : DE X W a ea) (hb : attributeBase a f X.env (eval a X.env) = eval a X.env := by rfl) : DE X W (.Attribute a f pos) (e1 (oFld cs f) ea) := by
  obtain ⟨t, p, q⟩ := ha
  refine ⟨_, PE.suf (pe_fld p hb), fun F0 H0 F H σ δ Q E po => q F0 H0 F H σ δ _ E ?_⟩
  unfold e1 at po
  cases h : ea δ with
  | error e => rw [h] at po; exact po
  | ok d =>
    rw [h] at po
    intro v F1 H1 g l r
    cases d with
    | obj C ks ds =>
      simp only [ok_bind, oFld] at po
      by_cases hc : C ∈ cs
      · rw [if_pos hc] at po
        obtain ⟨a, c, dx, vs, rfl, hm, h1, hl, rr⟩ := r.obj_inv
        obtain ⟨c1, c2⟩ := hf C hc c hm
        cases hk : (ks.zip ds).lookup f with
        | none => rw [hk] at po; exact po.elim
        | some d =>
          rw [hk] at po
          obtain ⟨w, h2, r2⟩ := rr.lookup hk
          exact ⟨a, c, dx, _, w, rfl, g.s _ _ h1, c1, c2, h2, fun lm => po w F1 H1 g lm r2⟩
      · rw [if_neg hc] at po; exact po.elim
    | _ => exact po.elim

/-! ### calls of built-ins -/
def OpD1 (K : Frag) (mg : Mg) (r : List V → Hp → VK → Prop) (op : D → Option D) : Prop :=
  ∀ F H x a (Q : VK), Same F H → Lim H → RB K mg F H a x → PostO K mg F H Q (op a) → r [x] H Q
def OpD2 (K : Frag) (mg : Mg) (r : List V → Hp → VK → Prop) (op : D → D → Option D) : Prop :=
  ∀ F H x y a b (Q : VK), Same F H → Lim H → RB K mg F H a x → RB K mg F H b y → PostO K mg F H Q (op a b) → r [x, y] H Q
theorem un_run {r : List V → Hp → VK → Prop} {op : D → Option D} (hr : OpD1 X.K X.mg r op) {ta : TE}
    (qa : ∀ F0 H0 F H σ δ (Q : VK), EnvOk X.K X.mg F0 H0 F H σ δ → PostB X.K X.mg W F H σ Q (ea δ) → ta σ H Q)
    {F0 : Bs} {H0 F H : Hp} {σ : St} {δ : DEnv} {Q : VK} (E : EnvOk X.K X.mg F0 H0 F H σ δ)
    (po : PostE' X.K X.mg W F H σ Q (e1 op ea δ)) : tCB r (tCons ta tNil) σ H Q := by
  refine qa F0 H0 F H σ δ _ E ?_
  unfold e1 at po
  cases ha : ea δ with
  | error er => rw [ha] at po; exact po
  | ok da =>
    rw [ha] at po
    intro v1 F1 H1 g1 l1 r1
    refine hr F1 H1 v1 da Q g1.s l1 r1 ?_
    simp only [ok_bind] at po
    cases ho : op da with
    | none => rw [ho] at po; exact po
    | some d =>
      rw [ho] at po
      exact fun v F' H' g r => po v F' H' (g1.trans g) r
theorem bi_run {r : List V → Hp → VK → Prop} {op : D → D → Option D} (hr : OpD2 X.K X.mg r op) {ta tb : TE}
    (qa : ∀ F0 H0 F H σ δ (Q : VK), EnvOk X.K X.mg F0 H0 F H σ δ → PostB X.K X.mg W F H σ Q (ea δ) → ta σ H Q)
    (qb : ∀ F0 H0 F H σ δ (Q : VK), EnvOk X.K X.mg F0 H0 F H σ δ → PostB X.K X.mg W F H σ Q (eb δ) → tb σ H Q)
    {F0 : Bs} {H0 F H : Hp} {σ : St} {δ : DEnv} {Q : VK} (E : EnvOk X.K X.mg F0 H0 F H σ δ)
    (po : PostE' X.K X.mg W F H σ Q (e2 op ea eb δ)) : tCB r (tCons ta (tCons tb tNil)) σ H Q :=
  bin_run (r := fun x y H Q => r [x, y] H Q) (fun F H x y a b Q => hr F H x y a b Q) qa qb E po
variable {x : Str} {p : Pos} {id T : String} {r : List V → Hp → VK → Prop}
theorem de_b1 {op : D → Option D} (hc : CallR X (.builtin id) r) (hr : OpD1 X.K X.mg r op) (hg : Gl X x) (hm : X.mg x = none) (hv : bootBuiltins x = some (.builtin id)) (ha : DB X W a ea) (hn : x ≠ "__name__" := by decide) (hdb : (x == ("__debug__" : Str)) = false := by decide)
    (he : starEach [a] X.env = (false, eval a X.env) :: starEach [] X.env := by rfl) : DE X W (.Call (.Name x p) [a] [] pos) (e1 op ea) := by
  obtain ⟨ta, pa, qa⟩ := ha
  exact ⟨_, PE.suf (pe_callB hc hg hm hv (pa_cons pa pa_nil he) hn hdb he rfl), fun F0 H0 F H σ δ Q E po => un_run hr qa E po.un⟩
theorem de_t1 {op : D → Option D} (hc : CallR X (.type T) r) (hr : OpD1 X.K X.mg r op) (hg : Gl X x) (hm : X.mg x = none) (hv : bootBuiltins x = some (.type T)) (ha : DB X W a ea) (hn : x ≠ "__name__" := by decide) (hdb : (x == ("__debug__" : Str)) = false := by decide)
    (he : starEach [a] X.env = (false, eval a X.env) :: starEach [] X.env := by rfl) : DE X W (.Call (.Name x p) [a] [] pos) (e1 op ea) := by
  obtain ⟨ta, pa, qa⟩ := ha
  exact ⟨_, PE.suf (pe_callTy hc hg hm hv (pa_cons pa pa_nil he) hn hdb he rfl), fun F0 H0 F H σ δ Q E po => un_run hr qa E po.un⟩
theorem de_b2 {op : D → D → Option D} (hc : CallR X (.builtin id) r) (hr : OpD2 X.K X.mg r op) (hg : Gl X x) (hm : X.mg x = none) (hv : bootBuiltins x = some (.builtin id)) (ha : DB X W a ea) (hb : DB X W b eb) (hn : x ≠ "__name__" := by decide) (hdb : (x == ("__debug__" : Str)) = false := by decide)
    (he : starEach [a, b] X.env = (false, eval a X.env) :: starEach [b] X.env := by rfl) (he2 : starEach [b] X.env = (false, eval b X.env) :: starEach [] X.env := by rfl) : DE X W (.Call (.Name x p) [a, b] [] pos) (e2 op ea eb) := by
  obtain ⟨ta, pa, qa⟩ := ha
  obtain ⟨tb, pb, qb⟩ := hb
  exact ⟨_, PE.suf (pe_callB hc hg hm hv (pa_cons pa (pa_cons pb pa_nil he2) he) hn hdb he (by rw [he2]; rfl)), fun F0 H0 F H σ δ Q E po => bi_run hr qa qb E po.un⟩

/-! ### len, int, abs, max, min, list, tuple, sum, sorted -/
def oLen : D → Option D
  | .lst ds => some (.int ds.length)
  | .tup ds => some (.int ds.length)
  | .scr ns => some (.int ns.length)
  | .str z => if z.length ≤ sizeLine then some (.int z.length) else none
  | _ => none
def rLenD (K : Frag) : List V → Hp → VK → Prop := fun xs H Q => (∃ p ys, xs = [.ref p] ∧ (SqL K H p ys ∨ SqT K H p ys) ∧ Q (.int ys.length) H) ∨ (∃ z, xs = [.str z] ∧ z.length ≤ sizeLine ∧ Q (.int z.length) H)
theorem cr_len : CallR X (.builtin "len") (rLenD X.K) := call_len_seq.or call_len_str
theorem o1_len : OpD1 X.K X.mg (rLenD X.K) oLen := by
  intro F H x a Q s l ra po
  unfold oLen at po
  split at po
  · obtain ⟨p, vs, rfl, h1, r1⟩ := ra.lst_inv s
    exact .inl ⟨p, vs, rfl, .inl (.of h1), by rw [← r1.length]; exact PostO.fl (s := s) po .int⟩
  · obtain ⟨p, vs, rfl, h1, r1⟩ := ra.tup_inv
    exact .inl ⟨p, vs, rfl, .inr (Same.sqT s h1), by rw [← r1.length]; exact PostO.fl (s := s) po .int⟩
  · obtain ⟨p, rfl, h1⟩ := ra.scr_inv
    exact .inl ⟨p, _, rfl, .inl (s.seq h1), by rw [List.length_map]; exact PostO.fl (s := s) po .int⟩
  · split at po
    · rename_i hz
      rw [ra.str_inv]
      exact .inr ⟨_, rfl, hz, PostO.fl (s := s) po .int⟩
    · exact po.elim
  · exact po.elim
def oInt : D → Option D
  | .int i => some (.int i)
  | .bl b => some (.int (if b then 1 else 0))
  | _ => none
theorem o1_int : OpD1 X.K X.mg (fun xs H Q => (∃ i, xs = [.int i] ∧ Q (.int i) H) ∨ ∃ k, xs = [.bl k] ∧ Q (.int (if k then 1 else 0)) H) oInt := by
  intro F H x a Q s l ra po
  unfold oInt at po
  split at po
  · rw [ra.int_inv]
    exact .inl ⟨_, rfl, PostO.fl (s := s) po .int⟩
  · rw [ra.bl_inv]
    exact .inr ⟨_, rfl, PostO.fl (s := s) po .int⟩
  · exact po.elim
def oAbs : D → Option D
  | .int i => some (.int (if i < 0 then -i else i))
  | _ => none
theorem o1_abs : OpD1 X.K X.mg (fun xs H Q => ∃ i, xs = [.int i] ∧ Q (.int (if i < 0 then -i else i)) H) oAbs := by
  intro F H x a Q s l ra po
  unfold oAbs at po
  split at po
  · rw [ra.int_inv]
    exact ⟨_, rfl, PostO.fl (s := s) po .int⟩
  · exact po.elim
def oMax2 : D → D → Option D
  | .int i, .int j => some (.int (if j > i then j else i))
  | _, _ => none
def oMin2 : D → D → Option D
  | .int i, .int j => some (.int (if j < i then j else i))
  | _, _ => none
theorem o2_max : OpD2 X.K X.mg (fun xs H Q => ∃ i j, xs = [.int i, .int j] ∧ Q (.int (if j > i then j else i)) H) oMax2 := by
  intro F H x y a b Q s l ra rb po
  unfold oMax2 at po
  split at po
  · rw [ra.int_inv, rb.int_inv]
    exact ⟨_, _, rfl, PostO.fl (s := s) po .int⟩
  · exact po.elim
theorem o2_min : OpD2 X.K X.mg (fun xs H Q => ∃ i j, xs = [.int i, .int j] ∧ Q (.int (if j < i then j else i)) H) oMin2 := by
  intro F H x y a b Q s l ra rb po
  unfold oMin2 at po
  split at po
  · rw [ra.int_inv, rb.int_inv]
    exact ⟨_, _, rfl, PostO.fl (s := s) po .int⟩
  · exact po.elim
def oList : D → Option D
  | .lst ds => some (.lst ds)
  | .tup ds => some (.lst ds)
  | .scr ns => some (.lst (ns.map .int))
  | _ => none
theorem o1_list : OpD1 X.K X.mg (fun xs H Q => ∃ p ys, xs = [.ref p] ∧ (SqL X.K H p ys ∨ SqT X.K H p ys) ∧ ∀ l, H l = none → Q (.ref l) (upd H l (.lst ys))) oList := by
  intro F H x a Q s l ra po
  unfold oList at po
  split at po
  · obtain ⟨p, vs, rfl, h1, r1⟩ := ra.lst_inv s
    exact ⟨p, vs, rfl, .inl (.of h1), new_lst (s := s) r1 po⟩
  · obtain ⟨p, vs, rfl, h1, r1⟩ := ra.tup_inv
    exact ⟨p, vs, rfl, .inr (Same.sqT s h1), new_lst (s := s) r1 po⟩
  · obtain ⟨p, rfl, h1⟩ := ra.scr_inv
    exact ⟨p, _, rfl, .inl (s.seq h1), new_lst (s := s) Rs.ints po⟩
  · exact po.elim
def oTuple : D → Option D
  | .lst ds => some (.tup ds)
  | .tup ds => some (.tup ds)
  | .scr ns => some (.tup (ns.map .int))
  | _ => none
theorem o1_tuple : OpD1 X.K X.mg (fun xs H Q => ∃ p ys, xs = [.ref p] ∧ ((SqL X.K H p ys ∧ ∀ l, H l = none → Q (.ref l) (upd H l (.tup ys))) ∨ (SqT X.K H p ys ∧ Q (.ref p) H))) oTuple := by
  intro F H x a Q s l ra po
  unfold oTuple at po
  split at po
  · obtain ⟨p, vs, rfl, h1, r1⟩ := ra.lst_inv s
    exact ⟨p, vs, rfl, .inl ⟨.of h1, new_tup (s := s) r1 po⟩⟩
  · obtain ⟨p, vs, rfl, h1, r1⟩ := ra.tup_inv
    exact ⟨p, vs, rfl, .inr ⟨Same.sqT s h1, PostO.fl (s := s) po (.tup h1 r1)⟩⟩
  · obtain ⟨p, rfl, h1⟩ := ra.scr_inv
    exact ⟨p, _, rfl, .inl ⟨s.seq h1, new_tup (s := s) Rs.ints po⟩⟩
  · exact po.elim
/-- ints alone -/
def asInts : List D → Option (List Int)
  | [] => some []
  | .int i :: r => (asInts r).map (i :: ·)
  | _ :: _ => none
theorem asInts_eq : ∀ {ds : List D} {ns : List Int}, asInts ds = some ns → ds = ns.map .int
  | [], ns, h => by cases h; rfl
  | d :: ds, ns, h => by
    cases d with
    | int i =>
      unfold asInts at h
      cases h2 : asInts ds with
      | none => rw [h2] at h; cases h
      | some r =>
        rw [h2] at h
        cases h
        rw [asInts_eq h2]; rfl
    | _ => cases h
@[simp] theorem asInts_map : ∀ (ns : List Int), asInts (ns.map .int) = some ns
  | [] => rfl
  | n :: ns => by
    show (asInts (ns.map .int)).map (n :: ·) = _
    rw [asInts_map ns]; rfl
/-- a list of ints -/
def lstInts : D → Option (List Int)
  | .lst ds => asInts ds
  | _ => none
theorem RB.ints {K : Frag} {mg : Mg} {F H : Hp} {d : D} {v : V} {ns : List Int} (s : Same F H) (h : lstInts d = some ns) (r : RB K mg F H d v) : ∃ a, v = .ref a ∧ H a = some (.lst (ns.map V.int)) := by
  cases d with
  | lst ds =>
    obtain ⟨a, vs, rfl, h1, r1⟩ := r.lst_inv s
    rw [asInts_eq h] at r1
    rw [r1.ints_inv] at h1
    exact ⟨a, rfl, h1⟩
  | _ => cases h
def oSum (d : D) : Option D := (lstInts d).map fun ns => .int ns.sum
theorem o1_sum : OpD1 X.K X.mg (rSum X.K) oSum := by
  intro F H x a Q s l ra po
  unfold oSum at po
  cases h : lstInts a with
  | none => rw [h] at po; exact po.elim
  | some ns =>
    rw [h] at po
    obtain ⟨p, rfl, h1⟩ := ra.ints s h
    exact ⟨p, ns, rfl, .of h1, PostO.fl (s := s) po .int⟩
def maxI : List Int → Option Int
  | [] => none
  | x :: r => some (r.foldl (fun m y => if m < y then y else m) x)
def minI : List Int → Option Int
  | [] => none
  | x :: r => some (r.foldl (fun m y => if y < m then y else m) x)
theorem foldl_max : ∀ (l : List Int) (x : Int), (l.foldl (fun m y => if m < y then y else m) x = x ∨ l.foldl (fun m y => if m < y then y else m) x ∈ l) ∧ x ≤ l.foldl (fun m y => if m < y then y else m) x ∧ ∀ y ∈ l, y ≤ l.foldl (fun m y => if m < y then y else m) x
  | [], x => ⟨.inl rfl, Int.le_refl _, fun _ h => by cases h⟩
  | y :: l, x => by
    rw [List.foldl_cons]
    obtain ⟨h1, h2, h3⟩ := foldl_max l (if x < y then y else x)
    refine ⟨?_, ?_, fun z hz => ?_⟩
    · rcases h1 with h1 | h1
      · rw [h1]
        split
        · exact .inr List.mem_cons_self
        · exact .inl rfl
      · exact .inr (List.mem_cons_of_mem _ h1)
    · refine Int.le_trans ?_ h2
      split <;> omega
    · rcases List.mem_cons.mp hz with rfl | hz
      · refine Int.le_trans ?_ h2
        split <;> omega
      · exact h3 z hz
theorem foldl_min : ∀ (l : List Int) (x : Int), (l.foldl (fun m y => if y < m then y else m) x = x ∨ l.foldl (fun m y => if y < m then y else m) x ∈ l) ∧ l.foldl (fun m y => if y < m then y else m) x ≤ x ∧ ∀ y ∈ l, l.foldl (fun m y => if y < m then y else m) x ≤ y
  | [], x => ⟨.inl rfl, Int.le_refl _, fun _ h => by cases h⟩
  | y :: l, x => by
    rw [List.foldl_cons]
    obtain ⟨h1, h2, h3⟩ := foldl_min l (if y < x then y else x)
    refine ⟨?_, ?_, fun z hz => ?_⟩
    · rcases h1 with h1 | h1
      · rw [h1]
        split
        · exact .inr List.mem_cons_self
        · exact .inl rfl
      · exact .inr (List.mem_cons_of_mem _ h1)
    · refine Int.le_trans h2 ?_
      split <;> omega
    · rcases List.mem_cons.mp hz with rfl | hz
      · refine Int.le_trans h2 ?_
        split <;> omega
      · exact h3 z hz
theorem maxI_spec {ns : List Int} {m : Int} (h : maxI ns = some m) : m ∈ ns ∧ ∀ y ∈ ns, y ≤ m := by
  cases ns with
  | nil => cases h
  | cons x r =>
    cases h
    obtain ⟨h1, h2, h3⟩ := foldl_max r x
    refine ⟨?_, fun y hy => ?_⟩
    · rcases h1 with h1 | h1
      · rw [h1]; exact List.mem_cons_self
      · exact List.mem_cons_of_mem _ h1
    · rcases List.mem_cons.mp hy with rfl | hy
      · exact h2
      · exact h3 y hy
theorem minI_spec {ns : List Int} {m : Int} (h : minI ns = some m) : m ∈ ns ∧ ∀ y ∈ ns, m ≤ y := by
  cases ns with
  | nil => cases h
  | cons x r =>
    cases h
    obtain ⟨h1, h2, h3⟩ := foldl_min r x
    refine ⟨?_, fun y hy => ?_⟩
    · rcases h1 with h1 | h1
      · rw [h1]; exact List.mem_cons_self
      · exact List.mem_cons_of_mem _ h1
    · rcases List.mem_cons.mp hy with rfl | hy
      · exact h2
      · exact h3 y hy
def oMax (d : D) : Option D := (lstInts d).bind fun ns => (maxI ns).map .int
def oMin (d : D) : Option D := (lstInts d).bind fun ns => (minI ns).map .int
theorem o1_max : OpD1 X.K X.mg (rMax X.K) oMax := by
  intro F H x a Q s l ra po
  unfold oMax at po
  cases h : lstInts a with
  | none => rw [h] at po; exact po.elim
  | some ns =>
    rw [h] at po
    obtain ⟨p, rfl, h1⟩ := ra.ints s h
    cases h2 : maxI ns with
    | none => simp only [Option.bind_some, h2] at po; exact po.elim
    | some m =>
      simp only [Option.bind_some, h2] at po
      obtain ⟨m1, m2⟩ := maxI_spec h2
      refine ⟨p, ns, rfl, .of h1, List.length_pos_of_mem m1, fun k k1 k2 => ?_⟩
      have e : k = m := Int.le_antisymm (m2 k k1) (k2 m m1)
      subst e
      exact PostO.fl (s := s) po .int
theorem o1_min : OpD1 X.K X.mg (rMin X.K) oMin := by
  intro F H x a Q s l ra po
  unfold oMin at po
  cases h : lstInts a with
  | none => rw [h] at po; exact po.elim
  | some ns =>
    rw [h] at po
    obtain ⟨p, rfl, h1⟩ := ra.ints s h
    cases h2 : minI ns with
    | none => simp only [Option.bind_some, h2] at po; exact po.elim
    | some m =>
      simp only [Option.bind_some, h2] at po
      obtain ⟨m1, m2⟩ := minI_spec h2
      refine ⟨p, ns, rfl, .of h1, List.length_pos_of_mem m1, fun k k1 k2 => ?_⟩
      have e : k = m := Int.le_antisymm (k2 m m1) (m2 k k1)
      subst e
      exact PostO.fl (s := s) po .int
/-- in order -/
def srt (ns : List Int) : List Int := ns.mergeSort fun a b => decide (a ≤ b)
theorem srt_perm (ns : List Int) : (srt ns).Perm ns := List.mergeSort_perm _ _
theorem srt_sorted (ns : List Int) : (srt ns).Pairwise (· ≤ ·) := by
  have h := List.pairwise_mergeSort (le := fun a b : Int => decide (a ≤ b)) (fun a b c h1 h2 => by simp only [decide_eq_true_eq] at *; omega) (fun a b => by simp only [Bool.or_eq_true, decide_eq_true_eq]; omega) ns
  exact h.imp fun h => by simpa using h
theorem sorted_unique : ∀ {xs ys : List Int}, xs.Perm ys → xs.Pairwise (· ≤ ·) → ys.Pairwise (· ≤ ·) → xs = ys
  | [], ys, p, _, _ => (List.nil_perm.mp p).symm
  | x :: xs, ys, p, h1, h2 => by
    cases ys with
    | nil => exact absurd p.symm.nil_eq (by simp)
    | cons y ys =>
      have hx := List.pairwise_cons.mp h1
      have hy := List.pairwise_cons.mp h2
      have e : x = y := by
        have m1 : x ∈ y :: ys := p.mem_iff.mp List.mem_cons_self
        have m2 : y ∈ x :: xs := p.mem_iff.mpr List.mem_cons_self
        rcases List.mem_cons.mp m1 with e | m1
        · exact e
        · rcases List.mem_cons.mp m2 with e | m2
          · exact e.symm
          · exact Int.le_antisymm (hx.1 y m2) (hy.1 x m1)
      subst e
      rw [sorted_unique (List.Perm.cons_inv p) hx.2 hy.2]
def oSorted (d : D) : Option D := (lstInts d).map fun ns => .lst ((srt ns).map .int)
theorem o1_sorted : OpD1 X.K X.mg (rSortedI X.K) oSorted := by
  intro F H x a Q s l ra po
  unfold oSorted at po
  cases h : lstInts a with
  | none => rw [h] at po; exact po.elim
  | some ns =>
    rw [h] at po
    obtain ⟨p, rfl, h1⟩ := ra.ints s h
    refine ⟨p, ns, rfl, .of h1, fun ns' q p1 p2 hq => ?_⟩
    have e : ns' = srt ns := sorted_unique (p1.trans (srt_perm ns).symm) p2 (srt_sorted ns)
    subst e
    exact new_lst (s := s) Rs.ints po q hq
end
end DL

namespace DL
open PySem PySem.Spec PyProof.Rows L2

/-! ### what is walked -/
def ItOk (K : Frag) (mg : Mg) (F : Hp) (xs : List D) (J : It) : Prop := ∀ F2 H2, Same F F2 → Same F2 H2 → Lim H2 → ∀ i : Nat,
  (∀ d, xs[i]? = some d → J.go i H2 ∧ ∀ x H3, J.yld i H2 x H3 → Lim H3 ∧ ∃ F3, Grow F2 H2 F3 H3 ∧ R K mg F3 d x) ∧ (i = xs.length → J.stop i H2)
def PostI (K : Frag) (mg : Mg) (W : WX) (F H : Hp) (σ : St) (Q : It → Hp → Prop) : M (List D) → Prop
  | .ok xs => ∀ J F' H', Grow F H F' H' → Lim H' → xs.length ≤ sizeLine → ItOk K mg F' xs J → Q J H'
  | .error e => PostX K mg W F H σ e
def DI (X : Cx) (W : WX) (tg iter : Expr) (ev : EvA) : Prop := ∃ t : TI, PI X tg iter t ∧ ∀ F0 H0 F H σ δ (Q : It → Hp → Prop), EnvOk X.K X.mg F0 H0 F H σ δ → PostI X.K X.mg W F H σ Q (ev δ) → t σ H Q
theorem PI.suf {X : Cx} {tg iter : Expr} {t : TI} (h : PI X tg iter t) : PI X tg iter (fun σ H Q => t σ H fun J H' => Lim H' → Q J H') :=
  ⟨fun pins s σ H R I w => thn (h.run pins s σ H _ I w) fun v s1 q => thn q fun itv s2 ⟨it, fp, tn, J, H', e, I', T, st, f, r⟩ => ⟨it, fp, tn, J, H', e, I', T, st, f, r (.of I'.hok)⟩⟩
theorem PI.or {X : Cx} {tg iter : Expr} {t u : TI} (h : PI X tg iter t) (h' : PI X tg iter u) : PI X tg iter (fun σ H Q => t σ H Q ∨ u σ H Q) :=
  ⟨fun pins s σ H R I w => w.elim (h.run pins s σ H R I) (h'.run pins s σ H R I)⟩
theorem PG.or {X : Cx} {tg : Expr} {t u : TG} (h : PG X tg t) (h' : PG X tg u) : PG X tg (fun v σ H Q => t v σ H Q ∨ u v σ H Q) :=
  ⟨fun pins s σ H v x Q I r w => w.elim (h.run pins s σ H v x Q I r) (h'.run pins s σ H v x Q I r)⟩
theorem PE.or {X : Cx} {e : Expr} {t u : TE} (h : PE X e t) (h' : PE X e u) : PE X e (fun σ H Q => t σ H Q ∨ u σ H Q) :=
  ⟨fun pins s σ H Q I w => w.elim (h.run pins s σ H Q I) (h'.run pins s σ H Q I)⟩

def asL : D → M (List D)
  | .lst ds => .ok ds
  | .tup ds => .ok ds
  | .scr ns => .ok (ns.map .int)
  | _ => stk
@[simp] theorem asL_lst (ds : List D) : asL (.lst ds) = .ok ds := rfl
@[simp] theorem asL_tup (ds : List D) : asL (.tup ds) = .ok ds := rfl
@[simp] theorem asL_scr (ds : List Int) : asL (.scr ds) = .ok (ds.map .int) := rfl
def eIter (a : Ev) : EvA := fun δ => do let x ← a δ; asL x
def irange (lo : Int) (n : Nat) : List D := (List.range n).map fun i : Nat => .int (lo + (i : Int))
theorem irange_length (lo : Int) (n : Nat) : (irange lo n).length = n := by unfold irange; rw [List.length_map, List.length_range]
theorem irange_get (lo : Int) (n i : Nat) (d : D) : (irange lo n)[i]? = some d ↔ i < n ∧ d = .int (lo + i) := by
  unfold irange
  rw [List.getElem?_map]
  by_cases h : i < n
  · rw [List.getElem?_range h]
    simp [h, eq_comm]
  · rw [List.getElem?_eq_none (by rw [List.length_range]; omega)]
    simp [h]
def rng (lo hi : Int) : M (List D) := if -(2 ^ 62) ≤ lo ∧ lo < 2 ^ 62 ∧ -(2 ^ 62) ≤ hi ∧ hi < 2 ^ 62 ∧ (hi - lo).toNat ≤ sizeLine then .ok (irange lo (hi - lo).toNat) else stk
def eRng1 (a : Ev) : EvA := fun δ => do let x ← a δ; match x with
  | .int n => rng 0 n
  | _ => stk
def eRng2 (a b : Ev) : EvA := fun δ => do let x ← a δ; let y ← b δ; match x, y with
  | .int m, .int n => rng m n
  | _, _ => stk

section
variable {K : Frag} {mg : Mg} {F : Hp}
theorem itOk_list {a : Addr} {vs : List V} {xs : List D} (h : SqL K F a vs) (r : Rs K mg F xs vs) (inj : ∀ H2, Same F H2 → ∀ us, SqL K H2 a us → us = vs) : ItOk K mg F xs (Itl K a) := by
  intro F2 H2 s1 s2 l i
  have hs := (s1.trans s2).seq h
  refine ⟨fun d hd => ?_, fun e => ⟨vs, hs, by rw [e, r.length]; exact Nat.le_refl _⟩⟩
  obtain ⟨v, hv, rv⟩ := r.get hd
  refine ⟨⟨vs, v, hs, hv⟩, fun x H3 y => ?_⟩
  obtain ⟨rfl, y⟩ := y
  have e := (y vs hs).symm.trans hv
  cases e
  exact ⟨l, F2, .refl s2, rv.mono s1⟩
theorem itOk_tup {a : Addr} {vs : List V} {xs : List D} (h : SqT K F a vs) (r : Rs K mg F xs vs) : ItOk K mg F xs (Itt K a) := by
  intro F2 H2 s1 s2 l i
  have hs := Same.sqT (s1.trans s2) h
  refine ⟨fun d hd => ?_, fun e => ⟨vs, hs, by rw [e, r.length]; exact Nat.le_refl _⟩⟩
  obtain ⟨v, hv, rv⟩ := r.get hd
  refine ⟨⟨vs, v, hs, hv⟩, fun x H3 y => ?_⟩
  obtain ⟨rfl, y⟩ := y
  have e := (y vs hs).symm.trans hv
  cases e
  exact ⟨l, F2, .refl s2, rv.mono s1⟩
theorem itOk_rng {lo : Int} {n : Nat} : ItOk K mg F (irange lo n) (Itr lo n) := by
  intro F2 H2 s1 s2 l i
  refine ⟨fun d hd => ?_, fun e => by rw [e, irange_length]; exact Nat.le_refl _⟩
  obtain ⟨h1, rfl⟩ := (irange_get lo n i d).mp hd
  refine ⟨h1, fun x H3 y => ?_⟩
  obtain ⟨rfl, rfl⟩ := y
  exact ⟨l, F2, .refl s2, .int⟩
end

section
variable {X : Cx} {W : WX} {tg e a b c : Expr} {ev ea eb ec : Ev} {pos p : Pos}
theorem di_seq (h : DE X W a ea) : DI X W tg a (eIter ea) := by
  obtain ⟨t, pt, q⟩ := h
  refine ⟨_, PI.suf (PI.or (pi_list pt) (pi_tup pt)), fun F0 H0 F H σ δ Q E po => ?_⟩
  unfold eIter at po
  cases h : ea δ with
  | error er =>
    rw [h] at po
    exact .inl (q F0 H0 F H σ δ _ E (by rw [h]; exact po))
  | ok d =>
    rw [h] at po
    cases d with
    | lst ds =>
      refine .inl (q F0 H0 F H σ δ _ E ?_)
      rw [h]
      intro v F1 H1 g l r
      obtain ⟨a1, vs, rfl, h1, r1⟩ := r.lst_inv
      refine ⟨a1, rfl, ⟨vs, .of (g.s _ _ h1)⟩, fun l' => po _ F1 H1 g l (by rw [r1.length]; exact l.sqL (K := X.K) (.of (g.s _ _ h1))) ?_⟩
      intro F2 H2 s1 s2 l2 i
      have hs : H2 a1 = some (.lst vs) := s2 _ _ (s1 _ _ h1)
      refine ⟨fun d hd => ?_, fun e => ⟨vs, .of hs, by rw [e, r1.length]; exact Nat.le_refl _⟩⟩
      obtain ⟨v, hv, rv⟩ := r1.get hd
      refine ⟨⟨vs, v, .of hs, hv⟩, fun x H3 y => ?_⟩
      obtain ⟨rfl, y⟩ := y
      cases (y vs (.of hs)).symm.trans hv
      exact ⟨l2, F2, .refl s2, rv.mono s1⟩
    | tup ds =>
      refine .inr (q F0 H0 F H σ δ _ E ?_)
      rw [h]
      intro v F1 H1 g l r
      obtain ⟨a1, vs, rfl, h1, r1⟩ := r.tup_inv
      have hs := Same.sqT g.s h1
      exact ⟨a1, rfl, ⟨vs, hs⟩, fun l' => po _ F1 H1 g l (by rw [r1.length]; exact l.sqT hs) (itOk_tup h1 r1)⟩
    | scr ns =>
      refine .inl (q F0 H0 F H σ δ _ E ?_)
      rw [h]
      intro v F1 H1 g l r
      obtain ⟨a1, rfl, h1⟩ := r.scr_inv
      refine ⟨a1, rfl, ⟨_, g.s.seq h1⟩, fun l' => po _ F1 H1 g l (by have := l.sqL (g.s.seq h1); rwa [List.length_map] at this ⊢) ?_⟩
      intro F2 H2 s1 s2 l2 i
      have hs := (s1.trans s2).seq h1
      refine ⟨fun d hd => ?_, fun e => ⟨_, hs, by rw [e, List.length_map, List.length_map]; exact Nat.le_refl _⟩⟩
      obtain ⟨v, hv, rv⟩ := (Rs.ints (K := X.K) (mg := X.mg) (F := F1)).get hd
      refine ⟨⟨_, v, hs, hv⟩, fun x H3 y => ?_⟩
      obtain ⟨rfl, y⟩ := y
      cases (y _ hs).symm.trans hv
      exact ⟨l2, F2, .refl s2, rv.mono s1⟩
    | _ => exact po.elim
theorem di_range1 (hg : Gl X "range") (hm : X.mg "range" = none) (h : DE X W a ea) (he : starEach [a] X.env = (false, eval a X.env) :: starEach [] X.env := by rfl) : DI X W tg (.Call (.Name "range" p) [a] [] pos) (eRng1 ea) := by
  obtain ⟨t, pt, q⟩ := h
  refine ⟨_, PI.suf (pi_range1 hg hm (pa_cons pt pa_nil he) (by rw [he]; rfl)), fun F0 H0 F H σ δ Q E po => q F0 H0 F H σ δ _ E ?_⟩
  unfold eRng1 at po
  cases h : ea δ with
  | error er => rw [h] at po; exact po
  | ok d =>
    rw [h] at po
    intro v F1 H1 g l r
    cases d with
    | int n =>
      simp only [ok_bind, rng] at po
      split at po
      · rename_i hz
        rw [Int.sub_zero] at po hz
        rw [r.int_inv]
        exact ⟨n, rfl, hz.2.2.1, hz.2.2.2.1, fun l' => po _ F1 H1 g l (by rw [irange_length]; exact hz.2.2.2.2) itOk_rng⟩
      · exact po.elim
    | _ => exact po.elim
theorem di_range2 (hg : Gl X "range") (hm : X.mg "range" = none) (ha : DE X W a ea) (hb : DE X W b eb) (he : starEach [a, b] X.env = (false, eval a X.env) :: starEach [b] X.env := by rfl) (he2 : starEach [b] X.env = (false, eval b X.env) :: starEach [] X.env := by rfl) :
    DI X W tg (.Call (.Name "range" p) [a, b] [] pos) (eRng2 ea eb) := by
  obtain ⟨t, pt, q⟩ := ha
  obtain ⟨t2, pt2, q2⟩ := hb
  refine ⟨_, PI.suf (pi_range2 hg hm (pa_cons pt (pa_cons pt2 pa_nil he2) he) (by rw [he, he2]; rfl) (by rw [he2]; rfl)), fun F0 H0 F H σ δ Q E po => q F0 H0 F H σ δ _ E ?_⟩
  unfold eRng2 at po
  cases h : ea δ with
  | error er => rw [h] at po; exact po
  | ok d =>
    rw [h] at po
    intro v F1 H1 g l r
    refine q2 F0 H0 F1 H1 σ δ _ (E.grow g l) ?_
    cases h2 : eb δ with
    | error er => rw [h2] at po; exact PostX.grow g po
    | ok d2 =>
      rw [h2] at po
      intro v2 F2 H2 g2 l2 r2
      simp only [ok_bind] at po
      split at po
      · unfold rng at po
        split at po
        · rename_i hz
          rw [r.int_inv, r2.int_inv]
          exact ⟨_, _, rfl, ⟨hz.1, hz.2.1, hz.2.2.1, hz.2.2.2.1⟩, fun l' => po _ F2 H2 (g.trans g2) l2 (by rw [irange_length]; exact hz.2.2.2.2) itOk_rng⟩
        · exact po.elim
      · exact po.elim

/-! ### targets -/
abbrev Bd := D → DEnv → Option DEnv
def DG (X : Cx) (tg : Expr) (sl : List Nat) (bd : Bd) : Prop := ∃ g : TG, PG X tg g ∧ ∀ F0 H0 F H σ δ d v (Q : St → Hp → Prop), EnvOk X.K X.mg F0 H0 F H σ δ → R X.K X.mg F d v →
  (∃ δ', bd d δ = some δ' ∧ ∀ σ', (∀ vs : List Nat, (∀ i ∈ sl, i ∈ vs) → wipe σ' vs = wipe σ vs) → EnvOk X.K X.mg F0 H0 F H σ' δ' → Q σ' H) → g v σ H Q
theorem wipe_set {σ : St} {i : Nat} {x : Option V} : ∀ {vs : List Nat}, i ∈ vs → wipe (σ.set i x) vs = wipe σ vs := by
  intro vs
  have key : ∀ (vs : List Nat) (j : Nat), (wipe σ vs)[j]? = if j ∈ vs then (if j < σ.length then some none else none) else σ[j]? := by
    intro vs
    induction vs with
    | nil => intro j; simp [wipe]
    | cons v vs ih =>
      intro j
      unfold wipe
      by_cases hj : j = v
      · subst hj
        by_cases hl : j < σ.length
        · rw [List.getElem?_set_self (by rw [wipe_length]; exact hl)]; simp [hl]
        · rw [List.getElem?_eq_none (by rw [List.length_set, wipe_length]; omega)]; simp [hl]
      · rw [List.getElem?_set_ne (Ne.symm hj), ih]
        simp [hj]
  have key2 : ∀ (vs : List Nat) (j : Nat), (wipe (σ.set i x) vs)[j]? = if j ∈ vs then (if j < σ.length then some none else none) else (σ.set i x)[j]? := by
    intro vs
    induction vs with
    | nil => intro j; simp [wipe]
    | cons v vs ih =>
      intro j
      unfold wipe
      by_cases hj : j = v
      · subst hj
        by_cases hl : j < σ.length
        · rw [List.getElem?_set_self (by rw [wipe_length, List.length_set]; exact hl)]; simp [hl]
        · rw [List.getElem?_eq_none (by rw [List.length_set, wipe_length, List.length_set]; omega)]; simp [hl]
      · rw [List.getElem?_set_ne (Ne.symm hj), ih]
        simp [hj]
  intro hi
  refine List.ext_getElem? fun j => ?_
  rw [key, key2]
  by_cases hj : j ∈ vs
  · simp [hj]
  · have : i ≠ j := fun z => hj (z ▸ hi)
    simp [hj, List.getElem?_set_ne this]
def bdN (i : Nat) : Bd := fun d δ => some (δ.set i (some (.val d)))
theorem dg_name {i : Nat} {x : Str} (hN : X.N.Nodup) (hi : X.N[i]? = some x) (hx : Loc X.env.scope x) (hf : X.fn x = true ∨ X.env.scope.names.lookup x = some .local := by first | exact .inl rfl | exact .inr rfl | assumption) : DG X (.Name x pos) [i] (bdN i) := by
  refine ⟨_, pg_name hN hi hx hf, fun F0 H0 F H σ δ d v Q E r h => ?_⟩
  obtain ⟨δ', e, h⟩ := h
  cases e
  exact h (σ.set i (some v)) (fun vs hv => wipe_set (hv i (by simp))) (E.set i r)
def DGs (X : Cx) (ts : List Expr) (sl : List Nat) (bd : List D → DEnv → Option DEnv) : Prop := ∃ g : TGs, PGs X ts g ∧ ∀ F0 H0 F H σ δ ds vs (Q : St → Hp → Prop), EnvOk X.K X.mg F0 H0 F H σ δ → Rs X.K X.mg F ds vs →
  (∃ δ', bd ds δ = some δ' ∧ ∀ σ', (∀ ws : List Nat, (∀ i ∈ sl, i ∈ ws) → wipe σ' ws = wipe σ ws) → EnvOk X.K X.mg F0 H0 F H σ' δ' → Q σ' H) → g vs σ H Q
def bdNil : List D → DEnv → Option DEnv := fun ds δ => match ds with
  | [] => some δ
  | _ => none
def bdCons (b : Bd) (r : List D → DEnv → Option DEnv) : List D → DEnv → Option DEnv := fun ds δ => match ds with
  | d :: ds => (b d δ).bind (r ds)
  | [] => none
theorem dgs_nil : DGs X [] [] bdNil := by
  refine ⟨_, pgs_nil, fun F0 H0 F H σ δ ds vs Q E r h => ?_⟩
  obtain ⟨δ', e, h⟩ := h
  cases ds with
  | nil =>
    cases e
    rw [r.nil_inv]
    exact ⟨rfl, h σ (fun _ _ => rfl) E⟩
  | cons d ds => cases e
theorem dgs_cons {ts : List Expr} {sl sl' : List Nat} {b : Bd} {r : List D → DEnv → Option DEnv} (h1 : DG X a sl b) (h2 : DGs X ts sl' r)
    (hs : (assignEach (a :: ts) X.env).map (·.2) = assign a X.env :: (assignEach ts X.env).map (·.2) := by rfl) : DGs X (a :: ts) (sl ++ sl') (bdCons b r) := by
  obtain ⟨g1, p1, q1⟩ := h1
  obtain ⟨g2, p2, q2⟩ := h2
  refine ⟨_, pgs_cons p1 p2 hs, fun F0 H0 F H σ δ ds vs Q E rr h => ?_⟩
  obtain ⟨δ', e, h⟩ := h
  cases ds with
  | nil => cases e
  | cons d ds =>
    obtain ⟨v, us, rfl, hv, ht⟩ := rr.cons_inv
    have e2 : (b d δ).bind (r ds) = some δ' := e
    cases hb : b d δ with
    | none => rw [hb] at e2; cases e2
    | some δ1 =>
      rw [hb] at e2
      refine ⟨v, us, rfl, q1 F0 H0 F H σ δ d v _ E hv ⟨δ1, hb, fun σ1 w1 E1 => ?_⟩⟩
      refine q2 F0 H0 F H σ1 δ1 ds us _ E1 ht ⟨δ', e2, fun σ2 w2 E2 => h σ2 (fun ws hw => ?_) E2⟩
      rw [w2 ws fun i hi => hw i (List.mem_append_right _ hi), w1 ws fun i hi => hw i (List.mem_append_left _ hi)]
def bdT (r : List D → DEnv → Option DEnv) : Bd := fun d δ => match d with
  | .tup ds => r ds δ
  | .lst ds => r ds δ
  | _ => none
theorem bd_len {ts : List Expr} {sl : List Nat} {r : List D → DEnv → Option DEnv} (h : DGs X ts sl r) : True := trivial
/-- n names: the data have n items -/
def bdLen (n : Nat) (r : List D → DEnv → Option DEnv) : List D → DEnv → Option DEnv := fun ds δ => if ds.length = n then r ds δ else none
theorem dg_tup {ts : List Expr} {k n : Nat} {sl : List Nat} {r : List D → DEnv → Option DEnv} (hc : X.calm = true) (h : DGs X ts sl r) (hn : (assignEach ts X.env).length = n := by rfl) (hst : (assignEach ts X.env).findIdx? (·.1) = none := by rfl) :
    DG X (.Tuple ts k pos) sl (bdT (bdLen n r)) := by
  obtain ⟨g, pg, q⟩ := h
  refine ⟨_, PG.or (pg_tup hc pg hn hst) (pg_lst hc pg hn hst), fun F0 H0 F H σ δ d v Q E rr h => ?_⟩
  obtain ⟨δ', e, h⟩ := h
  cases d with
  | tup ds =>
    obtain ⟨a, vs, rfl, h1, r1⟩ := rr.tup_inv
    have e2 : bdLen n r ds δ = some δ' := e
    unfold bdLen at e2
    split at e2
    · rename_i hl
      exact .inl ⟨a, vs, rfl, Same.sqT E.g.s h1, by rw [← r1.length]; exact hl, q F0 H0 F H σ δ ds vs Q E r1 ⟨δ', e2, h⟩⟩
    · cases e2
  | lst ds =>
    obtain ⟨a, vs, rfl, h1, r1⟩ := rr.lst_inv
    have e2 : bdLen n r ds δ = some δ' := e
    unfold bdLen at e2
    split at e2
    · rename_i hl
      exact .inr ⟨a, vs, rfl, .of (E.g.s _ _ h1), by rw [← r1.length]; exact hl, q F0 H0 F H σ δ ds vs Q E r1 ⟨δ', e2, h⟩⟩
    · cases e2
  | _ => cases e

/-! ### comprehensions -/
def noX {α : Type} : M α → M α
  | .ok a => .ok a
  | .error _ => stk
@[simp] theorem noX_ok {α : Type} (a : α) : noX (.ok a : M α) = .ok a := rfl
@[simp] theorem noX_er {α : Type} (e : Er) : noX (.error e : M α) = stk := rfl
def wipeD (δ : DEnv) : List Nat → DEnv
  | [] => δ
  | v :: vs => (wipeD δ vs).set v none
theorem EnvOk.wipe {K : Frag} {mg : Mg} {F0 : Bs} {H0 F H : Hp} {σ : St} {δ : DEnv} (E : EnvOk K mg F0 H0 F H σ δ) : ∀ vs : List Nat, EnvOk K mg F0 H0 F H (L2.wipe σ vs) (wipeD δ vs)
  | [] => E
  | v :: vs => (EnvOk.wipe E vs).drop v none
def compD (bd : Bd) (tt : EvT) (te : Ev) (δ : DEnv) : List D → M (List D)
  | [] => .ok []
  | x :: xs => do
    let δ1 ← lft (bd x δ)
    let b ← noX (tt δ1)
    if b then do
      let y ← noX (te δ1)
      let ys ← compD bd tt te δ xs
      .ok (y :: ys)
    else compD bd tt te δ xs
def fComp (it : EvA) (vs : List Nat) (bd : Bd) (tt : EvT) (te : Ev) : EvA := fun δ => do
  let xs ← it δ
  noX (compD bd tt te (wipeD δ vs) xs)
/-- of a list that is new -/
def PostF (K : Frag) (mg : Mg) (W : WX) (F H : Hp) (σ : St) (Q : VK) : M (List D) → Prop
  | .ok ds => ∀ p vs F' H', Grow F H F' H' → H p = none → F' p = none → H' p = some (.lst vs) → Rs K mg F' ds vs → Q (.ref p) H'
  | .error e => PostX K mg W F H σ e
/-- a list that is new -/
def DF (X : Cx) (W : WX) (e : Expr) (ev : EvA) : Prop := ∃ t : TE, PE X e t ∧ ∀ F0 H0 F H σ δ (Q : VK), EnvOk X.K X.mg F0 H0 F H σ δ → PostF X.K X.mg W F H σ Q (ev δ) → t σ H Q
def DTs (X : Cx) (W : WX) (ifs : List Expr) (ev : EvT) : Prop := ∃ t : TT, PTs X ifs t ∧ ∀ F0 H0 F H σ δ (Q : Bool → Hp → Prop), EnvOk X.K X.mg F0 H0 F H σ δ → PostT X.K X.mg W F H σ Q (ev δ) → t σ H Q
def tYesD : EvT := fun _ => .ok true
theorem dts_nil : DTs X W [] tYesD := ⟨_, pts_nil, fun F0 H0 F H σ δ Q E po => po F H (.refl E.g.s) E.lim⟩
theorem dts_one {va : EvT} (h : DT X W c va) : DTs X W [c] va := by
  obtain ⟨t, p, q⟩ := h
  exact ⟨_, pts_one p, q⟩
abbrev WF : WX := fun _ _ _ _ => False

/-- the turns of a comprehension -/
theorem comp_run {g : TG} {tt : TT} {te : TE} {sl vs : List Nat} {bd : Bd} {vt : EvT} {ve : Ev} {F0 : Bs} {H0 F1 H1 : Hp} {σ : St} {δ : DEnv} {J : It} {xs ys : List D} {Q : VK}
    (qg : ∀ F0 H0 F H σ δ d v (Q : St → Hp → Prop), EnvOk X.K X.mg F0 H0 F H σ δ → R X.K X.mg F d v →
      (∃ δ', bd d δ = some δ' ∧ ∀ σ', (∀ vs : List Nat, (∀ i ∈ sl, i ∈ vs) → wipe σ' vs = wipe σ vs) → EnvOk X.K X.mg F0 H0 F H σ' δ' → Q σ' H) → g v σ H Q)
    (qt : ∀ F0 H0 F H σ δ (Q : Bool → Hp → Prop), EnvOk X.K X.mg F0 H0 F H σ δ → PostT X.K X.mg WF F H σ Q (vt δ) → tt σ H Q)
    (qe : ∀ F0 H0 F H σ δ (Q : VK), EnvOk X.K X.mg F0 H0 F H σ δ → PostE X.K X.mg WF F H σ Q (ve δ) → te σ H Q)
    (hsl : ∀ i ∈ sl, i ∈ vs) (E : EnvOk X.K X.mg F0 H0 F1 H1 σ δ) (hz : xs.length ≤ sizeLine) (it : ItOk X.K X.mg F1 xs J) (hc : compD bd vt ve (wipeD δ vs) xs = .ok ys)
    (D : Addr) (hD : H1 D = none) (po : ∀ vs F' H', Grow F1 H1 F' H' → F' D = none → H' D = some (.lst vs) → Rs X.K X.mg F' ys vs → Q (.ref D) H') :
    ∃ W : Nat → Nat → Hp → Prop, (∃ m, W 0 m (upd H1 D (.lst []))) ∧ ∀ i m H, W i m H →
      (J.stop i H ∧ Q (.ref D) H) ∨ (J.go i H ∧ ∃ Nx : Hp → Prop, (∀ H', Nx H' → ∃ m', m' < m ∧ W (i + 1) m' H') ∧ ∀ x H', J.yld i H x H' → g x (wipe σ vs) H' fun σ2 H2 => wipe σ2 vs = wipe σ vs ∧ tt σ2 H2 fun b H3 =>
        if b = true then te σ2 H3 fun y H4 => ∃ acc, H4 D = some (.lst acc) ∧ acc.length < sizeLine ∧ Nx (upd H4 D (.lst (acc ++ [y]))) else Nx H3) := by
  have fD : F1 D = none := by
    cases q : F1 D with
    | none => rfl
    | some u => rw [E.g.s D u q] at hD; cases hD
  -- behind i items
  let St' : Nat → Hp → Prop := fun i H => ∃ F2 ds acc rest, Grow F1 H1 F2 H ∧ Lim H ∧ H D = some (.lst acc) ∧ F2 D = none ∧ Rs X.K X.mg F2 ds acc ∧ ds.length ≤ i ∧ compD bd vt ve (wipeD δ vs) (xs.drop i) = .ok rest ∧ ds ++ rest = ys
  refine ⟨fun i m H => m = xs.length - i ∧ i ≤ xs.length ∧ St' i H, ⟨xs.length, by simp, Nat.zero_le _, ?_⟩, ?_⟩
  · refine ⟨F1, [], [], ys, ⟨.refl _, fun b u e => ?_, fun b u e => ?_, fun _ _ h => h⟩, E.lim.put (fun xs h => by rcases h with h | h <;> cases h; exact Nat.zero_le _) (fun _ _ h => by cases h), upd_same, fD, .nil, Nat.zero_le _, hc, rfl⟩
    · rw [upd_ne (ne_of_none e hD)]; exact e
    · rw [upd_ne (ne_of_none e fD)]; exact E.g.s _ _ e
  · rintro i m H ⟨rfl, hi, F2, ds, acc, rest, gr, l, h1, h2, h3, h4, h5, h6⟩
    obtain ⟨ig, is⟩ := it F2 H gr.f gr.s l i
    by_cases hlt : i < xs.length
    · refine .inr ?_
      obtain ⟨go, yl⟩ := ig xs[i] (List.getElem?_eq_getElem hlt)
      refine ⟨go, St' (i + 1), fun H' p' => ⟨xs.length - (i + 1), by omega, rfl, hlt, p'⟩, fun x H' y => ?_⟩
      obtain ⟨l3, F3, g3, r3⟩ := yl x H' y
      have hE := ((E.grow gr l).wipe vs).grow g3 l3
      rw [List.drop_eq_getElem_cons hlt] at h5
      unfold compD at h5
      cases hb : bd xs[i] (wipeD δ vs) with
      | none => rw [hb] at h5; cases h5
      | some δ1 =>
        rw [hb] at h5
        simp only [lft_some, ok_bind] at h5
        refine qg F0 H0 F3 H' _ _ _ _ _ hE r3 ⟨δ1, hb, fun σ2 w2 E2 => ⟨?_, ?_⟩⟩
        · have w := w2 vs hsl
          rw [w]
          have idem : ∀ us : List Nat, (∀ j ∈ us, j ∈ vs) → wipe (wipe σ vs) us = wipe σ vs := by
            intro us
            induction us with
            | nil => intro _; rfl
            | cons u us ih =>
              intro hu
              show (wipe (wipe σ vs) us).set u none = _
              rw [ih fun j hj => hu j (List.mem_cons_of_mem _ hj)]
              refine List.ext_getElem? fun j => ?_
              by_cases hj : j = u
              · subst hj
                by_cases hl : j < (wipe σ vs).length
                · rw [List.getElem?_set_self hl]
                  cases hw : (wipe σ vs)[j]? with
                  | none => rw [List.getElem?_eq_none_iff] at hw; omega
                  | some o =>
                    cases o with
                    | none => rfl
                    | some z => exact absurd (hu j List.mem_cons_self) (wipe_some hw).2
                · rw [List.getElem?_eq_none (by rw [List.length_set]; omega), List.getElem?_eq_none (by omega)]
              · rw [List.getElem?_set_ne (Ne.symm hj)]
          exact idem vs fun j hj => hj
        · refine qt F0 H0 F3 H' σ2 δ1 _ E2 ?_
          cases hv : vt δ1 with
          | error er => rw [hv] at h5; cases h5
          | ok b =>
            rw [hv] at h5
            intro F4 H4 g4 l4
            have d4 : H4 D = some (.lst acc) := g4.h _ _ (g3.h _ _ h1)
            have f4 : F4 D = none := g4.n D (by rw [g3.h _ _ h1]; simp) (g3.n D (by rw [h1]; simp) h2)
            cases b with
            | false =>
              rw [if_neg Bool.false_ne_true]
              exact ⟨F4, ds, acc, rest, gr.trans (g3.trans g4), l4, d4, f4, h3.mono (g3.f.trans g4.f), by omega, by simpa using h5, h6⟩
            | true =>
              rw [if_pos rfl]
              refine qe F0 H0 F4 H4 σ2 δ1 _ (E2.grow g4 l4) ?_
              simp only [noX_ok, ok_bind, if_true] at h5
              cases hw : ve δ1 with
              | error er => rw [hw] at h5; cases h5
              | ok y =>
                rw [hw] at h5
                intro v F5 H5 g5 l5 r5
                simp only [noX_ok, ok_bind] at h5
                have d5 : H5 D = some (.lst acc) := g5.h _ _ d4
                have f5 : F5 D = none := g5.n D (by rw [d4]; simp) f4
                have hal : acc.length ≤ i := by rw [← h3.length]; exact h4
                refine ⟨acc, d5, by omega, ?_⟩
                cases hr : compD bd vt ve (wipeD δ vs) (List.drop (i + 1) xs) with
                | error er => rw [hr] at h5; cases h5
                | ok ys' =>
                  rw [hr] at h5
                  cases h5
                  refine ⟨F5, ds ++ [y], acc ++ [v], ys', ?_, l5.put (fun zs h => ?_) (fun _ _ h => by cases h), upd_same, f5, (h3.mono (g3.f.trans (g4.f.trans g5.f))).append (.cons r5 .nil), by simp; omega, hr, by simpa using h6⟩
                  · have gg := gr.trans (g3.trans (g4.trans g5))
                    refine ⟨gg.f, fun b u e => ?_, fun b u e => ?_, gg.n⟩
                    · rw [upd_ne (ne_of_none e hD)]; exact gg.h _ _ e
                    · rw [upd_ne (ne_of_none e f5)]; exact gg.s _ _ e
                  · rcases h with h | h
                    · cases h; simp; omega
                    · cases h
    · have e : i = xs.length := by omega
      subst e
      refine .inl ⟨is rfl, ?_⟩
      rw [List.drop_length] at h5
      cases h5
      rw [List.append_nil] at h6
      subst h6
      exact po acc F2 H gr h2 h1 h3
variable {elt iter : Expr} {ifs : List Expr} {scope : Scope} {own : List (Str × Nat)} {it : EvA} {sl : List Nat} {bd : Bd} {vt : EvT} {ve : Ev}
/-- what a comprehension's block must be, whatever its frame -/
abbrev Blk (X : Cx) (scope : Scope) (P : Cx → Prop) : Prop := ∀ (s : Shared) (H : Hp) (C : Addr) (cl : List (Str × Addr)) (fp : List Addr), P (X.blk s H scope (compEnvC scope cl C X.env) fp)
theorem PE.weak {X : Cx} {e : Expr} {t u : TE} (h : PE X e t) (w : ∀ σ H Q, u σ H Q → t σ H Q) : PE X e u := ⟨fun pins s σ H Q I q => h.run pins s σ H Q I (w σ H Q q)⟩
theorem PTs.weak {X : Cx} {e : List Expr} {t u : TT} (h : PTs X e t) (w : ∀ σ H Q, u σ H Q → t σ H Q) : PTs X e u := ⟨fun pins s σ H Q I q => h.run pins s σ H Q I (w σ H Q q)⟩
theorem PG.weak {X : Cx} {e : Expr} {t u : TG} (h : PG X e t) (w : ∀ v σ H Q, u v σ H Q → t v σ H Q) : PG X e u := ⟨fun pins s σ H v x Q I r q => h.run pins s σ H v x Q I r (w v σ H Q q)⟩
theorem PI.weak {X : Cx} {tg e : Expr} {t u : TI} (h : PI X tg e t) (w : ∀ σ H Q, u σ H Q → t σ H Q) : PI X tg e u := ⟨fun pins s σ H Q I q => h.run pins s σ H Q I (w σ H Q q)⟩
theorem blk_e (h : Blk X scope fun Y => DE Y WF elt ve) : ∃ te : TE, (Blk X scope fun Y => PE Y elt te) ∧ ∀ F0 H0 F H σ δ (Q : VK), EnvOk X.K X.mg F0 H0 F H σ δ → PostE X.K X.mg WF F H σ Q (ve δ) → te σ H Q := by
  refine ⟨fun σ H Q => ∀ s H' C cl fp, Classical.choose (h s H' C cl fp) σ H Q, fun s H C cl fp => PE.weak (Classical.choose_spec (h s H C cl fp)).1 fun _ _ _ q => q s H C cl fp, fun F0 H0 F H σ δ Q E po s H' C cl fp => (Classical.choose_spec (h s H' C cl fp)).2 F0 H0 F H σ δ Q E po⟩
theorem blk_t (h : Blk X scope fun Y => DTs Y WF ifs vt) : ∃ te : TT, (Blk X scope fun Y => PTs Y ifs te) ∧ ∀ F0 H0 F H σ δ (Q : Bool → Hp → Prop), EnvOk X.K X.mg F0 H0 F H σ δ → PostT X.K X.mg WF F H σ Q (vt δ) → te σ H Q := by
  refine ⟨fun σ H Q => ∀ s H' C cl fp, Classical.choose (h s H' C cl fp) σ H Q, fun s H C cl fp => PTs.weak (Classical.choose_spec (h s H C cl fp)).1 fun _ _ _ q => q s H C cl fp, fun F0 H0 F H σ δ Q E po s H' C cl fp => (Classical.choose_spec (h s H' C cl fp)).2 F0 H0 F H σ δ Q E po⟩
theorem blk_g (h : Blk X scope fun Y => DG Y tg sl bd) : ∃ g : TG, (Blk X scope fun Y => PG Y tg g) ∧ ∀ F0 H0 F H σ δ d v (Q : St → Hp → Prop), EnvOk X.K X.mg F0 H0 F H σ δ → R X.K X.mg F d v →
      (∃ δ', bd d δ = some δ' ∧ ∀ σ', (∀ vs : List Nat, (∀ i ∈ sl, i ∈ vs) → wipe σ' vs = wipe σ vs) → EnvOk X.K X.mg F0 H0 F H σ' δ' → Q σ' H) → g v σ H Q := by
  refine ⟨fun v σ H Q => ∀ s H' C cl fp, Classical.choose (h s H' C cl fp) v σ H Q, fun s H C cl fp => PG.weak (Classical.choose_spec (h s H C cl fp)).1 fun _ _ _ _ q => q s H C cl fp, fun F0 H0 F H σ δ d v Q E r po s H' C cl fp => (Classical.choose_spec (h s H' C cl fp)).2 F0 H0 F H σ δ d v Q E r po⟩
theorem blk_i {iter1 : Expr} {it1 : EvA} (h : Blk X scope fun Y => DI Y WF tg iter1 it1) : ∃ te : TI, (Blk X scope fun Y => PI Y tg iter1 te) ∧ ∀ F0 H0 F H σ δ (Q : It → Hp → Prop), EnvOk X.K X.mg F0 H0 F H σ δ → PostI X.K X.mg WF F H σ Q (it1 δ) → te σ H Q := by
  refine ⟨fun σ H Q => ∀ s H' C cl fp, Classical.choose (h s H' C cl fp) σ H Q, fun s H C cl fp => PI.weak (Classical.choose_spec (h s H C cl fp)).1 fun _ _ _ q => q s H C cl fp, fun F0 H0 F H σ δ Q E po s H' C cl fp => (Classical.choose_spec (h s H' C cl fp)).2 F0 H0 F H σ δ Q E po⟩
theorem tlc_run {t : TI} {g : TG} {tt : TT} {te : TE} {vs : List Nat}
    (qi : ∀ F0 H0 F H σ δ (Q : It → Hp → Prop), EnvOk X.K X.mg F0 H0 F H σ δ → PostI X.K X.mg W F H σ Q (it δ) → t σ H Q)
    (qg : ∀ F0 H0 F H σ δ d v (Q : St → Hp → Prop), EnvOk X.K X.mg F0 H0 F H σ δ → R X.K X.mg F d v →
      (∃ δ', bd d δ = some δ' ∧ ∀ σ', (∀ vs : List Nat, (∀ i ∈ sl, i ∈ vs) → wipe σ' vs = wipe σ vs) → EnvOk X.K X.mg F0 H0 F H σ' δ' → Q σ' H) → g v σ H Q)
    (qt : ∀ F0 H0 F H σ δ (Q : Bool → Hp → Prop), EnvOk X.K X.mg F0 H0 F H σ δ → PostT X.K X.mg WF F H σ Q (vt δ) → tt σ H Q)
    (qe : ∀ F0 H0 F H σ δ (Q : VK), EnvOk X.K X.mg F0 H0 F H σ δ → PostE X.K X.mg WF F H σ Q (ve δ) → te σ H Q)
    (hsl : ∀ i ∈ sl, i ∈ vs) {F0 : Bs} {H0 F H : Hp} {σ : St} {δ : DEnv} {Q : VK} (E : EnvOk X.K X.mg F0 H0 F H σ δ) (po : PostF X.K X.mg W F H σ Q (fComp it vs bd vt ve δ)) : tLc t g tt te vs σ H Q := by
  refine qi F0 H0 F H σ δ _ E ?_
  unfold fComp at po
  cases h : it δ with
  | error er => rw [h] at po; exact po
  | ok xs =>
    rw [h] at po
    intro J F1 H1 g1 l1 hz io D hD
    simp only [ok_bind] at po
    cases hc : compD bd vt ve (wipeD δ vs) xs with
    | error er => rw [hc] at po; exact po.elim
    | ok ys =>
      rw [hc] at po
      have np : H D = none := by
        cases q : H D with
        | none => rfl
        | some u => rw [g1.h D u q] at hD; cases hD
      exact comp_run qg qt qe hsl (E.grow g1 l1) hz io hc D hD fun vs F' H' g' f h r => po D vs F' H' (g1.trans g') np f h r
theorem df_comp (hc : X.calm = true) (hN : X.N.Nodup) (hi : DI X W tg iter it) (ok : BlkOk X.N X.env.scope scope own) (hg : Blk X scope fun Y => DG Y tg sl bd) (ht : Blk X scope fun Y => DTs Y WF ifs vt) (he : Blk X scope fun Y => DE Y WF elt ve)
    (hsl : ∀ i ∈ sl, i ∈ own.map (·.2) := by decide) (hs : ∀ x, foldedSetIterable iter X.env x = pure x := by intro _; rfl) :
    DF X W (.ListComp elt [⟨tg, iter, ifs, 0⟩] scope pos) (fComp it (own.map (·.2)) bd vt ve) := by
  obtain ⟨t, pi, qi⟩ := hi
  obtain ⟨g, pg, qg⟩ := blk_g hg
  obtain ⟨tt, pt, qt⟩ := blk_t ht
  obtain ⟨te, pe, qe⟩ := blk_e he
  exact ⟨_, pe_lc hc hN pi ok pg pt pe hs, fun F0 H0 F H σ δ Q E po => tlc_run qi qg qt qe hsl E po⟩
end
end DL

namespace DL
open PySem PySem.Spec PyProof.Rows L2

/-! ### what a def promises -/
def PostC (K : Frag) (mg : Mg) (F H : Hp) (Q : VK) (E : XK) : M D → Prop
  | .ok d => ∀ v F' H', Grow F H F' H' → R K mg F' d v → Q v H'
  | .error .stuck => False
  | .error (.exc C ks ds) => ∀ c dd F' H', Grow F H F' H' → mg C = some (.ref c) → ExRep K mg F' H' ks ds dd → E (.ref c) dd H'
abbrev Mir := List D → M D
def spD (K : Frag) (mg : Mg) (n : Nat) (m : Mir) : Sp := fun vs H Q E => ∃ ds F, ds.length = n ∧ Same F H ∧ Lim H ∧ Rs K mg F ds vs ∧ PostC K mg F H Q E (m ds)
abbrev FnD (P : Program) (w : World) (K : Frag) (mg : Mg) (base : Heap) (k : Nat) (f : Addr) (fd : FuncData) (ps : List Str) (m : Mir) : Prop :=
  FnOk P w K mg base (L2.CX P w) k f fd ps (spD K mg ps.length m)

/-! ### statements -/
inductive Fl where
  | nx (δ : DEnv) | rt (d : D) | bk (δ : DEnv) | ct (δ : DEnv) | rx (d : D)
abbrev Sv := DEnv → M Fl
def PostS (K : Frag) (mg : Mg) (F0 : Bs) (H0 : Hp) (W : WX) (Dn : Ends) : M Fl → Prop
  | .ok (.nx δ) => ∀ σ F H, EnvOk K mg F0 H0 F H σ δ → Dn.nx σ H
  | .ok (.bk δ) => ∀ σ F H, EnvOk K mg F0 H0 F H σ δ → Dn.bk σ H
  | .ok (.ct δ) => ∀ σ F H, EnvOk K mg F0 H0 F H σ δ → Dn.ct σ H
  | .ok (.rt d) => ∀ v F H, Grow F0.1 H0 F H → Lim H → R K mg F d v → Dn.rt v H
  | .ok (.rx d) => ∀ v as F H, Grow F0.1 H0 F H → Lim H → RT K mg F H d v as → as.Nodup → (∀ a ∈ as, F a = none ∧ H0 a = none) → Dn.rt v H
  | .error .stuck => False
  | .error (.exc C ks ds) => ∀ c dd σ F H, Grow F0.1 H0 F H → mg C = some (.ref c) → ExRep K mg F H ks ds dd → W (.ref c) dd σ H
def DS (X : Cx) (W : WX) (st : Stmt) (sv : Sv) : Prop := ∃ t : TS, PS X st t ∧ ∀ F0 H0 F H σ δ (Dn : Ends), EnvOk X.K X.mg F0 H0 F H σ δ → PostS X.K X.mg F0 H0 W Dn (sv δ) → t Dn σ H
def DSs (X : Cx) (W : WX) (st : List Stmt) (sv : Sv) : Prop := ∃ t : TS, PSs X st t ∧ ∀ F0 H0 F H σ δ (Dn : Ends), EnvOk X.K X.mg F0 H0 F H σ δ → PostS X.K X.mg F0 H0 W Dn (sv δ) → t Dn σ H

theorem PostS.x {K : Frag} {mg : Mg} {F0 : Bs} {H0 F H : Hp} {W : WX} {Dn : Ends} {σ : St} {er : Er} (h : PostS K mg F0 H0 W Dn (.error er)) (g : Grow F0.1 H0 F H) : PostX K mg W F H σ er := by
  cases er with
  | stuck => exact h
  | exc C ks ds => exact fun c dd F' H' g' hm hx => h c dd σ F' H' (g.trans g') hm hx

/-- the body of a def as a function -/
def runB (sv : Sv) (δ : DEnv) : M D := match sv δ with
  | .ok (.nx _) => .ok .non
  | .ok (.rt d) => .ok d
  | .ok _ => stk
  | .error e => .error e
def startD (n : Nat) (ds : List D) : DEnv := ds.map (fun d => some (.val d)) ++ List.replicate (n - ds.length) none
def mirD (n p : Nat) (sv : Sv) : Mir := fun ds => if ds.length = p then runB sv (startD n ds) else stk
theorem startD_val {n : Nat} {ds : List D} {i : Nat} {c : Cell} (e : (startD n ds)[i]? = some (some c)) : ∃ d, c = .val d ∧ ds[i]? = some d := by
  unfold startD at e
  by_cases hi : i < ds.length
  · rw [List.getElem?_append_left (by simpa using hi), List.getElem?_map, List.getElem?_eq_getElem hi] at e
    cases e; exact ⟨_, rfl, List.getElem?_eq_getElem hi⟩
  · rw [List.getElem?_append_right (by simpa using hi), List.getElem?_replicate] at e
    split at e <;> cases e
theorem start_ok {K : Frag} {mg : Mg} {F H : Hp} {N : List Str} {ds : List D} {vs : List V} (s : Same F H) (l : Lim H) (r : Rs K mg F ds vs) (q : Addr) : EnvOk K mg (F, q) H F H (L2.start N vs) (startD N.length ds) := by
  refine ⟨.refl s, l, ?_, ⟨fun _ => [], ⟨fun i c e => ?_, fun _ _ _ => .nil, fun _ _ _ a h => (by cases h), fun _ _ _ _ _ _ _ a h => (by cases h)⟩⟩, fun i C ks es e => ?_⟩
  · unfold startD L2.start
    rw [List.length_append, List.length_append, List.length_map, List.length_map, List.length_replicate, List.length_replicate, r.length]
  · obtain ⟨d, rfl, hd⟩ := startD_val e
    obtain ⟨v, h1, h2⟩ := r.get hd
    refine ⟨v, ?_, h2, rfl⟩
    unfold L2.start
    have : i < vs.length := (List.getElem?_eq_some_iff.mp h1).1
    rw [List.getElem?_append_left (by simpa using this), List.getElem?_map, h1]; rfl
  · obtain ⟨d, z, _⟩ := startD_val e
    cases z
/-- what a function's body may let out -/
abbrev WXE (E : XK) : WX := fun cls d _ H => E cls d H
section
variable {P : Program} {w : World} {K : Frag} {mg : Mg} {base : Heap}
/-- THE RULE of a def -/
theorem fn_d {x qual : Str} {st : Stmt} {f : Addr} {fd : FuncData} {N ps : List Str} {k : Nat} {sv : Sv} (F : Fun K x qual st f fd) (S : FnScope N ps (defScope st))
    (body : ∀ (cdv : Value) (A : Around) (outer : List Env) (s : Shared) (H : Hp) (E : XK), Room k (A.deeper (envOfC qual (defScope st) s.heap.objs.size f cdv)) →
      DSs (cxOf (L2.CX P w) P w K mg base N qual (defScope st) f cdv A outer s H E) (WXE E) (defBody st) sv) : FnD P w K mg base (k + 1) f fd ps (mirD N.length ps.length sv) := by
  refine F.okX S (fun vs H Q E h => ?_) (fun cdv A outer s H vs Q E hr h => ?_)
  · obtain ⟨ds, F', hl, _, _, r, _⟩ := h
    rw [← r.length, hl]
  · obtain ⟨ds, F', hl, hs, lm, r, po⟩ := h
    obtain ⟨t, pt, q⟩ := body cdv A outer s H E hr
    refine ⟨t, pt, q (F', 0) H F' H _ _ _ (start_ok hs lm r 0) ?_⟩
    unfold mirD at po
    rw [if_pos hl] at po
    unfold runB at po
    have e : startD N.length ds = startD N.length ds := rfl
    cases h : sv (startD N.length ds) with
    | error er =>
      rw [h] at po
      cases er with
      | stuck => exact po
      | exc C ks es => exact fun c dd σ F2 H2 g hm hx => po c dd F2 H2 g hm hx
    | ok fl =>
      rw [h] at po
      cases fl with
      | nx δ => exact fun σ F2 H2 E2 => po .non F2 H2 E2.g .non
      | rt d => exact fun v F2 H2 g _ r => po v F2 H2 g r
      | rx d => exact po.elim
      | bk δ => exact po.elim
      | ct δ => exact po.elim
end

section
variable {X : Cx} {W : WX} {e a b c : Expr} {ev ea eb ec : Ev} {pos p : Pos} {es : List Expr} {er : EvA} {st : Stmt} {sts : List Stmt} {sv sw : Sv}

/-! ### calls of defs -/
def eCall (n : Nat) (m : Mir) (as : EvA) : Ev := fun δ => do let ds ← as δ; if ds.length = n then m ds else stk
theorem de_call {k : Nat} {f : Addr} {fd : FuncData} {ps : List Str} {m : Mir} {x : Str} (G : FnD X.prog X.w X.K X.mg X.base k f fd ps m) (hr : Room k X.A) (tk : Takes X W) (hg : Gl X x) (hm : X.mg x = some (.ref f)) (hk : PySem.W.keepIn X.K (.ref f) = true)
    (hb : Binds X.K fd ps []) (ha : DA X W (a :: es) er) (hdb : (x == ("__debug__" : Str)) = false := by decide) (he : starEach (a :: es) X.env = (false, eval a X.env) :: starEach es X.env := by rfl) (hpl : (backTo pos (starEach es X.env)).any (·.1) = false := by rfl) :
    DE X W (.Call (.Name x p) (a :: es) [] pos) (eCall ps.length m er) := by
  obtain ⟨t, pt, q⟩ := ha
  refine ⟨_, PE.suf (pe_callS (E := WE W) G hr hg hm hk hb (passAt tk) pt hdb he hpl), fun F0 H0 F H σ δ Q E po => q F0 H0 F H σ δ _ E ?_⟩
  unfold eCall at po
  cases h : er δ with
  | error er => rw [h] at po; exact po
  | ok ds =>
    rw [h] at po
    intro vs F1 H1 g l r
    simp only [ok_bind] at po
    by_cases hz : ds.length = ps.length
    · rw [if_pos hz] at po
      refine ⟨ds, F1, hz, g.s, l, r, ?_⟩
      cases hm : m ds with
      | ok d =>
        rw [hm] at po
        exact fun v F2 H2 g2 r2 l2 => po v F2 H2 (g.trans g2) l2 r2
      | error er =>
        rw [hm] at po
        cases er with
        | stuck => exact po
        | exc C ks es => exact fun c dd F2 H2 g2 hc hx => po c dd F2 H2 (g.trans g2) hc hx
    · rw [if_neg hz] at po; exact po.elim

/-! ### blocks, small statements -/
def sNil : Sv := fun δ => .ok (.nx δ)
def sSeq (a b : Sv) : Sv := fun δ => do
  let r ← a δ
  match r with
  | .nx δ' => b δ'
  | r => .ok r
theorem PostS.seq {K : Frag} {mg : Mg} {F0 : Bs} {H0 : Hp} {Dn : Ends} {t : TS} {a b : Sv} {δ : DEnv} (h : PostS K mg F0 H0 W Dn (sSeq a b δ)) (q : ∀ F H σ δ', EnvOk K mg F0 H0 F H σ δ' → PostS K mg F0 H0 W Dn (b δ') → t Dn σ H) :
    PostS K mg F0 H0 W { Dn with nx := t Dn } (a δ) := by
  unfold sSeq at h
  cases ha : a δ with
  | error er =>
    rw [ha] at h
    cases er with
    | stuck => exact h
    | exc C ks ds => exact h
  | ok r =>
    rw [ha] at h
    cases r with
    | nx δ' => exact fun σ F H E => q F H σ δ' E h
    | bk δ' => exact h
    | ct δ' => exact h
    | rt d => exact h
    | rx d => exact h
theorem dss_nil : DSs X W [] sNil := ⟨_, pss_nil, fun F0 H0 F H σ δ Dn E po => po σ F H E⟩
theorem dss_cons (h1 : DS X W st sv) (h2 : DSs X W sts sw) : DSs X W (st :: sts) (sSeq sv sw) := by
  obtain ⟨t1, p1, q1⟩ := h1
  obtain ⟨t2, p2, q2⟩ := h2
  exact ⟨_, pss_cons p1 p2, fun F0 H0 F H σ δ Dn E po => q1 F0 H0 F H σ δ _ E (po.seq fun F2 H2 σ2 δ2 E2 po2 => q2 F0 H0 F2 H2 σ2 δ2 Dn E2 po2)⟩
theorem dss_one (h1 : DS X W st sv) : DSs X W [st] sv := by
  obtain ⟨t1, p1, q1⟩ := h1
  exact ⟨_, pss_one p1, q1⟩
theorem ds_pass : DS X W (.Pass pos) sNil := ⟨_, ps_pass, fun F0 H0 F H σ δ Dn E po => po σ F H E⟩
def sBrk : Sv := fun δ => .ok (.bk δ)
def sCnt : Sv := fun δ => .ok (.ct δ)
theorem ds_break : DS X W (.Break pos) sBrk := ⟨_, ps_break, fun F0 H0 F H σ δ Dn E po => po σ F H E⟩
theorem ds_continue : DS X W (.Continue pos) sCnt := ⟨_, ps_continue, fun F0 H0 F H σ δ Dn E po => po σ F H E⟩
/-- an expression, then k -/
theorem ex_run {t : TE} {k : D → M Fl} {ex : Ev} {F0 : Bs} {H0 F H : Hp} {σ : St} {δ : DEnv} {Dn : Ends} {Q : VK} (q : ∀ F0 H0 F H σ δ (Q : VK), EnvOk X.K X.mg F0 H0 F H σ δ → PostE X.K X.mg W F H σ Q (ex δ) → t σ H Q) (E : EnvOk X.K X.mg F0 H0 F H σ δ)
    (po : PostS X.K X.mg F0 H0 W Dn (ex δ >>= k)) (h : ∀ d v F' H', EnvOk X.K X.mg F0 H0 F' H' σ δ → R X.K X.mg F' d v → PostS X.K X.mg F0 H0 W Dn (k d) → Q v H') : t σ H Q := by
  refine q F0 H0 F H σ δ Q E ?_
  cases he : ex δ with
  | error er =>
    rw [he] at po
    exact PostS.x po E.g
  | ok d =>
    rw [he] at po
    exact fun v F1 H1 g l r => h d v F1 H1 (E.grow g l) r po
theorem te_run {t : TT} {k : Bool → M Fl} {ex : EvT} {F0 : Bs} {H0 F H : Hp} {σ : St} {δ : DEnv} {Dn : Ends} {Q : Bool → Hp → Prop} (q : ∀ F0 H0 F H σ δ (Q : Bool → Hp → Prop), EnvOk X.K X.mg F0 H0 F H σ δ → PostT X.K X.mg W F H σ Q (ex δ) → t σ H Q) (E : EnvOk X.K X.mg F0 H0 F H σ δ)
    (po : PostS X.K X.mg F0 H0 W Dn (ex δ >>= k)) (h : ∀ d F' H', EnvOk X.K X.mg F0 H0 F' H' σ δ → PostS X.K X.mg F0 H0 W Dn (k d) → Q d H') : t σ H Q := by
  refine q F0 H0 F H σ δ Q E ?_
  cases he : ex δ with
  | error er =>
    rw [he] at po
    exact PostS.x po E.g
  | ok d =>
    rw [he] at po
    exact fun F1 H1 g l => h d F1 H1 (E.grow g l) po
def sExpr (a : Ev) : Sv := fun δ => do let _ ← a δ; .ok (.nx δ)
theorem ds_expr (h : DE X W a ea) (hs : swapsWith a none pos.line X.env = pure false := by rfl) : DS X W (.Expr a pos) (sExpr ea) := by
  obtain ⟨t, pt, q⟩ := h
  exact ⟨_, ps_expr pt hs, fun F0 H0 F H σ δ Dn E po => ex_run q E po fun d v F' H' E' _ po' => po' σ F' H' E'⟩
def sRet (a : Ev) : Sv := fun δ => do let d ← a δ; .ok (.rt d)
theorem ds_ret (h : DE X W a ea) : DS X W (.Return (some a) pos) (sRet ea) := by
  obtain ⟨t, pt, q⟩ := h
  exact ⟨_, ps_ret pt, fun F0 H0 F H σ δ Dn E po => ex_run q E po fun d v F' H' E' r po' => po' v F' H' E'.g E'.lim r⟩
def sRetN : Sv := fun _ => .ok (.rt .non)
theorem ds_retN : DS X W (.Return none pos) sRetN := ⟨_, ps_retN, fun F0 H0 F H σ δ Dn E po => po .non F H E.g E.lim .non⟩
def sSet (i : Nat) (a : Ev) : Sv := fun δ => do let d ← a δ; .ok (.nx (δ.set i (some (.val d))))
theorem ds_set {i : Nat} {x : Str} {pos' : Pos} (hN : X.N.Nodup) (hi : X.N[i]? = some x) (hx : Loc X.env.scope x) (h : DE X W a ea) (hs : swapsWith a (some (.Name x pos')) pos.line X.env = pure false := by rfl) (hf : X.fn x = true ∨ X.env.scope.names.lookup x = some .local := by first | exact .inl rfl | exact .inr rfl | assumption) :
    DS X W (.Assign [.Name x pos'] a pos) (sSet i ea) := by
  obtain ⟨t, pt, q⟩ := h
  exact ⟨_, ps_set hN hi hx pt hs hf, fun F0 H0 F H σ δ Dn E po => ex_run q E po fun d v F' H' E' r po' => po' _ F' H' (E'.set i r)⟩
/-- a target of several names -/
def sBind (bd : Bd) (a : Ev) : Sv := fun δ => do let d ← a δ; let δ' ← lft (bd d δ); .ok (.nx δ')
theorem ds_bind {tg : Expr} {sl : List Nat} {bd : Bd} (hg : DG X tg sl bd) (h : DE X W a ea) (hs : swapsWithSole [tg] a pos.line X.env = pure false := by rfl) (hw : swappedStores [tg] a X.env = pure none := by rfl)
    (h1 : (assignEach [tg] X.env).map (·.2) = [assign tg X.env] := by rfl) : DS X W (.Assign [tg] a pos) (sBind bd ea) := by
  obtain ⟨t, pt, q⟩ := h
  obtain ⟨g, pg, qg⟩ := hg
  refine ⟨_, ps_asg pt pg hs hw h1, fun F0 H0 F H σ δ Dn E po => ex_run q E po fun d v F' H' E' r po' => ?_⟩
  refine qg F0 H0 F' H' σ δ d v _ E' r ?_
  cases hb : bd d δ with
  | none => rw [hb] at po'; exact po'.elim
  | some δ' =>
    rw [hb] at po'
    exact ⟨δ', rfl, fun σ' _ E2 => po' σ' F' H' E2⟩
def sIf (c : EvT) (a b : Sv) : Sv := fun δ => do let k ← c δ; if k then a δ else b δ
theorem ds_if {vc : EvT} {sa sb : List Stmt} {va vb : Sv} (hc : DT X W c vc) (ha : DSs X W sa va) (hb : DSs X W sb vb) : DS X W (.If c sa sb pos) (sIf vc va vb) := by
  obtain ⟨tc, pc, qc⟩ := hc
  obtain ⟨ta, pa, qa⟩ := ha
  obtain ⟨tb, pb, qb⟩ := hb
  refine ⟨_, ps_if pc pa pb, fun F0 H0 F H σ δ Dn E po => te_run qc E po fun k F' H' E' po' => ?_⟩
  cases k with
  | true => rw [if_pos rfl]; exact qa F0 H0 F' H' σ δ Dn E' (by simpa using po')
  | false => rw [if_neg Bool.false_ne_true]; exact qb F0 H0 F' H' σ δ Dn E' (by simpa using po')
def sAug (i : Nat) (op : D → D → Option D) (a : Ev) : Sv := fun δ => do let x ← eVar i δ; let y ← a δ; let z ← lft (op x y); .ok (.nx (δ.set i (some (.val z))))
def IpD (K : Frag) (mg : Mg) (r : TIp) (op : D → D → Option D) : Prop := ∀ F H x y a b (Q : VK), Same F H → Lim H → R K mg F a x → R K mg F b y → PostO K mg F H Q (op a b) → r x y H Q
theorem PS.suf {t : TS} (h : PS X st t) : PS X st (fun D σ H => t { D with nx := fun σ H => Lim H → D.nx σ H } σ H) :=
  ⟨fun pins s σ H D I w => thn (h.run pins s σ H _ I w) fun f s1 q => by
    cases f with
    | next =>
      obtain ⟨σ', H', I', q⟩ := q
      exact ⟨σ', H', I', q (.of I'.hok)⟩
    | ret v => exact q
    | brk => exact q
    | cont => exact q⟩
theorem ds_aug {i : Nat} {x : Str} {op : Operator} {ti : TIp} {f : D → D → Option D} {pos' : Pos} (hN : X.N.Nodup) (hi : X.N[i]? = some x) (hx : Loc X.env.scope x) (h : DE X W a ea) (ho : PIp X op ti) (hr : IpD X.K X.mg ti f)
    (hf : X.fn x = true ∨ X.env.scope.names.lookup x = some .local := by first | exact .inl rfl | exact .inr rfl | assumption) : DS X W (.AugAssign (.Name x pos') op a pos) (sAug i f ea) := by
  obtain ⟨t, pt, q⟩ := h
  refine ⟨_, PS.suf (ps_aug hN hi hx pt ho hf), fun F0 H0 F H σ δ Dn E po => ?_⟩
  unfold sAug eVar at po
  cases hv : δ[i]? with
  | none => rw [hv] at po; exact po.elim
  | some o =>
    rw [hv] at po
    cases o with
    | none => exact po.elim
    | some c =>
      cases c with
      | own _ => exact po.elim
      | ins _ _ _ => exact po.elim
      | tre _ => exact po.elim
      | val d =>
        obtain ⟨v, h1, h2⟩ := E.sl i _ hv
        refine ⟨v, h1, ?_⟩
        refine q F0 H0 F H σ δ _ E ?_
        simp only [ok_bind] at po
        cases he : ea δ with
        | error er => rw [he] at po; exact PostS.x po E.g
        | ok d2 =>
          rw [he] at po
          intro v2 F1 H1 g l r
          have h3 : R X.K X.mg F1 d v := R.mono g.f _ _ h2
          refine hr F1 H1 v v2 d d2 _ g.s l h3 r ?_
          simp only [ok_bind] at po
          cases ho : f d d2 with
          | none => rw [ho] at po; exact po.elim
          | some z =>
            rw [ho] at po
            exact fun v3 F2 H2 g2 r2 l2 => po _ F2 H2 ((E.grow (g.trans g2) l2).set i r2)
theorem ip_subD : IpD X.K X.mg (rI0 fun i j => .int (i - j)) oSub := by
  intro F H x y a b Q s l ra rb po
  unfold oSub at po
  split at po
  · rw [ra.int_inv, rb.int_inv]
    exact ⟨_, _, rfl, rfl, PostO.fl (s := s) po .int⟩
  · exact po.elim
def oIadd : D → D → Option D
  | .int i, .int j => some (.int (i + j))
  | _, _ => none
theorem ip_addI : IpD X.K X.mg (rI0 fun i j => .int (i + j)) oIadd := by
  intro F H x y a b Q s l ra rb po
  unfold oIadd at po
  split at po
  · rw [ra.int_inv, rb.int_inv]
    exact ⟨_, _, rfl, rfl, PostO.fl (s := s) po .int⟩
  · exact po.elim
def mulOk1 (i j : Int) : Bool := decide (-(2 ^ 64) < i ∧ i < 2 ^ 64) || decide (-(2 ^ 64) < j ∧ j < 2 ^ 64)
def oImul : D → D → Option D
  | .int i, .int j => if mulOk1 i j then some (.int (i * j)) else none
  | _, _ => none
theorem ip_mulI : IpD X.K X.mg (rI CMul fun i j => .int (i * j)) oImul := by
  intro F H x y a b Q s l ra rb po
  unfold oImul at po
  split at po
  · split at po
    · rename_i hz
      rw [ra.int_inv, rb.int_inv]
      unfold mulOk1 at hz
      rw [Bool.or_eq_true] at hz
      exact ⟨_, _, rfl, rfl, hz.elim (fun h => .inl (of_decide_eq_true h)) (fun h => .inr (of_decide_eq_true h)), PostO.fl (s := s) po .int⟩
    · exact po.elim
  · exact po.elim

/-! ### lists of one's own -/
def eOf (ev : EvA) : Ev := fun δ => do let ds ← ev δ; .ok (.lst ds)
theorem grow_put {F H F' H' : Hp} {p : Addr} {vs : List V} (g : Grow F H F' H') (n : H p = none) (f : F' p = none) (h : H' p = some (.lst vs)) : Grow F H (upd F' p (.lst vs)) H' := by
  have fp : F p = none := by
    cases q : F p with
    | none => rfl
    | some u => rw [g.f p u q] at f; cases f
  refine ⟨fun b u e => ?_, g.h, fun b u e => ?_, fun a n1 n2 => ?_⟩
  · rw [upd_ne (ne_of_none e fp)]; exact g.f _ _ e
  · by_cases hb : b = p
    · subst hb; rw [upd_same] at e; rw [h]; exact e
    · rw [upd_ne hb] at e; exact g.s _ _ e
  · have : a ≠ p := fun z => n1 (z ▸ n)
    rw [upd_ne this]; exact g.n a n1 n2
theorem same_put {F : Hp} {p : Addr} {o : HO} (f : F p = none) : Same F (upd F p o) := fun b u e => by
  rw [upd_ne (ne_of_none e f)]; exact e
theorem DF.de {ef : EvA} (h : DF X W a ef) : DE X W a (eOf ef) := by
  obtain ⟨t, p, q⟩ := h
  refine ⟨_, PE.suf p, fun F0 H0 F H σ δ Q E po => q F0 H0 F H σ δ _ E ?_⟩
  unfold eOf at po
  cases h : ef δ with
  | error er => rw [h] at po; exact po
  | ok ds =>
    rw [h] at po
    exact fun p vs F' H' g n f h r l => po (.ref p) _ H' (grow_put g n f h) l (.lst upd_same (r.mono (same_put f)))
theorem EnvOk.own {K : Frag} {mg : Mg} {F0 : Bs} {H0 F H F' H' : Hp} {σ : St} {δ : DEnv} (E : EnvOk K mg F0 H0 F H σ δ) (i : Nat) {p : Addr} {vs : List V} {ds : List D} (g : Grow F H F' H') (l : Lim H') (n : H p = none) (f : F' p = none) (h : H' p = some (.lst vs)) (r : Rs K mg F' ds vs) :
    EnvOk K mg F0 H0 F' H' (σ.set i (some (.ref p))) (δ.set i (some (.own ds))) := by
  have h0 : H0 p = none := by
    cases q : H0 p with
    | none => rfl
    | some u => rw [E.g.h p u q] at n; cases n
  refine E.one i (as := [p]) (E.g.trans g) l (List.length_set ..) (fun hl => by rw [List.getElem?_set_self (by rw [← E.len]; exact hl)]) (fun j hj => by rw [List.getElem?_set_ne (Ne.symm hj)]) ⟨p, vs, rfl, h, r, rfl⟩ (by simp)
    (fun a ha => by rw [List.mem_singleton.mp ha]; exact ⟨f, h0⟩) g.f (fun fp P j c' hj e => ⟨fun a o h _ => g.h _ _ h, fun a ha => ?_⟩) (fun _ _ _ h => by cases h)
  obtain ⟨v, _, hc⟩ := P.c j c' e
  obtain ⟨o, ho, _⟩ := hc.live a ha
  exact ⟨g.n a (by rw [ho]; simp) (P.z j c' e a ha).1, fun z => by rw [List.mem_singleton.mp z, n] at ho; cases ho⟩
/-- the own list at slot i is written -/
theorem EnvOk.put {K : Frag} {mg : Mg} {F0 : Bs} {H0 F H : Hp} {σ : St} {δ : DEnv} (E : EnvOk K mg F0 H0 F H σ δ) {i : Nat} {p : Addr} {ds es : List D} {us : List V} (hi : δ[i]? = some (some (.own ds))) (hp : σ[i]? = some (some (.ref p))) (hz : us.length ≤ sizeLine) (r : Rs K mg F es us) :
    EnvOk K mg F0 H0 F (upd H p (.lst us)) σ (δ.set i (some (.own es))) := by
  obtain ⟨v, h1, a, vs, e, h2, h3, h4, h5⟩ := E.sl i _ hi
  rw [hp] at h1
  cases h1
  cases e
  have g : Grow F0.1 H0 F (upd H p (.lst us)) := ⟨E.g.f, fun b u e => by rw [upd_ne (ne_of_none e h4)]; exact E.g.h _ _ e, fun b u e => by rw [upd_ne (ne_of_none e h3)]; exact E.g.s _ _ e, E.g.n⟩
  have lm : Lim (upd H p (.lst us)) := E.lim.put (fun xs h => by
    rcases h with h | h
    · cases h; exact hz
    · cases h) (fun _ _ h => by cases h)
  refine E.one i (as := [p]) g lm rfl (fun _ => hp) (fun _ _ => rfl) ⟨p, us, rfl, upd_same, r, rfl⟩ (by simp) (fun b hb => by rw [List.mem_singleton.mp hb]; exact ⟨h3, h4⟩) (.refl _) (fun fp P j c' hj e => ?_) (fun _ _ _ h => by cases h)
  have pi : p ∈ fp i := by
    obtain ⟨w, e1, e2⟩ := P.c i _ hi
    rw [hp] at e1
    cases e1
    exact e2.root rfl rfl
  have ne : ∀ a ∈ fp j, a ≠ p := fun a ha z => P.d i j _ _ (Ne.symm hj) hi e p pi (z ▸ ha)
  refine ⟨fun b o hb hc => ?_, fun b hb => ⟨(P.z j c' e b hb).1, fun z => ne b hb (List.mem_singleton.mp z)⟩⟩
  have : b ≠ p := by
    rcases hc with hc | ⟨xs, rfl⟩
    · exact ne b hc
    · intro z; rw [z, h2] at hb; cases hb
  rw [upd_ne this]; exact hb
/-- .. is given away -/
theorem EnvOk.freeze {K : Frag} {mg : Mg} {F0 : Bs} {H0 F H : Hp} {σ : St} {δ : DEnv} (E : EnvOk K mg F0 H0 F H σ δ) {i : Nat} {ds : List D} (hi : δ[i]? = some (some (.own ds))) : ∃ F', EnvOk K mg F0 H0 F' H σ (δ.set i (some (.val (.lst ds)))) := by
  obtain ⟨v, h1, p, vs, e, h2, h3, h4, h5⟩ := E.sl i _ hi
  subst e
  have sm : Same F (upd F p (.lst vs)) := same_put h3
  have g : Grow F0.1 H0 (upd F p (.lst vs)) H := ⟨E.g.f.trans sm, E.g.h, fun b u e => by
    by_cases hb : b = p
    · subst hb; rw [upd_same] at e; rw [h2]; exact e
    · rw [upd_ne hb] at e; exact E.g.s _ _ e, fun a n1 n2 => by
    have : a ≠ p := fun z => n1 (z ▸ h4)
    rw [upd_ne this]; exact E.g.n a n1 n2⟩
  refine ⟨upd F p (.lst vs), E.one i (as := []) g E.lim rfl (fun _ => h1) (fun _ _ => rfl) ⟨.lst upd_same (h5.mono sm), rfl⟩ .nil (fun a h => by cases h) sm (fun fp P j c' hj e => ⟨fun a o h _ => h, fun a ha => ⟨?_, fun z => by cases z⟩⟩) (fun _ _ _ h => by cases h)⟩
  have pi : p ∈ fp i := by
    obtain ⟨w, e1, e2⟩ := P.c i _ hi
    rw [h1] at e1
    cases e1
    exact e2.root rfl rfl
  have ne : a ≠ p := fun z => P.d i j _ _ (Ne.symm hj) hi e p pi (z ▸ ha)
  rw [upd_ne ne]; exact (P.z j c' e a ha).1
def frz (i : Nat) (δ : DEnv) : DEnv := match δ[i]? with
  | some (some (.own ds)) => δ.set i (some (.val (.lst ds)))
  | _ => δ
/-- ahead of a statement a list is given away -/
def sFrz (i : Nat) (s : Sv) : Sv := fun δ => s (frz i δ)
theorem frz_ok {K : Frag} {mg : Mg} {F0 : Bs} {H0 F H : Hp} {σ : St} {δ : DEnv} (E : EnvOk K mg F0 H0 F H σ δ) (i : Nat) : ∃ F', EnvOk K mg F0 H0 F' H σ (frz i δ) := by
  unfold frz
  split
  · rename_i ds h
    exact E.freeze h
  · exact ⟨F, E⟩
theorem ds_frz (i : Nat) (h : DS X W st sv) : DS X W st (sFrz i sv) := by
  obtain ⟨t, p, q⟩ := h
  refine ⟨t, p, fun F0 H0 F H σ δ Dn E po => ?_⟩
  obtain ⟨F', E'⟩ := frz_ok E i
  exact q F0 H0 F' H σ _ Dn E' po
theorem dss_frz (i : Nat) (h : DSs X W sts sv) : DSs X W sts (sFrz i sv) := by
  obtain ⟨t, p, q⟩ := h
  refine ⟨t, p, fun F0 H0 F H σ δ Dn E po => ?_⟩
  obtain ⟨F', E'⟩ := frz_ok E i
  exact q F0 H0 F' H σ _ Dn E' po
/-- name = a new list, one's own -/
def sOwn (i : Nat) (a : EvA) : Sv := fun δ => do let ds ← a δ; .ok (.nx (δ.set i (some (.own ds))))
theorem ds_own {i : Nat} {x : Str} {pos' : Pos} {ef : EvA} (hN : X.N.Nodup) (hi : X.N[i]? = some x) (hx : Loc X.env.scope x) (h : DF X W a ef) (hs : swapsWith a (some (.Name x pos')) pos.line X.env = pure false := by rfl) (hf : X.fn x = true ∨ X.env.scope.names.lookup x = some .local := by first | exact .inl rfl | exact .inr rfl | assumption) :
    DS X W (.Assign [.Name x pos'] a pos) (sOwn i ef) := by
  obtain ⟨t, pt, q⟩ := h
  refine ⟨_, PS.suf (ps_set hN hi hx pt hs hf), fun F0 H0 F H σ δ Dn E po => q F0 H0 F H σ δ _ E ?_⟩
  unfold sOwn at po
  cases he : ef δ with
  | error er => rw [he] at po; exact PostS.x po E.g
  | ok ds =>
    rw [he] at po
    exact fun p vs F' H' g n f h r l => po _ F' H' (E.own i g l n f h r)

/-! ### what makes new lists -/
def fLst (r : EvA) : EvA := fun δ => do let xs ← r δ; if xs.length ≤ sizeLine then .ok xs else stk
theorem df_lst (h : DA X W es er) : DF X W (.List es pos) (fLst er) := by
  obtain ⟨t, p, q⟩ := h
  refine ⟨_, pe_lst p, fun F0 H0 F H σ δ Q E po => q F0 H0 F H σ δ _ E ?_⟩
  unfold fLst at po
  cases h : er δ with
  | error e => rw [h] at po; exact po
  | ok ds =>
    rw [h] at po
    intro vs F1 H1 g1 l1 r1
    simp only [ok_bind] at po
    by_cases hz : ds.length ≤ sizeLine
    · rw [if_pos hz] at po
      refine ⟨by rw [← r1.length]; exact hz, fun p hp => ?_⟩
      have gn := Grow.new g1.s (o := .lst vs) hp
      have np : H p = none := by
        cases q : H p with
        | none => rfl
        | some u => rw [g1.h p u q] at hp; cases hp
      have fp : F1 p = none := by
        cases q : F1 p with
        | none => rfl
        | some u => rw [g1.s p u q] at hp; cases hp
      refine po p vs F1 _ ⟨g1.f, g1.h.trans gn.h, fun b u e => ?_, g1.n⟩ np fp upd_same r1
      rw [upd_ne (ne_of_none e fp)]; exact g1.s _ _ e
    · rw [if_neg hz] at po; exact po.elim
end
end DL

namespace DL
open PySem PySem.Spec PyProof.Rows L2

section
variable {X : Cx} {W : WX} {e a b c tg iter elt : Expr} {ev ea eb ec : Ev} {pos p spos apos cpos py : Pos} {es : List Expr} {er it : EvA} {st : Stmt} {sts body : List Stmt} {sv sw sb : Sv}
variable {ifs : List Expr} {scope : Scope} {own : List (Str × Nat)} {sl : List Nat} {bd : Bd} {vt : EvT} {ve : Ev}

/-! ### name = [..] -/
theorem ds_ownLc {i : Nat} {y : Str} (hc : X.calm = true) (hN : X.N.Nodup) (hy : X.N[i]? = some y) (hyl : X.env.scope.names.lookup y = some .local)
    (hsw : swapsWith (.ListComp elt [⟨tg, iter, ifs, 0⟩] scope pos) (some (.Name y py)) spos.line X.env = pure true) (hi : DI X W tg iter it) (ok : BlkOk X.N X.env.scope scope own) (hg : Blk X scope fun Y => DG Y tg sl bd) (ht : Blk X scope fun Y => DTs Y WF ifs vt) (he : Blk X scope fun Y => DE Y WF elt ve)
    (hsl : ∀ i ∈ sl, i ∈ own.map (·.2) := by decide) (hs : ∀ x, foldedSetIterable iter X.env x = pure x := by intro _; rfl) :
    DS X W (.Assign [.Name y py] (.ListComp elt [⟨tg, iter, ifs, 0⟩] scope pos) spos) (sOwn i (fComp it (own.map (·.2)) bd vt ve)) := by
  obtain ⟨t, pi, qi⟩ := hi
  obtain ⟨g, pg, qg⟩ := blk_g hg
  obtain ⟨tt, pt, qt⟩ := blk_t ht
  obtain ⟨te, pe, qe⟩ := blk_e he
  refine ⟨_, PS.suf (ps_setLc hc hN hy hyl hsw pi ok pg pt pe hs), fun F0 H0 F H σ δ Dn E po => tlc_run qi qg qt qe hsl E ?_⟩
  unfold sOwn at po
  cases h : fComp it (own.map (·.2)) bd vt ve δ with
  | error er => rw [h] at po; exact PostS.x po E.g
  | ok ds =>
    rw [h] at po
    exact fun p vs F' H' g n f h r l => po _ F' H' (E.own i g l n f h r)
/-- an own list is given away behind the statement -/
def sThenFrz (i : Nat) (s : Sv) : Sv := fun δ => do
  let r ← s δ
  match r with
  | .nx δ' => .ok (.nx (frz i δ'))
  | r => .ok r
theorem ds_thenFrz (i : Nat) (h : DS X W st sv) : DS X W st (sThenFrz i sv) := by
  obtain ⟨t, p, q⟩ := h
  refine ⟨t, p, fun F0 H0 F H σ δ Dn E po => q F0 H0 F H σ δ Dn E ?_⟩
  unfold sThenFrz at po
  cases h : sv δ with
  | error er =>
    rw [h] at po
    cases er with
    | stuck => exact po
    | exc C ks ds => exact po
  | ok r =>
    rw [h] at po
    cases r with
    | nx δ' =>
      intro σ' F' H' E'
      obtain ⟨F2, E2⟩ := frz_ok E' i
      exact po σ' F2 H' E2
    | bk δ' => exact po
    | ct δ' => exact po
    | rt d => exact po
    | rx d => exact po
/-- name = [..], frozen -/
def sSetF (i : Nat) (a : EvA) : Sv := fun δ => do let ds ← a δ; .ok (.nx (δ.set i (some (.val (.lst ds)))))
theorem ds_setLc {i : Nat} {y : Str} (hc : X.calm = true) (hN : X.N.Nodup) (hy : X.N[i]? = some y) (hyl : X.env.scope.names.lookup y = some .local)
    (hsw : swapsWith (.ListComp elt [⟨tg, iter, ifs, 0⟩] scope pos) (some (.Name y py)) spos.line X.env = pure true) (hi : DI X W tg iter it) (ok : BlkOk X.N X.env.scope scope own) (hg : Blk X scope fun Y => DG Y tg sl bd) (ht : Blk X scope fun Y => DTs Y WF ifs vt) (he : Blk X scope fun Y => DE Y WF elt ve)
    (hsl : ∀ i ∈ sl, i ∈ own.map (·.2) := by decide) (hs : ∀ x, foldedSetIterable iter X.env x = pure x := by intro _; rfl) :
    DS X W (.Assign [.Name y py] (.ListComp elt [⟨tg, iter, ifs, 0⟩] scope pos) spos) (sSetF i (fComp it (own.map (·.2)) bd vt ve)) := by
  obtain ⟨t, pi, qi⟩ := hi
  obtain ⟨g, pg, qg⟩ := blk_g hg
  obtain ⟨tt, pt, qt⟩ := blk_t ht
  obtain ⟨te, pe, qe⟩ := blk_e he
  refine ⟨_, PS.suf (ps_setLc hc hN hy hyl hsw pi ok pg pt pe hs), fun F0 H0 F H σ δ Dn E po => tlc_run qi qg qt qe hsl E ?_⟩
  unfold sSetF at po
  cases h : fComp it (own.map (·.2)) bd vt ve δ with
  | error er => rw [h] at po; exact PostS.x po E.g
  | ok ds =>
    rw [h] at po
    exact fun p vs F' H' g n f h r l => po _ _ H' ((E.grow (grow_put g n f h) l).set i (.lst upd_same (r.mono (same_put f))))

/-! ### methods of an own list -/
def ownAt (i : Nat) (δ : DEnv) : Option (List D) := match δ[i]? with
  | some (some (.own ds)) => some ds
  | _ => none
theorem ownAt_eq {i : Nat} {δ : DEnv} {ds : List D} (h : ownAt i δ = some ds) : δ[i]? = some (some (.own ds)) := by
  unfold ownAt at h
  split at h
  · rename_i h2; cases h; exact h2
  · cases h
theorem ownAt_ok {K : Frag} {mg : Mg} {F0 : Bs} {H0 F H : Hp} {σ : St} {δ : DEnv} {i : Nat} {ds : List D} (E : EnvOk K mg F0 H0 F H σ δ) (h : ownAt i δ = some ds) :
    ∃ a vs, σ[i]? = some (some (.ref a)) ∧ H a = some (.lst vs) ∧ Rs K mg F ds vs := by
  obtain ⟨v, h1, a, vs, rfl, h2, _, _, h5⟩ := E.sl i _ (ownAt_eq h)
  exact ⟨a, vs, h1, h2, h5⟩
def sApp (i : Nat) (a : Ev) : Sv := fun δ => do
  let ds ← lft (ownAt i δ)
  let d ← a δ
  if ds.length < sizeLine then .ok (.nx (δ.set i (some (.own (ds ++ [d]))))) else stk
theorem PostS.stk {K : Frag} {mg : Mg} {F0 : Bs} {H0 : Hp} {Dn : Ends} {A : Prop} (h : PostS K mg F0 H0 W Dn stk) : A := h.elim
/-- x.append(a) -/
theorem ds_append {i : Nat} {x : Str} (hN : X.N[i]? = some x) (hv : Vis X.env.scope x) (h : DE X W a ea) (hd : (x == ("__debug__" : Str)) = false := by decide) (hcd : (x == ("__classdict__" : Str)) = false := by decide)
    (hbase : attributeBase (.Name x p) "append" X.env (eval (.Name x p) X.env) = eval (.Name x p) X.env := by rfl)
    (hfew : ((backTo cpos (starEach [a] X.env)).all (fun x => !x.1) && (backToKw cpos (keywordEach [] X.env)).all (fun x => x.1.isSome) && decide (([a] : List Expr).length + ([] : List Keyword).length + (if ([] : List Keyword).isEmpty then 0 else 1) < 30)) = true := by rfl)
    (hline : (apos.endLine == cpos.line) = true := by rfl) (hst : starEach [a] X.env = (false, eval a X.env) :: starEach [] X.env := by rfl) (hs : swapsWith (.Call (.Attribute (.Name x p) "append" apos) [a] [] cpos) none spos.line X.env = pure false := by rfl) :
    DS X W (.Expr (.Call (.Attribute (.Name x p) "append" apos) [a] [] cpos) spos) (sApp i ea) := by
  obtain ⟨t, pt, q⟩ := h
  refine ⟨_, PS.suf (ps_expr (pe_bm PySem.F.plainAttrs_list PySem.F.slot_list_append PySem.F.type_list_append mt_append (pe_var hN hv hd hcd) (pa_cons pt pa_nil hst) hbase hfew hline hst rfl) hs), fun F0 H0 F H σ δ Dn E po => ?_⟩
  unfold sApp at po
  cases ho : ownAt i δ with
  | none => rw [ho] at po; exact po.elim
  | some ds =>
    rw [ho] at po
    obtain ⟨a1, vs, h1, h2, h3⟩ := ownAt_ok E ho
    refine ⟨.ref a1, h1, .inl ⟨rfl, _, .of h2⟩, q F0 H0 F H σ δ _ E ?_⟩
    simp only [lft_some, ok_bind] at po
    cases he : ea δ with
    | error er => rw [he] at po; exact PostS.x po E.g
    | ok d =>
      rw [he] at po
      intro v F1 H1 g l r
      simp only [ok_bind] at po
      split at po
      · rename_i hz
        have hz' : vs.length < sizeLine := by rw [← h3.length]; exact hz
        refine ⟨a1, vs, v, rfl, rfl, g.h _ _ h2, hz', fun l' => po σ F1 _ ((E.grow g l).put (ownAt_eq ho) h1 ?_ ((h3.mono g.f).append (.cons r .nil)))⟩
        rw [List.length_append]; exact hz'
      · exact po.elim
/-- x[k] = a, x an own list -/
def sPut (i : Nat) (k a : Ev) : Sv := fun δ => do
  let d ← a δ
  let ds ← lft (ownAt i δ)
  let j ← k δ
  match j with
  | .int j => do
    let n ← lft (ixN ds.length j)
    .ok (.nx (δ.set i (some (.own (ds.set n d)))))
  | _ => stk
theorem ds_put {i : Nat} {x : Str} {kpos : Pos} (hN : X.N[i]? = some x) (hv : Vis X.env.scope x) (hk : DE X W b eb) (h : DE X W a ea) (hd : (x == ("__debug__" : Str)) = false := by decide) (hcd : (x == ("__classdict__" : Str)) = false := by decide)
    (hsub : ∀ v, assign (.Subscript (.Name x p) b kpos) X.env v = (do
      let ov ← holding [v] (eval (.Name x p) X.env)
      let iv ← holding [v, ov] (eval b X.env)
      standAt kpos
      holding [v, ov, iv] (setItem ov iv v)
      release [v, ov, iv] []) := by intro _; rfl)
    (hs : swapsWithSole [.Subscript (.Name x p) b kpos] a pos.line X.env = pure false := by rfl) (hw : swappedStores [.Subscript (.Name x p) b kpos] a X.env = pure none := by rfl)
    (h1 : (assignEach [.Subscript (.Name x p) b kpos] X.env).map (·.2) = [assign (.Subscript (.Name x p) b kpos) X.env] := by rfl) :
    DS X W (.Assign [.Subscript (.Name x p) b kpos] a pos) (sPut i eb ea) := by
  obtain ⟨t, pt, q⟩ := h
  obtain ⟨tk, pk, qk⟩ := hk
  refine ⟨_, PS.suf (ps_asg pt (pg_sub (pe_var hN hv hd hcd) pk set_list hsub) hs hw h1), fun F0 H0 F H σ δ Dn E po => ?_⟩
  unfold sPut at po
  refine ex_run q E po fun d v F1 H1 E1 r po => ?_
  cases ho : ownAt i δ with
  | none => rw [ho] at po; exact po.elim
  | some ds =>
    rw [ho] at po
    simp only [lft_some, ok_bind] at po
    obtain ⟨a1, vs, h1, h2, h3⟩ := ownAt_ok E1 ho
    refine ⟨.ref a1, h1, qk F0 H0 F1 H1 σ δ _ E1 ?_⟩
    cases hk : eb δ with
    | error er => rw [hk] at po; exact PostS.x po E1.g
    | ok j =>
      rw [hk] at po
      intro v2 F2 H2 g l r2
      simp only [ok_bind] at po
      cases j with
      | int j =>
        simp only at po
        cases hn : ixN ds.length j with
        | none => rw [hn] at po; exact po.elim
        | some n =>
          rw [hn] at po
          refine ⟨a1, vs, j, n, rfl, r2.int_inv, g.h _ _ h2, by rw [← h3.length]; exact hn, fun l' => po σ F2 _ ((E1.grow g l).put (ownAt_eq ho) h1 ?_ ((h3.mono g.f).set n (r.mono g.f)))⟩
          rw [List.length_set]
          exact l.sqL (K := X.K) (.of (g.h _ _ h2))
      | _ => exact po.elim

/-! ### for -/
def forD (bd : Bd) (body : Sv) : List D → DEnv → M Fl
  | [], δ => .ok (.nx δ)
  | x :: xs, δ => do
    let δ1 ← lft (bd x δ)
    let r ← body δ1
    match r with
    | .nx δ2 => forD bd body xs δ2
    | .ct δ2 => forD bd body xs δ2
    | .bk δ2 => .ok (.nx δ2)
    | .rt d => .ok (.rt d)
    | .rx d => .ok (.rx d)
def sFor (it : EvA) (bd : Bd) (body : Sv) : Sv := fun δ => do let xs ← it δ; forD bd body xs δ
theorem Grow.base {F0 H0 F1 H1 F H : Hp} (g : Grow F0 H0 F1 H1) (g' : Grow F1 H0 F H) : Grow F0 H0 F H :=
  ⟨g.f.trans g'.f, g'.h, g'.s, fun a n1 n2 => g'.n a n1 (g.n a n1 n2)⟩
section
variable {K : Frag} {mg : Mg} {F0 : Bs} {H0 F1 H1 F H : Hp} {σ : St} {δ : DEnv} {Dn : Ends}
theorem EnvOk.up (g : Grow F0.1 H0 F1 H1) (E : EnvOk K mg (F1, F0.2) H0 F H σ δ) : EnvOk K mg F0 H0 F H σ δ := ⟨g.base E.g, E.lim, E.len, E.ex, E.pn⟩
theorem EnvOk.down (E : EnvOk K mg F0 H0 F H σ δ) : EnvOk K mg (F, F0.2) H0 F H σ δ := ⟨⟨.refl _, E.g.h, E.g.s, fun _ _ h => h⟩, E.lim, E.len, E.ex, E.pn⟩
theorem PostS.down {r : M Fl} (g : Grow F0.1 H0 F1 H1) (h : PostS K mg F0 H0 W Dn r) : PostS K mg (F1, F0.2) H0 W Dn r := by
  cases r with
  | error er =>
    cases er with
    | stuck => exact h
    | exc C ks ds => exact fun c dd σ F H g' => h c dd σ F H (g.base g')
  | ok r =>
    cases r with
    | nx δ => exact fun σ F H E => h σ F H (E.up g)
    | bk δ => exact fun σ F H E => h σ F H (E.up g)
    | ct δ => exact fun σ F H E => h σ F H (E.up g)
    | rt d => exact fun v F H g' l r => h v F H (g.base g') l r
    | rx d => exact fun v as F H g' l r n z => h v as F H (g.base g') l r n z
end
/-- one turn: the body's end is the next turn's start -/
theorem turn_post {K : Frag} {mg : Mg} {F0 : Bs} {H0 : Hp} {Dn : Ends} {r : M Fl} {k : DEnv → M Fl} {N : St → Hp → Prop}
    (h : PostS K mg F0 H0 W Dn (do
      let r ← r
      match r with
      | .nx δ2 => k δ2
      | .ct δ2 => k δ2
      | .bk δ2 => .ok (.nx δ2)
      | .rt d => .ok (.rt d)
      | .rx d => .ok (.rx d)))
    (hN : ∀ σ F H δ, EnvOk K mg F0 H0 F H σ δ → PostS K mg F0 H0 W Dn (k δ) → N σ H) : PostS K mg F0 H0 W { Dn with nx := N, ct := N, bk := Dn.nx } r := by
  cases r with
  | error er =>
    cases er with
    | stuck => exact h
    | exc C ks ds => exact h
  | ok r =>
    cases r with
    | nx δ => exact fun σ F H E => hN σ F H δ E h
    | ct δ => exact fun σ F H E => hN σ F H δ E h
    | bk δ => exact h
    | rt d => exact h
    | rx d => exact h
theorem ds_for (hp : PassesOwn (model X.prog X.w) X.A X.env X.xe) (hc : X.calm = true) (hi : DI X W tg iter it) (hg : DG X tg sl bd) (hb : DSs X W body sb) (hs : ∀ x, foldedSetIterable iter X.env x = pure x := by intro _; rfl) :
    DS X W (.For tg iter body [] pos) (sFor it bd sb) := by
  obtain ⟨ti, pi, qi⟩ := hi
  obtain ⟨g, pg, qg⟩ := hg
  obtain ⟨tb, pb, qb⟩ := hb
  refine ⟨_, ps_for hp hc pi pg pb hs, fun F0 H0 F H σ δ Dn E po => qi F0 H0 F H σ δ _ E ?_⟩
  unfold sFor at po
  cases h : it δ with
  | error er => rw [h] at po; exact PostS.x po E.g
  | ok xs =>
    rw [h] at po
    simp only [ok_bind] at po
    intro J F1 H1 g1 l1 hz io
    have E1 := E.grow g1 l1
    -- what stands ahead of the turn i
    let Tn : Nat → L2.St → Hp → Prop := fun i σ H => ∃ F2 δ2, EnvOk X.K X.mg (F1, F0.2) H0 F2 H σ δ2 ∧ PostS X.K X.mg (F1, F0.2) H0 W Dn (forD bd sb (xs.drop i) δ2)
    refine ⟨fun i m σ H => m = xs.length - i ∧ i ≤ xs.length ∧ Tn i σ H, ⟨xs.length, by simp, Nat.zero_le _, F1, δ, E1.down, PostS.down E1.g po⟩, ?_⟩
    rintro i m σ2 H2 ⟨rfl, hi, F2, δ2, E2, po2⟩
    obtain ⟨ig, is⟩ := io F2 H2 E2.g.f E2.g.s E2.lim i
    by_cases hlt : i < xs.length
    · obtain ⟨go, yl⟩ := ig xs[i] (List.getElem?_eq_getElem hlt)
      refine .inr ⟨go, Tn (i + 1), fun σ' H' p' => ⟨xs.length - (i + 1), by omega, rfl, hlt, p'⟩, fun x H' y => ?_⟩
      obtain ⟨l3, F3, g3, r3⟩ := yl x H' y
      have E3 := E2.grow g3 l3
      rw [List.drop_eq_getElem_cons hlt] at po2
      unfold forD at po2
      cases hb : bd xs[i] δ2 with
      | none => rw [hb] at po2; exact po2.elim
      | some δ1 =>
        rw [hb] at po2
        simp only [lft_some, ok_bind] at po2
        exact qg (F1, F0.2) H0 F3 H' σ2 δ2 _ _ _ E3 r3 ⟨δ1, hb, fun σ3 _ E4 => qb (F1, F0.2) H0 F3 H' σ3 δ1 _ E4 (turn_post po2 fun σ4 F4 H4 δ4 E5 po5 => ⟨F4, δ4, E5, po5⟩)⟩
    · have e : i = xs.length := by omega
      subst e
      refine .inl ⟨is rfl, ?_⟩
      rw [List.drop_length] at po2
      exact po2 σ2 F2 H2 E2

/-! ### while -/
def whileD : Nat → EvT → Sv → DEnv → M Fl
  | 0, _, _, _ => stk
  | n + 1, c, body, δ => do
    let k ← c δ
    if k then do
      let r ← body δ
      match r with
      | .nx δ2 => whileD n c body δ2
      | .ct δ2 => whileD n c body δ2
      | .bk δ2 => .ok (.nx δ2)
      | .rt d => .ok (.rt d)
      | .rx d => .ok (.rx d)
    else .ok (.nx δ)
theorem ds_while (n : Nat) (hp : PassesOwn (model X.prog X.w) X.A X.env X.xe) (hc : DT X W c vt) (hb : DSs X W body sb) : DS X W (.While c body [] pos) (whileD n vt sb) := by
  obtain ⟨tc, pc, qc⟩ := hc
  obtain ⟨tb, pb, qb⟩ := hb
  refine ⟨_, ps_while hp pc pb, fun F0 H0 F H σ δ Dn E po => ?_⟩
  refine ⟨fun m σ H => ∃ F2 δ2, EnvOk X.K X.mg F0 H0 F2 H σ δ2 ∧ PostS X.K X.mg F0 H0 W Dn (whileD m vt sb δ2), ⟨n, F, δ, E, po⟩, ?_⟩
  rintro m σ2 H2 ⟨F2, δ2, E2, po2⟩
  cases m with
  | zero => exact po2.elim
  | succ m =>
    unfold whileD at po2
    refine te_run qc E2 po2 fun k F3 H3 E3 po3 => ?_
    cases k with
    | false =>
      rw [if_neg Bool.false_ne_true]
      exact (show PostS X.K X.mg F0 H0 W Dn (.ok (.nx δ2)) from by simpa using po3) σ2 F3 H3 E3
    | true =>
      rw [if_pos rfl]
      refine ⟨fun σ H => ∃ F2 δ2, EnvOk X.K X.mg F0 H0 F2 H σ δ2 ∧ PostS X.K X.mg F0 H0 W Dn (whileD m vt sb δ2), fun σ' H' p' => ⟨m, Nat.lt_succ_self _, p'⟩, ?_⟩
      exact qb F0 H0 F3 H3 σ2 δ2 _ E3 (turn_post (by simpa using po3) fun σ4 F4 H4 δ4 E5 po5 => ⟨F4, δ4, E5, po5⟩)

/-! ### in, not in -/
def inD (x c : D) : Option Bool := match c with
  | .lst ds => if x.okE eqDepth && (D.lst ds).okE eqDepth then some (decide (x ∈ ds)) else none
  | .tup ds => if x.okE 0 && ds.all (D.okE 0) then some (decide (x ∈ ds)) else none
  | _ => none
def oIn (x c : D) : Option D := (inD x c).map .bl
def oNotIn (x c : D) : Option D := (inD x c).map fun k => .bl (!k)
theorem any_eqv {n : Nat} {x : D} (hx : x.okE n = true) : ∀ {ds : List D}, (∀ d ∈ ds, D.okE n d = true) → ((D.pys ds).any fun z => PyData.eqv z x.py) = decide (x ∈ ds)
  | [], _ => by simp [D.pys]
  | d :: ds, h => by
    simp only [D.pys, List.any_cons]
    rw [any_eqv hx fun y hy => h y (List.mem_cons_of_mem _ hy), eqv_iff n d x (h d List.mem_cons_self) hx]
    by_cases e : d = x
    · subst e; simp
    · have e2 : x ≠ d := fun z => e z.symm
      simp [e, e2]
theorem okE_mono : ∀ (n : Nat) (d : D), d.okE n = true → d.okE (n + 1) = true := by
  intro n
  induction n with
  | zero => intro d h; cases d <;> simp_all [D.okE]
  | succ n ih =>
    intro d h
    cases d with
    | tup xs => exact okE_list.mpr fun x hx => ih x (okE_list.mp h x hx)
    | lst xs => exact okE_list.mpr fun x hx => ih x (okE_list.mp h x hx)
    | _ => simp_all [D.okE]
theorem okE_le {n m : Nat} {d : D} (h : d.okE n = true) (l : n ≤ m) : d.okE m = true := by
  induction l with
  | refl => exact h
  | step _ ih => exact okE_mono _ d ih
theorem flat_of {K : Frag} {mg : Mg} {F : Hp} {d : D} {v : V} (h : d.okE 0 = true) (r : R K mg F d v) : flatV v = true ∧ ∀ {e : D} {u : V}, e.okE 0 = true → R K mg F e u → eqV u v = decide (e = d) := by
  cases d with
  | non =>
    rw [r.non_inv]
    refine ⟨rfl, fun {e u} he re => ?_⟩
    cases e with
    | non => rw [re.non_inv]; rfl
    | int i => rw [re.int_inv]; rfl
    | str i => rw [re.str_inv]; rfl
    | _ => simp [D.okE] at he
  | int j =>
    rw [r.int_inv]
    refine ⟨rfl, fun {e u} he re => ?_⟩
    cases e with
    | non => rw [re.non_inv]; rfl
    | int i => rw [re.int_inv]; simp [eqV, Bool.beq_eq_decide_eq]
    | str i => rw [re.str_inv]; rfl
    | _ => simp [D.okE] at he
  | str j =>
    rw [r.str_inv]
    refine ⟨rfl, fun {e u} he re => ?_⟩
    cases e with
    | non => rw [re.non_inv]; rfl
    | int i => rw [re.int_inv]; rfl
    | str i => rw [re.str_inv]; simp [eqV, Bool.beq_eq_decide_eq]
    | _ => simp [D.okE] at he
  | _ => simp [D.okE] at h
theorem flats_of {K : Frag} {mg : Mg} {F : Hp} {x : D} {xv : V} (hx : x.okE 0 = true) (rx : R K mg F x xv) : ∀ {ds : List D} {vs : List V}, (∀ d ∈ ds, D.okE 0 d = true) → Rs K mg F ds vs → vs.all flatV = true ∧ inV xv vs = decide (x ∈ ds)
  | [], vs, _, r => by rw [r.nil_inv]; exact ⟨rfl, by simp [inV]⟩
  | d :: ds, vs, h, r => by
    obtain ⟨v, t, rfl, hv, ht⟩ := r.cons_inv
    obtain ⟨h1, h2⟩ := flats_of hx rx (fun y hy => h y (List.mem_cons_of_mem _ hy)) ht
    have hd := h d List.mem_cons_self
    refine ⟨by rw [List.all_cons, (flat_of hd hv).1, h1]; rfl, ?_⟩
    unfold inV at h2 ⊢
    rw [List.any_cons, h2, (flat_of hx rx).2 hd hv]
    by_cases e : d = x
    · subst e; simp
    · have e2 : x ≠ d := fun z => e z.symm
      simp [e, e2]
def rInX (K : Frag) : R2 := fun x y H Q => rInD K x y H Q ∨ rIn K false x y H Q
def rNotInX (K : Frag) : R2 := fun x y H Q => rNotInD K x y H Q ∨ rIn K true x y H Q
theorem or_in (hu : X.A.units + 65 < cLine) : OpR X (compareOp .In) (rInX X.K) := (op_inD hu).or op_in_seq
theorem or_notin (hu : X.A.units + 65 < cLine) : OpR X (compareOp .NotIn) (rNotInX X.K) := (op_notInD hu).or op_notIn_seq
theorem in_cases {K : Frag} {mg : Mg} {F H : Hp} {a b : D} {x y : V} {k : Bool} (s : Same F H) (ra : RB K mg F H a x) (rb : RB K mg F H b y) (h : inD a b = some k) :
    (∃ d ds, Dp K H x d ∧ Dp K H y (.list ds) ∧ SeqAt.shaped d = true ∧ SeqAt.shaped (.list ds) = true ∧ (ds.any fun z => PyData.eqv z d) = k) ∨
    (∃ p xs, y = .ref p ∧ (SqL K H p xs ∨ SqT K H p xs) ∧ flatV x = true ∧ xs.all flatV = true ∧ inV x xs = k) := by
  unfold inD at h
  split at h
  · rename_i ds
    split at h
    · rename_i hz
      cases h
      rw [Bool.and_eq_true] at hz
      have h2 := dp_of _ _ y hz.2 (rb.inH s)
      have sh := py_shaped hz.2
      refine .inl ⟨a.py, D.pys ds, dp_of _ a x hz.1 (ra.inH s), h2, py_shaped hz.1, sh, ?_⟩
      exact any_eqv hz.1 fun d hd => okE_le (okE_list.mp (show ds.all (D.okE 59) = true from hz.2) d hd) (by decide)
    · cases h
  · rename_i ds
    split at h
    · rename_i hz
      cases h
      rw [Bool.and_eq_true] at hz
      obtain ⟨p, vs, rfl, h1, r1⟩ := rb.tup_inv
      have rx := ra.inH s
      obtain ⟨f1, f2⟩ := flats_of hz.1 rx (okE_list.mp hz.2) (r1.mono s)
      exact .inr ⟨p, vs, rfl, .inr (Same.sqT s h1), (flat_of hz.1 rx).1, f1, f2⟩
    · cases h
  · cases h
theorem od_in : OpD X.K X.mg (rInX X.K) oIn := by
  intro F H x y a b Q s l ra rb po
  unfold oIn at po
  cases h : inD a b with
  | none => rw [h] at po; exact po.elim
  | some k =>
    rw [h] at po
    rcases in_cases s ra rb h with ⟨d, ds, h1, h2, h3, h4, h5⟩ | ⟨p, xs, h1, h2, h3, h4, h5⟩
    · exact .inl ⟨d, ds, h1, h2, h3, h4, by rw [h5]; exact PostO.fl (s := s) po .bl⟩
    · exact .inr ⟨p, xs, h1, h2, h3, h4, by rw [if_neg Bool.false_ne_true, h5]; exact PostO.fl (s := s) po .bl⟩
theorem od_notin : OpD X.K X.mg (rNotInX X.K) oNotIn := by
  intro F H x y a b Q s l ra rb po
  unfold oNotIn at po
  cases h : inD a b with
  | none => rw [h] at po; exact po.elim
  | some k =>
    rw [h] at po
    rcases in_cases s ra rb h with ⟨d, ds, h1, h2, h3, h4, h5⟩ | ⟨p, xs, h1, h2, h3, h4, h5⟩
    · exact .inl ⟨d, ds, h1, h2, h3, h4, by rw [h5]; exact PostO.fl (s := s) po .bl⟩
    · exact .inr ⟨p, xs, h1, h2, h3, h4, by rw [if_pos rfl, h5]; exact PostO.fl (s := s) po .bl⟩
end
end DL

namespace DL
open PySem PySem.Spec PyProof.Rows L2

/-! ### set(a list of ints), at the library's level -/
section
variable {P : Program} {w : World} {A : Around} {E : Value → Shared → Prop} {s : Shared}
abbrev emptySet (w : World) : Obj := { cls := .type "set", dict := none, data := .set #[] 0 (.fresh 0 0 (!w.params.followText "set-order")) }
/-- what set(xs) leaves -/
def SetMade (w : World) (s : Shared) (ns : List Int) (h' : Heap) : Prop :=
  (∃ c, SetR w h' s.heap.objs.size (fun j => decide (j ∈ ns)) c ∧ c ≤ ns.length) ∧ ∀ b o, s.heap.get? b = some o → h'.get? b = some o
theorem setInit_list {l : Addr} {items : Array Value} {ns : List Int} (hh : A.handled = none) (hl : s.heap.IsList l items) (hi : IntsAre items.toList ns) (hb : ns.length + 1 < scanBound) {s1 : Shared} (e1 : s1 = { s with heap := s.heap.push (emptySet w) }) :
    wpAny (model P w) A (Builtin.«set.__init__» ⟨[.ref s.heap.objs.size, .ref l], []⟩) (fun f s' => ∃ h' tk, f = .done (.ret .none) ∧ s' = { s with heap := h', toks := tk } ∧ SetMade w s ns h') E s1 := by
  subst e1
  have size : items.size = ns.length := by
    have q := IntsAre.length hi
    rwa [Array.length_toList] at q
  have lt : l < s.heap.objs.size := by
    obtain ⟨ol, h1, _⟩ := hl
    exact Heap.lt_size h1
  have gotS : (s.heap.push (emptySet w)).get? s.heap.objs.size = some (emptySet w) := Heap.get?_push_size _ rfl
  have hl2 : (s.heap.push (emptySet w)).IsList l items := hl.push _
  obtain ⟨ol, g1, g2, n, g3⟩ := hl2
  obtain ⟨oc, od, odt, osl⟩ := ol
  dsimp only at g2 g3
  subst g2 g3
  have hl2 : (s.heap.push (emptySet w)).IsList l items := ⟨_, g1, rfl, n, rfl⟩
  have k1 := F.sub_list_set
  have k2 := F.sub_list_frozenset
  have k3 : (Value.type "list" == Value.type "dict") = false := by decide
  unfold Builtin.«set.__init__» noKeywords Builtin.Frozenset.updateFrom
  generalize hp : pyIter = it
  wp_walk
  subst hp
  refine wpAny_pyIter_list hl2 (wpAny_bind (wpAny_runValue ?_))
  have h3 : A.in1.handled = none := by simp [hh]
  have sz1 : (s.heap.push (emptySet w)).objs.size = s.heap.objs.size + 1 := Heap.size_push ..
  have ne1 : l ≠ (s.heap.push (emptySet w)).objs.size := by rw [sz1]; exact Nat.ne_of_lt (Nat.lt_succ_of_lt lt)
  have nin : s.heap.objs.size ∉ [(s.heap.push (emptySet w)).objs.size, l] := by
    rw [sz1]
    simp only [List.mem_cons, List.not_mem_nil, or_false, not_or]
    exact ⟨Nat.ne_of_lt (Nat.lt_succ_self _), Nat.ne_of_gt lt⟩
  have val : ∀ (i : Nat) (v : Value), items[i]? = some v → ∃ k t, ns[i]? = some k ∧ v = .int k t := fun i v hv => by
    have li : i < ns.length := by rw [← size]; exact (Array.getElem?_eq_some_iff.mp hv).1
    obtain ⟨t, e⟩ := PyProof.Rows.IntsAre.int_at hi i v (by rw [Array.getElem?_toList]; exact hv)
    exact ⟨ns[i], t, List.getElem?_eq_getElem li, by rw [e, List.getD_eq_getElem?_getD, List.getElem?_eq_getElem li]; rfl⟩
  refine set_update_ints ((Walks.list h3 _ l ne1 items).toS) s.heap.objs.size nin ns size hb val (items.size - 0) 0 _ (by omega) (Nat.zero_le _) ⟨⟨_, Heap.get?_push_size _ rfl, rfl, rfl⟩, hl2.push _⟩
    ⟨0, Nat.le_refl 0, setR_new_at (w := w) (Heap.get?_push_of_some _ gotS)⟩ fun s' c mv cl R => ?_
  obtain ⟨h', g', d', t', o'⟩ := s'
  obtain rfl : g' = s.gens := mv.gens
  obtain rfl : d' = s.drawn := mv.drawn
  obtain rfl : o' = s.os := mv.os
  rw [size] at cl
  refine wpAny_pure (wpAny_pure ⟨h', t', rfl, rfl, ⟨c, R, cl⟩, fun b o e => ?_⟩)
  have b0 : b < s.heap.objs.size := Heap.lt_size e
  refine mv.heap b o ?_ (Heap.get?_push_of_some _ (Heap.get?_push_of_some _ e))
  rw [sz1]
  simp only [List.mem_cons, List.not_mem_nil, or_false, not_or]
  exact ⟨Nat.ne_of_lt b0, Nat.ne_of_lt (Nat.lt_succ_of_lt b0)⟩
theorem set_of_list {l : Addr} {items : Array Value} {ns : List Int} {Q : Value → Shared → Prop} (hh : A.handled = none) (hl : s.heap.IsList l items) (hi : IntsAre items.toList ns) (hb : ns.length + 1 < scanBound)
    (q : ∀ h' tk, SetMade w s ns h' → Q (.ref s.heap.objs.size) { s with heap := h', toks := tk }) : wpAny (model P w) A (call (.type "set") [.ref l]) Q E s := by
  have made := F.called_set.made
  have subs := F.called_set.sub
  obtain ⟨cc, tl, mro⟩ := F.called_set.mro
  refine wpAny_call (codeAny_of_tree ?_)
  show wpAny _ _ (callAny (.type "set") _) _ _ _
  refine wpAny_pure ⟨Code.quiet_builtin _ (by decide +kernel), codeAny_builtin F.entry_type_call ?_⟩
  rw [Around.under_plain (weight_type_call_type "set" [.ref l] []) rfl]
  have nt := F.called_set.notType
  have cc := F.called_set.canCreate
  have tc := F.typeCall_set_1 (.ref l)
  repeat (any_goals (first | assumption | wp_step))
  refine codeAny_mono (code_set_led1 (w := w) (P := P) (.ref l) (E := E) (Q₁ := fun obj s₁ => obj = .ref s.heap.objs.size ∧ s₁ = { s with heap := s.heap.push (emptySet w) }) ⟨rfl, rfl⟩) fun r s1 hr => ?_
  cases r with
  | error e => exact hr
  | ok fl =>
    cases fl with
    | ret obj =>
      obtain ⟨rfl, e1⟩ := hr
      have ty : s1.TypeIs (.ref s.heap.objs.size) "set" := by rw [e1]; exact ⟨_, Heap.get?_push_size _ rfl, rfl⟩
      have li := F.called_set.init.lookup
      have bi := F.called_set.init.bind (.ref s.heap.objs.size)
      repeat (any_goals (first | assumption | wp_step))
      refine codeAny_mono (codeAny_call_builtin (R := wants (fun r s₂ => r = .none ∧ ∃ h' tk, s₂ = { s with heap := h', toks := tk } ∧ SetMade w s ns h') E) F.called_set.init.plain F.entry_set_init (check_set_init_1 ty ?_)) fun r2 s2 hr2 => ?_
      · refine wpAny_mono (setInit_list (P := P) (E := E) (A := A.in1.in1) (by simp [hh]) hl hi hb e1) (fun f s' hf => ?_) fun _ _ z => z
        obtain ⟨h', tk, rfl, rfl, m⟩ := hf
        exact ⟨rfl, h', tk, rfl, m⟩
      · cases r2 with
        | error e => exact hr2
        | ok fl2 =>
          cases fl2 with
          | ret r =>
            obtain ⟨rfl, h', tk, rfl, m⟩ := hr2
            repeat (any_goals (first | assumption | wp_step))
            exact q _ _ m
          | _ => exact hr2.elim
    | _ => exact hr.elim
end

/-- ints of a list or a tuple -/
def seqInts : D → Option (List Int)
  | .lst ds => asInts ds
  | .tup ds => asInts ds
  | _ => none
section
variable {X : Cx} {W : WX} {a : Expr} {ea : Ev} {pos p p2 pos2 : Pos}
def rSetI (K : Frag) (w : World) : List V → Hp → VK → Prop := fun vs H Q => ∃ (p : Addr) (ns : List Int), vs = [.ref p] ∧ (SqL K H p (ns.map V.int) ∨ SqT K H p (ns.map V.int)) ∧ ns.length + 1 < scanBound ∧
  ∀ a c, c ≤ ns.length → H a = none → Q (.ref a) (upd H a (SetO w a (fun j => decide (j ∈ ns)) c))
theorem cr_setI (hc : X.calm = true) : CallR X (.type "set") (rSetI X.K X.w) := by
  intro pins s σ H vs us Q I r h
  obtain ⟨p, ns, rfl, hs, hb, q⟩ := h
  rw [Vals.ref1 r]
  have fin : ∀ (h' : Heap) (tk c : Nat), SetR X.w h' s.heap.objs.size (fun j => decide (j ∈ ns)) c → c ≤ ns.length → (∀ b o, s.heap.get? b = some o → h'.get? b = some o) → EP X pins σ Q (.ref s.heap.objs.size) { s with heap := h', toks := tk } := fun h' tk c R hcn k =>
    ⟨.ref s.heap.objs.size, _, I.laid k (Nat.le_refl _) (setO_new R), rfl, q _ c hcn I.fresh⟩
  rcases hs with hs | hs
  · obtain ⟨its, rv, hl, hz⟩ := I.list hs
    refine set_of_list (I.ok.hd hc) hl.isList (ints_of_vals rv) hb fun h' tk m => ?_
    obtain ⟨⟨c, R, hcn⟩, k⟩ := m
    exact fin h' tk c R hcn k
  · obtain ⟨its, rv, ht, hz⟩ := I.tuple hs
    exact call_set_tupI ns (I.ok.hd hc) (show s.heap.IsTuple p its.toArray from ht) (ints_of_vals rv) hb fun h' tk c R hcn k => fin h' tk c R hcn k
/-- into an ascending list without duplicates -/
def insI (x : Int) : List Int → List Int
  | [] => [x]
  | y :: ys => if x < y then x :: y :: ys else if x = y then y :: ys else y :: insI x ys
def ssetI (ns : List Int) : List Int := ns.foldr insI []
theorem mem_insI (x z : Int) : ∀ l : List Int, z ∈ insI x l ↔ z = x ∨ z ∈ l
  | [] => by simp [insI]
  | y :: ys => by
    unfold insI
    split
    · simp
    · split
      · rename_i h; subst h; simp
      · rw [List.mem_cons, mem_insI x z ys, List.mem_cons]
        constructor
        · rintro (h | h | h)
          · exact .inr (.inl h)
          · exact .inl h
          · exact .inr (.inr h)
        · rintro (h | h | h)
          · exact .inr (.inl h)
          · exact .inl h
          · exact .inr (.inr h)
theorem insI_asc (x : Int) : ∀ l : List Int, l.Pairwise (· < ·) → (insI x l).Pairwise (· < ·)
  | [], _ => by simp [insI]
  | y :: ys, h => by
    obtain ⟨h1, h2⟩ := List.pairwise_cons.mp h
    unfold insI
    split
    · rename_i hx
      refine List.pairwise_cons.mpr ⟨fun z hz => ?_, h⟩
      rcases List.mem_cons.mp hz with rfl | hz
      · exact hx
      · exact Int.lt_trans hx (h1 z hz)
    · split
      · exact h
      · rename_i hx hy
        refine List.pairwise_cons.mpr ⟨fun z hz => ?_, insI_asc x ys h2⟩
        rcases (mem_insI x z ys).mp hz with rfl | hz
        · omega
        · exact h1 z hz
theorem mem_ssetI (z : Int) : ∀ ns : List Int, z ∈ ssetI ns ↔ z ∈ ns
  | [] => by simp [ssetI]
  | n :: ns => by
    show z ∈ insI n (ssetI ns) ↔ _
    rw [mem_insI, mem_ssetI z ns, List.mem_cons]
theorem ssetI_asc : ∀ ns : List Int, (ssetI ns).Pairwise (· < ·)
  | [] => .nil
  | n :: ns => insI_asc n _ (ssetI_asc ns)
theorem asc_unique : ∀ {xs ys : List Int}, xs.Pairwise (· < ·) → ys.Pairwise (· < ·) → (∀ z, z ∈ xs ↔ z ∈ ys) → xs = ys
  | [], [], _, _, _ => rfl
  | [], y :: ys, _, _, h => absurd ((h y).mpr List.mem_cons_self) (by simp)
  | x :: xs, [], _, _, h => absurd ((h x).mp List.mem_cons_self) (by simp)
  | x :: xs, y :: ys, h1, h2, h => by
    have a := List.pairwise_cons.mp h1
    have b := List.pairwise_cons.mp h2
    have e : x = y := by
      rcases List.mem_cons.mp ((h x).mp List.mem_cons_self) with e | m
      · exact e
      · rcases List.mem_cons.mp ((h y).mpr List.mem_cons_self) with e | m2
        · exact e.symm
        · have := b.1 x m
          have := a.1 y m2
          omega
    subst e
    rw [asc_unique a.2 b.2 fun z => ?_]
    have hz := h z
    rw [List.mem_cons, List.mem_cons] at hz
    constructor
    · intro m
      rcases hz.mp (.inr m) with e | m2
      · subst e; exact absurd (a.1 z m) (by omega)
      · exact m2
    · intro m
      rcases hz.mpr (.inr m) with e | m2
      · subst e; exact absurd (b.1 z m) (by omega)
      · exact m2
def oSortedSet (d : D) : Option D := (seqInts d).bind fun ns => if ns.length < 64 then some (.lst ((ssetI ns).map .int)) else none
theorem RB.seqInts {K : Frag} {mg : Mg} {F H : Hp} {d : D} {v : V} {ns : List Int} (s : Same F H) (h : DL.seqInts d = some ns) (r : RB K mg F H d v) : ∃ a, v = .ref a ∧ (SqL K H a (ns.map V.int) ∨ SqT K H a (ns.map V.int)) := by
  cases d with
  | lst ds =>
    obtain ⟨a, vs, rfl, h1, r1⟩ := r.lst_inv s
    rw [asInts_eq h] at r1
    rw [r1.ints_inv] at h1
    exact ⟨a, rfl, .inl (.of h1)⟩
  | tup ds =>
    obtain ⟨a, vs, rfl, h1, r1⟩ := r.tup_inv
    rw [asInts_eq h] at r1
    rw [r1.ints_inv] at h1
    exact ⟨a, rfl, .inr (Same.sqT s h1)⟩
  | _ => cases h
theorem ssetI_nodup' (xs : List Int) : (ssetI xs).Nodup := (ssetI_asc xs).imp (fun h => by omega : ∀ {a b : Int}, a < b → a ≠ b)
theorem setR_len {w : World} {h : Heap} {a : Addr} {ns : List Int} {c : Nat} (R : SetR w h a (fun j => decide (j ∈ ns)) c) : c = (ssetI ns).length := by
  obtain ⟨o, es, ep, t, _, _, _, _, hn, hm, _, _, hc, _⟩ := R
  have p : (es.toList.map keyOf).Perm (ssetI ns) := (List.perm_ext_iff_of_nodup hn (ssetI_nodup' ns)).mpr fun z => by
    rw [mem_ssetI, ← hm z]; simp
  have := p.length_eq
  rw [List.length_map, Array.length_toList, hc] at this
  exact this
def rSetJ (K : Frag) (w : World) : List V → Hp → VK → Prop := fun vs H Q => ∃ (p : Addr) (ns : List Int), vs = [.ref p] ∧ (SqL K H p (ns.map V.int) ∨ SqT K H p (ns.map V.int)) ∧ ns.length + 1 < scanBound ∧
  ∀ a c, c = (ssetI ns).length → H a = none → Q (.ref a) (upd H a (SetO w a (fun j => decide (j ∈ ns)) c))
theorem cr_setJ (hc : X.calm = true) : CallR X (.type "set") (rSetJ X.K X.w) := by
  intro pins s σ H vs us Q I r h
  obtain ⟨p, ns, rfl, hs, hb, q⟩ := h
  rw [Vals.ref1 r]
  have fin : ∀ (h' : Heap) (tk c : Nat), SetR X.w h' s.heap.objs.size (fun j => decide (j ∈ ns)) c → c ≤ ns.length → (∀ b o, s.heap.get? b = some o → h'.get? b = some o) → EP X pins σ Q (.ref s.heap.objs.size) { s with heap := h', toks := tk } := fun h' tk c R hcn k =>
    ⟨.ref s.heap.objs.size, _, I.laid k (Nat.le_refl _) (setO_new R), rfl, q _ c (setR_len R) I.fresh⟩
  rcases hs with hs | hs
  · obtain ⟨its, rv, hl, hz⟩ := I.list hs
    refine set_of_list (I.ok.hd hc) hl.isList (ints_of_vals rv) hb fun h' tk m => ?_
    obtain ⟨⟨c, R, hcn⟩, k⟩ := m
    exact fin h' tk c R hcn k
  · obtain ⟨its, rv, ht, hz⟩ := I.tuple hs
    exact call_set_tupI ns (I.ok.hd hc) (show s.heap.IsTuple p its.toArray from ht) (ints_of_vals rv) hb fun h' tk c R hcn k => fin h' tk c R hcn k
/-- sorted(set(a)), a list or a tuple of ints, fewer than 64 different ones: a new list -/
def fSortedSet (a : Ev) : EvA := fun δ => do
  let d ← a δ
  let ns ← lft (seqInts d)
  if (ssetI ns).length < 64 ∧ ns.length < 4000 then .ok ((ssetI ns).map .int) else stk
theorem df_sortedSet (hc : X.calm = true) (hg : Gl X "sorted") (hm : X.mg "sorted" = none) (hg2 : Gl X "set") (hm2 : X.mg "set" = none) (h : DB X W a ea) (he : starEach [a] X.env = (false, eval a X.env) :: starEach [] X.env := by rfl)
    (he2 : starEach [.Call (.Name "set" p2) [a] [] pos2] X.env = (false, eval (.Call (.Name "set" p2) [a] [] pos2) X.env) :: starEach [] X.env := by rfl) : DF X W (.Call (.Name "sorted" p) [.Call (.Name "set" p2) [a] [] pos2] [] pos) (fSortedSet ea) := by
  obtain ⟨t, pt, q⟩ := h
  refine ⟨_, pe_callB (cr_sortedSet hc) hg hm (by decide +kernel) (pa_cons (pe_callTy (cr_setJ hc) hg2 hm2 (by decide +kernel) (pa_cons pt pa_nil he) (by decide) (by decide) he rfl) pa_nil he2) (by decide) (by decide) he2 rfl, fun F0 H0 F H σ δ Q E po => q F0 H0 F H σ δ _ E ?_⟩
  unfold fSortedSet at po
  cases h : ea δ with
  | error er => rw [h] at po; exact po
  | ok d =>
    rw [h] at po
    intro v F1 H1 g l r
    simp only [ok_bind] at po
    cases hi : DL.seqInts d with
    | none => rw [hi] at po; exact po.elim
    | some ns =>
      rw [hi] at po
      simp only [lft_some, ok_bind] at po
      split at po
      · rename_i hz
        obtain ⟨a1, rfl, hs⟩ := r.seqInts g.s hi
        refine ⟨a1, ns, rfl, hs, by unfold scanBound; omega, fun b c hcn nb => ?_⟩
        refine ⟨b, _, c, rfl, upd_same, by rw [hcn]; exact hz.1, fun ns' k p1 p2 p3 nk => ?_⟩
        have e : ns' = ssetI ns := asc_unique p1 (ssetI_asc ns) fun z => by rw [p2 z, mem_ssetI]; simp
        subst e
        have gn := Grow.new g.s (o := SetO X.w b (fun j => decide (j ∈ ns)) c) nb
        have nk1 : H1 k = none := by
          cases hq : H1 k with
          | none => rfl
          | some u => rw [gn.h k u hq] at nk; cases nk
        have nk0 : H k = none := by
          cases hq : H k with
          | none => rfl
          | some u => rw [g.h k u hq] at nk1; cases nk1
        have fk : upd F1 b (SetO X.w b (fun j => decide (j ∈ ns)) c) k = none := by
          cases hq : upd F1 b (SetO X.w b (fun j => decide (j ∈ ns)) c) k with
          | none => rfl
          | some u => rw [gn.s k u hq] at nk; cases nk
        have gg := g.trans gn
        refine po k _ (upd F1 b (SetO X.w b (fun j => decide (j ∈ ns)) c)) _ ⟨gg.f, fun x u e => ?_, fun x u e => ?_, gg.n⟩ nk0 fk upd_same Rs.ints
        · rw [upd_ne (ne_of_none (gg.h x u e) nk)]; exact gg.h x u e
        · rw [upd_ne (ne_of_none (gg.s x u e) nk)]; exact gg.s x u e
      · exact po.elim

/-! ### list.index -/
def idxD (x : D) : List D → Option Nat
  | [] => none
  | d :: ds => if d = x then some 0 else (idxD x ds).map (· + 1)
theorem idxD_spec {x : D} : ∀ {ds : List D} {j : Nat}, idxD x ds = some j → ds[j]? = some x ∧ ∀ (m : Nat) (z : D), m < j → ds[m]? = some z → z ≠ x
  | [], j, h => by cases h
  | d :: ds, j, h => by
    unfold idxD at h
    split at h
    · rename_i e
      cases h
      subst e
      exact ⟨rfl, fun m z hm => absurd hm (Nat.not_lt_zero _)⟩
    · rename_i ne
      cases hk : idxD x ds with
      | none => rw [hk] at h; cases h
      | some k =>
        rw [hk] at h
        cases h
        obtain ⟨h1, h2⟩ := idxD_spec hk
        refine ⟨by simpa using h1, fun m z hm hz => ?_⟩
        cases m with
        | zero => cases hz; exact ne
        | succ m =>
          have hm' : m + 1 < k + 1 := hm
          exact h2 m z (by omega) (by simpa using hz)
def oIndex (c x : D) : Option D := match c with
  | .lst ds => if x.okE eqDepth && (D.lst ds).okE eqDepth then (idxD x ds).map fun j => .int (j : Nat) else none
  | _ => none
def eIndex (a b : Ev) : Ev := fun δ => do
  let c ← a δ
  match c with
  | .lst ds => do
    let x ← b δ
    lft (oIndex (.lst ds) x)
  | _ => stk
theorem pys_get : ∀ (ds : List D) (j : Nat), (D.pys ds)[j]? = (ds[j]?).map D.py
  | [], j => by simp [D.pys]
  | d :: ds, 0 => rfl
  | d :: ds, j + 1 => by
    simp only [D.pys, List.getElem?_cons_succ]
    exact pys_get ds j
theorem de_index {b : Expr} {eb : Ev} {apos cpos : Pos} (hu : X.A.units + 65 < cLine) (ha : DB X W a ea) (hb : DB X W b eb)
    (hbase : attributeBase a "index" X.env (eval a X.env) = eval a X.env := by rfl)
    (hfew : ((backTo cpos (starEach [b] X.env)).all (fun x => !x.1) && (backToKw cpos (keywordEach [] X.env)).all (fun x => x.1.isSome) && decide (([b] : List Expr).length + ([] : List Keyword).length + (if ([] : List Keyword).isEmpty then 0 else 1) < 30)) = true := by rfl)
    (hline : (apos.endLine == cpos.line) = true := by rfl) (hst : starEach [b] X.env = (false, eval b X.env) :: starEach [] X.env := by rfl) :
    DE X W (.Call (.Attribute a "index" apos) [b] [] cpos) (eIndex ea eb) := by
  obtain ⟨ta, pa, qa⟩ := ha
  obtain ⟨tb, pb, qb⟩ := hb
  refine ⟨_, PE.suf (pe_bm PySem.F.plainAttrs_list PySem.F.slot_list_index PySem.F.type_list_index (mt_indexD hu) pa (pa_cons pb pa_nil hst) hbase hfew hline hst rfl), fun F0 H0 F H σ δ Q E po => qa F0 H0 F H σ δ _ E ?_⟩
  unfold eIndex at po
  cases h1 : ea δ with
  | error er => rw [h1] at po; exact po
  | ok da =>
    rw [h1] at po
    intro v F1 H1 g1 l1 r1
    simp only [ok_bind] at po
    cases da with
    | lst ds =>
      obtain ⟨a1, vs, rfl, k1, k2⟩ := r1.lst_inv g1.s
      refine ⟨.inl ⟨rfl, _, .of k1⟩, qb F0 H0 F1 H1 σ δ _ (E.grow g1 l1) ?_⟩
      cases h2 : eb δ with
      | error er => rw [h2] at po; exact PostX.grow g1 po
      | ok db =>
        rw [h2] at po
        intro v2 F2 H2 g2 l2 r2
        simp only [ok_bind, oIndex] at po
        split at po
        · rename_i hz
          rw [Bool.and_eq_true] at hz
          cases hj : idxD db ds with
          | none => rw [hj] at po; exact po.elim
          | some j =>
            rw [hj] at po
            obtain ⟨j1, j2⟩ := idxD_spec hj
            have rH : R X.K X.mg H2 (.lst ds) (.ref a1) := .lst (g2.h _ _ k1) (k2.mono (g2.f.trans g2.s))
            have nb : ∀ d ∈ ds, D.okE eqDepth d = true := fun d hd => okE_le (okE_list.mp (show ds.all (D.okE 59) = true from hz.2) d hd) (by decide)
            refine ⟨a1, v2, db.py, D.pys ds, j, db.py, rfl, rfl, dp_of _ _ _ hz.2 rH, dp_of _ _ _ hz.1 (r2.inH g2.s), py_shaped hz.2, py_shaped hz.1, by rw [pys_get, j1]; rfl, by rw [eqv_iff eqDepth db db hz.1 hz.1]; simp, fun m z' hm hz' => ?_, fun l3 => ?_⟩
            · rw [pys_get] at hz'
              cases hd : ds[m]? with
              | none => rw [hd] at hz'; cases hz'
              | some d =>
                rw [hd] at hz'
                cases hz'
                rw [eqv_iff eqDepth d db (nb d (List.mem_of_getElem? hd)) hz.1]
                exact decide_eq_false (j2 m d hm hd)
            · exact po (.int (j : Nat)) F2 H2 (g1.trans g2) l3 .int
        · exact po.elim
    | _ => exact po.elim

/-! ### isinstance of the built-in types -/
def tyName : D → Option String
  | .non => some "NoneType"
  | .bl _ => some "bool"
  | .int _ => some "int"
  | .str _ => some "str"
  | .tup _ => some "tuple"
  | .lst _ => some "list"
  | .scr _ => some "list"
  | .obj _ _ _ => none
def isiB (a T : String) : Bool := a == T || (a == "bool" && T == "int")
def tyNames : List String := ["NoneType", "bool", "int", "str", "tuple", "list"]
def oIsi (T : String) (d : D) : Option D := (tyName d).map fun a => .bl (isiB a T)
theorem tyX_of {K : Frag} {mg : Mg} {H : Hp} {d : D} {v : V} {n : String} (r : R K mg H d v) (h : tyName d = some n) : TyX K H v (.type n) ∧ n ∈ tyNames := by
  cases d with
  | non => cases h; rw [r.non_inv]; exact ⟨.base .non, by decide⟩
  | bl b => cases h; rw [r.bl_inv]; exact ⟨.base (.bl b), by decide⟩
  | int b => cases h; rw [r.int_inv]; exact ⟨.base (.int b), by decide⟩
  | str b => cases h; rw [r.str_inv]; exact ⟨.base (.str b), by decide⟩
  | tup b =>
    cases h
    obtain ⟨a, vs, rfl, h1, _⟩ := r.tup_inv
    rcases h1 with (h1 | ⟨o, h1⟩) | ⟨o, its, n, h1, h2, _⟩
    · exact ⟨.base (.tup h1), by decide⟩
    · exact ⟨.fTuple h1, by decide⟩
    · exact ⟨.kTuple h1 h2, by decide⟩
  | lst b =>
    cases h
    obtain ⟨a, vs, rfl, h1, _⟩ := r.lst_inv
    exact ⟨.base (.lst h1), by decide⟩
  | scr b =>
    cases h
    obtain ⟨a, rfl, h1⟩ := r.scr_inv
    rcases h1 with (h1 | ⟨o, h1⟩) | ⟨o, its, n, h1, h2, _⟩
    · exact ⟨.base (.lst h1), by decide⟩
    · exact ⟨.base (.frz h1), by decide⟩
    · exact ⟨.kList h1 h2, by decide⟩
  | obj _ _ _ => cases h
theorem de_isi {T : String} {x : Str} (hg : Gl X "isinstance") (hm : X.mg "isinstance" = none) (hg2 : Gl X x) (hm2 : X.mg x = none) (hT : bootBuiltins x = some (.type T)) (hk : ∀ n ∈ tyNames, kitB n T = some (isiB n T)) (ha : DB X W a ea)
    (hn : x ≠ "__name__" := by decide) (hd : (x == ("__debug__" : Str)) = false := by decide)
    (he : starEach [a, .Name x p2] X.env = (false, eval a X.env) :: starEach [.Name x p2] X.env := by rfl) (he2 : starEach [.Name x p2] X.env = (false, eval (.Name x p2) X.env) :: starEach [] X.env := by rfl) :
    DE X W (.Call (.Name "isinstance" p) [a, .Name x p2] [] pos) (e1 (oIsi T) ea) := by
  obtain ⟨ta, pa, qa⟩ := ha
  refine ⟨_, PE.suf (pe_callB call_isi hg hm (by decide +kernel) (pa_cons pa (pa_cons (pe_bltn hg2 hm2 hT (show RelV (.ty T) (.type T) from rfl) hn hd) pa_nil he2) he) (by decide) (by decide) he (by rw [he2]; rfl)), fun F0 H0 F H σ δ Q E po => qa F0 H0 F H σ δ _ E ?_⟩
  unfold e1 at po
  cases h : ea δ with
  | error er => rw [h] at po; exact po
  | ok d =>
    rw [h] at po
    intro v F1 H1 g l r
    simp only [ok_bind, oIsi] at po
    cases ht : tyName d with
    | none => rw [ht] at po; exact po.elim
    | some n =>
      rw [ht] at po
      obtain ⟨t1, t2⟩ := tyX_of (r.inH g.s) ht
      exact ⟨v, .ty T, .type n, .type T, _, rfl, .ty T, t1, kit_ty (hk n t2), fun l2 => po (.bl (isiB n T)) F1 H1 g l2 .bl⟩
end
end DL

namespace DL
open PySem PySem.Spec PyProof.Rows L2

theorem hu65 {A : Around} {k : Nat} (hr : Room k A) : A.units + 65 < cLine := by have := hr.un; omega
theorem kit_int : ∀ n ∈ tyNames, kitB n "int" = some (isiB n "int") := by decide +kernel
theorem kit_bool : ∀ n ∈ tyNames, kitB n "bool" = some (isiB n "bool") := by decide +kernel
theorem kit_str : ∀ n ∈ tyNames, kitB n "str" = some (isiB n "str") := by decide +kernel
theorem kit_tuple : ∀ n ∈ tyNames, kitB n "tuple" = some (isiB n "tuple") := by decide +kernel
theorem kit_list : ∀ n ∈ tyNames, kitB n "list" = some (isiB n "list") := by decide +kernel

section
variable {K : Frag} {mg : Mg} {F H : Hp}
/-- a new list at p: what a PostF wants -/
theorem fresh_at {W : WX} {σ : St} {Q : VK} {F0 H0 : Hp} {ds : List D} {vs : List V} (g : Grow F0 H0 F H) (r : Rs K mg F ds vs) (po : PostF K mg W F0 H0 σ Q (.ok ds)) : ∀ p, H p = none → Q (.ref p) (upd H p (.lst vs)) := fun p hp => by
  have gn := Grow.new g.s (o := .lst vs) hp
  have np : H0 p = none := by
    cases q : H0 p with
    | none => rfl
    | some u => rw [g.h p u q] at hp; cases hp
  have fp : F p = none := by
    cases q : F p with
    | none => rfl
    | some u => rw [g.s p u q] at hp; cases hp
  refine po p vs F _ ⟨g.f, g.h.trans gn.h, fun b u e => ?_, g.n⟩ np fp upd_same r
  rw [upd_ne (ne_of_none e fp)]; exact g.s _ _ e
end
section
variable {X : Cx} {W : WX} {e a b c : Expr} {ev ea eb ec : Ev} {pos p p2 pos2 : Pos}
theorem de_neg (ha : DE X W a ea) : DE X W (.UnaryOp .USub a pos) (e1 oNeg ea) := by
  obtain ⟨ta, pa, qa⟩ := ha
  refine ⟨_, PE.suf (pe_un un_neg pa), fun F0 H0 F H σ δ Q E po => qa F0 H0 F H σ δ _ E ?_⟩
  unfold e1 at po
  cases h : ea δ with
  | error er => rw [h] at po; exact po
  | ok d =>
    rw [h] at po
    intro v F1 H1 g l r
    cases d with
    | int i => exact ⟨i, r.int_inv, fun l2 => po (.int (-i)) F1 H1 g l2 .int⟩
    | _ => exact po.elim

/-! ### chains of ints -/
def asZ : D → M Int
  | .int i => .ok i
  | _ => stk
@[simp] theorem asZ_int (i : Int) : asZ (.int i) = .ok i := rfl
def e3 (f g : Int → Int → Bool) (a b c : Ev) : Ev := fun δ => do
  let x ← a δ
  let y ← b δ
  let i ← asZ x
  let j ← asZ y
  if f i j then do
    let z ← c δ
    let k ← asZ z
    .ok (.bl (g j k))
  else .ok (.bl false)
theorem chain_run {f g : Int → Int → Bool} {ta tb tc : TE}
    (qa : ∀ F0 H0 F H σ δ (Q : VK), EnvOk X.K X.mg F0 H0 F H σ δ → PostB X.K X.mg W F H σ Q (ea δ) → ta σ H Q)
    (qb : ∀ F0 H0 F H σ δ (Q : VK), EnvOk X.K X.mg F0 H0 F H σ δ → PostB X.K X.mg W F H σ Q (eb δ) → tb σ H Q)
    (qc : ∀ F0 H0 F H σ δ (Q : VK), EnvOk X.K X.mg F0 H0 F H σ δ → PostB X.K X.mg W F H σ Q (ec δ) → tc σ H Q)
    {F0 : Bs} {H0 F H : Hp} {σ : St} {δ : DEnv} {Q : VK} (E : EnvOk X.K X.mg F0 H0 F H σ δ) (po : PostE' X.K X.mg W F H σ Q (e3 f g ea eb ec δ)) :
    tChain (rI0 fun i j => .bl (f i j)) (rI0 fun i j => .bl (g i j)) ta tb tc σ H Q := by
  refine qa F0 H0 F H σ δ _ E ?_
  unfold e3 at po
  cases h1 : ea δ with
  | error er => rw [h1] at po; exact po
  | ok x =>
    rw [h1] at po
    intro v1 F1 H1 g1 l1 r1
    refine qb F0 H0 F1 H1 σ δ _ (E.grow g1 l1) ?_
    cases h2 : eb δ with
    | error er => rw [h2] at po; exact PostX.grow g1 po
    | ok y =>
      rw [h2] at po
      intro v2 F2 H2 g2 l2 r2
      simp only [ok_bind] at po
      cases x with
      | int i =>
        cases y with
        | int j =>
          simp only [asZ_int, ok_bind] at po
          refine ⟨i, j, r1.int_inv, r2.int_inv, f i j, rfl, ?_⟩
          cases hk : f i j with
          | false =>
            rw [hk] at po
            rw [if_neg Bool.false_ne_true]
            exact po (.bl false) F2 H2 (g1.trans g2) .bl
          | true =>
            rw [hk] at po
            rw [if_pos rfl]
            simp only [if_true] at po
            refine qc F0 H0 F2 H2 σ δ _ (E.grow (g1.trans g2) l2) ?_
            cases h3 : ec δ with
            | error er => rw [h3] at po; exact PostX.grow (g1.trans g2) po
            | ok z =>
              rw [h3] at po
              intro v3 F3 H3 g3 l3 r3
              cases z with
              | int k => exact ⟨j, k, r2.int_inv, r3.int_inv, po (.bl (g j k)) F3 H3 (g1.trans (g2.trans g3)) .bl⟩
              | _ => exact po.elim
        | _ => exact po.elim
      | _ => exact po.elim
theorem de_chain {op op' : CmpOp} {f g : Int → Int → Bool} (ho : OpR X (compareOp op) (rI0 fun i j => .bl (f i j))) (ho' : OpR X (compareOp op') (rI0 fun i j => .bl (g i j))) (ha : DB X W a ea) (hb : DB X W b eb) (hc : DB X W c ec)
    (hm : lastMarks [op, op'] [b, c] = false := by with_unfolding_all rfl) : DE X W (.Compare a [op, op'] [b, c] pos) (e3 f g ea eb ec) := by
  obtain ⟨ta, pa, qa⟩ := ha
  obtain ⟨tb, pb, qb⟩ := hb
  obtain ⟨tc, pc, qc⟩ := hc
  exact ⟨_, PE.suf (pe_chain ho ho' pa pb pc hm), fun F0 H0 F H σ δ Q E po => chain_run qa qb qc E po.un⟩
theorem dt_chain {op op' : CmpOp} {f g : Int → Int → Bool} (ho : OpR X (compareOp op) (rI0 fun i j => .bl (f i j))) (ho' : OpR X (compareOp op') (rI0 fun i j => .bl (g i j))) (ha : DB X W a ea) (hb : DB X W b eb) (hc : DB X W c ec)
    (hm : lastMarks [op, op'] [b, c] = false := by with_unfolding_all rfl) : DT X W (.Compare a [op, op'] [b, c] pos) (eT (e3 f g ea eb ec)) := by
  obtain ⟨ta, pa, qa⟩ := ha
  obtain ⟨tb, pb, qb⟩ := hb
  obtain ⟨tc, pc, qc⟩ := hc
  exact ⟨_, PT.suf (pt_chain ho ho' pa pb pc hm), fun F0 H0 F H σ δ Q E po => chain_run qa qb qc E (PostT.un (m := e3 f g ea eb ec δ) po)⟩

/-! ### new lists: list, sorted, +, *, a slice, list(range) -/
def fList (a : Ev) : EvA := fun δ => do let x ← a δ; asL x
theorem df_list (hg : Gl X "list") (hm : X.mg "list" = none) (ha : DB X W a ea) (he : starEach [a] X.env = (false, eval a X.env) :: starEach [] X.env := by rfl) : DF X W (.Call (.Name "list" p) [a] [] pos) (fList ea) := by
  obtain ⟨ta, pa, qa⟩ := ha
  refine ⟨_, pe_callTy call_list_of hg hm PyProof.Rows.boot_list (pa_cons pa pa_nil he) (by decide) (by decide) he rfl, fun F0 H0 F H σ δ Q E po => qa F0 H0 F H σ δ _ E ?_⟩
  unfold fList at po
  cases h : ea δ with
  | error er => rw [h] at po; exact po
  | ok d =>
    rw [h] at po
    intro v F1 H1 g l r
    cases d with
    | lst ds =>
      obtain ⟨q, vs, rfl, h1, r1⟩ := r.lst_inv g.s
      exact ⟨q, vs, rfl, .inl (.of h1), fresh_at g r1 po⟩
    | tup ds =>
      obtain ⟨q, vs, rfl, h1, r1⟩ := r.tup_inv
      exact ⟨q, vs, rfl, .inr (Same.sqT g.s h1), fresh_at g r1 po⟩
    | scr ns =>
      obtain ⟨q, rfl, h1⟩ := r.scr_inv
      exact ⟨q, _, rfl, .inl (g.s.seq h1), fresh_at g Rs.ints po⟩
    | _ => exact po.elim
def fSorted (a : Ev) : EvA := fun δ => do let x ← a δ; let ns ← lft (lstInts x); .ok ((srt ns).map .int)
theorem df_sorted (hg : Gl X "sorted") (hm : X.mg "sorted" = none) (ha : DB X W a ea) (he : starEach [a] X.env = (false, eval a X.env) :: starEach [] X.env := by rfl) : DF X W (.Call (.Name "sorted" p) [a] [] pos) (fSorted ea) := by
  obtain ⟨ta, pa, qa⟩ := ha
  refine ⟨_, pe_callB cr_sortedI hg hm (by decide +kernel) (pa_cons pa pa_nil he) (by decide) (by decide) he rfl, fun F0 H0 F H σ δ Q E po => qa F0 H0 F H σ δ _ E ?_⟩
  unfold fSorted at po
  cases h : ea δ with
  | error er => rw [h] at po; exact po
  | ok d =>
    rw [h] at po
    intro v F1 H1 g l r
    simp only [ok_bind] at po
    cases h2 : lstInts d with
    | none => rw [h2] at po; exact po.elim
    | some ns =>
      rw [h2] at po
      obtain ⟨q, rfl, h1⟩ := r.ints g.s h2
      refine ⟨q, ns, rfl, .of h1, fun ns' k p1 p2 nk => ?_⟩
      have e : ns' = srt ns := sorted_unique (p1.trans (srt_perm ns).symm) p2 (srt_sorted ns)
      subst e
      exact fresh_at g Rs.ints po k nk
def fCat (a b : Ev) : EvA := fun δ => do
  let x ← a δ
  let y ← b δ
  match x, y with
  | .lst xs, .lst ys => if xs.length + ys.length ≤ sizeLine then .ok (xs ++ ys) else stk
  | _, _ => stk
theorem df_cat (ha : DB X W a ea) (hb : DB X W b eb) : DF X W (.BinOp a .Add b pos) (fCat ea eb) := by
  obtain ⟨ta, pa, qa⟩ := ha
  obtain ⟨tb, pb, qb⟩ := hb
  refine ⟨_, pe_op op_cat pa pb, fun F0 H0 F H σ δ Q E po => qa F0 H0 F H σ δ _ E ?_⟩
  unfold fCat at po
  cases h1 : ea δ with
  | error er => rw [h1] at po; exact po
  | ok x =>
    rw [h1] at po
    intro v1 F1 H1 g1 l1 r1
    refine qb F0 H0 F1 H1 σ δ _ (E.grow g1 l1) ?_
    cases h2 : eb δ with
    | error er => rw [h2] at po; exact PostX.grow g1 po
    | ok y =>
      rw [h2] at po
      intro v2 F2 H2 g2 l2 r2
      simp only [ok_bind] at po
      split at po
      · split at po
        · rename_i hz
          obtain ⟨p1, vs, rfl, k1, t1⟩ := (r1.grow g2).lst_inv g2.s
          obtain ⟨p2, us, rfl, k2, t2⟩ := r2.lst_inv g2.s
          exact ⟨p1, p2, vs, us, rfl, rfl, k1, k2, by rw [← t1.length, ← t2.length]; exact hz, fresh_at (g1.trans g2) (t1.append t2) po⟩
        · exact po.elim
      · exact po.elim
def fRep (a b : Ev) : EvA := fun δ => do
  let x ← a δ
  let y ← b δ
  match x, y with
  | .lst xs, .int k => if -(2 ^ 63) ≤ k ∧ k < 2 ^ 63 ∧ xs.length * k.toNat ≤ sizeLine then .ok (List.replicate k.toNat xs).flatten else stk
  | _, _ => stk
theorem df_rep (ha : DB X W a ea) (hb : DE X W b eb) : DF X W (.BinOp a .Mult b pos) (fRep ea eb) := by
  obtain ⟨ta, pa, qa⟩ := ha
  obtain ⟨tb, pb, qb⟩ := hb
  refine ⟨_, pe_op op_rep pa pb, fun F0 H0 F H σ δ Q E po => qa F0 H0 F H σ δ _ E ?_⟩
  unfold fRep at po
  cases h1 : ea δ with
  | error er => rw [h1] at po; exact po
  | ok x =>
    rw [h1] at po
    intro v1 F1 H1 g1 l1 r1
    refine qb F0 H0 F1 H1 σ δ _ (E.grow g1 l1) ?_
    cases h2 : eb δ with
    | error er => rw [h2] at po; exact PostX.grow g1 po
    | ok y =>
      rw [h2] at po
      intro v2 F2 H2 g2 l2 r2
      simp only [ok_bind] at po
      split at po
      · split at po
        · rename_i hz
          obtain ⟨p1, vs, rfl, k1, t1⟩ := (r1.grow g2).lst_inv g2.s
          exact ⟨p1, _, vs, rfl, r2.int_inv, k1, hz.1, hz.2.1, by rw [← t1.length]; exact hz.2.2, fresh_at (g1.trans g2) (t1.rep _) po⟩
        · exact po.elim
      · exact po.elim
def fSl (a : Ev) (l h : EvO) : EvA := fun δ => do
  let x ← a δ
  let i ← l δ
  let j ← h δ
  match x with
  | .lst ds => .ok (cutD ds i j)
  | .scr ns => .ok ((cutD ns i j).map .int)
  | _ => stk
theorem df_slice {ol oh : EvO} {lo hi : Option Expr} (ha : DB X W a ea) (hl : DO X W lo ol) (hh : DO X W hi oh) : DF X W (.Subscript a (.Slice lo hi none p2) pos) (fSl ea ol oh) := by
  obtain ⟨ta, pa, qa⟩ := ha
  obtain ⟨tl, pl, ql⟩ := hl
  obtain ⟨th, ph, qh⟩ := hh
  refine ⟨_, pe_slice sl_list pa pl ph, fun F0 H0 F H σ δ Q E po => qa F0 H0 F H σ δ _ E ?_⟩
  unfold fSl at po
  cases h1 : ea δ with
  | error e => rw [h1] at po; exact po
  | ok d =>
    rw [h1] at po
    intro v F1 H1 g1 l1 r1
    refine ql F0 H0 F1 H1 σ δ _ (E.grow g1 l1) ?_
    cases h2 : ol δ with
    | error e => rw [h2] at po; exact PostX.grow g1 po
    | ok i =>
      rw [h2] at po
      intro F2 H2 g2 l2
      refine qh F0 H0 F2 H2 σ δ _ (E.grow (g1.trans g2) l2) ?_
      cases h3 : oh δ with
      | error e => rw [h3] at po; exact PostX.grow (g1.trans g2) po
      | ok j =>
        rw [h3] at po
        intro F3 H3 g3 l3
        simp only [ok_bind] at po
        have g := g1.trans (g2.trans g3)
        have r := r1.grow (g2.trans g3)
        cases d with
        | lst ds =>
          obtain ⟨a1, vs, rfl, k1, t1⟩ := r.lst_inv g.s
          exact ⟨a1, vs, rfl, .of k1, fresh_at g (t1.cut i j) po⟩
        | scr ns =>
          obtain ⟨a1, rfl, k1⟩ := r.scr_inv
          refine ⟨a1, _, rfl, g.s.seq k1, ?_⟩
          rw [cutV_map]
          exact fresh_at g Rs.ints po
        | _ => exact po.elim
theorem rgV_ir (lo hi : Int) (K : Frag) (mg : Mg) (F : Hp) : Rs K mg F (irange lo (hi - lo).toNat) (rgV lo hi) := by
  unfold irange rgV
  have : ∀ l : List Nat, Rs K mg F (l.map fun i : Nat => D.int (lo + (i : Int))) (l.map fun i : Nat => V.int (lo + (i : Nat))) := by
    intro l
    induction l with
    | nil => exact .nil
    | cons x l ih => exact .cons .int ih
  exact this _
theorem df_listRg (hc : X.calm = true) (hg : Gl X "list") (hm : X.mg "list" = none) (hg2 : Gl X "range") (hm2 : X.mg "range" = none) (ha : DE X W a ea) (he : starEach [a] X.env = (false, eval a X.env) :: starEach [] X.env := by rfl)
    (he2 : starEach [.Call (.Name "range" p2) [a] [] pos2] X.env = (false, eval (.Call (.Name "range" p2) [a] [] pos2) X.env) :: starEach [] X.env := by rfl) : DF X W (.Call (.Name "list" p) [.Call (.Name "range" p2) [a] [] pos2] [] pos) (eRng1 ea) := by
  obtain ⟨ta, pa, qa⟩ := ha
  refine ⟨_, pe_listRg hc hg hm (prg_1 hg2 hm2 pa he) he2, fun F0 H0 F H σ δ Q E po => qa F0 H0 F H σ δ _ E ?_⟩
  unfold eRng1 at po
  cases h : ea δ with
  | error er => rw [h] at po; exact po
  | ok d =>
    rw [h] at po
    intro v F1 H1 g l r
    cases d with
    | int n =>
      simp only [ok_bind, rng] at po
      split at po
      · rename_i hz
        refine ⟨n, r.int_inv, ⟨hz.1, hz.2.1, hz.2.2.1, hz.2.2.2.1, by have := hz.2.2.2.2; rw [sizeLine_eq] at this; exact this⟩, fresh_at g (rgV_ir 0 n _ _ _) po⟩
      · exact po.elim
    | _ => exact po.elim

/-! ### reversed -/
def oTupRev : D → Option D
  | .lst ds => some (.tup ds.reverse)
  | _ => none
theorem de_tupRev (hc : X.calm = true) (hg : Gl X "tuple") (hm : X.mg "tuple" = none) (hg2 : Gl X "reversed") (hm2 : X.mg "reversed" = none) (ha : DB X W a ea) (he : starEach [a] X.env = (false, eval a X.env) :: starEach [] X.env := by rfl)
    (he2 : starEach [.Call (.Name "reversed" p2) [a] [] pos2] X.env = (false, eval (.Call (.Name "reversed" p2) [a] [] pos2) X.env) :: starEach [] X.env := by rfl) :
    DE X W (.Call (.Name "tuple" p) [.Call (.Name "reversed" p2) [a] [] pos2] [] pos) (e1 oTupRev ea) := by
  obtain ⟨ta, pa, qa⟩ := ha
  refine ⟨_, PE.suf (RT.pe_tupRev hc hg hm hg2 hm2 pa he he2), fun F0 H0 F H σ δ Q E po => qa F0 H0 F H σ δ _ E ?_⟩
  unfold e1 at po
  cases h : ea δ with
  | error er => rw [h] at po; exact po
  | ok d =>
    rw [h] at po
    intro v F1 H1 g l r
    cases d with
    | lst ds =>
      obtain ⟨q, vs, rfl, h1, r1⟩ := r.lst_inv g.s
      refine ⟨q, vs, rfl, .of h1, fun k nk lm => ?_⟩
      have gn := Grow.new g.s (o := .tup vs.reverse) nk
      exact po (.ref k) _ _ (g.trans gn) lm (.tup (.of upd_same) ((r1.reverse).mono gn.f))
    | _ => exact po.elim
def eRev (a : Ev) : EvA := fun δ => do
  let x ← a δ
  match x with
  | .lst ds => .ok ds.reverse
  | .tup ds => .ok ds.reverse
  | _ => stk
theorem di_rev {tg : Expr} (hg : Gl X "reversed") (hm : X.mg "reversed" = none) (ha : DE X W a ea) (he : starEach [a] X.env = (false, eval a X.env) :: starEach [] X.env := by rfl) : DI X W tg (.Call (.Name "reversed" p) [a] [] pos) (eRev ea) := by
  obtain ⟨ta, pa, qa⟩ := ha
  refine ⟨_, PI.suf (RT.pi_revA hg hm pa he), fun F0 H0 F H σ δ Q E po => qa F0 H0 F H σ δ _ E ?_⟩
  unfold eRev at po
  have rg : ∀ {ds : List D} {vs : List V} {F : Hp} {i : Nat} {d : D}, Rs X.K X.mg F ds vs → ds.reverse[i]? = some d → i < vs.length ∧ ∃ v, vs[vs.length - 1 - i]? = some v ∧ R X.K X.mg F d v := fun {ds vs F i d} r hd => by
    have hi : i < ds.length := by
      have := (List.getElem?_eq_some_iff.mp hd).1
      rwa [List.length_reverse] at this
    rw [List.getElem?_reverse hi] at hd
    rw [r.length] at hd hi
    exact ⟨hi, r.get hd⟩
  cases h : ea δ with
  | error er => rw [h] at po; exact po
  | ok d =>
    rw [h] at po
    intro v F1 H1 g l r
    cases d with
    | lst ds =>
      obtain ⟨q, vs, rfl, h1, r1⟩ := r.lst_inv
      have hs : H1 q = some (.lst vs) := g.s _ _ h1
      refine ⟨q, vs, rfl, .inl ⟨.of hs, fun lm => po _ F1 H1 g l (by rw [List.length_reverse, r1.length]; exact l.sqL (K := X.K) (.of hs)) ?_⟩⟩
      intro F2 H2 s1 s2 l2 i
      have hs2 : H2 q = some (.lst vs) := s2 _ _ (s1 _ _ h1)
      refine ⟨fun d hd => ?_, fun e => by rw [List.length_reverse, r1.length] at e; exact Nat.le_of_eq e.symm⟩
      obtain ⟨hi, v, hv, rv⟩ := rg r1 hd
      refine ⟨⟨hi, vs, v, .of hs2, hv⟩, fun x H3 y => ?_⟩
      obtain ⟨rfl, y⟩ := y
      cases (y vs (.of hs2)).symm.trans hv
      exact ⟨l2, F2, .refl s2, rv.mono s1⟩
    | tup ds =>
      obtain ⟨q, vs, rfl, h1, r1⟩ := r.tup_inv
      have hs := Same.sqT g.s h1
      refine ⟨q, vs, rfl, .inr ⟨hs, fun lm => po _ F1 H1 g l (by rw [List.length_reverse, r1.length]; exact l.sqT hs) ?_⟩⟩
      intro F2 H2 s1 s2 l2 i
      have hs2 := Same.sqT (s1.trans s2) h1
      refine ⟨fun d hd => ?_, fun e => by rw [List.length_reverse, r1.length] at e; exact Nat.le_of_eq e.symm⟩
      obtain ⟨hi, v, hv, rv⟩ := rg r1 hd
      refine ⟨⟨hi, vs, v, hs2, hv⟩, fun x H3 y => ?_⟩
      obtain ⟨rfl, y⟩ := y
      cases (y vs hs2).symm.trans hv
      exact ⟨l2, F2, .refl s2, rv.mono s1⟩
    | _ => exact po.elim
end
end DL

namespace DL
open PySem PySem.Spec PyProof.Rows L2
/-- what a law's def promises: True, of every script -/
def spLaw (K : Frag) (n : Nat) : Sp := fun vs H Q _ => ∃ (a : Addr) (ns : List Int), vs = [.ref a] ∧ SqL K H a (ns.map V.int) ∧ ns.length ≤ n ∧ ∀ H', Q (.bl true) H'
section
variable {P : Program} {w : World} {K : Frag} {mg : Mg} {base : Heap}
theorem law_fn {k n : Nat} {f : Addr} {fd : FuncData} {x : Str} {m : Mir} (F : FnD P w K mg base k f fd [x] m) (h : ∀ ns : List Int, ns.length ≤ n → m [.scr ns] = .ok (.bl true)) : FnOk P w K mg base (L2.CX P w) k f fd [x] (spLaw K n) := by
  refine ⟨fun vs H Q E h => ?_, fun A outer s H args us vs Q E hr e0 hb r hs => F.run A outer s H args us vs Q E hr e0 hb r ?_⟩
  · obtain ⟨a, ns, rfl, _⟩ := h
    rfl
  · obtain ⟨a, ns, rfl, h1, h2, q⟩ := hs
    refine ⟨[.scr ns], H, rfl, .refl _, .of e0.hok, .cons (.scr h1) .nil, ?_⟩
    rw [h ns h2]
    intro v F' H' g r
    rw [r.bl_inv]
    exact q H'
theorem no_cx {H : Hp} {s : Shared} {e : Value} {s' : Shared} (h : L2.CX P w [] H s (fun _ _ _ => False) e s') : False := by
  obtain ⟨_, _, _, _, _, _, _, _, _, _, _, _, z⟩ := h
  exact z
end
end DL

namespace DL
open PySem PySem.Spec PyProof.Rows L2
/-! ### what no script reaches -/
section
variable {X : Cx} {W : WX}
theorem ds_stk {st : Stmt} : DS X W st fun _ => stk := ⟨fun _ _ _ => False, ⟨fun _ _ _ _ _ _ w => w.elim⟩, fun _ _ _ _ _ _ _ _ po => po⟩
theorem dss_stk {st : List Stmt} : DSs X W st fun _ => stk := ⟨fun _ _ _ => False, ⟨fun _ _ _ _ _ _ w => w.elim⟩, fun _ _ _ _ _ _ _ _ po => po⟩
theorem de_stk {e : Expr} : DE X W e fun _ => stk := ⟨fun _ _ _ => False, ⟨fun _ _ _ _ _ _ w => w.elim⟩, fun _ _ _ _ _ _ _ _ po => po⟩
theorem dt_stk {e : Expr} : DT X W e fun _ => stk := ⟨fun _ _ _ => False, ⟨fun _ _ _ _ _ _ w => w.elim⟩, fun _ _ _ _ _ _ _ _ po => po⟩
end
theorem fnd_stk {P : Program} {w : World} {K : Frag} {mg : Mg} {base : Heap} {k : Nat} {f : Addr} {fd : FuncData} {ps : List Str} : FnD P w K mg base k f fd ps fun _ => stk :=
  ⟨fun vs H Q E h => by obtain ⟨_, _, _, _, _, _, h⟩ := h; exact h.elim, fun A outer s H args us vs Q E _ _ _ _ h => by obtain ⟨_, _, _, _, _, _, h⟩ := h; exact h.elim⟩
/-- mirrors of a def that calls itself: n deep -/
def recM (b : Mir → Mir) : Nat → Mir
  | 0 => fun _ => stk
  | n + 1 => b (recM b n)
theorem fnd_rec {P : Program} {w : World} {K : Frag} {mg : Mg} {base : Heap} {k : Nat} {f : Addr} {fd : FuncData} {ps : List Str} {b : Mir → Mir}
    (h : ∀ (j : Nat) (m : Mir), k ≤ j → FnD P w K mg base j f fd ps m → FnD P w K mg base (j + 1) f fd ps (b m)) : ∀ n : Nat, FnD P w K mg base (k + n) f fd ps (recM b n)
  | 0 => fnd_stk
  | n + 1 => h (k + n) _ (Nat.le_add_right _ _) (fnd_rec h n)
/-! ### tuples of whole numbers -/
section
variable {prog : Program} {w : World} {A : Around} {E : Value → Shared → Prop} {s : Shared} {l : Addr} {xs : Array (Int × Tok)} {its : List Value} {ns : List Int} {Q : Value → Shared → Prop}
theorem iter_intTup {Q : Value → Shared → Prop} (hl : s.heap.IsTuple l (intItems xs))
    (h : ∀ s₂ : Shared, s₂ = { s with heap := s.heap.push { cls := .type "tuple_iterator", data := .fields #[.ref l, .int 0 0] } } →
      (s₂.heap.IsTupleIter s.heap.objs.size l 0 ∧ s₂.heap.IsTuple l (intItems xs)) → (∀ b ∈ [s.heap.objs.size, l], b < s₂.heap.objs.size) → l ≠ s.heap.objs.size → Q (.ref s.heap.objs.size) s₂) :
    wpAny (model prog w) A (pyIter (.ref l)) Q E s := by
  have hlt : l < s.heap.objs.size := by obtain ⟨_, e, _⟩ := hl; exact Heap.lt_size e
  refine wpAny_pyIter_tuple hl (h _ rfl ⟨⟨_, Heap.get?_push_size _ rfl, rfl, rfl⟩, hl.push _⟩ (fun b hb => ?_) (Nat.ne_of_lt hlt))
  show b < (s.heap.push _).objs.size
  rw [Heap.size_push]
  rcases List.mem_cons.mp hb with rfl | hb
  · exact Nat.lt_succ_self _
  · rcases List.mem_cons.mp hb with rfl | hb
    · exact Nat.lt_succ_of_lt hlt
    · cases hb
theorem old_keptT {h' : Heap} (hk : ∀ b o, b ∉ [s.heap.objs.size] → (s.heap.push { cls := .type "tuple_iterator", data := .fields #[.ref l, .int 0 0] }).get? b = some o → h'.get? b = some o) :
    ∀ b o, s.heap.get? b = some o → h'.get? b = some o := fun b o e => by
  refine hk b o (fun hm => ?_) (Heap.get?_push_of_some _ e)
  rcases List.mem_cons.mp hm with e1 | hm
  · exact absurd (e1 ▸ Heap.lt_size e) (Nat.lt_irrefl _)
  · cases hm
theorem maxT_raw (hh : A.handled = none) (hl : s.heap.IsTuple l its.toArray) (hi : IntsAre its ns) (hne : 0 < ns.length)
    (h : ∀ h' tk M t', (∀ b o, s.heap.get? b = some o → h'.get? b = some o) → M ∈ ns → (∀ a, a ∈ ns → a ≤ M) → Q (.int M t') { s with heap := h', toks := tk }) : wpAny (model prog w) A (call (.builtin "max") [.ref l]) Q E s := by
  obtain ⟨xs, e⟩ := hi.allInts.items
  have hn : numsOf (intItems xs).toList = ns := by rw [← e]; exact hi.numsOf
  rw [nums_intItems] at hn
  subst hn
  rw [e] at hl
  have hsz : 0 < xs.size := by simpa using hne
  refine call_max_walk (iter_intTup hl fun s₂ e st hfp hlI => ?_)
  subst e
  refine ⟨_, _, _, _, _, _, _, rfl, Walks.tuple (A := A.in1) hh _ l hlI (intItems xs), st, hfp, by simpa [intItems] using hsz, CmpOf.ints_gt (numAt xs) (fun _ _ => intItems_at), fun v h' tk hP hk => ?_⟩
  have hP : (intItems xs)[argBest (fun i j => decide (numAt xs i > numAt xs j)) (xs.size - 1)]? = some v := by simpa [intItems] using hP
  obtain ⟨t, rfl⟩ := intItems_at hP
  obtain ⟨h1, h2⟩ := argBest_gt (numAt xs) (xs.size - 1)
  refine h h' tk _ t (old_keptT hk) ?_ fun a ha => ?_
  · rw [numAt_eq]; exact PySem.getD_mem (by rw [List.length_map, Array.length_toList]; omega)
  · obtain ⟨j, hj, rfl⟩ := mem_getD ha
    rw [List.length_map, Array.length_toList] at hj
    rw [← numAt_eq]; exact h2 j (by omega)
theorem minT_raw (hh : A.handled = none) (hl : s.heap.IsTuple l its.toArray) (hi : IntsAre its ns) (hne : 0 < ns.length)
    (h : ∀ h' tk M t', (∀ b o, s.heap.get? b = some o → h'.get? b = some o) → M ∈ ns → (∀ a, a ∈ ns → M ≤ a) → Q (.int M t') { s with heap := h', toks := tk }) : wpAny (model prog w) A (call (.builtin "min") [.ref l]) Q E s := by
  obtain ⟨xs, e⟩ := hi.allInts.items
  have hn : numsOf (intItems xs).toList = ns := by rw [← e]; exact hi.numsOf
  rw [nums_intItems] at hn
  subst hn
  rw [e] at hl
  have hsz : 0 < xs.size := by simpa using hne
  refine call_min_walk (iter_intTup hl fun s₂ e st hfp hlI => ?_)
  subst e
  refine ⟨_, _, _, _, _, _, _, rfl, Walks.tuple (A := A.in1) hh _ l hlI (intItems xs), st, hfp, by simpa [intItems] using hsz, CmpOf.ints_lt (numAt xs) (fun _ _ => intItems_at), fun v h' tk hP hk => ?_⟩
  have hP : (intItems xs)[argBest (fun i j => decide (numAt xs i < numAt xs j)) (xs.size - 1)]? = some v := by simpa [intItems] using hP
  obtain ⟨t, rfl⟩ := intItems_at hP
  obtain ⟨h1, h2⟩ := argBest_lt (numAt xs) (xs.size - 1)
  refine h h' tk _ t (old_keptT hk) ?_ fun a ha => ?_
  · rw [numAt_eq]; exact PySem.getD_mem (by rw [List.length_map, Array.length_toList]; omega)
  · obtain ⟨j, hj, rfl⟩ := mem_getD ha
    rw [List.length_map, Array.length_toList] at hj
    rw [← numAt_eq]; exact h2 j (by omega)
theorem sumT_raw (hh : A.handled = none) (hl : s.heap.IsTuple l its.toArray) (hi : IntsAre its ns)
    (h : ∀ h' tk t', (∀ b o, s.heap.get? b = some o → h'.get? b = some o) → Q (.int ns.sum t') { s with heap := h', toks := tk }) : wpAny (model prog w) A (call (.builtin "sum") [.ref l]) Q E s := by
  obtain ⟨xs, e⟩ := hi.allInts.items
  have hn : numsOf (intItems xs).toList = ns := by rw [← e]; exact hi.numsOf
  rw [nums_intItems] at hn
  rw [e] at hl
  refine call_sum_walkG (iter_intTup hl fun s₂ e st hfp hlI => ?_)
  subst e
  refine ⟨_, _, _, _, _, _, numAt xs, rfl, Walks.tuple (A := A.in1) hh _ l hlI (intItems xs), st, hfp, (fun _ _ => intItems_at), fun h' tk t' hk => ?_⟩
  have := h h' tk t' (old_keptT hk)
  have e2 : (intItems xs).size = xs.size := by simp [intItems]
  rw [e2]
  rw [preSum_eq, List.take_of_length_le (by simp), hn]; exact this
end
section
variable {X : Cx}
def rSumA (K : Frag) : List V → Hp → VK → Prop := fun vs H Q => ∃ (a : Addr) (ns : List Int), vs = [V.ref a] ∧ (SqL K H a (ns.map V.int) ∨ SqT K H a (ns.map V.int)) ∧ Q (.int ns.sum) H
def rMaxA (K : Frag) : List V → Hp → VK → Prop := fun vs H Q => ∃ (a : Addr) (ns : List Int), vs = [V.ref a] ∧ (SqL K H a (ns.map V.int) ∨ SqT K H a (ns.map V.int)) ∧ 0 < ns.length ∧ ∀ m, m ∈ ns → (∀ y, y ∈ ns → y ≤ m) → Q (.int m) H
def rMinA (K : Frag) : List V → Hp → VK → Prop := fun vs H Q => ∃ (a : Addr) (ns : List Int), vs = [V.ref a] ∧ (SqL K H a (ns.map V.int) ∨ SqT K H a (ns.map V.int)) ∧ 0 < ns.length ∧ ∀ m, m ∈ ns → (∀ y, y ∈ ns → m ≤ y) → Q (.int m) H
theorem cr_sumA (hc : X.calm = true) : CallR X (.builtin "sum") (rSumA X.K) := by
  intro pins s σ H vs us Q I r h
  obtain ⟨a, ns, rfl, hs, q⟩ := h
  rcases hs with hs | hs
  · exact cr_sum hc pins s σ H _ us Q I r ⟨a, ns, rfl, hs, q⟩
  · obtain ⟨its, rv, hl, _⟩ := I.tuple hs
    rw [Vals.ref1 r]
    exact sumT_raw (I.ok.hd hc) hl rv.ints fun h' tk t' hk => ⟨.int _, H, I.kept hk, ⟨_, rfl⟩, q⟩
theorem cr_maxA (hc : X.calm = true) : CallR X (.builtin "max") (rMaxA X.K) := by
  intro pins s σ H vs us Q I r h
  obtain ⟨a, ns, rfl, hs, hne, q⟩ := h
  rcases hs with hs | hs
  · exact cr_max hc pins s σ H _ us Q I r ⟨a, ns, rfl, hs, hne, q⟩
  · obtain ⟨its, rv, hl, _⟩ := I.tuple hs
    rw [Vals.ref1 r]
    exact maxT_raw (I.ok.hd hc) hl rv.ints hne fun h' tk m t' hk h1 h2 => ⟨.int _, H, I.kept hk, ⟨_, rfl⟩, q m h1 h2⟩
theorem cr_minA (hc : X.calm = true) : CallR X (.builtin "min") (rMinA X.K) := by
  intro pins s σ H vs us Q I r h
  obtain ⟨a, ns, rfl, hs, hne, q⟩ := h
  rcases hs with hs | hs
  · exact cr_min hc pins s σ H _ us Q I r ⟨a, ns, rfl, hs, hne, q⟩
  · obtain ⟨its, rv, hl, _⟩ := I.tuple hs
    rw [Vals.ref1 r]
    exact minT_raw (I.ok.hd hc) hl rv.ints hne fun h' tk m t' hk h1 h2 => ⟨.int _, H, I.kept hk, ⟨_, rfl⟩, q m h1 h2⟩
def oSumA (d : D) : Option D := (seqInts d).map fun ns => .int ns.sum
def oMaxA (d : D) : Option D := (seqInts d).bind fun ns => (maxI ns).map .int
def oMinA (d : D) : Option D := (seqInts d).bind fun ns => (minI ns).map .int
theorem o1_sumA : OpD1 X.K X.mg (rSumA X.K) oSumA := by
  intro F H x a Q s l ra po
  unfold oSumA at po
  cases h : seqInts a with
  | none => rw [h] at po; exact po.elim
  | some ns =>
    rw [h] at po
    obtain ⟨p, rfl, h1⟩ := RB.seqInts s h ra
    exact ⟨p, ns, rfl, h1, PostO.fl (s := s) po .int⟩
theorem o1_maxA : OpD1 X.K X.mg (rMaxA X.K) oMaxA := by
  intro F H x a Q s l ra po
  unfold oMaxA at po
  cases h : seqInts a with
  | none => rw [h] at po; exact po.elim
  | some ns =>
    rw [h] at po
    obtain ⟨p, rfl, h1⟩ := RB.seqInts s h ra
    cases h2 : maxI ns with
    | none => simp only [Option.bind_some, h2] at po; exact po.elim
    | some m =>
      simp only [Option.bind_some, h2] at po
      obtain ⟨m1, m2⟩ := maxI_spec h2
      refine ⟨p, ns, rfl, h1, List.length_pos_of_mem m1, fun k k1 k2 => ?_⟩
      have e : k = m := Int.le_antisymm (m2 k k1) (k2 m m1)
      subst e
      exact PostO.fl (s := s) po .int
theorem o1_minA : OpD1 X.K X.mg (rMinA X.K) oMinA := by
  intro F H x a Q s l ra po
  unfold oMinA at po
  cases h : seqInts a with
  | none => rw [h] at po; exact po.elim
  | some ns =>
    rw [h] at po
    obtain ⟨p, rfl, h1⟩ := RB.seqInts s h ra
    cases h2 : minI ns with
    | none => simp only [Option.bind_some, h2] at po; exact po.elim
    | some m =>
      simp only [Option.bind_some, h2] at po
      obtain ⟨m1, m2⟩ := minI_spec h2
      refine ⟨p, ns, rfl, h1, List.length_pos_of_mem m1, fun k k1 k2 => ?_⟩
      have e : k = m := Int.le_antisymm (k2 m m1) (m2 k k1)
      subst e
      exact PostO.fl (s := s) po .int
end
/-! ### sorted of a tuple -/
section
variable {prog : Program} {w : World} {A : Around} {E : Value → Shared → Prop} {s : Shared}
theorem collect_tup {l : Addr} {vs : List Value} {Q : List Value → Shared → Prop} (hl : s.heap.IsTuple l vs.toArray)
    (h : Q vs { s with heap := (s.heap.push (seqObj "list" #[] 0)).update s.heap.objs.size (Obj.mapSeq (· ++ vs.toArray)) }) (hsz : vs.length ≤ sizeLine) :
    wpAny (model prog w) A (collect (.ref l)) Q E s := by
  obtain ⟨o, ho, hc, n, hd⟩ := id hl
  unfold collect
  refine wpAny_bind (wpAny_runValue (codeAny_builtin entry_proto_collect' ?_))
  show wpAny _ _ (do again (.builtin "list.__iadd__" ⟨[← newList [], .ref l], []⟩)) _ _ s
  refine wpAny_bind (wpAny_newList (wpAny_pure ⟨Code.quiet_builtin _ (by decide +kernel), codeAny_builtin entry_list_iadd' ?_⟩))
  show wpAny _ _ (Builtin.List.listExtendWith (.ref s.heap.objs.size) (.ref l) (.ref s.heap.objs.size)) _ _ { s with heap := s.heap.push (seqObj "list" #[] 0) }
  unfold Builtin.List.listExtendWith
  have ho' : (s.heap.push (seqObj "list" #[] 0)).get? l = some o := Heap.get?_push_of_some _ ho
  refine wpAny_bind (wpAny_typeOf (T := "tuple") ⟨o, ho', hc⟩ ?_)
  have ht : (Value.type "tuple" == Value.type "tuple") = true := by rfl
  rw [if_pos (by rw [ht]; simp)]
  refine wpAny_bind (listItems_at ho' hd ?_)
  refine wpAny_bind (listItems_at (xs := #[]) (n := 0) (Heap.get?_push_size _ rfl) rfl ?_)
  rw [if_neg (by simp)]
  refine wpAny_bind (listUpdate_at (xs := #[]) (n := 0) (Heap.get?_push_size _ rfl) rfl ?_ (Nat.zero_le _) (by show (#[] ++ vs.toArray).size ≤ sizeLine + 1; simp only [Array.size_append, List.size_toArray, List.length_nil]; omega))
  refine wpAny_pure ?_
  show wpAny (model prog w) A (do
      let o ← load s.heap.objs.size
      match o.data with
      | .seq xs _ => pure xs.toList
      | _ => unsupported "internal:collect") Q E { s with heap := (s.heap.push (seqObj "list" #[] 0)).update s.heap.objs.size (Obj.mapSeq (· ++ vs.toArray)) }
  refine wpAny_bind (wpAny_load (get?_update_seq (Heap.get?_push_size _ rfl) _) ?_)
  show wpAny _ _ (pure ((#[] : Array Value) ++ vs.toArray).toList) Q E _
  rw [show ((#[] : Array Value) ++ vs.toArray).toList = vs by simp]
  exact wpAny_pure h
theorem sorted_intsT {l : Addr} {vs : List Value} {ns : List Int} {Q : Value → Shared → Prop} (hl : s.heap.IsTuple l vs.toArray) (hI : IntsAre vs ns) (h64 : vs.length < 64)
    (h : ∀ (out : Array Value) (ns' : List Int), IntsAre out.toList ns' → ns'.Perm ns → ns'.Pairwise (· ≤ ·) → Q (.ref (s.heap.objs.size + 1)) { s with heap := sortedAll s.heap vs out }) :
    wpAny (model prog w) A (call (.builtin "sorted") [.ref l]) Q E s := by
  refine Calls.call_function_entry kind_sorted plain_sorted entry_sorted (args_sorted1 _) ?_
  unfold Builtin.«sorted»
  refine wpAny_bind (m := checkCount "sorted" 1 1 _) (wpAny_pure ?_)
  refine wpAny_bind (collect_tup hl ?_ (small64 h64))
  refine wpAny_bind (wpAny_newList ?_)
  have hsz : ((s.heap.push (seqObj "list" #[] 0)).update s.heap.objs.size (Obj.mapSeq (· ++ vs.toArray))).objs.size = s.heap.objs.size + 1 := by
    rw [Heap.size_update, size_push']
  have hoL : (((s.heap.push (seqObj "list" #[] 0)).update s.heap.objs.size (Obj.mapSeq (· ++ vs.toArray))).push (seqObj "list" vs.toArray 0)).get? (s.heap.objs.size + 1) = some (seqObj "list" vs.toArray 0) := by
    rw [← hsz]; exact Heap.get?_push_size _ rfl
  show wpAny _ _ _ _ _ { s with heap := ((s.heap.push (seqObj "list" #[] 0)).update s.heap.objs.size (Obj.mapSeq (· ++ vs.toArray))).push (seqObj "list" vs.toArray 0) }
  rw [hsz]
  refine wpAny_bind (wpAny_holding (wpAny_call_entry slot_list_sort ⟨_, hoL, rfl⟩ entry_list_sort (list_sort_tree hoL hI h64 fun out ns' a1 a2 a3 => ⟨_, rfl, ?_⟩) (args_list_sort _)))
  exact wpAny_pure ⟨_, rfl, h out ns' a1 a2 a3⟩
end
section
variable {X : Cx} {W : WX} {a : Expr} {ea : Ev} {p pos : Pos}
def rSortedA (K : Frag) : List V → Hp → VK → Prop := fun vs H Q => ∃ (a : Addr) (ns : List Int), vs = [V.ref a] ∧ (SqL K H a (ns.map V.int) ∨ (SqT K H a (ns.map V.int) ∧ ns.length < 64)) ∧
  ∀ (ns' : List Int) (p : Addr), ns'.Perm ns → ns'.Pairwise (· ≤ ·) → H p = none → Q (.ref p) (upd H p (.lst (ns'.map V.int)))
theorem cr_sortedA : CallR X (.builtin "sorted") (rSortedA X.K) := by
  intro pins s σ H vs us Q I r h
  obtain ⟨a, ns, rfl, hs, q⟩ := h
  rcases hs with hs | ⟨hs, h64⟩
  · exact cr_sortedI pins s σ H _ us Q I r ⟨a, ns, rfl, hs, q⟩
  · obtain ⟨its, rv, hl, _⟩ := I.tuple hs
    rw [Vals.ref1 r]
    have hi := rv.ints
    refine sorted_intsT hl hi (by rw [hi.length]; exact h64) fun out ns' h1 h2 h3 => ?_
    obtain ⟨ep, he'⟩ := PyProof.Rows.sortedAll_at s.heap its out
    have hlen : (ns'.map V.int).length ≤ sizeLine := by rw [List.length_map, h2.length_eq]; exact small64 h64
    exact ⟨.ref _, upd H (s.heap.objs.size + 1) (.lst (ns'.map V.int)), I.laid (t' := s.toks) (fun _ _ => PyProof.Rows.sortedAll_old) (Nat.le_succ _) ⟨hlen, out.toList, ep, vals_of_ints h1, he'⟩, rfl, q ns' _ h2 h3 (I.hok.fresh (Nat.le_succ _))⟩
def tInts : D → Option (List Int)
  | .lst ds => asInts ds
  | .tup ds => if ds.length < 64 then asInts ds else none
  | _ => none
def fSortedA (a : Ev) : EvA := fun δ => do let x ← a δ; let ns ← lft (tInts x); .ok ((srt ns).map .int)
theorem asInts_length : ∀ {ds : List D} {ns : List Int}, asInts ds = some ns → ns.length = ds.length := by
  intro ds ns h
  rw [asInts_eq h, List.length_map]
theorem RB.tInts {K : Frag} {mg : Mg} {F H : Hp} {d : D} {v : V} {ns : List Int} (s : Same F H) (h : DL.tInts d = some ns) (r : RB K mg F H d v) : ∃ a, v = .ref a ∧ (SqL K H a (ns.map V.int) ∨ (SqT K H a (ns.map V.int) ∧ ns.length < 64)) := by
  cases d with
  | lst ds =>
    obtain ⟨a, e, h1⟩ := RB.ints (ns := ns) s (show lstInts (.lst ds) = some ns from h) r
    exact ⟨a, e, .inl (.of h1)⟩
  | tup ds =>
    have h2 : (if ds.length < 64 then asInts ds else none) = some ns := h
    split at h2
    · rename_i hz
      obtain ⟨a, e, h1⟩ := RB.seqInts (d := .tup ds) s h2 r
      have hl := asInts_length h2
      obtain ⟨a', vs, e', h3, r3⟩ := r.tup_inv
      cases e.symm.trans e'
      rw [asInts_eq h2] at r3
      rw [r3.ints_inv] at h3
      exact ⟨a, e, .inr ⟨Same.sqT s h3, by omega⟩⟩
    · cases h2
  | _ => cases h
theorem df_sortedA (hg : Gl X "sorted") (hm : X.mg "sorted" = none) (ha : DB X W a ea) (he : starEach [a] X.env = (false, eval a X.env) :: starEach [] X.env := by rfl) : DF X W (.Call (.Name "sorted" p) [a] [] pos) (fSortedA ea) := by
  obtain ⟨ta, pa, qa⟩ := ha
  refine ⟨_, pe_callB cr_sortedA hg hm (by decide +kernel) (pa_cons pa pa_nil he) (by decide) (by decide) he rfl, fun F0 H0 F H σ δ Q E po => qa F0 H0 F H σ δ _ E ?_⟩
  unfold fSortedA at po
  cases h : ea δ with
  | error er => rw [h] at po; exact po
  | ok d =>
    rw [h] at po
    intro v F1 H1 g l r
    simp only [ok_bind] at po
    cases h2 : DL.tInts d with
    | none => rw [h2] at po; exact po.elim
    | some ns =>
      rw [h2] at po
      obtain ⟨q, rfl, h1⟩ := r.tInts g.s h2
      refine ⟨q, ns, rfl, h1, fun ns' k p1 p2 nk => ?_⟩
      have e : ns' = srt ns := sorted_unique (p1.trans (srt_perm ns).symm) p2 (srt_sorted ns)
      subst e
      exact fresh_at g Rs.ints po k nk
end
end DL

namespace DL
open PySem PySem.Spec PyProof.Rows L2
theorem df_compW {X : Cx} {W : WX} {tg iter elt : Expr} {ifs : List Expr} {scope : Scope} {pos : Pos} {it : EvA} {sl ws : List Nat} {bd : Bd} {vt : EvT} {ve : Ev} {own : List (Str × Nat)} (hc : X.calm = true) (hN : X.N.Nodup) (hi : DI X W tg iter it) (ok : BlkOk X.N X.env.scope scope own) (hg : Blk X scope fun Y => DG Y tg sl bd) (ht : Blk X scope fun Y => DTs Y WF ifs vt) (he : Blk X scope fun Y => DE Y WF elt ve)
    (hw : own.map (·.2) = ws := by rfl) (hsl : ∀ i ∈ sl, i ∈ own.map (·.2) := by decide) (hs : ∀ x, foldedSetIterable iter X.env x = pure x := by intro _; rfl) :
    DF X W (.ListComp elt [⟨tg, iter, ifs, 0⟩] scope pos) (fComp it ws bd vt ve) := hw ▸ df_comp hc hN hi ok hg ht he hsl hs
/-- the scope of a block within a block -/
def relSc (scope sc : Scope) : Scope :=
  { scope with names := scope.names.map fun (n, k) => if (k == .free && sc.kind == .function && sc.names.lookup n == some .cell) then (n, .cell) else (n, k) }
theorem relS_eq (scope : Scope) (cl : List (Str × Addr)) (C : Addr) (env : Env) : (compEnvC scope cl C env).scope = relSc scope env.scope := rfl
abbrev iLt : Int → Int → Bool := fun i j => decide (i < j)
abbrev iLe : Int → Int → Bool := fun i j => decide (i ≤ j)
abbrev iGt : Int → Int → Bool := fun i j => decide (i > j)
abbrev iGe : Int → Int → Bool := fun i j => decide (i ≥ j)
/-! ### instances: their making -/
def del (H : Hp) (x : Addr) : Hp := fun a => if a = x then none else H a
theorem del_same (H : Hp) (x : Addr) : del H x x = none := by unfold del; rw [if_pos rfl]
theorem del_ne {H : Hp} {x b : Addr} (h : b ≠ x) : del H x b = H b := by unfold del; rw [if_neg h]
abbrev MirI := List D → M (List Str × List D)
def PostMk (K : Frag) (mg : Mg) (x c : Addr) (F H : Hp) (Q : VK) (E : XK) : M (List Str × List D) → Prop
  | .ok (ks, as) => ∀ dx vs F' H', Grow F (del H x) F' H' → F' x = none → H' x = some (.ins c dx (ks.zip vs)) → ks.length = vs.length → Rs K mg F' as vs → Q .non H'
  | .error .stuck => False
  | .error (.exc C ks ds) => ∀ c dd F' H', Grow F (del H x) F' H' → mg C = some (.ref c) → ExRep K mg F' H' ks ds dd → E (.ref c) dd H'
def spI (K : Frag) (mg : Mg) (C : Str) (n : Nat) (m : MirI) : Sp := fun vs H Q E => ∃ x c dx ds us F, vs = .ref x :: us ∧ mg C = some (.ref c) ∧ H x = some (.ins c dx []) ∧ F x = none ∧ ds.length = n ∧ Same F H ∧ Lim H ∧ Rs K mg F ds us ∧ PostMk K mg x c F H Q E (m ds)
def startI (n : Nat) (C : Str) (ds : List D) : DEnv := some (.ins C [] []) :: startD (n - 1) ds
def runI (C : Str) (r : M Fl) : M (List Str × List D) := match r with
  | .ok (.nx (some (.ins C' ks as) :: _)) => if C' = C then .ok (ks, as) else stk
  | .ok _ => stk
  | .error e => .error e
def mirI (n p : Nat) (C : Str) (sv : Sv) : MirI := fun ds => if ds.length = p then runI C (sv (startI n C ds)) else stk
theorem startI_ok {K : Frag} {mg : Mg} {F H : Hp} {x c dx : Addr} {C : Str} {N : List Str} {ds : List D} {us : List V} (s : Same F H) (l : Lim H) (r : Rs K mg F ds us) (hm : mg C = some (.ref c)) (hx : H x = some (.ins c dx [])) (fx : F x = none) (hN : N ≠ []) :
    EnvOk K mg (F, x) (del H x) F H (L2.start N (.ref x :: us)) (startI N.length C ds) := by
  cases N with
  | nil => exact absurd rfl hN
  | cons n0 N =>
    have E0 := start_ok (N := N) s l r x
    have e1 : L2.start (n0 :: N) (.ref x :: us) = some (.ref x) :: L2.start N us := by
      unfold L2.start
      rw [List.map_cons, List.cons_append, List.length_cons, List.length_cons, Nat.add_sub_add_right]
    rw [e1]
    show EnvOk K mg (F, x) (del H x) F H _ (some (.ins C [] []) :: startD N.length ds)
    refine ⟨⟨.refl _, fun b o e => ?_, s, fun _ _ h => h⟩, l, by rw [List.length_cons, List.length_cons, E0.len], ⟨fun i => if i = 0 then [x] else [], ⟨fun i cc e => ?_, fun i _ _ => ?_, fun i _ _ a ha => ?_, fun i j _ _ hij _ _ a ha hb => ?_⟩⟩, fun i C' ks es e => ?_⟩
    · unfold del at e
      split at e
      · cases e
      · exact e
    · cases i with
      | zero =>
        cases e
        exact ⟨.ref x, rfl, x, c, dx, [], rfl, hm, hx, rfl, .nil, rfl⟩
      | succ i =>
        rw [List.getElem?_cons_succ] at e ⊢
        obtain ⟨d, rfl, _⟩ := startD_val e
        obtain ⟨v, h1, h2⟩ := E0.sl i _ e
        exact ⟨v, h1, h2, rfl⟩
    · show (if i = 0 then [x] else []).Nodup
      split <;> simp
    · have ha : a ∈ (if i = 0 then [x] else []) := ha
      split at ha
      · rw [List.mem_singleton.mp ha]; exact ⟨fx, del_same _ _⟩
      · cases ha
    · have ha : a ∈ (if i = 0 then [x] else []) := ha
      have hb : a ∈ (if j = 0 then [x] else []) := hb
      split at ha
      · split at hb
        · rename_i h1 h2; exact hij (h1.trans h2.symm)
        · cases hb
      · cases ha
    · cases i with
      | zero => rfl
      | succ i =>
        rw [List.getElem?_cons_succ] at e
        obtain ⟨d, z, _⟩ := startD_val e
        cases z
section
variable {P : Program} {w : World} {K : Frag} {mg : Mg} {base : Heap}
/-- THE RULE of __init__ -/
theorem fn_i {x qual C : Str} {st : Stmt} {f : Addr} {fd : FuncData} {N ps : List Str} {p0 : Str} {k : Nat} {sv : Sv} (F : Fun K x qual st f fd) (S : FnScope N (p0 :: ps) (defScope st)) (hN : N ≠ [])
    (body : ∀ (cdv : Value) (A : Around) (outer : List Env) (s : Shared) (H : Hp) (E : XK), Room k (A.deeper (envOfC qual (defScope st) s.heap.objs.size f cdv)) →
      DSs (cxOf (L2.CX P w) P w K mg base N qual (defScope st) f cdv A outer s H E) (WXE E) (defBody st) sv) : FnOk P w K mg base (L2.CX P w) (k + 1) f fd (p0 :: ps) (spI K mg C ps.length (mirI N.length ps.length C sv)) := by
  refine F.okX S (fun vs H Q E h => ?_) (fun cdv A outer s H vs Q E hr h => ?_)
  · obtain ⟨x, c, dx, ds, us, F', rfl, _, _, _, hl, _, _, r, _⟩ := h
    rw [List.length_cons, List.length_cons, ← r.length, hl]
  · obtain ⟨x, c, dx, ds, us, F', rfl, hm, hx, fx, hl, hs, lm, r, po⟩ := h
    obtain ⟨t, pt, q⟩ := body cdv A outer s H E hr
    refine ⟨t, pt, q (F', x) (del H x) F' H _ _ _ (startI_ok hs lm r hm hx fx hN) ?_⟩
    unfold mirI at po
    rw [if_pos hl] at po
    cases h : sv (startI N.length C ds) with
    | error er =>
      rw [h] at po
      cases er with
      | stuck => exact po
      | exc C ks es => exact fun c dd σ F2 H2 g hm hx => po c dd F2 H2 g hm hx
    | ok fl =>
      rw [h] at po
      cases fl with
      | nx δ =>
        intro σ F2 H2 E2
        cases δ with
        | nil => exact po.elim
        | cons o δ =>
          cases o with
          | none => exact po.elim
          | some cc =>
            cases cc with
            | val d => exact po.elim
            | own ds => exact po.elim
            | tre ds => exact po.elim
            | ins C' ks as =>
              have po2 : PostMk K mg x c F' H Q E (if C' = C then .ok (ks, as) else stk) := po
              by_cases hC : C' = C
              · rw [if_pos hC] at po2
                subst hC
                obtain ⟨v, h1, a, c', dx', vs, rfl, hm', h2, h3, h4, h5, h6⟩ := E2.sl 0 _ rfl
                have h7 := E2.pn 0 _ _ _ rfl
                rw [h1] at h7
                cases h7
                cases hm.symm.trans hm'
                exact po2 dx' vs F2 H2 E2.g h3 h2 h5 h6
              · rw [if_neg hC] at po2
                exact po2.elim
      | rt d => exact po.elim
      | rx d => exact po.elim
      | bk δ => exact po.elim
      | ct δ => exact po.elim
end
section
variable {X : Cx} {CX : CXT} {k : Nat} {f C : Addr} {fd : FuncData} {ps : List Str} {sp : Sp} {x : Str} {p pos : Pos} {e : Expr} {es : List Expr} {t : TA}
theorem run_makeS {pins : List (Addr × Obj)} {σ : St} {H : Hp} {s : Shared} {Q : VK} {us : List Value} {vs : List V} {E : XK} (M : Mk X.K C f) (F : FnOk X.prog X.w X.K X.mg X.base CX k f fd ps sp) (hr : Room (k + 1) X.A) (hb : Binds X.K fd ps [])
    (hx : PassesAt CX X σ E) (I : Inv X pins σ H s) (r : Vals vs us)
    (h : ∀ x dx, H x = none → H dx = none → dx ≠ x → sp (.ref x :: vs) (upd (upd H dx (.own x)) x (.ins C dx [])) (fun v H2 => v = .non ∧ Q (.ref x) H2) E) :
    wpAny (model X.prog X.w) X.A (call (.ref C) us) (EP X pins σ Q) X.xe s := by
  have hq := h (s.heap.objs.size + 1) s.heap.objs.size (I.hok.fresh (Nat.le_succ _)) (I.hok.fresh (Nat.le_refl _)) (Nat.ne_of_lt (Nat.lt_succ_self _))
  have I2 := Inv.made (C := C) I
  have r2 : Vals (V.ref (s.heap.objs.size + 1) :: vs) (Value.ref (s.heap.objs.size + 1) :: us) := .cons rfl r
  have hl : (Value.ref (s.heap.objs.size + 1) :: us).length = ps.length := by
    have e := r2.length
    rw [F.len _ _ _ _ hq] at e
    exact e.symm
  have b := hb _ (Value.ref (s.heap.objs.size + 1) :: us) I2.kIn (by rw [List.append_nil]; exact hl)
  rw [List.append_nil] at b
  refine wpAny_call (make_map (f := f) I.kIn M.makes M.init (beq_iff_eq.mp M.fn) (codeAny_mono (F.run _ X.stack _ _ ⟨Value.ref (s.heap.objs.size + 1) :: us, []⟩ (Value.ref (s.heap.objs.size + 1) :: us) _ _ E (hr.make C us [])
    (I2.env0.make C us []) b r2 hq) fun r s' hq' => ?_))
  cases r with
  | error e => exact hx pins _ _ e s' I2 hq'
  | ok fl =>
    cases fl with
    | ret u =>
      obtain ⟨v, H', I3, rv, ev, q3⟩ := I2.after hq'
      subst ev
      exact ⟨rv, ⟨V.ref (s.heap.objs.size + 1), H', I3, rfl, q3⟩⟩
    | next => exact False.elim hq'
    | brk => exact False.elim hq'
    | cont => exact False.elim hq'
def tMakeS (C : Addr) (sp : Sp) (E : St → XK) (t : TA) : TE := fun σ H Q => t σ H fun vs H1 => ∀ x dx, H1 x = none → H1 dx = none → dx ≠ x → sp (.ref x :: vs) (upd (upd H1 dx (.own x)) x (.ins C dx [])) (fun v H2 => v = .non ∧ Q (.ref x) H2) (E σ)
theorem pe_makeS {E : St → XK} (M : Mk X.K C f) (F : FnOk X.prog X.w X.K X.mg X.base CX k f fd ps sp) (hr : Room (k + 1) X.A) (hg : Gl X x) (hm : X.mg x = some (.ref C)) (hb : Binds X.K fd ps []) (hx : ∀ σ, PassesAt CX X σ (E σ))
    (ha : PA X (e :: es) t) (hdb : (x == ("__debug__" : Str)) = false := by decide) (he : starEach (e :: es) X.env = (false, eval e X.env) :: starEach es X.env := by rfl) (hpl : (backTo pos (starEach es X.env)).any (·.1) = false := by rfl) :
    PE X (.Call (.Name x p) (e :: es) [] pos) (tMakeS C sp E t) := by
  refine ⟨fun pins s σ H Q I h => ?_⟩
  refine wpAny_Call_Name_kw (ld_glob I hg hm ?_ hdb)
  refine PySem.W.callWith_K (h₀ := X.base) I.ok.mod.kin M.kp (thn (ha.run pos pins s σ H _ I h) fun us s1 ⟨vs, H1, I1, r, q⟩ => ⟨I1.kIn, ?_⟩) he hpl
  exact run_makeS M F hr hb (hx σ) I1 r q
def tMethS (C : Addr) (sp : Sp) (E : St → XK) (ta : TE) (t : TA) (m : Str) : TE := fun σ H Q => ta σ H fun x H1 => ∃ a dx fs, x = .ref a ∧ H1 a = some (.ins C dx fs) ∧ fs.lookup m = none ∧ t σ H1 fun vs H2 => sp (.ref a :: vs) H2 Q (E σ)
variable {o : Expr} {ta : TE} {m : Str} {apos : Pos}
theorem pe_methZ {pl : Sem Bool} {E : St → XK} (he : PE X o ta) (c : Cls X.K C) (hm : Meth X.K C m f) (F : FnOk X.prog X.w X.K X.mg X.base CX k f fd ps sp) (hr : Room k X.A) (hb : Binds X.K fd ps []) (hx : ∀ σ, PassesAt CX X σ (E σ)) (ha : PA X (e :: es) t)
    (hst : starEach (e :: es) X.env = (false, eval e X.env) :: starEach es X.env := by rfl) (hpl : (backTo pos (starEach es X.env)).any (·.1) = false := by rfl)
    (ht : eval (.Call (.Attribute o m apos) (e :: es) [] pos) X.env = (do
      let ov ← eval o X.env
      standAt apos.atName
      let (f, first) ← holding [ov] (getMethod ov m pl)
      callWith pos f first (backTo pos (starEach (e :: es) X.env)) (backToKw pos (keywordEach [] X.env))) := by rfl) :
    PE X (.Call (.Attribute o m apos) (e :: es) [] pos) (tMethS C sp E ta t m) := by
  refine ⟨fun pins s σ H Q I h => ?_⟩
  refine PySem.W.methodCall_KW (pl := pl) (thn (he.run pins s σ H _ I h) fun u s1 ⟨x, H1, I1, rx, a, dx, fs, ex, ea, l, q⟩ => ?_) ht
  subst ex
  obtain rfl : u = Value.ref a := rx
  refine getmeth_ok I1 ea c hm l ?_
  refine PySem.W.callWith_K (first := [.ref a]) (h₀ := X.base) I.ok.mod.kin hm.kp (thn (ha.run pos pins s1 σ H1 _ I1 q) fun us s2 ⟨vs, H2, I2, r, q2⟩ => ⟨I2.kIn, ?_⟩) hst hpl
  exact run_fnS (us := .ref a :: us) (vs := .ref a :: vs) F hr hb (hx σ) I2 (.cons rfl r) q2
theorem pe_methZ0 {pl : Sem Bool} {E : St → XK} (he : PE X o ta) (c : Cls X.K C) (hm : Meth X.K C m f) (F : FnOk X.prog X.w X.K X.mg X.base CX k f fd ps sp) (hr : Room k X.A) (hb : Binds X.K fd ps []) (hx : ∀ σ, PassesAt CX X σ (E σ))
    (ht : eval (.Call (.Attribute o m apos) [] [] pos) X.env = (do
      let ov ← eval o X.env
      standAt apos.atName
      let (f, first) ← holding [ov] (getMethod ov m pl)
      callWith pos f first (backTo pos (starEach [] X.env)) (backToKw pos (keywordEach [] X.env))) := by rfl) :
    PE X (.Call (.Attribute o m apos) [] [] pos) (tMethS C sp E ta tNil m) := by
  refine ⟨fun pins s σ H Q I h => ?_⟩
  refine PySem.W.methodCall_KW (pl := pl) (thn (he.run pins s σ H _ I h) fun u s1 ⟨x, H1, I1, rx, a, dx, fs, ex, ea, l, q⟩ => ?_) ht
  subst ex
  obtain rfl : u = Value.ref a := rx
  refine getmeth_ok I1 ea c hm l ?_
  exact PySem.W.callWith_K0 (first := [.ref a]) I1.kIn hm.kp (run_fnS (us := [.ref a]) (vs := [.ref a]) F hr hb (hx σ) I1 (.cons rfl .nil) q)
end
section
variable {X : Cx} {W : WX} {e a b : Expr} {ev ea eb : Ev} {pos p : Pos} {es : List Expr} {er : EvA}
def eMake (C : Str) (n : Nat) (m : MirI) (as : EvA) : Ev := fun δ => do
  let ds ← as δ
  if ds.length = n then do
    let r ← m ds
    .ok (.obj C r.1 r.2)
  else stk
theorem grow_made {F H F1 H1 F' H' : Hp} {x dx c : Addr} {o : HO} (g : Grow F H F1 H1) (nx : H1 x = none) (ndx : H1 dx = none) (g' : Grow F1 (del (upd (upd H1 dx (.own x)) x o) x) F' H') : Grow F H F' H' := by
  have key : ∀ b u, H1 b = some u → del (upd (upd H1 dx (.own x)) x o) x b = some u := fun b u e => by
    have h1 : b ≠ x := fun z => by rw [z, nx] at e; cases e
    have h2 : b ≠ dx := fun z => by rw [z, ndx] at e; cases e
    rw [del_ne h1, upd_ne h1, upd_ne h2]; exact e
  refine g.trans ⟨g'.f, fun b u e => g'.h _ _ (key b u e), g'.s, fun b h1 h2 => g'.n b ?_ h2⟩
  cases q : H1 b with
  | none => exact absurd q h1
  | some u => rw [key b u q]; simp
theorem de_make {k : Nat} {C p0 : Str} {c f : Addr} {fd : FuncData} {ps : List Str} {m : MirI} (M : Mk X.K c f) (G : FnOk X.prog X.w X.K X.mg X.base (L2.CX X.prog X.w) k f fd (p0 :: ps) (spI X.K X.mg C ps.length m)) (hr : Room (k + 1) X.A) (tk : Takes X W) (hg : Gl X C) (hm : X.mg C = some (.ref c))
    (hb : Binds X.K fd (p0 :: ps) []) (ha : DA X W (a :: es) er) (hdb : (C == ("__debug__" : Str)) = false := by decide) (he : starEach (a :: es) X.env = (false, eval a X.env) :: starEach es X.env := by rfl) (hpl : (backTo pos (starEach es X.env)).any (·.1) = false := by rfl) :
    DE X W (.Call (.Name C p) (a :: es) [] pos) (eMake C ps.length m er) := by
  obtain ⟨t, pt, q⟩ := ha
  refine ⟨_, PE.suf (pe_makeS (E := WE W) M G hr hg hm hb (passAt tk) pt hdb he hpl), fun F0 H0 F H σ δ Q E po => q F0 H0 F H σ δ _ E ?_⟩
  unfold eMake at po
  cases h : er δ with
  | error er => rw [h] at po; exact po
  | ok ds =>
    rw [h] at po
    intro vs F1 H1 g l r
    simp only [ok_bind] at po
    by_cases hz : ds.length = ps.length
    · rw [if_pos hz] at po
      intro x dx nx ndx ne
      have f1 : F1 x = none := by
        cases q : F1 x with
        | none => rfl
        | some u => rw [g.s _ _ q] at nx; cases nx
      have l2 : Lim (upd (upd H1 dx (.own x)) x (.ins c dx [])) := (l.put (fun xs h => by rcases h with h | h <;> cases h) (fun _ _ h => by cases h)).put (fun xs h => by rcases h with h | h <;> cases h) (fun _ _ h => by cases h)
      have sm : Same F1 (upd (upd H1 dx (.own x)) x (.ins c dx [])) := fun b u e => by
        have := g.s _ _ e
        rw [upd_ne (ne_of_none this nx), upd_ne (ne_of_none this ndx)]; exact this
      refine ⟨x, c, dx, ds, vs, F1, rfl, hm, upd_same, f1, hz, sm, l2, r, ?_⟩
      cases hmd : m ds with
      | ok ka =>
        obtain ⟨ks, as⟩ := ka
        rw [hmd] at po
        intro dx' us F' H' g' fx hx hl rr
        refine ⟨rfl, fun lm => ?_⟩
        have g2 := grow_made (c := c) g nx ndx g'
        have nH : H x = none := by
          cases q : H x with
          | none => rfl
          | some u => rw [g.h _ _ q] at nx; cases nx
        refine po (.ref x) (upd F' x (.ins c dx' (ks.zip us))) H' ⟨g2.f.trans (same_put fx), g2.h, fun b u e => ?_, fun b n1 n2 => ?_⟩ lm ?_
        · by_cases hb : b = x
          · subst hb; rw [upd_same] at e; rw [hx]; exact e
          · rw [upd_ne hb] at e; exact g2.s _ _ e
        · have : b ≠ x := fun z => n1 (z ▸ nH)
          rw [upd_ne this]; exact g2.n b n1 n2
        · unfold R
          exact ⟨x, c, dx', us, rfl, hm, upd_same, hl, rr.mono (same_put fx)⟩
      | error er =>
        rw [hmd] at po
        cases er with
        | stuck => exact po
        | exc C' ks es => exact fun c' dd F2 H2 g2 hc hx => po c' dd F2 H2 (grow_made (c := c) g nx ndx g2) hc hx
    · rw [if_neg hz] at po; exact po.elim
theorem lookup_none_zip : ∀ {ks : List Str} {f : Str} (ds : List V), f ∉ ks → (ks.zip ds).lookup f = none
  | [], _, _, _ => rfl
  | k :: ks, f, [], _ => rfl
  | k :: ks, f, d :: ds, h => by
    rw [List.zip_cons_cons, List.lookup_cons]
    have h1 : (f == k) = false := beq_eq_false_iff_ne.mpr fun z => h (z ▸ List.mem_cons_self)
    rw [h1]
    exact lookup_none_zip ds fun z => h (List.mem_cons_of_mem _ z)
/-- a method of a class by its name -/
structure MethOk (K : Frag) (mg : Mg) (C m : Str) (c f : Addr) : Prop where
  gC : mg C = some (.ref c)
  cl : Cls K c
  mt : Meth K c m f
def eMeth' (C mn : Str) (n : Nat) (m : Mir) (ob : Ev) (as : EvA) : Ev := fun δ => do
  let o ← ob δ
  match o with
  | .obj C' ks ds => if C' = C ∧ mn ∉ ks then (do
      let xs ← as δ
      if xs.length + 1 = n then m (.obj C' ks ds :: xs) else stk) else stk
  | _ => stk
theorem de_meth {pl : Sem Bool} {k : Nat} {C mn : Str} {c f : Addr} {fd : FuncData} {ps : List Str} {m : Mir} {o : Expr} {eo : Ev} {apos : Pos} (ho : DE X W o eo) (Mt : MethOk X.K X.mg C mn c f) (G : FnD X.prog X.w X.K X.mg X.base k f fd ps m) (hr : Room k X.A) (tk : Takes X W)
    (hb : Binds X.K fd ps []) (ha : DA X W (a :: es) er) (hst : starEach (a :: es) X.env = (false, eval a X.env) :: starEach es X.env := by rfl) (hpl : (backTo pos (starEach es X.env)).any (·.1) = false := by rfl)
    (ht : eval (.Call (.Attribute o mn apos) (a :: es) [] pos) X.env = (do
      let ov ← eval o X.env
      standAt apos.atName
      let (f, first) ← holding [ov] (getMethod ov mn pl)
      callWith pos f first (backTo pos (starEach (a :: es) X.env)) (backToKw pos (keywordEach [] X.env))) := by rfl) :
    DE X W (.Call (.Attribute o mn apos) (a :: es) [] pos) (eMeth' C mn ps.length m eo er) := by
  obtain ⟨to, po', qo⟩ := ho
  obtain ⟨t, pt, q⟩ := ha
  refine ⟨_, PE.suf (pe_methZ (E := WE W) po' Mt.cl Mt.mt G hr hb (passAt tk) pt hst hpl ht), fun F0 H0 F H σ δ Q E po => qo F0 H0 F H σ δ _ E ?_⟩
  unfold eMeth' at po
  cases h0 : eo δ with
  | error er => rw [h0] at po; exact po
  | ok d =>
    rw [h0] at po
    intro v F1 H1 g l r
    cases d with
    | obj C' ks ds =>
      simp only [ok_bind] at po
      by_cases hC : C' = C ∧ mn ∉ ks
      · rw [if_pos hC] at po
        obtain ⟨rfl, hk⟩ := hC
        obtain ⟨a1, c', dx, vs, rfl, hm, h1, hl, rr⟩ := r.obj_inv
        cases hm.symm.trans Mt.gC
        refine ⟨a1, dx, _, rfl, g.s _ _ h1, lookup_none_zip _ hk, q F0 H0 F1 H1 σ δ _ (E.grow g l) ?_⟩
        cases h : er δ with
        | error er => rw [h] at po; exact PostX.grow g po
        | ok xs =>
          rw [h] at po
          simp only [ok_bind] at po
          intro us F2 H2 g2 l2 r2
          by_cases hz : xs.length + 1 = ps.length
          · rw [if_pos hz] at po
            have rO : R X.K X.mg F2 (.obj C' ks ds) (.ref a1) := R.mono g2.f _ _ r
            refine ⟨.obj C' ks ds :: xs, F2, by rw [List.length_cons]; exact hz, g2.s, l2, .cons rO r2, ?_⟩
            cases hm : m (.obj C' ks ds :: xs) with
            | ok d =>
              rw [hm] at po
              exact fun v F3 H3 g3 r3 l3 => po v F3 H3 ((g.trans g2).trans g3) l3 r3
            | error er =>
              rw [hm] at po
              cases er with
              | stuck => exact po
              | exc C ks es => exact fun c dd F3 H3 g3 hc hx => po c dd F3 H3 ((g.trans g2).trans g3) hc hx
          · rw [if_neg hz] at po; exact po.elim
      · rw [if_neg hC] at po; exact po.elim
    | _ => exact po.elim
theorem fldOk_nil {K : Frag} {mg : Mg} {f : Str} : FldOk K mg [] f := fun C h => by cases h
theorem fldOk_cons {K : Frag} {mg : Mg} {f C : Str} {c : Addr} {cs : List Str} (hm : mg C = some (.ref c)) (cl : Cls K c) (na : NoAttr K c f) (h : FldOk K mg cs f) : FldOk K mg (C :: cs) f := fun D hD d hd => by
  rcases List.mem_cons.mp hD with rfl | hD
  · cases hm.symm.trans hd
    exact ⟨cl, na⟩
  · exact h D hD d hd
/-! ### self.f in __init__ -/
def eFldS (cs : List Str) (i : Nat) (f : Str) : Ev := fun δ => match δ[i]? with
  | some (some (.ins C ks as)) => if C ∈ cs then lft ((ks.zip as).lookup f) else stk
  | _ => stk
theorem de_fldS {cs : List Str} {f x : Str} {i : Nat} (hN : X.N[i]? = some x) (hv : Vis X.env.scope x) (hf : FldOk X.K X.mg cs f) (hd : (x == ("__debug__" : Str)) = false := by decide) (hcd : (x == ("__classdict__" : Str)) = false := by decide) (hb : attributeBase (.Name x p) f X.env (eval (.Name x p) X.env) = eval (.Name x p) X.env := by rfl) :
    DE X W (.Attribute (.Name x p) f pos) (eFldS cs i f) := by
  refine ⟨_, PE.suf (pe_fld (pe_var hN hv hd hcd) hb), fun F0 H0 F H σ δ Q E po => ?_⟩
  unfold eFldS at po
  split at po
  · rename_i C ks as hi
    split at po
    · rename_i hc
      obtain ⟨v, h1, a, c, dx, vs, rfl, hm, h2, h3, h4, h5, h6⟩ := E.sl i _ hi
      obtain ⟨c1, c2⟩ := hf C hc c hm
      cases hk : (ks.zip as).lookup f with
      | none => rw [hk] at po; exact po.elim
      | some d =>
        rw [hk] at po
        obtain ⟨w, h7, r2⟩ := h6.lookup hk
        exact ⟨.ref a, h1, a, c, dx, _, w, rfl, h2, c1, c2, h7, fun lm => po w F H (.refl E.g.s) lm r2⟩
    · exact po.elim
  · exact po.elim
theorem putF_new : ∀ {ks : List Str} {vs : List V} {f : Str} {v : V}, ks.length = vs.length → f ∉ ks → putF f v (ks.zip vs) = (ks ++ [f]).zip (vs ++ [v])
  | [], [], f, v, _, _ => rfl
  | [], _ :: _, _, _, h, _ => by simp at h
  | _ :: _, [], _, _, h, _ => by simp at h
  | k :: ks, u :: vs, f, v, h, hf => by
    rw [List.zip_cons_cons, List.cons_append, List.cons_append, List.zip_cons_cons]
    show (if k = f then (k, v) :: ks.zip vs else (k, u) :: putF f v (ks.zip vs)) = _
    rw [if_neg (fun z : k = f => hf (by rw [z]; exact List.mem_cons_self)), putF_new (by simpa using h) fun z => hf (List.mem_cons_of_mem _ z)]
theorem EnvOk.iput {K : Frag} {mg : Mg} {F0 : Bs} {H0 F H : Hp} {σ : St} {δ : DEnv} (E : EnvOk K mg F0 H0 F H σ δ) {i : Nat} {p c dx : Addr} {C : Str} {ks ks' : List Str} {ds es : List D} {us : List V} (hi : δ[i]? = some (some (.ins C ks ds))) (hp : σ[i]? = some (some (.ref p))) (hm : mg C = some (.ref c)) (hz : ks'.length = us.length) (r : Rs K mg F es us) :
    EnvOk K mg F0 H0 F (upd H p (.ins c dx (ks'.zip us))) σ (δ.set i (some (.ins C ks' es))) := by
  obtain ⟨v, h1, a, c', dx', vs, e, hm', h2, h3, h4, h5, h6⟩ := E.sl i _ hi
  rw [hp] at h1
  cases h1
  cases e
  have hpn := E.pn i _ _ _ hi
  rw [hp] at hpn
  have g : Grow F0.1 H0 F (upd H p (.ins c dx (ks'.zip us))) := ⟨E.g.f, fun b u e => by rw [upd_ne (ne_of_none e h4)]; exact E.g.h _ _ e, fun b u e => by rw [upd_ne (ne_of_none e h3)]; exact E.g.s _ _ e, E.g.n⟩
  have lm : Lim (upd H p (.ins c dx (ks'.zip us))) := E.lim.put (fun xs h => by rcases h with h | h <;> cases h) (fun _ _ h => by cases h)
  refine E.one i (as := [p]) g lm rfl (fun _ => hp) (fun _ _ => rfl) ⟨p, c, dx, us, rfl, hm, upd_same, hz, r, rfl⟩ (by simp) (fun b hb => by rw [List.mem_singleton.mp hb]; exact ⟨h3, h4⟩) (.refl _) (fun fp P j c' hj e => ?_) (fun _ _ _ _ _ => Option.some.inj (Option.some.inj hpn))
  have pi : p ∈ fp i := by
    obtain ⟨w, e1, e2⟩ := P.c i _ hi
    rw [hp] at e1
    cases e1
    exact e2.root rfl rfl
  have ne : ∀ a ∈ fp j, a ≠ p := fun a ha z => P.d i j _ _ (Ne.symm hj) hi e p pi (z ▸ ha)
  refine ⟨fun b o hb hc => ?_, fun b hb => ⟨(P.z j c' e b hb).1, fun z => ne b hb (List.mem_singleton.mp z)⟩⟩
  have : b ≠ p := by
    rcases hc with hc | ⟨xs, rfl⟩
    · exact ne b hc
    · intro z; rw [z, h2] at hb; cases hb
  rw [upd_ne this]; exact hb
def sFldS (cs : List Str) (i : Nat) (f : Str) (a : Ev) : Sv := fun δ => do
  let d ← a δ
  match δ[i]? with
  | some (some (.ins C ks as)) => if C ∈ cs ∧ f ∉ ks ∧ ks.length < 900 then .ok (.nx (δ.set i (some (.ins C (ks ++ [f]) (as ++ [d]))))) else stk
  | _ => stk
theorem ds_fldS {cs : List Str} {f x : Str} {i : Nat} {pos' spos : Pos} (hN : X.N[i]? = some x) (hv : Vis X.env.scope x) (hf : FldOk X.K X.mg cs f) (h : DE X W a ea) (hd : (x == ("__debug__" : Str)) = false := by decide) (hcd : (x == ("__classdict__" : Str)) = false := by decide)
    (hs : swapsWith a (some (.Attribute (.Name x p) f pos')) spos.line X.env = pure false := by rfl) : DS X W (.Assign [.Attribute (.Name x p) f pos'] a spos) (sFldS cs i f ea) := by
  obtain ⟨t, pt, q⟩ := h
  refine ⟨_, PS.suf (ps_fld (pe_var hN hv hd hcd) pt hs), fun F0 H0 F H σ δ Dn E po => q F0 H0 F H σ δ _ E ?_⟩
  unfold sFldS at po
  cases he : ea δ with
  | error er => rw [he] at po; exact PostS.x po E.g
  | ok d =>
    rw [he] at po
    intro y F1 H1 g l r
    simp only [ok_bind] at po
    split at po
    · rename_i C ks as hi
      split at po
      · rename_i hc
        have E1 := E.grow g l
        obtain ⟨v, h1, a, c, dx, vs, rfl, hm, h2, h3, h4, h5, h6⟩ := E1.sl i _ hi
        obtain ⟨c1, c2⟩ := hf C hc.1 c hm
        have hlen : (ks.zip vs).length < 1000 := by
          rw [List.length_zip]
          have := hc.2.2
          omega
        refine ⟨.ref a, h1, a, c, dx, _, rfl, h2, c1, c2, hlen, fun _ => ?_⟩
        rw [putF_new h5 hc.2.1]
        exact po σ F1 _ (E1.iput hi h1 hm (by rw [List.length_append, List.length_append, h5]; rfl) (h6.append (.cons r .nil)))
      · exact po.elim
    · exact po.elim
end
end DL

namespace DL
open PySem PySem.Spec PyProof.Rows L2
/-! ### calls with keywords -/
structure KwB (K : Frag) (fd : FuncData) (ps ks : List Str) (n : Nat) : Prop where
  to : ∀ (s : Shared) (us ws : List Value), us.length = n → ws.length = ks.length → BindsTo s fd ⟨us, ks.zip ws⟩ (ps.zip (us ++ ws))
  len : ps.length = n + ks.length
theorem Fun.kwB {K : Frag} {x qual : Str} {st : Stmt} {f : Addr} {fd : FuncData} {ps ks : List Str} {n : Nat} (F : Fun K x qual st f fd) (hl : ps.length = n + ks.length)
    (h : ∀ (kV doc pm : Value) (an : Option Addr) (cdv ct : Value) (us ws : List Value), us.length = n → ws.length = ks.length → bindArgs (PySem.W.fnOf x qual (defArgs st) (defBody st) (defScope st) .none kV doc pm an cdv ct) ⟨us, ks.zip ws⟩ = pure (ps.zip (us ++ ws))) : KwB K fd ps ks n := by
  obtain ⟨oc, od, kV, doc, pm, an, cdv, ct, osl, rfl, lk, hcd⟩ := F.ex
  exact ⟨fun s us ws l1 l2 => .of_eq (h kV doc pm an cdv ct us ws l1 l2), hl⟩
section
variable {X : Cx} {CX : CXT} {k n : Nat} {f : Addr} {fd : FuncData} {ps ks : List Str} {sp : Sp} {x : Str} {p pos : Pos} {e : Expr} {es : List Expr} {kws : List Keyword} {t tk : TA}
theorem run_fnKS {pins : List (Addr × Obj)} {σ : St} {H : Hp} {s : Shared} {Q : VK} {us ws : List Value} {vs zs : List V} {E : XK} (F : FnOk X.prog X.w X.K X.mg X.base CX k f fd ps sp) (hr : Room k X.A) (hb : KwB X.K fd ps ks n) (hx : PassesAt CX X σ E)
    (I : Inv X pins σ H s) (r : Vals vs us) (rz : Vals zs ws) (l1 : vs.length = n) (l2 : zs.length = ks.length) (h : sp (vs ++ zs) H Q E) : wpAny (model X.prog X.w) X.A (call (.ref f) us (ks.zip ws)) (EP X pins σ Q) X.xe s := by
  have r2 := r.append rz
  refine wpAny_call (codeAny_mono (F.run X.A X.stack s H ⟨us, ks.zip ws⟩ (us ++ ws) (vs ++ zs) Q E hr I.env0 (hb.to s us ws (by rw [← r.length, l1]) (by rw [← rz.length, l2])) r2 h) fun r s' hq => ?_)
  cases r with
  | error e => exact hx pins H s e s' I hq
  | ok fl =>
    cases fl with
    | ret u => exact I.after hq
    | next => exact False.elim hq
    | brk => exact False.elim hq
    | cont => exact False.elim hq
def tCallKS (n m : Nat) (sp : Sp) (E : St → XK) (t tk : TA) : TE := fun σ H Q => t σ H fun vs H1 => tk σ H1 fun zs H2 => vs.length = n ∧ zs.length = m ∧ sp (vs ++ zs) H2 Q (E σ)
theorem pe_callKS {E : St → XK} (F : FnOk X.prog X.w X.K X.mg X.base CX k f fd ps sp) (hr : Room k X.A) (hg : Gl X x) (hm : X.mg x = some (.ref f)) (hk : PySem.W.keepIn X.K (.ref f) = true) (hb : KwB X.K fd ps ks n) (hx : ∀ σ, PassesAt CX X σ (E σ))
    (ha : PA X (e :: es) t) (hkw : PK X kws tk) (hall : (backToKw pos (keywordEach kws X.env)).all (·.1.isSome) = true := by rfl) (hks : (backToKw pos (keywordEach kws X.env)).filterMap (·.1) = ks := by rfl)
    (hdb : (x == ("__debug__" : Str)) = false := by decide) (he : starEach (e :: es) X.env = (false, eval e X.env) :: starEach es X.env := by rfl)
    (hpl : ((backTo pos (starEach (e :: es) X.env)).any (·.1) || (backToKw pos (keywordEach kws X.env)).any (·.1.isNone)) = false := by rfl) :
    PE X (.Call (.Name x p) (e :: es) kws pos) (tCallKS n ks.length sp E t tk) := by
  refine ⟨fun pins s σ H Q I h => ?_⟩
  refine wpAny_Call_Name_kw (ld_glob I hg hm ?_ hdb)
  refine PySem.W.callWith_KW (h₀ := X.base) I.ok.mod.kin hk hall (thn (ha.run pos pins s σ H _ I h) fun us s1 ⟨vs, H1, I1, r, q⟩ => ?_) hpl he
  refine thn (hkw.run pos pins s1 σ H1 _ I1 q) fun ws s2 ⟨zs, H2, I2, rz, l1, l2, q2⟩ => ⟨I2.kIn, ?_⟩
  rw [hks]
  exact run_fnKS F hr hb (hx σ) I2 r rz l1 l2 q2
end
def DK (X : Cx) (W : WX) (kws : List Keyword) (ev : EvA) : Prop := ∃ t : TA, PK X kws t ∧ ∀ F0 H0 F H σ δ (Q : List V → Hp → Prop), EnvOk X.K X.mg F0 H0 F H σ δ → PostA X.K X.mg W F H σ Q (ev δ) → t σ H Q
section
variable {X : Cx} {W : WX} {e a b : Expr} {ev ea eb : Ev} {pos p p2 pos2 kpos : Pos} {es : List Expr} {er ek : EvA} {kws : List Keyword} {nm : Option Str}
theorem dk_nil : DK X W [] eNil := ⟨_, pk_nil, fun F0 H0 F H σ δ Q E po => by
  exact po [] F H (.refl E.g.s) E.lim .nil⟩
theorem dk_cons (ha : DE X W a ea) (hr : DK X W kws er) : DK X W (⟨nm, a, kpos⟩ :: kws) (eCons ea er) := by
  obtain ⟨ta, pa, qa⟩ := ha
  obtain ⟨tr, pr, qr⟩ := hr
  refine ⟨_, pk_cons (PE.suf pa) pr, fun F0 H0 F H σ δ Q E po => ?_⟩
  unfold eCons at po
  refine qa F0 H0 F H σ δ _ E ?_
  cases h : ea δ with
  | error e => rw [h] at po; exact po
  | ok d =>
    rw [h] at po
    intro v F1 H1 g1 l1 r1 _
    refine qr F0 H0 F1 H1 σ δ _ (E.grow g1 l1) ?_
    cases h2 : er δ with
    | error e => rw [h2] at po; exact PostX.grow g1 po
    | ok ds =>
      rw [h2] at po
      exact fun vs F2 H2 g2 l2 r2 => po (v :: vs) F2 H2 (g1.trans g2) l2 (.cons (R.mono g2.f _ _ r1) r2)
/-- f(.., k = ..): the keyword-only parameters by their order -/
def eCallK (n l : Nat) (m : Mir) (as ks : EvA) : Ev := fun δ => do
  let ds ← as δ
  let es ← ks δ
  if ds.length = n ∧ es.length = l then m (ds ++ es) else stk
theorem de_callK {k n : Nat} {f : Addr} {fd : FuncData} {ps ks : List Str} {m : Mir} {x : Str} (G : FnD X.prog X.w X.K X.mg X.base k f fd ps m) (hr : Room k X.A) (tk : Takes X W) (hg : Gl X x) (hm : X.mg x = some (.ref f)) (hk : PySem.W.keepIn X.K (.ref f) = true)
    (hb : KwB X.K fd ps ks n) (ha : DA X W (a :: es) er) (hkw : DK X W kws ek) (hall : (backToKw pos (keywordEach kws X.env)).all (·.1.isSome) = true := by rfl) (hks : (backToKw pos (keywordEach kws X.env)).filterMap (·.1) = ks := by rfl)
    (hdb : (x == ("__debug__" : Str)) = false := by decide) (he : starEach (a :: es) X.env = (false, eval a X.env) :: starEach es X.env := by rfl)
    (hpl : ((backTo pos (starEach (a :: es) X.env)).any (·.1) || (backToKw pos (keywordEach kws X.env)).any (·.1.isNone)) = false := by rfl) :
    DE X W (.Call (.Name x p) (a :: es) kws pos) (eCallK n ks.length m er ek) := by
  obtain ⟨t, pt, q⟩ := ha
  obtain ⟨t2, pt2, q2⟩ := hkw
  refine ⟨_, PE.suf (pe_callKS (E := WE W) G hr hg hm hk hb (passAt tk) pt pt2 hall hks hdb he hpl), fun F0 H0 F H σ δ Q E po => q F0 H0 F H σ δ _ E ?_⟩
  unfold eCallK at po
  cases h : er δ with
  | error er => rw [h] at po; exact po
  | ok ds =>
    rw [h] at po
    intro vs F1 H1 g l r
    simp only [ok_bind] at po
    refine q2 F0 H0 F1 H1 σ δ _ (E.grow g l) ?_
    cases h2 : ek δ with
    | error er => rw [h2] at po; exact PostX.grow g po
    | ok ws =>
      rw [h2] at po
      intro zs F2 H2 g2 l2 r2
      simp only [ok_bind] at po
      by_cases hz : ds.length = n ∧ ws.length = ks.length
      · rw [if_pos hz] at po
        have gg := g.trans g2
        have rr := (r.mono g2.f).append r2
        refine ⟨by rw [← r.length]; exact hz.1, by rw [← r2.length]; exact hz.2, ds ++ ws, F2, by rw [List.length_append, hz.1, hz.2, hb.len], g2.s, l2, rr, ?_⟩
        cases hm : m (ds ++ ws) with
        | ok d =>
          rw [hm] at po
          exact fun v F3 H3 g3 r3 l3 => po v F3 H3 (gg.trans g3) l3 r3
        | error er =>
          rw [hm] at po
          cases er with
          | stuck => exact po
          | exc C ks es => exact fun c dd F3 H3 g3 hc hx => po c dd F3 H3 (gg.trans g3) hc hx
      · rw [if_neg hz] at po; exact po.elim
/-! ### tuple(range(n)) -/
theorem de_tupRg (hc : X.calm = true) (hg : Gl X "tuple") (hm : X.mg "tuple" = none) (hg2 : Gl X "range") (hm2 : X.mg "range" = none) (ha : DE X W a ea) (he : starEach [a] X.env = (false, eval a X.env) :: starEach [] X.env := by rfl)
    (he2 : starEach [.Call (.Name "range" p2) [a] [] pos2] X.env = (false, eval (.Call (.Name "range" p2) [a] [] pos2) X.env) :: starEach [] X.env := by rfl) : DE X W (.Call (.Name "tuple" p) [.Call (.Name "range" p2) [a] [] pos2] [] pos) (e1 oTuple (eOf (eRng1 ea))) := by
  obtain ⟨ta, pa, qa⟩ := ha
  refine ⟨_, PE.suf (pe_tupRg hc hg hm (prg_1 hg2 hm2 pa he) he2), fun F0 H0 F H σ δ Q E po => qa F0 H0 F H σ δ _ E ?_⟩
  unfold e1 eOf eRng1 at po
  cases h : ea δ with
  | error er => rw [h] at po; exact po
  | ok d =>
    rw [h] at po
    intro v F1 H1 g l r
    cases d with
    | int n =>
      simp only [ok_bind, rng] at po
      split at po
      · rename_i hz
        refine ⟨n, r.int_inv, ⟨hz.1, hz.2.1, hz.2.2.1, hz.2.2.2.1, by have := hz.2.2.2.2; rw [sizeLine_eq] at this; exact this⟩, fun q hq l' => ?_⟩
        have gn := Grow.new g.s (o := .tup (rgV 0 n)) hq
        exact po (.ref q) _ _ (g.trans gn) l' (.tup (.inl (.inl upd_same)) (rgV_ir 0 n _ _ _))
      · exact po.elim
    | _ => exact po.elim
/-! ### isinstance of a class of the program -/
def oIsC (cs : List Str) (T : Str) : D → Option D
  | .obj C _ _ => if C ∈ cs then some (.bl (decide (C = T))) else none
  | d => (tyName d).map fun _ => .bl false
/-- what isinstance(x, T) asks of the classes cs, T among the program's -/
structure IsCOk (K : Frag) (mg : Mg) (cs : List Str) (T : Str) (cT : Addr) : Prop where
  g : mg T = some (.ref cT)
  o : ∀ C ∈ cs, ∀ c, mg C = some (.ref c) → Cls K c ∧ PySem.W.findIn K (.ref c) "__class__" = some (some (.builtin "object.__class__")) ∧ PySem.W.specialIn K (.builtin "object.__class__") "__get__" = some (some (.builtin "getset_descriptor.__get__")) ∧
    PySem.W.takesIn K (.builtin "object.__class__") = some true ∧ PySem.W.mroIn K c (.type "object") = some true ∧ PySem.W.kitOne K (.ref c) (.ref cT) = some (decide (C = T))
  b : ∀ n ∈ tyNames, PySem.W.kitOne K (.type n) (.ref cT) = some false
theorem de_isC {cs : List Str} {T : Str} {cT : Addr} (hg : Gl X "isinstance") (hm : X.mg "isinstance" = none) (hgT : Gl X T) (c : IsCOk X.K X.mg cs T cT) (ha : DB X W a ea) (hd : (T == ("__debug__" : Str)) = false := by decide)
    (he : starEach [a, .Name T p2] X.env = (false, eval a X.env) :: starEach [.Name T p2] X.env := by rfl) (he2 : starEach [.Name T p2] X.env = (false, eval (.Name T p2) X.env) :: starEach [] X.env := by rfl) :
    DE X W (.Call (.Name "isinstance" p) [a, .Name T p2] [] pos) (e1 (oIsC cs T) ea) := by
  obtain ⟨ta, pa, qa⟩ := ha
  refine ⟨_, PE.suf (pe_callB call_isi hg hm (by decide +kernel) (pa_cons pa (pa_cons (pe_glob hgT c.g (show RelV (.ref cT) (.ref cT) from rfl) hd) pa_nil he2) he) (by decide) (by decide) he (by rw [he2]; rfl)), fun F0 H0 F H σ δ Q E po => qa F0 H0 F H σ δ _ E ?_⟩
  unfold e1 at po
  cases h : ea δ with
  | error er => rw [h] at po; exact po
  | ok d =>
    rw [h] at po
    intro v F1 H1 g l r
    simp only [ok_bind] at po
    have base : ∀ n, tyName d = some n → oIsC cs T d = some (.bl false) → rIsi X.K [v, .ref cT] H1 (fun v H' => Lim H' → Q v H') := fun n ht ho => by
      rw [ho] at po
      obtain ⟨t1, t2⟩ := tyX_of (r.inH g.s) ht
      exact ⟨v, .ref cT, .type n, .ref cT, false, rfl, .own cT, t1, c.b n t2, fun l2 => po (.bl false) F1 H1 g l2 .bl⟩
    cases d with
    | obj C ks ds =>
      have po2 : PostE X.K X.mg W F H σ Q (lft (if C ∈ cs then some (.bl (decide (C = T))) else none)) := po
      by_cases hC : C ∈ cs
      · rw [if_pos hC] at po2
        rcases r with r | ⟨ds', _, _, e, _⟩
        · obtain ⟨a1, c1, dx, vs, rfl, hm1, h1, hl, rr⟩ := r.obj_inv
          obtain ⟨k1, k2, k3, k4, k5, k6⟩ := c.o C hC c1 hm1
          exact ⟨.ref a1, .ref cT, .ref c1, .ref cT, _, rfl, .own cT, .base (.ins (g.s _ _ h1) k1 k2 k3 k4 k5), k6, fun l2 => po2 (.bl (decide (C = T))) F1 H1 g l2 .bl⟩
        · cases e
      · rw [if_neg hC] at po2; exact po2.elim
    | non => exact base _ rfl rfl
    | bl _ => exact base _ rfl rfl
    | int _ => exact base _ rfl rfl
    | str _ => exact base _ rfl rfl
    | tup _ => exact base _ rfl rfl
    | lst _ => exact base _ rfl rfl
    | scr _ => exact base _ rfl rfl
end
theorem isC_nil {K : Frag} {mg : Mg} {T : Str} {cT : Addr} : ∀ C ∈ ([] : List Str), ∀ c, mg C = some (.ref c) → Cls K c ∧ PySem.W.findIn K (.ref c) "__class__" = some (some (.builtin "object.__class__")) ∧ PySem.W.specialIn K (.builtin "object.__class__") "__get__" = some (some (.builtin "getset_descriptor.__get__")) ∧
    PySem.W.takesIn K (.builtin "object.__class__") = some true ∧ PySem.W.mroIn K c (.type "object") = some true ∧ PySem.W.kitOne K (.ref c) (.ref cT) = some (decide (C = T)) := fun C h => by cases h
theorem isC_cons {K : Frag} {mg : Mg} {T C : Str} {cT c : Addr} {cs : List Str} (hm : mg C = some (.ref c)) (cl : Cls K c) (ha : PySem.W.findIn K (.ref c) "__class__" = some (some (.builtin "object.__class__"))) (hn : PySem.W.specialIn K (.builtin "object.__class__") "__get__" = some (some (.builtin "getset_descriptor.__get__")))
    (ht : PySem.W.takesIn K (.builtin "object.__class__") = some true) (ho : PySem.W.mroIn K c (.type "object") = some true) (hk : PySem.W.kitOne K (.ref c) (.ref cT) = some (decide (C = T)))
    (h : ∀ D ∈ cs, ∀ c, mg D = some (.ref c) → Cls K c ∧ PySem.W.findIn K (.ref c) "__class__" = some (some (.builtin "object.__class__")) ∧ PySem.W.specialIn K (.builtin "object.__class__") "__get__" = some (some (.builtin "getset_descriptor.__get__")) ∧
      PySem.W.takesIn K (.builtin "object.__class__") = some true ∧ PySem.W.mroIn K c (.type "object") = some true ∧ PySem.W.kitOne K (.ref c) (.ref cT) = some (decide (D = T))) :
    ∀ D ∈ C :: cs, ∀ c, mg D = some (.ref c) → Cls K c ∧ PySem.W.findIn K (.ref c) "__class__" = some (some (.builtin "object.__class__")) ∧ PySem.W.specialIn K (.builtin "object.__class__") "__get__" = some (some (.builtin "getset_descriptor.__get__")) ∧
      PySem.W.takesIn K (.builtin "object.__class__") = some true ∧ PySem.W.mroIn K c (.type "object") = some true ∧ PySem.W.kitOne K (.ref c) (.ref cT) = some (decide (D = T)) := fun D hD d hd => by
  rcases List.mem_cons.mp hD with rfl | hD
  · cases hm.symm.trans hd
    exact ⟨cl, ha, hn, ht, ho, hk⟩
  · exact h D hD d hd
theorem kit_no {K : Frag} {c : Value} {t : Addr} (iP : PySem.W.isClsIn K t = true) (tP : PySem.W.typeIn K (.ref t) = some (.type "type")) (ne : (c == Value.ref t) = false) (s : PySem.W.subIn K c (.ref t) = some false) : PySem.W.kitOne K c (.ref t) = some false := by
  have iP : (PySem.W.clsIn K t).isSome = true := iP
  unfold PySem.W.kitOne
  rw [ne, if_neg (by simp)]
  show (if ((PySem.W.clsIn K t).isSome && PySem.W.typeIn K (.ref t) == some (.type "type")) = true then PySem.W.subIn K c (.ref t) else none) = some false
  rw [if_pos (by rw [iP, tP]; rfl), s]
theorem kit_self {K : Frag} {t : Addr} : PySem.W.kitOne K (.ref t) (.ref t) = some true := by
  unfold PySem.W.kitOne
  rw [if_pos (by simp)]
theorem ref_ne {a b : Addr} (h : (a == b) = false) : (Value.ref a == Value.ref b) = false := by
  have : a ≠ b := by simpa using h
  simp [this]
theorem ty_all {K : Frag} {c : Value} (h1 : PySem.W.kitOne K (.type "NoneType") c = some false) (h2 : PySem.W.kitOne K (.type "bool") c = some false) (h3 : PySem.W.kitOne K (.type "int") c = some false) (h4 : PySem.W.kitOne K (.type "str") c = some false) (h5 : PySem.W.kitOne K (.type "tuple") c = some false) (h6 : PySem.W.kitOne K (.type "list") c = some false) :
    ∀ n ∈ tyNames, PySem.W.kitOne K (.type n) c = some false := fun n hn => by
  unfold tyNames at hn
  simp only [List.mem_cons, List.not_mem_nil, or_false] at hn
  rcases hn with rfl | rfl | rfl | rfl | rfl | rfl <;> assumption
/-! ### in: among True and False -/
def allBl (ds : List D) : Bool := ds.all fun d => match d with
  | .bl _ => true
  | _ => false
def inB (x c : D) : Option Bool := match x, c with
  | .bl b, .lst ds => if allBl ds then some (decide (D.bl b ∈ ds)) else none
  | x, c => inD x c
def oInB (x c : D) : Option D := (inB x c).map .bl
def oNotInB (x c : D) : Option D := (inB x c).map fun k => .bl (!k)
theorem bls_of {K : Frag} {mg : Mg} {F : Hp} (b : Bool) : ∀ {ds : List D} {vs : List V}, allBl ds = true → Rs K mg F ds vs → vs.all flatV = true ∧ inV (.bl b) vs = decide (D.bl b ∈ ds)
  | [], vs, _, r => by rw [r.nil_inv]; exact ⟨rfl, by simp [inV]⟩
  | d :: ds, vs, h, r => by
    obtain ⟨v, t, rfl, hv, ht⟩ := r.cons_inv
    unfold allBl at h
    rw [List.all_cons, Bool.and_eq_true] at h
    obtain ⟨h1, h2⟩ := bls_of b h.2 ht
    cases d with
    | bl c =>
      rw [hv.bl_inv]
      refine ⟨by rw [List.all_cons, h1]; rfl, ?_⟩
      unfold inV at h2 ⊢
      rw [List.any_cons, h2]
      cases b <;> cases c <;> simp [eqV]
    | _ => exact absurd h.1 (by simp)
theorem inB_cases {K : Frag} {mg : Mg} {F H : Hp} {a b : D} {x y : V} {k : Bool} (s : Same F H) (ra : RB K mg F H a x) (rb : RB K mg F H b y) (h : inB a b = some k) :
    (∃ d ds, Dp K H x d ∧ Dp K H y (.list ds) ∧ SeqAt.shaped d = true ∧ SeqAt.shaped (.list ds) = true ∧ (ds.any fun z => PyData.eqv z d) = k) ∨
    (∃ p xs, y = .ref p ∧ (SqL K H p xs ∨ SqT K H p xs) ∧ flatV x = true ∧ xs.all flatV = true ∧ inV x xs = k) := by
  unfold inB at h
  split at h
  · rename_i c ds
    split at h
    · rename_i hz
      cases h
      obtain ⟨p, vs, rfl, h1, r1⟩ := rb.lst_inv s
      obtain ⟨f1, f2⟩ := bls_of c hz (r1.mono s)
      have rx := ra.inH s
      rcases ra with ra | ⟨_, _, _, e, _⟩
      · rw [ra.bl_inv]
        exact .inr ⟨p, vs, rfl, .inl (.of h1), rfl, f1, f2⟩
      · cases e
    · cases h
  · exact in_cases s ra rb h
section
variable {X : Cx}
theorem od_inB : OpD X.K X.mg (rInX X.K) oInB := by
  intro F H x y a b Q s l ra rb po
  unfold oInB at po
  cases h : inB a b with
  | none => rw [h] at po; exact po.elim
  | some k =>
    rw [h] at po
    rcases inB_cases s ra rb h with ⟨d, ds, h1, h2, h3, h4, h5⟩ | ⟨p, xs, h1, h2, h3, h4, h5⟩
    · exact .inl ⟨d, ds, h1, h2, h3, h4, by rw [h5]; exact PostO.fl (s := s) po .bl⟩
    · exact .inr ⟨p, xs, h1, h2, h3, h4, by rw [if_neg Bool.false_ne_true, h5]; exact PostO.fl (s := s) po .bl⟩
theorem od_notinB : OpD X.K X.mg (rNotInX X.K) oNotInB := by
  intro F H x y a b Q s l ra rb po
  unfold oNotInB at po
  cases h : inB a b with
  | none => rw [h] at po; exact po.elim
  | some k =>
    rw [h] at po
    rcases inB_cases s ra rb h with ⟨d, ds, h1, h2, h3, h4, h5⟩ | ⟨p, xs, h1, h2, h3, h4, h5⟩
    · exact .inl ⟨d, ds, h1, h2, h3, h4, by rw [h5]; exact PostO.fl (s := s) po .bl⟩
    · exact .inr ⟨p, xs, h1, h2, h3, h4, by rw [if_pos rfl, h5]; exact PostO.fl (s := s) po .bl⟩
end
end DL

namespace DL
open PySem PySem.Spec PyProof.Rows L2
/-! ### defs that give own lists away -/
def PostCX (K : Frag) (mg : Mg) (F H : Hp) (Q : VK) (E : XK) : M D → Prop
  | .ok d => ∀ v as F' H', Grow F H F' H' → RT K mg F' H' d v as → as.Nodup → (∀ a ∈ as, F' a = none ∧ H a = none) → Q v H'
  | .error .stuck => False
  | .error (.exc C ks ds) => ∀ c dd F' H', Grow F H F' H' → mg C = some (.ref c) → ExRep K mg F' H' ks ds dd → E (.ref c) dd H'
def spX (K : Frag) (mg : Mg) (n : Nat) (m : Mir) : Sp := fun vs H Q E => ∃ ds F, ds.length = n ∧ Same F H ∧ Lim H ∧ Rs K mg F ds vs ∧ PostCX K mg F H Q E (m ds)
abbrev FnX (P : Program) (w : World) (K : Frag) (mg : Mg) (base : Heap) (k : Nat) (f : Addr) (fd : FuncData) (ps : List Str) (m : Mir) : Prop :=
  FnOk P w K mg base (L2.CX P w) k f fd ps (spX K mg ps.length m)
def runX (sv : Sv) (δ : DEnv) : M D := match sv δ with
  | .ok (.nx _) => .ok .non
  | .ok (.rt d) => .ok d
  | .ok (.rx d) => .ok d
  | .ok _ => stk
  | .error e => .error e
def mirX (n p : Nat) (sv : Sv) : Mir := fun ds => if ds.length = p then runX sv (startD n ds) else stk
section
variable {P : Program} {w : World} {K : Frag} {mg : Mg} {base : Heap}
theorem fn_x {x qual : Str} {st : Stmt} {f : Addr} {fd : FuncData} {N ps : List Str} {k : Nat} {sv : Sv} (F : Fun K x qual st f fd) (S : FnScope N ps (defScope st))
    (body : ∀ (cdv : Value) (A : Around) (outer : List Env) (s : Shared) (H : Hp) (E : XK), Room k (A.deeper (envOfC qual (defScope st) s.heap.objs.size f cdv)) →
      DSs (cxOf (L2.CX P w) P w K mg base N qual (defScope st) f cdv A outer s H E) (WXE E) (defBody st) sv) : FnX P w K mg base (k + 1) f fd ps (mirX N.length ps.length sv) := by
  refine F.okX S (fun vs H Q E h => ?_) (fun cdv A outer s H vs Q E hr h => ?_)
  · obtain ⟨ds, F', hl, _, _, r, _⟩ := h
    rw [← r.length, hl]
  · obtain ⟨ds, F', hl, hs, lm, r, po⟩ := h
    obtain ⟨t, pt, q⟩ := body cdv A outer s H E hr
    refine ⟨t, pt, q (F', 0) H F' H _ _ _ (start_ok hs lm r 0) ?_⟩
    unfold mirX at po
    rw [if_pos hl] at po
    unfold runX at po
    cases h : sv (startD N.length ds) with
    | error er =>
      rw [h] at po
      cases er with
      | stuck => exact po
      | exc C ks es => exact fun c dd σ F2 H2 g hm hx => po c dd F2 H2 g hm hx
    | ok fl =>
      rw [h] at po
      cases fl with
      | nx δ => exact fun σ F2 H2 E2 => po .non [] F2 H2 E2.g (.of .non) .nil (fun a h => by cases h)
      | rt d => exact fun v F2 H2 g _ r => po v [] F2 H2 g (.of r) .nil (fun a h => by cases h)
      | rx d => exact fun v as F2 H2 g _ r n z => po v as F2 H2 g r n z
      | bk δ => exact po.elim
      | ct δ => exact po.elim
end
section
variable {X : Cx} {W : WX} {e a b : Expr} {ev ea eb : Ev} {pos p p2 pos2 : Pos} {es : List Expr} {er : EvA}
/-- return (x, e, ..), x an own list -/
def sRetX (i : Nat) (as : EvA) : Sv := fun δ => do
  let ds0 ← lft (ownAt i δ)
  let ds ← as δ
  if ds.length + 1 ≤ sizeLine then .ok (.rx (.tup (mtl ds0 :: ds))) else stk
theorem ds_retX {i : Nat} {x : Str} {x1 : Nat} (hN : X.N[i]? = some x) (hv : Vis X.env.scope x) (h : DA X W es er) (hd : (x == ("__debug__" : Str)) = false := by decide) (hcd : (x == ("__classdict__" : Str)) = false := by decide)
    (he : starEach (.Name x p :: es) X.env = (false, eval (.Name x p) X.env) :: starEach es X.env := by rfl) : DS X W (.Return (some (.Tuple (.Name x p :: es) x1 pos2)) pos) (sRetX i er) := by
  obtain ⟨t, pt, q⟩ := h
  refine ⟨_, ps_ret (PE.suf (pe_tup (pa_cons (pe_var hN hv hd hcd) pt he))), fun F0 H0 F H σ δ Dn E po => ?_⟩
  unfold sRetX at po
  cases ho : ownAt i δ with
  | none => rw [ho] at po; exact po.elim
  | some ds0 =>
    rw [ho] at po
    obtain ⟨v, h1, a, vs0, rfl, h2, _, _, _⟩ := E.sl i _ (ownAt_eq ho)
    refine ⟨.ref a, h1, q F0 H0 F H σ δ _ E ?_⟩
    simp only [lft_some, ok_bind] at po
    cases h : er δ with
    | error e => rw [h] at po; exact PostS.x po E.g
    | ok ds =>
      rw [h] at po
      intro vs F1 H1 g1 l1 r1
      simp only [ok_bind] at po
      by_cases hz : ds.length + 1 ≤ sizeLine
      · rw [if_pos hz] at po
        refine ⟨by rw [List.length_cons, ← r1.length]; exact hz, fun p hp l => ?_⟩
        obtain ⟨v', k1, a', vs', e', k2, k3, k4, k5⟩ := (E.grow g1 l1).sl i _ (ownAt_eq ho)
        rw [h1] at k1
        cases k1
        cases e'
        have np : a ≠ p := fun z => by rw [z, hp] at k2; cases k2
        have sm : Same H1 (upd H1 p (.tup (.ref a :: vs))) := fun b u e => by rw [upd_ne (ne_of_none e hp)]; exact e
        have fp : F1 p = none := by
          cases q : F1 p with
          | none => rfl
          | some u => rw [g1.s _ _ q] at hp; cases hp
        have g2 : Grow F1 H1 F1 (upd H1 p (.tup (.ref a :: vs))) := ⟨.refl _, sm, g1.s.trans sm, fun _ _ h => h⟩
        refine po (.ref p) [a] F1 _ (E.g.trans (g1.trans g2)) l ?_ (by simp) (fun b hb => by rw [List.mem_singleton.mp hb]; exact ⟨k3, k4⟩)
        unfold RT
        refine .inr ⟨by simp [hasMs, hasM], p, .ref a :: vs, rfl, upd_same, ?_⟩
        unfold RTs
        exact ⟨.ref a, vs, [a], [], rfl, RT.mtl (sm _ _ k2) (RTs.of k5), RTs.of r1, by simp⟩
      · rw [if_neg hz] at po; exact po.elim
end
end DL
namespace DL
open PySem PySem.Spec PyProof.Rows L2
theorem RTs.length {K : Frag} {mg : Mg} {F H : Hp} : ∀ {ds : List D} {vs : List V} {as : List Addr}, RTs K mg F H ds vs as → vs.length = ds.length
  | [], vs, as, h => by unfold RTs at h; rw [h.1]; rfl
  | d :: ds, vs, as, h => by
    unfold RTs at h
    obtain ⟨v, r, a1, a2, rfl, _, ht, _⟩ := h
    rw [List.length_cons, List.length_cons, RTs.length ht]
/-! ### expressions whose value holds new lists of one's own -/
def PostR (K : Frag) (mg : Mg) (W : WX) (F H : Hp) (σ : St) (Q : VK) : M D → Prop
  | .ok d => ∀ v as F' H', Grow F H F' H' → Lim H' → RT K mg F' H' d v as → as.Nodup → (∀ a ∈ as, F' a = none ∧ H a = none) → Q v H'
  | .error e => PostX K mg W F H σ e
def DX (X : Cx) (W : WX) (e : Expr) (ev : Ev) : Prop := ∃ t : TE, PE X e t ∧ ∀ F0 H0 F H σ δ (Q : VK), EnvOk X.K X.mg F0 H0 F H σ δ → PostR X.K X.mg W F H σ Q (ev δ) → t σ H Q
section
variable {K : Frag} {mg : Mg} {F0 : Bs} {H0 F H F' H' : Hp} {σ : St} {δ : DEnv}
theorem Fps.grow {fp : Nat → List Addr} (P : Fps K mg H0 F H σ δ fp) (g : Grow F H F' H') : Fps K mg H0 F' H' σ δ fp := by
  refine ⟨fun i c e => ?_, P.n, fun i c e a ha => ?_, P.d⟩
  · obtain ⟨v, h1, h2⟩ := P.c i c e
    exact ⟨v, h1, h2.mono g.f fun a o h _ => g.h _ _ h⟩
  · obtain ⟨v, h1, h2⟩ := P.c i c e
    obtain ⟨o, h3, _⟩ := h2.live a ha
    exact ⟨g.n a (by rw [h3]; simp) (P.z i c e a ha).1, (P.z i c e a ha).2⟩
/-- these addresses are nobody's -/
def Dis (δ : DEnv) (fp : Nat → List Addr) (as : List Addr) : Prop := ∀ (j : Nat) (c : Cell), δ[j]? = some (some c) → ∀ a ∈ fp j, a ∉ as
theorem Dis.new {fp : Nat → List Addr} {as : List Addr} (P : Fps K mg H0 F H σ δ fp) (n : ∀ a ∈ as, H a = none) : Dis δ fp as := fun j c e a ha hb => by
  obtain ⟨v, h1, h2⟩ := P.c j c e
  obtain ⟨o, h3, _⟩ := h2.live a ha
  rw [n a hb] at h3; cases h3
theorem EnvOk.setX (E : EnvOk K mg F0 H0 F H σ δ) {fp : Nat → List Addr} (P : Fps K mg H0 F H σ δ fp) (i : Nat) {c : Cell} {v : V} {as : List Addr} (hc : CellF K mg F H v c as) (hn : as.Nodup) (hz : ∀ a ∈ as, F a = none ∧ H0 a = none) (dis : Dis δ fp as) (ni : ∀ C ks ds, c ≠ .ins C ks ds) :
    EnvOk K mg F0 H0 F H (σ.set i (some v)) (δ.set i (some c)) ∧ Fps K mg H0 F H (σ.set i (some v)) (δ.set i (some c)) (fun j => if j = i then as else fp j) := by
  have key : ∀ (j : Nat) (c' : Cell), (δ.set i (some c))[j]? = some (some c') → (j = i ∧ c' = c ∧ i < δ.length) ∨ (j ≠ i ∧ δ[j]? = some (some c')) := fun j c' e => by
    by_cases hj : j = i
    · subst hj
      by_cases hl : j < δ.length
      · rw [List.getElem?_set_self hl] at e
        cases e
        exact .inl ⟨rfl, rfl, hl⟩
      · rw [List.getElem?_eq_none (by rw [List.length_set]; omega)] at e; cases e
    · rw [List.getElem?_set_ne (Ne.symm hj)] at e
      exact .inr ⟨hj, e⟩
  have hs : ∀ j, j ≠ i → (σ.set i (some v))[j]? = σ[j]? := fun j hj => by rw [List.getElem?_set_ne (Ne.symm hj)]
  have hi : i < δ.length → (σ.set i (some v))[i]? = some (some v) := fun hl => by rw [List.getElem?_set_self (by rw [← E.len]; exact hl)]
  have N : Fps K mg H0 F H (σ.set i (some v)) (δ.set i (some c)) (fun j => if j = i then as else fp j) := by
    refine ⟨fun j c' e => ?_, fun j c' e => ?_, fun j c' e => ?_, fun j k c1 c2 hjk e1 e2 a ha => ?_⟩
    · rcases key j c' e with ⟨rfl, rfl, hl⟩ | ⟨hj, e⟩
      · exact ⟨v, hi hl, by rw [if_pos rfl]; exact hc⟩
      · obtain ⟨w, h1, h2⟩ := P.c j c' e
        exact ⟨w, by rw [hs j hj]; exact h1, by rw [if_neg hj]; exact h2⟩
    · rcases key j c' e with ⟨rfl, rfl, hl⟩ | ⟨hj, e⟩
      · rw [if_pos rfl]; exact hn
      · rw [if_neg hj]; exact P.n j c' e
    · rcases key j c' e with ⟨rfl, rfl, hl⟩ | ⟨hj, e⟩
      · rw [if_pos rfl]; exact hz
      · rw [if_neg hj]; exact P.z j c' e
    · rcases key j c1 e1 with ⟨hj, _, _⟩ | ⟨hj, e1⟩
      · rcases key k c2 e2 with ⟨hk, _, _⟩ | ⟨hk, e2⟩
        · exact absurd (hj.trans hk.symm) hjk
        · rw [if_pos hj] at ha
          rw [if_neg hk]
          exact fun z => dis k c2 e2 a z ha
      · rw [if_neg hj] at ha
        rcases key k c2 e2 with ⟨hk, _, _⟩ | ⟨hk, e2⟩
        · rw [if_pos hk]
          exact dis j c1 e1 a ha
        · rw [if_neg hk]
          exact P.d j k c1 c2 hjk e1 e2 a ha
  refine ⟨⟨E.g, E.lim, by rw [List.length_set, List.length_set, E.len], ⟨_, N⟩, fun j C ks ds e => ?_⟩, N⟩
  rcases key j _ e with ⟨rfl, h, hl⟩ | ⟨hj, e⟩
  · exact absurd h.symm (ni C ks ds)
  · rw [hs j hj]; exact E.pn _ _ _ _ e
/-- what a name holds that takes such data -/
def cellX (d : D) : Option Cell := match d with
  | .obj "" [] (.non :: ds) => some (if hasMs ds then .tre ds else .own ds)
  | d => if hasM d then none else some (.val d)
theorem cellX_cases {d : D} {c : Cell} (h : cellX d = some c) : (∃ ds, d = mtl ds ∧ c = if hasMs ds then .tre ds else .own ds) ∨ (hasM d = false ∧ c = .val d) := by
  unfold cellX at h
  split at h
  · rename_i ds
    exact .inl ⟨ds, rfl, (Option.some.inj h).symm⟩
  · split at h
    · cases h
    · rename_i hm
      exact .inr ⟨by simpa using hm, (Option.some.inj h).symm⟩
theorem cellX_ok {d : D} {c : Cell} {v : V} {as : List Addr} (h : cellX d = some c) (r : RT K mg F H d v as) : CellF K mg F H v c as ∧ ∀ C ks ds, c ≠ .ins C ks ds := by
  rcases cellX_cases h with ⟨ds, rfl, rfl⟩ | ⟨hm, rfl⟩
  · obtain ⟨a, vs, bs, rfl, h1, r1, rfl⟩ := r.mtl_inv
    by_cases hm : hasMs ds = true
    · rw [if_pos hm]
      exact ⟨⟨a, vs, bs, rfl, h1, r1, rfl⟩, fun _ _ _ z => by cases z⟩
    · rw [if_neg hm]
      obtain ⟨r2, rfl⟩ := RTs.free (by simpa using hm) r1
      exact ⟨⟨a, vs, rfl, h1, r2, rfl⟩, fun _ _ _ z => by cases z⟩
  · exact ⟨RT.free hm r, fun _ _ _ z => by cases z⟩
end
section
variable {X : Cx} {W : WX} {e a b : Expr} {ev ea eb : Ev} {pos p p2 pos2 : Pos} {es : List Expr} {er : EvA} {ts : List Expr}
theorem DE.x (h : DE X W e ev) : DX X W e ev := by
  obtain ⟨t, pt, q⟩ := h
  refine ⟨t, pt, fun F0 H0 F H σ δ Q E po => q F0 H0 F H σ δ Q E ?_⟩
  cases hv : ev δ with
  | ok d =>
    rw [hv] at po
    exact fun v F' H' g l r => po v [] F' H' g l (.of r) .nil (fun a h => by cases h)
  | error er => rw [hv] at po; exact po
/-- a call of a def that gives own lists away -/
theorem dx_call {k : Nat} {f : Addr} {fd : FuncData} {ps : List Str} {m : Mir} {x : Str} (G : FnX X.prog X.w X.K X.mg X.base k f fd ps m) (hr : Room k X.A) (tk : Takes X W) (hg : Gl X x) (hm : X.mg x = some (.ref f)) (hk : PySem.W.keepIn X.K (.ref f) = true)
    (hb : Binds X.K fd ps []) (ha : DA X W (a :: es) er) (hdb : (x == ("__debug__" : Str)) = false := by decide) (he : starEach (a :: es) X.env = (false, eval a X.env) :: starEach es X.env := by rfl) (hpl : (backTo pos (starEach es X.env)).any (·.1) = false := by rfl) :
    DX X W (.Call (.Name x p) (a :: es) [] pos) (eCall ps.length m er) := by
  obtain ⟨t, pt, q⟩ := ha
  refine ⟨_, PE.suf (pe_callS (E := WE W) G hr hg hm hk hb (passAt tk) pt hdb he hpl), fun F0 H0 F H σ δ Q E po => q F0 H0 F H σ δ _ E ?_⟩
  unfold eCall at po
  cases h : er δ with
  | error er => rw [h] at po; exact po
  | ok ds =>
    rw [h] at po
    intro vs F1 H1 g l r
    simp only [ok_bind] at po
    by_cases hz : ds.length = ps.length
    · rw [if_pos hz] at po
      refine ⟨ds, F1, hz, g.s, l, r, ?_⟩
      cases hm : m ds with
      | ok d =>
        rw [hm] at po
        exact fun v as F2 H2 g2 r2 n2 z2 l2 => po v as F2 H2 (g.trans g2) l2 r2 n2 fun a ha => ⟨(z2 a ha).1, by
          cases q : H a with
          | none => rfl
          | some u => have := (z2 a ha).2; rw [g.h _ _ q] at this; cases this⟩
      | error er =>
        rw [hm] at po
        cases er with
        | stuck => exact po
        | exc C ks es => exact fun c dd F2 H2 g2 hc hx => po c dd F2 H2 (g.trans g2) hc hx
    · rw [if_neg hz] at po; exact po.elim
/-- names that take data with lists of one's own -/
def bindX : List Nat → List D → DEnv → Option DEnv
  | [], [], δ => some δ
  | i :: is, d :: ds, δ => (cellX d).bind fun c => bindX is ds (δ.set i (some c))
  | _, _, _ => none
def DGX (X : Cx) (ts : List Expr) (is : List Nat) : Prop := ∃ g : TGs, PGs X ts g ∧ ∀ F0 H0 F H σ δ fp ds vs as (Q : St → Hp → Prop), EnvOk X.K X.mg F0 H0 F H σ δ → Fps X.K X.mg H0 F H σ δ fp → RTs X.K X.mg F H ds vs as → as.Nodup → (∀ a ∈ as, F a = none ∧ H0 a = none) → Dis δ fp as →
  (∃ δ', bindX is ds δ = some δ' ∧ ∀ σ', EnvOk X.K X.mg F0 H0 F H σ' δ' → Q σ' H) → g vs σ H Q
theorem dgx_nil : DGX X [] [] := by
  refine ⟨_, pgs_nil, fun F0 H0 F H σ δ fp ds vs as Q E P r n z d h => ?_⟩
  obtain ⟨δ', e, h⟩ := h
  cases ds with
  | nil =>
    unfold RTs at r
    cases e
    exact ⟨r.1, h σ E⟩
  | cons d ds => cases e
theorem dgx_cons {i : Nat} {x : Str} {is : List Nat} (hN : X.N.Nodup) (hi : X.N[i]? = some x) (hx : Loc X.env.scope x) (h2 : DGX X ts is) (hf : X.fn x = true ∨ X.env.scope.names.lookup x = some .local := by first | exact .inl rfl | exact .inr rfl | assumption)
    (hs : (assignEach (.Name x pos :: ts) X.env).map (·.2) = assign (.Name x pos) X.env :: (assignEach ts X.env).map (·.2) := by rfl) : DGX X (.Name x pos :: ts) (i :: is) := by
  obtain ⟨g2, p2, q2⟩ := h2
  refine ⟨_, pgs_cons (pg_name hN hi hx hf) p2 hs, fun F0 H0 F H σ δ fp ds vs as Q E P r n z dis h => ?_⟩
  obtain ⟨δ', e, h⟩ := h
  cases ds with
  | nil => cases e
  | cons d ds =>
    unfold RTs at r
    obtain ⟨v, us, a1, a2, rfl, hv, ht, rfl⟩ := r
    have e2 : ((cellX d).bind fun c => bindX is ds (δ.set i (some c))) = some δ' := e
    cases hc : cellX d with
    | none => rw [hc] at e2; cases e2
    | some c =>
      rw [hc] at e2
      obtain ⟨k1, k2⟩ := cellX_ok hc hv
      obtain ⟨n1, n2, n3⟩ := List.nodup_append.mp n
      obtain ⟨E1, P1⟩ := E.setX P i k1 n1 (fun a ha => z a (List.mem_append_left _ ha)) (fun j c' e' a ha hb => dis j c' e' a ha (List.mem_append_left _ hb)) k2
      refine ⟨v, us, rfl, q2 F0 H0 F H _ _ _ ds us a2 Q E1 P1 ht n2 (fun a ha => z a (List.mem_append_right _ ha)) (fun j c' e' a ha hb => ?_) ⟨δ', e2, h⟩⟩
      by_cases hj : j = i
      · rw [if_pos hj] at ha
        exact n3 a ha a hb rfl
      · rw [if_neg hj] at ha
        rw [List.getElem?_set_ne (Ne.symm hj)] at e'
        exact dis j c' e' a ha (List.mem_append_right _ hb)
/-- x, y = e -/
def sBindX (is : List Nat) (a : Ev) : Sv := fun δ => do
  let d ← a δ
  match d with
  | .tup ds => do
    let δ' ← lft (if ds.length = is.length then bindX is ds δ else none)
    .ok (.nx δ')
  | _ => stk
theorem ds_bindX {is : List Nat} {k : Nat} (hc : X.calm = true) (hg : DGX X ts is) (h : DX X W a ea) (hn : (assignEach ts X.env).length = is.length := by rfl) (hst : (assignEach ts X.env).findIdx? (·.1) = none := by rfl)
    (hs : swapsWithSole [.Tuple ts k pos2] a pos.line X.env = pure false := by rfl) (hw : swappedStores [.Tuple ts k pos2] a X.env = pure none := by rfl)
    (h1 : (assignEach [.Tuple ts k pos2] X.env).map (·.2) = [assign (.Tuple ts k pos2) X.env] := by rfl) : DS X W (.Assign [.Tuple ts k pos2] a pos) (sBindX is ea) := by
  obtain ⟨t, pt, q⟩ := h
  obtain ⟨g, pg, qg⟩ := hg
  refine ⟨_, ps_asg pt (pg_tup hc pg hn hst) hs hw h1, fun F0 H0 F H σ δ Dn E po => q F0 H0 F H σ δ _ E ?_⟩
  unfold sBindX at po
  cases he : ea δ with
  | error er => rw [he] at po; exact PostS.x po E.g
  | ok d =>
    rw [he] at po
    intro v as F1 H1 g1 l1 r1 n1 z1
    cases d with
    | tup ds =>
      simp only [ok_bind] at po
      cases hb : (if ds.length = is.length then bindX is ds δ else none) with
      | none => rw [hb] at po; exact po.elim
      | some δ' =>
        rw [hb] at po
        split at hb
        · rename_i hl
          obtain ⟨fp, P⟩ := E.ex
          have E1 := E.grow g1 l1
          have d1 : Dis δ fp as := .new P fun a ha => (z1 a ha).2
          have z2 : ∀ a ∈ as, F1 a = none ∧ H0 a = none := fun a ha => ⟨(z1 a ha).1, by
            cases q : H0 a with
            | none => rfl
            | some u => have := (z1 a ha).2; rw [E.g.h _ _ q] at this; cases this⟩
          have fin : ∀ b vs, v = .ref b → SqT X.K H1 b vs → RTs X.K X.mg F1 H1 ds vs as → ∃ a xs, v = .ref a ∧ SqT X.K H1 a xs ∧ xs.length = is.length ∧ g xs σ H1 Dn.nx := fun b vs e1 e2 r => by
            refine ⟨b, vs, e1, e2, by rw [← hl, RTs.length r], qg F0 H0 F1 H1 σ δ fp ds vs as _ E1 (P.grow g1) r n1 z2 d1 ⟨δ', hb, fun σ' E2 => po σ' F1 H1 E2⟩⟩
          unfold RT at r1
          rcases r1 with ⟨r1, rfl⟩ | ⟨_, b, vs, e1, e2, r1⟩
          · obtain ⟨b, vs, e1, e2, r2⟩ := r1.tup_inv
            exact fin b vs e1 (Same.sqT E1.g.s e2) (.of r2)
          · exact fin b vs e1 (.inl (.inl e2)) r1
        · cases hb
    | _ => exact po.elim
/-- x = e, where e gives own lists -/
def sSetX (i : Nat) (a : Ev) : Sv := fun δ => do
  let d ← a δ
  let c ← lft (cellX d)
  .ok (.nx (δ.set i (some c)))
theorem ds_setX {i : Nat} {x : Str} {pos' : Pos} (hN : X.N.Nodup) (hi : X.N[i]? = some x) (hx : Loc X.env.scope x) (h : DX X W a ea) (hs : swapsWith a (some (.Name x pos')) pos.line X.env = pure false := by rfl) (hf : X.fn x = true ∨ X.env.scope.names.lookup x = some .local := by first | exact .inl rfl | exact .inr rfl | assumption) :
    DS X W (.Assign [.Name x pos'] a pos) (sSetX i ea) := by
  obtain ⟨t, pt, q⟩ := h
  refine ⟨_, ps_set hN hi hx pt hs hf, fun F0 H0 F H σ δ Dn E po => q F0 H0 F H σ δ _ E ?_⟩
  unfold sSetX at po
  cases he : ea δ with
  | error er => rw [he] at po; exact PostS.x po E.g
  | ok d =>
    rw [he] at po
    intro v as F1 H1 g1 l1 r1 n1 z1
    simp only [ok_bind] at po
    cases hc : cellX d with
    | none => rw [hc] at po; exact po.elim
    | some c =>
      rw [hc] at po
      obtain ⟨fp, P⟩ := E.ex
      obtain ⟨k1, k2⟩ := cellX_ok hc r1
      refine po _ F1 H1 ((E.grow g1 l1).setX (P.grow g1) i k1 n1 (fun a ha => ⟨(z1 a ha).1, ?_⟩) (Dis.new P fun a ha => (z1 a ha).2) k2).1
      cases q : H0 a with
      | none => rfl
      | some u => have := (z1 a ha).2; rw [E.g.h _ _ q] at this; cases this
end
section
variable {X : Cx} {W : WX} {pos p : Pos}
/-- return x, x an own list -/
def sRetX1 (i : Nat) : Sv := fun δ => do
  let ds0 ← lft (ownAt i δ)
  .ok (.rx (mtl ds0))
theorem ds_retX1 {i : Nat} {x : Str} (hN : X.N[i]? = some x) (hv : Vis X.env.scope x) (hd : (x == ("__debug__" : Str)) = false := by decide) (hcd : (x == ("__classdict__" : Str)) = false := by decide) : DS X W (.Return (some (.Name x p)) pos) (sRetX1 i) := by
  refine ⟨_, ps_ret (pe_var hN hv hd hcd), fun F0 H0 F H σ δ Dn E po => ?_⟩
  unfold sRetX1 at po
  cases ho : ownAt i δ with
  | none => rw [ho] at po; exact po.elim
  | some ds0 =>
    rw [ho] at po
    obtain ⟨v, h1, a, vs0, rfl, h2, h3, h4, h5⟩ := E.sl i _ (ownAt_eq ho)
    exact ⟨.ref a, h1, po (.ref a) [a] F H E.g E.lim (RT.mtl h2 (RTs.of h5)) (by simp) fun b hb => by rw [List.mem_singleton.mp hb]; exact ⟨h3, h4⟩⟩
end
end DL

namespace DL
open PySem PySem.Spec PyProof.Rows L2
/-! ### expressions that change an own list: y.pop(k), y.pop() -/
abbrev EvE := DEnv → M (D × DEnv)
def PostEE (K : Frag) (mg : Mg) (F0 : Bs) (H0 : Hp) (W : WX) (F H : Hp) (σ : St) (Q : VK) : M (D × DEnv) → Prop
  | .ok r => ∀ v F' H', EnvOk K mg F0 H0 F' H' σ r.2 → R K mg F' r.1 v → Q v H'
  | .error e => PostX K mg W F H σ e
def DEE (X : Cx) (W : WX) (e : Expr) (ev : EvE) : Prop := ∃ t : TE, PE X e t ∧ ∀ F0 H0 F H σ δ (Q : VK), EnvOk X.K X.mg F0 H0 F H σ δ → PostEE X.K X.mg F0 H0 W F H σ Q (ev δ) → t σ H Q
section
variable {X : Cx} {W : WX} {e a b : Expr} {ev ea eb : Ev} {ee : EvE} {pos p apos cpos spos : Pos}
theorem Rs.erase {K : Frag} {mg : Mg} {F : Hp} : ∀ {ds : List D} {vs : List V} (n : Nat), Rs K mg F ds vs → Rs K mg F (ds.eraseIdx n) (vs.eraseIdx n)
  | [], vs, n, r => by rw [r.nil_inv]; exact .nil
  | d :: ds, vs, 0, r => by
    obtain ⟨v, us, rfl, h1, h2⟩ := r.cons_inv
    exact h2
  | d :: ds, vs, n + 1, r => by
    obtain ⟨v, us, rfl, h1, h2⟩ := r.cons_inv
    exact .cons h1 (h2.erase n)
theorem Rs.at {K : Frag} {mg : Mg} {F : Hp} : ∀ {ds : List D} {vs : List V} (n : Nat) (h : n < ds.length), Rs K mg F ds vs → ∃ v, vs[n]? = some v ∧ R K mg F ds[n] v
  | [], vs, n, h, r => by simp at h
  | d :: ds, vs, 0, h, r => by
    obtain ⟨v, us, rfl, h1, h2⟩ := r.cons_inv
    exact ⟨v, rfl, h1⟩
  | d :: ds, vs, n + 1, h, r => by
    obtain ⟨v, us, rfl, h1, h2⟩ := r.cons_inv
    exact h2.at n (by simpa using h)
/-- y.pop(k) -/
def eePop (j : Nat) (k : Ev) : EvE := fun δ => do
  let ds ← lft (ownAt j δ)
  let d ← k δ
  match d with
  | .int i => do
    let n ← lft (ixN ds.length i)
    let x ← lft ds[n]?
    .ok (x, δ.set j (some (.own (ds.eraseIdx n))))
  | _ => stk
theorem dee_pop {j : Nat} {y : Str} (hN : X.N[j]? = some y) (hv : Vis X.env.scope y) (h : DE X W a ea) (hd : (y == ("__debug__" : Str)) = false := by decide) (hcd : (y == ("__classdict__" : Str)) = false := by decide)
    (hbase : attributeBase (.Name y p) "pop" X.env (eval (.Name y p) X.env) = eval (.Name y p) X.env := by rfl)
    (hfew : ((backTo cpos (starEach [a] X.env)).all (fun x => !x.1) && (backToKw cpos (keywordEach [] X.env)).all (fun x => x.1.isSome) && decide (([a] : List Expr).length + ([] : List Keyword).length + (if ([] : List Keyword).isEmpty then 0 else 1) < 30)) = true := by rfl)
    (hline : (apos.endLine == cpos.line) = true := by rfl) (hst : starEach [a] X.env = (false, eval a X.env) :: starEach [] X.env := by rfl) :
    DEE X W (.Call (.Attribute (.Name y p) "pop" apos) [a] [] cpos) (eePop j ea) := by
  obtain ⟨t, pt, q⟩ := h
  refine ⟨_, PE.suf (pe_bm PySem.F.plainAttrs_list PySem.F.slot_list_pop PySem.F.type_list_pop mt_popAt (pe_var hN hv hd hcd) (pa_cons pt pa_nil hst) hbase hfew hline hst rfl), fun F0 H0 F H σ δ Q E po => ?_⟩
  unfold eePop at po
  cases ho : ownAt j δ with
  | none => rw [ho] at po; exact po.elim
  | some ds =>
    rw [ho] at po
    obtain ⟨a1, vs, h1, h2, h3⟩ := ownAt_ok E ho
    refine ⟨.ref a1, h1, .inl ⟨rfl, _, .of h2⟩, q F0 H0 F H σ δ _ E ?_⟩
    simp only [lft_some, ok_bind] at po
    cases he : ea δ with
    | error er => rw [he] at po; exact po
    | ok d =>
      rw [he] at po
      intro v F1 H1 g l r
      simp only [ok_bind] at po
      cases d with
      | int i =>
        simp only at po
        cases hn : ixN ds.length i with
        | none => rw [hn] at po; exact po.elim
        | some n =>
          rw [hn] at po
          obtain ⟨hs, hlt, hi1, hi2⟩ := ixN_seq hn
          have hx : ds[n]? = some ds[n] := List.getElem?_eq_getElem hlt
          obtain ⟨u, hu, ru⟩ := h3.at n hlt
          simp only [lft_some, ok_bind, hx] at po
          have hz : ds.length ≤ sizeLine := by
            rw [h3.length]
            exact E.lim.sqL (K := X.K) (.of h2)
          have hz' : ds.length ≤ 16777216 := hz
          refine ⟨a1, vs, i, n, u, rfl, by rw [r.int_inv], g.h _ _ h2, by omega, by omega, by rw [← h3.length]; exact hs, hu, fun l' => po u F1 _ ((E.grow g l).put (ownAt_eq ho) h1 ?_ ((h3.mono g.f).erase n)) (R.mono g.f _ _ ru)⟩
          have := len_erase vs n
          rw [h3.length] at hz
          exact Nat.le_trans this hz
      | _ => exact po.elim
/-- y.pop() -/
def eePop0 (j : Nat) : EvE := fun δ => do
  let ds ← lft (ownAt j δ)
  let x ← lft ds[ds.length - 1]?
  .ok (x, δ.set j (some (.own ds.dropLast)))
theorem Rs.dropLast {K : Frag} {mg : Mg} {F : Hp} : ∀ {ds : List D} {vs : List V}, Rs K mg F ds vs → Rs K mg F ds.dropLast vs.dropLast
  | [], vs, r => by rw [r.nil_inv]; exact .nil
  | [d], vs, r => by
    obtain ⟨v, us, rfl, h1, h2⟩ := r.cons_inv
    rw [h2.nil_inv]; exact .nil
  | d :: e :: ds, vs, r => by
    obtain ⟨v, us, rfl, h1, h2⟩ := r.cons_inv
    obtain ⟨u, us, rfl, h3, h4⟩ := h2.cons_inv
    exact .cons h1 (Rs.dropLast h2)
theorem dee_pop0 {j : Nat} {y : Str} (hN : X.N[j]? = some y) (hv : Vis X.env.scope y) (hd : (y == ("__debug__" : Str)) = false := by decide) (hcd : (y == ("__classdict__" : Str)) = false := by decide)
    (hbase : attributeBase (.Name y p) "pop" X.env (eval (.Name y p) X.env) = eval (.Name y p) X.env := by rfl)
    (hline : (apos.endLine == cpos.line) = true := by rfl) :
    DEE X W (.Call (.Attribute (.Name y p) "pop" apos) [] [] cpos) (eePop0 j) := by
  refine ⟨_, PE.suf (pe_bm0 PySem.F.plainAttrs_list PySem.F.slot_list_pop PySem.F.type_list_pop mt_pop (pe_var hN hv hd hcd) hbase hline), fun F0 H0 F H σ δ Q E po => ?_⟩
  unfold eePop0 at po
  cases ho : ownAt j δ with
  | none => rw [ho] at po; exact po.elim
  | some ds =>
    rw [ho] at po
    obtain ⟨a1, vs, h1, h2, h3⟩ := ownAt_ok E ho
    simp only [lft_some, ok_bind] at po
    cases hx : ds[ds.length - 1]? with
    | none => rw [hx] at po; exact po.elim
    | some d =>
      rw [hx] at po
      have hlt : ds.length - 1 < ds.length := by
        rcases Nat.lt_or_ge (ds.length - 1) ds.length with h | h
        · exact h
        · rw [List.getElem?_eq_none h] at hx; cases hx
      obtain ⟨u, hu, ru⟩ := h3.at _ hlt
      rw [List.getElem?_eq_getElem hlt] at hx
      cases hx
      refine ⟨.ref a1, h1, .inl ⟨rfl, _, .of h2⟩, a1, vs, u, rfl, rfl, h2, by rw [← h3.length]; exact hu, fun l' => po u F _ (E.put (ownAt_eq ho) h1 ?_ h3.dropLast) ru⟩
      have hz := E.lim.sqL (K := X.K) (.of h2)
      rw [List.length_dropLast]; omega
/-- x.append(e), e changes another own list -/
def sAppE (i : Nat) (e : EvE) : Sv := fun δ => do
  let _ ← lft (ownAt i δ)
  let r ← e δ
  let ds ← lft (ownAt i r.2)
  if ds.length < sizeLine then .ok (.nx (r.2.set i (some (.own (ds ++ [r.1]))))) else stk
theorem ds_appE {i : Nat} {x : Str} (hN : X.N[i]? = some x) (hv : Vis X.env.scope x) (h : DEE X W a ee) (hd : (x == ("__debug__" : Str)) = false := by decide) (hcd : (x == ("__classdict__" : Str)) = false := by decide)
    (hbase : attributeBase (.Name x p) "append" X.env (eval (.Name x p) X.env) = eval (.Name x p) X.env := by rfl)
    (hfew : ((backTo cpos (starEach [a] X.env)).all (fun x => !x.1) && (backToKw cpos (keywordEach [] X.env)).all (fun x => x.1.isSome) && decide (([a] : List Expr).length + ([] : List Keyword).length + (if ([] : List Keyword).isEmpty then 0 else 1) < 30)) = true := by rfl)
    (hline : (apos.endLine == cpos.line) = true := by rfl) (hst : starEach [a] X.env = (false, eval a X.env) :: starEach [] X.env := by rfl) (hs : swapsWith (.Call (.Attribute (.Name x p) "append" apos) [a] [] cpos) none spos.line X.env = pure false := by rfl) :
    DS X W (.Expr (.Call (.Attribute (.Name x p) "append" apos) [a] [] cpos) spos) (sAppE i ee) := by
  obtain ⟨t, pt, q⟩ := h
  refine ⟨_, PS.suf (ps_expr (pe_bm PySem.F.plainAttrs_list PySem.F.slot_list_append PySem.F.type_list_append mt_append (pe_var hN hv hd hcd) (pa_cons pt pa_nil hst) hbase hfew hline hst rfl) hs), fun F0 H0 F H σ δ Dn E po => ?_⟩
  unfold sAppE at po
  cases ho : ownAt i δ with
  | none => rw [ho] at po; exact po.elim
  | some ds =>
    rw [ho] at po
    obtain ⟨a1, vs, h1, h2, h3⟩ := ownAt_ok E ho
    refine ⟨.ref a1, h1, .inl ⟨rfl, _, .of h2⟩, q F0 H0 F H σ δ _ E ?_⟩
    simp only [lft_some, ok_bind] at po
    cases he : ee δ with
    | error er => rw [he] at po; exact PostS.x po E.g
    | ok r =>
      rw [he] at po
      intro v F1 H1 E1 r1
      simp only [ok_bind] at po
      cases ho1 : ownAt i r.2 with
      | none => rw [ho1] at po; exact po.elim
      | some es =>
        rw [ho1] at po
        obtain ⟨a2, us, g1, g2, g3⟩ := ownAt_ok E1 ho1
        rw [h1] at g1
        cases g1
        simp only [lft_some, ok_bind] at po
        split at po
        · rename_i hz
          have hz' : us.length < sizeLine := by rw [← g3.length]; exact hz
          refine ⟨a1, us, v, rfl, rfl, g2, hz', fun l' => po σ F1 _ (E1.put (ownAt_eq ho1) h1 ?_ (g3.append (.cons r1 .nil)))⟩
          rw [List.length_append]; exact hz'
        · exact po.elim
/-- x = e, e changes an own list -/
def sSetE (i : Nat) (e : EvE) : Sv := fun δ => do
  let r ← e δ
  .ok (.nx (r.2.set i (some (.val r.1))))
theorem ds_setE {i : Nat} {x : Str} {pos' : Pos} (hN : X.N.Nodup) (hi : X.N[i]? = some x) (hx : Loc X.env.scope x) (h : DEE X W a ee) (hs : swapsWith a (some (.Name x pos')) pos.line X.env = pure false := by rfl) (hf : X.fn x = true ∨ X.env.scope.names.lookup x = some .local := by first | exact .inl rfl | exact .inr rfl | assumption) :
    DS X W (.Assign [.Name x pos'] a pos) (sSetE i ee) := by
  obtain ⟨t, pt, q⟩ := h
  refine ⟨_, ps_set hN hi hx pt hs hf, fun F0 H0 F H σ δ Dn E po => q F0 H0 F H σ δ _ E ?_⟩
  unfold sSetE at po
  cases he : ee δ with
  | error er => rw [he] at po; exact PostS.x po E.g
  | ok r =>
    rw [he] at po
    exact fun v F1 H1 E1 r1 => po _ F1 H1 (E1.set i r1)
/-- x.reverse() -/
def sRev (i : Nat) : Sv := fun δ => do
  let ds ← lft (ownAt i δ)
  .ok (.nx (δ.set i (some (.own ds.reverse))))
theorem ds_rev {i : Nat} {x : Str} (hN : X.N[i]? = some x) (hv : Vis X.env.scope x) (hd : (x == ("__debug__" : Str)) = false := by decide) (hcd : (x == ("__classdict__" : Str)) = false := by decide)
    (hbase : attributeBase (.Name x p) "reverse" X.env (eval (.Name x p) X.env) = eval (.Name x p) X.env := by rfl)
    (hline : (apos.endLine == cpos.line) = true := by rfl) (hs : swapsWith (.Call (.Attribute (.Name x p) "reverse" apos) [] [] cpos) none spos.line X.env = pure false := by rfl) :
    DS X W (.Expr (.Call (.Attribute (.Name x p) "reverse" apos) [] [] cpos) spos) (sRev i) := by
  refine ⟨_, PS.suf (ps_expr (pe_bm0 PySem.F.plainAttrs_list PySem.F.slot_list_reverse PySem.F.type_list_reverse mt_reverse (pe_var hN hv hd hcd) hbase hline) hs), fun F0 H0 F H σ δ Dn E po => ?_⟩
  unfold sRev at po
  cases ho : ownAt i δ with
  | none => rw [ho] at po; exact po.elim
  | some ds =>
    rw [ho] at po
    obtain ⟨a1, vs, h1, h2, h3⟩ := ownAt_ok E ho
    have hz := E.lim.sqL (K := X.K) (.of h2)
    exact ⟨.ref a1, h1, .inl ⟨rfl, _, .of h2⟩, a1, vs, rfl, rfl, h2, fun l' => po σ F _ (E.put (ownAt_eq ho) h1 (by rw [List.length_reverse]; exact hz) h3.reverse)⟩
end
end DL

namespace DL
open PySem PySem.Spec PyProof.Rows L2
/-! ### a tree of own lists, lent to an expression whose value holds no list -/
mutual
def unM : D → D
  | .obj C ks ds => if C = "" ∧ ks = [] then .lst (unMm ds) else .obj C ks ds
  | .non => .non
  | .bl b => .bl b
  | .int b => .int b
  | .str b => .str b
  | .tup b => .tup b
  | .lst b => .lst b
  | .scr b => .scr b
def unMm : List D → List D
  | [] => []
  | _ :: ds => unMs ds
def unMs : List D → List D
  | [] => []
  | d :: ds => unM d :: unMs ds
end
mutual
def plT : D → Bool
  | .obj C ks ds => if C = "" ∧ ks = [] then plTm ds else true
  | .tup ds => !hasMs ds
  | .non => true
  | .bl _ => true
  | .int _ => true
  | .str _ => true
  | .lst _ => true
  | .scr _ => true
def plTm : List D → Bool
  | [] => false
  | _ :: ds => plTs ds
def plTs : List D → Bool
  | [] => true
  | d :: ds => plT d && plTs ds
end
mutual
def noL : D → Bool
  | .lst _ => false
  | .scr _ => false
  | .tup ds => noLs ds
  | .obj _ _ ds => noLs ds
  | .non => true
  | .bl _ => true
  | .int _ => true
  | .str _ => true
def noLs : List D → Bool
  | [] => true
  | d :: ds => noL d && noLs ds
end
section
variable {K : Frag} {mg : Mg} {F F1 H : Hp}
mutual
theorem RT.lend (s : Same F F1) : ∀ (d : D) (v : V) (as : List Addr), (∀ a ∈ as, ∀ o, H a = some o → F1 a = some o) → plT d = true → RT K mg F H d v as → R K mg F1 (unM d) v
  | .obj C ks ds, v, as, hA, hp, r => by
    unfold RT at r
    unfold unM
    rcases r with ⟨r, e⟩ | ⟨e1, e2, a, vs, bs, e, h1, r, e3⟩
    · by_cases hc : C = "" ∧ ks = []
      · obtain ⟨hC, hk⟩ := hc
        subst hC; subst hk
        exfalso
        unfold plT at hp
        rw [if_pos ⟨rfl, rfl⟩] at hp
        cases ds with
        | nil => unfold plTm at hp; cases hp
        | cons d ds =>
          obtain ⟨a, c, dx, vs, _, _, _, hl, r⟩ := r.obj_inv
          have := r.length
          rw [← hl] at this
          simp at this
      · rw [if_neg hc]
        exact R.mono s _ _ r
    · rw [if_pos ⟨e1, e2⟩]
      subst e3
      unfold plT at hp
      rw [if_pos ⟨e1, e2⟩] at hp
      rw [e]
      exact R.lst (hA a List.mem_cons_self _ h1) (RTm.lend s ds vs bs (fun b hb o ho => hA b (List.mem_cons_of_mem _ hb) o ho) hp r)
  | .tup ds, v, as, hA, hp, r => by
    unfold plT at hp
    have : hasM (.tup ds) = false := by unfold hasM; simpa using hp
    have := (RT.free this r).1
    unfold unM
    exact R.mono s _ _ this
  | .non, v, as, hA, hp, r => by unfold RT at r; unfold unM; exact R.mono s _ _ r.1
  | .bl _, v, as, hA, hp, r => by unfold RT at r; unfold unM; exact R.mono s _ _ r.1
  | .int _, v, as, hA, hp, r => by unfold RT at r; unfold unM; exact R.mono s _ _ r.1
  | .str _, v, as, hA, hp, r => by unfold RT at r; unfold unM; exact R.mono s _ _ r.1
  | .lst _, v, as, hA, hp, r => by unfold RT at r; unfold unM; exact R.mono s _ _ r.1
  | .scr _, v, as, hA, hp, r => by unfold RT at r; unfold unM; exact R.mono s _ _ r.1
theorem RTm.lend (s : Same F F1) : ∀ (ds : List D) (vs : List V) (as : List Addr), (∀ a ∈ as, ∀ o, H a = some o → F1 a = some o) → plTm ds = true → RTm K mg F H ds vs as → Rs K mg F1 (unMm ds) vs
  | [], vs, as, hA, hp, r => by unfold plTm at hp; cases hp
  | d :: ds, vs, as, hA, hp, r => by
    unfold plTm at hp
    unfold RTm at r
    unfold unMm
    exact RTs.lend s ds vs as hA hp r
theorem RTs.lend (s : Same F F1) : ∀ (ds : List D) (vs : List V) (as : List Addr), (∀ a ∈ as, ∀ o, H a = some o → F1 a = some o) → plTs ds = true → RTs K mg F H ds vs as → Rs K mg F1 (unMs ds) vs
  | [], vs, as, hA, hp, r => by
    unfold RTs at r
    unfold unMs
    rw [r.1]; exact .nil
  | d :: ds, vs, as, hA, hp, r => by
    unfold plTs at hp
    rw [Bool.and_eq_true] at hp
    unfold RTs at r
    obtain ⟨v, t, a1, a2, e1, r1, r2, e2⟩ := r
    subst e1; subst e2
    unfold unMs
    exact .cons (RT.lend s d v a1 (fun b hb o ho => hA b (List.mem_append_left _ hb) o ho) hp.1 r1) (RTs.lend s ds t a2 (fun b hb o ho => hA b (List.mem_append_right _ hb) o ho) hp.2 r2)
end
/-- the frozen part without some addresses -/
def cutF (F : Hp) (A : List Addr) : Hp := fun a => if a ∈ A then none else F a
theorem cutF_of {A : List Addr} {a : Addr} {o : HO} (h : F a = some o) (n : a ∉ A) : cutF F A a = some o := by unfold cutF; rw [if_neg n]; exact h
theorem cut_ne {A : List Addr} (s : Same F H) (hA : ∀ a ∈ A, ∃ vs, H a = some (.lst vs)) {a : Addr} {o : HO} (h : F a = some o) (n : ∀ vs, o ≠ .lst vs) : a ∉ A := fun z => by
  obtain ⟨vs, e⟩ := hA a z
  rw [s _ _ h] at e
  exact n vs (Option.some.inj e)
mutual
theorem R.cut {A : List Addr} (s : Same F H) (hA : ∀ a ∈ A, ∃ vs, H a = some (.lst vs)) : ∀ (d : D) (v : V), noL d = true → R K mg F d v → R K mg (cutF F A) d v
  | .tup ds, v, hn, r => by
    unfold noL at hn
    obtain ⟨a, vs, rfl, h1, r1⟩ := r.tup_inv
    refine R.tup ?_ (Rs.cutA s hA ds vs hn r1)
    rcases h1 with (h | ⟨o, h⟩) | h
    · exact .inl (.inl (cutF_of h (cut_ne s hA h fun _ z => by cases z)))
    · exact .inl (.inr ⟨o, cutF_of h (cut_ne s hA h fun _ z => by cases z)⟩)
    · exact .inr h
  | .obj C ks ds, v, hn, r => by
    unfold noL at hn
    obtain ⟨a, c, dx, vs, rfl, h0, h1, hl, r1⟩ := r.obj_inv
    unfold R
    exact ⟨a, c, dx, vs, rfl, h0, cutF_of h1 (cut_ne s hA h1 fun _ z => by cases z), hl, Rs.cutA s hA ds vs hn r1⟩
  | .non, v, hn, r => by unfold R at *; exact r
  | .bl _, v, hn, r => by unfold R at *; exact r
  | .int _, v, hn, r => by unfold R at *; exact r
  | .str _, v, hn, r => by unfold R at *; exact r
  | .lst _, v, hn, r => by unfold noL at hn; cases hn
  | .scr _, v, hn, r => by unfold noL at hn; cases hn
theorem Rs.cutA {A : List Addr} (s : Same F H) (hA : ∀ a ∈ A, ∃ vs, H a = some (.lst vs)) : ∀ (ds : List D) (vs : List V), noLs ds = true → Rs K mg F ds vs → Rs K mg (cutF F A) ds vs
  | [], vs, hn, r => by rw [r.nil_inv]; exact .nil
  | d :: ds, vs, hn, r => by
    unfold noLs at hn
    rw [Bool.and_eq_true] at hn
    obtain ⟨v, t, rfl, h1, h2⟩ := r.cons_inv
    exact .cons (R.cut s hA d v hn.1 h1) (Rs.cutA s hA ds t hn.2 h2)
end
end
/-- the frozen part, and what stands at some addresses -/
def addF (F H : Hp) (A : List Addr) : Hp := fun a => if a ∈ A then H a else F a
section
variable {K : Frag} {mg : Mg} {F0 : Bs} {H0 F H : Hp} {σ : St} {δ : DEnv}
theorem EnvOk.oneP {F' H' : Hp} (E : EnvOk K mg F0 H0 F H σ δ) {fp : Nat → List Addr} (P : Fps K mg H0 F H σ δ fp) (i : Nat) {c : Cell} {v : V} {as : List Addr} {σ' : St} (g : Grow F0.1 H0 F' H') (l : Lim H') (hσ : σ'.length = σ.length) (hi : i < δ.length → σ'[i]? = some (some v)) (hs : ∀ j, j ≠ i → σ'[j]? = σ[j]?)
    (hc : CellF K mg F' H' v c as) (hn : as.Nodup) (hz : ∀ a ∈ as, F' a = none ∧ H0 a = none) (f : Same F F')
    (O : ∀ (j : Nat) (c' : Cell), j ≠ i → δ[j]? = some (some c') → (∀ a o, H a = some o → (a ∈ fp j ∨ ∃ xs, o = .tup xs) → H' a = some o) ∧ (∀ a ∈ fp j, F' a = none ∧ a ∉ as))
    (hp : ∀ C ks ds, c = .ins C ks ds → i < δ.length → v = .ref F0.2) : EnvOk K mg F0 H0 F' H' σ' (δ.set i (some c)) := by
  have key : ∀ (j : Nat) (c' : Cell), (δ.set i (some c))[j]? = some (some c') → (j = i ∧ c' = c ∧ i < δ.length) ∨ (j ≠ i ∧ δ[j]? = some (some c')) := fun j c' e => by
    by_cases hj : j = i
    · subst hj
      by_cases hl : j < δ.length
      · rw [List.getElem?_set_self hl] at e
        cases e
        exact .inl ⟨rfl, rfl, hl⟩
      · rw [List.getElem?_eq_none (by rw [List.length_set]; omega)] at e; cases e
    · rw [List.getElem?_set_ne (Ne.symm hj)] at e
      exact .inr ⟨hj, e⟩
  refine ⟨g, l, by rw [List.length_set, hσ, E.len], ⟨fun j => if j = i then as else fp j, ⟨fun j c' e => ?_, fun j c' e => ?_, fun j c' e => ?_, fun j k c1 c2 hjk e1 e2 a ha => ?_⟩⟩, fun j C ks ds e => ?_⟩
  · rcases key j c' e with ⟨rfl, rfl, hl⟩ | ⟨hj, e⟩
    · exact ⟨v, hi hl, by rw [if_pos rfl]; exact hc⟩
    · obtain ⟨w, h1, h2⟩ := P.c j c' e
      exact ⟨w, by rw [hs j hj]; exact h1, by rw [if_neg hj]; exact h2.mono f (O j c' hj e).1⟩
  · rcases key j c' e with ⟨rfl, rfl, hl⟩ | ⟨hj, e⟩
    · rw [if_pos rfl]; exact hn
    · rw [if_neg hj]; exact P.n j c' e
  · rcases key j c' e with ⟨rfl, rfl, hl⟩ | ⟨hj, e⟩
    · rw [if_pos rfl]; exact hz
    · rw [if_neg hj]
      exact fun a ha => ⟨((O j c' hj e).2 a ha).1, (P.z j c' e a ha).2⟩
  · rcases key j c1 e1 with ⟨hj, _, _⟩ | ⟨hj, e1⟩
    · rcases key k c2 e2 with ⟨hk, _, _⟩ | ⟨hk, e2⟩
      · exact absurd (hj.trans hk.symm) hjk
      · rw [if_pos hj] at ha
        rw [if_neg hk]
        exact fun z => ((O k c2 hk e2).2 a z).2 ha
    · rw [if_neg hj] at ha
      rcases key k c2 e2 with ⟨hk, _, _⟩ | ⟨hk, e2⟩
      · rw [if_pos hk]
        exact ((O j c1 hj e1).2 a ha).2
      · rw [if_neg hk]
        exact P.d j k c1 c2 hjk e1 e2 a ha
  · rcases key j _ e with ⟨rfl, h, hl⟩ | ⟨hj, e⟩
    · rw [hi hl, hp C ks ds h.symm hl]
    · rw [hs j hj]; exact E.pn _ _ _ _ e
theorem EnvOk.lend (E : EnvOk K mg F0 H0 F H σ δ) {i : Nat} {ds : List D} (hi : δ[i]? = some (some (.tre ds)) ∨ (δ[i]? = some (some (.own ds)) ∧ hasMs ds = false)) (hp : plTs ds = true) :
    ∃ A : List Addr, (∀ a ∈ A, ∃ vs, H a = some (.lst vs)) ∧ (∀ a ∈ A, F a = none) ∧ EnvOk K mg F0 H0 (addF F H A) H σ (δ.set i (some (.val (.lst (unMs ds))))) := by
  obtain ⟨fp, P⟩ := E.ex
  have hil : i < δ.length := by
    rcases Nat.lt_or_ge i δ.length with h | h
    · exact h
    · rw [List.getElem?_eq_none h] at hi
      rcases hi with h | ⟨h, _⟩ <;> cases h
  obtain ⟨c, hc, a, vs, bs, ev, h1, h2, r⟩ : ∃ c, δ[i]? = some (some c) ∧ ∃ a vs bs, σ[i]? = some (some (.ref a)) ∧ H a = some (.lst vs) ∧ RTs K mg F H ds vs bs ∧ fp i = a :: bs := by
    rcases hi with h | ⟨h, hm⟩
    · obtain ⟨v, h1, a, vs, bs, e, h2, r, e2⟩ := P.c i _ h
      rw [e] at h1
      exact ⟨_, h, a, vs, bs, h1, h2, r, e2⟩
    · obtain ⟨v, h1, a, vs, e, h2, r, e2⟩ := P.c i _ h
      rw [e] at h1
      exact ⟨_, h, a, vs, [], h1, h2, RTs.of r, e2⟩
  have hz := P.z i c hc
  have liv : ∀ b ∈ fp i, ∃ us, H b = some (.lst us) := fun b hb => by
    rw [r] at hb
    rcases List.mem_cons.mp hb with rfl | hb
    · exact ⟨_, h1⟩
    · exact RTs.live ds vs bs h2 b hb
  have s1 : Same F (addF F H (fp i)) := fun b o e => by
    unfold addF
    have : b ∉ fp i := fun z => by rw [(hz b z).1] at e; cases e
    rw [if_neg this]; exact e
  have s2 : Same (addF F H (fp i)) H := fun b o e => by
    unfold addF at e
    split at e
    · exact e
    · exact E.g.s _ _ e
  refine ⟨fp i, liv, fun b hb => (hz b hb).1, ?_⟩
  have hσ : σ.set i (some (.ref a)) = σ := by
    apply List.ext_getElem?
    intro j
    by_cases hj : i = j
    · subst hj
      rw [List.getElem?_set_self (by rw [← E.len]; exact hil), ev]
    · rw [List.getElem?_set_ne hj]
  refine E.oneP P i (as := []) (v := .ref a) ⟨E.g.f.trans s1, E.g.h, s2, fun b hb hf => ?_⟩ E.lim rfl (fun _ => ev) (fun j _ => rfl) ⟨R.lst ?_ (RTs.lend s1 ds vs bs (fun b hb o ho => ?_) hp h2), rfl⟩ .nil (fun b hb => by cases hb) s1
    (fun j c' hj e => ?_) (fun _ _ _ z => by cases z)
  · unfold addF
    have : b ∉ fp i := fun z => by rw [(hz b z).2] at hb; exact hb rfl
    rw [if_neg this]
    exact E.g.n b hb hf
  · unfold addF
    rw [if_pos (by rw [r]; exact List.mem_cons_self)]; exact h1
  · unfold addF
    rw [if_pos (by rw [r]; exact List.mem_cons_of_mem _ hb)]; exact ho
  · refine ⟨fun b o ho _ => ho, fun b hb => ⟨?_, fun z => by cases z⟩⟩
    unfold addF
    rw [if_neg (P.d j i c' c hj e hc b hb)]
    exact (P.z j c' e b hb).1
end
section
variable {X : Cx} {W : WX} {e a b : Expr} {ev ea eb : Ev} {pos p pos2 apos cpos spos : Pos}
/-- the name's lists stand still while the expression runs, and its value holds no list -/
def lendAt (i : Nat) (δ : DEnv) : M (List D) := match δ[i]? with
  | some (some (.tre ds)) => .ok ds
  | some (some (.own ds)) => if hasMs ds then stk else .ok ds
  | _ => stk
theorem lendAt_ok {i : Nat} {δ : DEnv} {ds : List D} (h : lendAt i δ = .ok ds) : δ[i]? = some (some (.tre ds)) ∨ (δ[i]? = some (some (.own ds)) ∧ hasMs ds = false) := by
  unfold lendAt at h
  split at h
  · rename_i ds' e
    cases h; exact .inl e
  · rename_i ds' e
    split at h
    · cases h
    · rename_i hm
      cases h
      exact .inr ⟨e, by simpa using hm⟩
  · cases h
def eLend (i : Nat) (ev : Ev) : Ev := fun δ => lendAt i δ >>= fun ds => if plTs ds then (noX (ev (δ.set i (some (.val (.lst (unMs ds)))))) >>= fun d => if noL d then .ok d else stk) else stk
theorem de_lend {i : Nat} (h : DE X W e ev) : DE X W e (eLend i ev) := by
  obtain ⟨t, pt, q⟩ := h
  refine ⟨t, pt, fun F0 H0 F H σ δ Q E po => ?_⟩
  unfold eLend at po
  cases hds : lendAt i δ with
  | error er =>
    rw [hds] at po
    have : er = .stuck := by
      unfold lendAt at hds
      split at hds
      · cases hds
      · split at hds
        · cases hds; rfl
        · cases hds
      · cases hds; rfl
    rw [this] at po
    exact po.elim
  | ok ds =>
  have hi := lendAt_ok hds
  rw [hds] at po
  simp only [ok_bind] at po
  split at po
  · rename_i hp
    obtain ⟨A, hA, hF, E1⟩ := E.lend hi hp
    refine q F0 H0 _ H σ _ Q E1 ?_
    cases he : ev (δ.set i (some (.val (.lst (unMs ds))))) with
    | error er => rw [he] at po; exact po.elim
    | ok d =>
      rw [he] at po
      simp only [noX_ok, ok_bind] at po
      split at po
      · rename_i hn
        intro v F' H' g l r
        have liv : ∀ a ∈ A, ∃ vs, H' a = some (.lst vs) := fun a ha => by
          obtain ⟨vs, hv⟩ := hA a ha
          exact ⟨vs, g.h _ _ hv⟩
        refine po v (cutF F' A) H' ⟨fun b o hb => ?_, g.h, fun b o hb => ?_, fun b hb hf => ?_⟩ l (R.cut g.s liv d v hn r)
        · have nb : b ∉ A := fun z => by rw [hF b z] at hb; cases hb
          refine cutF_of (g.f b o ?_) nb
          unfold addF
          rw [if_neg nb]; exact hb
        · unfold cutF at hb
          split at hb
          · cases hb
          · exact g.s _ _ hb
        · unfold cutF
          split
          · rfl
          · rename_i nb
            refine g.n b hb ?_
            unfold addF
            rw [if_neg nb]; exact hf
      · exact po.elim
  · exact po.elim
/-! ### new lists, and new lists of new lists -/
def eMt (f : EvA) : Ev := fun δ => do
  let ds ← f δ
  .ok (mtl ds)
theorem dx_new {f : EvA} (h : DF X W e f) : DX X W e (eMt f) := by
  obtain ⟨t, pt, q⟩ := h
  refine ⟨_, PE.suf pt, fun F0 H0 F H σ δ Q E po => q F0 H0 F H σ δ _ E ?_⟩
  unfold eMt at po
  cases he : f δ with
  | error er => rw [he] at po; exact po
  | ok ds =>
    rw [he] at po
    intro p vs F' H' g hp fp h1 r l
    exact po (.ref p) [p] F' H' g l (RT.mtl h1 (RTs.of r)) (by simp) fun a ha => by rw [List.mem_singleton.mp ha]; exact ⟨fp, hp⟩
theorem dx_de (h : DE X W e ev) : DX X W e ev := by
  obtain ⟨t, pt, q⟩ := h
  refine ⟨t, pt, fun F0 H0 F H σ δ Q E po => q F0 H0 F H σ δ _ E ?_⟩
  cases he : ev δ with
  | error er => rw [he] at po; exact po
  | ok d =>
    rw [he] at po
    exact fun v F' H' g l r => po v [] F' H' g l (RT.of r) .nil fun a ha => by cases ha
theorem RTs.snoc {K : Frag} {mg : Mg} {F H : Hp} {d : D} {v : V} {a2 : List Addr} : ∀ {ds : List D} {vs : List V} {as : List Addr}, RTs K mg F H ds vs as → RT K mg F H d v a2 → RTs K mg F H (ds ++ [d]) (vs ++ [v]) (as ++ a2)
  | [], vs, as, r, r2 => by
    unfold RTs at r
    rw [r.1, r.2]
    show RTs K mg F H [d] [v] a2
    unfold RTs
    exact ⟨v, [], a2, [], rfl, r2, by unfold RTs; exact ⟨rfl, rfl⟩, by simp⟩
  | e :: ds, vs, as, r, r2 => by
    unfold RTs at r
    obtain ⟨u, t, a1, a3, rfl, h1, h2, rfl⟩ := r
    show RTs K mg F H (e :: (ds ++ [d])) (u :: (t ++ [v])) _
    unfold RTs
    exact ⟨u, t ++ [v], a1, a3 ++ a2, rfl, h1, RTs.snoc h2 r2, by simp⟩
theorem compX_run {X : Cx} {g : TG} {tt : TT} {te : TE} {sl vs : List Nat} {bd : Bd} {vt : EvT} {ve : Ev} {F0 : Bs} {H0 F1 H1 : Hp} {σ : St} {δ : DEnv} {J : It} {xs ys : List D} {Q : VK}
    (qg : ∀ F0 H0 F H σ δ d v (Q : St → Hp → Prop), EnvOk X.K X.mg F0 H0 F H σ δ → R X.K X.mg F d v →
      (∃ δ', bd d δ = some δ' ∧ ∀ σ', (∀ vs : List Nat, (∀ i ∈ sl, i ∈ vs) → wipe σ' vs = wipe σ vs) → EnvOk X.K X.mg F0 H0 F H σ' δ' → Q σ' H) → g v σ H Q)
    (qt : ∀ F0 H0 F H σ δ (Q : Bool → Hp → Prop), EnvOk X.K X.mg F0 H0 F H σ δ → PostT X.K X.mg WF F H σ Q (vt δ) → tt σ H Q)
    (qe : ∀ F0 H0 F H σ δ (Q : VK), EnvOk X.K X.mg F0 H0 F H σ δ → PostR X.K X.mg WF F H σ Q (ve δ) → te σ H Q)
    (hsl : ∀ i ∈ sl, i ∈ vs) (E : EnvOk X.K X.mg F0 H0 F1 H1 σ δ) (hz : xs.length ≤ sizeLine) (it : ItOk X.K X.mg F1 xs J) (hc : compD bd vt ve (wipeD δ vs) xs = .ok ys)
    (D : Addr) (hD : H1 D = none) (po : ∀ vs as F' H', Grow F1 H1 F' H' → Lim H' → F' D = none → H' D = some (.lst vs) → RTs X.K X.mg F' H' ys vs as → (D :: as).Nodup → (∀ a ∈ as, F' a = none ∧ H1 a = none) → Q (.ref D) H') :
    ∃ W : Nat → Nat → Hp → Prop, (∃ m, W 0 m (upd H1 D (.lst []))) ∧ ∀ i m H, W i m H →
      (J.stop i H ∧ Q (.ref D) H) ∨ (J.go i H ∧ ∃ Nx : Hp → Prop, (∀ H', Nx H' → ∃ m', m' < m ∧ W (i + 1) m' H') ∧ ∀ x H', J.yld i H x H' → g x (wipe σ vs) H' fun σ2 H2 => wipe σ2 vs = wipe σ vs ∧ tt σ2 H2 fun b H3 =>
        if b = true then te σ2 H3 fun y H4 => ∃ acc, H4 D = some (.lst acc) ∧ acc.length < sizeLine ∧ Nx (upd H4 D (.lst (acc ++ [y]))) else Nx H3) := by
  have fD : F1 D = none := by
    cases q : F1 D with
    | none => rfl
    | some u => rw [E.g.s D u q] at hD; cases hD
  -- behind i items
  let St' : Nat → Hp → Prop := fun i H => ∃ F2 ds acc rest as, Grow F1 H1 F2 H ∧ Lim H ∧ H D = some (.lst acc) ∧ F2 D = none ∧ RTs X.K X.mg F2 H ds acc as ∧ ((D :: as).Nodup ∧ ∀ a ∈ as, F2 a = none ∧ H1 a = none) ∧ ds.length ≤ i ∧ compD bd vt ve (wipeD δ vs) (xs.drop i) = .ok rest ∧ ds ++ rest = ys
  refine ⟨fun i m H => m = xs.length - i ∧ i ≤ xs.length ∧ St' i H, ⟨xs.length, by simp, Nat.zero_le _, ?_⟩, ?_⟩
  · refine ⟨F1, [], [], ys, [], ⟨.refl _, fun b u e => ?_, fun b u e => ?_, fun _ _ h => h⟩, E.lim.put (fun xs h => by rcases h with h | h <;> cases h; exact Nat.zero_le _) (fun _ _ h => by cases h), upd_same, fD, RTs.of .nil, ⟨by simp, fun a ha => by cases ha⟩, Nat.zero_le _, hc, rfl⟩
    · rw [upd_ne (ne_of_none e hD)]; exact e
    · rw [upd_ne (ne_of_none e fD)]; exact E.g.s _ _ e
  · rintro i m H ⟨rfl, hi, F2, ds, acc, rest, as, gr, l, h1, h2, h3, hna, h4, h5, h6⟩
    obtain ⟨ig, is⟩ := it F2 H gr.f gr.s l i
    by_cases hlt : i < xs.length
    · refine .inr ?_
      obtain ⟨go, yl⟩ := ig xs[i] (List.getElem?_eq_getElem hlt)
      refine ⟨go, St' (i + 1), fun H' p' => ⟨xs.length - (i + 1), by omega, rfl, hlt, p'⟩, fun x H' y => ?_⟩
      obtain ⟨l3, F3, g3, r3⟩ := yl x H' y
      have hE := ((E.grow gr l).wipe vs).grow g3 l3
      rw [List.drop_eq_getElem_cons hlt] at h5
      unfold compD at h5
      cases hb : bd xs[i] (wipeD δ vs) with
      | none => rw [hb] at h5; cases h5
      | some δ1 =>
        rw [hb] at h5
        simp only [lft_some, ok_bind] at h5
        refine qg F0 H0 F3 H' _ _ _ _ _ hE r3 ⟨δ1, hb, fun σ2 w2 E2 => ⟨?_, ?_⟩⟩
        · have w := w2 vs hsl
          rw [w]
          have idem : ∀ us : List Nat, (∀ j ∈ us, j ∈ vs) → wipe (wipe σ vs) us = wipe σ vs := by
            intro us
            induction us with
            | nil => intro _; rfl
            | cons u us ih =>
              intro hu
              show (wipe (wipe σ vs) us).set u none = _
              rw [ih fun j hj => hu j (List.mem_cons_of_mem _ hj)]
              refine List.ext_getElem? fun j => ?_
              by_cases hj : j = u
              · subst hj
                by_cases hl : j < (wipe σ vs).length
                · rw [List.getElem?_set_self hl]
                  cases hw : (wipe σ vs)[j]? with
                  | none => rw [List.getElem?_eq_none_iff] at hw; omega
                  | some o =>
                    cases o with
                    | none => rfl
                    | some z => exact absurd (hu j List.mem_cons_self) (wipe_some hw).2
                · rw [List.getElem?_eq_none (by rw [List.length_set]; omega), List.getElem?_eq_none (by omega)]
              · rw [List.getElem?_set_ne (Ne.symm hj)]
          exact idem vs fun j hj => hj
        · refine qt F0 H0 F3 H' σ2 δ1 _ E2 ?_
          cases hv : vt δ1 with
          | error er => rw [hv] at h5; cases h5
          | ok b =>
            rw [hv] at h5
            intro F4 H4 g4 l4
            have d4 : H4 D = some (.lst acc) := g4.h _ _ (g3.h _ _ h1)
            have f4 : F4 D = none := g4.n D (by rw [g3.h _ _ h1]; simp) (g3.n D (by rw [h1]; simp) h2)
            cases b with
            | false =>
              rw [if_neg Bool.false_ne_true]
              exact ⟨F4, ds, acc, rest, as, gr.trans (g3.trans g4), l4, d4, f4, RTs.mono (g3.f.trans g4.f) ds acc as (fun b o hb _ => (g3.trans g4).h _ _ hb) h3, ⟨hna.1, fun b hb => ⟨(g3.trans g4).n b (by obtain ⟨xs, e⟩ := RTs.live ds acc as h3 b hb; rw [e]; simp) (hna.2 b hb).1, (hna.2 b hb).2⟩⟩, by omega, by simpa using h5, h6⟩
            | true =>
              rw [if_pos rfl]
              refine qe F0 H0 F4 H4 σ2 δ1 _ (E2.grow g4 l4) ?_
              simp only [noX_ok, ok_bind, if_true] at h5
              cases hw : ve δ1 with
              | error er => rw [hw] at h5; cases h5
              | ok y =>
                rw [hw] at h5
                intro v as5 F5 H5 g5 l5 r5 n5 z5
                simp only [noX_ok, ok_bind] at h5
                have d5 : H5 D = some (.lst acc) := g5.h _ _ d4
                have f5 : F5 D = none := g5.n D (by rw [d4]; simp) f4
                have hal : acc.length ≤ i := by rw [RTs.length h3]; exact h4
                refine ⟨acc, d5, by omega, ?_⟩
                cases hr : compD bd vt ve (wipeD δ vs) (List.drop (i + 1) xs) with
                | error er => rw [hr] at h5; cases h5
                | ok ys' =>
                  rw [hr] at h5
                  cases h5
                  have gg2 := g3.trans (g4.trans g5)
                  have live2 : ∀ b ∈ as, H b ≠ none := fun b hb => by obtain ⟨xs, e⟩ := RTs.live ds acc as h3 b hb; rw [e]; simp
                  have n5D : ∀ b ∈ as5, b ≠ D := fun b hb z => by subst z; rw [(z5 b hb).2] at d4; cases d4
                  have m5 : ∀ b o, H5 b = some o → (b ∈ as5 ∨ ∃ xs, o = .tup xs) → upd H5 D (.lst (acc ++ [v])) b = some o := fun b o hb hc => by
                    have : b ≠ D := by
                      rcases hc with hc | ⟨xs, hc⟩
                      · exact n5D b hc
                      · intro z; subst z; rw [d5] at hb; cases hb; cases hc
                    rw [upd_ne this]; exact hb
                  have nasD : ∀ b ∈ as, b ≠ D := fun b hb z => (List.nodup_cons.mp hna.1).1 (z ▸ hb)
                  have m1 : ∀ b o, H b = some o → (b ∈ as ∨ ∃ xs, o = .tup xs) → upd H5 D (.lst (acc ++ [v])) b = some o := fun b o hb hc => by
                    have : b ≠ D := by
                      rcases hc with hc | ⟨xs, hc⟩
                      · exact nasD b hc
                      · intro z; subst z; rw [h1] at hb; cases hb; cases hc
                    rw [upd_ne this]; exact gg2.h _ _ hb
                  have dis : ∀ b ∈ as, b ∉ as5 := fun b hb z => by
                    have := (g3.trans g4).h b
                    cases hq : H b with
                    | none => exact live2 b hb hq
                    | some o => have := (g3.trans g4).h _ _ hq; rw [(z5 b z).2] at this; cases this
                  refine ⟨F5, ds ++ [y], acc ++ [v], ys', as ++ as5, ?_, l5.put (fun zs h => ?_) (fun _ _ h => by cases h), upd_same, f5, RTs.snoc (RTs.mono gg2.f ds acc as m1 h3) (RT.mono (.refl _) y v as5 m5 r5), ⟨?_, fun b hb => ?_⟩, by simp; omega, hr, by simpa using h6⟩
                  · have gg := gr.trans (g3.trans (g4.trans g5))
                    refine ⟨gg.f, fun b u e => ?_, fun b u e => ?_, gg.n⟩
                    · rw [upd_ne (ne_of_none e hD)]; exact gg.h _ _ e
                    · rw [upd_ne (ne_of_none e f5)]; exact gg.s _ _ e
                  · rcases h with h | h
                    · cases h; simp; omega
                    · cases h
                  · rw [← List.cons_append]
                    refine List.nodup_append.mpr ⟨hna.1, n5, fun b hb c hc e => ?_⟩
                    subst e
                    rcases List.mem_cons.mp hb with hb | hb
                    · exact n5D b hc hb
                    · exact dis b hb hc
                  · rcases List.mem_append.mp hb with hb | hb
                    · exact ⟨gg2.n b (live2 b hb) (hna.2 b hb).1, (hna.2 b hb).2⟩
                    · refine ⟨(z5 b hb).1, ?_⟩
                      cases hq : H1 b with
                      | none => rfl
                      | some o => have := (gr.trans (g3.trans g4)).h _ _ hq; rw [(z5 b hb).2] at this; cases this
    · have e : i = xs.length := by omega
      subst e
      refine .inl ⟨is rfl, ?_⟩
      rw [List.drop_length] at h5
      cases h5
      rw [List.append_nil] at h6
      subst h6
      exact po acc as F2 H gr l h2 h1 h3 hna.1 hna.2
variable {tg elt iter : Expr} {ifs : List Expr} {scope : Scope} {own : List (Str × Nat)} {it : EvA} {sl ws : List Nat} {bd : Bd} {vt : EvT} {ve : Ev}
theorem blk_x (h : Blk X scope fun Y => DX Y WF elt ve) : ∃ te : TE, (Blk X scope fun Y => PE Y elt te) ∧ ∀ F0 H0 F H σ δ (Q : VK), EnvOk X.K X.mg F0 H0 F H σ δ → PostR X.K X.mg WF F H σ Q (ve δ) → te σ H Q := by
  refine ⟨fun σ H Q => ∀ s H' C cl fp, Classical.choose (h s H' C cl fp) σ H Q, fun s H C cl fp => PE.weak (Classical.choose_spec (h s H C cl fp)).1 fun _ _ _ q => q s H C cl fp, fun F0 H0 F H σ δ Q E po s H' C cl fp => (Classical.choose_spec (h s H' C cl fp)).2 F0 H0 F H σ δ Q E po⟩
/-- a comprehension of new lists -/
theorem dx_comp (hc : X.calm = true) (hN : X.N.Nodup) (hi : DI X W tg iter it) (ok : BlkOk X.N X.env.scope scope own) (hg : Blk X scope fun Y => DG Y tg sl bd) (ht : Blk X scope fun Y => DTs Y WF ifs vt) (he : Blk X scope fun Y => DX Y WF elt ve)
    (hw : own.map (·.2) = ws := by rfl) (hsl : ∀ i ∈ sl, i ∈ own.map (·.2) := by decide) (hs : ∀ x, foldedSetIterable iter X.env x = pure x := by intro _; rfl) :
    DX X W (.ListComp elt [⟨tg, iter, ifs, 0⟩] scope pos) (eMt (fComp it ws bd vt ve)) := by
  obtain ⟨t, pi, qi⟩ := hi
  obtain ⟨g, pg, qg⟩ := blk_g hg
  obtain ⟨tt, pt, qt⟩ := blk_t ht
  obtain ⟨te, pe, qe⟩ := blk_x he
  refine ⟨_, pe_lc hc hN pi ok pg pt pe hs, fun F0 H0 F H σ δ Q E po => ?_⟩
  refine qi F0 H0 F H σ δ _ E ?_
  unfold eMt fComp at po
  cases h : it δ with
  | error er => rw [h] at po; exact po
  | ok xs =>
    rw [h] at po
    intro J F1 H1 g1 l1 hz io D hD
    simp only [ok_bind] at po
    subst hw
    cases hcc : compD bd vt ve (wipeD δ (own.map (·.2))) xs with
    | error er => rw [hcc] at po; exact po.elim
    | ok ys =>
      rw [hcc] at po
      have np : ∀ a, H1 a = none → H a = none := fun a ha => by
        cases q : H a with
        | none => rfl
        | some u => rw [g1.h a u q] at ha; cases ha
      exact compX_run qg qt qe hsl (E.grow g1 l1) hz io hcc D hD fun vs as F' H' g' l' f h r n z => po (.ref D) (D :: as) F' H' (g1.trans g') l' (RT.mtl h r) n fun a ha => by
        rcases List.mem_cons.mp ha with rfl | ha
        · exact ⟨f, np _ hD⟩
        · exact ⟨(z a ha).1, np _ (z a ha).2⟩
end
end DL

namespace DL
open PySem PySem.Spec PyProof.Rows L2
/-! ### places within a tree of own lists -/
/-- what stands at a place -/
def getP : List D → List Nat → Option (List D)
  | ds, [] => some ds
  | ds, n :: p => match ds[n]? with
    | some (.obj "" [] (.non :: es)) => getP es p
    | _ => none
def setP : List D → List Nat → List D → List D
  | _, [], new => new
  | ds, n :: p, new => match ds[n]? with
    | some (.obj "" [] (.non :: es)) => ds.set n (mtl (setP es p new))
    | _ => ds
theorem getP_cons {ds es : List D} {n : Nat} {p : List Nat} (h : getP ds (n :: p) = some es) : ∃ fs, ds[n]? = some (mtl fs) ∧ getP fs p = some es := by
  unfold getP at h
  split at h
  · rename_i fs e
    exact ⟨fs, e, h⟩
  · cases h
theorem setP_cons {ds fs new : List D} {n : Nat} {p : List Nat} (h : ds[n]? = some (mtl fs)) : setP ds (n :: p) new = ds.set n (mtl (setP fs p new)) := by
  show (match ds[n]? with
    | some (.obj "" [] (.non :: es)) => ds.set n (mtl (setP es p new))
    | _ => ds) = _
  rw [h]
  rfl
theorem getP_snoc : ∀ {p : List Nat} {ds es fs : List D} {n : Nat}, getP ds p = some es → es[n]? = some (mtl fs) → getP ds (p ++ [n]) = some fs
  | [], ds, es, fs, n, h, h2 => by
    unfold getP at h
    cases h
    show getP ds [n] = _
    unfold getP
    rw [h2]
    show getP fs [] = _
    unfold getP; rfl
  | m :: p, ds, es, fs, n, h, h2 => by
    obtain ⟨gs, e, h⟩ := getP_cons h
    show getP ds (m :: (p ++ [n])) = _
    unfold getP
    rw [e]
    exact getP_snoc h h2
/-- the address at a place -/
def AtA (H : Hp) : Addr → List Nat → Addr → Prop
  | a, [], b => b = a
  | a, n :: p, b => ∃ vs a1, H a = some (.lst vs) ∧ vs[n]? = some (.ref a1) ∧ AtA H a1 p b
theorem AtA.mono {H H' : Hp} (s : Same H H') : ∀ {p : List Nat} {a b : Addr}, AtA H a p b → AtA H' a p b
  | [], a, b, h => h
  | n :: p, a, b, ⟨vs, a1, h1, h2, h3⟩ => ⟨vs, a1, s _ _ h1, h2, AtA.mono s h3⟩
theorem AtA.snoc {H : Hp} {c b : Addr} {us : List V} {n : Nat} : ∀ {p : List Nat} {a : Addr}, AtA H a p c → H c = some (.lst us) → us[n]? = some (.ref b) → AtA H a (p ++ [n]) b
  | [], a, h, h1, h2 => by
    have : c = a := h
    subst this
    exact ⟨us, b, h1, h2, rfl⟩
  | m :: p, a, ⟨vs, a1, g1, g2, g3⟩, h1, h2 => ⟨vs, a1, g1, g2, AtA.snoc g3 h1 h2⟩
theorem AtA.unique {H : Hp} : ∀ {p : List Nat} {a b c : Addr}, AtA H a p b → AtA H a p c → b = c
  | [], a, b, c, h1, h2 => h1.trans h2.symm
  | n :: p, a, b, c, ⟨vs, a1, g1, g2, g3⟩, ⟨vs', a1', g1', g2', g3'⟩ => by
    rw [g1] at g1'
    cases g1'
    rw [g2] at g2'
    cases g2'
    exact AtA.unique g3 g3'
section
variable {K : Frag} {mg : Mg} {F H : Hp}
/-- one item of a tree -/
theorem RTs.item : ∀ {ds : List D} {vs : List V} {as : List Addr} {n : Nat} {d : D}, RTs K mg F H ds vs as → ds[n]? = some d → ∃ pre an post v, as = pre ++ an ++ post ∧ vs[n]? = some v ∧ RT K mg F H d v an ∧
    ∀ H' d' an', (∀ a o, H a = some o → (a ∈ pre ∨ a ∈ post ∨ ∃ xs, o = .tup xs) → H' a = some o) → RT K mg F H' d' v an' → RTs K mg F H' (ds.set n d') vs (pre ++ an' ++ post)
  | [], vs, as, n, d, r, h => by simp at h
  | e :: ds, vs, as, 0, d, r, h => by
    unfold RTs at r
    obtain ⟨v, t, a1, a2, rfl, r1, r2, rfl⟩ := r
    have h : e = d := by simpa using h
    subst h
    refine ⟨[], a1, a2, v, by simp, rfl, r1, fun H' d' an' hm r' => ?_⟩
    show RTs K mg F H' (d' :: ds) _ _
    unfold RTs
    exact ⟨v, t, an', a2, rfl, r', RTs.mono (.refl _) ds t a2 (fun a o ha hc => hm a o ha (.inr hc)) r2, by simp⟩
  | e :: ds, vs, as, n + 1, d, r, h => by
    unfold RTs at r
    obtain ⟨v, t, a1, a2, rfl, r1, r2, rfl⟩ := r
    obtain ⟨pre, an, post, u, rfl, h2, h3, h4⟩ := r2.item (n := n) (by simpa using h)
    refine ⟨a1 ++ pre, an, post, u, by simp, h2, h3, fun H' d' an' hm r' => ?_⟩
    show RTs K mg F H' (e :: ds.set n d') _ _
    unfold RTs
    exact ⟨v, t, a1, pre ++ an' ++ post, rfl, RT.mono (.refl _) e v a1 (fun a o ha hc => hm a o ha (hc.imp (List.mem_append_left _) .inr)) r1, h4 H' d' an' (fun a o ha hc => hm a o ha (hc.imp (List.mem_append_right _) id)) r', by simp⟩
/-- an item of a tree is replaced -/
theorem RTs.put : ∀ {ds : List D} {vs : List V} {as : List Addr} {n : Nat}, RTs K mg F H ds vs as → n < ds.length → ∃ pre an post, as = pre ++ an ++ post ∧ n < vs.length ∧
    ∀ H' d' v' an', (∀ a o, H a = some o → (a ∈ pre ∨ a ∈ post ∨ ∃ xs, o = .tup xs) → H' a = some o) → RT K mg F H' d' v' an' → RTs K mg F H' (ds.set n d') (vs.set n v') (pre ++ an' ++ post)
  | [], vs, as, n, r, h => by simp at h
  | e :: ds, vs, as, 0, r, h => by
    unfold RTs at r
    obtain ⟨v, t, a1, a2, rfl, r1, r2, rfl⟩ := r
    refine ⟨[], a1, a2, by simp, by simp, fun H' d' v' an' hm r' => ?_⟩
    show RTs K mg F H' (d' :: ds) (v' :: t) _
    unfold RTs
    exact ⟨v', t, an', a2, rfl, r', RTs.mono (.refl _) ds t a2 (fun a o ha hc => hm a o ha (.inr hc)) r2, by simp⟩
  | e :: ds, vs, as, n + 1, r, h => by
    unfold RTs at r
    obtain ⟨v, t, a1, a2, rfl, r1, r2, rfl⟩ := r
    obtain ⟨pre, an, post, rfl, h2, h4⟩ := r2.put (n := n) (by simpa using h)
    refine ⟨a1 ++ pre, an, post, by simp, by simpa using h2, fun H' d' v' an' hm r' => ?_⟩
    show RTs K mg F H' (e :: ds.set n d') (v :: t.set n v') _
    unfold RTs
    exact ⟨v, t.set n v', a1, pre ++ an' ++ post, rfl, RT.mono (.refl _) e v a1 (fun a o ha hc => hm a o ha (hc.imp (List.mem_append_left _) .inr)) r1, h4 H' d' v' an' (fun a o ha hc => hm a o ha (hc.imp (List.mem_append_right _) id)) r', by simp⟩
/-- a list within a tree is changed -/
theorem RTs.at_path : ∀ {p : List Nat} {ds es : List D} {a : Addr} {vs : List V} {bs : List Addr}, H a = some (.lst vs) → RTs K mg F H ds vs bs → (a :: bs).Nodup → getP ds p = some es →
    ∃ b us cs rest, AtA H a p b ∧ b ∈ a :: rest ∧ H b = some (.lst us) ∧ RTs K mg F H es us cs ∧ bs.Perm (rest ++ cs) ∧
      ∀ H' es' us' cs', (∀ c o, H c = some o → c ≠ b → (c ∈ rest ∨ c = a ∨ ∃ xs, o = .tup xs) → H' c = some o) → H' b = some (.lst us') → RTs K mg F H' es' us' cs' →
        ∃ vs' bs', H' a = some (.lst vs') ∧ RTs K mg F H' (setP ds p es') vs' bs' ∧ bs'.Perm (rest ++ cs')
  | [], ds, es, a, vs, bs, h, r, n, e => by
    unfold getP at e
    cases e
    refine ⟨a, vs, bs, [], rfl, List.mem_cons_self, h, r, .refl _, fun H' es' us' cs' hm hb r' => ⟨us', cs', hb, ?_, .refl _⟩⟩
    unfold setP
    exact r'
  | m :: p, ds, es, a, vs, bs, h, r, nd, e => by
    obtain ⟨fs, e1, e2⟩ := getP_cons e
    obtain ⟨pre, an, post, v, rfl, h2, h3, h4⟩ := r.item e1
    obtain ⟨a1, vs1, bs1, rfl, g1, g2, rfl⟩ := h3.mtl_inv
    obtain ⟨na, nb⟩ := List.nodup_cons.mp nd
    have nb1 : (a1 :: bs1).Nodup := (List.nodup_append.mp (List.nodup_append.mp nb).1).2.1
    obtain ⟨b, us, cs, rest1, q1, q2, q3, q4, q5, q6⟩ := RTs.at_path g1 g2 nb1 e2
    have hb1 : b ∈ a1 :: bs1 := by
      rcases List.mem_cons.mp q2 with h | h
      · exact h ▸ List.mem_cons_self
      · exact List.mem_cons_of_mem _ (q5.mem_iff.mpr (List.mem_append_left _ h))
    have hb : b ∈ pre ++ a1 :: bs1 ++ post := List.mem_append_left _ (List.mem_append_right _ hb1)
    have hab : a ≠ b := fun z => na (z ▸ hb)
    have pm : ∀ xs ys : List Addr, xs.Perm (rest1 ++ ys) → (pre ++ (a1 :: xs) ++ post).Perm ((pre ++ a1 :: rest1 ++ post) ++ ys) := fun xs ys hp => by
      refine (((hp.cons a1).append_left pre).append_right post).trans ?_
      have e1 : pre ++ a1 :: (rest1 ++ ys) ++ post = (pre ++ a1 :: rest1) ++ (ys ++ post) := by simp
      have e2 : pre ++ a1 :: rest1 ++ post ++ ys = (pre ++ a1 :: rest1) ++ (post ++ ys) := by simp
      rw [e1, e2]
      exact List.perm_append_comm.append_left _
    refine ⟨b, us, cs, pre ++ a1 :: rest1 ++ post, ⟨vs, a1, h, h2, q1⟩, ?_, q3, q4, pm _ _ q5, fun H' es' us' cs' hm hbb r' => ?_⟩
    · refine List.mem_cons_of_mem _ (List.mem_append_left _ (List.mem_append_right _ ?_))
      exact q2
    obtain ⟨vs1', bs1', t1, t2, t3⟩ := q6 H' es' us' cs' (fun c o hc hn hx => hm c o hc hn (by
      rcases hx with hx | hx | hx
      · exact .inl (List.mem_append_left _ (List.mem_append_right _ (List.mem_cons_of_mem _ hx)))
      · exact .inl (List.mem_append_left _ (List.mem_append_right _ (hx ▸ List.mem_cons_self)))
      · exact .inr (.inr hx))) hbb r'
    refine ⟨vs, pre ++ (a1 :: bs1') ++ post, hm _ _ h hab (.inr (.inl rfl)), ?_, pm _ _ t3⟩
    rw [setP_cons e1]
    obtain ⟨n1, _, n3⟩ := List.nodup_append.mp nb
    obtain ⟨_, _, n4⟩ := List.nodup_append.mp n1
    refine h4 H' _ _ (fun c o hc hx => hm c o hc (fun z => ?_) ?_) (RT.mtl t1 t2)
    · subst z
      rcases hx with hx | hx | ⟨xs, hx⟩
      · exact n4 c hx c hb1 rfl
      · exact n3 c (List.mem_append_right _ hb1) c hx rfl
      · rw [q3] at hc; cases hc; cases hx
    · rcases hx with hx | hx | hx
      · exact .inl (List.mem_append_left _ (List.mem_append_left _ hx))
      · exact .inl (List.mem_append_right _ hx)
      · exact .inr (.inr hx)
end
section
variable {X : Cx} {W : WX} {e a b : Expr} {ev ea eb : Ev} {pos p pos2 apos cpos spos : Pos}
/-- the tree of a name -/
def treAt (i : Nat) (δ : DEnv) : Option (List D) := match δ[i]? with
  | some (some (.tre ds)) => some ds
  | some (some (.own ds)) => if hasMs ds then none else some ds
  | _ => none
abbrev EvP := DEnv → M (List Nat)
def DPl (X : Cx) (W : WX) (i : Nat) (e : Expr) (pe : EvP) : Prop := ∃ t : TE, PE X e t ∧ ∀ F0 H0 F H σ δ (Q : VK), EnvOk X.K X.mg F0 H0 F H σ δ → (match pe δ with
  | .ok q => ∃ ds es, treAt i δ = some ds ∧ getP ds q = some es ∧ ∀ a b F' H', σ[i]? = some (some (.ref a)) → Grow F H F' H' → Lim H' → AtA H' a q b → Q (.ref b) H'
  | .error er => PostX X.K X.mg W F H σ er) → t σ H Q
def pRoot (i : Nat) : EvP := fun δ => lft (treAt i δ) >>= fun _ => .ok []
theorem treAt_cell {K : Frag} {mg : Mg} {H0 F H : Hp} {σ : St} {δ : DEnv} {fp : Nat → List Addr} (P : Fps K mg H0 F H σ δ fp) {i : Nat} {ds : List D} (h : treAt i δ = some ds) :
    ∃ c a vs bs, δ[i]? = some (some c) ∧ σ[i]? = some (some (.ref a)) ∧ H a = some (.lst vs) ∧ RTs K mg F H ds vs bs ∧ fp i = a :: bs := by
  unfold treAt at h
  split at h
  · rename_i ds' e
    cases h
    obtain ⟨v, h1, a, vs, bs, e1, h2, r, e2⟩ := P.c i _ e
    rw [e1] at h1
    exact ⟨_, a, vs, bs, e, h1, h2, r, e2⟩
  · rename_i ds' e
    split at h
    · cases h
    · cases h
      obtain ⟨v, h1, a, vs, e1, h2, r, e2⟩ := P.c i _ e
      rw [e1] at h1
      exact ⟨_, a, vs, [], e, h1, h2, RTs.of r, e2⟩
  · cases h
theorem dpl_root {i : Nat} {x : Str} (hN : X.N[i]? = some x) (hv : Vis X.env.scope x) (hd : (x == ("__debug__" : Str)) = false := by decide) (hcd : (x == ("__classdict__" : Str)) = false := by decide) : DPl X W i (.Name x p) (pRoot i) := by
  refine ⟨_, pe_var hN hv hd hcd, fun F0 H0 F H σ δ Q E po => ?_⟩
  unfold pRoot at po
  cases ht : treAt i δ with
  | none => rw [ht] at po; exact po.elim
  | some ds =>
    rw [ht] at po
    obtain ⟨ds', es, _, _, po⟩ := po
    obtain ⟨fp, P⟩ := E.ex
    obtain ⟨c, a, vs, bs, h1, h2, h3, h4, h5⟩ := treAt_cell P ht
    exact ⟨.ref a, h2, po a a F H h2 (.refl E.g.s) E.lim rfl⟩
/-- x[k] within the tree -/
def pIx (i : Nat) (pe : EvP) (k : Ev) : EvP := fun δ => pe δ >>= fun q => lft (treAt i δ) >>= fun ds => lft (getP ds q) >>= fun es => k δ >>= fun j => match j with
  | .int j => lft (ixN es.length j) >>= fun n => lft (getP ds (q ++ [n])) >>= fun _ => .ok (q ++ [n])
  | _ => stk
theorem getP_last : ∀ {q : List Nat} {ds es fs : List D} {n : Nat}, getP ds q = some es → getP ds (q ++ [n]) = some fs → es[n]? = some (mtl fs)
  | [], ds, es, fs, n, h, h2 => by
    unfold getP at h
    cases h
    obtain ⟨gs, e1, e2⟩ := getP_cons (p := []) h2
    unfold getP at e2
    cases e2
    exact e1
  | m :: q, ds, es, fs, n, h, h2 => by
    obtain ⟨gs, e1, e2⟩ := getP_cons h
    obtain ⟨gs', e1', e2'⟩ := getP_cons (p := q ++ [n]) h2
    rw [e1] at e1'
    have : gs = gs' := by
      have e := Option.some.inj e1'
      unfold mtl at e
      injection e with _ _ e
      injection e
    subst this
    exact getP_last e2 e2'
theorem AtA.list {K : Frag} {mg : Mg} {F H : Hp} {ds es : List D} {q : List Nat} {a b : Addr} {vs : List V} {bs : List Addr} (h : H a = some (.lst vs)) (r : RTs K mg F H ds vs bs) (nd : (a :: bs).Nodup) (hg : getP ds q = some es) (hb : AtA H a q b) :
    ∃ us cs, H b = some (.lst us) ∧ RTs K mg F H es us cs := by
  obtain ⟨b', us, cs, _, q1, _, q3, q4, _⟩ := RTs.at_path h r nd hg
  rw [AtA.unique hb q1]
  exact ⟨us, cs, q3, q4⟩
theorem dpl_ix {i : Nat} {pe : EvP} (h : DPl X W i a pe) (hb : DE X W b eb) (hs : PlainIx b := by exact fun _ _ => rfl) : DPl X W i (.Subscript a b pos) (pIx i pe eb) := by
  obtain ⟨ta, pa, qa⟩ := h
  obtain ⟨tb, pb, qb⟩ := hb
  refine ⟨_, PE.suf (pe_ix ix_seq pa pb hs), fun F0 H0 F H σ δ Q E po => ?_⟩
  refine qa F0 H0 F H σ δ _ E ?_
  unfold pIx at po
  cases hq : pe δ with
  | error er => rw [hq] at po; exact po
  | ok q =>
    rw [hq] at po
    simp only [ok_bind] at po
    cases ht : treAt i δ with
    | none => rw [ht] at po; exact po.elim
    | some ds =>
    rw [ht] at po
    simp only [lft_some, ok_bind] at po
    cases hg : getP ds q with
    | none => rw [hg] at po; exact po.elim
    | some es =>
    rw [hg] at po
    simp only [lft_some, ok_bind] at po
    refine ⟨ds, es, rfl, hg, fun a1 b1 F1 H1 ha g l hat => ?_⟩
    refine qb F0 H0 F1 H1 σ δ _ (E.grow g l) ?_
    cases hj : eb δ with
    | error er => rw [hj] at po; exact PostX.grow g po
    | ok j =>
      rw [hj] at po
      simp only [ok_bind] at po
      intro v F2 H2 g2 l2 r2
      cases j with
      | int j =>
        simp only at po
        cases hn : ixN es.length j with
        | none => rw [hn] at po; exact po.elim
        | some n =>
        rw [hn] at po
        simp only [lft_some, ok_bind] at po
        cases hg2 : getP ds (q ++ [n]) with
        | none => rw [hg2] at po; exact po.elim
        | some fs =>
        rw [hg2] at po
        simp only [lft_some, ok_bind] at po
        obtain ⟨ds', es', e1, e2, po⟩ := po
        have gg := g.trans g2
        obtain ⟨fp, P⟩ := E.ex
        obtain ⟨c, a', vs, bs, c1, c2, c3, c4, c5⟩ := treAt_cell P ht
        rw [ha] at c2
        cases c2
        have nd := P.n i c c1
        rw [c5] at nd
        obtain ⟨us, cs, u1, u2⟩ := AtA.list (gg.h _ _ c3) (RTs.mono gg.f ds vs bs (fun b o hb _ => gg.h _ _ hb) c4) nd hg (AtA.mono g2.h hat)
        have he := getP_last hg hg2
        obtain ⟨pre, an, post, w, _, w2, w3, _⟩ := u2.item he
        obtain ⟨c0, vs0, bs0, rfl, g1, g3, _⟩ := w3.mtl_inv
        refine .inl ⟨b1, us, j, .ref c0, rfl, r2.int_inv, .of u1, ?_, fun _ => po a1 c0 F2 H2 ha gg l2 (AtA.snoc (AtA.mono g2.h hat) u1 w2)⟩
        unfold L2.atI
        rw [u2.length, hn]
        exact w2
      | _ => exact po.elim
/-- the tree of a name, changed at a place -/
theorem EnvOk.atP {K : Frag} {mg : Mg} {F0 : Bs} {H0 F H F' H' : Hp} {σ : St} {δ : DEnv} {i : Nat} {ds es es' : List D} {q : List Nat} {a b : Addr} {us' : List V}
    (E : EnvOk K mg F0 H0 F H σ δ) (ht : treAt i δ = some ds) (hg : getP ds q = some es) (ha : σ[i]? = some (some (.ref a))) (g : Grow F H F' H') (l : Lim H') (hb : AtA H' a q b) (hl : us'.length ≤ sizeLine)
    (mk : ∀ us cs, H' b = some (.lst us) → RTs K mg F' H' es us cs → (∀ c ∈ cs, c ≠ b ∧ F' c = none ∧ H c ≠ none) → cs.Nodup → ∃ cs', RTs K mg F' (upd H' b (.lst us')) es' us' cs' ∧ cs'.Nodup ∧ ∀ c ∈ cs', c ∈ cs ∨ (F' c = none ∧ H c = none)) :
    EnvOk K mg F0 H0 F' (upd H' b (.lst us')) σ (δ.set i (some (.tre (setP ds q es')))) := by
  obtain ⟨fp, P⟩ := E.ex
  obtain ⟨c, a', vs, bs, c1, c2, c3, c4, c5⟩ := treAt_cell P ht
  rw [ha] at c2
  cases c2
  have nd := P.n i c c1
  have hz := P.z i c c1
  rw [c5] at nd hz
  have hil : i < δ.length := by
    rcases Nat.lt_or_ge i δ.length with h | h
    · exact h
    · rw [List.getElem?_eq_none h] at c1; cases c1
  obtain ⟨b', us, cs, rest, q1, q2, q3, q4, q5, q6⟩ := RTs.at_path (g.h _ _ c3) (RTs.mono g.f ds vs bs (fun b o hb _ => g.h _ _ hb) c4) nd hg
  have eb := AtA.unique hb q1
  subst eb
  have live : ∀ x ∈ a :: bs, H x ≠ none := fun x hx => by
    rcases List.mem_cons.mp hx with rfl | hx
    · rw [c3]; simp
    · obtain ⟨xs, e⟩ := RTs.live ds vs bs c4 x hx
      rw [e]; simp
  have np : (a :: (rest ++ cs)).Nodup := (q5.cons a).nodup_iff.mp nd
  have n1 : ((a :: rest) ++ cs).Nodup := by simpa using np
  obtain ⟨nr, nc, nrc⟩ := List.nodup_append.mp n1
  have inb : ∀ x, x ∈ a :: rest ∨ x ∈ cs → x ∈ a :: bs := fun x hx => by
    rcases hx with hx | hx
    · rcases List.mem_cons.mp hx with rfl | hx
      · exact List.mem_cons_self
      · exact List.mem_cons_of_mem _ (q5.mem_iff.mpr (List.mem_append_left _ hx))
    · exact List.mem_cons_of_mem _ (q5.mem_iff.mpr (List.mem_append_right _ hx))
  have fN : ∀ x ∈ a :: bs, F' x = none := fun x hx => g.n x (live x hx) (hz x hx).1
  obtain ⟨cs', r', nd', sub⟩ := mk us cs q3 q4 (fun x hx => ⟨fun z => nrc x (z ▸ q2) x hx rfl, fN x (inb x (.inr hx)), live x (inb x (.inr hx))⟩) nc
  have hbn : b ∈ a :: bs := inb b (.inl q2)
  obtain ⟨vs', bs', t1, t2, t3⟩ := q6 (upd H' b (.lst us')) es' us' cs' (fun x o hx hn _ => by rw [upd_ne hn]; exact hx) upd_same r'
  have nnew : (a :: bs').Nodup := by
    refine (t3.cons a).nodup_iff.mpr ?_
    have : ((a :: rest) ++ cs').Nodup := by
      refine List.nodup_append.mpr ⟨nr, nd', fun x hx y hy e => ?_⟩
      subst e
      rcases sub x hy with h | h
      · exact nrc x hx x h rfl
      · exact live x (inb x (.inl hx)) h.2
    simpa using this
  have mem' : ∀ x ∈ a :: bs', x ∈ a :: bs ∨ (F' x = none ∧ H x = none) := fun x hx => by
    have hx : x ∈ (a :: rest) ++ cs' := by
      have := (t3.cons a).mem_iff.mp hx
      simpa using this
    rcases List.mem_append.mp hx with hx | hx
    · exact .inl (inb x (.inl hx))
    · rcases sub x hx with h | h
      · exact .inl (inb x (.inr h))
      · exact .inr h
  have H0n : ∀ x, H x = none → H0 x = none := fun x hx => by
    cases e : H0 x with
    | none => rfl
    | some o => rw [E.g.h _ _ e] at hx; cases hx
  have gg := E.g.trans g
  refine E.oneP P i (v := .ref a) (as := a :: bs') ⟨gg.f, fun x o hx => ?_, fun x o hx => ?_, gg.n⟩ (l.put (fun xs h => ?_) (fun _ _ h => by cases h)) rfl (fun _ => ha) (fun j _ => rfl) ⟨a, vs', bs', rfl, t1, t2, rfl⟩ nnew (fun x hx => ?_) g.f (fun j c' hj e => ?_) (fun _ _ _ z => by cases z)
  · have : x ≠ b := fun z => by subst z; rw [(hz x hbn).2] at hx; cases hx
    rw [upd_ne this]; exact gg.h _ _ hx
  · have : x ≠ b := fun z => by subst z; rw [fN x hbn] at hx; cases hx
    rw [upd_ne this]; exact gg.s _ _ hx
  · rcases h with h | h
    · cases h; exact hl
    · cases h
  · rcases mem' x hx with h | h
    · exact ⟨fN x h, (hz x h).2⟩
    · exact ⟨h.1, H0n x h.2⟩
  · have hd := P.d j i c' c hj e c1
    obtain ⟨w, w1, w2⟩ := P.c j c' e
    have lj : ∀ x ∈ fp j, H x ≠ none := fun x hx => by obtain ⟨o, e, _⟩ := w2.live x hx; rw [e]; simp
    refine ⟨fun x o hx hc => ?_, fun x hx => ⟨g.n x (lj x hx) (P.z j c' e x hx).1, fun z => ?_⟩⟩
    · have : x ≠ b := fun z => by
        subst z
        rcases hc with hc | ⟨xs, hc⟩
        · exact hd x hc (by rw [c5]; exact hbn)
        · have := g.h _ _ hx
          rw [q3] at this
          cases this
          cases hc
      rw [upd_ne this]; exact g.h _ _ hx
    · rcases mem' x z with h | h
      · exact hd x hx (by rw [c5]; exact h)
      · exact lj x hx h.2
/-- place.append(e) -/
def sAppP (i : Nat) (pe : EvP) (e : Ev) : Sv := fun δ => pe δ >>= fun q => lft (treAt i δ) >>= fun ds => lft (getP ds q) >>= fun es => e δ >>= fun d =>
  if es.length < sizeLine then .ok (.nx (δ.set i (some (.tre (setP ds q (es ++ [d])))))) else stk
theorem ds_appP {i : Nat} {pe : EvP} (hp : DPl X W i b pe) (h : DX X W a ea)
    (hbase : attributeBase b "append" X.env (eval b X.env) = eval b X.env := by rfl)
    (hfew : ((backTo cpos (starEach [a] X.env)).all (fun x => !x.1) && (backToKw cpos (keywordEach [] X.env)).all (fun x => x.1.isSome) && decide (([a] : List Expr).length + ([] : List Keyword).length + (if ([] : List Keyword).isEmpty then 0 else 1) < 30)) = true := by rfl)
    (hline : (apos.endLine == cpos.line) = true := by rfl) (hst : starEach [a] X.env = (false, eval a X.env) :: starEach [] X.env := by rfl) (hs : swapsWith (.Call (.Attribute b "append" apos) [a] [] cpos) none spos.line X.env = pure false := by rfl) :
    DS X W (.Expr (.Call (.Attribute b "append" apos) [a] [] cpos) spos) (sAppP i pe ea) := by
  obtain ⟨tb, pb, qb⟩ := hp
  obtain ⟨t, pt, q⟩ := h
  refine ⟨_, PS.suf (ps_expr (pe_bm PySem.F.plainAttrs_list PySem.F.slot_list_append PySem.F.type_list_append mt_append pb (pa_cons pt pa_nil hst) hbase hfew hline hst rfl) hs), fun F0 H0 F H σ δ Dn E po => ?_⟩
  unfold sAppP at po
  refine qb F0 H0 F H σ δ _ E ?_
  cases hq : pe δ with
  | error er => rw [hq] at po; exact PostS.x po E.g
  | ok q0 =>
    rw [hq] at po
    simp only [ok_bind] at po
    cases ht : treAt i δ with
    | none => rw [ht] at po; exact po.elim
    | some ds =>
    rw [ht] at po
    simp only [lft_some, ok_bind] at po
    cases hg : getP ds q0 with
    | none => rw [hg] at po; exact po.elim
    | some es =>
    rw [hg] at po
    simp only [lft_some, ok_bind] at po
    refine ⟨ds, es, rfl, hg, fun a1 b1 F1 H1 ha g l hat => ?_⟩
    obtain ⟨fp, P⟩ := E.ex
    obtain ⟨c, a', vs, bs, c1, c2, c3, c4, c5⟩ := treAt_cell P ht
    rw [ha] at c2
    cases c2
    have nd := P.n i c c1
    rw [c5] at nd
    obtain ⟨us, cs, u1, u2⟩ := AtA.list (g.h _ _ c3) (RTs.mono g.f ds vs bs (fun b o hb _ => g.h _ _ hb) c4) nd hg hat
    refine ⟨.inl ⟨rfl, _, .of u1⟩, q F0 H0 F1 H1 σ δ _ (E.grow g l) ?_⟩
    cases he : ea δ with
    | error er => rw [he] at po; exact PostX.grow g (PostS.x po E.g)
    | ok d =>
      rw [he] at po
      simp only [ok_bind] at po
      intro v as F2 H2 g2 l2 r2 n2 z2
      split at po
      · rename_i hz
        have gg := g.trans g2
        have hb2 := AtA.mono g2.h hat
        have hz' : us.length < sizeLine := by rw [u2.length]; exact hz
        refine ⟨b1, us, v, rfl, rfl, g2.h _ _ u1, hz', fun l' => po σ F2 _ (E.atP ht hg ha gg l2 hb2 (by rw [List.length_append]; exact hz') fun us' cs' m1 m2 m3 m4 => ?_)⟩
        have : us' = us := by rw [g2.h _ _ u1] at m1; cases m1; rfl
        subst this
        have asb : ∀ x ∈ as, x ≠ b1 := fun x hx z => by subst z; rw [(z2 x hx).2] at u1; cases u1
        refine ⟨cs' ++ as, RTs.snoc (RTs.mono (.refl _) es us' cs' (fun x o hx hc => ?_) m2) (RT.mono (.refl _) d v as (fun x o hx hc => ?_) r2), List.nodup_append.mpr ⟨m4, n2, fun x hx y hy e => ?_⟩, fun x hx => ?_⟩
        · have : x ≠ b1 := fun z => by
            subst z
            rcases hc with hc | ⟨xs, hc⟩
            · exact (m3 x hc).1 rfl
            · rw [m1] at hx; cases hx; cases hc
          rw [upd_ne this]; exact hx
        · have : x ≠ b1 := fun z => by
            subst z
            rcases hc with hc | ⟨xs, hc⟩
            · exact asb x hc rfl
            · rw [m1] at hx; cases hx; cases hc
          rw [upd_ne this]; exact hx
        · subst e
          have h1 := (m3 x hx).2.2
          cases hH : H x with
          | none => exact h1 hH
          | some o => have := g.h _ _ hH; rw [(z2 x hy).2] at this; cases this
        · rcases List.mem_append.mp hx with hx | hx
          · exact .inl hx
          · refine .inr ⟨(z2 x hx).1, ?_⟩
            cases hH : H x with
            | none => rfl
            | some o => have := g.h _ _ hH; rw [(z2 x hx).2] at this; cases this
      · exact po.elim
/-- place[k] = e -/
def sPutP (i : Nat) (pe : EvP) (k e : Ev) : Sv := fun δ => e δ >>= fun d => pe δ >>= fun q => lft (treAt i δ) >>= fun ds => lft (getP ds q) >>= fun es => k δ >>= fun j => match j with
  | .int j => lft (ixN es.length j) >>= fun n => .ok (.nx (δ.set i (some (.tre (setP ds q (es.set n d))))))
  | _ => stk
theorem ds_putP {i : Nat} {pe : EvP} {o k : Expr} {ek : Ev} {kpos : Pos} (hp : DPl X W i o pe) (hk : DE X W k ek) (h : DX X W a ea)
    (hsub : ∀ v, assign (.Subscript o k kpos) X.env v = (do
      let ov ← holding [v] (eval o X.env)
      let iv ← holding [v, ov] (eval k X.env)
      standAt kpos
      holding [v, ov, iv] (setItem ov iv v)
      release [v, ov, iv] []) := by intro _; rfl)
    (hs : swapsWithSole [.Subscript o k kpos] a pos.line X.env = pure false := by rfl) (hw : swappedStores [.Subscript o k kpos] a X.env = pure none := by rfl)
    (h1 : (assignEach [.Subscript o k kpos] X.env).map (·.2) = [assign (.Subscript o k kpos) X.env] := by rfl) :
    DS X W (.Assign [.Subscript o k kpos] a pos) (sPutP i pe ek ea) := by
  obtain ⟨t, pt, q⟩ := h
  obtain ⟨tk, pk, qk⟩ := hk
  obtain ⟨tb, pb, qb⟩ := hp
  refine ⟨_, PS.suf (ps_asg pt (pg_sub pb pk set_list hsub) hs hw h1), fun F0 H0 F H σ δ Dn E po => ?_⟩
  unfold sPutP at po
  refine q F0 H0 F H σ δ _ E ?_
  cases he : ea δ with
  | error er => rw [he] at po; exact PostS.x po E.g
  | ok d =>
    rw [he] at po
    simp only [ok_bind] at po
    intro v as F1 H1 g1 l1 r1 n1 z1
    have E1 := E.grow g1 l1
    refine qb F0 H0 F1 H1 σ δ _ E1 ?_
    cases hq : pe δ with
    | error er => rw [hq] at po; exact PostS.x po E1.g
    | ok q0 =>
      rw [hq] at po
      simp only [ok_bind] at po
      cases ht : treAt i δ with
      | none => rw [ht] at po; exact po.elim
      | some ds =>
      rw [ht] at po
      simp only [lft_some, ok_bind] at po
      cases hg : getP ds q0 with
      | none => rw [hg] at po; exact po.elim
      | some es =>
      rw [hg] at po
      simp only [lft_some, ok_bind] at po
      refine ⟨ds, es, rfl, hg, fun a1 b1 F2 H2 ha g2 l2 hat => ?_⟩
      have g12 := g1.trans g2
      refine qk F0 H0 F2 H2 σ δ _ (E.grow g12 l2) ?_
      cases hj : ek δ with
      | error er => rw [hj] at po; exact PostX.grow g2 (PostS.x po E1.g)
      | ok j =>
        rw [hj] at po
        simp only [ok_bind] at po
        intro v3 F3 H3 g3 l3 r3
        cases j with
        | int j =>
          simp only at po
          have gg := g12.trans g3
          have hb3 := AtA.mono g3.h hat
          obtain ⟨fp, P⟩ := E.ex
          obtain ⟨c, a', vs, bs, c1, c2, c3, c4, c5⟩ := treAt_cell P ht
          rw [ha] at c2
          cases c2
          have nd := P.n i c c1
          rw [c5] at nd
          obtain ⟨us, cs, u1, u2⟩ := AtA.list (gg.h _ _ c3) (RTs.mono gg.f ds vs bs (fun b o hb _ => gg.h _ _ hb) c4) nd hg hb3
          cases hn : ixN es.length j with
          | none => rw [hn] at po; exact po.elim
          | some n =>
          rw [hn] at po
          simp only [lft_some, ok_bind] at po
          have hnl : n < es.length := (ixN_seq hn).2.1
          refine ⟨b1, us, j, n, rfl, r3.int_inv, u1, by rw [u2.length]; exact hn, fun l' => po σ F3 _ (E.atP ht hg ha gg l3 hb3 (by rw [List.length_set]; exact l3.sqL (K := X.K) (.of u1)) fun us' cs' m1 m2 m3 m4 => ?_)⟩
          have : us' = us := by rw [u1] at m1; cases m1; rfl
          subst this
          obtain ⟨pre, an, post, rfl, k1, k2⟩ := m2.put hnl
          have live1 : ∀ x ∈ as, ∃ o, H1 x = some o := fun x hx => by obtain ⟨xs, e⟩ := RT.live d v as r1 x hx; exact ⟨_, e⟩
          have as3 : ∀ x ∈ as, F3 x = none ∧ H x = none := fun x hx => by
            obtain ⟨o, e⟩ := live1 x hx
            refine ⟨(g2.trans g3).n x (by rw [e]; simp) (z1 x hx).1, (z1 x hx).2⟩
          have b1H : H b1 ≠ none := by
            obtain ⟨b', _, _, rest, q1, q2, _, _, q5, _⟩ := RTs.at_path (gg.h _ _ c3) (RTs.mono gg.f ds vs bs (fun b o hb _ => gg.h _ _ hb) c4) nd hg
            rw [AtA.unique hb3 q1]
            rcases List.mem_cons.mp q2 with h | h
            · rw [h, c3]; simp
            · obtain ⟨xs, e⟩ := RTs.live ds vs bs c4 b' (q5.mem_iff.mpr (List.mem_append_left _ h))
              rw [e]; simp
          have asb : ∀ x ∈ as, x ≠ b1 := fun x hx z => b1H (z ▸ (as3 x hx).2)
          obtain ⟨nn1, nn2, nn3⟩ := List.nodup_append.mp m4
          obtain ⟨nn4, nn5, nn6⟩ := List.nodup_append.mp nn1
          have dis : ∀ x, x ∈ pre ∨ x ∈ post → x ∉ as := fun x hx z => (m3 x (by
            rcases hx with hx | hx
            · exact List.mem_append_left _ (List.mem_append_left _ hx)
            · exact List.mem_append_right _ hx)).2.2 (as3 x z).2
          refine ⟨pre ++ as ++ post, k2 _ d v as (fun x o hx hc => ?_) (RT.mono (g2.trans g3).f d v as (fun x o hx hc => ?_) r1), ?_, fun x hx => ?_⟩
          · have : x ≠ b1 := fun z => by
              subst z
              rcases hc with hc | hc | ⟨xs, hc⟩
              · exact (m3 x (List.mem_append_left _ (List.mem_append_left _ hc))).1 rfl
              · exact (m3 x (List.mem_append_right _ hc)).1 rfl
              · rw [m1] at hx; cases hx; cases hc
            rw [upd_ne this]; exact hx
          · have hx3 := (g2.trans g3).h _ _ hx
            have : x ≠ b1 := fun z => by
              subst z
              rcases hc with hc | ⟨xs, hc⟩
              · exact asb x hc rfl
              · rw [m1] at hx3; cases hx3; cases hc
            rw [upd_ne this]; exact hx3
          · refine List.nodup_append.mpr ⟨List.nodup_append.mpr ⟨nn4, n1, fun x hx y hy e => ?_⟩, nn2, fun x hx y hy e => ?_⟩
            · subst e; exact dis x (.inl hx) hy
            · subst e
              rcases List.mem_append.mp hx with hx | hx
              · exact nn3 x (List.mem_append_left _ hx) x hy rfl
              · exact dis x (.inr hy) hx
          · rcases List.mem_append.mp hx with hx | hx
            · rcases List.mem_append.mp hx with hx | hx
              · exact .inl (List.mem_append_left _ (List.mem_append_left _ hx))
              · exact .inr (as3 x hx)
            · exact .inl (List.mem_append_right _ hx)
        | _ => exact po.elim
end
end DL

namespace DL
open PySem PySem.Spec PyProof.Rows L2
section
variable {X : Cx} {W : WX} {tg elt iter : Expr} {ifs : List Expr} {scope : Scope} {own : List (Str × Nat)} {it : EvA} {sl ws : List Nat} {bd : Bd} {vt : EvT} {ve : Ev} {pos spos py : Pos}
theorem tlcX_run {t : TI} {g : TG} {tt : TT} {te : TE} {vs : List Nat}
    (qi : ∀ F0 H0 F H σ δ (Q : It → Hp → Prop), EnvOk X.K X.mg F0 H0 F H σ δ → PostI X.K X.mg W F H σ Q (it δ) → t σ H Q)
    (qg : ∀ F0 H0 F H σ δ d v (Q : St → Hp → Prop), EnvOk X.K X.mg F0 H0 F H σ δ → R X.K X.mg F d v →
      (∃ δ', bd d δ = some δ' ∧ ∀ σ', (∀ vs : List Nat, (∀ i ∈ sl, i ∈ vs) → wipe σ' vs = wipe σ vs) → EnvOk X.K X.mg F0 H0 F H σ' δ' → Q σ' H) → g v σ H Q)
    (qt : ∀ F0 H0 F H σ δ (Q : Bool → Hp → Prop), EnvOk X.K X.mg F0 H0 F H σ δ → PostT X.K X.mg WF F H σ Q (vt δ) → tt σ H Q)
    (qe : ∀ F0 H0 F H σ δ (Q : VK), EnvOk X.K X.mg F0 H0 F H σ δ → PostR X.K X.mg WF F H σ Q (ve δ) → te σ H Q)
    (hsl : ∀ i ∈ sl, i ∈ vs) {F0 : Bs} {H0 F H : Hp} {σ : St} {δ : DEnv} {Q : VK} (E : EnvOk X.K X.mg F0 H0 F H σ δ) (po : PostR X.K X.mg W F H σ Q (eMt (fComp it vs bd vt ve) δ)) : tLc t g tt te vs σ H Q := by
  refine qi F0 H0 F H σ δ _ E ?_
  unfold eMt fComp at po
  cases h : it δ with
  | error er => rw [h] at po; exact po
  | ok xs =>
    rw [h] at po
    intro J F1 H1 g1 l1 hz io D hD
    simp only [ok_bind] at po
    cases hcc : compD bd vt ve (wipeD δ vs) xs with
    | error er => rw [hcc] at po; exact po.elim
    | ok ys =>
      rw [hcc] at po
      have np : ∀ a, H1 a = none → H a = none := fun a ha => by
        cases q : H a with
        | none => rfl
        | some u => rw [g1.h a u q] at ha; cases ha
      exact compX_run qg qt qe hsl (E.grow g1 l1) hz io hcc D hD fun vs as F' H' g' l' f h r n z => po (.ref D) (D :: as) F' H' (g1.trans g') l' (RT.mtl h r) n fun a ha => by
        rcases List.mem_cons.mp ha with rfl | ha
        · exact ⟨f, np _ hD⟩
        · exact ⟨(z a ha).1, np _ (z a ha).2⟩
theorem ds_setXLc {i : Nat} {y : Str} (hc : X.calm = true) (hN : X.N.Nodup) (hy : X.N[i]? = some y) (hyl : X.env.scope.names.lookup y = some .local)
    (hsw : swapsWith (.ListComp elt [⟨tg, iter, ifs, 0⟩] scope pos) (some (.Name y py)) spos.line X.env = pure true) (hi : DI X W tg iter it) (ok : BlkOk X.N X.env.scope scope own) (hg : Blk X scope fun Y => DG Y tg sl bd) (ht : Blk X scope fun Y => DTs Y WF ifs vt) (he : Blk X scope fun Y => DX Y WF elt ve)
    (hw : own.map (·.2) = ws := by rfl) (hsl : ∀ i ∈ sl, i ∈ own.map (·.2) := by decide) (hs : ∀ x, foldedSetIterable iter X.env x = pure x := by intro _; rfl) :
    DS X W (.Assign [.Name y py] (.ListComp elt [⟨tg, iter, ifs, 0⟩] scope pos) spos) (sSetX i (eMt (fComp it ws bd vt ve))) := by
  obtain ⟨t, pi, qi⟩ := hi
  obtain ⟨g, pg, qg⟩ := blk_g hg
  obtain ⟨tt, pt, qt⟩ := blk_t ht
  obtain ⟨te, pe, qe⟩ := blk_x he
  subst hw
  refine ⟨_, PS.suf (ps_setLc hc hN hy hyl hsw pi ok pg pt pe hs), fun F0 H0 F H σ δ Dn E po => tlcX_run qi qg qt qe hsl E ?_⟩
  unfold sSetX at po
  cases he : eMt (fComp it (own.map (·.2)) bd vt ve) δ with
  | error er => rw [he] at po; exact PostS.x po E.g
  | ok d =>
    rw [he] at po
    intro v as F1 H1 g1 l1 r1 n1 z1
    simp only [ok_bind] at po
    cases hc : cellX d with
    | none => rw [hc] at po; exact po.elim
    | some c =>
      rw [hc] at po
      obtain ⟨fp, P⟩ := E.ex
      obtain ⟨k1, k2⟩ := cellX_ok hc r1
      refine fun _ => po _ F1 H1 ((E.grow g1 l1).setX (P.grow g1) i k1 n1 (fun a ha => ⟨(z1 a ha).1, ?_⟩) (Dis.new P fun a ha => (z1 a ha).2) k2).1
      cases q : H0 a with
      | none => rfl
      | some u => have := (z1 a ha).2; rw [E.g.h _ _ q] at this; cases this
end
end DL

local macro_rules | `(tactic| walk_at "vis") => `(tactic| first | exact .inl rfl | exact .inr (.inl rfl) | exact .inr (.inr rfl))
local macro_rules | `(tactic| walk_at "loc") => `(tactic| first | exact .inl rfl | exact .inr rfl)
local macro_rules | `(tactic| walk_at "blk") => `(tactic| (dsimp only [L2.Cx.blk, PySem.compEnvC]; decide +kernel))
namespace K17
open PySem PySem.Spec PyProof.Rows L2 DL
/-! ### the text by places -/
def topS (i : Nat) : Stmt := PySem.Challenge.pw_endsastold_k17_middles_of_two_pairs.main.body.getD i (.Pass ⟨0, 0, 0, 0⟩)
abbrev s__law_row : Stmt := topS 24
theorem sc__law_row : FnScope ["script", "at", "size", "limit", "cell", "digits", "first", "row", "index", "second"] ["script", "at", "size", "limit"] (defScope s__law_row) := ⟨rfl, rfl, rfl, by decide +kernel, rfl, by decide +kernel, by decide +kernel⟩
abbrev s__law_told : Stmt := topS 30
theorem sc__law_told : FnScope ["script", "at", "worlds", "outcomes", "way", "told", "room", "number", "drawn", "share", "members", "index", "tops", "liking", "least"] ["script", "at", "worlds", "outcomes", "way"] (defScope s__law_told) := ⟨rfl, rfl, rfl, by decide +kernel, rfl, by decide +kernel, by decide +kernel⟩
abbrev s__law_pairs : Stmt := topS 29
theorem sc__law_pairs : FnScope ["told", "pairs", "number", "outcome"] ["told"] (defScope s__law_pairs) := ⟨rfl, rfl, rfl, by decide +kernel, rfl, by decide +kernel, by decide +kernel⟩
abbrev s_is_set : Stmt := topS 19
theorem sc_is_set : FnScope ["members", "outcomes", "last", "member"] ["members", "outcomes"] (defScope s_is_set) := ⟨rfl, rfl, rfl, by decide +kernel, rfl, by decide +kernel, by decide +kernel⟩
abbrev s_check_told : Stmt := topS 21
theorem sc_check_told : FnScope ["told", "worlds", "outcomes", "number"] ["told", "worlds", "outcomes"] (defScope s_check_told) := ⟨rfl, rfl, rfl, by decide +kernel, rfl, by decide +kernel, by decide +kernel⟩
abbrev s_liking_of : Stmt := topS 3
theorem sc_liking_of : FnScope ["points", "steps", "point"] ["points"] (defScope s_liking_of) := ⟨rfl, rfl, rfl, by decide +kernel, rfl, by decide +kernel, by decide +kernel⟩
abbrev s_is_liking : Stmt := topS 4
theorem sc_is_liking : FnScope ["levels", "outcomes"] ["levels", "outcomes"] (defScope s_is_liking) := ⟨rfl, rfl, rfl, by decide +kernel, rfl, by decide +kernel, by decide +kernel⟩
abbrev s_is_world : Stmt := topS 20
theorem sc_is_world : FnScope ["world", "people", "outcomes", "liking"] ["world", "people", "outcomes"] (defScope s_is_world) := ⟨rfl, rfl, rfl, by decide +kernel, rfl, by decide +kernel, by decide +kernel⟩
abbrev s_Rule___init__ : Stmt := inClass (topS 22) 0
theorem sc_Rule___init__ : FnScope ["self", "people", "outcomes", "worlds", "told", "number", "liking", "world", "members", "pairs", "outcome"] ["self", "people", "outcomes", "worlds", "told"] (defScope s_Rule___init__) := ⟨rfl, rfl, rfl, by decide +kernel, rfl, by decide +kernel, by decide +kernel⟩
abbrev s__law_below : Stmt := topS 31
theorem sc__law_below : FnScope ["worlds", "kept", "place", "who", "liking", "one"] ["worlds", "kept", "place", "who"] (defScope s__law_below) := ⟨rfl, rfl, rfl, by decide +kernel, rfl, by decide +kernel, by decide +kernel⟩
abbrev s__law_reaches : Stmt := topS 34
theorem sc__law_reaches : FnScope ["script", "at", "worlds", "places", "outcomes", "drawn", "rows", "index", "row", "who", "first", "way", "members", "one"] ["script", "at", "worlds", "places", "outcomes"] (defScope s__law_reaches) := ⟨rfl, rfl, rfl, by decide +kernel, rfl, by decide +kernel, by decide +kernel⟩
abbrev s_Book___init__ : Stmt := inClass (topS 1) 0
theorem sc_Book___init__ : FnScope ["self", "allowed", "reach", "members", "sets"] ["self", "allowed", "reach"] (defScope s_Book___init__) := ⟨rfl, rfl, rfl, by decide +kernel, rfl, by decide +kernel, by decide +kernel⟩
abbrev s__law_asked : Stmt := topS 35
theorem sc__law_asked : FnScope ["script", "at", "size", "asked", "one", "second", "drawn", "index"] ["script", "at", "size"] (defScope s__law_asked) := ⟨rfl, rfl, rfl, by decide +kernel, rfl, by decide +kernel, by decide +kernel⟩
abbrev s__law_over : Stmt := topS 27
theorem sc__law_over : FnScope ["liking", "outcome", "members", "member"] ["liking", "outcome", "members"] (defScope s__law_over) := ⟨rfl, rfl, rfl, by decide +kernel, rfl, by decide +kernel, by decide +kernel⟩
abbrev s__law_stays : Stmt := topS 32
theorem sc__law_stays : FnScope ["world", "outcome", "sets", "who"] ["world", "outcome", "sets"] (defScope s__law_stays) := ⟨rfl, rfl, rfl, by decide +kernel, rfl, by decide +kernel, by decide +kernel⟩
abbrev s__law_middles : Stmt := topS 33
theorem sc__law_middles : FnScope ["worlds", "told", "mine", "yours", "found", "outcome", "wrong", "number"] ["worlds", "told", "mine", "yours"] (defScope s__law_middles) := ⟨rfl, rfl, rfl, by decide +kernel, rfl, by decide +kernel, by decide +kernel⟩
abbrev s__law_same : Stmt := topS 25
theorem sc__law_same : FnScope ["told", "due", "index"] ["told", "due"] (defScope s__law_same) := ⟨rfl, rfl, rfl, by decide +kernel, rfl, by decide +kernel, by decide +kernel⟩
abbrev s_on_top : Stmt := topS 5
theorem sc_on_top : FnScope ["liking", "outcome", "members", "member"] ["liking", "outcome", "members"] (defScope s_on_top) := ⟨rfl, rfl, rfl, by decide +kernel, rfl, by decide +kernel, by decide +kernel⟩
abbrev s_is_middle : Stmt := topS 7
theorem sc_is_middle : FnScope ["rule", "outcome", "mine", "yours", "number", "first", "second"] ["rule", "outcome", "mine", "yours"] (defScope s_is_middle) := ⟨rfl, rfl, rfl, by decide +kernel, rfl, by decide +kernel, by decide +kernel⟩
abbrev s_middles : Stmt := topS 8
theorem sc_middles : FnScope ["rule", "book", "pair", "other", "mine", "yours", "outcome"] ["rule", "book", "pair", "other"] (defScope s_middles) := ⟨rfl, rfl, rfl, by decide +kernel, rfl, by decide +kernel, by decide +kernel⟩
abbrev s__law_right_sets : Stmt := topS 36
theorem sc__law_right_sets : FnScope ["rule", "book", "worlds", "told", "rows", "asked", "place", "due"] ["rule", "book", "worlds", "told", "rows", "asked"] (defScope s__law_right_sets) := ⟨rfl, rfl, rfl, by decide +kernel, rfl, by decide +kernel, by decide +kernel⟩
abbrev s__law_dense : Stmt := topS 26
theorem sc__law_dense : FnScope ["points", "steps", "point"] ["points"] (defScope s__law_dense) := ⟨rfl, rfl, rfl, by decide +kernel, rfl, by decide +kernel, by decide +kernel⟩
abbrev s__law_world : Stmt := topS 28
theorem sc__law_world : FnScope ["script", "at", "people", "outcomes", "drawn", "world", "who", "spread", "part", "point"] ["script", "at", "people", "outcomes"] (defScope s__law_world) := ⟨rfl, rfl, rfl, by decide +kernel, rfl, by decide +kernel, by decide +kernel⟩
abbrev s_law : Stmt := topS 37
theorem sc_law : FnScope ["script", "shape", "outcomes", "count", "worlds", "number", "told", "places", "rule", "first", "second", "allowed", "one", "handed", "members", "row", "book", "beside", "asked", "turned", "world", "moved"] ["script"] (defScope s_law) := ⟨rfl, rfl, rfl, by decide +kernel, rfl, by decide +kernel, by decide +kernel⟩
/-! ### the mirrors -/
def b__law_row : Sv :=
    (sSeq (sSet 4 (eC (.int 0)))
    (sSeq (sIf (eT (e2 oLt (eVar 1) (e1 oLen (eVar 0)))) (sSet 4 (e1 oAbs (e2 oIx (eVar 0) (eVar 1)))) sNil)
    (sSeq (sSet 5 (e2 oGe (eVar 4) (e2 oPow (eC (.int 10)) (eC (.int 18)))))
    (sSeq (sSet 6 (e2 oMod (e1 oInt (e2 oAdd (e2 oAdd (e2 oMul (eVar 4) (eC (.int 48271))) (e2 oMul (eVar 1) (eC (.int 69621)))) (eC (.int 7)))) (eC (.int 2147483647))))
    (sSeq (sOwn 7 (fLst eNil))
    (sSeq (sFor (eRng1 (eVar 2)) (bdN 8) (sIf (tAndD (eT (eVar 5)) (eT (e2 oGt (eVar 4) (eC (.int 0))))) (sSeq (sApp 7 (e2 oMod (e1 oInt (eVar 4)) (eVar 3)))
    (sSet 4 (e2 oDiv (eVar 4) (eVar 3)))) (sSeq (sSet 6 (e2 oMod (e1 oInt (e2 oAdd (e2 oMul (eVar 6) (eC (.int 48271))) (eC (.int 11)))) (eC (.int 2147483647))))
    (sSeq (sSet 9 (e2 oMod (e1 oInt (e2 oAdd (e2 oMul (eVar 6) (eC (.int 69621))) (eVar 8))) (eC (.int 2147483629))))
    (sApp 7 (e2 oMod (e1 oInt (e2 oDiv (eVar 9) (eC (.int 7)))) (eVar 3)))))))
    (sFrz 7 (sRet (eVar 7)))))))))
def m__law_row : Mir := mirD 10 4 b__law_row
def b__law_told : Sv :=
    (sSeq (sOwn 5 (fLst eNil))
    (sSeq (sSet 6 (e2 oSub (eC (.int 24)) (e1 oLen (eVar 2))))
    (sSeq (sFor (eRng1 (e1 oLen (eVar 2))) (bdN 7) (sSeq (sSet 8 (eCall 4 m__law_row (eCons (eVar 0) (eCons (e2 oAdd (eVar 1) (eVar 7)) (eCons (e2 oAdd (eVar 3) (eC (.int 1))) (eCons (eC (.int 5040)) eNil))))))
    (sSeq (sSet 9 (e2 oAdd (eC (.int 2)) (e2 oMod (e1 oInt (eVar 4)) (eC (.int 2)))))
    (sSeq (sSetF 10 (fComp (eRng1 (eVar 3)) [11] (bdN 11) (eT (e2 oEq (e2 oMod (e1 oInt (e2 oIx (eVar 8) (eVar 11))) (eVar 9)) (eC (.int 1)))) (eVar 11)))
    (sSeq (sSet 12 (eOf (fComp (eRng1 (eVar 3)) [11] (bdN 11) tYesD (e1 oLen (eOf (fComp (eIter (e2 oIx (eVar 2) (eVar 7))) [13] (bdN 13) (eT (e2 oEq (e2 oIx (eVar 13) (eVar 11)) (e1 oMaxA (eVar 13)))) (eVar 13)))))))
    (sSeq (sSet 14 (eOf (fComp (eRng1 (eVar 3)) [11] (bdN 11) tYesD (e1 oLen (eOf (fComp (eIter (e2 oIx (eVar 2) (eVar 7))) [13] (bdN 13) (eT (e2 oLt (e2 oIx (eVar 13) (eVar 11)) (e2 oIx (eVar 13) (eC (.int 0))))) (eVar 13)))))))
    (sSeq (sIf (eT (e2 oEq (eVar 4) (eC (.int 2)))) (sSetF 10 (fComp (eRng1 (eVar 3)) [11] (bdN 11) (eT (e2 oGt (e2 oIx (eVar 12) (eVar 11)) (eC (.int 0)))) (eVar 11))) sNil)
    (sSeq (sIf (eT (e2 oEq (eVar 4) (eC (.int 3)))) (sSetF 10 (fComp (eRng1 (eVar 3)) [11] (bdN 11) (eT (e2 oEq (e2 oIx (eVar 14) (eVar 11)) (eC (.int 0)))) (eVar 11))) sNil)
    (sSeq (sIf (eT (e2 oEq (e1 oLen (eVar 10)) (eC (.int 0)))) (sSet 10 (eLst (eCons (e2 oMod (e1 oInt (e2 oIx (eVar 8) (eVar 3))) (eVar 3)) eNil))) sNil)
    (sSeq (sSet 10 (eSl (eVar 10) oNo (oPart (e2 oAdd (eC (.int 1)) (eVar 6)))))
    (sSeq (sAug 6 oSub (e2 oSub (e1 oLen (eVar 10)) (eC (.int 1))))
    (sApp 5 (e1 oTuple (eVar 10))))))))))))))
    (sFrz 5 (sRet (eVar 5))))))
def m__law_told : Mir := mirD 15 5 b__law_told
def b__law_pairs : Sv :=
    (sSeq (sOwn 1 (fLst eNil))
    (sSeq (sFor (eRng1 (e1 oLen (eVar 0))) (bdN 2) (sFor (eIter (e2 oIx (eVar 0) (eVar 2))) (bdN 3) (sApp 1 (eTup (eCons (eVar 3) (eCons (eVar 2) eNil))))))
    (sFrz 1 (sRet (eVar 1)))))
def m__law_pairs : Mir := mirD 4 1 b__law_pairs
def b_is_set : Sv :=
    (sSeq (sSet 2 (e1 oNeg (eC (.int 1))))
    (sSeq (sFor (eIter (eVar 0)) (bdN 3) (sSeq (sIf (tOrD (eT (e2 oLe (eVar 3) (eVar 2))) (eT (e2 oGe (eVar 3) (eVar 1)))) (sRet (eC (.bl false))) sNil)
    (sSet 2 (eVar 3))))
    (sRet (e2 oGe (eVar 2) (eC (.int 0))))))
def m_is_set : Mir := mirD 4 2 b_is_set
def b_check_told : Sv :=
    (sSeq (sFor (eRng1 (e2 oMin2 (eVar 1) (e1 oLen (eVar 0)))) (bdN 3) (sIf (tNotD (eT (eCall 2 m_is_set (eCons (e2 oIx (eVar 0) (eVar 3)) (eCons (eVar 2) eNil))))) (fun _ => stk) sNil))
    (sIf (eT (e2 oNe (e1 oLen (eVar 0)) (eVar 1))) (fun _ => stk) sNil))
def m_check_told : Mir := mirD 4 3 b_check_told
def b_liking_of : Sv :=
    (sSeq (sSet 1 (eOf (fSortedSet (eVar 0))))
    (sRet (e1 oTuple (eOf (fComp (eIter (eVar 0)) [2] (bdN 2) tYesD (eIndex (eVar 1) (eVar 2)))))))
def m_liking_of : Mir := mirD 3 1 b_liking_of
def b_is_liking : Sv :=
    (sRet (eAnd (e2 oEq (e1 oLen (eVar 0)) (eVar 1)) (e2 oEq (e1 oTuple (eVar 0)) (eCall 1 m_liking_of (eCons (eVar 0) eNil)))))
def m_is_liking : Mir := mirD 2 2 b_is_liking
def b_is_world : Sv :=
    (sSeq (sIf (eT (e2 oNe (e1 oLen (eVar 0)) (eVar 1))) (sRet (eC (.bl false))) sNil)
    (sSeq (sFor (eIter (eVar 0)) (bdN 3) (sIf (tNotD (eT (eCall 2 m_is_liking (eCons (eVar 3) (eCons (eVar 2) eNil))))) (sRet (eC (.bl false))) sNil))
    (sRet (eC (.bl true)))))
def m_is_world : Mir := mirD 4 3 b_is_world
def b_Rule___init__ : Sv :=
    (sSeq (sIf (tNotD (eT (e3 iLe iLe (eC (.int 1)) (eVar 1) (eC (.int (4)))))) (fun _ => stk) sNil)
    (sSeq (sIf (tNotD (eT (e3 iLe iLe (eC (.int 1)) (eVar 2) (eC (.int (8)))))) (fun _ => stk) sNil)
    (sSeq (sIf (tNotD (eT (e3 iLe iLe (eC (.int 1)) (e1 oLen (eVar 3)) (eC (.int (8)))))) (fun _ => stk) sNil)
    (sSeq (sFor (eRng1 (e1 oLen (eVar 3))) (bdN 5) (sIf (tNotD (eT (eCall 3 m_is_world (eCons (e2 oIx (eVar 3) (eVar 5)) (eCons (eVar 1) (eCons (eVar 2) eNil)))))) (fun _ => stk) sNil))
    (sSeq (sExpr (eCall 3 m_check_told (eCons (eVar 4) (eCons (e1 oLen (eVar 3)) (eCons (eVar 2) eNil)))))
    (sSeq (sFldS ["Rule"] 0 "people" (eVar 1))
    (sSeq (sFldS ["Rule"] 0 "outcomes" (eVar 2))
    (sSeq (sFldS ["Rule"] 0 "worlds" (e1 oTuple (eOf (fComp (eIter (eVar 3)) [7] (bdN 7) tYesD (e1 oTuple (eOf (fComp (eIter (eVar 7)) [6] (bdN 6) tYesD (e1 oTuple (eVar 6)))))))))
    (sSeq (sFldS ["Rule"] 0 "told" (e1 oTuple (eOf (fComp (eIter (eVar 4)) [8] (bdN 8) tYesD (e1 oTuple (eVar 8))))))
    (sSeq (sOwn 9 (fLst eNil))
    (sSeq (sFor (eRng1 (e1 oLen (eFldS ["Rule"] 0 "told"))) (bdN 5) (sFor (eIter (e2 oIx (eFldS ["Rule"] 0 "told") (eVar 5))) (bdN 10) (sApp 9 (eTup (eCons (eVar 10) (eCons (eVar 5) eNil))))))
    (sSeq (sFldS ["Rule"] 0 "pairs" (e1 oTuple (eVarB 9)))
    (sIf (eT (e2 oGt (e1 oLen (eVarB 9)) (eC (.int (24))))) (fun _ => stk) sNil)))))))))))))
def m_Rule___init__ : MirI := mirI 11 4 "Rule" b_Rule___init__
def b__law_below : Sv :=
    (sSeq (sSet 4 (e2 oIx (e2 oIx (eVar 0) (e2 oIx (eVar 2) (eC (.int 1)))) (eVar 3)))
    (sRet (eOf (fComp (eIter (eVar 1)) [5] (bdN 5) (eT (e2 oLe (e2 oIx (eVar 4) (eVar 5)) (e2 oIx (eVar 4) (e2 oIx (eVar 2) (eC (.int 0)))))) (eVar 5)))))
def m__law_below : Mir := mirD 6 4 b__law_below
def b__law_reaches : Sv :=
    (sSeq (sSet 5 (eCall 4 m__law_row (eCons (eVar 0) (eCons (eVar 1) (eCons (e2 oMul (e2 oMul (eC (.int 2)) (e1 oLen (eVar 3))) (e2 oAdd (eVar 4) (eC (.int 1)))) (eCons (eC (.int 5040)) eNil))))))
    (sSeq (sOwn 6 (fLst eNil))
    (sSeq (sFor (eRng1 (e1 oLen (eVar 3))) (bdN 7) (sSeq (sOwn 8 (fLst eNil))
    (sSeq (sFor (eRng1 (eC (.int 2))) (bdN 9) (sSeq (sSet 10 (e2 oMul (e2 oAdd (e2 oMul (eC (.int 2)) (eVar 7)) (eVar 9)) (e2 oAdd (eVar 4) (eC (.int 1)))))
    (sSeq (sSet 11 (e2 oMod (e1 oInt (e2 oIx (eVar 5) (e2 oAdd (eVar 10) (eVar 4)))) (eC (.int 6))))
    (sSeq (sSetF 12 (fComp (eRng1 (eVar 4)) [13] (bdN 13) (eT (e2 oEq (e2 oMod (e1 oInt (e2 oIx (eVar 5) (e2 oAdd (eVar 10) (eVar 13)))) (eC (.int 2))) (eC (.int 1)))) (eVar 13)))
    (sSeq (sIf (eT (e2 oEq (eVar 11) (eC (.int 0)))) (sSet 12 (eLst eNil)) sNil)
    (sSeq (sIf (eT (e2 oEq (eVar 11) (eC (.int 1)))) (sSet 12 (eOf (eRng1 (eVar 4)))) sNil)
    (sSeq (sIf (eT (e2 oEq (eVar 11) (eC (.int 2)))) (sSet 12 (eCall 4 m__law_below (eCons (eVar 2) (eCons (eOf (eRng1 (eVar 4))) (eCons (e2 oIx (eVar 3) (eVar 7)) (eCons (eVar 9) eNil)))))) sNil)
    (sApp 8 (e1 oTuple (eVar 12))))))))))
    (sApp 6 (e1 oTuple (eVarB 8))))))
    (sRet (e1 oTuple (eVarB 6))))))
def m__law_reaches : Mir := mirD 14 5 b__law_reaches
def b_Book___init__ : Sv :=
    (sSeq (sFldS ["Book"] 0 "allowed" (e1 oTuple (eVar 1)))
    (sFldS ["Book"] 0 "reach" (e1 oTuple (eOf (fComp (eIter (eVar 2)) [4] (bdN 4) tYesD (e1 oTuple (eOf (fComp (eIter (eVar 4)) [3] (bdN 3) tYesD (e1 oTuple (eVar 3))))))))))
def m_Book___init__ : MirI := mirI 5 2 "Book" b_Book___init__
def b__law_asked : Sv :=
    (sSeq (sOwn 3 (fLst eNil))
    (sSeq (sIf (eT (e2 oLt (eVar 2) (eC (.int 6)))) (sSeq (sFor (eRng1 (eVar 2)) (bdN 4) (sFor (eRng1 (eVar 2)) (bdN 5) (sApp 3 (eTup (eCons (eVar 4) (eCons (eVar 5) eNil))))))
    (sFrz 3 (sRet (eVar 3)))) sNil)
    (sSeq (sSet 6 (eCall 4 m__law_row (eCons (eVar 0) (eCons (eVar 1) (eCons (eC (.int 24)) (eCons (eC (.int 5040)) eNil))))))
    (sRet (eOf (fComp (eRng1 (eC (.int 12))) [7] (bdN 7) tYesD (eTup (eCons (e2 oMod (e1 oInt (e2 oIx (eVar 6) (e2 oMul (eC (.int 2)) (eVar 7)))) (eVar 2)) (eCons (e2 oMod (e1 oInt (e2 oIx (eVar 6) (e2 oAdd (e2 oMul (eC (.int 2)) (eVar 7)) (eC (.int 1))))) (eVar 2)) eNil)))))))))
def m__law_asked : Mir := mirD 8 3 b__law_asked
def b__law_over : Sv :=
    (sSeq (sFor (eIter (eVar 2)) (bdN 3) (sIf (eT (e2 oGt (e2 oIx (eVar 0) (eVar 3)) (e2 oIx (eVar 0) (eVar 1)))) (sRet (eC (.bl false))) sNil))
    (sRet (eC (.bl true))))
def m__law_over : Mir := mirD 4 3 b__law_over
def b__law_stays : Sv :=
    (sRet (e2 oNotInB (eC (.bl false)) (eOf (fComp (eRng1 (e1 oLen (eVar 0))) [3] (bdN 3) tYesD (eCall 3 m__law_over (eCons (e2 oIx (eVar 0) (eVar 3)) (eCons (eVar 1) (eCons (e2 oIx (eVar 2) (eVar 3)) eNil))))))))
def m__law_stays : Mir := mirD 4 3 b__law_stays
def b__law_middles : Sv :=
    (sSeq (sOwn 4 (fLst eNil))
    (sSeq (sFor (eIter (eVar 2)) (bdN 5) (sSeq (sSet 6 (eC (.int 0)))
    (sSeq (sFor (eRng1 (e1 oLen (eVar 0))) (bdN 7) (sIf (tAndD (eT (e2 oNotIn (eVar 5) (e2 oIx (eVar 1) (eVar 7)))) (eT (eCall 3 m__law_stays (eCons (e2 oIx (eVar 0) (eVar 7)) (eCons (eVar 5) (eCons (eTup (eCons (eVar 2) (eCons (eVar 3) eNil))) eNil)))))) (sAug 6 oIadd (eC (.int 1))) sNil))
    (sIf (tAndD (eT (e2 oIn (eVar 5) (eVar 3))) (eT (e2 oEq (eVar 6) (eC (.int 0))))) (sApp 4 (eVar 5)) sNil))))
    (sFrz 4 (sRet (eVar 4)))))
def m__law_middles : Mir := mirD 8 4 b__law_middles
def b__law_same (rec : Mir) : Sv :=
    (sSeq (sIf (eT (e2 oIs (eVar 1) (eC .non))) (sRet (e2 oIs (eVar 0) (eC .non))) sNil)
    (sSeq (sIf (eT (e2 oIs (eVar 1) (eC (.bl true)))) (sRet (e2 oIs (eVar 0) (eC (.bl true)))) sNil)
    (sSeq (sIf (eT (e2 oIs (eVar 1) (eC (.bl false)))) (sRet (e2 oIs (eVar 0) (eC (.bl false)))) sNil)
    (sSeq (sIf (eT (e1 (oIsi "str") (eVar 1))) (sRet (eAnd (e1 (oIsi "str") (eVar 0)) (e2 oEq (eVar 0) (eVar 1)))) sNil)
    (sSeq (sIf (eT (e1 (oIsi "int") (eVar 1))) (sRet (eAnd (e1 (oIsi "int") (eVar 0)) (eAnd (eNot (e1 (oIsi "bool") (eVar 0))) (e2 oEq (eVar 0) (eVar 1))))) sNil)
    (sSeq (sIf (tOrD (tNotD (eT (e1 (oIsi "tuple") (eVar 0)))) (eT (e2 oNe (e1 oLen (eVar 0)) (e1 oLen (eVar 1))))) (sRet (eC (.bl false))) sNil)
    (sSeq (sFor (eRng1 (e1 oLen (eVar 1))) (bdN 2) (sIf (tNotD (eT (eCall 2 rec (eCons (e2 oIx (eVar 0) (eVar 2)) (eCons (e2 oIx (eVar 1) (eVar 2)) eNil))))) (sRet (eC (.bl false))) sNil))
    (sRet (eC (.bl true))))))))))
def r__law_same (rec : Mir) : Mir := mirD 3 2 (b__law_same rec)
def m__law_same : Mir := recM r__law_same 6
def b_on_top : Sv :=
    (sSeq (sFor (eIter (eVar 2)) (bdN 3) (sIf (eT (e2 oGt (e2 oIx (eVar 0) (eVar 3)) (e2 oIx (eVar 0) (eVar 1)))) (sRet (eC (.bl false))) sNil))
    (sRet (eC (.bl true))))
def m_on_top : Mir := mirD 4 3 b_on_top
def b_is_middle : Sv :=
    (sSeq (sFor (eRng1 (e1 oLen (e1 (oFld ["Rule"] "worlds") (eVar 0)))) (bdN 4) (sSeq (sBind (bdT (bdLen 2 (bdCons (bdN 5) (bdCons (bdN 6) bdNil)))) (e2 oIx (e1 (oFld ["Rule"] "worlds") (eVar 0)) (eVar 4)))
    (sIf (tAndD (eT (e2 oNotIn (eVar 1) (e2 oIx (e1 (oFld ["Rule"] "told") (eVar 0)) (eVar 4)))) (tAndD (eT (eCall 3 m_on_top (eCons (eVar 5) (eCons (eVar 1) (eCons (eVar 2) eNil))))) (eT (eCall 3 m_on_top (eCons (eVar 6) (eCons (eVar 1) (eCons (eVar 3) eNil))))))) (sRet (eC (.bl false))) sNil)))
    (sRet (eC (.bl true))))
def m_is_middle : Mir := mirD 7 4 b_is_middle
def b_middles : Sv :=
    (sSeq (sSet 4 (e2 oIx (e2 oIx (e1 (oFld ["Book"] "reach") (eVar 1)) (eVar 2)) (eC (.int 0))))
    (sSeq (sSet 5 (e2 oIx (e2 oIx (e1 (oFld ["Book"] "reach") (eVar 1)) (eVar 3)) (eC (.int 1))))
    (sRet (e1 oTuple (eOf (fComp (eIter (eVar 4)) [6] (bdN 6) (tAndD (eT (e2 oIn (eVar 6) (eVar 5))) (eT (eCall 4 m_is_middle (eCons (eVar 0) (eCons (eVar 6) (eCons (eVar 4) (eCons (eVar 5) eNil))))))) (eVar 6)))))))
def m_middles : Mir := mirD 7 4 b_middles
def b__law_right_sets : Sv :=
    (sSeq (sFor (eIter (eVar 5)) (bdN 6) (sSeq (sSet 7 (eCall 4 m__law_middles (eCons (eVar 2) (eCons (eVar 3) (eCons (e2 oIx (e2 oIx (eVar 4) (e2 oIx (eVar 6) (eC (.int 0)))) (eC (.int 0))) (eCons (e2 oIx (e2 oIx (eVar 4) (e2 oIx (eVar 6) (eC (.int 1)))) (eC (.int 1))) eNil))))))
    (sIf (tNotD (eT (eCall 2 m__law_same (eCons (eCallK 2 2 m_middles (eCons (eVar 0) (eCons (eVar 1) eNil)) (eCons (e2 oIx (eVar 6) (eC (.int 0))) (eCons (e2 oIx (eVar 6) (eC (.int 1))) eNil))) (eCons (eVar 7) eNil))))) (sRet (eC (.bl false))) sNil)))
    (sRet (eC (.bl true))))
def m__law_right_sets : Mir := mirD 8 6 b__law_right_sets
def b__law_dense : Sv :=
    (sSeq (sSet 1 (eOf (fSortedSet (eVar 0))))
    (sRet (e1 oTuple (eOf (fComp (eIter (eVar 0)) [2] (bdN 2) tYesD (eIndex (eVar 1) (eVar 2)))))))
def m__law_dense : Mir := mirD 3 1 b__law_dense
def b__law_world : Sv :=
    (sSeq (sSet 4 (eCall 4 m__law_row (eCons (eVar 0) (eCons (eVar 1) (eCons (e2 oAdd (e2 oMul (eVar 2) (eVar 3)) (eVar 2)) (eCons (eC (.int 5040)) eNil))))))
    (sSeq (sOwn 5 (fLst eNil))
    (sSeq (sFor (eRng1 (eVar 2)) (bdN 6) (sSeq (sSet 7 (e2 oAdd (eC (.int 1)) (e2 oMod (e1 oInt (e2 oIx (eVar 4) (e2 oAdd (e2 oMul (eVar 2) (eVar 3)) (eVar 6)))) (e2 oAdd (eVar 3) (eC (.int 2))))))
    (sSeq (sSet 8 (eSl (eVar 4) (oPart (e2 oMul (eVar 6) (eVar 3))) (oPart (e2 oAdd (e2 oMul (eVar 6) (eVar 3)) (eVar 3)))))
    (sApp 5 (eCall 1 m__law_dense (eCons (eOf (fComp (eIter (eVar 8)) [9] (bdN 9) tYesD (e2 oMod (e1 oInt (eVar 9)) (eVar 7)))) eNil))))))
    (sRet (e1 oTuple (eVarB 5))))))
def m__law_world : Mir := mirD 10 4 b__law_world
def b_law : Sv :=
    (sSeq (sSet 1 (eCall 4 m__law_row (eCons (eVar 0) (eCons (eC (.int 0)) (eCons (eC (.int 5)) (eCons (eC (.int 5040)) eNil))))))
    (sSeq (sSet 2 (e2 oIx (eLst (eCons (eC (.int 2)) (eCons (eC (.int 3)) (eCons (eC (.int 4)) (eCons (eC (.int 1)) (eCons (eC (.int 3)) (eCons (eC (.int 2)) (eCons (eC (.int 3)) (eCons (eC (.int 4)) eNil))))))))) (e2 oMod (e1 oInt (e2 oIx (eVar 1) (eC (.int 0)))) (eC (.int 8)))))
    (sSeq (sSet 3 (e2 oAdd (eC (.int 1)) (e2 oMod (e1 oInt (e2 oIx (eVar 1) (eC (.int 1)))) (eC (.int 3)))))
    (sSeq (sIf (eT (e2 oEq (e2 oMod (e1 oInt (e2 oIx (eVar 1) (eC (.int 2)))) (eC (.int 6))) (eC (.int 5)))) (sSeq (sSet 2 (e2 oAdd (eC (.int 1)) (e2 oMod (e1 oInt (e2 oIx (eVar 1) (eC (.int 0)))) (eC (.int 8)))))
    (sSet 3 (e2 oAdd (eC (.int 1)) (e2 oMod (e1 oInt (e2 oIx (eVar 1) (eC (.int 1)))) (eC (.int 8)))))) sNil)
    (sSeq (sSetF 4 (fComp (eRng1 (eVar 3)) [5] (bdN 5) tYesD (eCall 4 m__law_world (eCons (eVar 0) (eCons (e2 oAdd (eC (.int 1)) (eVar 5)) (eCons (eC (.int 2)) (eCons (eVar 2) eNil)))))))
    (sSeq (sSet 6 (eCall 5 m__law_told (eCons (eVar 0) (eCons (eC (.int 9)) (eCons (eVar 4) (eCons (eVar 2) (eCons (e2 oMod (e1 oInt (e2 oIx (eVar 1) (eC (.int 3)))) (eC (.int 4))) eNil)))))))
    (sSeq (sSet 7 (eCall 1 m__law_pairs (eCons (eVar 6) eNil)))
    (sSeq (sSet 8 (eMake "Rule" 4 m_Rule___init__ (eCons (eC (.int 2)) (eCons (eVar 2) (eCons (eVar 4) (eCons (eVar 6) eNil))))))
    (sSeq (sSet 9 (eCall 5 m__law_reaches (eCons (eVar 0) (eCons (eC (.int 17)) (eCons (eVar 4) (eCons (eVar 7) (eCons (eVar 2) eNil)))))))
    (sSeq (sSet 10 (eCall 5 m__law_reaches (eCons (eVar 0) (eCons (eC (.int 18)) (eCons (eVar 4) (eCons (eVar 7) (eCons (eVar 2) eNil)))))))
    (sSeq (sSetF 11 (fComp (eRng1 (e2 oMod (e1 oInt (e2 oIx (eVar 1) (eC (.int 4)))) (e2 oAdd (eVar 2) (eC (.int 1))))) [12] (bdN 12) tYesD (eVar 12)))
    (sSeq (sSetX 13 (eMt (fComp (eIter (eVar 9)) [15] (bdN 15) tYesD (eMt (fComp (eIter (eVar 15)) [14] (bdN 14) tYesD (eMt (fList (eVar 14))))))))
    (sSeq (sSet 16 (eLend 13 (eMake "Book" 2 m_Book___init__ (eCons (eOf (fList (eVar 11))) (eCons (eVar 13) eNil)))))
    (sSeq (sAppP 13 (pIx 13 (pIx 13 (pRoot 13) (eC (.int 0))) (eC (.int 0))) (e2 oSub (eVar 2) (eC (.int 1))))
    (sSeq (sAppP 13 (pIx 13 (pRoot 13) (eC (.int 0))) (eMt (fLst (eCons (eC (.int 0)) eNil))))
    (sSeq (sAppP 13 (pRoot 13) (eMt (fLst eNil)))
    (sSeq (sSet 17 (eMake "Book" 2 m_Book___init__ (eCons (e1 oTuple (eVar 11)) (eCons (eVar 10) eNil))))
    (sSeq (sIf (tOrD (tNotD (eT (eCall 2 m__law_same (eCons (e1 (oFld ["Book"] "allowed") (eVar 16)) (eCons (eVar 11) eNil))))) (tNotD (eT (eCall 2 m__law_same (eCons (e1 (oFld ["Book"] "reach") (eVar 16)) (eCons (eVar 9) eNil)))))) (sRet (eC (.bl false))) sNil)
    (sSeq (sIf (tOrD (tNotD (eT (eCall 2 m__law_same (eCons (e1 (oFld ["Book"] "allowed") (eVar 17)) (eCons (eVar 11) eNil))))) (tNotD (eT (eCall 2 m__law_same (eCons (e1 (oFld ["Book"] "reach") (eVar 17)) (eCons (eVar 10) eNil)))))) (sRet (eC (.bl false))) sNil)
    (sSeq (sSet 18 (eCall 3 m__law_asked (eCons (eVar 0) (eCons (eC (.int 19)) (eCons (e1 oLen (eVar 7)) eNil)))))
    (sSeq (sIf (tNotD (eT (eCall 6 m__law_right_sets (eCons (eVar 8) (eCons (eVar 16) (eCons (eVar 4) (eCons (eVar 6) (eCons (eVar 9) (eCons (eVar 18) eNil))))))))) (sRet (eC (.bl false))) sNil)
    (sSeq (sIf (tNotD (eT (eCall 6 m__law_right_sets (eCons (eVar 8) (eCons (eVar 17) (eCons (eVar 4) (eCons (eVar 6) (eCons (eVar 10) (eCons (eVar 18) eNil))))))))) (sRet (eC (.bl false))) sNil)
    (sSeq (sSetF 19 (fComp (eIter (e2 oAdd (eSl (eVar 4) (oPart (eC (.int 1))) oNo) (eSl (eVar 4) oNo (oPart (eC (.int 1)))))) [20] (bdN 20) tYesD (eTup (eCons (e2 oIx (eVar 20) (eC (.int 1))) (eCons (e2 oIx (eVar 20) (eC (.int 0))) eNil)))))
    (sSeq (sIf (tNotD (eT (eCall 6 m__law_right_sets (eCons (eMake "Rule" 4 m_Rule___init__ (eCons (eC (.int 2)) (eCons (eVar 2) (eCons (eVar 19) (eCons (eVar 6) eNil))))) (eCons (eVar 16) (eCons (eVar 19) (eCons (eVar 6) (eCons (eVar 9) (eCons (eVar 18) eNil))))))))) (sRet (eC (.bl false))) sNil)
    (sSeq (sSet 21 (e2 oAdd (eSl (eVar 6) (oPart (eC (.int 1))) oNo) (eSl (eVar 6) oNo (oPart (eC (.int 1))))))
    (sSeq (sIf (tNotD (eT (eCall 6 m__law_right_sets (eCons (eMake "Rule" 4 m_Rule___init__ (eCons (eC (.int 2)) (eCons (eVar 2) (eCons (eVar 4) (eCons (eVar 21) eNil))))) (eCons (eVar 16) (eCons (eVar 4) (eCons (eVar 21) (eCons (eVar 9) (eCons (eVar 18) eNil))))))))) (sRet (eC (.bl false))) sNil)
    (sRet (eCall 6 m__law_right_sets (eCons (eVar 8) (eCons (eVar 16) (eCons (eVar 4) (eCons (eVar 6) (eCons (eVar 9) (eCons (eVar 18) eNil))))))))))))))))))))))))))))))))))
def m_law : Mir := mirD 22 1 b_law
/-! ### what the top has written -/
structure Txt (K : Frag) (mg : Mg) (f__law_row : Addr) (f__law_told : Addr) (f__law_pairs : Addr) (f_is_set : Addr) (f_check_told : Addr) (f_liking_of : Addr) (f_is_liking : Addr) (f_is_world : Addr) (f_Rule___init__ : Addr) (f__law_below : Addr) (f__law_reaches : Addr) (f_Book___init__ : Addr) (f__law_asked : Addr) (f__law_over : Addr) (f__law_stays : Addr) (f__law_middles : Addr) (f__law_same : Addr) (f_on_top : Addr) (f_is_middle : Addr) (f_middles : Addr) (f__law_right_sets : Addr) (f__law_dense : Addr) (f__law_world : Addr) (f_law : Addr) (d__law_row : FuncData) (d__law_told : FuncData) (d__law_pairs : FuncData) (d_is_set : FuncData) (d_check_told : FuncData) (d_liking_of : FuncData) (d_is_liking : FuncData) (d_is_world : FuncData) (d_Rule___init__ : FuncData) (d__law_below : FuncData) (d__law_reaches : FuncData) (d_Book___init__ : FuncData) (d__law_asked : FuncData) (d__law_over : FuncData) (d__law_stays : FuncData) (d__law_middles : FuncData) (d__law_same : FuncData) (d_on_top : FuncData) (d_is_middle : FuncData) (d_middles : FuncData) (d__law_right_sets : FuncData) (d__law_dense : FuncData) (d__law_world : FuncData) (d_law : FuncData) (c_Book : Addr) (c_Rule : Addr) : Prop where
  F__law_row : Fun K "_law_row" "_law_row" s__law_row f__law_row d__law_row
  b__law_row : Binds K d__law_row ["script", "at", "size", "limit"] []
  g__law_row : mg "_law_row" = some (.ref f__law_row)
  F__law_told : Fun K "_law_told" "_law_told" s__law_told f__law_told d__law_told
  b__law_told : Binds K d__law_told ["script", "at", "worlds", "outcomes", "way"] []
  g__law_told : mg "_law_told" = some (.ref f__law_told)
  F__law_pairs : Fun K "_law_pairs" "_law_pairs" s__law_pairs f__law_pairs d__law_pairs
  b__law_pairs : Binds K d__law_pairs ["told"] []
  g__law_pairs : mg "_law_pairs" = some (.ref f__law_pairs)
  F_is_set : Fun K "is_set" "is_set" s_is_set f_is_set d_is_set
  b_is_set : Binds K d_is_set ["members", "outcomes"] []
  g_is_set : mg "is_set" = some (.ref f_is_set)
  F_check_told : Fun K "check_told" "check_told" s_check_told f_check_told d_check_told
  b_check_told : Binds K d_check_told ["told", "worlds", "outcomes"] []
  g_check_told : mg "check_told" = some (.ref f_check_told)
  F_liking_of : Fun K "liking_of" "liking_of" s_liking_of f_liking_of d_liking_of
  b_liking_of : Binds K d_liking_of ["points"] []
  g_liking_of : mg "liking_of" = some (.ref f_liking_of)
  F_is_liking : Fun K "is_liking" "is_liking" s_is_liking f_is_liking d_is_liking
  b_is_liking : Binds K d_is_liking ["levels", "outcomes"] []
  g_is_liking : mg "is_liking" = some (.ref f_is_liking)
  F_is_world : Fun K "is_world" "is_world" s_is_world f_is_world d_is_world
  b_is_world : Binds K d_is_world ["world", "people", "outcomes"] []
  g_is_world : mg "is_world" = some (.ref f_is_world)
  F_Rule___init__ : Fun K "__init__" "Rule.__init__" s_Rule___init__ f_Rule___init__ d_Rule___init__
  b_Rule___init__ : Binds K d_Rule___init__ ["self", "people", "outcomes", "worlds", "told"] []
  F__law_below : Fun K "_law_below" "_law_below" s__law_below f__law_below d__law_below
  b__law_below : Binds K d__law_below ["worlds", "kept", "place", "who"] []
  g__law_below : mg "_law_below" = some (.ref f__law_below)
  F__law_reaches : Fun K "_law_reaches" "_law_reaches" s__law_reaches f__law_reaches d__law_reaches
  b__law_reaches : Binds K d__law_reaches ["script", "at", "worlds", "places", "outcomes"] []
  g__law_reaches : mg "_law_reaches" = some (.ref f__law_reaches)
  F_Book___init__ : Fun K "__init__" "Book.__init__" s_Book___init__ f_Book___init__ d_Book___init__
  b_Book___init__ : Binds K d_Book___init__ ["self", "allowed", "reach"] []
  F__law_asked : Fun K "_law_asked" "_law_asked" s__law_asked f__law_asked d__law_asked
  b__law_asked : Binds K d__law_asked ["script", "at", "size"] []
  g__law_asked : mg "_law_asked" = some (.ref f__law_asked)
  F__law_over : Fun K "_law_over" "_law_over" s__law_over f__law_over d__law_over
  b__law_over : Binds K d__law_over ["liking", "outcome", "members"] []
  g__law_over : mg "_law_over" = some (.ref f__law_over)
  F__law_stays : Fun K "_law_stays" "_law_stays" s__law_stays f__law_stays d__law_stays
  b__law_stays : Binds K d__law_stays ["world", "outcome", "sets"] []
  g__law_stays : mg "_law_stays" = some (.ref f__law_stays)
  F__law_middles : Fun K "_law_middles" "_law_middles" s__law_middles f__law_middles d__law_middles
  b__law_middles : Binds K d__law_middles ["worlds", "told", "mine", "yours"] []
  g__law_middles : mg "_law_middles" = some (.ref f__law_middles)
  F__law_same : Fun K "_law_same" "_law_same" s__law_same f__law_same d__law_same
  b__law_same : Binds K d__law_same ["told", "due"] []
  g__law_same : mg "_law_same" = some (.ref f__law_same)
  F_on_top : Fun K "on_top" "on_top" s_on_top f_on_top d_on_top
  b_on_top : Binds K d_on_top ["liking", "outcome", "members"] []
  g_on_top : mg "on_top" = some (.ref f_on_top)
  F_is_middle : Fun K "is_middle" "is_middle" s_is_middle f_is_middle d_is_middle
  b_is_middle : Binds K d_is_middle ["rule", "outcome", "mine", "yours"] []
  g_is_middle : mg "is_middle" = some (.ref f_is_middle)
  F_middles : Fun K "middles" "middles" s_middles f_middles d_middles
  b_middles : KwB K d_middles ["rule", "book", "pair", "other"] ["pair", "other"] 2
  g_middles : mg "middles" = some (.ref f_middles)
  F__law_right_sets : Fun K "_law_right_sets" "_law_right_sets" s__law_right_sets f__law_right_sets d__law_right_sets
  b__law_right_sets : Binds K d__law_right_sets ["rule", "book", "worlds", "told", "rows", "asked"] []
  g__law_right_sets : mg "_law_right_sets" = some (.ref f__law_right_sets)
  F__law_dense : Fun K "_law_dense" "_law_dense" s__law_dense f__law_dense d__law_dense
  b__law_dense : Binds K d__law_dense ["points"] []
  g__law_dense : mg "_law_dense" = some (.ref f__law_dense)
  F__law_world : Fun K "_law_world" "_law_world" s__law_world f__law_world d__law_world
  b__law_world : Binds K d__law_world ["script", "at", "people", "outcomes"] []
  g__law_world : mg "_law_world" = some (.ref f__law_world)
  F_law : Fun K "law" "law" s_law f_law d_law
  b_law : Binds K d_law ["script"] []
  g_law : mg "law" = some (.ref f_law)
  gC_Book : mg "Book" = some (.ref c_Book)
  M_Book : Mk K c_Book f_Book___init__
  gC_Rule : mg "Rule" = some (.ref c_Rule)
  M_Rule : Mk K c_Rule f_Rule___init__
  fo_allowed : FldOk K mg ["Book"] "allowed"
  fo_outcomes : FldOk K mg ["Rule"] "outcomes"
  fo_pairs : FldOk K mg ["Rule"] "pairs"
  fo_people : FldOk K mg ["Rule"] "people"
  fo_reach : FldOk K mg ["Book"] "reach"
  fo_told : FldOk K mg ["Rule"] "told"
  fo_worlds : FldOk K mg ["Rule"] "worlds"
  z_abs : mg "abs" = none
  z_bool : mg "bool" = none
  z_int : mg "int" = none
  z_isinstance : mg "isinstance" = none
  z_len : mg "len" = none
  z_list : mg "list" = none
  z_max : mg "max" = none
  z_min : mg "min" = none
  z_range : mg "range" = none
  z_set : mg "set" = none
  z_sorted : mg "sorted" = none
  z_str : mg "str" = none
  z_tuple : mg "tuple" = none
  c_OUTCOMES : ∃ t, mg "OUTCOMES" = some (.int (8) t)
  c_PAIRS : ∃ t, mg "PAIRS" = some (.int (24) t)
  c_PEOPLE : ∃ t, mg "PEOPLE" = some (.int (4) t)
  c_WORLDS : ∃ t, mg "WORLDS" = some (.int (8) t)
section
variable {P : Program} {w : World} {K : Frag} {mg : Mg} {base : Heap} {f__law_row f__law_told f__law_pairs f_is_set f_check_told f_liking_of f_is_liking f_is_world f_Rule___init__ f__law_below f__law_reaches f_Book___init__ f__law_asked f__law_over f__law_stays f__law_middles f__law_same f_on_top f_is_middle f_middles f__law_right_sets f__law_dense f__law_world f_law : Addr} {d__law_row d__law_told d__law_pairs d_is_set d_check_told d_liking_of d_is_liking d_is_world d_Rule___init__ d__law_below d__law_reaches d_Book___init__ d__law_asked d__law_over d__law_stays d__law_middles d__law_same d_on_top d_is_middle d_middles d__law_right_sets d__law_dense d__law_world d_law : FuncData} {c_Book c_Rule : Addr}
theorem ok__law_row (T : Txt K mg f__law_row f__law_told f__law_pairs f_is_set f_check_told f_liking_of f_is_liking f_is_world f_Rule___init__ f__law_below f__law_reaches f_Book___init__ f__law_asked f__law_over f__law_stays f__law_middles f__law_same f_on_top f_is_middle f_middles f__law_right_sets f__law_dense f__law_world f_law d__law_row d__law_told d__law_pairs d_is_set d_check_told d_liking_of d_is_liking d_is_world d_Rule___init__ d__law_below d__law_reaches d_Book___init__ d__law_asked d__law_over d__law_stays d__law_middles d__law_same d_on_top d_is_middle d_middles d__law_right_sets d__law_dense d__law_world d_law c_Book c_Rule) : FnD P w K mg base 1 f__law_row d__law_row ["script", "at", "size", "limit"] m__law_row := by
  refine fn_d (N := ["script", "at", "size", "limit", "cell", "digits", "first", "row", "index", "second"]) T.F__law_row sc__law_row (fun cdv A outer s H E hr => ?_)
  have hc : (cxOf (L2.CX P w) P w K mg base ["script", "at", "size", "limit", "cell", "digits", "first", "row", "index", "second"] "_law_row" (defScope s__law_row) f__law_row cdv A outer s H E).calm = true := rfl
  have S := sc__law_row
  exact (dss_cons (ds_set (i := 4) S.nd rfl (by walk_at "loc") de_int)
      (dss_cons (ds_if (dt_cmp op_lt od_lt (nomark _) (DE.bor (de_var (i := 1) rfl (by walk_at "vis"))) (DE.bor (de_b1 cr_len o1_len (by rfl) T.z_len (by decide +kernel) (DE.bor (de_var (i := 0) rfl (by walk_at "vis")))))) (dss_one (ds_set (i := 4) S.nd rfl (by walk_at "loc") (de_b1 call_abs o1_abs (by rfl) T.z_abs (by decide +kernel) (DE.bor (de_ix (DE.bor (de_var (i := 0) rfl (by walk_at "vis"))) (DE.bor (de_var (i := 1) rfl (by walk_at "vis")))))))) dss_nil)
      (dss_cons (ds_set (i := 5) S.nd rfl (by walk_at "loc") (de_cmp op_ge od_ge (nomark _) (DE.bor (de_var (i := 4) rfl (by walk_at "vis"))) (DE.bor (de_op op_pow od_pow (DE.bor de_int) (DE.bor de_int)))))
      (dss_cons (ds_set (i := 6) S.nd rfl (by walk_at "loc") (de_op op_mod od_mod (DE.bor (de_t1 call_int1 o1_int (by rfl) T.z_int (by decide +kernel) (DE.bor (de_op or_add od_add (DE.bor (de_op or_add od_add (DE.bor (de_op or_mul od_mul (DE.bor (de_var (i := 4) rfl (by walk_at "vis"))) (DE.bor de_int))) (DE.bor (de_op or_mul od_mul (DE.bor (de_var (i := 1) rfl (by walk_at "vis"))) (DE.bor de_int))))) (DE.bor de_int))))) (DE.bor de_int)))
      (dss_cons (ds_own (i := 7) S.nd rfl (by walk_at "loc") (df_lst da_nil))
      (dss_cons (ds_for (passes_of rfl) hc (di_range1 (by rfl) T.z_range (de_var (i := 2) rfl (by walk_at "vis"))) (dg_name (i := 8) (S.nd) rfl (by walk_at "loc") (by first | exact .inl rfl | exact .inr rfl)) (dss_one (ds_if (DW.t (dw_and (dt_val (de_var (i := 5) rfl (by walk_at "vis"))) (dw_and1 (dt_cmp op_gt od_gt (nomark _) (DE.bor (de_var (i := 4) rfl (by walk_at "vis"))) (DE.bor de_int))))) (dss_cons (ds_append (i := 7) rfl (by walk_at "vis") (de_op op_mod od_mod (DE.bor (de_t1 call_int1 o1_int (by rfl) T.z_int (by decide +kernel) (DE.bor (de_var (i := 4) rfl (by walk_at "vis"))))) (DE.bor (de_var (i := 3) rfl (by walk_at "vis")))))
      (dss_one (ds_set (i := 4) S.nd rfl (by walk_at "loc") (de_op op_fdivW od_div (DE.bor (de_var (i := 4) rfl (by walk_at "vis"))) (DE.bor (de_var (i := 3) rfl (by walk_at "vis"))))))) (dss_cons (ds_set (i := 6) S.nd rfl (by walk_at "loc") (de_op op_mod od_mod (DE.bor (de_t1 call_int1 o1_int (by rfl) T.z_int (by decide +kernel) (DE.bor (de_op or_add od_add (DE.bor (de_op or_mul od_mul (DE.bor (de_var (i := 6) rfl (by walk_at "vis"))) (DE.bor de_int))) (DE.bor de_int))))) (DE.bor de_int)))
      (dss_cons (ds_set (i := 9) S.nd rfl (by walk_at "loc") (de_op op_mod od_mod (DE.bor (de_t1 call_int1 o1_int (by rfl) T.z_int (by decide +kernel) (DE.bor (de_op or_add od_add (DE.bor (de_op or_mul od_mul (DE.bor (de_var (i := 6) rfl (by walk_at "vis"))) (DE.bor de_int))) (DE.bor (de_var (i := 8) rfl (by walk_at "vis"))))))) (DE.bor de_int)))
      (dss_one (ds_append (i := 7) rfl (by walk_at "vis") (de_op op_mod od_mod (DE.bor (de_t1 call_int1 o1_int (by rfl) T.z_int (by decide +kernel) (DE.bor (de_op op_fdivW od_div (DE.bor (de_var (i := 9) rfl (by walk_at "vis"))) (DE.bor de_int))))) (DE.bor (de_var (i := 3) rfl (by walk_at "vis")))))))))))
      (dss_one (ds_frz 7 (ds_ret (de_var (i := 7) rfl (by walk_at "vis")))))))))))
theorem ok__law_told (T : Txt K mg f__law_row f__law_told f__law_pairs f_is_set f_check_told f_liking_of f_is_liking f_is_world f_Rule___init__ f__law_below f__law_reaches f_Book___init__ f__law_asked f__law_over f__law_stays f__law_middles f__law_same f_on_top f_is_middle f_middles f__law_right_sets f__law_dense f__law_world f_law d__law_row d__law_told d__law_pairs d_is_set d_check_told d_liking_of d_is_liking d_is_world d_Rule___init__ d__law_below d__law_reaches d_Book___init__ d__law_asked d__law_over d__law_stays d__law_middles d__law_same d_on_top d_is_middle d_middles d__law_right_sets d__law_dense d__law_world d_law c_Book c_Rule) : FnD P w K mg base 2 f__law_told d__law_told ["script", "at", "worlds", "outcomes", "way"] m__law_told := by
  refine fn_d (N := ["script", "at", "worlds", "outcomes", "way", "told", "room", "number", "drawn", "share", "members", "index", "tops", "liking", "least"]) T.F__law_told sc__law_told (fun cdv A outer s H E hr => ?_)
  have hc : (cxOf (L2.CX P w) P w K mg base ["script", "at", "worlds", "outcomes", "way", "told", "room", "number", "drawn", "share", "members", "index", "tops", "liking", "least"] "_law_told" (defScope s__law_told) f__law_told cdv A outer s H E).calm = true := rfl
  have S := sc__law_told
  exact (dss_cons (ds_own (i := 5) S.nd rfl (by walk_at "loc") (df_lst da_nil))
      (dss_cons (ds_set (i := 6) S.nd rfl (by walk_at "loc") (de_op op_sub od_sub (DE.bor de_int) (DE.bor (de_b1 cr_len o1_len (by rfl) T.z_len (by decide +kernel) (DE.bor (de_var (i := 2) rfl (by walk_at "vis")))))))
      (dss_cons (ds_for (passes_of rfl) hc (di_range1 (by rfl) T.z_range (de_b1 cr_len o1_len (by rfl) T.z_len (by decide +kernel) (DE.bor (de_var (i := 2) rfl (by walk_at "vis"))))) (dg_name (i := 7) (S.nd) rfl (by walk_at "loc") (by first | exact .inl rfl | exact .inr rfl)) (dss_cons (ds_set (i := 8) S.nd rfl (by walk_at "loc") (de_call (ok__law_row T) (hr.mono (by decide)) (takes_of rfl rfl rfl rfl) (by rfl) T.g__law_row T.F__law_row.kp T.b__law_row (da_cons (de_var (i := 0) rfl (by walk_at "vis")) (da_cons (de_op or_add od_add (DE.bor (de_var (i := 1) rfl (by walk_at "vis"))) (DE.bor (de_var (i := 7) rfl (by walk_at "vis")))) (da_cons (de_op or_add od_add (DE.bor (de_var (i := 3) rfl (by walk_at "vis"))) (DE.bor de_int)) (da_cons de_int da_nil))))))
      (dss_cons (ds_set (i := 9) S.nd rfl (by walk_at "loc") (de_op or_add od_add (DE.bor de_int) (DE.bor (de_op op_mod od_mod (DE.bor (de_t1 call_int1 o1_int (by rfl) T.z_int (by decide +kernel) (DE.bor (de_var (i := 4) rfl (by walk_at "vis"))))) (DE.bor de_int)))))
      (dss_cons (ds_setLc (i := 10) hc S.nd rfl (by rfl) (sw_true rfl (by rfl) rfl (by decide +kernel)) (di_range1 (by rfl) T.z_range (de_var (i := 3) rfl (by walk_at "vis"))) (blkOk_by (N := ["script", "at", "worlds", "outcomes", "way", "told", "room", "number", "drawn", "share", "members", "index", "tops", "liking", "least"]) (sc := defScope s__law_told) (own := [("index", 11)]) (by decide +kernel)) (fun _ _ _ _ _ => (dg_name (i := 11) ((by exact S.nd)) rfl (by walk_at "loc") (by first | exact .inl rfl | exact .inr rfl))) (fun _ _ _ _ _ => (dts_one (dt_cmp (op_eqD hr.units) od_eq (nomark _) (DE.bor (de_op op_mod od_mod (DE.bor (de_t1 call_int1 o1_int (by rfl) T.z_int (by decide +kernel) (DE.bor (de_ix (DE.bor (de_var (i := 8) rfl (by walk_at "vis"))) (DE.bor (de_var (i := 11) rfl (by walk_at "vis"))))))) (DE.bor (de_var (i := 9) rfl (by walk_at "vis"))))) (DE.bor de_int)))) (fun _ _ _ _ _ => (de_var (i := 11) rfl (by walk_at "vis"))))
      (dss_cons (ds_set (i := 12) S.nd rfl (by walk_at "loc") (DF.de (df_compW hc S.nd (di_range1 (by rfl) T.z_range (de_var (i := 3) rfl (by walk_at "vis"))) (blkOk_by (N := ["script", "at", "worlds", "outcomes", "way", "told", "room", "number", "drawn", "share", "members", "index", "tops", "liking", "least"]) (sc := defScope s__law_told) (own := [("index", 11)]) (by decide +kernel)) (fun _ _ _ _ _ => (dg_name (i := 11) ((by exact S.nd)) rfl (by walk_at "loc") (by first | exact .inl rfl | exact .inr rfl))) (fun _ _ _ _ _ => dts_nil) (by exact fun _ _ _ _ _ => (de_b1 cr_len o1_len (by rfl) T.z_len (by decide +kernel) (DE.bor (DF.de (df_compW (by exact hc) (by exact S.nd) (di_seq (de_ix (DE.bor (de_var (i := 2) rfl (by walk_at "vis"))) (DE.bor (de_var (i := 7) rfl (by walk_at "vis"))))) (blkOk_by (N := ["script", "at", "worlds", "outcomes", "way", "told", "room", "number", "drawn", "share", "members", "index", "tops", "liking", "least"]) (own := [("liking", 13)]) (by show blkC _ (relSc _ (defScope s__law_told)) _ _ = true; decide +kernel)) (fun _ _ _ _ _ => (dg_name (i := 13) ((by exact S.nd)) rfl (by walk_at "loc") (by first | exact .inl rfl | exact .inr rfl))) (fun _ _ _ _ _ => (dts_one (dt_cmp (op_eqD hr.units) od_eq (nomark _) (DE.bor (de_ix (DE.bor (de_var (i := 13) rfl (by walk_at "vis"))) (DE.bor (de_var (i := 11) rfl (by walk_at "vis"))))) (DE.bor (de_b1 (cr_maxA (by exact hc)) o1_maxA (by rfl) T.z_max (by decide +kernel) (DE.bor (de_var (i := 13) rfl (by walk_at "vis")))))))) (fun _ _ _ _ _ => (de_var (i := 13) rfl (by walk_at "vis")))))))))))
      (dss_cons (ds_set (i := 14) S.nd rfl (by walk_at "loc") (DF.de (df_compW hc S.nd (di_range1 (by rfl) T.z_range (de_var (i := 3) rfl (by walk_at "vis"))) (blkOk_by (N := ["script", "at", "worlds", "outcomes", "way", "told", "room", "number", "drawn", "share", "members", "index", "tops", "liking", "least"]) (sc := defScope s__law_told) (own := [("index", 11)]) (by decide +kernel)) (fun _ _ _ _ _ => (dg_name (i := 11) ((by exact S.nd)) rfl (by walk_at "loc") (by first | exact .inl rfl | exact .inr rfl))) (fun _ _ _ _ _ => dts_nil) (by exact fun _ _ _ _ _ => (de_b1 cr_len o1_len (by rfl) T.z_len (by decide +kernel) (DE.bor (DF.de (df_compW (by exact hc) (by exact S.nd) (di_seq (de_ix (DE.bor (de_var (i := 2) rfl (by walk_at "vis"))) (DE.bor (de_var (i := 7) rfl (by walk_at "vis"))))) (blkOk_by (N := ["script", "at", "worlds", "outcomes", "way", "told", "room", "number", "drawn", "share", "members", "index", "tops", "liking", "least"]) (own := [("liking", 13)]) (by show blkC _ (relSc _ (defScope s__law_told)) _ _ = true; decide +kernel)) (fun _ _ _ _ _ => (dg_name (i := 13) ((by exact S.nd)) rfl (by walk_at "loc") (by first | exact .inl rfl | exact .inr rfl))) (fun _ _ _ _ _ => (dts_one (dt_cmp op_lt od_lt (nomark _) (DE.bor (de_ix (DE.bor (de_var (i := 13) rfl (by walk_at "vis"))) (DE.bor (de_var (i := 11) rfl (by walk_at "vis"))))) (DE.bor (de_ix (DE.bor (de_var (i := 13) rfl (by walk_at "vis"))) (DE.bor de_int)))))) (fun _ _ _ _ _ => (de_var (i := 13) rfl (by walk_at "vis")))))))))))
      (dss_cons (ds_if (dt_cmp (op_eqD hr.units) od_eq (nomark _) (DE.bor (de_var (i := 4) rfl (by walk_at "vis"))) (DE.bor de_int)) (dss_one (ds_setLc (i := 10) hc S.nd rfl (by rfl) (sw_true rfl (by rfl) rfl (by decide +kernel)) (di_range1 (by rfl) T.z_range (de_var (i := 3) rfl (by walk_at "vis"))) (blkOk_by (N := ["script", "at", "worlds", "outcomes", "way", "told", "room", "number", "drawn", "share", "members", "index", "tops", "liking", "least"]) (sc := defScope s__law_told) (own := [("index", 11)]) (by decide +kernel)) (fun _ _ _ _ _ => (dg_name (i := 11) ((by exact S.nd)) rfl (by walk_at "loc") (by first | exact .inl rfl | exact .inr rfl))) (fun _ _ _ _ _ => (dts_one (dt_cmp op_gt od_gt (nomark _) (DE.bor (de_ix (DE.bor (de_var (i := 12) rfl (by walk_at "vis"))) (DE.bor (de_var (i := 11) rfl (by walk_at "vis"))))) (DE.bor de_int)))) (fun _ _ _ _ _ => (de_var (i := 11) rfl (by walk_at "vis"))))) dss_nil)
      (dss_cons (ds_if (dt_cmp (op_eqD hr.units) od_eq (nomark _) (DE.bor (de_var (i := 4) rfl (by walk_at "vis"))) (DE.bor de_int)) (dss_one (ds_setLc (i := 10) hc S.nd rfl (by rfl) (sw_true rfl (by rfl) rfl (by decide +kernel)) (di_range1 (by rfl) T.z_range (de_var (i := 3) rfl (by walk_at "vis"))) (blkOk_by (N := ["script", "at", "worlds", "outcomes", "way", "told", "room", "number", "drawn", "share", "members", "index", "tops", "liking", "least"]) (sc := defScope s__law_told) (own := [("index", 11)]) (by decide +kernel)) (fun _ _ _ _ _ => (dg_name (i := 11) ((by exact S.nd)) rfl (by walk_at "loc") (by first | exact .inl rfl | exact .inr rfl))) (fun _ _ _ _ _ => (dts_one (dt_cmp (op_eqD hr.units) od_eq (nomark _) (DE.bor (de_ix (DE.bor (de_var (i := 14) rfl (by walk_at "vis"))) (DE.bor (de_var (i := 11) rfl (by walk_at "vis"))))) (DE.bor de_int)))) (fun _ _ _ _ _ => (de_var (i := 11) rfl (by walk_at "vis"))))) dss_nil)
      (dss_cons (ds_if (dt_cmp (op_eqD hr.units) od_eq (nomark _) (DE.bor (de_b1 cr_len o1_len (by rfl) T.z_len (by decide +kernel) (DE.bor (de_var (i := 10) rfl (by walk_at "vis"))))) (DE.bor de_int)) (dss_one (ds_set (i := 10) S.nd rfl (by walk_at "loc") (de_lst (da_cons (de_op op_mod od_mod (DE.bor (de_t1 call_int1 o1_int (by rfl) T.z_int (by decide +kernel) (DE.bor (de_ix (DE.bor (de_var (i := 8) rfl (by walk_at "vis"))) (DE.bor (de_var (i := 3) rfl (by walk_at "vis"))))))) (DE.bor (de_var (i := 3) rfl (by walk_at "vis")))) da_nil)))) dss_nil)
      (dss_cons (ds_set (i := 10) S.nd rfl (by walk_at "loc") (de_slice (DE.bor (de_var (i := 10) rfl (by walk_at "vis"))) do_none (do_some (de_op or_add od_add (DE.bor de_int) (DE.bor (de_var (i := 6) rfl (by walk_at "vis")))))))
      (dss_cons (ds_aug (i := 6) S.nd rfl (by walk_at "loc") (de_op op_sub od_sub (DE.bor (de_b1 cr_len o1_len (by rfl) T.z_len (by decide +kernel) (DE.bor (de_var (i := 10) rfl (by walk_at "vis"))))) (DE.bor de_int)) iop_sub ip_subD)
      (dss_one (ds_append (i := 5) rfl (by walk_at "vis") (de_t1 call_tuple_of o1_tuple (by rfl) T.z_tuple (by decide +kernel) (DE.bor (de_var (i := 10) rfl (by walk_at "vis")))))))))))))))))
      (dss_one (ds_frz 5 (ds_ret (de_var (i := 5) rfl (by walk_at "vis"))))))))
theorem ok__law_pairs (T : Txt K mg f__law_row f__law_told f__law_pairs f_is_set f_check_told f_liking_of f_is_liking f_is_world f_Rule___init__ f__law_below f__law_reaches f_Book___init__ f__law_asked f__law_over f__law_stays f__law_middles f__law_same f_on_top f_is_middle f_middles f__law_right_sets f__law_dense f__law_world f_law d__law_row d__law_told d__law_pairs d_is_set d_check_told d_liking_of d_is_liking d_is_world d_Rule___init__ d__law_below d__law_reaches d_Book___init__ d__law_asked d__law_over d__law_stays d__law_middles d__law_same d_on_top d_is_middle d_middles d__law_right_sets d__law_dense d__law_world d_law c_Book c_Rule) : FnD P w K mg base 1 f__law_pairs d__law_pairs ["told"] m__law_pairs := by
  refine fn_d (N := ["told", "pairs", "number", "outcome"]) T.F__law_pairs sc__law_pairs (fun cdv A outer s H E hr => ?_)
  have hc : (cxOf (L2.CX P w) P w K mg base ["told", "pairs", "number", "outcome"] "_law_pairs" (defScope s__law_pairs) f__law_pairs cdv A outer s H E).calm = true := rfl
  have S := sc__law_pairs
  exact (dss_cons (ds_own (i := 1) S.nd rfl (by walk_at "loc") (df_lst da_nil))
      (dss_cons (ds_for (passes_of rfl) hc (di_range1 (by rfl) T.z_range (de_b1 cr_len o1_len (by rfl) T.z_len (by decide +kernel) (DE.bor (de_var (i := 0) rfl (by walk_at "vis"))))) (dg_name (i := 2) (S.nd) rfl (by walk_at "loc") (by first | exact .inl rfl | exact .inr rfl)) (dss_one (ds_for (passes_of rfl) hc (di_seq (de_ix (DE.bor (de_var (i := 0) rfl (by walk_at "vis"))) (DE.bor (de_var (i := 2) rfl (by walk_at "vis"))))) (dg_name (i := 3) (S.nd) rfl (by walk_at "loc") (by first | exact .inl rfl | exact .inr rfl)) (dss_one (ds_append (i := 1) rfl (by walk_at "vis") (de_tup (da_cons (de_var (i := 3) rfl (by walk_at "vis")) (da_cons (de_var (i := 2) rfl (by walk_at "vis")) da_nil))))))))
      (dss_one (ds_frz 1 (ds_ret (de_var (i := 1) rfl (by walk_at "vis")))))))
theorem ok_is_set (T : Txt K mg f__law_row f__law_told f__law_pairs f_is_set f_check_told f_liking_of f_is_liking f_is_world f_Rule___init__ f__law_below f__law_reaches f_Book___init__ f__law_asked f__law_over f__law_stays f__law_middles f__law_same f_on_top f_is_middle f_middles f__law_right_sets f__law_dense f__law_world f_law d__law_row d__law_told d__law_pairs d_is_set d_check_told d_liking_of d_is_liking d_is_world d_Rule___init__ d__law_below d__law_reaches d_Book___init__ d__law_asked d__law_over d__law_stays d__law_middles d__law_same d_on_top d_is_middle d_middles d__law_right_sets d__law_dense d__law_world d_law c_Book c_Rule) : FnD P w K mg base 1 f_is_set d_is_set ["members", "outcomes"] m_is_set := by
  refine fn_d (N := ["members", "outcomes", "last", "member"]) T.F_is_set sc_is_set (fun cdv A outer s H E hr => ?_)
  have hc : (cxOf (L2.CX P w) P w K mg base ["members", "outcomes", "last", "member"] "is_set" (defScope s_is_set) f_is_set cdv A outer s H E).calm = true := rfl
  have S := sc_is_set
  exact (dss_cons (ds_set (i := 2) S.nd rfl (by walk_at "loc") (de_neg de_int))
      (dss_cons (ds_for (passes_of rfl) hc (di_seq (de_var (i := 0) rfl (by walk_at "vis"))) (dg_name (i := 3) (S.nd) rfl (by walk_at "loc") (by first | exact .inl rfl | exact .inr rfl)) (dss_cons (ds_if (DW.t (dw_or (dt_cmp op_le od_le (nomark _) (DE.bor (de_var (i := 3) rfl (by walk_at "vis"))) (DE.bor (de_var (i := 2) rfl (by walk_at "vis")))) (dw_or1 (dt_cmp op_ge od_ge (nomark _) (DE.bor (de_var (i := 3) rfl (by walk_at "vis"))) (DE.bor (de_var (i := 1) rfl (by walk_at "vis"))))))) (dss_one (ds_ret de_bl)) dss_nil)
      (dss_one (ds_set (i := 2) S.nd rfl (by walk_at "loc") (de_var (i := 3) rfl (by walk_at "vis"))))))
      (dss_one (ds_ret (de_cmp op_ge od_ge (nomark _) (DE.bor (de_var (i := 2) rfl (by walk_at "vis"))) (DE.bor de_int))))))
theorem ok_check_told (T : Txt K mg f__law_row f__law_told f__law_pairs f_is_set f_check_told f_liking_of f_is_liking f_is_world f_Rule___init__ f__law_below f__law_reaches f_Book___init__ f__law_asked f__law_over f__law_stays f__law_middles f__law_same f_on_top f_is_middle f_middles f__law_right_sets f__law_dense f__law_world f_law d__law_row d__law_told d__law_pairs d_is_set d_check_told d_liking_of d_is_liking d_is_world d_Rule___init__ d__law_below d__law_reaches d_Book___init__ d__law_asked d__law_over d__law_stays d__law_middles d__law_same d_on_top d_is_middle d_middles d__law_right_sets d__law_dense d__law_world d_law c_Book c_Rule) : FnD P w K mg base 2 f_check_told d_check_told ["told", "worlds", "outcomes"] m_check_told := by
  refine fn_d (N := ["told", "worlds", "outcomes", "number"]) T.F_check_told sc_check_told (fun cdv A outer s H E hr => ?_)
  have hc : (cxOf (L2.CX P w) P w K mg base ["told", "worlds", "outcomes", "number"] "check_told" (defScope s_check_told) f_check_told cdv A outer s H E).calm = true := rfl
  have S := sc_check_told
  exact (dss_cons (ds_for (passes_of rfl) hc (di_range1 (by rfl) T.z_range (de_b2 (call_min2 hc) o2_min (by rfl) T.z_min (by decide +kernel) (DE.bor (de_var (i := 1) rfl (by walk_at "vis"))) (DE.bor (de_b1 cr_len o1_len (by rfl) T.z_len (by decide +kernel) (DE.bor (de_var (i := 0) rfl (by walk_at "vis"))))))) (dg_name (i := 3) (S.nd) rfl (by walk_at "loc") (by first | exact .inl rfl | exact .inr rfl)) (dss_one (ds_if (dt_not (dt_val (de_call (ok_is_set T) (hr.mono (by decide)) (takes_of rfl rfl rfl rfl) (by rfl) T.g_is_set T.F_is_set.kp T.b_is_set (da_cons (de_ix (DE.bor (de_var (i := 0) rfl (by walk_at "vis"))) (DE.bor (de_var (i := 3) rfl (by walk_at "vis")))) (da_cons (de_var (i := 2) rfl (by walk_at "vis")) da_nil))))) (dss_one ds_stk) dss_nil)))
      (dss_one (ds_if (dt_cmp (op_neD hr.units) od_ne (nomark _) (DE.bor (de_b1 cr_len o1_len (by rfl) T.z_len (by decide +kernel) (DE.bor (de_var (i := 0) rfl (by walk_at "vis"))))) (DE.bor (de_var (i := 1) rfl (by walk_at "vis")))) (dss_one ds_stk) dss_nil)))
theorem ok_liking_of (T : Txt K mg f__law_row f__law_told f__law_pairs f_is_set f_check_told f_liking_of f_is_liking f_is_world f_Rule___init__ f__law_below f__law_reaches f_Book___init__ f__law_asked f__law_over f__law_stays f__law_middles f__law_same f_on_top f_is_middle f_middles f__law_right_sets f__law_dense f__law_world f_law d__law_row d__law_told d__law_pairs d_is_set d_check_told d_liking_of d_is_liking d_is_world d_Rule___init__ d__law_below d__law_reaches d_Book___init__ d__law_asked d__law_over d__law_stays d__law_middles d__law_same d_on_top d_is_middle d_middles d__law_right_sets d__law_dense d__law_world d_law c_Book c_Rule) : FnD P w K mg base 1 f_liking_of d_liking_of ["points"] m_liking_of := by
  refine fn_d (N := ["points", "steps", "point"]) T.F_liking_of sc_liking_of (fun cdv A outer s H E hr => ?_)
  have hc : (cxOf (L2.CX P w) P w K mg base ["points", "steps", "point"] "liking_of" (defScope s_liking_of) f_liking_of cdv A outer s H E).calm = true := rfl
  have S := sc_liking_of
  exact (dss_cons (ds_set (i := 1) S.nd rfl (by walk_at "loc") (DF.de (df_sortedSet hc (by rfl) T.z_sorted (by rfl) T.z_set (DE.bor (de_var (i := 0) rfl (by walk_at "vis"))))))
      (dss_one (ds_ret (de_t1 call_tuple_of o1_tuple (by rfl) T.z_tuple (by decide +kernel) (DE.bor (DF.de (df_compW hc S.nd (di_seq (de_var (i := 0) rfl (by walk_at "vis"))) (blkOk_by (N := ["points", "steps", "point"]) (sc := defScope s_liking_of) (own := [("point", 2)]) (by decide +kernel)) (fun _ _ _ _ _ => (dg_name (i := 2) ((by exact S.nd)) rfl (by walk_at "loc") (by first | exact .inl rfl | exact .inr rfl))) (fun _ _ _ _ _ => dts_nil) (fun _ _ _ _ _ => (de_index (hu65 hr) (DE.bor (de_var (i := 1) rfl (by walk_at "vis"))) (DE.bor (de_var (i := 2) rfl (by walk_at "vis"))))))))))))
theorem ok_is_liking (T : Txt K mg f__law_row f__law_told f__law_pairs f_is_set f_check_told f_liking_of f_is_liking f_is_world f_Rule___init__ f__law_below f__law_reaches f_Book___init__ f__law_asked f__law_over f__law_stays f__law_middles f__law_same f_on_top f_is_middle f_middles f__law_right_sets f__law_dense f__law_world f_law d__law_row d__law_told d__law_pairs d_is_set d_check_told d_liking_of d_is_liking d_is_world d_Rule___init__ d__law_below d__law_reaches d_Book___init__ d__law_asked d__law_over d__law_stays d__law_middles d__law_same d_on_top d_is_middle d_middles d__law_right_sets d__law_dense d__law_world d_law c_Book c_Rule) : FnD P w K mg base 2 f_is_liking d_is_liking ["levels", "outcomes"] m_is_liking := by
  refine fn_d (N := ["levels", "outcomes"]) T.F_is_liking sc_is_liking (fun cdv A outer s H E hr => ?_)
  have hc : (cxOf (L2.CX P w) P w K mg base ["levels", "outcomes"] "is_liking" (defScope s_is_liking) f_is_liking cdv A outer s H E).calm = true := rfl
  have S := sc_is_liking
  exact (dss_one (ds_ret (de_and (de_cmp (op_eqD hr.units) od_eq (nomark _) (DE.bor (de_b1 cr_len o1_len (by rfl) T.z_len (by decide +kernel) (DE.bor (de_var (i := 0) rfl (by walk_at "vis"))))) (DE.bor (de_var (i := 1) rfl (by walk_at "vis")))) (de_one (de_cmp (op_eqD hr.units) od_eq (nomark _) (DE.bor (de_t1 call_tuple_of o1_tuple (by rfl) T.z_tuple (by decide +kernel) (DE.bor (de_var (i := 0) rfl (by walk_at "vis"))))) (DE.bor (de_call (ok_liking_of T) (hr.mono (by decide)) (takes_of rfl rfl rfl rfl) (by rfl) T.g_liking_of T.F_liking_of.kp T.b_liking_of (da_cons (de_var (i := 0) rfl (by walk_at "vis")) da_nil))))))))
theorem ok_is_world (T : Txt K mg f__law_row f__law_told f__law_pairs f_is_set f_check_told f_liking_of f_is_liking f_is_world f_Rule___init__ f__law_below f__law_reaches f_Book___init__ f__law_asked f__law_over f__law_stays f__law_middles f__law_same f_on_top f_is_middle f_middles f__law_right_sets f__law_dense f__law_world f_law d__law_row d__law_told d__law_pairs d_is_set d_check_told d_liking_of d_is_liking d_is_world d_Rule___init__ d__law_below d__law_reaches d_Book___init__ d__law_asked d__law_over d__law_stays d__law_middles d__law_same d_on_top d_is_middle d_middles d__law_right_sets d__law_dense d__law_world d_law c_Book c_Rule) : FnD P w K mg base 3 f_is_world d_is_world ["world", "people", "outcomes"] m_is_world := by
  refine fn_d (N := ["world", "people", "outcomes", "liking"]) T.F_is_world sc_is_world (fun cdv A outer s H E hr => ?_)
  have hc : (cxOf (L2.CX P w) P w K mg base ["world", "people", "outcomes", "liking"] "is_world" (defScope s_is_world) f_is_world cdv A outer s H E).calm = true := rfl
  have S := sc_is_world
  exact (dss_cons (ds_if (dt_cmp (op_neD hr.units) od_ne (nomark _) (DE.bor (de_b1 cr_len o1_len (by rfl) T.z_len (by decide +kernel) (DE.bor (de_var (i := 0) rfl (by walk_at "vis"))))) (DE.bor (de_var (i := 1) rfl (by walk_at "vis")))) (dss_one (ds_ret de_bl)) dss_nil)
      (dss_cons (ds_for (passes_of rfl) hc (di_seq (de_var (i := 0) rfl (by walk_at "vis"))) (dg_name (i := 3) (S.nd) rfl (by walk_at "loc") (by first | exact .inl rfl | exact .inr rfl)) (dss_one (ds_if (dt_not (dt_val (de_call (ok_is_liking T) (hr.mono (by decide)) (takes_of rfl rfl rfl rfl) (by rfl) T.g_is_liking T.F_is_liking.kp T.b_is_liking (da_cons (de_var (i := 3) rfl (by walk_at "vis")) (da_cons (de_var (i := 2) rfl (by walk_at "vis")) da_nil))))) (dss_one (ds_ret de_bl)) dss_nil)))
      (dss_one (ds_ret de_bl))))
theorem ok_Rule___init__ (T : Txt K mg f__law_row f__law_told f__law_pairs f_is_set f_check_told f_liking_of f_is_liking f_is_world f_Rule___init__ f__law_below f__law_reaches f_Book___init__ f__law_asked f__law_over f__law_stays f__law_middles f__law_same f_on_top f_is_middle f_middles f__law_right_sets f__law_dense f__law_world f_law d__law_row d__law_told d__law_pairs d_is_set d_check_told d_liking_of d_is_liking d_is_world d_Rule___init__ d__law_below d__law_reaches d_Book___init__ d__law_asked d__law_over d__law_stays d__law_middles d__law_same d_on_top d_is_middle d_middles d__law_right_sets d__law_dense d__law_world d_law c_Book c_Rule) : FnOk P w K mg base (L2.CX P w) 4 f_Rule___init__ d_Rule___init__ ["self", "people", "outcomes", "worlds", "told"] (spI K mg "Rule" 4 m_Rule___init__) := by
  refine fn_i (N := ["self", "people", "outcomes", "worlds", "told", "number", "liking", "world", "members", "pairs", "outcome"]) T.F_Rule___init__ sc_Rule___init__ (by simp) (fun cdv A outer s H E hr => ?_)
  have hc : (cxOf (L2.CX P w) P w K mg base ["self", "people", "outcomes", "worlds", "told", "number", "liking", "world", "members", "pairs", "outcome"] "Rule.__init__" (defScope s_Rule___init__) f_Rule___init__ cdv A outer s H E).calm = true := rfl
  have S := sc_Rule___init__
  exact (dss_cons (ds_if (dt_not (dt_chain op_le op_le (DE.bor de_int) (DE.bor (de_var (i := 1) rfl (by walk_at "vis"))) (DE.bor (de_glob (v := .int (4)) (by rfl) (Classical.choose_spec T.c_PEOPLE) ⟨_, rfl⟩ fun _ => .int)))) (dss_one ds_stk) dss_nil)
      (dss_cons (ds_if (dt_not (dt_chain op_le op_le (DE.bor de_int) (DE.bor (de_var (i := 2) rfl (by walk_at "vis"))) (DE.bor (de_glob (v := .int (8)) (by rfl) (Classical.choose_spec T.c_OUTCOMES) ⟨_, rfl⟩ fun _ => .int)))) (dss_one ds_stk) dss_nil)
      (dss_cons (ds_if (dt_not (dt_chain op_le op_le (DE.bor de_int) (DE.bor (de_b1 cr_len o1_len (by rfl) T.z_len (by decide +kernel) (DE.bor (de_var (i := 3) rfl (by walk_at "vis"))))) (DE.bor (de_glob (v := .int (8)) (by rfl) (Classical.choose_spec T.c_WORLDS) ⟨_, rfl⟩ fun _ => .int)))) (dss_one ds_stk) dss_nil)
      (dss_cons (ds_for (passes_of rfl) hc (di_range1 (by rfl) T.z_range (de_b1 cr_len o1_len (by rfl) T.z_len (by decide +kernel) (DE.bor (de_var (i := 3) rfl (by walk_at "vis"))))) (dg_name (i := 5) (S.nd) rfl (by walk_at "loc") (by first | exact .inl rfl | exact .inr rfl)) (dss_one (ds_if (dt_not (dt_val (de_call (ok_is_world T) (hr.mono (by decide)) (takes_of rfl rfl rfl rfl) (by rfl) T.g_is_world T.F_is_world.kp T.b_is_world (da_cons (de_ix (DE.bor (de_var (i := 3) rfl (by walk_at "vis"))) (DE.bor (de_var (i := 5) rfl (by walk_at "vis")))) (da_cons (de_var (i := 1) rfl (by walk_at "vis")) (da_cons (de_var (i := 2) rfl (by walk_at "vis")) da_nil)))))) (dss_one ds_stk) dss_nil)))
      (dss_cons (ds_expr (de_call (ok_check_told T) (hr.mono (by decide)) (takes_of rfl rfl rfl rfl) (by rfl) T.g_check_told T.F_check_told.kp T.b_check_told (da_cons (de_var (i := 4) rfl (by walk_at "vis")) (da_cons (de_b1 cr_len o1_len (by rfl) T.z_len (by decide +kernel) (DE.bor (de_var (i := 3) rfl (by walk_at "vis")))) (da_cons (de_var (i := 2) rfl (by walk_at "vis")) da_nil)))))
      (dss_cons (ds_fldS (i := 0) rfl (by walk_at "vis") T.fo_people (de_var (i := 1) rfl (by walk_at "vis")))
      (dss_cons (ds_fldS (i := 0) rfl (by walk_at "vis") T.fo_outcomes (de_var (i := 2) rfl (by walk_at "vis")))
      (dss_cons (ds_fldS (i := 0) rfl (by walk_at "vis") T.fo_worlds (de_t1 call_tuple_of o1_tuple (by rfl) T.z_tuple (by decide +kernel) (DE.bor (DF.de (df_compW hc S.nd (di_seq (de_var (i := 3) rfl (by walk_at "vis"))) (blkOk_by (N := ["self", "people", "outcomes", "worlds", "told", "number", "liking", "world", "members", "pairs", "outcome"]) (sc := defScope s_Rule___init__) (own := [("world", 7)]) (by decide +kernel)) (fun _ _ _ _ _ => (dg_name (i := 7) ((by exact S.nd)) rfl (by walk_at "loc") (by first | exact .inl rfl | exact .inr rfl))) (fun _ _ _ _ _ => dts_nil) (by exact fun _ _ _ _ _ => (de_t1 call_tuple_of o1_tuple (by rfl) T.z_tuple (by decide +kernel) (DE.bor (DF.de (df_compW (by exact hc) (by exact S.nd) (di_seq (de_var (i := 7) rfl (by walk_at "vis"))) (blkOk_by (N := ["self", "people", "outcomes", "worlds", "told", "number", "liking", "world", "members", "pairs", "outcome"]) (own := [("liking", 6)]) (by show blkC _ (relSc _ (defScope s_Rule___init__)) _ _ = true; decide +kernel)) (fun _ _ _ _ _ => (dg_name (i := 6) ((by exact S.nd)) rfl (by walk_at "loc") (by first | exact .inl rfl | exact .inr rfl))) (fun _ _ _ _ _ => dts_nil) (fun _ _ _ _ _ => (de_t1 call_tuple_of o1_tuple (by rfl) T.z_tuple (by decide +kernel) (DE.bor (de_var (i := 6) rfl (by walk_at "vis")))))))))))))))
      (dss_cons (ds_fldS (i := 0) rfl (by walk_at "vis") T.fo_told (de_t1 call_tuple_of o1_tuple (by rfl) T.z_tuple (by decide +kernel) (DE.bor (DF.de (df_compW hc S.nd (di_seq (de_var (i := 4) rfl (by walk_at "vis"))) (blkOk_by (N := ["self", "people", "outcomes", "worlds", "told", "number", "liking", "world", "members", "pairs", "outcome"]) (sc := defScope s_Rule___init__) (own := [("members", 8)]) (by decide +kernel)) (fun _ _ _ _ _ => (dg_name (i := 8) ((by exact S.nd)) rfl (by walk_at "loc") (by first | exact .inl rfl | exact .inr rfl))) (fun _ _ _ _ _ => dts_nil) (fun _ _ _ _ _ => (de_t1 call_tuple_of o1_tuple (by rfl) T.z_tuple (by decide +kernel) (DE.bor (de_var (i := 8) rfl (by walk_at "vis"))))))))))
      (dss_cons (ds_own (i := 9) S.nd rfl (by walk_at "loc") (df_lst da_nil))
      (dss_cons (ds_for (passes_of rfl) hc (di_range1 (by rfl) T.z_range (de_b1 cr_len o1_len (by rfl) T.z_len (by decide +kernel) (DE.bor (de_fldS (i := 0) rfl (by walk_at "vis") T.fo_told)))) (dg_name (i := 5) (S.nd) rfl (by walk_at "loc") (by first | exact .inl rfl | exact .inr rfl)) (dss_one (ds_for (passes_of rfl) hc (di_seq (de_ix (DE.bor (de_fldS (i := 0) rfl (by walk_at "vis") T.fo_told)) (DE.bor (de_var (i := 5) rfl (by walk_at "vis"))))) (dg_name (i := 10) (S.nd) rfl (by walk_at "loc") (by first | exact .inl rfl | exact .inr rfl)) (dss_one (ds_append (i := 9) rfl (by walk_at "vis") (de_tup (da_cons (de_var (i := 10) rfl (by walk_at "vis")) (da_cons (de_var (i := 5) rfl (by walk_at "vis")) da_nil))))))))
      (dss_cons (ds_fldS (i := 0) rfl (by walk_at "vis") T.fo_pairs (de_t1 call_tuple_of o1_tuple (by rfl) T.z_tuple (by decide +kernel) (db_var (i := 9) rfl (by walk_at "vis"))))
      (dss_one (ds_if (dt_cmp op_gt od_gt (nomark _) (DE.bor (de_b1 cr_len o1_len (by rfl) T.z_len (by decide +kernel) (db_var (i := 9) rfl (by walk_at "vis")))) (DE.bor (de_glob (v := .int (24)) (by rfl) (Classical.choose_spec T.c_PAIRS) ⟨_, rfl⟩ fun _ => .int))) (dss_one ds_stk) dss_nil))))))))))))))
theorem ok__law_below (T : Txt K mg f__law_row f__law_told f__law_pairs f_is_set f_check_told f_liking_of f_is_liking f_is_world f_Rule___init__ f__law_below f__law_reaches f_Book___init__ f__law_asked f__law_over f__law_stays f__law_middles f__law_same f_on_top f_is_middle f_middles f__law_right_sets f__law_dense f__law_world f_law d__law_row d__law_told d__law_pairs d_is_set d_check_told d_liking_of d_is_liking d_is_world d_Rule___init__ d__law_below d__law_reaches d_Book___init__ d__law_asked d__law_over d__law_stays d__law_middles d__law_same d_on_top d_is_middle d_middles d__law_right_sets d__law_dense d__law_world d_law c_Book c_Rule) : FnD P w K mg base 1 f__law_below d__law_below ["worlds", "kept", "place", "who"] m__law_below := by
  refine fn_d (N := ["worlds", "kept", "place", "who", "liking", "one"]) T.F__law_below sc__law_below (fun cdv A outer s H E hr => ?_)
  have hc : (cxOf (L2.CX P w) P w K mg base ["worlds", "kept", "place", "who", "liking", "one"] "_law_below" (defScope s__law_below) f__law_below cdv A outer s H E).calm = true := rfl
  have S := sc__law_below
  exact (dss_cons (ds_set (i := 4) S.nd rfl (by walk_at "loc") (de_ix (DE.bor (de_ix (DE.bor (de_var (i := 0) rfl (by walk_at "vis"))) (DE.bor (de_ix (DE.bor (de_var (i := 2) rfl (by walk_at "vis"))) (DE.bor de_int))))) (DE.bor (de_var (i := 3) rfl (by walk_at "vis")))))
      (dss_one (ds_ret (DF.de (df_compW hc S.nd (di_seq (de_var (i := 1) rfl (by walk_at "vis"))) (blkOk_by (N := ["worlds", "kept", "place", "who", "liking", "one"]) (sc := defScope s__law_below) (own := [("one", 5)]) (by decide +kernel)) (fun _ _ _ _ _ => (dg_name (i := 5) ((by exact S.nd)) rfl (by walk_at "loc") (by first | exact .inl rfl | exact .inr rfl))) (fun _ _ _ _ _ => (dts_one (dt_cmp op_le od_le (nomark _) (DE.bor (de_ix (DE.bor (de_var (i := 4) rfl (by walk_at "vis"))) (DE.bor (de_var (i := 5) rfl (by walk_at "vis"))))) (DE.bor (de_ix (DE.bor (de_var (i := 4) rfl (by walk_at "vis"))) (DE.bor (de_ix (DE.bor (de_var (i := 2) rfl (by walk_at "vis"))) (DE.bor de_int)))))))) (fun _ _ _ _ _ => (de_var (i := 5) rfl (by walk_at "vis"))))))))
theorem ok__law_reaches (T : Txt K mg f__law_row f__law_told f__law_pairs f_is_set f_check_told f_liking_of f_is_liking f_is_world f_Rule___init__ f__law_below f__law_reaches f_Book___init__ f__law_asked f__law_over f__law_stays f__law_middles f__law_same f_on_top f_is_middle f_middles f__law_right_sets f__law_dense f__law_world f_law d__law_row d__law_told d__law_pairs d_is_set d_check_told d_liking_of d_is_liking d_is_world d_Rule___init__ d__law_below d__law_reaches d_Book___init__ d__law_asked d__law_over d__law_stays d__law_middles d__law_same d_on_top d_is_middle d_middles d__law_right_sets d__law_dense d__law_world d_law c_Book c_Rule) : FnD P w K mg base 2 f__law_reaches d__law_reaches ["script", "at", "worlds", "places", "outcomes"] m__law_reaches := by
  refine fn_d (N := ["script", "at", "worlds", "places", "outcomes", "drawn", "rows", "index", "row", "who", "first", "way", "members", "one"]) T.F__law_reaches sc__law_reaches (fun cdv A outer s H E hr => ?_)
  have hc : (cxOf (L2.CX P w) P w K mg base ["script", "at", "worlds", "places", "outcomes", "drawn", "rows", "index", "row", "who", "first", "way", "members", "one"] "_law_reaches" (defScope s__law_reaches) f__law_reaches cdv A outer s H E).calm = true := rfl
  have S := sc__law_reaches
  exact (dss_cons (ds_set (i := 5) S.nd rfl (by walk_at "loc") (de_call (ok__law_row T) (hr.mono (by decide)) (takes_of rfl rfl rfl rfl) (by rfl) T.g__law_row T.F__law_row.kp T.b__law_row (da_cons (de_var (i := 0) rfl (by walk_at "vis")) (da_cons (de_var (i := 1) rfl (by walk_at "vis")) (da_cons (de_op or_mul od_mul (DE.bor (de_op or_mul od_mul (DE.bor de_int) (DE.bor (de_b1 cr_len o1_len (by rfl) T.z_len (by decide +kernel) (DE.bor (de_var (i := 3) rfl (by walk_at "vis"))))))) (DE.bor (de_op or_add od_add (DE.bor (de_var (i := 4) rfl (by walk_at "vis"))) (DE.bor de_int)))) (da_cons de_int da_nil))))))
      (dss_cons (ds_own (i := 6) S.nd rfl (by walk_at "loc") (df_lst da_nil))
      (dss_cons (ds_for (passes_of rfl) hc (di_range1 (by rfl) T.z_range (de_b1 cr_len o1_len (by rfl) T.z_len (by decide +kernel) (DE.bor (de_var (i := 3) rfl (by walk_at "vis"))))) (dg_name (i := 7) (S.nd) rfl (by walk_at "loc") (by first | exact .inl rfl | exact .inr rfl)) (dss_cons (ds_own (i := 8) S.nd rfl (by walk_at "loc") (df_lst da_nil))
      (dss_cons (ds_for (passes_of rfl) hc (di_range1 (by rfl) T.z_range de_int) (dg_name (i := 9) (S.nd) rfl (by walk_at "loc") (by first | exact .inl rfl | exact .inr rfl)) (dss_cons (ds_set (i := 10) S.nd rfl (by walk_at "loc") (de_op or_mul od_mul (DE.bor (de_op or_add od_add (DE.bor (de_op or_mul od_mul (DE.bor de_int) (DE.bor (de_var (i := 7) rfl (by walk_at "vis"))))) (DE.bor (de_var (i := 9) rfl (by walk_at "vis"))))) (DE.bor (de_op or_add od_add (DE.bor (de_var (i := 4) rfl (by walk_at "vis"))) (DE.bor de_int)))))
      (dss_cons (ds_set (i := 11) S.nd rfl (by walk_at "loc") (de_op op_mod od_mod (DE.bor (de_t1 call_int1 o1_int (by rfl) T.z_int (by decide +kernel) (DE.bor (de_ix (DE.bor (de_var (i := 5) rfl (by walk_at "vis"))) (DE.bor (de_op or_add od_add (DE.bor (de_var (i := 10) rfl (by walk_at "vis"))) (DE.bor (de_var (i := 4) rfl (by walk_at "vis"))))))))) (DE.bor de_int)))
      (dss_cons (ds_setLc (i := 12) hc S.nd rfl (by rfl) (sw_true rfl (by rfl) rfl (by decide +kernel)) (di_range1 (by rfl) T.z_range (de_var (i := 4) rfl (by walk_at "vis"))) (blkOk_by (N := ["script", "at", "worlds", "places", "outcomes", "drawn", "rows", "index", "row", "who", "first", "way", "members", "one"]) (sc := defScope s__law_reaches) (own := [("one", 13)]) (by decide +kernel)) (fun _ _ _ _ _ => (dg_name (i := 13) ((by exact S.nd)) rfl (by walk_at "loc") (by first | exact .inl rfl | exact .inr rfl))) (fun _ _ _ _ _ => (dts_one (dt_cmp (op_eqD hr.units) od_eq (nomark _) (DE.bor (de_op op_mod od_mod (DE.bor (de_t1 call_int1 o1_int (by rfl) T.z_int (by decide +kernel) (DE.bor (de_ix (DE.bor (de_var (i := 5) rfl (by walk_at "vis"))) (DE.bor (de_op or_add od_add (DE.bor (de_var (i := 10) rfl (by walk_at "vis"))) (DE.bor (de_var (i := 13) rfl (by walk_at "vis"))))))))) (DE.bor de_int))) (DE.bor de_int)))) (fun _ _ _ _ _ => (de_var (i := 13) rfl (by walk_at "vis"))))
      (dss_cons (ds_if (dt_cmp (op_eqD hr.units) od_eq (nomark _) (DE.bor (de_var (i := 11) rfl (by walk_at "vis"))) (DE.bor de_int)) (dss_one (ds_set (i := 12) S.nd rfl (by walk_at "loc") (de_lst da_nil))) dss_nil)
      (dss_cons (ds_if (dt_cmp (op_eqD hr.units) od_eq (nomark _) (DE.bor (de_var (i := 11) rfl (by walk_at "vis"))) (DE.bor de_int)) (dss_one (ds_set (i := 12) S.nd rfl (by walk_at "loc") (DF.de (df_listRg hc (by rfl) T.z_list (by rfl) T.z_range (de_var (i := 4) rfl (by walk_at "vis")))))) dss_nil)
      (dss_cons (ds_if (dt_cmp (op_eqD hr.units) od_eq (nomark _) (DE.bor (de_var (i := 11) rfl (by walk_at "vis"))) (DE.bor de_int)) (dss_one (ds_set (i := 12) S.nd rfl (by walk_at "loc") (de_call (ok__law_below T) (hr.mono (by decide)) (takes_of rfl rfl rfl rfl) (by rfl) T.g__law_below T.F__law_below.kp T.b__law_below (da_cons (de_var (i := 2) rfl (by walk_at "vis")) (da_cons (DF.de (df_listRg hc (by rfl) T.z_list (by rfl) T.z_range (de_var (i := 4) rfl (by walk_at "vis")))) (da_cons (de_ix (DE.bor (de_var (i := 3) rfl (by walk_at "vis"))) (DE.bor (de_var (i := 7) rfl (by walk_at "vis")))) (da_cons (de_var (i := 9) rfl (by walk_at "vis")) da_nil))))))) dss_nil)
      (dss_one (ds_append (i := 8) rfl (by walk_at "vis") (de_t1 call_tuple_of o1_tuple (by rfl) T.z_tuple (by decide +kernel) (DE.bor (de_var (i := 12) rfl (by walk_at "vis")))))))))))))
      (dss_one (ds_append (i := 6) rfl (by walk_at "vis") (de_t1 call_tuple_of o1_tuple (by rfl) T.z_tuple (by decide +kernel) (db_var (i := 8) rfl (by walk_at "vis"))))))))
      (dss_one (ds_ret (de_t1 call_tuple_of o1_tuple (by rfl) T.z_tuple (by decide +kernel) (db_var (i := 6) rfl (by walk_at "vis"))))))))
theorem ok_Book___init__ (T : Txt K mg f__law_row f__law_told f__law_pairs f_is_set f_check_told f_liking_of f_is_liking f_is_world f_Rule___init__ f__law_below f__law_reaches f_Book___init__ f__law_asked f__law_over f__law_stays f__law_middles f__law_same f_on_top f_is_middle f_middles f__law_right_sets f__law_dense f__law_world f_law d__law_row d__law_told d__law_pairs d_is_set d_check_told d_liking_of d_is_liking d_is_world d_Rule___init__ d__law_below d__law_reaches d_Book___init__ d__law_asked d__law_over d__law_stays d__law_middles d__law_same d_on_top d_is_middle d_middles d__law_right_sets d__law_dense d__law_world d_law c_Book c_Rule) : FnOk P w K mg base (L2.CX P w) 1 f_Book___init__ d_Book___init__ ["self", "allowed", "reach"] (spI K mg "Book" 2 m_Book___init__) := by
  refine fn_i (N := ["self", "allowed", "reach", "members", "sets"]) T.F_Book___init__ sc_Book___init__ (by simp) (fun cdv A outer s H E hr => ?_)
  have hc : (cxOf (L2.CX P w) P w K mg base ["self", "allowed", "reach", "members", "sets"] "Book.__init__" (defScope s_Book___init__) f_Book___init__ cdv A outer s H E).calm = true := rfl
  have S := sc_Book___init__
  exact (dss_cons (ds_fldS (i := 0) rfl (by walk_at "vis") T.fo_allowed (de_t1 call_tuple_of o1_tuple (by rfl) T.z_tuple (by decide +kernel) (DE.bor (de_var (i := 1) rfl (by walk_at "vis")))))
      (dss_one (ds_fldS (i := 0) rfl (by walk_at "vis") T.fo_reach (de_t1 call_tuple_of o1_tuple (by rfl) T.z_tuple (by decide +kernel) (DE.bor (DF.de (df_compW hc S.nd (di_seq (de_var (i := 2) rfl (by walk_at "vis"))) (blkOk_by (N := ["self", "allowed", "reach", "members", "sets"]) (sc := defScope s_Book___init__) (own := [("sets", 4)]) (by decide +kernel)) (fun _ _ _ _ _ => (dg_name (i := 4) ((by exact S.nd)) rfl (by walk_at "loc") (by first | exact .inl rfl | exact .inr rfl))) (fun _ _ _ _ _ => dts_nil) (by exact fun _ _ _ _ _ => (de_t1 call_tuple_of o1_tuple (by rfl) T.z_tuple (by decide +kernel) (DE.bor (DF.de (df_compW (by exact hc) (by exact S.nd) (di_seq (de_var (i := 4) rfl (by walk_at "vis"))) (blkOk_by (N := ["self", "allowed", "reach", "members", "sets"]) (own := [("members", 3)]) (by show blkC _ (relSc _ (defScope s_Book___init__)) _ _ = true; decide +kernel)) (fun _ _ _ _ _ => (dg_name (i := 3) ((by exact S.nd)) rfl (by walk_at "loc") (by first | exact .inl rfl | exact .inr rfl))) (fun _ _ _ _ _ => dts_nil) (fun _ _ _ _ _ => (de_t1 call_tuple_of o1_tuple (by rfl) T.z_tuple (by decide +kernel) (DE.bor (de_var (i := 3) rfl (by walk_at "vis")))))))))))))))))
theorem ok__law_asked (T : Txt K mg f__law_row f__law_told f__law_pairs f_is_set f_check_told f_liking_of f_is_liking f_is_world f_Rule___init__ f__law_below f__law_reaches f_Book___init__ f__law_asked f__law_over f__law_stays f__law_middles f__law_same f_on_top f_is_middle f_middles f__law_right_sets f__law_dense f__law_world f_law d__law_row d__law_told d__law_pairs d_is_set d_check_told d_liking_of d_is_liking d_is_world d_Rule___init__ d__law_below d__law_reaches d_Book___init__ d__law_asked d__law_over d__law_stays d__law_middles d__law_same d_on_top d_is_middle d_middles d__law_right_sets d__law_dense d__law_world d_law c_Book c_Rule) : FnD P w K mg base 2 f__law_asked d__law_asked ["script", "at", "size"] m__law_asked := by
  refine fn_d (N := ["script", "at", "size", "asked", "one", "second", "drawn", "index"]) T.F__law_asked sc__law_asked (fun cdv A outer s H E hr => ?_)
  have hc : (cxOf (L2.CX P w) P w K mg base ["script", "at", "size", "asked", "one", "second", "drawn", "index"] "_law_asked" (defScope s__law_asked) f__law_asked cdv A outer s H E).calm = true := rfl
  have S := sc__law_asked
  exact (dss_cons (ds_own (i := 3) S.nd rfl (by walk_at "loc") (df_lst da_nil))
      (dss_cons (ds_if (dt_cmp op_lt od_lt (nomark _) (DE.bor (de_var (i := 2) rfl (by walk_at "vis"))) (DE.bor de_int)) (dss_cons (ds_for (passes_of rfl) hc (di_range1 (by rfl) T.z_range (de_var (i := 2) rfl (by walk_at "vis"))) (dg_name (i := 4) (S.nd) rfl (by walk_at "loc") (by first | exact .inl rfl | exact .inr rfl)) (dss_one (ds_for (passes_of rfl) hc (di_range1 (by rfl) T.z_range (de_var (i := 2) rfl (by walk_at "vis"))) (dg_name (i := 5) (S.nd) rfl (by walk_at "loc") (by first | exact .inl rfl | exact .inr rfl)) (dss_one (ds_append (i := 3) rfl (by walk_at "vis") (de_tup (da_cons (de_var (i := 4) rfl (by walk_at "vis")) (da_cons (de_var (i := 5) rfl (by walk_at "vis")) da_nil))))))))
      (dss_one (ds_frz 3 (ds_ret (de_var (i := 3) rfl (by walk_at "vis")))))) dss_nil)
      (dss_cons (ds_set (i := 6) S.nd rfl (by walk_at "loc") (de_call (ok__law_row T) (hr.mono (by decide)) (takes_of rfl rfl rfl rfl) (by rfl) T.g__law_row T.F__law_row.kp T.b__law_row (da_cons (de_var (i := 0) rfl (by walk_at "vis")) (da_cons (de_var (i := 1) rfl (by walk_at "vis")) (da_cons de_int (da_cons de_int da_nil))))))
      (dss_one (ds_ret (DF.de (df_compW hc S.nd (di_range1 (by rfl) T.z_range de_int) (blkOk_by (N := ["script", "at", "size", "asked", "one", "second", "drawn", "index"]) (sc := defScope s__law_asked) (own := [("index", 7)]) (by decide +kernel)) (fun _ _ _ _ _ => (dg_name (i := 7) ((by exact S.nd)) rfl (by walk_at "loc") (by first | exact .inl rfl | exact .inr rfl))) (fun _ _ _ _ _ => dts_nil) (fun _ _ _ _ _ => (de_tup (da_cons (de_op op_mod od_mod (DE.bor (de_t1 call_int1 o1_int (by rfl) T.z_int (by decide +kernel) (DE.bor (de_ix (DE.bor (de_var (i := 6) rfl (by walk_at "vis"))) (DE.bor (de_op or_mul od_mul (DE.bor de_int) (DE.bor (de_var (i := 7) rfl (by walk_at "vis"))))))))) (DE.bor (de_var (i := 2) rfl (by walk_at "vis")))) (da_cons (de_op op_mod od_mod (DE.bor (de_t1 call_int1 o1_int (by rfl) T.z_int (by decide +kernel) (DE.bor (de_ix (DE.bor (de_var (i := 6) rfl (by walk_at "vis"))) (DE.bor (de_op or_add od_add (DE.bor (de_op or_mul od_mul (DE.bor de_int) (DE.bor (de_var (i := 7) rfl (by walk_at "vis"))))) (DE.bor de_int))))))) (DE.bor (de_var (i := 2) rfl (by walk_at "vis")))) da_nil)))))))))))
theorem ok__law_over (T : Txt K mg f__law_row f__law_told f__law_pairs f_is_set f_check_told f_liking_of f_is_liking f_is_world f_Rule___init__ f__law_below f__law_reaches f_Book___init__ f__law_asked f__law_over f__law_stays f__law_middles f__law_same f_on_top f_is_middle f_middles f__law_right_sets f__law_dense f__law_world f_law d__law_row d__law_told d__law_pairs d_is_set d_check_told d_liking_of d_is_liking d_is_world d_Rule___init__ d__law_below d__law_reaches d_Book___init__ d__law_asked d__law_over d__law_stays d__law_middles d__law_same d_on_top d_is_middle d_middles d__law_right_sets d__law_dense d__law_world d_law c_Book c_Rule) : FnD P w K mg base 1 f__law_over d__law_over ["liking", "outcome", "members"] m__law_over := by
  refine fn_d (N := ["liking", "outcome", "members", "member"]) T.F__law_over sc__law_over (fun cdv A outer s H E hr => ?_)
  have hc : (cxOf (L2.CX P w) P w K mg base ["liking", "outcome", "members", "member"] "_law_over" (defScope s__law_over) f__law_over cdv A outer s H E).calm = true := rfl
  have S := sc__law_over
  exact (dss_cons (ds_for (passes_of rfl) hc (di_seq (de_var (i := 2) rfl (by walk_at "vis"))) (dg_name (i := 3) (S.nd) rfl (by walk_at "loc") (by first | exact .inl rfl | exact .inr rfl)) (dss_one (ds_if (dt_cmp op_gt od_gt (nomark _) (DE.bor (de_ix (DE.bor (de_var (i := 0) rfl (by walk_at "vis"))) (DE.bor (de_var (i := 3) rfl (by walk_at "vis"))))) (DE.bor (de_ix (DE.bor (de_var (i := 0) rfl (by walk_at "vis"))) (DE.bor (de_var (i := 1) rfl (by walk_at "vis")))))) (dss_one (ds_ret de_bl)) dss_nil)))
      (dss_one (ds_ret de_bl)))
theorem ok__law_stays (T : Txt K mg f__law_row f__law_told f__law_pairs f_is_set f_check_told f_liking_of f_is_liking f_is_world f_Rule___init__ f__law_below f__law_reaches f_Book___init__ f__law_asked f__law_over f__law_stays f__law_middles f__law_same f_on_top f_is_middle f_middles f__law_right_sets f__law_dense f__law_world f_law d__law_row d__law_told d__law_pairs d_is_set d_check_told d_liking_of d_is_liking d_is_world d_Rule___init__ d__law_below d__law_reaches d_Book___init__ d__law_asked d__law_over d__law_stays d__law_middles d__law_same d_on_top d_is_middle d_middles d__law_right_sets d__law_dense d__law_world d_law c_Book c_Rule) : FnD P w K mg base 2 f__law_stays d__law_stays ["world", "outcome", "sets"] m__law_stays := by
  refine fn_d (N := ["world", "outcome", "sets", "who"]) T.F__law_stays sc__law_stays (fun cdv A outer s H E hr => ?_)
  have hc : (cxOf (L2.CX P w) P w K mg base ["world", "outcome", "sets", "who"] "_law_stays" (defScope s__law_stays) f__law_stays cdv A outer s H E).calm = true := rfl
  have S := sc__law_stays
  exact (dss_one (ds_ret (de_cmp (or_notin (hu65 hr)) od_notinB (by rfl) (DE.bor de_bl) (DE.bor (DF.de (df_compW hc S.nd (di_range1 (by rfl) T.z_range (de_b1 cr_len o1_len (by rfl) T.z_len (by decide +kernel) (DE.bor (de_var (i := 0) rfl (by walk_at "vis"))))) (blkOk_by (N := ["world", "outcome", "sets", "who"]) (sc := defScope s__law_stays) (own := [("who", 3)]) (by decide +kernel)) (fun _ _ _ _ _ => (dg_name (i := 3) ((by exact S.nd)) rfl (by walk_at "loc") (by first | exact .inl rfl | exact .inr rfl))) (fun _ _ _ _ _ => dts_nil) (fun _ _ _ _ _ => (de_call (ok__law_over T) (hr.mono (by decide)) takes0 (by rfl) T.g__law_over T.F__law_over.kp T.b__law_over (da_cons (de_ix (DE.bor (de_var (i := 0) rfl (by walk_at "vis"))) (DE.bor (de_var (i := 3) rfl (by walk_at "vis")))) (da_cons (de_var (i := 1) rfl (by walk_at "vis")) (da_cons (de_ix (DE.bor (de_var (i := 2) rfl (by walk_at "vis"))) (DE.bor (de_var (i := 3) rfl (by walk_at "vis")))) da_nil)))))))))))
theorem ok__law_middles (T : Txt K mg f__law_row f__law_told f__law_pairs f_is_set f_check_told f_liking_of f_is_liking f_is_world f_Rule___init__ f__law_below f__law_reaches f_Book___init__ f__law_asked f__law_over f__law_stays f__law_middles f__law_same f_on_top f_is_middle f_middles f__law_right_sets f__law_dense f__law_world f_law d__law_row d__law_told d__law_pairs d_is_set d_check_told d_liking_of d_is_liking d_is_world d_Rule___init__ d__law_below d__law_reaches d_Book___init__ d__law_asked d__law_over d__law_stays d__law_middles d__law_same d_on_top d_is_middle d_middles d__law_right_sets d__law_dense d__law_world d_law c_Book c_Rule) : FnD P w K mg base 3 f__law_middles d__law_middles ["worlds", "told", "mine", "yours"] m__law_middles := by
  refine fn_d (N := ["worlds", "told", "mine", "yours", "found", "outcome", "wrong", "number"]) T.F__law_middles sc__law_middles (fun cdv A outer s H E hr => ?_)
  have hc : (cxOf (L2.CX P w) P w K mg base ["worlds", "told", "mine", "yours", "found", "outcome", "wrong", "number"] "_law_middles" (defScope s__law_middles) f__law_middles cdv A outer s H E).calm = true := rfl
  have S := sc__law_middles
  exact (dss_cons (ds_own (i := 4) S.nd rfl (by walk_at "loc") (df_lst da_nil))
      (dss_cons (ds_for (passes_of rfl) hc (di_seq (de_var (i := 2) rfl (by walk_at "vis"))) (dg_name (i := 5) (S.nd) rfl (by walk_at "loc") (by first | exact .inl rfl | exact .inr rfl)) (dss_cons (ds_set (i := 6) S.nd rfl (by walk_at "loc") de_int)
      (dss_cons (ds_for (passes_of rfl) hc (di_range1 (by rfl) T.z_range (de_b1 cr_len o1_len (by rfl) T.z_len (by decide +kernel) (DE.bor (de_var (i := 0) rfl (by walk_at "vis"))))) (dg_name (i := 7) (S.nd) rfl (by walk_at "loc") (by first | exact .inl rfl | exact .inr rfl)) (dss_one (ds_if (DW.t (dw_and (dt_cmp (or_notin (hu65 hr)) od_notin (by rfl) (DE.bor (de_var (i := 5) rfl (by walk_at "vis"))) (DE.bor (de_ix (DE.bor (de_var (i := 1) rfl (by walk_at "vis"))) (DE.bor (de_var (i := 7) rfl (by walk_at "vis")))))) (dw_and1 (dt_val (de_call (ok__law_stays T) (hr.mono (by decide)) (takes_of rfl rfl rfl rfl) (by rfl) T.g__law_stays T.F__law_stays.kp T.b__law_stays (da_cons (de_ix (DE.bor (de_var (i := 0) rfl (by walk_at "vis"))) (DE.bor (de_var (i := 7) rfl (by walk_at "vis")))) (da_cons (de_var (i := 5) rfl (by walk_at "vis")) (da_cons (de_tup (da_cons (de_var (i := 2) rfl (by walk_at "vis")) (da_cons (de_var (i := 3) rfl (by walk_at "vis")) da_nil))) da_nil)))))))) (dss_one (ds_aug (i := 6) S.nd rfl (by walk_at "loc") de_int iop_add ip_addI)) dss_nil)))
      (dss_one (ds_if (DW.t (dw_and (dt_cmp (or_in (hu65 hr)) od_in (by rfl) (DE.bor (de_var (i := 5) rfl (by walk_at "vis"))) (DE.bor (de_var (i := 3) rfl (by walk_at "vis")))) (dw_and1 (dt_cmp (op_eqD hr.units) od_eq (nomark _) (DE.bor (de_var (i := 6) rfl (by walk_at "vis"))) (DE.bor de_int))))) (dss_one (ds_append (i := 4) rfl (by walk_at "vis") (de_var (i := 5) rfl (by walk_at "vis")))) dss_nil)))))
      (dss_one (ds_frz 4 (ds_ret (de_var (i := 4) rfl (by walk_at "vis")))))))
theorem ok__law_same (T : Txt K mg f__law_row f__law_told f__law_pairs f_is_set f_check_told f_liking_of f_is_liking f_is_world f_Rule___init__ f__law_below f__law_reaches f_Book___init__ f__law_asked f__law_over f__law_stays f__law_middles f__law_same f_on_top f_is_middle f_middles f__law_right_sets f__law_dense f__law_world f_law d__law_row d__law_told d__law_pairs d_is_set d_check_told d_liking_of d_is_liking d_is_world d_Rule___init__ d__law_below d__law_reaches d_Book___init__ d__law_asked d__law_over d__law_stays d__law_middles d__law_same d_on_top d_is_middle d_middles d__law_right_sets d__law_dense d__law_world d_law c_Book c_Rule) : FnD P w K mg base 6 f__law_same d__law_same ["told", "due"] m__law_same := by
  refine fnd_rec (k := 0) (fun j rec hj G => ?_) 6
  refine fn_d (N := ["told", "due", "index"]) T.F__law_same sc__law_same (fun cdv A outer s H E hr => ?_)
  have hc : (cxOf (L2.CX P w) P w K mg base ["told", "due", "index"] "_law_same" (defScope s__law_same) f__law_same cdv A outer s H E).calm = true := rfl
  have S := sc__law_same
  exact (dss_cons (ds_if (dt_cmp or_is od_is (nomark _) (DE.bor (de_var (i := 1) rfl (by walk_at "vis"))) (DE.bor de_non)) (dss_one (ds_ret (de_cmp or_is od_is (nomark _) (DE.bor (de_var (i := 0) rfl (by walk_at "vis"))) (DE.bor de_non)))) dss_nil)
      (dss_cons (ds_if (dt_cmp or_is od_is (nomark _) (DE.bor (de_var (i := 1) rfl (by walk_at "vis"))) (DE.bor de_bl)) (dss_one (ds_ret (de_cmp or_is od_is (nomark _) (DE.bor (de_var (i := 0) rfl (by walk_at "vis"))) (DE.bor de_bl)))) dss_nil)
      (dss_cons (ds_if (dt_cmp or_is od_is (nomark _) (DE.bor (de_var (i := 1) rfl (by walk_at "vis"))) (DE.bor de_bl)) (dss_one (ds_ret (de_cmp or_is od_is (nomark _) (DE.bor (de_var (i := 0) rfl (by walk_at "vis"))) (DE.bor de_bl)))) dss_nil)
      (dss_cons (ds_if (dt_val (de_isi (by rfl) T.z_isinstance (by rfl) T.z_str (by decide +kernel) kit_str (DE.bor (de_var (i := 1) rfl (by walk_at "vis"))))) (dss_one (ds_ret (de_and (de_isi (by rfl) T.z_isinstance (by rfl) T.z_str (by decide +kernel) kit_str (DE.bor (de_var (i := 0) rfl (by walk_at "vis")))) (de_one (de_cmp (op_eqD hr.units) od_eq (nomark _) (DE.bor (de_var (i := 0) rfl (by walk_at "vis"))) (DE.bor (de_var (i := 1) rfl (by walk_at "vis")))))))) dss_nil)
      (dss_cons (ds_if (dt_val (de_isi (by rfl) T.z_isinstance (by rfl) T.z_int (by decide +kernel) kit_int (DE.bor (de_var (i := 1) rfl (by walk_at "vis"))))) (dss_one (ds_ret (de_and (de_isi (by rfl) T.z_isinstance (by rfl) T.z_int (by decide +kernel) kit_int (DE.bor (de_var (i := 0) rfl (by walk_at "vis")))) (de_and (de_not (de_isi (by rfl) T.z_isinstance (by rfl) T.z_bool (by decide +kernel) kit_bool (DE.bor (de_var (i := 0) rfl (by walk_at "vis"))))) (de_one (de_cmp (op_eqD hr.units) od_eq (nomark _) (DE.bor (de_var (i := 0) rfl (by walk_at "vis"))) (DE.bor (de_var (i := 1) rfl (by walk_at "vis"))))))))) dss_nil)
      (dss_cons (ds_if (DW.t (dw_or (dt_not (dt_val (de_isi (by rfl) T.z_isinstance (by rfl) T.z_tuple (by decide +kernel) kit_tuple (DE.bor (de_var (i := 0) rfl (by walk_at "vis")))))) (dw_or1 (dt_cmp (op_neD hr.units) od_ne (nomark _) (DE.bor (de_b1 cr_len o1_len (by rfl) T.z_len (by decide +kernel) (DE.bor (de_var (i := 0) rfl (by walk_at "vis"))))) (DE.bor (de_b1 cr_len o1_len (by rfl) T.z_len (by decide +kernel) (DE.bor (de_var (i := 1) rfl (by walk_at "vis"))))))))) (dss_one (ds_ret de_bl)) dss_nil)
      (dss_cons (ds_for (passes_of rfl) hc (di_range1 (by rfl) T.z_range (de_b1 cr_len o1_len (by rfl) T.z_len (by decide +kernel) (DE.bor (de_var (i := 1) rfl (by walk_at "vis"))))) (dg_name (i := 2) (S.nd) rfl (by walk_at "loc") (by first | exact .inl rfl | exact .inr rfl)) (dss_one (ds_if (dt_not (dt_val (de_call (ps := ["told", "due"]) G hr (takes_of rfl rfl rfl rfl) (by rfl) T.g__law_same T.F__law_same.kp T.b__law_same (da_cons (de_ix (DE.bor (de_var (i := 0) rfl (by walk_at "vis"))) (DE.bor (de_var (i := 2) rfl (by walk_at "vis")))) (da_cons (de_ix (DE.bor (de_var (i := 1) rfl (by walk_at "vis"))) (DE.bor (de_var (i := 2) rfl (by walk_at "vis")))) da_nil))))) (dss_one (ds_ret de_bl)) dss_nil)))
      (dss_one (ds_ret de_bl)))))))))
theorem ok_on_top (T : Txt K mg f__law_row f__law_told f__law_pairs f_is_set f_check_told f_liking_of f_is_liking f_is_world f_Rule___init__ f__law_below f__law_reaches f_Book___init__ f__law_asked f__law_over f__law_stays f__law_middles f__law_same f_on_top f_is_middle f_middles f__law_right_sets f__law_dense f__law_world f_law d__law_row d__law_told d__law_pairs d_is_set d_check_told d_liking_of d_is_liking d_is_world d_Rule___init__ d__law_below d__law_reaches d_Book___init__ d__law_asked d__law_over d__law_stays d__law_middles d__law_same d_on_top d_is_middle d_middles d__law_right_sets d__law_dense d__law_world d_law c_Book c_Rule) : FnD P w K mg base 1 f_on_top d_on_top ["liking", "outcome", "members"] m_on_top := by
  refine fn_d (N := ["liking", "outcome", "members", "member"]) T.F_on_top sc_on_top (fun cdv A outer s H E hr => ?_)
  have hc : (cxOf (L2.CX P w) P w K mg base ["liking", "outcome", "members", "member"] "on_top" (defScope s_on_top) f_on_top cdv A outer s H E).calm = true := rfl
  have S := sc_on_top
  exact (dss_cons (ds_for (passes_of rfl) hc (di_seq (de_var (i := 2) rfl (by walk_at "vis"))) (dg_name (i := 3) (S.nd) rfl (by walk_at "loc") (by first | exact .inl rfl | exact .inr rfl)) (dss_one (ds_if (dt_cmp op_gt od_gt (nomark _) (DE.bor (de_ix (DE.bor (de_var (i := 0) rfl (by walk_at "vis"))) (DE.bor (de_var (i := 3) rfl (by walk_at "vis"))))) (DE.bor (de_ix (DE.bor (de_var (i := 0) rfl (by walk_at "vis"))) (DE.bor (de_var (i := 1) rfl (by walk_at "vis")))))) (dss_one (ds_ret de_bl)) dss_nil)))
      (dss_one (ds_ret de_bl)))
theorem ok_is_middle (T : Txt K mg f__law_row f__law_told f__law_pairs f_is_set f_check_told f_liking_of f_is_liking f_is_world f_Rule___init__ f__law_below f__law_reaches f_Book___init__ f__law_asked f__law_over f__law_stays f__law_middles f__law_same f_on_top f_is_middle f_middles f__law_right_sets f__law_dense f__law_world f_law d__law_row d__law_told d__law_pairs d_is_set d_check_told d_liking_of d_is_liking d_is_world d_Rule___init__ d__law_below d__law_reaches d_Book___init__ d__law_asked d__law_over d__law_stays d__law_middles d__law_same d_on_top d_is_middle d_middles d__law_right_sets d__law_dense d__law_world d_law c_Book c_Rule) : FnD P w K mg base 2 f_is_middle d_is_middle ["rule", "outcome", "mine", "yours"] m_is_middle := by
  refine fn_d (N := ["rule", "outcome", "mine", "yours", "number", "first", "second"]) T.F_is_middle sc_is_middle (fun cdv A outer s H E hr => ?_)
  have hc : (cxOf (L2.CX P w) P w K mg base ["rule", "outcome", "mine", "yours", "number", "first", "second"] "is_middle" (defScope s_is_middle) f_is_middle cdv A outer s H E).calm = true := rfl
  have S := sc_is_middle
  exact (dss_cons (ds_for (passes_of rfl) hc (di_range1 (by rfl) T.z_range (de_b1 cr_len o1_len (by rfl) T.z_len (by decide +kernel) (DE.bor (de_fld T.fo_worlds (de_var (i := 0) rfl (by walk_at "vis")))))) (dg_name (i := 4) (S.nd) rfl (by walk_at "loc") (by first | exact .inl rfl | exact .inr rfl)) (dss_cons (ds_bind (dg_tup hc (dgs_cons (dg_name (i := 5) (S.nd) rfl (by walk_at "loc") (by first | exact .inl rfl | exact .inr rfl)) (dgs_cons (dg_name (i := 6) (S.nd) rfl (by walk_at "loc") (by first | exact .inl rfl | exact .inr rfl)) dgs_nil))) (de_ix (DE.bor (de_fld T.fo_worlds (de_var (i := 0) rfl (by walk_at "vis")))) (DE.bor (de_var (i := 4) rfl (by walk_at "vis")))))
      (dss_one (ds_if (DW.t (dw_and (dt_cmp (or_notin (hu65 hr)) od_notin (by rfl) (DE.bor (de_var (i := 1) rfl (by walk_at "vis"))) (DE.bor (de_ix (DE.bor (de_fld T.fo_told (de_var (i := 0) rfl (by walk_at "vis")))) (DE.bor (de_var (i := 4) rfl (by walk_at "vis")))))) (dw_and (dt_val (de_call (ok_on_top T) (hr.mono (by decide)) (takes_of rfl rfl rfl rfl) (by rfl) T.g_on_top T.F_on_top.kp T.b_on_top (da_cons (de_var (i := 5) rfl (by walk_at "vis")) (da_cons (de_var (i := 1) rfl (by walk_at "vis")) (da_cons (de_var (i := 2) rfl (by walk_at "vis")) da_nil))))) (dw_and1 (dt_val (de_call (ok_on_top T) (hr.mono (by decide)) (takes_of rfl rfl rfl rfl) (by rfl) T.g_on_top T.F_on_top.kp T.b_on_top (da_cons (de_var (i := 6) rfl (by walk_at "vis")) (da_cons (de_var (i := 1) rfl (by walk_at "vis")) (da_cons (de_var (i := 3) rfl (by walk_at "vis")) da_nil))))))))) (dss_one (ds_ret de_bl)) dss_nil))))
      (dss_one (ds_ret de_bl)))
theorem ok_middles (T : Txt K mg f__law_row f__law_told f__law_pairs f_is_set f_check_told f_liking_of f_is_liking f_is_world f_Rule___init__ f__law_below f__law_reaches f_Book___init__ f__law_asked f__law_over f__law_stays f__law_middles f__law_same f_on_top f_is_middle f_middles f__law_right_sets f__law_dense f__law_world f_law d__law_row d__law_told d__law_pairs d_is_set d_check_told d_liking_of d_is_liking d_is_world d_Rule___init__ d__law_below d__law_reaches d_Book___init__ d__law_asked d__law_over d__law_stays d__law_middles d__law_same d_on_top d_is_middle d_middles d__law_right_sets d__law_dense d__law_world d_law c_Book c_Rule) : FnD P w K mg base 3 f_middles d_middles ["rule", "book", "pair", "other"] m_middles := by
  refine fn_d (N := ["rule", "book", "pair", "other", "mine", "yours", "outcome"]) T.F_middles sc_middles (fun cdv A outer s H E hr => ?_)
  have hc : (cxOf (L2.CX P w) P w K mg base ["rule", "book", "pair", "other", "mine", "yours", "outcome"] "middles" (defScope s_middles) f_middles cdv A outer s H E).calm = true := rfl
  have S := sc_middles
  exact (dss_cons (ds_set (i := 4) S.nd rfl (by walk_at "loc") (de_ix (DE.bor (de_ix (DE.bor (de_fld T.fo_reach (de_var (i := 1) rfl (by walk_at "vis")))) (DE.bor (de_var (i := 2) rfl (by walk_at "vis"))))) (DE.bor de_int)))
      (dss_cons (ds_set (i := 5) S.nd rfl (by walk_at "loc") (de_ix (DE.bor (de_ix (DE.bor (de_fld T.fo_reach (de_var (i := 1) rfl (by walk_at "vis")))) (DE.bor (de_var (i := 3) rfl (by walk_at "vis"))))) (DE.bor de_int)))
      (dss_one (ds_ret (de_t1 call_tuple_of o1_tuple (by rfl) T.z_tuple (by decide +kernel) (DE.bor (DF.de (df_compW hc S.nd (di_seq (de_var (i := 4) rfl (by walk_at "vis"))) (blkOk_by (N := ["rule", "book", "pair", "other", "mine", "yours", "outcome"]) (sc := defScope s_middles) (own := [("outcome", 6)]) (by decide +kernel)) (fun _ _ _ _ _ => (dg_name (i := 6) ((by exact S.nd)) rfl (by walk_at "loc") (by first | exact .inl rfl | exact .inr rfl))) (fun _ _ _ _ _ => (dts_one (DW.t (dw_and (dt_cmp (or_in (hu65 hr)) od_in (by rfl) (DE.bor (de_var (i := 6) rfl (by walk_at "vis"))) (DE.bor (de_var (i := 5) rfl (by walk_at "vis")))) (dw_and1 (dt_val (de_call (ok_is_middle T) (hr.mono (by decide)) takes0 (by rfl) T.g_is_middle T.F_is_middle.kp T.b_is_middle (da_cons (de_var (i := 0) rfl (by walk_at "vis")) (da_cons (de_var (i := 6) rfl (by walk_at "vis")) (da_cons (de_var (i := 4) rfl (by walk_at "vis")) (da_cons (de_var (i := 5) rfl (by walk_at "vis")) da_nil))))))))))) (fun _ _ _ _ _ => (de_var (i := 6) rfl (by walk_at "vis")))))))))))
theorem ok__law_right_sets (T : Txt K mg f__law_row f__law_told f__law_pairs f_is_set f_check_told f_liking_of f_is_liking f_is_world f_Rule___init__ f__law_below f__law_reaches f_Book___init__ f__law_asked f__law_over f__law_stays f__law_middles f__law_same f_on_top f_is_middle f_middles f__law_right_sets f__law_dense f__law_world f_law d__law_row d__law_told d__law_pairs d_is_set d_check_told d_liking_of d_is_liking d_is_world d_Rule___init__ d__law_below d__law_reaches d_Book___init__ d__law_asked d__law_over d__law_stays d__law_middles d__law_same d_on_top d_is_middle d_middles d__law_right_sets d__law_dense d__law_world d_law c_Book c_Rule) : FnD P w K mg base 7 f__law_right_sets d__law_right_sets ["rule", "book", "worlds", "told", "rows", "asked"] m__law_right_sets := by
  refine fn_d (N := ["rule", "book", "worlds", "told", "rows", "asked", "place", "due"]) T.F__law_right_sets sc__law_right_sets (fun cdv A outer s H E hr => ?_)
  have hc : (cxOf (L2.CX P w) P w K mg base ["rule", "book", "worlds", "told", "rows", "asked", "place", "due"] "_law_right_sets" (defScope s__law_right_sets) f__law_right_sets cdv A outer s H E).calm = true := rfl
  have S := sc__law_right_sets
  exact (dss_cons (ds_for (passes_of rfl) hc (di_seq (de_var (i := 5) rfl (by walk_at "vis"))) (dg_name (i := 6) (S.nd) rfl (by walk_at "loc") (by first | exact .inl rfl | exact .inr rfl)) (dss_cons (ds_set (i := 7) S.nd rfl (by walk_at "loc") (de_call (ok__law_middles T) (hr.mono (by decide)) (takes_of rfl rfl rfl rfl) (by rfl) T.g__law_middles T.F__law_middles.kp T.b__law_middles (da_cons (de_var (i := 2) rfl (by walk_at "vis")) (da_cons (de_var (i := 3) rfl (by walk_at "vis")) (da_cons (de_ix (DE.bor (de_ix (DE.bor (de_var (i := 4) rfl (by walk_at "vis"))) (DE.bor (de_ix (DE.bor (de_var (i := 6) rfl (by walk_at "vis"))) (DE.bor de_int))))) (DE.bor de_int)) (da_cons (de_ix (DE.bor (de_ix (DE.bor (de_var (i := 4) rfl (by walk_at "vis"))) (DE.bor (de_ix (DE.bor (de_var (i := 6) rfl (by walk_at "vis"))) (DE.bor de_int))))) (DE.bor de_int)) da_nil))))))
      (dss_one (ds_if (dt_not (dt_val (de_call (ok__law_same T) (hr.mono (by decide)) (takes_of rfl rfl rfl rfl) (by rfl) T.g__law_same T.F__law_same.kp T.b__law_same (da_cons (de_callK (n := 2) (ps := ["rule", "book", "pair", "other"]) (ks := ["pair", "other"]) (ok_middles T) (hr.mono (by decide)) (takes_of rfl rfl rfl rfl) (by rfl) T.g_middles T.F_middles.kp T.b_middles (da_cons (de_var (i := 0) rfl (by walk_at "vis")) (da_cons (de_var (i := 1) rfl (by walk_at "vis")) da_nil)) (dk_cons (de_ix (DE.bor (de_var (i := 6) rfl (by walk_at "vis"))) (DE.bor de_int)) (dk_cons (de_ix (DE.bor (de_var (i := 6) rfl (by walk_at "vis"))) (DE.bor de_int)) dk_nil))) (da_cons (de_var (i := 7) rfl (by walk_at "vis")) da_nil))))) (dss_one (ds_ret de_bl)) dss_nil))))
      (dss_one (ds_ret de_bl)))
theorem ok__law_dense (T : Txt K mg f__law_row f__law_told f__law_pairs f_is_set f_check_told f_liking_of f_is_liking f_is_world f_Rule___init__ f__law_below f__law_reaches f_Book___init__ f__law_asked f__law_over f__law_stays f__law_middles f__law_same f_on_top f_is_middle f_middles f__law_right_sets f__law_dense f__law_world f_law d__law_row d__law_told d__law_pairs d_is_set d_check_told d_liking_of d_is_liking d_is_world d_Rule___init__ d__law_below d__law_reaches d_Book___init__ d__law_asked d__law_over d__law_stays d__law_middles d__law_same d_on_top d_is_middle d_middles d__law_right_sets d__law_dense d__law_world d_law c_Book c_Rule) : FnD P w K mg base 1 f__law_dense d__law_dense ["points"] m__law_dense := by
  refine fn_d (N := ["points", "steps", "point"]) T.F__law_dense sc__law_dense (fun cdv A outer s H E hr => ?_)
  have hc : (cxOf (L2.CX P w) P w K mg base ["points", "steps", "point"] "_law_dense" (defScope s__law_dense) f__law_dense cdv A outer s H E).calm = true := rfl
  have S := sc__law_dense
  exact (dss_cons (ds_set (i := 1) S.nd rfl (by walk_at "loc") (DF.de (df_sortedSet hc (by rfl) T.z_sorted (by rfl) T.z_set (DE.bor (de_var (i := 0) rfl (by walk_at "vis"))))))
      (dss_one (ds_ret (de_t1 call_tuple_of o1_tuple (by rfl) T.z_tuple (by decide +kernel) (DE.bor (DF.de (df_compW hc S.nd (di_seq (de_var (i := 0) rfl (by walk_at "vis"))) (blkOk_by (N := ["points", "steps", "point"]) (sc := defScope s__law_dense) (own := [("point", 2)]) (by decide +kernel)) (fun _ _ _ _ _ => (dg_name (i := 2) ((by exact S.nd)) rfl (by walk_at "loc") (by first | exact .inl rfl | exact .inr rfl))) (fun _ _ _ _ _ => dts_nil) (fun _ _ _ _ _ => (de_index (hu65 hr) (DE.bor (de_var (i := 1) rfl (by walk_at "vis"))) (DE.bor (de_var (i := 2) rfl (by walk_at "vis"))))))))))))
theorem ok__law_world (T : Txt K mg f__law_row f__law_told f__law_pairs f_is_set f_check_told f_liking_of f_is_liking f_is_world f_Rule___init__ f__law_below f__law_reaches f_Book___init__ f__law_asked f__law_over f__law_stays f__law_middles f__law_same f_on_top f_is_middle f_middles f__law_right_sets f__law_dense f__law_world f_law d__law_row d__law_told d__law_pairs d_is_set d_check_told d_liking_of d_is_liking d_is_world d_Rule___init__ d__law_below d__law_reaches d_Book___init__ d__law_asked d__law_over d__law_stays d__law_middles d__law_same d_on_top d_is_middle d_middles d__law_right_sets d__law_dense d__law_world d_law c_Book c_Rule) : FnD P w K mg base 2 f__law_world d__law_world ["script", "at", "people", "outcomes"] m__law_world := by
  refine fn_d (N := ["script", "at", "people", "outcomes", "drawn", "world", "who", "spread", "part", "point"]) T.F__law_world sc__law_world (fun cdv A outer s H E hr => ?_)
  have hc : (cxOf (L2.CX P w) P w K mg base ["script", "at", "people", "outcomes", "drawn", "world", "who", "spread", "part", "point"] "_law_world" (defScope s__law_world) f__law_world cdv A outer s H E).calm = true := rfl
  have S := sc__law_world
  exact (dss_cons (ds_set (i := 4) S.nd rfl (by walk_at "loc") (de_call (ok__law_row T) (hr.mono (by decide)) (takes_of rfl rfl rfl rfl) (by rfl) T.g__law_row T.F__law_row.kp T.b__law_row (da_cons (de_var (i := 0) rfl (by walk_at "vis")) (da_cons (de_var (i := 1) rfl (by walk_at "vis")) (da_cons (de_op or_add od_add (DE.bor (de_op or_mul od_mul (DE.bor (de_var (i := 2) rfl (by walk_at "vis"))) (DE.bor (de_var (i := 3) rfl (by walk_at "vis"))))) (DE.bor (de_var (i := 2) rfl (by walk_at "vis")))) (da_cons de_int da_nil))))))
      (dss_cons (ds_own (i := 5) S.nd rfl (by walk_at "loc") (df_lst da_nil))
      (dss_cons (ds_for (passes_of rfl) hc (di_range1 (by rfl) T.z_range (de_var (i := 2) rfl (by walk_at "vis"))) (dg_name (i := 6) (S.nd) rfl (by walk_at "loc") (by first | exact .inl rfl | exact .inr rfl)) (dss_cons (ds_set (i := 7) S.nd rfl (by walk_at "loc") (de_op or_add od_add (DE.bor de_int) (DE.bor (de_op op_mod od_mod (DE.bor (de_t1 call_int1 o1_int (by rfl) T.z_int (by decide +kernel) (DE.bor (de_ix (DE.bor (de_var (i := 4) rfl (by walk_at "vis"))) (DE.bor (de_op or_add od_add (DE.bor (de_op or_mul od_mul (DE.bor (de_var (i := 2) rfl (by walk_at "vis"))) (DE.bor (de_var (i := 3) rfl (by walk_at "vis"))))) (DE.bor (de_var (i := 6) rfl (by walk_at "vis"))))))))) (DE.bor (de_op or_add od_add (DE.bor (de_var (i := 3) rfl (by walk_at "vis"))) (DE.bor de_int)))))))
      (dss_cons (ds_set (i := 8) S.nd rfl (by walk_at "loc") (de_slice (DE.bor (de_var (i := 4) rfl (by walk_at "vis"))) (do_some (de_op or_mul od_mul (DE.bor (de_var (i := 6) rfl (by walk_at "vis"))) (DE.bor (de_var (i := 3) rfl (by walk_at "vis"))))) (do_some (de_op or_add od_add (DE.bor (de_op or_mul od_mul (DE.bor (de_var (i := 6) rfl (by walk_at "vis"))) (DE.bor (de_var (i := 3) rfl (by walk_at "vis"))))) (DE.bor (de_var (i := 3) rfl (by walk_at "vis")))))))
      (dss_one (ds_append (i := 5) rfl (by walk_at "vis") (de_call (ok__law_dense T) (hr.mono (by decide)) (takes_of rfl rfl rfl rfl) (by rfl) T.g__law_dense T.F__law_dense.kp T.b__law_dense (da_cons (DF.de (df_compW hc S.nd (di_seq (de_var (i := 8) rfl (by walk_at "vis"))) (blkOk_by (N := ["script", "at", "people", "outcomes", "drawn", "world", "who", "spread", "part", "point"]) (sc := defScope s__law_world) (own := [("point", 9)]) (by decide +kernel)) (fun _ _ _ _ _ => (dg_name (i := 9) ((by exact S.nd)) rfl (by walk_at "loc") (by first | exact .inl rfl | exact .inr rfl))) (fun _ _ _ _ _ => dts_nil) (fun _ _ _ _ _ => (de_op op_mod od_mod (DE.bor (de_t1 call_int1 o1_int (by rfl) T.z_int (by decide +kernel) (DE.bor (de_var (i := 9) rfl (by walk_at "vis"))))) (DE.bor (de_var (i := 7) rfl (by walk_at "vis"))))))) da_nil)))))))
      (dss_one (ds_ret (de_t1 call_tuple_of o1_tuple (by rfl) T.z_tuple (by decide +kernel) (db_var (i := 5) rfl (by walk_at "vis"))))))))
theorem ok_law (T : Txt K mg f__law_row f__law_told f__law_pairs f_is_set f_check_told f_liking_of f_is_liking f_is_world f_Rule___init__ f__law_below f__law_reaches f_Book___init__ f__law_asked f__law_over f__law_stays f__law_middles f__law_same f_on_top f_is_middle f_middles f__law_right_sets f__law_dense f__law_world f_law d__law_row d__law_told d__law_pairs d_is_set d_check_told d_liking_of d_is_liking d_is_world d_Rule___init__ d__law_below d__law_reaches d_Book___init__ d__law_asked d__law_over d__law_stays d__law_middles d__law_same d_on_top d_is_middle d_middles d__law_right_sets d__law_dense d__law_world d_law c_Book c_Rule) : FnD P w K mg base 8 f_law d_law ["script"] m_law := by
  refine fn_d (N := ["script", "shape", "outcomes", "count", "worlds", "number", "told", "places", "rule", "first", "second", "allowed", "one", "handed", "members", "row", "book", "beside", "asked", "turned", "world", "moved"]) T.F_law sc_law (fun cdv A outer s H E hr => ?_)
  have hc : (cxOf (L2.CX P w) P w K mg base ["script", "shape", "outcomes", "count", "worlds", "number", "told", "places", "rule", "first", "second", "allowed", "one", "handed", "members", "row", "book", "beside", "asked", "turned", "world", "moved"] "law" (defScope s_law) f_law cdv A outer s H E).calm = true := rfl
  have S := sc_law
  exact (dss_cons (ds_set (i := 1) S.nd rfl (by walk_at "loc") (de_call (ok__law_row T) (hr.mono (by decide)) (takes_of rfl rfl rfl rfl) (by rfl) T.g__law_row T.F__law_row.kp T.b__law_row (da_cons (de_var (i := 0) rfl (by walk_at "vis")) (da_cons de_int (da_cons de_int (da_cons de_int da_nil))))))
      (dss_cons (ds_set (i := 2) S.nd rfl (by walk_at "loc") (de_ix (DE.bor (de_lst (da_cons de_int (da_cons de_int (da_cons de_int (da_cons de_int (da_cons de_int (da_cons de_int (da_cons de_int (da_cons de_int da_nil)))))))))) (DE.bor (de_op op_mod od_mod (DE.bor (de_t1 call_int1 o1_int (by rfl) T.z_int (by decide +kernel) (DE.bor (de_ix (DE.bor (de_var (i := 1) rfl (by walk_at "vis"))) (DE.bor de_int))))) (DE.bor de_int)))))
      (dss_cons (ds_set (i := 3) S.nd rfl (by walk_at "loc") (de_op or_add od_add (DE.bor de_int) (DE.bor (de_op op_mod od_mod (DE.bor (de_t1 call_int1 o1_int (by rfl) T.z_int (by decide +kernel) (DE.bor (de_ix (DE.bor (de_var (i := 1) rfl (by walk_at "vis"))) (DE.bor de_int))))) (DE.bor de_int)))))
      (dss_cons (ds_if (dt_cmp (op_eqD hr.units) od_eq (nomark _) (DE.bor (de_op op_mod od_mod (DE.bor (de_t1 call_int1 o1_int (by rfl) T.z_int (by decide +kernel) (DE.bor (de_ix (DE.bor (de_var (i := 1) rfl (by walk_at "vis"))) (DE.bor de_int))))) (DE.bor de_int))) (DE.bor de_int)) (dss_cons (ds_set (i := 2) S.nd rfl (by walk_at "loc") (de_op or_add od_add (DE.bor de_int) (DE.bor (de_op op_mod od_mod (DE.bor (de_t1 call_int1 o1_int (by rfl) T.z_int (by decide +kernel) (DE.bor (de_ix (DE.bor (de_var (i := 1) rfl (by walk_at "vis"))) (DE.bor de_int))))) (DE.bor de_int)))))
      (dss_one (ds_set (i := 3) S.nd rfl (by walk_at "loc") (de_op or_add od_add (DE.bor de_int) (DE.bor (de_op op_mod od_mod (DE.bor (de_t1 call_int1 o1_int (by rfl) T.z_int (by decide +kernel) (DE.bor (de_ix (DE.bor (de_var (i := 1) rfl (by walk_at "vis"))) (DE.bor de_int))))) (DE.bor de_int))))))) dss_nil)
      (dss_cons (ds_setLc (i := 4) hc S.nd rfl (by rfl) (sw_true rfl (by rfl) rfl (by decide +kernel)) (di_range1 (by rfl) T.z_range (de_var (i := 3) rfl (by walk_at "vis"))) (blkOk_by (N := ["script", "shape", "outcomes", "count", "worlds", "number", "told", "places", "rule", "first", "second", "allowed", "one", "handed", "members", "row", "book", "beside", "asked", "turned", "world", "moved"]) (sc := defScope s_law) (own := [("number", 5)]) (by decide +kernel)) (fun _ _ _ _ _ => (dg_name (i := 5) ((by exact S.nd)) rfl (by walk_at "loc") (by first | exact .inl rfl | exact .inr rfl))) (fun _ _ _ _ _ => dts_nil) (fun _ _ _ _ _ => (de_call (ok__law_world T) (hr.mono (by decide)) takes0 (by rfl) T.g__law_world T.F__law_world.kp T.b__law_world (da_cons (de_var (i := 0) rfl (by walk_at "vis")) (da_cons (de_op or_add od_add (DE.bor de_int) (DE.bor (de_var (i := 5) rfl (by walk_at "vis")))) (da_cons de_int (da_cons (de_var (i := 2) rfl (by walk_at "vis")) da_nil)))))))
      (dss_cons (ds_set (i := 6) S.nd rfl (by walk_at "loc") (de_call (ok__law_told T) (hr.mono (by decide)) (takes_of rfl rfl rfl rfl) (by rfl) T.g__law_told T.F__law_told.kp T.b__law_told (da_cons (de_var (i := 0) rfl (by walk_at "vis")) (da_cons de_int (da_cons (de_var (i := 4) rfl (by walk_at "vis")) (da_cons (de_var (i := 2) rfl (by walk_at "vis")) (da_cons (de_op op_mod od_mod (DE.bor (de_t1 call_int1 o1_int (by rfl) T.z_int (by decide +kernel) (DE.bor (de_ix (DE.bor (de_var (i := 1) rfl (by walk_at "vis"))) (DE.bor de_int))))) (DE.bor de_int)) da_nil)))))))
      (dss_cons (ds_set (i := 7) S.nd rfl (by walk_at "loc") (de_call (ok__law_pairs T) (hr.mono (by decide)) (takes_of rfl rfl rfl rfl) (by rfl) T.g__law_pairs T.F__law_pairs.kp T.b__law_pairs (da_cons (de_var (i := 6) rfl (by walk_at "vis")) da_nil)))
      (dss_cons (ds_set (i := 8) S.nd rfl (by walk_at "loc") (de_make T.M_Rule (ok_Rule___init__ T) (hr.mono (by decide)) (takes_of rfl rfl rfl rfl) (by rfl) T.gC_Rule T.b_Rule___init__ (da_cons de_int (da_cons (de_var (i := 2) rfl (by walk_at "vis")) (da_cons (de_var (i := 4) rfl (by walk_at "vis")) (da_cons (de_var (i := 6) rfl (by walk_at "vis")) da_nil))))))
      (dss_cons (ds_set (i := 9) S.nd rfl (by walk_at "loc") (de_call (ok__law_reaches T) (hr.mono (by decide)) (takes_of rfl rfl rfl rfl) (by rfl) T.g__law_reaches T.F__law_reaches.kp T.b__law_reaches (da_cons (de_var (i := 0) rfl (by walk_at "vis")) (da_cons de_int (da_cons (de_var (i := 4) rfl (by walk_at "vis")) (da_cons (de_var (i := 7) rfl (by walk_at "vis")) (da_cons (de_var (i := 2) rfl (by walk_at "vis")) da_nil)))))))
      (dss_cons (ds_set (i := 10) S.nd rfl (by walk_at "loc") (de_call (ok__law_reaches T) (hr.mono (by decide)) (takes_of rfl rfl rfl rfl) (by rfl) T.g__law_reaches T.F__law_reaches.kp T.b__law_reaches (da_cons (de_var (i := 0) rfl (by walk_at "vis")) (da_cons de_int (da_cons (de_var (i := 4) rfl (by walk_at "vis")) (da_cons (de_var (i := 7) rfl (by walk_at "vis")) (da_cons (de_var (i := 2) rfl (by walk_at "vis")) da_nil)))))))
      (dss_cons (ds_setLc (i := 11) hc S.nd rfl (by rfl) (sw_true rfl (by rfl) rfl (by decide +kernel)) (di_range1 (by rfl) T.z_range (de_op op_mod od_mod (DE.bor (de_t1 call_int1 o1_int (by rfl) T.z_int (by decide +kernel) (DE.bor (de_ix (DE.bor (de_var (i := 1) rfl (by walk_at "vis"))) (DE.bor de_int))))) (DE.bor (de_op or_add od_add (DE.bor (de_var (i := 2) rfl (by walk_at "vis"))) (DE.bor de_int))))) (blkOk_by (N := ["script", "shape", "outcomes", "count", "worlds", "number", "told", "places", "rule", "first", "second", "allowed", "one", "handed", "members", "row", "book", "beside", "asked", "turned", "world", "moved"]) (sc := defScope s_law) (own := [("one", 12)]) (by decide +kernel)) (fun _ _ _ _ _ => (dg_name (i := 12) ((by exact S.nd)) rfl (by walk_at "loc") (by first | exact .inl rfl | exact .inr rfl))) (fun _ _ _ _ _ => dts_nil) (fun _ _ _ _ _ => (de_var (i := 12) rfl (by walk_at "vis"))))
      (dss_cons (ds_setXLc (i := 13) hc S.nd rfl (by rfl) (sw_true rfl (by rfl) rfl (by decide +kernel)) (di_seq (de_var (i := 9) rfl (by walk_at "vis"))) (blkOk_by (N := ["script", "shape", "outcomes", "count", "worlds", "number", "told", "places", "rule", "first", "second", "allowed", "one", "handed", "members", "row", "book", "beside", "asked", "turned", "world", "moved"]) (sc := defScope s_law) (own := [("row", 15)]) (by decide +kernel)) (fun _ _ _ _ _ => (dg_name (i := 15) ((by exact S.nd)) rfl (by walk_at "loc") (by first | exact .inl rfl | exact .inr rfl))) (fun _ _ _ _ _ => dts_nil) (by exact fun _ _ _ _ _ => (dx_comp (by exact hc) (by exact S.nd) (di_seq (de_var (i := 15) rfl (by walk_at "vis"))) (blkOk_by (N := ["script", "shape", "outcomes", "count", "worlds", "number", "told", "places", "rule", "first", "second", "allowed", "one", "handed", "members", "row", "book", "beside", "asked", "turned", "world", "moved"]) (own := [("members", 14)]) (by show blkC _ (relSc _ (defScope s_law)) _ _ = true; decide +kernel)) (fun _ _ _ _ _ => (dg_name (i := 14) ((by exact S.nd)) rfl (by walk_at "loc") (by first | exact .inl rfl | exact .inr rfl))) (fun _ _ _ _ _ => dts_nil) (fun _ _ _ _ _ => (dx_new (df_list (by rfl) T.z_list (DE.bor (de_var (i := 14) rfl (by walk_at "vis")))))))))
      (dss_cons (ds_set (i := 16) S.nd rfl (by walk_at "loc") (de_lend (i := 13) (de_make T.M_Book (ok_Book___init__ T) (hr.mono (by decide)) (takes_of rfl rfl rfl rfl) (by rfl) T.gC_Book T.b_Book___init__ (da_cons (DF.de (df_list (by rfl) T.z_list (DE.bor (de_var (i := 11) rfl (by walk_at "vis"))))) (da_cons (de_var (i := 13) rfl (by walk_at "vis")) da_nil)))))
      (dss_cons (ds_appP (i := 13) (dpl_ix (dpl_ix (dpl_root (i := 13) rfl (by walk_at "vis")) de_int) de_int) (dx_de (de_op op_sub od_sub (DE.bor (de_var (i := 2) rfl (by walk_at "vis"))) (DE.bor de_int))))
      (dss_cons (ds_appP (i := 13) (dpl_ix (dpl_root (i := 13) rfl (by walk_at "vis")) de_int) (dx_new (df_lst (da_cons de_int da_nil))))
      (dss_cons (ds_appP (i := 13) (dpl_root (i := 13) rfl (by walk_at "vis")) (dx_new (df_lst da_nil)))
      (dss_cons (ds_set (i := 17) S.nd rfl (by walk_at "loc") (de_make T.M_Book (ok_Book___init__ T) (hr.mono (by decide)) (takes_of rfl rfl rfl rfl) (by rfl) T.gC_Book T.b_Book___init__ (da_cons (de_t1 call_tuple_of o1_tuple (by rfl) T.z_tuple (by decide +kernel) (DE.bor (de_var (i := 11) rfl (by walk_at "vis")))) (da_cons (de_var (i := 10) rfl (by walk_at "vis")) da_nil))))
      (dss_cons (ds_if (DW.t (dw_or (dt_not (dt_val (de_call (ok__law_same T) (hr.mono (by decide)) (takes_of rfl rfl rfl rfl) (by rfl) T.g__law_same T.F__law_same.kp T.b__law_same (da_cons (de_fld T.fo_allowed (de_var (i := 16) rfl (by walk_at "vis"))) (da_cons (de_var (i := 11) rfl (by walk_at "vis")) da_nil))))) (dw_or1 (dt_not (dt_val (de_call (ok__law_same T) (hr.mono (by decide)) (takes_of rfl rfl rfl rfl) (by rfl) T.g__law_same T.F__law_same.kp T.b__law_same (da_cons (de_fld T.fo_reach (de_var (i := 16) rfl (by walk_at "vis"))) (da_cons (de_var (i := 9) rfl (by walk_at "vis")) da_nil)))))))) (dss_one (ds_ret de_bl)) dss_nil)
      (dss_cons (ds_if (DW.t (dw_or (dt_not (dt_val (de_call (ok__law_same T) (hr.mono (by decide)) (takes_of rfl rfl rfl rfl) (by rfl) T.g__law_same T.F__law_same.kp T.b__law_same (da_cons (de_fld T.fo_allowed (de_var (i := 17) rfl (by walk_at "vis"))) (da_cons (de_var (i := 11) rfl (by walk_at "vis")) da_nil))))) (dw_or1 (dt_not (dt_val (de_call (ok__law_same T) (hr.mono (by decide)) (takes_of rfl rfl rfl rfl) (by rfl) T.g__law_same T.F__law_same.kp T.b__law_same (da_cons (de_fld T.fo_reach (de_var (i := 17) rfl (by walk_at "vis"))) (da_cons (de_var (i := 10) rfl (by walk_at "vis")) da_nil)))))))) (dss_one (ds_ret de_bl)) dss_nil)
      (dss_cons (ds_set (i := 18) S.nd rfl (by walk_at "loc") (de_call (ok__law_asked T) (hr.mono (by decide)) (takes_of rfl rfl rfl rfl) (by rfl) T.g__law_asked T.F__law_asked.kp T.b__law_asked (da_cons (de_var (i := 0) rfl (by walk_at "vis")) (da_cons de_int (da_cons (de_b1 cr_len o1_len (by rfl) T.z_len (by decide +kernel) (DE.bor (de_var (i := 7) rfl (by walk_at "vis")))) da_nil)))))
      (dss_cons (ds_if (dt_not (dt_val (de_call (ok__law_right_sets T) (hr.mono (by decide)) (takes_of rfl rfl rfl rfl) (by rfl) T.g__law_right_sets T.F__law_right_sets.kp T.b__law_right_sets (da_cons (de_var (i := 8) rfl (by walk_at "vis")) (da_cons (de_var (i := 16) rfl (by walk_at "vis")) (da_cons (de_var (i := 4) rfl (by walk_at "vis")) (da_cons (de_var (i := 6) rfl (by walk_at "vis")) (da_cons (de_var (i := 9) rfl (by walk_at "vis")) (da_cons (de_var (i := 18) rfl (by walk_at "vis")) da_nil))))))))) (dss_one (ds_ret de_bl)) dss_nil)
      (dss_cons (ds_if (dt_not (dt_val (de_call (ok__law_right_sets T) (hr.mono (by decide)) (takes_of rfl rfl rfl rfl) (by rfl) T.g__law_right_sets T.F__law_right_sets.kp T.b__law_right_sets (da_cons (de_var (i := 8) rfl (by walk_at "vis")) (da_cons (de_var (i := 17) rfl (by walk_at "vis")) (da_cons (de_var (i := 4) rfl (by walk_at "vis")) (da_cons (de_var (i := 6) rfl (by walk_at "vis")) (da_cons (de_var (i := 10) rfl (by walk_at "vis")) (da_cons (de_var (i := 18) rfl (by walk_at "vis")) da_nil))))))))) (dss_one (ds_ret de_bl)) dss_nil)
      (dss_cons (ds_setLc (i := 19) hc S.nd rfl (by rfl) (sw_true rfl (by rfl) rfl (by decide +kernel)) (di_seq (de_op or_add od_add (DE.bor (de_slice (DE.bor (de_var (i := 4) rfl (by walk_at "vis"))) (do_some de_int) do_none)) (DE.bor (de_slice (DE.bor (de_var (i := 4) rfl (by walk_at "vis"))) do_none (do_some de_int))))) (blkOk_by (N := ["script", "shape", "outcomes", "count", "worlds", "number", "told", "places", "rule", "first", "second", "allowed", "one", "handed", "members", "row", "book", "beside", "asked", "turned", "world", "moved"]) (sc := defScope s_law) (own := [("world", 20)]) (by decide +kernel)) (fun _ _ _ _ _ => (dg_name (i := 20) ((by exact S.nd)) rfl (by walk_at "loc") (by first | exact .inl rfl | exact .inr rfl))) (fun _ _ _ _ _ => dts_nil) (fun _ _ _ _ _ => (de_tup (da_cons (de_ix (DE.bor (de_var (i := 20) rfl (by walk_at "vis"))) (DE.bor de_int)) (da_cons (de_ix (DE.bor (de_var (i := 20) rfl (by walk_at "vis"))) (DE.bor de_int)) da_nil)))))
      (dss_cons (ds_if (dt_not (dt_val (de_call (ok__law_right_sets T) (hr.mono (by decide)) (takes_of rfl rfl rfl rfl) (by rfl) T.g__law_right_sets T.F__law_right_sets.kp T.b__law_right_sets (da_cons (de_make T.M_Rule (ok_Rule___init__ T) (hr.mono (by decide)) (takes_of rfl rfl rfl rfl) (by rfl) T.gC_Rule T.b_Rule___init__ (da_cons de_int (da_cons (de_var (i := 2) rfl (by walk_at "vis")) (da_cons (de_var (i := 19) rfl (by walk_at "vis")) (da_cons (de_var (i := 6) rfl (by walk_at "vis")) da_nil))))) (da_cons (de_var (i := 16) rfl (by walk_at "vis")) (da_cons (de_var (i := 19) rfl (by walk_at "vis")) (da_cons (de_var (i := 6) rfl (by walk_at "vis")) (da_cons (de_var (i := 9) rfl (by walk_at "vis")) (da_cons (de_var (i := 18) rfl (by walk_at "vis")) da_nil))))))))) (dss_one (ds_ret de_bl)) dss_nil)
      (dss_cons (ds_set (i := 21) S.nd rfl (by walk_at "loc") (de_op or_add od_add (DE.bor (de_slice (DE.bor (de_var (i := 6) rfl (by walk_at "vis"))) (do_some de_int) do_none)) (DE.bor (de_slice (DE.bor (de_var (i := 6) rfl (by walk_at "vis"))) do_none (do_some de_int)))))
      (dss_cons (ds_if (dt_not (dt_val (de_call (ok__law_right_sets T) (hr.mono (by decide)) (takes_of rfl rfl rfl rfl) (by rfl) T.g__law_right_sets T.F__law_right_sets.kp T.b__law_right_sets (da_cons (de_make T.M_Rule (ok_Rule___init__ T) (hr.mono (by decide)) (takes_of rfl rfl rfl rfl) (by rfl) T.gC_Rule T.b_Rule___init__ (da_cons de_int (da_cons (de_var (i := 2) rfl (by walk_at "vis")) (da_cons (de_var (i := 4) rfl (by walk_at "vis")) (da_cons (de_var (i := 21) rfl (by walk_at "vis")) da_nil))))) (da_cons (de_var (i := 16) rfl (by walk_at "vis")) (da_cons (de_var (i := 4) rfl (by walk_at "vis")) (da_cons (de_var (i := 21) rfl (by walk_at "vis")) (da_cons (de_var (i := 9) rfl (by walk_at "vis")) (da_cons (de_var (i := 18) rfl (by walk_at "vis")) da_nil))))))))) (dss_one (ds_ret de_bl)) dss_nil)
      (dss_one (ds_ret (de_call (ok__law_right_sets T) (hr.mono (by decide)) (takes_of rfl rfl rfl rfl) (by rfl) T.g__law_right_sets T.F__law_right_sets.kp T.b__law_right_sets (da_cons (de_var (i := 8) rfl (by walk_at "vis")) (da_cons (de_var (i := 16) rfl (by walk_at "vis")) (da_cons (de_var (i := 4) rfl (by walk_at "vis")) (da_cons (de_var (i := 6) rfl (by walk_at "vis")) (da_cons (de_var (i := 9) rfl (by walk_at "vis")) (da_cons (de_var (i := 18) rfl (by walk_at "vis")) da_nil)))))))))))))))))))))))))))))))))))
end
/-! ### what the top has left -/
theorem all_mk {l : PySem.W.OpenLaw} {w : World} {K : Frag} {h : Heap} {mg : Mg} {fa : Addr} {f__law_row f__law_told f__law_pairs f_is_set f_check_told f_liking_of f_is_liking f_is_world f_Rule___init__ f__law_below f__law_reaches f_Book___init__ f__law_asked f__law_over f__law_stays f__law_middles f__law_same f_on_top f_is_middle f_middles f__law_right_sets f__law_dense f__law_world f_law c_Book c_Rule : Addr} {t_OUTCOMES t_PAIRS t_PEOPLE t_WORLDS : Tok} (X : K.In h) (G : h.Ns mainGlobals mg) (hfa : mg "law" = some (.ref fa))
    (a0 : PySem.W.nsIn K mainGlobals "_law_row" = some (some (.ref f__law_row))) {oc0 kV0 dc0 pm0 cd0 ct0 : Value} {od0 an0 : Option Addr} {sl0 : Array (Option Value)} (l0 : K.lookup f__law_row = some ⟨oc0, od0, .func (PySem.W.fnOf "_law_row" "_law_row" (defArgs s__law_row) (defBody s__law_row) (defScope s__law_row) .none kV0 dc0 pm0 an0 cd0 ct0), sl0⟩) (c0 : PySem.W.codeIn K cd0 "_law_row" = true) (k0 : PySem.W.keepIn K (.ref f__law_row) = true)
    (a1 : PySem.W.nsIn K mainGlobals "_law_told" = some (some (.ref f__law_told))) {oc1 kV1 dc1 pm1 cd1 ct1 : Value} {od1 an1 : Option Addr} {sl1 : Array (Option Value)} (l1 : K.lookup f__law_told = some ⟨oc1, od1, .func (PySem.W.fnOf "_law_told" "_law_told" (defArgs s__law_told) (defBody s__law_told) (defScope s__law_told) .none kV1 dc1 pm1 an1 cd1 ct1), sl1⟩) (c1 : PySem.W.codeIn K cd1 "_law_told" = true) (k1 : PySem.W.keepIn K (.ref f__law_told) = true)
    (a2 : PySem.W.nsIn K mainGlobals "_law_pairs" = some (some (.ref f__law_pairs))) {oc2 kV2 dc2 pm2 cd2 ct2 : Value} {od2 an2 : Option Addr} {sl2 : Array (Option Value)} (l2 : K.lookup f__law_pairs = some ⟨oc2, od2, .func (PySem.W.fnOf "_law_pairs" "_law_pairs" (defArgs s__law_pairs) (defBody s__law_pairs) (defScope s__law_pairs) .none kV2 dc2 pm2 an2 cd2 ct2), sl2⟩) (c2 : PySem.W.codeIn K cd2 "_law_pairs" = true) (k2 : PySem.W.keepIn K (.ref f__law_pairs) = true)
    (a3 : PySem.W.nsIn K mainGlobals "is_set" = some (some (.ref f_is_set))) {oc3 kV3 dc3 pm3 cd3 ct3 : Value} {od3 an3 : Option Addr} {sl3 : Array (Option Value)} (l3 : K.lookup f_is_set = some ⟨oc3, od3, .func (PySem.W.fnOf "is_set" "is_set" (defArgs s_is_set) (defBody s_is_set) (defScope s_is_set) .none kV3 dc3 pm3 an3 cd3 ct3), sl3⟩) (c3 : PySem.W.codeIn K cd3 "is_set" = true) (k3 : PySem.W.keepIn K (.ref f_is_set) = true)
    (a4 : PySem.W.nsIn K mainGlobals "check_told" = some (some (.ref f_check_told))) {oc4 kV4 dc4 pm4 cd4 ct4 : Value} {od4 an4 : Option Addr} {sl4 : Array (Option Value)} (l4 : K.lookup f_check_told = some ⟨oc4, od4, .func (PySem.W.fnOf "check_told" "check_told" (defArgs s_check_told) (defBody s_check_told) (defScope s_check_told) .none kV4 dc4 pm4 an4 cd4 ct4), sl4⟩) (c4 : PySem.W.codeIn K cd4 "check_told" = true) (k4 : PySem.W.keepIn K (.ref f_check_told) = true)
    (a5 : PySem.W.nsIn K mainGlobals "liking_of" = some (some (.ref f_liking_of))) {oc5 kV5 dc5 pm5 cd5 ct5 : Value} {od5 an5 : Option Addr} {sl5 : Array (Option Value)} (l5 : K.lookup f_liking_of = some ⟨oc5, od5, .func (PySem.W.fnOf "liking_of" "liking_of" (defArgs s_liking_of) (defBody s_liking_of) (defScope s_liking_of) .none kV5 dc5 pm5 an5 cd5 ct5), sl5⟩) (c5 : PySem.W.codeIn K cd5 "liking_of" = true) (k5 : PySem.W.keepIn K (.ref f_liking_of) = true)
    (a6 : PySem.W.nsIn K mainGlobals "is_liking" = some (some (.ref f_is_liking))) {oc6 kV6 dc6 pm6 cd6 ct6 : Value} {od6 an6 : Option Addr} {sl6 : Array (Option Value)} (l6 : K.lookup f_is_liking = some ⟨oc6, od6, .func (PySem.W.fnOf "is_liking" "is_liking" (defArgs s_is_liking) (defBody s_is_liking) (defScope s_is_liking) .none kV6 dc6 pm6 an6 cd6 ct6), sl6⟩) (c6 : PySem.W.codeIn K cd6 "is_liking" = true) (k6 : PySem.W.keepIn K (.ref f_is_liking) = true)
    (a7 : PySem.W.nsIn K mainGlobals "is_world" = some (some (.ref f_is_world))) {oc7 kV7 dc7 pm7 cd7 ct7 : Value} {od7 an7 : Option Addr} {sl7 : Array (Option Value)} (l7 : K.lookup f_is_world = some ⟨oc7, od7, .func (PySem.W.fnOf "is_world" "is_world" (defArgs s_is_world) (defBody s_is_world) (defScope s_is_world) .none kV7 dc7 pm7 an7 cd7 ct7), sl7⟩) (c7 : PySem.W.codeIn K cd7 "is_world" = true) (k7 : PySem.W.keepIn K (.ref f_is_world) = true)
    (a8 : PySem.W.findIn K (.ref c_Rule) "__init__" = some (some (.ref f_Rule___init__))) (i8 : PySem.W.isFn K (.ref f_Rule___init__) = true)
    {oc8 kV8 dc8 pm8 cd8 ct8 : Value} {od8 an8 : Option Addr} {sl8 : Array (Option Value)} (l8 : K.lookup f_Rule___init__ = some ⟨oc8, od8, .func (PySem.W.fnOf "__init__" "Rule.__init__" (defArgs s_Rule___init__) (defBody s_Rule___init__) (defScope s_Rule___init__) .none kV8 dc8 pm8 an8 cd8 ct8), sl8⟩) (c8 : PySem.W.codeIn K cd8 "Rule.__init__" = true) (k8 : PySem.W.keepIn K (.ref f_Rule___init__) = true)
    (a9 : PySem.W.nsIn K mainGlobals "_law_below" = some (some (.ref f__law_below))) {oc9 kV9 dc9 pm9 cd9 ct9 : Value} {od9 an9 : Option Addr} {sl9 : Array (Option Value)} (l9 : K.lookup f__law_below = some ⟨oc9, od9, .func (PySem.W.fnOf "_law_below" "_law_below" (defArgs s__law_below) (defBody s__law_below) (defScope s__law_below) .none kV9 dc9 pm9 an9 cd9 ct9), sl9⟩) (c9 : PySem.W.codeIn K cd9 "_law_below" = true) (k9 : PySem.W.keepIn K (.ref f__law_below) = true)
    (a10 : PySem.W.nsIn K mainGlobals "_law_reaches" = some (some (.ref f__law_reaches))) {oc10 kV10 dc10 pm10 cd10 ct10 : Value} {od10 an10 : Option Addr} {sl10 : Array (Option Value)} (l10 : K.lookup f__law_reaches = some ⟨oc10, od10, .func (PySem.W.fnOf "_law_reaches" "_law_reaches" (defArgs s__law_reaches) (defBody s__law_reaches) (defScope s__law_reaches) .none kV10 dc10 pm10 an10 cd10 ct10), sl10⟩) (c10 : PySem.W.codeIn K cd10 "_law_reaches" = true) (k10 : PySem.W.keepIn K (.ref f__law_reaches) = true)
    (a11 : PySem.W.findIn K (.ref c_Book) "__init__" = some (some (.ref f_Book___init__))) (i11 : PySem.W.isFn K (.ref f_Book___init__) = true)
    {oc11 kV11 dc11 pm11 cd11 ct11 : Value} {od11 an11 : Option Addr} {sl11 : Array (Option Value)} (l11 : K.lookup f_Book___init__ = some ⟨oc11, od11, .func (PySem.W.fnOf "__init__" "Book.__init__" (defArgs s_Book___init__) (defBody s_Book___init__) (defScope s_Book___init__) .none kV11 dc11 pm11 an11 cd11 ct11), sl11⟩) (c11 : PySem.W.codeIn K cd11 "Book.__init__" = true) (k11 : PySem.W.keepIn K (.ref f_Book___init__) = true)
    (a12 : PySem.W.nsIn K mainGlobals "_law_asked" = some (some (.ref f__law_asked))) {oc12 kV12 dc12 pm12 cd12 ct12 : Value} {od12 an12 : Option Addr} {sl12 : Array (Option Value)} (l12 : K.lookup f__law_asked = some ⟨oc12, od12, .func (PySem.W.fnOf "_law_asked" "_law_asked" (defArgs s__law_asked) (defBody s__law_asked) (defScope s__law_asked) .none kV12 dc12 pm12 an12 cd12 ct12), sl12⟩) (c12 : PySem.W.codeIn K cd12 "_law_asked" = true) (k12 : PySem.W.keepIn K (.ref f__law_asked) = true)
    (a13 : PySem.W.nsIn K mainGlobals "_law_over" = some (some (.ref f__law_over))) {oc13 kV13 dc13 pm13 cd13 ct13 : Value} {od13 an13 : Option Addr} {sl13 : Array (Option Value)} (l13 : K.lookup f__law_over = some ⟨oc13, od13, .func (PySem.W.fnOf "_law_over" "_law_over" (defArgs s__law_over) (defBody s__law_over) (defScope s__law_over) .none kV13 dc13 pm13 an13 cd13 ct13), sl13⟩) (c13 : PySem.W.codeIn K cd13 "_law_over" = true) (k13 : PySem.W.keepIn K (.ref f__law_over) = true)
    (a14 : PySem.W.nsIn K mainGlobals "_law_stays" = some (some (.ref f__law_stays))) {oc14 kV14 dc14 pm14 cd14 ct14 : Value} {od14 an14 : Option Addr} {sl14 : Array (Option Value)} (l14 : K.lookup f__law_stays = some ⟨oc14, od14, .func (PySem.W.fnOf "_law_stays" "_law_stays" (defArgs s__law_stays) (defBody s__law_stays) (defScope s__law_stays) .none kV14 dc14 pm14 an14 cd14 ct14), sl14⟩) (c14 : PySem.W.codeIn K cd14 "_law_stays" = true) (k14 : PySem.W.keepIn K (.ref f__law_stays) = true)
    (a15 : PySem.W.nsIn K mainGlobals "_law_middles" = some (some (.ref f__law_middles))) {oc15 kV15 dc15 pm15 cd15 ct15 : Value} {od15 an15 : Option Addr} {sl15 : Array (Option Value)} (l15 : K.lookup f__law_middles = some ⟨oc15, od15, .func (PySem.W.fnOf "_law_middles" "_law_middles" (defArgs s__law_middles) (defBody s__law_middles) (defScope s__law_middles) .none kV15 dc15 pm15 an15 cd15 ct15), sl15⟩) (c15 : PySem.W.codeIn K cd15 "_law_middles" = true) (k15 : PySem.W.keepIn K (.ref f__law_middles) = true)
    (a16 : PySem.W.nsIn K mainGlobals "_law_same" = some (some (.ref f__law_same))) {oc16 kV16 dc16 pm16 cd16 ct16 : Value} {od16 an16 : Option Addr} {sl16 : Array (Option Value)} (l16 : K.lookup f__law_same = some ⟨oc16, od16, .func (PySem.W.fnOf "_law_same" "_law_same" (defArgs s__law_same) (defBody s__law_same) (defScope s__law_same) .none kV16 dc16 pm16 an16 cd16 ct16), sl16⟩) (c16 : PySem.W.codeIn K cd16 "_law_same" = true) (k16 : PySem.W.keepIn K (.ref f__law_same) = true)
    (a17 : PySem.W.nsIn K mainGlobals "on_top" = some (some (.ref f_on_top))) {oc17 kV17 dc17 pm17 cd17 ct17 : Value} {od17 an17 : Option Addr} {sl17 : Array (Option Value)} (l17 : K.lookup f_on_top = some ⟨oc17, od17, .func (PySem.W.fnOf "on_top" "on_top" (defArgs s_on_top) (defBody s_on_top) (defScope s_on_top) .none kV17 dc17 pm17 an17 cd17 ct17), sl17⟩) (c17 : PySem.W.codeIn K cd17 "on_top" = true) (k17 : PySem.W.keepIn K (.ref f_on_top) = true)
    (a18 : PySem.W.nsIn K mainGlobals "is_middle" = some (some (.ref f_is_middle))) {oc18 kV18 dc18 pm18 cd18 ct18 : Value} {od18 an18 : Option Addr} {sl18 : Array (Option Value)} (l18 : K.lookup f_is_middle = some ⟨oc18, od18, .func (PySem.W.fnOf "is_middle" "is_middle" (defArgs s_is_middle) (defBody s_is_middle) (defScope s_is_middle) .none kV18 dc18 pm18 an18 cd18 ct18), sl18⟩) (c18 : PySem.W.codeIn K cd18 "is_middle" = true) (k18 : PySem.W.keepIn K (.ref f_is_middle) = true)
    (a19 : PySem.W.nsIn K mainGlobals "middles" = some (some (.ref f_middles))) {oc19 kV19 dc19 pm19 cd19 ct19 : Value} {od19 an19 : Option Addr} {sl19 : Array (Option Value)} (l19 : K.lookup f_middles = some ⟨oc19, od19, .func (PySem.W.fnOf "middles" "middles" (defArgs s_middles) (defBody s_middles) (defScope s_middles) .none kV19 dc19 pm19 an19 cd19 ct19), sl19⟩) (c19 : PySem.W.codeIn K cd19 "middles" = true) (k19 : PySem.W.keepIn K (.ref f_middles) = true)
    (a20 : PySem.W.nsIn K mainGlobals "_law_right_sets" = some (some (.ref f__law_right_sets))) {oc20 kV20 dc20 pm20 cd20 ct20 : Value} {od20 an20 : Option Addr} {sl20 : Array (Option Value)} (l20 : K.lookup f__law_right_sets = some ⟨oc20, od20, .func (PySem.W.fnOf "_law_right_sets" "_law_right_sets" (defArgs s__law_right_sets) (defBody s__law_right_sets) (defScope s__law_right_sets) .none kV20 dc20 pm20 an20 cd20 ct20), sl20⟩) (c20 : PySem.W.codeIn K cd20 "_law_right_sets" = true) (k20 : PySem.W.keepIn K (.ref f__law_right_sets) = true)
    (a21 : PySem.W.nsIn K mainGlobals "_law_dense" = some (some (.ref f__law_dense))) {oc21 kV21 dc21 pm21 cd21 ct21 : Value} {od21 an21 : Option Addr} {sl21 : Array (Option Value)} (l21 : K.lookup f__law_dense = some ⟨oc21, od21, .func (PySem.W.fnOf "_law_dense" "_law_dense" (defArgs s__law_dense) (defBody s__law_dense) (defScope s__law_dense) .none kV21 dc21 pm21 an21 cd21 ct21), sl21⟩) (c21 : PySem.W.codeIn K cd21 "_law_dense" = true) (k21 : PySem.W.keepIn K (.ref f__law_dense) = true)
    (a22 : PySem.W.nsIn K mainGlobals "_law_world" = some (some (.ref f__law_world))) {oc22 kV22 dc22 pm22 cd22 ct22 : Value} {od22 an22 : Option Addr} {sl22 : Array (Option Value)} (l22 : K.lookup f__law_world = some ⟨oc22, od22, .func (PySem.W.fnOf "_law_world" "_law_world" (defArgs s__law_world) (defBody s__law_world) (defScope s__law_world) .none kV22 dc22 pm22 an22 cd22 ct22), sl22⟩) (c22 : PySem.W.codeIn K cd22 "_law_world" = true) (k22 : PySem.W.keepIn K (.ref f__law_world) = true)
    (a23 : PySem.W.nsIn K mainGlobals "law" = some (some (.ref f_law))) {oc23 kV23 dc23 pm23 cd23 ct23 : Value} {od23 an23 : Option Addr} {sl23 : Array (Option Value)} (l23 : K.lookup f_law = some ⟨oc23, od23, .func (PySem.W.fnOf "law" "law" (defArgs s_law) (defBody s_law) (defScope s_law) .none kV23 dc23 pm23 an23 cd23 ct23), sl23⟩) (c23 : PySem.W.codeIn K cd23 "law" = true) (k23 : PySem.W.keepIn K (.ref f_law) = true)
    (aC_Book : PySem.W.nsIn K mainGlobals "Book" = some (some (.ref c_Book))) (pg_Book : PySem.W.plainGet K c_Book Str.empty = true) (hd_Book : PySem.W.hasDictIn K c_Book = true) (po_Book : PySem.W.plainOver K c_Book = true) (sa_Book : PySem.W.findIn K (.ref c_Book) "__setattr__" = some (some (.builtin "object.__setattr__"))) (mk_Book : PySem.W.makesIn K c_Book = true) (kc_Book : PySem.W.keepIn K (.ref c_Book) = true)
    (na_Book_allowed : PySem.W.findIn K (.ref c_Book) "allowed" = some none)
    (na_Book_reach : PySem.W.findIn K (.ref c_Book) "reach" = some none)
    (aC_Rule : PySem.W.nsIn K mainGlobals "Rule" = some (some (.ref c_Rule))) (pg_Rule : PySem.W.plainGet K c_Rule Str.empty = true) (hd_Rule : PySem.W.hasDictIn K c_Rule = true) (po_Rule : PySem.W.plainOver K c_Rule = true) (sa_Rule : PySem.W.findIn K (.ref c_Rule) "__setattr__" = some (some (.builtin "object.__setattr__"))) (mk_Rule : PySem.W.makesIn K c_Rule = true) (kc_Rule : PySem.W.keepIn K (.ref c_Rule) = true)
    (na_Rule_outcomes : PySem.W.findIn K (.ref c_Rule) "outcomes" = some none)
    (na_Rule_pairs : PySem.W.findIn K (.ref c_Rule) "pairs" = some none)
    (na_Rule_people : PySem.W.findIn K (.ref c_Rule) "people" = some none)
    (na_Rule_told : PySem.W.findIn K (.ref c_Rule) "told" = some none)
    (na_Rule_worlds : PySem.W.findIn K (.ref c_Rule) "worlds" = some none)
    (z_abs : PySem.W.nsIn K mainGlobals "abs" = some none)
    (z_bool : PySem.W.nsIn K mainGlobals "bool" = some none)
    (z_int : PySem.W.nsIn K mainGlobals "int" = some none)
    (z_isinstance : PySem.W.nsIn K mainGlobals "isinstance" = some none)
    (z_len : PySem.W.nsIn K mainGlobals "len" = some none)
    (z_list : PySem.W.nsIn K mainGlobals "list" = some none)
    (z_max : PySem.W.nsIn K mainGlobals "max" = some none)
    (z_min : PySem.W.nsIn K mainGlobals "min" = some none)
    (z_range : PySem.W.nsIn K mainGlobals "range" = some none)
    (z_set : PySem.W.nsIn K mainGlobals "set" = some none)
    (z_sorted : PySem.W.nsIn K mainGlobals "sorted" = some none)
    (z_str : PySem.W.nsIn K mainGlobals "str" = some none)
    (z_tuple : PySem.W.nsIn K mainGlobals "tuple" = some none)
    (e_OUTCOMES : PySem.W.nsIn K mainGlobals "OUTCOMES" = some (some (.int (8) t_OUTCOMES)))
    (e_PAIRS : PySem.W.nsIn K mainGlobals "PAIRS" = some (some (.int (24) t_PAIRS)))
    (e_PEOPLE : PySem.W.nsIn K mainGlobals "PEOPLE" = some (some (.int (4) t_PEOPLE)))
    (e_WORLDS : PySem.W.nsIn K mainGlobals "WORLDS" = some (some (.int (8) t_WORLDS)))
    (tr : ∀ ns : List Int, ns.length ≤ 63 → m_law [.scr ns] = .ok (.bl true)) :
    ∃ fd : FuncData, (∀ (s : Shared) (v : Value), BindsTo s fd ⟨[v], []⟩ [("script", v)]) ∧ ∀ base : Heap, K.In base → base.Ns mainGlobals mg → FnOk l.prog w K mg base (L2.CX l.prog w) 8 fa fd ["script"] (spLaw K 63) := by
  obtain rfl : f_law = fa := Value.ref.inj (Option.some.inj ((PySem.W.mg_of X G a23).symm.trans hfa))
  have F0 := fun_mk (st := s__law_row) l0 c0 k0
  have b0 := F0.binds (ps := ["script", "at", "size", "limit"]) fun _ _ _ _ _ _ us hl => match us, hl with | [_, _, _, _], _ => rfl
  have F1 := fun_mk (st := s__law_told) l1 c1 k1
  have b1 := F1.binds (ps := ["script", "at", "worlds", "outcomes", "way"]) fun _ _ _ _ _ _ us hl => match us, hl with | [_, _, _, _, _], _ => rfl
  have F2 := fun_mk (st := s__law_pairs) l2 c2 k2
  have b2 := F2.binds (ps := ["told"]) fun _ _ _ _ _ _ us hl => match us, hl with | [_], _ => rfl
  have F3 := fun_mk (st := s_is_set) l3 c3 k3
  have b3 := F3.binds (ps := ["members", "outcomes"]) fun _ _ _ _ _ _ us hl => match us, hl with | [_, _], _ => rfl
  have F4 := fun_mk (st := s_check_told) l4 c4 k4
  have b4 := F4.binds (ps := ["told", "worlds", "outcomes"]) fun _ _ _ _ _ _ us hl => match us, hl with | [_, _, _], _ => rfl
  have F5 := fun_mk (st := s_liking_of) l5 c5 k5
  have b5 := F5.binds (ps := ["points"]) fun _ _ _ _ _ _ us hl => match us, hl with | [_], _ => rfl
  have F6 := fun_mk (st := s_is_liking) l6 c6 k6
  have b6 := F6.binds (ps := ["levels", "outcomes"]) fun _ _ _ _ _ _ us hl => match us, hl with | [_, _], _ => rfl
  have F7 := fun_mk (st := s_is_world) l7 c7 k7
  have b7 := F7.binds (ps := ["world", "people", "outcomes"]) fun _ _ _ _ _ _ us hl => match us, hl with | [_, _, _], _ => rfl
  have F8 := fun_mk (st := s_Rule___init__) l8 c8 k8
  have b8 := F8.binds (ps := ["self", "people", "outcomes", "worlds", "told"]) fun _ _ _ _ _ _ us hl => match us, hl with | [_, _, _, _, _], _ => rfl
  have F9 := fun_mk (st := s__law_below) l9 c9 k9
  have b9 := F9.binds (ps := ["worlds", "kept", "place", "who"]) fun _ _ _ _ _ _ us hl => match us, hl with | [_, _, _, _], _ => rfl
  have F10 := fun_mk (st := s__law_reaches) l10 c10 k10
  have b10 := F10.binds (ps := ["script", "at", "worlds", "places", "outcomes"]) fun _ _ _ _ _ _ us hl => match us, hl with | [_, _, _, _, _], _ => rfl
  have F11 := fun_mk (st := s_Book___init__) l11 c11 k11
  have b11 := F11.binds (ps := ["self", "allowed", "reach"]) fun _ _ _ _ _ _ us hl => match us, hl with | [_, _, _], _ => rfl
  have F12 := fun_mk (st := s__law_asked) l12 c12 k12
  have b12 := F12.binds (ps := ["script", "at", "size"]) fun _ _ _ _ _ _ us hl => match us, hl with | [_, _, _], _ => rfl
  have F13 := fun_mk (st := s__law_over) l13 c13 k13
  have b13 := F13.binds (ps := ["liking", "outcome", "members"]) fun _ _ _ _ _ _ us hl => match us, hl with | [_, _, _], _ => rfl
  have F14 := fun_mk (st := s__law_stays) l14 c14 k14
  have b14 := F14.binds (ps := ["world", "outcome", "sets"]) fun _ _ _ _ _ _ us hl => match us, hl with | [_, _, _], _ => rfl
  have F15 := fun_mk (st := s__law_middles) l15 c15 k15
  have b15 := F15.binds (ps := ["worlds", "told", "mine", "yours"]) fun _ _ _ _ _ _ us hl => match us, hl with | [_, _, _, _], _ => rfl
  have F16 := fun_mk (st := s__law_same) l16 c16 k16
  have b16 := F16.binds (ps := ["told", "due"]) fun _ _ _ _ _ _ us hl => match us, hl with | [_, _], _ => rfl
  have F17 := fun_mk (st := s_on_top) l17 c17 k17
  have b17 := F17.binds (ps := ["liking", "outcome", "members"]) fun _ _ _ _ _ _ us hl => match us, hl with | [_, _, _], _ => rfl
  have F18 := fun_mk (st := s_is_middle) l18 c18 k18
  have b18 := F18.binds (ps := ["rule", "outcome", "mine", "yours"]) fun _ _ _ _ _ _ us hl => match us, hl with | [_, _, _, _], _ => rfl
  have F19 := fun_mk (st := s_middles) l19 c19 k19
  have b19 := DL.Fun.kwB (ps := ["rule", "book", "pair", "other"]) (ks := ["pair", "other"]) (n := 2) F19 rfl fun _ _ _ _ _ _ us ws l1 l2 => match us, ws, l1, l2 with | [_, _], [_, _], _, _ => rfl
  have F20 := fun_mk (st := s__law_right_sets) l20 c20 k20
  have b20 := F20.binds (ps := ["rule", "book", "worlds", "told", "rows", "asked"]) fun _ _ _ _ _ _ us hl => match us, hl with | [_, _, _, _, _, _], _ => rfl
  have F21 := fun_mk (st := s__law_dense) l21 c21 k21
  have b21 := F21.binds (ps := ["points"]) fun _ _ _ _ _ _ us hl => match us, hl with | [_], _ => rfl
  have F22 := fun_mk (st := s__law_world) l22 c22 k22
  have b22 := F22.binds (ps := ["script", "at", "people", "outcomes"]) fun _ _ _ _ _ _ us hl => match us, hl with | [_, _, _, _], _ => rfl
  have F23 := fun_mk (st := s_law) l23 c23 k23
  have b23 := F23.binds (ps := ["script"]) fun _ _ _ _ _ _ us hl => match us, hl with | [_], _ => rfl
  have T : Txt K mg f__law_row f__law_told f__law_pairs f_is_set f_check_told f_liking_of f_is_liking f_is_world f_Rule___init__ f__law_below f__law_reaches f_Book___init__ f__law_asked f__law_over f__law_stays f__law_middles f__law_same f_on_top f_is_middle f_middles f__law_right_sets f__law_dense f__law_world f_law _ _ _ _ _ _ _ _ _ _ _ _ _ _ _ _ _ _ _ _ _ _ _ _ c_Book c_Rule := ⟨F0, b0, PySem.W.mg_of X G a0, F1, b1, PySem.W.mg_of X G a1, F2, b2, PySem.W.mg_of X G a2, F3, b3, PySem.W.mg_of X G a3, F4, b4, PySem.W.mg_of X G a4, F5, b5, PySem.W.mg_of X G a5, F6, b6, PySem.W.mg_of X G a6, F7, b7, PySem.W.mg_of X G a7, F8, b8, F9, b9, PySem.W.mg_of X G a9, F10, b10, PySem.W.mg_of X G a10, F11, b11, F12, b12, PySem.W.mg_of X G a12, F13, b13, PySem.W.mg_of X G a13, F14, b14, PySem.W.mg_of X G a14, F15, b15, PySem.W.mg_of X G a15, F16, b16, PySem.W.mg_of X G a16, F17, b17, PySem.W.mg_of X G a17, F18, b18, PySem.W.mg_of X G a18, F19, b19, PySem.W.mg_of X G a19, F20, b20, PySem.W.mg_of X G a20, F21, b21, PySem.W.mg_of X G a21, F22, b22, PySem.W.mg_of X G a22, F23, b23, PySem.W.mg_of X G a23, PySem.W.mg_of X G aC_Book, ⟨mk_Book, a11, i11, kc_Book⟩, PySem.W.mg_of X G aC_Rule, ⟨mk_Rule, a8, i8, kc_Rule⟩, (fldOk_cons (PySem.W.mg_of X G aC_Book) ⟨pg_Book, hd_Book, po_Book, sa_Book⟩ na_Book_allowed fldOk_nil), (fldOk_cons (PySem.W.mg_of X G aC_Rule) ⟨pg_Rule, hd_Rule, po_Rule, sa_Rule⟩ na_Rule_outcomes fldOk_nil), (fldOk_cons (PySem.W.mg_of X G aC_Rule) ⟨pg_Rule, hd_Rule, po_Rule, sa_Rule⟩ na_Rule_pairs fldOk_nil), (fldOk_cons (PySem.W.mg_of X G aC_Rule) ⟨pg_Rule, hd_Rule, po_Rule, sa_Rule⟩ na_Rule_people fldOk_nil), (fldOk_cons (PySem.W.mg_of X G aC_Book) ⟨pg_Book, hd_Book, po_Book, sa_Book⟩ na_Book_reach fldOk_nil), (fldOk_cons (PySem.W.mg_of X G aC_Rule) ⟨pg_Rule, hd_Rule, po_Rule, sa_Rule⟩ na_Rule_told fldOk_nil), (fldOk_cons (PySem.W.mg_of X G aC_Rule) ⟨pg_Rule, hd_Rule, po_Rule, sa_Rule⟩ na_Rule_worlds fldOk_nil), PySem.W.mg_none_of X G z_abs, PySem.W.mg_none_of X G z_bool, PySem.W.mg_none_of X G z_int, PySem.W.mg_none_of X G z_isinstance, PySem.W.mg_none_of X G z_len, PySem.W.mg_none_of X G z_list, PySem.W.mg_none_of X G z_max, PySem.W.mg_none_of X G z_min, PySem.W.mg_none_of X G z_range, PySem.W.mg_none_of X G z_set, PySem.W.mg_none_of X G z_sorted, PySem.W.mg_none_of X G z_str, PySem.W.mg_none_of X G z_tuple, ⟨_, PySem.W.mg_of X G e_OUTCOMES⟩, ⟨_, PySem.W.mg_of X G e_PAIRS⟩, ⟨_, PySem.W.mg_of X G e_PEOPLE⟩, ⟨_, PySem.W.mg_of X G e_WORLDS⟩⟩
  exact ⟨_, fun s v => .of_eq rfl, fun base _ _ => law_fn (ok_law T) tr⟩
end K17

namespace DL
open PySem PySem.Spec PyProof.Rows L2
/-! ### the mirrors computed -/
def nums (ns : List Int) : List D := ns.map .int
@[simp] theorem nums_length (ns : List Int) : (nums ns).length = ns.length := List.length_map _
@[simp] theorem nums_nil : nums [] = [] := id rfl
theorem nums_cons (x : Int) (ns : List Int) : nums (x :: ns) = .int x :: nums ns := id rfl
@[simp] theorem nums_snoc (x : Int) (ns : List Int) : nums ns ++ [.int x] = nums (ns ++ [x]) := by unfold nums; rw [List.map_append]; rfl
@[simp] theorem nums_eq_nil (ns : List Int) : nums ns = [] ↔ ns = [] := List.map_eq_nil_iff
section
variable (i j : Int) (a b : Bool) (xs ys : List D) (δ : DEnv)
@[simp] theorem oAdd_int : oAdd (.int i) (.int j) = some (.int (i + j)) := id rfl
@[simp] theorem oSub_int : oSub (.int i) (.int j) = some (.int (i - j)) := id rfl
@[simp] theorem oIadd_int : oIadd (.int i) (.int j) = some (.int (i + j)) := id rfl
@[simp] theorem oNeg_int : oNeg (.int i) = some (.int (-i)) := id rfl
@[simp] theorem oLt_int : oLt (.int i) (.int j) = some (.bl (decide (i < j))) := id rfl
@[simp] theorem oLe_int : oLe (.int i) (.int j) = some (.bl (decide (i ≤ j))) := id rfl
@[simp] theorem oGt_int : oGt (.int i) (.int j) = some (.bl (decide (j < i))) := id rfl
@[simp] theorem oGe_int : oGe (.int i) (.int j) = some (.bl (decide (j ≤ i))) := id rfl
@[simp] theorem oInt_int : oInt (.int i) = some (.int i) := id rfl
@[simp] theorem oInt_bl : oInt (.bl a) = some (.int (if a then 1 else 0)) := id rfl
@[simp] theorem oAbs_int : oAbs (.int i) = some (.int (if i < 0 then -i else i)) := id rfl
@[simp] theorem oLen_lst : oLen (.lst xs) = some (.int xs.length) := id rfl
@[simp] theorem oLen_tup : oLen (.tup xs) = some (.int xs.length) := id rfl
@[simp] theorem oLen_scr (ns : List Int) : oLen (.scr ns) = some (.int ns.length) := id rfl
@[simp] theorem oTuple_lst : oTuple (.lst xs) = some (.tup xs) := id rfl
@[simp] theorem oTuple_tup : oTuple (.tup xs) = some (.tup xs) := id rfl
@[simp] theorem oList_lst : oList (.lst xs) = some (.lst xs) := id rfl
@[simp] theorem oList_tup : oList (.tup xs) = some (.lst xs) := id rfl
@[simp] theorem oIx_lst : oIx (.lst xs) (.int i) = L2.atI xs i := id rfl
@[simp] theorem oIx_tup : oIx (.tup xs) (.int i) = L2.atI xs i := id rfl
@[simp] theorem oIx_scr (ns : List Int) : oIx (.scr ns) (.int i) = (L2.atI ns i).map .int := id rfl
@[simp] theorem oMax2_int : oMax2 (.int i) (.int j) = some (.int (if j > i then j else i)) := id rfl
@[simp] theorem oMin2_int : oMin2 (.int i) (.int j) = some (.int (if j < i then j else i)) := id rfl
@[simp] theorem oIsi_int (T : String) : oIsi T (.int i) = some (.bl (isiB "int" T)) := id rfl
@[simp] theorem oIsi_bl (T : String) : oIsi T (.bl a) = some (.bl (isiB "bool" T)) := id rfl
@[simp] theorem oIsi_tup (T : String) : oIsi T (.tup xs) = some (.bl (isiB "tuple" T)) := id rfl
@[simp] theorem oIsi_lst (T : String) : oIsi T (.lst xs) = some (.bl (isiB "list" T)) := id rfl
@[simp] theorem oIsi_str (T : String) (x : Str) : oIsi T (.str x) = some (.bl (isiB "str" T)) := id rfl
@[simp] theorem oIsi_non (T : String) : oIsi T .non = some (.bl (isiB "NoneType" T)) := id rfl
@[simp] theorem oMod_int (h : 0 < j) : oMod (.int i) (.int j) = some (.int (i % j)) := by show (if 0 < j then _ else _) = _; rw [if_pos h]
@[simp] theorem eqD_int : eqD (.int i) (.int j) = some (decide (i = j)) := by
  show (if D.okE eqDepth (.int i) && D.okE eqDepth (.int j) then some (decide (D.int i = .int j)) else none) = _
  simp [D.okE]
@[simp] theorem eqD_bl : eqD (.bl a) (.bl b) = some (a == b) := id rfl
@[simp] theorem oEq_int : oEq (.int i) (.int j) = some (.bl (decide (i = j))) := by unfold oEq; rw [eqD_int]; rfl
@[simp] theorem oNe_int : oNe (.int i) (.int j) = some (.bl (!decide (i = j))) := by unfold oNe; rw [eqD_int]; rfl
@[simp] theorem oEq_bl : oEq (.bl a) (.bl b) = some (.bl (a == b)) := id rfl
@[simp] theorem oNe_bl : oNe (.bl a) (.bl b) = some (.bl (!(a == b))) := id rfl
@[simp] theorem oIs_blbl : oIs (.bl a) (.bl b) = some (.bl (a == b)) := id rfl
@[simp] theorem oIsNot_blbl : oIsNot (.bl a) (.bl b) = some (.bl (!(a == b))) := id rfl
@[simp] theorem oIs_nonnon : oIs .non .non = some (.bl true) := id rfl
@[simp] theorem oIsNot_nonnon : oIsNot .non .non = some (.bl false) := id rfl
@[simp] theorem asInts_ints (ns : List Int) : asInts (nums ns) = some ns := by
  induction ns with
  | nil => rfl
  | cons n ns ih => show (asInts (nums ns)).map _ = _; rw [ih]; rfl
@[simp] theorem lstInts_ints (ns : List Int) : lstInts (.lst (nums ns)) = some ns := asInts_ints ns
@[simp] theorem seqInts_lst (ns : List Int) : seqInts (.lst (nums ns)) = some ns := asInts_ints ns
@[simp] theorem seqInts_tup (ns : List Int) : seqInts (.tup (nums ns)) = some ns := asInts_ints ns
@[simp] theorem asL_lst' : asL (.lst xs) = .ok xs := id rfl
end
theorem okE_ints (n : Nat) (ns : List Int) : (nums ns).all (D.okE n) = true := by
  rw [List.all_eq_true]
  intro d hd
  obtain ⟨x, _, rfl⟩ := List.mem_map.mp hd
  cases n <;> rfl
theorem okE_lst (n : Nat) (ns : List Int) : (D.lst (nums ns)).okE (n + 1) = true := by
  show (nums ns).all (D.okE n) = true
  exact okE_ints n ns
theorem okE_tup (n : Nat) (ns : List Int) : (D.tup (nums ns)).okE (n + 1) = true := by
  show (nums ns).all (D.okE n) = true
  exact okE_ints n ns
theorem ints_inj {xs ys : List Int} : nums xs = nums ys ↔ xs = ys :=
  by
  constructor
  · intro h
    have := congrArg (List.map fun d : D => match d with | .int i => i | _ => 0) h
    simpa [nums, List.map_map, Function.comp_def] using this
  · exact fun h => h ▸ rfl
@[simp] theorem eqD_lst (xs ys : List Int) : eqD (.lst (nums xs)) (.lst (nums ys)) = some (decide (xs = ys)) := by
  show (if D.okE eqDepth _ && D.okE eqDepth _ then some (decide (D.lst _ = .lst _)) else none) = _
  rw [show eqDepth = 59 + 1 from rfl, okE_lst, okE_lst]
  simp [ints_inj]
@[simp] theorem eqD_tup (xs ys : List Int) : eqD (.tup (nums xs)) (.tup (nums ys)) = some (decide (xs = ys)) := by
  show (if D.okE eqDepth _ && D.okE eqDepth _ then some (decide (D.tup _ = .tup _)) else none) = _
  rw [show eqDepth = 59 + 1 from rfl, okE_tup, okE_tup]
  simp [ints_inj]
@[simp] theorem oEq_lst (xs ys : List Int) : oEq (.lst (nums xs)) (.lst (nums ys)) = some (.bl (decide (xs = ys))) := by unfold oEq; rw [eqD_lst]; rfl
@[simp] theorem oNe_lst (xs ys : List Int) : oNe (.lst (nums xs)) (.lst (nums ys)) = some (.bl (!decide (xs = ys))) := by unfold oNe; rw [eqD_lst]; rfl
@[simp] theorem oEq_tup (xs ys : List Int) : oEq (.tup (nums xs)) (.tup (nums ys)) = some (.bl (decide (xs = ys))) := by unfold oEq; rw [eqD_tup]; rfl
@[simp] theorem oNe_tup (xs ys : List Int) : oNe (.tup (nums xs)) (.tup (nums ys)) = some (.bl (!decide (xs = ys))) := by unfold oNe; rw [eqD_tup]; rfl
theorem mem_ints {x : Int} {ns : List Int} : D.int x ∈ nums ns ↔ x ∈ ns := by
  unfold nums
  rw [List.mem_map]
  constructor
  · rintro ⟨y, h, e⟩; cases e; exact h
  · exact fun h => ⟨x, h, rfl⟩
@[simp] theorem inD_lst (x : Int) (ns : List Int) : inD (.int x) (.lst (nums ns)) = some (decide (x ∈ ns)) := by
  show (if D.okE eqDepth (.int x) && D.okE eqDepth (.lst (nums ns)) then some (decide (D.int x ∈ nums ns)) else none) = _
  rw [show eqDepth = 59 + 1 from rfl, okE_lst, show D.okE (59+1) (.int x) = true from rfl]
  simp only [Bool.and_self, if_true, mem_ints]
@[simp] theorem inD_tup (x : Int) (ns : List Int) : inD (.int x) (.tup (nums ns)) = some (decide (x ∈ ns)) := by
  show (if D.okE 0 (.int x) && (nums ns).all (D.okE 0) then some (decide (D.int x ∈ nums ns)) else none) = _
  rw [okE_ints, show D.okE 0 (.int x) = true from rfl]
  simp only [Bool.and_self, if_true, mem_ints]
@[simp] theorem oIn_lst (x : Int) (ns : List Int) : oIn (.int x) (.lst (nums ns)) = some (.bl (decide (x ∈ ns))) := by unfold oIn; rw [inD_lst]; rfl
@[simp] theorem oIn_tup (x : Int) (ns : List Int) : oIn (.int x) (.tup (nums ns)) = some (.bl (decide (x ∈ ns))) := by unfold oIn; rw [inD_tup]; rfl
@[simp] theorem oNotIn_lst (x : Int) (ns : List Int) : oNotIn (.int x) (.lst (nums ns)) = some (.bl (!decide (x ∈ ns))) := by unfold oNotIn; rw [inD_lst]; rfl
@[simp] theorem oNotIn_tup (x : Int) (ns : List Int) : oNotIn (.int x) (.tup (nums ns)) = some (.bl (!decide (x ∈ ns))) := by unfold oNotIn; rw [inD_tup]; rfl

/-! indices -/
theorem atI_nat {α : Type} (xs : List α) (i : Nat) (h : i < xs.length) : L2.atI xs (i : Int) = some xs[i] := by
  unfold L2.atI ixN
  rw [if_pos (by omega), if_pos (by omega)]
  simp [h]
theorem atI_int {α : Type} (xs : List α) (i : Int) (h0 : 0 ≤ i) (h : i < xs.length) : L2.atI xs i = some (xs[i.toNat]'(by omega)) := by
  obtain ⟨n, rfl⟩ := Int.eq_ofNat_of_zero_le h0
  exact atI_nat xs n (by omega)
/-- the number at a place (0 beyond) -/
def at_ (ns : List Int) (i : Int) : Int := ns.getD i.toNat 0
theorem atI_ints (ns : List Int) (i : Int) (h0 : 0 ≤ i) (h : i < ns.length) : L2.atI (nums ns) i = some (.int (at_ ns i)) := by
  rw [atI_int _ _ h0 (by rw [nums_length]; exact h)]
  unfold at_
  simp only [nums]
  rw [List.getElem_map, List.getD_eq_getElem?_getD, List.getElem?_eq_getElem (by omega : i.toNat < ns.length), Option.getD_some]

/-! ranges -/
def ir (lo : Int) (n : Nat) : List Int := (List.range n).map fun i : Nat => lo + (i : Int)
theorem irange_ints (lo : Int) (n : Nat) : irange lo n = nums (ir lo n) := by
  unfold irange ir nums
  rw [List.map_map]; rfl
@[simp] theorem ir_length (lo : Int) (n : Nat) : (ir lo n).length = n := by unfold ir; rw [List.length_map, List.length_range]
theorem mem_ir {lo x : Int} {n : Nat} : x ∈ ir lo n ↔ lo ≤ x ∧ x < lo + n := by
  unfold ir
  rw [List.mem_map]
  constructor
  · rintro ⟨i, h, rfl⟩
    have := List.mem_range.mp h
    omega
  · intro h
    exact ⟨(x - lo).toNat, List.mem_range.mpr (by omega), by omega⟩
theorem rng_ok {lo hi : Int} (h1 : -(2 ^ 62) ≤ lo) (h2 : lo < 2 ^ 62) (h3 : -(2 ^ 62) ≤ hi) (h4 : hi < 2 ^ 62) (h5 : (hi - lo).toNat ≤ sizeLine) : rng lo hi = .ok (nums (ir lo (hi - lo).toNat)) := by
  unfold rng
  rw [if_pos ⟨h1, h2, h3, h4, h5⟩, irange_ints]
theorem rng_nat {n : Int} (h0 : 0 ≤ n) (h : n ≤ 16777216) : rng 0 n = .ok (nums (ir 0 n.toNat)) := by
  have := rng_ok (lo := 0) (hi := n) (by omega) (by omega) (by omega) (by omega) (by show (n - 0).toNat ≤ 2 ^ 24; omega)
  rwa [show n - 0 = n by omega] at this

/-! comprehensions -/
theorem comp_gen {bd : Bd} {tt : EvT} {te : Ev} {δ : DEnv} {α : Type} (en : α → D) (p : α → Bool) (f : α → D) : ∀ (xs : List α),
    (∀ x ∈ xs, ∃ δ', bd (en x) δ = some δ' ∧ tt δ' = .ok (p x) ∧ (p x = true → te δ' = .ok (f x))) → compD bd tt te δ (xs.map en) = .ok ((xs.filter p).map f)
  | [], _ => rfl
  | x :: xs, h => by
    obtain ⟨δ', e1, e2, e3⟩ := h x List.mem_cons_self
    have ih := comp_gen en p f xs fun y hy => h y (List.mem_cons_of_mem _ hy)
    rw [List.map_cons]
    unfold compD
    rw [e1, lft_some, ok_bind, e2, noX_ok, ok_bind]
    cases hp : p x with
    | true => rw [if_pos rfl, e3 hp, noX_ok, ok_bind, ih, ok_bind, List.filter_cons_of_pos hp, List.map_cons]
    | false => rw [if_neg (by simp), ih, List.filter_cons_of_neg (by simp [hp])]
/-- one name over whole numbers, whole numbers out -/
theorem comp_ints {i : Nat} {tt : EvT} {te : Ev} {δ : DEnv} (xs : List Int) (p : Int → Bool) (f : Int → Int)
    (h : ∀ x ∈ xs, tt (δ.set i (some (.val (.int x)))) = .ok (p x) ∧ (p x = true → te (δ.set i (some (.val (.int x)))) = .ok (.int (f x)))) :
    compD (bdN i) tt te δ (nums xs) = .ok (nums ((xs.filter p).map f)) := by
  unfold nums
  rw [comp_gen D.int p (fun x => .int (f x)) xs fun x hx => ⟨_, rfl, h x hx⟩]
  rw [List.map_map]; rfl
/-- without a test -/
theorem comp_map {i : Nat} {te : Ev} {δ : DEnv} (xs : List Int) (f : Int → Int)
    (h : ∀ x ∈ xs, te (δ.set i (some (.val (.int x)))) = .ok (.int (f x))) :
    compD (bdN i) tYesD te δ (nums xs) = .ok (nums (xs.map f)) := by
  rw [comp_ints xs (fun _ => true) f fun x hx => ⟨rfl, fun _ => h x hx⟩, List.filter_eq_self.mpr (fun _ _ => rfl)]
theorem comp_filter {i : Nat} {tt : EvT} {te : Ev} {δ : DEnv} (xs : List Int) (p : Int → Bool)
    (h : ∀ x ∈ xs, tt (δ.set i (some (.val (.int x)))) = .ok (p x) ∧ te (δ.set i (some (.val (.int x)))) = .ok (.int x)) :
    compD (bdN i) tt te δ (nums xs) = .ok (nums (xs.filter p)) := by
  rw [comp_ints xs p id fun x hx => ⟨(h x hx).1, fun _ => (h x hx).2⟩, List.map_id]

/-! loops -/
theorem forD_wp {bd : Bd} {body : Sv} (Q : M Fl → Prop) : ∀ (xs : List D) (I : Nat → DEnv → Prop) (δ : DEnv), I 0 δ →
    (∀ (i : Nat) (x : D) (δ : DEnv), xs[i]? = some x → I i δ → ∃ δ1, bd x δ = some δ1 ∧ (match body δ1 with
      | .ok (.nx δ2) => I (i + 1) δ2
      | .ok (.ct δ2) => I (i + 1) δ2
      | .ok (.bk δ2) => Q (.ok (.nx δ2))
      | .ok (.rt d) => Q (.ok (.rt d))
      | .ok (.rx d) => Q (.ok (.rx d))
      | .error e => Q (.error e))) →
    (∀ δ, I xs.length δ → Q (.ok (.nx δ))) → Q (forD bd body xs δ)
  | [], I, δ, h0, _, he => he δ h0
  | x :: xs, I, δ, h0, hs, he => by
    obtain ⟨δ1, e1, h⟩ := hs 0 x δ rfl h0
    unfold forD
    rw [e1, lft_some, ok_bind]
    have go : ∀ δ2, I 1 δ2 → Q (forD bd body xs δ2) := fun δ2 h2 =>
      forD_wp Q xs (fun i => I (i + 1)) δ2 h2 (fun i y δ hy hI => hs (i + 1) y δ hy hI) he
    cases hb : body δ1 with
    | error e => rw [hb] at h; exact h
    | ok r =>
      rw [hb] at h
      cases r with
      | nx δ2 => exact go δ2 h
      | ct δ2 => exact go δ2 h
      | bk δ2 => exact h
      | rt d => exact h
      | rx d => exact h
/-- a loop that goes through, over whole numbers -/
theorem forD_ints {i : Nat} {body : Sv} (xs : List Int) (I : List Int → DEnv → Prop) (δ : DEnv) (h0 : I [] δ)
    (hs : ∀ (p : List Int) (x : Int) (r : List Int) (δ : DEnv), xs = p ++ x :: r → I p δ → ∃ δ2, (body (δ.set i (some (.val (.int x)))) = .ok (.nx δ2) ∨ body (δ.set i (some (.val (.int x)))) = .ok (.ct δ2)) ∧ I (p ++ [x]) δ2) :
    ∃ δ', forD (bdN i) body (nums xs) δ = .ok (.nx δ') ∧ I xs δ' := by
  have key : ∀ (r p : List Int) (δ : DEnv), xs = p ++ r → I p δ → ∃ δ', forD (bdN i) body (nums r) δ = .ok (.nx δ') ∧ I xs δ' := by
    intro r
    induction r with
    | nil => intro p δ e h; rw [List.append_nil] at e; exact ⟨δ, rfl, e ▸ h⟩
    | cons x r ih =>
      intro p δ e h
      obtain ⟨δ2, hb, h2⟩ := hs p x r δ e h
      obtain ⟨δ', h3, h4⟩ := ih (p ++ [x]) δ2 (by rw [e, List.append_assoc]; rfl) h2
      refine ⟨δ', ?_, h4⟩
      show (lft (bdN i (.int x) δ) >>= _) = _
      rw [show bdN i (.int x) δ = some (δ.set i (some (.val (.int x)))) from rfl, lft_some, ok_bind]
      rcases hb with hb | hb <;> rw [hb] <;> exact h3
  exact key xs [] δ rfl h0
/-- a loop that looks for an item: returns at the first that p holds of, else goes through -/
theorem forD_find {i : Nat} {body : Sv} (xs : List Int) (p : Int → Bool) (d : Int → D) (I : DEnv → Prop) (δ : DEnv) (h0 : I δ)
    (hs : ∀ x ∈ xs, ∀ δ, I δ → if p x = true then body (δ.set i (some (.val (.int x)))) = .ok (.rt (d x)) else ∃ δ2, (body (δ.set i (some (.val (.int x)))) = .ok (.nx δ2) ∨ body (δ.set i (some (.val (.int x)))) = .ok (.ct δ2)) ∧ I δ2) :
    match xs.find? p with
    | some x => forD (bdN i) body (nums xs) δ = .ok (.rt (d x))
    | none => ∃ δ', forD (bdN i) body (nums xs) δ = .ok (.nx δ') ∧ I δ' := by
  induction xs generalizing δ with
  | nil => exact ⟨δ, rfl, h0⟩
  | cons x xs ih =>
    have h := hs x List.mem_cons_self δ h0
    have e : forD (bdN i) body (nums (x :: xs)) δ = (do
      let r ← body (δ.set i (some (.val (.int x))))
      match r with
      | .nx δ2 => forD (bdN i) body (nums xs) δ2
      | .ct δ2 => forD (bdN i) body (nums xs) δ2
      | .bk δ2 => .ok (.nx δ2)
      | .rt d => .ok (.rt d)
      | .rx d => .ok (.rx d)) := rfl
    cases hp : p x with
    | true =>
      rw [if_pos hp] at h
      rw [List.find?_cons_of_pos hp]
      show _ = _
      rw [e, h]; rfl
    | false =>
      rw [if_neg (by simp [hp])] at h
      rw [List.find?_cons_of_neg (by simp [hp])]
      obtain ⟨δ2, hb, h2⟩ := h
      have e2 : forD (bdN i) body (nums (x :: xs)) δ = forD (bdN i) body (nums xs) δ2 := by
        rw [e]; rcases hb with hb | hb <;> rw [hb] <;> rfl
      rw [e2]
      exact ih δ2 h2 fun y hy => hs y (List.mem_cons_of_mem _ hy)
/-! statements -/
theorem sSeq_nx {a b : Sv} {δ δ' : DEnv} (h : a δ = .ok (.nx δ')) : sSeq a b δ = b δ' := by unfold sSeq; rw [h]; rfl
theorem sSeq_rt {a b : Sv} {δ : DEnv} {d : D} (h : a δ = .ok (.rt d)) : sSeq a b δ = .ok (.rt d) := by unfold sSeq; rw [h]; rfl
theorem sSeq_bk {a b : Sv} {δ δ' : DEnv} (h : a δ = .ok (.bk δ')) : sSeq a b δ = .ok (.bk δ') := by unfold sSeq; rw [h]; rfl
theorem sSeq_ct {a b : Sv} {δ δ' : DEnv} (h : a δ = .ok (.ct δ')) : sSeq a b δ = .ok (.ct δ') := by unfold sSeq; rw [h]; rfl
theorem sSeq_er {a b : Sv} {δ : DEnv} {e : Er} (h : a δ = .error e) : sSeq a b δ = .error e := by unfold sSeq; rw [h]; rfl
theorem sIf_t {c : EvT} {a b : Sv} {δ : DEnv} (h : c δ = .ok true) : sIf c a b δ = a δ := by unfold sIf; rw [h]; rfl
theorem sIf_f {c : EvT} {a b : Sv} {δ : DEnv} (h : c δ = .ok false) : sIf c a b δ = b δ := by unfold sIf; rw [h]; rfl
theorem sSet_ok {i : Nat} {a : Ev} {δ : DEnv} {d : D} (h : a δ = .ok d) : sSet i a δ = .ok (.nx (δ.set i (some (.val d)))) := by unfold sSet; rw [h]; rfl
theorem runB_rt {sv : Sv} {δ : DEnv} {d : D} (h : sv δ = .ok (.rt d)) : runB sv δ = .ok d := by unfold runB; rw [h]
theorem runB_nx {sv : Sv} {δ δ' : DEnv} (h : sv δ = .ok (.nx δ')) : runB sv δ = .ok .non := by unfold runB; rw [h]
end DL

namespace DL
open PySem PySem.Spec PyProof.Rows L2
theorem mulOk_r {i j : Int} (h : -(2 ^ 64) < j ∧ j < 2 ^ 64) : mulOk i j = true := by unfold mulOk; rw [decide_eq_true h, Bool.or_true, Bool.true_or]
theorem mulOk_l {i j : Int} (h : -(2 ^ 64) < i ∧ i < 2 ^ 64) : mulOk i j = true := by unfold mulOk; rw [decide_eq_true h, Bool.true_or, Bool.true_or]
/-! ### evaluation by rewriting -/
def seqK (r : M Fl) (b : Sv) : M Fl := r >>= fun r => match r with
  | .nx δ' => b δ'
  | r => .ok r
@[simp] theorem seqK_nx (δ : DEnv) (b : Sv) : seqK (.ok (.nx δ)) b = b δ := id rfl
@[simp] theorem seqK_rt (d : D) (b : Sv) : seqK (.ok (.rt d)) b = .ok (.rt d) := id rfl
@[simp] theorem seqK_bk (δ : DEnv) (b : Sv) : seqK (.ok (.bk δ)) b = .ok (.bk δ) := id rfl
@[simp] theorem seqK_ct (δ : DEnv) (b : Sv) : seqK (.ok (.ct δ)) b = .ok (.ct δ) := id rfl
@[simp] theorem seqK_rx (d : D) (b : Sv) : seqK (.ok (.rx d)) b = .ok (.rx d) := id rfl
@[simp] theorem seqK_er (e : Er) (b : Sv) : seqK (.error e) b = .error e := id rfl
@[simp] theorem ev_sSeq (a b : Sv) (δ : DEnv) : sSeq a b δ = seqK (a δ) b := by
  unfold sSeq seqK
  cases a δ with
  | error e => rfl
  | ok r => cases r <;> rfl
def ifK (c : M Bool) (a b : Sv) (δ : DEnv) : M Fl := c >>= fun k => if k then a δ else b δ
@[simp] theorem ifK_t (a b : Sv) (δ : DEnv) : ifK (.ok true) a b δ = a δ := id rfl
@[simp] theorem ifK_f (a b : Sv) (δ : DEnv) : ifK (.ok false) a b δ = b δ := id rfl
@[simp] theorem ifK_e (e : Er) (a b : Sv) (δ : DEnv) : ifK (.error e) a b δ = .error e := id rfl
@[simp] theorem ev_sIf (c : EvT) (a b : Sv) (δ : DEnv) : sIf c a b δ = ifK (c δ) a b δ := id rfl
@[simp] theorem ev_sNil (δ : DEnv) : sNil δ = .ok (.nx δ) := id rfl
@[simp] theorem ev_sBrk (δ : DEnv) : sBrk δ = .ok (.bk δ) := id rfl
@[simp] theorem ev_sCnt (δ : DEnv) : sCnt δ = .ok (.ct δ) := id rfl
@[simp] theorem ev_sRetN (δ : DEnv) : sRetN δ = .ok (.rt .non) := id rfl
def setK (i : Nat) (δ : DEnv) (m : M D) : M Fl := m >>= fun d => .ok (.nx (δ.set i (some (.val d))))
@[simp] theorem setK_ok (i : Nat) (δ : DEnv) (d : D) : setK i δ (.ok d) = .ok (.nx (δ.set i (some (.val d)))) := id rfl
@[simp] theorem setK_er (i : Nat) (δ : DEnv) (e : Er) : setK i δ (.error e) = .error e := id rfl
@[simp] theorem ev_sSet (i : Nat) (a : Ev) (δ : DEnv) : sSet i a δ = setK i δ (a δ) := id rfl
def setFK (i : Nat) (δ : DEnv) (m : M (List D)) : M Fl := m >>= fun d => .ok (.nx (δ.set i (some (.val (.lst d)))))
@[simp] theorem setFK_ok (i : Nat) (δ : DEnv) (d : List D) : setFK i δ (.ok d) = .ok (.nx (δ.set i (some (.val (.lst d))))) := id rfl
@[simp] theorem setFK_er (i : Nat) (δ : DEnv) (e : Er) : setFK i δ (.error e) = .error e := id rfl
@[simp] theorem ev_sSetF (i : Nat) (a : EvA) (δ : DEnv) : sSetF i a δ = setFK i δ (a δ) := id rfl
def ownK (i : Nat) (δ : DEnv) (m : M (List D)) : M Fl := m >>= fun d => .ok (.nx (δ.set i (some (.own d))))
@[simp] theorem ownK_ok (i : Nat) (δ : DEnv) (d : List D) : ownK i δ (.ok d) = .ok (.nx (δ.set i (some (.own d)))) := id rfl
@[simp] theorem ownK_er (i : Nat) (δ : DEnv) (e : Er) : ownK i δ (.error e) = .error e := id rfl
@[simp] theorem ev_sOwn (i : Nat) (a : EvA) (δ : DEnv) : sOwn i a δ = ownK i δ (a δ) := id rfl
def retK (m : M D) : M Fl := m >>= fun d => .ok (.rt d)
@[simp] theorem retK_ok (d : D) : retK (.ok d) = .ok (.rt d) := id rfl
@[simp] theorem retK_er (e : Er) : retK (.error e) = .error e := id rfl
@[simp] theorem ev_sRet (a : Ev) (δ : DEnv) : sRet a δ = retK (a δ) := id rfl
def exK (δ : DEnv) (m : M D) : M Fl := m >>= fun _ => .ok (.nx δ)
@[simp] theorem exK_ok (δ : DEnv) (d : D) : exK δ (.ok d) = .ok (.nx δ) := id rfl
@[simp] theorem exK_er (δ : DEnv) (e : Er) : exK δ (.error e) = .error e := id rfl
@[simp] theorem ev_sExpr (a : Ev) (δ : DEnv) : sExpr a δ = exK δ (a δ) := id rfl
def b2 (op : D → D → Option D) (x y : M D) : M D := x >>= fun x => y >>= fun y => lft (op x y)
@[simp] theorem b2_ok (op : D → D → Option D) (x y : D) : b2 op (.ok x) (.ok y) = lft (op x y) := id rfl
@[simp] theorem b2_er (op : D → D → Option D) (e : Er) (y : M D) : b2 op (.error e) y = .error e := id rfl
@[simp] theorem b2_er2 (op : D → D → Option D) (e : Er) (x : D) : b2 op (.ok x) (.error e) = .error e := id rfl
@[simp] theorem ev_e2 (op : D → D → Option D) (a b : Ev) (δ : DEnv) : e2 op a b δ = b2 op (a δ) (b δ) := id rfl
def b1 (op : D → Option D) (x : M D) : M D := x >>= fun x => lft (op x)
@[simp] theorem b1_ok (op : D → Option D) (x : D) : b1 op (.ok x) = lft (op x) := id rfl
@[simp] theorem b1_er (op : D → Option D) (e : Er) : b1 op (.error e) = .error e := id rfl
@[simp] theorem ev_e1 (op : D → Option D) (a : Ev) (δ : DEnv) : e1 op a δ = b1 op (a δ) := id rfl
def tK (x : M D) : M Bool := x >>= asB
@[simp] theorem tK_bl (b : Bool) : tK (.ok (.bl b)) = .ok b := id rfl
@[simp] theorem tK_er (e : Er) : tK (.error e) = .error e := id rfl
@[simp] theorem ev_eT (a : Ev) (δ : DEnv) : eT a δ = tK (a δ) := id rfl
def andK (x : M Bool) (b : EvT) (δ : DEnv) : M Bool := x >>= fun x => if x then b δ else .ok false
@[simp] theorem andK_t (b : EvT) (δ : DEnv) : andK (.ok true) b δ = b δ := id rfl
@[simp] theorem andK_f (b : EvT) (δ : DEnv) : andK (.ok false) b δ = .ok false := id rfl
@[simp] theorem andK_e (e : Er) (b : EvT) (δ : DEnv) : andK (.error e) b δ = .error e := id rfl
@[simp] theorem ev_tAnd (a b : EvT) (δ : DEnv) : tAndD a b δ = andK (a δ) b δ := id rfl
def orK (x : M Bool) (b : EvT) (δ : DEnv) : M Bool := x >>= fun x => if x then .ok true else b δ
@[simp] theorem orK_t (b : EvT) (δ : DEnv) : orK (.ok true) b δ = .ok true := id rfl
@[simp] theorem orK_f (b : EvT) (δ : DEnv) : orK (.ok false) b δ = b δ := id rfl
@[simp] theorem orK_e (e : Er) (b : EvT) (δ : DEnv) : orK (.error e) b δ = .error e := id rfl
@[simp] theorem ev_tOr (a b : EvT) (δ : DEnv) : tOrD a b δ = orK (a δ) b δ := id rfl
/-- both sides known -/
theorem andK_ok {a b : Bool} {f : EvT} {δ : DEnv} (h : f δ = .ok b) : andK (.ok a) f δ = .ok (a && b) := by cases a <;> simp [h]
theorem orK_ok {a b : Bool} {f : EvT} {δ : DEnv} (h : f δ = .ok b) : orK (.ok a) f δ = .ok (a || b) := by cases a <;> simp [h]
def notK (x : M Bool) : M Bool := x >>= fun x => .ok (!x)
@[simp] theorem notK_ok (b : Bool) : notK (.ok b) = .ok (!b) := id rfl
@[simp] theorem notK_er (e : Er) : notK (.error e) = .error e := id rfl
@[simp] theorem ev_tNot (a : EvT) (δ : DEnv) : tNotD a δ = notK (a δ) := id rfl
def varK : Option (Option Cell) → M D
  | some (some (.val d)) => .ok d
  | _ => stk
@[simp] theorem varK_val (d : D) : varK (some (some (.val d))) = .ok d := id rfl
@[simp] theorem ev_eVar (i : Nat) (δ : DEnv) : eVar i δ = varK δ[i]? := id rfl
def varBK : Option (Option Cell) → M D
  | some (some (.val d)) => .ok d
  | some (some (.own ds)) => .ok (.lst ds)
  | _ => stk
@[simp] theorem varBK_val (d : D) : varBK (some (some (.val d))) = .ok d := id rfl
@[simp] theorem varBK_own (ds : List D) : varBK (some (some (.own ds))) = .ok (.lst ds) := id rfl
@[simp] theorem ev_eVarB (i : Nat) (δ : DEnv) : eVarB i δ = varBK δ[i]? := id rfl
@[simp] theorem ev_eC (d : D) (δ : DEnv) : eC d δ = .ok d := id rfl
@[simp] theorem ev_eNil (δ : DEnv) : eNil δ = .ok [] := id rfl
def consK (x : M D) (r : M (List D)) : M (List D) := x >>= fun x => r >>= fun xs => .ok (x :: xs)
@[simp] theorem consK_ok (x : D) (r : List D) : consK (.ok x) (.ok r) = .ok (x :: r) := id rfl
@[simp] theorem consK_er (e : Er) (r : M (List D)) : consK (.error e) r = .error e := id rfl
@[simp] theorem consK_er2 (x : D) (e : Er) : consK (.ok x) (.error e) = .error e := id rfl
@[simp] theorem ev_eCons (a : Ev) (r : EvA) (δ : DEnv) : eCons a r δ = consK (a δ) (r δ) := id rfl
def tupK (r : M (List D)) : M D := r >>= fun xs => if xs.length ≤ sizeLine then .ok (.tup xs) else stk
theorem tupK_ok {xs : List D} (h : xs.length ≤ 16777216) : tupK (.ok xs) = .ok (.tup xs) := by show (if _ then _ else _) = _; exact if_pos h
@[simp] theorem tupK_er (e : Er) : tupK (.error e) = .error e := id rfl
@[simp] theorem ev_eTup (r : EvA) (δ : DEnv) : eTup r δ = tupK (r δ) := id rfl
def lstK (r : M (List D)) : M D := r >>= fun xs => if xs.length ≤ sizeLine then .ok (.lst xs) else stk
theorem lstK_ok {xs : List D} (h : xs.length ≤ 16777216) : lstK (.ok xs) = .ok (.lst xs) := by show (if _ then _ else _) = _; exact if_pos h
@[simp] theorem lstK_er (e : Er) : lstK (.error e) = .error e := id rfl
@[simp] theorem ev_eLst (r : EvA) (δ : DEnv) : eLst r δ = lstK (r δ) := id rfl
def flstK (r : M (List D)) : M (List D) := r >>= fun xs => if xs.length ≤ sizeLine then .ok xs else stk
theorem flstK_ok {xs : List D} (h : xs.length ≤ 16777216) : flstK (.ok xs) = .ok xs := by show (if _ then _ else _) = _; exact if_pos h
@[simp] theorem flstK_nil : flstK (.ok []) = .ok [] := flstK_ok (by simp)
@[simp] theorem lstK_nil : lstK (.ok []) = .ok (.lst []) := lstK_ok (by simp)
@[simp] theorem tupK_nil : tupK (.ok []) = .ok (.tup []) := tupK_ok (by simp)
@[simp] theorem flstK_er (e : Er) : flstK (.error e) = .error e := id rfl
@[simp] theorem ev_fLst (r : EvA) (δ : DEnv) : fLst r δ = flstK (r δ) := id rfl
def ofK (r : M (List D)) : M D := r >>= fun ds => .ok (.lst ds)
@[simp] theorem ofK_ok (ds : List D) : ofK (.ok ds) = .ok (.lst ds) := id rfl
@[simp] theorem ofK_er (e : Er) : ofK (.error e) = .error e := id rfl
@[simp] theorem ev_eOf (r : EvA) (δ : DEnv) : eOf r δ = ofK (r δ) := id rfl
def callK (n : Nat) (m : Mir) (r : M (List D)) : M D := r >>= fun ds => if ds.length = n then m ds else stk
theorem callK_ok {n : Nat} {m : Mir} {ds : List D} (h : ds.length = n) : callK n m (.ok ds) = m ds := by show (if _ then _ else _) = _; exact if_pos h
@[simp] theorem callK_1 (m : Mir) (a : D) : callK 1 m (.ok [a]) = m [a] := id rfl
@[simp] theorem callK_2 (m : Mir) (a b : D) : callK 2 m (.ok [a, b]) = m [a, b] := id rfl
@[simp] theorem callK_3 (m : Mir) (a b c : D) : callK 3 m (.ok [a, b, c]) = m [a, b, c] := id rfl
@[simp] theorem callK_4 (m : Mir) (a b c d : D) : callK 4 m (.ok [a, b, c, d]) = m [a, b, c, d] := id rfl
@[simp] theorem callK_5 (m : Mir) (a b c d e : D) : callK 5 m (.ok [a, b, c, d, e]) = m [a, b, c, d, e] := id rfl
@[simp] theorem callK_6 (m : Mir) (a b c d e f : D) : callK 6 m (.ok [a, b, c, d, e, f]) = m [a, b, c, d, e, f] := id rfl
@[simp] theorem callK_er (n : Nat) (m : Mir) (e : Er) : callK n m (.error e) = .error e := id rfl
@[simp] theorem ev_eCall (n : Nat) (m : Mir) (as : EvA) (δ : DEnv) : eCall n m as δ = callK n m (as δ) := id rfl
def appK (i : Nat) (δ : DEnv) (o : Option (List D)) (x : M D) : M Fl := lft o >>= fun ds => x >>= fun d => if ds.length < sizeLine then .ok (.nx (δ.set i (some (.own (ds ++ [d]))))) else stk
theorem appK_ok {i : Nat} {δ : DEnv} {ds : List D} {d : D} (h : ds.length < 16777216) : appK i δ (some ds) (.ok d) = .ok (.nx (δ.set i (some (.own (ds ++ [d]))))) := by show (if _ then _ else _) = _; exact if_pos h
@[simp] theorem appK_er (i : Nat) (δ : DEnv) (ds : List D) (e : Er) : appK i δ (some ds) (.error e) = .error e := id rfl
@[simp] theorem ev_sApp (i : Nat) (a : Ev) (δ : DEnv) : sApp i a δ = appK i δ (ownAt i δ) (a δ) := id rfl
def ownAtK : Option (Option Cell) → Option (List D)
  | some (some (.own ds)) => some ds
  | _ => none
@[simp] theorem ownAtK_own (ds : List D) : ownAtK (some (some (.own ds))) = some ds := id rfl
@[simp] theorem ev_ownAt (i : Nat) (δ : DEnv) : ownAt i δ = ownAtK δ[i]? := by unfold ownAt ownAtK; rfl
def frzK (i : Nat) (δ : DEnv) : Option (Option Cell) → DEnv
  | some (some (.own ds)) => δ.set i (some (.val (.lst ds)))
  | _ => δ
@[simp] theorem frzK_own (i : Nat) (δ : DEnv) (ds : List D) : frzK i δ (some (some (.own ds))) = δ.set i (some (.val (.lst ds))) := id rfl
@[simp] theorem frzK_val (i : Nat) (δ : DEnv) (d : D) : frzK i δ (some (some (.val d))) = δ := id rfl
@[simp] theorem frzK_non (i : Nat) (δ : DEnv) : frzK i δ (some none) = δ := id rfl
@[simp] theorem ev_frz (i : Nat) (δ : DEnv) : frz i δ = frzK i δ δ[i]? := by unfold frz frzK; rfl
@[simp] theorem ev_sFrz (i : Nat) (s : Sv) (δ : DEnv) : sFrz i s δ = s (frz i δ) := id rfl
def thenFrzK (i : Nat) (r : M Fl) : M Fl := r >>= fun r => match r with
  | .nx δ' => .ok (.nx (frz i δ'))
  | r => .ok r
@[simp] theorem thenFrzK_nx (i : Nat) (δ : DEnv) : thenFrzK i (.ok (.nx δ)) = .ok (.nx (frz i δ)) := id rfl
@[simp] theorem thenFrzK_rt (i : Nat) (d : D) : thenFrzK i (.ok (.rt d)) = .ok (.rt d) := id rfl
@[simp] theorem thenFrzK_er (i : Nat) (e : Er) : thenFrzK i (.error e) = .error e := id rfl
@[simp] theorem ev_thenFrz (i : Nat) (s : Sv) (δ : DEnv) : sThenFrz i s δ = thenFrzK i (s δ) := by
  unfold sThenFrz thenFrzK
  cases s δ with
  | error e => rfl
  | ok r => cases r <;> rfl
def forK (bd : Bd) (body : Sv) (r : M (List D)) (δ : DEnv) : M Fl := r >>= fun xs => forD bd body xs δ
@[simp] theorem forK_ok (bd : Bd) (body : Sv) (xs : List D) (δ : DEnv) : forK bd body (.ok xs) δ = forD bd body xs δ := id rfl
@[simp] theorem ev_sFor (it : EvA) (bd : Bd) (body : Sv) (δ : DEnv) : sFor it bd body δ = forK bd body (it δ) δ := id rfl
def compK (bd : Bd) (tt : EvT) (te : Ev) (δ : DEnv) (r : M (List D)) : M (List D) := r >>= fun xs => noX (compD bd tt te δ xs)
@[simp] theorem compK_ok (bd : Bd) (tt : EvT) (te : Ev) (δ : DEnv) (xs : List D) : compK bd tt te δ (.ok xs) = noX (compD bd tt te δ xs) := id rfl
@[simp] theorem ev_fComp (it : EvA) (vs : List Nat) (bd : Bd) (tt : EvT) (te : Ev) (δ : DEnv) : fComp it vs bd tt te δ = compK bd tt te (wipeD δ vs) (it δ) := id rfl
@[simp] theorem wipeD_nil (δ : DEnv) : wipeD δ [] = δ := id rfl
@[simp] theorem wipeD_cons (δ : DEnv) (v : Nat) (vs : List Nat) : wipeD δ (v :: vs) = (wipeD δ vs).set v none := id rfl
def iterK (x : M D) : M (List D) := x >>= asL
@[simp] theorem iterK_lst (ds : List D) : iterK (.ok (.lst ds)) = .ok ds := id rfl
@[simp] theorem iterK_tup (ds : List D) : iterK (.ok (.tup ds)) = .ok ds := id rfl
@[simp] theorem iterK_scr (ds : List Int) : iterK (.ok (.scr ds)) = .ok (nums ds) := id rfl
@[simp] theorem iterK_er (e : Er) : iterK (.error e) = .error e := id rfl
@[simp] theorem ev_eIter (a : Ev) (δ : DEnv) : eIter a δ = iterK (a δ) := id rfl
def rng1K (x : M D) : M (List D) := x >>= fun x => match x with
  | .int n => rng 0 n
  | _ => stk
@[simp] theorem rng1K_int (n : Int) : rng1K (.ok (.int n)) = rng 0 n := id rfl
@[simp] theorem rng1K_er (e : Er) : rng1K (.error e) = .error e := id rfl
@[simp] theorem ev_eRng1 (a : Ev) (δ : DEnv) : eRng1 a δ = rng1K (a δ) := id rfl
def rng2K (x y : M D) : M (List D) := x >>= fun x => y >>= fun y => match x, y with
  | .int m, .int n => rng m n
  | _, _ => stk
@[simp] theorem rng2K_int (m n : Int) : rng2K (.ok (.int m)) (.ok (.int n)) = rng m n := id rfl
@[simp] theorem ev_eRng2 (a b : Ev) (δ : DEnv) : eRng2 a b δ = rng2K (a δ) (b δ) := id rfl
@[simp] theorem ev_tYes (δ : DEnv) : tYesD δ = .ok true := id rfl
def listK (x : M D) : M (List D) := x >>= asL
@[simp] theorem listK_lst (ds : List D) : listK (.ok (.lst ds)) = .ok ds := id rfl
@[simp] theorem listK_tup (ds : List D) : listK (.ok (.tup ds)) = .ok ds := id rfl
@[simp] theorem listK_scr (ds : List Int) : listK (.ok (.scr ds)) = .ok (nums ds) := id rfl
@[simp] theorem ev_fList (a : Ev) (δ : DEnv) : fList a δ = listK (a δ) := id rfl
def runK (m : M Fl) : M D := match m with
  | .ok (.nx _) => .ok .non
  | .ok (.rt d) => .ok d
  | .ok _ => stk
  | .error e => .error e
@[simp] theorem runK_nx (δ : DEnv) : runK (.ok (.nx δ)) = .ok .non := id rfl
@[simp] theorem runK_rt (d : D) : runK (.ok (.rt d)) = .ok d := id rfl
@[simp] theorem runK_er (e : Er) : runK (.error e) = .error e := id rfl
@[simp] theorem ev_runB (sv : Sv) (δ : DEnv) : runB sv δ = runK (sv δ) := id rfl
theorem mirD_ok {n p : Nat} {sv : Sv} {ds : List D} (h : ds.length = p) : mirD n p sv ds = runK (sv (startD n ds)) := by unfold mirD; rw [if_pos h]; rfl
@[simp] theorem mirD_0 (n : Nat) (sv : Sv) : mirD n 0 sv [] = runK (sv (startD n [])) := id rfl
theorem mirD_1 (n : Nat) (sv : Sv) (a : D) : mirD n 1 sv [a] = runK (sv (startD n [a])) := id rfl
theorem mirD_2 (n : Nat) (sv : Sv) (a b : D) : mirD n 2 sv [a, b] = runK (sv (startD n [a, b])) := id rfl
theorem mirD_3 (n : Nat) (sv : Sv) (a b c : D) : mirD n 3 sv [a, b, c] = runK (sv (startD n [a, b, c])) := id rfl
theorem mirD_4 (n : Nat) (sv : Sv) (a b c d : D) : mirD n 4 sv [a, b, c, d] = runK (sv (startD n [a, b, c, d])) := id rfl
theorem mirD_5 (n : Nat) (sv : Sv) (a b c d e : D) : mirD n 5 sv [a, b, c, d, e] = runK (sv (startD n [a, b, c, d, e])) := id rfl
theorem mirD_6 (n : Nat) (sv : Sv) (a b c d e f : D) : mirD n 6 sv [a, b, c, d, e, f] = runK (sv (startD n [a, b, c, d, e, f])) := id rfl
theorem mirD_7 (n : Nat) (sv : Sv) (a b c d e f g : D) : mirD n 7 sv [a, b, c, d, e, f, g] = runK (sv (startD n [a, b, c, d, e, f, g])) := id rfl
theorem mirD_8 (n : Nat) (sv : Sv) (a b c d e f g h : D) : mirD n 8 sv [a, b, c, d, e, f, g, h] = runK (sv (startD n [a, b, c, d, e, f, g, h])) := id rfl
theorem oMul_ok {i j : Int} (h : mulOk i j = true) : oMul (.int i) (.int j) = some (.int (i * j)) := by show (if mulOk i j then _ else _) = _; rw [if_pos h]
theorem oDiv_ok {i j : Int} (h : divOk j = true) : oDiv (.int i) (.int j) = some (.int (i / j)) := by show (if divOk j then _ else _) = _; rw [if_pos h]
theorem divOk_lit {j : Int} (h0 : 0 < j) (h : j < 2 ^ 64) : divOk j = true := by
  unfold divOk
  have : j.natAbs.log2 < 9000 := by
    have h1 : j.natAbs ≠ 0 := by omega
    have h2 : j.natAbs < 2 ^ 64 := by omega
    have := (Nat.log2_lt h1).mpr h2
    omega
  simp [h0, this]
theorem oPow_ok {i j : Int} (h : 0 ≤ j ∧ j ≤ 1000000 ∧ i.natAbs < 2 ^ 64) : oPow (.int i) (.int j) = some (.int (i ^ j.toNat)) := by show (if 0 ≤ j ∧ j ≤ 1000000 ∧ i.natAbs < 2 ^ 64 then _ else _) = _; rw [if_pos h]
theorem pow1018 : oPow (.int 10) (.int 18) = some (.int 1000000000000000000) := by
  rw [oPow_ok ⟨by decide, by decide, by decide⟩]; rfl
theorem set_at {δ : DEnv} {i : Nat} {c : Option Cell} (h : δ[i]? = some c) : δ.set i c = δ := by
  apply List.ext_getElem?
  intro j
  by_cases hj : i = j
  · subst hj
    by_cases hl : i < δ.length
    · rw [List.getElem?_set_self hl, h]
    · rw [List.getElem?_eq_none (by omega)] at h; cases h
  · rw [List.getElem?_set_ne hj]
theorem pow1040 : oPow (.int 10) (.int 40) = some (.int 10000000000000000000000000000000000000000) := by
  rw [oPow_ok ⟨by decide, by decide, by decide⟩]; rfl
theorem mul48271 (i : Int) : oMul (.int i) (.int 48271) = some (.int (i * 48271)) := oMul_ok (mulOk_r ⟨by decide, by decide⟩)
theorem mul69621 (i : Int) : oMul (.int i) (.int 69621) = some (.int (i * 69621)) := oMul_ok (mulOk_r ⟨by decide, by decide⟩)
theorem rng_nat' {n : Nat} (h : n ≤ 16777216) : rng 0 (n : Int) = .ok (nums (ir 0 n)) := by
  have := rng_nat (n := (n : Int)) (by omega) (by omega)
  simpa using this

/-! ### _law_row -/
def rowB : Sv :=
    (sSeq (sSet 4 (eC (.int 0)))
    (sSeq (sIf (eT (e2 oLt (eVar 1) (e1 oLen (eVar 0)))) (sSet 4 (e1 oAbs (e2 oIx (eVar 0) (eVar 1)))) sNil)
    (sSeq (sSet 5 (e2 oGe (eVar 4) (e2 oPow (eC (.int 10)) (eC (.int 18)))))
    (sSeq (sSet 6 (e2 oMod (e1 oInt (e2 oAdd (e2 oAdd (e2 oMul (eVar 4) (eC (.int 48271))) (e2 oMul (eVar 1) (eC (.int 69621)))) (eC (.int 7)))) (eC (.int 2147483647))))
    (sSeq (sOwn 7 (fLst eNil))
    (sSeq (sFor (eRng1 (eVar 2)) (bdN 8) (sIf (tAndD (eT (eVar 5)) (eT (e2 oGt (eVar 4) (eC (.int 0))))) (sSeq (sApp 7 (e2 oMod (e1 oInt (eVar 4)) (eVar 3)))
    (sSet 4 (e2 oDiv (eVar 4) (eVar 3)))) (sSeq (sSet 6 (e2 oMod (e1 oInt (e2 oAdd (e2 oMul (eVar 6) (eC (.int 48271))) (eC (.int 11)))) (eC (.int 2147483647))))
    (sSeq (sSet 9 (e2 oMod (e1 oInt (e2 oAdd (e2 oMul (eVar 6) (eC (.int 69621))) (eVar 8))) (eC (.int 2147483629))))
    (sApp 7 (e2 oMod (e1 oInt (e2 oDiv (eVar 9) (eC (.int 7)))) (eVar 3)))))))
    (sFrz 7 (sRet (eVar 7)))))))))
/-- numbers of a row -/
def RowOk (limit : Int) (n : Nat) (r : List Int) : Prop := r.length = n ∧ ∀ x ∈ r, 0 ≤ x ∧ x < limit
theorem row_ok (ns : List Int) (a limit : Int) (n : Nat) (ha : 0 ≤ a) (h1 : 0 < limit) (h2 : limit < 2 ^ 64) (hn : n ≤ 16777216) :
    ∃ r, mirD 10 4 rowB [.scr ns, .int a, .int n, .int limit] = .ok (.lst (nums r)) ∧ RowOk limit n r := by
  obtain ⟨cell, hc⟩ : ∃ cell : Int, cell = (if a < ns.length then (let c := at_ ns a; if c < 0 then -c else c) else 0) := ⟨_, rfl⟩
  have e1' : ∀ δ : DEnv, δ = [some (.val (.scr ns)), some (.val (.int a)), some (.val (.int n)), some (.val (.int limit)), some (.val (.int 0)), none, none, none, none, none] →
      sIf (eT (e2 oLt (eVar 1) (e1 oLen (eVar 0)))) (sSet 4 (e1 oAbs (e2 oIx (eVar 0) (eVar 1)))) sNil δ = .ok (.nx (δ.set 4 (some (.val (.int cell))))) := by
    intro δ e
    subst e
    by_cases h : a < ns.length
    · rw [if_pos h] at hc
      rw [sIf_t (by simp [eT, e2, e1, eVar, h])]
      have := atI_int ns a ha h
      simp [sSet, e1, e2, eVar, this, hc, at_, List.getD_eq_getElem?_getD, List.getElem?_eq_getElem (show a.toNat < ns.length by omega)]
    · rw [if_neg h] at hc
      rw [sIf_f (by simp [eT, e2, e1, eVar, h])]
      simp [sNil, hc]
  generalize hdg : decide ((1000000000000000000 : Int) ≤ cell) = dg
  obtain ⟨δ', hf, cell', first', row', o8, o9, rfl, hr⟩ := forD_ints (i := 8) (body := (sIf (tAndD (eT (eVar 5)) (eT (e2 oGt (eVar 4) (eC (.int 0))))) (sSeq (sApp 7 (e2 oMod (e1 oInt (eVar 4)) (eVar 3)))
    (sSet 4 (e2 oDiv (eVar 4) (eVar 3)))) (sSeq (sSet 6 (e2 oMod (e1 oInt (e2 oAdd (e2 oMul (eVar 6) (eC (.int 48271))) (eC (.int 11)))) (eC (.int 2147483647))))
    (sSeq (sSet 9 (e2 oMod (e1 oInt (e2 oAdd (e2 oMul (eVar 6) (eC (.int 69621))) (eVar 8))) (eC (.int 2147483629))))
    (sApp 7 (e2 oMod (e1 oInt (e2 oDiv (eVar 9) (eC (.int 7)))) (eVar 3))))))) (ir 0 n)
    (fun p δ => ∃ (cell first : Int) (row : List Int) (o8 o9 : Option Cell), δ = [some (.val (.scr ns)), some (.val (.int a)), some (.val (.int n)), some (.val (.int limit)), some (.val (.int cell)), some (.val (.bl dg)), some (.val (.int first)), some (.own (nums row)), o8, o9] ∧ RowOk limit p.length row)
    [some (.val (.scr ns)), some (.val (.int a)), some (.val (.int n)), some (.val (.int limit)), some (.val (.int cell)), some (.val (.bl dg)), some (.val (.int ((cell * 48271 + a * 69621 + 7) % 2147483647))), some (.own []), none, none]
    ⟨cell, _, [], none, none, rfl, rfl, by simp⟩ (fun p x r δ e ⟨cell, first, row, o8, o9, hδ, hr⟩ => by
      have hlen : (nums row).length < 16777216 := by
        have := congrArg List.length e
        rw [ir_length, List.length_append, List.length_cons] at this
        rw [nums_length, hr.1]
        omega
      have grow : ∀ y : Int, 0 ≤ y → y < limit → RowOk limit (p ++ [x]).length (row ++ [y]) := fun y h0 hy => by
        refine ⟨by rw [List.length_append, List.length_append, hr.1]; rfl, fun z hz => ?_⟩
        rcases List.mem_append.mp hz with hz | hz
        · exact hr.2 z hz
        · rw [List.mem_singleton.mp hz]; exact ⟨h0, hy⟩
      have md := fun z : Int => grow (z % limit) (Int.emod_nonneg _ (by omega)) (Int.emod_lt_of_pos _ h1)
      subst hδ
      by_cases hb : dg = true ∧ 0 < cell
      · refine ⟨_, .inl ?_, cell / limit, first, row ++ [cell % limit], some (.val (.int x)), o9, rfl, md _⟩
        simp [hb, h1, appK_ok hlen, oDiv_ok (divOk_lit h1 h2)]
      · have hc : andK (Except.ok dg) (eT (e2 oGt (eVar 4) (eC (.int 0)))) [some (.val (.scr ns)), some (.val (.int a)), some (.val (.int n)), some (.val (.int limit)), some (.val (.int cell)), some (.val (.bl dg)), some (.val (.int first)), some (.own (nums row)), some (.val (.int x)), o9] = .ok false := by
          cases dg with
          | false => rfl
          | true => simp; simpa using hb
        refine ⟨_, .inl ?_, cell, (first * 48271 + 11) % 2147483647, row ++ [((((first * 48271 + 11) % 2147483647) * 69621 + x) % 2147483629 / 7) % limit], some (.val (.int x)), some (.val (.int ((((first * 48271 + 11) % 2147483647) * 69621 + x) % 2147483629))), rfl, md _⟩
        simp [hc, h1, appK_ok hlen, mul48271, mul69621, oDiv_ok (divOk_lit (show (0 : Int) < 7 by omega) (by omega))])
  refine ⟨row', ?_, by simpa using hr⟩
  have e1 := e1' _ rfl
  rw [mirD_4]
  unfold rowB
  have : startD 10 [D.scr ns, D.int a, D.int ↑n, D.int limit] = [some (.val (.scr ns)), some (.val (.int a)), some (.val (.int n)), some (.val (.int limit)), none, none, none, none, none, none] := rfl
  rw [this]
  simp only [ev_sSeq, seqK_nx, e1, mul48271, mul69621, pow1018, ev_sSet, ev_eC, setK_ok, List.set_cons_succ, List.set_cons_zero, ev_e2, ev_eVar, List.getElem?_cons_succ, List.getElem?_cons_zero, varK_val, b2_ok, lft_some, oGe_int, hdg]
  simp [mul48271, mul69621, rng_nat' hn, hf]
end DL

namespace DL
open PySem PySem.Spec PyProof.Rows L2
/-! ### likings -/
/-- how many different ones are less -/
def level (xs : List Int) (x : Int) : Int := ((ssetI xs).filter fun y => decide (y < x)).length
theorem idx_asc {x : Int} : ∀ {l : List Int}, l.Pairwise (· < ·) → x ∈ l → idxD (.int x) (nums l) = some (l.filter fun y => decide (y < x)).length
  | [], _, h => by cases h
  | y :: ys, hp, h => by
    obtain ⟨h1, h2⟩ := List.pairwise_cons.mp hp
    show (if D.int y = .int x then some 0 else (idxD (.int x) (nums ys)).map (· + 1)) = _
    by_cases e : y = x
    · subst e
      rw [if_pos rfl, List.filter_cons_of_neg (by simp), List.filter_eq_nil_iff.mpr (fun z hz => by have := h1 z hz; simp; omega)]
      rfl
    · have hx : x ∈ ys := by
        rcases List.mem_cons.mp h with h | h
        · exact absurd h.symm e
        · exact h
      rw [if_neg (by intro z; cases z; exact e rfl), idx_asc h2 hx, List.filter_cons_of_pos (by simpa using h1 x hx)]
      rfl
def likB : Sv :=
    (sSeq (sSet 1 (eOf (fSortedSet (eVar 0))))
    (sRet (e1 oTuple (eOf (fComp (eIter (eVar 0)) [2] (bdN 2) tYesD (eIndex (eVar 1) (eVar 2)))))))
def sortK (x : M D) : M (List D) := x >>= fun d => lft (seqInts d) >>= fun ns => if (ssetI ns).length < 64 ∧ ns.length < 4000 then .ok ((ssetI ns).map .int) else stk
@[simp] theorem ev_sortedSet (a : Ev) (δ : DEnv) : fSortedSet a δ = sortK (a δ) := id rfl
theorem insI_len (x : Int) : ∀ l : List Int, (insI x l).length ≤ l.length + 1
  | [] => by simp [insI]
  | y :: ys => by
    unfold insI
    split
    · simp
    · split
      · simp
      · have := insI_len x ys
        rw [List.length_cons, List.length_cons]; omega
theorem ssetI_len : ∀ ns : List Int, (ssetI ns).length ≤ ns.length
  | [] => by simp [ssetI]
  | x :: ns => by
    have := ssetI_len ns
    have := insI_len x (ssetI ns)
    show (insI x (ssetI ns)).length ≤ _
    rw [List.length_cons]; omega
theorem sortK_lst' {ns : List Int} (h : (ssetI ns).length < 64) (h2 : ns.length < 4000) : sortK (.ok (.lst (nums ns))) = .ok (nums (ssetI ns)) := by
  show (lft (seqInts _) >>= _) = _
  rw [seqInts_lst, lft_some, ok_bind, if_pos ⟨h, h2⟩]; rfl
theorem sortK_tup' {ns : List Int} (h : (ssetI ns).length < 64) (h2 : ns.length < 4000) : sortK (.ok (.tup (nums ns))) = .ok (nums (ssetI ns)) := by
  show (lft (seqInts _) >>= _) = _
  rw [seqInts_tup, lft_some, ok_bind, if_pos ⟨h, h2⟩]; rfl
theorem sortK_lst {ns : List Int} (h : ns.length < 64) : sortK (.ok (.lst (nums ns))) = .ok (nums (ssetI ns)) := sortK_lst' (by have := ssetI_len ns; omega) (by omega)
theorem sortK_tup {ns : List Int} (h : ns.length < 64) : sortK (.ok (.tup (nums ns))) = .ok (nums (ssetI ns)) := sortK_tup' (by have := ssetI_len ns; omega) (by omega)
theorem eIndex_nums {a b : Ev} {δ : DEnv} {l : List Int} {x : Int} (h1 : a δ = .ok (.lst (nums l))) (h2 : b δ = .ok (.int x)) (hp : l.Pairwise (· < ·)) (h : x ∈ l) : eIndex a b δ = .ok (.int (l.filter fun y => decide (y < x)).length) := by
  unfold eIndex
  rw [h1, ok_bind]
  show (b δ >>= _) = _
  rw [h2, ok_bind]
  show lft (if D.okE eqDepth (.int x) && D.okE eqDepth (.lst (nums l)) then (idxD (.int x) (nums l)).map fun j => D.int (j : Nat) else none) = _
  rw [show eqDepth = 59 + 1 from rfl, okE_lst, show D.okE (59+1) (.int x) = true from rfl, idx_asc hp h]
  rfl
theorem lik_ok (d : D) (xs : List Int) (hd : d = .lst (nums xs) ∨ d = .tup (nums xs)) (h : xs.length < 64) : mirD 3 1 likB [d] = .ok (.tup (nums (xs.map (level xs)))) := by
  have cm : ∀ d : D, compD (bdN 2) tYesD (eIndex (eVar 1) (eVar 2)) [some (.val d), some (.val (.lst (nums (ssetI xs)))), none] (nums xs) = .ok (nums (xs.map (level xs))) := fun d =>
    comp_map xs (level xs) fun x hx => by
      rw [eIndex_nums (l := ssetI xs) (x := x) (by simp) (by simp) (ssetI_asc xs) ((mem_ssetI x xs).mpr hx)]
      rfl
  rw [mirD_1]
  unfold likB
  rcases hd with rfl | rfl
  · simp [startD, sortK_lst h, cm]
  · simp [startD, sortK_tup h, cm]
theorem lik_lst (xs : List Int) (h : xs.length < 64) : mirD 3 1 likB [.lst (nums xs)] = .ok (.tup (nums (xs.map (level xs)))) := lik_ok _ xs (.inl rfl) h
theorem lik_tup (xs : List Int) (h : xs.length < 64) : mirD 3 1 likB [.tup (nums xs)] = .ok (.tup (nums (xs.map (level xs)))) := lik_ok _ xs (.inr rfl) h
theorem maxI_of (l : List Int) (h : l ≠ []) : ∃ m, maxI l = some m ∧ m ∈ l ∧ ∀ x ∈ l, x ≤ m := by
  cases l with
  | nil => exact absurd rfl h
  | cons x r =>
    have e : maxI (x :: r) = some (r.foldl (fun m y => if m < y then y else m) x) := rfl
    exact ⟨_, e, maxI_spec e⟩
/-- on_top -/
def onTopB : Sv :=
    (sSeq (sFor (eIter (eVar 2)) (bdN 3) (sIf (eT (e2 oGt (e2 oIx (eVar 0) (eVar 3)) (e2 oIx (eVar 0) (eVar 1)))) (sRet (eC (.bl false))) sNil))
    (sRet (eC (.bl true))))
def In (n : Nat) (x : Int) : Prop := 0 ≤ x ∧ x < n
theorem onTop_ok (L M : List Int) (o : Int) (ho : In L.length o) (hM : ∀ m ∈ M, In L.length m) : mirD 4 3 onTopB [.tup (nums L), .int o, .tup (nums M)] = .ok (.bl (M.all fun m => decide (at_ L m ≤ at_ L o))) := by
  rw [mirD_3]
  unfold onTopB
  have h := forD_find (i := 3) (body := (sIf (eT (e2 oGt (e2 oIx (eVar 0) (eVar 3)) (e2 oIx (eVar 0) (eVar 1)))) (sRet (eC (.bl false))) sNil)) M (fun m => decide (at_ L o < at_ L m)) (fun _ => .bl false)
    (fun δ => ∃ o4, δ = [some (.val (.tup (nums L))), some (.val (.int o)), some (.val (.tup (nums M))), o4]) [some (.val (.tup (nums L))), some (.val (.int o)), some (.val (.tup (nums M))), none] ⟨none, rfl⟩ (by
      rintro x hx δ ⟨o4, rfl⟩
      obtain ⟨x0, x1⟩ := hM x hx
      by_cases hp : at_ L o < at_ L x
      · simp [hp, atI_ints L x x0 x1, atI_ints L o ho.1 ho.2]
      · simp [hp, atI_ints L x x0 x1, atI_ints L o ho.1 ho.2])
  cases hf : M.find? fun m => decide (at_ L o < at_ L m) with
  | some x =>
    rw [hf] at h
    have : (M.all fun m => decide (at_ L m ≤ at_ L o)) = false := by
      rw [List.all_eq_false]
      exact ⟨x, List.mem_of_find?_eq_some hf, by have := List.find?_some hf; simp at this ⊢; omega⟩
    simp [startD, h, this]
  | none =>
    rw [hf] at h
    obtain ⟨δ', e, _⟩ := h
    have : (M.all fun m => decide (at_ L m ≤ at_ L o)) = true := by
      rw [List.all_eq_true]
      intro m hm
      have := List.find?_eq_none.mp hf m hm
      simp at this ⊢; omega
    simp [startD, e, this]
end DL

namespace DL
open PySem PySem.Spec PyProof.Rows L2
/-! ### more of the evaluation -/
def z3 (f g : Int → Int → Bool) (x y : M D) (c : M D) : M D := x >>= fun x => y >>= fun y => asZ x >>= fun i => asZ y >>= fun j => if f i j then (c >>= fun z => asZ z >>= fun k => .ok (.bl (g j k))) else .ok (.bl false)
@[simp] theorem ev_e3 (f g : Int → Int → Bool) (a b c : Ev) (δ : DEnv) : e3 f g a b c δ = z3 f g (a δ) (b δ) (c δ) := id rfl
@[simp] theorem z3_ok (f g : Int → Int → Bool) (i j k : Int) : z3 f g (.ok (.int i)) (.ok (.int j)) (.ok (.int k)) = .ok (.bl (f i j && g j k)) := by
  show (if f i j then _ else _) = _
  cases f i j <;> rfl
@[simp] theorem iLt_eq (i j : Int) : iLt i j = decide (i < j) := id rfl
@[simp] theorem iLe_eq (i j : Int) : iLe i j = decide (i ≤ j) := id rfl
@[simp] theorem iGt_eq (i j : Int) : iGt i j = decide (j < i) := id rfl
@[simp] theorem iGe_eq (i j : Int) : iGe i j = decide (j ≤ i) := id rfl
def slK (x : M D) (l h : M (Option Int)) : M D := x >>= fun x => l >>= fun i => h >>= fun j => lft (oSl x i j)
@[simp] theorem ev_eSl (a : Ev) (l h : EvO) (δ : DEnv) : eSl a l h δ = slK (a δ) (l δ) (h δ) := id rfl
@[simp] theorem slK_ok (x : D) (i j : Option Int) : slK (.ok x) (.ok i) (.ok j) = lft (oSl x i j) := id rfl
@[simp] theorem ev_oNo (δ : DEnv) : oNo δ = .ok none := id rfl
def partK (x : M D) : M (Option Int) := x >>= asI
@[simp] theorem ev_oPart (a : Ev) (δ : DEnv) : oPart a δ = partK (a δ) := id rfl
@[simp] theorem partK_int (i : Int) : partK (.ok (.int i)) = .ok (some i) := id rfl
@[simp] theorem oSl_lst (ds : List D) (i j : Option Int) : oSl (.lst ds) i j = some (.lst (cutD ds i j)) := id rfl
@[simp] theorem oSl_tup (ds : List D) (i j : Option Int) : oSl (.tup ds) i j = some (.tup (cutD ds i j)) := id rfl
def fldK (cs : List Str) (i : Nat) (f : Str) : Option (Option Cell) → M D
  | some (some (.ins C ks as)) => if C ∈ cs then lft ((ks.zip as).lookup f) else stk
  | _ => stk
@[simp] theorem ev_eFldS (cs : List Str) (i : Nat) (f : Str) (δ : DEnv) : eFldS cs i f δ = fldK cs i f δ[i]? := by unfold eFldS fldK; rfl
theorem fldK_ins {cs : List Str} {i : Nat} {f C : Str} {ks : List Str} {as : List D} (h : C ∈ cs) : fldK cs i f (some (some (.ins C ks as))) = lft ((ks.zip as).lookup f) := by show (if _ then _ else _) = _; rw [if_pos h]
def fldSK (cs : List Str) (i : Nat) (f : Str) (δ : DEnv) (x : M D) (o : Option (Option Cell)) : M Fl := x >>= fun d => match o with
  | some (some (.ins C ks as)) => if C ∈ cs ∧ f ∉ ks ∧ ks.length < 900 then .ok (.nx (δ.set i (some (.ins C (ks ++ [f]) (as ++ [d]))))) else stk
  | _ => stk
@[simp] theorem ev_sFldS (cs : List Str) (i : Nat) (f : Str) (a : Ev) (δ : DEnv) : sFldS cs i f a δ = fldSK cs i f δ (a δ) δ[i]? := by unfold sFldS fldSK; rfl
theorem fldSK_ok {cs : List Str} {i : Nat} {f C : Str} {δ : DEnv} {d : D} {ks : List Str} {as : List D} (h : C ∈ cs ∧ f ∉ ks ∧ ks.length < 900) :
    fldSK cs i f δ (.ok d) (some (some (.ins C ks as))) = .ok (.nx (δ.set i (some (.ins C (ks ++ [f]) (as ++ [d]))))) := by show (if _ then _ else _) = _; rw [if_pos h]
def makeK (C : Str) (n : Nat) (m : MirI) (r : M (List D)) : M D := r >>= fun ds => if ds.length = n then (m ds >>= fun r => .ok (.obj C r.1 r.2)) else stk
@[simp] theorem ev_eMake (C : Str) (n : Nat) (m : MirI) (as : EvA) (δ : DEnv) : eMake C n m as δ = makeK C n m (as δ) := id rfl
theorem makeK_ok {C : Str} {n : Nat} {m : MirI} {ds : List D} {ks : List Str} {as : List D} (h : ds.length = n) (e : m ds = .ok (ks, as)) : makeK C n m (.ok ds) = .ok (.obj C ks as) := by
  show (if _ then _ else _) = _
  rw [if_pos h, e]; rfl
def augK (i : Nat) (δ : DEnv) (op : D → D → Option D) (x y : M D) : M Fl := x >>= fun x => y >>= fun y => lft (op x y) >>= fun z => .ok (.nx (δ.set i (some (.val z))))
@[simp] theorem ev_sAug (i : Nat) (op : D → D → Option D) (a : Ev) (δ : DEnv) : sAug i op a δ = augK i δ op (eVar i δ) (a δ) := id rfl
theorem augK_ok {i : Nat} {δ : DEnv} {op : D → D → Option D} {x y z : D} (h : op x y = some z) : augK i δ op (.ok x) (.ok y) = .ok (.nx (δ.set i (some (.val z)))) := by
  show (lft (op x y) >>= _) = _
  rw [h]; rfl
def band (x : M Bool) (b : Ev) (δ : DEnv) : M D := x >>= fun x => if x then b δ else .ok (.bl false)
@[simp] theorem ev_eAnd (a b : Ev) (δ : DEnv) : eAnd a b δ = band (tK (a δ)) b δ := id rfl
@[simp] theorem band_t (b : Ev) (δ : DEnv) : band (.ok true) b δ = b δ := id rfl
@[simp] theorem band_f (b : Ev) (δ : DEnv) : band (.ok false) b δ = .ok (.bl false) := id rfl
def bor (x : M Bool) (b : Ev) (δ : DEnv) : M D := x >>= fun x => if x then .ok (.bl true) else b δ
@[simp] theorem ev_eOr (a b : Ev) (δ : DEnv) : eOr a b δ = bor (tK (a δ)) b δ := id rfl
@[simp] theorem bor_t (b : Ev) (δ : DEnv) : bor (.ok true) b δ = .ok (.bl true) := id rfl
@[simp] theorem bor_f (b : Ev) (δ : DEnv) : bor (.ok false) b δ = b δ := id rfl
def bnot (x : M Bool) : M D := x >>= fun x => .ok (.bl (!x))
@[simp] theorem ev_eNot (a : Ev) (δ : DEnv) : eNot a δ = bnot (tK (a δ)) := id rfl
@[simp] theorem bnot_ok (b : Bool) : bnot (.ok b) = .ok (.bl (!b)) := id rfl
theorem andK_tt {a : Bool} {f : EvT} {δ : DEnv} (h : a = true → f δ = .ok true) : andK (.ok a) f δ = .ok a := by
  cases a with
  | false => rfl
  | true => exact h rfl
theorem oFld_obj (cs : List Str) (f C : Str) (ks : List Str) (ds : List D) (h : C ∈ cs) : oFld cs f (.obj C ks ds) = (ks.zip ds).lookup f := by show (if _ then _ else _) = _; rw [if_pos h]
/-! ### sequences -/
structure Seq (d : D) (xs : List D) : Prop where
  iter : iterK (.ok d) = .ok xs
  len : oLen d = some (.int xs.length)
  tup : oTuple d = some (.tup xs)
  lst : listK (.ok d) = .ok xs
  ix : ∀ i : Int, oIx d (.int i) = L2.atI xs i
theorem Seq.l (xs : List D) : Seq (.lst xs) xs := ⟨rfl, rfl, rfl, rfl, fun _ => rfl⟩
theorem Seq.t (xs : List D) : Seq (.tup xs) xs := ⟨rfl, rfl, rfl, rfl, fun _ => rfl⟩
/-- the item at a place -/
def nth {α : Type} (xs : List α) (i : Int) (dflt : α) : α := xs.getD i.toNat dflt
theorem nth_eq {α : Type} (xs : List α) (i : Int) (dflt : α) (h0 : 0 ≤ i) (h : i < xs.length) : nth xs i dflt = xs[i.toNat]'(by omega) := by
  unfold nth
  rw [List.getD_eq_getElem?_getD, List.getElem?_eq_getElem (by omega : i.toNat < xs.length), Option.getD_some]
theorem nth_mem {α : Type} (xs : List α) (i : Int) (dflt : α) (h0 : 0 ≤ i) (h : i < xs.length) : nth xs i dflt ∈ xs := by
  rw [nth_eq xs i dflt h0 h]
  exact List.getElem_mem _
theorem atI_en {α : Type} (en : α → D) (xs : List α) (i : Int) (dflt : α) (h0 : 0 ≤ i) (h : i < xs.length) : L2.atI (xs.map en) i = some (en (nth xs i dflt)) := by
  rw [atI_int _ _ h0 (by rw [List.length_map]; exact h), List.getElem_map, nth_eq xs i dflt h0 h]
/-! ### loops over anything -/
theorem forD_acc {α : Type} {bd : Bd} {body : Sv} (en : α → D) (st : α → DEnv → DEnv) (hb : ∀ x δ, bd (en x) δ = some (st x δ)) (xs : List α) (I : List α → DEnv → Prop) (δ : DEnv) (h0 : I [] δ)
    (hs : ∀ (p : List α) (x : α) (r : List α) (δ : DEnv), xs = p ++ x :: r → I p δ → ∃ δ2, (body (st x δ) = .ok (.nx δ2) ∨ body (st x δ) = .ok (.ct δ2)) ∧ I (p ++ [x]) δ2) :
    ∃ δ', forD bd body (xs.map en) δ = .ok (.nx δ') ∧ I xs δ' := by
  have key : ∀ (r p : List α) (δ : DEnv), xs = p ++ r → I p δ → ∃ δ', forD bd body (r.map en) δ = .ok (.nx δ') ∧ I xs δ' := by
    intro r
    induction r with
    | nil => intro p δ e h; rw [List.append_nil] at e; exact ⟨δ, rfl, e ▸ h⟩
    | cons x r ih =>
      intro p δ e h
      obtain ⟨δ2, hbd, h2⟩ := hs p x r δ e h
      obtain ⟨δ', h3, h4⟩ := ih (p ++ [x]) δ2 (by rw [e, List.append_assoc]; rfl) h2
      refine ⟨δ', ?_, h4⟩
      show (lft (bd (en x) δ) >>= _) = _
      rw [hb, lft_some, ok_bind]
      rcases hbd with hbd | hbd <;> rw [hbd] <;> exact h3
  exact key xs [] δ rfl h0
theorem forD_some {α : Type} {bd : Bd} {body : Sv} (en : α → D) (st : α → DEnv → DEnv) (hb : ∀ x δ, bd (en x) δ = some (st x δ)) (xs : List α) (f : α → Option D) (I : DEnv → Prop) (δ : DEnv) (h0 : I δ)
    (hs : ∀ x ∈ xs, ∀ δ, I δ → match f x with
      | some d => body (st x δ) = .ok (.rt d)
      | none => ∃ δ2, (body (st x δ) = .ok (.nx δ2) ∨ body (st x δ) = .ok (.ct δ2)) ∧ I δ2) :
    match xs.findSome? f with
    | some d => forD bd body (xs.map en) δ = .ok (.rt d)
    | none => ∃ δ', forD bd body (xs.map en) δ = .ok (.nx δ') ∧ I δ' := by
  induction xs generalizing δ with
  | nil => exact ⟨δ, rfl, h0⟩
  | cons x xs ih =>
    have h := hs x List.mem_cons_self δ h0
    have e : forD bd body ((x :: xs).map en) δ = (do
      let r ← body (st x δ)
      match r with
      | .nx δ2 => forD bd body (xs.map en) δ2
      | .ct δ2 => forD bd body (xs.map en) δ2
      | .bk δ2 => .ok (.nx δ2)
      | .rt d => .ok (.rt d)
      | .rx d => .ok (.rx d)) := by
      rw [List.map_cons]
      show (lft (bd (en x) δ) >>= _) = _
      rw [hb, lft_some, ok_bind]
      all_goals rfl
    rw [List.findSome?_cons]
    cases hp : f x with
    | some d =>
      rw [hp] at h
      show _ = _
      rw [e, h]; rfl
    | none =>
      rw [hp] at h
      obtain ⟨δ2, hbd, h2⟩ := h
      have e2 : forD bd body ((x :: xs).map en) δ = forD bd body (xs.map en) δ2 := by
        rw [e]; rcases hbd with hbd | hbd <;> rw [hbd] <;> rfl
      rw [e2]
      exact ih δ2 h2 fun y hy => hs y (List.mem_cons_of_mem _ hy)
/-- a loop that goes through without a word -/
theorem forD_pass {α : Type} {bd : Bd} {body : Sv} (en : α → D) (st : α → DEnv → DEnv) (hb : ∀ x δ, bd (en x) δ = some (st x δ)) (xs : List α) (I : DEnv → Prop) (δ : DEnv) (h0 : I δ)
    (hs : ∀ x ∈ xs, ∀ δ, I δ → ∃ δ2, (body (st x δ) = .ok (.nx δ2) ∨ body (st x δ) = .ok (.ct δ2)) ∧ I δ2) : ∃ δ', forD bd body (xs.map en) δ = .ok (.nx δ') ∧ I δ' := by
  have := forD_some en st hb xs (fun _ => none) I δ h0 (fun x hx δ hI => hs x hx δ hI)
  have e : xs.findSome? (fun _ => (none : Option D)) = none := by rw [List.findSome?_eq_none_iff]; simp
  rw [e] at this
  exact this
theorem hb_n {α : Type} (en : α → D) (i : Nat) (x : α) (δ : DEnv) : bdN i (en x) δ = some (δ.set i (some (.val (en x)))) := rfl
/-! ### _law_same: what is the same -/
mutual
def Sm : Nat → D → D → Prop
  | _, .non, .non => True
  | _, .bl a, .bl b => a = b
  | _, .int a, .int b => a = b
  | n + 1, .tup xs, .tup ys => Sms n xs ys ∧ ys.length ≤ 16777216
  | n + 1, .tup xs, .lst ys => Sms n xs ys ∧ ys.length ≤ 16777216
  | _, _, _ => False
def Sms : Nat → List D → List D → Prop
  | _, [], [] => True
  | n, x :: xs, y :: ys => Sm n x y ∧ Sms n xs ys
  | _, _, _ => False
end
def sameB (rec : Mir) : Sv :=
    (sSeq (sIf (eT (e2 oIs (eVar 1) (eC .non))) (sRet (e2 oIs (eVar 0) (eC .non))) sNil)
    (sSeq (sIf (eT (e2 oIs (eVar 1) (eC (.bl true)))) (sRet (e2 oIs (eVar 0) (eC (.bl true)))) sNil)
    (sSeq (sIf (eT (e2 oIs (eVar 1) (eC (.bl false)))) (sRet (e2 oIs (eVar 0) (eC (.bl false)))) sNil)
    (sSeq (sIf (eT (e1 (oIsi "str") (eVar 1))) (sRet (eAnd (e1 (oIsi "str") (eVar 0)) (e2 oEq (eVar 0) (eVar 1)))) sNil)
    (sSeq (sIf (eT (e1 (oIsi "int") (eVar 1))) (sRet (eAnd (e1 (oIsi "int") (eVar 0)) (eAnd (eNot (e1 (oIsi "bool") (eVar 0))) (e2 oEq (eVar 0) (eVar 1))))) sNil)
    (sSeq (sIf (tOrD (tNotD (eT (e1 (oIsi "tuple") (eVar 0)))) (eT (e2 oNe (e1 oLen (eVar 0)) (e1 oLen (eVar 1))))) (sRet (eC (.bl false))) sNil)
    (sSeq (sFor (eRng1 (e1 oLen (eVar 1))) (bdN 2) (sIf (tNotD (eT (eCall 2 rec (eCons (e2 oIx (eVar 0) (eVar 2)) (eCons (e2 oIx (eVar 1) (eVar 2)) eNil))))) (sRet (eC (.bl false))) sNil))
    (sRet (eC (.bl true))))))))))
def sameR (rec : Mir) : Mir := mirD 3 2 (sameB rec)
theorem Sms.length : ∀ {n : Nat} {xs ys : List D}, Sms n xs ys → xs.length = ys.length
  | _, [], [], _ => rfl
  | _, [], _ :: _, h => by unfold Sms at h; exact h.elim
  | _, _ :: _, [], h => by unfold Sms at h; exact h.elim
  | n, x :: xs, y :: ys, h => by
    unfold Sms at h
    rw [List.length_cons, List.length_cons, Sms.length h.2]
theorem Sms.get : ∀ {n : Nat} {xs ys : List D}, Sms n xs ys → ∀ (i : Nat) (h1 : i < xs.length) (h2 : i < ys.length), Sm n xs[i] ys[i]
  | _, [], _, _, i, h1, _ => by simp at h1
  | _, _ :: _, [], h, _, _, _ => by unfold Sms at h; exact h.elim
  | n, x :: xs, y :: ys, h, 0, _, _ => by unfold Sms at h; exact h.1
  | n, x :: xs, y :: ys, h, i + 1, h1, h2 => by
    unfold Sms at h
    exact Sms.get h.2 i (by simpa using h1) (by simpa using h2)
@[simp] theorem oIs_tnon (xs : List D) : oIs (.tup xs) .non = some (.bl false) := id rfl
@[simp] theorem oIs_tbl (xs : List D) (b : Bool) : oIs (.tup xs) (.bl b) = some (.bl false) := id rfl
@[simp] theorem oIs_lnon (xs : List D) : oIs (.lst xs) .non = some (.bl false) := id rfl
@[simp] theorem oIs_lbl (xs : List D) (b : Bool) : oIs (.lst xs) (.bl b) = some (.bl false) := id rfl
@[simp] theorem oIs_inon (i : Int) : oIs (.int i) .non = some (.bl false) := id rfl
@[simp] theorem oIs_ibl (i : Int) (b : Bool) : oIs (.int i) (.bl b) = some (.bl false) := id rfl
@[simp] theorem oIs_bnon (a : Bool) : oIs (.bl a) .non = some (.bl false) := id rfl
theorem same_true : ∀ (n : Nat) (a b : D) (k : Nat), n < k → Sm n a b → recM sameR k [a, b] = .ok (.bl true) := by
  intro n
  induction n with
  | zero =>
    intro a b k hk h
    cases k with
    | zero => omega
    | succ k =>
      show sameR (recM sameR k) [a, b] = _
      unfold sameR sameB
      rw [mirD_2]
      cases a with
      | non => cases b <;> (unfold Sm at h; first | exact h.elim | skip); rfl
      | bl x =>
        cases b <;> (unfold Sm at h; first | exact h.elim | skip)
        subst h
        cases x <;> rfl
      | int x =>
        cases b <;> (unfold Sm at h; first | exact h.elim | skip)
        subst h
        simp [startD, isiB]
      | _ => cases b <;> (unfold Sm at h; exact h.elim)
  | succ n ih =>
    intro a b k hk h
    cases k with
    | zero => omega
    | succ k =>
      have go : ∀ (xs ys : List D) (b : D), Seq b ys → (oIs b .non = some (.bl false)) → (∀ c, oIs b (.bl c) = some (.bl false)) → oIsi "str" b = some (.bl false) → oIsi "int" b = some (.bl false) → Sms n xs ys → ys.length ≤ 16777216 → sameR (recM sameR k) [.tup xs, b] = .ok (.bl true) := by
        intro xs ys b hb h1 h2 h3 h4 hs hl
        unfold sameR sameB
        rw [mirD_2]
        have hlen := hs.length
        have hf := forD_pass (bd := bdN 2) (body := (sIf (tNotD (eT (eCall 2 (recM sameR k) (eCons (e2 oIx (eVar 0) (eVar 2)) (eCons (e2 oIx (eVar 1) (eVar 2)) eNil))))) (sRet (eC (.bl false))) sNil)) D.int (fun x δ => δ.set 2 (some (.val (.int x)))) (fun _ _ => rfl) (ir 0 ys.length)
          (fun δ => ∃ o, δ = [some (.val (.tup xs)), some (.val b), o]) [some (.val (.tup xs)), some (.val b), none] ⟨none, rfl⟩ (by
            rintro x hx δ ⟨o, rfl⟩
            have := mem_ir.mp hx
            obtain ⟨i, rfl⟩ := Int.eq_ofNat_of_zero_le this.1
            have i1 : i < xs.length := by omega
            have i2 : i < ys.length := by omega
            have e1 := atI_nat xs i i1
            have e2 := atI_nat ys i i2
            have e3 := ih _ _ k (by omega) (hs.get i i1 i2)
            refine ⟨_, .inl ?_, some (.val (.int i)), rfl⟩
            simp [hb.ix, e1, e2, e3])
        obtain ⟨δ', hf, _⟩ := hf
        simp [startD, h1, h2, h3, h4, hb.len, hlen, isiB, rng_nat' hl]
        erw [hf]
        rfl
      show sameR (recM sameR k) [a, b] = _
      cases a with
      | non => cases b <;> (unfold Sm at h; first | exact h.elim | skip); exact ih .non .non (k + 1) (by omega) (by unfold Sm; trivial)
      | bl x =>
        cases b <;> (unfold Sm at h; first | exact h.elim | skip)
        exact ih _ _ (k + 1) (by omega) (by unfold Sm; exact h)
      | int x =>
        cases b <;> (unfold Sm at h; first | exact h.elim | skip)
        exact ih _ _ (k + 1) (by omega) (by unfold Sm; exact h)
      | tup xs =>
        cases b with
        | tup ys => unfold Sm at h; exact go xs ys _ (.t ys) rfl (fun _ => rfl) rfl rfl h.1 h.2
        | lst ys => unfold Sm at h; exact go xs ys _ (.l ys) rfl (fun _ => rfl) rfl rfl h.1 h.2
        | _ => unfold Sm at h; exact h.elim
      | _ => cases b <;> (unfold Sm at h; exact h.elim)
theorem Sms.refl_map {α : Type} (n : Nat) (f g : α → D) : ∀ (xs : List α), (∀ x ∈ xs, Sm n (f x) (g x)) → Sms n (xs.map f) (xs.map g)
  | [], _ => by unfold Sms; trivial
  | x :: xs, h => by
    rw [List.map_cons, List.map_cons]
    unfold Sms
    exact ⟨h x List.mem_cons_self, Sms.refl_map n f g xs fun y hy => h y (List.mem_cons_of_mem _ hy)⟩
theorem Sm.int (n : Nat) (i : Int) : Sm n (.int i) (.int i) := by cases n <;> (unfold Sm; rfl)
theorem Sm.tl {n : Nat} {xs : List Int} (h : xs.length ≤ 16777216) : Sm (n + 1) (.tup (nums xs)) (.lst (nums xs)) := by
  unfold Sm
  exact ⟨Sms.refl_map n D.int D.int xs fun x _ => Sm.int n x, by simpa using h⟩
theorem Sm.tt {n : Nat} {xs : List Int} (h : xs.length ≤ 16777216) : Sm (n + 1) (.tup (nums xs)) (.tup (nums xs)) := by
  unfold Sm
  exact ⟨Sms.refl_map n D.int D.int xs fun x _ => Sm.int n x, by simpa using h⟩
end DL

namespace DL
open PySem PySem.Spec PyProof.Rows L2
/-! ### dense likings -/
def dense (xs : List Int) : List Int := xs.map (level xs)
@[simp] theorem dense_length (xs : List Int) : (dense xs).length = xs.length := List.length_map _
theorem level_nonneg (xs : List Int) (x : Int) : 0 ≤ level xs x := by unfold level; omega
theorem level_lt {xs : List Int} {u x : Int} (hu : u ∈ xs) (h : u < x) : level xs u < level xs x := by
  unfold level
  have e : (ssetI xs).filter (fun y => decide (y < u)) = ((ssetI xs).filter fun y => decide (y < x)).filter fun y => decide (y < u) := by
    rw [List.filter_filter]
    apply List.filter_congr
    intro z _
    by_cases hz : z < u
    · have : z < x := by omega
      simp [hz, this]
    · simp [hz]
  rw [e]
  have : (((ssetI xs).filter fun y => decide (y < x)).filter fun y => decide (y < u)).length < ((ssetI xs).filter fun y => decide (y < x)).length := by
    rw [List.length_filter_lt_length_iff_exists]
    exact ⟨u, by rw [List.mem_filter, mem_ssetI]; exact ⟨hu, by simpa using h⟩, by simp⟩
  omega
theorem level_lt_iff {xs : List Int} {u x : Int} (hu : u ∈ xs) (hx : x ∈ xs) : level xs u < level xs x ↔ u < x := by
  constructor
  · intro h
    by_cases h1 : u < x
    · exact h1
    · by_cases h2 : u = x
      · subst h2; omega
      · have := level_lt hx (show x < u by omega)
        omega
  · exact level_lt hu
theorem ssetI_nodup (xs : List Int) : (ssetI xs).Nodup := (ssetI_asc xs).imp (fun h => by omega : ∀ {a b : Int}, a < b → a ≠ b)
theorem nodup_map_on {f : Int → Int} : ∀ {l : List Int}, l.Nodup → (∀ x ∈ l, ∀ y ∈ l, f x = f y → x = y) → (l.map f).Nodup
  | [], _, _ => by simp
  | a :: l, hn, hi => by
    obtain ⟨h1, h2⟩ := List.nodup_cons.mp hn
    rw [List.map_cons, List.nodup_cons]
    refine ⟨fun h => ?_, nodup_map_on h2 fun x hx y hy => hi x (List.mem_cons_of_mem _ hx) y (List.mem_cons_of_mem _ hy)⟩
    obtain ⟨b, hb, e⟩ := List.mem_map.mp h
    have := hi b (List.mem_cons_of_mem _ hb) a List.mem_cons_self e
    subst this
    exact h1 hb
theorem level_dense {xs : List Int} {x : Int} (hx : x ∈ xs) : level (dense xs) (level xs x) = level xs x := by
  have : ((ssetI (dense xs)).filter fun y => decide (y < level xs x)).Perm (((ssetI xs).filter fun y => decide (y < x)).map (level xs)) := by
    refine (List.perm_ext_iff_of_nodup ((ssetI_nodup _).filter _) (nodup_map_on ((ssetI_nodup _).filter _) ?_)).mpr fun z => ?_
    · intro a ha b hb e
      rw [List.mem_filter, mem_ssetI] at ha hb
      by_cases h1 : a < b
      · have := level_lt ha.1 h1; omega
      · by_cases h2 : b < a
        · have := level_lt hb.1 h2; omega
        · omega
    · rw [List.mem_filter, mem_ssetI]
      unfold dense
      rw [List.mem_map, List.mem_map]
      constructor
      · rintro ⟨⟨u, hu, rfl⟩, h⟩
        refine ⟨u, ?_, rfl⟩
        rw [List.mem_filter, mem_ssetI]
        exact ⟨hu, by simpa [level_lt_iff hu hx] using h⟩
      · rintro ⟨u, hu, rfl⟩
        rw [List.mem_filter, mem_ssetI] at hu
        exact ⟨⟨u, hu.1, rfl⟩, by simpa [level_lt_iff hu.1 hx] using hu.2⟩
  have h2 := this.length_eq
  rw [List.length_map] at h2
  show ((((ssetI (dense xs)).filter fun y => decide (y < level xs x)).length : Nat) : Int) = _
  rw [h2]; rfl
theorem dense_dense (xs : List Int) : dense (dense xs) = dense xs := by
  show (dense xs).map (level (dense xs)) = xs.map (level xs)
  conv => lhs; unfold dense
  rw [List.map_map]
  apply List.map_congr_left
  intro x hx
  exact level_dense hx
theorem lik_eq (xs : List Int) : xs.map (level xs) = dense xs := rfl
theorem lik_dl (xs : List Int) (h : xs.length < 64) : mirD 3 1 likB [.lst (nums xs)] = .ok (.tup (nums (dense xs))) := lik_lst xs h
theorem lik_dt (xs : List Int) (h : xs.length < 64) : mirD 3 1 likB [.tup (nums xs)] = .ok (.tup (nums (dense xs))) := lik_tup xs h
/-! ### boxes -/
def box (b : Bool) (xs : List D) : D := if b then .tup xs else .lst xs
theorem seq_box (b : Bool) (xs : List D) : Seq (box b xs) xs := by cases b; exact .l xs; exact .t xs
theorem box_t (xs : List D) : box true xs = .tup xs := rfl
theorem box_f (xs : List D) : box false xs = .lst xs := rfl
@[simp] theorem iter_box (b : Bool) (xs : List D) : iterK (.ok (box b xs)) = .ok xs := (seq_box b xs).iter
@[simp] theorem len_box (b : Bool) (xs : List D) : oLen (box b xs) = some (.int xs.length) := (seq_box b xs).len
@[simp] theorem tup_box (b : Bool) (xs : List D) : oTuple (box b xs) = some (.tup xs) := (seq_box b xs).tup
@[simp] theorem lst_box (b : Bool) (xs : List D) : listK (.ok (box b xs)) = .ok xs := (seq_box b xs).lst
@[simp] theorem ix_box (b : Bool) (xs : List D) (i : Int) : oIx (box b xs) (.int i) = L2.atI xs i := (seq_box b xs).ix i
/-- a liking, a world, worlds, told sets -/
abbrev bN (b : Bool) (l : List Int) : D := box b (nums l)
abbrev bW (b c : Bool) (w : List (List Int)) : D := box b (w.map (bN c))
abbrev bWs (a b c : Bool) (ws : List (List (List Int))) : D := box a (ws.map (bW b c))
theorem lik_box (b : Bool) (xs : List Int) (h : xs.length < 64) : mirD 3 1 likB [bN b xs] = .ok (.tup (nums (dense xs))) := by
  cases b
  · exact lik_lst xs h
  · exact lik_tup xs h
def isLikB (ml : Mir) : Sv := (sRet (eAnd (e2 oEq (e1 oLen (eVar 0)) (eVar 1)) (e2 oEq (e1 oTuple (eVar 0)) (eCall 1 ml (eCons (eVar 0) eNil)))))
theorem isLik_ok (b : Bool) (l : List Int) (o : Nat) (ho : o < 64) (hl : l.length = o) (hd : dense l = l) : mirD 2 2 (isLikB (mirD 3 1 likB)) [bN b l, .int o] = .ok (.bl true) := by
  rw [mirD_2]
  unfold isLikB
  simp [startD, hl, lik_box b l (by omega), hd]
def isWorldB (mi : Mir) : Sv :=
    (sSeq (sIf (eT (e2 oNe (e1 oLen (eVar 0)) (eVar 1))) (sRet (eC (.bl false))) sNil)
    (sSeq (sFor (eIter (eVar 0)) (bdN 3) (sIf (tNotD (eT (eCall 2 mi (eCons (eVar 3) (eCons (eVar 2) eNil))))) (sRet (eC (.bl false))) sNil))
    (sRet (eC (.bl true)))))
/-- a world of p people over o outcomes -/
def WOk (p o : Nat) (w : List (List Int)) : Prop := w.length = p ∧ ∀ l ∈ w, l.length = o ∧ dense l = l
theorem isWorld_ok (b c : Bool) (w : List (List Int)) (p o : Nat) (ho : o < 64) (h : WOk p o w) : mirD 4 3 (isWorldB (mirD 2 2 (isLikB (mirD 3 1 likB)))) [bW b c w, .int p, .int o] = .ok (.bl true) := by
  rw [mirD_3]
  unfold isWorldB
  obtain ⟨δ', hf, _⟩ := forD_pass (bd := bdN 3) (body := (sIf (tNotD (eT (eCall 2 (mirD 2 2 (isLikB (mirD 3 1 likB))) (eCons (eVar 3) (eCons (eVar 2) eNil))))) (sRet (eC (.bl false))) sNil)) (bN c) (fun x δ => δ.set 3 (some (.val (bN c x)))) (fun _ _ => rfl) w
    (fun δ => ∃ q, δ = [some (.val (bW b c w)), some (.val (.int p)), some (.val (.int o)), q]) [some (.val (bW b c w)), some (.val (.int p)), some (.val (.int o)), none] ⟨none, rfl⟩ (by
      rintro l hl δ ⟨q, rfl⟩
      refine ⟨_, .inl ?_, some (.val (bN c l)), rfl⟩
      simp [isLik_ok c l o ho (h.2 l hl).1 (h.2 l hl).2])
  simp [startD, h.1, hf]
def isSetB : Sv :=
    (sSeq (sSet 2 (e1 oNeg (eC (.int 1))))
    (sSeq (sFor (eIter (eVar 0)) (bdN 3) (sSeq (sIf (tOrD (eT (e2 oLe (eVar 3) (eVar 2))) (eT (e2 oGe (eVar 3) (eVar 1)))) (sRet (eC (.bl false))) sNil)
    (sSet 2 (eVar 3))))
    (sRet (e2 oGe (eVar 2) (eC (.int 0))))))
/-- an ascending set of outcomes -/
structure SOk (o : Nat) (t : List Int) : Prop where
  ne : t ≠ []
  asc : t.Pairwise (· < ·)
  ok : ∀ x ∈ t, In o x
theorem isSet_ok (b : Bool) (t : List Int) (o : Nat) (h : SOk o t) : mirD 4 2 isSetB [bN b t, .int o] = .ok (.bl true) := by
  rw [mirD_2]
  unfold isSetB
  obtain ⟨δ', hf, last, q, rfl, h1, h2⟩ := forD_acc (bd := bdN 3) (body := (sSeq (sIf (tOrD (eT (e2 oLe (eVar 3) (eVar 2))) (eT (e2 oGe (eVar 3) (eVar 1)))) (sRet (eC (.bl false))) sNil)
    (sSet 2 (eVar 3)))) D.int (fun x δ => δ.set 3 (some (.val (.int x)))) (fun _ _ => rfl) t
    (fun p δ => ∃ (last : Int) (q : Option Cell), δ = [some (.val (bN b t)), some (.val (.int o)), some (.val (.int last)), q] ∧ (p = [] → last = -1) ∧ (∀ y, p.getLast? = some y → last = y))
    [some (.val (bN b t)), some (.val (.int o)), some (.val (.int (-1))), none] ⟨-1, none, rfl, fun _ => rfl, fun y e => by cases e⟩ (by
      rintro p x r δ e ⟨last, q, rfl, h1, h2⟩
      have hx := h.ok x (by rw [e]; simp)
      have hlast : last < x := by
        cases hp : p.getLast? with
        | none =>
          rw [h1 (List.getLast?_eq_none_iff.mp hp)]
          have := hx.1; omega
        | some y =>
          rw [h2 y hp]
          have := h.asc
          rw [e, List.pairwise_append] at this
          exact this.2.2 y (List.mem_of_getLast? hp) x List.mem_cons_self
      have hx2 := hx.2
      refine ⟨_, .inl ?_, x, some (.val (.int x)), rfl, fun z => by simp at z, fun y hy => by simpa using hy⟩
      simp [show ¬ (x ≤ last) by omega, show ¬ ((o : Int) ≤ x) by omega])
  have hl : 0 ≤ last := by
    cases hp : t.getLast? with
    | none => exact absurd (List.getLast?_eq_none_iff.mp hp) h.ne
    | some y =>
      rw [h2 y hp]
      exact (h.ok y (List.mem_of_getLast? hp)).1
  have hf' : forD (bdN 3) (sSeq (sIf (tOrD (eT (e2 oLe (eVar 3) (eVar 2))) (eT (e2 oGe (eVar 3) (eVar 1)))) (sRet (eC (.bl false))) sNil)
    (sSet 2 (eVar 3))) (nums t) [some (.val (bN b t)), some (.val (.int o)), some (.val (.int (-1))), none] = .ok (.nx [some (.val (bN b t)), some (.val (.int o)), some (.val (.int last)), q]) := hf
  simp [startD, hf', hl]
def checkToldB (ms : Mir) (r1 r2 : Sv) : Sv :=
    (sSeq (sFor (eRng1 (e2 oMin2 (eVar 1) (e1 oLen (eVar 0)))) (bdN 3) (sIf (tNotD (eT (eCall 2 ms (eCons (e2 oIx (eVar 0) (eVar 3)) (eCons (eVar 2) eNil))))) r1 sNil))
    (sIf (eT (e2 oNe (e1 oLen (eVar 0)) (eVar 1))) r2 sNil))
theorem checkTold_ok (a b : Bool) (ts : List (List Int)) (n o : Nat) (r1 r2 : Sv) (hn : ts.length = n) (hn2 : n ≤ 1000) (h : ∀ t ∈ ts, SOk o t) : mirD 4 3 (checkToldB (mirD 4 2 isSetB) r1 r2) [bW a b ts, .int n, .int o] = .ok .non := by
  rw [mirD_3]
  unfold checkToldB
  obtain ⟨δ', hf, q, rfl⟩ := forD_pass (bd := bdN 3) (body := (sIf (tNotD (eT (eCall 2 (mirD 4 2 isSetB) (eCons (e2 oIx (eVar 0) (eVar 3)) (eCons (eVar 2) eNil))))) r1 sNil)) D.int (fun x δ => δ.set 3 (some (.val (.int x)))) (fun _ _ => rfl) (ir 0 n)
    (fun δ => ∃ q, δ = [some (.val (bW a b ts)), some (.val (.int n)), some (.val (.int o)), q]) [some (.val (bW a b ts)), some (.val (.int n)), some (.val (.int o)), none] ⟨none, rfl⟩ (by
      rintro x hx δ ⟨q, rfl⟩
      have := mem_ir.mp hx
      refine ⟨_, .inl ?_, some (.val (.int x)), rfl⟩
      have e := atI_en (bN b) ts x [] (by omega) (by omega)
      have hm := nth_mem ts x [] (by omega) (by omega)
      simp [e, isSet_ok b _ o (h _ hm)])
  have hf' : forD (bdN 3) (sIf (tNotD (eT (eCall 2 (mirD 4 2 isSetB) (eCons (e2 oIx (eVar 0) (eVar 3)) (eCons (eVar 2) eNil))))) r1 sNil) (nums (ir 0 n)) [some (.val (bW a b ts)), some (.val (.int n)), some (.val (.int o)), none] = .ok (.nx [some (.val (bW a b ts)), some (.val (.int n)), some (.val (.int o)), q]) := hf
  simp [startD, hn, rng_nat' (show n ≤ 16777216 by omega), hf']
end DL

namespace DL
open PySem PySem.Spec PyProof.Rows L2
/-! ### Rule -/
abbrev encP (p : Int × Int) : D := .tup [.int p.1, .int p.2]
def pairsOf (ts : List (List Int)) : List (Int × Int) := (ir 0 ts.length).flatMap fun n => (nth ts n []).map fun o => (o, n)
abbrev kP1 : List Str := ["people"]
abbrev kP2 : List Str := ["people", "outcomes"]
abbrev kP3 : List Str := ["people", "outcomes", "worlds"]
abbrev kP4 : List Str := ["people", "outcomes", "worlds", "told"]
abbrev kP5 : List Str := ["people", "outcomes", "worlds", "told", "pairs"]
theorem lk4 (a b c d : D) : (kP4.zip [a, b, c, d]).lookup ("told" : Str) = some d := by rfl
theorem lk4' (a b c d : D) : List.lookup ("told" : Str) [(("people" : Str), a), (("outcomes" : Str), b), (("worlds" : Str), c), (("told" : Str), d)] = some d := by rfl
theorem runI_ok (C : Str) (ks : List Str) (as : List D) (δ : DEnv) : runI C (.ok (.nx (some (.ins C ks as) :: δ))) = .ok (ks, as) := by show (if C = C then _ else _) = _; rw [if_pos rfl]
def rulePairsB : Sv := (sFor (eRng1 (e1 oLen (eFldS ["Rule"] 0 "told"))) (bdN 5) (sFor (eIter (e2 oIx (eFldS ["Rule"] 0 "told") (eVar 5))) (bdN 10) (sApp 9 (eTup (eCons (eVar 10) (eCons (eVar 5) eNil))))))
def ruleB (mw mc : Mir) (r1 r2 r3 r4 r5 : Sv) : Sv :=
    (sSeq (sIf (tNotD (eT (e3 iLe iLe (eC (.int 1)) (eVar 1) (eC (.int 4))))) r1 sNil)
    (sSeq (sIf (tNotD (eT (e3 iLe iLe (eC (.int 1)) (eVar 2) (eC (.int 8))))) r2 sNil)
    (sSeq (sIf (tNotD (eT (e3 iLe iLe (eC (.int 1)) (e1 oLen (eVar 3)) (eC (.int 8))))) r3 sNil)
    (sSeq (sFor (eRng1 (e1 oLen (eVar 3))) (bdN 5) (sIf (tNotD (eT (eCall 3 mw (eCons (e2 oIx (eVar 3) (eVar 5)) (eCons (eVar 1) (eCons (eVar 2) eNil)))))) r4 sNil))
    (sSeq (sExpr (eCall 3 mc (eCons (eVar 4) (eCons (e1 oLen (eVar 3)) (eCons (eVar 2) eNil)))))
    (sSeq (sFldS ["Rule"] 0 "people" (eVar 1))
    (sSeq (sFldS ["Rule"] 0 "outcomes" (eVar 2))
    (sSeq (sFldS ["Rule"] 0 "worlds" (e1 oTuple (eOf (fComp (eIter (eVar 3)) [7] (bdN 7) tYesD (e1 oTuple (eOf (fComp (eIter (eVar 7)) [6] (bdN 6) tYesD (e1 oTuple (eVar 6)))))))))
    (sSeq (sFldS ["Rule"] 0 "told" (e1 oTuple (eOf (fComp (eIter (eVar 4)) [8] (bdN 8) tYesD (e1 oTuple (eVar 8))))))
    (sSeq (sOwn 9 (fLst eNil))
    (sSeq (sFor (eRng1 (e1 oLen (eFldS ["Rule"] 0 "told"))) (bdN 5) (sFor (eIter (e2 oIx (eFldS ["Rule"] 0 "told") (eVar 5))) (bdN 10) (sApp 9 (eTup (eCons (eVar 10) (eCons (eVar 5) eNil))))))
    (sSeq (sFldS ["Rule"] 0 "pairs" (e1 oTuple (eVarB 9)))
    (sIf (eT (e2 oGt (e1 oLen (eVarB 9)) (eC (.int 24)))) r5 sNil)))))))))))))
/-- what a rule is made of -/
structure ROk (p o : Nat) (ws : List (List (List Int))) (ts : List (List Int)) : Prop where
  p1 : 1 ≤ p
  p2 : p ≤ 4
  o1 : 1 ≤ o
  o2 : o ≤ 8
  w1 : 1 ≤ ws.length
  w2 : ws.length ≤ 8
  w : ∀ x ∈ ws, WOk p o x
  tl : ts.length = ws.length
  t : ∀ x ∈ ts, SOk o x
  pr : (pairsOf ts).length ≤ 24
abbrev ruleDs (p o : Nat) (ws : List (List (List Int))) (ts : List (List Int)) : List D := [.int p, .int o, bWs true true true ws, bW true true ts, .tup ((pairsOf ts).map encP)]
abbrev ruleD (p o : Nat) (ws : List (List (List Int))) (ts : List (List Int)) : D := .obj "Rule" kP5 (ruleDs p o ws ts)
theorem comp_all {α : Type} {i : Nat} {te : Ev} {δ : DEnv} (en : α → D) (f : α → D) (xs : List α) (h : ∀ x ∈ xs, te (δ.set i (some (.val (en x)))) = .ok (f x)) : compD (bdN i) tYesD te δ (xs.map en) = .ok (xs.map f) := by
  rw [comp_gen en (fun _ => true) f xs fun x hx => ⟨_, rfl, rfl, fun _ => h x hx⟩, List.filter_eq_self.mpr (fun _ _ => rfl)]
theorem map_bW (a b : Bool) (ts : List (List Int)) : (bW a b ts) = box a (ts.map (bN b)) := rfl
theorem ruleInit_ok (a b c d e : Bool) (p o : Nat) (ws : List (List (List Int))) (ts : List (List Int)) (q1 q2 r1 r2 r3 r4 r5 : Sv) (h : ROk p o ws ts) :
    mirI 11 4 "Rule" (ruleB (mirD 4 3 (isWorldB (mirD 2 2 (isLikB (mirD 3 1 likB))))) (mirD 4 3 (checkToldB (mirD 4 2 isSetB) q1 q2)) r1 r2 r3 r4 r5) [.int p, .int o, bWs a b c ws, bW d e ts] = .ok (kP5, ruleDs p o ws ts) := by
  have hp1 := h.p1
  have hp2 := h.p2
  have ho1 := h.o1
  have ho2 := h.o2
  have hw1 := h.w1
  have hw2 := h.w2
  obtain ⟨δ1, hf1, q, rfl⟩ := forD_pass (bd := bdN 5) (body := (sIf (tNotD (eT (eCall 3 (mirD 4 3 (isWorldB (mirD 2 2 (isLikB (mirD 3 1 likB))))) (eCons (e2 oIx (eVar 3) (eVar 5)) (eCons (eVar 1) (eCons (eVar 2) eNil)))))) r4 sNil)) D.int (fun x δ => δ.set 5 (some (.val (.int x)))) (fun _ _ => rfl) (ir 0 ws.length)
    (fun δ => ∃ q, δ = [some (.ins "Rule" [] []), some (.val (.int p)), some (.val (.int o)), some (.val (bWs a b c ws)), some (.val (bW d e ts)), q, none, none, none, none, none]) [some (.ins "Rule" [] []), some (.val (.int p)), some (.val (.int o)), some (.val (bWs a b c ws)), some (.val (bW d e ts)), none, none, none, none, none, none] ⟨none, rfl⟩ (by
      rintro x hx δ ⟨q, rfl⟩
      have := mem_ir.mp hx
      refine ⟨_, .inl ?_, some (.val (.int x)), rfl⟩
      have e := atI_en (bW b c) ws x [] (by omega) (by omega)
      have hm := nth_mem ws x [] (by omega) (by omega)
      simp [e, isWorld_ok b c _ p o (by omega) (h.w _ hm)])
  have hf1 : forD (bdN 5) (sIf (tNotD (eT (eCall 3 (mirD 4 3 (isWorldB (mirD 2 2 (isLikB (mirD 3 1 likB))))) (eCons (e2 oIx (eVar 3) (eVar 5)) (eCons (eVar 1) (eCons (eVar 2) eNil)))))) r4 sNil) (nums (ir 0 ws.length)) [some (.ins "Rule" [] []), some (.val (.int p)), some (.val (.int o)), some (.val (bWs a b c ws)), some (.val (bW d e ts)), none, none, none, none, none, none] = .ok (.nx [some (.ins "Rule" [] []), some (.val (.int p)), some (.val (.int o)), some (.val (bWs a b c ws)), some (.val (bW d e ts)), q, none, none, none, none, none]) := hf1
  have c1 : ∀ δ : DEnv, 10 < δ.length → compD (bdN 7) tYesD (e1 oTuple (eOf (fComp (eIter (eVar 7)) [6] (bdN 6) tYesD (e1 oTuple (eVar 6))))) δ (ws.map (bW b c)) = .ok (ws.map (bW true true)) := fun δ hδ => comp_all _ _ ws fun w hw => by
    have := fun δ' : DEnv => fun hδ' : 6 < δ'.length => comp_all (i := 6) (te := e1 oTuple (eVar 6)) (δ := δ') (bN c) (bN true) w (fun l hl => by simp [hδ', ← box_t])
    simp [show 7 < δ.length by omega, this, show 6 < δ.length by omega, ← box_t]
  have c2 : ∀ δ : DEnv, 10 < δ.length → compD (bdN 8) tYesD (e1 oTuple (eVar 8)) δ (ts.map (bN e)) = .ok (ts.map (bN true)) := fun δ hδ => comp_all _ _ ts fun t ht => by
    simp [show 8 < δ.length by omega, ← box_t]
  obtain ⟨δ2, hf2, q5, q10, rfl⟩ := forD_acc (bd := bdN 5) (body := (sFor (eIter (e2 oIx (eFldS ["Rule"] 0 "told") (eVar 5))) (bdN 10) (sApp 9 (eTup (eCons (eVar 10) (eCons (eVar 5) eNil)))))) D.int (fun x δ => δ.set 5 (some (.val (.int x)))) (fun _ _ => rfl) (ir 0 ts.length)
    (fun ps δ => ∃ q5 q10, δ = [some (.ins "Rule" kP4 [.int p, .int o, bWs true true true ws, bW true true ts]), some (.val (.int p)), some (.val (.int o)), some (.val (bWs a b c ws)), some (.val (bW d e ts)), q5, none, none, none, some (.own ((ps.flatMap fun n => (nth ts n []).map fun o => (o, n)).map encP)), q10])
    [some (.ins "Rule" kP4 [.int p, .int o, bWs true true true ws, bW true true ts]), some (.val (.int p)), some (.val (.int o)), some (.val (bWs a b c ws)), some (.val (bW d e ts)), q, none, none, none, some (.own []), none] ⟨q, none, rfl⟩ (by
      rintro ps x r δ he ⟨q5, q10, rfl⟩
      have hx : x ∈ ir 0 ts.length := by rw [he]; simp
      have hx := mem_ir.mp hx
      have hlen : (ps.flatMap fun n => (nth ts n []).map fun o => (o, n)).length + (nth ts x []).length ≤ 24 := by
        have := h.pr
        unfold pairsOf at this
        rw [he, List.flatMap_append, List.flatMap_cons] at this
        simp at this ⊢
        omega
      obtain ⟨δ3, hf3, q10', rfl⟩ := forD_acc (bd := bdN 10) (body := (sApp 9 (eTup (eCons (eVar 10) (eCons (eVar 5) eNil))))) D.int (fun x δ => δ.set 10 (some (.val (.int x)))) (fun _ _ => rfl) (nth ts x [])
        (fun os δ => ∃ q10, δ = [some (.ins "Rule" kP4 [.int p, .int o, bWs true true true ws, bW true true ts]), some (.val (.int p)), some (.val (.int o)), some (.val (bWs a b c ws)), some (.val (bW d e ts)), some (.val (.int x)), none, none, none, some (.own (((ps.flatMap fun n => (nth ts n []).map fun o => (o, n)) ++ os.map fun o => (o, x)).map encP)), q10])
        [some (.ins "Rule" kP4 [.int p, .int o, bWs true true true ws, bW true true ts]), some (.val (.int p)), some (.val (.int o)), some (.val (bWs a b c ws)), some (.val (bW d e ts)), some (.val (.int x)), none, none, none, some (.own ((ps.flatMap fun n => (nth ts n []).map fun o => (o, n)).map encP)), q10] ⟨q10, by simp⟩ (by
          rintro os y r2 δ he2 ⟨q10, rfl⟩
          have hl2 : os.length < (nth ts x []).length := by rw [he2]; simp
          refine ⟨_, .inl ?_, some (.val (.int y)), rfl⟩
          have hz : ((((ps.flatMap fun n => (nth ts n []).map fun o => (o, n)) ++ os.map fun o => (o, x)).map encP)).length < 16777216 := by
            rw [List.length_map, List.length_append, List.length_map]; omega
          simp only [List.set_cons_succ, List.set_cons_zero, ev_sApp, ev_ownAt, List.getElem?_cons_succ, List.getElem?_cons_zero, ownAtK_own, ev_eTup, ev_eCons, ev_eVar, varK_val, ev_eNil, consK_ok, tupK_ok (show [D.int y, D.int x].length ≤ 16777216 by simp), appK_ok hz]
          simp)
      refine ⟨_, .inl ?_, some (.val (.int x)), q10', rfl⟩
      have e1 := atI_en (bN true) ts x [] hx.1 (by omega)
      have hf3' : forD (bdN 10) (sApp 9 (eTup (eCons (eVar 10) (eCons (eVar 5) eNil)))) (nums (nth ts x [])) _ = _ := hf3
      simp only [List.set_cons_succ, List.set_cons_zero, ev_sFor, ev_eIter, ev_e2, ev_eFldS, List.getElem?_cons_succ, List.getElem?_cons_zero, fldK_ins (show ("Rule" : Str) ∈ (["Rule"] : List Str) by simp), lk4, lft_some, ev_eVar, varK_val, b2_ok, ix_box, e1, iter_box, forK_ok, hf3']
      simp)
  have hf2 : forD (bdN 5) (sFor (eIter (e2 oIx (eFldS ["Rule"] 0 "told") (eVar 5))) (bdN 10) (sApp 9 (eTup (eCons (eVar 10) (eCons (eVar 5) eNil))))) (nums (ir 0 ts.length)) _ = _ := hf2
  have hm : mirI 11 4 "Rule" (ruleB (mirD 4 3 (isWorldB (mirD 2 2 (isLikB (mirD 3 1 likB))))) (mirD 4 3 (checkToldB (mirD 4 2 isSetB) q1 q2)) r1 r2 r3 r4 r5) [.int p, .int o, bWs a b c ws, bW d e ts] = runI "Rule" (ruleB (mirD 4 3 (isWorldB (mirD 2 2 (isLikB (mirD 3 1 likB))))) (mirD 4 3 (checkToldB (mirD 4 2 isSetB) q1 q2)) r1 r2 r3 r4 r5 [some (.ins "Rule" [] []), some (.val (.int p)), some (.val (.int o)), some (.val (bWs a b c ws)), some (.val (bW d e ts)), none, none, none, none, none, none]) := rfl
  have k1 := checkTold_ok d e ts ws.length o q1 q2 h.tl (by omega) h.t
  have pr := h.pr
  have s1 : ∀ (δ : DEnv) (x : D), fldSK ["Rule"] 0 "people" δ (.ok x) (some (some (.ins "Rule" [] []))) = .ok (.nx (δ.set 0 (some (.ins "Rule" kP1 [x])))) := fun δ x => fldSK_ok (by decide)
  have s2 : ∀ (δ : DEnv) (x y : D), fldSK ["Rule"] 0 "outcomes" δ (.ok y) (some (some (.ins "Rule" kP1 [x]))) = .ok (.nx (δ.set 0 (some (.ins "Rule" kP2 [x, y])))) := fun δ x y => fldSK_ok (by decide)
  have s3 : ∀ (δ : DEnv) (x y z : D), fldSK ["Rule"] 0 "worlds" δ (.ok z) (some (some (.ins "Rule" kP2 [x, y]))) = .ok (.nx (δ.set 0 (some (.ins "Rule" kP3 [x, y, z])))) := fun δ x y z => fldSK_ok (by decide)
  have s4 : ∀ (δ : DEnv) (x y z u : D), fldSK ["Rule"] 0 "told" δ (.ok u) (some (some (.ins "Rule" kP3 [x, y, z]))) = .ok (.nx (δ.set 0 (some (.ins "Rule" kP4 [x, y, z, u])))) := fun δ x y z u => fldSK_ok (by decide)
  have s5 : ∀ (δ : DEnv) (x y z u v : D), fldSK ["Rule"] 0 "pairs" δ (.ok v) (some (some (.ins "Rule" kP4 [x, y, z, u]))) = .ok (.nx (δ.set 0 (some (.ins "Rule" kP5 [x, y, z, u, v])))) := fun δ x y z u v => fldSK_ok (by decide)
  rw [hm]
  unfold ruleB
  simp [show 1 ≤ (p : Int) by omega, show (p : Int) ≤ 4 by omega, show 1 ≤ (o : Int) by omega, show (o : Int) ≤ 8 by omega, hw1, hw2, show (1 : Int) ≤ ws.length by omega, show (ws.length : Int) ≤ 8 by omega,
    rng_nat' (show ws.length ≤ 16777216 by omega), hf1, k1, s1, s2, s3, s4, c1, c2, ← box_t, fldK_ins (show ("Rule" : Str) ∈ (["Rule"] : List Str) by simp)]
  rw [lk4']
  have hz : ¬ ((24 : Int) < ((ir 0 ts.length).flatMap fun n => (nth ts n []).map fun o => (o, n)).length) := by
    have : (pairsOf ts).length ≤ 24 := h.pr
    unfold pairsOf at this
    omega
  simp [-List.length_flatMap, rng_nat' (show ts.length ≤ 16777216 by have := h.tl; omega), hf2, s5, hz]
  rfl
end DL

namespace DL
open PySem PySem.Spec PyProof.Rows L2
theorem ir_at {lo : Int} {n : Nat} {ps rs : List Int} {x : Int} (he : ir lo n = ps ++ x :: rs) : x = lo + ps.length ∧ ps.length < n := by
  have hlt : ps.length < n := by
    have := congrArg List.length he
    rw [ir_length, List.length_append, List.length_cons] at this
    omega
  have h : (ir lo n)[ps.length]? = some x := by
    rw [he, List.getElem?_append_right (Nat.le_refl _), Nat.sub_self]; rfl
  unfold ir at h
  rw [List.getElem?_map, List.getElem?_range hlt] at h
  exact ⟨(Option.some.inj h).symm, hlt⟩
/-! ### slices -/
theorem cutD_map {α β : Type} (f : α → β) (xs : List α) (i j : Option Int) : cutD (xs.map f) i j = (cutD xs i j).map f := by
  unfold cutD
  rw [List.length_map, List.map_take, List.map_drop]
theorem cutD_nums (xs : List Int) (i j : Option Int) : cutD (nums xs) i j = nums (cutD xs i j) := cutD_map _ _ _ _
theorem mem_cutD {α : Type} {xs : List α} {i j : Option Int} {x : α} (h : x ∈ cutD xs i j) : x ∈ xs := by
  unfold cutD at h
  exact List.mem_of_mem_drop (List.mem_of_mem_take h)
theorem cutD_length {α : Type} (xs : List α) (i j : Int) (h0 : 0 ≤ i) (h1 : i ≤ j) (h2 : j ≤ xs.length) : (cutD xs (some i) (some j)).length = (j - i).toNat := by
  obtain ⟨a, rfl⟩ := Int.eq_ofNat_of_zero_le h0
  obtain ⟨b, rfl⟩ := Int.eq_ofNat_of_zero_le (Int.le_trans h0 h1)
  unfold cutD
  rw [HT.sIx_nat, HT.sIx_nat, List.length_take, List.length_drop]
  omega
theorem cutD_hi {α : Type} (xs : List α) (j : Int) (h0 : 0 ≤ j) : cutD xs none (some j) = xs.take j.toNat := by
  obtain ⟨b, rfl⟩ := Int.eq_ofNat_of_zero_le h0
  unfold cutD
  rw [HT.sIx_nat, HT.sIx_none, List.drop_zero, Nat.sub_zero, Int.toNat_natCast]
  rcases Nat.le_total b xs.length with h | h
  · rw [Nat.min_eq_left h]
  · rw [Nat.min_eq_right h, List.take_of_length_le (Nat.le_refl _), List.take_of_length_le h]
theorem cutD_lo {α : Type} (xs : List α) (i : Int) (h0 : 0 ≤ i) : cutD xs (some i) none = xs.drop i.toNat := by
  obtain ⟨a, rfl⟩ := Int.eq_ofNat_of_zero_le h0
  unfold cutD
  rw [HT.sIx_nat, HT.sIx_none, Int.toNat_natCast]
  rcases Nat.le_total a xs.length with h | h
  · rw [Nat.min_eq_left h, List.take_of_length_le (by rw [List.length_drop]; omega)]
  · rw [Nat.min_eq_right h, List.drop_of_length_le (Nat.le_refl _), List.drop_of_length_le h]
    simp
/-! ### _law_world -/
def worldB : Sv :=
    (sSeq (sSet 4 (eCall 4 (mirD 10 4 rowB) (eCons (eVar 0) (eCons (eVar 1) (eCons (e2 oAdd (e2 oMul (eVar 2) (eVar 3)) (eVar 2)) (eCons (eC (.int 5040)) eNil))))))
    (sSeq (sOwn 5 (fLst eNil))
    (sSeq (sFor (eRng1 (eVar 2)) (bdN 6) (sSeq (sSet 7 (e2 oAdd (eC (.int 1)) (e2 oMod (e1 oInt (e2 oIx (eVar 4) (e2 oAdd (e2 oMul (eVar 2) (eVar 3)) (eVar 6)))) (e2 oAdd (eVar 3) (eC (.int 2))))))
    (sSeq (sSet 8 (eSl (eVar 4) (oPart (e2 oMul (eVar 6) (eVar 3))) (oPart (e2 oAdd (e2 oMul (eVar 6) (eVar 3)) (eVar 3)))))
    (sApp 5 (eCall 1 (mirD 3 1 likB) (eCons (eOf (fComp (eIter (eVar 8)) [9] (bdN 9) tYesD (e2 oMod (e1 oInt (eVar 9)) (eVar 7)))) eNil))))))
    (sRet (e1 oTuple (eVarB 5))))))
theorem world_ok (ns : List Int) (a : Int) (p o : Nat) (ha : 0 ≤ a) (hp : p ≤ 8) (ho1 : 1 ≤ o) (ho : o ≤ 8) : ∃ w, mirD 10 4 worldB [.scr ns, .int a, .int p, .int o] = .ok (bW true true w) ∧ WOk p o w := by
  have hpo : p * o ≤ 64 := Nat.le_trans (Nat.mul_le_mul hp ho) (by decide)
  obtain ⟨r, e, l, b⟩ := row_ok ns a 5040 (p * o + p) ha (by decide) (by decide) (by omega)
  obtain ⟨PO, hPO⟩ : ∃ PO : Int, PO = ((p * o : Nat) : Int) := ⟨_, rfl⟩
  have hm : oMul (.int p) (.int o) = some (.int PO) := by
    rw [oMul_ok (mulOk_r ⟨by omega, by omega⟩), hPO]; simp
  obtain ⟨δ', hf, w, q6, q7, q8, rfl, h1, h2⟩ := forD_ints (i := 6) (body := (sSeq (sSet 7 (e2 oAdd (eC (.int 1)) (e2 oMod (e1 oInt (e2 oIx (eVar 4) (e2 oAdd (e2 oMul (eVar 2) (eVar 3)) (eVar 6)))) (e2 oAdd (eVar 3) (eC (.int 2))))))
    (sSeq (sSet 8 (eSl (eVar 4) (oPart (e2 oMul (eVar 6) (eVar 3))) (oPart (e2 oAdd (e2 oMul (eVar 6) (eVar 3)) (eVar 3)))))
    (sApp 5 (eCall 1 (mirD 3 1 likB) (eCons (eOf (fComp (eIter (eVar 8)) [9] (bdN 9) tYesD (e2 oMod (e1 oInt (eVar 9)) (eVar 7)))) eNil)))))) (ir 0 p)
    (fun ps δ => ∃ (w : List (List Int)) (q6 q7 q8 : Option Cell), δ = [some (.val (.scr ns)), some (.val (.int a)), some (.val (.int p)), some (.val (.int o)), some (.val (.lst (nums r))), some (.own (w.map (bN true))), q6, q7, q8, none] ∧ w.length = ps.length ∧ ∀ l ∈ w, l.length = o ∧ dense l = l)
    [some (.val (.scr ns)), some (.val (.int a)), some (.val (.int p)), some (.val (.int o)), some (.val (.lst (nums r))), some (.own []), none, none, none, none] ⟨[], none, none, none, rfl, rfl, by simp⟩ (by
      rintro ps x rs δ he ⟨w, q6, q7, q8, rfl, h1, h2⟩
      have hx : x ∈ ir 0 p := by rw [he]; simp
      have hx := mem_ir.mp hx
      obtain ⟨k, rfl⟩ := Int.eq_ofNat_of_zero_le hx.1
      have hk : k < p := by omega
      have hko : k * o + o ≤ p * o := by
        have := Nat.mul_le_mul_right o (show k + 1 ≤ p by omega)
        rwa [Nat.succ_mul] at this
      have e1 := atI_ints r (PO + (k : Int)) (by omega) (by rw [l]; omega)
      obtain ⟨sp, hsp⟩ : ∃ sp, sp = 1 + at_ r (PO + (k : Int)) % ((o : Int) + 2) := ⟨_, rfl⟩
      have hsp0 : 0 < sp := by
        have := Int.emod_nonneg (at_ r (PO + (k : Int))) (show (o : Int) + 2 ≠ 0 by omega)
        omega
      obtain ⟨KO, hKO⟩ : ∃ KO : Int, KO = ((k * o : Nat) : Int) := ⟨_, rfl⟩
      have hm2 : oMul (.int k) (.int o) = some (.int KO) := by
        rw [oMul_ok (mulOk_r ⟨by omega, by omega⟩), hKO]; simp
      obtain ⟨part, hpart⟩ : ∃ part, part = cutD r (some KO) (some (KO + (o : Int))) := ⟨_, rfl⟩
      have lpart : part.length = o := by
        rw [hpart, cutD_length _ _ _ (by omega) (by omega) (by rw [l]; omega)]; omega
      have c1 : ∀ δ : DEnv, 9 < δ.length → δ[7]? = some (some (.val (.int sp))) → compD (bdN 9) tYesD (DL.e2 oMod (DL.e1 oInt (eVar 9)) (eVar 7)) δ (nums part) = .ok (nums (part.map fun x => x % sp)) := fun δ h9 h7 => comp_map part _ fun x _ => by
        simp [h9, h7, hsp0]
      have hz : (w.map (bN true)).length < 16777216 := by
        have := congrArg List.length he
        rw [ir_length, List.length_append, List.length_cons] at this
        rw [List.length_map]; omega
      refine ⟨_, .inl ?_, w ++ [dense (part.map fun x => x % sp)], some (.val (.int k)), some (.val (.int sp)), some (.val (.lst (nums part))), rfl, by simp [h1], fun l hl => ?_⟩
      · simp [hm, hm2, e1, show (0 : Int) < (o : Int) + 2 by omega, ← hsp, cutD_nums, ← hpart, c1, lik_dl (part.map fun x => x % sp) (by rw [List.length_map]; omega), appK_ok hz, box_t]
      · rcases List.mem_append.mp hl with hl | hl
        · exact h2 l hl
        · rw [List.mem_singleton.mp hl]
          exact ⟨by rw [dense_length, List.length_map, lpart], dense_dense _⟩)
  refine ⟨w, ?_, by simpa using h1, h2⟩
  rw [mirD_4]
  unfold worldB
  have e : mirD 10 4 rowB [.scr ns, .int a, .int (PO + (p : Int)), .int 5040] = .ok (.lst (nums r)) := by rw [hPO]; simpa using e
  simp [startD, hm, e, rng_nat' (show p ≤ 16777216 by omega), hf, box_t]
/-! ### _law_pairs -/
def pairsB : Sv :=
    (sSeq (sOwn 1 (fLst eNil))
    (sSeq (sFor (eRng1 (e1 oLen (eVar 0))) (bdN 2) (sFor (eIter (e2 oIx (eVar 0) (eVar 2))) (bdN 3) (sApp 1 (eTup (eCons (eVar 3) (eCons (eVar 2) eNil))))))
    (sFrz 1 (sRet (eVar 1)))))
theorem pairs_ok (d e : Bool) (ts : List (List Int)) (hn : ts.length ≤ 1000) (h : (pairsOf ts).length ≤ 1000) : mirD 4 1 pairsB [bW d e ts] = .ok (.lst ((pairsOf ts).map encP)) := by
  obtain ⟨δ2, hf2, q5, q10, rfl⟩ := forD_ints (i := 2) (body := (sFor (eIter (e2 oIx (eVar 0) (eVar 2))) (bdN 3) (sApp 1 (eTup (eCons (eVar 3) (eCons (eVar 2) eNil)))))) (ir 0 ts.length)
    (fun ps δ => ∃ q5 q10, δ = [some (.val (bW d e ts)), some (.own ((ps.flatMap fun n => (nth ts n []).map fun o => (o, n)).map encP)), q5, q10])
    [some (.val (bW d e ts)), some (.own []), none, none] ⟨none, none, rfl⟩ (by
      rintro ps x r δ he ⟨q5, q10, rfl⟩
      have hx : x ∈ ir 0 ts.length := by rw [he]; simp
      have hx := mem_ir.mp hx
      have hlen : (ps.flatMap fun n => (nth ts n []).map fun o => (o, n)).length + (nth ts x []).length ≤ 1000 := by
        have := h
        unfold pairsOf at this
        rw [he, List.flatMap_append, List.flatMap_cons] at this
        simp at this ⊢
        omega
      obtain ⟨δ3, hf3, q10', rfl⟩ := forD_ints (i := 3) (body := (sApp 1 (eTup (eCons (eVar 3) (eCons (eVar 2) eNil))))) (nth ts x [])
        (fun os δ => ∃ q10, δ = [some (.val (bW d e ts)), some (.own (((ps.flatMap fun n => (nth ts n []).map fun o => (o, n)) ++ os.map fun o => (o, x)).map encP)), some (.val (.int x)), q10])
        [some (.val (bW d e ts)), some (.own ((ps.flatMap fun n => (nth ts n []).map fun o => (o, n)).map encP)), some (.val (.int x)), q10] ⟨q10, by simp⟩ (by
          rintro os y r2 δ he2 ⟨q10, rfl⟩
          have hl2 : os.length < (nth ts x []).length := by rw [he2]; simp
          refine ⟨_, .inl ?_, some (.val (.int y)), rfl⟩
          have hz : ((((ps.flatMap fun n => (nth ts n []).map fun o => (o, n)) ++ os.map fun o => (o, x)).map encP)).length < 16777216 := by
            rw [List.length_map, List.length_append, List.length_map]; omega
          simp only [List.set_cons_succ, List.set_cons_zero, ev_sApp, ev_ownAt, List.getElem?_cons_succ, List.getElem?_cons_zero, ownAtK_own, ev_eTup, ev_eCons, ev_eVar, varK_val, ev_eNil, consK_ok, tupK_ok (show [D.int y, D.int x].length ≤ 16777216 by simp), appK_ok hz]
          simp)
      refine ⟨_, .inl ?_, some (.val (.int x)), q10', rfl⟩
      have e1 := atI_en (bN e) ts x [] hx.1 (by omega)
      simp only [List.set_cons_succ, List.set_cons_zero, ev_sFor, ev_eIter, ev_e2, List.getElem?_cons_succ, List.getElem?_cons_zero, lft_some, ev_eVar, varK_val, b2_ok, ix_box, e1, iter_box, forK_ok, hf3]
      simp)
  rw [mirD_1]
  unfold pairsB
  simp [startD, rng_nat' (show ts.length ≤ 16777216 by omega), hf2]
  rfl
end DL

namespace DL
open PySem PySem.Spec PyProof.Rows L2
@[simp] theorem seqInts_box (b : Bool) (l : List Int) : seqInts (bN b l) = some l := by cases b; exact seqInts_lst l; exact seqInts_tup l
theorem oMaxA_ok (b : Bool) (l : List Int) (h : l ≠ []) : ∃ m, oMaxA (bN b l) = some (.int m) ∧ maxI l = some m := by
  obtain ⟨m, e, _, _⟩ := maxI_of l h
  refine ⟨m, ?_, e⟩
  unfold oMaxA
  rw [seqInts_box, Option.bind_some, e]; rfl
/-! ### _law_told -/
def toldLoopB : Sv := (sSeq (sSet 8 (eCall 4 (mirD 10 4 rowB) (eCons (eVar 0) (eCons (e2 oAdd (eVar 1) (eVar 7)) (eCons (e2 oAdd (eVar 3) (eC (.int 1))) (eCons (eC (.int 5040)) eNil))))))
    (sSeq (sSet 9 (e2 oAdd (eC (.int 2)) (e2 oMod (e1 oInt (eVar 4)) (eC (.int 2)))))
    (sSeq (sSetF 10 (fComp (eRng1 (eVar 3)) [11] (bdN 11) (eT (e2 oEq (e2 oMod (e1 oInt (e2 oIx (eVar 8) (eVar 11))) (eVar 9)) (eC (.int 1)))) (eVar 11)))
    (sSeq (sSet 12 (eOf (fComp (eRng1 (eVar 3)) [11] (bdN 11) tYesD (e1 oLen (eOf (fComp (eIter (e2 oIx (eVar 2) (eVar 7))) [13] (bdN 13) (eT (e2 oEq (e2 oIx (eVar 13) (eVar 11)) (e1 oMaxA (eVar 13)))) (eVar 13)))))))
    (sSeq (sSet 14 (eOf (fComp (eRng1 (eVar 3)) [11] (bdN 11) tYesD (e1 oLen (eOf (fComp (eIter (e2 oIx (eVar 2) (eVar 7))) [13] (bdN 13) (eT (e2 oLt (e2 oIx (eVar 13) (eVar 11)) (e2 oIx (eVar 13) (eC (.int 0))))) (eVar 13)))))))
    (sSeq (sIf (eT (e2 oEq (eVar 4) (eC (.int 2)))) (sSetF 10 (fComp (eRng1 (eVar 3)) [11] (bdN 11) (eT (e2 oGt (e2 oIx (eVar 12) (eVar 11)) (eC (.int 0)))) (eVar 11))) sNil)
    (sSeq (sIf (eT (e2 oEq (eVar 4) (eC (.int 3)))) (sSetF 10 (fComp (eRng1 (eVar 3)) [11] (bdN 11) (eT (e2 oEq (e2 oIx (eVar 14) (eVar 11)) (eC (.int 0)))) (eVar 11))) sNil)
    (sSeq (sIf (eT (e2 oEq (e1 oLen (eVar 10)) (eC (.int 0)))) (sSet 10 (eLst (eCons (e2 oMod (e1 oInt (e2 oIx (eVar 8) (eVar 3))) (eVar 3)) eNil))) sNil)
    (sSeq (sSet 10 (eSl (eVar 10) oNo (oPart (e2 oAdd (eC (.int 1)) (eVar 6)))))
    (sSeq (sAug 6 oSub (e2 oSub (e1 oLen (eVar 10)) (eC (.int 1))))
    (sApp 5 (e1 oTuple (eVar 10)))))))))))))
def toldB : Sv :=
    (sSeq (sOwn 5 (fLst eNil))
    (sSeq (sSet 6 (e2 oSub (eC (.int 24)) (e1 oLen (eVar 2))))
    (sSeq (sFor (eRng1 (e1 oLen (eVar 2))) (bdN 7) toldLoopB)
    (sFrz 5 (sRet (eVar 5))))))
theorem ir_asc (lo : Int) (n : Nat) : (ir lo n).Pairwise (· < ·) := by
  unfold ir
  rw [List.pairwise_map]
  exact List.pairwise_lt_range.imp (fun h => by omega)
theorem told_ok (ns : List Int) (a way : Int) (p o : Nat) (ab : Bool) (ws : List (List (List Int))) (ha : 0 ≤ a) (hw1 : 1 ≤ ws.length) (hw : ws.length ≤ 8) (ho1 : 1 ≤ o) (ho : o ≤ 8) (hok : ∀ w ∈ ws, WOk p o w) :
    ∃ ts : List (List Int), mirD 15 5 toldB [.scr ns, .int a, bWs ab true true ws, .int o, .int way] = .ok (.lst (ts.map (bN true))) ∧ ts.length = ws.length ∧ (∀ t ∈ ts, SOk o t) ∧ (ts.map List.length).sum ≤ 24 := by
  obtain ⟨δ', hf, ts, room, q7, q8, q9, q10, q12, q14, rfl, h1, h2, h3, h4⟩ := forD_ints (i := 7) (body := toldLoopB) (ir 0 ws.length)
    (fun ps δ => ∃ (ts : List (List Int)) (room : Int) (q7 q8 q9 q10 q12 q14 : Option Cell), δ = [some (.val (.scr ns)), some (.val (.int a)), some (.val (bWs ab true true ws)), some (.val (.int o)), some (.val (.int way)), some (.own (ts.map (bN true))), some (.val (.int room)), q7, q8, q9, q10, none, q12, none, q14] ∧
      ts.length = ps.length ∧ (∀ t ∈ ts, SOk o t) ∧ 0 ≤ room ∧ ((ts.map List.length).sum : Int) + room = 24 - ws.length + ps.length)
    [some (.val (.scr ns)), some (.val (.int a)), some (.val (bWs ab true true ws)), some (.val (.int o)), some (.val (.int way)), some (.own []), some (.val (.int (24 - ws.length))), none, none, none, none, none, none, none, none]
    ⟨[], 24 - ws.length, none, none, none, none, none, none, rfl, rfl, by simp, by omega, by simp⟩ (by
      rintro ps x rs δ he ⟨ts, room, q7, q8, q9, q10, q12, q14, rfl, h1, h2, h3, h4⟩
      have hx : x ∈ ir 0 ws.length := by rw [he]; simp
      have hx := mem_ir.mp hx
      have hps : ps.length < ws.length := by
        have := congrArg List.length he
        rw [ir_length, List.length_append, List.length_cons] at this
        omega
      obtain ⟨r, er, lr, br⟩ := row_ok ns (a + x) 5040 (o + 1) (by omega) (by decide) (by decide) (by omega)
      have er : mirD 10 4 rowB [.scr ns, .int (a + x), .int ((o : Int) + 1), .int 5040] = .ok (.lst (nums r)) := er
      obtain ⟨sh, hsh⟩ : ∃ sh, sh = 2 + way % 2 := ⟨_, rfl⟩
      have hsh0 : 0 < sh := by have := Int.emod_nonneg way (show (2 : Int) ≠ 0 by omega); omega
      have c1 : ∀ δ : DEnv, 11 < δ.length → δ[8]? = some (some (.val (.lst (nums r)))) → δ[9]? = some (some (.val (.int sh))) → compD (bdN 11) (eT (e2 oEq (e2 oMod (e1 oInt (e2 oIx (eVar 8) (eVar 11))) (eVar 9)) (eC (.int 1)))) (eVar 11) δ (nums (ir 0 o)) = .ok (nums ((ir 0 o).filter fun i => decide (at_ r i % sh = 1))) := fun δ d1 d2 d3 => comp_filter _ _ fun i hi => by
        have := mem_ir.mp hi
        simp [d1, d2, d3, hsh0, atI_ints r i (by omega) (by omega)]
      have ew := atI_en (bW true true) ws x [] hx.1 (by omega)
      have hwx := hok _ (nth_mem ws x [] hx.1 (by omega))
      obtain ⟨w, hww⟩ : ∃ w, w = nth ws x [] := ⟨_, rfl⟩
      rw [← hww] at ew hwx
      have c2 : ∀ (i : Int) (δ : DEnv), 0 ≤ i → i < o → 13 < δ.length → δ[11]? = some (some (.val (.int i))) → compD (bdN 13) (eT (e2 oEq (e2 oIx (eVar 13) (eVar 11)) (e1 oMaxA (eVar 13)))) (eVar 13) δ (w.map (bN true)) = .ok ((w.filter fun l => decide (maxI l = some (at_ l i))).map (bN true)) := fun i δ i0 i1 d1 d2 =>
        comp_gen (bN true) _ (bN true) w fun l hl => by
          refine ⟨_, rfl, ?_, fun _ => by simp [d1]⟩
          have hl2 := (hwx.2 l hl).1
          obtain ⟨m, em, em2⟩ := oMaxA_ok true l (by intro z; rw [z] at hl2; simp at hl2; omega)
          have e := atI_ints l i i0 (by omega)
          simp [d1, d2, em, em2, e]
          by_cases hq : at_ l i = m
          · simp [hq]
          · simp [hq, show ¬ m = at_ l i from fun z => hq z.symm]
      have c3 : ∀ (i : Int) (δ : DEnv), 0 ≤ i → i < o → 13 < δ.length → δ[11]? = some (some (.val (.int i))) → compD (bdN 13) (eT (e2 oLt (e2 oIx (eVar 13) (eVar 11)) (e2 oIx (eVar 13) (eC (.int 0))))) (eVar 13) δ (w.map (bN true)) = .ok ((w.filter fun l => decide (at_ l i < at_ l 0)).map (bN true)) := fun i δ i0 i1 d1 d2 =>
        comp_gen (bN true) _ (bN true) w fun l hl => by
          refine ⟨_, rfl, ?_, fun _ => by simp [d1]⟩
          have hl2 := (hwx.2 l hl).1
          have e := atI_ints l i i0 (by omega)
          have e0 := atI_ints l 0 (by omega) (by omega)
          simp [d1, d2, e, e0]
      have c4 : ∀ δ : DEnv, 14 < δ.length → δ[2]? = some (some (.val (bWs ab true true ws))) → δ[7]? = some (some (.val (.int x))) → compD (bdN 11) tYesD (e1 oLen (eOf (fComp (eIter (e2 oIx (eVar 2) (eVar 7))) [13] (bdN 13) (eT (e2 oEq (e2 oIx (eVar 13) (eVar 11)) (e1 oMaxA (eVar 13)))) (eVar 13)))) δ (nums (ir 0 o)) = .ok (nums ((ir 0 o).map fun i => ((w.filter fun l => decide (maxI l = some (at_ l i))).length : Int))) := fun δ d1 d2 d3 => comp_map _ _ fun i hi => by
        have := mem_ir.mp hi
        simp [show 11 < δ.length by omega, show 13 < δ.length by omega, d2, d3, ew, c2 i _ (show 0 ≤ i by omega) (show i < o by omega)]
      have c5 : ∀ δ : DEnv, 14 < δ.length → δ[2]? = some (some (.val (bWs ab true true ws))) → δ[7]? = some (some (.val (.int x))) → compD (bdN 11) tYesD (e1 oLen (eOf (fComp (eIter (e2 oIx (eVar 2) (eVar 7))) [13] (bdN 13) (eT (e2 oLt (e2 oIx (eVar 13) (eVar 11)) (e2 oIx (eVar 13) (eC (.int 0))))) (eVar 13)))) δ (nums (ir 0 o)) = .ok (nums ((ir 0 o).map fun i => ((w.filter fun l => decide (at_ l i < at_ l 0)).length : Int))) := fun δ d1 d2 d3 => comp_map _ _ fun i hi => by
        have := mem_ir.mp hi
        simp [show 11 < δ.length by omega, show 13 < δ.length by omega, d2, d3, ew, c3 i _ (show 0 ≤ i by omega) (show i < o by omega)]
      obtain ⟨tp, htp⟩ : ∃ tp, tp = (ir 0 o).map fun i => ((w.filter fun l => decide (maxI l = some (at_ l i))).length : Int) := ⟨_, rfl⟩
      obtain ⟨ls, hls⟩ : ∃ ls, ls = (ir 0 o).map fun i => ((w.filter fun l => decide (at_ l i < at_ l 0)).length : Int) := ⟨_, rfl⟩
      have ltp : tp.length = o := by rw [htp]; simp
      have lls : ls.length = o := by rw [hls]; simp
      rw [← htp] at c4
      rw [← hls] at c5
      have c6 : ∀ δ : DEnv, 11 < δ.length → δ[12]? = some (some (.val (.lst (nums tp)))) → compD (bdN 11) (eT (e2 oGt (e2 oIx (eVar 12) (eVar 11)) (eC (.int 0)))) (eVar 11) δ (nums (ir 0 o)) = .ok (nums ((ir 0 o).filter fun i => decide (0 < at_ tp i))) := fun δ d1 d2 => comp_filter _ _ fun i hi => by
        have := mem_ir.mp hi
        simp [d1, d2, atI_ints tp i (by omega) (by omega)]
      have c7 : ∀ δ : DEnv, 11 < δ.length → δ[14]? = some (some (.val (.lst (nums ls)))) → compD (bdN 11) (eT (e2 oEq (e2 oIx (eVar 14) (eVar 11)) (eC (.int 0)))) (eVar 11) δ (nums (ir 0 o)) = .ok (nums ((ir 0 o).filter fun i => decide (at_ ls i = 0))) := fun δ d1 d2 => comp_filter _ _ fun i hi => by
        have := mem_ir.mp hi
        simp [d1, d2, atI_ints ls i (by omega) (by omega)]
      obtain ⟨m0, hm0⟩ : ∃ m0, m0 = (ir 0 o).filter fun i => decide (at_ r i % sh = 1) := ⟨_, rfl⟩
      rw [← hm0] at c1
      have ab0 : m0.Pairwise (· < ·) ∧ ∀ y ∈ m0, In o y := by
        rw [hm0]
        exact ⟨(ir_asc 0 o).filter _, fun y hy => by have := mem_ir.mp (List.mem_filter.mp hy).1; exact ⟨this.1, by omega⟩⟩
      have s1 : ∃ m1 : List Int, (m1.Pairwise (· < ·) ∧ ∀ y ∈ m1, In o y) ∧ ∀ δ : DEnv, 14 < δ.length → δ[3]? = some (some (.val (.int o))) → δ[4]? = some (some (.val (.int way))) → δ[10]? = some (some (.val (.lst (nums m0)))) → δ[12]? = some (some (.val (.lst (nums tp)))) → sIf (eT (e2 oEq (eVar 4) (eC (.int 2)))) (sSetF 10 (fComp (eRng1 (eVar 3)) [11] (bdN 11) (eT (e2 oGt (e2 oIx (eVar 12) (eVar 11)) (eC (.int 0)))) (eVar 11))) sNil δ = .ok (.nx (δ.set 10 (some (.val (.lst (nums m1)))))) := by
        by_cases hc : way = 2
        · refine ⟨(ir 0 o).filter fun i => decide (0 < at_ tp i), ⟨(ir_asc 0 o).filter _, fun y hy => by have := mem_ir.mp (List.mem_filter.mp hy).1; exact ⟨this.1, by omega⟩⟩, fun δ d1 d2 d3 d4 d5 => ?_⟩
          simp [d2, d3, d5, hc, rng_nat' (show o ≤ 16777216 by omega), c6, show 11 < δ.length by omega]
        · refine ⟨m0, ab0, fun δ d1 d2 d3 d4 d5 => ?_⟩
          rw [set_at d4]
          simp [d3, hc]
      obtain ⟨m1, ab1, s1⟩ := s1
      have s2 : ∃ m2 : List Int, (m2.Pairwise (· < ·) ∧ ∀ y ∈ m2, In o y) ∧ ∀ δ : DEnv, 14 < δ.length → δ[3]? = some (some (.val (.int o))) → δ[4]? = some (some (.val (.int way))) → δ[10]? = some (some (.val (.lst (nums m1)))) → δ[14]? = some (some (.val (.lst (nums ls)))) → sIf (eT (e2 oEq (eVar 4) (eC (.int 3)))) (sSetF 10 (fComp (eRng1 (eVar 3)) [11] (bdN 11) (eT (e2 oEq (e2 oIx (eVar 14) (eVar 11)) (eC (.int 0)))) (eVar 11))) sNil δ = .ok (.nx (δ.set 10 (some (.val (.lst (nums m2)))))) := by
        by_cases hc : way = 3
        · refine ⟨(ir 0 o).filter fun i => decide (at_ ls i = 0), ⟨(ir_asc 0 o).filter _, fun y hy => by have := mem_ir.mp (List.mem_filter.mp hy).1; exact ⟨this.1, by omega⟩⟩, fun δ d1 d2 d3 d4 d5 => ?_⟩
          simp [d2, d3, d5, hc, rng_nat' (show o ≤ 16777216 by omega), c7, show 11 < δ.length by omega]
        · refine ⟨m1, ab1, fun δ d1 d2 d3 d4 d5 => ?_⟩
          rw [set_at d4]
          simp [d3, hc]
      obtain ⟨m2, ab2, s2⟩ := s2
      have s3 : ∃ m3 : List Int, SOk o m3 ∧ ∀ δ : DEnv, 14 < δ.length → δ[3]? = some (some (.val (.int o))) → δ[8]? = some (some (.val (.lst (nums r)))) → δ[10]? = some (some (.val (.lst (nums m2)))) → sIf (eT (e2 oEq (e1 oLen (eVar 10)) (eC (.int 0)))) (sSet 10 (eLst (eCons (e2 oMod (e1 oInt (e2 oIx (eVar 8) (eVar 3))) (eVar 3)) eNil))) sNil δ = .ok (.nx (δ.set 10 (some (.val (.lst (nums m3)))))) := by
        by_cases hc : m2 = []
        · refine ⟨[at_ r o % o], ⟨by simp, by simp, fun y hy => ?_⟩, fun δ d1 d2 d3 d4 => ?_⟩
          · rw [List.mem_singleton.mp hy]
            exact ⟨Int.emod_nonneg _ (by omega), Int.emod_lt_of_pos _ (by omega)⟩
          · have e := atI_ints r o (by omega) (by omega)
            simp [d2, d3, d4, hc, e, show (0 : Int) < o by omega, show 0 < o by omega, lstK_ok (show [D.int (at_ r ↑o % ↑o)].length ≤ 16777216 by simp), nums_cons]
        · refine ⟨m2, ⟨hc, ab2.1, ab2.2⟩, fun δ d1 d2 d3 d4 => ?_⟩
          rw [set_at d4]
          simp [d4, hc]
      obtain ⟨m3, ok3, s3⟩ := s3
      obtain ⟨m4, hm4⟩ : ∃ m4, m4 = m3.take (1 + room).toNat := ⟨_, rfl⟩
      have ok4 : SOk o m4 := by
        rw [hm4]
        refine ⟨fun z => ?_, ok3.asc.sublist (List.take_sublist _ _), fun y hy => ok3.ok y (List.mem_of_mem_take hy)⟩
        rcases List.take_eq_nil_iff.mp z with z | z
        · omega
        · exact ok3.ne z
      have l4 : (m4.length : Int) ≤ 1 + room := by rw [hm4, List.length_take]; omega
      have l4' : 1 ≤ m4.length := List.length_pos_iff.mpr ok4.ne
      have hz : (ts.map (bN true)).length < 16777216 := by rw [List.length_map]; omega
      have hcut : cutD (nums m3) none (some (1 + room)) = nums m4 := by rw [cutD_nums, cutD_hi _ _ (by omega), hm4]
      refine ⟨_, .inl ?_, ts ++ [m4], room - ((m4.length : Int) - 1), some (.val (.int x)), some (.val (.lst (nums r))), some (.val (.int sh)), some (.val (.lst (nums m4))), some (.val (.lst (nums tp))), some (.val (.lst (nums ls))), rfl, ?_, ?_, ?_, ?_⟩
      · unfold toldLoopB
        simp [-ev_sIf, er, ← hsh, rng_nat' (show o ≤ 16777216 by omega), c1, c4, c5, s1, s2, s3, hcut, augK_ok (oSub_int room ((m4.length : Int) - 1)), appK_ok hz, box_t]
      · simp [h1]
      · intro t ht
        rcases List.mem_append.mp ht with ht | ht
        · exact h2 t ht
        · rw [List.mem_singleton.mp ht]; exact ok4
      · omega
      · rw [List.map_append, List.sum_append, List.length_append]
        simp
        omega)
  refine ⟨ts, ?_, by simpa using h1, h2, ?_⟩
  · rw [mirD_5]
    unfold toldB
    simp [startD, rng_nat' (show ws.length ≤ 16777216 by omega), hf]
  · have : (ir 0 ws.length).length = ws.length := by simp
    omega
end DL

namespace DL
open PySem PySem.Spec PyProof.Rows L2
theorem forD_any {α : Type} {bd : Bd} {body : Sv} (en : α → D) (st : α → DEnv → DEnv) (hb : ∀ x δ, bd (en x) δ = some (st x δ)) (xs : List α) (p : α → Bool) (d : D) (I : DEnv → Prop) (δ : DEnv) (h0 : I δ)
    (hs : ∀ x ∈ xs, ∀ δ, I δ → if p x = true then body (st x δ) = .ok (.rt d) else ∃ δ2, (body (st x δ) = .ok (.nx δ2) ∨ body (st x δ) = .ok (.ct δ2)) ∧ I δ2) :
    if xs.any p = true then forD bd body (xs.map en) δ = .ok (.rt d) else ∃ δ', forD bd body (xs.map en) δ = .ok (.nx δ') ∧ I δ' := by
  have h := forD_some en st hb xs (fun x => if p x = true then some d else none) I δ h0 (fun x hx δ hI => by
    have := hs x hx δ hI
    by_cases hp : p x = true
    · rw [if_pos hp] at this ⊢; exact this
    · rw [if_neg hp] at this ⊢; exact this)
  by_cases ha : xs.any p = true
  · rw [if_pos ha]
    cases hf : xs.findSome? (fun x => if p x = true then some d else none) with
    | some e =>
      rw [hf] at h
      obtain ⟨x, _, hx⟩ := List.exists_of_findSome?_eq_some hf
      split at hx
      · cases hx; exact h
      · cases hx
    | none =>
      rw [List.findSome?_eq_none_iff] at hf
      rw [List.any_eq_true] at ha
      obtain ⟨x, hx, hp⟩ := ha
      have := hf x hx
      rw [if_pos hp] at this; cases this
  · rw [if_neg ha]
    have hf : xs.findSome? (fun x => if p x = true then some d else none) = none := by
      rw [List.findSome?_eq_none_iff]
      intro x hx
      have : ¬ p x = true := fun hp => ha (List.any_eq_true.mpr ⟨x, hx, hp⟩)
      rw [if_neg this]
    rw [hf] at h
    exact h
/-! ### told sets -/
structure TOk (o n : Nat) (ts : List (List Int)) : Prop where
  len : ts.length = n
  ok : ∀ t ∈ ts, SOk o t
  sum : (ts.map List.length).sum ≤ 24
theorem ir_nth {α β : Type} (xs : List α) (f : α → β) (dflt : α) : (ir 0 xs.length).map (fun n => f (nth xs n dflt)) = xs.map f := by
  apply List.ext_getElem
  · simp
  · intro i h1 h2
    have h3 : i < xs.length := by simpa using h2
    rw [List.getElem_map, List.getElem_map]
    unfold ir
    rw [List.getElem_map, List.getElem_range, nth_eq xs _ dflt (by omega) (by omega)]
    congr 1
    congr 1
    omega
theorem pairsOf_length (ts : List (List Int)) : (pairsOf ts).length = (ts.map List.length).sum := by
  unfold pairsOf
  rw [List.length_flatMap]
  have : (fun n => ((nth ts n []).map fun o => (o, n)).length) = fun n => (nth ts n []).length := by
    funext n; rw [List.length_map]
  rw [this, ir_nth ts List.length []]
theorem mem_pairsOf {ts : List (List Int)} {x : Int × Int} (h : x ∈ pairsOf ts) : In ts.length x.2 ∧ x.1 ∈ nth ts x.2 [] := by
  unfold pairsOf at h
  rw [List.mem_flatMap] at h
  obtain ⟨n, hn, h⟩ := h
  obtain ⟨o, ho, rfl⟩ := List.mem_map.mp h
  have := mem_ir.mp hn
  exact ⟨⟨this.1, by show n < _; omega⟩, ho⟩
theorem split_at {α : Type} (xs : List α) (k : Int) (dflt : α) (h0 : 0 ≤ k) (h1 : k < xs.length) : xs = xs.take k.toNat ++ nth xs k dflt :: xs.drop (k + 1).toNat := by
  rw [nth_eq xs k dflt h0 h1, show (k + 1).toNat = k.toNat + 1 by omega, ← List.drop_eq_getElem_cons (by omega), List.take_append_drop]
theorem TOk.put {o n : Nat} {ts : List (List Int)} (h : TOk o n ts) (k : Int) (m : List Int) (h0 : 0 ≤ k) (h1 : k < n) (hm : SOk o m) (hs : (ts.map List.length).sum + m.length ≤ 24 + (nth ts k []).length) : TOk o n (ts.take k.toNat ++ [m] ++ ts.drop (k + 1).toNat) := by
  have hl := h.len
  have e := split_at ts k [] h0 (by omega)
  have e2 := congrArg (fun l => (l.map List.length).sum) e
  simp only [List.map_append, List.map_cons, List.sum_append, List.sum_cons] at e2
  refine ⟨?_, fun t ht => ?_, ?_⟩
  · rw [List.length_append, List.length_append, List.length_take, List.length_drop]
    simp; omega
  · rcases List.mem_append.mp ht with ht | ht
    · rcases List.mem_append.mp ht with ht | ht
      · exact h.ok t (List.mem_of_mem_take ht)
      · rw [List.mem_singleton.mp ht]; exact hm
    · exact h.ok t (List.mem_of_mem_drop ht)
  · simp only [List.map_append, List.map_cons, List.map_nil, List.sum_append, List.sum_cons, List.sum_nil]
    omega
theorem ROk.of {p o : Nat} {ws : List (List (List Int))} {ts : List (List Int)} (p1 : 1 ≤ p) (p2 : p ≤ 4) (o1 : 1 ≤ o) (o2 : o ≤ 8) (w1 : 1 ≤ ws.length) (w2 : ws.length ≤ 8) (w : ∀ x ∈ ws, WOk p o x) (t : TOk o ws.length ts) : ROk p o ws ts :=
  ⟨p1, p2, o1, o2, w1, w2, w, t.len, t.ok, by rw [pairsOf_length]; exact t.sum⟩
/-- a set, one more or one less -/
theorem SOk.drop {o : Nat} {t : List Int} (h : SOk o t) (x : Int) (h2 : 1 < t.length) : SOk o (t.filter fun y => !decide (y = x)) := by
  refine ⟨fun z => ?_, h.asc.filter _, fun y hy => h.ok y (List.mem_filter.mp hy).1⟩
  rw [List.filter_eq_nil_iff] at z
  match t, h2, h.asc, z with
  | [], h2, _, _ => simp at h2
  | [_], h2, _, _ => simp at h2
  | a :: b :: r, _, asc, z =>
    have ha := z a (by simp)
    have hb := z b (by simp)
    simp at ha hb
    have := (List.pairwise_cons.mp asc).1 b (by simp)
    omega
theorem srt_strict {l : List Int} (h : l.Nodup) : (srt l).Pairwise (· < ·) := by
  have hn : (srt l).Nodup := (srt_perm l).nodup_iff.mpr h
  exact (List.Pairwise.and (srt_sorted l) hn).imp (fun h => by have := h.1; have := h.2; omega)
theorem SOk.add {o : Nat} {t : List Int} (h : SOk o t) (x : Int) (hx : In o x) (h2 : x ∉ t) : SOk o (srt (t ++ [x])) := by
  have hn : (t ++ [x]).Nodup := by
    rw [List.nodup_append]
    exact ⟨h.asc.imp (fun h => by omega), by simp, fun a ha b hb => by simp at hb; subst hb; intro e; exact h2 (e ▸ ha)⟩
  refine ⟨fun z => ?_, srt_strict hn, fun y hy => ?_⟩
  · have := (srt_perm (t ++ [x])).length_eq
    rw [z] at this; simp at this
  · have := (srt_perm (t ++ [x])).mem_iff.mp hy
    rcases List.mem_append.mp this with hy | hy
    · exact h.ok y hy
    · rw [List.mem_singleton.mp hy]; exact hx
theorem srt_length (l : List Int) : (srt l).length = l.length := (srt_perm l).length_eq
@[simp] theorem atI2_0 (a b : D) : L2.atI [a, b] 0 = some a := id rfl
@[simp] theorem atI2_1 (a b : D) : L2.atI [a, b] 1 = some b := id rfl
theorem oAdd_tup {xs ys : List D} (h : xs.length + ys.length ≤ 16777216) : oAdd (.tup xs) (.tup ys) = some (.tup (xs ++ ys)) := if_pos h
theorem oAdd_lst {xs ys : List D} (h : xs.length + ys.length ≤ 16777216) : oAdd (.lst xs) (.lst ys) = some (.lst (xs ++ ys)) := if_pos h
@[simp] theorem oIn_box (b : Bool) (x : Int) (l : List Int) : oIn (.int x) (bN b l) = some (.bl (decide (x ∈ l))) := by cases b; exact oIn_lst x l; exact oIn_tup x l
@[simp] theorem oNotIn_box (b : Bool) (x : Int) (l : List Int) : oNotIn (.int x) (bN b l) = some (.bl (!decide (x ∈ l))) := by cases b; exact oNotIn_lst x l; exact oNotIn_tup x l
/-! ### a rule's attributes -/
section
variable (p o : Nat) (ws : List (List (List Int))) (ts : List (List Int))
theorem rf_people : oFld ["Rule"] "people" (ruleD p o ws ts) = some (.int p) := rfl
theorem rf_outcomes : oFld ["Rule"] "outcomes" (ruleD p o ws ts) = some (.int o) := rfl
theorem rf_worlds : oFld ["Rule"] "worlds" (ruleD p o ws ts) = some (bWs true true true ws) := rfl
theorem rf_told : oFld ["Rule"] "told" (ruleD p o ws ts) = some (bW true true ts) := rfl
theorem rf_pairs : oFld ["Rule"] "pairs" (ruleD p o ws ts) = some (.tup ((pairsOf ts).map encP)) := rfl
end
/-! ### lower -/
def lowerB : Sv := (sRet (e1 oTuple (eOf (fComp (eRng1 (e1 oLen (eVar 0))) [2] (bdN 2) (eT (e2 oLe (e2 oIx (eVar 0) (eVar 2)) (e2 oIx (eVar 0) (eVar 1)))) (eVar 2)))))
theorem lower_ok (b : Bool) (L : List Int) (o : Int) (ho : In L.length o) (hn : L.length ≤ 1000) : mirD 3 2 lowerB [bN b L, .int o] = .ok (.tup (nums ((ir 0 L.length).filter fun x => decide (at_ L x ≤ at_ L o)))) := by
  unfold lowerB
  rw [mirD_2]
  have c := comp_filter (i := 2) (tt := (eT (e2 oLe (e2 oIx (eVar 0) (eVar 2)) (e2 oIx (eVar 0) (eVar 1))))) (te := eVar 2) (δ := [some (.val (bN b L)), some (.val (.int o)), none]) (ir 0 L.length) (fun x => decide (at_ L x ≤ at_ L o)) (fun x hx => by
    have := mem_ir.mp hx
    simp [atI_ints L x (by omega) (by omega), atI_ints L o ho.1 ho.2])
  simp [startD, rng_nat' (show L.length ≤ 16777216 by omega), c]
end DL

namespace DL
open PySem PySem.Spec PyProof.Rows L2
theorem pick (l : List Int) (i : Int) (lo hi : Nat) (h0 : 0 ≤ i) (h1 : i < l.length) (h : ∀ x ∈ l, (lo : Int) ≤ x ∧ x ≤ hi) : ∃ n : Nat, L2.atI (nums l) i = some (.int n) ∧ lo ≤ n ∧ n ≤ hi := by
  have e := atI_ints l i h0 h1
  have hm : at_ l i ∈ l := by
    unfold at_
    rw [List.getD_eq_getElem?_getD, List.getElem?_eq_getElem (by omega : i.toNat < l.length), Option.getD_some]
    exact List.getElem_mem _
  have := h _ hm
  refine ⟨(at_ l i).toNat, ?_, by omega, by omega⟩
  rw [e]
  congr 2
  omega
theorem ssetI_congr {xs ys : List Int} (h : ∀ z, z ∈ xs ↔ z ∈ ys) : ssetI xs = ssetI ys := by
  have p : (ssetI xs).Perm (ssetI ys) := (List.perm_ext_iff_of_nodup (ssetI_nodup xs) (ssetI_nodup ys)).mpr fun z => by rw [mem_ssetI, mem_ssetI, h z]
  exact sorted_unique p ((ssetI_asc xs).imp fun h => Int.le_of_lt h) ((ssetI_asc ys).imp fun h => Int.le_of_lt h)
theorem level_congr {xs ys : List Int} (h : ∀ z, z ∈ xs ↔ z ∈ ys) : level xs = level ys := by
  funext x
  unfold level
  rw [ssetI_congr h]
@[simp] theorem oSl_box (b : Bool) (xs : List D) (i j : Option Int) : oSl (box b xs) i j = some (box b (cutD xs i j)) := by cases b <;> rfl
/-- turned by one -/
def rotl {α : Type} (l : List α) : List α := l.drop 1 ++ l.take 1
theorem mem_rotl {α : Type} {l : List α} {x : α} : x ∈ rotl l ↔ x ∈ l := by
  unfold rotl
  rw [List.mem_append]
  conv => rhs; rw [← List.take_append_drop 1 l, List.mem_append]
  exact Or.comm
theorem rotl_len {α : Type} (l : List α) : (rotl l).length = l.length := by
  unfold rotl
  rw [List.length_append, List.length_drop, List.length_take]; omega
theorem rotl_map {α β : Type} (f : α → β) (l : List α) : (rotl l).map f = rotl (l.map f) := by
  unfold rotl
  rw [List.map_append, List.map_drop, List.map_take]
theorem dense_rotl {l : List Int} (h : dense l = l) : dense (rotl l) = rotl l := by
  unfold dense
  rw [level_congr (fun z => mem_rotl), rotl_map]
  unfold dense at h
  rw [h]
end DL

namespace DL
open PySem PySem.Spec PyProof.Rows L2
/-! ### a run of statements, from its end backwards -/
def Wp (m : M Fl) (Q : Fl → Prop) : Prop := ∃ r, m = .ok r ∧ Q r
@[simp] theorem Wp_ok (r : Fl) (Q : Fl → Prop) : Wp (.ok r) Q ↔ Q r := ⟨fun ⟨_, e, h⟩ => by cases e; exact h, fun h => ⟨r, rfl, h⟩⟩
theorem Wp.imp {m : M Fl} {P Q : Fl → Prop} (h : Wp m P) (f : ∀ r, P r → Q r) : Wp m Q := let ⟨r, e, p⟩ := h; ⟨r, e, f r p⟩
/-- goes on with P -/
def Nx (P : DEnv → Prop) : Fl → Prop
  | .nx δ => P δ
  | .ct δ => P δ
  | _ => False
@[simp] theorem Nx_nx (P : DEnv → Prop) (δ : DEnv) : Nx P (.nx δ) ↔ P δ := Iff.rfl
@[simp] theorem Nx_ct (P : DEnv → Prop) (δ : DEnv) : Nx P (.ct δ) ↔ P δ := Iff.rfl
/-- goes on with P or breaks with B -/
def Nb (P B : DEnv → Prop) : Fl → Prop
  | .nx δ => P δ
  | .ct δ => P δ
  | .bk δ => B δ
  | _ => False
@[simp] theorem Nb_nx (P B : DEnv → Prop) (δ : DEnv) : Nb P B (.nx δ) ↔ P δ := Iff.rfl
@[simp] theorem Nb_ct (P B : DEnv → Prop) (δ : DEnv) : Nb P B (.ct δ) ↔ P δ := Iff.rfl
@[simp] theorem Nb_bk (P B : DEnv → Prop) (δ : DEnv) : Nb P B (.bk δ) ↔ B δ := Iff.rfl
/-- returns what o says, else goes on with P -/
def Fs (o : Option D) (P : DEnv → Prop) : Fl → Prop
  | .nx δ => o = none ∧ P δ
  | .ct δ => o = none ∧ P δ
  | .rt d => o = some d
  | _ => False
@[simp] theorem Fs_nx (o : Option D) (P : DEnv → Prop) (δ : DEnv) : Fs o P (.nx δ) ↔ o = none ∧ P δ := Iff.rfl
@[simp] theorem Fs_ct (o : Option D) (P : DEnv → Prop) (δ : DEnv) : Fs o P (.ct δ) ↔ o = none ∧ P δ := Iff.rfl
@[simp] theorem Fs_rt (o : Option D) (P : DEnv → Prop) (d : D) : Fs o P (.rt d) ↔ o = some d := Iff.rfl
def Rt (d : D) : Fl → Prop := fun r => r = .rt d
@[simp] theorem Rt_rt (d e : D) : Rt d (.rt e) ↔ e = d := ⟨fun h => by unfold Rt at h; cases h; rfl, fun h => by rw [h]; rfl⟩
theorem runK_wp {m : M Fl} {d : D} (h : Wp m (Rt d)) : runK m = .ok d := by
  obtain ⟨r, e, h⟩ := h
  rw [e, h]; rfl
theorem Wp_seq {m : M Fl} {rest : Sv} {Q : Fl → Prop} (h : Wp m fun r => match r with | .nx δ => Wp (rest δ) Q | r => Q r) : Wp (seqK m rest) Q := by
  obtain ⟨r, e, h⟩ := h
  rw [e]
  cases r with
  | nx δ => exact h
  | rt d => exact ⟨_, rfl, h⟩
  | bk δ => exact ⟨_, rfl, h⟩
  | ct δ => exact ⟨_, rfl, h⟩
  | rx d => exact ⟨_, rfl, h⟩
section
variable {α : Type} {bd : Bd} {body rest : Sv} {Q : Fl → Prop}
/-- a loop that goes through -/
theorem Wp_acc0 (en : α → D) (st : α → DEnv → DEnv) (hb : ∀ x δ, bd (en x) δ = some (st x δ)) (xs : List α) (I : List α → DEnv → Prop) {δ : DEnv} (h0 : I [] δ)
    (hs : ∀ (p : List α) (x : α) (r : List α) (δ : DEnv), xs = p ++ x :: r → I p δ → Wp (body (st x δ)) (Nx (I (p ++ [x])))) (he : ∀ δ', I xs δ' → Q (.nx δ')) : Wp (forD bd body (xs.map en) δ) Q := by
  obtain ⟨δ', e, h⟩ := forD_acc en st hb xs I δ h0 (fun p x r δ e h => by
    obtain ⟨fl, e2, h2⟩ := hs p x r δ e h
    cases fl with
    | nx δ2 => exact ⟨δ2, .inl e2, h2⟩
    | ct δ2 => exact ⟨δ2, .inr e2, h2⟩
    | rt d => exact h2.elim
    | bk δ2 => exact h2.elim
    | rx d => exact h2.elim)
  exact ⟨_, e, he δ' h⟩
theorem Wp_acc (en : α → D) (st : α → DEnv → DEnv) (hb : ∀ x δ, bd (en x) δ = some (st x δ)) (xs : List α) (I : List α → DEnv → Prop) {δ : DEnv} (h0 : I [] δ)
    (hs : ∀ (p : List α) (x : α) (r : List α) (δ : DEnv), xs = p ++ x :: r → I p δ → Wp (body (st x δ)) (Nx (I (p ++ [x])))) (he : ∀ δ', I xs δ' → Wp (rest δ') Q) : Wp (seqK (forD bd body (xs.map en) δ) rest) Q :=
  Wp_seq (Wp_acc0 en st hb xs I h0 hs he)
/-- a loop that looks for something -/
theorem Wp_some0 (en : α → D) (st : α → DEnv → DEnv) (hb : ∀ x δ, bd (en x) δ = some (st x δ)) (xs : List α) (f : α → Option D) (I : DEnv → Prop) {δ : DEnv} (h0 : I δ)
    (hs : ∀ x ∈ xs, ∀ δ, I δ → Wp (body (st x δ)) (Fs (f x) I)) (h1 : ∀ d, xs.findSome? f = some d → Q (.rt d)) (h2 : xs.findSome? f = none → ∀ δ', I δ' → Q (.nx δ')) : Wp (forD bd body (xs.map en) δ) Q := by
  have h := forD_some (bd := bd) (body := body) en st hb xs f I δ h0 (fun x hx δ hI => by
    obtain ⟨fl, e2, h3⟩ := hs x hx δ hI
    cases fl with
    | nx δ2 => rw [h3.1]; exact ⟨δ2, .inl e2, h3.2⟩
    | ct δ2 => rw [h3.1]; exact ⟨δ2, .inr e2, h3.2⟩
    | rt d => rw [show f x = some d from h3]; exact e2
    | bk δ2 => exact h3.elim
    | rx d => exact h3.elim)
  cases hf : xs.findSome? f with
  | some d => rw [hf] at h; exact ⟨_, h, h1 d hf⟩
  | none =>
    rw [hf] at h
    obtain ⟨δ', e, h⟩ := h
    exact ⟨_, e, h2 hf δ' h⟩
theorem Wp_some (en : α → D) (st : α → DEnv → DEnv) (hb : ∀ x δ, bd (en x) δ = some (st x δ)) (xs : List α) (f : α → Option D) (I : DEnv → Prop) {δ : DEnv} (h0 : I δ)
    (hs : ∀ x ∈ xs, ∀ δ, I δ → Wp (body (st x δ)) (Fs (f x) I)) (h1 : ∀ d, xs.findSome? f = some d → Q (.rt d)) (h2 : xs.findSome? f = none → ∀ δ', I δ' → Wp (rest δ') Q) : Wp (seqK (forD bd body (xs.map en) δ) rest) Q :=
  Wp_seq (Wp_some0 en st hb xs f I h0 hs h1 h2)
/-- a loop that may break -/
theorem Wp_brk0 (en : α → D) (st : α → DEnv → DEnv) (hb : ∀ x δ, bd (en x) δ = some (st x δ)) (xs : List α) (I : List α → DEnv → Prop) (B : DEnv → Prop) {δ : DEnv} (h0 : I [] δ)
    (hs : ∀ (p : List α) (x : α) (r : List α) (δ : DEnv), xs = p ++ x :: r → I p δ → Wp (body (st x δ)) (Nb (I (p ++ [x])) B)) (he : ∀ δ', I xs δ' → Q (.nx δ')) (hB : ∀ δ', B δ' → Q (.nx δ')) : Wp (forD bd body (xs.map en) δ) Q := by
  have key : ∀ (r p : List α) (δ : DEnv), xs = p ++ r → I p δ → Wp (forD bd body (r.map en) δ) Q := by
    intro r
    induction r with
    | nil => intro p δ e h; rw [List.append_nil] at e; exact ⟨_, rfl, he δ (e ▸ h)⟩
    | cons x r ih =>
      intro p δ e h
      obtain ⟨fl, e2, h2⟩ := hs p x r δ e h
      have e3 : forD bd body ((x :: r).map en) δ = (do
          let r2 ← body (st x δ)
          match r2 with
          | .nx δ2 => forD bd body (r.map en) δ2
          | .ct δ2 => forD bd body (r.map en) δ2
          | .bk δ2 => .ok (.nx δ2)
          | .rt d => .ok (.rt d)
          | .rx d => .ok (.rx d)) := by
        rw [List.map_cons]
        show (lft (bd (en x) δ) >>= _) = _
        rw [hb, lft_some, ok_bind]
        all_goals rfl
      rw [e3, e2]
      cases fl with
      | nx δ2 => exact ih (p ++ [x]) δ2 (by rw [e, List.append_assoc]; rfl) h2
      | ct δ2 => exact ih (p ++ [x]) δ2 (by rw [e, List.append_assoc]; rfl) h2
      | bk δ2 => exact ⟨_, rfl, hB δ2 h2⟩
      | rt d => exact h2.elim
      | rx d => exact h2.elim
  exact key xs [] δ rfl h0
theorem Wp_brk (en : α → D) (st : α → DEnv → DEnv) (hb : ∀ x δ, bd (en x) δ = some (st x δ)) (xs : List α) (I : List α → DEnv → Prop) (B : DEnv → Prop) {δ : DEnv} (h0 : I [] δ)
    (hs : ∀ (p : List α) (x : α) (r : List α) (δ : DEnv), xs = p ++ x :: r → I p δ → Wp (body (st x δ)) (Nb (I (p ++ [x])) B)) (he : ∀ δ', I xs δ' → Wp (rest δ') Q) (hB : ∀ δ', B δ' → Wp (rest δ') Q) : Wp (seqK (forD bd body (xs.map en) δ) rest) Q :=
  Wp_seq (Wp_brk0 en st hb xs I B h0 hs he hB)
end
/-- while -/
theorem Wp_while {n : Nat} {c : EvT} {body rest : Sv} {Q : Fl → Prop} (I : Nat → DEnv → Prop) (E : DEnv → Prop) (k : Nat) {δ : DEnv} (hk : k < n) (h0 : I k δ)
    (hs : ∀ k δ, I k δ → (c δ = .ok false ∧ E δ) ∨ (c δ = .ok true ∧ ∃ k', k = k' + 1 ∧ Wp (body δ) (Nx (I k')))) (he : ∀ δ, E δ → Wp (rest δ) Q) : Wp (seqK (whileD n c body δ) rest) Q := by
  apply Wp_seq
  induction n generalizing k δ with
  | zero => omega
  | succ n ih =>
    unfold whileD
    rcases hs k δ h0 with ⟨e, h⟩ | ⟨e, k', rfl, fl, e2, h2⟩
    · rw [e, ok_bind]
      exact ⟨_, rfl, he δ h⟩
    · rw [e, ok_bind, if_pos rfl, e2, ok_bind]
      cases fl with
      | nx δ2 => exact ih k' (by omega) h2
      | ct δ2 => exact ih k' (by omega) h2
      | bk δ2 => exact h2.elim
      | rt d => exact h2.elim
      | rx d => exact h2.elim
/-! ### more of the evaluation -/
def nxO (o : Option DEnv) : M Fl := lft o >>= fun δ => .ok (.nx δ)
@[simp] theorem nxO_some (δ : DEnv) : nxO (some δ) = .ok (.nx δ) := id rfl
def bindK (bd : Bd) (δ : DEnv) (m : M D) : M Fl := m >>= fun d => nxO (bd d δ)
@[simp] theorem ev_sBind (bd : Bd) (a : Ev) (δ : DEnv) : sBind bd a δ = bindK bd δ (a δ) := id rfl
@[simp] theorem bindK_ok (bd : Bd) (δ : DEnv) (d : D) : bindK bd δ (.ok d) = nxO (bd d δ) := id rfl
@[simp] theorem bd2 (i j : Nat) (a b : D) (δ : DEnv) : bdT (bdLen 2 (bdCons (bdN i) (bdCons (bdN j) bdNil))) (.tup [a, b]) δ = some ((δ.set i (some (.val a))).set j (some (.val b))) := id rfl
@[simp] theorem bd2l (i j : Nat) (a b : D) (δ : DEnv) : bdT (bdLen 2 (bdCons (bdN i) (bdCons (bdN j) bdNil))) (.lst [a, b]) δ = some ((δ.set i (some (.val a))).set j (some (.val b))) := id rfl
def callKK (n l : Nat) (m : Mir) (r s : M (List D)) : M D := r >>= fun ds => s >>= fun es => if ds.length = n ∧ es.length = l then m (ds ++ es) else stk
@[simp] theorem ev_eCallK (n l : Nat) (m : Mir) (as ks : EvA) (δ : DEnv) : eCallK n l m as ks δ = callKK n l m (as δ) (ks δ) := id rfl
@[simp] theorem callKK_22 (m : Mir) (a b c d : D) : callKK 2 2 m (.ok [a, b]) (.ok [c, d]) = m [a, b, c, d] := id rfl
def runXK (m : M Fl) : M D := match m with
  | .ok (.nx _) => .ok .non
  | .ok (.rt d) => .ok d
  | .ok (.rx d) => .ok d
  | .ok _ => stk
  | .error e => .error e
theorem mirX_1 (n : Nat) (sv : Sv) (a : D) : mirX n 1 sv [a] = runXK (sv (startD n [a])) := id rfl
theorem mirX_2 (n : Nat) (sv : Sv) (a b : D) : mirX n 2 sv [a, b] = runXK (sv (startD n [a, b])) := id rfl
theorem mirX_3 (n : Nat) (sv : Sv) (a b c : D) : mirX n 3 sv [a, b, c] = runXK (sv (startD n [a, b, c])) := id rfl
def Rx (d : D) : Fl → Prop := fun r => r = .rx d
@[simp] theorem Rx_rx (d e : D) : Rx d (.rx e) ↔ e = d := ⟨fun h => by unfold Rx at h; cases h; rfl, fun h => by rw [h]; rfl⟩
theorem runXK_wp {m : M Fl} {d : D} (h : Wp m (Rx d)) : runXK m = .ok d := by
  obtain ⟨r, e, h⟩ := h
  rw [e, h]; rfl
def retXK (r : Option (List D)) (s : M (List D)) : M Fl := lft r >>= fun ds0 => s >>= fun ds => if ds.length + 1 ≤ sizeLine then .ok (.rx (.tup (mtl ds0 :: ds))) else stk
@[simp] theorem ev_sRetX (i : Nat) (as : EvA) (δ : DEnv) : sRetX i as δ = retXK (ownAt i δ) (as δ) := id rfl
theorem retXK_ok {ds0 ds : List D} (h : ds.length + 1 ≤ 16777216) : retXK (some ds0) (.ok ds) = .ok (.rx (.tup (mtl ds0 :: ds))) := by
  show (if _ then _ else _) = _
  exact if_pos h
def bindXK (is : List Nat) (δ : DEnv) (m : M D) : M Fl := m >>= fun d => match d with
  | .tup ds => do
    let δ' ← lft (if ds.length = is.length then bindX is ds δ else none)
    .ok (.nx δ')
  | _ => stk
@[simp] theorem ev_sBindX (is : List Nat) (a : Ev) (δ : DEnv) : sBindX is a δ = bindXK is δ (a δ) := id rfl
theorem bindXK_2 {i j : Nat} {δ : DEnv} {ds : List D} {b : D} (h1 : hasMs ds = false) (h2 : cellX b = some (.val b)) : bindXK [i, j] δ (.ok (.tup [mtl ds, b])) = .ok (.nx ((δ.set i (some (.own ds))).set j (some (.val b)))) := by
  show (lft (if [mtl ds, b].length = [i, j].length then bindX [i, j] [mtl ds, b] δ else none) >>= fun δ' => (Except.ok (Fl.nx δ') : M Fl)) = _
  have e : cellX (mtl ds) = some (.own ds) := by
    show some (if hasMs ds then Cell.tre ds else .own ds) = _
    rw [h1]; rfl
  have : bindX [i, j] [mtl ds, b] δ = some ((δ.set i (some (.own ds))).set j (some (.val b))) := by
    unfold bindX
    rw [e]
    show bindX [j] [b] _ = _
    unfold bindX
    rw [h2]
    rfl
  rw [this]; rfl
@[simp] theorem inB_bl (b : Bool) (ds : List Bool) : inB (.bl b) (.lst (ds.map .bl)) = some (decide (b ∈ ds)) := by
  show (if allBl (ds.map .bl) then some (decide (D.bl b ∈ ds.map .bl)) else none) = _
  rw [if_pos (by unfold allBl; rw [List.all_eq_true]; intro d hd; obtain ⟨c, _, rfl⟩ := List.mem_map.mp hd; rfl)]
  congr 1
  rw [decide_eq_decide]
  constructor
  · intro h
    obtain ⟨c, hc, e⟩ := List.mem_map.mp h
    cases e; exact hc
  · exact fun h => List.mem_map.mpr ⟨b, h, rfl⟩
@[simp] theorem oInB_bl (b : Bool) (ds : List Bool) : oInB (.bl b) (.lst (ds.map .bl)) = some (.bl (decide (b ∈ ds))) := by unfold oInB; rw [inB_bl]; rfl
@[simp] theorem oNotInB_bl (b : Bool) (ds : List Bool) : oNotInB (.bl b) (.lst (ds.map .bl)) = some (.bl (!decide (b ∈ ds))) := by unfold oNotInB; rw [inB_bl]; rfl
theorem false_nin {α : Type} (xs : List α) (p : α → Bool) : (!decide (false ∈ xs.map p)) = xs.all p := by
  induction xs with
  | nil => rfl
  | cons x xs ih =>
    rw [List.map_cons, List.all_cons, ← ih]
    cases p x <;> simp
theorem true_in {α : Type} (xs : List α) (p : α → Bool) : decide (true ∈ xs.map p) = xs.any p := by
  induction xs with
  | nil => rfl
  | cons x xs ih =>
    rw [List.map_cons, List.any_cons, ← ih]
    cases p x <;> simp
/-- comprehensions, told by their rows -/
theorem comp_en {α : Type} {i : Nat} {tt : EvT} {te : Ev} {δ : DEnv} (en : α → D) (xs : List α) (p : α → Bool) (f : α → D)
    (h : ∀ x ∈ xs, tt (δ.set i (some (.val (en x)))) = .ok (p x) ∧ (p x = true → te (δ.set i (some (.val (en x)))) = .ok (f x))) : compD (bdN i) tt te δ (xs.map en) = .ok ((xs.filter p).map f) :=
  comp_gen en p f xs fun x hx => ⟨_, rfl, h x hx⟩
section
/-! a loop over one name -/
variable {α : Type} {i : Nat} {body rest : Sv} {Q : Fl → Prop}
theorem Wp_accN (en : α → D) (xs : List α) (I : List α → DEnv → Prop) {δ : DEnv} (h0 : I [] δ)
    (hs : ∀ (p : List α) (x : α) (r : List α) (δ : DEnv), xs = p ++ x :: r → I p δ → Wp (body (δ.set i (some (.val (en x))))) (Nx (I (p ++ [x])))) (he : ∀ δ', I xs δ' → Wp (rest δ') Q) : Wp (seqK (forD (bdN i) body (xs.map en) δ) rest) Q :=
  Wp_acc en (fun x δ => δ.set i (some (.val (en x)))) (fun _ _ => rfl) xs I h0 hs he
theorem Wp_acc0N (en : α → D) (xs : List α) (I : List α → DEnv → Prop) {δ : DEnv} (h0 : I [] δ)
    (hs : ∀ (p : List α) (x : α) (r : List α) (δ : DEnv), xs = p ++ x :: r → I p δ → Wp (body (δ.set i (some (.val (en x))))) (Nx (I (p ++ [x])))) (he : ∀ δ', I xs δ' → Q (.nx δ')) : Wp (forD (bdN i) body (xs.map en) δ) Q :=
  Wp_acc0 en (fun x δ => δ.set i (some (.val (en x)))) (fun _ _ => rfl) xs I h0 hs he
theorem Wp_someN (en : α → D) (xs : List α) (f : α → Option D) (I : DEnv → Prop) {δ : DEnv} (h0 : I δ)
    (hs : ∀ x ∈ xs, ∀ δ, I δ → Wp (body (δ.set i (some (.val (en x))))) (Fs (f x) I)) (h1 : ∀ d, xs.findSome? f = some d → Q (.rt d)) (h2 : xs.findSome? f = none → ∀ δ', I δ' → Wp (rest δ') Q) : Wp (seqK (forD (bdN i) body (xs.map en) δ) rest) Q :=
  Wp_some en (fun x δ => δ.set i (some (.val (en x)))) (fun _ _ => rfl) xs f I h0 hs h1 h2
theorem Wp_some0N (en : α → D) (xs : List α) (f : α → Option D) (I : DEnv → Prop) {δ : DEnv} (h0 : I δ)
    (hs : ∀ x ∈ xs, ∀ δ, I δ → Wp (body (δ.set i (some (.val (en x))))) (Fs (f x) I)) (h1 : ∀ d, xs.findSome? f = some d → Q (.rt d)) (h2 : xs.findSome? f = none → ∀ δ', I δ' → Q (.nx δ')) : Wp (forD (bdN i) body (xs.map en) δ) Q :=
  Wp_some0 en (fun x δ => δ.set i (some (.val (en x)))) (fun _ _ => rfl) xs f I h0 hs h1 h2
/-- returns d if b, else goes on with P -/
def Fb (b : Bool) (d : D) (P : DEnv → Prop) : Fl → Prop
  | .nx δ => b = false ∧ P δ
  | .ct δ => b = false ∧ P δ
  | .rt e => b = true ∧ e = d
  | _ => False
@[simp] theorem Fb_nx (b : Bool) (d : D) (P : DEnv → Prop) (δ : DEnv) : Fb b d P (.nx δ) ↔ b = false ∧ P δ := Iff.rfl
@[simp] theorem Fb_ct (b : Bool) (d : D) (P : DEnv → Prop) (δ : DEnv) : Fb b d P (.ct δ) ↔ b = false ∧ P δ := Iff.rfl
@[simp] theorem Fb_rt (b : Bool) (d e : D) (P : DEnv → Prop) : Fb b d P (.rt e) ↔ b = true ∧ e = d := Iff.rfl
theorem findSome_ite {β γ : Type} (xs : List β) (p : β → Bool) (d : γ) : xs.findSome? (fun x => if p x = true then some d else none) = if xs.any p = true then some d else none := by
  induction xs with
  | nil => rfl
  | cons x xs ih =>
    rw [List.findSome?_cons]
    cases hp : p x with
    | true => simp [hp]
    | false => simp [hp, ih]
theorem findSome_find {β γ : Type} (xs : List β) (p : β → Bool) (g : β → γ) : xs.findSome? (fun x => if p x = true then some (g x) else none) = (xs.find? p).map g := by
  induction xs with
  | nil => rfl
  | cons x xs ih =>
    rw [List.findSome?_cons, List.find?_cons]
    cases hp : p x with
    | true => simp
    | false => simp [ih]
theorem Wp_anyN (en : α → D) (xs : List α) (p : α → Bool) (d : D) (I : DEnv → Prop) {δ : DEnv} (h0 : I δ)
    (hs : ∀ x ∈ xs, ∀ δ, I δ → Wp (body (δ.set i (some (.val (en x))))) (Fb (p x) d I)) (h1 : xs.any p = true → Q (.rt d)) (h2 : xs.any p = false → ∀ δ', I δ' → Wp (rest δ') Q) : Wp (seqK (forD (bdN i) body (xs.map en) δ) rest) Q :=
  Wp_someN en xs (fun x => if p x = true then some d else none) I h0 (fun x hx δ hI => (hs x hx δ hI).imp fun r h => by
      cases r with
      | nx δ => exact ⟨by rw [h.1]; rfl, h.2⟩
      | ct δ => exact ⟨by rw [h.1]; rfl, h.2⟩
      | rt e => show (if _ then _ else _) = _; rw [h.1, h.2]; rfl
      | bk δ => exact h.elim
      | rx d => exact h.elim)
    (fun e he => by
      rw [findSome_ite] at he
      split at he
      · rename_i ha; cases he; exact h1 ha
      · cases he) (fun he δ' hI => by
      rw [findSome_ite] at he
      split at he
      · cases he
      · rename_i ha; exact h2 (by simpa using ha) δ' hI)
end
section
variable (a b c d e f : D)
theorem oAdd_small {xs ys : List D} (h : xs.length + ys.length ≤ 10) : oAdd (.tup xs) (.tup ys) = some (.tup (xs ++ ys)) := oAdd_tup (Nat.le_trans h (by decide))
@[simp] theorem oAdd22 : oAdd (.tup [a, b]) (.tup [c, d]) = some (.tup [a, b, c, d]) := oAdd_small (xs := [a, b]) (ys := [c, d]) (by simp)
@[simp] theorem oAdd42 : oAdd (.tup [a, b, c, d]) (.tup [e, f]) = some (.tup [a, b, c, d, e, f]) := oAdd_small (xs := [a, b, c, d]) (ys := [e, f]) (by simp)
@[simp] theorem oAdd12 : oAdd (.tup [a]) (.tup [b, c]) = some (.tup [a, b, c]) := oAdd_small (xs := [a]) (ys := [b, c]) (by simp)
@[simp] theorem oAdd31 : oAdd (.tup [a, b, c]) (.tup [d]) = some (.tup [a, b, c, d]) := oAdd_small (xs := [a, b, c]) (ys := [d]) (by simp)
@[simp] theorem oAdd32 : oAdd (.tup [a, b, c]) (.tup [d, e]) = some (.tup [a, b, c, d, e]) := oAdd_small (xs := [a, b, c]) (ys := [d, e]) (by simp)
@[simp] theorem oAdd21 : oAdd (.tup [a, b]) (.tup [c]) = some (.tup [a, b, c]) := oAdd_small (xs := [a, b]) (ys := [c]) (by simp)
theorem tupK_small {xs : List D} (h : xs.length ≤ 10) : tupK (.ok xs) = .ok (.tup xs) := tupK_ok (Nat.le_trans h (by decide))
theorem lstK_small {xs : List D} (h : xs.length ≤ 10) : lstK (.ok xs) = .ok (.lst xs) := lstK_ok (Nat.le_trans h (by decide))
@[simp] theorem tupK1 : tupK (.ok [a]) = .ok (.tup [a]) := tupK_small (by simp)
@[simp] theorem tupK2 : tupK (.ok [a, b]) = .ok (.tup [a, b]) := tupK_small (by simp)
@[simp] theorem tupK3 : tupK (.ok [a, b, c]) = .ok (.tup [a, b, c]) := tupK_small (by simp)
@[simp] theorem tupK4 : tupK (.ok [a, b, c, d]) = .ok (.tup [a, b, c, d]) := tupK_small (by simp)
@[simp] theorem tupK5 : tupK (.ok [a, b, c, d, e]) = .ok (.tup [a, b, c, d, e]) := tupK_small (by simp)
@[simp] theorem tupK6 : tupK (.ok [a, b, c, d, e, f]) = .ok (.tup [a, b, c, d, e, f]) := tupK_small (by simp)
@[simp] theorem lstK1 : lstK (.ok [a]) = .ok (.lst [a]) := lstK_small (by simp)
@[simp] theorem lstK2 : lstK (.ok [a, b]) = .ok (.lst [a, b]) := lstK_small (by simp)
@[simp] theorem lstK3 : lstK (.ok [a, b, c]) = .ok (.lst [a, b, c]) := lstK_small (by simp)
@[simp] theorem flstK1 : flstK (.ok [a]) = .ok [a] := flstK_ok (by simp)
end
end DL

namespace DL
open PySem PySem.Spec PyProof.Rows L2
def pb_is_threat : Sv :=
    (sSeq (sIf (eT (e2 oIn (eVar 1) (e2 oIx (e1 (oFld ["Rule"] "told") (eVar 0)) (eVar 2)))) (sRet (eC (.bl false))) sNil)
    (sSeq (sFor (eRng1 (e1 (oFld ["Rule"] "people") (eVar 0))) (bdN 5) (sIf (tAndD (eT (e2 oNe (eVar 5) (eVar 4))) (tNotD (eT (eCall 3 (mirD 4 3 onTopB) (eCons (e2 oIx (e2 oIx (e1 (oFld ["Rule"] "worlds") (eVar 0)) (eVar 2)) (eVar 5)) (eCons (eVar 1) (eCons (eVar 3) eNil))))))) (sRet (eC (.bl false))) sNil))
    (sRet (eC (.bl true)))))
def p_is_threat : Mir := mirD 6 5 pb_is_threat
def pb_threats : Sv :=
    (sSeq (sOwn 3 (fLst eNil))
    (sSeq (sFor (eIter (eVar 1)) (bdN 4) (sFor (eRng1 (e1 oLen (e1 (oFld ["Rule"] "worlds") (eVar 0)))) (bdN 5) (sIf (eT (eCall 5 p_is_threat (eCons (eVar 0) (eCons (eVar 4) (eCons (eVar 5) (eCons (eVar 1) (eCons (eVar 2) eNil))))))) (sApp 3 (eTup (eCons (eVar 4) (eCons (eVar 5) eNil)))) sNil)))
    (sFrz 3 (sRet (eVar 3)))))
def p_threats : Mir := mirD 6 3 pb_threats
def pb_without : Sv :=
    (sRet (e1 oTuple (eOf (fComp (eIter (eVar 0)) [2] (bdN 2) (eT (e2 oNe (eVar 2) (eVar 1))) (eVar 2)))))
def p_without : Mir := mirD 3 2 pb_without
def pb_strike_allowed : Sv :=
    (sSeq (sOwn 1 (fLst eNil))
    (sSeq (sSet 2 (e1 oTuple (eOf (eRng1 (e1 (oFld ["Rule"] "outcomes") (eVar 0))))))
    (sSeq (sSet 3 (eCall 3 p_threats (eCons (eVar 0) (eCons (eVar 2) (eCons (eC (.int (-1))) eNil)))))
    (sSeq (whileD 1000000 (eT (e2 oGt (e1 oLen (eVar 3)) (eC (.int 0)))) (sSeq (sBind (bdT (bdLen 2 (bdCons (bdN 4) (bdCons (bdN 5) bdNil)))) (e2 oIx (eVar 3) (eC (.int 0))))
    (sSeq (sApp 1 (eTup (eCons (eC (.str "allowed")) (eCons (eVar 4) (eCons (eVar 5) eNil)))))
    (sSeq (sSet 2 (eCall 2 p_without (eCons (eVar 2) (eCons (eVar 4) eNil))))
    (sSet 3 (eCall 3 p_threats (eCons (eVar 0) (eCons (eVar 2) (eCons (eC (.int (-1))) eNil)))))))))
    (sRetX 1 (eCons (eVar 2) eNil))))))
def p_strike_allowed : Mir := mirX 6 1 pb_strike_allowed
def pb_Book___init__ : Sv :=
    (sSeq (sFldS ["Book"] 0 "allowed" (e1 oTuple (eVar 1)))
    (sFldS ["Book"] 0 "reach" (e1 oTuple (eOf (fComp (eIter (eVar 2)) [4] (bdN 4) tYesD (e1 oTuple (eOf (fComp (eIter (eVar 4)) [3] (bdN 3) tYesD (e1 oTuple (eVar 3))))))))))
def p_Book___init__ : MirI := mirI 5 2 "Book" pb_Book___init__
def pb_lone_book : Sv :=
    (sSeq (sSet 1 (eOf (fSortedSet (eOf (fComp (eIter (e1 (oFld ["Rule"] "pairs") (eVar 0))) [2] (bdN 2) tYesD (e2 oIx (eVar 2) (eC (.int 0))))))))
    (sRet (eMake "Book" 2 p_Book___init__ (eCons (eVar 1) (eCons (eOf (fComp (eIter (e1 (oFld ["Rule"] "pairs") (eVar 0))) [2] (bdN 2) tYesD (eLst (eCons (eVar 1) eNil)))) eNil)))))
def p_lone_book : Mir := mirD 3 1 pb_lone_book
def pb_liked_at_most : Sv :=
    (sSeq (sBind (bdT (bdLen 2 (bdCons (bdN 4) (bdCons (bdN 5) bdNil)))) (eVar 2))
    (sSeq (sSet 6 (e2 oIx (e2 oIx (e1 (oFld ["Rule"] "worlds") (eVar 0)) (eVar 5)) (eVar 3)))
    (sRet (e1 oTuple (eOf (fComp (eIter (eVar 1)) [7] (bdN 7) (eT (e2 oLe (e2 oIx (eVar 6) (eVar 7)) (e2 oIx (eVar 6) (eVar 4)))) (eVar 7)))))))
def p_liked_at_most : Mir := mirD 8 4 pb_liked_at_most
def pb_first_threat : Sv :=
    (sSeq (sFor (eIter (eVar 1)) (bdT (bdLen 2 (bdCons (bdN 4) (bdCons (bdN 5) bdNil)))) (sIf (tAndD (eT (e2 oIn (eVar 4) (eVar 2))) (eT (eCall 3 (mirD 4 3 onTopB) (eCons (e2 oIx (e2 oIx (e1 (oFld ["Rule"] "worlds") (eVar 0)) (eVar 5)) (eVar 3)) (eCons (eVar 4) (eCons (eVar 2) eNil)))))) (sRet (eTup (eCons (eVar 4) (eCons (eVar 5) eNil)))) sNil))
    (sRet (eC .non)))
def p_first_threat : Mir := mirD 6 4 pb_first_threat
def pb_strike_reach : Sv :=
    (sSeq (sOwn 4 (fLst eNil))
    (sSeq (sSet 5 (eVar 2))
    (sSeq (sSet 6 (eCall 4 p_first_threat (eCons (eVar 0) (eCons (eVar 1) (eCons (eVar 5) (eCons (eVar 3) eNil))))))
    (sSeq (whileD 1000000 (eT (e2 oIsNot (eVar 6) (eC .non))) (sSeq (sApp 4 (eVar 6))
    (sSeq (sSet 5 (eCall 2 p_without (eCons (eVar 5) (eCons (e2 oIx (eVar 6) (eC (.int 0))) eNil))))
    (sSet 6 (eCall 4 p_first_threat (eCons (eVar 0) (eCons (eVar 1) (eCons (eVar 5) (eCons (eVar 3) eNil)))))))))
    (sFrz 4 (sRet (eTup (eCons (eVar 4) (eCons (eVar 5) eNil)))))))))
def p_strike_reach : Mir := mirD 7 4 pb_strike_reach
def pb_greatest : Sv :=
    (sSeq (sIf (eT (e2 oEq (e1 (oFld ["Rule"] "people") (eVar 0)) (eC (.int 1)))) (sRet (eTup (eCons (eTup eNil) (eCons (eCall 1 p_lone_book (eCons (eVar 0) eNil)) eNil)))) sNil)
    (sSeq (sBindX [1, 2] (eCall 1 p_strike_allowed (eCons (eVar 0) eNil)))
    (sSeq (sSetF 3 (fComp (eRng1 (e1 (oFld ["Rule"] "people") (eVar 0))) [4] (bdN 4) tYesD (eCall 3 p_threats (eCons (eVar 0) (eCons (eVar 2) (eCons (eVar 4) eNil))))))
    (sSeq (sOwn 5 (fLst eNil))
    (sSeq (sFor (eIter (e1 (oFld ["Rule"] "pairs") (eVar 0))) (bdN 6) (sSeq (sOwn 7 (fLst eNil))
    (sSeq (sFor (eRng1 (e1 (oFld ["Rule"] "people") (eVar 0))) (bdN 4) (sSeq (sSet 8 (eCall 4 p_liked_at_most (eCons (eVar 0) (eCons (eVar 2) (eCons (eVar 6) (eCons (eVar 4) eNil))))))
    (sSeq (sBind (bdT (bdLen 2 (bdCons (bdN 9) (bdCons (bdN 10) bdNil)))) (eCall 4 p_strike_reach (eCons (eVar 0) (eCons (e2 oIx (eVar 3) (eVar 4)) (eCons (eVar 8) (eCons (eVar 4) eNil))))))
    (sSeq (sFor (eIter (eVar 9)) (bdN 11) (sApp 1 (e2 oAdd (e2 oAdd (eTup (eCons (eC (.str "reach")) (eCons (eVar 4) eNil))) (eVar 6)) (eVar 11))))
    (sApp 7 (eVar 10))))))
    (sFrz 7 (sApp 5 (eVar 7))))))
    (sFrz 5 (sRet (eTup (eCons (e1 oTuple (eVarB 1)) (eCons (eMake "Book" 2 p_Book___init__ (eCons (eVar 2) (eCons (eVar 5) eNil))) eNil))))))))))
def p_greatest : Mir := mirD 12 1 pb_greatest
def pb_lost_reason : Sv :=
    (sSeq (sFor (eRng1 (e1 oLen (e1 (oFld ["Rule"] "pairs") (eVar 0)))) (bdN 2) (sFor (eIter (e2 oIx (e1 (oFld ["Book"] "reach") (eVar 1)) (eVar 2))) (bdN 3) (sIf (eT (e2 oNotIn (e2 oIx (e2 oIx (e1 (oFld ["Rule"] "pairs") (eVar 0)) (eVar 2)) (eC (.int 0))) (eVar 3))) (sRet (e2 oAdd (eTup (eCons (eC (.str "lost")) eNil)) (e2 oIx (e1 (oFld ["Rule"] "pairs") (eVar 0)) (eVar 2)))) sNil)))
    (sRet (eC .non)))
def p_lost_reason : Mir := mirD 4 2 pb_lost_reason
def pb_top : Sv :=
    (sRet (e1 oTuple (eOf (fComp (eIter (eVar 1)) [2] (bdN 2) (eT (eCall 3 (mirD 4 3 onTopB) (eCons (eVar 0) (eCons (eVar 2) (eCons (eVar 1) eNil))))) (eVar 2)))))
def p_top : Mir := mirD 3 2 pb_top
def pb_alone_reason : Sv :=
    (sSeq (sFor (eRng1 (e1 oLen (e1 (oFld ["Rule"] "worlds") (eVar 0)))) (bdN 2) (sIf (eT (e2 oNe (e2 oIx (e1 (oFld ["Rule"] "told") (eVar 0)) (eVar 2)) (eCall 2 p_top (eCons (e2 oIx (e2 oIx (e1 (oFld ["Rule"] "worlds") (eVar 0)) (eVar 2)) (eC (.int 0))) (eCons (eVar 1) eNil))))) (sRet (eTup (eCons (eC (.str "alone")) (eCons (eVar 2) eNil)))) sNil))
    (sRet (eC .non)))
def p_alone_reason : Mir := mirD 3 2 pb_alone_reason
def pb_stays : Sv :=
    (sSeq (sIf (eT (e2 oIn (eVar 1) (e2 oIx (e1 (oFld ["Rule"] "told") (eVar 0)) (eVar 2)))) (sRet (eC (.bl false))) sNil)
    (sSeq (sFor (eRng1 (e1 (oFld ["Rule"] "people") (eVar 0))) (bdN 4) (sIf (tNotD (eT (eCall 3 (mirD 4 3 onTopB) (eCons (e2 oIx (e2 oIx (e1 (oFld ["Rule"] "worlds") (eVar 0)) (eVar 2)) (eVar 4)) (eCons (eVar 1) (eCons (e2 oIx (eVar 3) (eVar 4)) eNil)))))) (sRet (eC (.bl false))) sNil))
    (sRet (eC (.bl true)))))
def p_stays : Mir := mirD 5 4 pb_stays
def pb_stay_reason : Sv :=
    (sSeq (sFor (eRng1 (e1 oLen (e1 (oFld ["Rule"] "pairs") (eVar 0)))) (bdN 2) (sFor (eRng1 (e1 oLen (e1 (oFld ["Rule"] "worlds") (eVar 0)))) (bdN 3) (sIf (eT (eCall 4 p_stays (eCons (eVar 0) (eCons (e2 oIx (e2 oIx (e1 (oFld ["Rule"] "pairs") (eVar 0)) (eVar 2)) (eC (.int 0))) (eCons (eVar 3) (eCons (e2 oIx (e1 (oFld ["Book"] "reach") (eVar 1)) (eVar 2)) eNil)))))) (sRet (e2 oAdd (e2 oAdd (eTup (eCons (eC (.str "stay")) eNil)) (e2 oIx (e1 (oFld ["Rule"] "pairs") (eVar 0)) (eVar 2))) (eTup (eCons (eVar 3) eNil)))) sNil)))
    (sRet (eC .non)))
def p_stay_reason : Mir := mirD 4 2 pb_stay_reason
def pb_is_middle : Sv :=
    (sSeq (sFor (eRng1 (e1 oLen (e1 (oFld ["Rule"] "worlds") (eVar 0)))) (bdN 4) (sSeq (sBind (bdT (bdLen 2 (bdCons (bdN 5) (bdCons (bdN 6) bdNil)))) (e2 oIx (e1 (oFld ["Rule"] "worlds") (eVar 0)) (eVar 4)))
    (sIf (tAndD (eT (e2 oNotIn (eVar 1) (e2 oIx (e1 (oFld ["Rule"] "told") (eVar 0)) (eVar 4)))) (tAndD (eT (eCall 3 (mirD 4 3 onTopB) (eCons (eVar 5) (eCons (eVar 1) (eCons (eVar 2) eNil))))) (eT (eCall 3 (mirD 4 3 onTopB) (eCons (eVar 6) (eCons (eVar 1) (eCons (eVar 3) eNil))))))) (sRet (eC (.bl false))) sNil)))
    (sRet (eC (.bl true))))
def p_is_middle : Mir := mirD 7 4 pb_is_middle
def pb_middles : Sv :=
    (sSeq (sSet 4 (e2 oIx (e2 oIx (e1 (oFld ["Book"] "reach") (eVar 1)) (eVar 2)) (eC (.int 0))))
    (sSeq (sSet 5 (e2 oIx (e2 oIx (e1 (oFld ["Book"] "reach") (eVar 1)) (eVar 3)) (eC (.int 1))))
    (sRet (e1 oTuple (eOf (fComp (eIter (eVar 4)) [6] (bdN 6) (tAndD (eT (e2 oIn (eVar 6) (eVar 5))) (eT (eCall 4 p_is_middle (eCons (eVar 0) (eCons (eVar 6) (eCons (eVar 4) (eCons (eVar 5) eNil))))))) (eVar 6)))))))
def p_middles : Mir := mirD 7 4 pb_middles
def pb_middle_reason : Sv :=
    (sSeq (sFor (eRng1 (e1 oLen (e1 (oFld ["Rule"] "pairs") (eVar 0)))) (bdN 2) (sFor (eRng1 (e1 oLen (e1 (oFld ["Rule"] "pairs") (eVar 0)))) (bdN 3) (sIf (tAndD (eT (e2 oNe (eVar 2) (eVar 3))) (eT (e2 oEq (e1 oLen (eCallK 2 2 p_middles (eCons (eVar 0) (eCons (eVar 1) eNil)) (eCons (eVar 2) (eCons (eVar 3) eNil)))) (eC (.int 0))))) (sRet (e2 oAdd (e2 oAdd (eTup (eCons (eC (.str "middle")) eNil)) (e2 oIx (e1 (oFld ["Rule"] "pairs") (eVar 0)) (eVar 2))) (e2 oIx (e1 (oFld ["Rule"] "pairs") (eVar 0)) (eVar 3)))) sNil)))
    (sRet (eC .non)))
def p_middle_reason : Mir := mirD 4 2 pb_middle_reason
def pb_first_reason : Sv :=
    (sSeq (sIf (eT (e2 oEq (e1 (oFld ["Rule"] "people") (eVar 0)) (eC (.int 1)))) (sRet (eCall 2 p_alone_reason (eCons (eVar 0) (eCons (e1 (oFld ["Book"] "allowed") (eVar 1)) eNil)))) sNil)
    (sSeq (sSet 2 (eCall 2 p_lost_reason (eCons (eVar 0) (eCons (eVar 1) eNil))))
    (sSeq (sIf (eT (e2 oIs (eVar 2) (eC .non))) (sSet 2 (eCall 2 p_stay_reason (eCons (eVar 0) (eCons (eVar 1) eNil)))) sNil)
    (sSeq (sIf (tAndD (eT (e2 oIs (eVar 2) (eC .non))) (eT (e2 oEq (e1 (oFld ["Rule"] "people") (eVar 0)) (eC (.int 2))))) (sSet 2 (eCall 2 p_middle_reason (eCons (eVar 0) (eCons (eVar 1) eNil)))) sNil)
    (sRet (eVar 2))))))
def p_first_reason : Mir := mirD 3 2 pb_first_reason
def pb_Barrier___init__ : Sv :=
    (sSeq (sFldS ["Barrier"] 0 "strikes" (e1 oTuple (eOf (fComp (eIter (eVar 1)) [3] (bdN 3) tYesD (e1 oTuple (eVar 3))))))
    (sFldS ["Barrier"] 0 "reason" (e1 oTuple (eVar 2))))
def p_Barrier___init__ : MirI := mirI 4 2 "Barrier" pb_Barrier___init__
def pb_verdict : Sv :=
    (sSeq (sBind (bdT (bdLen 2 (bdCons (bdN 1) (bdCons (bdN 2) bdNil)))) (eCall 1 p_greatest (eCons (eVar 0) eNil)))
    (sSeq (sSet 3 (eCall 2 p_first_reason (eCons (eVar 0) (eCons (eVar 2) eNil))))
    (sSeq (sIf (eT (e2 oIs (eVar 3) (eC .non))) (sRet (eVar 2)) sNil)
    (sRet (eMake "Barrier" 2 p_Barrier___init__ (eCons (eVar 1) (eCons (eVar 3) eNil)))))))
def p_verdict : Mir := mirD 4 1 pb_verdict
end DL

namespace DL
open PySem PySem.Spec PyProof.Rows L2
/-! ### on_top, threats -/
theorem any_not {α : Type} (xs : List α) (p : α → Bool) : (xs.any fun i => !p i) = !xs.all p := by
  rw [List.all_eq_not_any_not, Bool.not_not]
theorem Rt_f {b : Bool} (h : (!b) = true) : Rt (.bl b) (.rt (.bl false)) := by
  cases b
  · exact (Rt_rt _ _).mpr rfl
  · cases h
theorem Rt_t {b : Bool} (h : (!b) = false) : Rt (.bl b) (.rt (.bl true)) := by
  cases b
  · cases h
  · exact (Rt_rt _ _).mpr rfl
/-- a person's liking in a world -/
def lk (ws : List (List (List Int))) (n i : Int) : List Int := nth (nth ws n []) i []
def onT (L M : List Int) (o : Int) : Bool := M.all fun m => decide (at_ L m ≤ at_ L o)
theorem onT_any (L M : List Int) (o : Int) : (M.any fun m => decide (at_ L o < at_ L m)) = !onT L M o := by
  unfold onT
  rw [← Bool.not_not (M.any _), List.not_any_eq_all_not]
  congr 2
  funext m
  by_cases h : at_ L o < at_ L m
  · simp [h]
  · simp [h]; omega
theorem onTop_bx (b c : Bool) (L M : List Int) (o : Int) (ho : In L.length o) (hM : ∀ m ∈ M, In L.length m) : mirD 4 3 onTopB [bN b L, .int o, bN c M] = .ok (.bl (onT L M o)) := by
  rw [mirD_3]
  apply runK_wp
  unfold onTopB
  simp only [startD, ev_sSeq, ev_sFor, ev_eIter, ev_eVar]
  simp
  refine Wp_anyN D.int M (fun m => decide (at_ L o < at_ L m)) (.bl false) (fun δ => ∃ q, δ = [some (.val (bN b L)), some (.val (.int o)), some (.val (bN c M)), q]) ⟨_, rfl⟩ ?_ ?_ ?_
  · rintro x hx δ ⟨q, rfl⟩
    obtain ⟨x0, x1⟩ := hM x hx
    by_cases hp : at_ L o < at_ L x <;> simp [hp, atI_ints L x x0 x1, atI_ints L o ho.1 ho.2]
  · intro h
    rw [onT_any] at h
    simpa using h
  · rintro h δ' ⟨q, rfl⟩
    rw [onT_any] at h
    simpa using h.symm
section
variable {p o : Nat} {ws : List (List (List Int))} {ts : List (List Int)}
theorem ROk.wlen (h : ROk p o ws ts) {n : Int} (hn : In ws.length n) : (nth ws n []).length = p := (h.w _ (nth_mem ws n [] hn.1 hn.2)).1
theorem ROk.llen (h : ROk p o ws ts) {n i : Int} (hn : In ws.length n) (hi : In p i) : (lk ws n i).length = o :=
  ((h.w _ (nth_mem ws n [] hn.1 hn.2)).2 _ (nth_mem _ i [] hi.1 (by rw [h.wlen hn]; exact hi.2))).1
theorem ROk.iw (h : ROk p o ws ts) {n : Int} (hn : In ws.length n) (a b : Bool) : L2.atI (ws.map (bW a b)) n = some (bW a b (nth ws n [])) := atI_en (bW a b) ws n [] hn.1 hn.2
theorem ROk.il (h : ROk p o ws ts) {n i : Int} (hn : In ws.length n) (hi : In p i) (b : Bool) : L2.atI ((nth ws n []).map (bN b)) i = some (bN b (lk ws n i)) := atI_en (bN b) (nth ws n []) i [] hi.1 (by rw [h.wlen hn]; exact hi.2)
theorem ROk.it (h : ROk p o ws ts) {n : Int} (hn : In ws.length n) (b : Bool) : L2.atI (ts.map (bN b)) n = some (bN b (nth ts n [])) := atI_en (bN b) ts n [] hn.1 (by rw [h.tl]; exact hn.2)
theorem ROk.top (h : ROk p o ws ts) {n i x : Int} {M : List Int} (hn : In ws.length n) (hi : In p i) (hx : In o x) (hM : ∀ m ∈ M, In o m) (b c : Bool) : mirD 4 3 onTopB [bN b (lk ws n i), .int x, bN c M] = .ok (.bl (onT (lk ws n i) M x)) := by
  have := h.llen hn hi
  exact onTop_bx b c _ M x (by rw [this]; exact hx) (by rw [this]; exact hM)
end
def thr (p : Nat) (ws : List (List (List Int))) (ts : List (List Int)) (M : List Int) (q o n : Int) : Bool := !decide (o ∈ nth ts n []) && (ir 0 p).all fun i => decide (i = q) || onT (lk ws n i) M o
theorem isThreat_ok {p o : Nat} {ws : List (List (List Int))} {ts : List (List Int)} (h : ROk p o ws ts) {x n q : Int} {M : List Int} (hx : In o x) (hn : In ws.length n) (hM : ∀ m ∈ M, In o m) :
    p_is_threat [ruleD p o ws ts, .int x, .int n, bN true M, .int q] = .ok (.bl (thr p ws ts M q x n)) := by
  show mirD 6 5 pb_is_threat _ = _
  rw [mirD_5]
  apply runK_wp
  unfold pb_is_threat thr
  have hp := h.p2
  by_cases hm : x ∈ nth ts n []
  · simp [startD, rf_told, h.it hn, hm]
  · simp [startD, rf_told, rf_people, h.it hn, hm, rng_nat' (show p ≤ 16777216 by omega)]
    refine Wp_anyN D.int (ir 0 p) (fun i => !(decide (i = q) || onT (lk ws n i) M x)) (.bl false) (fun δ => ∃ r, δ = [some (.val (ruleD p o ws ts)), some (.val (.int x)), some (.val (.int n)), some (.val (bN true M)), some (.val (.int q)), r]) ⟨_, rfl⟩ ?_ ?_ ?_
    · rintro i hi δ ⟨r, rfl⟩
      have hi := mem_ir.mp hi
      have hi : In p i := ⟨hi.1, by omega⟩
      by_cases hq : i = q
      · simp [hq]
      · cases ho : onT (lk ws n i) M x <;> simp [hq, rf_worlds, h.iw hn, h.il hn hi, h.top hn hi hx hM, ho]
    · intro ha
      rw [any_not] at ha
      exact Rt_f ha
    · rintro ha δ' ⟨r, rfl⟩
      rw [any_not] at ha
      simp only [ev_sRet, ev_eC, retK_ok, Wp_ok]
      exact Rt_t ha
def thrs (p : Nat) (ws : List (List (List Int))) (ts : List (List Int)) (M : List Int) (q : Int) : List (Int × Int) := M.flatMap fun x => ((ir 0 ws.length).filter fun n => thr p ws ts M q x n).map fun n => (x, n)
theorem flatMap_len {α β : Type} (l : List α) (f : α → List β) (k : Nat) (h : ∀ x ∈ l, (f x).length ≤ k) : (l.flatMap f).length ≤ l.length * k := by
  induction l with
  | nil => simp
  | cons a l ih =>
    rw [List.flatMap_cons, List.length_append, List.length_cons, Nat.succ_mul]
    have := ih fun x hx => h x (List.mem_cons_of_mem _ hx)
    have := h a List.mem_cons_self
    omega
theorem filter_snoc {α : Type} (p : α → Bool) (xs : List α) (x : α) : (xs ++ [x]).filter p = xs.filter p ++ if p x = true then [x] else [] := by
  rw [List.filter_append]
  congr 1
  by_cases h : p x = true
  · rw [if_pos h, List.filter_cons_of_pos h]; rfl
  · rw [if_neg h, List.filter_cons_of_neg h]; rfl
section
variable {p o : Nat} {ws : List (List (List Int))} {ts : List (List Int)}
theorem threats_ok (h : ROk p o ws ts) {q : Int} {M : List Int} (hM : ∀ m ∈ M, In o m) (hl : M.length ≤ 1000) :
    p_threats [ruleD p o ws ts, bN true M, .int q] = .ok (.lst ((thrs p ws ts M q).map encP)) := by
  show mirD 6 3 pb_threats _ = _
  rw [mirD_3]
  apply runK_wp
  unfold pb_threats
  have hw := h.w2
  simp [startD]
  refine Wp_accN D.int M (fun ps δ => ∃ q4 q5, δ = [some (.val (ruleD p o ws ts)), some (.val (bN true M)), some (.val (.int q)), some (.own ((ps.flatMap fun x => ((ir 0 ws.length).filter fun n => thr p ws ts M q x n).map fun n => (x, n)).map encP)), q4, q5]) ⟨_, _, rfl⟩ ?_ ?_
  · rintro ps x r δ he ⟨q4, q5, rfl⟩
    have hx : In o x := hM x (by rw [he]; simp)
    have hlp : ps.length ≤ 1000 := by
      have := congrArg List.length he
      rw [List.length_append] at this; omega
    have hlen : ((ps.flatMap fun x => ((ir 0 ws.length).filter fun n => thr p ws ts M q x n).map fun n => (x, n))).length ≤ 8000 := by
      refine Nat.le_trans (flatMap_len ps _ 8 fun y _ => ?_) (by omega)
      rw [List.length_map]
      exact Nat.le_trans (List.length_filter_le _ _) (by rw [ir_length]; exact hw)
    simp [rf_worlds, rng_nat' (show ws.length ≤ 16777216 by omega)]
    refine Wp_acc0N D.int (ir 0 ws.length) (fun ns δ => ∃ q5, δ = [some (.val (ruleD p o ws ts)), some (.val (bN true M)), some (.val (.int q)), some (.own (((ps.flatMap fun x => ((ir 0 ws.length).filter fun n => thr p ws ts M q x n).map fun n => (x, n)) ++ (ns.filter fun n => thr p ws ts M q x n).map fun n => (x, n)).map encP)), some (.val (.int x)), q5]) ⟨_, by simp; rfl⟩ ?_ ?_
    · rintro ns n r2 δ he2 ⟨q5, rfl⟩
      have hn : n ∈ ir 0 ws.length := by rw [he2]; simp
      have hn := mem_ir.mp hn
      have hn : In ws.length n := ⟨hn.1, by omega⟩
      have hns : ns.length ≤ 8 := by
        have := congrArg List.length he2
        rw [List.length_append, ir_length] at this; omega
      have hz : (((ps.flatMap fun x => ((ir 0 ws.length).filter fun n => thr p ws ts M q x n).map fun n => (x, n)) ++ (ns.filter fun n => thr p ws ts M q x n).map fun n => (x, n)).map encP).length < 16777216 := by
        rw [List.length_map, List.length_append, List.length_map]
        have := List.length_filter_le (fun n => thr p ws ts M q x n) ns
        omega
      have hz := fun i δ d => appK_ok (i := i) (δ := δ) (d := d) hz
      have e := isThreat_ok h (q := q) hx hn hM
      cases ht : thr p ws ts M q x n
      · simp [-List.map_append, e, ht, filter_snoc]
      · simp only [List.set_cons_succ, List.set_cons_zero, ev_sIf, ev_eT, ev_eCall, ev_eCons, ev_eVar, ev_eNil, List.getElem?_cons_succ, List.getElem?_cons_zero, varK_val, consK_ok, callK_5, e, ht, tK_bl, ifK_t, ev_sApp, ev_ownAt, ownAtK_own, ev_eTup, tupK2, hz, Wp_ok, Nx_nx]
        exact ⟨_, by rw [filter_snoc, if_pos ht]; simp; rfl⟩
    · rintro δ' ⟨q5, rfl⟩
      simp
  · rintro δ' ⟨q4, q5, rfl⟩
    simp
    rfl
/-! ### strikes -/
theorem atI_zero (x : D) (xs : List D) : L2.atI (x :: xs) 0 = some x := by
  have := atI_nat (x :: xs) 0 (by simp)
  simpa using this
def wo (M : List Int) (x : Int) : List Int := M.filter fun m => !decide (m = x)
theorem without_ok (M : List Int) (x : Int) : p_without [bN true M, .int x] = .ok (bN true (wo M x)) := by
  show mirD 3 2 pb_without _ = _
  rw [mirD_2]
  unfold pb_without
  simp [startD]
  rw [comp_filter (p := fun m => !decide (m = x))]
  · simp [← box_t, wo]
  · intro y hy; simp
theorem wo_sub {M : List Int} {x y : Int} (h : y ∈ wo M x) : y ∈ M := (List.mem_filter.mp h).1
theorem wo_len {M : List Int} {x : Int} (h : x ∈ M) : (wo M x).length < M.length := by
  unfold wo
  rw [List.length_filter_lt_length_iff_exists]
  exact ⟨x, h, by simp⟩
/-- strikes one after the other: what f names is struck -/
def it (f : List Int → Option (Int × Int)) : Nat → List Int → List (Int × Int) × List Int
  | 0, M => ([], M)
  | k + 1, M => match f M with
    | none => ([], M)
    | some r => (r :: (it f k (wo M r.1)).1, (it f k (wo M r.1)).2)
theorem it_fuel {f : List Int → Option (Int × Int)} (hf : ∀ M r, f M = some r → r.1 ∈ M) : ∀ (k k' : Nat) (M : List Int), M.length ≤ k → M.length ≤ k' → it f k M = it f k' M
  | 0, 0, M, _, _ => rfl
  | 0, k' + 1, M, h, _ => by
    cases M with
    | nil =>
      unfold it
      cases hM : f [] with
      | none => rfl
      | some r => exact absurd (hf _ _ hM) (by simp)
    | cons a M => simp at h
  | k + 1, 0, M, _, h => by
    cases M with
    | nil =>
      unfold it
      cases hM : f [] with
      | none => rfl
      | some r => exact absurd (hf _ _ hM) (by simp)
    | cons a M => simp at h
  | k + 1, k' + 1, M, h, h' => by
    unfold it
    cases hM : f M with
    | none => rfl
    | some r =>
      have := wo_len (hf _ _ hM)
      show (_, _) = (_, _)
      rw [it_fuel hf k k' (wo M r.1) (by omega) (by omega)]
def itl (f : List Int → Option (Int × Int)) (M : List Int) : List (Int × Int) × List Int := it f M.length M
theorem itl_none {f : List Int → Option (Int × Int)} {M : List Int} (h : f M = none) : itl f M = ([], M) := by
  unfold itl
  cases M with
  | nil => rfl
  | cons a M => show it f (M.length + 1) _ = _; unfold it; rw [h]
theorem itl_some {f : List Int → Option (Int × Int)} (hf : ∀ M r, f M = some r → r.1 ∈ M) {M : List Int} {r : Int × Int} (h : f M = some r) : itl f M = (r :: (itl f (wo M r.1)).1, (itl f (wo M r.1)).2) := by
  have hm := hf _ _ h
  have hl := wo_len hm
  unfold itl
  cases M with
  | nil => exact absurd hm (by simp)
  | cons a M =>
    show it f (M.length + 1) _ = _
    conv => lhs; unfold it
    rw [h]
    show (_, _) = (_, _)
    rw [List.length_cons] at hl
    rw [it_fuel hf M.length _ (wo (a :: M) r.1) (by omega) (Nat.le_refl _)]
theorem itl_end {f : List Int → Option (Int × Int)} (hf : ∀ M r, f M = some r → r.1 ∈ M) : ∀ (k : Nat) (M : List Int), M.length ≤ k → f (itl f M).2 = none
  | k, M, h => by
    cases hM : f M with
    | none => rw [itl_none hM]; exact hM
    | some r =>
      have := wo_len (hf _ _ hM)
      rw [itl_some hf hM]
      cases k with
      | zero => omega
      | succ k => exact itl_end hf k _ (by omega)
theorem itl_sub {f : List Int → Option (Int × Int)} (hf : ∀ M r, f M = some r → r.1 ∈ M) : ∀ (k : Nat) (M : List Int), M.length ≤ k → ∀ x ∈ (itl f M).2, x ∈ M
  | k, M, h, x, hx => by
    cases hM : f M with
    | none => rw [itl_none hM] at hx; exact hx
    | some r =>
      have := wo_len (hf _ _ hM)
      rw [itl_some hf hM] at hx
      cases k with
      | zero => omega
      | succ k => exact wo_sub (itl_sub hf k _ (by omega) x hx)
theorem itl_len {f : List Int → Option (Int × Int)} (hf : ∀ M r, f M = some r → r.1 ∈ M) : ∀ (k : Nat) (M : List Int), M.length ≤ k → (itl f M).1.length ≤ M.length
  | k, M, h => by
    cases hM : f M with
    | none => rw [itl_none hM]; simp
    | some r =>
      have := wo_len (hf _ _ hM)
      rw [itl_some hf hM]
      cases k with
      | zero => omega
      | succ k =>
        have := itl_len hf k (wo M r.1) (by omega)
        rw [List.length_cons]; omega
def encA (r : Int × Int) : D := .tup [.str "allowed", .int r.1, .int r.2]
def fA (p : Nat) (ws : List (List (List Int))) (ts : List (List Int)) (M : List Int) : Option (Int × Int) := (thrs p ws ts M (-1)).head?
theorem mem_thrs {p : Nat} {ws : List (List (List Int))} {ts : List (List Int)} {M : List Int} {q : Int} {r : Int × Int} : r ∈ thrs p ws ts M q ↔ r.1 ∈ M ∧ In ws.length r.2 ∧ thr p ws ts M q r.1 r.2 = true := by
  unfold thrs
  rw [List.mem_flatMap]
  constructor
  · rintro ⟨x, hx, h⟩
    obtain ⟨n, hn, rfl⟩ := List.mem_map.mp h
    obtain ⟨h1, h2⟩ := List.mem_filter.mp hn
    have := mem_ir.mp h1
    exact ⟨hx, ⟨this.1, by show n < _; omega⟩, h2⟩
  · rintro ⟨h1, h2, h3⟩
    refine ⟨r.1, h1, List.mem_map.mpr ⟨r.2, List.mem_filter.mpr ⟨mem_ir.mpr ⟨h2.1, ?_⟩, h3⟩, rfl⟩⟩
    have := h2.2
    omega
theorem fA_mem {p : Nat} {ws : List (List (List Int))} {ts : List (List Int)} (M : List Int) (r : Int × Int) (h : fA p ws ts M = some r) : r.1 ∈ M := (mem_thrs.mp (List.mem_of_head? h)).1
theorem hasMs_nums (M : List Int) : hasMs (nums M) = false := by
  induction M with
  | nil => rfl
  | cons a M ih => show (hasM (.int a) || hasMs (nums M)) = false; rw [ih]; rfl
theorem hasMs_map {α : Type} (f : α → D) (h : ∀ x, hasM (f x) = false) (l : List α) : hasMs (l.map f) = false := by
  induction l with
  | nil => rfl
  | cons a M ih => show (hasM (f a) || hasMs (M.map f)) = false; rw [ih, h]; rfl
theorem strikeA_ok (h : ROk p o ws ts) : p_strike_allowed [ruleD p o ws ts] = .ok (.tup [mtl ((itl (fA p ws ts) (ir 0 o)).1.map encA), bN true (itl (fA p ws ts) (ir 0 o)).2]) := by
  show mirX 6 1 pb_strike_allowed _ = _
  rw [mirX_1]
  apply runXK_wp
  unfold pb_strike_allowed
  have ho := h.o2
  have hM0 : ∀ m ∈ ir 0 o, In o m := fun m hm => by have := mem_ir.mp hm; exact ⟨this.1, by omega⟩
  have t0 := threats_ok h (q := -1) hM0 (by rw [ir_length]; omega)
  have t0 : p_threats [ruleD p o ws ts, .tup (nums (ir 0 o)), .int (-1)] = _ := t0
  simp [startD, rf_outcomes, rng_nat' (show o ≤ 16777216 by omega), t0]
  refine Wp_while (fun k δ => ∃ (S : List (Int × Int)) (M : List Int) (q4 q5 : Option Cell), δ = [some (.val (ruleD p o ws ts)), some (.own (S.map encA)), some (.val (bN true M)), some (.val (.lst ((thrs p ws ts M (-1)).map encP))), q4, q5] ∧ (∀ m ∈ M, In o m) ∧ M.length ≤ k ∧ S.length + M.length ≤ o ∧ S ++ (itl (fA p ws ts) M).1 = (itl (fA p ws ts) (ir 0 o)).1 ∧ (itl (fA p ws ts) M).2 = (itl (fA p ws ts) (ir 0 o)).2)
    (fun δ => ∃ (q3 q4 q5 : Option Cell), δ = [some (.val (ruleD p o ws ts)), some (.own ((itl (fA p ws ts) (ir 0 o)).1.map encA)), some (.val (bN true (itl (fA p ws ts) (ir 0 o)).2)), q3, q4, q5]) o (by omega) ⟨[], ir 0 o, none, none, rfl, hM0, by simp, by simp, rfl, rfl⟩ ?_ ?_
  · rintro k δ ⟨S, M, q4, q5, rfl, hM, hk, hS, e1, e2⟩
    cases hr : thrs p ws ts M (-1) with
    | nil =>
      left
      have hf : fA p ws ts M = none := by unfold fA; rw [hr]; rfl
      rw [itl_none hf] at e1 e2
      refine ⟨by simp, some (.val (.lst (([] : List (Int × Int)).map encP))), q4, q5, ?_⟩
      rw [← e1, ← e2]
      simp
    | cons r rs =>
      right
      have hf : fA p ws ts M = some r := by unfold fA; rw [hr]; rfl
      have hm := fA_mem M r hf
      have hl := wo_len hm
      rw [itl_some fA_mem hf] at e1 e2
      have hM' : ∀ m ∈ wo M r.1, In o m := fun m hm => hM m (wo_sub hm)
      have t1 := threats_ok h (q := -1) hM' (by omega)
      refine ⟨by simp, k - 1, by omega, ?_⟩
      have hz : (S.map encA).length < 16777216 := by rw [List.length_map]; omega
      have w1 := without_ok M r.1
      have h0 := atI_zero (encP r) (rs.map encP)
      simp [appK_ok hz, w1, t1, h0]
      exact ⟨S ++ [r], wo M r.1, ⟨by simp [encA], rfl, rfl⟩, hM', by omega, by simp; omega, by simpa using e1, e2⟩
  · rintro δ ⟨q3, q4, q5, rfl⟩
    simp [retXK_ok (show [bN true (itl (fA p ws ts) (ir 0 o)).2].length + 1 ≤ 16777216 by simp)]
/-! ### the strikes of a reach -/
@[simp] theorem oIsNot_tnon (xs : List D) : oIsNot (.tup xs) .non = some (.bl true) := id rfl
def below (ws : List (List (List Int))) (al : List Int) (a : Int × Int) (i : Int) : List Int := al.filter fun m => decide (at_ (lk ws a.2 i) m ≤ at_ (lk ws a.2 i) a.1)
theorem below_ok (h : ROk p o ws ts) {a : Int × Int} {i : Int} {M : List Int} (hM : ∀ m ∈ M, In o m) (ha : In o a.1) (hn : In ws.length a.2) (hi : In p i) :
    p_liked_at_most [ruleD p o ws ts, bN true M, encP a, .int i] = .ok (bN true (below ws M a i)) := by
  show mirD 8 4 pb_liked_at_most _ = _
  rw [mirD_4]
  apply runK_wp
  unfold pb_liked_at_most
  have hl := h.llen hn hi
  simp [startD, rf_worlds, h.iw hn, h.il hn hi]
  rw [comp_filter (p := fun m => decide (at_ (lk ws a.2 i) m ≤ at_ (lk ws a.2 i) a.1))]
  · simp [below, ← box_t]
  · intro m hm
    have := hM m hm
    simp [atI_ints (lk ws a.2 i) m this.1 (by rw [hl]; exact this.2), atI_ints (lk ws a.2 i) a.1 ha.1 (by rw [hl]; exact ha.2)]
/-- the first threat against a set of a person -/
def fR (ws : List (List (List Int))) (rows : List (Int × Int)) (i : Int) (M : List Int) : Option (Int × Int) := rows.find? fun r => decide (r.1 ∈ M) && onT (lk ws r.2 i) M r.1
theorem fR_mem {ws : List (List (List Int))} {rows : List (Int × Int)} {i : Int} (M : List Int) (r : Int × Int) (h : fR ws rows i M = some r) : r.1 ∈ M := by
  have := List.find?_some h
  simp at this
  exact this.1
def optP (r : Option (Int × Int)) : D := match r with
  | some r => encP r
  | none => .non
theorem first_ok (h : ROk p o ws ts) {i : Int} {M : List Int} {rows : List (Int × Int)} (hM : ∀ m ∈ M, In o m) (hi : In p i) (hr : ∀ r ∈ rows, In ws.length r.2) :
    p_first_threat [ruleD p o ws ts, .lst (rows.map encP), bN true M, .int i] = .ok (optP (fR ws rows i M)) := by
  show mirD 6 4 pb_first_threat _ = _
  rw [mirD_4]
  apply runK_wp
  unfold pb_first_threat
  simp [startD]
  refine Wp_some encP (fun r δ => (δ.set 4 (some (.val (.int r.1)))).set 5 (some (.val (.int r.2)))) (fun _ _ => rfl) rows (fun r => if (decide (r.1 ∈ M) && onT (lk ws r.2 i) M r.1) = true then some (encP r) else none)
    (fun δ => ∃ q4 q5, δ = [some (.val (ruleD p o ws ts)), some (.val (.lst (rows.map encP))), some (.val (bN true M)), some (.val (.int i)), q4, q5]) ⟨_, _, rfl⟩ ?_ ?_ ?_
  · rintro r hr' δ ⟨q4, q5, rfl⟩
    have hn := hr r hr'
    by_cases hm : r.1 ∈ M
    · have ht := h.top hn hi (hM _ hm) hM true true
      cases hb : onT (lk ws r.2 i) M r.1 <;> simp [hm, rf_worlds, h.iw hn, h.il hn hi, ht, hb]
    · simp [hm]
  · intro d hd
    rw [findSome_find] at hd
    unfold fR
    cases hf : rows.find? (fun r => decide (r.1 ∈ M) && onT (lk ws r.2 i) M r.1) with
    | none => rw [hf] at hd; cases hd
    | some r => rw [hf] at hd; cases hd; exact (Rt_rt _ _).mpr rfl
  · rintro hd δ' ⟨q4, q5, rfl⟩
    rw [findSome_find] at hd
    have hf : fR ws rows i M = none := by
      unfold fR
      cases hf : rows.find? (fun r => decide (r.1 ∈ M) && onT (lk ws r.2 i) M r.1) with
      | none => rfl
      | some r => rw [hf] at hd; cases hd
    rw [hf]
    simp [optP]
theorem strikeR_ok (h : ROk p o ws ts) {i : Int} {M0 : List Int} {rows : List (Int × Int)} (hM0 : ∀ m ∈ M0, In o m) (hl0 : M0.length ≤ 1000) (hi : In p i) (hr : ∀ r ∈ rows, In ws.length r.2) :
    p_strike_reach [ruleD p o ws ts, .lst (rows.map encP), bN true M0, .int i] = .ok (.tup [.lst ((itl (fR ws rows i) M0).1.map encP), bN true (itl (fR ws rows i) M0).2]) := by
  show mirD 7 4 pb_strike_reach _ = _
  rw [mirD_4]
  apply runK_wp
  unfold pb_strike_reach
  have t0 := first_ok h hM0 hi hr
  simp [startD, t0]
  refine Wp_while (fun k δ => ∃ (S : List (Int × Int)) (M : List Int), δ = [some (.val (ruleD p o ws ts)), some (.val (.lst (rows.map encP))), some (.val (bN true M0)), some (.val (.int i)), some (.own (S.map encP)), some (.val (bN true M)), some (.val (optP (fR ws rows i M)))] ∧ (∀ m ∈ M, In o m) ∧ M.length ≤ k ∧ S.length + M.length ≤ M0.length ∧ S ++ (itl (fR ws rows i) M).1 = (itl (fR ws rows i) M0).1 ∧ (itl (fR ws rows i) M).2 = (itl (fR ws rows i) M0).2)
    (fun δ => ∃ (q6 : Option Cell), δ = [some (.val (ruleD p o ws ts)), some (.val (.lst (rows.map encP))), some (.val (bN true M0)), some (.val (.int i)), some (.own ((itl (fR ws rows i) M0).1.map encP)), some (.val (bN true (itl (fR ws rows i) M0).2)), q6]) M0.length (by omega) ⟨[], M0, rfl, hM0, by simp, by simp, rfl, rfl⟩ ?_ ?_
  · rintro k δ ⟨S, M, rfl, hM, hk, hS, e1, e2⟩
    cases hf : fR ws rows i M with
    | none =>
      left
      rw [itl_none hf] at e1 e2
      refine ⟨by simp [optP], some (.val (optP none)), ?_⟩
      rw [← e1, ← e2, List.append_nil]
    | some r =>
      right
      have hm := fR_mem M r hf
      have hl := wo_len hm
      rw [itl_some fR_mem hf] at e1 e2
      have hM' : ∀ m ∈ wo M r.1, In o m := fun m hm => hM m (wo_sub hm)
      have t1 := first_ok h hM' hi hr
      refine ⟨by simp [optP], k - 1, by omega, ?_⟩
      have hz : (S.map encP).length < 16777216 := by rw [List.length_map]; omega
      have w1 := without_ok M r.1
      have h0 := atI_zero (.int r.1) [.int r.2]
      simp [optP, appK_ok hz, w1, t1, h0]
      exact ⟨S ++ [r], wo M r.1, ⟨by simp, rfl, rfl⟩, hM', by omega, by simp; omega, by simpa using e1, e2⟩
  · rintro δ ⟨q6, rfl⟩
    simp
end
end DL

namespace DL
open PySem PySem.Spec PyProof.Rows L2
theorem itl_sublist {f : List Int → Option (Int × Int)} (hf : ∀ M r, f M = some r → r.1 ∈ M) : ∀ (k : Nat) (M : List Int), M.length ≤ k → (itl f M).2.Sublist M
  | k, M, h => by
    cases hM : f M with
    | none => rw [itl_none hM]; exact List.Sublist.refl _
    | some r =>
      have := wo_len (hf _ _ hM)
      rw [itl_some hf hM]
      cases k with
      | zero => omega
      | succ k => exact (itl_sublist hf k _ (by omega)).trans List.filter_sublist
theorem atI_ir {n : Nat} {i : Int} (f : Int → D) (hi : In n i) : L2.atI ((ir 0 n).map f) i = some (f i) := by
  rw [atI_int _ _ hi.1 (by rw [List.length_map, ir_length]; exact hi.2), List.getElem_map]
  unfold ir
  rw [List.getElem_map, List.getElem_range]
  have := hi.1
  congr 2
  omega
/-! ### Book, Barrier -/
abbrev kB : List Str := ["allowed", "reach"]
abbrev bookD (al : List Int) (re : List (List (List Int))) : D := .obj "Book" kB [bN true al, bWs true true true re]
theorem bookInit_ok (a b c d : Bool) (al : List Int) (re : List (List (List Int))) : p_Book___init__ [bN a al, bWs b c d re] = .ok (kB, [bN true al, bWs true true true re]) := by
  have hm : p_Book___init__ [bN a al, bWs b c d re] = runI "Book" (pb_Book___init__ [some (.ins "Book" [] []), some (.val (bN a al)), some (.val (bWs b c d re)), none, none]) := rfl
  rw [hm]
  unfold pb_Book___init__
  have c1 : ∀ δ : DEnv, 4 < δ.length → compD (bdN 4) tYesD (e1 oTuple (eOf (fComp (eIter (eVar 4)) [3] (bdN 3) tYesD (e1 oTuple (eVar 3))))) δ (re.map (bW c d)) = .ok (re.map (bW true true)) := fun δ hδ => comp_all _ _ re fun w hw => by
    have := fun δ' : DEnv => fun hδ' : 3 < δ'.length => comp_all (i := 3) (te := e1 oTuple (eVar 3)) (δ := δ') (bN d) (bN true) w (fun l hl => by simp [hδ', ← box_t])
    simp [show 4 < δ.length by omega, this, show 3 < δ.length by omega, ← box_t]
  have s1 : ∀ (δ : DEnv) (x : D), fldSK ["Book"] 0 "allowed" δ (.ok x) (some (some (.ins "Book" [] []))) = .ok (.nx (δ.set 0 (some (.ins "Book" ["allowed"] [x])))) := fun δ x => fldSK_ok (by decide)
  have s2 : ∀ (δ : DEnv) (x y : D), fldSK ["Book"] 0 "reach" δ (.ok y) (some (some (.ins "Book" ["allowed"] [x]))) = .ok (.nx (δ.set 0 (some (.ins "Book" kB [x, y])))) := fun δ x y => fldSK_ok (by decide)
  simp [s1, s2, c1, ← box_t]
  rfl
theorem book_make (a b c d : Bool) (al : List Int) (re : List (List (List Int))) : makeK "Book" 2 p_Book___init__ (.ok [bN a al, bWs b c d re]) = .ok (bookD al re) := makeK_ok rfl (bookInit_ok a b c d al re)
theorem bf_allowed (al : List Int) (re : List (List (List Int))) : oFld ["Book"] "allowed" (bookD al re) = some (bN true al) := rfl
theorem bf_reach (al : List Int) (re : List (List (List Int))) : oFld ["Book"] "reach" (bookD al re) = some (bWs true true true re) := rfl
abbrev kBa : List Str := ["strikes", "reason"]
abbrev barD (ss : List (List D)) (re : List D) : D := .obj "Barrier" kBa [.tup (ss.map .tup), .tup re]
theorem barInit_ok (ss : List (List D)) (re : List D) : p_Barrier___init__ [.tup (ss.map .tup), .tup re] = .ok (kBa, [.tup (ss.map .tup), .tup re]) := by
  have hm : p_Barrier___init__ [.tup (ss.map .tup), .tup re] = runI "Barrier" (pb_Barrier___init__ [some (.ins "Barrier" [] []), some (.val (.tup (ss.map .tup))), some (.val (.tup re)), none]) := rfl
  rw [hm]
  unfold pb_Barrier___init__
  have c1 : ∀ δ : DEnv, 3 < δ.length → compD (bdN 3) tYesD (e1 oTuple (eVar 3)) δ (ss.map D.tup) = .ok (ss.map D.tup) := fun δ hδ => comp_all _ _ ss fun w hw => by
    simp [hδ]
  have s1 : ∀ (δ : DEnv) (x : D), fldSK ["Barrier"] 0 "strikes" δ (.ok x) (some (some (.ins "Barrier" [] []))) = .ok (.nx (δ.set 0 (some (.ins "Barrier" ["strikes"] [x])))) := fun δ x => fldSK_ok (by decide)
  have s2 : ∀ (δ : DEnv) (x y : D), fldSK ["Barrier"] 0 "reason" δ (.ok y) (some (some (.ins "Barrier" ["strikes"] [x]))) = .ok (.nx (δ.set 0 (some (.ins "Barrier" kBa [x, y])))) := fun δ x y => fldSK_ok (by decide)
  simp [s1, s2, c1]
  rfl
theorem bar_make (ss : List (List D)) (re : List D) : makeK "Barrier" 2 p_Barrier___init__ (.ok [.tup (ss.map .tup), .tup re]) = .ok (barD ss re) := makeK_ok rfl (barInit_ok ss re)
theorem baf_strikes (ss : List (List D)) (re : List D) : oFld ["Barrier"] "strikes" (barD ss re) = some (.tup (ss.map .tup)) := rfl
theorem baf_reason (ss : List (List D)) (re : List D) : oFld ["Barrier"] "reason" (barD ss re) = some (.tup re) := rfl
/-! ### greatest -/
def alw (p o : Nat) (ws : List (List (List Int))) (ts : List (List Int)) : List Int := (itl (fA p ws ts) (ir 0 o)).2
def run (p o : Nat) (ws : List (List (List Int))) (ts : List (List Int)) (a : Int × Int) (i : Int) : List (Int × Int) × List Int :=
  itl (fR ws (thrs p ws ts (alw p o ws ts) i) i) (below ws (alw p o ws ts) a i)
def rowA (r : Int × Int) : List D := [.str "allowed", .int r.1, .int r.2]
def rowR (i : Int) (a r : Int × Int) : List D := [.str "reach", .int i, .int a.1, .int a.2, .int r.1, .int r.2]
def sA (p o : Nat) (ws : List (List (List Int))) (ts : List (List Int)) : List (List D) := (itl (fA p ws ts) (ir 0 o)).1.map rowA
def sR (p o : Nat) (ws : List (List (List Int))) (ts : List (List Int)) (a : Int × Int) (i : Int) : List (List D) := (run p o ws ts a i).1.map (rowR i a)
def strikesOf (p o : Nat) (ws : List (List (List Int))) (ts : List (List Int)) : List (List D) :=
  if p = 1 then [] else sA p o ws ts ++ (pairsOf ts).flatMap fun a => (ir 0 p).flatMap fun i => sR p o ws ts a i
def loneOf (ts : List (List Int)) : List Int := ssetI ((pairsOf ts).map fun a => a.1)
def allowedOf (p o : Nat) (ws : List (List (List Int))) (ts : List (List Int)) : List Int := if p = 1 then loneOf ts else alw p o ws ts
def reachOf (p o : Nat) (ws : List (List (List Int))) (ts : List (List Int)) : List (List (List Int)) :=
  if p = 1 then (pairsOf ts).map fun _ => [loneOf ts] else (pairsOf ts).map fun a => (ir 0 p).map fun i => (run p o ws ts a i).2
section
variable {p o : Nat} {ws : List (List (List Int))} {ts : List (List Int)}
theorem alw_in {m : Int} (hm : m ∈ alw p o ws ts) : In o m := by
  have := (itl_sublist (f := fA p ws ts) fA_mem _ (ir 0 o) (Nat.le_refl _)).subset hm
  have := mem_ir.mp this
  exact ⟨this.1, by omega⟩
theorem alw_len : (alw p o ws ts).length ≤ o := by
  have := (itl_sublist (f := fA p ws ts) fA_mem _ (ir 0 o) (Nat.le_refl _)).length_le
  rwa [ir_length] at this
theorem below_len (al : List Int) (a : Int × Int) (i : Int) : (below ws al a i).length ≤ al.length := List.length_filter_le _ _
theorem below_in {al : List Int} {a : Int × Int} {i m : Int} (h : m ∈ below ws al a i) : m ∈ al := (List.mem_filter.mp h).1
theorem run_len (a : Int × Int) (i : Int) : (run p o ws ts a i).1.length ≤ o := Nat.le_trans (itl_len fR_mem _ _ (Nat.le_refl _)) (Nat.le_trans (below_len _ _ _) alw_len)
theorem ROk.pin (h : ROk p o ws ts) {a : Int × Int} (ha : a ∈ pairsOf ts) : In o a.1 ∧ In ws.length a.2 := by
  obtain ⟨h1, h2⟩ := mem_pairsOf ha
  refine ⟨(h.t _ (nth_mem ts a.2 [] h1.1 h1.2)).ok _ h2, ?_⟩
  rw [← h.tl]; exact h1
theorem tupA (S : List (Int × Int)) : (S.map rowA).map D.tup = S.map encA := by rw [List.map_map]; rfl
theorem lone_ok (h : ROk p o ws ts) (hp : p = 1) : p_lone_book [ruleD p o ws ts] = .ok (bookD (allowedOf p o ws ts) (reachOf p o ws ts)) := by
  show mirD 3 1 pb_lone_book _ = _
  rw [mirD_1]
  apply runK_wp
  unfold pb_lone_book allowedOf reachOf
  rw [if_pos hp, if_pos hp]
  have pr := h.pr
  have c1 := comp_all (i := 2) (te := (e2 oIx (eVar 2) (eC (.int 0)))) (δ := [some (.val (ruleD p o ws ts)), none, none]) encP (fun a => .int a.1) (pairsOf ts) (fun a ha => by
    have h0 := atI_zero (.int a.1) [.int a.2]
    simp [h0])
  have c1' : (pairsOf ts).map (fun a => D.int a.1) = nums ((pairsOf ts).map fun a => a.1) := by unfold nums; rw [List.map_map]; rfl
  rw [c1'] at c1
  have ss := sortK_lst (ns := (pairsOf ts).map fun a => a.1) (by rw [List.length_map]; omega)
  have c2 := fun δ d1 d2 => comp_all (i := 2) (te := eLst (eCons (eVar 1) eNil)) (δ := δ) encP (fun _ => bW false false [loneOf ts]) (pairsOf ts) (fun a ha => by
    have d1 : 2 < δ.length := d1
    have d2 : δ[1]? = some (some (.val (bN false (loneOf ts)))) := d2
    simp [d1, d2, box_f])
  have bm := book_make false false false false (loneOf ts) ((pairsOf ts).map fun _ => [loneOf ts])
  have e2 : (((pairsOf ts).map fun _ => [loneOf ts]).map (bW false false)) = (pairsOf ts).map fun _ => bW false false [loneOf ts] := List.map_map
  have bm : makeK "Book" 2 p_Book___init__ (.ok [.lst (nums (loneOf ts)), .lst ((pairsOf ts).map fun _ => bW false false [loneOf ts])]) = .ok (bookD (loneOf ts) ((pairsOf ts).map fun _ => [loneOf ts])) := by rw [← e2]; exact bm
  have c2 := c2 [some (.val (ruleD p o ws ts)), some (.val (.lst (nums (loneOf ts)))), none] (by simp) (by simp [box_f])
  have : ssetI ((pairsOf ts).map fun a => a.1) = loneOf ts := rfl
  simp [startD, rf_pairs, c1, ss, this, c2, bm]
theorem greatest_ok (h : ROk p o ws ts) : p_greatest [ruleD p o ws ts] = .ok (.tup [.tup ((strikesOf p o ws ts).map .tup), bookD (allowedOf p o ws ts) (reachOf p o ws ts)]) := by
  show mirD 12 1 pb_greatest _ = _
  rw [mirD_1]
  apply runK_wp
  unfold pb_greatest
  by_cases hp1 : p = 1
  · have lo := lone_ok h hp1
    have e1 : (p : Int) = 1 := by omega
    simp [startD, rf_people, e1, lo]
    unfold strikesOf
    rw [if_pos hp1]
  · have e1 : ¬ (p : Int) = 1 := by omega
    have hp := h.p2
    have ho := h.o2
    have sa := strikeA_ok h
    have hal : ∀ m ∈ alw p o ws ts, In o m := fun m hm => alw_in hm
    have lal : (alw p o ws ts).length ≤ o := alw_len
    have b2 := bindXK_2 (i := 1) (j := 2) (δ := startD 12 [ruleD p o ws ts]) (ds := (itl (fA p ws ts) (ir 0 o)).1.map encA) (b := bN true (alw p o ws ts)) (hasMs_map encA (fun _ => rfl) _) (by
      show (if hasM (D.tup (nums _)) then none else some _) = _
      rw [show hasM (D.tup (nums (alw p o ws ts))) = hasMs (nums (alw p o ws ts)) from by unfold hasM; rfl, hasMs_nums]; rfl)
    have b2 : bindXK [1, 2] [some (.val (ruleD p o ws ts)), none, none, none, none, none, none, none, none, none, none, none] (.ok (.tup [mtl ((itl (fA p ws ts) (ir 0 o)).1.map encA), bN true (itl (fA p ws ts) (ir 0 o)).2])) = _ := b2
    have c1 := fun δ (d0 : δ[0]? = some (some (.val (ruleD p o ws ts)))) (d1 : δ[2]? = some (some (.val (bN true (alw p o ws ts))))) (d2 : 4 < δ.length) => comp_all (i := 4) (te := eCall 3 p_threats (eCons (eVar 0) (eCons (eVar 2) (eCons (eVar 4) eNil)))) (δ := δ) D.int (fun i => .lst ((thrs p ws ts (alw p o ws ts) i).map encP)) (ir 0 p) (fun i hi => by
      have := threats_ok h (q := i) hal (by omega)
      simp [d0, d1, d2, this])
    have c1 := c1 [some (.val (ruleD p o ws ts)), some (.own ((itl (fA p ws ts) (ir 0 o)).1.map encA)), some (.val (bN true (alw p o ws ts))), none, none, none, none, none, none, none, none, none] (by simp) (by simp) (by simp)
    have c1 : compD (bdN 4) tYesD (eCall 3 p_threats (eCons (eVar 0) (eCons (eVar 2) (eCons (eVar 4) eNil)))) _ (nums (ir 0 p)) = _ := c1
    obtain ⟨al, hal'⟩ : ∃ al, al = alw p o ws ts := ⟨_, rfl⟩
    obtain ⟨SA, hSA⟩ : ∃ SA, SA = (itl (fA p ws ts) (ir 0 o)).1.map encA := ⟨_, rfl⟩
    obtain ⟨RW, hRW⟩ : ∃ RW, RW = (ir 0 p).map fun i => D.lst ((thrs p ws ts (alw p o ws ts) i).map encP) := ⟨_, rfl⟩
    obtain ⟨G, hG⟩ : ∃ G : Int × Int → List D, G = fun a => (ir 0 p).flatMap fun i => (sR p o ws ts a i).map D.tup := ⟨_, rfl⟩
    have lSA : SA.length ≤ 8 := by
      rw [hSA, List.length_map]
      exact Nat.le_trans (itl_len fA_mem _ _ (Nat.le_refl _)) (by rw [ir_length]; exact ho)
    have lsR : ∀ a i, (sR p o ws ts a i).length ≤ 8 := fun a i => by
      unfold sR; rw [List.length_map]; exact Nat.le_trans (run_len a i) ho
    have lG : ∀ a, (G a).length ≤ 32 := fun a => by
      rw [hG]
      refine Nat.le_trans (flatMap_len _ _ 8 fun i _ => by rw [List.length_map]; exact lsR a i) ?_
      rw [ir_length]; omega
    have pr := h.pr
    rw [← hRW] at c1
    have b2 : bindXK [1, 2] [some (.val (ruleD p o ws ts)), none, none, none, none, none, none, none, none, none, none, none] (.ok (.tup [mtl SA, bN true al])) = .ok (.nx [some (.val (ruleD p o ws ts)), some (.own SA), some (.val (bN true al)), none, none, none, none, none, none, none, none, none]) := by rw [hSA, hal']; exact b2
    have sa : p_strike_allowed [ruleD p o ws ts] = .ok (.tup [mtl SA, bN true al]) := by rw [hSA, hal']; exact sa
    rw [← hSA, ← hal'] at c1
    simp [startD, rf_people, e1, sa, b2, rng_nat' (show p ≤ 16777216 by omega), c1, rf_pairs]
    refine Wp_accN encP (pairsOf ts) (fun ps δ => ∃ q4 q6 q7 q8 q9 q10 q11, δ = [some (.val (ruleD p o ws ts)), some (.own (SA ++ ps.flatMap G)), some (.val (bN true al)), some (.val (.lst RW)), q4,
        some (.own ((ps.map fun a => (ir 0 p).map fun i => (run p o ws ts a i).2).map (bW false true))), q6, q7, q8, q9, q10, q11]) ⟨_, _, _, _, _, _, _, by simp; exact ⟨rfl, rfl, rfl, rfl, rfl, rfl, rfl⟩⟩ ?_ ?_
    · rintro ps a rs δ he ⟨q4, q6, q7, q8, q9, q10, q11, rfl⟩
      have ha : a ∈ pairsOf ts := by rw [he]; simp
      obtain ⟨ha1, ha2⟩ := h.pin ha
      have hps : ps.length < 24 := by
        have := congrArg List.length he
        rw [List.length_append, List.length_cons] at this; omega
      have lps : (ps.flatMap G).length ≤ 768 := Nat.le_trans (flatMap_len ps G 32 fun a _ => lG a) (by omega)
      simp [rf_people, rng_nat' (show p ≤ 16777216 by omega)]
      refine Wp_accN D.int (ir 0 p) (fun is δ => ∃ q4 q8 q9 q10 q11, δ = [some (.val (ruleD p o ws ts)), some (.own (SA ++ ps.flatMap G ++ is.flatMap fun i => (sR p o ws ts a i).map D.tup)), some (.val (bN true al)), some (.val (.lst RW)), q4,
        some (.own ((ps.map fun a => (ir 0 p).map fun i => (run p o ws ts a i).2).map (bW false true))), some (.val (encP a)), some (.own ((is.map fun i => (run p o ws ts a i).2).map (bN true))), q8, q9, q10, q11]) ⟨_, _, _, _, _, by simp; exact ⟨rfl, rfl, rfl, rfl, rfl⟩⟩ ?_ ?_
      · rintro is i rs2 δ he2 ⟨q4, q8, q9, q10, q11, rfl⟩
        have hi : i ∈ ir 0 p := by rw [he2]; simp
        have hi := mem_ir.mp hi
        have hi : In p i := ⟨hi.1, by omega⟩
        have his : is.length < 4 := by
          have := congrArg List.length he2
          rw [List.length_append, List.length_cons, ir_length] at this; omega
        have l2 : (is.flatMap fun i => (sR p o ws ts a i).map D.tup).length ≤ 32 := Nat.le_trans (flatMap_len is _ 8 fun i _ => by rw [List.length_map]; exact lsR a i) (by omega)
        have hal2 : ∀ m ∈ al, In o m := by rw [hal']; exact hal
        have bl := below_ok h hal2 ha1 ha2 hi
        have hm0 : ∀ m ∈ below ws al a i, In o m := fun m hm => hal2 m (below_in hm)
        have hl0 : (below ws al a i).length ≤ 1000 := Nat.le_trans (below_len _ _ _) (by rw [hal']; omega)
        have st := strikeR_ok h (rows := thrs p ws ts al i) hm0 hl0 hi (fun r hr => (mem_thrs.mp hr).2.1)
        have ix : L2.atI RW i = some (.lst ((thrs p ws ts al i).map encP)) := by rw [hRW, hal']; exact atI_ir _ hi
        have er : itl (fR ws (thrs p ws ts al i) i) (below ws al a i) = run p o ws ts a i := by rw [hal']; rfl
        rw [er] at st
        simp [-List.map_append, -List.flatMap_append, bl, ix, st]
        have hls := lsR a i
        have hls2 := run_len (p := p) (ws := ws) (ts := ts) (o := o) a i
        refine Wp_accN encP (run p o ws ts a i).1 (fun ss δ => ∃ q11, δ = [some (.val (ruleD p o ws ts)), some (.own (SA ++ ps.flatMap G ++ (is.flatMap fun i => (sR p o ws ts a i).map D.tup) ++ (ss.map (rowR i a)).map D.tup)), some (.val (bN true al)), some (.val (.lst RW)), some (.val (.int i)),
          some (.own ((ps.map fun a => (ir 0 p).map fun i => (run p o ws ts a i).2).map (bW false true))), some (.val (encP a)), some (.own ((is.map fun i => (run p o ws ts a i).2).map (bN true))), some (.val (bN true (below ws al a i))), some (.val (.lst ((run p o ws ts a i).1.map encP))), some (.val (bN true (run p o ws ts a i).2)), q11]) ⟨_, by simp; rfl⟩ ?_ ?_
        · rintro ss r rs3 δ he3 ⟨q11, rfl⟩
          have hss : ss.length < 8 := by
            have := congrArg List.length he3
            rw [List.length_append, List.length_cons] at this; omega
          have hz : (SA ++ ps.flatMap G ++ (is.flatMap fun i => (sR p o ws ts a i).map D.tup) ++ (ss.map (rowR i a)).map D.tup).length < 16777216 := by
            rw [List.length_append, List.length_append, List.length_append, List.length_map, List.length_map]; omega
          have hz := fun i δ d => appK_ok (i := i) (δ := δ) (d := d) hz
          simp only [List.set_cons_succ, List.set_cons_zero, ev_sApp, ev_ownAt, List.getElem?_cons_succ, List.getElem?_cons_zero, ownAtK_own, ev_e2, ev_eTup, ev_eCons, ev_eC, ev_eVar, varK_val, ev_eNil, consK_ok, tupK2, b2_ok, oAdd22, lft_some, oAdd42, hz, Wp_ok, Nx_nx]
          exact ⟨_, by simp [rowR]; rfl⟩
        · rintro δ ⟨q11, rfl⟩
          have hz : ((is.map fun i => (run p o ws ts a i).2).map (bN true)).length < 16777216 := by rw [List.length_map, List.length_map]; omega
          have hz := fun i δ d => appK_ok (i := i) (δ := δ) (d := d) hz
          simp only [List.set_cons_succ, List.set_cons_zero, ev_sApp, ev_ownAt, List.getElem?_cons_succ, List.getElem?_cons_zero, ownAtK_own, ev_eVar, varK_val, hz, Wp_ok, Nx_nx]
          exact ⟨_, _, _, _, _, by simp [sR]; exact ⟨rfl, rfl, rfl, rfl, rfl⟩⟩
      · rintro δ ⟨q4, q8, q9, q10, q11, rfl⟩
        have hz : ((ps.map fun a => (ir 0 p).map fun i => (run p o ws ts a i).2).map (bW false true)).length < 16777216 := by rw [List.length_map, List.length_map]; omega
        have hz := fun i δ d => appK_ok (i := i) (δ := δ) (d := d) hz
        simp only [ev_sFrz, ev_frz, List.set_cons_succ, List.set_cons_zero, ev_sApp, ev_ownAt, List.getElem?_cons_succ, List.getElem?_cons_zero, ownAtK_own, frzK_own, ev_eVar, varK_val, hz, Wp_ok, Nx_nx]
        have eG : G a = (ir 0 p).flatMap fun i => (sR p o ws ts a i).map D.tup := by rw [hG]
        exact ⟨_, _, _, _, _, _, _, by rw [← eG]; simp [box_f]; exact ⟨rfl, rfl, rfl, rfl, rfl, rfl, rfl⟩⟩
    · rintro δ ⟨q4, q6, q7, q8, q9, q10, q11, rfl⟩
      have bm := book_make true false false true al ((pairsOf ts).map fun a => (ir 0 p).map fun i => (run p o ws ts a i).2)
      have bm : makeK "Book" 2 p_Book___init__ (.ok [bN true al, .lst (((pairsOf ts).map fun a => (ir 0 p).map fun i => (run p o ws ts a i).2).map (bW false true))]) = _ := bm
      have ea : allowedOf p o ws ts = al := by unfold allowedOf; rw [if_neg hp1, hal']
      have er : reachOf p o ws ts = (pairsOf ts).map fun a => (ir 0 p).map fun i => (run p o ws ts a i).2 := by unfold reachOf; rw [if_neg hp1]
      have es : (strikesOf p o ws ts).map D.tup = SA ++ (pairsOf ts).flatMap G := by
        unfold strikesOf
        rw [if_neg hp1, List.map_append, List.map_flatMap]
        have e1 : (sA p o ws ts).map D.tup = SA := by rw [hSA]; exact tupA _
        have e2 : (fun a => ((ir 0 p).flatMap fun i => sR p o ws ts a i).map D.tup) = G := by
          funext a
          rw [List.map_flatMap, hG]
        rw [e1, e2]
      rw [ea, er, es]
      simp only [ev_sFrz, ev_frz, List.set_cons_succ, List.set_cons_zero, List.getElem?_cons_succ, List.getElem?_cons_zero, frzK_own, ev_sRet, ev_eTup, ev_eCons, ev_e1, ev_eVarB, varBK_own, b1_ok, oTuple_lst, lft_some, ev_eMake, ev_eVar, varK_val, ev_eNil, consK_ok, bm, tupK2, retK_ok, Wp_ok, Rt_rt]
end
end DL

namespace DL
open PySem PySem.Spec PyProof.Rows L2
/-! ### reasons -/
def topL (L M : List Int) : List Int := M.filter fun m => onT L M m
theorem top_ok (b c : Bool) (L M : List Int) (hM : ∀ m ∈ M, In L.length m) : p_top [bN b L, bN c M] = .ok (bN true (topL L M)) := by
  show mirD 3 2 pb_top _ = _
  rw [mirD_2]
  unfold pb_top
  simp [startD]
  rw [comp_filter (p := fun m => onT L M m)]
  · simp [← box_t, topL]
  · intro m hm
    have := onTop_bx b c L M m (hM m hm) hM
    simp [this]
def optT (r : Option (List D)) : D := match r with
  | some r => .tup r
  | none => .non
/-- the sets of a book: a row for each pair, a set for each person -/
structure ReOk (p o n : Nat) (re : List (List (List Int))) : Prop where
  len : re.length = n
  row : ∀ r ∈ re, r.length = p ∧ ∀ M ∈ r, ∀ m ∈ M, In o m
abbrev pr_ (ts : List (List Int)) (k : Int) : Int × Int := nth (pairsOf ts) k (0, 0)
abbrev rs_ (re : List (List (List Int))) (k i : Int) : List Int := nth (nth re k []) i []
theorem findSome_congr {α β : Type} {f g : α → Option β} : ∀ {l : List α}, (∀ x ∈ l, f x = g x) → l.findSome? f = l.findSome? g
  | [], _ => rfl
  | x :: l, h => by rw [List.findSome?_cons, List.findSome?_cons, h x List.mem_cons_self, findSome_congr fun y hy => h y (List.mem_cons_of_mem _ hy)]
theorem findSome_map {α β γ : Type} (g : β → γ) (f : α → Option β) : ∀ l : List α, l.findSome? (fun x => (f x).map g) = (l.findSome? f).map g
  | [] => rfl
  | x :: l => by
    rw [List.findSome?_cons, List.findSome?_cons]
    cases f x with
    | none => exact findSome_map g f l
    | some y => rfl
theorem find_tup {α : Type} {xs : List α} {f : α → Option (List D)} {d : D} (h : xs.findSome? (fun x => (f x).map D.tup) = some d) : Rt (optT (xs.findSome? f)) (.rt d) := by
  rw [findSome_map] at h
  cases hf : xs.findSome? f with
  | none => rw [hf] at h; cases h
  | some y => rw [hf] at h; cases h; exact (Rt_rt _ _).mpr rfl
theorem find_non {α : Type} {xs : List α} {f : α → Option (List D)} (h : xs.findSome? (fun x => (f x).map D.tup) = none) : xs.findSome? f = none := by
  rw [findSome_map] at h
  cases hf : xs.findSome? f with
  | none => rfl
  | some y => rw [hf] at h; cases h
def aloneN (ws : List (List (List Int))) (ts : List (List Int)) (al : List Int) (n : Int) : Option (List D) := if !decide (nth ts n [] = topL (lk ws n 0) al) then some [.str "alone", .int n] else none
def aloneF (ws : List (List (List Int))) (ts : List (List Int)) (al : List Int) : Option (List D) := (ir 0 ws.length).findSome? (aloneN ws ts al)
def lostR (ts : List (List Int)) (re : List (List (List Int))) (k : Int) : Option (List D) := if (nth re k []).any (fun M => !decide ((pr_ ts k).1 ∈ M)) then some [.str "lost", .int (pr_ ts k).1, .int (pr_ ts k).2] else none
def lostF (ts : List (List Int)) (re : List (List (List Int))) : Option (List D) := (ir 0 (pairsOf ts).length).findSome? (lostR ts re)
def staysB (p : Nat) (ws : List (List (List Int))) (ts : List (List Int)) (x n : Int) (sets : List (List Int)) : Bool := !decide (x ∈ nth ts n []) && (ir 0 p).all fun i => onT (lk ws n i) (nth sets i []) x
def stayN (p : Nat) (ws : List (List (List Int))) (ts : List (List Int)) (re : List (List (List Int))) (k n : Int) : Option (List D) := if staysB p ws ts (pr_ ts k).1 n (nth re k []) then some [.str "stay", .int (pr_ ts k).1, .int (pr_ ts k).2, .int n] else none
def stayR (p : Nat) (ws : List (List (List Int))) (ts : List (List Int)) (re : List (List (List Int))) (k : Int) : Option (List D) := (ir 0 ws.length).findSome? (stayN p ws ts re k)
def stayF (p : Nat) (ws : List (List (List Int))) (ts : List (List Int)) (re : List (List (List Int))) : Option (List D) := (ir 0 (pairsOf ts).length).findSome? (stayR p ws ts re)
def midB (ws : List (List (List Int))) (ts : List (List Int)) (x : Int) (mine yours : List Int) (n : Int) : Bool := decide (x ∈ nth ts n []) || !(onT (lk ws n 0) mine x && onT (lk ws n 1) yours x)
def isMid (ws : List (List (List Int))) (ts : List (List Int)) (x : Int) (mine yours : List Int) : Bool := (ir 0 ws.length).all (midB ws ts x mine yours)
def mids (ws : List (List (List Int))) (ts : List (List Int)) (mine yours : List Int) : List Int := mine.filter fun x => decide (x ∈ yours) && isMid ws ts x mine yours
def midN (ws : List (List (List Int))) (ts : List (List Int)) (re : List (List (List Int))) (k l : Int) : Option (List D) := if !decide (k = l) && decide ((mids ws ts (rs_ re k 0) (rs_ re l 1)).length = 0) then some [.str "middle", .int (pr_ ts k).1, .int (pr_ ts k).2, .int (pr_ ts l).1, .int (pr_ ts l).2] else none
def midR (ws : List (List (List Int))) (ts : List (List Int)) (re : List (List (List Int))) (k : Int) : Option (List D) := (ir 0 (pairsOf ts).length).findSome? (midN ws ts re k)
def midF (ws : List (List (List Int))) (ts : List (List Int)) (re : List (List (List Int))) : Option (List D) := (ir 0 (pairsOf ts).length).findSome? (midR ws ts re)
def reasonF (p : Nat) (ws : List (List (List Int))) (ts : List (List Int)) (al : List Int) (re : List (List (List Int))) : Option (List D) :=
  if p = 1 then aloneF ws ts al else match lostF ts re with
    | some d => some d
    | none => match stayF p ws ts re with
      | some d => some d
      | none => if p = 2 then midF ws ts re else none
section
variable {p o : Nat} {ws : List (List (List Int))} {ts : List (List Int)}
theorem alone_ok (h : ROk p o ws ts) (hp : p = 1) {al : List Int} (hal : ∀ m ∈ al, In o m) : p_alone_reason [ruleD p o ws ts, bN true al] = .ok (optT (aloneF ws ts al)) := by
  show mirD 3 2 pb_alone_reason _ = _
  rw [mirD_2]
  apply runK_wp
  unfold pb_alone_reason
  have hw := h.w2
  simp [startD, rf_worlds, rng_nat' (show ws.length ≤ 16777216 by omega)]
  refine Wp_someN D.int (ir 0 ws.length) (fun n => (aloneN ws ts al n).map D.tup) (fun δ => ∃ q, δ = [some (.val (ruleD p o ws ts)), some (.val (bN true al)), q]) ⟨_, rfl⟩ ?_ (fun d hd => find_tup hd) ?_
  · rintro n hn δ ⟨q, rfl⟩
    have hn := mem_ir.mp hn
    have hn : In ws.length n := ⟨hn.1, by omega⟩
    have hi : In p 0 := ⟨by decide, by omega⟩
    have hl := h.llen hn hi
    have t := top_ok true true (lk ws n 0) al (by rw [hl]; exact hal)
    have ne : oNe (bN true (nth ts n [])) (bN true (topL (lk ws n 0) al)) = some (.bl (!decide (nth ts n [] = topL (lk ws n 0) al))) := oNe_tup _ _
    unfold aloneN
    by_cases he : nth ts n [] = topL (lk ws n 0) al
    · have ne : oNe (bN true (topL (lk ws n 0) al)) (bN true (topL (lk ws n 0) al)) = some (.bl false) := by rw [he] at ne; simpa using ne
      simp [rf_told, rf_worlds, h.it hn, h.iw hn, h.il hn hi, t, he, ne]
    · simp [rf_told, rf_worlds, h.it hn, h.iw hn, h.il hn hi, t, he, ne]
  · rintro hd δ' ⟨q, rfl⟩
    have := find_non hd
    unfold aloneF
    rw [this]
    simp [optT]
theorem ix_pr (h : ROk p o ws ts) {k : Int} (hk : In (pairsOf ts).length k) : L2.atI ((pairsOf ts).map encP) k = some (encP (pr_ ts k)) := atI_en encP _ k _ hk.1 hk.2
theorem ix_re {n : Nat} {re : List (List (List Int))} (hr : ReOk p o n re) {k : Int} (hk : In n k) (b c : Bool) : L2.atI (re.map (bW b c)) k = some (bW b c (nth re k [])) := atI_en _ _ k _ hk.1 (by rw [hr.len]; exact hk.2)
theorem ix_rs {n : Nat} {re : List (List (List Int))} (hr : ReOk p o n re) {k i : Int} (hk : In n k) (hi : In p i) (b : Bool) : L2.atI ((nth re k []).map (bN b)) i = some (bN b (rs_ re k i)) :=
  atI_en _ _ i _ hi.1 (by rw [(hr.row _ (nth_mem re k [] hk.1 (by rw [hr.len]; exact hk.2))).1]; exact hi.2)
theorem ReOk.inn {n : Nat} {re : List (List (List Int))} (hr : ReOk p o n re) {k i : Int} (hk : In n k) (hi : In p i) : ∀ m ∈ rs_ re k i, In o m := by
  have h1 := hr.row _ (nth_mem re k [] hk.1 (by rw [hr.len]; exact hk.2))
  exact h1.2 _ (nth_mem _ i [] hi.1 (by rw [h1.1]; exact hi.2))
theorem lost_ok (h : ROk p o ws ts) {al : List Int} {re : List (List (List Int))} (hr : ReOk p o (pairsOf ts).length re) : p_lost_reason [ruleD p o ws ts, bookD al re] = .ok (optT (lostF ts re)) := by
  show mirD 4 2 pb_lost_reason _ = _
  rw [mirD_2]
  apply runK_wp
  unfold pb_lost_reason
  have pr := h.pr
  simp [startD, rf_pairs, rng_nat' (show (pairsOf ts).length ≤ 16777216 by omega)]
  refine Wp_someN D.int (ir 0 (pairsOf ts).length) (fun k => (lostR ts re k).map D.tup) (fun δ => ∃ q2 q3, δ = [some (.val (ruleD p o ws ts)), some (.val (bookD al re)), q2, q3]) ⟨_, _, rfl⟩ ?_ (fun d hd => find_tup hd) ?_
  · rintro k hk δ ⟨q2, q3, rfl⟩
    have hk := mem_ir.mp hk
    have hk : In (pairsOf ts).length k := ⟨hk.1, by omega⟩
    simp [bf_reach, ix_re hr hk]
    refine Wp_some0N (bN true) (nth re k []) (fun M => if (!decide ((pr_ ts k).1 ∈ M)) = true then some (.tup [.str "lost", .int (pr_ ts k).1, .int (pr_ ts k).2]) else none) (fun δ => ∃ q3, δ = [some (.val (ruleD p o ws ts)), some (.val (bookD al re)), some (.val (.int k)), q3]) ⟨_, rfl⟩ ?_ ?_ ?_
    · rintro M hM δ ⟨q3, rfl⟩
      by_cases hm : (pr_ ts k).1 ∈ M <;> simp [rf_pairs, ix_pr h hk, hm]
    · intro d hd
      rw [findSome_ite] at hd
      rw [Fs_rt]
      unfold lostR
      split at hd
      · rename_i ha
        rw [if_pos ha]; exact hd
      · cases hd
    · rintro hd δ' ⟨q3, rfl⟩
      rw [findSome_ite] at hd
      rw [Fs_nx]
      unfold lostR
      split at hd
      · cases hd
      · rename_i ha
        rw [if_neg ha]; exact ⟨rfl, _, _, rfl⟩
  · rintro hd δ' ⟨q2, q3, rfl⟩
    have := find_non hd
    unfold lostF
    rw [this]
    simp [optT]
theorem stays_ok (h : ROk p o ws ts) {x n : Int} {sets : List (List Int)} (hx : In o x) (hn : In ws.length n) (hs : sets.length = p) (hm : ∀ M ∈ sets, ∀ m ∈ M, In o m) :
    p_stays [ruleD p o ws ts, .int x, .int n, bW true true sets] = .ok (.bl (staysB p ws ts x n sets)) := by
  show mirD 5 4 pb_stays _ = _
  rw [mirD_4]
  apply runK_wp
  unfold pb_stays staysB
  have hp := h.p2
  by_cases hmt : x ∈ nth ts n []
  · simp [startD, rf_told, h.it hn, hmt]
  · simp [startD, rf_told, rf_people, h.it hn, hmt, rng_nat' (show p ≤ 16777216 by omega)]
    refine Wp_anyN D.int (ir 0 p) (fun i => !(onT (lk ws n i) (nth sets i []) x)) (.bl false) (fun δ => ∃ r, δ = [some (.val (ruleD p o ws ts)), some (.val (.int x)), some (.val (.int n)), some (.val (bW true true sets)), r]) ⟨_, rfl⟩ ?_ ?_ ?_
    · rintro i hi δ ⟨r, rfl⟩
      have hi := mem_ir.mp hi
      have hi : In p i := ⟨hi.1, by omega⟩
      have es := atI_en (bN true) sets i [] hi.1 (by rw [hs]; exact hi.2)
      have t := h.top hn hi hx (hm _ (nth_mem sets i [] hi.1 (by rw [hs]; exact hi.2))) true true
      cases ho : onT (lk ws n i) (nth sets i []) x <;> simp [rf_worlds, h.iw hn, h.il hn hi, es, t, ho]
    · intro ha
      rw [any_not] at ha
      exact Rt_f ha
    · rintro ha δ' ⟨r, rfl⟩
      rw [any_not] at ha
      simp only [ev_sRet, ev_eC, retK_ok, Wp_ok]
      exact Rt_t ha
theorem stay_ok (h : ROk p o ws ts) {al : List Int} {re : List (List (List Int))} (hr : ReOk p o (pairsOf ts).length re) : p_stay_reason [ruleD p o ws ts, bookD al re] = .ok (optT (stayF p ws ts re)) := by
  show mirD 4 2 pb_stay_reason _ = _
  rw [mirD_2]
  apply runK_wp
  unfold pb_stay_reason
  have pr := h.pr
  have hw := h.w2
  simp [startD, rf_pairs, rng_nat' (show (pairsOf ts).length ≤ 16777216 by omega)]
  refine Wp_someN D.int (ir 0 (pairsOf ts).length) (fun k => (stayR p ws ts re k).map D.tup) (fun δ => ∃ q2 q3, δ = [some (.val (ruleD p o ws ts)), some (.val (bookD al re)), q2, q3]) ⟨_, _, rfl⟩ ?_ (fun d hd => find_tup hd) ?_
  · rintro k hk δ ⟨q2, q3, rfl⟩
    have hk := mem_ir.mp hk
    have hk : In (pairsOf ts).length k := ⟨hk.1, by omega⟩
    have ha : pr_ ts k ∈ pairsOf ts := nth_mem _ k _ hk.1 hk.2
    obtain ⟨ha1, ha2⟩ := h.pin ha
    have hrow := hr.row _ (nth_mem re k [] hk.1 (by rw [hr.len]; exact hk.2))
    simp [rf_worlds, rng_nat' (show ws.length ≤ 16777216 by omega)]
    refine Wp_some0N D.int (ir 0 ws.length) (fun n => (stayN p ws ts re k n).map D.tup) (fun δ => ∃ q3, δ = [some (.val (ruleD p o ws ts)), some (.val (bookD al re)), some (.val (.int k)), q3]) ⟨_, rfl⟩ ?_ ?_ ?_
    · rintro n hn δ ⟨q3, rfl⟩
      have hn := mem_ir.mp hn
      have hn : In ws.length n := ⟨hn.1, by omega⟩
      have st := stays_ok h ha1 hn hrow.1 hrow.2
      cases hb : staysB p ws ts (pr_ ts k).1 n (nth re k []) <;> simp [stayN, rf_pairs, bf_reach, ix_pr h hk, ix_re hr hk, st, hb]
    · intro d hd
      rw [findSome_map] at hd
      exact hd
    · rintro hd δ' ⟨q3, rfl⟩
      rw [findSome_map] at hd
      exact ⟨hd, _, _, rfl⟩
  · rintro hd δ' ⟨q2, q3, rfl⟩
    have := find_non hd
    unfold stayF
    rw [this]
    simp [optT]
theorem isMid_ok (h : ROk p o ws ts) (hp : p = 2) {x : Int} {mine yours : List Int} (hx : In o x) (h1 : ∀ m ∈ mine, In o m) (h2 : ∀ m ∈ yours, In o m) :
    p_is_middle [ruleD p o ws ts, .int x, bN true mine, bN true yours] = .ok (.bl (isMid ws ts x mine yours)) := by
  show mirD 7 4 pb_is_middle _ = _
  rw [mirD_4]
  apply runK_wp
  unfold pb_is_middle isMid
  have hw := h.w2
  simp [startD, rf_worlds, rng_nat' (show ws.length ≤ 16777216 by omega)]
  refine Wp_anyN D.int (ir 0 ws.length) (fun n => !(midB ws ts x mine yours n)) (.bl false) (fun δ => ∃ q4 q5 q6, δ = [some (.val (ruleD p o ws ts)), some (.val (.int x)), some (.val (bN true mine)), some (.val (bN true yours)), q4, q5, q6]) ⟨_, _, _, rfl⟩ ?_ ?_ ?_
  · rintro n hn δ ⟨q4, q5, q6, rfl⟩
    have hn := mem_ir.mp hn
    have hn : In ws.length n := ⟨hn.1, by omega⟩
    have i0 : In p 0 := ⟨by decide, by omega⟩
    have i1 : In p 1 := ⟨by decide, by omega⟩
    have t0 := h.top hn i0 hx h1 true true
    have t1 := h.top hn i1 hx h2 true true
    have lw := h.wlen hn
    obtain ⟨a, b, eab⟩ : ∃ a b, nth ws n [] = [a, b] := by
      rw [hp] at lw
      match nth ws n [], lw with
      | [a, b], _ => exact ⟨a, b, rfl⟩
    have ea : lk ws n 0 = a := by unfold lk; rw [eab]; rfl
    have eb : lk ws n 1 = b := by unfold lk; rw [eab]; rfl
    have ew : bW true true (nth ws n []) = .tup [bN true a, bN true b] := by rw [eab]; rfl
    have iw := h.iw hn true true
    rw [ew] at iw
    unfold midB
    rw [ea] at t0 ⊢
    rw [eb] at t1 ⊢
    by_cases hm : x ∈ nth ts n []
    · simp [rf_worlds, rf_told, iw, h.it hn, hm]
    · cases c0 : onT a mine x <;> cases c1 : onT b yours x <;> simp [rf_worlds, rf_told, iw, h.it hn, hm, t0, t1, c0, c1]
  · intro ha
    rw [any_not] at ha
    exact Rt_f ha
  · rintro ha δ' ⟨q4, q5, q6, rfl⟩
    rw [any_not] at ha
    simp only [ev_sRet, ev_eC, retK_ok, Wp_ok]
    exact Rt_t ha
theorem mids_ok (h : ROk p o ws ts) (hp : p = 2) {al : List Int} {n : Nat} {re : List (List (List Int))} (hr : ReOk p o n re) {k l : Int} (hk : In n k) (hl : In n l) :
    p_middles [ruleD p o ws ts, bookD al re, .int k, .int l] = .ok (bN true (mids ws ts (rs_ re k 0) (rs_ re l 1))) := by
  show mirD 7 4 pb_middles _ = _
  rw [mirD_4]
  apply runK_wp
  unfold pb_middles
  have i0 : In p 0 := ⟨by decide, by omega⟩
  have i1 : In p 1 := ⟨by decide, by omega⟩
  have h1 := hr.inn hk i0
  have h2 := hr.inn hl i1
  simp [startD, bf_reach, ix_re hr hk, ix_re hr hl, ix_rs hr hk i0, ix_rs hr hl i1]
  rw [comp_filter (p := fun x => decide (x ∈ rs_ re l 1) && isMid ws ts x (rs_ re k 0) (rs_ re l 1))]
  · simp [← box_t, mids]
  · intro x hx
    have m := isMid_ok h hp (h1 x hx) h1 h2
    by_cases hm : x ∈ rs_ re l 1 <;> simp [hm, m]
theorem middle_ok (h : ROk p o ws ts) (hp : p = 2) {al : List Int} {re : List (List (List Int))} (hr : ReOk p o (pairsOf ts).length re) : p_middle_reason [ruleD p o ws ts, bookD al re] = .ok (optT (midF ws ts re)) := by
  show mirD 4 2 pb_middle_reason _ = _
  rw [mirD_2]
  apply runK_wp
  unfold pb_middle_reason
  have pr := h.pr
  simp [startD, rf_pairs, rng_nat' (show (pairsOf ts).length ≤ 16777216 by omega)]
  refine Wp_someN D.int (ir 0 (pairsOf ts).length) (fun k => (midR ws ts re k).map D.tup) (fun δ => ∃ q2 q3, δ = [some (.val (ruleD p o ws ts)), some (.val (bookD al re)), q2, q3]) ⟨_, _, rfl⟩ ?_ (fun d hd => find_tup hd) ?_
  · rintro k hk δ ⟨q2, q3, rfl⟩
    have hk := mem_ir.mp hk
    have hk : In (pairsOf ts).length k := ⟨hk.1, by omega⟩
    simp [rf_pairs, rng_nat' (show (pairsOf ts).length ≤ 16777216 by omega)]
    refine Wp_some0N D.int (ir 0 (pairsOf ts).length) (fun l => (midN ws ts re k l).map D.tup) (fun δ => ∃ q3, δ = [some (.val (ruleD p o ws ts)), some (.val (bookD al re)), some (.val (.int k)), q3]) ⟨_, rfl⟩ ?_ ?_ ?_
    · rintro l hl δ ⟨q3, rfl⟩
      have hl := mem_ir.mp hl
      have hl : In (pairsOf ts).length l := ⟨hl.1, by omega⟩
      have md := mids_ok (al := al) h hp hr hk hl
      unfold midN
      by_cases hkl : k = l
      · simp [hkl]
      · cases hb : decide ((mids ws ts (rs_ re k 0) (rs_ re l 1)).length = 0) <;> simp at hb <;> simp [hkl, md, hb, rf_pairs, ix_pr h hk, ix_pr h hl]
    · intro d hd
      rw [findSome_map] at hd
      exact hd
    · rintro hd δ' ⟨q3, rfl⟩
      rw [findSome_map] at hd
      exact ⟨hd, _, _, rfl⟩
  · rintro hd δ' ⟨q2, q3, rfl⟩
    have := find_non hd
    unfold midF
    rw [this]
    simp [optT]
@[simp] theorem oIs_tnon' (xs : List D) : oIs (.tup xs) .non = some (.bl false) := oIs_tnon xs
theorem reason_ok (h : ROk p o ws ts) {al : List Int} (hal : ∀ m ∈ al, In o m) {re : List (List (List Int))} (hr : p ≠ 1 → ReOk p o (pairsOf ts).length re) : p_first_reason [ruleD p o ws ts, bookD al re] = .ok (optT (reasonF p ws ts al re)) := by
  show mirD 3 2 pb_first_reason _ = _
  rw [mirD_2]
  apply runK_wp
  unfold pb_first_reason reasonF
  by_cases hp : p = 1
  · have a := alone_ok h hp hal
    have e1 : (p : Int) = 1 := by omega
    rw [if_pos hp]
    simp [startD, rf_people, e1, bf_allowed, a]
  · have e1 : ¬ (p : Int) = 1 := by omega
    rw [if_neg hp]
    have l := lost_ok (al := al) h (hr hp)
    have s := stay_ok (al := al) h (hr hp)
    cases hl : lostF ts re with
    | some d =>
      rw [hl] at l
      simp [startD, rf_people, e1, l, optT]
    | none =>
      rw [hl] at l
      cases hs : stayF p ws ts re with
      | some d =>
        rw [hs] at s
        simp [startD, rf_people, e1, l, optT, s]
      | none =>
        rw [hs] at s
        by_cases hp2 : p = 2
        · have m := middle_ok (al := al) h hp2 (hr hp)
          have e2 : (p : Int) = 2 := by omega
          simp [startD, rf_people, e1, l, optT, s, e2, m, if_pos hp2]
        · have e2 : ¬ (p : Int) = 2 := by omega
          simp [startD, rf_people, e1, l, optT, s, e2, if_neg hp2]
theorem allowed_in (h : ROk p o ws ts) : ∀ m ∈ allowedOf p o ws ts, In o m := by
  intro m hm
  unfold allowedOf at hm
  split at hm
  · unfold loneOf at hm
    rw [mem_ssetI] at hm
    obtain ⟨a, ha, rfl⟩ := List.mem_map.mp hm
    exact (h.pin ha).1
  · exact alw_in hm
theorem reach_ok (h : ROk p o ws ts) (hp : p ≠ 1) : ReOk p o (pairsOf ts).length (reachOf p o ws ts) := by
  unfold reachOf
  rw [if_neg hp]
  refine ⟨List.length_map _, fun r hr => ?_⟩
  obtain ⟨a, ha, rfl⟩ := List.mem_map.mp hr
  refine ⟨by rw [List.length_map, ir_length], fun M hM m hm => ?_⟩
  obtain ⟨i, hi, rfl⟩ := List.mem_map.mp hM
  exact alw_in (below_in ((itl_sublist fR_mem _ _ (Nat.le_refl _)).subset hm))
def verdictD (p o : Nat) (ws : List (List (List Int))) (ts : List (List Int)) : D := match reasonF p ws ts (allowedOf p o ws ts) (reachOf p o ws ts) with
  | none => bookD (allowedOf p o ws ts) (reachOf p o ws ts)
  | some r => barD (strikesOf p o ws ts) r
theorem verdict_ok (h : ROk p o ws ts) : p_verdict [ruleD p o ws ts] = .ok (verdictD p o ws ts) := by
  show mirD 4 1 pb_verdict _ = _
  rw [mirD_1]
  apply runK_wp
  unfold pb_verdict verdictD
  have g := greatest_ok h
  have r := reason_ok h (allowed_in h) (fun hp => reach_ok h hp)
  cases hr : reasonF p ws ts (allowedOf p o ws ts) (reachOf p o ws ts) with
  | none =>
    rw [hr] at r
    simp [startD, g, r, optT]
  | some d =>
    rw [hr] at r
    have b := bar_make (strikesOf p o ws ts) d
    simp [startD, g, r, optT, b]
end
end DL

namespace DL
open PySem PySem.Spec PyProof.Rows L2
def pb__law_threat : Sv :=
    (sSeq (sIf (eT (e2 oIn (eVar 2) (e2 oIx (eVar 1) (eVar 3)))) (sRet (eC (.bl false))) sNil)
    (sSeq (sFor (eRng1 (e1 oLen (e2 oIx (eVar 0) (eVar 3)))) (bdN 6) (sIf (tAndD (eT (e2 oNe (eVar 6) (eVar 5))) (tNotD (eT (eCall 3 (mirD 4 3 onTopB) (eCons (e2 oIx (e2 oIx (eVar 0) (eVar 3)) (eVar 6)) (eCons (eVar 2) (eCons (eVar 4) eNil))))))) (sRet (eC (.bl false))) sNil))
    (sRet (eC (.bl true)))))
def p__law_threat : Mir := mirD 7 6 pb__law_threat
def pb__law_right : Sv :=
    (sSeq (sOwn 5 (fLst eNil))
    (sSeq (sFor (eIter (eVar 3)) (bdN 6) (sFor (eRng1 (e1 oLen (eVar 0))) (bdN 7) (sIf (eT (eCall 6 p__law_threat (eCons (eVar 0) (eCons (eVar 1) (eCons (eVar 6) (eCons (eVar 7) (eCons (eVar 2) (eCons (eVar 4) eNil)))))))) (sIf (tOrD (eT (e2 oLt (eVar 4) (eC (.int 0)))) (eT (eCall 3 (mirD 4 3 onTopB) (eCons (e2 oIx (e2 oIx (eVar 0) (eVar 7)) (eVar 4)) (eCons (eVar 6) (eCons (eVar 3) eNil)))))) (sApp 5 (eTup (eCons (eVar 6) (eCons (eVar 7) eNil)))) sNil) sNil)))
    (sFrz 5 (sRet (eVar 5)))))
def p__law_right : Mir := mirD 8 5 pb__law_right
def pb__law_below : Sv :=
    (sSeq (sSet 4 (e2 oIx (e2 oIx (eVar 0) (e2 oIx (eVar 2) (eC (.int 1)))) (eVar 3)))
    (sRet (eOf (fComp (eIter (eVar 1)) [5] (bdN 5) (eT (e2 oLe (e2 oIx (eVar 4) (eVar 5)) (e2 oIx (eVar 4) (e2 oIx (eVar 2) (eC (.int 0)))))) (eVar 5)))))
def p__law_below : Mir := mirD 6 4 pb__law_below
def pb__law_greatest : Sv :=
    (sSeq (sIf (eT (e2 oEq (e1 oLen (e2 oIx (eVar 0) (eC (.int 0)))) (eC (.int 1)))) (sSeq (sSet 4 (e1 oTuple (eOf (fSortedSet (eOf (fComp (eIter (eVar 2)) [5] (bdN 5) tYesD (e2 oIx (eVar 5) (eC (.int 0)))))))))
    (sRet (eTup (eCons (eTup eNil) (eCons (eVar 4) (eCons (e1 oTuple (eOf (fComp (eIter (eVar 2)) [5] (bdN 5) tYesD (eTup (eCons (eVar 4) eNil))))) eNil)))))) sNil)
    (sSeq (sOwn 6 (fLst eNil))
    (sSeq (sSet 7 (eOf (eRng1 (eVar 3))))
    (sSeq (sFor (eRng1 (eVar 3)) (bdN 8) (sSeq (sSet 9 (eCall 5 p__law_right (eCons (eVar 0) (eCons (eVar 1) (eCons (eVar 7) (eCons (eVar 7) (eCons (e1 oNeg (eC (.int 1))) eNil)))))))
    (sIf (eT (e2 oGt (e1 oLen (eVar 9)) (eC (.int 0)))) (sSeq (sApp 6 (e2 oAdd (eTup (eCons (eC (.str "allowed")) eNil)) (e2 oIx (eVar 9) (eC (.int 0)))))
    (sSetF 7 (fComp (eIter (eVar 7)) [10] (bdN 10) (eT (e2 oNe (eVar 10) (e2 oIx (e2 oIx (eVar 9) (eC (.int 0))) (eC (.int 0))))) (eVar 10)))) sNil)))
    (sSeq (sOwn 11 (fLst eNil))
    (sSeq (sFor (eIter (eVar 2)) (bdN 5) (sSeq (sOwn 12 (fLst eNil))
    (sSeq (sFor (eRng1 (e1 oLen (e2 oIx (eVar 0) (eC (.int 0))))) (bdN 13) (sSeq (sSet 14 (eCall 4 p__law_below (eCons (eVar 0) (eCons (eVar 7) (eCons (eVar 5) (eCons (eVar 13) eNil))))))
    (sSeq (sFor (eRng1 (e1 oLen (eVar 14))) (bdN 8) (sSeq (sSet 9 (eCall 5 p__law_right (eCons (eVar 0) (eCons (eVar 1) (eCons (eVar 7) (eCons (eVar 14) (eCons (eVar 13) eNil)))))))
    (sIf (eT (e2 oGt (e1 oLen (eVar 9)) (eC (.int 0)))) (sSeq (sApp 6 (e2 oAdd (e2 oAdd (eTup (eCons (eC (.str "reach")) (eCons (eVar 13) eNil))) (eVar 5)) (e2 oIx (eVar 9) (eC (.int 0)))))
    (sSetF 14 (fComp (eIter (eVar 14)) [10] (bdN 10) (eT (e2 oNe (eVar 10) (e2 oIx (e2 oIx (eVar 9) (eC (.int 0))) (eC (.int 0))))) (eVar 10)))) sNil)))
    (sApp 12 (e1 oTuple (eVar 14))))))
    (sApp 11 (e1 oTuple (eVarB 12))))))
    (sRet (eTup (eCons (e1 oTuple (eVarB 6)) (eCons (e1 oTuple (eVar 7)) (eCons (e1 oTuple (eVarB 11)) eNil)))))))))))
def p__law_greatest : Mir := mirD 15 4 pb__law_greatest
def pb__law_stays : Sv :=
    (sRet (e2 oNotInB (eC (.bl false)) (eOf (fComp (eRng1 (e1 oLen (eVar 0))) [3] (bdN 3) tYesD (eCall 3 (mirD 4 3 onTopB) (eCons (e2 oIx (eVar 0) (eVar 3)) (eCons (eVar 1) (eCons (e2 oIx (eVar 2) (eVar 3)) eNil))))))))
def p__law_stays : Mir := mirD 4 3 pb__law_stays
def pb__law_middles : Sv :=
    (sSeq (sOwn 4 (fLst eNil))
    (sSeq (sFor (eIter (eVar 2)) (bdN 5) (sSeq (sSet 6 (eC (.int 0)))
    (sSeq (sFor (eRng1 (e1 oLen (eVar 0))) (bdN 7) (sIf (tAndD (eT (e2 oNotIn (eVar 5) (e2 oIx (eVar 1) (eVar 7)))) (eT (eCall 3 p__law_stays (eCons (e2 oIx (eVar 0) (eVar 7)) (eCons (eVar 5) (eCons (eTup (eCons (eVar 2) (eCons (eVar 3) eNil))) eNil)))))) (sAug 6 oIadd (eC (.int 1))) sNil))
    (sIf (tAndD (eT (e2 oIn (eVar 5) (eVar 3))) (eT (e2 oEq (eVar 6) (eC (.int 0))))) (sApp 4 (eVar 5)) sNil))))
    (sFrz 4 (sRet (eVar 4)))))
def p__law_middles : Mir := mirD 8 4 pb__law_middles
def pb__law_alone : Sv :=
    (sSeq (sFor (eRng1 (e1 oLen (eVar 0))) (bdN 3) (sSeq (sSetF 4 (fComp (eIter (eVar 2)) [5] (bdN 5) (eT (eCall 3 (mirD 4 3 onTopB) (eCons (e2 oIx (e2 oIx (eVar 0) (eVar 3)) (eC (.int 0))) (eCons (eVar 5) (eCons (eVar 2) eNil))))) (eVar 5)))
    (sIf (eT (e2 oNe (eVar 4) (eOf (fList (e2 oIx (eVar 1) (eVar 3)))))) (sRet (eTup (eCons (eC (.str "alone")) (eCons (eVar 3) eNil)))) sNil)))
    (sRet (eTup eNil)))
def p__law_alone : Mir := mirD 6 3 pb__law_alone
def pb__law_reason : Sv :=
    (sSeq (sIf (eT (e2 oEq (e1 oLen (e2 oIx (eVar 0) (eC (.int 0)))) (eC (.int 1)))) (sRet (eCall 3 p__law_alone (eCons (eVar 0) (eCons (eVar 1) (eCons (eVar 3) eNil))))) sNil)
    (sSeq (sFor (eRng1 (e1 oLen (eVar 2))) (bdN 5) (sFor (eIter (e2 oIx (eVar 4) (eVar 5))) (bdN 6) (sIf (eT (e2 oNotIn (e2 oIx (e2 oIx (eVar 2) (eVar 5)) (eC (.int 0))) (eVar 6))) (sRet (e2 oAdd (eTup (eCons (eC (.str "lost")) eNil)) (e2 oIx (eVar 2) (eVar 5)))) sNil)))
    (sSeq (sFor (eRng1 (e1 oLen (eVar 2))) (bdN 5) (sFor (eRng1 (e1 oLen (eVar 0))) (bdN 7) (sIf (tAndD (eT (e2 oNotIn (e2 oIx (e2 oIx (eVar 2) (eVar 5)) (eC (.int 0))) (e2 oIx (eVar 1) (eVar 7)))) (eT (eCall 3 p__law_stays (eCons (e2 oIx (eVar 0) (eVar 7)) (eCons (e2 oIx (e2 oIx (eVar 2) (eVar 5)) (eC (.int 0))) (eCons (e2 oIx (eVar 4) (eVar 5)) eNil)))))) (sRet (e2 oAdd (e2 oAdd (eTup (eCons (eC (.str "stay")) eNil)) (e2 oIx (eVar 2) (eVar 5))) (eTup (eCons (eVar 7) eNil)))) sNil)))
    (sSeq (sIf (eT (e2 oGt (e1 oLen (e2 oIx (eVar 0) (eC (.int 0)))) (eC (.int 2)))) (sRet (eTup eNil)) sNil)
    (sSeq (sFor (eRng1 (e1 oLen (eVar 2))) (bdN 5) (sFor (eRng1 (e1 oLen (eVar 2))) (bdN 8) (sIf (tAndD (eT (e2 oNe (eVar 5) (eVar 8))) (eT (e2 oEq (e1 oLen (eCall 4 p__law_middles (eCons (eVar 0) (eCons (eVar 1) (eCons (e2 oIx (e2 oIx (eVar 4) (eVar 5)) (eC (.int 0))) (eCons (e2 oIx (e2 oIx (eVar 4) (eVar 8)) (eC (.int 1))) eNil)))))) (eC (.int 0))))) (sRet (e2 oAdd (e2 oAdd (eTup (eCons (eC (.str "middle")) eNil)) (e2 oIx (eVar 2) (eVar 5))) (e2 oIx (eVar 2) (eVar 8)))) sNil)))
    (sRet (eTup eNil)))))))
def p__law_reason : Mir := mirD 9 5 pb__law_reason
end DL

namespace DL
open PySem PySem.Spec PyProof.Rows L2
/-! ### the laws' own threats -/
theorem oNotInB_map {α : Type} (f : α → Bool) (xs : List α) : oNotInB (.bl false) (.lst (xs.map fun i => .bl (f i))) = some (.bl (xs.all f)) := by
  have e : (xs.map fun i => D.bl (f i)) = (xs.map f).map D.bl := by rw [List.map_map]; rfl
  rw [e, oNotInB_bl, false_nin]
theorem oInB_map {α : Type} (f : α → Bool) (xs : List α) : oInB (.bl true) (.lst (xs.map fun i => .bl (f i))) = some (.bl (xs.any f)) := by
  have e : (xs.map fun i => D.bl (f i)) = (xs.map f).map D.bl := by rw [List.map_map]; rfl
  rw [e, oInB_bl, true_in]
section
variable {p o : Nat} {ws : List (List (List Int))} {ts : List (List Int)}
theorem lawThreat_ok (a b c d e f : Bool) (h : ROk p o ws ts) {x n q : Int} {M : List Int} (hx : In o x) (hn : In ws.length n) (hM : ∀ m ∈ M, In o m) :
    p__law_threat [bWs a b c ws, bW d e ts, .int x, .int n, bN f M, .int q] = .ok (.bl (thr p ws ts M q x n)) := by
  show mirD 7 6 pb__law_threat _ = _
  rw [mirD_6]
  apply runK_wp
  unfold pb__law_threat thr
  have hp := h.p2
  have hw := h.wlen hn
  by_cases hm : x ∈ nth ts n []
  · simp [startD, h.it hn, hm]
  · simp [startD, h.it hn, h.iw hn, hm, hw, rng_nat' (show p ≤ 16777216 by omega)]
    refine Wp_anyN D.int (ir 0 p) (fun i => !(decide (i = q) || onT (lk ws n i) M x)) (.bl false) (fun δ => ∃ r, δ = [some (.val (bWs a b c ws)), some (.val (bW d e ts)), some (.val (.int x)), some (.val (.int n)), some (.val (bN f M)), some (.val (.int q)), r]) ⟨_, rfl⟩ ?_ ?_ ?_
    · rintro i hi δ ⟨r, rfl⟩
      have hi := mem_ir.mp hi
      have hi : In p i := ⟨hi.1, by omega⟩
      by_cases hq : i = q
      · simp [hq]
      · cases ho : onT (lk ws n i) M x <;> simp [hq, h.iw hn, h.il hn hi, h.top hn hi hx hM, ho]
    · intro ha
      rw [any_not] at ha
      exact Rt_f ha
    · rintro ha δ' ⟨r, rfl⟩
      rw [any_not] at ha
      simp only [ev_sRet, ev_eC, retK_ok, Wp_ok]
      exact Rt_t ha
theorem lawStays_ok (b c d e : Bool) (h : ROk p o ws ts) {x n : Int} {sets : List (List Int)} (hx : In o x) (hn : In ws.length n) (hs : p ≤ sets.length) (hm : ∀ M ∈ sets, ∀ m ∈ M, In o m) :
    p__law_stays [bW b c (nth ws n []), .int x, bW d e sets] = .ok (.bl ((ir 0 p).all fun i => onT (lk ws n i) (nth sets i []) x)) := by
  show mirD 4 3 pb__law_stays _ = _
  rw [mirD_3]
  apply runK_wp
  unfold pb__law_stays
  have hp := h.p2
  have hw := h.wlen hn
  have hc := fun δ d0 d1 d2 d3 => comp_all (i := 3) (te := (eCall 3 (mirD 4 3 onTopB) (eCons (e2 oIx (eVar 0) (eVar 3)) (eCons (eVar 1) (eCons (e2 oIx (eVar 2) (eVar 3)) eNil))))) (δ := δ) D.int (fun i => .bl (onT (lk ws n i) (nth sets i []) x)) (ir 0 p) (fun i hi => by
    have d0 : δ[0]? = some (some (.val (bW b c (nth ws n [])))) := d0
    have d1 : δ[1]? = some (some (.val (.int x))) := d1
    have d2 : δ[2]? = some (some (.val (bW d e sets))) := d2
    have d3 : 3 < δ.length := d3
    have hi := mem_ir.mp hi
    have hi : In p i := ⟨hi.1, by omega⟩
    have es := atI_en (bN e) sets i [] hi.1 (by have := hi.2; omega)
    have t := h.top hn hi hx (hm _ (nth_mem sets i [] hi.1 (by have := hi.2; omega))) c e
    simp [d0, d1, d2, d3, h.il hn hi, es, t])
  have hc := hc [some (.val (bW b c (nth ws n []))), some (.val (.int x)), some (.val (bW d e sets)), none] (by simp) (by simp) (by simp) (by simp)
  have hc : compD (bdN 3) tYesD _ _ (nums (ir 0 p)) = _ := hc
  simp [startD, hw, rng_nat' (show p ≤ 16777216 by omega), hc, oNotInB_map]
end
/-- the threats that strike a member -/
def rightL (p : Nat) (ws : List (List (List Int))) (ts : List (List Int)) (kept members : List Int) (q : Int) : List (Int × Int) :=
  members.flatMap fun x => ((ir 0 ws.length).filter fun n => thr p ws ts kept q x n && (decide (q < 0) || onT (lk ws n q) members x)).map fun n => (x, n)
theorem fA_right (p : Nat) (ws : List (List (List Int))) (ts : List (List Int)) (M : List Int) : fA p ws ts M = (rightL p ws ts M M (-1)).head? := by
  unfold fA thrs rightL
  simp
theorem findSome_filter {α β : Type} (g : α → Bool) (f : α → Option β) : ∀ l : List α, (l.filter g).findSome? f = l.findSome? fun x => if g x = true then f x else none
  | [] => rfl
  | x :: l => by
    rw [List.findSome?_cons]
    by_cases h : g x = true
    · rw [List.filter_cons_of_pos h, List.findSome?_cons, if_pos h, findSome_filter g f l]
    · rw [List.filter_cons_of_neg h, if_neg h, findSome_filter g f l]
theorem find_map {α β : Type} (f : α → β) (P : β → Bool) : ∀ l : List α, (l.map f).find? P = (l.find? fun x => P (f x)).map f
  | [] => rfl
  | x :: l => by
    rw [List.map_cons, List.find?_cons, List.find?_cons]
    cases P (f x) with
    | true => rfl
    | false => exact find_map f P l
theorem find_filter {α : Type} (g P : α → Bool) : ∀ l : List α, (l.filter g).find? P = l.find? fun x => g x && P x
  | [] => rfl
  | x :: l => by
    rw [List.find?_cons]
    by_cases h : g x = true
    · rw [List.filter_cons_of_pos h, List.find?_cons, h, Bool.true_and, find_filter g P l]
    · rw [List.filter_cons_of_neg h]
      simp only [Bool.not_eq_true] at h
      rw [h, Bool.false_and, find_filter g P l]
theorem head_filter {α : Type} (g : α → Bool) : ∀ l : List α, (l.filter g).head? = l.find? g
  | [] => rfl
  | x :: l => by
    rw [List.find?_cons]
    by_cases h : g x = true
    · rw [List.filter_cons_of_pos h, h]; rfl
    · rw [List.filter_cons_of_neg h]
      simp only [Bool.not_eq_true] at h
      rw [h, head_filter g l]
theorem fR_right (p : Nat) (ws : List (List (List Int))) (ts : List (List Int)) (kept : List Int) (g : Int → Bool) (q : Int) (hq : 0 ≤ q) : fR ws (thrs p ws ts kept q) q (kept.filter g) = (rightL p ws ts kept (kept.filter g) q).head? := by
  unfold fR thrs rightL
  rw [List.find?_flatMap, List.head?_flatMap, findSome_filter]
  apply findSome_congr
  intro x hx
  rw [find_map, find_filter, List.head?_map, head_filter]
  have hq' : decide (q < 0) = false := by simp; omega
  by_cases h : g x = true
  · rw [if_pos h]
    have : decide (x ∈ kept.filter g) = true := by simp [hx, h]
    simp only [this, hq', Bool.true_and, Bool.false_or]
  · rw [if_neg h]
    have : decide (x ∈ kept.filter g) = false := by simp [hx, h]
    simp only [this, Bool.false_and, Bool.and_false]
    have : (ir 0 ws.length).find? (fun _ => false) = none := by rw [List.find?_eq_none]; simp
    rw [this]; rfl
theorem wo_filter (kept : List Int) (g : Int → Bool) (x : Int) : wo (kept.filter g) x = kept.filter fun m => !decide (m = x) && g m := by
  unfold wo
  rw [List.filter_filter]
theorem itl_congr {f f' : List Int → Option (Int × Int)} (hf : ∀ M r, f M = some r → r.1 ∈ M) (hf' : ∀ M r, f' M = some r → r.1 ∈ M) (I : List Int → Prop) (he : ∀ M, I M → f M = f' M) (hw : ∀ M x, I M → I (wo M x)) : ∀ (k : Nat) (M : List Int), M.length ≤ k → I M → itl f M = itl f' M
  | k, M, hk, h => by
    cases hM : f M with
    | none => rw [itl_none hM, itl_none (he M h ▸ hM)]
    | some r =>
      have hM' : f' M = some r := he M h ▸ hM
      have := wo_len (hf _ _ hM)
      rw [itl_some hf hM, itl_some hf' hM']
      cases k with
      | zero => omega
      | succ k => rw [itl_congr hf hf' I he hw k _ (by omega) (hw M r.1 h)]
theorem rightL_mem {p : Nat} {ws : List (List (List Int))} {ts : List (List Int)} {kept members : List Int} {q : Int} {r : Int × Int} (h : r ∈ rightL p ws ts kept members q) : r.1 ∈ members ∧ In ws.length r.2 := by
  unfold rightL at h
  rw [List.mem_flatMap] at h
  obtain ⟨x, hx, h⟩ := h
  obtain ⟨n, hn, rfl⟩ := List.mem_map.mp h
  have := mem_ir.mp (List.mem_filter.mp hn).1
  exact ⟨hx, this.1, by show n < _; omega⟩
theorem run_right (p o : Nat) (ws : List (List (List Int))) (ts : List (List Int)) (a : Int × Int) (i : Int) (hi : 0 ≤ i) : run p o ws ts a i = itl (fun M => (rightL p ws ts (alw p o ws ts) M i).head?) (below ws (alw p o ws ts) a i) := by
  unfold run
  refine itl_congr fR_mem (fun M r h => (rightL_mem (List.mem_of_head? h)).1) (fun M => ∃ g, M = (alw p o ws ts).filter g) ?_ ?_ _ _ (Nat.le_refl _) ⟨_, rfl⟩
  · rintro M ⟨g, rfl⟩
    exact fR_right p ws ts _ g i hi
  · rintro M x ⟨g, rfl⟩
    exact ⟨_, wo_filter _ g x⟩
theorem alw_right (p o : Nat) (ws : List (List (List Int))) (ts : List (List Int)) : itl (fA p ws ts) (ir 0 o) = itl (fun M => (rightL p ws ts M M (-1)).head?) (ir 0 o) := by
  congr 1
  funext M
  exact fA_right p ws ts M
end DL

namespace DL
open PySem PySem.Spec PyProof.Rows L2
section
variable {p o : Nat} {ws : List (List (List Int))} {ts : List (List Int)}
theorem right_len (kept members : List Int) (q : Int) : (rightL p ws ts kept members q).length ≤ members.length * ws.length := by
  unfold rightL
  refine flatMap_len _ _ _ fun x _ => ?_
  rw [List.length_map]
  exact Nat.le_trans (List.length_filter_le _ _) (by rw [ir_length]; exact Nat.le_refl _)
def condR (p : Nat) (ws : List (List (List Int))) (ts : List (List Int)) (kept members : List Int) (q x n : Int) : Bool := thr p ws ts kept q x n && (decide (q < 0) || onT (lk ws n q) members x)
def rightR (p : Nat) (ws : List (List (List Int))) (ts : List (List Int)) (kept members : List Int) (q x : Int) : List (Int × Int) := ((ir 0 ws.length).filter (condR p ws ts kept members q x)).map fun n => (x, n)
theorem lawRight_ok (a b c d e f g : Bool) (h : ROk p o ws ts) {kept members : List Int} {q : Int} (hk : ∀ m ∈ kept, In o m) (hm : ∀ m ∈ members, In o m) (hq : q < 0 ∨ In p q) (hl : members.length ≤ 1000) :
    p__law_right [bWs a b c ws, bW d e ts, bN f kept, bN g members, .int q] = .ok (.lst ((rightL p ws ts kept members q).map encP)) := by
  show mirD 8 5 pb__law_right _ = _
  rw [mirD_5]
  apply runK_wp
  unfold pb__law_right
  have hw := h.w2
  have lR : ∀ x, (rightR p ws ts kept members q x).length ≤ 8 := fun x => by
    unfold rightR
    rw [List.length_map]
    exact Nat.le_trans (List.length_filter_le _ _) (by rw [ir_length]; exact hw)
  simp [startD]
  refine Wp_accN D.int members (fun ps δ => ∃ q6 q7, δ = [some (.val (bWs a b c ws)), some (.val (bW d e ts)), some (.val (bN f kept)), some (.val (bN g members)), some (.val (.int q)), some (.own ((ps.flatMap (rightR p ws ts kept members q)).map encP)), q6, q7]) ⟨_, _, rfl⟩ ?_ ?_
  · rintro ps x r δ he ⟨q6, q7, rfl⟩
    have hx : In o x := hm x (by rw [he]; simp)
    have hlp : ps.length ≤ 1000 := by
      have := congrArg List.length he
      rw [List.length_append] at this; omega
    have hlen : (ps.flatMap (rightR p ws ts kept members q)).length ≤ 8000 := Nat.le_trans (flatMap_len ps _ 8 fun y _ => lR y) (by omega)
    simp [rng_nat' (show ws.length ≤ 16777216 by omega)]
    refine Wp_acc0N D.int (ir 0 ws.length) (fun ns δ => ∃ q7, δ = [some (.val (bWs a b c ws)), some (.val (bW d e ts)), some (.val (bN f kept)), some (.val (bN g members)), some (.val (.int q)), some (.own ((ps.flatMap (rightR p ws ts kept members q) ++ (ns.filter (condR p ws ts kept members q x)).map fun n => (x, n)).map encP)), some (.val (.int x)), q7]) ⟨_, by simp; rfl⟩ ?_ ?_
    · rintro ns n r2 δ he2 ⟨q7, rfl⟩
      have hn : n ∈ ir 0 ws.length := by rw [he2]; simp
      have hn := mem_ir.mp hn
      have hn : In ws.length n := ⟨hn.1, by omega⟩
      have hns : ns.length ≤ 8 := by
        have := congrArg List.length he2
        rw [List.length_append, ir_length] at this; omega
      have hz : ((ps.flatMap (rightR p ws ts kept members q) ++ (ns.filter (condR p ws ts kept members q x)).map fun n => (x, n)).map encP).length < 16777216 := by
        rw [List.length_map, List.length_append, List.length_map]
        have := List.length_filter_le (condR p ws ts kept members q x) ns
        omega
      have hz := fun i δ d => appK_ok (i := i) (δ := δ) (d := d) hz
      have t := lawThreat_ok a b c d e f h (q := q) hx hn hk
      have fin : ∀ cb : Bool, condR p ws ts kept members q x n = cb → (ns ++ [n]).filter (condR p ws ts kept members q x) = ns.filter (condR p ws ts kept members q x) ++ if cb = true then [n] else [] := fun cb hcb => by rw [filter_snoc, hcb]
      cases ht : thr p ws ts kept q x n
      · have hc : condR p ws ts kept members q x n = false := by unfold condR; rw [ht]; rfl
        rw [fin _ hc]
        simp [-List.map_append, t, ht]
      · by_cases h0 : q < 0
        · have hc : condR p ws ts kept members q x n = true := by unfold condR; rw [ht]; simp [h0]
          rw [fin _ hc]
          simp only [List.set_cons_succ, List.set_cons_zero, ev_sIf, ev_eT, ev_eCall, ev_eCons, ev_eVar, ev_eNil, List.getElem?_cons_succ, List.getElem?_cons_zero, varK_val, consK_ok, callK_6, t, ht, tK_bl, ifK_t, ev_tOr, ev_e2, ev_eC, b2_ok, oLt_int, lft_some, h0, decide_true, orK_t, ev_sApp, ev_ownAt, ownAtK_own, ev_eTup, tupK2, hz, Wp_ok, Nx_nx]
          exact ⟨_, by simp; rfl⟩
        · have hi : In p q := hq.resolve_left h0
          have t2 := h.top hn hi hx hm c g
          cases hb : onT (lk ws n q) members x
          · have hc : condR p ws ts kept members q x n = false := by unfold condR; rw [ht, hb]; simp; omega
            rw [fin _ hc]
            simp [-List.map_append, t, ht, h0, h.iw hn, h.il hn hi, t2, hb]
          · have hc : condR p ws ts kept members q x n = true := by unfold condR; rw [ht, hb]; simp
            rw [fin _ hc]
            rw [hb] at t2
            simp only [List.set_cons_succ, List.set_cons_zero, ev_sIf, ev_eT, ev_eCall, ev_eCons, ev_eVar, ev_eNil, List.getElem?_cons_succ, List.getElem?_cons_zero, varK_val, consK_ok, callK_6, callK_3, t, ht, tK_bl, ifK_t, ev_tOr, ev_e2, ev_eC, b2_ok, oLt_int, lft_some, h0, decide_false, orK_f, ix_box, h.iw hn, h.il hn hi, t2, ev_sApp, ev_ownAt, ownAtK_own, ev_eTup, tupK2, hz, Wp_ok, Nx_nx]
            exact ⟨_, by simp; rfl⟩
    · rintro δ' ⟨q7, rfl⟩
      simp [rightR]
  · rintro δ' ⟨q6, q7, rfl⟩
    simp
    rfl
theorem lawBelow_ok (a b c f : Bool) (h : ROk p o ws ts) {pl : Int × Int} {i : Int} {M : List Int} (hM : ∀ m ∈ M, In o m) (ha : In o pl.1) (hn : In ws.length pl.2) (hi : In p i) :
    p__law_below [bWs a b c ws, bN f M, encP pl, .int i] = .ok (bN false (below ws M pl i)) := by
  show mirD 6 4 pb__law_below _ = _
  rw [mirD_4]
  apply runK_wp
  unfold pb__law_below
  have hl := h.llen hn hi
  simp [startD, h.iw hn, h.il hn hi]
  rw [comp_filter (p := fun m => decide (at_ (lk ws pl.2 i) m ≤ at_ (lk ws pl.2 i) pl.1))]
  · simp [below, box_f]
  · intro m hm
    have := hM m hm
    simp [atI_ints (lk ws pl.2 i) m this.1 (by rw [hl]; exact this.2), atI_ints (lk ws pl.2 i) pl.1 ha.1 (by rw [hl]; exact ha.2)]
theorem comp_wo' (M : List Int) (x : Int) {i : Nat} {tt : EvT} {δ : DEnv} (hi : i < δ.length) (h : ∀ y, tt (δ.set i (some (.val (.int y)))) = .ok (!decide (y = x))) : compD (bdN i) tt (eVar i) δ (nums M) = .ok (nums (wo M x)) :=
  comp_filter M _ fun y _ => ⟨h y, by simp [hi]⟩
theorem lawGreatest_ok (a b c d e : Bool) (h : ROk p o ws ts) :
    p__law_greatest [bWs a b c ws, bW d e ts, .lst ((pairsOf ts).map encP), .int o] = .ok (.tup [.tup ((strikesOf p o ws ts).map D.tup), bN true (allowedOf p o ws ts), bWs true true true (reachOf p o ws ts)]) := by
  show mirD 15 4 pb__law_greatest _ = _
  rw [mirD_4]
  apply runK_wp
  unfold pb__law_greatest
  have hw := h.w2
  have hw1 := h.w1
  have hp := h.p2
  have ho := h.o2
  have pr := h.pr
  have i0 : In ws.length 0 := ⟨by decide, by omega⟩
  have lw0 := h.wlen i0
  by_cases hp1 : p = 1
  · have e1 : (p : Int) = 1 := by omega
    have c1 := fun δ (d : 5 < δ.length) => comp_all (i := 5) (te := (e2 oIx (eVar 5) (eC (.int 0)))) (δ := δ) encP (fun a => .int a.1) (pairsOf ts) (fun a ha => by simp [d])
    have c1' : (pairsOf ts).map (fun a => D.int a.1) = nums ((pairsOf ts).map fun a => a.1) := by unfold nums; rw [List.map_map]; rfl
    rw [c1'] at c1
    have ss := sortK_lst (ns := (pairsOf ts).map fun a => a.1) (by rw [List.length_map]; omega)
    have c2 := fun δ (d1 : 5 < δ.length) (d2 : δ[4]? = some (some (.val (.tup (nums (loneOf ts)))))) => comp_all (i := 5) (te := eTup (eCons (eVar 4) eNil)) (δ := δ) encP (fun _ => bW true true [loneOf ts]) (pairsOf ts) (fun a ha => by
      simp [d1, d2, box_t])
    have : ssetI ((pairsOf ts).map fun a => a.1) = loneOf ts := rfl
    have eq1 : strikesOf p o ws ts = [] := by unfold strikesOf; rw [if_pos hp1]
    have eq2 : allowedOf p o ws ts = loneOf ts := by unfold allowedOf; rw [if_pos hp1]
    have eq3 : reachOf p o ws ts = (pairsOf ts).map fun _ => [loneOf ts] := by unfold reachOf; rw [if_pos hp1]
    have e2 : (((pairsOf ts).map fun _ => [loneOf ts]).map (bW true true)) = (pairsOf ts).map fun _ => bW true true [loneOf ts] := List.map_map
    rw [eq1, eq2, eq3]
    simp only [startD]
    simp [h.iw i0, lw0, e1, c1, ss, this]
    rw [c2 _ (by simp) (by simp)]
    simp [box_t, ← e2]
  · have e1 : ¬ (p : Int) = 1 := by omega
    have hM0 : ∀ m ∈ ir 0 o, In o m := fun m hm => by have := mem_ir.mp hm; exact ⟨this.1, by omega⟩
    obtain ⟨f, hf⟩ : ∃ f : List Int → Option (Int × Int), f = fun M => (rightL p ws ts M M (-1)).head? := ⟨_, rfl⟩
    have fm : ∀ M r, f M = some r → r.1 ∈ M := fun M r hr => by rw [hf] at hr; exact (rightL_mem (List.mem_of_head? hr)).1
    obtain ⟨SA, hSA⟩ : ∃ SA, SA = (itl f (ir 0 o)).1.map encA := ⟨_, rfl⟩
    obtain ⟨al, hal⟩ : ∃ al, al = (itl f (ir 0 o)).2 := ⟨_, rfl⟩
    have eal : al = alw p o ws ts := by rw [hal, hf]; unfold alw; rw [alw_right]
    have eSA : SA = (sA p o ws ts).map D.tup := by unfold sA; rw [tupA, hSA, hf, alw_right]
    simp [startD, h.iw i0, lw0, e1, rng_nat' (show o ≤ 16777216 by omega)]
    refine Wp_accN D.int (ir 0 o) (fun ps δ => ∃ S M q8 q9, δ = [some (.val (bWs a b c ws)), some (.val (bW d e ts)), some (.val (.lst ((pairsOf ts).map encP))), some (.val (.int o)), none, none, some (.own (S.map encA)), some (.val (bN false M)), q8, q9, none, none, none, none, none] ∧
        (∀ m ∈ M, In o m) ∧ S.length + M.length ≤ o ∧ (f M = none ∨ M.length + ps.length ≤ o) ∧ S ++ (itl f M).1 = (itl f (ir 0 o)).1 ∧ (itl f M).2 = (itl f (ir 0 o)).2)
      ⟨[], ir 0 o, none, none, rfl, hM0, by simp, by simp, rfl, rfl⟩ ?_ ?_
    · rintro ps x rs δ he ⟨S, M, q8, q9, rfl, hM, hS, hl, e1, e2⟩
      have fo := lawRight_ok a b c d e false false h (q := -1) hM hM (.inl (by decide)) (by omega)
      cases hr : rightL p ws ts M M (-1) with
      | nil =>
        have fn : f M = none := by rw [hf]; show (rightL p ws ts M M (-1)).head? = none; rw [hr]; rfl
        rw [hr] at fo
        simp [fo]
        exact ⟨S, M, ⟨rfl, rfl⟩, hM, hS, .inl fn, e1, e2⟩
      | cons r rr =>
        have fs : f M = some r := by rw [hf]; show (rightL p ws ts M M (-1)).head? = _; rw [hr]; rfl
        have hm := fm M r fs
        have hl' := wo_len hm
        have hl2 : M.length + ps.length ≤ o := hl.resolve_left (by rw [fs]; simp)
        rw [itl_some fm fs] at e1 e2
        rw [hr] at fo
        have hz : (S.map encA).length < 16777216 := by rw [List.length_map]; omega
        have h0 := atI_zero (encP r) (rr.map encP)
        have cw : ∀ δ : DEnv, 10 < δ.length → δ[9]? = some (some (.val (.lst (encP r :: rr.map encP)))) → compD (bdN 10) (eT (DL.e2 oNe (eVar 10) (DL.e2 oIx (DL.e2 oIx (eVar 9) (eC (.int 0))) (eC (.int 0))))) (eVar 10) δ (nums M) = .ok (nums (wo M r.1)) := fun δ h8 h7 => comp_wo' M r.1 h8 fun y => by
          have h7' : (δ.set 10 (some (.val (.int y))))[9]? = some (some (.val (.lst (encP r :: rr.map encP)))) := by rw [List.getElem?_set_ne (by decide)]; exact h7
          simp [h8, h7', h0]
        have h2 : ¬ ((rr.length : Int) + 1 ≤ 0) := by omega
        simp [fo, appK_ok hz, h0, show (0 : Int) < (rr.length : Int) + 1 by omega]
        rw [cw _ (by simp) (by simp)]
        simp [box_f]
        refine ⟨S ++ [r], wo M r.1, ⟨by simp [encA], rfl⟩, fun m hm => hM m (wo_sub hm), by simp; omega, .inr (by omega), by simpa using e1, e2⟩
    · rintro δ ⟨S, M, q8, q9, rfl, hM, hS, hl, e1, e2⟩
      have fn : f M = none := by
        rcases hl with hl | hl
        · exact hl
        · rw [ir_length] at hl
          have : M = [] := List.length_eq_zero_iff.mp (by omega)
          rw [this]
          cases hN : f [] with
          | none => rfl
          | some r => exact absurd (fm _ _ hN) (by simp)
      rw [itl_none fn] at e1 e2
      rw [List.append_nil] at e1
      have eS : S.map encA = SA := by rw [hSA, ← e1]
      have eM : M = al := by rw [hal]; exact e2
      rw [eS, eM]
      clear e1 e2 eS eM hl hM hS
      obtain ⟨G, hG⟩ : ∃ G : Int × Int → List D, G = fun a => (ir 0 p).flatMap fun i => (sR p o ws ts a i).map D.tup := ⟨_, rfl⟩
      have lSA : SA.length ≤ 8 := by
        rw [hSA, List.length_map]
        exact Nat.le_trans (itl_len fm _ _ (Nat.le_refl _)) (by rw [ir_length]; exact ho)
      have lsR : ∀ a i, (sR p o ws ts a i).length ≤ 8 := fun a i => by
        unfold sR; rw [List.length_map]; exact Nat.le_trans (run_len a i) ho
      have lG : ∀ a, (G a).length ≤ 32 := fun a => by
        rw [hG]
        refine Nat.le_trans (flatMap_len _ _ 8 fun i _ => by rw [List.length_map]; exact lsR a i) ?_
        rw [ir_length]; omega
      have hal2 : ∀ m ∈ al, In o m := by rw [eal]; exact fun m hm => alw_in hm
      have lal : al.length ≤ o := by rw [eal]; exact alw_len
      simp
      refine Wp_accN encP (pairsOf ts) (fun ps δ => ∃ q5 q8 q9 q12 q13 q14, δ = [some (.val (bWs a b c ws)), some (.val (bW d e ts)), some (.val (.lst ((pairsOf ts).map encP))), some (.val (.int o)), none, q5, some (.own (SA ++ ps.flatMap G)), some (.val (bN false al)), q8, q9, none,
          some (.own ((ps.map fun a => (ir 0 p).map fun i => (run p o ws ts a i).2).map (bW true true))), q12, q13, q14]) ⟨_, _, _, _, _, _, by simp; exact ⟨rfl, rfl, rfl, rfl, rfl, rfl⟩⟩ ?_ ?_
      · rintro ps pl rs δ he ⟨q5, q8, q9, q12, q13, q14, rfl⟩
        have ha : pl ∈ pairsOf ts := by rw [he]; simp
        obtain ⟨ha1, ha2⟩ := h.pin ha
        have hps : ps.length < 24 := by
          have := congrArg List.length he
          rw [List.length_append, List.length_cons] at this; omega
        have lps : (ps.flatMap G).length ≤ 768 := Nat.le_trans (flatMap_len ps G 32 fun a _ => lG a) (by omega)
        simp [h.iw i0, lw0, rng_nat' (show p ≤ 16777216 by omega)]
        refine Wp_accN D.int (ir 0 p) (fun is δ => ∃ q8 q9 q13 q14, δ = [some (.val (bWs a b c ws)), some (.val (bW d e ts)), some (.val (.lst ((pairsOf ts).map encP))), some (.val (.int o)), none, some (.val (encP pl)), some (.own (SA ++ ps.flatMap G ++ is.flatMap fun i => (sR p o ws ts pl i).map D.tup)), some (.val (bN false al)), q8, q9, none,
          some (.own ((ps.map fun a => (ir 0 p).map fun i => (run p o ws ts a i).2).map (bW true true))), some (.own ((is.map fun i => (run p o ws ts pl i).2).map (bN true))), q13, q14]) ⟨_, _, _, _, by simp; exact ⟨rfl, rfl, rfl, rfl⟩⟩ ?_ ?_
        · rintro is i rs2 δ he2 ⟨q8, q9, q13, q14, rfl⟩
          have hi : i ∈ ir 0 p := by rw [he2]; simp
          have hi := mem_ir.mp hi
          have hi : In p i := ⟨hi.1, by omega⟩
          have his : is.length < 4 := by
            have := congrArg List.length he2
            rw [List.length_append, List.length_cons, ir_length] at this; omega
          have l2 : (is.flatMap fun i => (sR p o ws ts pl i).map D.tup).length ≤ 32 := Nat.le_trans (flatMap_len is _ 8 fun i _ => by rw [List.length_map]; exact lsR pl i) (by omega)
          obtain ⟨g, hg⟩ : ∃ g : List Int → Option (Int × Int), g = fun M => (rightL p ws ts al M i).head? := ⟨_, rfl⟩
          have gm : ∀ M r, g M = some r → r.1 ∈ M := fun M r hr => by rw [hg] at hr; exact (rightL_mem (List.mem_of_head? hr)).1
          obtain ⟨M0, hM0'⟩ : ∃ M0, M0 = below ws al pl i := ⟨_, rfl⟩
          have er : run p o ws ts pl i = itl g M0 := by rw [run_right p o ws ts pl i hi.1, hg, hM0', eal]
          have hl0 : M0.length ≤ o := by rw [hM0']; exact Nat.le_trans (below_len _ _ _) lal
          have hm0 : ∀ m ∈ M0, In o m := fun m hm => by rw [hM0'] at hm; exact hal2 m (below_in hm)
          have bl := lawBelow_ok a b c false h hal2 ha1 ha2 hi
          rw [← hM0'] at bl
          simp [-List.map_append, -List.flatMap_append, bl, rng_nat' (show M0.length ≤ 16777216 by omega)]
          refine Wp_accN D.int (ir 0 M0.length) (fun qs δ => ∃ S M q8 q9, δ = [some (.val (bWs a b c ws)), some (.val (bW d e ts)), some (.val (.lst ((pairsOf ts).map encP))), some (.val (.int o)), none, some (.val (encP pl)), some (.own (SA ++ ps.flatMap G ++ (is.flatMap fun i => (sR p o ws ts pl i).map D.tup) ++ (S.map (rowR i pl)).map D.tup)), some (.val (bN false al)), q8, q9, none,
              some (.own ((ps.map fun a => (ir 0 p).map fun i => (run p o ws ts a i).2).map (bW true true))), some (.own ((is.map fun i => (run p o ws ts pl i).2).map (bN true))), some (.val (.int i)), some (.val (bN false M))] ∧
              (∀ m ∈ M, In o m) ∧ S.length + M.length ≤ M0.length ∧ (g M = none ∨ M.length + qs.length ≤ M0.length) ∧ S ++ (itl g M).1 = (itl g M0).1 ∧ (itl g M).2 = (itl g M0).2)
            ⟨[], M0, _, _, by simp; exact ⟨rfl, rfl⟩, hm0, by simp, by simp, rfl, rfl⟩ ?_ ?_
          · rintro qs x rs δ he ⟨S, M, q8, q9, rfl, hM, hS, hl, e1, e2⟩
            have fo := lawRight_ok a b c d e false false h (q := i) hal2 hM (.inr hi) (by omega)
            cases hr : rightL p ws ts al M i with
            | nil =>
              have fn : g M = none := by rw [hg]; show (rightL p ws ts al M i).head? = none; rw [hr]; rfl
              rw [hr] at fo
              simp [-List.map_append, -List.flatMap_append, fo]
              exact ⟨S, M, ⟨rfl, rfl⟩, hM, hS, .inl fn, e1, e2⟩
            | cons r rr =>
              have fs : g M = some r := by rw [hg]; show (rightL p ws ts al M i).head? = _; rw [hr]; rfl
              have hm := gm M r fs
              have hl' := wo_len hm
              have hl2 : M.length + qs.length ≤ M0.length := hl.resolve_left (by rw [fs]; simp)
              rw [itl_some gm fs] at e1 e2
              rw [hr] at fo
              have fo : p__law_right [bWs a b c ws, bW d e ts, bN false al, bN false M, .int i] = .ok (.lst (encP r :: rr.map encP)) := fo
              have hz : (SA ++ ps.flatMap G ++ (is.flatMap fun i => (sR p o ws ts pl i).map D.tup) ++ (S.map (rowR i pl)).map D.tup).length < 16777216 := by
                rw [List.length_append, List.length_append, List.length_append, List.length_map, List.length_map]; omega
              have hz := fun i δ d => appK_ok (i := i) (δ := δ) (d := d) hz
              have h0 := atI_zero (encP r) (rr.map encP)
              have cw : ∀ δ : DEnv, 10 < δ.length → δ[9]? = some (some (.val (.lst (encP r :: rr.map encP)))) → compD (bdN 10) (eT (DL.e2 oNe (eVar 10) (DL.e2 oIx (DL.e2 oIx (eVar 9) (eC (.int 0))) (eC (.int 0))))) (eVar 10) δ (nums M) = .ok (nums (wo M r.1)) := fun δ h8 h7 => comp_wo' M r.1 h8 fun y => by
                have h7' : (δ.set 10 (some (.val (.int y))))[9]? = some (some (.val (.lst (encP r :: rr.map encP)))) := by rw [List.getElem?_set_ne (by decide)]; exact h7
                simp [h8, h7', h0]
              have h2 : decide ((0 : Int) < (((encP r :: rr.map encP).length : Nat) : Int)) = true := by simp
              simp only [List.set_cons_succ, List.set_cons_zero, ev_sSeq, ev_sSet, ev_eCall, ev_eCons, ev_eVar, ev_eNil, List.getElem?_cons_succ, List.getElem?_cons_zero, varK_val, consK_ok, callK_5, fo, setK_ok, seqK_nx, ev_sIf, ev_eT, ev_e2, ev_e1, b1_ok, oLen_lst, lft_some, ev_eC, b2_ok, oGt_int, h2, tK_bl, ifK_t, ev_sApp, ev_ownAt, ownAtK_own, ev_eTup, tupK2, oAdd22, oIx_lst, h0, oAdd42, hz, ev_sSetF, ev_fComp, ev_eIter, iter_box, compK_ok, wipeD_cons, wipeD_nil]
              rw [cw _ (by simp) (by simp)]
              simp [-List.map_append, -List.flatMap_append, box_f]
              refine ⟨S ++ [r], wo M r.1, ⟨by simp [rowR], rfl⟩, fun m hm => hM m (wo_sub hm), by simp; omega, .inr (by omega), by simpa using e1, e2⟩
          · rintro δ ⟨S, M, q8, q9, rfl, hM, hS, hl, e1, e2⟩
            have fn : g M = none := by
              rcases hl with hl | hl
              · exact hl
              · rw [ir_length] at hl
                have : M = [] := List.length_eq_zero_iff.mp (by omega)
                rw [this]
                cases hN : g [] with
                | none => rfl
                | some r => exact absurd (gm _ _ hN) (by simp)
            rw [itl_none fn] at e1 e2
            rw [List.append_nil] at e1
            have eS : (S.map (rowR i pl)).map D.tup = (sR p o ws ts pl i).map D.tup := by unfold sR; rw [er, ← e1]
            have eM : M = (run p o ws ts pl i).2 := by rw [er]; exact e2
            rw [eS, eM]
            have hz : ((is.map fun i => (run p o ws ts pl i).2).map (bN true)).length < 16777216 := by rw [List.length_map, List.length_map]; omega
            have hz := fun i δ d => appK_ok (i := i) (δ := δ) (d := d) hz
            simp only [List.set_cons_succ, List.set_cons_zero, ev_sApp, ev_ownAt, List.getElem?_cons_succ, List.getElem?_cons_zero, ownAtK_own, ev_e1, ev_eVar, varK_val, b1_ok, tup_box, lft_some, hz, Wp_ok, Nx_nx]
            exact ⟨_, _, _, _, by simp [box_t]; exact ⟨rfl, rfl, rfl, rfl⟩⟩
        · rintro δ ⟨q8, q9, q13, q14, rfl⟩
          have hz : ((ps.map fun a => (ir 0 p).map fun i => (run p o ws ts a i).2).map (bW true true)).length < 16777216 := by rw [List.length_map, List.length_map]; omega
          have hz := fun i δ d => appK_ok (i := i) (δ := δ) (d := d) hz
          simp only [List.set_cons_succ, List.set_cons_zero, ev_sApp, ev_ownAt, List.getElem?_cons_succ, List.getElem?_cons_zero, ownAtK_own, ev_e1, ev_eVarB, varBK_own, b1_ok, oTuple_lst, lft_some, hz, Wp_ok, Nx_nx]
          have eG : G pl = (ir 0 p).flatMap fun i => (sR p o ws ts pl i).map D.tup := by rw [hG]
          exact ⟨_, _, _, _, _, _, by rw [← eG]; simp [box_t]; exact ⟨rfl, rfl, rfl, rfl, rfl, rfl⟩⟩
      · rintro δ ⟨q5, q8, q9, q12, q13, q14, rfl⟩
        have ea : allowedOf p o ws ts = al := by unfold allowedOf; rw [if_neg hp1, eal]
        have er : reachOf p o ws ts = (pairsOf ts).map fun a => (ir 0 p).map fun i => (run p o ws ts a i).2 := by unfold reachOf; rw [if_neg hp1]
        have es : (strikesOf p o ws ts).map D.tup = SA ++ (pairsOf ts).flatMap G := by
          unfold strikesOf
          rw [if_neg hp1, List.map_append, List.map_flatMap, eSA]
          have e2 : (fun a => ((ir 0 p).flatMap fun i => sR p o ws ts a i).map D.tup) = G := by
            funext a
            rw [List.map_flatMap, hG]
          rw [e2]
        rw [ea, er, es]
        simp only [ev_sRet, ev_eTup, ev_eCons, ev_e1, ev_eVarB, List.getElem?_cons_succ, List.getElem?_cons_zero, varBK_own, b1_ok, oTuple_lst, lft_some, ev_eVar, varK_val, tup_box, ev_eNil, consK_ok, tupK3, retK_ok, Wp_ok, Rt_rt]
        rfl
end
end DL

namespace DL
open PySem PySem.Spec PyProof.Rows L2
section
variable {p o : Nat} {ws : List (List (List Int))} {ts : List (List Int)}
/-! ### the laws' own reasons -/
def wrongN (ws : List (List (List Int))) (ts : List (List Int)) (x : Int) (mine yours : List Int) (ns : List Int) : Nat := (ns.filter fun n => !midB ws ts x mine yours n).length
theorem wrong_mid (x : Int) (mine yours : List Int) : decide (((wrongN ws ts x mine yours (ir 0 ws.length) : Nat) : Int) = 0) = isMid ws ts x mine yours := by
  unfold wrongN isMid
  rw [Bool.eq_iff_iff, decide_eq_true_iff, List.all_eq_true]
  constructor
  · intro h n hn
    have : ((ir 0 ws.length).filter fun n => !midB ws ts x mine yours n) = [] := List.length_eq_zero_iff.mp (by omega)
    have := List.filter_eq_nil_iff.mp this n hn
    simpa using this
  · intro h
    have : ((ir 0 ws.length).filter fun n => !midB ws ts x mine yours n) = [] := List.filter_eq_nil_iff.mpr fun n hn => by simp [h n hn]
    rw [this]; rfl
def meetC (ws : List (List (List Int))) (ts : List (List Int)) (mine yours : List Int) (x : Int) : Bool := decide (x ∈ yours) && isMid ws ts x mine yours
theorem lawMiddles_ok (a b c d e f : Bool) (h : ROk p o ws ts) (hp : p = 2) {mine yours : List Int} (h1 : ∀ m ∈ mine, In o m) (h2 : ∀ m ∈ yours, In o m) (hl : mine.length ≤ 1000) :
    p__law_middles [bWs a b c ws, bW d e ts, bN f mine, bN f yours] = .ok (bN false (mids ws ts mine yours)) := by
  show mirD 8 4 pb__law_middles _ = _
  rw [mirD_4]
  apply runK_wp
  unfold pb__law_middles
  have hw := h.w2
  simp [startD]
  refine Wp_accN D.int mine (fun ps δ => ∃ q5 q6 q7, δ = [some (.val (bWs a b c ws)), some (.val (bW d e ts)), some (.val (bN f mine)), some (.val (bN f yours)), some (.own (nums (ps.filter (meetC ws ts mine yours)))), q5, q6, q7]) ⟨_, _, _, rfl⟩ ?_ ?_
  · rintro ps x rs δ he ⟨q5, q6, q7, rfl⟩
    have hx := h1 x (by rw [he]; simp)
    have hlp : ps.length ≤ 1000 := by
      have := congrArg List.length he
      rw [List.length_append] at this; omega
    simp [rng_nat' (show ws.length ≤ 16777216 by omega)]
    refine Wp_accN D.int (ir 0 ws.length) (fun ns δ => ∃ q7, δ = [some (.val (bWs a b c ws)), some (.val (bW d e ts)), some (.val (bN f mine)), some (.val (bN f yours)), some (.own (nums (ps.filter (meetC ws ts mine yours)))), some (.val (.int x)), some (.val (.int (wrongN ws ts x mine yours ns))), q7]) ⟨_, rfl⟩ ?_ ?_
    · rintro ns n rs δ he ⟨q7, rfl⟩
      have hn : n ∈ ir 0 ws.length := by rw [he]; simp
      have hn := mem_ir.mp hn
      have hn : In ws.length n := ⟨hn.1, by omega⟩
      have st := lawStays_ok b c true f h (sets := [mine, yours]) hx hn (by simp [hp]) (fun M hM => by
        rcases List.mem_cons.mp hM with rfl | hM
        · exact h1
        · rw [List.mem_singleton.mp hM]; exact h2)
      have st : p__law_stays [bW b c (nth ws n []), .int x, .tup [bN f mine, bN f yours]] = _ := st
      have e1 : ((ir 0 p).all fun i => onT (lk ws n i) (nth [mine, yours] i []) x) = (onT (lk ws n 0) mine x && onT (lk ws n 1) yours x) := by
        rw [hp]
        show (onT (lk ws n 0) mine x && (onT (lk ws n 1) yours x && true)) = _
        rw [Bool.and_true]
      rw [e1] at st
      have e2 : wrongN ws ts x mine yours (ns ++ [n]) = wrongN ws ts x mine yours ns + if midB ws ts x mine yours n = true then 0 else 1 := by
        unfold wrongN
        rw [filter_snoc, List.length_append]
        cases midB ws ts x mine yours n <;> rfl
      rw [e2]
      unfold midB
      have i1 := h.it hn e
      have i2 := h.iw hn b c
      by_cases hm : x ∈ nth ts n []
      · simp [i1, hm]
      · cases hb : (onT (lk ws n 0) mine x && onT (lk ws n 1) yours x)
        · rw [hb] at st
          simp [i1, i2, hm, st]
        · rw [hb] at st
          have ak : ∀ (δ : DEnv) (k : Nat), augK 6 δ oIadd (.ok (.int (k : Int))) (.ok (.int 1)) = .ok (.nx (δ.set 6 (some (.val (.int ((k : Int) + 1)))))) := fun δ k => augK_ok rfl
          simp [i1, i2, hm, st, ak]
    · rintro δ' ⟨q7, rfl⟩
      have wm := wrong_mid (ws := ws) (ts := ts) x mine yours
      have hz : (nums (ps.filter (meetC ws ts mine yours))).length < 16777216 := by
        rw [nums_length]
        have := List.length_filter_le (meetC ws ts mine yours) ps
        omega
      have em : meetC ws ts mine yours x = (decide (x ∈ yours) && isMid ws ts x mine yours) := rfl
      by_cases hy : x ∈ yours
      · cases hb : isMid ws ts x mine yours
        · rw [hb] at wm em
          have wm : ¬ ((wrongN ws ts x mine yours (ir 0 ws.length) : Nat) : Int) = 0 := by simpa using wm
          simp [em, hy, show ¬ wrongN ws ts x mine yours (ir 0 ws.length) = 0 by omega]
        · rw [hb] at wm em
          have wm : ((wrongN ws ts x mine yours (ir 0 ws.length) : Nat) : Int) = 0 := by simpa using wm
          simp [em, hy, show wrongN ws ts x mine yours (ir 0 ws.length) = 0 by omega, appK_ok hz]
      · have em : meetC ws ts mine yours x = false := by rw [em]; simp [hy]
        simp [em, hy]
  · rintro δ' ⟨q5, q6, q7, rfl⟩
    simp [box_f]
    rfl
def optU (r : Option (List D)) : D := .tup (r.getD [])
theorem find_tupU {α : Type} {xs : List α} {f : α → Option (List D)} {d : D} (h : xs.findSome? (fun x => (f x).map D.tup) = some d) : Rt (optU (xs.findSome? f)) (.rt d) := by
  rw [findSome_map] at h
  cases hf : xs.findSome? f with
  | none => rw [hf] at h; cases h
  | some y => rw [hf] at h; cases h; exact (Rt_rt _ _).mpr rfl
theorem lawAlone_ok (a b c d e f : Bool) (h : ROk p o ws ts) (hp : p = 1) {al : List Int} (hal : ∀ m ∈ al, In o m) : p__law_alone [bWs a b c ws, bW d e ts, bN f al] = .ok (optU (aloneF ws ts al)) := by
  show mirD 6 3 pb__law_alone _ = _
  rw [mirD_3]
  apply runK_wp
  unfold pb__law_alone
  have hw := h.w2
  simp [startD, rng_nat' (show ws.length ≤ 16777216 by omega)]
  refine Wp_someN D.int (ir 0 ws.length) (fun n => (aloneN ws ts al n).map D.tup) (fun δ => ∃ q3 q4, δ = [some (.val (bWs a b c ws)), some (.val (bW d e ts)), some (.val (bN f al)), q3, q4, none]) ⟨_, _, rfl⟩ ?_ (fun d hd => find_tupU hd) ?_
  · rintro n hn δ ⟨q3, q4, rfl⟩
    have hn := mem_ir.mp hn
    have hn : In ws.length n := ⟨hn.1, by omega⟩
    have hi : In p 0 := ⟨by decide, by omega⟩
    have hl := h.llen hn hi
    have cb : ∀ δ : DEnv, 5 < δ.length → δ[0]? = some (some (.val (bWs a b c ws))) → δ[3]? = some (some (.val (.int n))) → δ[2]? = some (some (.val (bN f al))) → compD (bdN 5) (eT (eCall 3 (mirD 4 3 onTopB) (eCons (e2 oIx (e2 oIx (eVar 0) (eVar 3)) (eC (.int 0))) (eCons (eVar 5) (eCons (eVar 2) eNil))))) (eVar 5) δ (nums al) = .ok (nums (topL (lk ws n 0) al)) := fun δ h5 h0 h3 h2 => by
      rw [comp_filter (p := fun m => onT (lk ws n 0) al m)]
      · rfl
      · intro m hm
        have h0' : (δ.set 5 (some (.val (.int m))))[0]? = some (some (.val (bWs a b c ws))) := by rw [List.getElem?_set_ne (by decide)]; exact h0
        have h2' : (δ.set 5 (some (.val (.int m))))[2]? = some (some (.val (bN f al))) := by rw [List.getElem?_set_ne (by decide)]; exact h2
        have h3' : (δ.set 5 (some (.val (.int m))))[3]? = some (some (.val (.int n))) := by rw [List.getElem?_set_ne (by decide)]; exact h3
        have t := h.top hn hi (hal m hm) hal c f
        simp only [ev_eT, ev_eCall, ev_eCons, ev_e2, ev_eVar, h0', h2', h3', varK_val, b2_ok, ix_box, h.iw hn, lft_some, ev_eC, h.il hn hi, List.getElem?_set_self h5, ev_eNil, consK_ok, callK_3, t, tK_bl]
        exact ⟨trivial, trivial⟩
    have ne : oNe (.lst (nums (topL (lk ws n 0) al))) (.lst (nums (nth ts n []))) = some (.bl (!decide (topL (lk ws n 0) al = nth ts n []))) := oNe_lst _ _
    have ii := h.it hn e
    simp
    rw [cb _ (by simp) (by simp) (by simp) (by simp)]
    unfold aloneN
    by_cases hh : nth ts n [] = topL (lk ws n 0) al
    · rw [hh] at ii ne
      simp [ii, ne, hh]
    · have hh' : ¬ topL (lk ws n 0) al = nth ts n [] := fun z => hh z.symm
      simp [ii, ne, hh, hh']
  · rintro hd δ' ⟨q3, q4, rfl⟩
    have := find_non hd
    unfold aloneF
    rw [this]
    simp [optU]
theorem lawReason_ok (a b c d e f : Bool) (h : ROk p o ws ts) {al : List Int} (hal : ∀ m ∈ al, In o m) {re : List (List (List Int))} (hr : p ≠ 1 → ReOk p o (pairsOf ts).length re) (hlen : ∀ k ∈ re, ∀ M ∈ k, M.length ≤ 1000) :
    p__law_reason [bWs a b c ws, bW d e ts, .lst ((pairsOf ts).map encP), bN f al, bWs true true true re] = .ok (optU (reasonF p ws ts al re)) := by
  show mirD 9 5 pb__law_reason _ = _
  rw [mirD_5]
  apply runK_wp
  unfold pb__law_reason reasonF
  have hw := h.w2
  have hw1 := h.w1
  have pr := h.pr
  have i0 : In ws.length 0 := ⟨by decide, by omega⟩
  have lw0 := h.wlen i0
  by_cases hp : p = 1
  · have al' := lawAlone_ok a b c d e f h hp hal
    have e1 : (p : Int) = 1 := by omega
    rw [if_pos hp]
    simp [startD, h.iw i0, lw0, e1, al']
  · have e1 : ¬ (p : Int) = 1 := by omega
    have hr := hr hp
    rw [if_neg hp]
    simp [startD, h.iw i0, lw0, e1, rng_nat' (show (pairsOf ts).length ≤ 16777216 by omega)]
    refine Wp_someN D.int (ir 0 (pairsOf ts).length) (fun k => (lostR ts re k).map D.tup) (fun δ => ∃ q5 q6, δ = [some (.val (bWs a b c ws)), some (.val (bW d e ts)), some (.val (.lst ((pairsOf ts).map encP))), some (.val (bN f al)), some (.val (bWs true true true re)), q5, q6, none, none]) ⟨_, _, rfl⟩ ?_ ?_ ?_
    · rintro k hk δ ⟨q5, q6, rfl⟩
      have hk := mem_ir.mp hk
      have hk : In (pairsOf ts).length k := ⟨hk.1, by omega⟩
      simp [ix_re hr hk]
      refine Wp_some0N (bN true) (nth re k []) (fun M => if (!decide ((pr_ ts k).1 ∈ M)) = true then some (.tup [.str "lost", .int (pr_ ts k).1, .int (pr_ ts k).2]) else none) (fun δ => ∃ q6, δ = [some (.val (bWs a b c ws)), some (.val (bW d e ts)), some (.val (.lst ((pairsOf ts).map encP))), some (.val (bN f al)), some (.val (bWs true true true re)), some (.val (.int k)), q6, none, none]) ⟨_, rfl⟩ ?_ ?_ ?_
      · rintro M hM δ ⟨q6, rfl⟩
        by_cases hm : (pr_ ts k).1 ∈ M <;> simp [ix_pr h hk, hm]
      · intro d hd
        rw [findSome_ite] at hd
        rw [Fs_rt]
        unfold lostR
        split at hd
        · rename_i ha
          rw [if_pos ha]; exact hd
        · cases hd
      · rintro hd δ' ⟨q6, rfl⟩
        rw [findSome_ite] at hd
        rw [Fs_nx]
        unfold lostR
        split at hd
        · cases hd
        · rename_i ha
          rw [if_neg ha]; exact ⟨rfl, _, _, rfl⟩
    · intro d hd
      have e : (ir 0 (pairsOf ts).length).findSome? (lostR ts re) = lostF ts re := rfl
      have := find_tupU hd
      rw [e] at this
      cases hl : lostF ts re with
      | none => rw [findSome_map, e, hl] at hd; cases hd
      | some z => rw [hl] at this; exact this
    · rintro hd δ' ⟨q5, q6, rfl⟩
      have hl : lostF ts re = none := find_non hd
      rw [hl]
      simp [rng_nat' (show (pairsOf ts).length ≤ 16777216 by omega)]
      refine Wp_someN D.int (ir 0 (pairsOf ts).length) (fun k => (stayR p ws ts re k).map D.tup) (fun δ => ∃ q5 q6 q7, δ = [some (.val (bWs a b c ws)), some (.val (bW d e ts)), some (.val (.lst ((pairsOf ts).map encP))), some (.val (bN f al)), some (.val (bWs true true true re)), q5, q6, q7, none]) ⟨_, _, _, rfl⟩ ?_ ?_ ?_
      · rintro k hk δ ⟨q5, q6, q7, rfl⟩
        have hk := mem_ir.mp hk
        have hk : In (pairsOf ts).length k := ⟨hk.1, by omega⟩
        have ha : pr_ ts k ∈ pairsOf ts := nth_mem _ k _ hk.1 hk.2
        obtain ⟨ha1, ha2⟩ := h.pin ha
        have hrow := hr.row _ (nth_mem re k [] hk.1 (by rw [hr.len]; exact hk.2))
        simp [rng_nat' (show ws.length ≤ 16777216 by omega)]
        refine Wp_some0N D.int (ir 0 ws.length) (fun n => (stayN p ws ts re k n).map D.tup) (fun δ => ∃ q6 q7, δ = [some (.val (bWs a b c ws)), some (.val (bW d e ts)), some (.val (.lst ((pairsOf ts).map encP))), some (.val (bN f al)), some (.val (bWs true true true re)), some (.val (.int k)), q6, q7, none]) ⟨_, _, rfl⟩ ?_ ?_ ?_
        · rintro n hn δ ⟨q6, q7, rfl⟩
          have hn := mem_ir.mp hn
          have hn : In ws.length n := ⟨hn.1, by omega⟩
          have st := lawStays_ok b c true true h ha1 hn (by rw [hrow.1]; exact Nat.le_refl _) hrow.2
          unfold stayN staysB
          by_cases hm : (pr_ ts k).1 ∈ nth ts n []
          · simp [ix_pr h hk, h.it hn, hm]
          · cases hb : (ir 0 p).all fun i => onT (lk ws n i) (nth (nth re k []) i []) (pr_ ts k).1 <;> rw [hb] at st <;> simp [ix_pr h hk, ix_re hr hk, h.it hn, h.iw hn, hm, st]
        · intro d hd
          rw [findSome_map] at hd
          exact hd
        · rintro hd δ' ⟨q6, q7, rfl⟩
          rw [findSome_map] at hd
          exact ⟨hd, _, _, _, rfl⟩
      · intro d hd
        have e : (ir 0 (pairsOf ts).length).findSome? (stayR p ws ts re) = stayF p ws ts re := rfl
        have := find_tupU hd
        rw [e] at this
        cases hl : stayF p ws ts re with
        | none => rw [findSome_map, e, hl] at hd; cases hd
        | some z => rw [hl] at this; exact this
      · rintro hd δ' ⟨q5, q6, q7, rfl⟩
        have hs : stayF p ws ts re = none := find_non hd
        rw [hs]
        by_cases hp2 : p = 2
        · have e2 : (p : Int) = 2 := by omega
          rw [if_pos hp2]
          simp [h.iw i0, lw0, e2, rng_nat' (show (pairsOf ts).length ≤ 16777216 by omega)]
          have z0 : In p 0 := ⟨by decide, by omega⟩
          have z1 : In p 1 := ⟨by decide, by omega⟩
          refine Wp_someN D.int (ir 0 (pairsOf ts).length) (fun k => (midR ws ts re k).map D.tup) (fun δ => ∃ q5 q8, δ = [some (.val (bWs a b c ws)), some (.val (bW d e ts)), some (.val (.lst ((pairsOf ts).map encP))), some (.val (bN f al)), some (.val (bWs true true true re)), q5, q6, q7, q8]) ⟨_, _, rfl⟩ ?_ ?_ ?_
          · rintro k hk δ ⟨q5, q8, rfl⟩
            have hk := mem_ir.mp hk
            have hk : In (pairsOf ts).length k := ⟨hk.1, by omega⟩
            simp [rng_nat' (show (pairsOf ts).length ≤ 16777216 by omega)]
            refine Wp_some0N D.int (ir 0 (pairsOf ts).length) (fun l => (midN ws ts re k l).map D.tup) (fun δ => ∃ q8, δ = [some (.val (bWs a b c ws)), some (.val (bW d e ts)), some (.val (.lst ((pairsOf ts).map encP))), some (.val (bN f al)), some (.val (bWs true true true re)), some (.val (.int k)), q6, q7, q8]) ⟨_, rfl⟩ ?_ ?_ ?_
            · rintro l hl δ ⟨q8, rfl⟩
              have hl := mem_ir.mp hl
              have hl : In (pairsOf ts).length l := ⟨hl.1, by omega⟩
              have hrow := nth_mem re k [] hk.1 (by rw [hr.len]; exact hk.2)
              have me := lawMiddles_ok a b c d e true h hp2 (hr.inn hk z0) (hr.inn hl z1) (hlen _ hrow _ (nth_mem _ 0 [] (by decide) (by rw [(hr.row _ hrow).1]; exact z0.2)))
              unfold midN
              by_cases hkl : k = l
              · simp [hkl]
              · by_cases hb : (mids ws ts (rs_ re k 0) (rs_ re l 1)) = []
                · simp [hkl, hb, ix_re hr hk, ix_re hr hl, ix_rs hr hk z0, ix_rs hr hl z1, me, ix_pr h hk, ix_pr h hl]
                · simp [hkl, hb, ix_re hr hk, ix_re hr hl, ix_rs hr hk z0, ix_rs hr hl z1, me, ix_pr h hk, ix_pr h hl]
            · intro d hd
              rw [findSome_map] at hd
              exact hd
            · rintro hd δ' ⟨q8, rfl⟩
              rw [findSome_map] at hd
              exact ⟨hd, _, _, rfl⟩
          · intro d hd
            exact find_tupU hd
          · rintro hd δ' ⟨q5, q8, rfl⟩
            have hs : midF ws ts re = none := find_non hd
            rw [hs]
            simp [optU]
        · have e2 : 2 < (p : Int) := by have := h.p1; omega
          rw [if_neg hp2]
          simp [h.iw i0, lw0, e2, show 2 < p by omega, optU]
end
end DL

namespace DL
open PySem PySem.Spec PyProof.Rows L2
def pb__law_plays : Sv :=
    (sSeq (sSet 1 (eLst (eCons (eTup eNil) eNil)))
    (sSeq (sFor (eIter (eVar 0)) (bdN 2) (sSeq (sOwn 3 (fLst eNil))
    (sSeq (sFor (eIter (eVar 1)) (bdN 4) (sFor (eRng1 (eVar 2)) (bdN 5) (sApp 3 (e2 oAdd (eVar 4) (eTup (eCons (eVar 5) eNil))))))
    (sFrz 3 (sSet 1 (eVar 3))))))
    (sRet (eVar 1))))
def p__law_plays : Mir := mirD 6 1 pb__law_plays
def pb__law_game : Sv :=
    (sSeq (sSet 4 (e1 oTuple (eOf (fComp (eIter (eCall 4 (mirD 10 4 rowB) (eCons (eVar 0) (eCons (eVar 1) (eCons (eVar 2) (eCons (eC (.int 5040)) eNil)))))) [5] (bdN 5) tYesD (e2 oAdd (eC (.int 1)) (e2 oMod (e1 oInt (eVar 5)) (eC (.int 3))))))))
    (sSeq (sSet 6 (e1 oLen (eCall 1 p__law_plays (eCons (eVar 4) eNil))))
    (sRet (eTup (eCons (eVar 4) (eCons (e1 oTuple (eOf (fComp (eIter (eCall 4 (mirD 10 4 rowB) (eCons (eVar 0) (eCons (e2 oAdd (eVar 1) (eC (.int 1))) (eCons (eVar 6) (eCons (eC (.int 5040)) eNil)))))) [7] (bdN 7) tYesD (e2 oMod (e1 oInt (eVar 7)) (eVar 3))))) eNil))))))
def p__law_game : Mir := mirD 8 4 pb__law_game
def pb__law_ends : Sv :=
    (sSeq (sOwn 3 (fLst eNil))
    (sSeq (sFor (eRng1 (e1 oLen (eVar 1))) (bdN 4) (sSeq (sSetF 5 (fComp (eRng1 (e1 oLen (eVar 0))) [6] (bdN 6) tYesD (eCall 3 (mirD 4 3 onTopB) (eCons (e2 oIx (eVar 0) (eVar 6)) (eCons (e2 oIx (eVar 1) (eVar 4)) (eCons (e2 oIx (e2 oIx (eVar 2) (eVar 4)) (eVar 6)) eNil))))))
    (sIf (eT (e2 oNotInB (eC (.bl false)) (eVar 5))) (sApp 3 (eVar 4)) sNil)))
    (sFrz 3 (sRet (eVar 3)))))
def p__law_ends : Mir := mirD 7 3 pb__law_ends
def pb__law_ended : Sv :=
    (sRet (e1 oTuple (eOf (fSortedSet (eOf (fComp (eIter (eCall 3 p__law_ends (eCons (eVar 0) (eCons (eVar 1) (eCons (eVar 2) eNil))))) [3] (bdN 3) tYesD (e2 oIx (eVar 1) (eVar 3))))))))
def p__law_ended : Mir := mirD 4 3 pb__law_ended
def pb__law_made : Sv :=
    (sSeq (sOwn 7 (fLst eNil))
    (sSeq (sOwn 8 (fLst eNil))
    (sSeq (sFor (eRng1 (eVar 6)) (bdN 9) (sSeq (sSet 10 (eCall 4 (mirD 10 4 worldB) (eCons (eVar 0) (eCons (e2 oAdd (eVar 1) (eVar 9)) (eCons (eVar 5) (eCons (eVar 2) eNil))))))
    (sSeq (sIf (eT (e2 oEq (e1 oLen (eCall 3 p__law_ends (eCons (eVar 10) (eCons (eVar 3) (eCons (eVar 4) eNil))))) (eC (.int 0)))) (sSet 10 (e1 oTuple (eOf (fComp (eRng1 (eVar 5)) [12] (bdN 12) tYesD (e1 oTuple (eOf (fComp (eRng1 (eVar 2)) [11] (bdN 11) tYesD (eC (.int 0))))))))) sNil)
    (sSeq (sApp 7 (eVar 10))
    (sApp 8 (eCall 3 p__law_ended (eCons (eVar 10) (eCons (eVar 3) (eCons (eVar 4) eNil)))))))))
    (sFrz 7 (sFrz 8 (sRet (eTup (eCons (eVar 7) (eCons (eVar 8) eNil)))))))))
def p__law_made : Mir := mirD 13 7 pb__law_made
def pb__law_order : Sv :=
    (sSeq (sOwn 3 (eRng1 (eVar 2)))
    (sSeq (sOwn 4 (fLst eNil))
    (sSeq (sFor (eIter (eCall 4 (mirD 10 4 rowB) (eCons (eVar 0) (eCons (eVar 1) (eCons (eVar 2) (eCons (eC (.int 5040)) eNil)))))) (bdN 5) (sAppE 4 (eePop 3 (e2 oMod (e1 oInt (eVar 5)) (e1 oLen (eVarB 3))))))
    (sFrz 4 (sRet (eVar 4))))))
def p__law_order : Mir := mirD 6 3 pb__law_order
def pb__law_number : Sv :=
    (sSeq (sSet 2 (eC (.int 0)))
    (sSeq (sFor (eRng1 (e1 oLen (eVar 0))) (bdN 3) (sSet 2 (e2 oAdd (e2 oMul (eVar 2) (e2 oIx (eVar 0) (eVar 3))) (e2 oIx (eVar 1) (eVar 3)))))
    (sRet (eVar 2))))
def p__law_number : Mir := mirD 4 2 pb__law_number
def pb__law_gets : Sv :=
    (sSeq (sOwn 2 (fLst eNil))
    (sSeq (sFor (eIter (eCall 1 p__law_plays (eCons (eVar 0) eNil))) (bdN 3) (sSeq (sOwn 4 (fLst eNil))
    (sSeq (sFor (eRng1 (e1 oLen (eVar 0))) (bdN 5) (sSeq (sOwn 6 (fLst eNil))
    (sSeq (sFor (eRng1 (e2 oIx (eVar 0) (eVar 5))) (bdN 7) (sApp 6 (e2 oIx (eVar 1) (eCall 2 p__law_number (eCons (eVar 0) (eCons (e2 oAdd (e2 oAdd (eSl (eVar 3) oNo (oPart (eVar 5))) (eTup (eCons (eVar 7) eNil))) (eSl (eVar 3) (oPart (e2 oAdd (eVar 5) (eC (.int 1)))) oNo)) eNil))))))
    (sApp 4 (e1 oTuple (eOf (fSortedSet (eVarB 6))))))))
    (sFrz 4 (sApp 2 (eVar 4))))))
    (sFrz 2 (sRet (eVar 2)))))
def p__law_gets : Mir := mirD 8 2 pb__law_gets
def pb__law_flipped : Sv :=
    (sSeq (sSet 3 (e2 oIx (eVar 0) (eVar 1)))
    (sSeq (sSet 4 (eVar 3))
    (sSeq (sIf (tAndD (eT (e2 oIn (eVar 2) (eVar 3))) (eT (e2 oGt (e1 oLen (eVar 3)) (eC (.int 1))))) (sSet 4 (e1 oTuple (eOf (fComp (eIter (eVar 3)) [5] (bdN 5) (eT (e2 oNe (eVar 5) (eVar 2))) (eVar 5))))) sNil)
    (sSeq (sIf (tAndD (eT (e2 oNotIn (eVar 2) (eVar 3))) (eT (e2 oLt (e1 oSumA (eOf (fComp (eIter (eVar 0)) [6] (bdN 6) tYesD (e1 oLen (eVar 6))))) (eC (.int 24))))) (sSet 4 (e1 oTuple (eOf (fSortedA (e2 oAdd (eVar 3) (eTup (eCons (eVar 2) eNil))))))) sNil)
    (sRet (e2 oAdd (e2 oAdd (eSl (eVar 0) oNo (oPart (eVar 1))) (eLst (eCons (eVar 4) eNil))) (eSl (eVar 0) (oPart (e2 oAdd (eVar 1) (eC (.int 1)))) oNo)))))))
def p__law_flipped : Mir := mirD 7 3 pb__law_flipped
end DL

namespace DL
open PySem PySem.Spec PyProof.Rows L2
/-! ### a value of which something is known -/
def RtE (P : D → Prop) : Fl → Prop
  | .rt d => P d
  | _ => False
@[simp] theorem RtE_rt (P : D → Prop) (d : D) : RtE P (.rt d) ↔ P d := Iff.rfl
theorem runK_ex {m : M Fl} {P : D → Prop} (h : Wp m (RtE P)) : ∃ d, runK m = .ok d ∧ P d := by
  obtain ⟨r, e, h⟩ := h
  rw [e]
  cases r with
  | rt d => exact ⟨d, rfl, h⟩
  | nx δ => exact h.elim
  | bk δ => exact h.elim
  | ct δ => exact h.elim
  | rx d => exact h.elim
/-- plain data: whole numbers, words, tuples -/
inductive Pl : Nat → D → Prop
  | int (n : Nat) (i : Int) : Pl n (.int i)
  | str (n : Nat) (x : Str) : PyData.strOk x = true → Pl n (.str x)
  | tup (n : Nat) (xs : List D) : (∀ x ∈ xs, Pl n x) → xs.length ≤ 16777216 → Pl (n + 1) (.tup xs)
theorem oEq_str {x : Str} (h : PyData.strOk x = true) : oEq (.str x) (.str x) = some (.bl true) := by
  unfold oEq
  have : eqD (.str x) (.str x) = some true := by
    show (if D.okE eqDepth (.str x) && D.okE eqDepth (.str x) then some (decide (D.str x = .str x)) else none) = _
    have : D.okE eqDepth (.str x) = true := by unfold D.okE; exact h
    rw [this]; simp
  rw [this]; rfl
@[simp] theorem oIs_snon (x : Str) : oIs (.str x) .non = some (.bl false) := id rfl
@[simp] theorem oIs_sbl (x : Str) (b : Bool) : oIs (.str x) (.bl b) = some (.bl false) := id rfl
theorem same_refl {n : Nat} {d : D} (h : Pl n d) : ∀ k, n < k → recM sameR k [d, d] = .ok (.bl true) := by
  induction h with
  | int n i =>
    intro k hk
    obtain ⟨k, rfl⟩ := Nat.exists_eq_add_of_lt hk
    show sameR (recM sameR (n + k)) [.int i, .int i] = _
    unfold sameR sameB
    rw [mirD_2]
    simp [startD, isiB]
  | str n x hx =>
    intro k hk
    obtain ⟨k, rfl⟩ := Nat.exists_eq_add_of_lt hk
    show sameR (recM sameR (n + k)) [.str x, .str x] = _
    unfold sameR sameB
    rw [mirD_2]
    simp [startD, isiB, oEq_str hx]
  | tup n xs hxs hl ih =>
    intro k hk
    obtain ⟨k, rfl⟩ := Nat.exists_eq_add_of_lt hk
    show sameR (recM sameR (n + 1 + k)) [.tup xs, .tup xs] = _
    have ih := fun x hx => ih x hx (n + 1 + k) (by omega)
    generalize recM sameR (n + 1 + k) = R at ih ⊢
    unfold sameR sameB
    rw [mirD_2]
    apply runK_wp
    simp [startD, isiB, rng_nat' hl]
    refine Wp_accN D.int (ir 0 xs.length) (fun _ δ => ∃ q, δ = [some (.val (D.tup xs)), some (.val (D.tup xs)), q]) ⟨_, rfl⟩ ?_ ?_
    · rintro ps i rs δ he ⟨q, rfl⟩
      have hi : i ∈ ir 0 xs.length := by rw [he]; simp
      have hi := mem_ir.mp hi
      obtain ⟨j, rfl⟩ := Int.eq_ofNat_of_zero_le hi.1
      have hj : j < xs.length := by omega
      have e := atI_nat xs j hj
      have e2 := ih xs[j] (List.getElem_mem _)
      simp [e, e2]
    · rintro δ ⟨q, rfl⟩
      simp
theorem pl_nums (n : Nat) (l : List Int) (h : l.length ≤ 16777216) : Pl (n + 1) (bN true l) := .tup n _ (fun d hd => by
  obtain ⟨x, _, rfl⟩ := List.mem_map.mp hd
  exact .int _ _) (by rw [nums_length]; exact h)
/-! ### pop -/
def popK (j : Nat) (δ : DEnv) (o : Option (List D)) (m : M D) : M (D × DEnv) := lft o >>= fun ds => m >>= fun d => match d with
  | .int i => do
    let n ← lft (ixN ds.length i)
    let x ← lft ds[n]?
    .ok (x, δ.set j (some (.own (ds.eraseIdx n))))
  | _ => stk
@[simp] theorem ev_eePop (j : Nat) (k : Ev) (δ : DEnv) : eePop j k δ = popK j δ (ownAt j δ) (k δ) := by
  unfold eePop popK
  rfl
def appEK (i : Nat) (o : Option (List D)) (r : M (D × DEnv)) : M Fl := lft o >>= fun _ => r >>= fun r => lft (ownAt i r.2) >>= fun ds => if ds.length < sizeLine then .ok (.nx (r.2.set i (some (.own (ds ++ [r.1]))))) else stk
@[simp] theorem ev_sAppE (i : Nat) (e : EvE) (δ : DEnv) : sAppE i e δ = appEK i (ownAt i δ) (e δ) := id rfl
theorem nums_erase (L : List Int) (n : Nat) : (nums L).eraseIdx n = nums (L.eraseIdx n) := by
  unfold nums
  induction L generalizing n with
  | nil => rfl
  | cons a L ih =>
    cases n with
    | zero => rfl
    | succ n => show D.int a :: (L.map D.int).eraseIdx n = D.int a :: (L.eraseIdx n).map D.int; rw [ih]
theorem popK_nums {j : Nat} {δ : DEnv} {L : List Int} {i : Int} (h0 : 0 ≤ i) (h : i < L.length) : popK j δ (some (nums L)) (.ok (.int i)) = .ok (.int (at_ L i), δ.set j (some (.own (nums (L.eraseIdx i.toNat))))) := by
  have e1 : ixN (nums L).length i = some i.toNat := by
    unfold ixN
    rw [nums_length, if_pos h0, if_pos h]
  have e2 : (nums L)[i.toNat]? = some (.int (at_ L i)) := by
    unfold nums at_
    rw [List.getElem?_map, List.getD_eq_getElem?_getD, List.getElem?_eq_getElem (by omega : i.toNat < L.length)]; rfl
  show (do
    let n ← lft (ixN (nums L).length i)
    let x ← lft (nums L)[n]?
    .ok (x, δ.set j (some (.own ((nums L).eraseIdx n))))) = _
  rw [e1, lft_some, ok_bind, e2, lft_some, ok_bind, nums_erase]
theorem appEK_ok {i : Nat} {o : List D} {d : D} {δ' : DEnv} {ds : List D} (h1 : ownAt i δ' = some ds) (h : ds.length < 16777216) : appEK i (some o) (.ok (d, δ')) = .ok (.nx (δ'.set i (some (.own (ds ++ [d]))))) := by
  show (lft (ownAt i δ') >>= fun ds => if ds.length < sizeLine then (Except.ok (Fl.nx (δ'.set i (some (.own (ds ++ [d]))))) : M Fl) else stk) = _
  rw [h1, lft_some, ok_bind]
  exact if_pos h
theorem erase_perm' : ∀ (L : List Int) (n : Nat) (h : n < L.length), (L[n] :: L.eraseIdx n).Perm L
  | [], n, h => by simp at h
  | a :: L, 0, h => List.Perm.refl _
  | a :: L, n + 1, h => by
    show (L[n]'(by simpa using h) :: a :: L.eraseIdx n).Perm (a :: L)
    exact (List.Perm.swap _ _ _).trans ((erase_perm' L n (by simpa using h)).cons a)
theorem erase_perm {L : List Int} {i : Int} (h0 : 0 ≤ i) (h : i < L.length) : (at_ L i :: L.eraseIdx i.toNat).Perm L := by
  have e : at_ L i = L[i.toNat]'(by omega) := by
    unfold at_
    rw [List.getD_eq_getElem?_getD, List.getElem?_eq_getElem (by omega : i.toNat < L.length), Option.getD_some]
  rw [e]
  exact erase_perm' L _ (by omega)
theorem order_ok (ns : List Int) (a : Int) (n : Nat) (ha : 0 ≤ a) (hn : n ≤ 1000) : ∃ d, p__law_order [.scr ns, .int a, .int n] = .ok d ∧ ∃ R : List Int, d = bN false R ∧ R.Perm (ir 0 n) := by
  show ∃ d, mirD 6 3 pb__law_order _ = _ ∧ _
  rw [mirD_3]
  apply runK_ex
  unfold pb__law_order
  obtain ⟨r, er, lr, br⟩ := row_ok ns a 5040 n ha (by decide) (by decide) (by omega)
  simp [startD, rng_nat' (show n ≤ 16777216 by omega), er]
  refine Wp_accN D.int r (fun ps δ => ∃ L R q5, δ = [some (.val (.scr ns)), some (.val (.int a)), some (.val (.int n)), some (.own (nums L)), some (.own (nums R)), q5] ∧ (R ++ L).Perm (ir 0 n) ∧ R.length = ps.length) ⟨ir 0 n, [], _, rfl, by simp, rfl⟩ ?_ ?_
  · rintro ps x rs δ he ⟨L, R, q5, rfl, hp, hl⟩
    have hlen : R.length + L.length = n := by have := hp.length_eq; rw [List.length_append, ir_length] at this; exact this
    have hps : ps.length < n := by
      have := congrArg List.length he
      rw [lr, List.length_append, List.length_cons] at this; omega
    have hL : 0 < (L.length : Int) := by omega
    have hm0 := Int.emod_nonneg x (show (L.length : Int) ≠ 0 by omega)
    have hm1 := Int.emod_lt_of_pos x hL
    have hz : (nums R).length < 16777216 := by rw [nums_length]; omega
    simp only [List.set_cons_succ, List.set_cons_zero, ev_sAppE, ev_ownAt, List.getElem?_cons_succ, List.getElem?_cons_zero, ownAtK_own, ev_eePop, ev_e2, ev_e1, ev_eVar, varK_val, b1_ok, oInt_int, lft_some, ev_eVarB, varBK_own, oLen_lst, nums_length, b2_ok, oMod_int _ _ hL, popK_nums hm0 hm1]
    rw [appEK_ok (ds := nums R) (by rfl) hz]
    simp
    refine ⟨L.eraseIdx (x % (L.length : Int)).toNat, R ++ [at_ L (x % L.length)], ⟨rfl, rfl⟩, ?_, by simp [hl]⟩
    rw [List.append_assoc]
    exact ((erase_perm hm0 hm1).append_left R).trans hp
  · rintro δ ⟨L, R, q5, rfl, hp, hl⟩
    have hlen : R.length + L.length = n := by have := hp.length_eq; rw [List.length_append, ir_length] at this; exact this
    have : L = [] := List.length_eq_zero_iff.mp (by omega)
    rw [this, List.append_nil] at hp
    simp
    exact ⟨R, by simp [box_f], hp⟩
/-! ### plays -/
def playStep (rows : List (List Int)) (s : Int) : List (List Int) := rows.flatMap fun r => (ir 0 s.toNat).map fun w => r ++ [w]
def playsL (sizes : List Int) : List (List Int) := sizes.foldl playStep [[]]
theorem playsL_snoc (p : List Int) (s : Int) : playsL (p ++ [s]) = playStep (playsL p) s := by unfold playsL; rw [List.foldl_append]; rfl
def prodN : List Int → Nat
  | [] => 1
  | s :: ss => s.toNat * prodN ss
theorem step_len (rows : List (List Int)) (s : Int) : (playStep rows s).length = rows.length * s.toNat := by
  unfold playStep
  induction rows with
  | nil => simp
  | cons r rows ih => rw [List.flatMap_cons, List.length_append, ih, List.length_map, ir_length, List.length_cons, Nat.succ_mul, Nat.add_comm]
theorem foldl_len : ∀ (ss : List Int) (rows : List (List Int)), (ss.foldl playStep rows).length = rows.length * prodN ss
  | [], rows => by simp [prodN]
  | s :: ss, rows => by rw [List.foldl_cons, foldl_len ss, step_len, prodN, Nat.mul_assoc]
theorem playsL_len (sizes : List Int) : (playsL sizes).length = prodN sizes := by unfold playsL; rw [foldl_len]; simp
theorem prodN_snoc : ∀ (p : List Int) (s : Int), prodN (p ++ [s]) = prodN p * s.toNat
  | [], s => by simp [prodN]
  | a :: p, s => by rw [List.cons_append, prodN, prodN_snoc p s, prodN, Nat.mul_assoc]
/-- a play of the sizes -/
def VPlay (sizes play : List Int) : Prop := play.length = sizes.length ∧ ∀ i : Int, In sizes.length i → 0 ≤ at_ play i ∧ at_ play i < at_ sizes i
theorem at_snoc_lt {p : List Int} {s i : Int} (h : In p.length i) : at_ (p ++ [s]) i = at_ p i := by
  have := h.1
  have := h.2
  unfold at_
  rw [List.getD_eq_getElem?_getD, List.getD_eq_getElem?_getD, List.getElem?_append_left (by omega)]
theorem at_snoc_eq (p : List Int) (s : Int) : at_ (p ++ [s]) p.length = s := by
  unfold at_
  rw [List.getD_eq_getElem?_getD, Int.toNat_natCast, List.getElem?_append_right (Nat.le_refl _), Nat.sub_self]; rfl
theorem VPlay.snoc {p r : List Int} {s w : Int} (h : VPlay p r) (hw : 0 ≤ w ∧ w < s) : VPlay (p ++ [s]) (r ++ [w]) := by
  refine ⟨by rw [List.length_append, List.length_append, h.1]; rfl, fun i hi => ?_⟩
  rw [List.length_append] at hi
  have h1 := hi.1
  have h2 : i < p.length + 1 := hi.2
  by_cases he : i = p.length
  · rw [he, at_snoc_eq]
    rw [← h.1, at_snoc_eq]
    exact hw
  · have hl : In p.length i := ⟨h1, by omega⟩
    rw [at_snoc_lt hl, at_snoc_lt (by rw [h.1]; exact hl)]
    exact h.2 i hl
theorem fold_valid : ∀ (ss p : List Int) (rows : List (List Int)), (∀ r ∈ rows, VPlay p r) → ∀ r ∈ ss.foldl playStep rows, VPlay (p ++ ss) r
  | [], p, rows, h, r, hr => by rw [List.append_nil]; exact h r hr
  | s :: ss, p, rows, h, r, hr => by
    have := fold_valid ss (p ++ [s]) (playStep rows s) (fun r hr => by
      unfold playStep at hr
      obtain ⟨r0, h0, hr⟩ := List.mem_flatMap.mp hr
      obtain ⟨w, hw, rfl⟩ := List.mem_map.mp hr
      have := mem_ir.mp hw
      exact (h r0 h0).snoc ⟨this.1, by omega⟩) r hr
    rwa [List.append_assoc] at this
theorem plays_valid {sizes r : List Int} (h : r ∈ playsL sizes) : VPlay sizes r := by
  have := fold_valid sizes [] [[]] (fun r hr => by rw [List.mem_singleton.mp hr]; exact ⟨rfl, fun i hi => by have := hi.1; have := hi.2; simp at this; omega⟩) r h
  simpa using this
theorem plays_ok (b : Bool) (sizes : List Int) (hs : ∀ s ∈ sizes, 0 ≤ s ∧ s ≤ 10000) (hp : ∀ k, prodN (sizes.take k) ≤ 1000000) (hn : sizes.length ≤ 1000) : p__law_plays [bN b sizes] = .ok (bW false true (playsL sizes)) := by
  show mirD 6 1 pb__law_plays _ = _
  rw [mirD_1]
  apply runK_wp
  unfold pb__law_plays
  simp [startD]
  refine Wp_accN D.int sizes (fun ps δ => ∃ q2 q3 q4 q5, δ = [some (.val (bN b sizes)), some (.val (bW false true (playsL ps))), q2, q3, q4, q5]) ⟨_, _, _, _, rfl⟩ ?_ ?_
  · rintro ps s rs δ he ⟨q2, q3, q4, q5, rfl⟩
    have hsz := hs s (by rw [he]; simp)
    have hpl : (playsL (ps ++ [s])).length ≤ 1000000 := by
      rw [playsL_len]
      have := hp (ps.length + 1)
      rw [he, show ps ++ s :: rs = (ps ++ [s]) ++ rs by simp, List.take_left' (by simp)] at this
      exact this
    rw [playsL_snoc] at hpl
    simp
    refine Wp_accN (bN true) (playsL ps) (fun rows δ => ∃ q4 q5, δ = [some (.val (bN b sizes)), some (.val (bW false true (playsL ps))), some (.val (.int s)), some (.own ((playStep rows s).map (bN true))), q4, q5]) ⟨_, _, rfl⟩ ?_ ?_
    · rintro rows r rs2 δ he2 ⟨q4, q5, rfl⟩
      have hrow : (playStep rows s).length + s.toNat ≤ 1000000 := by
        rw [he2] at hpl
        unfold playStep at hpl ⊢
        rw [List.flatMap_append, List.flatMap_cons, List.length_append, List.length_append, List.length_map, ir_length] at hpl
        omega
      have hrl : r.length ≤ 1000 := by
        have hv := (plays_valid (sizes := ps) (r := r) (by rw [he2]; simp)).1
        have := congrArg List.length he
        rw [List.length_append, List.length_cons] at this
        omega
      have cat : ∀ w : Int, oAdd (bN true r) (.tup [.int w]) = some (bN true (r ++ [w])) := fun w => by
        show oAdd (.tup _) _ = some (.tup _)
        rw [oAdd_tup (by simp; omega), nums_snoc]
      simp [rng_nat hsz.1 (show s ≤ 16777216 by omega)]
      refine Wp_acc0N D.int (ir 0 s.toNat) (fun wds δ => ∃ q5, δ = [some (.val (bN b sizes)), some (.val (bW false true (playsL ps))), some (.val (.int s)), some (.own ((playStep rows s ++ wds.map fun w => r ++ [w]).map (bN true))), some (.val (bN true r)), q5]) ⟨_, by simp; rfl⟩ ?_ ?_
      · rintro wds w rs3 δ he3 ⟨q5, rfl⟩
        have hwl : wds.length < s.toNat := by
          have := congrArg List.length he3
          rw [ir_length, List.length_append, List.length_cons] at this; omega
        have hz : ((playStep rows s ++ wds.map fun w => r ++ [w]).map (bN true)).length < 16777216 := by
          rw [List.length_map, List.length_append, List.length_map]; omega
        have hz := fun i δ d => appK_ok (i := i) (δ := δ) (d := d) hz
        simp only [List.set_cons_succ, List.set_cons_zero, ev_sApp, ev_ownAt, List.getElem?_cons_succ, List.getElem?_cons_zero, ownAtK_own, ev_e2, ev_eVar, varK_val, ev_eTup, ev_eCons, ev_eNil, consK_ok, tupK1, b2_ok, cat, lft_some, hz, Wp_ok, Nx_nx]
        exact ⟨_, by simp; rfl⟩
      · rintro δ ⟨q5, rfl⟩
        simp [playStep]
    · rintro δ ⟨q4, q5, rfl⟩
      simp [box_f, playsL_snoc]
  · rintro δ ⟨q2, q3, q4, q5, rfl⟩
    simp
/-! ### the number of a play -/
def numI (sizes play : List Int) (k : Nat) : Int := (ir 0 k).foldl (fun n i => n * at_ sizes i + at_ play i) 0
theorem ir_succ (k : Nat) : ir 0 (k + 1) = ir 0 k ++ [(k : Int)] := by
  unfold ir
  rw [List.range_succ, List.map_append]
  simp
theorem numI_succ (sizes play : List Int) (k : Nat) : numI sizes play (k + 1) = numI sizes play k * at_ sizes k + at_ play k := by
  unfold numI
  rw [ir_succ, List.foldl_append]; rfl
theorem take_at {sizes : List Int} {k : Nat} (h : k < sizes.length) : sizes.take (k + 1) = sizes.take k ++ [at_ sizes k] := by
  unfold at_
  rw [List.take_succ, Int.toNat_natCast, List.getD_eq_getElem?_getD, List.getElem?_eq_getElem h]; rfl
theorem numI_lt {sizes play : List Int} (h : VPlay sizes play) : ∀ k : Nat, k ≤ sizes.length → 0 ≤ numI sizes play k ∧ numI sizes play k < (prodN (sizes.take k) : Nat)
  | 0, _ => by simp [numI, prodN, ir]
  | k + 1, hk => by
    obtain ⟨h1, h2⟩ := numI_lt h k (by omega)
    obtain ⟨g1, g2⟩ := h.2 k ⟨by omega, by omega⟩
    rw [numI_succ, take_at (by omega), prodN_snoc]
    obtain ⟨s, hs⟩ : ∃ s : Nat, at_ sizes k = (s : Int) := ⟨(at_ sizes k).toNat, by omega⟩
    rw [hs] at g2 ⊢
    rw [Int.toNat_natCast]
    have h3 : 0 ≤ numI sizes play k * (s : Int) := Int.mul_nonneg h1 (by omega)
    refine ⟨by omega, ?_⟩
    have h4 : (numI sizes play k + 1) * (s : Int) ≤ (prodN (sizes.take k) : Int) * (s : Int) := Int.mul_le_mul_of_nonneg_right (by omega) (by omega)
    rw [Int.add_mul, Int.one_mul] at h4
    rw [Int.natCast_mul]
    omega
theorem number_ok (b c : Bool) {sizes play : List Int} (h : VPlay sizes play) (hs : ∀ s ∈ sizes, 0 ≤ s ∧ s ≤ 10000) (hn : sizes.length ≤ 1000) : p__law_number [bN b sizes, bN c play] = .ok (.int (numI sizes play sizes.length)) := by
  show mirD 4 2 pb__law_number _ = _
  rw [mirD_2]
  apply runK_wp
  unfold pb__law_number
  simp [startD, rng_nat' (show sizes.length ≤ 16777216 by omega)]
  refine Wp_accN D.int (ir 0 sizes.length) (fun is δ => ∃ q3, δ = [some (.val (bN b sizes)), some (.val (bN c play)), some (.val (.int (is.foldl (fun n i => n * at_ sizes i + at_ play i) 0))), q3]) ⟨_, rfl⟩ ?_ ?_
  · rintro is i rs δ he ⟨q3, rfl⟩
    have hi : i ∈ ir 0 sizes.length := by rw [he]; simp
    have hi := mem_ir.mp hi
    have e1 := atI_ints sizes i hi.1 (by omega)
    have e2 := atI_ints play i hi.1 (by rw [h.1]; omega)
    have hsi : at_ sizes i ∈ sizes := by
      unfold at_
      rw [List.getD_eq_getElem?_getD, List.getElem?_eq_getElem (by omega : i.toNat < sizes.length), Option.getD_some]
      exact List.getElem_mem _
    have := hs _ hsi
    have hm := fun n : Int => oMul_ok (i := n) (j := at_ sizes i) (mulOk_r ⟨by omega, by omega⟩)
    simp [e1, e2, hm]
  · rintro δ ⟨q3, rfl⟩
    simp [numI]
/-! ### what one gets -/
def putAt (play : List Int) (i w : Int) : List Int := play.take i.toNat ++ [w] ++ play.drop (i + 1).toNat
def getS (sizes table play : List Int) (i : Int) : List Int := ssetI ((ir 0 (at_ sizes i).toNat).map fun w => at_ table (numI sizes (putAt play i w) sizes.length))
def getsL (sizes table : List Int) : List (List (List Int)) := (playsL sizes).map fun play => (ir 0 sizes.length).map fun i => getS sizes table play i
theorem putAt_valid {sizes play : List Int} {i w : Int} (h : VPlay sizes play) (hi : In sizes.length i) (hw : 0 ≤ w ∧ w < at_ sizes i) : VPlay sizes (putAt play i w) := by
  have hl := h.1
  have i0 := hi.1
  have i1 := hi.2
  refine ⟨?_, fun j hj => ?_⟩
  · unfold putAt
    rw [List.length_append, List.length_append, List.length_take, List.length_drop]
    simp; omega
  · have j0 := hj.1
    have j1 := hj.2
    have key : at_ (putAt play i w) j = if j = i then w else at_ play j := by
      unfold putAt at_
      rw [List.getD_eq_getElem?_getD, List.getD_eq_getElem?_getD]
      by_cases hji : j = i
      · subst hji
        rw [if_pos rfl, List.append_assoc, List.getElem?_append_right (by rw [List.length_take]; omega), List.length_take, show j.toNat - min j.toNat play.length = 0 by omega]; rfl
      · rw [if_neg hji]
        by_cases hlt : j < i
        · rw [List.append_assoc, List.getElem?_append_left (by rw [List.length_take]; omega), List.getElem?_take, if_pos (by omega)]
        · rw [List.getElem?_append_right (by rw [List.length_append, List.length_take]; simp; omega), List.getElem?_drop, List.length_append, List.length_take]
          congr 2
          simp; omega
    rw [key]
    by_cases hji : j = i
    · rw [if_pos hji, hji]; exact hw
    · rw [if_neg hji]; exact h.2 j hj
theorem ssetI_in {o : Nat} {l : List Int} (h : ∀ x ∈ l, In o x) : ∀ x ∈ ssetI l, In o x := fun x hx => h x ((mem_ssetI x l).mp hx)
/-- a game's table -/
structure GOk (o : Nat) (sizes table : List Int) : Prop where
  s : ∀ s ∈ sizes, 1 ≤ s ∧ s ≤ 60
  n : sizes.length ≤ 8
  k : ∀ k, prodN (sizes.take k) ≤ 1000000
  len : table.length = prodN sizes
  t : ∀ x ∈ table, In o x
theorem at_mem {l : List Int} {i : Int} (h : In l.length i) : at_ l i ∈ l := by
  have := h.1
  have := h.2
  unfold at_
  rw [List.getD_eq_getElem?_getD, List.getElem?_eq_getElem (by omega : i.toNat < l.length), Option.getD_some]
  exact List.getElem_mem _
section
variable {o : Nat} {sizes table : List Int}
theorem GOk.tab (g : GOk o sizes table) {play : List Int} (h : VPlay sizes play) : In table.length (numI sizes play sizes.length) := by
  have := numI_lt h sizes.length (Nat.le_refl _)
  rw [List.take_length] at this
  exact ⟨this.1, by rw [g.len]; exact this.2⟩
theorem gets_ok (b c : Bool) (g : GOk o sizes table) : p__law_gets [bN b sizes, bN c table] = .ok (bWs false false true (getsL sizes table)) := by
  show mirD 8 2 pb__law_gets _ = _
  rw [mirD_2]
  apply runK_wp
  unfold pb__law_gets
  have hn := g.n
  have ps := plays_ok b sizes (fun s hs => by have := g.s s hs; omega) g.k (by omega)
  have hpl : (playsL sizes).length ≤ 1000000 := by
    have := g.k sizes.length
    rwa [List.take_length, ← playsL_len] at this
  simp [startD, ps]
  refine Wp_accN (bN true) (playsL sizes) (fun pp δ => ∃ q3 q4 q5 q6 q7, δ = [some (.val (bN b sizes)), some (.val (bN c table)), some (.own ((pp.map fun play => (ir 0 sizes.length).map fun i => getS sizes table play i).map (bW false true))), q3, q4, q5, q6, q7]) ⟨_, _, _, _, _, rfl⟩ ?_ ?_
  · rintro pp play rs δ he ⟨q3, q4, q5, q6, q7, rfl⟩
    have hv : VPlay sizes play := plays_valid (by rw [he]; simp)
    have hpp : pp.length < 1000000 := by
      have := congrArg List.length he
      rw [List.length_append, List.length_cons] at this; omega
    simp [rng_nat' (show sizes.length ≤ 16777216 by omega)]
    refine Wp_accN D.int (ir 0 sizes.length) (fun is δ => ∃ q5 q6 q7, δ = [some (.val (bN b sizes)), some (.val (bN c table)), some (.own ((pp.map fun play => (ir 0 sizes.length).map fun i => getS sizes table play i).map (bW false true))), some (.val (bN true play)), some (.own ((is.map fun i => getS sizes table play i).map (bN true))), q5, q6, q7]) ⟨_, _, _, by simp; exact ⟨rfl, rfl, rfl⟩⟩ ?_ ?_
    · rintro is i rs2 δ he2 ⟨q5, q6, q7, rfl⟩
      have hi : i ∈ ir 0 sizes.length := by rw [he2]; simp
      have hi := mem_ir.mp hi
      have hi : In sizes.length i := ⟨hi.1, by omega⟩
      have his : is.length < 8 := by
        have := congrArg List.length he2
        rw [ir_length, List.length_append, List.length_cons] at this; omega
      have esz := atI_ints sizes i hi.1 hi.2
      have hsz := g.s _ (at_mem hi)
      simp [-List.map_append, esz, rng_nat (show 0 ≤ at_ sizes i by omega) (show at_ sizes i ≤ 16777216 by omega)]
      refine Wp_accN D.int (ir 0 (at_ sizes i).toNat) (fun wds δ => ∃ q7, δ = [some (.val (bN b sizes)), some (.val (bN c table)), some (.own ((pp.map fun play => (ir 0 sizes.length).map fun i => getS sizes table play i).map (bW false true))), some (.val (bN true play)), some (.own ((is.map fun i => getS sizes table play i).map (bN true))), some (.val (.int i)), some (.own (nums (wds.map fun w => at_ table (numI sizes (putAt play i w) sizes.length)))), q7]) ⟨_, by simp; rfl⟩ ?_ ?_
      · rintro wds w rs3 δ he3 ⟨q7, rfl⟩
        have hw : w ∈ ir 0 (at_ sizes i).toNat := by rw [he3]; simp
        have hw := mem_ir.mp hw
        have hv2 := putAt_valid (w := w) hv hi ⟨hw.1, by omega⟩
        have hwl : wds.length < 100 := by
          have := congrArg List.length he3
          rw [ir_length, List.length_append, List.length_cons] at this; omega
        have hz : (nums (wds.map fun w => at_ table (numI sizes (putAt play i w) sizes.length))).length < 16777216 := by
          rw [nums_length, List.length_map]; omega
        have hz := fun i δ d => appK_ok (i := i) (δ := δ) (d := d) hz
        have hvl := hv.1
        have c1 : cutD (nums play) none (some i) = nums (play.take i.toNat) := by rw [cutD_nums, cutD_hi _ _ hi.1]
        have c2 : cutD (nums play) (some (i + 1)) none = nums (play.drop (i + 1).toNat) := by rw [cutD_nums, cutD_lo _ _ (by have := hi.1; omega)]
        have a1 : oAdd (box true (nums (play.take i.toNat))) (.tup [.int w]) = some (.tup (nums (play.take i.toNat ++ [w]))) := by
          rw [box_t, oAdd_tup (by simp; omega), nums_snoc]
        have a2 : oAdd (.tup (nums (play.take i.toNat ++ [w]))) (box true (nums (play.drop (i + 1).toNat))) = some (bN true (putAt play i w)) := by
          rw [box_t, oAdd_tup (by simp; omega)]
          unfold putAt nums
          rw [← List.map_append]; rfl
        have nb := number_ok b true hv2 (fun s hs => by have := g.s s hs; omega) (by omega)
        have tb := g.tab hv2
        have et := atI_ints table _ tb.1 tb.2
        simp only [List.set_cons_succ, List.set_cons_zero, ev_sApp, ev_ownAt, List.getElem?_cons_succ, List.getElem?_cons_zero, ownAtK_own, ev_e2, ev_eVar, varK_val, ev_eCall, ev_eCons, ev_eSl, ev_oNo, ev_oPart, partK_int, slK_ok, oSl_box, c1, lft_some, ev_eTup, ev_eNil, consK_ok, tupK1, b2_ok, a1, ev_eC, oAdd_int, c2, a2, callK_2, nb, ix_box, et, hz, Wp_ok, Nx_nx]
        exact ⟨_, by simp [nums]; rfl⟩
      · rintro δ ⟨q7, rfl⟩
        have hz : ((is.map fun i => getS sizes table play i).map (bN true)).length < 16777216 := by rw [List.length_map, List.length_map]; omega
        have hz := fun i δ d => appK_ok (i := i) (δ := δ) (d := d) hz
        have ss := sortK_lst (ns := (ir 0 (at_ sizes i).toNat).map fun w => at_ table (numI sizes (putAt play i w) sizes.length)) (by rw [List.length_map, ir_length]; omega)
        simp only [List.set_cons_succ, List.set_cons_zero, ev_sApp, ev_ownAt, List.getElem?_cons_succ, List.getElem?_cons_zero, ownAtK_own, ev_e1, ev_eOf, ev_sortedSet, ev_eVarB, varBK_own, ss, ofK_ok, b1_ok, oTuple_lst, lft_some, hz, Wp_ok, Nx_nx]
        exact ⟨_, _, _, by simp [box_t, getS]; exact ⟨rfl, rfl, rfl⟩⟩
    · rintro δ ⟨q5, q6, q7, rfl⟩
      have hz : ((pp.map fun play => (ir 0 sizes.length).map fun i => getS sizes table play i).map (bW false true)).length < 16777216 := by rw [List.length_map, List.length_map]; omega
      have hz := fun i δ d => appK_ok (i := i) (δ := δ) (d := d) hz
      simp only [ev_sFrz, ev_frz, List.set_cons_succ, List.set_cons_zero, ev_sApp, ev_ownAt, List.getElem?_cons_succ, List.getElem?_cons_zero, ownAtK_own, frzK_own, ev_eVar, varK_val, hz, Wp_ok, Nx_nx]
      exact ⟨_, _, _, _, _, by simp [box_f]; exact ⟨rfl, rfl, rfl, rfl, rfl⟩⟩
  · rintro δ ⟨q3, q4, q5, q6, q7, rfl⟩
    simp [box_f]
    unfold getsL
    rw [List.map_map]
end
end DL

namespace DL
open PySem PySem.Spec PyProof.Rows L2
section
variable {p o : Nat} {sizes table : List Int} {w : List (List Int)}
/-! ### ends -/
def endB (p : Nat) (w : List (List Int)) (table : List Int) (gets : List (List (List Int))) (k : Int) : Bool := (ir 0 p).all fun i => onT (nth w i []) (nth (nth gets k []) i []) (at_ table k)
def endsL (p : Nat) (w : List (List Int)) (table : List Int) (gets : List (List (List Int))) : List Int := (ir 0 table.length).filter (endB p w table gets)
def endedL (p : Nat) (w : List (List Int)) (table : List Int) (gets : List (List (List Int))) : List Int := ssetI ((endsL p w table gets).map (at_ table))
theorem getsL_len : (getsL sizes table).length = (playsL sizes).length := List.length_map _
theorem getS_in (g : GOk o sizes table) {play : List Int} {i : Int} (h : VPlay sizes play) (hi : In sizes.length i) : ∀ x ∈ getS sizes table play i, In o x := by
  refine ssetI_in fun x hx => ?_
  obtain ⟨w, hw, rfl⟩ := List.mem_map.mp hx
  have hw := mem_ir.mp hw
  exact g.t _ (at_mem (g.tab (putAt_valid h hi ⟨hw.1, by omega⟩)))
theorem gets_re (g : GOk o sizes table) : ReOk sizes.length o table.length (getsL sizes table) := by
  refine ⟨by rw [getsL_len, playsL_len, g.len], fun r hr => ?_⟩
  obtain ⟨play, hp, rfl⟩ := List.mem_map.mp hr
  refine ⟨by rw [List.length_map, ir_length], fun M hM m hm => ?_⟩
  obtain ⟨i, hi, rfl⟩ := List.mem_map.mp hM
  have hi := mem_ir.mp hi
  exact getS_in g (plays_valid hp) ⟨hi.1, by omega⟩ m hm
theorem ends_ok (a b c d : Bool) (hw : WOk p o w) (hp : p ≤ 4) (ht : ∀ x ∈ table, In o x) (hl : table.length ≤ 1000000) {gets : List (List (List Int))} (hg : ReOk p o table.length gets) :
    p__law_ends [bW a b w, bN c table, bWs d false true gets] = .ok (bN false (endsL p w table gets)) := by
  show mirD 7 3 pb__law_ends _ = _
  rw [mirD_3]
  apply runK_wp
  unfold pb__law_ends
  simp [startD, rng_nat' (show table.length ≤ 16777216 by omega)]
  refine Wp_accN D.int (ir 0 table.length) (fun ks δ => ∃ q4 q5, δ = [some (.val (bW a b w)), some (.val (bN c table)), some (.val (bWs d false true gets)), some (.own (nums (ks.filter (endB p w table gets)))), q4, q5, none]) ⟨_, _, rfl⟩ ?_ ?_
  · rintro ks k rs δ he ⟨q4, q5, rfl⟩
    have hk : k ∈ ir 0 table.length := by rw [he]; simp
    have hk := mem_ir.mp hk
    have hk : In table.length k := ⟨hk.1, by omega⟩
    have hks : ks.length ≤ 1000000 := by
      have := congrArg List.length he
      rw [ir_length, List.length_append, List.length_cons] at this; omega
    have et := atI_ints table k hk.1 hk.2
    have eg := atI_en (bW false true) gets k [] hk.1 (by rw [hg.len]; exact hk.2)
    have hrow := hg.row _ (nth_mem gets k [] hk.1 (by rw [hg.len]; exact hk.2))
    have hx := ht _ (at_mem hk)
    have hc := fun δ d0 d1 d2 d4 d6 => comp_all (i := 6) (te := (eCall 3 (mirD 4 3 onTopB) (eCons (e2 oIx (eVar 0) (eVar 6)) (eCons (e2 oIx (eVar 1) (eVar 4)) (eCons (e2 oIx (e2 oIx (eVar 2) (eVar 4)) (eVar 6)) eNil))))) (δ := δ) D.int (fun i => .bl (onT (nth w i []) (nth (nth gets k []) i []) (at_ table k))) (ir 0 p) (fun i hi => by
      have d0 : δ[0]? = some (some (.val (bW a b w))) := d0
      have d1 : δ[1]? = some (some (.val (bN c table))) := d1
      have d2 : δ[2]? = some (some (.val (bWs d false true gets))) := d2
      have d4 : δ[4]? = some (some (.val (.int k))) := d4
      have d6 : 6 < δ.length := d6
      have hi := mem_ir.mp hi
      have hi : In p i := ⟨hi.1, by omega⟩
      have ew := atI_en (bN b) w i [] hi.1 (by rw [hw.1]; exact hi.2)
      have es := atI_en (bN true) (nth gets k []) i [] hi.1 (by rw [hrow.1]; exact hi.2)
      have lw := (hw.2 _ (nth_mem w i [] hi.1 (by rw [hw.1]; exact hi.2))).1
      have t := onTop_bx b true (nth w i []) (nth (nth gets k []) i []) (at_ table k) (by rw [lw]; exact hx) (fun m hm => by rw [lw]; exact hrow.2 _ (nth_mem _ i [] hi.1 (by rw [hrow.1]; exact hi.2)) m hm)
      simp [d0, d1, d2, d4, d6, et, eg, ew, es, t])
    have hc := hc [some (.val (bW a b w)), some (.val (bN c table)), some (.val (bWs d false true gets)), some (.own (nums (ks.filter (endB p w table gets)))), some (.val (.int k)), q5, none] (by simp) (by simp) (by simp) (by simp) (by simp)
    have hc : compD (bdN 6) tYesD _ _ (nums (ir 0 p)) = _ := hc
    have nb := oNotInB_map (fun i => onT (nth w i []) (nth (nth gets k []) i []) (at_ table k)) (ir 0 p)
    have hb : ((ir 0 p).all fun i => onT (nth w i []) (nth (nth gets k []) i []) (at_ table k)) = endB p w table gets k := rfl
    rw [hb] at nb
    have hz : (nums (ks.filter (endB p w table gets))).length < 16777216 := by
      rw [nums_length]
      have := List.length_filter_le (endB p w table gets) ks
      omega
    simp [hw.1, rng_nat' (show p ≤ 16777216 by omega)]
    rw [hc]
    cases hbb : endB p w table gets k
    · rw [hbb] at nb
      simp [nb, hbb]
    · rw [hbb] at nb
      simp [nb, hbb, appK_ok hz]
  · rintro δ ⟨q4, q5, rfl⟩
    simp [box_f]
    rfl
theorem asc_in_len {o : Nat} {l : List Int} (h : l.Pairwise (· < ·)) (hin : ∀ x ∈ l, In o x) : l.length ≤ o := by
  have key : ∀ (l : List Int) (lo : Int) (n : Nat), l.Pairwise (· < ·) → (∀ x ∈ l, lo ≤ x ∧ x < lo + n) → l.length ≤ n := by
    intro l
    induction l with
    | nil => intros; simp
    | cons x l ih =>
      intro lo n h hb
      obtain ⟨h1, h2⟩ := List.pairwise_cons.mp h
      have hx := hb x List.mem_cons_self
      have := ih (x + 1) (n - 1 - (x - lo).toNat) h2 fun y hy => by
        have := h1 y hy
        have := hb y (List.mem_cons_of_mem _ hy)
        omega
      rw [List.length_cons]; omega
  exact key l 0 o h fun x hx => ⟨(hin x hx).1, by have := (hin x hx).2; omega⟩
theorem ended_in (ht : ∀ x ∈ table, In o x) (gets : List (List (List Int))) : ∀ x ∈ endedL p w table gets, In o x := ssetI_in fun x hx => by
  obtain ⟨k, hk, rfl⟩ := List.mem_map.mp hx
  have := mem_ir.mp (List.mem_filter.mp hk).1
  exact ht _ (at_mem ⟨this.1, by omega⟩)
theorem ended_ok (a b c d : Bool) (hw : WOk p o w) (hp : p ≤ 4) (ho : o ≤ 8) (ht : ∀ x ∈ table, In o x) (hl : table.length < 4000) {gets : List (List (List Int))} (hg : ReOk p o table.length gets) :
    p__law_ended [bW a b w, bN c table, bWs d false true gets] = .ok (bN true (endedL p w table gets)) := by
  show mirD 4 3 pb__law_ended _ = _
  rw [mirD_3]
  apply runK_wp
  unfold pb__law_ended
  have en := ends_ok a b c d hw hp ht (by omega) hg
  have c1 := comp_map (i := 3) (te := (e2 oIx (eVar 1) (eVar 3))) (δ := [some (.val (bW a b w)), some (.val (bN c table)), some (.val (bWs d false true gets)), none]) (endsL p w table gets) (at_ table) (fun k hk => by
    have := mem_ir.mp (List.mem_filter.mp hk).1
    have et := atI_ints table k this.1 (by omega)
    simp [et])
  have hin := ended_in (p := p) (w := w) ht gets
  have l1 : (endedL p w table gets).length ≤ o := asc_in_len (ssetI_asc _) hin
  have l2 : (endsL p w table gets).length ≤ table.length := by
    unfold endsL
    have := List.length_filter_le (endB p w table gets) (ir 0 table.length)
    rwa [ir_length] at this
  have ss := sortK_lst' (ns := (endsL p w table gets).map (at_ table)) (by show (endedL p w table gets).length < 64; omega) (by rw [List.length_map]; omega)
  simp [startD, en, c1, ss, ← box_t]
  rfl
/-! ### games -/
theorem prodN_le {b : Nat} : ∀ (l : List Int) (n : Nat), (∀ s ∈ l, s ≤ b) → 1 ≤ b → l.length ≤ n → prodN l ≤ b ^ n
  | [], n, _, hb, _ => Nat.one_le_pow _ _ hb
  | s :: l, n, h, hb, hl => by
    cases n with
    | zero => simp at hl
    | succ n =>
      have := prodN_le l n (fun s hs => h s (List.mem_cons_of_mem _ hs)) hb (by simpa using hl)
      have hs := h s List.mem_cons_self
      rw [prodN, Nat.pow_succ, Nat.mul_comm (b ^ n)]
      exact Nat.mul_le_mul (by omega) this
theorem prodN_pos : ∀ l : List Int, (∀ s ∈ l, 1 ≤ s) → 1 ≤ prodN l
  | [], _ => Nat.le_refl _
  | s :: l, h => by
    have := prodN_pos l fun s hs => h s (List.mem_cons_of_mem _ hs)
    have hs := h s List.mem_cons_self
    rw [prodN]
    exact Nat.mul_le_mul (show 1 ≤ s.toNat by omega) this
theorem game_ok (ns : List Int) (a : Int) (p o : Nat) (ha : 0 ≤ a) (hp : p ≤ 4) (ho1 : 1 ≤ o) (ho : o ≤ 8) : ∃ d, p__law_game [.scr ns, .int a, .int p, .int o] = .ok d ∧ ∃ sizes table, d = .tup [bN true sizes, bN true table] ∧ GOk o sizes table ∧ sizes.length = p ∧ 1 ≤ table.length ∧ table.length < 4000 := by
  show ∃ d, mirD 8 4 pb__law_game _ = _ ∧ _
  rw [mirD_4]
  apply runK_ex
  unfold pb__law_game
  obtain ⟨r, er, lr, br⟩ := row_ok ns a 5040 p ha (by decide) (by decide) (by omega)
  obtain ⟨sizes, hsz⟩ : ∃ sizes, sizes = r.map fun x => 1 + x % 3 := ⟨_, rfl⟩
  have c1 := comp_map (i := 5) (te := (e2 oAdd (eC (.int 1)) (e2 oMod (e1 oInt (eVar 5)) (eC (.int 3))))) (δ := [some (.val (.scr ns)), some (.val (.int a)), some (.val (.int p)), some (.val (.int o)), none, none, none, none]) r (fun x => 1 + x % 3) (fun x hx => by simp)
  rw [← hsz] at c1
  have s1 : ∀ s ∈ sizes, 1 ≤ s ∧ s ≤ 3 := fun s hs => by
    rw [hsz] at hs
    obtain ⟨x, _, rfl⟩ := List.mem_map.mp hs
    have := Int.emod_nonneg x (show (3 : Int) ≠ 0 by decide)
    have := Int.emod_lt_of_pos x (show (0 : Int) < 3 by decide)
    omega
  have ls : sizes.length = p := by rw [hsz, List.length_map, lr]
  have hk : ∀ k, prodN (sizes.take k) ≤ 81 := fun k => prodN_le (b := 3) _ 4 (fun s hs => (s1 s (List.mem_of_mem_take hs)).2) (by decide) (by rw [List.length_take]; omega)
  have ps := plays_ok true sizes (fun s hs => by have := s1 s hs; omega) (fun k => by have := hk k; omega) (by omega)
  have pl := playsL_len sizes
  have pk := hk sizes.length
  rw [List.take_length] at pk
  obtain ⟨r2, er2, lr2, br2⟩ := row_ok ns (a + 1) 5040 (prodN sizes) (by omega) (by decide) (by decide) (by omega)
  rw [← pl] at er2
  have c2 := comp_map (i := 7) (te := (e2 oMod (e1 oInt (eVar 7)) (eVar 3))) (δ := [some (.val (.scr ns)), some (.val (.int a)), some (.val (.int p)), some (.val (.int o)), some (.val (bN true sizes)), none, some (.val (.int (playsL sizes).length)), none]) r2 (fun x => x % o) (fun x hx => by
    simp [oMod_int _ (o : Int) (by omega)])
  have ps : p__law_plays [.tup (nums sizes)] = .ok (bW false true (playsL sizes)) := ps
  simp [startD, er, c1, ps, er2]
  simp only [box_t] at c2
  rw [c2]
  simp
  refine ⟨sizes, r2.map fun x => x % o, by simp [box_t], ⟨fun s hs => by have := s1 s hs; omega, by omega, fun k => by have := hk k; omega, by rw [List.length_map, lr2], fun x hx => ?_⟩, ls, ?_, ?_⟩
  · obtain ⟨y, _, rfl⟩ := List.mem_map.mp hx
    exact ⟨Int.emod_nonneg _ (by omega), Int.emod_lt_of_pos _ (by omega)⟩
  · have := prodN_pos sizes fun s hs => (s1 s hs).1
    rw [List.length_map]; omega
  · rw [List.length_map]; omega
/-! ### the worlds and told sets that a game makes -/
def zeroW (p o : Nat) : List (List Int) := List.replicate p (List.replicate o 0)
theorem dense_zero (o : Nat) : dense (List.replicate o 0) = List.replicate o 0 := by
  unfold dense
  rw [List.map_replicate]
  cases o with
  | zero => rfl
  | succ o =>
    have hl : ssetI (List.replicate (o + 1) (0 : Int)) = [0] := by
      have h1 := ssetI_asc (List.replicate (o + 1) (0 : Int))
      have h2 : ∀ z, z ∈ ssetI (List.replicate (o + 1) (0 : Int)) ↔ z = 0 := fun z => by rw [mem_ssetI]; simp
      exact asc_unique h1 (by simp) fun z => by rw [h2]; simp
    unfold level
    rw [hl]; rfl
theorem zeroW_ok (p o : Nat) : WOk p o (zeroW p o) := by
  refine ⟨List.length_replicate, fun l hl => ?_⟩
  rw [(List.mem_replicate.mp hl).2]
  exact ⟨List.length_replicate, dense_zero o⟩
theorem at_rep (o : Nat) (i : Int) : at_ (List.replicate o 0) i = 0 := by
  unfold at_
  rw [List.getD_eq_getElem?_getD, List.getElem?_replicate]
  split <;> rfl
theorem nth_zeroW (p o : Nat) {i : Int} (hi : In p i) : nth (zeroW p o) i [] = List.replicate o 0 := by
  have := hi.1
  have := hi.2
  rw [nth_eq _ i [] hi.1 (by unfold zeroW; rw [List.length_replicate]; exact hi.2)]
  unfold zeroW
  rw [List.getElem_replicate]
theorem zero_ends (p o : Nat) (table : List Int) (gets : List (List (List Int))) : endsL p (zeroW p o) table gets = ir 0 table.length := by
  unfold endsL
  refine List.filter_eq_self.mpr fun k hk => ?_
  unfold endB
  rw [List.all_eq_true]
  intro i hi
  have hi := mem_ir.mp hi
  rw [nth_zeroW p o ⟨hi.1, by omega⟩]
  unfold onT
  rw [List.all_eq_true]
  intro m _
  rw [at_rep, at_rep]; rfl
theorem made_ok (ns : List Int) (a : Int) (p o c : Nat) (b2 b3 : Bool) (gets : List (List (List Int))) (ha : 0 ≤ a) (hp1 : 1 ≤ p) (hp : p ≤ 4) (ho1 : 1 ≤ o) (ho : o ≤ 8) (hc : c ≤ 1000) (ht : ∀ x ∈ table, In o x) (hl1 : 1 ≤ table.length) (hl : table.length < 4000) (hg : ReOk p o table.length gets) :
    ∃ d, p__law_made [.scr ns, .int a, .int o, bN b2 table, bWs b3 false true gets, .int p, .int c] = .ok d ∧ ∃ ws, d = .tup [bWs false true true ws, bW false true (ws.map fun w => endedL p w table gets)] ∧ ws.length = c ∧ (∀ w ∈ ws, WOk p o w) ∧ ∀ w ∈ ws, SOk o (endedL p w table gets) := by
  show ∃ d, mirD 13 7 pb__law_made _ = _ ∧ _
  rw [show ∀ sv x1 x2 x3 x4 x5 x6 x7, mirD 13 7 sv [x1, x2, x3, x4, x5, x6, x7] = runK (sv (startD 13 [x1, x2, x3, x4, x5, x6, x7])) from fun _ _ _ _ _ _ _ _ => rfl]
  apply runK_ex
  unfold pb__law_made
  simp [startD, rng_nat' (show c ≤ 16777216 by omega)]
  refine Wp_accN D.int (ir 0 c) (fun ps δ => ∃ ws q9 q10, δ = [some (.val (.scr ns)), some (.val (.int a)), some (.val (.int o)), some (.val (bN b2 table)), some (.val (bWs b3 false true gets)), some (.val (.int p)), some (.val (.int c)), some (.own (ws.map (bW true true))), some (.own ((ws.map fun w => endedL p w table gets).map (bN true))), q9, q10, none, none] ∧ ws.length = ps.length ∧ (∀ w ∈ ws, WOk p o w) ∧ ∀ w ∈ ws, SOk o (endedL p w table gets)) ⟨[], _, _, rfl, rfl, by simp, by simp⟩ ?_ ?_
  · rintro ps x rs δ he ⟨ws, q9, q10, rfl, h1, h2, h3⟩
    have hx : x ∈ ir 0 c := by rw [he]; simp
    have hx := mem_ir.mp hx
    have hps : ps.length < 1000 := by
      have := congrArg List.length he
      rw [ir_length, List.length_append, List.length_cons] at this; omega
    obtain ⟨w0, e0, k0⟩ := world_ok ns (a + x) p o (by omega) (by omega) ho1 ho
    have en := ends_ok true true b2 b3 k0 hp ht (by omega) hg
    have key : ∃ w : List (List Int), WOk p o w ∧ endsL p w table gets ≠ [] ∧ ∀ δ : DEnv, 12 < δ.length → δ[2]? = some (some (.val (.int o))) → δ[3]? = some (some (.val (bN b2 table))) → δ[4]? = some (some (.val (bWs b3 false true gets))) → δ[5]? = some (some (.val (.int p))) → δ[10]? = some (some (.val (bW true true w0))) →
        sIf (eT (e2 oEq (e1 oLen (eCall 3 p__law_ends (eCons (eVar 10) (eCons (eVar 3) (eCons (eVar 4) eNil))))) (eC (.int 0)))) (sSet 10 (e1 oTuple (eOf (fComp (eRng1 (eVar 5)) [12] (bdN 12) tYesD (e1 oTuple (eOf (fComp (eRng1 (eVar 2)) [11] (bdN 11) tYesD (eC (.int 0))))))))) sNil δ = .ok (.nx (δ.set 10 (some (.val (bW true true w))))) := by
      by_cases hne : endsL p w0 table gets = []
      · refine ⟨zeroW p o, zeroW_ok p o, ?_, fun δ d12 d2 d3 d4 d5 d10 => ?_⟩
        · rw [zero_ends]
          intro z
          have := congrArg List.length z
          rw [ir_length, List.length_nil] at this
          omega
        · rw [hne] at en
          have c0 : ∀ δ' : DEnv, 11 < δ'.length → compD (bdN 11) tYesD (eC (.int 0)) δ' (nums (ir 0 o)) = .ok (nums (List.replicate o 0)) := fun δ' _ => by
            rw [comp_map (ir 0 o) (fun _ => 0) (fun x _ => rfl), List.map_const', ir_length]
          have c1 : ∀ δ' : DEnv, 12 < δ'.length → δ'[2]? = some (some (.val (.int o))) → compD (bdN 12) tYesD (e1 oTuple (eOf (fComp (eRng1 (eVar 2)) [11] (bdN 11) tYesD (eC (.int 0))))) δ' (nums (ir 0 p)) = .ok ((ir 0 p).map fun _ => bN true (List.replicate o 0)) := fun δ' e12 e2 => by
            exact comp_all D.int (fun _ => bN true (List.replicate o 0)) (ir 0 p) (fun y _ => by
              simp [e2, rng_nat' (show o ≤ 16777216 by omega), c0, show 11 < δ'.length by omega, box_t])
          have ez : ((ir 0 p).map fun _ => bN true (List.replicate o 0)) = (zeroW p o).map (bN true) := by
            unfold zeroW
            rw [List.map_const', ir_length, List.map_replicate]
          simp [d2, d3, d4, d5, d10, en, rng_nat' (show p ≤ 16777216 by omega)]
          rw [c1 _ (by simpa using d12) (by rw [List.getElem?_set_ne (by decide)]; exact d2), ez]
          simp [box_t]
      · refine ⟨w0, k0, hne, fun δ d12 d2 d3 d4 d5 d10 => ?_⟩
        rw [set_at d10]
        simp [d2, d3, d4, d5, d10, en, hne]
    obtain ⟨w, kw, wne, hif⟩ := key
    have ed := ended_ok true true b2 b3 kw hp ho ht hl hg
    have hz1 : (ws.map (bW true true)).length < 16777216 := by rw [List.length_map]; omega
    have hz2 : ((ws.map fun w => endedL p w table gets).map (bN true)).length < 16777216 := by rw [List.length_map, List.length_map]; omega
    have e0 : mirD 10 4 worldB [.scr ns, .int (a + x), .int p, .int o] = .ok (bW true true w0) := e0
    simp only [List.set_cons_succ, List.set_cons_zero, ev_sSeq, ev_sSet, ev_eCall, ev_eCons, ev_eVar, ev_eNil, List.getElem?_cons_succ, List.getElem?_cons_zero, varK_val, ev_e2, b2_ok, oAdd_int, lft_some, consK_ok, callK_4, e0, setK_ok, seqK_nx]
    rw [hif _ (by simp) (by simp) (by simp) (by simp) (by simp) (by simp)]
    simp [-List.map_append, -List.map_map, ed, appK_ok hz1, appK_ok hz2]
    refine ⟨ws ++ [w], ⟨by simp [-List.map_map], by simp [-List.map_map]⟩, by simp [h1], fun v hv => ?_, fun v hv => ?_⟩
    · rcases List.mem_append.mp hv with hv | hv
      · exact h2 v hv
      · rw [List.mem_singleton.mp hv]; exact kw
    · rcases List.mem_append.mp hv with hv | hv
      · exact h3 v hv
      · rw [List.mem_singleton.mp hv]
        refine ⟨fun z => ?_, ssetI_asc _, ended_in ht gets⟩
        have hm : ∀ y, y ∈ (endsL p w table gets).map (at_ table) → False := fun y hy => by
          have := (mem_ssetI y _).mpr hy
          unfold endedL at z
          rw [z] at this
          cases this
        cases he : endsL p w table gets with
        | nil => exact wne he
        | cons k ks => exact hm _ (List.mem_map.mpr ⟨k, by rw [he]; simp, rfl⟩)
  · rintro δ ⟨ws, q9, q10, rfl, h1, h2, h3⟩
    rw [ir_length] at h1
    simp [-List.map_map]
    exact ⟨ws, ⟨by simp [box_f], by simp [box_f]⟩, h1, h2, h3⟩
end
end DL

namespace K17
open PySem PySem.Spec PyProof.Rows L2 DL
theorem row_m : m__law_row = mirD 10 4 rowB := rfl
theorem world_m : m__law_world = mirD 10 4 worldB := rfl
theorem told_m : m__law_told = mirD 15 5 toldB := rfl
theorem pairs_m : m__law_pairs = mirD 4 1 pairsB := rfl
theorem same_m : m__law_same = recM sameR 6 := rfl
theorem middles_m : m_middles = p_middles := rfl
theorem lmiddles_m : m__law_middles = p__law_middles := rfl
theorem below_m : m__law_below = p__law_below := rfl
theorem book_m : m_Book___init__ = p_Book___init__ := rfl
theorem rule_m : m_Rule___init__ = mirI 11 4 "Rule" (ruleB (mirD 4 3 (isWorldB (mirD 2 2 (isLikB (mirD 3 1 likB))))) (mirD 4 3 (checkToldB (mirD 4 2 isSetB) (fun _ => stk) (fun _ => stk))) (fun _ => stk) (fun _ => stk) (fun _ => stk) (fun _ => stk) (fun _ => stk)) := rfl
theorem same_ok {n : Nat} {d : D} (h : Pl n d) (hn : n < 6) : m__law_same [d, d] = .ok (.bl true) := same_refl h 6 hn
theorem same_sm {n : Nat} {a b : D} (h : Sm n a b) (hn : n < 6) : m__law_same [a, b] = .ok (.bl true) := same_true n a b 6 hn h
theorem pl_ws {re : List (List (List Int))} (h1 : re.length ≤ 1000) (h2 : ∀ r ∈ re, r.length ≤ 1000 ∧ ∀ M ∈ r, M.length ≤ 1000) : Pl 3 (bWs true true true re) := .tup 2 _ (fun d hd => by
  obtain ⟨r, hr, rfl⟩ := List.mem_map.mp hd
  exact .tup 1 _ (fun d hd => by
    obtain ⟨M, hM, rfl⟩ := List.mem_map.mp hd
    exact pl_nums 0 _ (by have := (h2 r hr).2 M hM; omega)) (by rw [List.length_map]; have := (h2 r hr).1; omega)) (by rw [List.length_map]; omega)
theorem in_ir {n : Nat} {x : Int} : x ∈ ir 0 n ↔ DL.In n x := by
  rw [mem_ir]
  constructor
  · exact fun h => ⟨h.1, by omega⟩
  · exact fun h => ⟨h.1, by have := h.2; omega⟩
theorem pr_mem {ts : List (List Int)} {k : Int} (hk : DL.In (DL.pairsOf ts).length k) : pr_ ts k ∈ DL.pairsOf ts := nth_mem _ k _ hk.1 hk.2
section
variable {o : Nat} {ws : List (List (List Int))} {ts : List (List Int)}
/-- sets for each pair and person -/
structure Rch (o n : Nat) (re : List (List (List Int))) : Prop where
  len : re.length = n
  row : ∀ r ∈ re, r.length = 2 ∧ ∀ M ∈ r, M.length ≤ 8 ∧ ∀ m ∈ M, DL.In o m
theorem Rch.re {n : Nat} {re : List (List (List Int))} (h : Rch o n re) : ReOk 2 o n re := ⟨h.len, fun r hr => ⟨(h.row r hr).1, fun M hM => ((h.row r hr).2 M hM).2⟩⟩
theorem reaches_ok (h : ROk 2 o ws ts) (ns : List Int) (a : Int) (ha : 0 ≤ a) :
    ∃ re, m__law_reaches [.scr ns, .int a, bWs false true true ws, .lst ((DL.pairsOf ts).map encP), .int o] = .ok (bWs true true true re) ∧ Rch o (DL.pairsOf ts).length re := by
  have pr := h.pr
  have ho := h.o2
  have ho1 := h.o1
  obtain ⟨N, hN⟩ : ∃ N, N = (DL.pairsOf ts).length := ⟨_, rfl⟩
  have e1 : (2 : Int) * N * ((o : Int) + 1) = ((2 * N * (o + 1) : Nat) : Int) := by push_cast; rfl
  have hk : 2 * N * (o + 1) ≤ 48 * 9 := Nat.mul_le_mul (by omega) (by omega)
  obtain ⟨r, er, lr, br⟩ := row_ok ns a 5040 (2 * N * (o + 1)) ha (by decide) (by decide) (by omega)
  have er : m__law_row [.scr ns, .int a, .int (2 * N * ((o : Int) + 1)), .int 5040] = .ok (.lst (nums r)) := by rw [e1]; exact er
  have m1 : oMul (.int 2) (.int N) = some (.int (2 * N)) := oMul_ok (mulOk_l ⟨by decide, by decide⟩)
  have m2 : oMul (.int (2 * N)) (.int ((o : Int) + 1)) = some (.int (2 * N * ((o : Int) + 1))) := oMul_ok (mulOk_l ⟨by omega, by omega⟩)
  have hr2 : rng 0 2 = .ok (nums (ir 0 2)) := rng_nat' (n := 2) (by omega)
  have key : ∃ d, m__law_reaches [.scr ns, .int a, bWs false true true ws, .lst ((DL.pairsOf ts).map encP), .int o] = .ok d ∧ ∃ re, d = bWs true true true re ∧ Rch o N re := by
    unfold m__law_reaches
    rw [mirD_5]
    apply runK_ex
    unfold b__law_reaches
    simp [startD, ← hN, m1, m2, er, rng_nat' (show N ≤ 16777216 by omega)]
    refine Wp_accN D.int (ir 0 N) (fun ps δ => ∃ re q7 q8 q9 q10 q11 q12, δ = [some (.val (.scr ns)), some (.val (.int a)), some (.val (bWs false true true ws)), some (.val (.lst ((DL.pairsOf ts).map encP))), some (.val (.int o)), some (.val (.lst (nums r))), some (.own (re.map (bW true true))), q7, q8, q9, q10, q11, q12, none] ∧ Rch o ps.length re) ⟨[], _, _, _, _, _, _, rfl, ⟨rfl, by simp⟩⟩ ?_ ?_
    · rintro ps k rs δ he ⟨re, q7, q8, q9, q10, q11, q12, rfl, R⟩
      have hk : k ∈ ir 0 N := by rw [he]; simp
      have hk := in_ir.mp hk
      have hps : ps.length < N := by
        have := congrArg List.length he
        rw [List.length_append, List.length_cons, ir_length] at this; omega
      obtain ⟨a1, a2⟩ := h.pin (pr_mem (by rw [← hN]; exact hk))
      have ik := ix_pr h (k := k) (by rw [← hN]; exact hk)
      simp [hr2]
      refine Wp_accN D.int (ir 0 2) (fun is δ => ∃ (w : List (List Int)) (q9 q10 q11 q12 : Option Cell), δ = [some (.val (.scr ns)), some (.val (.int a)), some (.val (bWs false true true ws)), some (.val (.lst ((DL.pairsOf ts).map encP))), some (.val (.int o)), some (.val (.lst (nums r))), some (.own (re.map (bW true true))), some (.val (.int k)), some (.own (w.map (bN true))), q9, q10, q11, q12, none] ∧ w.length = is.length ∧ ∀ M ∈ w, M.length ≤ 8 ∧ ∀ m ∈ M, DL.In o m) ⟨[], _, _, _, _, rfl, rfl, by simp⟩ ?_ ?_
      · rintro is i rs2 δ he2 ⟨w, q9, q10, q11, q12, rfl, lw, kw⟩
        have hi : i ∈ ir 0 2 := by rw [he2]; simp
        have hi := in_ir.mp hi
        have his : is.length < 2 := by
          have := congrArg List.length he2
          rw [List.length_append, List.length_cons, ir_length] at this; omega
        have m3 : oMul (.int 2) (.int k) = some (.int (2 * k)) := oMul_ok (mulOk_l ⟨by decide, by decide⟩)
        have m4 : oMul (.int (2 * k + i)) (.int ((o : Int) + 1)) = some (.int ((2 * k + i) * ((o : Int) + 1))) := oMul_ok (mulOk_r ⟨by omega, by omega⟩)
        obtain ⟨F, hF⟩ : ∃ F, F = (2 * k + i) * ((o : Int) + 1) := ⟨_, rfl⟩
        have F0 : 0 ≤ F := by rw [hF]; exact Int.mul_nonneg (by have := hk.1; have := hi.1; omega) (by omega)
        have F1 : F + o < 2 * N * ((o : Int) + 1) := by
          have hle : (2 * k + i) * ((o : Int) + 1) ≤ (2 * N - 1) * ((o : Int) + 1) := Int.mul_le_mul_of_nonneg_right (by have := hk.2; have := hi.2; omega) (by omega)
          have : (2 * (N : Int) - 1) * ((o : Int) + 1) = 2 * N * ((o : Int) + 1) - ((o : Int) + 1) := by rw [Int.sub_mul, Int.one_mul]
          omega
        have lr' : (r.length : Int) = 2 * N * ((o : Int) + 1) := by rw [lr, e1]
        rw [← hF] at m4
        have x1 := atI_ints r (F + o) (by omega) (by omega)
        obtain ⟨W, hW⟩ : ∃ W, W = at_ r (F + o) % 6 := ⟨_, rfl⟩
        have c1 := fun δ d5 d10 d13 => comp_filter (i := 13) (tt := eT (DL.e2 oEq (DL.e2 oMod (DL.e1 oInt (DL.e2 oIx (eVar 5) (DL.e2 oAdd (eVar 10) (eVar 13)))) (eC (.int 2))) (eC (.int 1)))) (te := eVar 13) (δ := δ) (p := fun x => decide (at_ r (F + x) % 2 = 1)) (ir 0 o) (fun x hx => by
          have d5 : δ[5]? = some (some (.val (.lst (nums r)))) := d5
          have d10 : δ[10]? = some (some (.val (.int F))) := d10
          have d13 : 13 < δ.length := d13
          have hx := in_ir.mp hx
          have := atI_ints r (F + x) (by have := hx.1; omega) (by have := hx.2; omega)
          simp [d5, d10, d13, this])
        have c1 := c1 [some (.val (.scr ns)), some (.val (.int a)), some (.val (bWs false true true ws)), some (.val (.lst ((DL.pairsOf ts).map encP))), some (.val (.int o)), some (.val (.lst (nums r))), some (.own (re.map (bW true true))), some (.val (.int k)), some (.own (w.map (bN true))), some (.val (.int i)), some (.val (.int F)), some (.val (.int W)), q12, none] (by simp) (by simp) (by simp)
        have bl := lawBelow_ok false true true false h (M := ir 0 o) (fun m hm => in_ir.mp hm) a1 a2 hi
        have bl : m__law_below [bWs false true true ws, .lst (nums (ir 0 o)), encP (pr_ ts k), .int i] = _ := bl
        have hz : (w.map (bN true)).length < 16777216 := by rw [List.length_map]; omega
        have hz := fun i δ d => appK_ok (i := i) (δ := δ) (d := d) hz
        have fin : ∀ M : List Int, M.length ≤ 8 → (∀ m ∈ M, DL.In o m) → (w ++ [M]).length = (is ++ [i]).length ∧ ∀ M' ∈ w ++ [M], M'.length ≤ 8 ∧ ∀ m ∈ M', DL.In o m := fun M h1 h2 => ⟨by simp [lw], fun M' hM' => by
          rcases List.mem_append.mp hM' with hM' | hM'
          · exact kw M' hM'
          · rw [List.mem_singleton.mp hM']; exact ⟨h1, h2⟩⟩
        have lf : ∀ g : Int → Bool, ((ir 0 o).filter g).length ≤ 8 := fun g => Nat.le_trans (List.length_filter_le _ _) (by rw [ir_length]; exact ho)
        simp only [List.set_cons_succ, List.set_cons_zero]
        simp [-ev_sIf, m3, m4, x1, ← hW, c1, rng_nat' (show o ≤ 16777216 by omega)]
        by_cases w0 : W = 0
        · simp [hz, w0]
          exact ⟨w ++ [[]], by rw [List.map_append]; rfl, by simp [lw], (fin [] (by simp) (by simp)).2⟩
        · by_cases w1 : W = 1
          · simp [hz, w1, rng_nat' (show o ≤ 16777216 by omega)]
            exact ⟨w ++ [ir 0 o], by rw [List.map_append]; rfl, by simp [lw], (fin (ir 0 o) (by rw [ir_length]; exact ho) (fun m hm => in_ir.mp hm)).2⟩
          · by_cases w2 : W = 2
            · simp [hz, w2, rng_nat' (show o ≤ 16777216 by omega), ik, bl]
              exact ⟨w ++ [below ws (ir 0 o) (pr_ ts k) i], by rw [List.map_append]; rfl, by simp [lw], (fin _ (lf _) (fun m hm => in_ir.mp (List.mem_filter.mp hm).1)).2⟩
            · simp [hz, w0, w1, w2]
              exact ⟨w ++ [(ir 0 o).filter fun x => decide (at_ r (F + x) % 2 = 1)], by rw [List.map_append]; rfl, by simp [lw], (fin _ (lf _) (fun m hm => in_ir.mp (List.mem_filter.mp hm).1)).2⟩
      · rintro δ ⟨w, q9, q10, q11, q12, rfl, lw, kw⟩
        have hz : (re.map (bW true true)).length < 16777216 := by rw [List.length_map, R.len]; omega
        have hz := fun i δ d => appK_ok (i := i) (δ := δ) (d := d) hz
        simp only [ev_sApp, ev_ownAt, List.getElem?_cons_succ, List.getElem?_cons_zero, ownAtK_own, ev_e1, ev_eVarB, varBK_own, b1_ok, oTuple_lst, lft_some, hz, List.set_cons_succ, List.set_cons_zero, Wp_ok, Nx_nx]
        refine ⟨re ++ [w], ⟨_, _, _, _, _, _, by rw [List.map_append]; rfl⟩, ⟨by simp [R.len], fun r' hr' => ?_⟩⟩
        rcases List.mem_append.mp hr' with hr' | hr'
        · exact R.row r' hr'
        · rw [List.mem_singleton.mp hr']
          exact ⟨by rw [lw, ir_length], kw⟩
    · rintro δ ⟨re, q7, q8, q9, q10, q11, q12, rfl, R⟩
      simp
      rw [ir_length] at R
      exact ⟨re, rfl, R⟩
  obtain ⟨_, e, re, rfl, R⟩ := key
  exact ⟨re, e, by rw [← hN]; exact R⟩
theorem asked_ok (ns : List Int) (a : Int) (n : Nat) (ha : 0 ≤ a) (hn1 : 1 ≤ n) (hn : n ≤ 24) :
    ∃ L : List (Int × Int), m__law_asked [.scr ns, .int a, .int n] = .ok (.lst (L.map encP)) ∧ ∀ x ∈ L, DL.In n x.1 ∧ DL.In n x.2 := by
  have key : ∃ d, m__law_asked [.scr ns, .int a, .int n] = .ok d ∧ ∃ L : List (Int × Int), d = .lst (L.map encP) ∧ ∀ x ∈ L, DL.In n x.1 ∧ DL.In n x.2 := by
    unfold m__law_asked
    rw [mirD_3]
    apply runK_ex
    unfold b__law_asked
    by_cases h6 : n < 6
    · simp [startD, show (n : Int) < 6 by omega, h6, rng_nat' (show n ≤ 16777216 by omega)]
      refine Wp_seq ?_
      refine Wp_accN D.int (ir 0 n) (fun ps δ => ∃ (L : List (Int × Int)) (q4 q5 : Option Cell), δ = [some (.val (.scr ns)), some (.val (.int a)), some (.val (.int n)), some (.own (L.map encP)), q4, q5, none, none] ∧ L.length ≤ ps.length * 5 ∧ ∀ x ∈ L, DL.In n x.1 ∧ DL.In n x.2) ⟨[], _, _, rfl, by simp, by simp⟩ ?_ ?_
      · rintro ps k rs δ he ⟨L, q4, q5, rfl, lL, kL⟩
        have hk : k ∈ ir 0 n := by rw [he]; simp
        have hk := in_ir.mp hk
        have hps : ps.length < n := by
          have := congrArg List.length he
          rw [List.length_append, List.length_cons, ir_length] at this; omega
        simp [rng_nat' (show n ≤ 16777216 by omega)]
        refine Wp_acc0N D.int (ir 0 n) (fun is δ => ∃ (L' : List (Int × Int)) (q5 : Option Cell), δ = [some (.val (.scr ns)), some (.val (.int a)), some (.val (.int n)), some (.own (L'.map encP)), some (.val (.int k)), q5, none, none] ∧ L'.length ≤ ps.length * 5 + is.length ∧ ∀ x ∈ L', DL.In n x.1 ∧ DL.In n x.2) ⟨L, _, rfl, by simpa using lL, kL⟩ ?_ ?_
        · rintro is i rs2 δ he2 ⟨L', q5, rfl, lL, kL⟩
          have hi : i ∈ ir 0 n := by rw [he2]; simp
          have hi := in_ir.mp hi
          have his : is.length < n := by
            have := congrArg List.length he2
            rw [List.length_append, List.length_cons, ir_length] at this; omega
          have hz : (L'.map encP).length < 16777216 := by rw [List.length_map]; omega
          have hz := fun i δ d => appK_ok (i := i) (δ := δ) (d := d) hz
          simp only [List.set_cons_succ, List.set_cons_zero, ev_sApp, ev_ownAt, List.getElem?_cons_succ, List.getElem?_cons_zero, ownAtK_own, ev_eTup, ev_eCons, ev_eVar, varK_val, ev_eNil, consK_ok, tupK2, hz, Wp_ok, Nx_nx]
          refine ⟨L' ++ [(k, i)], _, by rw [List.map_append]; rfl, by simp; omega, fun x hx => ?_⟩
          rcases List.mem_append.mp hx with hx | hx
          · exact kL x hx
          · rw [List.mem_singleton.mp hx]; exact ⟨hk, hi⟩
        · rintro δ ⟨L', q5, rfl, lL, kL⟩
          exact ⟨L', ⟨_, _, rfl⟩, by rw [ir_length] at lL; omega, fun x y hx => kL (x, y) hx⟩
      · rintro δ ⟨L, q4, q5, rfl, lL, kL⟩
        simp
        exact ⟨L, rfl, fun x y hx => kL (x, y) hx⟩
    · obtain ⟨r, er, lr, br⟩ := row_ok ns a 5040 24 ha (by decide) (by decide) (by decide)
      have er : m__law_row [.scr ns, .int a, .int 24, .int 5040] = .ok (.lst (nums r)) := er
      have r12 : rng 0 12 = .ok (nums (ir 0 12)) := rng_nat' (n := 12) (by omega)
      have c1 := fun δ d2 d6 d7 => comp_all (i := 7) (te := (eTup (eCons (DL.e2 oMod (DL.e1 oInt (DL.e2 oIx (eVar 6) (DL.e2 oMul (eC (.int 2)) (eVar 7)))) (eVar 2)) (eCons (DL.e2 oMod (DL.e1 oInt (DL.e2 oIx (eVar 6) (DL.e2 oAdd (DL.e2 oMul (eC (.int 2)) (eVar 7)) (eC (.int 1))))) (eVar 2)) eNil)))) (δ := δ) D.int (fun k => encP (at_ r (2 * k) % n, at_ r (2 * k + 1) % n)) (ir 0 12) (fun k hk => by
        have d2 : δ[2]? = some (some (.val (.int n))) := d2
        have d6 : δ[6]? = some (some (.val (.lst (nums r)))) := d6
        have d7 : 7 < δ.length := d7
        have hk := in_ir.mp hk
        have m1 : oMul (.int 2) (.int k) = some (.int (2 * k)) := oMul_ok (mulOk_l ⟨by decide, by decide⟩)
        have x1 := atI_ints r (2 * k) (by have := hk.1; omega) (by have := hk.2; omega)
        have x2 := atI_ints r (2 * k + 1) (by have := hk.1; omega) (by have := hk.2; omega)
        simp [d2, d6, d7, m1, x1, x2, oMod_int _ (n : Int) (by omega)])
      have c1 := c1 [some (.val (.scr ns)), some (.val (.int a)), some (.val (.int n)), some (.own []), none, none, some (.val (.lst (nums r))), none] (by simp) (by simp) (by simp)
      have c1 : compD (bdN 7) tYesD _ _ (nums (ir 0 12)) = _ := c1
      simp [startD, show ¬ (n : Int) < 6 by omega, h6, er, r12, c1]
      refine ⟨(ir 0 12).map fun k => (at_ r (2 * k) % n, at_ r (2 * k + 1) % n), by rw [List.map_map]; rfl, fun x y hx => ?_⟩
      obtain ⟨k, _, e⟩ := List.mem_map.mp hx
      cases e
      exact ⟨⟨Int.emod_nonneg _ (by omega), Int.emod_lt_of_pos _ (by omega)⟩, ⟨Int.emod_nonneg _ (by omega), Int.emod_lt_of_pos _ (by omega)⟩⟩
  obtain ⟨_, e, L, rfl, h⟩ := key
  exact ⟨L, e, h⟩
theorem rightSets_ok (h : ROk 2 o ws ts) {n : Nat} {re : List (List (List Int))} (R : Rch o n re) (al : List Int) {L : List (Int × Int)} (hL : ∀ x ∈ L, DL.In n x.1 ∧ DL.In n x.2) :
    m__law_right_sets [ruleD 2 o ws ts, bookD al re, bWs false true true ws, bW false true ts, bWs true true true re, .lst (L.map encP)] = .ok (.bl true) := by
  unfold m__law_right_sets
  rw [mirD_6]
  apply runK_wp
  unfold b__law_right_sets
  have z0 : DL.In 2 0 := ⟨by decide, by decide⟩
  have z1 : DL.In 2 1 := ⟨by decide, by decide⟩
  simp [startD]
  refine Wp_accN encP L (fun _ δ => ∃ q6 q7, δ = [some (.val (ruleD 2 o ws ts)), some (.val (bookD al re)), some (.val (bWs false true true ws)), some (.val (bW false true ts)), some (.val (bWs true true true re)), some (.val (.lst (L.map encP))), q6, q7]) ⟨_, _, rfl⟩ ?_ ?_
  · rintro ps x rs δ he ⟨q6, q7, rfl⟩
    obtain ⟨h1, h2⟩ := hL x (by rw [he]; simp)
    have g1 := ix_re R.re h1 true true
    have g2 := ix_re R.re h2 true true
    have g3 := ix_rs R.re h1 z0 true
    have g4 := ix_rs R.re h2 z1 true
    have k1 := R.row _ (nth_mem re x.1 [] h1.1 (by rw [R.len]; exact h1.2))
    have k2 := R.row _ (nth_mem re x.2 [] h2.1 (by rw [R.len]; exact h2.2))
    have l1 := (k1.2 _ (nth_mem (nth re x.1 []) 0 [] (by decide) (by rw [k1.1]; decide))).1
    have md := mids_ok (al := al) h rfl R.re h1 h2
    have ml := lawMiddles_ok false true true false true true h rfl (R.re.inn h1 z0) (R.re.inn h2 z1) (Nat.le_trans l1 (by decide))
    have md : m_middles [ruleD 2 o ws ts, bookD al re, .int x.1, .int x.2] = _ := md
    have ml : m__law_middles [bWs false true true ws, bW false true ts, bN true (rs_ re x.1 0), bN true (rs_ re x.2 1)] = _ := ml
    have lm : (mids ws ts (rs_ re x.1 0) (rs_ re x.2 1)).length ≤ 16777216 := by
      have := List.length_filter_le (fun y => decide (y ∈ rs_ re x.2 1) && isMid ws ts y (rs_ re x.1 0) (rs_ re x.2 1)) (rs_ re x.1 0)
      unfold mids
      have l1 : (rs_ re x.1 0).length ≤ 8 := l1
      omega
    have sm := same_sm (n := 1) (a := bN true (mids ws ts (rs_ re x.1 0) (rs_ re x.2 1))) (b := bN false (mids ws ts (rs_ re x.1 0) (rs_ re x.2 1))) (Sm.tl lm) (by decide)
    have ei0 := atI2_0 (.int x.1) (.int x.2)
    have ei1 := atI2_1 (.int x.1) (.int x.2)
    simp [g1, g2, g3, g4, ml, md, sm, ei0, ei1]
  · rintro δ ⟨q6, q7, rfl⟩
    simp
end
end K17

namespace K17
open PySem PySem.Spec PyProof.Rows L2 DL
/-! ### trees -/
abbrev tM (M : List Int) : D := mtl (nums M)
def tr (re : List (List (List Int))) : List D := re.map fun r => mtl (r.map tM)
theorem plTs_map {α : Type} (f : α → D) (h : ∀ x, plT (f x) = true) : ∀ l : List α, plTs (l.map f) = true
  | [] => rfl
  | a :: l => by show (plT (f a) && plTs (l.map f)) = true; rw [h a, plTs_map f h l]; rfl
theorem unMs_map {α : Type} (f g : α → D) (h : ∀ x, unM (f x) = g x) : ∀ l : List α, unMs (l.map f) = l.map g
  | [] => rfl
  | a :: l => by show unM (f a) :: unMs (l.map f) = _; rw [h a, unMs_map f g h l]; rfl
theorem plT_mtl (ds : List D) : plT (mtl ds) = plTs ds := by unfold mtl plT; rw [if_pos ⟨rfl, rfl⟩]; unfold plTm; rfl
theorem unM_mtl (ds : List D) : unM (mtl ds) = .lst (unMs ds) := by unfold mtl unM; rw [if_pos ⟨rfl, rfl⟩]; unfold unMm; rfl
theorem plT_M (M : List Int) : plT (tM M) = true := by rw [plT_mtl]; exact plTs_map _ (fun _ => rfl) M
theorem unM_M (M : List Int) : unM (tM M) = bN false M := by
  rw [unM_mtl]
  have := unMs_map D.int D.int (fun _ => by unfold unM; rfl) M
  show D.lst _ = .lst _
  rw [show nums M = M.map D.int from rfl, this]
theorem pl_tr (re : List (List (List Int))) : plTs (tr re) = true := plTs_map _ (fun r => by rw [plT_mtl]; exact plTs_map tM plT_M r) re
theorem un_tr (re : List (List (List Int))) : unMs (tr re) = re.map (bW false false) := unMs_map _ _ (fun r => by rw [unM_mtl, unMs_map tM (bN false) unM_M]; rfl) re
theorem noLs_map {α : Type} (f : α → D) (h : ∀ x, noL (f x) = true) : ∀ l : List α, noLs (l.map f) = true
  | [] => rfl
  | a :: l => by show (noL (f a) && noLs (l.map f)) = true; rw [h a, noLs_map f h l]; rfl
theorem noL_tup (ds : List D) : noL (.tup ds) = noLs ds := by unfold noL; rfl
theorem noL_N (M : List Int) : noL (bN true M) = true := by rw [show bN true M = .tup (nums M) from rfl, noL_tup]; exact noLs_map D.int (fun _ => by unfold noL; rfl) M
theorem noL_book (al : List Int) (re : List (List (List Int))) : noL (bookD al re) = true := by
  unfold noL
  show (noL (bN true al) && (noL (bWs true true true re) && noLs [])) = true
  rw [noL_N]
  have : noL (bWs true true true re) = true := by
    rw [show bWs true true true re = .tup (re.map (bW true true)) from rfl, noL_tup]
    exact noLs_map _ (fun r => by
      rw [show bW true true r = .tup (r.map (bN true)) from rfl, noL_tup]
      exact noLs_map _ noL_N r) re
  rw [this]; rfl
theorem hasMs_cons (d : D) (ds : List D) : hasMs (d :: ds) = (hasM d || hasMs ds) := by rw [hasMs]
theorem hasM_mtl (ds : List D) : hasM (mtl ds) = true := by unfold mtl hasM; rfl
theorem cell_tr {r : List (List Int)} {re : List (List (List Int))} : cellX (mtl (tr (r :: re))) = some (.tre (tr (r :: re))) := by
  show some (if hasMs (tr (r :: re)) then Cell.tre _ else .own _) = _
  rw [show tr (r :: re) = mtl (r.map tM) :: tr re from rfl, hasMs_cons, hasM_mtl]; rfl
theorem tre_ok {δ : DEnv} {i : Nat} {ds : List D} (h : δ[i]? = some (some (.tre ds))) : treAt i δ = some ds := by unfold treAt; rw [h]
theorem getP_nil (ds : List D) : getP ds [] = some ds := by unfold getP; rfl
theorem getP_hit {ds es : List D} {n : Nat} {p : List Nat} (h : ds[n]? = some (mtl es)) : getP ds (n :: p) = getP es p := by
  show (match ds[n]? with
    | some (.obj "" [] (.non :: es)) => getP es p
    | _ => none) = _
  rw [h]; rfl
theorem setP_nil (ds new : List D) : setP ds [] new = new := by unfold setP; rfl
theorem root_ok {δ : DEnv} {i : Nat} {ds : List D} (h : δ[i]? = some (some (.tre ds))) : pRoot i δ = .ok [] := by unfold pRoot; rw [tre_ok h]; rfl
theorem pIx_ok {δ : DEnv} {i n : Nat} {pe : EvP} {k : Ev} {q : List Nat} {ds es fs : List D} {j : Int} (hp : pe δ = .ok q) (h : δ[i]? = some (some (.tre ds))) (hg : getP ds q = some es) (hk : k δ = .ok (.int j)) (hn : ixN es.length j = some n) (he : es[n]? = some (mtl fs)) : pIx i pe k δ = .ok (q ++ [n]) := by
  unfold pIx
  rw [hp, ok_bind, tre_ok h, lft_some, ok_bind, hg, lft_some, ok_bind, hk, ok_bind]
  show (lft (ixN es.length j) >>= _) = _
  rw [hn, lft_some, ok_bind, getP_snoc hg he]
  rfl
theorem appP_ok {δ : DEnv} {i : Nat} {pe : EvP} {e : Ev} {q : List Nat} {ds es : List D} {d : D} (hp : pe δ = .ok q) (h : δ[i]? = some (some (.tre ds))) (hg : getP ds q = some es) (hd : e δ = .ok d) (hl : es.length < 16777216) : sAppP i pe e δ = .ok (.nx (δ.set i (some (.tre (setP ds q (es ++ [d])))))) := by
  unfold sAppP
  rw [hp, ok_bind, tre_ok h, lft_some, ok_bind, hg, lft_some, ok_bind, hd, ok_bind, if_pos (show es.length < sizeLine from hl)]
theorem ixN_zero (n : Nat) : ixN (n + 1) 0 = some 0 := by unfold ixN; rw [if_pos (by decide), if_pos (by omega)]; rfl
theorem app_root {δ : DEnv} {i : Nat} {ds : List D} {e : Ev} {d : D} (h : δ[i]? = some (some (.tre ds))) (hd : e δ = .ok d) (hl : ds.length < 16777216) : sAppP i (pRoot i) e δ = .ok (.nx (δ.set i (some (.tre (ds ++ [d]))))) := by
  rw [appP_ok (root_ok h) h (getP_nil ds) hd hl, setP_nil]
theorem ix_one {δ : DEnv} {i : Nat} {L R : List D} (h : δ[i]? = some (some (.tre (mtl L :: R)))) : pIx i (pRoot i) (eC (.int 0)) δ = .ok [0] :=
  pIx_ok (q := []) (root_ok h) h (getP_nil _) rfl (ixN_zero _) rfl
theorem app_one {δ : DEnv} {i : Nat} {L R : List D} {e : Ev} {d : D} (h : δ[i]? = some (some (.tre (mtl L :: R)))) (hd : e δ = .ok d) (hl : L.length < 16777216) : sAppP i (pIx i (pRoot i) (eC (.int 0))) e δ = .ok (.nx (δ.set i (some (.tre (mtl (L ++ [d]) :: R))))) := by
  have g : getP (mtl L :: R) [0] = some L := by rw [getP_hit rfl, getP_nil]
  rw [appP_ok (ix_one h) h g hd hl, setP_cons rfl, setP_nil]
  rfl
theorem app_two {δ : DEnv} {i : Nat} {L R T : List D} {e : Ev} {d : D} (h : δ[i]? = some (some (.tre (mtl (mtl L :: R) :: T)))) (hd : e δ = .ok d) (hl : L.length < 16777216) : sAppP i (pIx i (pIx i (pRoot i) (eC (.int 0))) (eC (.int 0))) e δ = .ok (.nx (δ.set i (some (.tre (mtl (mtl (L ++ [d]) :: R) :: T))))) := by
  have g1 : getP (mtl (mtl L :: R) :: T) [0] = some (mtl L :: R) := by rw [getP_hit rfl, getP_nil]
  have g : getP (mtl (mtl L :: R) :: T) [0, 0] = some L := by rw [getP_hit rfl, getP_hit rfl, getP_nil]
  rw [appP_ok (pIx_ok (q := [0]) (ix_one h) h g1 rfl (ixN_zero _) rfl) h g hd hl]
  rw [show ([0] : List Nat) ++ [0] = [0, 0] from rfl, setP_cons rfl, setP_cons rfl, setP_nil]
  rfl
theorem lend_ok {δ : DEnv} {i : Nat} {ds : List D} {e : Ev} {d : D} (h : δ[i]? = some (some (.tre ds))) (hp : plTs ds = true) (he : e (δ.set i (some (.val (.lst (unMs ds))))) = .ok d) (hn : noL d = true) : eLend i e δ = .ok d := by
  unfold eLend lendAt
  rw [h]
  show (if plTs ds then _ else stk) = _
  rw [if_pos hp, he, noX_ok, ok_bind, if_pos hn]
def mtK (m : M (List D)) : M D := m >>= fun ds => .ok (mtl ds)
@[simp] theorem ev_eMt (f : EvA) (δ : DEnv) : eMt f δ = mtK (f δ) := id rfl
@[simp] theorem mtK_ok (ds : List D) : mtK (.ok ds) = .ok (mtl ds) := id rfl
def setXK (i : Nat) (δ : DEnv) (m : M D) : M Fl := m >>= fun d => lft (cellX d) >>= fun c => .ok (.nx (δ.set i (some c)))
@[simp] theorem ev_sSetX (i : Nat) (a : Ev) (δ : DEnv) : sSetX i a δ = setXK i δ (a δ) := id rfl
theorem setXK_ok {i : Nat} {δ : DEnv} {d : D} {c : Cell} (h : cellX d = some c) : setXK i δ (.ok d) = .ok (.nx (δ.set i (some c))) := by
  show (lft (cellX d) >>= _) = _
  rw [h]; rfl
end K17

namespace K17
open PySem PySem.Spec PyProof.Rows L2 DL
theorem rot_mem {α : Type} {l : List α} {x : α} (h : x ∈ l.drop 1 ++ l.take 1) : x ∈ l := by
  rcases List.mem_append.mp h with h | h
  · exact List.mem_of_mem_drop h
  · exact List.mem_of_mem_take h
theorem rot_len {α : Type} (l : List α) : (l.drop 1 ++ l.take 1).length = l.length := by
  rw [List.length_append, List.length_drop, List.length_take]; omega
theorem rot_rok {o : Nat} {ws : List (List (List Int))} {ts : List (List Int)} (h : ROk 2 o ws ts) : ROk 2 o ws (ts.drop 1 ++ ts.take 1) :=
  .of h.p1 h.p2 h.o1 h.o2 h.w1 h.w2 h.w ⟨by rw [rot_len]; exact h.tl, fun t ht => h.t t (rot_mem ht), by
    have e := h.pr
    rw [pairsOf_length] at e
    have s : ((ts.drop 1 ++ ts.take 1).map List.length).sum = (ts.map List.length).sum := by
      conv => rhs; rw [← List.take_append_drop 1 ts]
      rw [List.map_append, List.map_append, List.sum_append, List.sum_append]
      omega
    omega⟩
def swapW (w : List (List Int)) : List (List Int) := [nth w 1 [], nth w 0 []]
theorem swap_rok {o : Nat} {ws : List (List (List Int))} {ts : List (List Int)} (h : ROk 2 o ws ts) : ROk 2 o ((ws.drop 1 ++ ws.take 1).map swapW) ts :=
  ⟨h.p1, h.p2, h.o1, h.o2, by rw [List.length_map, rot_len]; exact h.w1, by rw [List.length_map, rot_len]; exact h.w2, fun x hx => by
    obtain ⟨w, hw, rfl⟩ := List.mem_map.mp hx
    have k := h.w w (rot_mem hw)
    refine ⟨rfl, fun l hl => ?_⟩
    simp only [swapW, List.mem_cons, List.not_mem_nil, or_false] at hl
    rcases hl with rfl | rfl
    · exact k.2 _ (nth_mem w 1 [] (by decide) (by rw [k.1]; decide))
    · exact k.2 _ (nth_mem w 0 [] (by decide) (by rw [k.1]; decide)), by rw [List.length_map, rot_len]; exact h.tl, h.t, h.pr⟩
abbrev Ls : List Int := [2, 3, 4, 1, 3, 2, 3, 4]
theorem law_true (ns : List Int) (hl : ns.length ≤ 63) : m_law [.scr ns] = .ok (.bl true) := by
  obtain ⟨r, er, lr, br⟩ := row_ok ns 0 5040 5 (by decide) (by decide) (by decide) (by decide)
  have er : m__law_row [.scr ns, .int 0, .int 5, .int 5040] = .ok (.lst (nums r)) := er
  have ix := fun i h0 h1 => atI_ints r i h0 (h1 : i < r.length)
  have md : ∀ (x : Int) (k : Nat), 0 < k → 0 ≤ x % k ∧ x % k < k := fun x k hk => ⟨Int.emod_nonneg _ (by omega), Int.emod_lt_of_pos _ (by omega)⟩
  have i0 := ix 0 (by decide) (by rw [lr]; decide)
  have i1 := ix 1 (by decide) (by rw [lr]; decide)
  have i2 := ix 2 (by decide) (by rw [lr]; decide)
  have i3 := ix 3 (by decide) (by rw [lr]; decide)
  have i4 := ix 4 (by decide) (by rw [lr]; decide)
  have m8 := md (at_ r 0) 8 (by decide)
  have m3 := md (at_ r 1) 3 (by decide)
  have m8' := md (at_ r 1) 8 (by decide)
  have il := atI_ints Ls (at_ r 0 % 8) m8.1 m8.2
  have bl : 1 ≤ at_ Ls (at_ r 0 % 8) ∧ at_ Ls (at_ r 0 % 8) ≤ 4 := by
    have hm := at_mem (l := Ls) (i := at_ r 0 % 8) ⟨m8.1, m8.2⟩
    have : ∀ x ∈ Ls, 1 ≤ x ∧ x ≤ 4 := by decide
    exact this _ hm
  obtain ⟨O0, hO0⟩ : ∃ P : Nat, (P : Int) = at_ Ls (at_ r 0 % 8) := ⟨(at_ Ls (at_ r 0 % 8)).toNat, by omega⟩
  obtain ⟨C0, hC0⟩ : ∃ P : Nat, (P : Int) = 1 + at_ r 1 % 3 := ⟨(1 + at_ r 1 % 3).toNat, by omega⟩
  rw [← hO0] at il bl
  have il : L2.atI [D.int 2, .int 3, .int 4, .int 1, .int 3, .int 2, .int 3, .int 4] (at_ r 0 % 8) = some (.int O0) := il
  have l8 : ∀ a b c d e f g h : D, lstK (.ok [a, b, c, d, e, f, g, h]) = .ok (.lst [a, b, c, d, e, f, g, h]) := fun a b c d e f g h => lstK_ok (by simp)
  have s1 : ∃ O C : Nat, (1 ≤ O ∧ O ≤ 8) ∧ (1 ≤ C ∧ C ≤ 8) ∧
      sIf (eT (DL.e2 oEq (DL.e2 oMod (DL.e1 oInt (DL.e2 oIx (eVar 1) (eC (.int 2)))) (eC (.int 6))) (eC (.int 5)))) (sSeq (sSet 2 (DL.e2 oAdd (eC (.int 1)) (DL.e2 oMod (DL.e1 oInt (DL.e2 oIx (eVar 1) (eC (.int 0)))) (eC (.int 8)))))
    (sSet 3 (DL.e2 oAdd (eC (.int 1)) (DL.e2 oMod (DL.e1 oInt (DL.e2 oIx (eVar 1) (eC (.int 1)))) (eC (.int 8)))))) sNil [some (.val (.scr ns)), some (.val (.lst (nums r))), some (.val (.int O0)), some (.val (.int C0)), none, none, none, none, none, none, none, none, none, none, none, none, none, none, none, none, none, none]
      = .ok (.nx [some (.val (.scr ns)), some (.val (.lst (nums r))), some (.val (.int O)), some (.val (.int C)), none, none, none, none, none, none, none, none, none, none, none, none, none, none, none, none, none, none]) := by
    by_cases hc : at_ r 2 % 6 = 5
    · obtain ⟨O, hO⟩ : ∃ O : Nat, (O : Int) = 1 + at_ r 0 % 8 := ⟨(1 + at_ r 0 % 8).toNat, by omega⟩
      obtain ⟨C, hC⟩ : ∃ O : Nat, (O : Int) = 1 + at_ r 1 % 8 := ⟨(1 + at_ r 1 % 8).toNat, by omega⟩
      refine ⟨O, C, by omega, by omega, ?_⟩
      simp [i2, hc, i0, i1, ← hO, ← hC]
    · refine ⟨O0, C0, by omega, by omega, ?_⟩
      simp [i2, hc]
  obtain ⟨O, C, hO, hC, s1⟩ := s1
  -- the worlds
  obtain ⟨W, hW⟩ : ∃ W : Int → List (List Int), ∀ k : Int, 0 ≤ k → m__law_world [.scr ns, .int (1 + k), .int 2, .int O] = .ok (bW true true (W k)) ∧ WOk 2 O (W k) := by
    have hk : ∀ k : Int, ∃ w, 0 ≤ k → m__law_world [.scr ns, .int (1 + k), .int 2, .int O] = .ok (bW true true w) ∧ WOk 2 O w := fun k => by
      by_cases hk : 0 ≤ k
      · obtain ⟨w, e, kw⟩ := world_ok ns (1 + k) 2 O (by omega) (by omega) hO.1 hO.2
        exact ⟨w, fun _ => ⟨e, kw⟩⟩
      · exact ⟨[], fun z => absurd z hk⟩
    exact ⟨fun k => (hk k).choose, fun k => (hk k).choose_spec⟩
  obtain ⟨ws, hws⟩ : ∃ vs, vs = (ir 0 C).map W := ⟨_, rfl⟩
  have lws : ws.length = C := by rw [hws, List.length_map, ir_length]
  have kws : ∀ w ∈ ws, WOk 2 O w := fun w hw => by
    rw [hws] at hw
    obtain ⟨k, hk, rfl⟩ := List.mem_map.mp hw
    exact (hW k (mem_ir.mp hk).1).2
  have cw := fun δ d0 d2 d6 => comp_all (i := 5) (te := (eCall 4 m__law_world (eCons (eVar 0) (eCons (DL.e2 oAdd (eC (.int 1)) (eVar 5)) (eCons (eC (.int 2)) (eCons (eVar 2) eNil)))))) (δ := δ) D.int (fun k => bW true true (W k)) (ir 0 C) (fun k hk => by
    have d0 : δ[0]? = some (some (.val (.scr ns))) := d0
    have d2 : δ[2]? = some (some (.val (.int O))) := d2
    have d6 : 5 < δ.length := d6
    have := (hW k (mem_ir.mp hk).1).1
    simp [d0, d2, d6, this])
  have evs : ((ir 0 C).map fun k => bW true true (W k)) = ws.map (bW true true) := by rw [hws, List.map_map]; rfl
  have cw' := cw [some (.val (.scr ns)), some (.val (.lst (nums r))), some (.val (.int O)), some (.val (.int C)), none, none, none, none, none, none, none, none, none, none, none, none, none, none, none, none, none, none] (by simp) (by simp) (by simp)
  rw [evs] at cw'
  have cw' : compD (bdN 5) tYesD _ _ (nums (ir 0 C)) = _ := cw'
  have hl0 : D.lst (ws.map (bW true true)) = bWs false true true ws := rfl
  obtain ⟨ts, ets, lts, kts, sts⟩ := told_ok ns 9 (at_ r 3 % 4) 2 O false ws (by decide) (by omega) (by omega) hO.1 hO.2 kws
  have ets : m__law_told [.scr ns, .int 9, bWs false true true ws, .int O, .int (at_ r 3 % 4)] = .ok (bW false true ts) := ets
  have h : ROk 2 O ws ts := .of (by decide) (by decide) hO.1 hO.2 (by omega) (by omega) kws ⟨lts, kts, sts⟩
  have pr := h.pr
  have lpr : m__law_pairs [bW false true ts] = .ok (.lst ((DL.pairsOf ts).map encP)) := pairs_ok false true ts (by omega) (by omega)
  have pp : 1 ≤ (DL.pairsOf ts).length := by
    have i0 : DL.In ts.length 0 := ⟨by decide, by omega⟩
    have ne := (h.t _ (nth_mem ts 0 [] i0.1 i0.2)).ne
    rw [pairsOf_length]
    cases ts with
    | nil => simp at lts; omega
    | cons t ts =>
      have : t ≠ [] := ne
      have := List.length_pos_iff.mpr this
      simp; omega
  have mk := fun (a b c d e : Bool) (vs : List (List (List Int))) (us : List (List Int)) (g : ROk 2 O vs us) => ruleInit_ok a b c d e 2 O vs us (fun _ => stk) (fun _ => stk) (fun _ => stk) (fun _ => stk) (fun _ => stk) (fun _ => stk) (fun _ => stk) g
  have K1 : ∀ (vs : List (List (List Int))) (us : List (List Int)), ROk 2 O vs us → makeK "Rule" 4 m_Rule___init__ (.ok [.int 2, .int O, bWs false true true vs, bW false true us]) = .ok (ruleD 2 O vs us) := fun vs us g => makeK_ok rfl (mk false true true false true vs us g)
  obtain ⟨r1, er1, R1⟩ := reaches_ok h ns 17 (by decide)
  obtain ⟨r2, er2, R2⟩ := reaches_ok h ns 18 (by decide)
  have k4 : 0 ≤ at_ r 4 % ((O : Int) + 1) ∧ at_ r 4 % ((O : Int) + 1) < (O : Int) + 1 := ⟨Int.emod_nonneg _ (by omega), Int.emod_lt_of_pos _ (by omega)⟩
  obtain ⟨A, hA⟩ : ∃ A : Nat, (A : Int) = at_ r 4 % (O + 1) := ⟨(at_ r 4 % (O + 1)).toNat, by omega⟩
  have rA : rng 0 (at_ r 4 % (O + 1)) = .ok (nums (ir 0 A)) := by rw [← hA]; exact rng_nat' (by omega)
  have cA := fun δ d12 => comp_map (i := 12) (te := eVar 12) (δ := δ) (ir 0 A) id (fun x hx => by
    have d12 : 12 < δ.length := d12
    simp [d12])
  -- the lists that are handed in
  obtain ⟨x0, R0, T0, e1⟩ : ∃ x0 R0 T0, r1 = (x0 :: R0) :: T0 := by
    have l1 := R1.len
    cases r1 with
    | nil => simp at l1; omega
    | cons w T =>
      have lw := (R1.row w List.mem_cons_self).1
      cases w with
      | nil => simp at lw
      | cons x R => exact ⟨x, R, T, rfl⟩
  have lx0 : x0.length ≤ 8 := ((R1.row _ (by rw [e1]; exact List.mem_cons_self)).2 x0 List.mem_cons_self).1
  have lR0 : R0.length = 1 := by
    have := (R1.row (x0 :: R0) (by rw [e1]; exact List.mem_cons_self)).1
    simpa using this
  have lT0 : T0.length ≤ 24 := by
    have := R1.len
    rw [e1] at this
    simp at this; omega
  have cx := fun δ d14 d15 => comp_all (i := 15) (te := eMt (fComp (eIter (eVar 15)) [14] (bdN 14) tYesD (eMt (fList (eVar 14))))) (δ := δ) (bW true true) (fun w => mtl (w.map tM)) r1 (fun w hw => by
    have d14 : 14 < δ.length := d14
    have d15 : 15 < δ.length := d15
    have c := fun δ' e14 => comp_all (i := 14) (te := eMt (fList (eVar 14))) (δ := δ') (bN true) tM w (fun M hM => by
      have e14 : 14 < δ'.length := e14
      simp [e14])
    have c := c ((δ.set 15 (some (.val (bW true true w)))).set 14 none) (by simp; omega)
    have c : compD (bdN 14) tYesD (eMt (fList (eVar 14))) _ _ = _ := c
    simp only [ev_eMt, ev_fComp, ev_eIter, ev_eVar, List.getElem?_set_self d15, varK_val, iter_box, compK_ok, wipeD_cons, wipeD_nil]
    rw [c]
    simp)
  obtain ⟨q, lq, hq⟩ := asked_ok ns 19 (DL.pairsOf ts).length (by decide) pp (by omega)
  have bm : ∀ re : List (List (List Int)), makeK "Book" 2 m_Book___init__ (.ok [.lst (nums (ir 0 A)), .lst (re.map (bW false false))]) = .ok (bookD (ir 0 A) re) := fun re => book_make false false false false (ir 0 A) re
  have bm2 : ∀ re : List (List (List Int)), makeK "Book" 2 m_Book___init__ (.ok [.tup (nums (ir 0 A)), bWs true true true re]) = .ok (bookD (ir 0 A) re) := fun re => book_make true true true true (ir 0 A) re
  have ws3 : ∀ re : List (List (List Int)), Rch O (DL.pairsOf ts).length re → Pl 3 (bWs true true true re) := fun re R => pl_ws (by rw [R.len]; omega) (fun r hr => ⟨by rw [(R.row r hr).1]; decide, fun M hM => by have := ((R.row r hr).2 M hM).1; omega⟩)
  have q1 := same_ok (ws3 r1 R1) (by decide)
  have q2 := same_ok (ws3 r2 R2) (by decide)
  have q0 : m__law_same [bN true (ir 0 A), .lst (nums (ir 0 A))] = .ok (.bl true) := same_sm (n := 1) (Sm.tl (by rw [ir_length]; omega)) (by decide)
  have s1' := rightSets_ok h R1 (ir 0 A) hq
  have s2' := rightSets_ok h R2 (ir 0 A) hq
  have hs := swap_rok h
  have s3' := rightSets_ok hs R1 (ir 0 A) hq
  have hr := rot_rok h
  have s4' := rightSets_ok hr R1 (ir 0 A) hq
  have c7 : ∀ (m : Mir) (a b c d e f : D), callK 6 m (.ok [a, b, c, d, e, f]) = m [a, b, c, d, e, f] := fun _ _ _ _ _ _ _ => rfl
  have ad1 : oAdd (box false (cutD (ws.map (bW true true)) (some 1) none)) (box false (cutD (ws.map (bW true true)) none (some 1))) = some (bWs false true true (ws.drop 1 ++ ws.take 1)) := by
    rw [cutD_lo _ _ (by decide), cutD_hi _ _ (by decide)]
    show oAdd (.lst _) (.lst _) = some (.lst _)
    rw [oAdd_lst (by simp; omega)]
    show some (D.lst ((ws.map (bW true true)).drop 1 ++ (ws.map (bW true true)).take 1)) = _
    rw [← List.map_drop, ← List.map_take, ← List.map_append]
  have ad2 : oAdd (box false (cutD (ts.map (bN true)) (some 1) none)) (box false (cutD (ts.map (bN true)) none (some 1))) = some (bW false true (ts.drop 1 ++ ts.take 1)) := by
    rw [cutD_lo _ _ (by decide), cutD_hi _ _ (by decide)]
    show oAdd (.lst _) (.lst _) = some (.lst _)
    rw [oAdd_lst (by simp; omega)]
    show some (D.lst ((ts.map (bN true)).drop 1 ++ (ts.map (bN true)).take 1)) = _
    rw [← List.map_drop, ← List.map_take, ← List.map_append]
  have ct := fun δ d20 => comp_all (i := 20) (te := eTup (eCons (DL.e2 oIx (eVar 20) (eC (.int 1))) (eCons (DL.e2 oIx (eVar 20) (eC (.int 0))) eNil))) (δ := δ) (bW true true) (fun w => bW true true (swapW w)) (ws.drop 1 ++ ws.take 1) (fun w hw => by
    have d20 : 20 < δ.length := d20
    have k := kws w (rot_mem hw)
    have x1 := atI_en (bN true) w 1 [] (by decide) (by rw [k.1]; decide)
    have x0 := atI_en (bN true) w 0 [] (by decide) (by rw [k.1]; decide)
    simp [d20, x1, x0]
    rfl)
  have et : (ws.drop 1 ++ ws.take 1).map (fun w => bW true true (swapW w)) = ((ws.drop 1 ++ ws.take 1).map swapW).map (bW true true) := by rw [List.map_map]; rfl
  obtain ⟨tw, htw⟩ : ∃ tw, tw = (ws.drop 1 ++ ws.take 1).map swapW := ⟨_, rfl⟩
  rw [← htw] at et hs s3'
  obtain ⟨us, hus⟩ : ∃ us, us = ts.drop 1 ++ ts.take 1 := ⟨_, rfl⟩
  rw [← hus] at ad2 hr s4'
  unfold m_law b_law
  rw [mirD_1]
  apply runK_wp
  rw [show startD 22 [.scr ns] = [some (.val (.scr ns)), none, none, none, none, none, none, none, none, none, none, none, none, none, none, none, none, none, none, none, none, none] from rfl]
  have hb : ∀ w : List (List (List Int)), D.lst (w.map (bW true true)) = bWs false true true w := fun _ => rfl
  have cA' := cA [some (.val (.scr ns)), some (.val (.lst (nums r))), some (.val (.int O)), some (.val (.int C)), some (.val (bWs false true true ws)), none, some (.val (bW false true ts)), some (.val (.lst ((DL.pairsOf ts).map encP))), some (.val (ruleD 2 O ws ts)), some (.val (bWs true true true r1)), some (.val (bWs true true true r2)), none, none, none, none, none, none, none, none, none, none, none] (by simp)
  rw [List.map_id] at cA'
  have cx' := cx [some (.val (.scr ns)), some (.val (.lst (nums r))), some (.val (.int O)), some (.val (.int C)), some (.val (bWs false true true ws)), none, some (.val (bW false true ts)), some (.val (.lst ((DL.pairsOf ts).map encP))), some (.val (ruleD 2 O ws ts)), some (.val (bWs true true true r1)), some (.val (bWs true true true r2)), some (.val (.lst (nums (ir 0 A)))), none, none, none, none, none, none, none, none, none, none] (by simp) (by simp)
  have cx' : compD (bdN 15) tYesD _ _ _ = .ok (tr r1) := cx'
  have ctr : cellX (mtl (tr r1)) = some (.tre (tr r1)) := by rw [e1]; exact cell_tr
  have eM : eMt (fComp (eIter (eVar 9)) [15] (bdN 15) tYesD (eMt (fComp (eIter (eVar 15)) [14] (bdN 14) tYesD (eMt (fList (eVar 14)))))) [some (.val (.scr ns)), some (.val (.lst (nums r))), some (.val (.int O)), some (.val (.int C)), some (.val (bWs false true true ws)), none, some (.val (bW false true ts)), some (.val (.lst ((DL.pairsOf ts).map encP))), some (.val (ruleD 2 O ws ts)), some (.val (bWs true true true r1)), some (.val (bWs true true true r2)), some (.val (.lst (nums (ir 0 A)))), none, none, none, none, none, none, none, none, none, none] = .ok (mtl (tr r1)) := by
    rw [ev_eMt, ev_fComp]
    simp only [ev_eIter, ev_eVar, List.getElem?_cons_succ, List.getElem?_cons_zero, varK_val, iter_box, compK_ok, wipeD_cons, wipeD_nil, List.set_cons_succ, List.set_cons_zero]
    rw [cx', noX_ok, mtK_ok]
  simp [-ev_sIf, -ev_eMt, er, i0, i1, il, l8, ← hC0, s1, rng_nat' (show C ≤ 16777216 by omega), cw', i3, i4, hb, ets, lpr, K1 ws ts h, er1, er2, rA, cA', eM, setXK_ok ctr]
  rw [lend_ok (d := bookD (ir 0 A) r1) rfl (pl_tr r1) (by simp [un_tr, bm]) (noL_book _ _)]
  have etr : tr r1 = mtl (mtl (nums x0) :: R0.map tM) :: tr T0 := by rw [e1]; rfl
  rw [etr]
  simp only [setK_ok, seqK_nx, ev_sSeq, List.set_cons_succ, List.set_cons_zero]
  rw [app_two (d := .int ((O : Int) - 1)) rfl (by simp) (by simp; omega)]
  simp only [seqK_nx, ev_sSeq, List.set_cons_succ, List.set_cons_zero]
  rw [app_one (d := mtl [.int 0]) rfl (by simp) (by simp; omega)]
  simp only [seqK_nx, ev_sSeq, List.set_cons_succ, List.set_cons_zero]
  rw [app_root (d := mtl []) rfl (by simp) (by unfold tr; simp; omega)]
  have tt : ∀ (c : EvT) (a : Sv) (δ : DEnv), c δ = .ok false → sIf c a sNil δ = .ok (.nx δ) := fun c a δ h => by simp [h]
  simp only [seqK_nx, ev_sSeq, List.set_cons_succ, List.set_cons_zero]
  simp [-ev_sIf, bm2]
  rw [tt _ _ _ (by simp [bf_allowed, bf_reach, q0, q1])]
  simp only [seqK_nx, ev_sSeq]
  rw [tt _ _ _ (by simp [bf_allowed, bf_reach, q0, q2])]
  simp [-ev_sIf, lq]
  rw [tt _ _ _ (by simp [c7, s1'])]
  simp only [seqK_nx, ev_sSeq]
  rw [tt _ _ _ (by simp [c7, s2'])]
  simp [-ev_sIf, ad1]
  have ect : (ws.map (bW true true)).tail ++ (ws.map (bW true true)).take 1 = (ws.drop 1 ++ ws.take 1).map (bW true true) := by rw [List.map_append, List.map_drop, List.map_take, List.drop_one]
  rw [ect, ct _ (by simp), et]
  simp [-ev_sIf, hb]
  rw [tt _ _ _ (by simp [c7, K1 _ _ hs, s3'])]
  simp [-ev_sIf, ad2]
  rw [tt _ _ _ (by simp [c7, K1 _ _ hr, s4'])]
  simp [c7, s1']
end K17

open PySem PySem.W PyProof.Rows
set_option maxHeartbeats 0 in
theorem PySem.Challenge.cw_endsastold_k17_middles_of_two_pairs_holds : PySem.Challenge.rw_endsastold_k17_middles_of_two_pairs.Holds := by
  w_on; o_law; k_head; (case hw => w_witness2)
  k_fill
  refine L2.walk_of (l := PySem.Challenge.rw_endsastold_k17_middles_of_two_pairs) (n := 63) (k := 8) (x := "script") (CX := fun w => L2.CX PySem.Challenge.rw_endsastold_k17_middles_of_two_pairs.prog w) (sp := fun w => DL.spLaw _ 63) rfl (by decide) rfl ⟨rfl, by decide, by decide⟩ (fun w h Y => PySem.W.kIn_of Y) ?F (fun _ _ a ns hl _ hS => ⟨a, ns, rfl, hS, hl, fun _ => rfl⟩) (fun _ _ _ _ _ h => DL.no_cx h)
  case F =>
    intro w mg fa h KX G hmg
    refine' K17.all_mk KX G hmg ?a0 ?l0 ?c0 ?k0 ?a1 ?l1 ?c1 ?k1 ?a2 ?l2 ?c2 ?k2 ?a3 ?l3 ?c3 ?k3 ?a4 ?l4 ?c4 ?k4 ?a5 ?l5 ?c5 ?k5 ?a6 ?l6 ?c6 ?k6 ?a7 ?l7 ?c7 ?k7 ?a8 ?i8 ?l8 ?c8 ?k8 ?a9 ?l9 ?c9 ?k9 ?a10 ?l10 ?c10 ?k10 ?a11 ?i11 ?l11 ?c11 ?k11 ?a12 ?l12 ?c12 ?k12 ?a13 ?l13 ?c13 ?k13 ?a14 ?l14 ?c14 ?k14 ?a15 ?l15 ?c15 ?k15 ?a16 ?l16 ?c16 ?k16 ?a17 ?l17 ?c17 ?k17 ?a18 ?l18 ?c18 ?k18 ?a19 ?l19 ?c19 ?k19 ?a20 ?l20 ?c20 ?k20 ?a21 ?l21 ?c21 ?k21 ?a22 ?l22 ?c22 ?k22 ?a23 ?l23 ?c23 ?k23 ?aC_Book ?pg_Book ?hd_Book ?po_Book ?sa_Book ?mk_Book ?kc_Book ?na_Book_allowed ?na_Book_reach ?aC_Rule ?pg_Rule ?hd_Rule ?po_Rule ?sa_Rule ?mk_Rule ?kc_Rule ?na_Rule_outcomes ?na_Rule_pairs ?na_Rule_people ?na_Rule_told ?na_Rule_worlds ?z_abs ?z_bool ?z_int ?z_isinstance ?z_len ?z_list ?z_max ?z_min ?z_range ?z_set ?z_sorted ?z_str ?z_tuple ?e_OUTCOMES ?e_PAIRS ?e_PEOPLE ?e_WORLDS K17.law_true
    (case aC_Book => k_is); (case aC_Rule => k_is); (case a0 => k_is); (case l0 => k_is); (case c0 => k_is); (case k0 => k_is); (case a1 => k_is); (case l1 => k_is); (case c1 => k_is); (case k1 => k_is); (case a2 => k_is); (case l2 => k_is); (case c2 => k_is); (case k2 => k_is); (case a3 => k_is); (case l3 => k_is); (case c3 => k_is); (case k3 => k_is); (case a4 => k_is); (case l4 => k_is); (case c4 => k_is); (case k4 => k_is); (case a5 => k_is); (case l5 => k_is); (case c5 => k_is); (case k5 => k_is); (case a6 => k_is); (case l6 => k_is); (case c6 => k_is); (case k6 => k_is); (case a7 => k_is); (case l7 => k_is); (case c7 => k_is); (case k7 => k_is); (case a8 => k_is); (case i8 => k_is); (case l8 => k_is); (case c8 => k_is); (case k8 => k_is); (case a9 => k_is); (case l9 => k_is); (case c9 => k_is); (case k9 => k_is); (case a10 => k_is); (case l10 => k_is); (case c10 => k_is); (case k10 => k_is); (case a11 => k_is); (case i11 => k_is); (case l11 => k_is); (case c11 => k_is); (case k11 => k_is); (case a12 => k_is); (case l12 => k_is); (case c12 => k_is); (case k12 => k_is); (case a13 => k_is); (case l13 => k_is); (case c13 => k_is); (case k13 => k_is); (case a14 => k_is); (case l14 => k_is); (case c14 => k_is); (case k14 => k_is); (case a15 => k_is); (case l15 => k_is); (case c15 => k_is); (case k15 => k_is); (case a16 => k_is); (case l16 => k_is); (case c16 => k_is); (case k16 => k_is); (case a17 => k_is); (case l17 => k_is); (case c17 => k_is); (case k17 => k_is); (case a18 => k_is); (case l18 => k_is); (case c18 => k_is); (case k18 => k_is); (case a19 => k_is); (case l19 => k_is); (case c19 => k_is); (case k19 => k_is); (case a20 => k_is); (case l20 => k_is); (case c20 => k_is); (case k20 => k_is); (case a21 => k_is); (case l21 => k_is); (case c21 => k_is); (case k21 => k_is); (case a22 => k_is); (case l22 => k_is); (case c22 => k_is); (case k22 => k_is); (case a23 => k_is); (case l23 => k_is); (case c23 => k_is); (case k23 => k_is); (case pg_Book => k_is); (case hd_Book => k_is); (case po_Book => k_is); (case sa_Book => k_is); (case mk_Book => k_is); (case kc_Book => k_is); (case na_Book_allowed => k_is); (case na_Book_reach => k_is); (case pg_Rule => k_is); (case hd_Rule => k_is); (case po_Rule => k_is); (case sa_Rule => k_is); (case mk_Rule => k_is); (case kc_Rule => k_is); (case na_Rule_outcomes => k_is); (case na_Rule_pairs => k_is); (case na_Rule_people => k_is); (case na_Rule_told => k_is); (case na_Rule_worlds => k_is); (case z_abs => k_is); (case z_bool => k_is); (case z_int => k_is); (case z_isinstance => k_is); (case z_len => k_is); (case z_list => k_is); (case z_max => k_is); (case z_min => k_is); (case z_range => k_is); (case z_set => k_is); (case z_sorted => k_is); (case z_str => k_is); (case z_tuple => k_is); (case e_OUTCOMES => k_is); (case e_PAIRS => k_is); (case e_PEOPLE => k_is); (case e_WORLDS => k_is)
