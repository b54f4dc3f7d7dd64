import PyProof.Rows.All
import Wide.All
import OpenK.AllK
import Wide.FinOn
import HandS.ForMost
import HandS.Deep
import HandS.IsInst
import HandS.TupSets
import KE.SortData
import PyProof.ReprRoads
import HandS.Ends
import HandS.Conv
import HandS.Style
import HandS.NoneIn
import HandS.Property
import HandS.OwnEq
import PyProof.Rows.ReprOcc
import PySem.Challenge.RW_lanekeepers_k11_whole_countries_told
set_option Elab.async false
set_option linter.all false
set_option maxRecDepth 100000
/-! LkA: data over the abstract heap, owned cells, the store's relation. -/
namespace Lk
open PySem L2

abbrev D := PyData
/-- a binding: how deep it is owned, its data -/
structure B where
  k : Nat
  d : D
abbrev Sto := List (Option B)
/-- a result: new or not, how deep owned, its data -/
structure R where
  fr : Bool
  k : Nat
  d : D

def clsKey : Str := "class"

mutual
inductive Rp (K : PySem.W.Frag) (mg : Str → Option Value) (H : Hp) : V → D → Prop
  | non : Rp K mg H .non .none
  | bl (b : Bool) : Rp K mg H (.bl b) (.bool b)
  | int (i : Int) : Rp K mg H (.int i) (.int i)
  | str (x : Str) : Rp K mg H (.str x) (.str x)
  | lst {a : Addr} {vs : List V} {ds : List D} : H a = some (.lst vs) → RpA K mg H vs ds → Rp K mg H (.ref a) (.list ds)
  | tup {a : Addr} {vs : List V} {ds : List D} : SqT K H a vs → RpA K mg H vs ds → Rp K mg H (.ref a) (.tuple ds)
  | ins {a C dx : Addr} {fs : List (Str × V)} {c : Str} {kvs : List (D × D)} : H a = some (.ins C dx fs) → mg c = some (.ref C) → RpF K mg H fs kvs → Rp K mg H (.ref a) (.dict ((.str clsKey, .str c) :: kvs))
  | scr {a : Addr} {ns : List Int} : SqL K H a (ns.map V.int) → Rp K mg H (.ref a) (.dict [(.none, .list (ns.map PyData.int))])
inductive RpA (K : PySem.W.Frag) (mg : Str → Option Value) (H : Hp) : List V → List D → Prop
  | nil : RpA K mg H [] []
  | cons {v : V} {vs : List V} {d : D} {ds : List D} : Rp K mg H v d → RpA K mg H vs ds → RpA K mg H (v :: vs) (d :: ds)
inductive RpF (K : PySem.W.Frag) (mg : Str → Option Value) (H : Hp) : List (Str × V) → List (D × D) → Prop
  | nil : RpF K mg H [] []
  | cons {f : Str} {v : V} {fs : List (Str × V)} {d : D} {kvs : List (D × D)} : Rp K mg H v d → RpF K mg H fs kvs → RpF K mg H ((f, v) :: fs) ((.str f, d) :: kvs)
end

/-- G has all that F has -/
def Sub (F G : Hp) : Prop := ∀ a o, F a = some o → G a = some o
theorem Sub.refl (F : Hp) : Sub F F := fun _ _ h => h
theorem Sub.trans {F G H : Hp} (a : Sub F G) (b : Sub G H) : Sub F H := fun x o h => b x o (a x o h)
theorem Sub.out {F G : Hp} (s : Sub F G) {a : Addr} (h : G a = none) : F a = none := by
  cases e : F a with
  | none => rfl
  | some o => rw [s a o e] at h; cases h
theorem Sub.new {F : Hp} {p : Addr} {o : HO} (h : F p = none) : Sub F (upd F p o) := fun a u e => by
  rw [upd_ne (ne_of_none e h)]; exact e
theorem sub_rd {F G : Hp} (s : Sub F G) {a : Addr} {u : HO} (h : Rd F a u) : Rd G a u := by
  rcases h with h | ⟨o, h⟩
  · exact .inl (s _ _ h)
  · exact .inr ⟨o, s _ _ h⟩
theorem sub_sqT {K : PySem.W.Frag} {F G : Hp} (s : Sub F G) {a : Addr} {vs : List V} (h : SqT K F a vs) : SqT K G a vs := by
  rcases h with h | h
  · exact .inl (sub_rd s h)
  · exact .inr h
theorem sub_sqL {K : PySem.W.Frag} {F G : Hp} (s : Sub F G) {a : Addr} {vs : List V} (h : SqL K F a vs) : SqL K G a vs := by
  rcases h with h | h
  · exact .inl (sub_rd s h)
  · exact .inr h

section
variable {K : PySem.W.Frag} {mg : Str → Option Value} {F G H : Hp}
mutual
theorem Rp.sub (s : Sub F G) : ∀ {v : V} {d : D}, Rp K mg F v d → Rp K mg G v d
  | _, _, .non => .non
  | _, _, .bl b => .bl b
  | _, _, .int i => .int i
  | _, _, .str x => .str x
  | _, _, .lst h r => .lst (s _ _ h) (RpA.sub s r)
  | _, _, .tup h r => .tup (sub_sqT s h) (RpA.sub s r)
  | _, _, .ins h c r => .ins (s _ _ h) c (RpF.sub s r)
  | _, _, .scr h => .scr (sub_sqL s h)
theorem RpA.sub (s : Sub F G) : ∀ {vs : List V} {ds : List D}, RpA K mg F vs ds → RpA K mg G vs ds
  | _, _, .nil => .nil
  | _, _, .cons h r => .cons (Rp.sub s h) (RpA.sub s r)
theorem RpF.sub (s : Sub F G) : ∀ {fs : List (Str × V)} {ds : List (D × D)}, RpF K mg F fs ds → RpF K mg G fs ds
  | _, _, .nil => .nil
  | _, _, .cons h r => .cons (Rp.sub s h) (RpF.sub s r)
end
theorem RpA.length : ∀ {vs : List V} {ds : List D}, RpA K mg F vs ds → vs.length = ds.length
  | _, _, .nil => rfl
  | _, _, .cons _ r => by rw [List.length_cons, List.length_cons, RpA.length r]
theorem RpA.get {vs : List V} {ds : List D} (h : RpA K mg F vs ds) : ∀ {i : Nat} {d : D}, ds[i]? = some d → ∃ v, vs[i]? = some v ∧ Rp K mg F v d := by
  induction ds generalizing vs with
  | nil => intro i d e; simp at e
  | cons x xs ih =>
    cases h with
    | cons h1 h2 =>
      intro i d e
      cases i with
      | zero => simp at e; subst e; exact ⟨_, rfl, h1⟩
      | succ i => exact ih h2 (by simpa using e)
theorem RpA.append : ∀ {vs ws : List V} {ds es : List D}, RpA K mg F vs ds → RpA K mg F ws es → RpA K mg F (vs ++ ws) (ds ++ es)
  | _, _, _, _, .nil, r => r
  | _, _, _, _, .cons h t, r => .cons h (RpA.append t r)
theorem RpA.take : ∀ {vs : List V} {ds : List D} (n : Nat), RpA K mg F vs ds → RpA K mg F (vs.take n) (ds.take n)
  | _, _, 0, _ => by simp; exact .nil
  | _, _, _ + 1, .nil => .nil
  | _, _, n + 1, .cons h t => .cons h (RpA.take n t)
theorem RpA.drop : ∀ {vs : List V} {ds : List D} (n : Nat), RpA K mg F vs ds → RpA K mg F (vs.drop n) (ds.drop n)
  | _, _, 0, r => r
  | _, _, _ + 1, .nil => .nil
  | _, _, n + 1, .cons _ t => RpA.drop n t
theorem RpA.set {v : V} {d : D} (r : Rp K mg F v d) : ∀ {vs : List V} {ds : List D} (i : Nat), RpA K mg F vs ds → RpA K mg F (vs.set i v) (ds.set i d)
  | _, _, _, .nil => .nil
  | _, _, 0, .cons _ t => .cons r t
  | _, _, i + 1, .cons h t => .cons h (RpA.set r i t)
theorem RpA.erase : ∀ {vs : List V} {ds : List D} (i : Nat), RpA K mg F vs ds → RpA K mg F (vs.eraseIdx i) (ds.eraseIdx i)
  | _, _, _, .nil => .nil
  | _, _, 0, .cons _ t => t
  | _, _, i + 1, .cons h t => .cons h (RpA.erase i t)
theorem RpA.dropLast {vs : List V} {ds : List D} (h : RpA K mg F vs ds) : RpA K mg F vs.dropLast ds.dropLast := by
  rw [List.dropLast_eq_take, List.dropLast_eq_take, h.length]; exact h.take _
theorem RpA.reverse : ∀ {vs : List V} {ds : List D}, RpA K mg F vs ds → RpA K mg F vs.reverse ds.reverse
  | _, _, .nil => .nil
  | _, _, .cons h t => by rw [List.reverse_cons, List.reverse_cons]; exact (RpA.reverse t).append (.cons h .nil)
end

/-- item by item, the cells one behind another -/
inductive FA (P : V → D → List Addr → Prop) : List V → List D → List Addr → Prop
  | nil : FA P [] [] []
  | cons {v : V} {vs : List V} {d : D} {ds : List D} {c cs : List Addr} : P v d c → FA P vs ds cs → FA P (v :: vs) (d :: ds) (c ++ cs)

/-- v is d: its cells cs (k deep) stand in H, the rest in F -/
def Ow (K : PySem.W.Frag) (mg : Str → Option Value) (F H : Hp) : Nat → V → D → List Addr → Prop
  | 0, v, d, cs => cs = [] ∧ Rp K mg F v d
  | k + 1, v, d, cs => (∃ a vs ds css, v = .ref a ∧ d = .list ds ∧ H a = some (.lst vs) ∧ FA (Ow K mg F H k) vs ds css ∧ cs = a :: css) ∨
      ∃ a C dx fs c kvs, v = .ref a ∧ d = .dict ((.str clsKey, .str c) :: kvs) ∧ H a = some (.ins C dx fs) ∧ mg c = some (.ref C) ∧ RpF K mg F fs kvs ∧ cs = [a]

section
variable {K : PySem.W.Frag} {mg : Str → Option Value} {F F' G G' H H' : Hp}
theorem FA.imp {P Q : V → D → List Addr → Prop} {vs : List V} {ds : List D} {cs : List Addr} (h : FA P vs ds cs) : (∀ v d c, (∀ a ∈ c, a ∈ cs) → P v d c → Q v d c) → FA Q vs ds cs := by
  induction h with
  | nil => intro _; exact .nil
  | cons p _ ih =>
    intro f
    exact .cons (f _ _ _ (fun a ha => List.mem_append_left _ ha) p) (ih fun v d c hc q => f v d c (fun a ha => List.mem_append_right _ (hc a ha)) q)
theorem FA.length {P : V → D → List Addr → Prop} {vs : List V} {ds : List D} {cs : List Addr} (h : FA P vs ds cs) : vs.length = ds.length := by
  induction h with
  | nil => rfl
  | cons _ _ ih => rw [List.length_cons, List.length_cons, ih]
theorem fa_zero {vs : List V} {ds : List D} {cs : List Addr} (h : FA (Ow K mg F H 0) vs ds cs) : cs = [] ∧ RpA K mg F vs ds := by
  induction h with
  | nil => exact ⟨rfl, .nil⟩
  | cons p _ ih => obtain ⟨rfl, r⟩ := p; obtain ⟨rfl, rs⟩ := ih; exact ⟨rfl, .cons r rs⟩
theorem fa_of_rpA {vs : List V} {ds : List D} (h : RpA K mg F vs ds) : FA (Ow K mg F H 0) vs ds [] := by
  induction ds generalizing vs with
  | nil => cases h; exact .nil
  | cons d ds ih => cases h with | cons h1 h2 => exact FA.cons (c := []) ⟨rfl, h1⟩ (ih h2)
/-- what is owned stays where its cells and F stay -/
theorem Ow.keep (s : Sub F F') : ∀ {k : Nat} {v : V} {d : D} {cs : List Addr}, (∀ a ∈ cs, H' a = H a) → Ow K mg F H k v d cs → Ow K mg F' H' k v d cs
  | 0, _, _, _, _, ⟨e, r⟩ => ⟨e, r.sub s⟩
  | k + 1, _, _, _, hc, .inl ⟨a, vs, ds, css, e1, e2, e3, f, e4⟩ => by
    subst e4
    refine .inl ⟨a, vs, ds, css, e1, e2, (hc a List.mem_cons_self).trans e3, f.imp fun v d c hm q => ?_, rfl⟩
    exact Ow.keep s (fun b hb => hc b (List.mem_cons_of_mem _ (hm b hb))) q
  | k + 1, _, _, _, hc, .inr ⟨a, C, dx, fs, c, kvs, e1, e2, e3, e4, r, e5⟩ => by
    subst e5
    exact .inr ⟨a, C, dx, fs, c, kvs, e1, e2, (hc a List.mem_cons_self).trans e3, e4, r.sub s, rfl⟩
theorem Ow.cells : ∀ {k : Nat} {v : V} {d : D} {cs : List Addr}, Ow K mg F H k v d cs → ∀ a ∈ cs, ∃ o, H a = some o
  | 0, _, _, _, ⟨e, _⟩, a, ha => by subst e; cases ha
  | k + 1, _, _, _, .inr ⟨a, C, dx, fs, c, kvs, e1, e2, e3, e4, r, e5⟩, b, hb => by
    subst e5
    obtain rfl := List.mem_singleton.mp hb
    exact ⟨_, e3⟩
  | k + 1, _, _, _, .inl ⟨a, vs, ds, css, e1, e2, e3, f, e4⟩, b, hb => by
    subst e4
    rcases List.mem_cons.mp hb with e | hb
    · subst e; exact ⟨_, e3⟩
    · clear e3 e1 e2
      induction f with
      | nil => cases hb
      | cons p _ ih =>
        rcases List.mem_append.mp hb with hb | hb
        · exact Ow.cells p b hb
        · exact ih (List.mem_cons_of_mem _ hb) hb
/-- all of it stands in a heap that has F and the cells -/
theorem Ow.rp (s : Sub F G) : ∀ {k : Nat} {v : V} {d : D} {cs : List Addr}, (∀ a ∈ cs, G a = H a) → Ow K mg F H k v d cs → Rp K mg G v d
  | 0, _, _, _, _, ⟨_, r⟩ => r.sub s
  | k + 1, _, _, _, hc, .inr ⟨a, C, dx, fs, c, kvs, e1, e2, e3, e4, r, e5⟩ => by
    subst e5 e1 e2
    exact .ins ((hc a List.mem_cons_self).trans e3) e4 (r.sub s)
  | k + 1, _, _, _, hc, .inl ⟨a, vs, ds, css, e1, e2, e3, f, e4⟩ => by
    subst e4 e1 e2
    refine .lst ((hc a List.mem_cons_self).trans e3) ?_
    have hc' : ∀ b ∈ css, G b = H b := fun b hb => hc b (List.mem_cons_of_mem _ hb)
    clear e3 hc
    induction f with
    | nil => exact .nil
    | cons p _ ih => exact .cons (Ow.rp s (fun b hb => hc' b (List.mem_append_left _ hb)) p) (ih fun b hb => hc' b (List.mem_append_right _ hb))
theorem Ow.rpH {k : Nat} {v : V} {d : D} {cs : List Addr} (s : Sub F H) (h : Ow K mg F H k v d cs) : Rp K mg H v d := h.rp s fun _ _ => rfl

/-- the store: each binding stands at its slot's value -/
inductive RS (K : PySem.W.Frag) (mg : Str → Option Value) (F H : Hp) : Sto → St → List Addr → Prop
  | nil : RS K mg F H [] [] []
  | no {ρ : Sto} {σ : St} {cs : List Addr} {o : Option V} : RS K mg F H ρ σ cs → RS K mg F H (none :: ρ) (o :: σ) cs
  | yes {ρ : Sto} {σ : St} {c cs : List Addr} {b : B} {v : V} : Ow K mg F H b.k v b.d c → RS K mg F H ρ σ cs → RS K mg F H (some b :: ρ) (some v :: σ) (c ++ cs)

theorem RS.keep (s : Sub F F') {ρ : Sto} {σ : St} {cs : List Addr} (h : RS K mg F H ρ σ cs) : (∀ a ∈ cs, H' a = H a) → RS K mg F' H' ρ σ cs := by
  induction h with
  | nil => intro _; exact .nil
  | no _ ih => intro hc; exact .no (ih hc)
  | yes o _ ih => intro hc; exact .yes (o.keep s fun a ha => hc a (List.mem_append_left _ ha)) (ih fun a ha => hc a (List.mem_append_right _ ha))
theorem RS.there {ρ : Sto} {σ : St} {cs : List Addr} (h : RS K mg F H ρ σ cs) : ∀ a ∈ cs, ∃ o, H a = some o := by
  induction h with
  | nil => intro a ha; cases ha
  | no _ ih => exact ih
  | yes o _ ih =>
    intro a ha
    rcases List.mem_append.mp ha with ha | ha
    · exact o.cells a ha
    · exact ih a ha
theorem RS.length {ρ : Sto} {σ : St} {cs : List Addr} (h : RS K mg F H ρ σ cs) : ρ.length = σ.length := by
  induction h with
  | nil => rfl
  | no _ ih => rw [List.length_cons, List.length_cons, ih]
  | yes _ _ ih => rw [List.length_cons, List.length_cons, ih]
/-- a slot is taken out -/
theorem RS.out {ρ : Sto} {σ : St} {cs : List Addr} (h : RS K mg F H ρ σ cs) : ∀ {i : Nat} {b : B}, ρ[i]? = some (some b) →
    ∃ v c cs1, σ[i]? = some (some v) ∧ Ow K mg F H b.k v b.d c ∧ RS K mg F H (ρ.set i none) σ cs1 ∧ cs.Perm (c ++ cs1) := by
  induction h with
  | nil => intro i b e; simp at e
  | no r ih =>
    intro i b e
    cases i with
    | zero => simp at e
    | succ i =>
      obtain ⟨v, c, cs1, e1, o, r1, p⟩ := ih (i := i) (b := b) (by simpa using e)
      exact ⟨v, c, cs1, by simpa using e1, o, .no r1, p⟩
  | @yes ρ σ c0 cs0 b0 v0 o0 r ih =>
    intro i b e
    cases i with
    | zero =>
      simp at e; subst e
      exact ⟨v0, c0, cs0, rfl, o0, .no r, List.Perm.refl _⟩
    | succ i =>
      obtain ⟨v, c, cs1, e1, o, r1, p⟩ := ih (i := i) (b := b) (by simpa using e)
      refine ⟨v, c, c0 ++ cs1, by simpa using e1, o, .yes o0 r1, ?_⟩
      refine (List.Perm.append_left c0 p).trans ?_
      rw [← List.append_assoc, ← List.append_assoc]
      exact List.Perm.append_right cs1 List.perm_append_comm
/-- .. and put in -/
theorem RS.into {ρ : Sto} {σ : St} {cs : List Addr} (h : RS K mg F H ρ σ cs) : ∀ {i : Nat} {b : B} {v : V} {c : List Addr}, ρ[i]? = some none → σ[i]? = some (some v) → Ow K mg F H b.k v b.d c →
    ∃ cs', RS K mg F H (ρ.set i (some b)) σ cs' ∧ cs'.Perm (c ++ cs) := by
  induction h with
  | nil => intro i b v c e; simp at e
  | @no ρ σ cs o r ih =>
    intro i b v c e es ow
    cases i with
    | zero =>
      simp at es; subst es
      exact ⟨c ++ cs, .yes ow r, List.Perm.refl _⟩
    | succ i =>
      obtain ⟨cs', r', p⟩ := ih (i := i) (b := b) (v := v) (c := c) (by simpa using e) (by simpa using es) ow
      exact ⟨cs', .no r', p⟩
  | @yes ρ σ c0 cs0 b0 v0 o0 r ih =>
    intro i b v c e es ow
    cases i with
    | zero => simp at e
    | succ i =>
      obtain ⟨cs', r', p⟩ := ih (i := i) (b := b) (v := v) (c := c) (by simpa using e) (by simpa using es) ow
      refine ⟨c0 ++ cs', .yes o0 r', (List.Perm.append_left c0 p).trans ?_⟩
      rw [← List.append_assoc, ← List.append_assoc]
      exact List.Perm.append_right cs0 List.perm_append_comm
/-- a slot that is not told may hold anything -/
theorem RS.forget {ρ : Sto} {σ : St} {cs : List Addr} (h : RS K mg F H ρ σ cs) : ∀ {i : Nat} (o : Option V), ρ[i]? = some none → RS K mg F H ρ (σ.set i o) cs := by
  induction h with
  | nil => intro i o e; simp at e
  | no r ih =>
    intro i o e
    cases i with
    | zero => exact .no r
    | succ i => exact .no (ih o (by simpa using e))
  | yes o0 r ih =>
    intro i o e
    cases i with
    | zero => simp at e
    | succ i => exact .yes o0 (ih o (by simpa using e))

/-- the state: F is laid down for good, G is not touched, the cells cs are the store's own -/
structure SR (K : PySem.W.Frag) (mg : Str → Option Value) (F G H : Hp) (ρ : Sto) (σ : St) (cs : List Addr) : Prop where
  fg : Sub F G
  gh : Sub G H
  rs : RS K mg F H ρ σ cs
  nd : cs.Nodup
  off : ∀ a ∈ cs, G a = none
/-- how the state goes on -/
structure Fw (F G F' G' : Hp) : Prop where
  f : Sub F F'
  g : Sub G G'
  new : ∀ a, F' a ≠ none → F a ≠ none ∨ G a = none
theorem Fw.refl : Fw F G F G := ⟨Sub.refl _, Sub.refl _, fun _ h => .inl h⟩
theorem Fw.trans {F1 G1 F2 G2 : Hp} (a : Fw F G F1 G1) (b : Fw F1 G1 F2 G2) : Fw F G F2 G2 := by
  refine ⟨a.f.trans b.f, a.g.trans b.g, fun x h => ?_⟩
  rcases b.new x h with h | h
  · exact a.new x h
  · exact .inr (a.g.out h)
/-- only new addresses are laid -/
structure Gr (F G H F' G' H' : Hp) : Prop where
  f : ∀ a, H a ≠ none → F' a = F a
  g : ∀ a, H a ≠ none → G' a = G a
  h : Sub H H'
  fg : Sub F' G'
  gh : Sub G' H'
theorem Gr.fw (x : Gr F G H F' G' H') (fg : Sub F G) (gh : Sub G H) : Fw F G F' G' := by
  refine ⟨fun a o e => ?_, fun a o e => ?_, fun a h => ?_⟩
  · rw [x.f a (by rw [gh a o (fg a o e)]; simp)]; exact e
  · rw [x.g a (by rw [gh a o e]; simp)]; exact e
  · cases hg : H a with
    | none => exact .inr (gh.out hg)
    | some o => rw [x.f a (by rw [hg]; simp)] at h; exact .inl h
theorem Gr.refl (fg : Sub F G) (gh : Sub G H) : Gr F G H F G H := ⟨fun _ _ => rfl, fun _ _ => rfl, Sub.refl _, fg, gh⟩
theorem Gr.trans {F1 G1 H1 F2 G2 H2 : Hp} (a : Gr F G H F1 G1 H1) (b : Gr F1 G1 H1 F2 G2 H2) : Gr F G H F2 G2 H2 := by
  have t : ∀ x, H x ≠ none → H1 x ≠ none := fun x h => by
    cases e : H x with
    | none => exact absurd e h
    | some o => rw [a.h x o e]; simp
  exact ⟨fun x h => (b.f x (t x h)).trans (a.f x h), fun x h => (b.g x (t x h)).trans (a.g x h), a.h.trans b.h, b.fg, b.gh⟩
theorem SR.gr {ρ : Sto} {σ : St} {cs : List Addr} (s : SR K mg F G H ρ σ cs) (x : Gr F G H F' G' H') : SR K mg F' G' H' ρ σ cs := by
  have hs : ∀ a ∈ cs, H a ≠ none := fun a ha => by obtain ⟨vs, e⟩ := s.rs.there a ha; rw [e]; simp
  refine ⟨x.fg, x.gh, s.rs.keep (x.fw s.fg s.gh).f fun a ha => ?_, s.nd, fun a ha => (x.g a (hs a ha)).trans (s.off a ha)⟩
  obtain ⟨vs, e⟩ := s.rs.there a ha
  rw [e]; exact x.h a _ e
theorem Ow.gr {k : Nat} {v : V} {d : D} {c : List Addr} (o : Ow K mg F H k v d c) (f : Sub F F') (h : Sub H H') : Ow K mg F' H' k v d c :=
  o.keep f fun a ha => by obtain ⟨vs, e⟩ := o.cells a ha; rw [e]; exact h a _ e
/-- a new list cell -/
theorem Gr.cell (fg : Sub F G) (gh : Sub G H) {p : Addr} {o : HO} (hp : H p = none) : Gr F G H F G (upd H p o) :=
  ⟨fun _ _ => rfl, fun _ _ => rfl, Sub.new hp, fg, gh.trans (Sub.new hp)⟩
/-- a new object laid down -/
theorem Gr.laid (fg : Sub F G) (gh : Sub G H) {p : Addr} {o : HO} (hp : H p = none) : Gr F G H (upd F p o) (upd G p o) (upd H p o) := by
  have m : ∀ {A B : Hp}, Sub A B → B p = none → Sub (upd A p o) (upd B p o) := fun {A B} s hb a u e => by
    by_cases ha : a = p
    · subst ha; rw [upd_same] at e ⊢; exact e
    · rw [upd_ne ha] at e ⊢; exact s a u e
  refine ⟨fun a h => upd_ne (fun e => h (e ▸ hp)), fun a h => upd_ne (fun e => h (e ▸ hp)), Sub.new hp, m fg (gh.out hp), m gh hp⟩

/-- cells laid down -/
def frz (c : List Addr) (F H : Hp) : Hp := fun a => if a ∈ c then H a else F a
theorem frz_in {c : List Addr} {a : Addr} (h : a ∈ c) : frz c F H a = H a := by unfold frz; rw [if_pos h]
theorem frz_out {c : List Addr} {a : Addr} (h : a ∉ c) : frz c F H a = F a := by unfold frz; rw [if_neg h]
theorem frz_sub {c : List Addr} (h : ∀ a ∈ c, F a = none) : Sub F (frz c F H) := fun a o e => by
  rw [frz_out fun ha => by rw [h a ha] at e; cases e]; exact e
theorem frz_top {c : List Addr} (s : Sub F H) : Sub (frz c F H) H := fun a o e => by
  by_cases ha : a ∈ c
  · rw [frz_in ha] at e; exact e
  · rw [frz_out ha] at e; exact s a o e
theorem frz_mono {c : List Addr} (s : Sub F G) : Sub (frz c F H) (frz c G H) := fun a o e => by
  by_cases ha : a ∈ c
  · rw [frz_in ha] at e ⊢; exact e
  · rw [frz_out ha] at e ⊢; exact s a o e
/-- new or no longer owned cells are laid down -/
theorem SR.frz {ρ : Sto} {σ : St} {cs c : List Addr} (s : SR K mg F G H ρ σ cs) (hc : ∀ a ∈ c, G a = none) (hd : ∀ a ∈ c, a ∉ cs) :
    SR K mg (frz c F H) (frz c G H) H ρ σ cs ∧ Fw F G (Lk.frz c F H) (Lk.frz c G H) := by
  have hf : ∀ a ∈ c, F a = none := fun a ha => s.fg.out (hc a ha)
  refine ⟨⟨frz_mono s.fg, frz_top s.gh, s.rs.keep (frz_sub hf) fun _ _ => rfl, s.nd, fun a ha => ?_⟩, frz_sub hf, frz_sub hc, fun a h => ?_⟩
  · rw [frz_out fun h => hd a h ha]; exact s.off a ha
  · by_cases ha : a ∈ c
    · exact .inr (hc a ha)
    · rw [frz_out ha] at h; exact .inl h
theorem Ow.frozen {k : Nat} {v : V} {d : D} {c : List Addr} (o : Ow K mg F H k v d c) (h : ∀ a ∈ c, F a = none) : Rp K mg (frz c F H) v d :=
  o.rp (frz_sub h) fun a ha => frz_in ha
end
end Lk

set_option Elab.async false
set_option linter.all false
set_option maxRecDepth 100000
/-! LkB: an expression's reading over the store: de_.. rules. -/
namespace Lk
open PySem L2

abbrev M (α : Type) := Sto → Option (α × Sto)
def lim : Nat := 1000000
theorem lim_le {n : Nat} (h : n ≤ lim) : n ≤ sizeLine := Nat.le_trans h (by decide)
theorem lim_lt {n : Nat} (h : n < lim) : n < sizeLine := Nat.lt_of_lt_of_le h (by decide)

section defs
variable (K : PySem.W.Frag) (mg : Str → Option Value)
/-- a result stands at v; a new one has cells of its own -/
def SV (F G H : Hp) (cs : List Addr) (r : R) (v : V) : Prop := ∃ c, Ow K mg F H r.k v r.d c ∧ (r.fr = true → (c ++ cs).Nodup ∧ ∀ a ∈ c, G a = none)
/-- several results, whoever owns them -/
inductive SVs (F H : Hp) : List R → List V → Prop
  | nil : SVs F H [] []
  | cons {r : R} {rs : List R} {v : V} {vs : List V} {c : List Addr} : Ow K mg F H r.k v r.d c → SVs F H rs vs → SVs F H (r :: rs) (v :: vs)
/-- an expression's reading; μ: nothing that stood is changed -/
def tE (μ : Bool) (m : M R) : TE := fun σ H Q => ∃ F G ρ cs r ρ', SR K mg F G H ρ σ cs ∧ m ρ = some (r, ρ') ∧
  ∀ F' G' H' cs' v, Fw F G F' G' → (μ = true → Sub H H') → SR K mg F' G' H' ρ' σ cs' → SV K mg F' G' H' cs' r v → Q v H'
def tT (μ : Bool) (m : M Bool) : TT := fun σ H Q => ∃ F G ρ cs b ρ', SR K mg F G H ρ σ cs ∧ m ρ = some (b, ρ') ∧
  ∀ F' G' H' cs', Fw F G F' G' → (μ = true → Sub H H') → SR K mg F' G' H' ρ' σ cs' → Q b H'
def tA (μ : Bool) (m : M (List R)) : TA := fun σ H Q => ∃ F G ρ cs rs ρ', SR K mg F G H ρ σ cs ∧ m ρ = some (rs, ρ') ∧
  ∀ F' G' H' cs' vs, Fw F G F' G' → (μ = true → Sub H H') → SR K mg F' G' H' ρ' σ cs' → SVs K mg F' H' rs vs → Q vs H'
/-- what a rule hands on: new cells alone, above H -/
def New (F G H : Hp) (k : Nat) (d : D) (Q : VK) : Prop := ∀ F' G' H' v c, Gr F G H F' G' H' → Ow K mg F' H' k v d c → c.Nodup → (∀ a ∈ c, H a = none ∧ G' a = none) → Q v H'
end defs
def DE (X : Cx) (μ : Bool) (e : Expr) (m : M R) : Prop := PE X e (tE X.K X.mg μ m)
def DT (X : Cx) (μ : Bool) (e : Expr) (m : M Bool) : Prop := PT X e (tT X.K X.mg μ m)
def DW (X : Cx) (μ : Bool) (e : Expr) (m : M Bool) : Prop := PW X e (tT X.K X.mg μ m)
def DA (X : Cx) (μ : Bool) (es : List Expr) (m : M (List R)) : Prop := PA X es (tA X.K X.mg μ m)

section
variable {X : Cx} {K : PySem.W.Frag} {mg : Str → Option Value} {F G H : Hp}
theorem pe_imp {e : Expr} {t t' : TE} (h : PE X e t) (hi : ∀ σ H Q, t' σ H Q → t σ H Q) : PE X e t' := ⟨fun pins s σ H Q I q => h.run pins s σ H Q I (hi σ H Q q)⟩
theorem pt_imp {e : Expr} {t t' : TT} (h : PT X e t) (hi : ∀ σ H Q, t' σ H Q → t σ H Q) : PT X e t' := ⟨fun pins s σ H Q I q => h.run pins s σ H Q I (hi σ H Q q)⟩
theorem pw_imp {e : Expr} {t t' : TT} (h : PW X e t) (hi : ∀ σ H Q, t' σ H Q → t σ H Q) : PW X e t' := ⟨fun wh pins s σ H Q I q => h.run wh pins s σ H Q I (hi σ H Q q)⟩
theorem pa_imp {e : List Expr} {t t' : TA} (h : PA X e t) (hi : ∀ σ H Q, t' σ H Q → t σ H Q) : PA X e t' := ⟨fun p pins s σ H Q I q => h.run p pins s σ H Q I (hi σ H Q q)⟩

theorem ow0 {v : V} {d : D} (r : Rp K mg F v d) : Ow K mg F H 0 v d [] := ⟨rfl, r⟩
theorem New.sc {d : D} {v : V} {Q : VK} (n : New K mg F G H 0 d Q) (fg : Sub F G) (gh : Sub G H) (r : Rp K mg F v d) : Q v H :=
  n F G H v [] (Gr.refl fg gh) (ow0 r) .nil (fun _ h => nomatch h)
/-- a new list of things laid down -/
theorem New.lst {ds : List D} {vs : List V} {Q : VK} (n : New K mg F G H 1 (.list ds) Q) (fg : Sub F G) (gh : Sub G H) (r : RpA K mg F vs ds) {p : Addr} (hp : H p = none) : Q (.ref p) (upd H p (.lst vs)) :=
  n F G _ _ [p] (Gr.cell fg gh hp) (.inl ⟨p, vs, ds, [], rfl, rfl, upd_same, fa_of_rpA r, rfl⟩) (List.nodup_cons.mpr ⟨by simp, .nil⟩) fun a ha => by
    obtain rfl := List.mem_singleton.mp ha
    exact ⟨hp, gh.out hp⟩
theorem New.tup {ds : List D} {vs : List V} {Q : VK} (n : New K mg F G H 0 (.tuple ds) Q) (fg : Sub F G) (gh : Sub G H) (r : RpA K mg F vs ds) {p : Addr} (hp : H p = none) : Q (.ref p) (upd H p (.tup vs)) :=
  n _ _ _ _ [] (Gr.laid fg gh hp) (ow0 (.tup (SqT.of upd_same) (r.sub (Sub.new (fg.out (gh.out hp)))))) .nil (fun _ h => nomatch h)

/-- what comes new joins the state -/
theorem SR.new {ρ : Sto} {σ : St} {cs c : List Addr} {F' G' H' : Hp} {k : Nat} {v : V} {d : D} (S : SR K mg F G H ρ σ cs) (g : Gr F G H F' G' H') (o : Ow K mg F' H' k v d c) (nd : c.Nodup) (hn : ∀ a ∈ c, H a = none ∧ G' a = none) :
    SR K mg F' G' H' ρ σ cs ∧ SV K mg F' G' H' cs ⟨true, k, d⟩ v := by
  refine ⟨S.gr g, c, o, fun _ => ⟨List.nodup_append.mpr ⟨nd, S.nd, fun a ha b hb e => ?_⟩, fun a ha => (hn a ha).2⟩⟩
  subst e
  obtain ⟨vs, e⟩ := S.rs.there a hb
  rw [(hn a ha).1] at e; cases e
/-- a result is laid down: it is new, or laid down already -/
theorem SV.lay {ρ : Sto} {σ : St} {cs : List Addr} {r : R} {v : V} (S : SR K mg F G H ρ σ cs) (x : SV K mg F G H cs r v) (h : (r.fr || r.k == 0) = true) :
    ∃ F' G', SR K mg F' G' H ρ σ cs ∧ Fw F G F' G' ∧ Rp K mg F' v r.d := by
  obtain ⟨c, o, hf⟩ := x
  by_cases hk : r.k = 0
  · rw [hk] at o
    exact ⟨F, G, S, Fw.refl, o.2⟩
  · have fr : r.fr = true := by
      cases e : r.fr with
      | true => rfl
      | false => rw [e] at h; simp at h; exact absurd h hk
    obtain ⟨nd, off⟩ := hf fr
    obtain ⟨S', w⟩ := S.frz off fun a ha hb => (List.nodup_append.mp nd).2.2 a ha a hb rfl
    exact ⟨_, _, S', w, o.frozen fun a ha => S.fg.out (off a ha)⟩
end

/-! ### names and constants -/
def mC (d : D) : M R := fun ρ => some (⟨false, 0, d⟩, ρ)
/-- a name, read -/
def mV (i : Nat) : M R := fun ρ => match ρ[i]? with
  | some (some b) => some (⟨false, b.k, b.d⟩, ρ)
  | _ => none
/-- a name, laid down -/
def mT (i : Nat) : M R := fun ρ => match ρ[i]? with
  | some (some b) => some (⟨false, 0, b.d⟩, ρ.set i (some ⟨0, b.d⟩))
  | _ => none
/-- a name, handed on: it is told no more if it was owned -/
def mM (i : Nat) : M R := fun ρ => match ρ[i]? with
  | some (some ⟨0, d⟩) => some (⟨false, 0, d⟩, ρ)
  | some (some ⟨k + 1, d⟩) => some (⟨true, k + 1, d⟩, ρ.set i none)
  | _ => none
section
variable {X : Cx} {pos : Pos} {j : Nat}
theorem de_c {e : Expr} {v : V} {d : D} (h : PE X e (tC v)) (r : ∀ F, Rp X.K X.mg F v d) : DE X true e (mC d) := pe_imp h fun σ H Q ⟨F, G, ρ, cs, rr, ρ', S, e, q⟩ => by
  cases e
  exact q F G H cs v Fw.refl (fun _ => Sub.refl _) S ⟨[], ow0 (r F), fun h => nomatch h⟩
theorem de_int {i : Int} {j : Nat} {pos : Pos} : DE X true (.Constant (.int i) j pos) (mC (.int i)) := de_c pe_int fun _ => .int i
theorem de_bl {b : Bool} {j : Nat} {pos : Pos} : DE X true (.Constant (.bool b) j pos) (mC (.bool b)) := de_c pe_bl fun _ => .bl b
theorem de_non {j : Nat} {pos : Pos} : DE X true (.Constant .none j pos) (mC .none) := de_c pe_non fun _ => .non
theorem de_str {x : Str} {j : Nat} {pos : Pos} : DE X true (.Constant (.str x) j pos) (mC (.str x)) := de_c pe_str fun _ => .str x
theorem de_glob {x : Str} {v : V} {d : D} {u : Value} {pos : Pos} (hm : X.mg x = some u) (r : RelV v u) (rp : ∀ F, Rp X.K X.mg F v d) (hg : Gl X x := by rfl) (hd : (x == ("__debug__" : Str)) = false := by decide) : DE X true (.Name x pos) (mC d) :=
  de_c (pe_glob hg hm r hd) rp
theorem de_var {i : Nat} {x : Str} (hN : X.N[i]? = some x) (hv : Vis X.env.scope x) (hd : (x == ("__debug__" : Str)) = false := by decide) (hcd : (x == ("__classdict__" : Str)) = false := by decide) :
    DE X true (.Name x pos) (mV i) := pe_imp (pe_var hN hv hd hcd) fun σ H Q ⟨F, G, ρ, cs, r, ρ', S, e, q⟩ => by
  unfold mV at e
  split at e
  · rename_i b hb
    cases e
    obtain ⟨v, c, cs1, e1, o, _, _⟩ := S.rs.out hb
    exact ⟨v, e1, q F G H cs v Fw.refl (fun _ => Sub.refl _) S ⟨c, o, fun h => nomatch h⟩⟩
  · cases e
theorem de_take {i : Nat} {x : Str} (hN : X.N[i]? = some x) (hv : Vis X.env.scope x) (hd : (x == ("__debug__" : Str)) = false := by decide) (hcd : (x == ("__classdict__" : Str)) = false := by decide) :
    DE X true (.Name x pos) (mT i) := pe_imp (pe_var hN hv hd hcd) fun σ H Q ⟨F, G, ρ, cs, r, ρ', S, e, q⟩ => by
  unfold mT at e
  split at e
  · rename_i b hb
    cases e
    obtain ⟨v, c, cs1, e1, o, r1, p⟩ := S.rs.out hb
    have nd : (c ++ cs1).Nodup := p.nodup_iff.mp S.nd
    have S1 : SR X.K X.mg F G H (ρ.set i none) σ cs1 := ⟨S.fg, S.gh, r1, (List.nodup_append.mp nd).2.1, fun a ha => S.off a (p.mem_iff.mpr (List.mem_append_right _ ha))⟩
    have off : ∀ a ∈ c, G a = none := fun a ha => S.off a (p.mem_iff.mpr (List.mem_append_left _ ha))
    obtain ⟨S2, w⟩ := S1.frz off fun a ha hb => (List.nodup_append.mp nd).2.2 a ha a hb rfl
    have rp := o.frozen fun a ha => S.fg.out (off a ha)
    have hi : i < ρ.length := (List.getElem?_eq_some_iff.mp hb).1
    obtain ⟨cs', r', p'⟩ := S2.rs.into (b := ⟨0, b.d⟩) (i := i) (by rw [List.getElem?_set_self hi]) e1 (ow0 rp)
    have p' : cs'.Perm cs1 := p'
    rw [List.set_set] at r'
    refine ⟨v, e1, q _ _ H cs' v w (fun _ => Sub.refl _) ⟨S2.fg, S2.gh, r', p'.nodup_iff.mpr S2.nd, fun a ha => S2.off a (p'.mem_iff.mp ha)⟩ ⟨[], ow0 rp, fun h => nomatch h⟩⟩
  · cases e
theorem de_move {i : Nat} {x : Str} (hN : X.N[i]? = some x) (hv : Vis X.env.scope x) (hd : (x == ("__debug__" : Str)) = false := by decide) (hcd : (x == ("__classdict__" : Str)) = false := by decide) :
    DE X true (.Name x pos) (mM i) := pe_imp (pe_var hN hv hd hcd) fun σ H Q ⟨F, G, ρ, cs, r, ρ', S, e, q⟩ => by
  unfold mM at e
  split at e
  · rename_i d hb
    cases e
    obtain ⟨v, c, cs1, e1, o, _, _⟩ := S.rs.out hb
    exact ⟨v, e1, q F G H cs v Fw.refl (fun _ => Sub.refl _) S ⟨c, o, fun h => nomatch h⟩⟩
  · rename_i k d hb
    cases e
    obtain ⟨v, c, cs1, e1, o, r1, p⟩ := S.rs.out hb
    have nd : (c ++ cs1).Nodup := p.nodup_iff.mp S.nd
    refine ⟨v, e1, q F G H cs1 v Fw.refl (fun _ => Sub.refl _) ⟨S.fg, S.gh, r1, (List.nodup_append.mp nd).2.1, fun a ha => S.off a (p.mem_iff.mpr (List.mem_append_right _ ha))⟩ ⟨c, o, fun _ => ⟨nd, fun a ha => S.off a (p.mem_iff.mpr (List.mem_append_left _ ha))⟩⟩⟩
  · cases e
end

/-! ### two operands -/
abbrev Op2 := Nat → D → Nat → D → Option (Nat × D)
def OpS (K : PySem.W.Frag) (mg : Str → Option Value) (r : R2) (f : Op2) : Prop := ∀ F G H x y ka da kb db ca cb k d Q, Sub F G → Sub G H →
  Ow K mg F H ka x da ca → Ow K mg F H kb y db cb → f ka da kb db = some (k, d) → New K mg F G H k d Q → r x y H Q
/-- a, then b (which changes nothing that stood) -/
def mBin (f : Op2) (ma mb : M R) : M R := fun ρ => match ma ρ with
  | some (ra, ρ1) => match mb ρ1 with
    | some (rb, ρ2) => match f ra.k ra.d rb.k rb.d with
      | some (k, d) => some (⟨true, k, d⟩, ρ2)
      | none => none
    | none => none
  | none => none
/-- a is laid down, then b -/
def mBinS (f : Op2) (ma mb : M R) : M R := fun ρ => match ma ρ with
  | some (ra, ρ1) => if (ra.fr || ra.k == 0) = true then match mb ρ1 with
      | some (rb, ρ2) => match f 0 ra.d rb.k rb.d with
        | some (k, d) => some (⟨true, k, d⟩, ρ2)
        | none => none
      | none => none
    else none
  | none => none
section
variable {X : Cx} {μ : Bool} {a b c : Expr} {ma mb mc : M R} {pos : Pos}
theorem tE_bin {r : R2} {f : Op2} (hs : OpS X.K X.mg r f) {σ : St} {H : Hp} {Q : VK} (h : tE X.K X.mg μ (mBin f ma mb) σ H Q) : tOp r (tE X.K X.mg μ ma) (tE X.K X.mg true mb) σ H Q := by
  obtain ⟨F, G, ρ, cs, rr, ρ', S, e, q⟩ := h
  unfold mBin at e
  split at e
  · rename_i ra ρ1 ea
    split at e
    · rename_i rb ρ2 eb
      split at e
      · rename_i k d ef
        cases e
        refine ⟨F, G, ρ, cs, ra, ρ1, S, ea, fun F1 G1 H1 cs1 x W1 mo1 S1 ⟨ca, oa, _⟩ => ⟨F1, G1, ρ1, cs1, rb, _, S1, eb, fun F2 G2 H2 cs2 y W2 mo2 S2 ⟨cb, ob, _⟩ => ?_⟩⟩
        refine hs F2 G2 H2 x y _ _ _ _ ca cb k d Q S2.fg S2.gh (oa.gr W2.f (mo2 rfl)) ob ef fun F3 G3 H3 v c g o nd hn => ?_
        obtain ⟨S3, sv⟩ := S2.new g o nd hn
        exact q F3 G3 H3 cs2 v (W1.trans (W2.trans (g.fw S2.fg S2.gh))) (fun hμ => (mo1 hμ).trans ((mo2 rfl).trans g.h)) S3 sv
      · cases e
    · cases e
  · cases e
theorem tE_binS {r : R2} {f : Op2} (hs : OpS X.K X.mg r f) {σ : St} {H : Hp} {Q : VK} (h : tE X.K X.mg μ (mBinS f ma mb) σ H Q) : tOp r (tE X.K X.mg μ ma) (tE X.K X.mg μ mb) σ H Q := by
  obtain ⟨F, G, ρ, cs, rr, ρ', S, e, q⟩ := h
  unfold mBinS at e
  split at e
  · rename_i ra ρ1 ea
    split at e
    · rename_i hfr
      split at e
      · rename_i rb ρ2 eb
        split at e
        · rename_i k d ef
          cases e
          refine ⟨F, G, ρ, cs, ra, ρ1, S, ea, fun F0 G0 H1 cs1 x W0 mo1 S0 sv0 => ?_⟩
          obtain ⟨F1, G1, S1, W1, rp⟩ := sv0.lay S0 hfr
          refine ⟨F1, G1, ρ1, cs1, rb, _, S1, eb, fun F2 G2 H2 cs2 y W2 mo2 S2 ⟨cb, ob, _⟩ => ?_⟩
          refine hs F2 G2 H2 x y _ _ _ _ [] cb k d Q S2.fg S2.gh (ow0 (rp.sub W2.f)) ob ef fun F3 G3 H3 v c g o nd hn => ?_
          obtain ⟨S3, sv⟩ := S2.new g o nd hn
          exact q F3 G3 H3 cs2 v (W0.trans (W1.trans (W2.trans (g.fw S2.fg S2.gh)))) (fun hμ => (mo1 hμ).trans ((mo2 hμ).trans g.h)) S3 sv
        · cases e
      · cases e
    · cases e
  · cases e
theorem de_bin {op : Operator} {r : R2} {f : Op2} (ho : OpR X (binaryOp op) r) (hs : OpS X.K X.mg r f) (ha : DE X μ a ma) (hb : DE X true b mb) : DE X μ (.BinOp a op b pos) (mBin f ma mb) :=
  pe_imp (pe_op ho ha hb) fun _ _ _ h => tE_bin hs h
theorem de_binS {op : Operator} {r : R2} {f : Op2} (ho : OpR X (binaryOp op) r) (hs : OpS X.K X.mg r f) (ha : DE X μ a ma) (hb : DE X μ b mb) : DE X μ (.BinOp a op b pos) (mBinS f ma mb) :=
  pe_imp (pe_op ho ha hb) fun _ _ _ h => tE_binS hs h
theorem de_cmp {op : CmpOp} {r : R2} {f : Op2} (ho : OpR X (compareOp op) r) (hs : OpS X.K X.mg r f) (ha : DE X μ a ma) (hb : DE X true b mb) (hm : behindInMarks op b = false := by first | exact nomark _ (by decide) (by decide) | rfl) : DE X μ (.Compare a [op] [b] pos) (mBin f ma mb) :=
  pe_imp (pe_cmpR ho ha hb hm) fun _ _ _ h => tE_bin hs h
theorem de_cmpS {op : CmpOp} {r : R2} {f : Op2} (ho : OpR X (compareOp op) r) (hs : OpS X.K X.mg r f) (ha : DE X μ a ma) (hb : DE X μ b mb) (hm : behindInMarks op b = false := by first | exact nomark _ (by decide) (by decide) | rfl) : DE X μ (.Compare a [op] [b] pos) (mBinS f ma mb) :=
  pe_imp (pe_cmpR ho ha hb hm) fun _ _ _ h => tE_binS hs h

/-! ### tests -/
/-- the truth of a value that is True or False -/
def mB (m : M R) : M Bool := fun ρ => match m ρ with
  | some (⟨_, 0, .bool b⟩, ρ1) => some (b, ρ1)
  | _ => none
theorem tT_B {m : M R} {σ : St} {H : Hp} {Q : Bool → Hp → Prop} (h : tT X.K X.mg μ (mB m) σ H Q) : tB (tE X.K X.mg μ m) σ H Q := by
  obtain ⟨F, G, ρ, cs, bb, ρ', S, e, q⟩ := h
  unfold mB at e
  split at e
  · rename_i fr b ρ1 em
    cases e
    refine ⟨F, G, ρ, cs, _, _, S, em, fun F' G' H' cs' v W mo S' ⟨c, o, _⟩ => ?_⟩
    obtain ⟨_, rp⟩ := o
    cases rp
    exact ⟨_, rfl, q F' G' H' cs' W mo S'⟩
  · cases e
theorem dt_cmp {op : CmpOp} {r : R2} {f : Op2} (ho : OpR X (compareOp op) r) (hs : OpS X.K X.mg r f) (ha : DE X μ a ma) (hb : DE X true b mb) (hm : behindInMarks op b = false := by first | exact nomark _ (by decide) (by decide) | rfl) : DT X μ (.Compare a [op] [b] pos) (mB (mBin f ma mb)) := by
  refine pt_imp (pt_cmpR ho ha hb hm) fun σ H Q h => ?_
  obtain ⟨F, G, ρ, cs, bb, ρ', S, e, q⟩ := h
  unfold mB at e
  split at e
  · rename_i fr b ρ1 em
    cases e
    refine tE_bin hs ⟨F, G, ρ, cs, _, _, S, em, fun F' G' H' cs' v W mo S' ⟨c, o, _⟩ => ?_⟩
    obtain ⟨_, rp⟩ := o
    cases rp
    exact ⟨_, rfl, q F' G' H' cs' W mo S'⟩
  · cases e
theorem dt_cmpS {op : CmpOp} {r : R2} {f : Op2} (ho : OpR X (compareOp op) r) (hs : OpS X.K X.mg r f) (ha : DE X μ a ma) (hb : DE X μ b mb) (hm : behindInMarks op b = false := by first | exact nomark _ (by decide) (by decide) | rfl) : DT X μ (.Compare a [op] [b] pos) (mB (mBinS f ma mb)) := by
  refine pt_imp (pt_cmpR ho ha hb hm) fun σ H Q h => ?_
  obtain ⟨F, G, ρ, cs, bb, ρ', S, e, q⟩ := h
  unfold mB at e
  split at e
  · rename_i fr b ρ1 em
    cases e
    refine tE_binS hs ⟨F, G, ρ, cs, _, _, S, em, fun F' G' H' cs' v W mo S' ⟨c, o, _⟩ => ?_⟩
    obtain ⟨_, rp⟩ := o
    cases rp
    exact ⟨_, rfl, q F' G' H' cs' W mo S'⟩
  · cases e
/-- an expression that is no comparison, and, or, not -/
theorem dt_val {e : Expr} {m : M R} (h : DE X μ e m) (he : ∀ whole, isTrue e X.env whole = (do let v ← whole; standAt e.pos; holding [v] (truthy v)) := by intro _; rfl) : DT X μ e (mB m) :=
  pt_imp (pt_val h he) fun _ _ _ h => tT_B h
def mNotT (m : M Bool) : M Bool := fun ρ => match m ρ with
  | some (b, ρ1) => some (!b, ρ1)
  | none => none
theorem dt_not {m : M Bool} (h : DT X μ a m) : DT X μ (.UnaryOp .Not a pos) (mNotT m) := pt_imp (pt_not h) fun σ H Q ⟨F, G, ρ, cs, bb, ρ', S, e, q⟩ => by
  unfold mNotT at e
  split at e
  · rename_i b ρ1 em
    cases e
    exact ⟨F, G, ρ, cs, _, _, S, em, q⟩
  · cases e
def mAndT (ma mb : M Bool) : M Bool := fun ρ => match ma ρ with
  | some (true, ρ1) => mb ρ1
  | some (false, ρ1) => some (false, ρ1)
  | none => none
def mOrT (ma mb : M Bool) : M Bool := fun ρ => match ma ρ with
  | some (true, ρ1) => some (true, ρ1)
  | some (false, ρ1) => mb ρ1
  | none => none
theorem dw_and1 {m : M Bool} (h : DT X μ a m) : DW X μ (.BoolOp .And [a] pos) m := pw_and1 h
theorem dw_or1 {m : M Bool} (h : DT X μ a m) : DW X μ (.BoolOp .Or [a] pos) m := pw_or1 h
theorem dw_and {t u : M Bool} {rest : List Expr} (h : DT X μ a t) (h' : DW X μ (.BoolOp .And (b :: rest) pos) u) : DW X μ (.BoolOp .And (a :: b :: rest) pos) (mAndT t u) :=
  pw_imp (pw_and h h') fun σ H Q ⟨F, G, ρ, cs, bb, ρ', S, e, q⟩ => by
    unfold mAndT at e
    split at e
    · rename_i ρ1 em
      exact ⟨F, G, ρ, cs, _, _, S, em, fun F1 G1 H1 cs1 W mo S1 => by
        simp only [if_true]
        exact ⟨F1, G1, _, cs1, _, _, S1, e, fun F2 G2 H2 cs2 W2 mo2 S2 => q F2 G2 H2 cs2 (W.trans W2) (fun h => (mo h).trans (mo2 h)) S2⟩⟩
    · rename_i ρ1 em
      cases e
      exact ⟨F, G, ρ, cs, _, _, S, em, fun F1 G1 H1 cs1 W mo S1 => by
        simp only [Bool.false_eq_true, if_false]
        exact q F1 G1 H1 cs1 W mo S1⟩
    · cases e
theorem dw_or {t u : M Bool} {rest : List Expr} (h : DT X μ a t) (h' : DW X μ (.BoolOp .Or (b :: rest) pos) u) : DW X μ (.BoolOp .Or (a :: b :: rest) pos) (mOrT t u) :=
  pw_imp (pw_or h h') fun σ H Q ⟨F, G, ρ, cs, bb, ρ', S, e, q⟩ => by
    unfold mOrT at e
    split at e
    · rename_i ρ1 em
      cases e
      exact ⟨F, G, ρ, cs, _, _, S, em, fun F1 G1 H1 cs1 W mo S1 => by
        simp only [if_true]
        exact q F1 G1 H1 cs1 W mo S1⟩
    · rename_i ρ1 em
      exact ⟨F, G, ρ, cs, _, _, S, em, fun F1 G1 H1 cs1 W mo S1 => by
        simp only [Bool.false_eq_true, if_false]
        exact ⟨F1, G1, _, cs1, _, _, S1, e, fun F2 G2 H2 cs2 W2 mo2 S2 => q F2 G2 H2 cs2 (W.trans W2) (fun h => (mo h).trans (mo2 h)) S2⟩⟩
    · cases e
theorem dt_bool {e : Expr} {m : M Bool} (h : DW X μ e m) : DT X μ e m := h.pt
/-! .. as values -/
def mAndV (ma mb : M R) : M R := fun ρ => match ma ρ with
  | some (⟨_, 0, .bool true⟩, ρ1) => mb ρ1
  | some (⟨_, 0, .bool false⟩, ρ1) => some (⟨false, 0, .bool false⟩, ρ1)
  | _ => none
def mOrV (ma mb : M R) : M R := fun ρ => match ma ρ with
  | some (⟨_, 0, .bool true⟩, ρ1) => some (⟨false, 0, .bool true⟩, ρ1)
  | some (⟨_, 0, .bool false⟩, ρ1) => mb ρ1
  | _ => none
def mNotV (ma : M R) : M R := fun ρ => match ma ρ with
  | some (⟨_, 0, .bool b⟩, ρ1) => some (⟨false, 0, .bool !b⟩, ρ1)
  | _ => none
theorem de_one {op : BoolOp} {m : M R} (h : DE X μ a m) : DE X μ (.BoolOp op [a] pos) m := pe_one h
theorem de_and {rest : List Expr} (h : DE X μ a ma) (h' : DE X μ (.BoolOp .And (b :: rest) pos) mb) : DE X μ (.BoolOp .And (a :: b :: rest) pos) (mAndV ma mb) :=
  pe_imp (pe_and h h') fun σ H Q ⟨F, G, ρ, cs, bb, ρ', S, e, q⟩ => by
    unfold mAndV at e
    split at e
    · rename_i fr ρ1 em
      refine ⟨F, G, ρ, cs, _, _, S, em, fun F1 G1 H1 cs1 v W mo S1 ⟨c, o, _⟩ => ?_⟩
      obtain ⟨_, rp⟩ := o
      cases rp
      refine ⟨_, rfl, ?_⟩
      simp only [if_true]
      exact ⟨F1, G1, _, cs1, _, _, S1, e, fun F2 G2 H2 cs2 v W2 mo2 S2 sv => q F2 G2 H2 cs2 v (W.trans W2) (fun h => (mo h).trans (mo2 h)) S2 sv⟩
    · rename_i fr ρ1 em
      cases e
      refine ⟨F, G, ρ, cs, _, _, S, em, fun F1 G1 H1 cs1 v W mo S1 ⟨c, o, _⟩ => ?_⟩
      obtain ⟨_, rp⟩ := o
      cases rp
      refine ⟨_, rfl, ?_⟩
      simp only [Bool.false_eq_true, if_false]
      exact q F1 G1 H1 cs1 _ W mo S1 ⟨[], ow0 (.bl _), fun h => nomatch h⟩
    · cases e
theorem de_or {rest : List Expr} (h : DE X μ a ma) (h' : DE X μ (.BoolOp .Or (b :: rest) pos) mb) : DE X μ (.BoolOp .Or (a :: b :: rest) pos) (mOrV ma mb) :=
  pe_imp (pe_or h h') fun σ H Q ⟨F, G, ρ, cs, bb, ρ', S, e, q⟩ => by
    unfold mOrV at e
    split at e
    · rename_i fr ρ1 em
      cases e
      refine ⟨F, G, ρ, cs, _, _, S, em, fun F1 G1 H1 cs1 v W mo S1 ⟨c, o, _⟩ => ?_⟩
      obtain ⟨_, rp⟩ := o
      cases rp
      refine ⟨_, rfl, ?_⟩
      simp only [if_true]
      exact q F1 G1 H1 cs1 _ W mo S1 ⟨[], ow0 (.bl _), fun h => nomatch h⟩
    · rename_i fr ρ1 em
      refine ⟨F, G, ρ, cs, _, _, S, em, fun F1 G1 H1 cs1 v W mo S1 ⟨c, o, _⟩ => ?_⟩
      obtain ⟨_, rp⟩ := o
      cases rp
      refine ⟨_, rfl, ?_⟩
      simp only [Bool.false_eq_true, if_false]
      exact ⟨F1, G1, _, cs1, _, _, S1, e, fun F2 G2 H2 cs2 v W2 mo2 S2 sv => q F2 G2 H2 cs2 v (W.trans W2) (fun h => (mo h).trans (mo2 h)) S2 sv⟩
    · cases e
theorem de_not (h : DE X μ a ma) : DE X μ (.UnaryOp .Not a pos) (mNotV ma) :=
  pe_imp (pe_not h) fun σ H Q ⟨F, G, ρ, cs, bb, ρ', S, e, q⟩ => by
    unfold mNotV at e
    split at e
    · rename_i fr b ρ1 em
      cases e
      refine ⟨F, G, ρ, cs, _, _, S, em, fun F1 G1 H1 cs1 v W mo S1 ⟨c, o, _⟩ => ?_⟩
      obtain ⟨_, rp⟩ := o
      cases rp
      exact ⟨_, rfl, q F1 G1 H1 cs1 _ W mo S1 ⟨[], ow0 (.bl _), fun h => nomatch h⟩⟩
    · cases e
def mIf (t : M Bool) (ma mb : M R) : M R := fun ρ => match t ρ with
  | some (true, ρ1) => ma ρ1
  | some (false, ρ1) => mb ρ1
  | none => none
theorem de_if {t : M Bool} (ht : DT X μ c t) (ha : DE X μ a ma) (hb : DE X μ b mb) : DE X μ (.IfExp c a b pos) (mIf t ma mb) :=
  pe_imp (pe_ifExp ht ha hb) fun σ H Q ⟨F, G, ρ, cs, bb, ρ', S, e, q⟩ => by
    unfold mIf at e
    split at e
    · rename_i ρ1 em
      refine ⟨F, G, ρ, cs, _, _, S, em, fun F1 G1 H1 cs1 W mo S1 => ?_⟩
      simp only [if_true]
      exact ⟨F1, G1, _, cs1, _, _, S1, e, fun F2 G2 H2 cs2 v W2 mo2 S2 sv => q F2 G2 H2 cs2 v (W.trans W2) (fun h => (mo h).trans (mo2 h)) S2 sv⟩
    · rename_i ρ1 em
      refine ⟨F, G, ρ, cs, _, _, S, em, fun F1 G1 H1 cs1 W mo S1 => ?_⟩
      simp only [Bool.false_eq_true, if_false]
      exact ⟨F1, G1, _, cs1, _, _, S1, e, fun F2 G2 H2 cs2 v W2 mo2 S2 sv => q F2 G2 H2 cs2 v (W.trans W2) (fun h => (mo h).trans (mo2 h)) S2 sv⟩
    · cases e

/-! ### one operand -/
def Un1 := Nat → D → Option (Nat × D)
def UnS (K : PySem.W.Frag) (mg : Str → Option Value) (r : V → Hp → VK → Prop) (f : Nat → D → Option (Nat × D)) : Prop := ∀ F G H x ka da ca k d Q, Sub F G → Sub G H →
  Ow K mg F H ka x da ca → f ka da = some (k, d) → New K mg F G H k d Q → r x H Q
def mUn (f : Nat → D → Option (Nat × D)) (ma : M R) : M R := fun ρ => match ma ρ with
  | some (ra, ρ1) => match f ra.k ra.d with
    | some (k, d) => some (⟨true, k, d⟩, ρ1)
    | none => none
  | none => none
theorem tE_un {r : V → Hp → VK → Prop} {f : Nat → D → Option (Nat × D)} (hs : UnS X.K X.mg r f) {σ : St} {H : Hp} {Q : VK} (h : tE X.K X.mg μ (mUn f ma) σ H Q) : tE X.K X.mg μ ma σ H fun x H1 => r x H1 Q := by
  obtain ⟨F, G, ρ, cs, rr, ρ', S, e, q⟩ := h
  unfold mUn at e
  split at e
  · rename_i ra ρ1 ea
    split at e
    · rename_i k d ef
      cases e
      refine ⟨F, G, ρ, cs, ra, _, S, ea, fun F1 G1 H1 cs1 x W1 mo1 S1 ⟨ca, oa, _⟩ => ?_⟩
      refine hs F1 G1 H1 x _ _ ca k d Q S1.fg S1.gh oa ef fun F3 G3 H3 v c g o nd hn => ?_
      obtain ⟨S3, sv⟩ := S1.new g o nd hn
      exact q F3 G3 H3 cs1 v (W1.trans (g.fw S1.fg S1.gh)) (fun hμ => (mo1 hμ).trans g.h) S3 sv
    · cases e
  · cases e
theorem de_un {op : UnaryOp} {r : V → Hp → VK → Prop} {f : Nat → D → Option (Nat × D)} (ho : UnR X (unaryOp op) r) (hs : UnS X.K X.mg r f) (ha : DE X μ a ma) : DE X μ (.UnaryOp op a pos) (mUn f ma) :=
  pe_imp (pe_un ho ha) fun _ _ _ h => tE_un hs h
/-- f(e), f a built-in function of one argument -/
def CallS1 (K : PySem.W.Frag) (mg : Str → Option Value) (r : List V → Hp → VK → Prop) (f : Nat → D → Option (Nat × D)) : Prop := UnS K mg (fun x => r [x]) f
theorem de_fn1 {r : List V → Hp → VK → Prop} {f : Nat → D → Option (Nat × D)} {id : String} {x : Str} {p : Pos} (ho : CallR X (.builtin id) r) (hs : CallS1 X.K X.mg r f) (hm : X.mg x = none) (hv : bootBuiltins x = some (.builtin id)) (ha : DE X μ a ma)
    (hg : Gl X x := by rfl) (hn : x ≠ "__name__" := by decide) (hdb : (x == ("__debug__" : Str)) = false := by decide)
    (hst : starEach [a] X.env = (false, eval a X.env) :: starEach [] X.env := by rfl) : DE X μ (.Call (.Name x p) [a] [] pos) (mUn f ma) :=
  pe_imp (pe_callB ho hg hm hv (pa_cons ha pa_nil hst) hn hdb hst (by rfl)) fun _ _ _ h => tE_un (r := fun x => r [x]) hs h
theorem de_ty1 {r : List V → Hp → VK → Prop} {f : Nat → D → Option (Nat × D)} {id : String} {x : Str} {p : Pos} (ho : CallR X (.type id) r) (hs : CallS1 X.K X.mg r f) (hm : X.mg x = none) (hv : bootBuiltins x = some (.type id)) (ha : DE X μ a ma)
    (hg : Gl X x := by rfl) (hn : x ≠ "__name__" := by decide) (hdb : (x == ("__debug__" : Str)) = false := by decide)
    (hst : starEach [a] X.env = (false, eval a X.env) :: starEach [] X.env := by rfl) : DE X μ (.Call (.Name x p) [a] [] pos) (mUn f ma) :=
  pe_imp (pe_callTy ho hg hm hv (pa_cons ha pa_nil hst) hn hdb hst (by rfl)) fun _ _ _ h => tE_un (r := fun x => r [x]) hs h
/-- two arguments -/
def CallS2 (K : PySem.W.Frag) (mg : Str → Option Value) (r : List V → Hp → VK → Prop) (f : Op2) : Prop := OpS K mg (fun x y => r [x, y]) f
theorem de_fn2 {r : List V → Hp → VK → Prop} {f : Op2} {id : String} {x : Str} {p : Pos} (ho : CallR X (.builtin id) r) (hs : CallS2 X.K X.mg r f) (hm : X.mg x = none) (hv : bootBuiltins x = some (.builtin id)) (ha : DE X μ a ma) (hb : DE X μ b mb)
    (hg : Gl X x := by rfl) (hn : x ≠ "__name__" := by decide) (hdb : (x == ("__debug__" : Str)) = false := by decide)
    (hst : starEach [a, b] X.env = (false, eval a X.env) :: starEach [b] X.env := by rfl) (hst2 : starEach [b] X.env = (false, eval b X.env) :: starEach [] X.env := by rfl) (hpl : (backTo pos (starEach [b] X.env)).any (·.1) = false := by rfl) : DE X μ (.Call (.Name x p) [a, b] [] pos) (mBinS f ma mb) :=
  pe_imp (pe_callB ho hg hm hv (pa_cons ha (pa_cons hb pa_nil hst2) hst) hn hdb hst hpl) fun _ _ _ h => tE_binS (r := fun x y => r [x, y]) hs h
end
end Lk

set_option Elab.async false
set_option linter.all false
set_option maxRecDepth 100000
/-! LkD: statements over the store, a def's contract, its call. -/
namespace Lk
open PySem L2 PySem.Spec

/-- how a statement ends -/
inductive Fl where
  | nx | bk | ct
  | rt (r : R)

section defs
variable (K : PySem.W.Frag) (mg : Str → Option Value)
def Fin (D : Ends) (F' G' : Hp) (cs' : List Addr) (σ' : St) (H' : Hp) : Fl → Prop
  | .nx => D.nx σ' H'
  | .bk => D.bk σ' H'
  | .ct => D.ct σ' H'
  | .rt r => ∀ v, SV K mg F' G' H' cs' r v → D.rt v H'
/-- a statement's reading; pr: the slots that no statement stores -/
def tS (pr : List Nat) (m : M Fl) : TS := fun D σ H => ∃ F G ρ cs fl ρ', SR K mg F G H ρ σ cs ∧ m ρ = some (fl, ρ') ∧
  ∀ F' G' H' σ' cs', Fw F G F' G' → (∀ i ∈ pr, σ'[i]? = σ[i]?) → SR K mg F' G' H' ρ' σ' cs' → Fin K mg D F' G' cs' σ' H' fl
end defs
def DS (X : Cx) (pr : List Nat) (st : Stmt) (m : M Fl) : Prop := PS X st (tS X.K X.mg pr m)
def DSs (X : Cx) (pr : List Nat) (sts : List Stmt) (m : M Fl) : Prop := PSs X sts (tS X.K X.mg pr m)

section
variable {X : Cx} {pr : List Nat} {K : PySem.W.Frag} {mg : Str → Option Value} {F G H : Hp}
theorem ps_imp {e : Stmt} {t t' : TS} (h : PS X e t) (hi : ∀ D σ H, t' D σ H → t D σ H) : PS X e t' := ⟨fun pins s σ H D I q => h.run pins s σ H D I (hi D σ H q)⟩
theorem pss_imp {e : List Stmt} {t t' : TS} (h : PSs X e t) (hi : ∀ D σ H, t' D σ H → t D σ H) : PSs X e t' := ⟨fun pins s σ H D I q => h.run pins s σ H D I (hi D σ H q)⟩

/-! ### blocks -/
def mNx : M Fl := fun ρ => some (.nx, ρ)
def mSeq (m n : M Fl) : M Fl := fun ρ => match m ρ with
  | some (.nx, ρ1) => n ρ1
  | some (.bk, ρ1) => some (.bk, ρ1)
  | some (.ct, ρ1) => some (.ct, ρ1)
  | some (.rt r, ρ1) => some (.rt r, ρ1)
  | none => none
theorem tS_nx {D : Ends} {σ : St} {H : Hp} (h : tS K mg pr mNx D σ H) : D.nx σ H := by
  obtain ⟨F, G, ρ, cs, fl, ρ', S, e, q⟩ := h
  cases e
  exact q F G H σ cs Fw.refl (fun _ _ => rfl) S
theorem dss_nil : DSs X pr [] mNx := pss_imp pss_nil fun _ _ _ h => tS_nx h
theorem ds_pass {pos : Pos} : DS X pr (.Pass pos) mNx := ps_imp ps_pass fun _ _ _ h => tS_nx h
theorem ds_doc {x : Str} {j : Nat} {pos pos' : Pos} : DS X pr (.Expr (.Constant (.str x) j pos) pos') mNx := ps_imp ps_doc fun _ _ _ h => tS_nx h
def mBk : M Fl := fun ρ => some (.bk, ρ)
def mCt : M Fl := fun ρ => some (.ct, ρ)
theorem ds_break {pos : Pos} : DS X pr (.Break pos) mBk := ps_imp ps_break fun D σ H ⟨F, G, ρ, cs, fl, ρ', S, e, q⟩ => by
  cases e
  exact q F G H σ cs Fw.refl (fun _ _ => rfl) S
theorem ds_continue {pos : Pos} : DS X pr (.Continue pos) mCt := ps_imp ps_continue fun D σ H ⟨F, G, ρ, cs, fl, ρ', S, e, q⟩ => by
  cases e
  exact q F G H σ cs Fw.refl (fun _ _ => rfl) S
theorem tS_seq {m n : M Fl} {D : Ends} {σ : St} {H : Hp} (h : tS K mg pr (mSeq m n) D σ H) : tSeq (tS K mg pr m) (tS K mg pr n) D σ H := by
  obtain ⟨F, G, ρ, cs, fl, ρ', S, e, q⟩ := h
  unfold mSeq at e
  split at e
  · rename_i ρ1 em
    exact ⟨F, G, ρ, cs, _, _, S, em, fun F1 G1 H1 σ1 cs1 W1 p1 S1 => ⟨F1, G1, _, cs1, _, _, S1, e, fun F2 G2 H2 σ2 cs2 W2 p2 S2 => q F2 G2 H2 σ2 cs2 (W1.trans W2) (fun i hi => (p2 i hi).trans (p1 i hi)) S2⟩⟩
  · rename_i ρ1 em
    cases e
    exact ⟨F, G, ρ, cs, _, _, S, em, q⟩
  · rename_i ρ1 em
    cases e
    exact ⟨F, G, ρ, cs, _, _, S, em, q⟩
  · rename_i r ρ1 em
    cases e
    exact ⟨F, G, ρ, cs, _, _, S, em, q⟩
  · cases e
theorem dss_cons {st : Stmt} {rest : List Stmt} {m n : M Fl} (h : DS X pr st m) (h' : DSs X pr rest n) : DSs X pr (st :: rest) (mSeq m n) := pss_imp (pss_cons h h') fun _ _ _ h => tS_seq h
theorem dss_one {st : Stmt} {m : M Fl} (h : DS X pr st m) : DSs X pr [st] m := pss_one h

/-! ### small statements -/
/-- a result comes to a slot -/
def stor (i : Nat) (r : R) (ρ : Sto) : Option Sto := if (r.fr || r.k == 0) = true then (match ρ[i]? with
  | some _ => some (ρ.set i (some ⟨r.k, r.d⟩))
  | none => none) else none
theorem stor_okc {ρ ρ' : Sto} {σ : St} {cs c : List Addr} {r : R} {v : V} {i : Nat} (S : SR K mg F G H ρ σ cs) (o : Ow K mg F H r.k v r.d c) (hf : r.fr = true → (c ++ cs).Nodup ∧ ∀ a ∈ c, G a = none) (e : stor i r ρ = some ρ') : ∃ cs', SR K mg F G H ρ' (σ.set i (some v)) cs' ∧ ∀ a ∈ cs', a ∈ cs ∨ a ∈ c := by
  unfold stor at e
  split at e
  · rename_i hfr
    split at e
    · rename_i b hb
      cases e
      have hi : i < ρ.length := (List.getElem?_eq_some_iff.mp hb).1
      have hiσ : i < σ.length := by rw [← S.rs.length]; exact hi
      -- the slot is emptied first
      have clear : ∃ cs1, RS K mg F H (ρ.set i none) σ cs1 ∧ (∃ c0, cs.Perm (c0 ++ cs1)) := by
        cases b with
        | none =>
          refine ⟨cs, ?_, [], List.Perm.refl _⟩
          have : ρ.set i none = ρ := by
            apply List.ext_getElem?
            intro j
            by_cases hj : i = j
            · subst hj; rw [List.getElem?_set_self hi, hb]
            · rw [List.getElem?_set_ne hj]
          rw [this]; exact S.rs
        | some b =>
          obtain ⟨_, c0, cs1, _, _, r1, p⟩ := S.rs.out hb
          exact ⟨cs1, r1, c0, p⟩
      obtain ⟨cs1, r1, c0, p⟩ := clear
      have nd1 : (c0 ++ cs1).Nodup := p.nodup_iff.mp S.nd
      have r2 := r1.forget (some v) (i := i) (by rw [List.getElem?_set_self hi])
      obtain ⟨cs', r3, p'⟩ := r2.into (b := ⟨r.k, r.d⟩) (i := i) (by rw [List.getElem?_set_self hi]) (by rw [List.getElem?_set_self hiσ]) o
      rw [List.set_set] at r3
      have sub1 : ∀ a ∈ cs1, a ∈ cs := fun a ha => p.mem_iff.mpr (List.mem_append_right _ ha)
      have both : (c ++ cs1).Nodup ∧ ∀ a ∈ c, G a = none := by
        by_cases hk : r.k = 0
        · rw [hk] at o
          obtain ⟨rfl, _⟩ := o
          exact ⟨by simpa using (List.nodup_append.mp nd1).2.1, fun a ha => nomatch ha⟩
        · have fr : r.fr = true := by
            cases e : r.fr with
            | true => rfl
            | false => rw [e] at hfr; simp at hfr; exact absurd hfr hk
          obtain ⟨nd, off⟩ := hf fr
          obtain ⟨n1, n2, n3⟩ := List.nodup_append.mp nd
          exact ⟨List.nodup_append.mpr ⟨n1, (List.nodup_append.mp nd1).2.1, fun a ha b hb => n3 a ha b (sub1 b hb)⟩, off⟩
      refine ⟨cs', ⟨S.fg, S.gh, r3, p'.nodup_iff.mpr both.1, fun a ha => ?_⟩, fun a ha => ?_⟩
      · rcases List.mem_append.mp (p'.mem_iff.mp ha) with h | h
        · exact both.2 a h
        · exact S.off a (sub1 a h)
      · rcases List.mem_append.mp (p'.mem_iff.mp ha) with h | h
        · exact .inr h
        · exact .inl (sub1 a h)
    · cases e
  · cases e
theorem stor_ok {ρ ρ' : Sto} {σ : St} {cs : List Addr} {r : R} {v : V} {i : Nat} (S : SR K mg F G H ρ σ cs) (x : SV K mg F G H cs r v) (e : stor i r ρ = some ρ') : ∃ cs', SR K mg F G H ρ' (σ.set i (some v)) cs' ∧ True := by
  obtain ⟨c, o, hf⟩ := x
  obtain ⟨cs', S', _⟩ := stor_okc S o hf e
  exact ⟨cs', S', trivial⟩
def mSet (i : Nat) (m : M R) : M Fl := fun ρ => match m ρ with
  | some (r, ρ1) => match stor i r ρ1 with
    | some ρ2 => some (.nx, ρ2)
    | none => none
  | none => none
theorem set_pr {σ : St} {i j : Nat} {o : Option V} (h : i ∉ pr) (hj : j ∈ pr) : (σ.set i o)[j]? = σ[j]? := List.getElem?_set_ne (fun (e : i = j) => h (by rw [e]; exact hj))
theorem tS_set {i : Nat} {m : M R} {D : Ends} {σ : St} {H : Hp} {μ : Bool} (hi : i ∉ pr) (h : tS K mg pr (mSet i m) D σ H) : tE K mg μ m σ H fun x H1 => gName i x σ H1 D.nx := by
  obtain ⟨F, G, ρ, cs, fl, ρ', S, e, q⟩ := h
  unfold mSet at e
  split at e
  · rename_i r ρ1 em
    split at e
    · rename_i ρ2 es
      cases e
      refine ⟨F, G, ρ, cs, _, _, S, em, fun F1 G1 H1 cs1 v W mo S1 sv => ?_⟩
      obtain ⟨cs', S2, _⟩ := stor_ok S1 sv es
      exact q F1 G1 H1 _ cs' W (fun j hj => set_pr hi hj) S2
    · cases e
  · cases e
theorem ds_set {i : Nat} {x : Str} {p pos : Pos} {e : Expr} {m : M R} {μ : Bool} (nd : X.N.Nodup) (hN : X.N[i]? = some x) (hx : Loc X.env.scope x) (hi : i ∉ pr) (he : DE X μ e m)
    (hs : swapsWithSole [.Name x p] e pos.line X.env = pure false := by rfl) (hw : swappedStores [.Name x p] e X.env = pure none := by rfl)
    (h1 : (assignEach [.Name x p] X.env).map (·.2) = [assign (.Name x p) X.env] := by rfl) (hf : X.fn x = true ∨ X.env.scope.names.lookup x = some .local := by first | exact .inl rfl | exact .inr rfl | assumption) : DS X pr (.Assign [.Name x p] e pos) (mSet i m) :=
  ps_imp (ps_asg he (pg_name nd hN hx hf) hs hw h1) fun _ _ _ h => tS_set hi h
def mDrop (m : M R) : M Fl := fun ρ => match m ρ with
  | some (_, ρ1) => some (.nx, ρ1)
  | none => none
theorem ds_expr {e : Expr} {m : M R} {pos : Pos} {μ : Bool} (he : DE X μ e m) (hs : swapsWith e none pos.line X.env = pure false := by rfl) : DS X pr (.Expr e pos) (mDrop m) :=
  ps_imp (ps_expr he hs) fun D σ H ⟨F, G, ρ, cs, fl, ρ', S, e, q⟩ => by
    unfold mDrop at e
    split at e
    · rename_i r ρ1 em
      cases e
      exact ⟨F, G, ρ, cs, _, _, S, em, fun F1 G1 H1 cs1 v W mo S1 sv => q F1 G1 H1 σ cs1 W (fun _ _ => rfl) S1⟩
    · cases e
def mRet (m : M R) : M Fl := fun ρ => match m ρ with
  | some (r, ρ1) => some (.rt r, ρ1)
  | none => none
theorem ds_ret {e : Expr} {m : M R} {pos : Pos} {μ : Bool} (he : DE X μ e m) : DS X pr (.Return (some e) pos) (mRet m) :=
  ps_imp (ps_ret he) fun D σ H ⟨F, G, ρ, cs, fl, ρ', S, e, q⟩ => by
    unfold mRet at e
    split at e
    · rename_i r ρ1 em
      cases e
      exact ⟨F, G, ρ, cs, _, _, S, em, fun F1 G1 H1 cs1 v W mo S1 sv => q F1 G1 H1 σ cs1 W (fun _ _ => rfl) S1 v sv⟩
    · cases e
/-- a statement that is never reached -/
def mNo {α : Type} : M α := fun _ => none
theorem ds_never {st : Stmt} : DS X pr st mNo := ⟨fun pins s σ H D I ⟨F, G, ρ, cs, fl, ρ', S, e, q⟩ => by cases e⟩
def mCond (t : M Bool) (a b : M Fl) : M Fl := fun ρ => match t ρ with
  | some (true, ρ1) => a ρ1
  | some (false, ρ1) => b ρ1
  | none => none
theorem ds_if {c : Expr} {body orelse : List Stmt} {t : M Bool} {a b : M Fl} {pos : Pos} {μ : Bool} (hc : DT X μ c t) (ha : DSs X pr body a) (hb : DSs X pr orelse b) : DS X pr (.If c body orelse pos) (mCond t a b) :=
  ps_imp (ps_if hc ha hb) fun D σ H ⟨F, G, ρ, cs, fl, ρ', S, e, q⟩ => by
    unfold mCond at e
    split at e
    · rename_i ρ1 em
      refine ⟨F, G, ρ, cs, _, _, S, em, fun F1 G1 H1 cs1 W mo S1 => ?_⟩
      simp only [if_true]
      exact ⟨F1, G1, _, cs1, _, _, S1, e, fun F2 G2 H2 σ2 cs2 W2 p2 S2 => q F2 G2 H2 σ2 cs2 (W.trans W2) p2 S2⟩
    · rename_i ρ1 em
      refine ⟨F, G, ρ, cs, _, _, S, em, fun F1 G1 H1 cs1 W mo S1 => ?_⟩
      simp only [Bool.false_eq_true, if_false]
      exact ⟨F1, G1, _, cs1, _, _, S1, e, fun F2 G2 H2 σ2 cs2 W2 p2 S2 => q F2 G2 H2 σ2 cs2 (W.trans W2) p2 S2⟩
    · cases e

/-! ### while: at most so many turns -/
def mWhile : Nat → M Bool → M Fl → M Fl
  | 0, _, _ => mNo
  | n + 1, c, b => fun ρ => match c ρ with
    | some (false, ρ1) => some (.nx, ρ1)
    | some (true, ρ1) => match b ρ1 with
      | some (.nx, ρ2) => mWhile n c b ρ2
      | some (.ct, ρ2) => mWhile n c b ρ2
      | some (.bk, ρ2) => some (.nx, ρ2)
      | some (.rt r, ρ2) => some (.rt r, ρ2)
      | none => none
    | none => none
theorem tS_while {c : M Bool} {b : M Fl} {μ : Bool} : ∀ (n : Nat) {D : Ends} {σ : St} {H : Hp}, tS K mg pr (mWhile n c b) D σ H → tWhile (tT K mg μ c) (tS K mg pr b) D σ H := by
  intro n D σ H h
  obtain ⟨F, G, ρ, cs, fl, ρ', S, e, q⟩ := h
  refine ⟨fun k σ1 H1 => ∃ F1 G1 ρ1 cs1, Fw F G F1 G1 ∧ (∀ i ∈ pr, σ1[i]? = σ[i]?) ∧ SR K mg F1 G1 H1 ρ1 σ1 cs1 ∧ mWhile k c b ρ1 = some (fl, ρ'), ⟨n, F, G, ρ, cs, Fw.refl, fun _ _ => rfl, S, e⟩, ?_⟩
  rintro k σ1 H1 ⟨F1, G1, ρ1, cs1, W1, p1, S1, e1⟩
  cases k with
  | zero => cases e1
  | succ k =>
    unfold mWhile at e1
    split at e1
    · rename_i ρ2 ec
      cases e1
      refine ⟨F1, G1, ρ1, cs1, _, _, S1, ec, fun F2 G2 H2 cs2 W2 mo S2 => ?_⟩
      simp only [Bool.false_eq_true, if_false]
      exact q F2 G2 H2 σ1 cs2 (W1.trans W2) p1 S2
    · rename_i ρ2 ec
      refine ⟨F1, G1, ρ1, cs1, _, _, S1, ec, fun F2 G2 H2 cs2 W2 mo S2 => ?_⟩
      simp only [if_true]
      have again : ∀ {ρ3 : Sto}, mWhile k c b ρ3 = some (fl, ρ') → ∀ F3 G3 H3 σ3 cs3, Fw F2 G2 F3 G3 → (∀ i ∈ pr, σ3[i]? = σ1[i]?) → SR K mg F3 G3 H3 ρ3 σ3 cs3 →
          ∃ m', m' < k + 1 ∧ ∃ F1 G1 ρ1 cs1, Fw F G F1 G1 ∧ (∀ i ∈ pr, σ3[i]? = σ[i]?) ∧ SR K mg F1 G1 H3 ρ1 σ3 cs1 ∧ mWhile m' c b ρ1 = some (fl, ρ') := fun {ρ3} e3 F3 G3 H3 σ3 cs3 W3 p3 S3 =>
        ⟨k, Nat.lt_succ_self _, F3, G3, ρ3, cs3, W1.trans (W2.trans W3), fun i hi => (p3 i hi).trans (p1 i hi), S3, e3⟩
      refine ⟨fun σ3 H3 => ∃ m', m' < k + 1 ∧ ∃ F1 G1 ρ1 cs1, Fw F G F1 G1 ∧ (∀ i ∈ pr, σ3[i]? = σ[i]?) ∧ SR K mg F1 G1 H3 ρ1 σ3 cs1 ∧ mWhile m' c b ρ1 = some (fl, ρ'), fun σ' H' hn => hn, ?_⟩
      split at e1
      · rename_i ρ3 eb
        exact ⟨F2, G2, _, cs2, _, _, S2, eb, fun F3 G3 H3 σ3 cs3 W3 p3 S3 => again e1 F3 G3 H3 σ3 cs3 W3 p3 S3⟩
      · rename_i ρ3 eb
        exact ⟨F2, G2, _, cs2, _, _, S2, eb, fun F3 G3 H3 σ3 cs3 W3 p3 S3 => again e1 F3 G3 H3 σ3 cs3 W3 p3 S3⟩
      · rename_i ρ3 eb
        cases e1
        exact ⟨F2, G2, _, cs2, _, _, S2, eb, fun F3 G3 H3 σ3 cs3 W3 p3 S3 => q F3 G3 H3 σ3 cs3 (W1.trans (W2.trans W3)) (fun i hi => (p3 i hi).trans (p1 i hi)) S3⟩
      · rename_i r ρ3 eb
        cases e1
        exact ⟨F2, G2, _, cs2, _, _, S2, eb, fun F3 G3 H3 σ3 cs3 W3 p3 S3 => q F3 G3 H3 σ3 cs3 (W1.trans (W2.trans W3)) (fun i hi => (p3 i hi).trans (p1 i hi)) S3⟩
      · cases e1
    · cases e1
theorem ds_while {c : Expr} {body : List Stmt} {t : M Bool} {b : M Fl} {pos : Pos} {μ : Bool} (n : Nat) (hp : PassesOwn (model X.prog X.w) X.A X.env X.xe) (hc : DT X μ c t) (hb : DSs X pr body b) : DS X pr (.While c body [] pos) (mWhile n t b) :=
  ps_imp (ps_while hp hc hb) fun _ _ _ h => tS_while n h
end
end Lk

set_option Elab.async false
set_option linter.all false
set_option maxRecDepth 100000
/-! LkE: a def's contract over data, its proof from its body, its call. -/
namespace Lk
open PySem L2 PySem.Spec

/-- the mirror of a def: bindings in; the result and what the parameters hold behind it -/
abbrev Fn := List B → Option (R × List (Option B))
/-- what a call leaves -/
def Back (K : PySem.W.Frag) (mg : Str → Option Value) (F G : Hp) (outs : List (Option B)) (vs : List V) (r : R) (v : V) (H' : Hp) : Prop :=
  ∃ F' G' cs', Fw F G F' G' ∧ SR K mg F' G' H' outs (vs.map some) cs' ∧ SV K mg F' G' H' cs' r v ∧ (r.fr || r.k == 0) = true
structure FnG (P : Program) (w : World) (K : PySem.W.Frag) (mg : Str → Option Value) (base : Heap) (k : Nat) (f : Addr) (fd : FuncData) (ps : List Str) (g : Fn) : Prop where
  run : ∀ (A : Around) (outer : List Env) (s : Shared) (H : Hp) (args : Args) (us : List Value) (vs : List V) (F G : Hp) (bs : List B) (cs : List Addr) (r : R) (outs : List (Option B)),
    Room k A → A.guards = some [] → Env0 P w K mg base A outer s H → BindsTo s fd args (ps.zip us) → Vals vs us → vs.length = ps.length → SR K mg F G H (bs.map some) (vs.map some) cs → g bs = some (r, outs) →
    codeAny (model P w) A (.call (.ref f) args) (CR L2.CX0 outer P w H s (Back K mg F G outs vs r) (fun _ _ _ => False)) s
theorem FnG.mono {P : Program} {w : World} {K : PySem.W.Frag} {mg : Str → Option Value} {base : Heap} {j k : Nat} {f : Addr} {fd : FuncData} {ps : List Str} {g : Fn} (Fg : FnG P w K mg base j f fd ps g) (h : j ≤ k) :
    FnG P w K mg base k f fd ps g := ⟨fun A outer s H args us vs F G bs cs r outs hr => Fg.run A outer s H args us vs F G bs cs r outs (hr.mono h)⟩

/-- the mirror of a body: n names, the parameters first; pr: the parameters that are never stored -/
def outsOf (np : Nat) (pr : List Nat) (ρ : Sto) : List (Option B) := (List.range np).map fun i => if i ∈ pr then (ρ[i]?).getD none else none
def fnM (n np : Nat) (pr : List Nat) (body : M Fl) : Fn := fun bs => match body (bs.map some ++ List.replicate (n - np) none) with
  | some (.rt r, ρ) => if (r.fr || r.k == 0) = true then some (r, outsOf np pr ρ) else none
  | some (.nx, ρ) => some (⟨false, 0, .none⟩, outsOf np pr ρ)
  | _ => none

section
variable {K : PySem.W.Frag} {mg : Str → Option Value} {F G H : Hp}
theorem RS.pad {ρ : Sto} {σ : St} {cs : List Addr} (h : RS K mg F H ρ σ cs) (n : Nat) : RS K mg F H (ρ ++ List.replicate n none) (σ ++ List.replicate n none) cs := by
  induction h with
  | nil =>
    induction n with
    | zero => exact .nil
    | succ n ih => exact .no ih
  | no _ ih => exact .no ih
  | yes o _ ih => exact .yes o ih
/-- some of the slots, under other values' names where nothing is told -/
theorem RS.part {ρ : Sto} {σ : St} {cs : List Addr} (h : RS K mg F H ρ σ cs) : ∀ {σ0 : St} {keep : Nat → Bool}, (∀ i, keep i = true → i < σ0.length → σ[i]? = σ0[i]?) →
    ∃ cs', RS K mg F H ((List.range σ0.length).map fun i => if keep i = true then (ρ[i]?).getD none else none) σ0 cs' ∧ cs'.Sublist cs := by
  induction h with
  | nil =>
    intro σ0 keep hk
    refine ⟨[], ?_, List.Sublist.refl _⟩
    have : ∀ (l : St) (g : Nat → Option B), (∀ i, g i = none) → RS K mg F H ((List.range l.length).map g) l [] := by
      intro l
      induction l with
      | nil => intro g _; exact .nil
      | cons o l ih =>
        intro g hg
        rw [List.length_cons, List.range_succ_eq_map, List.map_cons, hg 0, List.map_map]
        exact .no (ih (g ∘ Nat.succ) fun i => hg _)
    refine this σ0 _ fun i => ?_
    simp
  | @no ρ σ cs o r ih =>
    intro σ0 keep hk
    cases σ0 with
    | nil => exact ⟨[], .nil, List.nil_sublist _⟩
    | cons o0 σ0 =>
      obtain ⟨cs', r', s⟩ := ih (σ0 := σ0) (keep := fun i => keep (i + 1)) fun i hi hl => by
        simpa using hk (i + 1) hi (by simpa using hl)
      refine ⟨cs', ?_, s⟩
      rw [List.length_cons, List.range_succ_eq_map, List.map_cons, List.map_map]
      have e0 : (if keep 0 = true then (((none : Option B) :: ρ)[0]?).getD none else none) = none := by split <;> rfl
      rw [e0]
      exact .no r'
  | @yes ρ σ c cs b v ow r ih =>
    intro σ0 keep hk
    cases σ0 with
    | nil => exact ⟨[], .nil, List.nil_sublist _⟩
    | cons o0 σ0 =>
      obtain ⟨cs', r', s⟩ := ih (σ0 := σ0) (keep := fun i => keep (i + 1)) fun i hi hl => by
        simpa using hk (i + 1) hi (by simpa using hl)
      rw [List.length_cons, List.range_succ_eq_map, List.map_cons, List.map_map]
      by_cases h0 : keep 0 = true
      · have e := hk 0 h0 (by simp)
        simp at e
        rw [if_pos h0, ← e]
        exact ⟨c ++ cs', .yes ow r', List.Sublist.append_left s c⟩
      · rw [if_neg h0]
        exact ⟨cs', .no r', s.trans (List.sublist_append_right c cs)⟩
theorem SR.sublist {ρ ρ' : Sto} {σ σ' : St} {cs cs' : List Addr} (S : SR K mg F G H ρ σ cs) (r : RS K mg F H ρ' σ' cs') (s : cs'.Sublist cs) : SR K mg F G H ρ' σ' cs' :=
  ⟨S.fg, S.gh, r, S.nd.sublist s, fun a ha => S.off a (s.subset ha)⟩
theorem SV.sublist {cs cs' : List Addr} {r : R} {v : V} (x : SV K mg F G H cs r v) (s : cs'.Sublist cs) : SV K mg F G H cs' r v := by
  obtain ⟨c, o, h⟩ := x
  exact ⟨c, o, fun e => ⟨(h e).1.sublist (List.Sublist.append_left s c), (h e).2⟩⟩
end

/-- a def's contract from its body -/
theorem fnG_of {P : Program} {w : World} {K : PySem.W.Frag} {mg : Str → Option Value} {base : Heap} {k : Nat} {f : Addr} {x qual : Str} {st : Stmt} {fd : FuncData} {N ps : List Str} {pr : List Nat} {body : M Fl}
    (Fd : Fun K x qual st f fd) (S : FnScope N ps (defScope st))
    (hb : ∀ (f : Addr) (cdv : Value) (A : Around) (outer : List Env) (s : Shared) (H : Hp) (X : Cx), X = (cxOf L2.CX0 P w K mg base N qual (defScope st) f cdv A outer s H (fun _ _ _ => False)).nox → Room k X.A → X.A.guards = some [] → DSs X pr (defBody st) body) :
    FnG P w K mg base (k + 1) f fd ps (fnM N.length ps.length pr body) := by
  obtain ⟨oc, od, kV, doc, pm, an, cdv, ct, osl, rfl, look, code⟩ := Fd.ex
  refine ⟨fun A outer s H args us vs F G bs cs r outs room guards e0 binds vals vlen sr hg => ?_⟩
  have KH : K.In s.heap := e0.mod.kin.keeps fun b o e => (e0.bs b o e).1
  have free : s.heap.NoLimit := e0.mod.nolimit.keeps fun b o e => (e0.bs b o e).1
  have kinds : ∀ y ∈ ps.zip us, (defScope st).names.lookup y.1 = some .local ∨ ((defScope st).names.lookup y.1 = some .cell ∧ ((cellsFrom (s.heap.objs.size + 1) (defScope st).names []).lookup y.1).isSome = true) := by
    rintro ⟨n, v⟩ hy
    rcases S.par n (List.of_mem_zip hy).1 with q | q
    · exact Or.inl q
    · exact Or.inr ⟨q, PySem.W.cellsFrom_some _ _ _ (Or.inl q)⟩
  refine codeAny_call_function room.depth (KH _ _ look) rfl S.co S.gen rfl (PySem.W.codeRec_of KH code) (binds _ _ _ _ ?_)
  refine wpAny_newFunctionEnv_cells S.kind kinds fun env he s1 inc => ?_
  subst he
  refine ⟨free.keeps inc.toInCall.keep, codeAny_func ?_⟩
  -- the body's context, no exception wanted
  have I0 := inv_start (CX := L2.CX0) (E := fun _ _ _ => False) (qual := qual) (f := f) (cd := cdv) S room.hd e0 vlen vals inc
  have I1 : Inv (cxOf L2.CX0 P w K mg base N qual (defScope st) f cdv A outer s H (fun _ _ _ => False)).nox [] (L2.start N vs) H s1 := I0.wish _
  have hl : (vs.map some).length = ps.length := by rw [List.length_map]; exact vlen
  have len2 : (bs.map some).length = ps.length := by rw [sr.rs.length]; exact hl
  have start_eq : L2.start N vs = vs.map some ++ List.replicate (N.length - ps.length) none := by unfold L2.start; rw [vlen]
  have S0 : SR K mg F G H (bs.map some ++ List.replicate (N.length - ps.length) none) (L2.start N vs) cs := by
    rw [start_eq]
    exact ⟨sr.fg, sr.gh, sr.rs.pad _, sr.nd, sr.off⟩
  have D := hb f cdv A outer s H (cxOf L2.CX0 P w K mg base N qual (defScope st) f cdv A outer s H (fun _ _ _ => False)).nox rfl (room.deeper _) guards
  have fin : ∀ {σ' : St} {H' : Hp} {v : V} {u : Value} {s' : Shared}, Inv (cxOf L2.CX0 P w K mg base N qual (defScope st) f cdv A outer s H (fun _ _ _ => False)).nox [] σ' H' s' → RelV v u → Back K mg F G outs vs r v H' → CE outer P w H s (Back K mg F G outs vs r) u s' :=
    fun {σ' H' v u s'} J rv q => ⟨v, H', J.os, J.bare, J.base, J.hok, rv, q⟩
  unfold fnM at hg
  -- what the parameters hold behind the body
  have back : ∀ {F' G' H' : Hp} {ρ' : Sto} {σ' : St} {cs' : List Addr} {r' : R} {v : V}, Fw F G F' G' → (∀ i ∈ pr, σ'[i]? = (L2.start N vs)[i]?) → SR K mg F' G' H' ρ' σ' cs' → SV K mg F' G' H' cs' r' v → (r'.fr || r'.k == 0) = true → r' = r → outsOf ps.length pr ρ' = outs → Back K mg F G outs vs r v H' := by
    intro F' G' H' ρ' σ' cs' r' v W p S' sv hr er eo
    subst er eo
    obtain ⟨cs2, r2, sl⟩ := S'.rs.part (σ0 := vs.map some) (keep := fun i => decide (i ∈ pr)) fun i hi hlt => by
      rw [p i (of_decide_eq_true hi), start_eq, List.getElem?_append_left hlt]
    refine ⟨F', G', cs2, W, ?_, sv.sublist sl, hr⟩
    refine S'.sublist ?_ sl
    have : outsOf ps.length pr ρ' = (List.range (vs.map some).length).map fun i => if decide (i ∈ pr) = true then (ρ'[i]?).getD none else none := by
      unfold outsOf
      rw [hl]
      simp only [decide_eq_true_eq]
    rw [this]
    exact r2
  split at hg
  · rename_i r' ρ' eb
    split at hg
    · rename_i hfr
      cases hg
      refine wpAny_mono (D.run [] s1 (L2.start N vs) H { nx := fun _ H' => Back K mg F G (outsOf ps.length pr ρ') vs r .non H', rt := Back K mg F G (outsOf ps.length pr ρ') vs r } I1 ⟨F, G, _, cs, _, _, S0, eb, fun F' G' H' σ' cs' W p S' v sv => back W p S' sv hfr rfl rfl⟩) (fun fl s' hs => ?_) fun e s' z => False.elim z
      cases fl with
      | ret u => obtain ⟨v, σ', H', J, rv, q⟩ := hs; exact fin J rv q
      | next => obtain ⟨σ', H', J, q⟩ := hs; exact fin (v := V.non) (u := Value.none) J rfl q
      | brk => obtain ⟨_, _, _, q⟩ := hs; exact False.elim q
      | cont => obtain ⟨_, _, _, q⟩ := hs; exact False.elim q
    · cases hg
  · rename_i ρ' eb
    cases hg
    refine wpAny_mono (D.run [] s1 (L2.start N vs) H { nx := fun _ H' => Back K mg F G (outsOf ps.length pr ρ') vs ⟨false, 0, .none⟩ .non H', rt := Back K mg F G (outsOf ps.length pr ρ') vs ⟨false, 0, .none⟩ } I1 ⟨F, G, _, cs, _, _, S0, eb, fun F' G' H' σ' cs' W p S' => back W p S' ⟨[], ow0 .non, fun h => Bool.noConfusion h⟩ rfl rfl rfl⟩) (fun fl s' hs => ?_) fun e s' z => False.elim z
    cases fl with
    | ret u => obtain ⟨v, σ', H', J, rv, q⟩ := hs; exact fin J rv q
    | next => obtain ⟨σ', H', J, q⟩ := hs; exact fin (v := V.non) (u := Value.none) J rfl q
    | brk => obtain ⟨_, _, _, q⟩ := hs; exact False.elim q
    | cont => obtain ⟨_, _, _, q⟩ := hs; exact False.elim q
  · cases hg

/-- the callee runs -/
theorem run_fnG {X : Cx} {k : Nat} {f : Addr} {fd : FuncData} {ps : List Str} {g : Fn} {pins : List (Addr × Obj)} {σ : St} {H F G : Hp} {s : Shared} {us : List Value} {vs : List V} {bs : List B} {cs : List Addr} {r : R} {outs : List (Option B)} {Q : VK}
    (Fg : FnG X.prog X.w X.K X.mg X.base k f fd ps g) (room : Room k X.A) (guards : X.A.guards = some []) {args : Args} (bd : ∀ s : Shared, X.K.In s.heap → BindsTo s fd args (ps.zip us)) (vl : vs.length = ps.length)
    (I : Inv X pins σ H s) (rv : Vals vs us) (S : SR X.K X.mg F G H (bs.map some) (vs.map some) cs) (e : g bs = some (r, outs)) (q : ∀ v H', Back X.K X.mg F G outs vs r v H' → Q v H') :
    codeAny (model X.prog X.w) X.A (.call (.ref f) args) (fun res s' => match res with
      | .ok (.ret u) => EP X pins σ Q u s'
      | _ => False) s := by
  refine codeAny_mono (Fg.run X.A X.stack s H args us vs F G bs cs r outs room guards I.env0 (bd s I.kIn) rv vl S e) fun res s' hq => ?_
  cases res with
  | error x => exact hq
  | ok fl =>
    cases fl with
    | ret u =>
      obtain ⟨v, H', I', rr, qq⟩ := I.after hq
      exact ⟨v, H', I', rr, q v H' qq⟩
    | next => exact hq
    | brk => exact hq
    | cont => exact hq
end Lk

set_option Elab.async false
set_option linter.all false
set_option maxRecDepth 100000
/-! LkF: arguments laid down, arguments lent, displays, calls of own defs. -/
namespace Lk
open PySem L2 PySem.Spec

section defs
variable (K : PySem.W.Frag) (mg : Str → Option Value)
/-- arguments that are laid down -/
def tF (μ : Bool) (m : M (List D)) : TA := fun σ H Q => ∃ F G ρ cs ds ρ', SR K mg F G H ρ σ cs ∧ m ρ = some (ds, ρ') ∧
  ∀ F' G' H' cs' vs, Fw F G F' G' → (μ = true → Sub H H') → SR K mg F' G' H' ρ' σ cs' → RpA K mg F' vs ds → Q vs H'
/-- arguments: laid down, or a slot that is lent -/
inductive Arg where
  | v (d : D)
  | r (i : Nat)
inductive RAs (F : Hp) (σ : St) : List Arg → List V → Prop
  | nil : RAs F σ [] []
  | v {d : D} {x : V} {as : List Arg} {vs : List V} : Rp K mg F x d → RAs F σ as vs → RAs F σ (.v d :: as) (x :: vs)
  | r {i : Nat} {x : V} {as : List Arg} {vs : List V} : σ[i]? = some (some x) → RAs F σ as vs → RAs F σ (.r i :: as) (x :: vs)
def tG (μ : Bool) (m : M (List Arg)) : TA := fun σ H Q => ∃ F G ρ cs as ρ', SR K mg F G H ρ σ cs ∧ m ρ = some (as, ρ') ∧
  ∀ F' G' H' cs' vs, Fw F G F' G' → (μ = true → Sub H H') → SR K mg F' G' H' ρ' σ cs' → RAs K mg F' σ as vs → Q vs H'
end defs
def DF (X : Cx) (μ : Bool) (es : List Expr) (m : M (List D)) : Prop := PA X es (tF X.K X.mg μ m)
def DFk (X : Cx) (μ : Bool) (es : List Keyword) (m : M (List D)) : Prop := PK X es (tF X.K X.mg μ m)
def DG (X : Cx) (μ : Bool) (es : List Expr) (m : M (List Arg)) : Prop := PA X es (tG X.K X.mg μ m)

def mF0 : M (List D) := fun ρ => some ([], ρ)
def mF1 (m : M R) (ms : M (List D)) : M (List D) := fun ρ => match m ρ with
  | some (r, ρ1) => if (r.fr || r.k == 0) = true then match ms ρ1 with
      | some (ds, ρ2) => some (r.d :: ds, ρ2)
      | none => none
    else none
  | none => none
def mG0 : M (List Arg) := fun ρ => some ([], ρ)
def mG1 (m : M R) (ms : M (List Arg)) : M (List Arg) := fun ρ => match m ρ with
  | some (r, ρ1) => if (r.fr || r.k == 0) = true then match ms ρ1 with
      | some (ds, ρ2) => some (.v r.d :: ds, ρ2)
      | none => none
    else none
  | none => none
/-- a slot is lent -/
def mGr (i : Nat) (ms : M (List Arg)) : M (List Arg) := fun ρ => match ρ[i]? with
  | some (some _) => match ms ρ with
    | some (ds, ρ2) => some (.r i :: ds, ρ2)
    | none => none
  | _ => none
section
variable {X : Cx} {μ : Bool} {e : Expr} {es : List Expr} {kws : List Keyword} {m : M R} {pos : Pos}
theorem pk_imp {e : List Keyword} {t t' : TA} (h : PK X e t) (hi : ∀ σ H Q, t' σ H Q → t σ H Q) : PK X e t' := ⟨fun p pins s σ H Q I q => h.run p pins s σ H Q I (hi σ H Q q)⟩
theorem tF_nil {K : PySem.W.Frag} {mg : Str → Option Value} {σ : St} {H : Hp} {Q : List V → Hp → Prop} (h : tF K mg μ mF0 σ H Q) : tNil σ H Q := by
  obtain ⟨F, G, ρ, cs, ds, ρ', S, e, q⟩ := h
  cases e
  exact q F G H cs [] Fw.refl (fun _ => Sub.refl _) S .nil
theorem tF_cons {K : PySem.W.Frag} {mg : Str → Option Value} {ms : M (List D)} {σ : St} {H : Hp} {Q : List V → Hp → Prop} (h : tF K mg μ (mF1 m ms) σ H Q) : tCons (tE K mg μ m) (tF K mg μ ms) σ H Q := by
  obtain ⟨F, G, ρ, cs, ds, ρ', S, e, q⟩ := h
  unfold mF1 at e
  split at e
  · rename_i r ρ1 em
    split at e
    · rename_i hfr
      split at e
      · rename_i ds' ρ2 es
        cases e
        refine ⟨F, G, ρ, cs, _, _, S, em, fun F0 G0 H1 cs1 v W0 mo S0 sv => ?_⟩
        obtain ⟨F1, G1, S1, W1, rp⟩ := sv.lay S0 hfr
        exact ⟨F1, G1, _, cs1, _, _, S1, es, fun F2 G2 H2 cs2 vs W2 mo2 S2 ra => q F2 G2 H2 cs2 _ (W0.trans (W1.trans W2)) (fun h => (mo h).trans (mo2 h)) S2 (.cons (rp.sub W2.f) ra)⟩
      · cases e
    · cases e
  · cases e
theorem df_nil : DF X μ [] mF0 := pa_imp pa_nil fun _ _ _ h => tF_nil h
theorem df_cons {ms : M (List D)} (h : DE X μ e m) (h' : DF X μ es ms) (hs : starEach (e :: es) X.env = (false, eval e X.env) :: starEach es X.env := by rfl) : DF X μ (e :: es) (mF1 m ms) :=
  pa_imp (pa_cons h h' hs) fun _ _ _ h => tF_cons h
theorem dk_nil : DFk X μ [] mF0 := pk_imp pk_nil fun _ _ _ h => tF_nil h
theorem dk_cons {ms : M (List D)} {nm : Option Str} {kpos : Pos} (h : DE X μ e m) (h' : DFk X μ kws ms) : DFk X μ (⟨nm, e, kpos⟩ :: kws) (mF1 m ms) :=
  pk_imp (pk_cons h h') fun _ _ _ h => tF_cons h
theorem dg_nil : DG X μ [] mG0 := pa_imp pa_nil fun σ H Q h => by
  obtain ⟨F, G, ρ, cs, ds, ρ', S, e, q⟩ := h
  cases e
  exact q F G H cs [] Fw.refl (fun _ => Sub.refl _) S .nil
theorem dg_v {ms : M (List Arg)} (h : DE X μ e m) (h' : DG X μ es ms) (hs : starEach (e :: es) X.env = (false, eval e X.env) :: starEach es X.env := by rfl) : DG X μ (e :: es) (mG1 m ms) :=
  pa_imp (pa_cons h h' hs) fun σ H Q ⟨F, G, ρ, cs, ds, ρ', S, e, q⟩ => by
    unfold mG1 at e
    split at e
    · rename_i r ρ1 em
      split at e
      · rename_i hfr
        split at e
        · rename_i ds' ρ2 es
          cases e
          refine ⟨F, G, ρ, cs, _, _, S, em, fun F0 G0 H1 cs1 v W0 mo S0 sv => ?_⟩
          obtain ⟨F1, G1, S1, W1, rp⟩ := sv.lay S0 hfr
          exact ⟨F1, G1, _, cs1, _, _, S1, es, fun F2 G2 H2 cs2 vs W2 mo2 S2 ra => q F2 G2 H2 cs2 _ (W0.trans (W1.trans W2)) (fun h => (mo h).trans (mo2 h)) S2 (.v (rp.sub W2.f) ra)⟩
        · cases e
      · cases e
    · cases e
theorem dg_r {ms : M (List Arg)} {i : Nat} {x : Str} {p : Pos} (hN : X.N[i]? = some x) (hv : Vis X.env.scope x) (h' : DG X μ es ms) (hd : (x == ("__debug__" : Str)) = false := by decide) (hcd : (x == ("__classdict__" : Str)) = false := by decide)
    (hs : starEach (.Name x p :: es) X.env = (false, eval (.Name x p) X.env) :: starEach es X.env := by rfl) : DG X μ (.Name x p :: es) (mGr i ms) :=
  pa_imp (pa_cons (pe_var hN hv hd hcd) h' hs) fun σ H Q ⟨F, G, ρ, cs, ds, ρ', S, e, q⟩ => by
    unfold mGr at e
    split at e
    · rename_i b hb
      split at e
      · rename_i ds' ρ2 es
        cases e
        obtain ⟨v, _, _, e1, _, _, _⟩ := S.rs.out hb
        exact ⟨v, e1, F, G, ρ, cs, _, _, S, es, fun F2 G2 H2 cs2 vs W2 mo2 S2 ra => q F2 G2 H2 cs2 _ W2 mo2 S2 (.r e1 ra)⟩
      · cases e
    · cases e

/-! ### displays -/
def mLst (ms : M (List D)) : M R := fun ρ => match ms ρ with
  | some (ds, ρ1) => if ds.length ≤ lim then some (⟨true, 1, .list ds⟩, ρ1) else none
  | none => none
def mTup (ms : M (List D)) : M R := fun ρ => match ms ρ with
  | some (ds, ρ1) => if ds.length ≤ lim then some (⟨false, 0, .tuple ds⟩, ρ1) else none
  | none => none
theorem de_list {ms : M (List D)} (h : DF X μ es ms) : DE X μ (.List es pos) (mLst ms) := pe_imp (pe_lst h) fun σ H Q ⟨F, G, ρ, cs, r, ρ', S, e, q⟩ => by
  unfold mLst at e
  split at e
  · rename_i ds ρ1 em
    split at e
    · rename_i hl
      cases e
      refine ⟨F, G, ρ, cs, _, _, S, em, fun F1 G1 H1 cs1 vs W mo S1 ra => ⟨by rw [ra.length]; exact lim_le hl, fun p hp => ?_⟩⟩
      have n : New X.K X.mg F1 G1 H1 1 (.list ds) Q := fun F' G' H' v c g o nd hn => by
        obtain ⟨S2, sv⟩ := S1.new g o nd hn
        exact q F' G' H' cs1 v (W.trans (g.fw S1.fg S1.gh)) (fun h => (mo h).trans g.h) S2 sv
      exact n.lst S1.fg S1.gh ra hp
    · cases e
  · cases e
theorem de_tup {ms : M (List D)} {x1} (h : DF X μ es ms) : DE X μ (.Tuple es x1 pos) (mTup ms) := pe_imp (pe_tup h) fun σ H Q ⟨F, G, ρ, cs, r, ρ', S, e, q⟩ => by
  unfold mTup at e
  split at e
  · rename_i ds ρ1 em
    split at e
    · rename_i hl
      cases e
      refine ⟨F, G, ρ, cs, _, _, S, em, fun F1 G1 H1 cs1 vs W mo S1 ra => ⟨by rw [ra.length]; exact lim_le hl, fun p hp => ?_⟩⟩
      have n : New X.K X.mg F1 G1 H1 0 (.tuple ds) Q := fun F' G' H' v c g o nd hn => by
        obtain ⟨S2, sv⟩ := S1.new g o nd hn
        obtain ⟨c', o', _⟩ := sv
        exact q F' G' H' cs1 v (W.trans (g.fw S1.fg S1.gh)) (fun h => (mo h).trans g.h) S2 ⟨c', o', fun h => Bool.noConfusion h⟩
      exact n.tup S1.fg S1.gh ra hp
    · cases e
  · cases e
end

/-! ### a def of the program, known by its contract -/
structure FnX (P : Program) (w : World) (K : PySem.W.Frag) (mg : Str → Option Value) (base : Heap) (k : Nat) (x qual : Str) (st : Stmt) (ps : List Str) (g : Fn) : Prop where
  ex : ∃ (f : Addr) (fd : FuncData), FnG P w K mg base k f fd ps g ∧ Fun K x qual st f fd ∧ mg x = some (.ref f)
abbrev FnC (X : Cx) (k : Nat) (x qual : Str) (st : Stmt) (ps : List Str) (g : Fn) : Prop := FnX X.prog X.w X.K X.mg X.base k x qual st ps g

def frz0 (ds : List D) : List B := ds.map fun d => ⟨0, d⟩
/-- the result alone -/
def res (o : Option (R × List (Option B))) : Option R := match o with
  | some (r, _) => some r
  | none => none
/-- f(..), all laid down -/
def mCall (n : Nat) (g : Fn) (ms : M (List D)) : M R := fun ρ => match ms ρ with
  | some (ds, ρ1) => if ds.length = n then match g (frz0 ds) with
      | some (r, _) => some (r, ρ1)
      | none => none
    else none
  | none => none
section
variable {X : Cx} {μ : Bool} {K : PySem.W.Frag} {mg : Str → Option Value} {F G H : Hp}
theorem RpA.rs {vs : List V} {ds : List D} (h : RpA K mg F vs ds) : RS K mg F H ((frz0 ds).map some) (vs.map some) [] := by
  induction ds generalizing vs with
  | nil => cases h; exact .nil
  | cons d ds ih => cases h with | cons h1 h2 => exact RS.yes (c := []) (ow0 h1) (ih h2)
/-- behind a call that was lent nothing -/
theorem back_laid {ρ : Sto} {σ : St} {cs : List Addr} {outs : List (Option B)} {vs : List V} {r : R} {v : V} {H' : Hp} (S : SR K mg F G H ρ σ cs) (b : Back K mg F H outs vs r v H') :
    ∃ F' G', Fw F G F' G' ∧ Sub H H' ∧ SR K mg F' G' H' ρ σ cs ∧ SV K mg F' G' H' cs r v := by
  obtain ⟨F', G', cs', W, S', sv, hr⟩ := b
  have hs : ∀ a ∈ cs, H a ≠ none := fun a ha => by obtain ⟨vs, e⟩ := S.rs.there a ha; rw [e]; simp
  have fN : ∀ a ∈ cs, F' a = none := fun a ha => by
    cases e : F' a with
    | none => rfl
    | some o =>
      rcases W.new a (by rw [e]; simp) with h | h
      · exact absurd (S.fg.out (S.off a ha)) h
      · exact absurd h (hs a ha)
  have GH : Sub H H' := W.g.trans S'.gh
  refine ⟨F', fun a => if a ∈ cs then none else G' a, ⟨W.f, fun a o e => ?_, fun a h => ?_⟩, GH, ⟨fun a o e => ?_, fun a o e => ?_, S.rs.keep W.f fun a ha => ?_, S.nd, fun a ha => by rw [if_pos ha]⟩, ?_⟩
  · have : a ∉ cs := fun ha => by rw [S.off a ha] at e; cases e
    rw [if_neg this]; exact W.g a o (S.gh a o e)
  · rcases W.new a h with h | h
    · exact .inl h
    · exact .inr (S.gh.out h)
  · have : a ∉ cs := fun ha => by rw [fN a ha] at e; cases e
    rw [if_neg this]; exact S'.fg a o e
  · by_cases ha : a ∈ cs
    · rw [if_pos ha] at e; cases e
    · rw [if_neg ha] at e; exact S'.gh a o e
  · obtain ⟨vs, e⟩ := S.rs.there a ha
    rw [e]; exact GH a _ e
  · obtain ⟨c, o, hf⟩ := sv
    refine ⟨c, o, fun h => ?_⟩
    obtain ⟨nd, off⟩ := hf h
    have n1 := (List.nodup_append.mp nd).1
    refine ⟨List.nodup_append.mpr ⟨n1, S.nd, fun a ha b hb e => ?_⟩, fun a ha => ?_⟩
    · subst e
      have : G' a ≠ none := by
        obtain ⟨vs, e⟩ := S.rs.there a hb
        rw [W.g a _ e]; simp
      exact this (off a ha)
    · by_cases hc : a ∈ cs
      · exact if_pos hc
      · exact (if_neg hc).trans (off a ha)
theorem SR.all {ρ : Sto} {σ : St} {cs : List Addr} {vs : List V} {ds : List D} (S : SR K mg F G H ρ σ cs) (ra : RpA K mg F vs ds) : SR K mg F H H ((frz0 ds).map some) (vs.map some) [] :=
  ⟨S.fg.trans S.gh, Sub.refl _, ra.rs, .nil, fun a h => nomatch h⟩
variable {k j : Nat} {x qual : Str} {st : Stmt} {ps : List Str} {g : Fn} {e : Expr} {es : List Expr} {ms : M (List D)} {p pos : Pos} {ds : List Value}
/-- how positional arguments are bound, all given -/
def BindP (x qual : Str) (st : Stmt) (ps : List Str) : Prop := ∀ (kV doc pm : Value) (an : Option Addr) (cdv ct : Value) (us : List Value), us.length = ps.length →
  bindArgs (PySem.W.fnOf x qual (defArgs st) (defBody st) (defScope st) .none kV doc pm an cdv ct) ⟨us, []⟩ = pure (ps.zip us)
theorem FnX.bind {P : Program} {w : World} {base : Heap} {f : Addr} {fd : FuncData} (hb : BindP x qual st ps) (Fd : Fun K x qual st f fd) {us : List Value} (hl : us.length = ps.length) (s : Shared) : BindsTo s fd ⟨us, []⟩ (ps.zip us) := by
  obtain ⟨oc, od, kV, doc, pm, an, cdv, ct, osl, rfl, _, _⟩ := Fd.ex
  exact .of_eq (hb kV doc pm an cdv ct us hl)
theorem de_call (Fx : FnC X j x qual st ps g) (hjk : j ≤ k) (room : Room k X.A) (guards : X.A.guards = some []) (hb : BindP x qual st ps) (ha : DF X μ (e :: es) ms) (hg : Gl X x := by rfl)
    (hdb : (x == ("__debug__" : Str)) = false := by decide) (he : starEach (e :: es) X.env = (false, eval e X.env) :: starEach es X.env := by rfl) (hpl : (backTo pos (starEach es X.env)).any (·.1) = false := by rfl) : DE X μ (.Call (.Name x p) (e :: es) [] pos) (mCall ps.length g ms) := by
  obtain ⟨f, fd, Fg, Fd, hm⟩ := Fx.ex
  refine ⟨fun pins s σ H Q I h => ?_⟩
  have h2 := h
  obtain ⟨F, G, ρ, cs, rr, ρ', S, e2, q⟩ := h2
  refine wpAny_Call_Name_kw (ld_glob I hg hm ?_ hdb)
  unfold mCall at e2
  split at e2
  · rename_i ds ρ1 em
    split at e2
    · rename_i hlen
      split at e2
      · rename_i r outs eg
        cases e2
        refine PySem.W.callWith_K (h₀ := X.base) I.ok.mod.kin Fd.kp (thn (ha.run pos pins s σ H (fun vs H1 => ∃ F1 G1 cs1, Fw F G F1 G1 ∧ (μ = true → Sub H H1) ∧ SR X.K X.mg F1 G1 H1 ρ' σ cs1 ∧ RpA X.K X.mg F1 vs ds) I ⟨F, G, ρ, cs, _, _, S, em, fun F1 G1 H1 cs1 vs W mo S1 ra => ⟨F1, G1, cs1, W, mo, S1, ra⟩⟩) fun us s1 ⟨vs, H1, I1, rv, F1, G1, cs1, W, mo, S1, ra⟩ => ⟨I1.kIn, ?_⟩) he hpl
        have vl : vs.length = ps.length := ra.length.trans hlen
        refine wpAny_call (codeAny_mono (run_fnG (args := ⟨us, []⟩) (us := us) (Fg.mono hjk) room guards (fun s _ => FnX.bind (P := X.prog) (w := X.w) (base := X.base) hb Fd (by rw [← rv.length]; exact vl) s) vl I1 rv (S1.all ra) eg (Q := Q) fun v H' b => ?_) fun res s' hq => ?_)
        · obtain ⟨F2, G2, W2, gh, S2, sv⟩ := back_laid S1 b
          exact q F2 G2 H' cs1 v (W.trans W2) (fun h => (mo h).trans gh) S2 sv
        · cases res with
          | error e => exact hq.elim
          | ok fl =>
            cases fl with
            | ret u => exact hq
            | next => exact hq.elim
            | brk => exact hq.elim
            | cont => exact hq.elim
      · cases e2
    · cases e2
  · cases e2
end
end Lk

set_option Elab.async false
set_option linter.all false
set_option maxRecDepth 100000
/-! LkG: a call that is lent slots; a call by keywords. -/
namespace Lk
open PySem L2 PySem.Spec

/-- the arguments' bindings are taken out of the store -/
def pull : List Arg → Sto → Option (List B × Sto)
  | [], ρ => some ([], ρ)
  | .v d :: as, ρ => match pull as ρ with
    | some (bs, ρ') => some (⟨0, d⟩ :: bs, ρ')
    | none => none
  | .r i :: as, ρ => match ρ[i]? with
    | some (some b) => match pull as (ρ.set i none) with
      | some (bs, ρ') => some (b :: bs, ρ')
      | none => none
    | _ => none
/-- .. and put back as the callee left them -/
def push : List Arg → List (Option B) → Sto → Sto
  | .r i :: as, b :: bs, ρ => push as bs (ρ.set i b)
  | .v _ :: as, _ :: bs, ρ => push as bs ρ
  | _, _, ρ => ρ
def lent : List Arg → List Nat
  | [] => []
  | .v _ :: as => lent as
  | .r i :: as => i :: lent as
def mCallR (n : Nat) (g : Fn) (ms : M (List Arg)) : M R := fun ρ => match ms ρ with
  | some (as, ρ1) => match pull as ρ1 with
    | some (bs, ρ2) => if bs.length = n then match g bs with
        | some (r, outs) => some (r, push as outs ρ2)
        | none => none
      else none
    | none => none
  | none => none

section
variable {X : Cx} {μ : Bool} {K : PySem.W.Frag} {mg : Str → Option Value} {F G H : Hp}
theorem pull_ok : ∀ {as : List Arg} {vs : List V} {ρ ρ1 : Sto} {σ : St} {cs : List Addr} {bs : List B}, RS K mg F H ρ σ cs → RAs K mg F σ as vs → pull as ρ = some (bs, ρ1) →
    ∃ cp c1, RS K mg F H (bs.map some) (vs.map some) cp ∧ RS K mg F H ρ1 σ c1 ∧ cs.Perm (cp ++ c1) ∧ vs.length = bs.length ∧ (∀ i : Nat, ρ1[i]? = some none ∨ ρ1[i]? = ρ[i]?) ∧
      (∀ i ∈ lent as, (∃ b, ρ[i]? = some (some b)) ∧ ρ1[i]? = some none) ∧ (lent as).Nodup
  | [], _, _, _, _, cs, _, h, .nil, e => by
    cases e
    exact ⟨[], cs, .nil, h, List.Perm.refl _, rfl, fun _ => .inr rfl, fun (i : Nat) (hi : i ∈ ([] : List Nat)) => absurd hi (by simp), List.nodup_nil⟩
  | .v d :: as, _, ρ, ρ1, σ, cs, bs, h, .v rp ra, e => by
    unfold pull at e
    split at e
    · rename_i bs' ρ' e'
      cases e
      obtain ⟨cp, c1, h1, h2, p, hl, h3, h4, h5⟩ := pull_ok h ra e'
      exact ⟨[] ++ cp, c1, .yes (ow0 rp) h1, h2, p, by simp [hl], h3, h4, h5⟩
    · cases e
  | .r i :: as, _, ρ, ρ1, σ, cs, bs, h, .r ex ra, e => by
    unfold pull at e
    split at e
    · rename_i b hb
      split at e
      · rename_i bs' ρ' e'
        cases e
        obtain ⟨v, c, c0, ev, ow, h0, p0⟩ := h.out hb
        rw [ex] at ev; cases ev
        have hi : i < ρ.length := (List.getElem?_eq_some_iff.mp hb).1
        obtain ⟨cp, c1, h1, h2, p, hl, h3, h4, h5⟩ := pull_ok h0 ra e'
        have ii : (ρ.set i none)[i]? = some none := List.getElem?_set_self hi
        have hno : i ∉ lent as := fun hm => by
          obtain ⟨b', hb'⟩ := (h4 i hm).1
          rw [ii] at hb'; cases hb'
        refine ⟨c ++ cp, c1, .yes ow h1, h2, ?_, by simp [hl], fun j => ?_, fun j hj => ?_, List.nodup_cons.mpr ⟨hno, h5⟩⟩
        · rw [List.append_assoc]; exact p0.trans (List.Perm.append_left c p)
        · by_cases hj : i = j
          · subst hj
            rcases h3 i with h | h
            · exact .inl h
            · exact .inl (h.trans ii)
          · rcases h3 j with h | h
            · exact .inl h
            · exact .inr (h.trans (List.getElem?_set_ne hj))
        · rcases List.mem_cons.mp hj with e | hj
          · subst e
            refine ⟨⟨b, hb⟩, ?_⟩
            rcases h3 j with h | h
            · exact h
            · exact h.trans ii
          · obtain ⟨⟨b', hb'⟩, hn⟩ := h4 j hj
            refine ⟨⟨b', ?_⟩, hn⟩
            have : i ≠ j := fun e => hno (e ▸ hj)
            rw [List.getElem?_set_ne this] at hb'; exact hb'
      · cases e
    · cases e
theorem push_ok : ∀ {as : List Arg} {vs : List V} {ρ : Sto} {σ : St} {cp c1 : List Addr} {outs : List (Option B)}, RS K mg F H outs (vs.map some) cp → RS K mg F H ρ σ c1 → RAs K mg F' σ as vs → (lent as).Nodup → (∀ i ∈ lent as, ρ[i]? = some none) →
    ∃ cs' rest, RS K mg F H (push as outs ρ) σ cs' ∧ (cp ++ c1).Perm (cs' ++ rest)
  | [], _, ρ, σ, cp, c1, outs, ho, h, .nil, _, _ => by
    cases ho
    exact ⟨c1, [], h, by simp⟩
  | .v d :: as, _, ρ, σ, cp, c1, outs, ho, h, .v rp ra, nd, hn => by
    cases ho with
    | no ho =>
      have q := push_ok ho h ra nd hn
      exact q
    | @yes _ _ c cs _ _ ow ho =>
      obtain ⟨cs', rest, r, p⟩ := push_ok ho h ra nd hn
      refine ⟨cs', rest ++ c, r, ?_⟩
      rw [List.append_assoc, ← List.append_assoc cs']
      exact (List.Perm.append_left c p).trans List.perm_append_comm
  | .r i :: as, _, ρ, σ, cp, c1, outs, ho, h, .r ex ra, nd, hn => by
    obtain ⟨hno, nd⟩ := List.nodup_cons.mp nd
    have hi := hn i List.mem_cons_self
    have hlt : i < ρ.length := (List.getElem?_eq_some_iff.mp hi).1
    cases ho with
    | @no o1 _ _ _ ho =>
      have e0 : ρ.set i none = ρ := by
        apply List.ext_getElem?
        intro j
        by_cases hj : i = j
        · subst hj; rw [List.getElem?_set_self hlt, hi]
        · rw [List.getElem?_set_ne hj]
      show ∃ cs' rest, RS K mg F H (push as o1 (ρ.set i none)) σ cs' ∧ _
      rw [e0]
      have q := push_ok ho h ra nd fun j hj => hn j (List.mem_cons_of_mem _ hj)
      exact q
    | @yes _ _ c cs b _ ow ho =>
      obtain ⟨c2, h2, p2⟩ := h.into hi ex ow
      obtain ⟨cs', rest, r, p⟩ := push_ok ho h2 ra nd fun j hj => by
        have : i ≠ j := fun e => hno (e ▸ hj)
        rw [List.getElem?_set_ne this]
        exact hn j (List.mem_cons_of_mem _ hj)
      refine ⟨cs', rest, r, ?_⟩
      refine List.Perm.trans ?_ p
      have : (c ++ cs ++ c1).Perm (cs ++ (c ++ c1)) := by
        rw [← List.append_assoc]
        exact List.Perm.append_right c1 List.perm_append_comm
      exact this.trans (List.Perm.append_left cs p2.symm)

/-- behind a call that was lent slots -/
theorem back_lent {ρ1 : Sto} {σ : St} {cs cp c1 : List Addr} {outs : List (Option B)} {as : List Arg} {vs : List V} {r : R} {v : V} {H' : Hp} {F0 : Hp} {ρ : Sto} (S : SR K mg F G H ρ σ cs) (hp : cs.Perm (cp ++ c1)) (h1 : RS K mg F H ρ1 σ c1) (ra : RAs K mg F0 σ as vs)
    (nd : (lent as).Nodup) (hn : ∀ i ∈ lent as, ρ1[i]? = some none) (b : Back K mg F (fun a => if a ∈ cp then none else H a) outs vs r v H') :
    ∃ F' G' cs', Fw F G F' G' ∧ SR K mg F' G' H' (push as outs ρ1) σ cs' ∧ SV K mg F' G' H' cs' r v := by
  obtain ⟨F', G', co, W, S', sv, hr⟩ := b
  have ndA : (cp ++ c1).Nodup := hp.nodup_iff.mp S.nd
  have offP : ∀ a ∈ cp, G a = none := fun a ha => S.off a (hp.mem_iff.mpr (List.mem_append_left _ ha))
  have off1 : ∀ a ∈ c1, G a = none := fun a ha => S.off a (hp.mem_iff.mpr (List.mem_append_right _ ha))
  have dis : ∀ a ∈ c1, a ∉ cp := fun a ha hb => (List.nodup_append.mp ndA).2.2 a hb a ha rfl
  have there : ∀ a ∈ c1, H a ≠ none := fun a ha => by obtain ⟨vs, e⟩ := h1.there a ha; rw [e]; simp
  have gc : ∀ a, a ∉ cp → (if a ∈ cp then none else H a) = H a := fun a ha => if_neg ha
  have keep : ∀ a ∈ c1, H' a = H a := fun a ha => by
    obtain ⟨vs, e⟩ := h1.there a ha
    rw [e]
    exact S'.gh a _ (W.g a _ ((gc a (dis a ha)).trans e))
  have fN : ∀ a ∈ c1, F' a = none := fun a ha => by
    cases e : F' a with
    | none => rfl
    | some o =>
      rcases W.new a (by rw [e]; simp) with h | h
      · exact absurd (S.fg.out (off1 a ha)) h
      · rw [gc a (dis a ha)] at h; exact absurd h (there a ha)
  have gT : ∀ a ∈ c1, G' a ≠ none := fun a ha => by
    obtain ⟨vs, e⟩ := h1.there a ha
    rw [W.g a _ ((gc a (dis a ha)).trans e)]; simp
  have h1' : RS K mg F' H' ρ1 σ c1 := h1.keep W.f keep
  obtain ⟨cs', rest, r', p⟩ := push_ok S'.rs h1' ra nd hn
  have ndB : (co ++ c1).Nodup := List.nodup_append.mpr ⟨S'.nd, (List.nodup_append.mp ndA).2.1, fun a ha b hb e => by subst e; exact gT a hb (S'.off a ha)⟩
  have sub' : ∀ a ∈ cs', a ∈ co ∨ a ∈ c1 := fun a ha => List.mem_append.mp (p.mem_iff.mpr (List.mem_append_left _ ha))
  refine ⟨F', fun a => if a ∈ c1 then none else G' a, cs', ⟨W.f, fun a o e => ?_, fun a h => ?_⟩, ⟨fun a o e => ?_, fun a o e => ?_, r', ?_, fun a ha => ?_⟩, ?_⟩
  · have n1 : a ∉ c1 := fun ha => by rw [off1 a ha] at e; cases e
    have n2 : a ∉ cp := fun ha => by rw [offP a ha] at e; cases e
    show (if a ∈ c1 then none else G' a) = some o
    rw [if_neg n1]; exact W.g a o ((gc a n2).trans (S.gh a o e))
  · rcases W.new a h with h | h
    · exact .inl h
    · right
      by_cases ha : a ∈ cp
      · exact offP a ha
      · rw [gc a ha] at h; exact S.gh.out h
  · have : a ∉ c1 := fun ha => by rw [fN a ha] at e; cases e
    show (if a ∈ c1 then none else G' a) = some o
    rw [if_neg this]; exact S'.fg a o e
  · by_cases ha : a ∈ c1
    · rw [if_pos ha] at e; cases e
    · rw [if_neg ha] at e; exact S'.gh a o e
  · exact (List.nodup_append.mp (p.nodup_iff.mp ndB)).1
  · by_cases hc : a ∈ c1
    · exact if_pos hc
    · rcases sub' a ha with h | h
      · exact (if_neg hc).trans (S'.off a h)
      · exact absurd h hc
  · obtain ⟨c, o, hf⟩ := sv
    refine ⟨c, o, fun h => ?_⟩
    obtain ⟨ndc, offc⟩ := hf h
    obtain ⟨n1, n2, n3⟩ := List.nodup_append.mp ndc
    refine ⟨List.nodup_append.mpr ⟨n1, (List.nodup_append.mp (p.nodup_iff.mp ndB)).1, fun a ha b hb e => ?_⟩, fun a ha => ?_⟩
    · subst e
      rcases sub' a hb with h | h
      · exact n3 a ha a h rfl
      · exact gT a h (offc a ha)
    · by_cases hc : a ∈ c1
      · exact if_pos hc
      · exact (if_neg hc).trans (offc a ha)
theorem SR.lent {ρ : Sto} {σ : St} {cs cp c1 : List Addr} {vs : List V} {bs : List B} (S : SR K mg F G H ρ σ cs) (hp : cs.Perm (cp ++ c1)) (rb : RS K mg F H (bs.map some) (vs.map some) cp) : SR K mg F (fun a => if a ∈ cp then none else H a) H (bs.map some) (vs.map some) cp := by
  refine ⟨fun a o e => ?_, fun a o e => ?_, rb, (List.nodup_append.mp (hp.nodup_iff.mp S.nd)).1, fun a ha => if_pos ha⟩
  · have : a ∉ cp := fun ha => by
      rw [S.fg.out (S.off a (hp.mem_iff.mpr (List.mem_append_left _ ha)))] at e; cases e
    show (if a ∈ cp then none else H a) = some o
    rw [if_neg this]; exact S.gh a o (S.fg a o e)
  · by_cases ha : a ∈ cp
    · rw [if_pos ha] at e; cases e
    · rw [if_neg ha] at e; exact e

variable {k j : Nat} {x qual : Str} {st : Stmt} {ps : List Str} {g : Fn} {e : Expr} {es : List Expr} {p pos : Pos}
theorem de_callR {ms : M (List Arg)} (Fx : FnC X j x qual st ps g) (hjk : j ≤ k) (room : Room k X.A) (guards : X.A.guards = some []) (hb : BindP x qual st ps) (ha : DG X false (e :: es) ms) (hg : Gl X x := by rfl)
    (hdb : (x == ("__debug__" : Str)) = false := by decide) (he : starEach (e :: es) X.env = (false, eval e X.env) :: starEach es X.env := by rfl) (hpl : (backTo pos (starEach es X.env)).any (·.1) = false := by rfl) : DE X false (.Call (.Name x p) (e :: es) [] pos) (mCallR ps.length g ms) := by
  obtain ⟨f, fd, Fg, Fd, hm⟩ := Fx.ex
  refine ⟨fun pins s σ H Q I h => ?_⟩
  obtain ⟨F, G, ρ, cs, rr, ρ', S, e2, q⟩ := h
  refine wpAny_Call_Name_kw (ld_glob I hg hm ?_ hdb)
  unfold mCallR at e2
  split at e2
  · rename_i as ρ1 em
    split at e2
    · rename_i bs ρ2 ep
      split at e2
      · rename_i hlen
        split at e2
        · rename_i r outs eg
          cases e2
          refine PySem.W.callWith_K (h₀ := X.base) I.ok.mod.kin Fd.kp (thn (ha.run pos pins s σ H (fun vs H1 => ∃ F1 G1 cs1, Fw F G F1 G1 ∧ SR X.K X.mg F1 G1 H1 ρ1 σ cs1 ∧ RAs X.K X.mg F1 σ as vs) I ⟨F, G, ρ, cs, _, _, S, em, fun F1 G1 H1 cs1 vs W mo S1 ra => ⟨F1, G1, cs1, W, S1, ra⟩⟩) fun us s1 ⟨vs, H1, I1, rv, F1, G1, cs1, W, S1, ra⟩ => ⟨I1.kIn, ?_⟩) he hpl
          obtain ⟨cp, c1, h1, h2, hp, hl, _, h4, h5⟩ := pull_ok S1.rs ra ep
          have vl : vs.length = ps.length := hl.trans hlen
          refine wpAny_call (codeAny_mono (run_fnG (args := ⟨us, []⟩) (us := us) (Fg.mono hjk) room guards (fun s _ => FnX.bind (P := X.prog) (w := X.w) (base := X.base) hb Fd (by rw [← rv.length]; exact vl) s) vl I1 rv (S1.lent hp h1) eg (Q := Q) fun v H' b => ?_) fun res s' hq => ?_)
          · obtain ⟨F2, G2, cs2, W2, S2, sv⟩ := back_lent S1 hp h2 ra h5 (fun i hi => (h4 i hi).2) b
            exact q F2 G2 H' cs2 v (W.trans W2) (fun h => Bool.noConfusion h) S2 sv
          · cases res with
            | error e => exact hq.elim
            | ok fl =>
              cases fl with
              | ret u => exact hq
              | next => exact hq.elim
              | brk => exact hq.elim
              | cont => exact hq.elim
        · cases e2
      · cases e2
    · cases e2
  · cases e2
/-- f() -/
theorem de_call0 (Fx : FnC X j x qual st [] g) (hjk : j ≤ k) (room : Room k X.A) (guards : X.A.guards = some []) (hb : BindP x qual st []) (hg : Gl X x := by rfl) (hdb : (x == ("__debug__" : Str)) = false := by decide) : DE X true (.Call (.Name x p) [] [] pos) (mCall 0 g mF0) := by
  obtain ⟨f, fd, Fg, Fd, hm⟩ := Fx.ex
  refine ⟨fun pins s σ H Q I h => ?_⟩
  obtain ⟨F, G, ρ, cs, rr, ρ', S, e2, q⟩ := h
  refine wpAny_Call_Name_kw (ld_glob I hg hm ?_ hdb)
  unfold mCall mF0 at e2
  simp only [List.length_nil, if_true] at e2
  split at e2
  · rename_i r outs eg
    cases e2
    refine PySem.W.callWith_K0 I.kIn Fd.kp (wpAny_call (codeAny_mono (run_fnG (args := ⟨[], []⟩) (us := []) (vs := []) (Fg.mono hjk) room guards (fun s _ => FnX.bind (P := X.prog) (w := X.w) (base := X.base) hb Fd rfl s) rfl I .nil (S.all .nil) eg (Q := Q) fun v H' b => ?_) fun res s' hq => ?_))
    · obtain ⟨F2, G2, W2, gh, S2, sv⟩ := back_laid S b
      exact q F2 G2 H' cs v W2 (fun h => gh) S2 sv
    · cases res with
      | error e => exact hq.elim
      | ok fl =>
        cases fl with
        | ret u => exact hq
        | next => exact hq.elim
        | brk => exact hq.elim
        | cont => exact hq.elim
  · cases e2

/-! ### keywords -/
/-- the values at these places -/
def pick {α : Type} (ix : List Nat) (l : List α) : List α := ix.filterMap fun i => l[i]?
def mCallK (n : Nat) (ix : List Nat) (g : Fn) (ms ks : M (List D)) : M R := fun ρ => match ms ρ with
  | some (ds, ρ1) => match ks ρ1 with
    | some (es, ρ2) => if (ds ++ es).length = n ∧ ix.all (fun i => decide (i < n)) = true then match g (frz0 (pick ix (ds ++ es))) with
        | some (r, _) => some (r, ρ2)
        | none => none
      else none
    | none => none
  | none => none
theorem pick_len {α : Type} : ∀ {ix : List Nat} {l : List α}, (∀ i ∈ ix, i < l.length) → (pick ix l).length = ix.length
  | [], _, _ => rfl
  | i :: ix, l, h => by
    unfold pick
    rw [List.filterMap_cons]
    have hi : i < l.length := h i List.mem_cons_self
    rw [List.getElem?_eq_getElem hi]
    simp only [List.length_cons]
    congr 1
    exact pick_len fun j hj => h j (List.mem_cons_of_mem _ hj)
theorem RpA.pick {vs : List V} {ds : List D} (h : RpA K mg F vs ds) : ∀ {ix : List Nat}, (∀ i ∈ ix, i < ds.length) → RpA K mg F (Lk.pick ix vs) (Lk.pick ix ds)
  | [], _ => .nil
  | i :: ix, hi => by
    have h0 : i < ds.length := hi i List.mem_cons_self
    have hv : i < vs.length := by rw [h.length]; exact h0
    obtain ⟨v, e, r⟩ := h.get (List.getElem?_eq_getElem h0)
    have e1 : Lk.pick (i :: ix) vs = v :: Lk.pick ix vs := by unfold Lk.pick; rw [List.filterMap_cons, e]
    have e2 : Lk.pick (i :: ix) ds = ds[i] :: Lk.pick ix ds := by unfold Lk.pick; rw [List.filterMap_cons, List.getElem?_eq_getElem h0]
    rw [e1, e2]
    exact .cons r (RpA.pick h fun j hj => hi j (List.mem_cons_of_mem _ hj))
theorem vals_pick {vs : List V} {us : List Value} (h : Vals vs us) : ∀ {ix : List Nat}, (∀ i ∈ ix, i < vs.length) → Vals (Lk.pick ix vs) (Lk.pick ix us)
  | [], _ => .nil
  | i :: ix, hi => by
    have h0 : i < vs.length := hi i List.mem_cons_self
    obtain ⟨u, e, r⟩ := h.get (List.getElem?_eq_getElem h0)
    have e1 : Lk.pick (i :: ix) us = u :: Lk.pick ix us := by unfold Lk.pick; rw [List.filterMap_cons, e]
    have e2 : Lk.pick (i :: ix) vs = vs[i] :: Lk.pick ix vs := by unfold Lk.pick; rw [List.filterMap_cons, List.getElem?_eq_getElem h0]
    rw [e1, e2]
    exact .cons r (vals_pick h fun j hj => hi j (List.mem_cons_of_mem _ hj))
/-- how us (positional) and ws (for the keywords ks) are bound: the parameters get what stands at ix in us ++ ws -/
def BindK (x qual : Str) (st : Stmt) (ps ks : List Str) (ix : List Nat) (n m : Nat) : Prop := ∀ (kV doc pm : Value) (an : Option Addr) (cdv ct : Value) (us ws : List Value), us.length = n → ws.length = m →
  bindArgs (PySem.W.fnOf x qual (defArgs st) (defBody st) (defScope st) .none kV doc pm an cdv ct) ⟨us, ks.zip ws⟩ = pure (ps.zip (pick ix (us ++ ws)))
theorem callK_end {X : Cx} {k j : Nat} {x qual : Str} {st : Stmt} {ps ks : List Str} {g : Fn} {ix : List Nat} {n m : Nat} {f : Addr} {fd : FuncData} {pins : List (Addr × Obj)} {σ : St} {H F G : Hp} {s : Shared} {ρ : Sto} {cs : List Addr} {us ws : List Value} {vs zs : List V} {ds es : List D} {r : R} {outs : List (Option B)} {Q : VK}
    (Fg : FnG X.prog X.w X.K X.mg X.base j f fd ps g) (Fd : Fun X.K x qual st f fd) (hjk : j ≤ k) (room : Room k X.A) (guards : X.A.guards = some []) (hb : BindK x qual st ps ks ix n m) (hix : ix.length = ps.length) (I : L2.Inv X pins σ H s) (S : SR X.K X.mg F G H ρ σ cs)
    (rv : Vals vs us) (rz : Vals zs ws) (ra : RpA X.K X.mg F vs ds) (re : RpA X.K X.mg F zs es) (hn : ds.length = n) (hm : es.length = m) (hall : ∀ i ∈ ix, i < (ds ++ es).length) (eg : g (frz0 (pick ix (ds ++ es))) = some (r, outs))
    (q : ∀ F' G' H' v, Fw F G F' G' → Sub H H' → SR X.K X.mg F' G' H' ρ σ cs → SV X.K X.mg F' G' H' cs r v → Q v H') : wpAny (model X.prog X.w) X.A (call (.ref f) us (ks.zip ws)) (EP X pins σ Q) X.xe s := by
  have hv : (vs ++ zs).length = (ds ++ es).length := by rw [List.length_append, List.length_append, ra.length, re.length]
  have vl : (pick ix (vs ++ zs)).length = ps.length := (pick_len fun i hi => by rw [hv]; exact hall i hi).trans hix
  have bd : ∀ s : Shared, X.K.In s.heap → BindsTo s fd ⟨us, ks.zip ws⟩ (ps.zip (pick ix (us ++ ws))) := fun s _ => by
    obtain ⟨oc, od, kV, doc, pm, an, cdv, ct, osl, rfl, _, _⟩ := Fd.ex
    exact .of_eq (hb kV doc pm an cdv ct us ws (by rw [← rv.length, ra.length]; exact hn) (by rw [← rz.length, re.length]; exact hm))
  refine wpAny_call (codeAny_mono (run_fnG (args := ⟨us, ks.zip ws⟩) (us := pick ix (us ++ ws)) (vs := pick ix (vs ++ zs)) (Fg.mono hjk) room guards bd vl I (vals_pick (rv.append rz) fun i hi => by rw [hv]; exact hall i hi) (S.all ((ra.append re).pick hall)) eg (Q := Q) fun v H' b => ?_) fun res s' hq => ?_)
  · obtain ⟨F2, G2, W2, gh, S2, sv⟩ := back_laid S b
    exact q F2 G2 H' v W2 gh S2 sv
  · cases res with
    | error e => exact hq.elim
    | ok fl =>
      cases fl with
      | ret u => exact hq
      | next => exact hq.elim
      | brk => exact hq.elim
      | cont => exact hq.elim
theorem de_callK {ms mk : M (List D)} {ks : List Str} {ix : List Nat} {kws : List Keyword} (n : Nat) (Fx : FnC X j x qual st ps g) (hjk : j ≤ k) (room : Room k X.A) (guards : X.A.guards = some []) (hb : ∀ a b, a + b = n → BindK x qual st ps ks ix a b) (hix : ix.length = ps.length) (ha : DF X μ (e :: es) ms) (hk : DFk X μ kws mk)
    (hall : (backToKw pos (keywordEach kws X.env)).all (·.1.isSome) = true := by rfl) (hks : (backToKw pos (keywordEach kws X.env)).filterMap (·.1) = ks := by rfl) (hg : Gl X x := by rfl)
    (hdb : (x == ("__debug__" : Str)) = false := by decide) (he : starEach (e :: es) X.env = (false, eval e X.env) :: starEach es X.env := by rfl) (hpl : ((backTo pos (starEach (e :: es) X.env)).any (·.1) || (backToKw pos (keywordEach kws X.env)).any (·.1.isNone)) = false := by rfl) :
    DE X μ (.Call (.Name x p) (e :: es) kws pos) (mCallK n ix g ms mk) := by
  obtain ⟨f, fd, Fg, Fd, hm⟩ := Fx.ex
  refine ⟨fun pins s σ H Q I h => ?_⟩
  obtain ⟨F, G, ρ, cs, rr, ρ', S, e2, q⟩ := h
  refine wpAny_Call_Name_kw (ld_glob I hg hm ?_ hdb)
  unfold mCallK at e2
  split at e2
  · rename_i ds ρ1 em
    split at e2
    · rename_i es' ρ2 ek
      split at e2
      · rename_i hc
        split at e2
        · rename_i r outs eg
          cases e2
          refine PySem.W.callWith_KW (h₀ := X.base) I.ok.mod.kin Fd.kp hall (thn (ha.run pos pins s σ H (fun vs H1 => ∃ F1 G1 cs1, Fw F G F1 G1 ∧ (μ = true → Sub H H1) ∧ SR X.K X.mg F1 G1 H1 ρ1 σ cs1 ∧ RpA X.K X.mg F1 vs ds) I ⟨F, G, ρ, cs, _, _, S, em, fun F1 G1 H1 cs1 vs W mo S1 ra => ⟨F1, G1, cs1, W, mo, S1, ra⟩⟩) fun us s1 ⟨vs, H1, I1, rv, F1, G1, cs1, W, mo, S1, ra⟩ =>
            thn (hk.run pos pins s1 σ H1 (fun zs H2 => ∃ F2 G2 cs2, Fw F1 G1 F2 G2 ∧ (μ = true → Sub H1 H2) ∧ SR X.K X.mg F2 G2 H2 ρ' σ cs2 ∧ RpA X.K X.mg F2 zs es') I1 ⟨F1, G1, ρ1, cs1, _, _, S1, ek, fun F2 G2 H2 cs2 zs W2 mo2 S2 re => ⟨F2, G2, cs2, W2, mo2, S2, re⟩⟩) fun ws s2 ⟨zs, H2, I2, rz, F2, G2, cs2, W2, mo2, S2, re⟩ => ⟨I2.kIn, ?_⟩) hpl he
          rw [hks]
          have hl : ds.length + es'.length = n := by rw [← List.length_append]; exact hc.1
          refine callK_end Fg Fd hjk room guards (hb ds.length es'.length hl) hix I2 S2 rv rz (ra.sub W2.f) re rfl rfl (fun i hi => ?_) eg fun F' G' H' v W3 gh S3 sv => q F' G' H' cs2 v (W.trans (W2.trans W3)) (fun h => (mo h).trans ((mo2 h).trans gh)) S3 sv
          rw [hc.1]
          exact of_decide_eq_true (List.all_eq_true.mp hc.2 i hi)
        · cases e2
      · cases e2
    · cases e2
  · cases e2
theorem de_callK0 {mk : M (List D)} {ks : List Str} {ix : List Nat} {kws : List Keyword} (n : Nat) (Fx : FnC X j x qual st ps g) (hjk : j ≤ k) (room : Room k X.A) (guards : X.A.guards = some []) (hb : BindK x qual st ps ks ix 0 n) (hix : ix.length = ps.length) (hk : DFk X μ kws mk)
    (hall : (backToKw pos (keywordEach kws X.env)).all (·.1.isSome) = true := by rfl) (hks : (backToKw pos (keywordEach kws X.env)).filterMap (·.1) = ks := by rfl) (hg : Gl X x := by rfl)
    (hdb : (x == ("__debug__" : Str)) = false := by decide) (hpl : ((backTo pos (starEach [] X.env)).any (·.1) || (backToKw pos (keywordEach kws X.env)).any (·.1.isNone)) = false := by rfl) :
    DE X μ (.Call (.Name x p) [] kws pos) (mCallK n ix g mF0 mk) := by
  obtain ⟨f, fd, Fg, Fd, hm⟩ := Fx.ex
  refine ⟨fun pins s σ H Q I h => ?_⟩
  obtain ⟨F, G, ρ, cs, rr, ρ', S, e2, q⟩ := h
  refine wpAny_Call_Name_kw (ld_glob I hg hm ?_ hdb)
  unfold mCallK mF0 at e2
  simp only [List.nil_append] at e2
  split at e2
  · rename_i es' ρ2 ek
    split at e2
    · rename_i hc
      split at e2
      · rename_i r outs eg
        cases e2
        refine PySem.W.callWith_KW0 (h₀ := X.base) I.ok.mod.kin Fd.kp hall (thn (hk.run pos pins s σ H (fun zs H2 => ∃ F2 G2 cs2, Fw F G F2 G2 ∧ (μ = true → Sub H H2) ∧ SR X.K X.mg F2 G2 H2 ρ' σ cs2 ∧ RpA X.K X.mg F2 zs es') I ⟨F, G, ρ, cs, _, _, S, ek, fun F2 G2 H2 cs2 zs W2 mo2 S2 re => ⟨F2, G2, cs2, W2, mo2, S2, re⟩⟩) fun ws s2 ⟨zs, H2, I2, rz, F2, G2, cs2, W2, mo2, S2, re⟩ => ⟨I2.kIn, ?_⟩) hpl
        rw [hks]
        have hall : ∀ i ∈ ix, i < es'.length := fun i hi => by
          rw [hc.1]
          exact of_decide_eq_true (List.all_eq_true.mp hc.2 i hi)
        exact callK_end (ds := []) (vs := []) Fg Fd hjk room guards hb hix I2 S2 .nil rz .nil re rfl hc.1 hall eg fun F' G' H' v W3 gh S3 sv => q F' G' H' cs2 v (W2.trans W3) (fun h => (mo2 h).trans gh) S3 sv
      · cases e2
    · cases e2
  · cases e2
end
end Lk

set_option Elab.async false
set_option linter.all false
set_option maxRecDepth 100000
/-! LkH: targets, what is walked, for, list comprehensions. -/
namespace Lk
open PySem L2 PySem.Spec

section defs
variable (K : PySem.W.Frag) (mg : Str → Option Value)
/-- a target: a thing laid down comes to it -/
def tGt (pr : List Nat) (b : D → Sto → Option Sto) : TG := fun x σ H Q => ∃ F G ρ cs d ρ1, SR K mg F G H ρ σ cs ∧ Rp K mg F x d ∧ b d ρ = some ρ1 ∧
  ∀ σ' cs', (∀ i ∈ pr, σ'[i]? = σ[i]?) → σ'.length = σ.length → SR K mg F G H ρ1 σ' cs' → Q σ' H
def tGts (pr : List Nat) (b : List D → Sto → Option Sto) : TGs := fun xs σ H Q => ∃ F G ρ cs ds ρ1, SR K mg F G H ρ σ cs ∧ RpA K mg F xs ds ∧ b ds ρ = some ρ1 ∧
  ∀ σ' cs', (∀ i ∈ pr, σ'[i]? = σ[i]?) → σ'.length = σ.length → SR K mg F G H ρ1 σ' cs' → Q σ' H
/-- the iterator gives the things ds, one by one -/
structure ItD (J : It) (F0 : Hp) (ds : List D) : Prop where
  go : ∀ i F G H, Sub F0 F → Sub F G → Sub G H → i < ds.length → J.go i H ∧ ∀ x H', J.yld i H x H' → ∃ F' G' d, Gr F G H F' G' H' ∧ ds[i]? = some d ∧ Rp K mg F' x d
  stop : ∀ F H, Sub F0 F → Sub F H → J.stop ds.length H
theorem ItD.mono {J : It} {F0 F1 : Hp} {ds : List D} (h : ItD K mg J F0 ds) (s : Sub F0 F1) : ItD K mg J F1 ds := ⟨fun i F G H a => h.go i F G H (s.trans a), fun F H a => h.stop F H (s.trans a)⟩
def tI (μ : Bool) (m : M (List D)) : TI := fun σ H R => ∃ F G ρ cs ds ρ', SR K mg F G H ρ σ cs ∧ m ρ = some (ds, ρ') ∧
  ∀ F' G' H' cs' J, Fw F G F' G' → (μ = true → Sub H H') → SR K mg F' G' H' ρ' σ cs' → ItD K mg J F' ds → R J H'
end defs
def DTg (X : Cx) (pr : List Nat) (tg : Expr) (b : D → Sto → Option Sto) : Prop := PG X tg (tGt X.K X.mg pr b)
def DTgs (X : Cx) (pr : List Nat) (tg : List Expr) (b : List D → Sto → Option Sto) : Prop := PGs X tg (tGts X.K X.mg pr b)
def DI (X : Cx) (μ : Bool) (tg e : Expr) (m : M (List D)) : Prop := PI X tg e (tI X.K X.mg μ m)

section
variable {X : Cx} {pr : List Nat} {K : PySem.W.Frag} {mg : Str → Option Value} {F G H : Hp} {pos : Pos}
theorem pg_imp {e : Expr} {t t' : TG} (h : PG X e t) (hi : ∀ v σ H Q, t' v σ H Q → t v σ H Q) : PG X e t' := ⟨fun pins s σ H v u Q I r q => h.run pins s σ H v u Q I r (hi v σ H Q q)⟩
theorem pgs_imp {e : List Expr} {t t' : TGs} (h : PGs X e t) (hi : ∀ v σ H Q, t' v σ H Q → t v σ H Q) : PGs X e t' := ⟨fun pins s σ H v u Q I r q => h.run pins s σ H v u Q I r (hi v σ H Q q)⟩
theorem pi_imp {tg e : Expr} {t t' : TI} (h : PI X tg e t) (hi : ∀ σ H R, t' σ H R → t σ H R) : PI X tg e t' := ⟨fun pins s σ H R I q => h.run pins s σ H R I (hi σ H R q)⟩
/-! ### targets -/
def bN (i : Nat) : D → Sto → Option Sto := fun d ρ => stor i ⟨false, 0, d⟩ ρ
theorem tg_name {i : Nat} {x : Str} (nd : X.N.Nodup) (hN : X.N[i]? = some x) (hx : Loc X.env.scope x) (hi : i ∉ pr) (hf : X.fn x = true ∨ X.env.scope.names.lookup x = some .local := by first | exact .inl rfl | exact .inr rfl | assumption) : DTg X pr (.Name x pos) (bN i) :=
  pg_imp (pg_name nd hN hx hf) fun v σ H Q ⟨F, G, ρ, cs, d, ρ1, S, r, e, q⟩ => by
    obtain ⟨cs', S', _⟩ := stor_ok (r := ⟨false, 0, d⟩) S ⟨[], ow0 r, fun h => Bool.noConfusion h⟩ e
    exact q _ cs' (fun j hj => set_pr hi hj) (by rw [List.length_set]) S'
def bs0 : List D → Sto → Option Sto := fun ds ρ => match ds with
  | [] => some ρ
  | _ => none
def bs1 (b : D → Sto → Option Sto) (c : List D → Sto → Option Sto) : List D → Sto → Option Sto := fun ds ρ => match ds with
  | d :: r => match b d ρ with
    | some ρ1 => c r ρ1
    | none => none
  | [] => none
theorem tgs_nil : DTgs X pr [] bs0 := pgs_imp pgs_nil fun v σ H Q ⟨F, G, ρ, cs, ds, ρ1, S, r, e, q⟩ => by
  cases r with
  | nil => cases e; exact ⟨rfl, q σ cs (fun _ _ => rfl) rfl S⟩
  | cons _ _ => cases e
theorem tgs_cons {e : Expr} {es : List Expr} {b : D → Sto → Option Sto} {c : List D → Sto → Option Sto} (h : DTg X pr e b) (h' : DTgs X pr es c) (hs : (assignEach (e :: es) X.env).map (·.2) = assign e X.env :: (assignEach es X.env).map (·.2) := by rfl) : DTgs X pr (e :: es) (bs1 b c) :=
  pgs_imp (pgs_cons h h' hs) fun v σ H Q ⟨F, G, ρ, cs, ds, ρ1, S, r, e, q⟩ => by
    cases r with
    | nil => cases e
    | @cons x xs d ds r rs =>
      unfold bs1 at e
      simp only at e
      split at e
      · rename_i ρ2 eb
        exact ⟨x, xs, rfl, F, G, ρ, cs, d, ρ2, S, r, eb, fun σ1 cs1 p1 l1 S1 => ⟨F, G, ρ2, cs1, ds, ρ1, S1, rs, e, fun σ2 cs2 p2 l2 S2 => q σ2 cs2 (fun i hi => (p2 i hi).trans (p1 i hi)) (l2.trans l1) S2⟩⟩
      · cases e
def bT (n : Nat) (c : List D → Sto → Option Sto) : D → Sto → Option Sto := fun d ρ => match d with
  | .tuple ds => if ds.length = n then c ds ρ else none
  | _ => none
theorem tg_tup {es : List Expr} {kk n : Nat} {c : List D → Sto → Option Sto} (hc : X.calm = true) (h : DTgs X pr es c) (hn : (assignEach es X.env).length = n := by rfl) (hst : (assignEach es X.env).findIdx? (·.1) = none := by rfl) : DTg X pr (.Tuple es kk pos) (bT n c) :=
  pg_imp (pg_tup hc h hn hst) fun v σ H Q ⟨F, G, ρ, cs, d, ρ1, S, r, e, q⟩ => by
    unfold bT at e
    split at e
    · rename_i ds
      split at e
      · rename_i hl
        cases r with
        | @tup a vs ds hs ra => exact ⟨a, vs, rfl, sub_sqT (S.fg.trans S.gh) hs, ra.length.trans hl, F, G, ρ, cs, ds, ρ1, S, ra, e, q⟩
      · cases e
    · cases e
/-- target = e, the thing laid down -/
def mAsg (b : D → Sto → Option Sto) (m : M R) : M Fl := fun ρ => match m ρ with
  | some (r, ρ1) => if (r.fr || r.k == 0) = true then match b r.d ρ1 with
      | some ρ2 => some (.nx, ρ2)
      | none => none
    else none
  | none => none
theorem ds_asg {tg e : Expr} {b : D → Sto → Option Sto} {m : M R} {μ : Bool} (hg : DTg X pr tg b) (he : DE X μ e m) (hs : swapsWithSole [tg] e pos.line X.env = pure false := by rfl) (hw : swappedStores [tg] e X.env = pure none := by rfl)
    (h1 : (assignEach [tg] X.env).map (·.2) = [assign tg X.env] := by rfl) : DS X pr (.Assign [tg] e pos) (mAsg b m) :=
  ps_imp (ps_asg he hg hs hw h1) fun D σ H ⟨F, G, ρ, cs, fl, ρ', S, e, q⟩ => by
    unfold mAsg at e
    split at e
    · rename_i r ρ1 em
      split at e
      · rename_i hfr
        split at e
        · rename_i ρ2 eb
          cases e
          refine ⟨F, G, ρ, cs, _, _, S, em, fun F1 G1 H1 cs1 v W mo S1 sv => ?_⟩
          obtain ⟨F2, G2, S2, W2, rp⟩ := sv.lay S1 hfr
          exact ⟨F2, G2, ρ1, cs1, _, _, S2, rp, eb, fun σ' cs' p _ S' => q F2 G2 H1 σ' cs' (W.trans W2) p S'⟩
        · cases e
      · cases e
    · cases e

/-! ### what is walked -/
/-- the items of a list or a tuple that is laid down -/
def mIl (m : M R) : M (List D) := fun ρ => match m ρ with
  | some (r, ρ1) => if (r.fr || r.k == 0) = true then match r.d with
      | .list ds => some (ds, ρ1)
      | _ => none
    else none
  | none => none
def mIt (m : M R) : M (List D) := fun ρ => match m ρ with
  | some (r, ρ1) => if (r.fr || r.k == 0) = true then match r.d with
      | .tuple ds => some (ds, ρ1)
      | _ => none
    else none
  | none => none
theorem itd_list {F0 : Hp} {a : Addr} {vs : List V} {ds : List D} (h : F0 a = some (.lst vs)) (ra : RpA K mg F0 vs ds) : ItD K mg (Itl K a) F0 ds := by
  refine ⟨fun i F G H s fg gh hi => ?_, fun F H s fh => ⟨vs, SqL.of (fh _ _ (s _ _ h)), by rw [ra.length]; exact Nat.le_refl _⟩⟩
  have sq : SqL K H a vs := SqL.of (gh _ _ (fg _ _ (s _ _ h)))
  obtain ⟨v, ev, rp⟩ := ra.get (List.getElem?_eq_getElem hi)
  refine ⟨⟨vs, v, sq, ev⟩, fun x H' ⟨e, y⟩ => ?_⟩
  subst e
  have := y vs sq
  rw [ev] at this; cases this
  exact ⟨F, G, _, Gr.refl fg gh, List.getElem?_eq_getElem hi, rp.sub s⟩
theorem itd_tup {F0 : Hp} {a : Addr} {vs : List V} {ds : List D} (h : SqT K F0 a vs) (hu : ∀ H, Sub F0 H → ∀ ws, SqT K H a ws → ws = vs) (ra : RpA K mg F0 vs ds) : ItD K mg (Itt K a) F0 ds := by
  refine ⟨fun i F G H s fg gh hi => ?_, fun F H s fh => ⟨vs, sub_sqT (s.trans fh) h, by rw [ra.length]; exact Nat.le_refl _⟩⟩
  have sq : SqT K H a vs := sub_sqT ((s.trans fg).trans gh) h
  obtain ⟨v, ev, rp⟩ := ra.get (List.getElem?_eq_getElem hi)
  refine ⟨⟨vs, v, sq, ev⟩, fun x H' ⟨e, y⟩ => ?_⟩
  subst e
  have := y vs sq
  rw [ev] at this; cases this
  exact ⟨F, G, _, Gr.refl fg gh, List.getElem?_eq_getElem hi, rp.sub s⟩
theorem di_list {tg e : Expr} {m : M R} {μ : Bool} (he : DE X μ e m) : DI X μ tg e (mIl m) := pi_imp (pi_list he) fun σ H R ⟨F, G, ρ, cs, ds, ρ', S, e, q⟩ => by
  unfold mIl at e
  split at e
  · rename_i r ρ1 em
    split at e
    · rename_i hfr
      split at e
      · rename_i ds' ed
        cases e
        refine ⟨F, G, ρ, cs, _, _, S, em, fun F1 G1 H1 cs1 v W mo S1 sv => ?_⟩
        obtain ⟨F2, G2, S2, W2, rp⟩ := sv.lay S1 hfr
        rw [ed] at rp
        cases rp with
        | @lst a vs _ h ra => exact ⟨a, rfl, ⟨vs, SqL.of (S2.gh _ _ (S2.fg _ _ h))⟩, q F2 G2 H1 cs1 _ (W.trans W2) mo S2 (itd_list h ra)⟩
      · cases e
    · cases e
  · cases e
/-- range(n), range(a, b) -/
def dInts (lo : Int) (n : Nat) : List D := (List.range n).map fun (i : Nat) => .int (lo + (i : Int))
theorem itd_rng {F0 : Hp} {lo : Int} {n : Nat} : ItD K mg (Itr lo n) F0 (dInts lo n) := by
  have hl : (dInts lo n).length = n := by unfold dInts; rw [List.length_map, List.length_range]
  refine ⟨fun i F G H s fg gh hi => ?_, fun F H s fh => by rw [hl]; exact Nat.le_refl n⟩
  rw [hl] at hi
  refine ⟨hi, fun x H' ⟨e1, e2⟩ => ?_⟩
  subst e1 e2
  refine ⟨F, G, .int (lo + i), Gr.refl fg gh, ?_, .int _⟩
  unfold dInts
  rw [List.getElem?_map, List.getElem?_range hi]; rfl
def mR1 (m : M R) : M (List D) := fun ρ => match m ρ with
  | some (⟨_, 0, .int n⟩, ρ1) => if -1000000000 ≤ n ∧ n ≤ 1000000000 then some (dInts 0 n.toNat, ρ1) else none
  | _ => none
theorem di_range1 {tg a : Expr} {m : M R} {μ : Bool} {p : Pos} (hm : X.mg "range" = none) (ha : DE X μ a m) (hg : Gl X "range" := by rfl) (hs : starEach [a] X.env = [(false, eval a X.env)] := by rfl) : DI X μ tg (.Call (.Name "range" p) [a] [] pos) (mR1 m) :=
  pi_imp (pi_range1 hg hm (pa_cons ha pa_nil hs) hs) fun σ H R ⟨F, G, ρ, cs, ds, ρ', S, e, q⟩ => by
    unfold mR1 at e
    split at e
    · rename_i fr n ρ1 em
      split at e
      · rename_i hb
        cases e
        refine ⟨F, G, ρ, cs, _, _, S, em, fun F1 G1 H1 cs1 v W mo S1 ⟨c, o, _⟩ => ?_⟩
        obtain ⟨_, rp⟩ := o
        cases rp
        exact ⟨n, rfl, by omega, by omega, q F1 G1 H1 cs1 _ W mo S1 itd_rng⟩
      · cases e
    · cases e
def mR2 (ma mb : M R) : M (List D) := fun ρ => match ma ρ with
  | some (⟨_, 0, .int a⟩, ρ1) => match mb ρ1 with
    | some (⟨_, 0, .int b⟩, ρ2) => if (-1000000000 ≤ a ∧ a ≤ 1000000000) ∧ (-1000000000 ≤ b ∧ b ≤ 1000000000) then some (dInts a (b - a).toNat, ρ2) else none
    | _ => none
  | _ => none
theorem di_range2 {tg a b : Expr} {ma mb : M R} {μ : Bool} {p : Pos} (hm : X.mg "range" = none) (ha : DE X μ a ma) (hb : DE X μ b mb) (hg : Gl X "range" := by rfl) (hs : starEach [a, b] X.env = [(false, eval a X.env), (false, eval b X.env)] := by rfl) (hs2 : starEach [b] X.env = [(false, eval b X.env)] := by rfl) :
    DI X μ tg (.Call (.Name "range" p) [a, b] [] pos) (mR2 ma mb) :=
  pi_imp (pi_range2 hg hm (pa_cons ha (pa_cons hb pa_nil hs2) (by rw [hs, hs2])) hs hs2) fun σ H R ⟨F, G, ρ, cs, ds, ρ', S, e, q⟩ => by
    unfold mR2 at e
    split at e
    · rename_i fr n ρ1 em
      split at e
      · rename_i fr2 n2 ρ2 em2
        split at e
        · rename_i hb
          cases e
          refine ⟨F, G, ρ, cs, _, _, S, em, fun F1 G1 H1 cs1 v W mo S1 ⟨c, o, _⟩ => ?_⟩
          obtain ⟨_, rp⟩ := o
          cases rp
          refine ⟨F1, G1, _, cs1, _, _, S1, em2, fun F2 G2 H2 cs2 v W2 mo2 S2 ⟨c, o, _⟩ => ?_⟩
          obtain ⟨_, rp⟩ := o
          cases rp
          exact ⟨n, n2, rfl, by omega, q F2 G2 H2 cs2 _ (W.trans W2) (fun h => (mo h).trans (mo2 h)) S2 itd_rng⟩
        · cases e
      · cases e
    · cases e
/-- enumerate(xs) -/
def dEnum (ds : List D) : List D := (List.range ds.length).map fun (i : Nat) => .tuple [.int (i : Int), (ds[i]?).getD .none]
theorem itd_enum {F0 : Hp} {a : Addr} {vs : List V} {ds : List D} (h : F0 a = some (.lst vs)) (ra : RpA K mg F0 vs ds) : ItD K mg (Ite K a) F0 (dEnum ds) := by
  have hl : (dEnum ds).length = ds.length := by unfold dEnum; rw [List.length_map, List.length_range]
  refine ⟨fun i F G H s fg gh hi => ?_, fun F H s fh => ⟨vs, SqL.of (fh _ _ (s _ _ h)), by rw [hl, ra.length]; exact Nat.le_refl _⟩⟩
  rw [hl] at hi
  have sq : SqL K H a vs := SqL.of (gh _ _ (fg _ _ (s _ _ h)))
  obtain ⟨v, ev, rp⟩ := ra.get (List.getElem?_eq_getElem hi)
  refine ⟨⟨vs, v, sq, ev⟩, fun x H' ⟨T, y, e1, e2, e3, e4⟩ => ?_⟩
  subst e1 e3
  have := e4 vs sq
  rw [ev] at this; cases this
  have g := Gr.laid (o := .tup [V.int (i : Nat), v]) fg gh e2
  refine ⟨_, _, .tuple [.int (i : Int), ds[i]], g, ?_, .tup (SqT.of upd_same) (.cons (.int _) (.cons ?_ .nil))⟩
  · unfold dEnum
    rw [List.getElem?_map, List.getElem?_range hi, Option.map_some, List.getElem?_eq_getElem hi]; rfl
  · exact (rp.sub s).sub (g.fw fg gh).f
def mIe (m : M R) : M (List D) := fun ρ => match mIl m ρ with
  | some (ds, ρ1) => some (dEnum ds, ρ1)
  | none => none
theorem di_enum {elts : List Expr} {kk : Nat} {tpos p : Pos} {a : Expr} {m : M R} {μ : Bool} (hm : X.mg "enumerate" = none) (ha : DE X μ a m) (hg : Gl X "enumerate" := by rfl) (hs : starEach [a] X.env = [(false, eval a X.env)] := by rfl) : DI X μ (.Tuple elts kk tpos) (.Call (.Name "enumerate" p) [a] [] pos) (mIe m) :=
  pi_imp (pi_enum hg hm (pa_cons ha pa_nil hs) hs) fun σ H R ⟨F, G, ρ, cs, ds, ρ', S, e, q⟩ => by
    unfold mIe at e
    split at e
    · rename_i ds0 ρ0 e0
      cases e
      unfold mIl at e0
      split at e0
      · rename_i r ρ1 em
        split at e0
        · rename_i hfr
          split at e0
          · rename_i ds' ed
            cases e0
            refine ⟨F, G, ρ, cs, _, _, S, em, fun F1 G1 H1 cs1 v W mo S1 sv => ?_⟩
            obtain ⟨F2, G2, S2, W2, rp⟩ := sv.lay S1 hfr
            rw [ed] at rp
            cases rp with
            | @lst a vs _ h ra => exact ⟨a, vs, rfl, SqL.of (S2.gh _ _ (S2.fg _ _ h)), q F2 G2 H1 cs1 _ (W.trans W2) mo S2 (itd_enum h ra)⟩
          · cases e0
        · cases e0
      · cases e0
    · cases e
/-- zip(xs, ys) of lists -/
def dZip (ds es : List D) : List D := (List.range (min ds.length es.length)).map fun i => .tuple [(ds[i]?).getD .none, (es[i]?).getD .none]
theorem itd_zip {F0 : Hp} {a b : Addr} {vs ws : List V} {ds es : List D} (h : F0 a = some (.lst vs)) (h' : F0 b = some (.lst ws)) (ra : RpA K mg F0 vs ds) (rb : RpA K mg F0 ws es) : ItD K mg (Itz K a b) F0 (dZip ds es) := by
  have hl : (dZip ds es).length = min ds.length es.length := by unfold dZip; rw [List.length_map, List.length_range]
  refine ⟨fun i F G H s fg gh hi => ?_, fun F H s fh => ⟨vs, ws, SqL.of (fh _ _ (s _ _ h)), SqL.of (fh _ _ (s _ _ h')), by rw [hl, ra.length, rb.length]; omega⟩⟩
  rw [hl] at hi
  have i1 : i < ds.length := by omega
  have i2 : i < es.length := by omega
  have sq : SqL K H a vs := SqL.of (gh _ _ (fg _ _ (s _ _ h)))
  have sq' : SqL K H b ws := SqL.of (gh _ _ (fg _ _ (s _ _ h')))
  obtain ⟨v, ev, rp⟩ := ra.get (List.getElem?_eq_getElem i1)
  obtain ⟨w, ew, rp'⟩ := rb.get (List.getElem?_eq_getElem i2)
  refine ⟨⟨vs, ws, v, w, sq, sq', ev, ew⟩, fun x H' ⟨T, y, z, e1, e2, e3, e4, e5⟩ => ?_⟩
  subst e1 e3
  have := e4 vs sq
  rw [ev] at this; cases this
  have := e5 ws sq'
  rw [ew] at this; cases this
  have g := Gr.laid (o := .tup [v, w]) fg gh e2
  refine ⟨_, _, .tuple [ds[i], es[i]], g, ?_, .tup (SqT.of upd_same) (.cons ?_ (.cons ?_ .nil))⟩
  · unfold dZip
    rw [List.getElem?_map, List.getElem?_range (by omega), Option.map_some, List.getElem?_eq_getElem i1, List.getElem?_eq_getElem i2]; rfl
  · exact (rp.sub s).sub (g.fw fg gh).f
  · exact (rp'.sub s).sub (g.fw fg gh).f
def mIz (ma mb : M R) : M (List D) := fun ρ => match mIl ma ρ with
  | some (ds, ρ1) => match mIl mb ρ1 with
    | some (es, ρ2) => some (dZip ds es, ρ2)
    | none => none
  | none => none
theorem mIl_some {m : M R} {ρ ρ' : Sto} {ds : List D} (h : mIl m ρ = some (ds, ρ')) : ∃ r, m ρ = some (r, ρ') ∧ (r.fr || r.k == 0) = true ∧ r.d = .list ds := by
  unfold mIl at h
  split at h
  · rename_i r ρ1 em
    split at h
    · rename_i hfr
      split at h
      · rename_i ds' ed
        cases h
        exact ⟨r, em, hfr, ed⟩
      · cases h
    · cases h
  · cases h
theorem di_zip {elts : List Expr} {kk : Nat} {tpos p : Pos} {a b : Expr} {ma mb : M R} {μ : Bool} (hm : X.mg "zip" = none) (ha : DE X μ a ma) (hb : DE X μ b mb) (hg : Gl X "zip" := by rfl)
    (hs : starEach [a, b] X.env = (false, eval a X.env) :: starEach [b] X.env := by rfl) (hs2 : starEach [b] X.env = (false, eval b X.env) :: starEach [] X.env := by rfl) (hpl : (backTo pos (starEach [b] X.env)).any (·.1) = false := by rfl) :
    DI X μ (.Tuple elts kk tpos) (.Call (.Name "zip" p) [a, b] [] pos) (mIz ma mb) :=
  pi_imp (pi_zip hg hm (pa_cons ha (pa_cons hb pa_nil hs2) hs) hs hpl) fun σ H R ⟨F, G, ρ, cs, ds, ρ', S, e, q⟩ => by
    unfold mIz at e
    split at e
    · rename_i ds1 ρ1 e1
      split at e
      · rename_i ds2 ρ2 e2
        cases e
        obtain ⟨r1, em1, f1, d1⟩ := mIl_some e1
        obtain ⟨r2, em2, f2, d2⟩ := mIl_some e2
        refine ⟨F, G, ρ, cs, _, _, S, em1, fun F0 G0 H1 cs1 v W0 mo S0 sv => ?_⟩
        obtain ⟨F1, G1, S1, W1, rp⟩ := sv.lay S0 f1
        refine ⟨F1, G1, _, cs1, _, _, S1, em2, fun F2 G2 H2 cs2 v2 W2 mo2 S2 sv2 => ?_⟩
        obtain ⟨F3, G3, S3, W3, rp2⟩ := sv2.lay S2 f2
        have rp1 := rp.sub (W2.f.trans W3.f)
        rw [d1] at rp1
        rw [d2] at rp2
        cases rp1 with
        | @lst a vs _ h ra =>
          cases rp2 with
          | @lst b ws _ h' rb =>
            exact ⟨a, b, vs, ws, rfl, SqL.of (S3.gh _ _ (S3.fg _ _ h)), SqL.of (S3.gh _ _ (S3.fg _ _ h')), q F3 G3 H2 cs2 _ (W0.trans (W1.trans (W2.trans W3))) (fun h => (mo h).trans (mo2 h)) S3 (itd_zip h h' ra rb)⟩
      · cases e
    · cases e

/-! ### for -/
def mForL (b : D → Sto → Option Sto) (body : M Fl) : List D → M Fl
  | [] => mNx
  | d :: ds => fun ρ => match b d ρ with
    | some ρ1 => match body ρ1 with
      | some (.nx, ρ2) => mForL b body ds ρ2
      | some (.ct, ρ2) => mForL b body ds ρ2
      | some (.bk, ρ2) => some (.nx, ρ2)
      | some (.rt r, ρ2) => some (.rt r, ρ2)
      | none => none
    | none => none
def mFor (mi : M (List D)) (b : D → Sto → Option Sto) (body : M Fl) : M Fl := fun ρ => match mi ρ with
  | some (ds, ρ1) => mForL b body ds ρ1
  | none => none
theorem tS_for {mi : M (List D)} {b : D → Sto → Option Sto} {body : M Fl} {μ : Bool} {D : Ends} {σ : St} {H : Hp} (h : tS K mg pr (mFor mi b body) D σ H) : tFor (tI K mg μ mi) (tGt K mg pr b) (tS K mg pr body) D σ H := by
  obtain ⟨F, G, ρ, cs, fl, ρ', S, e, q⟩ := h
  unfold mFor at e
  split at e
  · rename_i ds ρ1 em
    refine ⟨F, G, ρ, cs, _, _, S, em, fun F0 G0 H0 cs0 J W0 _ S0 it => ?_⟩
    refine ⟨fun i m σ1 H1 => m = ds.length - i ∧ i ≤ ds.length ∧ ∃ F1 G1 ρ1 cs1, Fw F0 G0 F1 G1 ∧ (∀ i ∈ pr, σ1[i]? = σ[i]?) ∧ SR K mg F1 G1 H1 ρ1 σ1 cs1 ∧ mForL b body (ds.drop i) ρ1 = some (fl, ρ'),
      ⟨_, rfl, Nat.zero_le _, F0, G0, _, cs0, Fw.refl, fun _ _ => rfl, S0, e⟩, ?_⟩
    rintro i m σ1 H1 ⟨em, hi, F1, G1, ρ2, cs1, W1, p1, S1, e1⟩
    subst em
    by_cases hlt : i < ds.length
    · right
      obtain ⟨go, yl⟩ := it.go i F1 G1 H1 W1.f S1.fg S1.gh hlt
      refine ⟨go, fun σ3 H3 => ∃ m', m' < ds.length - i ∧ (m' = ds.length - (i + 1) ∧ i + 1 ≤ ds.length ∧ ∃ F1 G1 ρ1 cs1, Fw F0 G0 F1 G1 ∧ (∀ i ∈ pr, σ3[i]? = σ[i]?) ∧ SR K mg F1 G1 H3 ρ1 σ3 cs1 ∧ mForL b body (ds.drop (i + 1)) ρ1 = some (fl, ρ')), fun σ' H' hn => hn, fun x H' y => ?_⟩
      obtain ⟨F2, G2, d, g, ed, rp⟩ := yl x H' y
      have e1' : ds.drop i = d :: ds.drop (i + 1) := by
        rw [List.drop_eq_getElem_cons hlt]
        rw [List.getElem?_eq_getElem hlt] at ed
        cases ed; rfl
      rw [e1'] at e1
      unfold mForL at e1
      have W2 := W1.trans (g.fw S1.fg S1.gh)
      split at e1
      · rename_i ρ3 eb
        refine ⟨F2, G2, ρ2, cs1, d, ρ3, S1.gr g, rp, eb, fun σ3 cs3 p3 _ S3 => ?_⟩
        have again : ∀ {ρ4 : Sto}, mForL b body (ds.drop (i + 1)) ρ4 = some (fl, ρ') → ∀ F4 G4 H4 σ4 cs4, Fw F2 G2 F4 G4 → (∀ i ∈ pr, σ4[i]? = σ3[i]?) → SR K mg F4 G4 H4 ρ4 σ4 cs4 →
            ∃ m', m' < ds.length - i ∧ (m' = ds.length - (i + 1) ∧ i + 1 ≤ ds.length ∧ ∃ F1 G1 ρ1 cs1, Fw F0 G0 F1 G1 ∧ (∀ i ∈ pr, σ4[i]? = σ[i]?) ∧ SR K mg F1 G1 H4 ρ1 σ4 cs1 ∧ mForL b body (ds.drop (i + 1)) ρ1 = some (fl, ρ')) :=
          fun {ρ4} e4 F4 G4 H4 σ4 cs4 W4 p4 S4 => ⟨_, by omega, rfl, hlt, F4, G4, ρ4, cs4, W2.trans W4, fun j hj => (p4 j hj).trans ((p3 j hj).trans (p1 j hj)), S4, e4⟩
        split at e1
        · rename_i ρ4 ebd
          exact ⟨F2, G2, _, cs3, _, _, S3, ebd, fun F4 G4 H4 σ4 cs4 W4 p4 S4 => again e1 F4 G4 H4 σ4 cs4 W4 p4 S4⟩
        · rename_i ρ4 ebd
          exact ⟨F2, G2, _, cs3, _, _, S3, ebd, fun F4 G4 H4 σ4 cs4 W4 p4 S4 => again e1 F4 G4 H4 σ4 cs4 W4 p4 S4⟩
        · rename_i ρ4 ebd
          cases e1
          exact ⟨F2, G2, _, cs3, _, _, S3, ebd, fun F4 G4 H4 σ4 cs4 W4 p4 S4 => q F4 G4 H4 σ4 cs4 (W0.trans (W2.trans W4)) (fun j hj => (p4 j hj).trans ((p3 j hj).trans (p1 j hj))) S4⟩
        · rename_i r ρ4 ebd
          cases e1
          exact ⟨F2, G2, _, cs3, _, _, S3, ebd, fun F4 G4 H4 σ4 cs4 W4 p4 S4 => q F4 G4 H4 σ4 cs4 (W0.trans (W2.trans W4)) (fun j hj => (p4 j hj).trans ((p3 j hj).trans (p1 j hj))) S4⟩
        · cases e1
      · cases e1
    · left
      have ei : i = ds.length := by omega
      subst ei
      rw [List.drop_length] at e1
      cases e1
      exact ⟨it.stop F1 H1 W1.f (S1.fg.trans S1.gh), q F1 G1 H1 σ1 cs1 (W0.trans W1) p1 S1⟩
  · cases e
theorem ds_for {tg it : Expr} {body : List Stmt} {mi : M (List D)} {b : D → Sto → Option Sto} {m : M Fl} {μ : Bool} (hp : PassesOwn (model X.prog X.w) X.A X.env X.xe) (hc : X.calm = true) (hi : DI X μ tg it mi) (hg : DTg X pr tg b) (hb : DSs X pr body m)
    (hs : ∀ x, foldedSetIterable it X.env x = pure x := by intro _; rfl) : DS X pr (.For tg it body [] pos) (mFor mi b m) :=
  ps_imp (ps_for hp hc hi hg hb hs) fun _ _ _ h => tS_for h
end
end Lk

set_option Elab.async false
set_option linter.all false
set_option maxRecDepth 100000
/-! LkI: list comprehensions. -/
namespace Lk
open PySem L2 PySem.Spec

section
variable {K : PySem.W.Frag} {mg : Str → Option Value} {F G H : Hp}
/-- cells are held while something runs -/
theorem SR.hold {ρ : Sto} {σ : St} {cs c : List Addr} (S : SR K mg F G H ρ σ cs) (nd : (c ++ cs).Nodup) (off : ∀ a ∈ c, G a = none) : SR K mg F (Lk.frz c G H) H ρ σ cs :=
  ⟨S.fg.trans (frz_sub off), frz_top S.gh, S.rs, S.nd, fun a ha => by
    rw [frz_out fun hc => (List.nodup_append.mp nd).2.2 a hc a ha rfl]; exact S.off a ha⟩
theorem SR.unhold {ρ ρ' : Sto} {σ σ' : St} {cs c cs' : List Addr} {F' G' H' : Hp} (S : SR K mg F G H ρ σ cs) (off : ∀ a ∈ c, G a = none) (there : ∀ a ∈ c, H a ≠ none) (W : Fw F (Lk.frz c G H) F' G') (S' : SR K mg F' G' H' ρ' σ' cs') :
    SR K mg F' (fun a => if a ∈ c then none else G' a) H' ρ' σ' cs' ∧ Fw F G F' (fun a => if a ∈ c then none else G' a) ∧ (∀ a ∈ c, H' a = H a) ∧ (∀ a ∈ c, a ∉ cs') ∧ ∀ a ∈ c, F' a = none := by
  have gT : ∀ a ∈ c, G' a = H a := fun a ha => by
    cases e : H a with
    | none => exact absurd e (there a ha)
    | some o => exact W.g a o (by rw [frz_in ha]; exact e)
  have fN : ∀ a ∈ c, F' a = none := fun a ha => by
    cases e : F' a with
    | none => rfl
    | some o =>
      rcases W.new a (by rw [e]; simp) with h | h
      · exact absurd (S.fg.out (off a ha)) h
      · rw [frz_in ha] at h; exact absurd h (there a ha)
  refine ⟨⟨fun a o e => ?_, fun a o e => ?_, S'.rs, S'.nd, fun a ha => ?_⟩, ⟨W.f, fun a o e => ?_, fun a h => ?_⟩, fun a ha => ?_, fun a ha hb => ?_, fN⟩
  · have : a ∉ c := fun ha => by rw [fN a ha] at e; cases e
    show (if a ∈ c then none else G' a) = some o
    rw [if_neg this]; exact S'.fg a o e
  · by_cases ha : a ∈ c
    · rw [if_pos ha] at e; cases e
    · rw [if_neg ha] at e; exact S'.gh a o e
  · by_cases hc : a ∈ c
    · exact if_pos hc
    · exact (if_neg hc).trans (S'.off a ha)
  · have n1 : a ∉ c := fun ha => by rw [off a ha] at e; cases e
    show (if a ∈ c then none else G' a) = some o
    rw [if_neg n1]; exact W.g a o (by rw [frz_out n1]; exact e)
  · rcases W.new a h with h | h
    · exact .inl h
    · right
      by_cases ha : a ∈ c
      · exact off a ha
      · rw [frz_out ha] at h; exact h
  · cases e : H a with
    | none => exact absurd e (there a ha)
    | some o => exact S'.gh a o ((gT a ha).trans e)
  · have := S'.off a hb
    rw [gT a ha] at this
    exact there a ha this
theorem RS.congr {ρ : Sto} {σ : St} {cs : List Addr} (h : RS K mg F H ρ σ cs) : ∀ {σ' : St}, σ'.length = σ.length → (∀ (i : Nat) b, ρ[i]? = some (some b) → σ'[i]? = σ[i]?) → RS K mg F H ρ σ' cs := by
  induction h with
  | nil =>
    intro σ' hl _
    cases σ' with
    | nil => exact .nil
    | cons _ _ => simp at hl
  | no _ ih =>
    intro σ' hl hc
    cases σ' with
    | nil => simp at hl
    | cons o σ' => exact .no (ih (by simpa using hl) fun i b e => by simpa using hc (i + 1) b (by simpa using e))
  | yes o _ ih =>
    intro σ' hl hc
    cases σ' with
    | nil => simp at hl
    | cons o' σ' =>
      have e := hc 0 _ rfl
      simp at e
      subst e
      exact .yes o (ih (by simpa using hl) fun i b e => by simpa using hc (i + 1) b (by simpa using e))
/-- slots forgotten -/
def wipeS (ρ : Sto) : List Nat → Sto
  | [] => ρ
  | v :: vs => (wipeS ρ vs).set v none
theorem wipeS_length (ρ : Sto) : ∀ vs : List Nat, (wipeS ρ vs).length = ρ.length
  | [] => rfl
  | v :: vs => by unfold wipeS; rw [List.length_set, wipeS_length ρ vs]
theorem wipeS_out {ρ : Sto} {i : Nat} {b : B} : ∀ {vs : List Nat}, (wipeS ρ vs)[i]? = some (some b) → ρ[i]? = some (some b) ∧ i ∉ vs
  | [], h => ⟨h, by simp⟩
  | v :: vs, h => by
    unfold wipeS at h
    by_cases hi : v = i
    · subst hi
      by_cases hv : v < (wipeS ρ vs).length
      · rw [List.getElem?_set_self hv] at h; cases h
      · rw [List.getElem?_eq_none (by simpa using hv)] at h; cases h
    · rw [List.getElem?_set_ne hi] at h
      obtain ⟨h1, h2⟩ := wipeS_out h
      exact ⟨h1, by simp only [List.mem_cons, not_or]; exact ⟨fun e => hi e.symm, h2⟩⟩
theorem wipe_same {σ : St} {i : Nat} : ∀ {vs : List Nat}, i ∉ vs → (wipe σ vs)[i]? = σ[i]?
  | [], _ => rfl
  | v :: vs, h => by
    unfold wipe
    simp only [List.mem_cons, not_or] at h
    rw [List.getElem?_set_ne (Ne.symm h.1)]
    exact wipe_same h.2
theorem RS.wipeS {σ : St} : ∀ {ρ : Sto} {cs : List Addr} (vs : List Nat), RS K mg F H ρ σ cs → ∃ cs', RS K mg F H (Lk.wipeS ρ vs) σ cs' ∧ ∃ c, cs.Perm (c ++ cs')
  | ρ, cs, [], h => ⟨cs, h, [], List.Perm.refl _⟩
  | ρ, cs, v :: vs, h => by
    obtain ⟨cs1, h1, c1, p1⟩ := RS.wipeS vs h
    unfold Lk.wipeS
    cases e : (Lk.wipeS ρ vs)[v]? with
    | none =>
      rw [List.set_eq_of_length_le (by simpa using e)]
      exact ⟨cs1, h1, c1, p1⟩
    | some o =>
      cases o with
      | none =>
        have hlt : v < (Lk.wipeS ρ vs).length := (List.getElem?_eq_some_iff.mp e).1
        have e0 : (Lk.wipeS ρ vs).set v none = Lk.wipeS ρ vs := by
          apply List.ext_getElem?
          intro j
          by_cases hj : v = j
          · subst hj; rw [List.getElem?_set_self hlt, e]
          · rw [List.getElem?_set_ne hj]
        rw [e0]
        exact ⟨cs1, h1, c1, p1⟩
      | some b =>
        obtain ⟨_, c2, cs2, _, _, h2, p2⟩ := h1.out e
        refine ⟨cs2, h2, c1 ++ c2, p1.trans ?_⟩
        rw [List.append_assoc]
        exact List.Perm.append_left c1 p2
/-- the state of a block whose own slots are forgotten -/
theorem SR.block {ρ : Sto} {σ : St} {cs : List Addr} (S : SR K mg F G H ρ σ cs) (vs : List Nat) : ∃ cs', SR K mg F G H (wipeS ρ vs) (wipe σ vs) cs' ∧ ∀ a ∈ cs', a ∈ cs := by
  obtain ⟨cs', h, c, p⟩ := S.rs.wipeS vs
  refine ⟨cs', ⟨S.fg, S.gh, h.congr (by rw [wipe_length]) fun i b e => wipe_same (wipeS_out e).2, (List.nodup_append.mp (p.nodup_iff.mp S.nd)).2.1, fun a ha => S.off a (p.mem_iff.mpr (List.mem_append_right _ ha))⟩, fun a ha => p.mem_iff.mpr (List.mem_append_right _ ha)⟩
/-- .. and back: what was laid down in these slots ahead of it stands there again -/
def unwipe (ρ0 ρ : Sto) : List Nat → Sto
  | [] => ρ
  | v :: vs => match ρ0[v]? with
    | some (some ⟨0, d⟩) => (unwipe ρ0 ρ vs).set v (some ⟨0, d⟩)
    | _ => unwipe ρ0 ρ vs
theorem RS.unwipe {ρ0 ρ : Sto} {σ : St} {F0 H0 : Hp} {cs0 : List Addr} (h0 : RS K mg F0 H0 ρ0 σ cs0) (hf : Sub F0 F) : ∀ {cs : List Addr} (vs : List Nat), vs.Nodup → (∀ v ∈ vs, ∀ b, ρ[v]? ≠ some (some b)) → RS K mg F H ρ σ cs → ρ.length = ρ0.length →
    RS K mg F H (Lk.unwipe ρ0 ρ vs) σ cs ∧ (Lk.unwipe ρ0 ρ vs).length = ρ.length ∧ ∀ i, i ∉ vs → (Lk.unwipe ρ0 ρ vs)[i]? = ρ[i]?
  | cs, [], _, _, h, _ => ⟨h, rfl, fun _ _ => rfl⟩
  | cs, v :: vs, nd, hn, h, hl => by
    obtain ⟨hv, nd⟩ := List.nodup_cons.mp nd
    obtain ⟨h1, l1, o1⟩ := RS.unwipe h0 hf vs nd (fun u hu => hn u (List.mem_cons_of_mem _ hu)) h hl
    unfold Lk.unwipe
    split
    · rename_i d e
      obtain ⟨x, c, _, ex, ow, _, _⟩ := h0.out e
      obtain ⟨_, rp⟩ := ow
      have hlt : v < ρ.length := by rw [hl]; exact (List.getElem?_eq_some_iff.mp e).1
      have ev : (Lk.unwipe ρ0 ρ vs)[v]? = some none := by
        rw [o1 v hv]
        cases q : ρ[v]? with
        | none => rw [List.getElem?_eq_none_iff] at q; omega
        | some o =>
          cases o with
          | none => rfl
          | some b => exact absurd q (hn v List.mem_cons_self b)
      obtain ⟨cs', r, p⟩ := h1.into (b := ⟨0, d⟩) ev ex (ow0 (rp.sub hf))
      refine ⟨?_, by rw [List.length_set, l1], fun i hi => ?_⟩
      · -- the same cells
        have : ∀ {ρ : Sto} {σ : St} {cs : List Addr}, RS K mg F H ρ σ cs → ∀ {i : Nat} {x : V}, ρ[i]? = some none → σ[i]? = some (some x) → Rp K mg F x d → RS K mg F H (ρ.set i (some ⟨0, d⟩)) σ cs := by
          intro ρ σ cs h
          induction h with
          | nil => intro i x e; simp at e
          | @no ρ σ cs o r ih =>
            intro i x e es rp
            cases i with
            | zero => simp at es; subst es; exact RS.yes (c := []) (ow0 rp) r
            | succ i => exact .no (ih (by simpa using e) (by simpa using es) rp)
          | @yes ρ σ c0 cs0 b0 v0 o0 r ih =>
            intro i x e es rp
            cases i with
            | zero => simp at e
            | succ i => exact .yes o0 (ih (by simpa using e) (by simpa using es) rp)
        exact this h1 ev ex (rp.sub hf)
      · simp only [List.mem_cons, not_or] at hi
        rw [List.getElem?_set_ne (Ne.symm hi.1)]
        exact o1 i hi.2
    · exact ⟨h1, l1, fun i hi => o1 i (by simp only [List.mem_cons, not_or] at hi; exact hi.2)⟩
theorem SR.unblock {vs : List Nat} {ρ0 ρ : Sto} {σ : St} {F0 H0 : Hp} {cs0 cs : List Addr} (h0 : RS K mg F0 H0 ρ0 σ cs0) (hf : Sub F0 F) (S : SR K mg F G H ρ (wipe σ vs) cs) (vn : vs.Nodup) (hn : ∀ v ∈ vs, ∀ b, ρ[v]? ≠ some (some b)) : SR K mg F G H (Lk.unwipe ρ0 ρ vs) σ cs := by
  have hl : ρ.length = ρ0.length := by rw [S.rs.length, wipe_length, h0.length]
  have h1 : RS K mg F H ρ σ cs := S.rs.congr (by rw [wipe_length]) fun i b e => (wipe_same fun hi => hn i hi b e).symm
  exact ⟨S.fg, S.gh, (RS.unwipe h0 hf vs vn hn h1 hl).1, S.nd, S.off⟩



theorem SV.level {ρ : Sto} {σ : St} {cs : List Addr} {r : R} {v : V} {kk : Nat} (S : SR K mg F G H ρ σ cs) (x : SV K mg F G H cs r v) (h : (if kk = 0 then (r.fr || r.k == 0) else (r.fr && r.k == kk)) = true) :
    ∃ F' G' c, SR K mg F' G' H ρ σ cs ∧ Fw F G F' G' ∧ Ow K mg F' H kk v r.d c ∧ (c ++ cs).Nodup ∧ ∀ a ∈ c, G' a = none := by
  by_cases hk : kk = 0
  · rw [if_pos hk] at h
    obtain ⟨F', G', S', W, rp⟩ := x.lay S h
    subst hk
    exact ⟨F', G', [], S', W, ow0 rp, S'.nd, fun a h => absurd h (by simp)⟩
  · rw [if_neg hk] at h
    simp only [Bool.and_eq_true, beq_iff_eq] at h
    obtain ⟨c, o, hf⟩ := x
    rw [h.2] at o
    exact ⟨F, G, c, S, Fw.refl, o, (hf h.1).1, (hf h.1).2⟩
theorem FA.snoc {P : V → D → List Addr → Prop} {vs : List V} {ds : List D} {cs : List Addr} {v : V} {d : D} {c : List Addr} (h : FA P vs ds cs) (p : P v d c) : FA P (vs ++ [v]) (ds ++ [d]) (cs ++ c) := by
  induction h with
  | nil => simpa using FA.cons p .nil
  | cons q _ ih => rw [List.append_assoc]; exact .cons q ih
end

/-! ### [e for t in it if c] -/
def lvl (kk : Nat) (r : R) : Bool := if kk = 0 then (r.fr || r.k == 0) else (r.fr && r.k == kk)
def mLcL (kk : Nat) (vs : List Nat) (b : D → Sto → Option Sto) (mt : M Bool) (me : M R) : List D → List D → M (List D)
  | [], acc => fun ρ => some (acc, ρ)
  | d :: ds, acc => fun ρ => match b d ρ with
    | some ρ1 => match mt ρ1 with
      | some (true, ρ2) => match me ρ2 with
        | some (r, ρ3) => if lvl kk r = true ∧ acc.length < lim then mLcL kk vs b mt me ds (acc ++ [r.d]) (wipeS ρ3 vs) else none
        | none => none
      | some (false, ρ2) => mLcL kk vs b mt me ds acc (wipeS ρ2 vs)
      | none => none
    | none => none
def mLc (kk : Nat) (vs : List Nat) (mi : M (List D)) (b : D → Sto → Option Sto) (mt : M Bool) (me : M R) : M R := fun ρ => match mi ρ with
  | some (ds, ρ1) => match mLcL kk vs b mt me ds [] (wipeS ρ1 vs) with
    | some (acc, ρ2) => some (⟨true, kk + 1, .list acc⟩, unwipe ρ1 ρ2 vs)
    | none => none
  | none => none
/-- the other slots -/
def oth (n : Nat) (vs : List Nat) : List Nat := (List.range n).filter fun i => !vs.contains i
theorem mem_oth {n : Nat} {vs : List Nat} {i : Nat} (hi : i < n) (h : i ∉ vs) : i ∈ oth n vs := by
  unfold oth
  rw [List.mem_filter]
  exact ⟨List.mem_range.mpr hi, by simp [h]⟩
theorem wipe_eq {σ σ' : St} {vs : List Nat} (hl : σ'.length = σ.length) (h : ∀ i ∈ oth σ.length vs, σ'[i]? = σ[i]?) : wipe σ' vs = wipe σ vs := by
  have key : ∀ us : List Nat, ∀ i, (i ∈ us → (wipe σ' us)[i]? = (wipe σ us)[i]?) := by
    intro us
    induction us with
    | nil => intro i hi; cases hi
    | cons u us ih =>
      intro i hi
      unfold wipe
      by_cases e : u = i
      · subst e
        by_cases hb : u < σ.length
        · rw [List.getElem?_set_self (by rw [wipe_length, hl]; exact hb), List.getElem?_set_self (by rw [wipe_length]; exact hb)]
        · rw [List.getElem?_eq_none (by rw [List.length_set, wipe_length, hl]; omega), List.getElem?_eq_none (by rw [List.length_set, wipe_length]; omega)]
      · rw [List.getElem?_set_ne e, List.getElem?_set_ne e]
        rcases List.mem_cons.mp hi with h1 | h1
        · exact absurd h1.symm e
        · exact ih i h1
  apply List.ext_getElem?
  intro i
  by_cases hi : i ∈ vs
  · exact key vs i hi
  · rw [wipe_same hi, wipe_same hi]
    by_cases hb : i < σ.length
    · exact h i (mem_oth hb hi)
    · rw [List.getElem?_eq_none (by rw [hl]; omega), List.getElem?_eq_none (by omega)]
theorem wipe_idem (σ : St) (vs : List Nat) : wipe (wipe σ vs) vs = wipe σ vs :=
  wipe_eq (σ := σ) (by rw [wipe_length]) fun i hi => wipe_same (by
    unfold oth at hi
    rw [List.mem_filter] at hi
    simpa using hi.2)
theorem wipeS_none {ρ : Sto} {vs : List Nat} : ∀ v ∈ vs, ∀ b, (wipeS ρ vs)[v]? ≠ some (some b) := fun v hv b h => (wipeS_out h).2 hv
def mYes : M Bool := fun ρ => some (true, ρ)
def DTs (X : Cx) (μ : Bool) (ifs : List Expr) (m : M Bool) : Prop := PTs X ifs (tT X.K X.mg μ m)
theorem pts_imp {X : Cx} {e : List Expr} {t t' : TT} (h : PTs X e t) (hi : ∀ σ H Q, t' σ H Q → t σ H Q) : PTs X e t' := ⟨fun pins s σ H Q I q => h.run pins s σ H Q I (hi σ H Q q)⟩
theorem dts_nil {X : Cx} {μ : Bool} : DTs X μ [] mYes := pts_imp pts_nil fun σ H Q ⟨F, G, ρ, cs, b, ρ', S, e, q⟩ => by
  cases e
  exact q F G H cs Fw.refl (fun _ => Sub.refl _) S
theorem dts_one {X : Cx} {μ : Bool} {c : Expr} {m : M Bool} (h : DT X μ c m) : DTs X μ [c] m := pts_one h

section
variable {K : PySem.W.Frag} {mg : Str → Option Value}
theorem tE_lc {kk : Nat} {vs : List Nat} {mi : M (List D)} {b : D → Sto → Option Sto} {mt : M Bool} {me : M R} {μ : Bool} {σ : St} {H : Hp} {Q : VK} (vn : vs.Nodup) (h : tE K mg μ (mLc kk vs mi b mt me) σ H Q) :
    tLc (tI K mg μ mi) (tGt K mg (oth σ.length vs) b) (tT K mg μ mt) (tE K mg μ me) vs σ H Q := by
  obtain ⟨F, G, ρ, cs, r, ρ', S, e, q⟩ := h
  unfold mLc at e
  split at e
  · rename_i ds ρ1 em
    split at e
    · rename_i accf ρ2 el
      cases e
      refine ⟨F, G, ρ, cs, _, _, S, em, fun F0 G0 H0 cs0 J W0 mo0 S0 it D hD => ?_⟩
      obtain ⟨csb, Sb, subb⟩ := S0.block vs
      have g0 := Gr.cell (o := .lst []) Sb.fg Sb.gh hD
      have dcs : D ∉ csb := fun h => by
        obtain ⟨vs, e⟩ := Sb.rs.there D h
        rw [hD] at e; cases e
      let Inv' : Nat → Hp → Prop := fun i H1 => ∃ F1 G1 ρa csa acc c, Fw F0 G0 F1 G1 ∧ (μ = true → Sub H0 H1) ∧ SR K mg F1 G1 H1 ρa (wipe σ vs) csa ∧ Ow K mg F1 H1 (kk + 1) (.ref D) (.list acc) c ∧ (c ++ csa).Nodup ∧
        (∀ a ∈ c, G1 a = none) ∧ (∀ v ∈ vs, ∀ b, ρa[v]? ≠ some (some b)) ∧ mLcL kk vs b mt me (ds.drop i) acc ρa = some (accf, ρ2)
      refine ⟨fun i m H1 => m = ds.length - i ∧ i ≤ ds.length ∧ Inv' i H1, ⟨_, rfl, Nat.zero_le _, F0, G0, _, csb, [], [D], Fw.refl, fun _ => Sub.new hD, Sb.gr g0, .inl ⟨D, [], [], [], rfl, rfl, upd_same, .nil, rfl⟩, List.nodup_cons.mpr ⟨dcs, Sb.nd⟩, fun a ha => ?_, wipeS_none, el⟩, ?_⟩
      · obtain rfl := List.mem_singleton.mp ha
        exact Sb.gh.out hD
      rintro i m H1 ⟨em', hi, F1, G1, ρa, csa, acc, c, W1, mo1, S1, ow, nd, off, wn, e1⟩
      subst em'
      obtain ⟨a0, av, ad, ccs, ea, ed, hcell, fa, ec⟩ : ∃ a0 av ad ccs, V.ref D = .ref a0 ∧ PyData.list acc = .list ad ∧ H1 a0 = some (.lst av) ∧ FA (Ow K mg F1 H1 kk) av ad ccs ∧ c = a0 :: ccs := by
        rcases ow with h | ⟨_, _, _, _, _, _, _, h, _⟩
        · exact h
        · cases h
      cases ea
      cases ed
      subst ec
      by_cases hlt : i < ds.length
      · right
        have there : ∀ a ∈ D :: ccs, H1 a ≠ none := fun a ha => by obtain ⟨vs, e⟩ := ow.cells a ha; rw [e]; simp
        have Sh := S1.hold nd off
        obtain ⟨go, yl⟩ := it.go i F1 _ H1 W1.f Sh.fg Sh.gh hlt
        refine ⟨go, fun H3 => ∃ m', m' < ds.length - i ∧ (m' = ds.length - (i + 1) ∧ i + 1 ≤ ds.length ∧ Inv' (i + 1) H3), fun H' hn => hn, fun x H' y => ?_⟩
        obtain ⟨F2, G2, d, g, edi, rp⟩ := yl x H' y
        have e1' : ds.drop i = d :: ds.drop (i + 1) := by
          rw [List.drop_eq_getElem_cons hlt]
          rw [List.getElem?_eq_getElem hlt] at edi
          cases edi; rfl
        rw [e1'] at e1
        unfold mLcL at e1
        have S2 := Sh.gr g
        have W2 := g.fw Sh.fg Sh.gh
        split at e1
        · rename_i ρb eb
          refine ⟨F2, G2, ρa, csa, d, ρb, S2, rp, eb, fun σ2 cs2 p2 l2 S3 => ?_⟩
          have wl : (wipe σ vs).length = σ.length := wipe_length _ _
          have we : wipe σ2 vs = wipe σ vs := by
            rw [← wipe_idem σ vs]
            exact wipe_eq l2 fun i hi => p2 i (by rw [wl] at hi; exact hi)
          refine ⟨we, ?_⟩
          split at e1
          · rename_i ρc et
            refine ⟨F2, G2, ρb, cs2, _, _, S3, et, fun F4 G4 H4 cs4 W4 mo4 S4 => ?_⟩
            simp only [if_true]
            split at e1
            · rename_i r' ρd ee
              split at e1
              · rename_i hlv
                refine ⟨F4, G4, ρc, cs4, _, _, S4, ee, fun F5 G5 H5 cs5 yv W5 mo5 S5 sv => ?_⟩
                obtain ⟨F6, G6, cn, S6, W6, own, ndn, offn⟩ := sv.level S5 (show (if kk = 0 then (r'.fr || r'.k == 0) else (r'.fr && r'.k == kk)) = true from hlv.1)
                obtain ⟨S7, W7, keep, dis, fN⟩ := S1.unhold off there (W2.trans (W4.trans (W5.trans W6))) S6
                have hD5 : H5 D = some (.lst av) := (keep D List.mem_cons_self).trans hcell
                refine ⟨av, hD5, lim_lt (by rw [fa.length]; exact hlv.2), _, by omega, rfl, hlt, ?_⟩
                have g6 : G6 D ≠ none := by
                  have := (W2.trans (W4.trans (W5.trans W6))).g D _ (by rw [frz_in List.mem_cons_self]; exact hcell)
                  rw [this]; simp
                have Dn : D ∉ cn := fun h => g6 (offn D h)
                have Dc : D ∉ ccs := by
                  have := (List.nodup_append.mp nd).1
                  exact (List.nodup_cons.mp this).1
                obtain ⟨cs8, S8, sub8⟩ := S7.block vs
                rw [we] at S8
                have keep8 : ∀ a ∈ cs8, upd H5 D (.lst (av ++ [yv])) a = H5 a := fun a ha => upd_ne fun e => dis D List.mem_cons_self (by rw [← e]; exact sub8 a ha)
                have gD : ∀ a o, (if a ∈ D :: ccs then none else G6 a) = some o → a ≠ D := fun a o e h => by
                  subst h; rw [if_pos List.mem_cons_self] at e; cases e
                refine ⟨F6, _, wipeS ρd vs, cs8, acc ++ [r'.d], D :: (ccs ++ cn), W1.trans W7, fun hμ => ?_, ⟨S8.fg, fun a o e => ?_, S8.rs.keep (Sub.refl _) keep8, S8.nd, S8.off⟩, (.inl ⟨D, av ++ [yv], acc ++ [r'.d], ccs ++ cn, rfl, rfl, upd_same, FA.snoc (fa.imp fun v d c hm o => o.keep W7.f fun a ha => ?_) (own.keep (Sub.refl _) fun a ha => upd_ne fun e => Dn (e ▸ ha)), rfl⟩), ?_, fun a ha => ?_, wipeS_none, e1⟩
                · have h5 : Sub H0 H5 := (mo1 hμ).trans (g.h.trans ((mo4 hμ).trans (mo5 hμ)))
                  exact fun a o e => by
                    rw [upd_ne (ne_of_none e hD)]
                    exact h5 a o e
                · rw [upd_ne (gD a o e)]
                  exact S8.gh a o e
                · have hac : a ∈ ccs := hm a ha
                  rw [upd_ne fun (e : a = D) => Dc (by rw [← e]; exact hac)]
                  exact keep a (List.mem_cons_of_mem _ hac)
                · have nc : (D :: ccs).Nodup := (List.nodup_append.mp nd).1
                  have ncn : cn.Nodup := (List.nodup_append.mp ndn).1
                  have cross : ∀ a ∈ D :: ccs, ∀ b ∈ cn, a ≠ b := fun a ha b hb e => by
                    subst e
                    have ga : G6 a ≠ none := by
                      cases e : H1 a with
                      | none => exact absurd e (there a ha)
                      | some o =>
                        have := (W2.trans (W4.trans (W5.trans W6))).g a o (by rw [frz_in ha]; exact e)
                        rw [this]; simp
                    exact ga (offn a hb)
                  have n1 : ((D :: ccs) ++ cn).Nodup := List.nodup_append.mpr ⟨nc, ncn, cross⟩
                  refine List.nodup_append.mpr ⟨n1, S8.nd, fun a ha b hb e => ?_⟩
                  subst e
                  rcases List.mem_append.mp (show a ∈ (D :: ccs) ++ cn from ha) with h | h
                  · exact dis a h (sub8 a hb)
                  · exact (List.nodup_append.mp ndn).2.2 a h a (sub8 a hb) rfl
                · rcases List.mem_append.mp (show a ∈ (D :: ccs) ++ cn from ha) with h | h
                  · exact if_pos h
                  · by_cases hc : a ∈ D :: ccs
                    · exact if_pos hc
                    · exact (if_neg hc).trans (offn a h)
              · cases e1
            · cases e1
          · rename_i ρc et
            refine ⟨F2, G2, ρb, cs2, _, _, S3, et, fun F4 G4 H4 cs4 W4 mo4 S4 => ?_⟩
            simp only [Bool.false_eq_true, if_false]
            obtain ⟨S7, W7, keep, dis, fN⟩ := S1.unhold off there (W2.trans W4) S4
            obtain ⟨cs8, S8, sub8⟩ := S7.block vs
            rw [we] at S8
            refine ⟨_, by omega, rfl, hlt, F4, _, wipeS ρc vs, cs8, acc, D :: ccs, W1.trans W7, fun hμ => (mo1 hμ).trans (g.h.trans (mo4 hμ)), S8, ow.keep W7.f keep, ?_, fun a ha => if_pos ha, wipeS_none, e1⟩
            exact List.nodup_append.mpr ⟨(List.nodup_append.mp nd).1, S8.nd, fun a ha b hb e => dis a ha (sub8 a (e ▸ hb))⟩
          · cases e1
        · cases e1
      · left
        have ei : i = ds.length := by omega
        subst ei
        rw [List.drop_length] at e1
        cases e1
        exact ⟨it.stop F1 H1 W1.f (S1.fg.trans S1.gh), q F1 G1 H1 csa _ (W0.trans W1) (fun hμ => (mo0 hμ).trans (mo1 hμ)) (S1.unblock S0.rs W1.f vn wn) ⟨_, ow, fun _ => ⟨nd, off⟩⟩⟩
    · cases e
  · cases e
end
section
variable {X : Cx}
theorem de_lc {elt tg iter : Expr} {ifs : List Expr} {scope : Scope} {own : List (Str × Nat)} {pos : Pos} {mi : M (List D)} {b : D → Sto → Option Sto} {mt : M Bool} {me : M R} {μ : Bool} (kk : Nat) (hc : X.calm = true) (hN : X.N.Nodup) (hi : DI X μ tg iter mi) (ok : BlkOk X.N X.env.scope scope own) (vn : (own.map (·.2)).Nodup)
    (hg : ∀ (s : Shared) (H : Hp) (C : Addr) (cl : List (Str × Addr)) (fp : List Addr), DTg (X.blk s H scope (compEnvC scope cl C X.env) fp) (oth X.N.length (own.map (·.2))) tg b) (ht : ∀ (s : Shared) (H : Hp) (C : Addr) (cl : List (Str × Addr)) (fp : List Addr), DTs (X.blk s H scope (compEnvC scope cl C X.env) fp) μ ifs mt)
    (he : ∀ (s : Shared) (H : Hp) (C : Addr) (cl : List (Str × Addr)) (fp : List Addr), DE (X.blk s H scope (compEnvC scope cl C X.env) fp) μ elt me) (hs : ∀ x, foldedSetIterable iter X.env x = pure x := by intro _; rfl) :
    DE X μ (.ListComp elt [⟨tg, iter, ifs, 0⟩] scope pos) (mLc kk (own.map (·.2)) mi b mt me) := by
  refine ⟨fun pins s σ H Q I h => (pe_lc (g := tGt X.K X.mg (oth X.N.length (List.map (fun x : Str × Nat => x.snd) own)) b) (tt := tT X.K X.mg μ mt) (te := tE X.K X.mg μ me) hc hN hi ok hg ht he hs).run pins s σ H Q I ?_⟩
  have := tE_lc vn h
  rw [I.len] at this
  exact this
/-- name = [..] on one line -/
theorem ds_setLc {pr : List Nat} {i : Nat} {y : Str} {py : Pos} {elt tg iter : Expr} {ifs : List Expr} {scope : Scope} {own : List (Str × Nat)} {pos spos : Pos} {mi : M (List D)} {b : D → Sto → Option Sto} {mt : M Bool} {me : M R} {μ : Bool} (kk : Nat) (hc : X.calm = true) (hN : X.N.Nodup) (hy : X.N[i]? = some y) (hyl : X.env.scope.names.lookup y = some .local) (hpr : i ∉ pr)
    (hsw : swapsWith (.ListComp elt [⟨tg, iter, ifs, 0⟩] scope pos) (some (.Name y py)) spos.line X.env = pure true) (hi : DI X μ tg iter mi) (ok : BlkOk X.N X.env.scope scope own) (vn : (own.map (·.2)).Nodup)
    (hg : ∀ (s : Shared) (H : Hp) (C : Addr) (cl : List (Str × Addr)) (fp : List Addr), DTg (X.blk s H scope (compEnvC scope cl C X.env) fp) (oth X.N.length (own.map (·.2))) tg b) (ht : ∀ (s : Shared) (H : Hp) (C : Addr) (cl : List (Str × Addr)) (fp : List Addr), DTs (X.blk s H scope (compEnvC scope cl C X.env) fp) μ ifs mt)
    (he : ∀ (s : Shared) (H : Hp) (C : Addr) (cl : List (Str × Addr)) (fp : List Addr), DE (X.blk s H scope (compEnvC scope cl C X.env) fp) μ elt me) (hs : ∀ x, foldedSetIterable iter X.env x = pure x := by intro _; rfl) :
    DS X pr (.Assign [.Name y py] (.ListComp elt [⟨tg, iter, ifs, 0⟩] scope pos) spos) (mSet i (mLc kk (own.map (·.2)) mi b mt me)) := by
  refine ⟨fun pins s σ H D I h => (ps_setLc (g := tGt X.K X.mg (oth X.N.length (List.map (fun x : Str × Nat => x.snd) own)) b) (tt := tT X.K X.mg μ mt) (te := tE X.K X.mg μ me) hc hN hy hyl hsw hi ok hg ht he hs).run pins s σ H D I ?_⟩
  have h2 := tS_set (μ := μ) hpr h
  have := tE_lc vn h2
  rw [I.len] at this
  exact this
end
end Lk

set_option Elab.async false
set_option linter.all false
set_option maxRecDepth 100000
/-! LkJ: lists changed and read. -/
namespace Lk
open PySem L2 PySem.Spec

section
variable {K : PySem.W.Frag} {mg : Str → Option Value} {F G H : Hp}
/-- an owned list in a slot: what lies in it is laid down, then it may be written -/
theorem SR.write {ρ : Sto} {σ : St} {cs : List Addr} {i k : Nat} {ds : List D} (S : SR K mg F G H ρ σ cs) (hb : ρ[i]? = some (some ⟨k + 1, .list ds⟩)) :
    ∃ a vs F1 G1, σ[i]? = some (some (.ref a)) ∧ H a = some (.lst vs) ∧ Fw F G F1 G1 ∧ Sub F1 G1 ∧ Sub G1 H ∧ RpA K mg F1 vs ds ∧ (∃ cs0, SR K mg F1 G1 H (ρ.set i (some ⟨1, .list ds⟩)) σ cs0) ∧
      ∀ vs' ds', RpA K mg F1 vs' ds' → ∃ cs', SR K mg F1 G1 (upd H a (.lst vs')) (ρ.set i (some ⟨1, .list ds'⟩)) σ cs' := by
  obtain ⟨v, c, cs1, ev, ow, r1, p⟩ := S.rs.out hb
  obtain ⟨a, vs, ds', css, e1, e2, e3, fa, e4⟩ : ∃ a vs ds' css, v = .ref a ∧ PyData.list ds = .list ds' ∧ H a = some (.lst vs) ∧ FA (Ow K mg F H k) vs ds' css ∧ c = a :: css := by
    rcases ow with h | ⟨_, _, _, _, _, _, _, h, _⟩
    · exact h
    · cases h
  cases e2
  subst e1 e4
  have nd : ((a :: css) ++ cs1).Nodup := p.nodup_iff.mp S.nd
  have S1 : SR K mg F G H (ρ.set i none) σ cs1 := ⟨S.fg, S.gh, r1, (List.nodup_append.mp nd).2.1, fun b hb => S.off b (p.mem_iff.mpr (List.mem_append_right _ hb))⟩
  have off : ∀ b ∈ a :: css, G b = none := fun b hb => S.off b (p.mem_iff.mpr (List.mem_append_left _ hb))
  have ac : a ∉ css := (List.nodup_cons.mp (List.nodup_append.mp nd).1).1
  have ac1 : a ∉ cs1 := fun h => (List.nodup_append.mp nd).2.2 a List.mem_cons_self a h rfl
  obtain ⟨S2, w⟩ := S1.frz (c := css) (fun b hb => off b (List.mem_cons_of_mem _ hb)) fun b hb hc => (List.nodup_append.mp nd).2.2 b (List.mem_cons_of_mem _ hb) b hc rfl
  have ra : RpA K mg (Lk.frz css F H) vs ds := by
    have fN : ∀ b ∈ css, F b = none := fun b hb => S.fg.out (off b (List.mem_cons_of_mem _ hb))
    have key : ∀ {vs : List V} {ds : List D} {c' : List Addr}, FA (Ow K mg F H k) vs ds c' → (∀ b ∈ c', b ∈ css) → RpA K mg (Lk.frz css F H) vs ds := by
      intro vs ds c' h
      induction h with
      | nil => intro _; exact .nil
      | cons q _ ih => exact fun hc => .cons (q.rp (frz_sub fN) fun b hb => frz_in (hc b (List.mem_append_left _ hb))) (ih fun b hb => hc b (List.mem_append_right _ hb))
    exact key fa fun _ h => h
  have ga : Lk.frz css G H a = none := by rw [frz_out ac]; exact off a List.mem_cons_self
  have hi : i < ρ.length := (List.getElem?_eq_some_iff.mp hb).1
  have fin : ∀ {H' : Hp} {vs' : List V} {ds' : List D}, H' a = some (.lst vs') → (∀ b, b ≠ a → H' b = H b) → RpA K mg (Lk.frz css F H) vs' ds' → ∃ cs', SR K mg (Lk.frz css F H) (Lk.frz css G H) H' (ρ.set i (some ⟨1, .list ds'⟩)) σ cs' := by
    intro H' vs' ds' ha ho ra'
    have r2 : RS K mg (Lk.frz css F H) H' (ρ.set i none) σ cs1 := S2.rs.keep (Sub.refl _) fun b hb => ho b fun e => ac1 (e ▸ hb)
    obtain ⟨cs', r3, p3⟩ := r2.into (b := ⟨1, .list ds'⟩) (i := i) (c := [a]) (by rw [List.getElem?_set_self hi]) ev (.inl ⟨a, vs', ds', [], rfl, rfl, ha, fa_of_rpA ra', rfl⟩)
    rw [List.set_set] at r3
    refine ⟨cs', S2.fg, fun b o e => ?_, r3, p3.nodup_iff.mpr (List.nodup_cons.mpr ⟨ac1, S2.nd⟩), fun b hb => ?_⟩
    · rw [ho b fun e' => by subst e'; rw [ga] at e; cases e]
      exact S2.gh b o e
    · rcases List.mem_append.mp (p3.mem_iff.mp hb) with h | h
      · obtain rfl := List.mem_singleton.mp h; exact ga
      · exact S2.off b h
  exact ⟨a, vs, _, _, ev, e3, w, S2.fg, S2.gh, ra, fin e3 (fun _ _ => rfl) ra, fun vs' ds' r => fin upd_same (fun b hb => upd_ne hb) r⟩
end

/-! ### targets that change the heap -/
section defs
variable (K : PySem.W.Frag) (mg : Str → Option Value)
def tGm (pr : List Nat) (b : D → Sto → Option Sto) : TG := fun x σ H Q => ∃ F G ρ cs d ρ1, SR K mg F G H ρ σ cs ∧ Rp K mg F x d ∧ b d ρ = some ρ1 ∧
  ∀ F' G' H' σ' cs', Fw F G F' G' → (∀ i ∈ pr, σ'[i]? = σ[i]?) → SR K mg F' G' H' ρ1 σ' cs' → Q σ' H'
def tGms (pr : List Nat) (b : List D → Sto → Option Sto) : TGs := fun xs σ H Q => ∃ F G ρ cs ds ρ1, SR K mg F G H ρ σ cs ∧ RpA K mg F xs ds ∧ b ds ρ = some ρ1 ∧
  ∀ F' G' H' σ' cs', Fw F G F' G' → (∀ i ∈ pr, σ'[i]? = σ[i]?) → SR K mg F' G' H' ρ1 σ' cs' → Q σ' H'
end defs
def DTm (X : Cx) (pr : List Nat) (tg : Expr) (b : D → Sto → Option Sto) : Prop := PG X tg (tGm X.K X.mg pr b)
def DTms (X : Cx) (pr : List Nat) (tg : List Expr) (b : List D → Sto → Option Sto) : Prop := PGs X tg (tGms X.K X.mg pr b)
/-- x[j] = .. -/
def bIx (i : Nat) (mj : M R) : D → Sto → Option Sto := fun d ρ => match ρ[i]? with
  | some (some ⟨_ + 1, .list _⟩) => match mj ρ with
    | some (⟨_, 0, .int j⟩, ρ1) => match ρ1[i]? with
      | some (some ⟨_ + 1, .list ds⟩) => match ixN ds.length j with
        | some n => some (ρ1.set i (some ⟨1, .list (ds.set n d)⟩))
        | none => none
      | _ => none
    | _ => none
  | _ => none
section
variable {X : Cx} {pr : List Nat} {μ : Bool} {pos : Pos}
theorem tm_of {tg : Expr} {b : D → Sto → Option Sto} (h : DTg X pr tg b) : DTm X pr tg b := pg_imp h fun v σ H Q ⟨F, G, ρ, cs, d, ρ1, S, r, e, q⟩ => ⟨F, G, ρ, cs, d, ρ1, S, r, e, fun σ' cs' p _ S' => q F G H σ' cs' Fw.refl p S'⟩
theorem tms_nil : DTms X pr [] bs0 := pgs_imp pgs_nil fun v σ H Q ⟨F, G, ρ, cs, ds, ρ1, S, r, e, q⟩ => by
  cases r with
  | nil => cases e; exact ⟨rfl, q F G H σ cs Fw.refl (fun _ _ => rfl) S⟩
  | cons _ _ => cases e
theorem tms_cons {e : Expr} {es : List Expr} {b : D → Sto → Option Sto} {c : List D → Sto → Option Sto} (h : DTm X pr e b) (h' : DTms X pr es c) (hs : (assignEach (e :: es) X.env).map (·.2) = assign e X.env :: (assignEach es X.env).map (·.2) := by rfl) : DTms X pr (e :: es) (bs1 b c) :=
  pgs_imp (pgs_cons h h' hs) fun v σ H Q ⟨F, G, ρ, cs, ds, ρ1, S, r, e, q⟩ => by
    cases r with
    | nil => cases e
    | @cons x xs d ds r rs =>
      unfold bs1 at e
      simp only at e
      split at e
      · rename_i ρ2 eb
        exact ⟨x, xs, rfl, F, G, ρ, cs, d, ρ2, S, r, eb, fun F1 G1 H1 σ1 cs1 W1 p1 S1 => ⟨F1, G1, ρ2, cs1, ds, ρ1, S1, rs.sub W1.f, e, fun F2 G2 H2 σ2 cs2 W2 p2 S2 => q F2 G2 H2 σ2 cs2 (W1.trans W2) (fun i hi => (p2 i hi).trans (p1 i hi)) S2⟩⟩
      · cases e
theorem tm_tup {es : List Expr} {kk n : Nat} {c : List D → Sto → Option Sto} (hc : X.calm = true) (h : DTms X pr es c) (hn : (assignEach es X.env).length = n := by rfl) (hst : (assignEach es X.env).findIdx? (·.1) = none := by rfl) : DTm X pr (.Tuple es kk pos) (bT n c) :=
  pg_imp (pg_tup hc h hn hst) fun v σ H Q ⟨F, G, ρ, cs, d, ρ1, S, r, e, q⟩ => by
    unfold bT at e
    split at e
    · rename_i ds
      split at e
      · rename_i hl
        cases r with
        | @tup a vs ds hs ra => exact ⟨a, vs, rfl, sub_sqT (S.fg.trans S.gh) hs, ra.length.trans hl, F, G, ρ, cs, ds, ρ1, S, ra, e, q⟩
      · cases e
    · cases e
theorem tm_ix {i : Nat} {x : Str} {p : Pos} {j : Expr} {mj : M R} (hN : X.N[i]? = some x) (hv : Vis X.env.scope x) (hj : DE X true j mj) (hd : (x == ("__debug__" : Str)) = false := by decide) (hcd : (x == ("__classdict__" : Str)) = false := by decide)
    (ha : ∀ v, assign (.Subscript (.Name x p) j pos) X.env v = (do
      let ov ← holding [v] (eval (.Name x p) X.env)
      let iv ← holding [v, ov] (eval j X.env)
      standAt pos
      holding [v, ov, iv] (setItem ov iv v)
      release [v, ov, iv] []) := by intro _; rfl) : DTm X pr (.Subscript (.Name x p) j pos) (bIx i mj) :=
  pg_imp (pg_sub (pe_var hN hv hd hcd) hj set_list ha) fun v σ H Q ⟨F, G, ρ, cs, d, ρ1, S, r, e, q⟩ => by
    unfold bIx at e
    split at e
    · rename_i k0 ds0 hb0
      split at e
      · rename_i fr n ρ2 em
        split at e
        · rename_i k ds hb
          split at e
          · rename_i nn hn
            cases e
            obtain ⟨v0, _, _, ev0, _, _, _⟩ := S.rs.out hb0
            refine ⟨v0, ev0, F, G, ρ, cs, _, _, S, em, fun F1 G1 H1 cs1 y W1 mo S1 ⟨c, o, _⟩ => ?_⟩
            obtain ⟨_, rp⟩ := o
            cases rp
            obtain ⟨a, vs, F2, G2, eσ, hH, W2, fg, gh, ra, _, wr⟩ := S1.write hb
            rw [ev0] at eσ
            cases eσ
            refine ⟨a, vs, n, nn, rfl, rfl, hH, by rw [ra.length]; exact hn, ?_⟩
            obtain ⟨cs3, S3⟩ := wr (vs.set nn v) (ds.set nn d) (ra.set ((r.sub W1.f).sub W2.f) nn)
            exact q F2 G2 _ σ cs3 (W1.trans W2) (fun _ _ => rfl) S3
          · cases e
        · cases e
      · cases e
    · cases e
theorem ds_asgm {tg e : Expr} {b : D → Sto → Option Sto} {m : M R} (hg : DTm X pr tg b) (he : DE X μ e m) (hs : swapsWithSole [tg] e pos.line X.env = pure false := by rfl) (hw : swappedStores [tg] e X.env = pure none := by rfl)
    (h1 : (assignEach [tg] X.env).map (·.2) = [assign tg X.env] := by rfl) : DS X pr (.Assign [tg] e pos) (mAsg b m) :=
  ps_imp (ps_asg he hg hs hw h1) fun D σ H ⟨F, G, ρ, cs, fl, ρ', S, e, q⟩ => by
    unfold mAsg at e
    split at e
    · rename_i r ρ1 em
      split at e
      · rename_i hfr
        split at e
        · rename_i ρ2 eb
          cases e
          refine ⟨F, G, ρ, cs, _, _, S, em, fun F1 G1 H1 cs1 v W mo S1 sv => ?_⟩
          obtain ⟨F2, G2, S2, W2, rp⟩ := sv.lay S1 hfr
          exact ⟨F2, G2, ρ1, cs1, _, _, S2, rp, eb, fun F3 G3 H3 σ' cs' W3 p S' => q F3 G3 H3 σ' cs' (W.trans (W2.trans W3)) p S'⟩
        · cases e
      · cases e
    · cases e

/-! ### x.append(e), x.extend(e), x.pop(), x.pop(j) -/
theorem tyL {K : PySem.W.Frag} {H : Hp} {a : Addr} {vs : List V} (h : H a = some (.lst vs)) : tyV K "list" (.ref a) H := .inl ⟨rfl, vs, SqL.of h⟩
/-- the receiver a slot that holds an owned list; f: the list and the argument -> the answer, the list behind it -/
def mMet (i : Nat) (f : List D → R → Option (D × List D)) (me : M R) : M R := fun ρ => match ρ[i]? with
  | some (some ⟨_ + 1, .list _⟩) => match me ρ with
    | some (r, ρ1) => if (r.fr || r.k == 0) = true then match ρ1[i]? with
        | some (some ⟨_ + 1, .list ds⟩) => match f ds r with
          | some (d, ds') => some (⟨false, 0, d⟩, ρ1.set i (some ⟨1, .list ds'⟩))
          | none => none
        | _ => none
      else none
    | none => none
  | _ => none
def mMet0 (i : Nat) (f : List D → Option (D × List D)) : M R := fun ρ => match ρ[i]? with
  | some (some ⟨_ + 1, .list ds⟩) => match f ds with
    | some (d, ds') => some (⟨false, 0, d⟩, ρ.set i (some ⟨1, .list ds'⟩))
    | none => none
  | _ => none
def MetS (K : PySem.W.Frag) (mg : Str → Option Value) (r : V → List V → Hp → VK → Prop) (f : List D → R → Option (D × List D)) : Prop := ∀ F H a vs ds rr y d ds' Q, Sub F H → H a = some (.lst vs) → RpA K mg F vs ds → Rp K mg F y rr.d → f ds rr = some (d, ds') →
  (∀ v vs', Rp K mg F v d → RpA K mg F vs' ds' → Q v (upd H a (.lst vs'))) → r (.ref a) [y] H Q
def MetS0 (K : PySem.W.Frag) (mg : Str → Option Value) (r : V → List V → Hp → VK → Prop) (f : List D → Option (D × List D)) : Prop := ∀ F H a vs ds d ds' Q, Sub F H → H a = some (.lst vs) → RpA K mg F vs ds → f ds = some (d, ds') →
  (∀ v vs', Rp K mg F v d → RpA K mg F vs' ds' → Q v (upd H a (.lst vs'))) → r (.ref a) [] H Q
variable {id : String} {name : Str} {apos cpos p : Pos} {i : Nat} {x : Str} {e : Expr} {m : M R}
theorem tE_met {r : V → List V → Hp → VK → Prop} {f : List D → R → Option (D × List D)} (hs : MetS X.K X.mg r f) {σ : St} {H : Hp} {Q : VK} (h : tE X.K X.mg false (mMet i f m) σ H Q) : tBM X.K "list" r (tVar i) (tCons (tE X.K X.mg μ m) tNil) σ H Q := by
  obtain ⟨F, G, ρ, cs, rr, ρ', S, e, q⟩ := h
  unfold mMet at e
  split at e
  · rename_i k0 ds0 hb0
    split at e
    · rename_i re ρ1 em
      split at e
      · rename_i hfr
        split at e
        · rename_i k ds hb
          split at e
          · rename_i d ds' ef
            cases e
            obtain ⟨a0, vs0, _, _, ev0, hH0, _⟩ := S.write hb0
            refine ⟨_, ev0, tyL hH0, F, G, ρ, cs, _, _, S, em, fun F1 G1 H1 cs1 y W1 mo S1 sv => ?_⟩
            obtain ⟨F2, G2, S2, W2, rp⟩ := sv.lay S1 hfr
            obtain ⟨a, vs, F3, G3, eσ, hH, W3, fg, gh, ra, _, wr⟩ := S2.write hb
            rw [ev0] at eσ
            cases eσ
            refine hs F3 H1 a0 vs ds re y d ds' Q (fg.trans gh) hH ra (rp.sub W3.f) ef fun v vs' rv ra' => ?_
            obtain ⟨cs4, S4⟩ := wr vs' ds' ra'
            exact q F3 G3 _ cs4 v (W1.trans (W2.trans W3)) (fun h => Bool.noConfusion h) S4 ⟨[], ow0 rv, fun h => Bool.noConfusion h⟩
          · cases e
        · cases e
      · cases e
    · cases e
  · cases e
theorem de_met {r : V → List V → Hp → VK → Prop} {f : List D → R → Option (D × List D)} (slot : Slot "list" name id) (hty : typeOf (.builtin id) = pure (.type "method_descriptor")) (hm : MtM X id r) (hs : MetS X.K X.mg r f) (hN : X.N[i]? = some x) (hv : Vis X.env.scope x) (he : DE X μ e m)
    (hst : starEach [e] X.env = (false, eval e X.env) :: starEach [] X.env := by rfl)
    (hd : (x == ("__debug__" : Str)) = false := by decide) (hcd : (x == ("__classdict__" : Str)) = false := by decide)
    (hpe : ∀ {to : TE} {t : TA}, PE X (.Name x p) to → PA X [e] t → PE X (.Call (.Attribute (.Name x p) name apos) [e] [] cpos) (tBM X.K "list" r to t)) : DE X false (.Call (.Attribute (.Name x p) name apos) [e] [] cpos) (mMet i f m) :=
  pe_imp (hpe (pe_var hN hv hd hcd) (pa_cons he pa_nil hst)) fun _ _ _ h => tE_met hs h
end
end Lk

set_option Elab.async false
set_option linter.all false
set_option maxRecDepth 100000
/-! LkK: the operations by name. -/
namespace Lk
open PySem L2 PySem.Spec

/-! ### methods of owned lists -/
def fApp (ds : List D) (r : R) : Option (D × List D) := if ds.length < lim then some (.none, ds ++ [r.d]) else none
def fExt (ds : List D) (r : R) : Option (D × List D) := match r.d with
  | .list es => if ds.length + es.length ≤ lim then some (.none, ds ++ es) else none
  | _ => none
def fPop (ds : List D) : Option (D × List D) := match ds[ds.length - 1]? with
  | some d => some (d, ds.dropLast)
  | none => none
def fPopAt (ds : List D) (r : R) : Option (D × List D) := match r.d with
  | .int j => if -1000000000 ≤ j ∧ j ≤ 1000000000 then match seqIndex? j ds.length with
      | some n => match ds[n]? with
        | some d => some (d, ds.eraseIdx n)
        | none => none
      | none => none
    else none
  | _ => none
section
variable {X : Cx} {K : PySem.W.Frag} {mg : Str → Option Value} {μ : Bool}
theorem ms_append : MetS K mg rAppend fApp := fun F H a vs ds rr y d ds' Q s h ra ry e q => by
  unfold fApp at e
  split at e
  · rename_i hl
    cases e
    exact ⟨a, vs, y, rfl, rfl, h, by rw [ra.length]; exact lim_lt hl, q _ _ .non (ra.append (.cons ry .nil))⟩
  · cases e
theorem ms_extend : MetS K mg rExtend fExt := fun F H a vs ds rr y d ds' Q s h ra ry e q => by
  unfold fExt at e
  split at e
  · rename_i es he
    split at e
    · rename_i hl
      cases e
      rw [he] at ry
      cases ry with
      | @lst b ws _ hb rb => exact ⟨a, b, vs, ws, rfl, rfl, h, s _ _ hb, by rw [ra.length, rb.length]; exact lim_le hl, q _ _ .non (ra.append rb)⟩
    · cases e
  · cases e
theorem ms_pop : MetS0 K mg rPop fPop := fun F H a vs ds d ds' Q s h ra e q => by
  unfold fPop at e
  split at e
  · rename_i d' hd
    cases e
    obtain ⟨v, ev, rv⟩ := ra.get hd
    exact ⟨a, vs, v, rfl, rfl, h, by rw [ra.length]; exact ev, q _ _ rv ra.dropLast⟩
  · cases e
theorem ms_popAt : MetS K mg rPopAt fPopAt := fun F H a vs ds rr y d ds' Q s h ra ry e q => by
  unfold fPopAt at e
  split at e
  · rename_i j hj
    split at e
    · rename_i hb
      split at e
      · rename_i n hn
        split at e
        · rename_i d' hd
          cases e
          rw [hj] at ry
          cases ry
          obtain ⟨v, ev, rv⟩ := ra.get hd
          exact ⟨a, vs, j, n, v, rfl, rfl, h, by omega, by omega, by rw [ra.length]; exact hn, ev, q _ _ rv (ra.erase n)⟩
        · cases e
      · cases e
    · cases e
  · cases e
theorem tE_met0 {r : V → List V → Hp → VK → Prop} {f : List D → Option (D × List D)} {i : Nat} (hs : MetS0 X.K X.mg r f) {σ : St} {H : Hp} {Q : VK} (h : tE X.K X.mg false (mMet0 i f) σ H Q) : tBM0 X.K "list" r (tVar i) σ H Q := by
  obtain ⟨F, G, ρ, cs, rr, ρ', S, e, q⟩ := h
  unfold mMet0 at e
  split at e
  · rename_i k ds hb
    split at e
    · rename_i d ds' ef
      cases e
      obtain ⟨a, vs, F3, G3, eσ, hH, W3, fg, gh, ra, _, wr⟩ := S.write hb
      refine ⟨_, eσ, tyL hH, hs F3 H a vs ds d ds' Q (fg.trans gh) hH ra ef fun v vs' rv ra' => ?_⟩
      obtain ⟨cs4, S4⟩ := wr vs' ds' ra'
      exact q F3 G3 _ cs4 v W3 (fun h => Bool.noConfusion h) S4 ⟨[], ow0 rv, fun h => Bool.noConfusion h⟩
    · cases e
  · cases e
variable {apos cpos p : Pos} {i : Nat} {x : Str} {e : Expr} {m : M R} {id name : String}
section
variable {nm : Str}
theorem de_met1 {r : V → List V → Hp → VK → Prop} {f : List D → R → Option (D × List D)} (slot : Slot "list" nm id) (hty : typeOf (.builtin id) = pure (.type "method_descriptor")) (hm : MtR X id r) (hs : MetS X.K X.mg r f) (hN : X.N[i]? = some x) (hv : Vis X.env.scope x) (he : DE X μ e m)
    (hd : (x == ("__debug__" : Str)) = false := by decide) (hcd : (x == ("__classdict__" : Str)) = false := by decide)
    (hbase : attributeBase (.Name x p) nm X.env (eval (.Name x p) X.env) = eval (.Name x p) X.env := by rfl)
    (hfew : ((backTo cpos (starEach [e] X.env)).all (fun x => !x.1) && (backToKw cpos (keywordEach [] X.env)).all (fun x => x.1.isSome) && decide ([e].length + ([] : List Keyword).length + (if ([] : List Keyword).isEmpty then 0 else 1) < 30)) = true := by rfl)
    (hline : (apos.endLine == cpos.line) = true := by rfl) (hst : starEach [e] X.env = (false, eval e X.env) :: starEach [] X.env := by rfl) : DE X false (.Call (.Attribute (.Name x p) nm apos) [e] [] cpos) (mMet i f m) :=
  pe_imp (pe_bm PySem.F.plainAttrs_list slot hty hm (pe_var hN hv hd hcd) (pa_cons he pa_nil hst) hbase hfew hline hst (by rfl)) fun _ _ _ h => tE_met hs h
end
theorem de_append (hN : X.N[i]? = some x) (hv : Vis X.env.scope x) (he : DE X μ e m) (hd : (x == ("__debug__" : Str)) = false := by decide) (hcd : (x == ("__classdict__" : Str)) = false := by decide)
    (hbase : attributeBase (.Name x p) "append" X.env (eval (.Name x p) X.env) = eval (.Name x p) X.env := by rfl)
    (hfew : ((backTo cpos (starEach [e] X.env)).all (fun x => !x.1) && (backToKw cpos (keywordEach [] X.env)).all (fun x => x.1.isSome) && decide ([e].length + ([] : List Keyword).length + (if ([] : List Keyword).isEmpty then 0 else 1) < 30)) = true := by rfl)
    (hline : (apos.endLine == cpos.line) = true := by rfl) (hst : starEach [e] X.env = (false, eval e X.env) :: starEach [] X.env := by rfl) : DE X false (.Call (.Attribute (.Name x p) "append" apos) [e] [] cpos) (mMet i fApp m) :=
  de_met1 PySem.F.slot_list_append PySem.F.type_list_append mt_append ms_append hN hv he hd hcd hbase hfew hline hst
theorem de_extend (hN : X.N[i]? = some x) (hv : Vis X.env.scope x) (he : DE X μ e m) (hd : (x == ("__debug__" : Str)) = false := by decide) (hcd : (x == ("__classdict__" : Str)) = false := by decide)
    (hbase : attributeBase (.Name x p) "extend" X.env (eval (.Name x p) X.env) = eval (.Name x p) X.env := by rfl)
    (hfew : ((backTo cpos (starEach [e] X.env)).all (fun x => !x.1) && (backToKw cpos (keywordEach [] X.env)).all (fun x => x.1.isSome) && decide ([e].length + ([] : List Keyword).length + (if ([] : List Keyword).isEmpty then 0 else 1) < 30)) = true := by rfl)
    (hline : (apos.endLine == cpos.line) = true := by rfl) (hst : starEach [e] X.env = (false, eval e X.env) :: starEach [] X.env := by rfl) : DE X false (.Call (.Attribute (.Name x p) "extend" apos) [e] [] cpos) (mMet i fExt m) :=
  de_met1 PySem.F.slot_list_extend PySem.F.type_list_extend mt_extend ms_extend hN hv he hd hcd hbase hfew hline hst
theorem de_popAt (hN : X.N[i]? = some x) (hv : Vis X.env.scope x) (he : DE X μ e m) (hd : (x == ("__debug__" : Str)) = false := by decide) (hcd : (x == ("__classdict__" : Str)) = false := by decide)
    (hbase : attributeBase (.Name x p) "pop" X.env (eval (.Name x p) X.env) = eval (.Name x p) X.env := by rfl)
    (hfew : ((backTo cpos (starEach [e] X.env)).all (fun x => !x.1) && (backToKw cpos (keywordEach [] X.env)).all (fun x => x.1.isSome) && decide ([e].length + ([] : List Keyword).length + (if ([] : List Keyword).isEmpty then 0 else 1) < 30)) = true := by rfl)
    (hline : (apos.endLine == cpos.line) = true := by rfl) (hst : starEach [e] X.env = (false, eval e X.env) :: starEach [] X.env := by rfl) : DE X false (.Call (.Attribute (.Name x p) "pop" apos) [e] [] cpos) (mMet i fPopAt m) :=
  de_met1 PySem.F.slot_list_pop PySem.F.type_list_pop mt_popAt ms_popAt hN hv he hd hcd hbase hfew hline hst
theorem de_pop (hN : X.N[i]? = some x) (hv : Vis X.env.scope x) (hd : (x == ("__debug__" : Str)) = false := by decide) (hcd : (x == ("__classdict__" : Str)) = false := by decide)
    (hbase : attributeBase (.Name x p) "pop" X.env (eval (.Name x p) X.env) = eval (.Name x p) X.env := by rfl) (hline : (apos.endLine == cpos.line) = true := by rfl) : DE X false (.Call (.Attribute (.Name x p) "pop" apos) [] [] cpos) (mMet0 i fPop) :=
  pe_imp (pe_bm0 PySem.F.plainAttrs_list PySem.F.slot_list_pop PySem.F.type_list_pop mt_pop (pe_var hN hv hd hcd) hbase hline) fun _ _ _ h => tE_met0 ms_pop h

/-! ### x[i] -/
/-- an item: of a list k deep one less; of a tuple, the script, laid down -/
def itemOf (k : Nat) (d : D) (j : Int) : Option (Nat × D) := match d with
  | .list ds => match atI ds j with
    | some x => some (k - 1, x)
    | none => none
  | .tuple ds => if k = 0 then match atI ds j with
      | some x => some (0, x)
      | none => none
    else none
  | .dict [(.none, .list ds)] => if k = 0 then match atI ds j with
      | some x => some (0, x)
      | none => none
    else none
  | _ => none
def mIx (ma mb : M R) : M R := fun ρ => match ma ρ with
  | some (ra, ρ1) => match mb ρ1 with
    | some (⟨_, 0, .int j⟩, ρ2) => match itemOf ra.k ra.d j with
      | some (k, d) => some (⟨false, k, d⟩, ρ2)
      | none => none
    | _ => none
  | none => none
/-- what is read is laid down first -/
def mIxS (ma mb : M R) : M R := fun ρ => match ma ρ with
  | some (ra, ρ1) => if (ra.fr || ra.k == 0) = true then match mb ρ1 with
      | some (⟨_, 0, .int j⟩, ρ2) => match itemOf 0 ra.d j with
        | some (k, d) => some (⟨false, 0, d⟩, ρ2)
        | none => none
      | _ => none
    else none
  | none => none
theorem atI_rp {F : Hp} {vs : List V} {ds : List D} (h : RpA K mg F vs ds) {j : Int} {d : D} (e : atI ds j = some d) : ∃ v, atI vs j = some v ∧ Rp K mg F v d := by
  unfold atI at e ⊢
  rw [h.length]
  cases q : ixN ds.length j with
  | none => rw [q] at e; cases e
  | some n =>
    rw [q] at e
    exact h.get e
theorem FA.at {P : V → D → List Addr → Prop} {vs : List V} {ds : List D} {cs : List Addr} (h : FA P vs ds cs) : ∀ {n : Nat} {d : D}, ds[n]? = some d → ∃ v c, vs[n]? = some v ∧ P v d c ∧ ∀ a ∈ c, a ∈ cs := by
  induction h with
  | nil => intro n d e; simp at e
  | cons p _ ih =>
    intro n d e
    cases n with
    | zero => simp at e; subst e; exact ⟨_, _, rfl, p, fun a ha => List.mem_append_left _ ha⟩
    | succ n =>
      obtain ⟨v, c, e1, p1, s⟩ := ih (by simpa using e)
      exact ⟨v, c, by simpa using e1, p1, fun a ha => List.mem_append_right _ (s a ha)⟩
theorem item_ok {F H : Hp} {k k' : Nat} {v : V} {d d' : D} {c : List Addr} {j : Int} (s : Sub F H) (o : Ow K mg F H k v d c) (e : itemOf k d j = some (k', d')) : ∃ x c', rIx K v (.int j) H (fun y H' => y = x ∧ H' = H) ∧ Ow K mg F H k' x d' c' := by
  unfold itemOf at e
  split at e
  · rename_i ds
    split at e
    · rename_i x hx
      cases e
      cases k with
      | zero =>
        obtain ⟨_, rp⟩ := o
        cases rp with
        | lst h ra =>
          obtain ⟨w, ew, rw⟩ := atI_rp ra hx
          exact ⟨w, [], .inl ⟨_, _, _, _, rfl, rfl, SqL.of (s _ _ h), ew, rfl, rfl⟩, ow0 rw⟩
      | succ k =>
        rcases o with ⟨a, vs, ds', css, e1, e2, e3, fa, e4⟩ | ⟨_, _, _, _, _, _, _, h, _⟩
        case inr => cases h
        cases e2
        subst e1
        unfold atI at hx
        cases q : ixN ds.length j with
        | none => rw [q] at hx; cases hx
        | some n =>
          rw [q] at hx
          obtain ⟨w, c', ew, ow, _⟩ := FA.at fa (show ds[n]? = some d' from hx)
          refine ⟨w, c', .inl ⟨a, vs, j, w, rfl, rfl, SqL.of e3, ?_, rfl, rfl⟩, ow⟩
          unfold atI
          rw [fa.length, q]; exact ew
    · cases e
  · rename_i ds
    split at e
    · rename_i hk
      subst hk
      split at e
      · rename_i x hx
        cases e
        obtain ⟨_, rp⟩ := o
        cases rp with
        | tup h ra =>
          obtain ⟨w, ew, rw⟩ := atI_rp ra hx
          exact ⟨w, [], .inr (.inl ⟨_, _, _, _, rfl, rfl, sub_sqT s h, ew, rfl, rfl⟩), ow0 rw⟩
      · cases e
    · cases e
  · rename_i ds
    split at e
    · rename_i hk
      subst hk
      split at e
      · rename_i x hx
        cases e
        obtain ⟨_, rp⟩ := o
        cases rp with
        | @scr a ns h =>
          unfold atI at hx
          rw [List.length_map] at hx
          cases q : ixN ns.length j with
          | none => rw [q] at hx; cases hx
          | some n =>
            rw [q] at hx
            have hx : (ns.map PyData.int)[n]? = some d' := hx
            rw [List.getElem?_map] at hx
            cases q2 : ns[n]? with
            | none => rw [q2] at hx; cases hx
            | some z =>
              rw [q2] at hx
              cases hx
              refine ⟨.int z, [], .inl ⟨a, _, j, .int z, rfl, rfl, sub_sqL s h, ?_, rfl, rfl⟩, ow0 (.int z)⟩
              unfold atI
              rw [List.length_map, q]
              show (ns.map V.int)[n]? = _
              rw [List.getElem?_map, q2]; rfl
      · cases e
    · cases e
  · cases e
theorem rIx_to {v : V} {j : Int} {H : Hp} {x : V} {Q : VK} (h : rIx K v (.int j) H (fun y H' => y = x ∧ H' = H)) (q : Q x H) : rIx K v (.int j) H Q := by
  rcases h with ⟨p, xs, i, y, e1, e2, h1, h2, e3, _⟩ | ⟨p, xs, i, y, e1, e2, h1, h2, e3, _⟩ | ⟨z, i, c, e1, e2, h1, h2, e3, _⟩
  · exact .inl ⟨p, xs, i, y, e1, e2, h1, h2, by rw [e3]; exact q⟩
  · exact .inr (.inl ⟨p, xs, i, y, e1, e2, h1, h2, by rw [e3]; exact q⟩)
  · exact .inr (.inr ⟨z, i, c, e1, e2, h1, h2, by rw [e3]; exact q⟩)
variable {a b : Expr} {ma mb : M R} {pos : Pos}
theorem de_ix (ha : DE X μ a ma) (hb : DE X true b mb) (hs : PlainIx b := by exact fun _ _ => rfl) : DE X μ (.Subscript a b pos) (mIx ma mb) :=
  pe_imp (pe_ix ix_seq ha hb hs) fun σ H Q ⟨F, G, ρ, cs, rr, ρ', S, e, q⟩ => by
    unfold mIx at e
    split at e
    · rename_i ra ρ1 em
      split at e
      · rename_i fr j ρ2 em2
        split at e
        · rename_i k d ei
          cases e
          refine ⟨F, G, ρ, cs, _, _, S, em, fun F1 G1 H1 cs1 v W1 mo S1 ⟨c, o, _⟩ => ⟨F1, G1, _, cs1, _, _, S1, em2, fun F2 G2 H2 cs2 w W2 mo2 S2 ⟨c2, o2, _⟩ => ?_⟩⟩
          obtain ⟨_, rp⟩ := o2
          cases rp
          obtain ⟨x, c', hx, ox⟩ := item_ok (S2.fg.trans S2.gh) (o.gr W2.f (mo2 rfl)) ei
          exact rIx_to hx (q F2 G2 H2 cs2 x (W1.trans W2) (fun h => (mo h).trans (mo2 rfl)) S2 ⟨c', ox, fun h => Bool.noConfusion h⟩)
        · cases e
      · cases e
    · cases e
theorem itemOf0 {d d' : D} {k : Nat} {j : Int} (e : itemOf 0 d j = some (k, d')) : k = 0 := by
  unfold itemOf at e
  split at e
  · split at e
    · cases e; rfl
    · cases e
  · split at e
    · split at e
      · cases e; rfl
      · cases e
    · cases e
  · split at e
    · split at e
      · cases e; rfl
      · cases e
    · cases e
  · cases e
theorem de_ixS (ha : DE X μ a ma) (hb : DE X μ b mb) (hs : PlainIx b := by exact fun _ _ => rfl) : DE X μ (.Subscript a b pos) (mIxS ma mb) :=
  pe_imp (pe_ix ix_seq ha hb hs) fun σ H Q ⟨F, G, ρ, cs, rr, ρ', S, e, q⟩ => by
    unfold mIxS at e
    split at e
    · rename_i ra ρ1 em
      split at e
      · rename_i hfr
        split at e
        · rename_i fr j ρ2 em2
          split at e
          · rename_i k d ei
            cases e
            refine ⟨F, G, ρ, cs, _, _, S, em, fun F0 G0 H1 cs1 v W0 mo S0 sv => ?_⟩
            obtain ⟨F1, G1, S1, W1, rp⟩ := sv.lay S0 hfr
            refine ⟨F1, G1, _, cs1, _, _, S1, em2, fun F2 G2 H2 cs2 w W2 mo2 S2 ⟨c2, o2, _⟩ => ?_⟩
            obtain ⟨_, rp2⟩ := o2
            cases rp2
            obtain ⟨x, c', hx, ox⟩ := item_ok (H := H2) (S2.fg.trans S2.gh) (ow0 (rp.sub W2.f)) ei
            have hk := itemOf0 ei
            subst hk
            exact rIx_to hx (q F2 G2 H2 cs2 x (W0.trans (W1.trans W2)) (fun h => (mo h).trans (mo2 h)) S2 ⟨c', ox, fun h => Bool.noConfusion h⟩)
          · cases e
        · cases e
      · cases e
    · cases e
/-! ### slices of lists -/
def mO0 : M (Option Int) := fun ρ => some (none, ρ)
def mO1 (m : M R) : M (Option Int) := fun ρ => match m ρ with
  | some (⟨_, 0, .int j⟩, ρ1) => some (some j, ρ1)
  | _ => none
def tO (K : PySem.W.Frag) (mg : Str → Option Value) (m : M (Option Int)) : TO := fun σ H Q => ∃ F G ρ cs o ρ', SR K mg F G H ρ σ cs ∧ m ρ = some (o, ρ') ∧
  ∀ F' G' H' cs', Fw F G F' G' → Sub H H' → SR K mg F' G' H' ρ' σ cs' → Q o H'
def DO (X : Cx) (e : Option Expr) (m : M (Option Int)) : Prop := PO X e (tO X.K X.mg m)
theorem po_imp {e : Option Expr} {t t' : TO} (h : PO X e t) (hi : ∀ σ H Q, t' σ H Q → t σ H Q) : PO X e t' := ⟨fun pins s σ H Q I q => h.run pins s σ H Q I (hi σ H Q q)⟩
theorem do_none : DO X none mO0 := po_imp po_none fun σ H Q ⟨F, G, ρ, cs, o, ρ', S, e, q⟩ => by
  cases e
  exact q F G H cs Fw.refl (Sub.refl _) S
theorem do_some (h : DE X true e m) : DO X (some e) (mO1 m) := po_imp (po_some h) fun σ H Q ⟨F, G, ρ, cs, o, ρ', S, e, q⟩ => by
  unfold mO1 at e
  split at e
  · rename_i fr j ρ1 em
    cases e
    refine ⟨F, G, ρ, cs, _, _, S, em, fun F1 G1 H1 cs1 v W mo S1 ⟨c, o, _⟩ => ?_⟩
    obtain ⟨_, rp⟩ := o
    cases rp
    exact ⟨j, rfl, q F1 G1 H1 cs1 W (mo rfl) S1⟩
  · cases e
def cutD (ds : List D) (lo hi : Option Int) : List D := (ds.drop (HT.sIx ds.length 0 lo)).take (HT.sIx ds.length ds.length hi - HT.sIx ds.length 0 lo)
def mSl (ma : M R) (ml mh : M (Option Int)) : M R := fun ρ => match ma ρ with
  | some (ra, ρ1) => match ml ρ1 with
    | some (lo, ρ2) => match mh ρ2 with
      | some (hi, ρ3) => if ra.k ≤ 1 then match ra.d with
          | .list ds => some (⟨true, 1, .list (cutD ds lo hi)⟩, ρ3)
          | _ => none
        else none
      | none => none
    | none => none
  | none => none
/-- a list whose items are laid down -/
theorem Ow.list1 {F H : Hp} {k : Nat} {v : V} {ds : List D} {c : List Addr} (s : Sub F H) (o : Ow K mg F H k v (.list ds) c) (hk : k ≤ 1) : ∃ a vs, v = .ref a ∧ H a = some (.lst vs) ∧ RpA K mg F vs ds := by
  cases k with
  | zero =>
    obtain ⟨_, rp⟩ := o
    cases rp with
    | lst h ra => exact ⟨_, _, rfl, s _ _ h, ra⟩
  | succ k =>
    have : k = 0 := by omega
    subst this
    rcases o with ⟨a, vs, ds', css, e1, e2, e3, fa, e4⟩ | ⟨_, _, _, _, _, _, _, h, _⟩
    case inr => cases h
    cases e2
    exact ⟨a, vs, e1, e3, (fa_zero fa).2⟩
theorem de_sl {lo hi : Option Expr} {ml mh : M (Option Int)} {p2 : Pos} (ha : DE X μ a ma) (hl : DO X lo ml) (hh : DO X hi mh) : DE X μ (.Subscript a (.Slice lo hi none p2) pos) (mSl ma ml mh) :=
  pe_imp (pe_slice sl_list ha hl hh) fun σ H Q ⟨F, G, ρ, cs, rr, ρ', S, e, q⟩ => by
    unfold mSl at e
    split at e
    · rename_i ra ρ1 em
      split at e
      · rename_i lo ρ2 el
        split at e
        · rename_i hi ρ3 eh
          split at e
          · rename_i hk
            split at e
            · rename_i ds ed
              cases e
              refine ⟨F, G, ρ, cs, _, _, S, em, fun F1 G1 H1 cs1 v W1 mo S1 ⟨c, o, _⟩ => ⟨F1, G1, _, cs1, _, _, S1, el, fun F2 G2 H2 cs2 W2 mo2 S2 => ⟨F2, G2, _, cs2, _, _, S2, eh, fun F3 G3 H3 cs3 W3 mo3 S3 => ?_⟩⟩⟩
              have o3 := o.gr (W2.f.trans W3.f) (mo2.trans mo3)
              rw [ed] at o3
              obtain ⟨a, vs, ev, hH, rA⟩ := o3.list1 (S3.fg.trans S3.gh) hk
              refine ⟨a, vs, ev, SqL.of hH, fun p hp => ?_⟩
              have n : New X.K X.mg F3 G3 H3 1 (.list (cutD ds lo hi)) Q := fun F' G' H' v c g o nd hn => by
                obtain ⟨S4, sv⟩ := S3.new g o nd hn
                exact q F' G' H' cs3 v (W1.trans (W2.trans (W3.trans (g.fw S3.fg S3.gh)))) (fun h => (mo h).trans (mo2.trans (mo3.trans g.h))) S4 sv
              have e2 : cutV vs lo hi = (vs.drop (HT.sIx ds.length 0 lo)).take (HT.sIx ds.length ds.length hi - HT.sIx ds.length 0 lo) := by unfold cutV; rw [rA.length]
              rw [e2]
              exact n.lst S3.fg S3.gh ((rA.drop _).take _) hp
            · cases e
          · cases e
        · cases e
      · cases e
    · cases e

/-! ### operators -/
def fAdd : Op2 := fun ka da kb db => match da, db with
  | .int i, .int j => if ka = 0 ∧ kb = 0 then some (0, .int (i + j)) else none
  | .list xs, .list ys => if ka ≤ 1 ∧ kb ≤ 1 ∧ xs.length + ys.length ≤ lim then some (1, .list (xs ++ ys)) else none
  | _, _ => none
abbrev rAdd2 : R2 := fun x y H Q => rI0 (fun i j => .int (i + j)) x y H Q ∨ rCat x y H Q
theorem op_addD : OpR X (binaryOp .Add) rAdd2 := op_add.or op_cat
theorem os_add : OpS K mg rAdd2 fAdd := fun F G H x y ka da kb db ca cb k d Q fg gh oa ob e n => by
  unfold fAdd at e
  split at e
  · rename_i i j
    split at e
    · rename_i hk
      obtain ⟨rfl, rfl⟩ := hk
      cases e
      obtain ⟨_, r1⟩ := oa
      obtain ⟨_, r2⟩ := ob
      cases r1
      cases r2
      exact .inl ⟨i, j, rfl, rfl, n.sc fg gh (.int _)⟩
    · cases e
  · rename_i xs ys
    split at e
    · rename_i hk
      cases e
      obtain ⟨a, vs, rfl, h1, r1⟩ := oa.list1 (fg.trans gh) hk.1
      obtain ⟨b, ws, rfl, h2, r2⟩ := ob.list1 (fg.trans gh) hk.2.1
      exact .inr ⟨a, b, vs, ws, rfl, rfl, h1, h2, by rw [r1.length, r2.length]; exact lim_le hk.2.2, fun p hp => n.lst fg gh (r1.append r2) hp⟩
    · cases e
  · cases e
def fI (C : Int → Int → Prop) [∀ i j, Decidable (C i j)] (g : Int → Int → D) : Op2 := fun ka da kb db => match da, db with
  | .int i, .int j => if ka = 0 ∧ kb = 0 ∧ C i j then some (0, g i j) else none
  | _, _ => none
def fI0 (g : Int → Int → D) : Op2 := fun ka da kb db => match da, db with
  | .int i, .int j => if ka = 0 ∧ kb = 0 then some (0, g i j) else none
  | _, _ => none
/-- ints to a thing of one kind -/
theorem os_int {C : Int → Int → Prop} [∀ i j, Decidable (C i j)] {g : Int → Int → V} {g' : Int → Int → D} (hg : ∀ F i j, Rp K mg F (g i j) (g' i j)) : OpS K mg (rI C g) (fI C g') := fun F G H x y ka da kb db ca cb k d Q fg gh oa ob e n => by
  unfold fI at e
  split at e
  · rename_i i j
    split at e
    · rename_i hk
      obtain ⟨rfl, rfl, hc⟩ := hk
      cases e
      obtain ⟨_, r1⟩ := oa
      obtain ⟨_, r2⟩ := ob
      cases r1
      cases r2
      exact ⟨i, j, rfl, rfl, hc, n.sc fg gh (hg F i j)⟩
    · cases e
  · cases e
theorem os_int0 {g : Int → Int → V} {g' : Int → Int → D} (hg : ∀ F i j, Rp K mg F (g i j) (g' i j)) : OpS K mg (rI0 g) (fI0 g') := fun F G H x y ka da kb db ca cb k d Q fg gh oa ob e n => by
  unfold fI0 at e
  split at e
  · rename_i i j
    split at e
    · rename_i hk
      obtain ⟨rfl, rfl⟩ := hk
      cases e
      obtain ⟨_, r1⟩ := oa
      obtain ⟨_, r2⟩ := ob
      cases r1
      cases r2
      exact ⟨i, j, rfl, rfl, n.sc fg gh (hg F i j)⟩
    · cases e
  · cases e
instance (i j : Int) : Decidable (CDiv i j) := by unfold CDiv; infer_instance
instance (i j : Int) : Decidable (CDivN i j) := by unfold CDivN; infer_instance
instance (i j : Int) : Decidable (CPow i j) := by unfold CPow; infer_instance
instance (i j : Int) : Decidable (CMul i j) := by unfold CMul; infer_instance
def fSub : Op2 := fI0 fun i j => .int (i - j)
def fDiv : Op2 := fI CDiv fun i j => .int (i / j)
def fMod : Op2 := fI (fun _ j => 0 < j) fun i j => .int (i % j)
def fPow : Op2 := fI CPow fun i j => .int (i ^ j.toNat)
def fLt : Op2 := fI0 fun i j => .bool (decide (i < j))
def fLe : Op2 := fI0 fun i j => .bool (decide (i ≤ j))
def fGt : Op2 := fI0 fun i j => .bool (decide (j < i))
def fGe : Op2 := fI0 fun i j => .bool (decide (j ≤ i))
theorem os_sub : OpS K mg (rI0 fun i j => .int (i - j)) fSub := os_int0 fun _ _ _ => .int _
theorem os_div : OpS K mg (rI CDiv fun i j => .int (i / j)) fDiv := os_int fun _ _ _ => .int _
theorem os_mod : OpS K mg (rI (fun _ j => 0 < j) fun i j => .int (i % j)) fMod := os_int fun _ _ _ => .int _
theorem os_pow : OpS K mg (rI CPow fun i j => .int (i ^ j.toNat)) fPow := os_int fun _ _ _ => .int _
theorem os_lt : OpS K mg (rI0 fun i j => .bl (decide (i < j))) fLt := os_int0 fun _ _ _ => .bl _
theorem os_le : OpS K mg (rI0 fun i j => .bl (decide (i ≤ j))) fLe := os_int0 fun _ _ _ => .bl _
theorem os_gt : OpS K mg (rI0 fun i j => .bl (decide (j < i))) fGt := os_int0 fun _ _ _ => .bl _
theorem os_ge : OpS K mg (rI0 fun i j => .bl (decide (j ≤ i))) fGe := os_int0 fun _ _ _ => .bl _
/-- *: ints, a list so many times -/
def fMul : Op2 := fun ka da kb db => match da, db with
  | .int i, .int j => if ka = 0 ∧ kb = 0 ∧ CMul i j then some (0, .int (i * j)) else none
  | .list xs, .int j => if ka ≤ 1 ∧ kb = 0 ∧ -1000000000 ≤ j ∧ j ≤ 1000000000 ∧ xs.length * j.toNat ≤ lim then some (1, .list (List.replicate j.toNat xs).flatten) else none
  | _, _ => none
abbrev rMul2 : R2 := fun x y H Q => rI CMul (fun i j => .int (i * j)) x y H Q ∨ rRep x y H Q
theorem op_mulD : OpR X (binaryOp .Mult) rMul2 := op_mul.or op_rep
theorem RpA.rep {F : Hp} {vs : List V} {ds : List D} (h : RpA K mg F vs ds) : ∀ n : Nat, RpA K mg F (List.replicate n vs).flatten (List.replicate n ds).flatten
  | 0 => .nil
  | n + 1 => by rw [List.replicate_succ, List.replicate_succ, List.flatten_cons, List.flatten_cons]; exact h.append (RpA.rep h n)
theorem os_mul : OpS K mg rMul2 fMul := fun F G H x y ka da kb db ca cb k d Q fg gh oa ob e n => by
  unfold fMul at e
  split at e
  · rename_i i j
    split at e
    · rename_i hk
      obtain ⟨rfl, rfl, hc⟩ := hk
      cases e
      obtain ⟨_, r1⟩ := oa
      obtain ⟨_, r2⟩ := ob
      cases r1
      cases r2
      exact .inl ⟨i, j, rfl, rfl, hc, n.sc fg gh (.int _)⟩
    · cases e
  · rename_i xs j
    split at e
    · rename_i hk
      obtain ⟨h1, rfl, h2, h3, h4⟩ := hk
      cases e
      obtain ⟨a, vs, rfl, hH, r1⟩ := oa.list1 (fg.trans gh) h1
      obtain ⟨_, r2⟩ := ob
      cases r2
      exact .inr ⟨a, j, vs, rfl, rfl, hH, by omega, by omega, by rw [r1.length]; exact lim_le h4, fun p hp => n.lst fg gh (r1.rep _) hp⟩
    · cases e
  · cases e
/-! ### is None -/
def isNoneD : D → Bool
  | .none => true
  | _ => false
def fIs (neg : Bool) : Op2 := fun ka da kb db => match db with
  | .none => if kb = 0 then some (0, .bool (if neg then !isNoneD da else isNoneD da)) else none
  | _ => none
theorem Ow.isNone {F H : Hp} {k : Nat} {v : V} {d : D} {c : List Addr} (o : Ow K mg F H k v d c) : decide (v = .non) = isNoneD d := by
  cases k with
  | zero =>
    obtain ⟨_, r⟩ := o
    cases r <;> rfl
  | succ k =>
    rcases o with ⟨a, vs, ds, css, e1, e2, _⟩ | ⟨a, C, dx, fs, c, kvs, e1, e2, _⟩ <;> (subst e1 e2; rfl)
theorem os_is : OpS K mg (fun x y H Q => y = .non ∧ Q (.bl (decide (x = .non))) H) (fIs false) := fun F G H x y ka da kb db ca cb k d Q fg gh oa ob e n => by
  unfold fIs at e
  split at e
  · split at e
    · rename_i hk
      subst hk
      cases e
      obtain ⟨_, r2⟩ := ob
      cases r2
      refine ⟨rfl, ?_⟩
      rw [oa.isNone]
      exact n.sc fg gh (.bl _)
    · cases e
  · cases e
theorem os_isnot : OpS K mg (fun x y H Q => y = .non ∧ Q (.bl (!decide (x = .non))) H) (fIs true) := fun F G H x y ka da kb db ca cb k d Q fg gh oa ob e n => by
  unfold fIs at e
  split at e
  · split at e
    · rename_i hk
      subst hk
      cases e
      obtain ⟨_, r2⟩ := ob
      cases r2
      refine ⟨rfl, ?_⟩
      rw [oa.isNone]
      exact n.sc fg gh (.bl _)
    · cases e
  · cases e
/-! ### ==, !=, in -/
mutual
/-- plain: no instance, no script within, not too deep -/
def pln : D → Bool
  | .list xs => plnA xs
  | .tuple xs => plnA xs
  | .dict _ => false
  | _ => true
def plnA : List D → Bool
  | [] => true
  | x :: xs => pln x && plnA xs
end
mutual
theorem Rp.dp {H : Hp} : ∀ {d : D} {v : V}, Rp K mg H v d → pln d = true → Dp K H v d
  | .none, _, h, _ => by cases h; exact .non
  | .bool b, _, h, _ => by cases h; exact .bl b
  | .int i, _, h, _ => by cases h; exact .int i
  | .str x, _, h, _ => by cases h; exact .str x
  | .list ds, _, h, p => by
    cases h with
    | lst h r => exact .lst (SqL.of h) (RpA.dp r (by unfold pln at p; exact p))
  | .tuple ds, _, h, p => by
    cases h with
    | tup h r => exact .tup h (RpA.dp r (by unfold pln at p; exact p))
  | .dict _, _, h, p => by unfold pln at p; cases p
theorem RpA.dp {H : Hp} : ∀ {ds : List D} {vs : List V}, RpA K mg H vs ds → plnA ds = true → DpAll K H vs ds
  | [], _, h, _ => by cases h; exact .nil
  | d :: ds, _, h, p => by
    cases h with
    | cons h r =>
      unfold plnA at p
      rw [Bool.and_eq_true] at p
      exact .cons (Rp.dp h p.1) (RpA.dp r p.2)
end
/-- data that == takes -/
def eqOk (d : D) : Bool := pln d && SeqAt.shaped d
def fEq : Op2 := fun ka da kb db => if (eqOk da && eqOk db) = true then some (0, .bool (PyData.eqv da db)) else none
def fNe : Op2 := fun ka da kb db => if (eqOk da && eqOk db) = true then some (0, .bool (!PyData.eqv da db)) else none
theorem os_eq : OpS K mg (rEqD K) fEq := fun F G H x y ka da kb db ca cb k d Q fg gh oa ob e n => by
  unfold fEq at e
  split at e
  · rename_i hk
    cases e
    unfold eqOk at hk
    simp only [Bool.and_eq_true] at hk
    exact ⟨da, db, (oa.rpH (fg.trans gh)).dp hk.1.1, (ob.rpH (fg.trans gh)).dp hk.2.1, hk.1.2, hk.2.2, n.sc fg gh (.bl _)⟩
  · cases e
theorem os_ne : OpS K mg (rNeD K) fNe := fun F G H x y ka da kb db ca cb k d Q fg gh oa ob e n => by
  unfold fNe at e
  split at e
  · rename_i hk
    cases e
    unfold eqOk at hk
    simp only [Bool.and_eq_true] at hk
    exact ⟨da, db, (oa.rpH (fg.trans gh)).dp hk.1.1, (ob.rpH (fg.trans gh)).dp hk.2.1, hk.1.2, hk.2.2, n.sc fg gh (.bl _)⟩
  · cases e
def fIn (neg : Bool) : Op2 := fun ka da kb db => match db with
  | .list ds => if (eqOk da && eqOk (.list ds)) = true then some (0, .bool (if neg then !ds.any fun z => PyData.eqv z da else ds.any fun z => PyData.eqv z da)) else none
  | _ => none
theorem os_in : OpS K mg (rInD K) (fIn false) := fun F G H x y ka da kb db ca cb k d Q fg gh oa ob e n => by
  unfold fIn at e
  split at e
  · rename_i ds
    split at e
    · rename_i hk
      cases e
      unfold eqOk at hk
      simp only [Bool.and_eq_true] at hk
      exact ⟨da, ds, (oa.rpH (fg.trans gh)).dp hk.1.1, (ob.rpH (fg.trans gh)).dp hk.2.1, hk.1.2, hk.2.2, n.sc fg gh (.bl _)⟩
    · cases e
  · cases e
theorem os_notin : OpS K mg (rNotInD K) (fIn true) := fun F G H x y ka da kb db ca cb k d Q fg gh oa ob e n => by
  unfold fIn at e
  split at e
  · rename_i ds
    split at e
    · rename_i hk
      cases e
      unfold eqOk at hk
      simp only [Bool.and_eq_true] at hk
      exact ⟨da, ds, (oa.rpH (fg.trans gh)).dp hk.1.1, (ob.rpH (fg.trans gh)).dp hk.2.1, hk.1.2, hk.2.2, n.sc fg gh (.bl _)⟩
    · cases e
  · cases e
end
end Lk

set_option Elab.async false
set_option linter.all false
set_option maxRecDepth 100000
/-! LkL: built-in functions by name. -/
namespace Lk
open PySem L2 PySem.Spec

section
variable {X : Cx} {K : PySem.W.Frag} {mg : Str → Option Value} {μ : Bool}
/-! ### int, abs, max, min, divmod -/
def fI1 (g : Int → D) : Nat → D → Option (Nat × D) := fun k d => match d with
  | .int i => if k = 0 then some (0, g i) else none
  | _ => none
def fInt : Nat → D → Option (Nat × D) := fun k d => match d with
  | .int i => if k = 0 then some (0, .int i) else none
  | .bool b => if k = 0 then some (0, .int (if b then 1 else 0)) else none
  | _ => none
def fAbs := fI1 fun i => .int (if i < 0 then -i else i)
def fNeg := fI1 fun i => .int (-i)
theorem cs_int : CallS1 K mg (fun xs H Q => (∃ i, xs = [.int i] ∧ Q (.int i) H) ∨ ∃ k, xs = [.bl k] ∧ Q (.int (if k then 1 else 0)) H) fInt := fun F G H x ka da ca k d Q fg gh o e n => by
  unfold fInt at e
  split at e
  · split at e
    · rename_i hk
      subst hk
      cases e
      obtain ⟨_, r⟩ := o
      cases r
      exact .inl ⟨_, rfl, n.sc fg gh (.int _)⟩
    · cases e
  · split at e
    · rename_i hk
      subst hk
      cases e
      obtain ⟨_, r⟩ := o
      cases r
      exact .inr ⟨_, rfl, n.sc fg gh (.int _)⟩
    · cases e
  · cases e
theorem cs_abs : CallS1 K mg (fun xs H Q => ∃ i, xs = [.int i] ∧ Q (.int (if i < 0 then -i else i)) H) fAbs := fun F G H x ka da ca k d Q fg gh o e n => by
  unfold fAbs fI1 at e
  split at e
  · split at e
    · rename_i hk
      subst hk
      cases e
      obtain ⟨_, r⟩ := o
      cases r
      exact ⟨_, rfl, n.sc fg gh (.int _)⟩
    · cases e
  · cases e
theorem us_neg : UnS K mg (rU fun i => .int (-i)) fNeg := fun F G H x ka da ca k d Q fg gh o e n => by
  unfold fNeg fI1 at e
  split at e
  · split at e
    · rename_i hk
      subst hk
      cases e
      obtain ⟨_, r⟩ := o
      cases r
      exact ⟨_, rfl, n.sc fg gh (.int _)⟩
    · cases e
  · cases e
def fMax2 : Op2 := fI0 fun i j => .int (if j > i then j else i)
def fMin2 : Op2 := fI0 fun i j => .int (if j < i then j else i)
theorem cs2_int0 {g : Int → Int → Int} : CallS2 K mg (fun xs H Q => ∃ i j, xs = [.int i, .int j] ∧ Q (.int (g i j)) H) (fI0 fun i j => .int (g i j)) := fun F G H x y ka da kb db ca cb k d Q fg gh oa ob e n => by
  unfold fI0 at e
  split at e
  · split at e
    · rename_i hk
      obtain ⟨rfl, rfl⟩ := hk
      cases e
      obtain ⟨_, r1⟩ := oa
      obtain ⟨_, r2⟩ := ob
      cases r1
      cases r2
      exact ⟨_, _, rfl, n.sc fg gh (.int _)⟩
    · cases e
  · cases e
theorem cs_max2 : CallS2 K mg (fun xs H Q => ∃ i j, xs = [.int i, .int j] ∧ Q (.int (if j > i then j else i)) H) fMax2 := cs2_int0
theorem cs_min2 : CallS2 K mg (fun xs H Q => ∃ i j, xs = [.int i, .int j] ∧ Q (.int (if j < i then j else i)) H) fMin2 := cs2_int0
def fDivmod : Op2 := fI CDiv fun i j => .tuple [.int (i / j), .int (i % j)]
theorem cs_divmod : CallS2 K mg (fun xs H Q => ∃ i j, xs = [.int i, .int j] ∧ CDiv i j ∧ ∀ p, H p = none → Q (.ref p) (upd H p (.tup [.int (i / j), .int (i % j)]))) fDivmod := fun F G H x y ka da kb db ca cb k d Q fg gh oa ob e n => by
  unfold fDivmod fI at e
  split at e
  · split at e
    · rename_i hk
      obtain ⟨rfl, rfl, hc⟩ := hk
      cases e
      obtain ⟨_, r1⟩ := oa
      obtain ⟨_, r2⟩ := ob
      cases r1
      cases r2
      exact ⟨_, _, rfl, hc, fun p hp => n.tup fg gh (.cons (.int _) (.cons (.int _) .nil)) hp⟩
    · cases e
  · cases e
/-! ### len, list -/
def fLen : Nat → D → Option (Nat × D) := fun k d => match d with
  | .list ds => some (0, .int (ds.length : Int))
  | .tuple ds => some (0, .int (ds.length : Int))
  | .dict [(.none, .list ds)] => some (0, .int (ds.length : Int))
  | .str x => if x.length ≤ lim then some (0, .int (x.length : Int)) else none
  | _ => none
abbrev rLen (K : PySem.W.Frag) : List V → Hp → VK → Prop := fun xs H Q => (∃ p ys, xs = [.ref p] ∧ (SqL K H p ys ∨ SqT K H p ys) ∧ Q (.int ys.length) H) ∨ (∃ z, xs = [.str z] ∧ z.length ≤ sizeLine ∧ Q (.int z.length) H)
theorem call_lenD : CallR X (.builtin "len") (rLen X.K) := call_len_seq.or call_len_str
theorem Ow.listAny {F H : Hp} {k : Nat} {v : V} {ds : List D} {c : List Addr} (s : Sub F H) (o : Ow K mg F H k v (.list ds) c) : ∃ a vs, v = .ref a ∧ H a = some (.lst vs) ∧ vs.length = ds.length := by
  cases k with
  | zero =>
    obtain ⟨_, rp⟩ := o
    cases rp with
    | lst h ra => exact ⟨_, _, rfl, s _ _ h, ra.length⟩
  | succ k =>
    rcases o with ⟨a, vs, ds', css, e1, e2, e3, fa, e4⟩ | ⟨_, _, _, _, _, _, _, h, _⟩
    case inr => cases h
    cases e2
    exact ⟨a, vs, e1, e3, fa.length⟩
theorem Ow.flat {F H : Hp} {k : Nat} {v : V} {d : D} {c : List Addr} (o : Ow K mg F H k v d c) (h1 : ∀ ds, d ≠ .list ds) (h2 : ∀ c kvs, d ≠ .dict ((.str clsKey, .str c) :: kvs)) : Rp K mg F v d := by
  cases k with
  | zero => exact o.2
  | succ k =>
    rcases o with ⟨a, vs, ds', css, e1, e2, e3, fa, e4⟩ | ⟨_, _, _, _, c, kvs, _, h, _⟩
    · exact absurd e2 (h1 _)
    · exact absurd h (h2 _ _)
theorem cs_len : CallS1 K mg (rLen K) fLen := fun F G H x ka da ca k d Q fg gh o e n => by
  unfold fLen at e
  split at e
  · cases e
    obtain ⟨a, vs, rfl, h, hl⟩ := o.listAny (fg.trans gh)
    exact .inl ⟨a, vs, rfl, .inl (SqL.of h), by rw [hl]; exact n.sc fg gh (.int _)⟩
  · cases e
    have r := o.flat (fun _ h => nomatch h) fun _ _ h => nomatch h
    cases r with
    | tup h ra => exact .inl ⟨_, _, rfl, .inr (sub_sqT (fg.trans gh) h), by rw [ra.length]; exact n.sc fg gh (.int _)⟩
  · rename_i ds
    cases e
    have r := o.flat (fun _ h => nomatch h) fun _ _ h => nomatch h
    cases r with
    | @scr a ns h =>
      rw [List.length_map] at n
      exact .inl ⟨_, _, rfl, .inl (sub_sqL (fg.trans gh) h), by rw [List.length_map]; exact n.sc fg gh (.int _)⟩
  · rename_i x
    split at e
    · rename_i hl
      cases e
      have r := o.flat (fun _ h => nomatch h) fun _ _ h => nomatch h
      cases r
      exact .inr ⟨x, rfl, lim_le hl, n.sc fg gh (.int _)⟩
    · cases e
  · cases e
def fList : Nat → D → Option (Nat × D) := fun k d => match d with
  | .list ds => if k ≤ 1 then some (1, .list ds) else none
  | .tuple ds => some (1, .list ds)
  | _ => none
theorem cs_list : CallS1 K mg (fun xs H Q => ∃ p ys, xs = [.ref p] ∧ (SqL K H p ys ∨ SqT K H p ys) ∧ ∀ l, H l = none → Q (.ref l) (upd H l (.lst ys))) fList := fun F G H x ka da ca k d Q fg gh o e n => by
  unfold fList at e
  split at e
  · split at e
    · rename_i hk
      cases e
      obtain ⟨a, vs, rfl, h, ra⟩ := o.list1 (fg.trans gh) hk
      exact ⟨a, vs, rfl, .inl (SqL.of h), fun p hp => n.lst fg gh ra hp⟩
    · cases e
  · cases e
    have r := o.flat (fun _ h => nomatch h) fun _ _ h => nomatch h
    cases r with
    | tup h ra => exact ⟨_, _, rfl, .inr (sub_sqT (fg.trans gh) h), fun p hp => n.lst fg gh ra hp⟩
  · cases e
/-! ### any, all, sum, min, max of a list -/
/-- the bools of a list -/
def bools : List D → Option (List Bool)
  | [] => some []
  | .bool b :: ds => match bools ds with
    | some bs => some (b :: bs)
    | none => none
  | _ :: _ => none
def intsOf : List D → Option (List Int)
  | [] => some []
  | .int b :: ds => match intsOf ds with
    | some bs => some (b :: bs)
    | none => none
  | _ :: _ => none
theorem bools_rp {F : Hp} : ∀ {ds : List D} {vs : List V} {bs : List Bool}, RpA K mg F vs ds → bools ds = some bs → vs = bs.map V.bl
  | [], _, _, h, e => by cases h; cases e; rfl
  | d :: ds, _, bs, h, e => by
    cases h with
    | cons h r =>
      unfold bools at e
      split at e
      · rename_i hh; cases hh
      · rename_i b ds' hd
        cases hd
        split at e
        · rename_i bs' eb
          cases e
          cases h
          rw [bools_rp r eb]; rfl
        · cases e
      · cases e
theorem ints_rp {F : Hp} : ∀ {ds : List D} {vs : List V} {bs : List Int}, RpA K mg F vs ds → intsOf ds = some bs → vs = bs.map V.int
  | [], _, _, h, e => by cases h; cases e; rfl
  | d :: ds, _, bs, h, e => by
    cases h with
    | cons h r =>
      unfold intsOf at e
      split at e
      · rename_i hh; cases hh
      · rename_i b ds' hd
        cases hd
        split at e
        · rename_i bs' eb
          cases e
          cases h
          rw [ints_rp r eb]; rfl
        · cases e
      · cases e
def fBs (g : List Bool → Bool) : Nat → D → Option (Nat × D) := fun k d => match d with
  | .list ds => if k ≤ 1 then match bools ds with
      | some bs => some (0, .bool (g bs))
      | none => none
    else none
  | _ => none
def fAny := fBs fun bs => bs.any id
def fAll := fBs fun bs => bs.all id
theorem cs_any : CallS1 K mg (rAny K) fAny := fun F G H x ka da ca k d Q fg gh o e n => by
  unfold fAny fBs at e
  split at e
  · split at e
    · rename_i hk
      split at e
      · rename_i bs eb
        cases e
        obtain ⟨a, vs, rfl, h, ra⟩ := o.list1 (fg.trans gh) hk
        have := bools_rp ra eb
        subst this
        exact ⟨a, bs, rfl, SqL.of h, n.sc fg gh (.bl _)⟩
      · cases e
    · cases e
  · cases e
theorem cs_all : CallS1 K mg (rAll K) fAll := fun F G H x ka da ca k d Q fg gh o e n => by
  unfold fAll fBs at e
  split at e
  · split at e
    · rename_i hk
      split at e
      · rename_i bs eb
        cases e
        obtain ⟨a, vs, rfl, h, ra⟩ := o.list1 (fg.trans gh) hk
        have := bools_rp ra eb
        subst this
        exact ⟨a, bs, rfl, SqL.of h, n.sc fg gh (.bl _)⟩
      · cases e
    · cases e
  · cases e
def fSum : Nat → D → Option (Nat × D) := fun k d => match d with
  | .list ds => if k ≤ 1 then match intsOf ds with
      | some bs => some (0, .int bs.sum)
      | none => none
    else none
  | _ => none
theorem cs_sum : CallS1 K mg (rSum K) fSum := fun F G H x ka da ca k d Q fg gh o e n => by
  unfold fSum at e
  split at e
  · split at e
    · rename_i hk
      split at e
      · rename_i bs eb
        cases e
        obtain ⟨a, vs, rfl, h, ra⟩ := o.list1 (fg.trans gh) hk
        have := ints_rp ra eb
        subst this
        exact ⟨a, bs, rfl, SqL.of h, n.sc fg gh (.int _)⟩
      · cases e
    · cases e
  · cases e
/-- the greatest, the least -/
def maxOf : List Int → Option Int
  | [] => none
  | x :: xs => match maxOf xs with
    | some y => some (if x ≤ y then y else x)
    | none => some x
def minOf : List Int → Option Int
  | [] => none
  | x :: xs => match minOf xs with
    | some y => some (if y ≤ x then y else x)
    | none => some x
theorem maxOf_is : ∀ {xs : List Int} {m : Int}, maxOf xs = some m → m ∈ xs ∧ ∀ y ∈ xs, y ≤ m
  | [], _, e => by cases e
  | x :: xs, m, e => by
    unfold maxOf at e
    split at e
    · rename_i y ey
      cases e
      obtain ⟨h1, h2⟩ := maxOf_is ey
      split
      · rename_i hle
        exact ⟨List.mem_cons_of_mem _ h1, fun z hz => by rcases List.mem_cons.mp hz with e | hz; (rw [e]; exact hle); exact h2 z hz⟩
      · rename_i hle
        exact ⟨List.mem_cons_self, fun z hz => by rcases List.mem_cons.mp hz with e | hz; (rw [e]; exact Int.le_refl _); (have := h2 z hz; omega)⟩
    · rename_i ey
      cases e
      have : xs = [] := by
        cases xs with
        | nil => rfl
        | cons z zs => unfold maxOf at ey; split at ey <;> cases ey
      subst this
      exact ⟨List.mem_cons_self, fun z hz => by rcases List.mem_cons.mp hz with e | hz; (rw [e]; exact Int.le_refl _); cases hz⟩
theorem minOf_is : ∀ {xs : List Int} {m : Int}, minOf xs = some m → m ∈ xs ∧ ∀ y ∈ xs, m ≤ y
  | [], _, e => by cases e
  | x :: xs, m, e => by
    unfold minOf at e
    split at e
    · rename_i y ey
      cases e
      obtain ⟨h1, h2⟩ := minOf_is ey
      split
      · rename_i hle
        exact ⟨List.mem_cons_of_mem _ h1, fun z hz => by rcases List.mem_cons.mp hz with e | hz; (rw [e]; exact hle); exact h2 z hz⟩
      · rename_i hle
        exact ⟨List.mem_cons_self, fun z hz => by rcases List.mem_cons.mp hz with e | hz; (rw [e]; exact Int.le_refl _); (have := h2 z hz; omega)⟩
    · rename_i ey
      cases e
      have : xs = [] := by
        cases xs with
        | nil => rfl
        | cons z zs => unfold minOf at ey; split at ey <;> cases ey
      subst this
      exact ⟨List.mem_cons_self, fun z hz => by rcases List.mem_cons.mp hz with e | hz; (rw [e]; exact Int.le_refl _); cases hz⟩
def fMm (g : List Int → Option Int) : Nat → D → Option (Nat × D) := fun k d => match d with
  | .list ds => if k ≤ 1 then match intsOf ds with
      | some bs => match g bs with
        | some m => some (0, .int m)
        | none => none
      | none => none
    else none
  | _ => none
theorem len_pos_of_mem {α : Type} {a : α} {l : List α} (h : a ∈ l) : 0 < l.length := List.length_pos_of_mem h
theorem cs_max : CallS1 K mg (rMax K) (fMm maxOf) := fun F G H x ka da ca k d Q fg gh o e n => by
  unfold fMm at e
  split at e
  · split at e
    · rename_i hk
      split at e
      · rename_i bs eb
        split at e
        · rename_i m em
          cases e
          obtain ⟨a, vs, rfl, h, ra⟩ := o.list1 (fg.trans gh) hk
          have := ints_rp ra eb
          subst this
          obtain ⟨h1, h2⟩ := maxOf_is em
          refine ⟨a, bs, rfl, SqL.of h, len_pos_of_mem h1, fun m' hm hle => ?_⟩
          have : m' = m := Int.le_antisymm (h2 _ hm) (hle _ h1)
          subst this
          exact n.sc fg gh (.int _)
        · cases e
      · cases e
    · cases e
  · cases e
theorem cs_min : CallS1 K mg (rMin K) (fMm minOf) := fun F G H x ka da ca k d Q fg gh o e n => by
  unfold fMm at e
  split at e
  · split at e
    · rename_i hk
      split at e
      · rename_i bs eb
        split at e
        · rename_i m em
          cases e
          obtain ⟨a, vs, rfl, h, ra⟩ := o.list1 (fg.trans gh) hk
          have := ints_rp ra eb
          subst this
          obtain ⟨h1, h2⟩ := minOf_is em
          refine ⟨a, bs, rfl, SqL.of h, len_pos_of_mem h1, fun m' hm hle => ?_⟩
          have : m' = m := Int.le_antisymm (hle _ h1) (h2 _ hm)
          subst this
          exact n.sc fg gh (.int _)
        · cases e
      · cases e
    · cases e
  · cases e
/-! ### repr -/
/-- repr of plain data, not too deep, its text not too long -/
def fRepr : Nat → D → Option (Nat × D) := fun _ d => if (pln d && d.showable && decide (d.depth ≤ 64) && decide (d.shown.length ≤ lim)) = true then some (0, .str d.shown) else none
mutual
theorem pln_noDict : ∀ d : D, pln d = true → d.hasDict = false
  | .none, _ => rfl
  | .bool _, _ => rfl
  | .int _, _ => rfl
  | .str _, _ => rfl
  | .list ds, h => by unfold pln at h; unfold PyData.hasDict; exact plnA_noDict ds h
  | .tuple ds, h => by unfold pln at h; unfold PyData.hasDict; exact plnA_noDict ds h
  | .dict _, h => by unfold pln at h; cases h
theorem plnA_noDict : ∀ ds : List D, plnA ds = true → PyData.hasDictAll ds = false
  | [], _ => rfl
  | d :: ds, h => by
    unfold plnA at h
    rw [Bool.and_eq_true] at h
    unfold PyData.hasDictAll
    rw [pln_noDict d h.1, plnA_noDict ds h.2]; rfl
end
def rRepr (K : PySem.W.Frag) : List V → Hp → VK → Prop := fun xs H Q => ∃ x d, xs = [x] ∧ Dp K H x d ∧ d.showable = true ∧ d.hasDict = false ∧ d.depth ≤ 64 ∧ d.shown.length ≤ sizeLine ∧ Q (.str d.shown) H
theorem call_reprD (guards : X.A.guards = some []) (hu : X.A.units + 100 < cLine) : CallR X (.builtin "repr") (rRepr X.K) := by
  intro pins s σ H xs us Q I r h
  obtain ⟨x, d, rfl, hd, hs, hn, h64, hl, q⟩ := h
  obtain ⟨u, rfl, ru⟩ := Vals.one r
  have obj : ∀ a, u = .ref a → wpAny (model X.prog X.w) X.A (call (.builtin "repr") [u]) (EP X pins σ Q) X.xe s := fun a e => by
    subst e
    obtain ⟨as, rd⟩ := Dp.reads I d x _ hd ru
    exact repr_of_reads' rd hs (fun e => by rw [hn] at e; cases e) guards (by omega) (fun _ _ e => e) (fun h' tk tk' hk => ⟨.str d.shown, H, I.kept (t' := tk') hk, ⟨_, rfl⟩, q⟩) hl
  cases hd with
  | non => cases ru; exact PySem.P.repr_of_none ⟨.str _, H, I.tok _, ⟨_, rfl⟩, q⟩
  | bl b => cases ru; exact PySem.P.repr_of_bool ⟨.str _, H, I.tok _, ⟨_, rfl⟩, q⟩
  | int i =>
    obtain ⟨t, rfl⟩ := ru
    exact PySem.P.repr_of_int (by unfold PyData.showable at hs; exact of_decide_eq_true hs) ⟨.str _, H, I.tok _, ⟨_, rfl⟩, q⟩
  | str z =>
    obtain ⟨t, rfl⟩ := ru
    exact PySem.P.repr_of_str ⟨.str _, H, I.tok _, ⟨_, rfl⟩, q⟩ hl
  | lst _ _ => cases ru; exact obj _ rfl
  | tup _ _ => cases ru; exact obj _ rfl
theorem cs_repr : CallS1 K mg (rRepr K) fRepr := fun F G H x ka da ca k d Q fg gh o e n => by
  unfold fRepr at e
  split at e
  · rename_i h
    cases e
    simp only [Bool.and_eq_true, decide_eq_true_eq] at h
    exact ⟨x, da, rfl, (o.rpH (fg.trans gh)).dp h.1.1.1, h.1.1.2, pln_noDict _ h.1.1.1, h.1.2, lim_le h.2, n.sc fg gh (.str _)⟩
  · cases e
/-! ### sorted -/
def sortD (ds : List D) : List D := ds.mergeSort (PySem.W.dataLe false id)
def isTup1 : D → Bool
  | .tuple (_ :: _) => true
  | _ => false
def isOth : D → Bool
  | .tuple _ => false
  | .none => false
  | _ => true
def sortOk (ds : List D) : Bool := plnA ds && ds.all (fun d => ds.all fun d' => PySem.W.alike d d') && (ds.all isTup1 || ds.all isOth) && ds.all (fun d => decide (d.depth ≤ 64)) && decide (ds.length ≤ lim)
def fSorted : Nat → D → Option (Nat × D) := fun k d => match d with
  | .list ds => if k ≤ 1 ∧ sortOk ds = true then some (1, .list (sortD ds)) else none
  | _ => none
theorem sorted_to : ∀ {ps : List (V × D)} {us : List Value}, PySem.W.EachIs (fun u (p : V × D) => RelV p.1 u) us ps → Vals (ps.map (·.1)) us
  | [], _, .nil => .nil
  | _ :: _, _, .cons r t => .cons r (sorted_to t)
theorem to_sorted : ∀ {vs : List V} {ds : List D} {us : List Value}, Vals vs us → vs.length = ds.length → PySem.W.EachIs (fun u (p : V × D) => RelV p.1 u) us (vs.zip ds)
  | [], [], _, .nil, _ => .nil
  | [], _ :: _, _, _, h => by simp at h
  | _ :: _, [], _, _, h => by simp at h
  | v :: vs, d :: ds, _, .cons r t, h => .cons r (to_sorted t (by simpa using h))
theorem reads_sorted {pins : List (Addr × Obj)} {σ : St} {H : Hp} {s : Shared} (I : L2.Inv X pins σ H s) : ∀ {vs : List V} {ds : List D} {us : List Value}, DpAll X.K H vs ds → Vals vs us → PySem.W.EachIs (fun u (p : V × D) => ∃ as, PySem.Reads s.heap u p.2 as) us (vs.zip ds)
  | [], [], _, .nil, .nil => .nil
  | v :: vs, d :: ds, _, .cons h t, .cons r rs => .cons (Dp.reads I d v _ h r) (reads_sorted I t rs)
theorem rpA_pairs {F : Hp} : ∀ {ps : List (V × D)}, (∀ p ∈ ps, Rp K mg F p.1 p.2) → RpA K mg F (ps.map (·.1)) (ps.map (·.2))
  | [], _ => .nil
  | p :: ps, h => .cons (h p List.mem_cons_self) (rpA_pairs fun q hq => h q (List.mem_cons_of_mem _ hq))
theorem rpA_zip {F : Hp} : ∀ {vs : List V} {ds : List D}, RpA K mg F vs ds → ∀ p ∈ vs.zip ds, Rp K mg F p.1 p.2
  | [], [], .nil, p, hp => by simp at hp
  | v :: vs, d :: ds, .cons h t, p, hp => by
    rw [List.zip_cons_cons] at hp
    rcases List.mem_cons.mp hp with e | hp
    · subst e; exact h
    · exact rpA_zip t p hp
def rSortD (K : PySem.W.Frag) (mg : Str → Option Value) : List V → Hp → VK → Prop := fun xs H Q => ∃ a vs ds F, xs = [.ref a] ∧ Sub F H ∧ SqL K H a vs ∧ RpA K mg F vs ds ∧ sortOk ds = true ∧ ∀ p vs', H p = none → RpA K mg F vs' (sortD ds) → Q (.ref p) (upd H p (.lst vs'))
theorem call_sortedD (hu : X.A.units + 100 < cLine) : CallR X (.builtin "sorted") (rSortD X.K X.mg) := by
  intro pins s σ H xs us Q I r h
  obtain ⟨a, vs, ds, F, rfl, fh, sq, ra, ok, q⟩ := h
  obtain ⟨u, rfl, ru⟩ := Vals.one r
  cases ru
  obtain ⟨its, rv, pl, hz⟩ := I.list sq
  unfold sortOk at ok
  simp only [Bool.and_eq_true, Bool.or_eq_true, List.all_eq_true, decide_eq_true_eq] at ok
  obtain ⟨⟨⟨⟨okp, oka⟩, oks⟩, okd⟩, okl⟩ := ok
  have hl := ra.length
  have e2 : (vs.zip ds).map Prod.snd = ds := List.map_snd_zip (by omega)
  have hal : PySem.W.AllAlike ((vs.zip ds).map Prod.snd) := by rw [e2]; exact fun d hd d' hd' => oka d hd d' hd'
  have hk : PySem.W.Sortable ((vs.zip ds).map Prod.snd) := by
    rw [e2]
    rcases oks with h | h
    · left
      intro d hd
      have := h d hd
      cases d <;> first | (unfold isTup1 at this; cases this; done) | skip
      rename_i xs
      cases xs with
      | nil => cases this
      | cons x xs => exact ⟨x, xs, rfl⟩
    · right
      intro d hd
      have := h d hd
      exact ⟨fun e => (by rw [e] at this; cases this), fun xs e => (by rw [e] at this; cases this)⟩
  have hlz : (vs.zip ds).length ≤ sizeLine := by rw [List.length_zip, hl, Nat.min_self]; exact lim_le okl
  refine PySem.W.sorted_data (bs := vs.zip ds) (enc := Prod.snd) pl.isList (to_sorted rv hl) (reads_sorted I ((ra.sub fh).dp okp) rv) hal hk hlz (fun b hb => ?_) fun out ho er => ?_
  · have : b.2 ∈ ds := by rw [← e2]; exact List.mem_map_of_mem hb
    have := okd _ this
    omega
  · obtain ⟨c, hc⟩ := PyProof.Rows.sortedAll_at s.heap its out.toArray
    have hn : H (s.heap.objs.size + 1) = none := I.hok.fresh (Nat.le_succ _)
    have so := sorted_to er
    have em : ((vs.zip ds).mergeSort (PySem.W.dataLe false Prod.snd)).map Prod.snd = sortD ds := by
      have := PySem.W.sort_maps (r := PySem.W.dataLe false (Prod.snd : V × D → D)) (s := PySem.W.dataLe false (id : D → D)) Prod.snd (l := vs.zip ds) fun _ _ _ _ => rfl
      rw [this, e2]; rfl
    have rp' : RpA X.K X.mg F (((vs.zip ds).mergeSort (PySem.W.dataLe false Prod.snd)).map Prod.fst) (sortD ds) := by
      rw [← em]
      exact rpA_pairs fun p hp => rpA_zip ra p ((List.mergeSort_perm _ _).mem_iff.mp hp)
    have hlen : (((vs.zip ds).mergeSort (PySem.W.dataLe false Prod.snd)).map Prod.fst).length ≤ sizeLine := by rw [List.length_map, List.length_mergeSort]; exact hlz
    exact ⟨.ref (s.heap.objs.size + 1), upd H (s.heap.objs.size + 1) (.lst (((vs.zip ds).mergeSort (PySem.W.dataLe false Prod.snd)).map Prod.fst)),
      I.laid (a := s.heap.objs.size + 1) (o := .lst (((vs.zip ds).mergeSort (PySem.W.dataLe false Prod.snd)).map Prod.fst)) (t' := s.toks) (fun b o e => PyProof.Rows.sortedAll_old e) (Nat.le_succ _) ⟨hlen, out, c, so, hc⟩, rfl, q _ _ hn rp'⟩
theorem cs_sorted : CallS1 K mg (rSortD K mg) fSorted := fun F G H x ka da ca k d Q fg gh o e n => by
  unfold fSorted at e
  split at e
  · split at e
    · rename_i hk
      cases e
      obtain ⟨a, vs, rfl, h, ra⟩ := o.list1 (fg.trans gh) hk.1
      exact ⟨a, vs, _, F, rfl, fg.trans gh, SqL.of h, ra, hk.2, fun p vs' hp r' => n.lst fg gh r' hp⟩
    · cases e
  · cases e
end
end Lk

set_option Elab.async false
set_option linter.all false
set_option maxRecDepth 100000
/-! LkM: instances, isinstance, chains, pairs of targets, lists of lists. -/
namespace Lk
open PySem L2 PySem.Spec

section
variable {X : Cx} {K : PySem.W.Frag} {mg : Str → Option Value} {μ : Bool} {F G H : Hp}
/-! ### attributes -/
/-- the attribute of an instance of class c -/
def attrOf (c f : Str) (d : D) : Option D := match d with
  | .dict ((.str ck, .str c') :: kvs) => if ck = clsKey ∧ c' = c then look kvs else none
  | _ => none
where look : List (D × D) → Option D
  | [] => none
  | (.str g, x) :: r => if g = f then some x else look r
  | _ :: _ => none
def fAttr (c f : Str) : Nat → D → Option (Nat × D) := fun _ d => match attrOf c f d with
  | some x => some (0, x)
  | none => none
theorem look_rp {F : Hp} {f : Str} : ∀ {fs : List (Str × V)} {kvs : List (D × D)} {d : D}, RpF K mg F fs kvs → attrOf.look f kvs = some d → ∃ v, fs.lookup f = some v ∧ Rp K mg F v d
  | [], _, _, .nil, e => by cases e
  | (g, v) :: fs, _, d, .cons r t, e => by
    unfold attrOf.look at e
    split at e
    · rename_i hg
      cases e
      exact ⟨v, by rw [List.lookup_cons, ← hg]; simp, r⟩
    · rename_i hg
      obtain ⟨w, e1, r1⟩ := look_rp t e
      refine ⟨w, ?_, r1⟩
      rw [List.lookup_cons]
      have : (f == g) = false := beq_eq_false_iff_ne.mpr fun e => hg e.symm
      rw [this]; exact e1
theorem Ow.inst {k : Nat} {v : V} {c : Str} {kvs : List (D × D)} {cs : List Addr} (s : Sub F H) (o : Ow K mg F H k v (.dict ((.str clsKey, .str c) :: kvs)) cs) : ∃ a C dx fs, v = .ref a ∧ H a = some (.ins C dx fs) ∧ mg c = some (.ref C) ∧ RpF K mg F fs kvs := by
  cases k with
  | zero =>
    obtain ⟨_, r⟩ := o
    cases r with
    | ins h e r => exact ⟨_, _, _, _, rfl, s _ _ h, e, r⟩
  | succ k =>
    rcases o with ⟨_, _, _, _, _, h, _⟩ | ⟨a, C, dx, fs, c', kvs', e1, e2, e3, e4, r, e5⟩
    · cases h
    · cases e2
      exact ⟨a, C, dx, fs, e1, e3, e4, r⟩
theorem de_attr {e : Expr} {m : M R} {c f : Str} {C : Addr} {pos : Pos} (he : DE X μ e m) (hC : X.mg c = some (.ref C)) (cl : Cls X.K C) (na : NoAttr X.K C f) (hb : attributeBase e f X.env (eval e X.env) = eval e X.env := by rfl) : DE X μ (.Attribute e f pos) (mUn (fAttr c f) m) :=
  pe_imp (pe_fld he hb) fun σ H Q ⟨F, G, ρ, cs, r, ρ', S, e, q⟩ => by
    unfold mUn at e
    split at e
    · rename_i ra ρ1 em
      split at e
      · rename_i k d ef
        cases e
        unfold fAttr at ef
        split at ef
        · rename_i x ex
          cases ef
          refine ⟨F, G, ρ, cs, _, _, S, em, fun F1 G1 H1 cs1 v W mo S1 ⟨c1, o, _⟩ => ?_⟩
          unfold attrOf at ex
          split at ex
          · rename_i ck c' kvs hd
            split at ex
            · rename_i hc
              obtain ⟨hck, hcc⟩ := hc
              subst hck hcc
              rw [hd] at o
              obtain ⟨a, C', dx, fs, rfl, h, eC, rf⟩ := o.inst (S1.fg.trans S1.gh)
              rw [hC] at eC
              cases eC
              obtain ⟨w, el, rw⟩ := look_rp rf ex
              exact ⟨a, C, dx, fs, w, rfl, h, cl, na, el, q F1 G1 H1 cs1 w W mo S1 ⟨[], ow0 rw, fun _ => ⟨S1.nd, fun a h => absurd h (by simp)⟩⟩⟩
            · cases ex
          · cases ex
        · cases ef
      · cases e
    · cases e
/-- putF on data -/
def putD (f : Str) (d : D) : List (D × D) → List (D × D)
  | [] => [(.str f, d)]
  | (.str g, x) :: r => if g = f then (.str g, d) :: r else (.str g, x) :: putD f d r
  | p :: r => p :: putD f d r
theorem putF_rp {F : Hp} {f : Str} {v : V} {d : D} (r : Rp K mg F v d) : ∀ {fs : List (Str × V)} {kvs : List (D × D)}, RpF K mg F fs kvs → RpF K mg F (putF f v fs) (putD f d kvs)
  | _, _, .nil => .cons r .nil
  | (g, x) :: fs, _, .cons h t => by
    unfold putF putD
    by_cases e : g = f
    · rw [if_pos e, if_pos e]
      exact .cons r t
    · rw [if_neg e, if_neg e]
      exact .cons h (putF_rp r t)
/-- self.f = e: the slot holds an instance that is owned -/
def mAttrSet (i : Nat) (c f : Str) (m : M R) : M Fl := fun ρ => match m ρ with
  | some (r, ρ1) => if (r.fr || r.k == 0) = true then match ρ1[i]? with
      | some (some ⟨k + 1, .dict ((.str ck, .str c') :: kvs)⟩) => if ck = clsKey ∧ c' = c ∧ kvs.length < 900 then some (.nx, ρ1.set i (some ⟨k + 1, .dict ((.str ck, .str c') :: putD f r.d kvs)⟩)) else none
      | _ => none
    else none
  | none => none
theorem RpF.length {F : Hp} : ∀ {fs : List (Str × V)} {kvs : List (D × D)}, RpF K mg F fs kvs → fs.length = kvs.length
  | _, _, .nil => rfl
  | _, _, .cons _ t => by rw [List.length_cons, List.length_cons, RpF.length t]
theorem ds_attr {pr : List Nat} {i : Nat} {x : Str} {p apos pos : Pos} {e : Expr} {m : M R} {c f : Str} {C : Addr} (hN : X.N[i]? = some x) (hv : Vis X.env.scope x) (he : DE X μ e m) (hC : X.mg c = some (.ref C)) (cl : Cls X.K C) (na : NoAttr X.K C f) (hd : (x == ("__debug__" : Str)) = false := by decide) (hcd : (x == ("__classdict__" : Str)) = false := by decide)
    (hs : swapsWith e (some (.Attribute (.Name x p) f apos)) pos.line X.env = pure false := by rfl) : DS X pr (.Assign [.Attribute (.Name x p) f apos] e pos) (mAttrSet i c f m) :=
  ps_imp (ps_fld (pe_var hN hv hd hcd) he hs) fun D σ H ⟨F, G, ρ, cs, fl, ρ', S, e, q⟩ => by
    unfold mAttrSet at e
    split at e
    · rename_i r ρ1 em
      split at e
      · rename_i hfr
        split at e
        · rename_i k ck c' kvs hb
          split at e
          · rename_i hc
            obtain ⟨h1, h2, h3⟩ := hc
            subst h1 h2
            cases e
            refine ⟨F, G, ρ, cs, _, _, S, em, fun F1 G1 H1 cs1 v W mo S1 sv => ?_⟩
            obtain ⟨F2, G2, S2, W2, rp⟩ := sv.lay S1 hfr
            obtain ⟨x0, c0, cs2, ev, ow, r1, pp⟩ := S2.rs.out hb
            have ow : Ow X.K X.mg F2 H1 (k + 1) x0 (.dict ((.str clsKey, .str c') :: kvs)) c0 := ow
            rcases ow with ⟨_, _, _, _, _, h, _⟩ | ⟨a, C', dx, fs, c'', kvs', e1, e2, e3, e4, rf, e5⟩
            · cases h
            cases e2
            subst e1 e5
            rw [hC] at e4
            cases e4
            refine ⟨.ref a, ev, a, C, dx, fs, rfl, e3, cl, na, by rw [rf.length]; omega, ?_⟩
            have nd : ([a] ++ cs2).Nodup := pp.nodup_iff.mp S2.nd
            have an : a ∉ cs2 := (List.nodup_cons.mp nd).1
            have ga : G2 a = none := S2.off a (pp.mem_iff.mpr List.mem_cons_self)
            have hi : i < ρ1.length := (List.getElem?_eq_some_iff.mp hb).1
            have r2 := r1.keep (H' := upd H1 a (.ins C dx (putF f v fs))) (Sub.refl _) fun b hb => upd_ne fun e => an (e ▸ hb)
            obtain ⟨cs3, r3, p3⟩ := r2.into (b := ⟨k + 1, .dict ((.str clsKey, .str c') :: putD f r.d kvs)⟩) (i := i) (c := [a]) (by rw [List.getElem?_set_self hi]) ev (.inr ⟨a, C, dx, _, c', _, rfl, rfl, upd_same, hC, putF_rp rp rf, rfl⟩)
            rw [List.set_set] at r3
            refine q F2 G2 _ σ cs3 (W.trans W2) (fun _ _ => rfl) ⟨S2.fg, fun b o e => ?_, r3, p3.nodup_iff.mpr nd, fun b hb => ?_⟩
            · rw [upd_ne fun e' => by subst e'; rw [ga] at e; cases e]
              exact S2.gh b o e
            · exact S2.off b (pp.mem_iff.mpr (p3.mem_iff.mp hb))
          · cases e
        · cases e
      · cases e
    · cases e

/-! ### C(..) -/
/-- the mirror of C(..), g the mirror of __init__; what is made is laid down -/
def mMake (n : Nat) (c : Str) (g : Fn) (ms : M (List D)) : M R := fun ρ => match ms ρ with
  | some (ds, ρ1) => if ds.length + 1 = n then match g (⟨1, .dict [(.str clsKey, .str c)]⟩ :: frz0 ds) with
      | some (⟨_, 0, .none⟩, some ⟨_ + 1, d⟩ :: _) => some (⟨false, 0, d⟩, ρ1)
      | _ => none
    else none
  | none => none
theorem under_guards {A : Around} {C : Addr} {us : List Value} {kw : List (Str × Value)} (h : A.guards = some []) : (A.under (.builtin "type.__call__" ⟨.ref C :: us, kw⟩)).guards = some [] := by
  first
    | exact h
    | simp [Around.under, Code.guards, Code.isGuard, guardIds, pushGuards, h]
end
section
variable {X : Cx} {μ : Bool} {k j : Nat} {x qual : Str} {st : Stmt} {ps : List Str} {g : Fn} {e : Expr} {es : List Expr} {ms : M (List D)} {p pos : Pos}
/-- what is known of a class of the program -/
structure ClsX (P : Program) (w : World) (K : PySem.W.Frag) (mg : Str → Option Value) (base : Heap) (j : Nat) (c qual : Str) (st : Stmt) (ps : List Str) (g : Fn) : Prop where
  ex : ∃ (C f : Addr) (fd : FuncData), mg c = some (.ref C) ∧ Mk K C f ∧ FnG P w K mg base j f fd ps g ∧ Fun K "__init__" qual st f fd
theorem de_make (Fx : ClsX X.prog X.w X.K X.mg X.base j x qual st ps g) (hjk : j + 1 ≤ k) (room : Room k X.A) (guards : X.A.guards = some []) (hb : BindP "__init__" qual st ps) (ha : DF X μ (e :: es) ms) (hg : Gl X x := by rfl)
    (hdb : (x == ("__debug__" : Str)) = false := by decide) (he : starEach (e :: es) X.env = (false, eval e X.env) :: starEach es X.env := by rfl) (hpl : (backTo pos (starEach es X.env)).any (·.1) = false := by rfl) : DE X μ (.Call (.Name x p) (e :: es) [] pos) (mMake ps.length x g ms) := by
  obtain ⟨C, f, fd, hm, mk, Fg, Fd⟩ := Fx.ex
  refine ⟨fun pins s σ H Q I h => ?_⟩
  obtain ⟨F, G, ρ, cs, rr, ρ', S, e2, q⟩ := h
  refine wpAny_Call_Name_kw (ld_glob I hg hm ?_ hdb)
  unfold mMake at e2
  split at e2
  · rename_i ds ρ1 em
    split at e2
    · rename_i hlen
      split at e2
      · rename_i fr0 ki d outs eg
        cases e2
        refine PySem.W.callWith_K (h₀ := X.base) I.ok.mod.kin mk.kp (thn (ha.run pos pins s σ H (fun vs H1 => ∃ F1 G1 cs1, Fw F G F1 G1 ∧ (μ = true → Sub H H1) ∧ SR X.K X.mg F1 G1 H1 ρ' σ cs1 ∧ RpA X.K X.mg F1 vs ds) I ⟨F, G, ρ, cs, _, _, S, em, fun F1 G1 H1 cs1 vs W mo S1 ra => ⟨F1, G1, cs1, W, mo, S1, ra⟩⟩) fun us s1 ⟨vs, H1, I1, rv, F1, G1, cs1, W, mo, S1, ra⟩ => ⟨I1.kIn, ?_⟩) he hpl
        -- the new instance
        have I2 := L2.Inv.made (C := C) I1
        generalize hx : s1.heap.objs.size + 1 = xa at I2
        generalize hdx : s1.heap.objs.size = da at I2
        have nda : H1 da = none := I1.hok.fresh (Nat.le_of_eq hdx)
        have nxa : H1 xa = none := I1.hok.fresh (by rw [← hx]; exact Nat.le_succ _)
        have ne : da ≠ xa := by rw [← hx, ← hdx]; exact Nat.ne_of_lt (Nat.lt_succ_self _)
        have nxa' : (upd H1 da (.own xa)) xa = none := by rw [upd_ne (Ne.symm ne)]; exact nxa
        -- frames: all that stood, and the dict
        have g1 : Gr F1 G1 H1 F1 G1 (upd H1 da (.own xa)) := Gr.cell S1.fg S1.gh nda
        have sH : Sub H1 (upd (upd H1 da (.own xa)) xa (.ins C da [])) := (Sub.new nda).trans (Sub.new nxa')
        have S2 : SR X.K X.mg F1 (upd H1 da (.own xa)) (upd (upd H1 da (.own xa)) xa (.ins C da [])) ((⟨1, .dict [(.str clsKey, .str x)]⟩ :: frz0 ds : List B).map some) ((V.ref xa :: vs).map some) ([xa] ++ []) := by
          refine ⟨(S1.fg.trans S1.gh).trans (Sub.new nda), Sub.new nxa', RS.yes (b := ⟨1, .dict [(.str clsKey, .str x)]⟩) (.inr ⟨xa, C, da, [], x, [], rfl, rfl, upd_same, hm, .nil, rfl⟩) ra.rs, by simp, fun a ha => ?_⟩
          obtain rfl : a = xa := by simpa using ha
          exact nxa'
        have vl : (V.ref xa :: vs).length = ps.length := by rw [List.length_cons, ra.length]; exact hlen
        have rv2 : Vals (V.ref xa :: vs) (Value.ref xa :: us) := .cons rfl rv
        have hl2 : (Value.ref xa :: us).length = ps.length := by rw [← rv2.length]; exact vl
        refine wpAny_call (make_map (f := f) I1.kIn mk.makes mk.init (beq_iff_eq.mp mk.fn) ?_)
        rw [hx, hdx]
        refine codeAny_mono (Fg.run _ X.stack _ _ ⟨Value.ref xa :: us, []⟩ (Value.ref xa :: us) (V.ref xa :: vs) F1 _ _ _ _ _ ((room.mono hjk).make C us []) (under_guards guards) (I2.env0.make C us []) (FnX.bind (P := X.prog) (w := X.w) (base := X.base) hb Fd hl2 _) rv2 vl S2 eg) fun res s' hq => ?_
        cases res with
        | error er => exact hq.elim
        | ok fl =>
          cases fl with
          | ret u =>
            obtain ⟨v, H', I3, rv3, F3, G3, cs3, W3, S3, sv, hr⟩ := I2.after hq
            obtain ⟨c3, o3, _⟩ := sv
            obtain ⟨_, rp3⟩ := o3
            cases rp3
            refine ⟨rv3, ?_⟩
            -- the instance is laid down
            have r3 := S3.rs
            generalize hcs : cs3 = cc at r3 S3
            cases r3 with
            | @yes _ _ c4 cs4 _ _ ow4 r4 =>
              have nd4 := S3.nd
              have gH : Sub H1 G3 := (Sub.new nda).trans W3.g
              have hs : ∀ a ∈ cs1, H1 a ≠ none := fun a ha => by obtain ⟨o, e⟩ := S1.rs.there a ha; rw [e]; simp
              have c4n : ∀ a ∈ c4, G3 a = none := fun a ha => S3.off a (List.mem_append_left _ ha)
              have rp4 := ow4.frozen fun a ha => S3.fg.out (c4n a ha)
              have g3N : ∀ a ∈ cs1, G3 a ≠ none := fun a ha => by
                cases e : H1 a with
                | none => exact absurd e (hs a ha)
                | some o => rw [gH a o e]; simp
              have f3N : ∀ a ∈ cs1, F3 a = none := fun a ha => by
                cases e : F3 a with
                | none => rfl
                | some o =>
                  rcases W3.new a (by rw [e]; simp) with h | h
                  · exact absurd (S1.fg.out (S1.off a ha)) h
                  · have := Sub.new (o := .own xa) nda
                    cases e2 : H1 a with
                    | none => exact absurd e2 (hs a ha)
                    | some o2 => rw [this a o2 e2] at h; cases h
              have nin : ∀ a ∈ cs1, a ∉ c4 := fun a ha hb => g3N a ha (c4n a hb)
              have sub3 : Sub H1 H' := gH.trans S3.gh
              refine ⟨V.ref xa, H', ?_, rfl, ?_⟩
              · exact I3
              · refine q (frz c4 F3 H') (fun a => if a ∈ cs1 then none else frz c4 G3 H' a) H' cs1 (.ref xa) (W.trans ⟨W3.f.trans (frz_sub fun a ha => S3.fg.out (c4n a ha)), fun a o e => ?_, fun a h => ?_⟩) (fun h => (mo h).trans sub3) ⟨fun a o e => ?_, fun a o e => ?_, S1.rs.keep (W3.f.trans (frz_sub fun a ha => S3.fg.out (c4n a ha))) fun a ha => ?_, S1.nd, fun a ha => if_pos ha⟩ ⟨[], ow0 rp4, fun h => Bool.noConfusion h⟩
                · have n1 : a ∉ cs1 := fun ha => by rw [S1.off a ha] at e; cases e
                  show (if a ∈ cs1 then none else frz c4 G3 H' a) = some o
                  rw [if_neg n1]
                  have e2 := gH a o (S1.gh a o e)
                  rw [frz_out fun hc => by rw [c4n a hc] at e2; cases e2]
                  exact e2
                · by_cases hc : a ∈ c4
                  · right
                    cases e : G1 a with
                    | none => rfl
                    | some o =>
                      have := gH a o (S1.gh a o e)
                      rw [c4n a hc] at this; cases this
                  · rw [frz_out hc] at h
                    rcases W3.new a h with h | h
                    · exact .inl h
                    · right
                      cases e : G1 a with
                      | none => rfl
                      | some o =>
                        have := (Sub.new (o := .own xa) nda) a o (S1.gh a o e)
                        rw [this] at h; cases h
                · have n1 : a ∉ cs1 := fun ha => by
                    rw [frz_out (nin a ha), f3N a ha] at e; cases e
                  show (if a ∈ cs1 then none else frz c4 G3 H' a) = some o
                  rw [if_neg n1]
                  exact frz_mono S3.fg a o e
                · by_cases ha : a ∈ cs1
                  · rw [if_pos ha] at e; cases e
                  · rw [if_neg ha] at e; exact frz_top S3.gh a o e
                · cases e : H1 a with
                  | none => exact absurd e (hs a ha)
                  | some o => exact sub3 a o e
          | next => exact hq.elim
          | brk => exact hq.elim
          | cont => exact hq.elim
      · cases e2
    · cases e2
  · cases e2
end
end Lk

set_option Elab.async false
set_option linter.all false
set_option maxRecDepth 100000
/-! LkN: isinstance, chains, pairs of targets, lists of lists, len(set(..)), methods, properties. -/
namespace Lk
open PySem L2 PySem.Spec

/-! ### isinstance -/
def tyN : D → Option String
  | .none => some "NoneType"
  | .bool _ => some "bool"
  | .int _ => some "int"
  | .str _ => some "str"
  | .list _ => some "list"
  | .tuple _ => some "tuple"
  | .dict [(.none, .list _)] => some "list"
  | .dict _ => none
def isBT (t T : String) : Bool := decide (t = T) || (decide (t = "bool") && decide (T = "int"))
def tyNames : List String := ["NoneType", "bool", "int", "str", "list", "tuple"]
theorem kitB_is : (tyNames.all fun t => tyNames.all fun T => decide (T = "NoneType") || decide (kitB t T = some (isBT t T))) = true := by decide +kernel
theorem kitB_of {t T : String} (h : t ∈ tyNames) (hT : T ∈ tyNames) (hn : T ≠ "NoneType") : kitB t T = some (isBT t T) := by
  have h1 := List.all_eq_true.mp (List.all_eq_true.mp kitB_is t h) T hT
  rw [Bool.or_eq_true] at h1
  rcases h1 with h1 | h1
  · exact absurd (of_decide_eq_true h1) hn
  · exact of_decide_eq_true h1
section
variable {X : Cx} {K : PySem.W.Frag} {mg : Str → Option Value} {μ : Bool} {F G H : Hp}
theorem tyN_mem {d : D} {t : String} (h : tyN d = some t) : t ∈ tyNames := by
  unfold tyN at h
  split at h <;> first | (cases h; decide) | cases h
theorem rp_ty {v : V} {d : D} {t : String} (r : Rp K mg H v d) (h : tyN d = some t) : TyX K H v (.type t) := by
  cases r with
  | non => cases h; exact .base .non
  | bl b => cases h; exact .base (.bl b)
  | int i => cases h; exact .base (.int i)
  | str x => cases h; exact .base (.str x)
  | lst e _ => cases h; exact .base (.lst e)
  | tup e _ =>
    cases h
    rcases e with (e | ⟨o, e⟩) | ⟨o, its, n, e, c, _⟩
    · exact .base (.tup e)
    · exact .fTuple e
    · exact .kTuple e c
  | ins _ _ _ =>
    have h' : (none : Option String) = some t := h
    cases h'
  | scr e =>
    have h' : some "list" = some t := h
    cases h'
    rcases e with (e | ⟨o, e⟩) | ⟨o, its, n, e, c, _⟩
    · exact .base (.lst e)
    · exact .base (.frz e)
    · exact .kList e c
def fIsi (Ts : List String) : Nat → D → Option (Nat × D) := fun _ d => match tyN d with
  | some t => some (0, .bool (Ts.any fun T => isBT t T))
  | none => none
variable {e : Expr} {m : M R} {p p2 pos tpos : Pos}
theorem de_isi {T : String} {x : Str} (hm : X.mg "isinstance" = none) (hm2 : X.mg x = none) (hv : bootBuiltins x = some (.type T)) (hT : (tyNames.contains T && decide (T ≠ "NoneType")) = true) (he : DE X μ e m) (hg : Gl X "isinstance" := by rfl) (hg2 : Gl X x := by rfl)
    (hn : x ≠ "__name__" := by decide) (hd : (x == ("__debug__" : Str)) = false := by decide)
    (hst : starEach [e, .Name x p2] X.env = (false, eval e X.env) :: starEach [.Name x p2] X.env := by rfl) (hst2 : starEach [.Name x p2] X.env = (false, eval (.Name x p2) X.env) :: starEach [] X.env := by rfl) (hpl : (backTo pos (starEach [.Name x p2] X.env)).any (·.1) = false := by rfl) :
    DE X μ (.Call (.Name "isinstance" p) [e, .Name x p2] [] pos) (mUn (fIsi [T]) m) :=
  pe_imp (pe_callB call_isi hg hm (by decide +kernel) (pa_cons he (pa_cons (pe_bltn (v := .ty T) hg2 hm2 hv rfl hn hd) pa_nil hst2) hst) (by decide) (by decide) hst hpl) fun σ H Q ⟨F, G, ρ, cs, r, ρ', S, e, q⟩ => by
    unfold mUn at e
    split at e
    · rename_i ra ρ1 em
      split at e
      · rename_i k d ef
        cases e
        unfold fIsi at ef
        split at ef
        · rename_i t ht
          cases ef
          refine ⟨F, G, ρ, cs, _, _, S, em, fun F1 G1 H1 cs1 v W mo S1 ⟨c, o, _⟩ => ⟨v, .ty T, .type t, .type T, isBT t T, rfl, .ty T, rp_ty (o.rpH (S1.fg.trans S1.gh)) ht, ?_, ?_⟩⟩
          · simp only [Bool.and_eq_true, decide_eq_true_eq, List.contains_eq_mem] at hT
            exact kit_ty (kitB_of (tyN_mem ht) hT.1 hT.2)
          · have := q F1 G1 H1 cs1 (.bl (isBT t T)) W mo S1 ⟨[], by
              have : ([T].any fun T => isBT t T) = isBT t T := by simp
              rw [this]; exact ow0 (.bl _), fun _ => ⟨S1.nd, fun a h => absurd h (by simp)⟩⟩
            exact this
        · cases ef
      · cases e
    · cases e
/-- isinstance(e, (list, tuple)): two built-in classes -/
theorem de_isi2 {T U : String} {x y : Str} {pt py kk} (hm : X.mg "isinstance" = none) (hm2 : X.mg x = none) (hv : bootBuiltins x = some (.type T)) (hm3 : X.mg y = none) (hv3 : bootBuiltins y = some (.type U)) (hT : (tyNames.contains T && decide (T ≠ "NoneType")) = true) (hU : (tyNames.contains U && decide (U ≠ "NoneType")) = true) (he : DE X μ e m) (hg : Gl X "isinstance" := by rfl) (hg2 : Gl X x := by rfl) (hg3 : Gl X y := by rfl)
    (hn : x ≠ "__name__" := by decide) (hd : (x == ("__debug__" : Str)) = false := by decide) (hn3 : y ≠ "__name__" := by decide) (hd3 : (y == ("__debug__" : Str)) = false := by decide)
    (hst : starEach [e, .Tuple [.Name x p2, .Name y py] kk pt] X.env = (false, eval e X.env) :: starEach [.Tuple [.Name x p2, .Name y py] kk pt] X.env := by rfl) (hst2 : starEach [.Tuple [.Name x p2, .Name y py] kk pt] X.env = (false, eval (.Tuple [.Name x p2, .Name y py] kk pt) X.env) :: starEach [] X.env := by rfl)
    (hst3 : starEach [.Name x p2, .Name y py] X.env = (false, eval (.Name x p2) X.env) :: starEach [.Name y py] X.env := by rfl) (hst4 : starEach [.Name y py] X.env = (false, eval (.Name y py) X.env) :: starEach [] X.env := by rfl)
    (hpl : (backTo pos (starEach [.Tuple [.Name x p2, .Name y py] kk pt] X.env)).any (·.1) = false := by rfl) :
    DE X μ (.Call (.Name "isinstance" p) [e, .Tuple [.Name x p2, .Name y py] kk pt] [] pos) (mUn (fIsi [T, U]) m) :=
  pe_imp (pe_callB call_isiT hg hm (by decide +kernel) (pa_cons he (pa_cons (pe_tup (pa_cons (pe_bltn (v := .ty T) hg2 hm2 hv rfl hn hd) (pa_cons (pe_bltn (v := .ty U) hg3 hm3 hv3 rfl hn3 hd3) pa_nil hst4) hst3)) pa_nil hst2) hst) (by decide) (by decide) hst hpl) fun σ H Q ⟨F, G, ρ, cs, r, ρ', S, e, q⟩ => by
    unfold mUn at e
    split at e
    · rename_i ra ρ1 em
      split at e
      · rename_i k d ef
        cases e
        unfold fIsi at ef
        split at ef
        · rename_i t ht
          cases ef
          simp only [Bool.and_eq_true, decide_eq_true_eq, List.contains_eq_mem] at hT hU
          refine ⟨F, G, ρ, cs, _, _, S, em, fun F1 G1 H1 cs1 v W mo S1 ⟨c, o, _⟩ => ⟨by show 2 ≤ sizeLine; decide, fun tp htp => ?_⟩⟩
          have g := Gr.cell (o := .tup [.ty T, .ty U]) S1.fg S1.gh htp
          have S2 := S1.gr g
          refine ⟨v, tp, [.ty T, .ty U], .type t, [.type T, .type U], isBT t T || isBT t U, rfl, upd_same, .cons (.ty T) (.cons (.ty U) .nil), rp_ty ((o.rpH (S1.fg.trans S1.gh)).sub g.h) ht, ?_, ?_⟩
          · refine kitAny_cons (kit_ty (kitB_of (tyN_mem ht) hT.1 hT.2)) (fun h1 => kitAny_cons (kit_ty (kitB_of (tyN_mem ht) hU.1 hU.2)) (fun h2 => ?_) fun h2 => ?_) fun h1 => ?_
            · rw [h1, h2]; exact kitAny_nil
            · rw [h1, h2]; rfl
            · rw [h1]; rfl
          · refine q F1 G1 _ cs1 _ W (fun h => (mo h).trans g.h) S2 ⟨[], ?_, fun _ => ⟨S2.nd, fun a h => absurd h (by simp)⟩⟩
            have : ([T, U].any fun T => isBT t T) = (isBT t T || isBT t U) := by simp
            rw [this]; exact ow0 (.bl _)
        · cases ef
      · cases e
    · cases e
/-- isinstance(e, C), C a class of the program, e one of it -/
def fIsiC (c : Str) : Nat → D → Option (Nat × D) := fun _ d => match d with
  | .dict ((.str ck, .str c') :: _) => if ck = clsKey ∧ c' = c then some (0, .bool true) else none
  | _ => none
structure ClsI (K : PySem.W.Frag) (C : Addr) : Prop where
  cl : Cls K C
  ha : PySem.W.findIn K (.ref C) "__class__" = some (some (.builtin "object.__class__"))
  hn : PySem.W.specialIn K (.builtin "object.__class__") "__get__" = some (some (.builtin "getset_descriptor.__get__"))
  htk : PySem.W.takesIn K (.builtin "object.__class__") = some true
  hm : PySem.W.mroIn K C (.type "object") = some true
  self : PySem.W.kitOne K (.ref C) (.ref C) = some true
theorem de_isiC {x : Str} {C : Addr} (hm : X.mg "isinstance" = none) (hC : X.mg x = some (.ref C)) (cl : ClsI X.K C) (he : DE X μ e m) (hg : Gl X "isinstance" := by rfl) (hg2 : Gl X x := by rfl) (hd : (x == ("__debug__" : Str)) = false := by decide)
    (hst : starEach [e, .Name x p2] X.env = (false, eval e X.env) :: starEach [.Name x p2] X.env := by rfl) (hst2 : starEach [.Name x p2] X.env = (false, eval (.Name x p2) X.env) :: starEach [] X.env := by rfl) (hpl : (backTo pos (starEach [.Name x p2] X.env)).any (·.1) = false := by rfl) :
    DE X μ (.Call (.Name "isinstance" p) [e, .Name x p2] [] pos) (mUn (fIsiC x) m) :=
  pe_imp (pe_callB call_isi hg hm (by decide +kernel) (pa_cons he (pa_cons (pe_glob (v := .ref C) hg2 hC rfl hd) pa_nil hst2) hst) (by decide) (by decide) hst hpl) fun σ H Q ⟨F, G, ρ, cs, r, ρ', S, e, q⟩ => by
    unfold mUn at e
    split at e
    · rename_i ra ρ1 em
      split at e
      · rename_i k d ef
        cases e
        unfold fIsiC at ef
        split at ef
        · rename_i ck c' kvs hd'
          split at ef
          · rename_i hc
            obtain ⟨h1, h2⟩ := hc
            subst h1 h2
            cases ef
            refine ⟨F, G, ρ, cs, _, _, S, em, fun F1 G1 H1 cs1 v W mo S1 ⟨c, o, _⟩ => ?_⟩
            rw [hd'] at o
            obtain ⟨a, C', dx, fs, rfl, h, eC, rf⟩ := o.inst (S1.fg.trans S1.gh)
            rw [hC] at eC
            cases eC
            exact ⟨_, .ref C, .ref C, .ref C, true, rfl, .own C, .base (.ins h cl.cl cl.ha cl.hn cl.htk cl.hm), cl.self, q F1 G1 H1 cs1 (.bl true) W mo S1 ⟨[], ow0 (.bl _), fun _ => ⟨S1.nd, fun a h => absurd h (by simp)⟩⟩⟩
          · cases ef
        · cases ef
      · cases e
    · cases e

/-! ### a op b op' c -/
variable {a b c : Expr} {ma mb mc : M R}
/-- a, b, then c where the first answer is True (b and c change nothing that stood) -/
def mChain (f f' : Op2) (ma mb mc : M R) : M R := fun ρ => match ma ρ with
  | some (ra, ρ1) => match mb ρ1 with
    | some (rb, ρ2) => match f ra.k ra.d rb.k rb.d with
      | some (0, .bool true) => match mc ρ2 with
        | some (rc, ρ3) => match f' rb.k rb.d rc.k rc.d with
          | some (0, d) => some (⟨false, 0, d⟩, ρ3)
          | _ => none
        | none => none
      | some (0, .bool false) => some (⟨false, 0, .bool false⟩, ρ2)
      | _ => none
    | none => none
  | none => none
theorem New.zero {k : Nat} {d : D} {Q : VK} (n : New K mg F G H k d Q) : New K mg F G H k d Q := n
theorem tE_chain {r r' : R2} {f f' : Op2} (hs : OpS X.K X.mg r f) (hs' : OpS X.K X.mg r' f') {σ : St} {H : Hp} {Q : VK} (h : tE X.K X.mg μ (mChain f f' ma mb mc) σ H Q) : tChain r r' (tE X.K X.mg μ ma) (tE X.K X.mg true mb) (tE X.K X.mg true mc) σ H Q := by
  obtain ⟨F, G, ρ, cs, rr, ρ', S, e, q⟩ := h
  unfold mChain at e
  split at e
  · rename_i ra ρ1 ea
    split at e
    · rename_i rb ρ2 eb
      refine ⟨F, G, ρ, cs, _, _, S, ea, fun F1 G1 H1 cs1 x W1 mo1 S1 ⟨ca, oa, _⟩ => ⟨F1, G1, _, cs1, _, _, S1, eb, fun F2 G2 H2 cs2 y W2 mo2 S2 ⟨cb, ob, _⟩ => ?_⟩⟩
      split at e
      · rename_i ef
        split at e
        · rename_i rc ρ3 ec
          split at e
          · rename_i d ef'
            cases e
            refine hs F2 G2 H2 x y _ _ _ _ ca cb _ _ _ S2.fg S2.gh (oa.gr W2.f (mo2 rfl)) ob ef fun F3 G3 H3 v cc g o nd hn => ?_
            obtain ⟨rfl, rp⟩ := o
            cases rp
            refine ⟨true, rfl, ?_⟩
            rw [if_pos rfl]
            have S3 := S2.gr g
            have W3 := g.fw S2.fg S2.gh
            refine ⟨F3, G3, _, cs2, _, _, S3, ec, fun F4 G4 H4 cs4 z W4 mo4 S4 ⟨c4, oc, _⟩ => ?_⟩
            refine hs' F4 G4 H4 y z _ _ _ _ cb c4 _ _ _ S4.fg S4.gh ((ob.gr W3.f g.h).gr W4.f (mo4 rfl)) oc ef' fun F5 G5 H5 v5 c5 g5 o5 nd5 hn5 => ?_
            exact q F5 G5 H5 cs4 v5 (W1.trans (W2.trans (W3.trans (W4.trans (g5.fw S4.fg S4.gh))))) (fun h => (mo1 h).trans ((mo2 rfl).trans (g.h.trans ((mo4 rfl).trans g5.h)))) (S4.gr g5) ⟨c5, o5, fun h => Bool.noConfusion h⟩
          · cases e
        · cases e
      · rename_i ef
        cases e
        refine hs F2 G2 H2 x y _ _ _ _ ca cb _ _ _ S2.fg S2.gh (oa.gr W2.f (mo2 rfl)) ob ef fun F3 G3 H3 v cc g o nd hn => ?_
        obtain ⟨rfl, rp⟩ := o
        cases rp
        refine ⟨false, rfl, ?_⟩
        rw [if_neg (by decide)]
        exact q F3 G3 H3 cs2 _ (W1.trans (W2.trans (g.fw S2.fg S2.gh))) (fun h => (mo1 h).trans ((mo2 rfl).trans g.h)) (S2.gr g) ⟨[], ow0 (.bl _), fun h => Bool.noConfusion h⟩
      · cases e
    · cases e
  · cases e
theorem de_chain {op op' : CmpOp} {r r' : R2} {f f' : Op2} (ho : OpR X (compareOp op) r) (hs : OpS X.K X.mg r f) (ho' : OpR X (compareOp op') r') (hs' : OpS X.K X.mg r' f') (ha : DE X μ a ma) (hb : DE X true b mb) (hc : DE X true c mc)
    (hm : lastMarks [op, op'] [b, c] = false := by with_unfolding_all rfl) : DE X μ (.Compare a [op, op'] [b, c] pos) (mChain f f' ma mb mc) :=
  pe_imp (pe_chain ho ho' ha hb hc hm) fun _ _ _ h => tE_chain hs hs' h
theorem dt_chain {op op' : CmpOp} {r r' : R2} {f f' : Op2} (ho : OpR X (compareOp op) r) (hs : OpS X.K X.mg r f) (ho' : OpR X (compareOp op') r') (hs' : OpS X.K X.mg r' f') (ha : DE X μ a ma) (hb : DE X true b mb) (hc : DE X true c mc)
    (hm : lastMarks [op, op'] [b, c] = false := by with_unfolding_all rfl) : DT X μ (.Compare a [op, op'] [b, c] pos) (mB (mChain f f' ma mb mc)) := by
  refine pt_imp (pt_chain ho ho' ha hb hc hm) fun σ H Q h => ?_
  obtain ⟨F, G, ρ, cs, bb, ρ', S, e, q⟩ := h
  unfold mB at e
  split at e
  · rename_i fr b ρ1 em
    cases e
    refine tE_chain hs hs' ⟨F, G, ρ, cs, _, _, S, em, fun F' G' H' cs' v W mo S' ⟨c, o, _⟩ => ?_⟩
    obtain ⟨_, rp⟩ := o
    cases rp
    exact ⟨_, rfl, q F' G' H' cs' W mo S'⟩
  · cases e

/-! ### x, y = a, b -/
def mPar (i j : Nat) (ma mb : M R) : M Fl := fun ρ => match ma ρ with
  | some (ra, ρ1) => if (ra.fr || ra.k == 0) = true then match mb ρ1 with
      | some (rb, ρ2) => match stor i ra ρ2 with
        | some ρ3 => match stor j rb ρ3 with
          | some ρ4 => some (.nx, ρ4)
          | none => none
        | none => none
      | none => none
    else none
  | none => none
theorem tS_par {pr : List Nat} {i j : Nat} {m1 m2 : M R} {D : Ends} {σ : St} {H : Hp} (hij : i ≠ j) (ip : i ∉ pr) (jp : j ∉ pr) (h : tS K mg pr (mPar i j m1 m2) D σ H) :
    tCons (tE K mg μ m1) (tCons (tE K mg μ m2) tNil) σ H fun vs H2 => ∃ v w, vs = [v, w] ∧ ∀ H3, (∀ F G, Sub F G → Sub G H2 → Gr F G H2 F G H3) → D.nx ((σ.set i (some v)).set j (some w)) H3 := by
    obtain ⟨F, G, ρ, cs, fl, ρ', S, e, q⟩ := h
    unfold mPar at e
    split at e
    · rename_i ra ρ1 ea
      split at e
      · rename_i hfr
        split at e
        · rename_i rb ρ2 eb
          split at e
          · rename_i ρ3 e3
            split at e
            · rename_i ρ4 e4
              cases e
              refine ⟨F, G, ρ, cs, _, _, S, ea, fun F1 G1 H1 cs1 v W1 mo1 S1 sv => ?_⟩
              obtain ⟨c, ow, hf⟩ := sv
              -- the first one's cells are held meanwhile
              have cell : (c ++ cs1).Nodup ∧ ∀ a ∈ c, G1 a = none := by
                by_cases hk : ra.k = 0
                · rw [hk] at ow
                  obtain ⟨rfl, _⟩ := ow
                  exact ⟨S1.nd, fun a h => absurd h (by simp)⟩
                · have fr : ra.fr = true := by
                    cases e : ra.fr with
                    | true => rfl
                    | false => rw [e] at hfr; simp at hfr; exact absurd hfr hk
                  exact hf fr
              have there : ∀ a ∈ c, H1 a ≠ none := fun a ha => by obtain ⟨o, e⟩ := ow.cells a ha; rw [e]; simp
              have Sh := S1.hold cell.1 cell.2
              refine ⟨F1, _, ρ1, cs1, _, _, Sh, eb, fun F2 G2 H2 cs2 w W2 mo2 S2 sw => ⟨v, w, rfl, fun H3 hg => ?_⟩⟩
              obtain ⟨S3, W3, keep, dis, fN⟩ := S1.unhold cell.2 there W2 S2
              have ow2 : Ow K mg F2 H2 ra.k v ra.d c := ow.keep W3.f keep
              have ndc : (c ++ cs2).Nodup := List.nodup_append.mpr ⟨(List.nodup_append.mp cell.1).1, S3.nd, fun a ha b hb e => dis a ha (e ▸ hb)⟩
              -- the second one's cells are none of these
              obtain ⟨c2, ow3, hf2⟩ := sw
              obtain ⟨cs3, S4, sub4c⟩ := stor_okc (i := i) S3 ow2 (fun _ => ⟨ndc, fun a ha => if_pos ha⟩) e3
              have sv2 : (rb.fr || rb.k == 0) = true → SV K mg F2 (fun a => if a ∈ c then none else G2 a) H2 cs3 rb w := fun hr => by
                by_cases hk : rb.k = 0
                · have o := ow3
                  rw [hk] at o
                  obtain ⟨rfl, rp⟩ := o
                  exact ⟨[], by rw [hk]; exact ow0 rp, fun _ => ⟨S4.nd, fun a h => absurd h (by simp)⟩⟩
                · have fr : rb.fr = true := by
                    cases e : rb.fr with
                    | true => rfl
                    | false => rw [e] at hr; simp at hr; exact absurd hr hk
                  obtain ⟨nd2, off2⟩ := hf2 fr
                  obtain ⟨n1, n2, n3⟩ := List.nodup_append.mp nd2
                  have cc : ∀ a ∈ c2, a ∉ c := fun a ha hb => by
                    have e : G2 a ≠ none := by
                      cases e : H1 a with
                      | none => exact absurd e (there a hb)
                      | some o =>
                        rw [W2.g a o (by rw [frz_in hb]; exact e)]; simp
                    exact e (off2 a ha)
                  refine ⟨c2, ow3, fun _ => ⟨List.nodup_append.mpr ⟨n1, S4.nd, fun a ha b hb e => ?_⟩, fun a ha => ?_⟩⟩
                  · subst e
                    rcases sub4c a hb with h | h
                    · exact n3 a ha a h rfl
                    · exact cc a ha h
                  · by_cases hc : a ∈ c
                    · exact if_pos hc
                    · exact (if_neg hc).trans (off2 a ha)
              have hr : (rb.fr || rb.k == 0) = true := by
                unfold stor at e4
                split at e4
                · assumption
                · cases e4
              obtain ⟨cs5, S5, _⟩ := stor_ok (i := j) S4 (sv2 hr) e4
              exact q F2 _ H3 _ cs5 (W1.trans W3) (fun l hl => by rw [set_pr jp hl, set_pr ip hl]) (S5.gr (hg _ _ S5.fg S5.gh))
            · cases e
          · cases e
        · cases e
      · cases e
    · cases e
theorem ds_par {pr : List Nat} {i j : Nat} {x y : Str} {px py pt : Pos} {kt k2 pt2} {m1 m2 : M R} (hc : X.calm = true) (nd : X.N.Nodup) (hi : X.N[i]? = some x) (hj : X.N[j]? = some y) (hij : i ≠ j) (hx : X.env.scope.names.lookup x = some .local) (hy : X.env.scope.names.lookup y = some .local) (ip : i ∉ pr) (jp : j ∉ pr)
    (ha : DE X μ a m1) (hb : DE X μ b m2) (hst : starEach [a, b] X.env = (false, eval a X.env) :: starEach [b] X.env := by rfl) (hst2 : starEach [b] X.env = (false, eval b X.env) :: starEach [] X.env := by rfl)
    (hw : swappedStores [.Tuple [.Name x px, .Name y py] kt pt] (.Tuple [a, b] k2 pt2) X.env = pure (some [x, y]) := by rfl) (hs : swapsWithSole [.Tuple [.Name x px, .Name y py] kt pt] (.Tuple [a, b] k2 pt2) pos.line X.env = pure false := by rfl) :
    DS X pr (.Assign [.Tuple [.Name x px, .Name y py] kt pt] (.Tuple [a, b] k2 pt2) pos) (mPar i j m1 m2) :=
  ps_imp (ps_par hc nd hi hj hij hx hy (pa_cons ha (pa_cons hb pa_nil hst2) hst) hw hs) fun D σ H h => by
    obtain ⟨F, G, ρ, cs, fl, ρ', S, e, q⟩ := tS_par (μ := μ) hij ip jp h
    refine ⟨F, G, ρ, cs, fl, ρ', S, e, fun F1 G1 H1 cs1 v W mo S1 sv => ?_⟩
    obtain ⟨F2, G2, ρ2, cs2, fl2, ρ3, S2, e2, q2⟩ := q F1 G1 H1 cs1 v W mo S1 sv
    refine ⟨F2, G2, ρ2, cs2, fl2, ρ3, S2, e2, fun F3 G3 H3 cs3 w W3 mo3 S3 sw => ?_⟩
    obtain ⟨v', w', ev, k⟩ := q2 F3 G3 H3 cs3 w W3 mo3 S3 sw
    exact ⟨v', w', ev, k H3 fun F G fg gh => Gr.refl fg gh⟩
/-- one of both a cell, or both sides written otherwise: the pair is made and taken apart -/
theorem ds_parT {pr : List Nat} {i j : Nat} {x y : Str} {px py pt : Pos} {kt k2 pt2} {m1 m2 : M R} (hc : X.calm = true) (nd : X.N.Nodup) (hi : X.N[i]? = some x) (hj : X.N[j]? = some y) (hij : i ≠ j) (hx : Loc X.env.scope x) (hy : Loc X.env.scope y) (ip : i ∉ pr) (jp : j ∉ pr)
    (ha : DE X μ a m1) (hb : DE X μ b m2) (hst : starEach [a, b] X.env = (false, eval a X.env) :: starEach [b] X.env := by rfl) (hst2 : starEach [b] X.env = (false, eval b X.env) :: starEach [] X.env := by rfl)
    (hw : swappedStores [.Tuple [.Name x px, .Name y py] kt pt] (.Tuple [a, b] k2 pt2) X.env = pure none := by rfl) (hs : swapsWithSole [.Tuple [.Name x px, .Name y py] kt pt] (.Tuple [a, b] k2 pt2) pos.line X.env = pure false := by rfl)
    (h1 : (assignEach [.Tuple [.Name x px, .Name y py] kt pt] X.env).map (·.2) = [assign (.Tuple [.Name x px, .Name y py] kt pt) X.env] := by rfl)
    (hn : (assignEach [.Name x px, .Name y py] X.env).length = 2 := by rfl) (hst3 : (assignEach [.Name x px, .Name y py] X.env).findIdx? (·.1) = none := by rfl)
    (g1 : (assignEach [.Name x px, .Name y py] X.env).map (·.2) = assign (.Name x px) X.env :: (assignEach [.Name y py] X.env).map (·.2) := by rfl) (g2 : (assignEach [.Name y py] X.env).map (·.2) = assign (.Name y py) X.env :: (assignEach [] X.env).map (·.2) := by rfl)
    (hf : X.fn x = true ∨ X.env.scope.names.lookup x = some .local := by first | exact .inl rfl | exact .inr rfl | assumption) (hf2 : X.fn y = true ∨ X.env.scope.names.lookup y = some .local := by first | exact .inl rfl | exact .inr rfl | assumption) :
    DS X pr (.Assign [.Tuple [.Name x px, .Name y py] kt pt] (.Tuple [a, b] k2 pt2) pos) (mPar i j m1 m2) :=
  ps_imp (ps_asg (pe_tup (pa_cons ha (pa_cons hb pa_nil hst2) hst)) (pg_tup hc (pgs_cons (pg_name nd hi hx hf) (pgs_cons (pg_name nd hj hy hf2) pgs_nil g2) g1) hn hst3) hs hw h1) fun D σ H h => by
    obtain ⟨F, G, ρ, cs, fl, ρ', S, e, q⟩ := tS_par (μ := μ) hij ip jp h
    refine ⟨F, G, ρ, cs, fl, ρ', S, e, fun F1 G1 H1 cs1 v W mo S1 sv => ?_⟩
    obtain ⟨F2, G2, ρ2, cs2, fl2, ρ3, S2, e2, q2⟩ := q F1 G1 H1 cs1 v W mo S1 sv
    refine ⟨F2, G2, ρ2, cs2, fl2, ρ3, S2, e2, fun F3 G3 H3 cs3 w W3 mo3 S3 sw => ?_⟩
    obtain ⟨v', w', ev, k⟩ := q2 F3 G3 H3 cs3 w W3 mo3 S3 sw
    cases ev
    refine ⟨by show 2 ≤ sizeLine; decide, fun p hp => ⟨p, [v, w], rfl, SqT.of upd_same, rfl, v, [w], rfl, w, [], rfl, rfl, k _ fun F G fg gh => Gr.cell fg gh hp⟩⟩

/-! ### x[i].append(e) -/
/-- the slot holds a list of lists that is owned two deep; the item's list grows -/
def mAppIx (i : Nat) (mj me : M R) : M R := fun ρ => match ρ[i]? with
  | some (some ⟨k0 + 2, .list ds0⟩) => match mj ρ with
    | some (⟨_, 0, .int j⟩, ρ1) => match ρ1[i]? with
      | some (some ⟨k + 2, .list ds⟩) => match atI ds j with
        | some (.list _) => match me ρ1 with
          | some (r, ρ2) => if (r.fr || r.k == 0) = true then match ρ2[i]? with
              | some (some ⟨k' + 2, .list ds'⟩) => match ixN ds'.length j with
                | some n => match ds'[n]? with
                  | some (.list es) => if es.length < lim ∧ k' = 0 ∧ ds'.length = ds.length then some (⟨false, 0, .none⟩, ρ2.set i (some ⟨2, .list (ds'.set n (.list (es ++ [r.d])))⟩)) else none
                  | _ => none
                | none => none
              | _ => none
            else none
          | none => none
        | _ => none
      | _ => none
    | _ => none
  | _ => none
end
end Lk

set_option Elab.async false
set_option linter.all false
set_option maxRecDepth 100000
/-! LkO: lists of lists, len(set(..)), properties, methods. -/
namespace Lk
open PySem L2 PySem.Spec
section
variable {X : Cx} {K : PySem.W.Frag} {mg : Str → Option Value} {μ : Bool} {F G H : Hp}
theorem FA.inner {vs : List V} {ds : List D} {css : List Addr} (h : FA (Ow K mg F H 1) vs ds css) : css.Nodup → ∀ {n : Nat} {es : List D}, ds[n]? = some (.list es) →
    ∃ b ws, vs[n]? = some (.ref b) ∧ H b = some (.lst ws) ∧ RpA K mg F ws es ∧ b ∈ css ∧ ∀ H' ws' es', H' b = some (.lst ws') → (∀ a, a ≠ b → H' a = H a) → RpA K mg F ws' es' → FA (Ow K mg F H' 1) vs (ds.set n (.list es')) css := by
  induction h with
  | nil => intro _ n es e; simp at e
  | @cons v vs d ds c cs p t ih =>
    intro nd n es e
    obtain ⟨n1, n2, n3⟩ := List.nodup_append.mp nd
    cases n with
    | zero =>
      simp at e; subst e
      rcases p with ⟨b, ws, es', cc, e1, e2, e3, fa, e4⟩ | ⟨_, _, _, _, _, _, _, h, _⟩
      case inr => cases h
      cases e2
      subst e1
      obtain ⟨rfl, ra⟩ := fa_zero fa
      subst e4
      refine ⟨b, ws, rfl, e3, ra, List.mem_append_left _ List.mem_cons_self, fun H' ws' es' h1 h2 h3 => ?_⟩
      refine FA.cons (c := [b]) (.inl ⟨b, ws', es', [], rfl, rfl, h1, fa_of_rpA h3, rfl⟩) (t.imp fun v d c hm o => o.keep (Sub.refl _) fun a ha => h2 a fun e => ?_)
      exact n3 b List.mem_cons_self a (hm a ha) e.symm
    | succ n =>
      obtain ⟨b, ws, h1, h2, h3, h4, h5⟩ := ih n2 (by simpa using e)
      refine ⟨b, ws, by simpa using h1, h2, h3, List.mem_append_right _ h4, fun H' ws' es' q1 q2 q3 => ?_⟩
      exact FA.cons (p.keep (Sub.refl _) fun a ha => q2 a fun e => n3 a ha b h4 e) (h5 H' ws' es' q1 q2 q3)
theorem SR.write2 {ρ : Sto} {σ : St} {cs : List Addr} {i n : Nat} {ds es : List D} (S : SR K mg F G H ρ σ cs) (hb : ρ[i]? = some (some ⟨2, .list ds⟩)) (he : ds[n]? = some (.list es)) :
    ∃ a vs b ws, σ[i]? = some (some (.ref a)) ∧ H a = some (.lst vs) ∧ vs.length = ds.length ∧ vs[n]? = some (.ref b) ∧ H b = some (.lst ws) ∧ RpA K mg F ws es ∧
      ∀ ws' es', RpA K mg F ws' es' → ∃ cs', SR K mg F G (upd H b (.lst ws')) (ρ.set i (some ⟨2, .list (ds.set n (.list es'))⟩)) σ cs' := by
  obtain ⟨v, c, cs1, ev, ow, r1, p⟩ := S.rs.out hb
  obtain ⟨a, vs, ds', css, e1, e2, e3, fa, e4⟩ : ∃ a vs ds' css, v = .ref a ∧ PyData.list ds = .list ds' ∧ H a = some (.lst vs) ∧ FA (Ow K mg F H 1) vs ds' css ∧ c = a :: css := by
    rcases ow with h | ⟨_, _, _, _, _, _, _, h, _⟩
    · exact h
    · cases h
  cases e2
  subst e1 e4
  have nd : ((a :: css) ++ cs1).Nodup := p.nodup_iff.mp S.nd
  obtain ⟨m1, m2, m3⟩ := List.nodup_append.mp nd
  obtain ⟨ac, ndc⟩ := List.nodup_cons.mp m1
  obtain ⟨b, ws, h1, h2, h3, h4, h5⟩ := fa.inner ndc he
  have hi : i < ρ.length := (List.getElem?_eq_some_iff.mp hb).1
  have nab : a ≠ b := fun e => ac (e ▸ h4)
  refine ⟨a, vs, b, ws, ev, e3, fa.length, h1, h2, h3, fun ws' es' ra => ?_⟩
  have gb : G b = none := S.off b (p.mem_iff.mpr (List.mem_append_left _ (List.mem_cons_of_mem _ h4)))
  have r2 : RS K mg F (upd H b (.lst ws')) (ρ.set i none) σ cs1 := r1.keep (Sub.refl _) fun x hx => upd_ne fun e => m3 b (List.mem_cons_of_mem _ h4) x hx e.symm
  obtain ⟨cs', r3, p3⟩ := r2.into (b := ⟨2, .list (ds.set n (.list es'))⟩) (i := i) (c := a :: css) (by rw [List.getElem?_set_self hi]) ev (.inl ⟨a, vs, _, css, rfl, rfl, (upd_ne nab).trans e3, h5 _ ws' es' upd_same (fun x hx => upd_ne hx) ra, rfl⟩)
  rw [List.set_set] at r3
  refine ⟨cs', S.fg, fun x o e => ?_, r3, p3.nodup_iff.mpr nd, fun x hx => S.off x (p.mem_iff.mpr (p3.mem_iff.mp hx))⟩
  rw [upd_ne fun e' => by subst e'; rw [gb] at e; cases e]
  exact S.gh x o e
/-- the slot holds a list of lists, owned two deep; the list at j grows -/
def mAppIx3 (i : Nat) (mj me : M R) : M R := fun ρ => match mj ρ with
  | some (⟨_, 0, .int j⟩, ρ1) => match ρ1[i]? with
    | some (some ⟨2, .list ds0⟩) => match atI ds0 j with
      | some (.list _) => match me ρ1 with
        | some (r, ρ2) => if (r.fr || r.k == 0) = true then match ρ2[i]? with
            | some (some ⟨2, .list ds⟩) => match ixN ds.length j with
              | some n => match ds[n]? with
                | some (.list es) => if es.length < lim then some (⟨false, 0, .none⟩, ρ2.set i (some ⟨2, .list (ds.set n (.list (es ++ [r.d])))⟩)) else none
                | _ => none
              | none => none
            | _ => none
          else none
        | none => none
      | _ => none
    | _ => none
  | _ => none
def mAppIx2 (i : Nat) (mj me : M R) : M R := fun ρ => match ρ[i]? with
  | some (some _) => mAppIx3 i mj me ρ
  | _ => none
variable {i : Nat} {x : Str} {p ipos apos cpos : Pos} {j e : Expr} {mj m : M R}
theorem de_appIx (hN : X.N[i]? = some x) (hv : Vis X.env.scope x) (hj : DE X true j mj) (he : DE X true e m) (hd : (x == ("__debug__" : Str)) = false := by decide) (hcd : (x == ("__classdict__" : Str)) = false := by decide) (hpi : PlainIx j := by exact fun _ _ => rfl)
    (hbase : attributeBase (.Subscript (.Name x p) j ipos) "append" X.env (eval (.Subscript (.Name x p) j ipos) X.env) = eval (.Subscript (.Name x p) j ipos) X.env := by rfl)
    (hfew : ((backTo cpos (starEach [e] X.env)).all (fun x => !x.1) && (backToKw cpos (keywordEach [] X.env)).all (fun x => x.1.isSome) && decide ([e].length + ([] : List Keyword).length + (if ([] : List Keyword).isEmpty then 0 else 1) < 30)) = true := by rfl)
    (hline : (apos.endLine == cpos.line) = true := by rfl) (hst : starEach [e] X.env = (false, eval e X.env) :: starEach [] X.env := by rfl) : DE X false (.Call (.Attribute (.Subscript (.Name x p) j ipos) "append" apos) [e] [] cpos) (mAppIx2 i mj m) :=
  pe_imp (pe_bm PySem.F.plainAttrs_list PySem.F.slot_list_append PySem.F.type_list_append mt_append (pe_ix ix_seq (pe_var hN hv hd hcd) hj hpi) (pa_cons he pa_nil hst) hbase hfew hline hst (by rfl)) fun σ H Q ⟨F, G, ρ, cs, rr, ρ', S, e, q⟩ => by
    unfold mAppIx2 at e
    split at e
    · rename_i b0 hb00
      obtain ⟨v0, _, _, ev0, _, _, _⟩ := S.rs.out hb00
      refine ⟨v0, ev0, ?_⟩
      unfold mAppIx3 at e
      split at e
      · rename_i fr jj ρ1 emj
        split at e
        · rename_i ds0 hb0
          split at e
          · rename_i es0 hes0
            split at e
            · rename_i r ρ2 em
              split at e
              · rename_i hfr
                split at e
                · rename_i ds hb
                  split at e
                  · rename_i n hn
                    split at e
                    · rename_i es hes
                      split at e
                      · rename_i hl
                        cases e
                        refine ⟨F, G, ρ, cs, _, _, S, emj, fun F1 G1 H1 cs1 y W1 mo S1 ⟨c, o, _⟩ => ?_⟩
                        obtain ⟨_, rp⟩ := o
                        cases rp
                        obtain ⟨n0, e0, hes1⟩ : ∃ n0, ixN ds0.length jj = some n0 ∧ ds0[n0]? = some (.list es0) := by
                          unfold atI at hes0
                          cases q : ixN ds0.length jj with
                          | none => rw [q] at hes0; cases hes0
                          | some n0 => rw [q] at hes0; exact ⟨n0, rfl, hes0⟩
                        obtain ⟨a, vs, b, ws, ea, hH, hvl, hvn, hbH, _, _⟩ := S1.write2 hb0 hes1
                        rw [ev0] at ea
                        cases ea
                        refine .inl ⟨a, vs, jj, .ref b, rfl, rfl, SqL.of hH, by unfold atI; rw [hvl, e0]; exact hvn, tyL hbH, ?_⟩
                        refine ⟨F1, G1, _, cs1, _, _, S1, em, fun F2 G2 H2 cs2 w W2 mo2 S2 sv => ?_⟩
                        obtain ⟨F3, G3, S3, W3, rw_⟩ := sv.lay S2 hfr
                        obtain ⟨a', vs', b', ws', ea', hH', hvl', hvn', hbH', ra', wr⟩ := S3.write2 hb hes
                        rw [ev0] at ea'
                        cases ea'
                        have hH2 := mo2 rfl a _ hH
                        rw [hH'] at hH2
                        cases hH2
                        have hlen : ds.length = ds0.length := hvl'.symm.trans hvl
                        rw [hlen, e0] at hn
                        cases hn
                        rw [hvn] at hvn'
                        cases hvn'
                        obtain ⟨cs4, S4⟩ := wr (ws' ++ [w]) (es ++ [r.d]) (ra'.append (.cons rw_ .nil))
                        exact ⟨b, ws', w, rfl, rfl, hbH', by rw [ra'.length]; exact lim_lt hl, q F3 G3 _ cs4 _ (W1.trans (W2.trans W3)) (fun h => Bool.noConfusion h) S4 ⟨[], ow0 .non, fun h => Bool.noConfusion h⟩⟩
                      · cases e
                    · cases e
                  · cases e
                · cases e
              · cases e
            · cases e
          · cases e
        · cases e
      · cases e
    · cases e

/-! ### [[..], ..]: lists that are owned lie in it -/
def mO0s : M (List R) := fun ρ => some ([], ρ)
/-- the display of one new list: two deep -/
def mLst1 (m : M R) : M R := fun ρ => match m ρ with
  | some (⟨true, k + 1, .list ds⟩, ρ1) => some (⟨true, k + 2, .list [.list ds]⟩, ρ1)
  | _ => none
theorem de_list1 {pos : Pos} (h : DE X μ e m) (hst : starEach [e] X.env = (false, eval e X.env) :: starEach [] X.env := by rfl) : DE X μ (.List [e] pos) (mLst1 m) := pe_imp (pe_lst (pa_cons h pa_nil hst)) fun σ H Q ⟨F, G, ρ, cs, r, ρ', S, e, q⟩ => by
  unfold mLst1 at e
  split at e
  · rename_i k ds ρ1 em
    cases e
    refine ⟨F, G, ρ, cs, _, _, S, em, fun F1 G1 H1 cs1 v W mo S1 ⟨c, o, hf⟩ => ⟨by show 1 ≤ sizeLine; decide, fun p hp => ?_⟩⟩
    have g := Gr.cell (o := .lst [v]) S1.fg S1.gh hp
    obtain ⟨nd, off⟩ := hf rfl
    have pc : p ∉ c ++ cs1 := fun h => by
      rcases List.mem_append.mp h with h | h
      · obtain ⟨o, e⟩ := o.cells p h; rw [hp] at e; cases e
      · obtain ⟨o, e⟩ := S1.rs.there p h; rw [hp] at e; cases e
    refine q F1 G1 _ cs1 _ W (fun h => (mo h).trans g.h) (S1.gr g) ⟨p :: c, .inl ⟨p, [v], [.list ds], c, rfl, rfl, upd_same, by simpa using FA.cons (o.gr (Sub.refl _) g.h) FA.nil, rfl⟩, fun _ => ⟨List.nodup_cons.mpr ⟨pc, nd⟩, fun a ha => ?_⟩⟩
    rcases List.mem_cons.mp ha with e | ha
    · subst e; exact S1.gh.out hp
    · exact off a ha
  · cases e
/-! an owned list of owned lists gets one more: x.append([..]) -/
def mApp2 (i : Nat) (m : M R) : M R := fun ρ => match ρ[i]? with
  | some (some ⟨2, .list _⟩) => match m ρ with
    | some (⟨true, 1, .list es⟩, ρ1) => match ρ1[i]? with
      | some (some ⟨2, .list ds⟩) => if ds.length < lim then some (⟨false, 0, .none⟩, ρ1.set i (some ⟨2, .list (ds ++ [.list es])⟩)) else none
      | _ => none
    | _ => none
  | _ => none
theorem de_append2 (hN : X.N[i]? = some x) (hv : Vis X.env.scope x) (he : DE X true e m) (hd : (x == ("__debug__" : Str)) = false := by decide) (hcd : (x == ("__classdict__" : Str)) = false := by decide)
    (hbase : attributeBase (.Name x p) "append" X.env (eval (.Name x p) X.env) = eval (.Name x p) X.env := by rfl)
    (hfew : ((backTo cpos (starEach [e] X.env)).all (fun x => !x.1) && (backToKw cpos (keywordEach [] X.env)).all (fun x => x.1.isSome) && decide ([e].length + ([] : List Keyword).length + (if ([] : List Keyword).isEmpty then 0 else 1) < 30)) = true := by rfl)
    (hline : (apos.endLine == cpos.line) = true := by rfl) (hst : starEach [e] X.env = (false, eval e X.env) :: starEach [] X.env := by rfl) : DE X false (.Call (.Attribute (.Name x p) "append" apos) [e] [] cpos) (mApp2 i m) :=
  pe_imp (pe_bm PySem.F.plainAttrs_list PySem.F.slot_list_append PySem.F.type_list_append mt_append (pe_var hN hv hd hcd) (pa_cons he pa_nil hst) hbase hfew hline hst (by rfl)) fun σ H Q ⟨F, G, ρ, cs, rr, ρ', S, e, q⟩ => by
    unfold mApp2 at e
    split at e
    · rename_i ds0 hb0
      split at e
      · rename_i es ρ1 em
        split at e
        · rename_i ds hb
          split at e
          · rename_i hl
            cases e
            obtain ⟨a0, vs0, _, _, ev0, hH0, _⟩ := S.write (k := 1) hb0
            refine ⟨_, ev0, tyL hH0, F, G, ρ, cs, _, _, S, em, fun F1 G1 H1 cs1 y W1 mo S1 ⟨c, o, hf⟩ => ?_⟩
            obtain ⟨nd, off⟩ := hf rfl
            obtain ⟨v, c2, cs2, ev, ow, r1, pp⟩ := S1.rs.out hb
            rw [ev0] at ev
            cases ev
            obtain ⟨a, vs, ds', css, e1, e2, e3, fa, e4⟩ : ∃ a vs ds' css, V.ref a0 = .ref a ∧ PyData.list ds = .list ds' ∧ H1 a = some (.lst vs) ∧ FA (Ow X.K X.mg F1 H1 1) vs ds' css ∧ c2 = a :: css := by
              rcases ow with h | ⟨_, _, _, _, _, _, _, h, _⟩
              · exact h
              · cases h
            cases e1
            cases e2
            subst e4
            have nd2 : ((a0 :: css) ++ cs2).Nodup := pp.nodup_iff.mp S1.nd
            obtain ⟨m1, m2, m3⟩ := List.nodup_append.mp nd2
            obtain ⟨ac, ndc⟩ := List.nodup_cons.mp m1
            obtain ⟨n1, n2, n3⟩ := List.nodup_append.mp nd
            have cin : ∀ b ∈ (a0 :: css) ++ cs2, b ∈ cs1 := fun b hb => pp.mem_iff.mpr hb
            have ca : a0 ∉ c := fun h => n3 a0 h a0 (cin a0 (List.mem_append_left _ List.mem_cons_self)) rfl
            refine ⟨a0, vs, y, rfl, rfl, e3, lim_lt (by rw [fa.length]; exact hl), ?_⟩
            have ne : ∀ b, b ≠ a0 → upd H1 a0 (.lst (vs ++ [y])) b = H1 b := fun b hb => upd_ne hb
            have r2 : RS X.K X.mg F1 (upd H1 a0 (.lst (vs ++ [y]))) (ρ1.set i none) σ cs2 := r1.keep (Sub.refl _) fun b hb => ne b fun e => m3 a0 List.mem_cons_self b hb e.symm
            have hi : i < ρ1.length := (List.getElem?_eq_some_iff.mp hb).1
            have fa2 : FA (Ow X.K X.mg F1 (upd H1 a0 (.lst (vs ++ [y]))) 1) (vs ++ [y]) (ds ++ [.list es]) (css ++ c) := FA.snoc (fa.imp fun v d cc hm o => o.keep (Sub.refl _) fun b hb => ne b fun e => ac (e ▸ hm b hb)) (o.keep (Sub.refl _) fun b hb => ne b fun e => ca (e ▸ hb))
            obtain ⟨cs3, r3, p3⟩ := r2.into (b := ⟨2, .list (ds ++ [.list es])⟩) (i := i) (c := a0 :: (css ++ c)) (by rw [List.getElem?_set_self hi]) ev0 (.inl ⟨a0, _, _, css ++ c, rfl, rfl, upd_same, fa2, rfl⟩)
            rw [List.set_set] at r3
            have ndf : ((a0 :: (css ++ c)) ++ cs2).Nodup := by
              have : ((a0 :: (css ++ c)) ++ cs2).Perm (c ++ ((a0 :: css) ++ cs2)) := by
                have h1 : ((a0 :: (css ++ c)) ++ cs2) = (a0 :: css) ++ (c ++ cs2) := by simp
                rw [h1, ← List.append_assoc, ← List.append_assoc]
                exact List.Perm.append_right cs2 List.perm_append_comm
              rw [this.nodup_iff]
              exact List.nodup_append.mpr ⟨n1, nd2, fun b hb d hd e => n3 b hb d (cin d hd) e⟩
            refine q F1 G1 _ cs3 _ W1 (fun h => Bool.noConfusion h) ⟨S1.fg, fun b o e => ?_, r3, p3.nodup_iff.mpr ndf, fun b hb => ?_⟩ ⟨[], ow0 .non, fun h => Bool.noConfusion h⟩
            · rw [ne b fun e' => by subst e'; rw [S1.off b (cin b (List.mem_append_left _ List.mem_cons_self))] at e; cases e]
              exact S1.gh b o e
            · rcases List.mem_append.mp (p3.mem_iff.mp hb) with h | h
              · rcases List.mem_cons.mp h with e | h
                · subst e; exact S1.off b (cin b (List.mem_append_left _ List.mem_cons_self))
                · rcases List.mem_append.mp h with h | h
                  · exact S1.off b (cin b (List.mem_append_left _ (List.mem_cons_of_mem _ h)))
                  · exact off b h
              · exact S1.off b (cin b (List.mem_append_right _ h))
          · cases e
        · cases e
      · cases e
    · cases e
/-! ### len(set(e)), a list of tuples of whole numbers -/
def tupInts : List D → Option (List (List Int))
  | [] => some []
  | .tuple ds :: r => match intsOf ds, tupInts r with
    | some ns, some l => some (ns :: l)
    | _, _ => none
  | _ :: _ => none
/-- how many different ones -/
def dcount : List (List Int) → Nat
  | [] => 0
  | x :: xs => if x ∈ xs then dcount xs else dcount xs + 1
def mLenSet (m : M R) : M R := fun ρ => match m ρ with
  | some (r, ρ1) => if r.k ≤ 1 then match r.d with
      | .list ds => match tupInts ds with
        | some l => if l.length < 64 then some (⟨false, 0, .int (dcount l : Int)⟩, ρ1) else none
        | none => none
      | _ => none
    else none
  | none => none
theorem tup_rp {F : Hp} : ∀ {ds : List D} {vs : List V} {l : List (List Int)}, RpA K mg F vs ds → tupInts ds = some l → ∃ ks : List (Addr × List Int), vs = ks.map (fun p => V.ref p.1) ∧ ks.map (·.2) = l ∧ ∀ p ∈ ks, SqT K F p.1 (p.2.map V.int)
  | [], _, _, h, e => by cases h; cases e; exact ⟨[], rfl, rfl, fun _ h => absurd h (by simp)⟩
  | d :: ds, _, l, h, e => by
    cases h with
    | cons h r =>
      unfold tupInts at e
      split at e
      · rename_i hh; cases hh
      · rename_i xs ds' hd
        cases hd
        split at e
        · rename_i ns l' e1 e2
          cases e
          obtain ⟨ks, rfl, e3, hk⟩ := tup_rp r e2
          cases h with
          | @tup a ws _ sq ra =>
            have := ints_rp ra e1
            subst this
            exact ⟨(a, ns) :: ks, rfl, by rw [List.map_cons, e3], fun p hp => by
              rcases List.mem_cons.mp hp with e | hp
              · subst e; exact sq
              · exact hk p hp⟩
        · cases e
      · cases e
theorem dcount_eq : ∀ {l m : List (List Int)}, m.Nodup → (∀ x ∈ m, x ∈ l) → (∀ x ∈ l, x ∈ m) → m.length = dcount l := by
  intro l
  induction l with
  | nil =>
    intro m _ h _
    cases m with
    | nil => rfl
    | cons x m => exact absurd (h x List.mem_cons_self) (by simp)
  | cons x l ih =>
    intro m nd h1 h2
    unfold dcount
    by_cases hx : x ∈ l
    · rw [if_pos hx]
      refine ih nd (fun y hy => ?_) fun y hy => h2 y (List.mem_cons_of_mem _ hy)
      rcases List.mem_cons.mp (h1 y hy) with e | h
      · rw [e]; exact hx
      · exact h
    · rw [if_neg hx]
      have hm := h2 x List.mem_cons_self
      have p := List.perm_cons_erase hm
      have nd2 := p.nodup_iff.mp nd
      obtain ⟨a1, a2⟩ := List.nodup_cons.mp nd2
      rw [p.length_eq, List.length_cons]
      congr 1
      refine ih a2 (fun y hy => ?_) fun y hy => ?_
      · rcases List.mem_cons.mp (h1 y (p.mem_iff.mpr (List.mem_cons_of_mem _ hy))) with e | h
        · subst e; exact absurd hy a1
        · exact h
      · have := p.mem_iff.mp (h2 y (List.mem_cons_of_mem _ hy))
        rcases List.mem_cons.mp this with e | h
        · subst e; exact absurd hy hx
        · exact h
/-- len of such a set -/
theorem call_lenSet : CallR X (.builtin "len") (fun xs H Q => ∃ a L, xs = [.ref a] ∧ H a = some (SetTO X.prog X.w a L) ∧ (∀ p ∈ L, SqT X.K H p.1 (p.2.map V.int)) ∧ ((L.map (·.2)).Nodup → Q (.int (L.length : Int)) H)) := by
  intro pins s σ H xs us Q I r h
  obtain ⟨a, L, rfl, ha, hk, q⟩ := h
  obtain ⟨u, rfl, ru⟩ := Vals.one r
  cases ru
  have R0 : SetT0 X.prog X.w s.heap a L := (I.hok a _ ha).1
  obtain ⟨es, ep, t, R⟩ := R0.full fun p hp => I.isT (hk p hp)
  have fits := R.fits
  have size := R.size
  obtain ⟨o, ho, hex, hd⟩ := R.ob
  have few := R.few
  have sz : (es.size : Int) < 2 ^ 63 := by rw [size]; omega
  exact call_len_set ho hex hd fits (by first | omega | exact sz | exact few) ⟨.int L.length, H, I.tok _, ⟨_, by rw [size]⟩, q R.nd⟩
end
end Lk

set_option Elab.async false
set_option linter.all false
set_option maxRecDepth 100000
/-! LkP: the law's end over FnG. -/
namespace Lk
open PySem L2 PySem.Spec PyProof.Rows

def scrD (ns : List Int) : D := .dict [(.none, .list (ns.map PyData.int))]
theorem law_callG {P : Program} {w : World} {K : PySem.W.Frag} {mg mb : Str → Option Value} {k : Nat} {fa a : Addr} {fd : FuncData} {x : Str} {g : Fn} {s₁ : Shared} {vs : List Value} {ns : List Int}
    (KX : K.In s₁.heap) (hns : s₁.heap.Ns mainGlobals mg) (hb : s₁.heap.Ns builtinsNs mb) (hbb : ∀ x : Str, x ≠ "__name__" → mb x = bootBuiltins x) (hlim : s₁.heap.NoLimit) (hg : s₁.gens = #[])
    (ha : s₁.heap.get? a = some { cls := .type "list", data := .seq vs.toArray }) (hi : IntsAre vs ns) (hl : ns.length ≤ sizeLine) (hr : Room k callerA)
    (F : ∀ base : Heap, K.In base → base.Ns mainGlobals mg → FnG P w K mg base k fa fd [x] g) (hbind : ∀ (s : Shared) (u : Value), BindsTo s fd ⟨[u], []⟩ [(x, u)])
    (hsp : ∃ fr kk outs, g [⟨0, scrD ns⟩] = some (⟨fr, kk, .bool true⟩, outs)) :
    codeAny (model P w) callerA (.call (.ref fa) ⟨[.ref a], []⟩) (fun r s' => r = .ok (.ret (.bool true)) ∧ OldK s₁.heap s'.heap ∧ s'.os = s₁.os ∧ AllBare s'.gens) s₁ := by
  obtain ⟨fr, kk, outs, eg⟩ := hsp
  have rv := vals_ints hi
  have lenV := hi.length
  have core : ∀ H : Hp, Only H → SqL K H a (ns.map V.int) → HOk P w H s₁.heap → (∀ b, H b ≠ none → b = a) → (H a ≠ none → K.lookup a = none) →
      codeAny (model P w) callerA (.call (.ref fa) ⟨[.ref a], []⟩) (fun r s' => r = .ok (.ret (.bool true)) ∧ OldK s₁.heap s'.heap ∧ s'.os = s₁.os ∧ AllBare s'.gens) s₁ := by
    intro H hO hS hok hA hK
    have base_of : ∀ {b : Addr} {o : Obj}, s₁.heap.get? b = some o → H b = none → (hidT s₁.heap H).get? b = some o := fun e n => hidT_get e n
    have noA : ∀ {b : Addr} {o : Obj} {es : Array DictEntry} {ep : Nat}, s₁.heap.get? b = some o → o.data = .dict es ep → H b = none := fun {b o es ep} e d => by
      cases q : H b with
      | none => rfl
      | some u =>
        have e' : b = a := hA b (by rw [q]; simp)
        subst e'
        rw [ha] at e; cases e
        have d' : Data.seq vs.toArray _ = Data.dict es ep := d
        cases d'
    have nsK : ∀ {b : Addr} {m : Str → Option Value}, s₁.heap.Ns b m → (hidT s₁.heap H).Ns b m := fun {b m} ⟨o, es, ep, e, d, r⟩ => ⟨o, es, ep, base_of e (noA e d), d, r⟩
    have hKb : K.In (hidT s₁.heap H) := fun b o e => base_of (KX b o e) (by
      cases q : H b with
      | none => rfl
      | some u =>
        have e' : b = a := hA b (by rw [q]; simp)
        subst e'
        rw [hK (by rw [q]; simp)] at e; cases e)
    have hM : Mod K mg (hidT s₁.heap H) := ⟨hKb, nsK hns, ⟨mb, nsK hb, hbb⟩, let ⟨mc, h1, h2⟩ := hlim; ⟨mc, nsK h1, h2⟩⟩
    have e0 : Env0 P w K mg (hidT s₁.heap H) callerA [] s₁ H := ⟨rfl, hM, fun b o e => of_hidT e, Nat.le_of_eq (hidT_size _ _), trivial, fun b hb => absurd (show b ∈ ([] : List Addr) from hb) (by simp), hok, .of_eq hg⟩
    have S0 : SR K mg H H H ([⟨0, scrD ns⟩].map some) ([V.ref a].map some) [] := ⟨Sub.refl _, Sub.refl _, RS.yes (c := []) (ow0 (.scr hS)) .nil, List.nodup_nil, fun _ h => nomatch h⟩
    refine codeAny_mono ((F _ hKb (nsK hns)).run callerA [] s₁ H ⟨[.ref a], []⟩ [.ref a] [.ref a] H H [⟨0, scrD ns⟩] [] _ outs hr rfl e0 (hbind s₁ (.ref a)) (.cons rfl .nil) rfl S0 eg) fun r s' h => ?_
    cases r with
    | error e => exact False.elim h
    | ok fl =>
      cases fl with
      | next => exact False.elim h
      | brk => exact False.elim h
      | cont => exact False.elim h
      | ret u =>
        obtain ⟨v, H', os, bare, un, hok', r', q⟩ := h
        obtain ⟨F', G', cs', W, S', ⟨c, o, _⟩, _⟩ := q
        have q' : v = .bl true := by
          have o' : Rp K mg H' v (.bool true) := Ow.rpH (S'.fg.trans S'.gh) o
          cases o'
          rfl
        subst q'
        obtain rfl : u = Value.bool true := r'
        refine ⟨rfl, OldK.of_keep fun b o e => ?_, os, bare⟩
        cases q : H b with
        | none => exact un.keep b o e q (by intro z; exact absurd (show b ∈ ([] : List Addr) from z) (by simp)) (by simp)
        | some u =>
          rcases hO b with z | ⟨ob, xs, z⟩
          · rw [q] at z; cases z
          · have z2 := un.frzs b ob _ z
            obtain ⟨e1, _⟩ := hok b _ z
            obtain ⟨e2, _⟩ := hok' b _ z2
            rw [e] at e1; cases e1
            exact e2
  cases hk : K.lookup a with
  | some o =>
    have e := KX a o hk
    rw [ha] at e
    cases e
    refine core (fun _ => none) (fun _ => .inl rfl) (.inr ⟨_, vs.toArray, _, hk, rfl, rfl, rfl, by rw [List.size_toArray, lenV]; exact hl, by simpa using rv⟩) (fun b u z => by have z' : (none : Option HO) = some u := z; cases z') (fun b z => absurd rfl z) fun z => absurd rfl z
  | none =>
    refine core (fun b => if b = a then some (.frz { cls := .type "list", data := .seq vs.toArray } (.lst (ns.map V.int))) else none) (fun b => ?_) (.inl (.inr ⟨{ cls := .type "list", data := .seq vs.toArray }, if_pos rfl⟩)) (fun b u z => ?_) (fun b z => ?_) fun _ => hk
    · by_cases hb : b = a
      · exact .inr ⟨_, _, if_pos hb⟩
      · exact .inl (if_neg hb)
    · by_cases hb : b = a
      · have z' := (if_pos hb).symm.trans z
        cases z'
        subst hb
        exact ⟨ha, by rw [List.length_map]; exact hl, vs, _, rv, ha⟩
      · have z' := (if_neg hb).symm.trans z
        cases z'
    · by_cases hb : b = a
      · exact hb
      · exact absurd (if_neg hb) z

theorem walk_ofG {l : PySem.W.OpenLaw} {n k : Nat} {q : Program} {loose : List Str} {XP : (Str → Option Value) → Heap → Prop} {YP : World → Heap → Prop} {d : DefRec} {K : Params → PySem.W.Frag} {x : Str} {g : Fn}
    (hn : l.most = some n) (hn2 : n ≤ sizeLine) (hdf : d.params.defaults = []) (hr : Room k callerA)
    (hY : ∀ (w : World) (h : Heap), YP w h → (K w.params).In h)
    (F : ∀ (w : World) (mg : Str → Option Value) (fa : Addr) (h : Heap), (K w.params).In h → h.Ns mainGlobals mg → mg d.name = some (.ref fa) →
      ∃ fd : FuncData, (∀ (s : Shared) (u : Value), BindsTo s fd ⟨[u], []⟩ [(x, u)]) ∧
        ∀ base : Heap, (K w.params).In base → base.Ns mainGlobals mg → FnG l.prog w (K w.params) mg base k fa fd [x] g)
    (hsp : ∀ ns : List Int, ns.length ≤ n → ∃ fr kk outs, g [⟨0, scrD ns⟩] = some (⟨fr, kk, .bool true⟩, outs)) :
    PySem.W.WalkO q loose XP YP l.row.toRowW d [] (fun f vs => PySem.call f vs) := by
  refine Att.attach_call hn hdf fun w s₀ s₁ mg mb fa o pm cd doc a vs ns G Y ho hd hcd hmg hobj hints hlen hg => ?_
  have KX := hY w _ Y
  obtain ⟨fd, hb, hF⟩ := F w mg fa _ KX G.T.g hmg
  exact law_callG KX G.T.g G.T.b G.T.builtins G.T.nolimit hg hobj hints (Nat.le_trans hlen hn2) hr hF hb (hsp ns hlen)
end Lk

set_option Elab.async false
set_option linter.all false
set_option maxRecDepth 100000
/-! LkQ: tuples walked, len(set(..)), list(range(..)), tuple(..). -/
namespace Lk
open PySem L2 PySem.Spec PyProof.Rows
section
variable {X : Cx} {μ : Bool} {K : PySem.W.Frag} {mg : Str → Option Value} {F G H : Hp} {e : Expr} {m : M R} {pos : Pos}
theorem itd_tup1 {F0 : Hp} {a : Addr} {vs : List V} {ds : List D} (h : SqT K F0 a vs) (ra : RpA K mg F0 vs ds) : ItD K mg (Itt K a) F0 ds := by
  refine ⟨fun i F G H s fg gh hi => ?_, fun F H s fh => ⟨vs, sub_sqT (s.trans fh) h, by rw [ra.length]; exact Nat.le_refl _⟩⟩
  have sq : SqT K H a vs := sub_sqT ((s.trans fg).trans gh) h
  obtain ⟨v, ev, rp⟩ := ra.get (List.getElem?_eq_getElem hi)
  refine ⟨⟨vs, v, sq, ev⟩, fun x H' ⟨e, y⟩ => ?_⟩
  subst e
  have := y vs sq
  rw [ev] at this; cases this
  exact ⟨F, G, _, Gr.refl fg gh, List.getElem?_eq_getElem hi, rp.sub s⟩
theorem di_tup {tg e : Expr} {m : M R} {μ : Bool} (he : DE X μ e m) : DI X μ tg e (mIt m) := pi_imp (pi_tup he) fun σ H R ⟨F, G, ρ, cs, ds, ρ', S, e, q⟩ => by
  unfold mIt at e
  split at e
  · rename_i r ρ1 em
    split at e
    · rename_i hfr
      split at e
      · rename_i ds' ed
        cases e
        refine ⟨F, G, ρ, cs, _, _, S, em, fun F1 G1 H1 cs1 v W mo S1 sv => ?_⟩
        obtain ⟨F2, G2, S2, W2, rp⟩ := sv.lay S1 hfr
        rw [ed] at rp
        cases rp with
        | @tup a vs _ h ra => exact ⟨a, rfl, ⟨vs, sub_sqT (S2.fg.trans S2.gh) h⟩, q F2 G2 H1 cs1 _ (W.trans W2) mo S2 (itd_tup1 h ra)⟩
      · cases e
    · cases e
  · cases e
/-- the items of a list or of a tuple -/
def mIq (m : M R) : M (List D) := fun ρ => match m ρ with
  | some (r, ρ1) => if (r.fr || r.k == 0) = true then match r.d with
      | .list ds => some (ds, ρ1)
      | .tuple ds => some (ds, ρ1)
      | _ => none
    else none
  | none => none
theorem mIq_of {ρ ρ' : Sto} {ds : List D} (h : mIq m ρ = some (ds, ρ')) : mIl m ρ = some (ds, ρ') ∨ mIt m ρ = some (ds, ρ') := by
  unfold mIq at h
  unfold mIl mIt
  cases em : m ρ with
  | none => rw [em] at h; cases h
  | some p =>
    obtain ⟨r, ρ1⟩ := p
    rw [em] at h
    by_cases hfr : (r.fr || r.k == 0) = true
    · simp only [hfr, if_true] at h ⊢
      cases ed : r.d with
      | list ds' => rw [ed] at h; exact .inl h
      | tuple ds' => rw [ed] at h; exact .inr h
      | none => rw [ed] at h; cases h
      | bool _ => rw [ed] at h; cases h
      | int _ => rw [ed] at h; cases h
      | str _ => rw [ed] at h; cases h
      | dict _ => rw [ed] at h; cases h
    · simp only [hfr, if_false, Bool.false_eq_true] at h
      cases h
theorem di_seq {tg : Expr} (he : DE X μ e m) : DI X μ tg e (mIq m) := ⟨fun pins s σ H R I ⟨F, G, ρ, cs, ds, ρ', S, e, q⟩ => by
  rcases mIq_of e with h | h
  · exact (di_list he).run pins s σ H R I ⟨F, G, ρ, cs, ds, ρ', S, h, q⟩
  · exact (di_tup he).run pins s σ H R I ⟨F, G, ρ, cs, ds, ρ', S, h, q⟩⟩

/-! ### list(range(n)) -/
def mLr1 (m : M R) : M R := fun ρ => match m ρ with
  | some (r, ρ1) => match r.d with
    | .int n => if 0 ≤ n ∧ n ≤ 1000000 then some (⟨true, 1, .list (dInts 0 n.toNat)⟩, ρ1) else none
    | _ => none
  | none => none
theorem rp_rg (F : Hp) (lo : Int) (n : Nat) : RpA K mg F ((List.range n).map fun i => V.int (lo + (i : Nat))) (dInts lo n) := by
  unfold dInts
  induction List.range n with
  | nil => exact .nil
  | cons a l ih => exact .cons (.int _) ih
theorem FA.of_rpA : ∀ {vs : List V} {ds : List D}, RpA K mg F vs ds → FA (Ow K mg F H 0) vs ds []
  | _, _, .nil => .nil
  | _, _, .cons h r => FA.cons (cs := []) (c := []) (ow0 h) (FA.of_rpA r)
theorem de_listRg1 {p p2 pos2 : Pos} (hc : X.calm = true) (hm : X.mg "list" = none) (hm2 : X.mg "range" = none) (he : DE X μ e m) (hg : Gl X "list" := by rfl) (hg2 : Gl X "range" := by rfl) (na : starEach [e] X.env = (false, eval e X.env) :: starEach [] X.env := by rfl)
    (na2 : starEach [.Call (.Name "range" p2) [e] [] pos2] X.env = (false, eval (.Call (.Name "range" p2) [e] [] pos2) X.env) :: starEach [] X.env := by rfl) :
    DE X μ (.Call (.Name "list" p) [.Call (.Name "range" p2) [e] [] pos2] [] pos) (mLr1 m) :=
  pe_imp (pe_listRg hc hg hm (prg_1 hg2 hm2 he na) na2) fun σ H Q ⟨F, G, ρ, cs, r, ρ', S, e, q⟩ => by
    unfold mLr1 at e
    split at e
    · rename_i r0 ρ1 em
      split at e
      · rename_i n ed
        split at e
        · rename_i hb
          cases e
          refine ⟨F, G, ρ, cs, _, _, S, em, fun F1 G1 H1 cs1 v W mo S1 sv => ?_⟩
          obtain ⟨c, o, _⟩ := sv
          have rp : Rp X.K X.mg H1 v (.int n) := by rw [← ed]; exact o.rpH (S1.fg.trans S1.gh)
          cases rp
          refine ⟨n, rfl, RgOk.of_le (by omega) (by omega) (by omega) (by omega), fun a ha => ?_⟩
          have nA : F1 a = none := S1.fg.out (S1.gh.out ha)
          have gA : G1 a = none := S1.gh.out ha
          have off : a ∉ cs1 := fun h => by obtain ⟨vs, e⟩ := S1.rs.there a h; rw [ha] at e; cases e
          have G2 := Gr.cell (o := .lst (rgV 0 n)) S1.fg S1.gh ha
          refine q F1 G1 _ cs1 _ W (fun h => (mo h).trans (Sub.new ha)) (S1.gr G2) ⟨[a], .inl ⟨a, _, _, [], rfl, rfl, upd_same, FA.of_rpA ?_, rfl⟩, fun _ => ⟨List.nodup_cons.mpr ⟨off, S1.nd⟩, fun b hb => ?_⟩⟩
          · have := rp_rg (K := X.K) (mg := X.mg) F1 0 n.toNat
            unfold rgV
            rw [show (n - 0).toNat = n.toNat by omega]
            exact this
          · have : b = a := by simpa using hb
            subst this; exact gA
        · cases e
      · cases e
    · cases e
theorem de_lenSet {p p2 pos2 : Pos} (hc : X.calm = true) (hu : X.A.units + 64 < cLine) (hm : X.mg "len" = none) (hm2 : X.mg "set" = none) (he : DE X μ e m) (hg : Gl X "len" := by rfl) (hg2 : Gl X "set" := by rfl)
    (n1 : starEach [e] X.env = (false, eval e X.env) :: starEach [] X.env := by rfl) (n2 : starEach [.Call (.Name "set" p2) [e] [] pos2] X.env = (false, eval (.Call (.Name "set" p2) [e] [] pos2) X.env) :: starEach [] X.env := by rfl) :
    DE X μ (.Call (.Name "len" p) [.Call (.Name "set" p2) [e] [] pos2] [] pos) (mLenSet m) :=
  pe_imp (pe_callB call_lenSet hg hm PySem.boot_len (pa_cons (pe_callTy (cr_setOfT hc hu) hg2 hm2 PyProof.Rows.boot_set (pa_cons he pa_nil n1) (by decide) (by decide) n1) pa_nil n2) (by decide) (by decide) n2) fun σ H Q ⟨F, G, ρ, cs, r, ρ', S, e, q⟩ => by
    unfold mLenSet at e
    split at e
    · rename_i r0 ρ1 em
      split at e
      · rename_i hk
        split at e
        · rename_i ds ed
          split at e
          · rename_i l et
            split at e
            · rename_i hl
              cases e
              refine ⟨F, G, ρ, cs, _, _, S, em, fun F1 G1 H1 cs1 v W mo S1 sv => ?_⟩
              obtain ⟨c, o, _⟩ := sv
              have rp : Rp X.K X.mg H1 v (.list ds) := by rw [← ed]; exact o.rpH (S1.fg.trans S1.gh)
              cases rp with
              | @lst a vs _ h ra =>
                obtain ⟨ks, rfl, hks, hsq⟩ := tup_rp ra et
                have hlen : ks.length = l.length := by rw [← hks, List.length_map]
                refine ⟨a, ks, rfl, SqL.of h, hsq, by omega, fun b L hb h1 h2 => ⟨b, L, rfl, upd_same, fun p hp => sub_sqT (Sub.new hb) (hsq p (h1 p hp)), fun nd => ?_⟩⟩
                have hd : (L.map (·.2)).length = dcount l := dcount_eq nd (fun x hx => by
                  obtain ⟨p, hp, rfl⟩ := List.mem_map.mp hx
                  rw [← hks]; exact List.mem_map.mpr ⟨p, h1 p hp, rfl⟩) fun x hx => by
                  rw [← hks] at hx
                  obtain ⟨p, hp, rfl⟩ := List.mem_map.mp hx
                  exact h2 p hp
                rw [List.length_map] at hd
                rw [hd]
                exact q F1 G1 _ cs1 _ W (fun h => (mo h).trans (Sub.new hb)) (S1.gr (Gr.cell S1.fg S1.gh hb)) ⟨[], ow0 (.int _), fun h => Bool.noConfusion h⟩
            · cases e
          · cases e
        · cases e
      · cases e
    · cases e
end
end Lk

set_option Elab.async false
set_option linter.all false
set_option maxRecDepth 100000
/-! LkR: rules made weaker; a new thing handed over. -/
namespace Lk
open PySem L2 PySem.Spec PyProof.Rows
section
variable {X : Cx} {μ : Bool} {e : Expr} {es : List Expr}
theorem DE.low {m : M R} (h : DE X μ e m) : DE X false e m := pe_imp h fun σ H Q ⟨F, G, ρ, cs, r, ρ', S, e, q⟩ => ⟨F, G, ρ, cs, r, ρ', S, e, fun F' G' H' cs' v W _ => q F' G' H' cs' v W (fun h => Bool.noConfusion h)⟩
theorem DT.low {m : M Bool} (h : DT X μ e m) : DT X false e m := pt_imp h fun σ H Q ⟨F, G, ρ, cs, r, ρ', S, e, q⟩ => ⟨F, G, ρ, cs, r, ρ', S, e, fun F' G' H' cs' W _ => q F' G' H' cs' W (fun h => Bool.noConfusion h)⟩
theorem DW.low {m : M Bool} (h : DW X μ e m) : DW X false e m := pw_imp h fun σ H Q ⟨F, G, ρ, cs, r, ρ', S, e, q⟩ => ⟨F, G, ρ, cs, r, ρ', S, e, fun F' G' H' cs' W _ => q F' G' H' cs' W (fun h => Bool.noConfusion h)⟩
theorem DF.low {m : M (List D)} (h : DF X μ es m) : DF X false es m := pa_imp h fun σ H Q ⟨F, G, ρ, cs, r, ρ', S, e, q⟩ => ⟨F, G, ρ, cs, r, ρ', S, e, fun F' G' H' cs' v W _ => q F' G' H' cs' v W (fun h => Bool.noConfusion h)⟩
theorem DFk.low {ks : List Keyword} {m : M (List D)} (h : DFk X μ ks m) : DFk X false ks m := pk_imp h fun σ H Q ⟨F, G, ρ, cs, r, ρ', S, e, q⟩ => ⟨F, G, ρ, cs, r, ρ', S, e, fun F' G' H' cs' v W _ => q F' G' H' cs' v W (fun h => Bool.noConfusion h)⟩
theorem DTs.low {m : M Bool} (h : DTs X μ es m) : DTs X false es m := pts_imp h fun σ H Q ⟨F, G, ρ, cs, r, ρ', S, e, q⟩ => ⟨F, G, ρ, cs, r, ρ', S, e, fun F' G' H' cs' W _ => q F' G' H' cs' W (fun h => Bool.noConfusion h)⟩
theorem DI.low {tg : Expr} {m : M (List D)} (h : DI X μ tg e m) : DI X false tg e m := pi_imp h fun σ H Q ⟨F, G, ρ, cs, r, ρ', S, e, q⟩ => ⟨F, G, ρ, cs, r, ρ', S, e, fun F' G' H' cs' J W _ => q F' G' H' cs' J W (fun h => Bool.noConfusion h)⟩
end

/-! ### f(e), what e makes is the callee's own -/
def mCallH (g : Fn) (m : M R) : M R := fun ρ => match m ρ with
  | some (r, ρ1) => if (r.fr || r.k == 0) = true then match g [⟨r.k, r.d⟩] with
      | some (r', _) => some (r', ρ1)
      | none => none
    else none
  | none => none
section
variable {X : Cx} {μ : Bool} {k j : Nat} {x x0 qual : Str} {st : Stmt} {g : Fn} {e : Expr} {m : M R} {p pos : Pos}
theorem de_callH (Fx : FnC X j x qual st [x0] g) (hjk : j ≤ k) (room : Room k X.A) (guards : X.A.guards = some []) (hb : BindP x qual st [x0]) (ha : DE X μ e m) (hg : Gl X x := by rfl)
    (hdb : (x == ("__debug__" : Str)) = false := by decide) (he : starEach [e] X.env = (false, eval e X.env) :: starEach [] X.env := by rfl) (hpl : (backTo pos (starEach [] X.env)).any (·.1) = false := by rfl) : DE X false (.Call (.Name x p) [e] [] pos) (mCallH g m) := by
  obtain ⟨f, fd, Fg, Fd, hm⟩ := Fx.ex
  refine ⟨fun pins s σ H Q I h => ?_⟩
  obtain ⟨F, G, ρ, cs, rr, ρ', S, e2, q⟩ := h
  refine wpAny_Call_Name_kw (ld_glob I hg hm ?_ hdb)
  unfold mCallH at e2
  split at e2
  · rename_i r0 ρ1 em
    split at e2
    · rename_i hfr
      split at e2
      · rename_i r outs eg
        cases e2
        refine PySem.W.callWith_K (h₀ := X.base) I.ok.mod.kin Fd.kp (thn ((pa_cons ha pa_nil he).run pos pins s σ H (fun vs H1 => ∃ v, vs = [v] ∧ ∃ F1 G1 cs1, Fw F G F1 G1 ∧ SR X.K X.mg F1 G1 H1 ρ' σ cs1 ∧ SV X.K X.mg F1 G1 H1 cs1 r0 v) I ⟨F, G, ρ, cs, _, _, S, em, fun F1 G1 H1 cs1 v W mo S1 sv => ⟨v, rfl, F1, G1, cs1, W, S1, sv⟩⟩) fun us s1 ⟨vs, H1, I1, rv, v, ev, F1, G1, cs1, W, S1, sv⟩ => ⟨I1.kIn, ?_⟩) he hpl
        subst ev
        obtain ⟨c, ow, hf⟩ := sv
        have cell : (c ++ cs1).Nodup ∧ ∀ a ∈ c, G1 a = none := by
          by_cases hk : r0.k = 0
          · rw [hk] at ow
            obtain ⟨rfl, _⟩ := ow
            exact ⟨S1.nd, fun a h => absurd h (by simp)⟩
          · have fr : r0.fr = true := by
              cases e : r0.fr with
              | true => rfl
              | false => rw [e] at hfr; simp at hfr; exact absurd hfr hk
            exact hf fr
        have Sp : SR X.K X.mg F1 G1 H1 (some ⟨r0.k, r0.d⟩ :: ρ') (some v :: σ) (c ++ cs1) := ⟨S1.fg, S1.gh, .yes ow S1.rs, cell.1, fun a ha => by
          rcases List.mem_append.mp ha with h | h
          · exact cell.2 a h
          · exact S1.off a h⟩
        have h1 : RS X.K X.mg F1 H1 (([⟨r0.k, r0.d⟩] : List B).map some) ([v].map some) c := by
          have := RS.yes (b := ⟨r0.k, r0.d⟩) ow (.nil (K := X.K) (mg := X.mg) (F := F1) (H := H1))
          rw [List.append_nil] at this
          exact this
        have h2 : RS X.K X.mg F1 H1 (none :: ρ') (some v :: σ) cs1 := .no S1.rs
        refine wpAny_call (codeAny_mono (run_fnG (args := ⟨us, []⟩) (us := us) (Fg.mono hjk) room guards (fun s _ => FnX.bind (P := X.prog) (w := X.w) (base := X.base) hb Fd (by rw [← rv.length]; rfl) s) rfl I1 rv (Sp.lent (List.Perm.refl _) h1) eg (Q := Q) fun v' H' b => ?_) fun res s' hq => ?_)
        · obtain ⟨F2, G2, cs2, W2, S2, sv2⟩ := back_lent (as := [.r 0]) (F0 := F1) Sp (List.Perm.refl _) h2 (.r rfl .nil) (by decide) (fun i hi => by
            have : i = 0 := by simpa [lent] using hi
            subst this; rfl) b
          obtain ⟨cs3, r3, sl⟩ : ∃ cs3, RS X.K X.mg F2 H' ρ' σ cs3 ∧ cs3.Sublist cs2 := by
            have rs := S2.rs
            obtain ⟨o, hz⟩ : ∃ o, push [.r 0] outs (none :: ρ') = o :: ρ' := by
              cases outs with
              | nil => exact ⟨none, rfl⟩
              | cons o os => exact ⟨o, by cases os <;> rfl⟩
            rw [hz] at rs
            cases rs with
            | no r => exact ⟨_, r, List.Sublist.refl _⟩
            | yes o r => exact ⟨_, r, List.sublist_append_right _ _⟩
          exact q F2 G2 H' cs3 v' (W.trans W2) (fun h => Bool.noConfusion h) (S2.sublist r3 sl) (sv2.sublist sl)
        · cases res with
          | error e => exact hq.elim
          | ok fl =>
            cases fl with
            | ret u => exact hq
            | next => exact hq.elim
            | brk => exact hq.elim
            | cont => exact hq.elim
      · cases e2
    · cases e2
  · cases e2
end
end Lk

set_option Elab.async false
set_option linter.all false
set_option maxRecDepth 100000
/-! LkS: names of the language, room. -/
namespace Lk
open PySem L2 PySem.Spec
theorem bt_len : bootBuiltins "len" = some (.builtin "len") := by decide +kernel
theorem bt_abs : bootBuiltins "abs" = some (.builtin "abs") := by decide +kernel
theorem bt_max : bootBuiltins "max" = some (.builtin "max") := by decide +kernel
theorem bt_min : bootBuiltins "min" = some (.builtin "min") := by decide +kernel
theorem bt_sum : bootBuiltins "sum" = some (.builtin "sum") := by decide +kernel
theorem bt_any : bootBuiltins "any" = some (.builtin "any") := by decide +kernel
theorem bt_all : bootBuiltins "all" = some (.builtin "all") := by decide +kernel
theorem bt_divmod : bootBuiltins "divmod" = some (.builtin "divmod") := by decide +kernel
theorem bt_sorted : bootBuiltins "sorted" = some (.builtin "sorted") := by decide +kernel
theorem bt_repr : bootBuiltins "repr" = some (.builtin "repr") := by decide +kernel
theorem bt_int : bootBuiltins "int" = some (.type "int") := by decide +kernel
theorem bt_bool : bootBuiltins "bool" = some (.type "bool") := by decide +kernel
theorem bt_str : bootBuiltins "str" = some (.type "str") := by decide +kernel
theorem bt_list : bootBuiltins "list" = some (.type "list") := by decide +kernel
theorem bt_tuple : bootBuiltins "tuple" = some (.type "tuple") := by decide +kernel
theorem hu64 {A : Around} {k : Nat} (r : Room k A) : A.units + 64 < cLine := by have := r.un; omega
theorem hu65 {A : Around} {k : Nat} (r : Room k A) : A.units + 65 < cLine := by have := r.un; omega
theorem hu100 {A : Around} {k : Nat} (r : Room k A) : A.units + 100 < cLine := by have := r.un; omega
theorem de_globI {X : Cx} {x : Str} {n : Int} {pos : Pos} (h : ∃ t, X.mg x = some (.int n t)) (hg : Gl X x := by rfl) (hd : (x == ("__debug__" : Str)) = false := by decide) : DE X true (.Name x pos) (mC (.int n)) := by
  obtain ⟨t, e⟩ := h
  exact de_glob (v := .int n) e ⟨t, rfl⟩ (fun _ => .int n) hg hd
end Lk

set_option Elab.async false
set_option linter.all false
set_option maxRecDepth 100000
/-! LkT: x[::-1]; three names at once. -/
namespace Lk
open PySem L2 PySem.Spec
section
variable {K : PySem.W.Frag} {mg : Str → Option Value} {F G H : Hp}
theorem RpA.rev : ∀ {vs : List V} {ds : List D}, RpA K mg F vs ds → RpA K mg F vs.reverse ds.reverse
  | _, _, .nil => .nil
  | _, _, .cons h t => by
    rw [List.reverse_cons, List.reverse_cons]
    exact t.rev.append (.cons h .nil)
def fRev : Nat → D → Option (Nat × D) := fun k d => match d with
  | .list ds => if k ≤ 1 then some (1, .list ds.reverse) else none
  | _ => none
theorem us_rev : UnS K mg (fun x H Q => ∃ a xs, x = .ref a ∧ SqL K H a xs ∧ ∀ p, H p = none → Q (.ref p) (upd H p (.lst xs.reverse))) fRev := fun F G H x ka da ca k d Q fg gh o e n => by
  unfold fRev at e
  split at e
  · split at e
    · rename_i ds hk
      cases e
      obtain ⟨a, vs, rfl, h, ra⟩ := o.list1 (fg.trans gh) hk
      exact ⟨a, vs, rfl, SqL.of h, fun p hp => n.lst fg gh ra.rev hp⟩
    · cases e
  · cases e
end
section
variable {X : Cx} {μ : Bool} {e a b c : Expr} {m : M R} {pos : Pos}
theorem de_rev {k : Nat} {p1 p2 p3 : Pos} (he : DE X μ e m) : DE X μ (.Subscript e (.Slice none none (some (.UnaryOp .USub (.Constant (.int 1) k p1) p2)) p3) pos) (mUn fRev m) :=
  pe_imp (pe_revL he) fun _ _ _ h => tE_un us_rev h
/-- all three laid down -/
def mPar3 (i j l : Nat) (ms : M (List D)) : M Fl := fun ρ => match ms ρ with
  | some ([d1, d2, d3], ρ1) => match stor i ⟨false, 0, d1⟩ ρ1 with
    | some ρ2 => match stor j ⟨false, 0, d2⟩ ρ2 with
      | some ρ3 => match stor l ⟨false, 0, d3⟩ ρ3 with
        | some ρ4 => some (.nx, ρ4)
        | none => none
      | none => none
    | none => none
  | _ => none
theorem ds_par3 {pr : List Nat} {i j l : Nat} {x y z : Str} {px py pz pt : Pos} {kt k2 pt2} {ms : M (List D)} (hc : X.calm = true) (nd : X.N.Nodup) (hi : X.N[i]? = some x) (hj : X.N[j]? = some y) (hl : X.N[l]? = some z) (hij : i ≠ j) (hil : i ≠ l) (hjl : j ≠ l)
    (hx : X.env.scope.names.lookup x = some .local) (hy : X.env.scope.names.lookup y = some .local) (hz : X.env.scope.names.lookup z = some .local) (ip : i ∉ pr) (jp : j ∉ pr) (lp : l ∉ pr) (ha : DF X μ [a, b, c] ms)
    (hw : swappedStores [.Tuple [.Name x px, .Name y py, .Name z pz] kt pt] (.Tuple [a, b, c] k2 pt2) X.env = pure (some [x, y, z]) := by rfl)
    (hs : swapsWithSole [.Tuple [.Name x px, .Name y py, .Name z pz] kt pt] (.Tuple [a, b, c] k2 pt2) pos.line X.env = pure false := by rfl) :
    DS X pr (.Assign [.Tuple [.Name x px, .Name y py, .Name z pz] kt pt] (.Tuple [a, b, c] k2 pt2) pos) (mPar3 i j l ms) :=
  ps_imp (ps_par3 hc nd hi hj hl hij hil hjl hx hy hz ha hw hs) fun D σ H ⟨F, G, ρ, cs, fl, ρ', S, e, q⟩ => by
    unfold mPar3 at e
    split at e
    · rename_i d1 d2 d3 ρ1 em
      split at e
      · rename_i ρ2 e2
        split at e
        · rename_i ρ3 e3
          split at e
          · rename_i ρ4 e4
            cases e
            refine ⟨F, G, ρ, cs, _, _, S, em, fun F1 G1 H1 cs1 vs W mo S1 ra => ?_⟩
            cases ra with
            | cons r1 ra =>
              cases ra with
              | cons r2 ra =>
                cases ra with
                | cons r3 ra =>
                  cases ra
                  obtain ⟨c2, S2, _⟩ := stor_ok (r := ⟨false, 0, d1⟩) S1 ⟨[], ow0 r1, fun h => Bool.noConfusion h⟩ e2
                  obtain ⟨c3, S3, _⟩ := stor_ok (r := ⟨false, 0, d2⟩) S2 ⟨[], ow0 r2, fun h => Bool.noConfusion h⟩ e3
                  obtain ⟨c4, S4, _⟩ := stor_ok (r := ⟨false, 0, d3⟩) S3 ⟨[], ow0 r3, fun h => Bool.noConfusion h⟩ e4
                  exact ⟨_, _, _, rfl, q F1 G1 H1 _ c4 W (fun t ht => by rw [set_pr lp ht, set_pr jp ht, set_pr ip ht]) S4⟩
          · cases e
        · cases e
      · cases e
    · cases e
/-- a, b, .. = a list or a tuple -/
def bQ (n : Nat) (c : List D → Sto → Option Sto) : D → Sto → Option Sto := fun d ρ => match d with
  | .tuple ds => if ds.length = n then c ds ρ else none
  | .list ds => if ds.length = n then c ds ρ else none
  | _ => none
theorem tg_seq {pr : List Nat} {es : List Expr} {kk n : Nat} {c : List D → Sto → Option Sto} (hc : X.calm = true) (h : DTgs X pr es c) (hn : (assignEach es X.env).length = n := by rfl) (hst : (assignEach es X.env).findIdx? (·.1) = none := by rfl) : DTg X pr (.Tuple es kk pos) (bQ n c) :=
  ⟨fun pins s σ H v u Q I r ⟨F, G, ρ, cs, d, ρ1, S, rp, e, q⟩ => by
    unfold bQ at e
    split at e
    · rename_i ds
      exact (tg_tup hc h hn hst).run pins s σ H v u Q I r ⟨F, G, ρ, cs, _, ρ1, S, rp, e, q⟩
    · rename_i ds
      split at e
      · rename_i hl
        cases rp with
        | @lst a vs ds hs ra => exact (pg_unl hc h hn hst).run pins s σ H _ u Q I r ⟨a, vs, rfl, SqL.of ((S.fg.trans S.gh) _ _ hs), ra.length.trans hl, F, G, ρ, cs, ds, ρ1, S, ra, e, q⟩
      · cases e
    · cases e⟩
/-- e.append(None), e a new list that nobody keeps -/
def mAppN (m : M R) : M R := fun ρ => match m ρ with
  | some (⟨true, 1, .list ds⟩, ρ1) => if ds.length < lim then some (⟨false, 0, .none⟩, ρ1) else none
  | _ => none
theorem de_appN {apos cpos p1 : Pos} {j : Nat} (he : DE X μ e m) (hbase : attributeBase e "append" X.env (eval e X.env) = eval e X.env := by rfl)
    (hfew : ((backTo cpos (starEach [.Constant .none j p1] X.env)).all (fun x => !x.1) && (backToKw cpos (keywordEach [] X.env)).all (fun x => x.1.isSome) && decide ([(.Constant .none j p1 : Expr)].length + ([] : List Keyword).length + (if ([] : List Keyword).isEmpty then 0 else 1) < 30)) = true := by rfl)
    (hline : (apos.endLine == cpos.line) = true := by rfl) (hst : starEach [.Constant .none j p1] X.env = (false, eval (.Constant .none j p1) X.env) :: starEach [] X.env := by rfl) (hpl : (backTo cpos (starEach [] X.env)).any (·.1) = false := by rfl) :
    DE X false (.Call (.Attribute e "append" apos) [.Constant .none j p1] [] cpos) (mAppN m) :=
  pe_imp (pe_bm PySem.F.plainAttrs_list PySem.F.slot_list_append PySem.F.type_list_append mt_append he (pa_cons pe_non pa_nil hst) hbase hfew hline hst hpl) fun σ H Q ⟨F, G, ρ, cs, r, ρ', S, e, q⟩ => by
    unfold mAppN at e
    split at e
    · rename_i ds ρ1 em
      split at e
      · rename_i hl
        cases e
        refine ⟨F, G, ρ, cs, _, _, S, em, fun F1 G1 H1 cs1 v W mo S1 sv => ?_⟩
        obtain ⟨c, o, hf⟩ := sv
        obtain ⟨nd, off⟩ := hf rfl
        obtain ⟨a, vs, ds', css, rfl, e2, e3, fa, e4⟩ : ∃ a vs ds' css, v = .ref a ∧ PyData.list ds = .list ds' ∧ H1 a = some (.lst vs) ∧ FA (Ow X.K X.mg F1 H1 0) vs ds' css ∧ c = a :: css := by
          rcases o with h | ⟨_, _, _, _, _, _, _, h, _⟩
          · exact h
          · cases h
        cases e2
        subst e4
        have ga : G1 a = none := off a List.mem_cons_self
        have na : a ∉ cs1 := fun h => (List.nodup_append.mp nd).2.2 a List.mem_cons_self a h rfl
        refine ⟨tyL e3, a, vs, .non, rfl, rfl, e3, lim_lt (by rw [fa.length]; exact hl), ?_⟩
        have ne : ∀ b, b ≠ a → upd H1 a (.lst (vs ++ [.non])) b = H1 b := fun b hb => upd_ne hb
        refine q F1 G1 _ cs1 _ W (fun h => Bool.noConfusion h) ⟨S1.fg, fun b o e => ?_, S1.rs.keep (Sub.refl _) fun b hb => ne b fun e => na (e ▸ hb), S1.nd, S1.off⟩ ⟨[], ow0 .non, fun h => Bool.noConfusion h⟩
        rw [ne b fun e' => by subst e'; rw [ga] at e; cases e]
        exact S1.gh b o e
      · cases e
    · cases e
end
end Lk

set_option Elab.async false
set_option linter.all false
set_option maxRecDepth 100000
/-! LkU: properties, methods of own objects, own == and !=, isinstance of anything, is True, index. -/
namespace Lk
open PySem L2 PySem.Spec

/-! ### instances by class -/
section
variable {X : Cx} {μ : Bool} {K : PySem.W.Frag} {mg : Str → Option Value} {F G H : Hp}
/-- an instance of c -/
def isOf (c : Str) (d : D) : Bool := match d with
  | .dict ((.str ck, .str c') :: _) => decide (ck = clsKey ∧ c' = c)
  | _ => false
theorem isOf_rp {c : Str} {v : V} {d : D} {C : Addr} (r : Rp K mg H v d) (h : isOf c d = true) (hC : mg c = some (.ref C)) : ∃ a dx fs kvs, v = .ref a ∧ d = .dict ((.str clsKey, .str c) :: kvs) ∧ H a = some (.ins C dx fs) ∧ RpF K mg H fs kvs := by
  unfold isOf at h
  split at h
  · rename_i ck c' kvs
    obtain ⟨h1, h2⟩ := of_decide_eq_true h
    subst h1 h2
    cases r with
    | ins hh e rf =>
      rw [hC] at e
      cases e
      exact ⟨_, _, _, _, rfl, rfl, hh, rf⟩
  · cases h
theorem look_no {f : Str} : ∀ {fs : List (Str × V)} {kvs : List (D × D)}, RpF K mg H fs kvs → attrOf.look f kvs = none → fs.lookup f = none
  | [], _, .nil, _ => rfl
  | (g, v) :: fs, _, .cons r t, e => by
    unfold attrOf.look at e
    split at e
    · cases e
    · rename_i hg
      have : (f == g) = false := beq_eq_false_iff_ne.mpr fun e => hg e.symm
      rw [List.lookup_cons, this]
      exact look_no t e

/-! ### e.f, a property -/
structure PropX (P : Program) (w : World) (K : PySem.W.Frag) (mg : Str → Option Value) (base : Heap) (j : Nat) (c f qual : Str) (st : Stmt) (g : Fn) : Prop where
  ex : ∃ (C p fa : Addr) (fd : FuncData), mg c = some (.ref C) ∧ Cls K C ∧ PropOf K C f p fa ∧ FnG P w K mg base j fa fd ["self"] g ∧ Fun K f qual st fa fd
def mProp (c : Str) (g : Fn) (m : M R) : M R := fun ρ => match m ρ with
  | some (r, ρ1) => if (r.fr || r.k == 0) = true ∧ isOf c r.d = true then match g [⟨0, r.d⟩] with
      | some (r', _) => some (r', ρ1)
      | none => none
    else none
  | none => none
theorem de_prop {e : Expr} {m : M R} {c f qual : Str} {st : Stmt} {g : Fn} {j k : Nat} {pos : Pos} (Px : PropX X.prog X.w X.K X.mg X.base j c f qual st g) (hjk : j + 1 ≤ k) (room : Room k X.A) (guards : X.A.guards = some []) (hb : BindP f qual st ["self"]) (he : DE X μ e m)
    (hab : attributeBase e f X.env (eval e X.env) = eval e X.env := by rfl) : DE X μ (.Attribute e f pos) (mProp c g m) := by
  obtain ⟨C, p, fa, fd, hC, cl, hp, Fg, Fd⟩ := Px.ex
  refine ⟨fun pins s σ H Q I h => ?_⟩
  obtain ⟨F, G, ρ, cs, rr, ρ', S, e2, q⟩ := h
  unfold mProp at e2
  split at e2
  · rename_i r ρ1 em
    split at e2
    · rename_i hc
      split at e2
      · rename_i r' outs eg
        cases e2
        refine attr_of hab (thn (he.run pins s σ H (fun v H1 => ∃ F1 G1 cs1, Fw F G F1 G1 ∧ (μ = true → Sub H H1) ∧ SR X.K X.mg F1 G1 H1 ρ' σ cs1 ∧ Rp X.K X.mg F1 v r.d) I ⟨F, G, ρ, cs, _, _, S, em, fun F1 G1 H1 cs1 v W mo S1 sv => ?_⟩) fun u s1 ⟨x, H1, I1, rx, F1, G1, cs1, W, mo, S1, rp⟩ => ?_)
        · obtain ⟨F2, G2, S2, W2, rp⟩ := sv.lay S1 hc.1
          exact ⟨F2, G2, cs1, W.trans W2, mo, S2, rp⟩
        · obtain ⟨a, dx, fs, kvs, rfl, hd, ea, rf⟩ := isOf_rp rp hc.2 hC
          obtain rfl : u = Value.ref a := rx
          have ea1 : H1 a = some (.ins C dx fs) := (S1.fg.trans S1.gh) _ _ ea
          obtain ⟨mA, O, _, _, _, _⟩ := ins_get I1.hok ea1
          obtain ⟨od, J, _⟩ := O.look
          obtain ⟨rest, hrec⟩ := hp.rec_
          have I2 := I1.tok (s1.toks + 1)
          have hcl : (PySem.W.clsIn X.K C).isSome = true := by
            obtain ⟨cd, hc, _⟩ := PySem.W.any_some cl.hd
            rw [hc]
            rfl
          have S2 := S1.all (RpA.cons rp .nil)
          refine PySem.W.get_bind I1.kIn J (PySem.W.plainGet_of (cl.get f)).1 (PySem.W.findObj_data hcl hp.at_ hp.get hp.tak) (PySem.W.plainGet_of (cl.get f)).2 (wpAny_call (PySem.W.prop_get (s := { s1 with toks := s1.toks + 1 }) I1.kIn hrec ?_))
          refine codeAny_mono (Fg.run X.A.in1 X.stack { s1 with toks := s1.toks + 1 } H1 ⟨[.ref a], []⟩ [.ref a] [.ref a] F1 H1 _ [] _ outs (room.mono hjk).in1 guards I2.env0.in1 (FnX.bind (P := X.prog) (w := X.w) (base := X.base) hb Fd (us := [.ref a]) rfl _) (.cons rfl .nil) rfl S2 eg) fun res s' hq => ?_
          cases res with
          | error er => exact False.elim hq
          | ok fl =>
            cases fl with
            | ret u =>
              obtain ⟨v, H', I3, rv, b⟩ := I2.after hq
              show wpAny _ _ (handedOut u) _ _ _
              rw [PySem.W.handedOut_of (handed_of rv)]
              obtain ⟨F2, G2, W2, gh, S3, sv⟩ := back_laid S1 b
              exact wpAny_pure ⟨v, H', I3, rv, q F2 G2 H' cs1 v (W.trans W2) (fun h => (mo h).trans gh) S3 sv⟩
            | next => exact False.elim hq
            | brk => exact False.elim hq
            | cont => exact False.elim hq
      · cases e2
    · cases e2
  · cases e2

/-! ### o.m(..), a method of an own object -/
structure MethX (P : Program) (w : World) (K : PySem.W.Frag) (mg : Str → Option Value) (base : Heap) (j : Nat) (c m qual : Str) (st : Stmt) (ps : List Str) (g : Fn) : Prop where
  ex : ∃ (C fa : Addr) (fd : FuncData), mg c = some (.ref C) ∧ Cls K C ∧ Meth K C m fa ∧ FnG P w K mg base j fa fd ps g ∧ Fun K m qual st fa fd
/-- fa in the class's own names -/
def noAttrD (f : Str) (d : D) : Bool := match d with
  | .dict (_ :: kvs) => (attrOf.look f kvs).isNone
  | _ => false
def mMeth (n : Nat) (c m : Str) (g : Fn) (mo : M R) (ms : M (List D)) : M R := fun ρ => match mo ρ with
  | some (r, ρ1) => if (r.fr || r.k == 0) = true ∧ isOf c r.d = true ∧ noAttrD m r.d = true then match ms ρ1 with
      | some (ds, ρ2) => if ds.length + 1 = n then match g (frz0 (r.d :: ds)) with
          | some (r', _) => some (r', ρ2)
          | none => none
        else none
      | none => none
    else none
  | none => none
theorem de_meth {o e : Expr} {es : List Expr} {mo : M R} {ms : M (List D)} {c m qual : Str} {st : Stmt} {ps : List Str} {g : Fn} {j k : Nat} {apos pos : Pos} {pl : Sem Bool} (Mx : MethX X.prog X.w X.K X.mg X.base j c m qual st ps g) (hjk : j ≤ k) (room : Room k X.A) (guards : X.A.guards = some []) (hb : BindP m qual st ps)
    (ho : DE X μ o mo) (ha : DF X μ (e :: es) ms)
    (hst : starEach (e :: es) X.env = (false, eval e X.env) :: starEach es X.env := by rfl) (hpl : (backTo pos (starEach es X.env)).any (·.1) = false := by rfl)
    (ht : eval (.Call (.Attribute o m apos) (e :: es) [] pos) X.env = (do
      let ov ← eval o X.env
      standAt apos.atName
      let (f, first) ← holding [ov] (getMethod ov m pl)
      callWith pos f first (backTo pos (starEach (e :: es) X.env)) (backToKw pos (keywordEach [] X.env))) := by rfl) :
    DE X μ (.Call (.Attribute o m apos) (e :: es) [] pos) (mMeth ps.length c m g mo ms) := by
  obtain ⟨C, fa, fd, hC, cl, hm, Fg, Fd⟩ := Mx.ex
  refine ⟨fun pins s σ H Q I h => ?_⟩
  obtain ⟨F, G, ρ, cs, rr, ρ', S, e2, q⟩ := h
  unfold mMeth at e2
  split at e2
  · rename_i r ρ1 em
    split at e2
    · rename_i hc
      split at e2
      · rename_i ds ρ2 es2
        split at e2
        · rename_i hlen
          split at e2
          · rename_i r' outs eg
            cases e2
            refine PySem.W.methodCall_KW (pl := pl) (thn (ho.run pins s σ H (fun v H1 => ∃ F1 G1 cs1, Fw F G F1 G1 ∧ (μ = true → Sub H H1) ∧ SR X.K X.mg F1 G1 H1 ρ1 σ cs1 ∧ Rp X.K X.mg F1 v r.d) I ⟨F, G, ρ, cs, _, _, S, em, fun F1 G1 H1 cs1 v W mo S1 sv => ?_⟩) fun u s1 ⟨x, H1, I1, rx, F1, G1, cs1, W, mo, S1, rp⟩ => ?_) ht
            · obtain ⟨F2, G2, S2, W2, rp⟩ := sv.lay S1 hc.1
              exact ⟨F2, G2, cs1, W.trans W2, mo, S2, rp⟩
            · obtain ⟨a, dx, fs, kvs, rfl, hd, ea, rf⟩ := isOf_rp rp hc.2.1 hC
              obtain rfl : u = Value.ref a := rx
              have ea1 : H1 a = some (.ins C dx fs) := (S1.fg.trans S1.gh) _ _ ea
              have hno : fs.lookup m = none := look_no rf (by
                have := hc.2.2
                rw [hd] at this
                simpa [noAttrD] using this)
              refine getmeth_ok I1 ea1 cl hm hno ?_
              refine PySem.W.callWith_K (first := [.ref a]) (h₀ := X.base) I.ok.mod.kin hm.kp (thn (ha.run pos pins s1 σ H1 (fun vs H2 => ∃ F2 G2 cs2, Fw F1 G1 F2 G2 ∧ (μ = true → Sub H1 H2) ∧ SR X.K X.mg F2 G2 H2 ρ' σ cs2 ∧ RpA X.K X.mg F2 vs ds) I1 ⟨F1, G1, ρ1, cs1, _, _, S1, es2, fun F2 G2 H2 cs2 vs W2 mo2 S2 ra => ⟨F2, G2, cs2, W2, mo2, S2, ra⟩⟩) fun us s2 ⟨vs, H2, I2, rv, F2, G2, cs2, W2, mo2, S2, ra⟩ => ⟨I2.kIn, ?_⟩) hst hpl
              have ra2 : RpA X.K X.mg F2 (V.ref a :: vs) (r.d :: ds) := .cons (rp.sub W2.f) ra
              have vl : (V.ref a :: vs).length = ps.length := by rw [List.length_cons, ra.length]; exact hlen
              refine wpAny_call (codeAny_mono (run_fnG (args := ⟨[Value.ref a] ++ us, []⟩) (us := .ref a :: us) (Fg.mono hjk) room guards (fun s _ => FnX.bind (P := X.prog) (w := X.w) (base := X.base) hb Fd (by have v2 := vl; have v3 := rv.length; simp at v2 ⊢; omega) s) vl I2 (.cons rfl rv) (S2.all ra2) eg (Q := Q) fun v H' b => ?_) fun res s' hq => ?_)
              · obtain ⟨F3, G3, W3, gh, S3, sv⟩ := back_laid S2 b
                exact q F3 G3 H' cs2 v (W.trans (W2.trans W3)) (fun h => (mo h).trans ((mo2 h).trans gh)) S3 sv
              · cases res with
                | error e => exact hq.elim
                | ok fl =>
                  cases fl with
                  | ret u => exact hq
                  | next => exact hq.elim
                  | brk => exact hq.elim
                  | cont => exact hq.elim
          · cases e2
        · cases e2
      · cases e2
    · cases e2
  · cases e2
/-- o.m() -/
theorem de_meth0 {o : Expr} {mo : M R} {c m qual : Str} {st : Stmt} {g : Fn} {j k : Nat} {apos pos : Pos} {pl : Sem Bool} (Mx : MethX X.prog X.w X.K X.mg X.base j c m qual st ["self"] g) (hjk : j ≤ k) (room : Room k X.A) (guards : X.A.guards = some []) (hb : BindP m qual st ["self"])
    (ho : DE X μ o mo)
    (ht : eval (.Call (.Attribute o m apos) [] [] pos) X.env = (do
      let ov ← eval o X.env
      standAt apos.atName
      let (f, first) ← holding [ov] (getMethod ov m pl)
      callWith pos f first (backTo pos (starEach [] X.env)) (backToKw pos (keywordEach [] X.env))) := by rfl) :
    DE X μ (.Call (.Attribute o m apos) [] [] pos) (mMeth 1 c m g mo mF0) := by
  obtain ⟨C, fa, fd, hC, cl, hm, Fg, Fd⟩ := Mx.ex
  refine ⟨fun pins s σ H Q I h => ?_⟩
  obtain ⟨F, G, ρ, cs, rr, ρ', S, e2, q⟩ := h
  unfold mMeth mF0 at e2
  split at e2
  · rename_i r ρ1 em
    split at e2
    · rename_i hc
      simp only [List.length_nil, Nat.zero_add, if_true] at e2
      split at e2
      · rename_i r' outs eg
        cases e2
        refine PySem.W.methodCall_KW (pl := pl) (thn (ho.run pins s σ H (fun v H1 => ∃ F1 G1 cs1, Fw F G F1 G1 ∧ (μ = true → Sub H H1) ∧ SR X.K X.mg F1 G1 H1 ρ' σ cs1 ∧ Rp X.K X.mg F1 v r.d) I ⟨F, G, ρ, cs, _, _, S, em, fun F1 G1 H1 cs1 v W mo S1 sv => ?_⟩) fun u s1 ⟨x, H1, I1, rx, F1, G1, cs1, W, mo, S1, rp⟩ => ?_) ht
        · obtain ⟨F2, G2, S2, W2, rp⟩ := sv.lay S1 hc.1
          exact ⟨F2, G2, cs1, W.trans W2, mo, S2, rp⟩
        · obtain ⟨a, dx, fs, kvs, rfl, hd, ea, rf⟩ := isOf_rp rp hc.2.1 hC
          obtain rfl : u = Value.ref a := rx
          have ea1 : H1 a = some (.ins C dx fs) := (S1.fg.trans S1.gh) _ _ ea
          have hno : fs.lookup m = none := look_no rf (by
            have := hc.2.2
            rw [hd] at this
            simpa [noAttrD] using this)
          refine getmeth_ok I1 ea1 cl hm hno ?_
          refine PySem.W.callWith_K0 (first := [.ref a]) I1.kIn hm.kp ?_
          refine wpAny_call (codeAny_mono (run_fnG (args := ⟨[Value.ref a] ++ [], []⟩) (us := [.ref a]) (vs := [.ref a]) (Fg.mono hjk) room guards (fun s _ => FnX.bind (P := X.prog) (w := X.w) (base := X.base) hb Fd rfl s) rfl I1 (.cons rfl .nil) (S1.all (.cons rp .nil)) eg (Q := Q) fun v H' b => ?_) fun res s' hq => ?_)
          · obtain ⟨F3, G3, W3, gh, S3, sv⟩ := back_laid S1 b
            exact q F3 G3 H' cs1 v (W.trans W3) (fun h => (mo h).trans gh) S3 sv
          · cases res with
            | error e => exact hq.elim
            | ok fl =>
              cases fl with
              | ret u => exact hq
              | next => exact hq.elim
              | brk => exact hq.elim
              | cont => exact hq.elim
      · cases e2
    · cases e2
  · cases e2
/-- o.m(x=..) -/
theorem de_methK {o : Expr} {kws : List Keyword} {mo : M R} {mk : M (List D)} {c m qual : Str} {st : Stmt} {ps ks : List Str} {g : Fn} {j k n : Nat} {apos pos : Pos} {pl : Sem Bool} (Mx : MethX X.prog X.w X.K X.mg X.base j c m qual st ps g) (hjk : j ≤ k) (room : Room k X.A) (guards : X.A.guards = some [])
    (hb : ∀ (kV doc pm : Value) (an : Option Addr) (cdv ct : Value) (u : Value) (ws : List Value), ws.length = n → bindArgs (PySem.W.fnOf m qual (defArgs st) (defBody st) (defScope st) .none kV doc pm an cdv ct) ⟨[u], ks.zip ws⟩ = pure (ps.zip (u :: ws))) (hn : n + 1 = ps.length)
    (ho : DE X μ o mo) (hk : DFk X μ kws mk)
    (hall : (backToKw pos (keywordEach kws X.env)).all (·.1.isSome) = true := by rfl) (hks : (backToKw pos (keywordEach kws X.env)).filterMap (·.1) = ks := by rfl)
    (hpl : ((backTo pos (starEach [] X.env)).any (·.1) || (backToKw pos (keywordEach kws X.env)).any (·.1.isNone)) = false := by rfl)
    (ht : eval (.Call (.Attribute o m apos) [] kws pos) X.env = (do
      let ov ← eval o X.env
      standAt apos.atName
      let (f, first) ← holding [ov] (getMethod ov m pl)
      callWith pos f first (backTo pos (starEach [] X.env)) (backToKw pos (keywordEach kws X.env))) := by rfl) :
    DE X μ (.Call (.Attribute o m apos) [] kws pos) (mMeth ps.length c m g mo mk) := by
  obtain ⟨C, fa, fd, hC, cl, hm, Fg, Fd⟩ := Mx.ex
  refine ⟨fun pins s σ H Q I h => ?_⟩
  obtain ⟨F, G, ρ, cs, rr, ρ', S, e2, q⟩ := h
  unfold mMeth at e2
  split at e2
  · rename_i r ρ1 em
    split at e2
    · rename_i hc
      split at e2
      · rename_i ds ρ2 es2
        split at e2
        · rename_i hlen
          split at e2
          · rename_i r' outs eg
            cases e2
            refine PySem.W.methodCall_KW (pl := pl) (thn (ho.run pins s σ H (fun v H1 => ∃ F1 G1 cs1, Fw F G F1 G1 ∧ (μ = true → Sub H H1) ∧ SR X.K X.mg F1 G1 H1 ρ1 σ cs1 ∧ Rp X.K X.mg F1 v r.d) I ⟨F, G, ρ, cs, _, _, S, em, fun F1 G1 H1 cs1 v W mo S1 sv => ?_⟩) fun u s1 ⟨x, H1, I1, rx, F1, G1, cs1, W, mo, S1, rp⟩ => ?_) ht
            · obtain ⟨F2, G2, S2, W2, rp⟩ := sv.lay S1 hc.1
              exact ⟨F2, G2, cs1, W.trans W2, mo, S2, rp⟩
            · obtain ⟨a, dx, fs, kvs, rfl, hd, ea, rf⟩ := isOf_rp rp hc.2.1 hC
              obtain rfl : u = Value.ref a := rx
              have ea1 : H1 a = some (.ins C dx fs) := (S1.fg.trans S1.gh) _ _ ea
              have hno : fs.lookup m = none := look_no rf (by
                have := hc.2.2
                rw [hd] at this
                simpa [noAttrD] using this)
              refine getmeth_ok I1 ea1 cl hm hno ?_
              refine PySem.W.callWith_KW0 (first := [.ref a]) (h₀ := X.base) I.ok.mod.kin hm.kp hall (thn (hk.run pos pins s1 σ H1 (fun vs H2 => ∃ F2 G2 cs2, Fw F1 G1 F2 G2 ∧ (μ = true → Sub H1 H2) ∧ SR X.K X.mg F2 G2 H2 ρ' σ cs2 ∧ RpA X.K X.mg F2 vs ds) I1 ⟨F1, G1, ρ1, cs1, _, _, S1, es2, fun F2 G2 H2 cs2 vs W2 mo2 S2 ra => ⟨F2, G2, cs2, W2, mo2, S2, ra⟩⟩) fun us s2 ⟨vs, H2, I2, rv, F2, G2, cs2, W2, mo2, S2, ra⟩ => ⟨I2.kIn, ?_⟩) hpl
              rw [hks]
              have ra2 : RpA X.K X.mg F2 (V.ref a :: vs) (r.d :: ds) := .cons (rp.sub W2.f) ra
              have vl : (V.ref a :: vs).length = ps.length := by rw [List.length_cons, ra.length]; exact hlen
              have un : us.length = n := by rw [← rv.length, ra.length]; omega
              refine wpAny_call (codeAny_mono (run_fnG (args := ⟨[Value.ref a] ++ [], ks.zip us⟩) (us := .ref a :: us) (Fg.mono hjk) room guards (fun s _ => ?_) vl I2 (.cons rfl rv) (S2.all ra2) eg (Q := Q) fun v H' b => ?_) fun res s' hq => ?_)
              · obtain ⟨oc, od, kV, doc, pm, an, cdv, ct, osl, rfl, _, _⟩ := Fd.ex
                exact .of_eq (hb kV doc pm an cdv ct _ us un)
              · obtain ⟨F3, G3, W3, gh, S3, sv⟩ := back_laid S2 b
                exact q F3 G3 H' cs2 v (W.trans (W2.trans W3)) (fun h => (mo h).trans ((mo2 h).trans gh)) S3 sv
              · cases res with
                | error e => exact hq.elim
                | ok fl =>
                  cases fl with
                  | ret u => exact hq
                  | next => exact hq.elim
                  | brk => exact hq.elim
                  | cont => exact hq.elim
          · cases e2
        · cases e2
      · cases e2
    · cases e2
  · cases e2
end
end Lk

set_option Elab.async false
set_option linter.all false
set_option maxRecDepth 100000
/-! LkV: own == and !=, isinstance of anything, is True, index. -/
namespace PySem.W
open PySem PySem.Calls PyProof.Rows Builtin
section
variable {prog : Program} {w : World} {A : Around} {E : Value → Shared → Prop} {s : Shared} {K : Frag} {x C L f : Addr} {h₀ : Heap} {m : Str → Option Value} {ox : Obj} {od : Option Obj} {name : Str} {b tb : Value}
theorem lk_ifBound_B {M : Model} {args : List Value} {id : String} {Q : Option Value → Shared → Prop} (X : K.In s.heap) (I : InstAt s.heap x ox C od) (hs : findIn K (.ref C) name = some (some (.builtin id))) (hb : ∀ self, bindSpecial (.builtin id) self = pure (.builtin id, [self]))
    (h : wpAny M A (call (.builtin id) (.ref x :: args)) (fun v => Q (some v)) E s) : wpAny M A (callSpecialIfBound? (.ref x) name args) Q E s := by
  simp only [callSpecialIfBound?, bindSpecialIfBound?]
  refine wpAny_holding (wpAny_bind (wpAny_bind (wpAny_bind (I.type.here ((looks_findIn X hs).here ?_)))))
  simp only [hb]
  refine wpAny_bind (wpAny_askSetting (wpAny_ite ?_))
  have fin : wpAny M A (call (.builtin id) ([.ref x] ++ args) >>= fun v => pure (some v)) Q E s := wpAny_bind (wpAny_mono h (fun v s' h' => wpAny_pure h') fun _ _ h' => h')
  split
  · exact wpAny_bind (wpAny_pure (wpAny_pure fin))
  · exact wpAny_tryCatch (wpAny_bind (wpAny_pure (wpAny_pure fin)))
theorem lk_ne_K {Q : Value → Shared → Prop} (hu : A.units + 2 < cLine) (Fz : Fr h₀ L s.heap m) (X₀ : K.In h₀) (I : InstAt s.heap x ox C od) (hb : Looks (model prog w) s.heap (typeOf b) tb) (hn : notFirst K C tb = true)
    (hne : findIn K (.ref C) "__ne__" = some (some (.builtin "object.__ne__"))) (hm : mroIn K C (.type "object") = some true) (hs : findIn K (.ref C) "__eq__" = some (some (.ref f))) (hf : isFn K (.ref f) = true)
    (h : codeAny (model prog w) A.in1 (.call (.ref f) ⟨[.ref x, b], []⟩) (fun res s' => match res with
      | .ok (.ret v) => ∃ r, v = .bool r ∧ Q (.bool (!r)) s'
      | _ => False) s) : wpAny (model prog w) A (richCompare .NotEq (.ref x) b) Q E s := by
  have X := X₀.keeps Fz.keep
  have hi : Looks (model prog w) s.heap (isInstance (.ref x) (.type "object")) true := I.type.andThen (looks_mroIn X hm)
  have one : wpAny (model prog w) A (tryCompare (.ref x) (cmpInfo .NotEq).2.1 b) (fun r s' => ∃ v, r = some v ∧ Q v s') E s := by
    unfold tryCompare
    refine wpAny_bind (lk_ifBound_B X I hne F.cmp_object.ne.bind (wpAny_call (codeAny_call_builtin F.cmp_object.ne.plain F.cmpEntry_ne (check_slot F.cmpKind_ne F.cmpSplit_ne hi (F.cmpArgs_ne _ _) ?_))))
    unfold Builtin.«object.__ne__»
    have hu1 : A.in1.units < cLine := by show A.units + 1 < cLine; omega
    repeat (first | with_reducible refine wpAny_cRoomFor hu1 ?_ | with_reducible refine ifBound_K X I hs hf ?_ | wp_step)
    refine codeAny_mono h fun res s' hv => ?_
    cases res with
    | error e => exact hv.elim
    | ok fl =>
      cases fl with
      | ret v =>
        obtain ⟨r, rfl, q⟩ := hv
        repeat wp_step
        exact ⟨_, rfl, q⟩
      | next => exact hv.elim
      | brk => exact hv.elim
      | cont => exact hv.elim
  unfold richCompare
  simp only [oneThing_ref]
  refine wpAny_holding (wpAny_bind (wpAny_cRoomFor (by omega) ?_))
  refine wpAny_bind (I.type.here (wpAny_bind (hb.here ?_)))
  split
  · rename_i q
    have e : subIn K tb (.ref C) = some false := by
      rcases Bool.or_eq_true_iff.mp hn with e | e
      · rw [beq_iff_eq.mp e] at q; simp at q
      · exact beq_iff_eq.mp e
    refine wpAny_bind ((looks_subIn X e).here ?_)
    simp only [Bool.false_eq_true, if_false]
    refine wpAny_bind (wpAny_mono one (fun r s' z => ?_) fun _ _ e => e)
    obtain ⟨v, rfl, hq⟩ := z
    exact wpAny_pure hq
  · refine wpAny_bind (wpAny_pure ?_)
    simp only [Bool.false_eq_true, if_false]
    refine wpAny_bind (wpAny_mono one (fun r s' z => ?_) fun _ _ e => e)
    obtain ⟨v, rfl, hq⟩ := z
    exact wpAny_pure hq
end
end PySem.W
namespace Lk
open PySem L2 PySem.Spec
section
variable {X : Cx} {μ : Bool} {K : PySem.W.Frag} {mg : Str → Option Value} {F G H : Hp}
theorem sub_builtin (K : PySem.W.Frag) (C : Addr) : ∀ t ∈ tyNames, PySem.W.subIn K (.type t) (.ref C) = some false := by
  intro t ht
  simp only [tyNames, List.mem_cons, List.not_mem_nil, or_false] at ht
  rcases ht with rfl | rfl | rfl | rfl | rfl | rfl <;> (unfold PySem.W.subIn; kernel_rfl)
/-- what is known of other classes beside C -/
structure OthX (K : PySem.W.Frag) (mg : Str → Option Value) (C : Addr) (c' : Str) : Prop where
  ex : ∃ C' : Addr, mg c' = some (.ref C') ∧ ClsI K C' ∧ PySem.W.subIn K (.ref C') (.ref C) = some false ∧ PySem.W.kitOne K (.ref C') (.ref C) = some false
structure EqX (P : Program) (w : World) (K : PySem.W.Frag) (mg : Str → Option Value) (base : Heap) (j : Nat) (c : Str) (os : List Str) (qual : Str) (st : Stmt) (g : Fn) : Prop where
  ex : ∃ (C fa : Addr) (fd : FuncData), mg c = some (.ref C) ∧ ClsI K C ∧ PySem.W.findIn K (.ref C) "__eq__" = some (some (.ref fa)) ∧ PySem.W.isFn K (.ref fa) = true ∧ PySem.W.findIn K (.ref C) "__ne__" = some (some (.builtin "object.__ne__")) ∧
    (∀ c' ∈ os, OthX K mg C c') ∧ FnG P w K mg base j fa fd ["self", "other"] g ∧ Fun K "__eq__" qual st fa fd
/-- the right side: one of the same class, of a built-in class, of one of these -/
def okR (c : Str) (os : List Str) (d : D) : Bool := isOf c d || (tyN d).isSome || os.any fun c' => isOf c' d
theorem tyx_of {c : Str} {os : List Str} {v : V} {d : D} {C : Addr} (r : Rp K mg H v d) (h : okR c os d = true) (hC : mg c = some (.ref C)) (cl : ClsI K C) (ho : ∀ c' ∈ os, OthX K mg C c') :
    ∃ t, TyX K H v t ∧ PySem.W.notFirst K C t = true ∧ (isOf c d = true → t = .ref C) ∧ (isOf c d = false → (∃ T ∈ tyNames, t = .type T) ∨ PySem.W.kitOne K t (.ref C) = some false) := by
  unfold okR at h
  by_cases h1 : isOf c d = true
  · obtain ⟨a, dx, fs, kvs, rfl, hd, ea, rf⟩ := isOf_rp r h1 hC
    refine ⟨.ref C, .base (.ins ea cl.cl cl.ha cl.hn cl.htk cl.hm), ?_, fun _ => rfl, fun h => absurd h1 (by rw [h]; simp)⟩
    unfold PySem.W.notFirst
    simp
  · simp only [h1, Bool.false_or, Bool.or_eq_true] at h
    rcases h with h | h
    · obtain ⟨t, ht⟩ := Option.isSome_iff_exists.mp h
      refine ⟨.type t, rp_ty r ht, ?_, fun h => absurd h h1, fun _ => .inl ⟨t, tyN_mem ht, rfl⟩⟩
      unfold PySem.W.notFirst
      rw [sub_builtin K C t (tyN_mem ht)]
      simp
    · obtain ⟨c', hc', hi⟩ := List.any_eq_true.mp h
      obtain ⟨C', e1, e2, e3, e4⟩ := (ho c' hc').ex
      obtain ⟨a, dx, fs, kvs, rfl, hd, ea, rf⟩ := isOf_rp r hi e1
      refine ⟨.ref C', .base (.ins ea e2.cl e2.ha e2.hn e2.htk e2.hm), ?_, fun h => absurd h h1, fun _ => .inr e4⟩
      unfold PySem.W.notFirst
      rw [e3]
      simp
def rEqI (K : PySem.W.Frag) (mg : Str → Option Value) (c : Str) (os : List Str) (g : Fn) (ng : Bool) : R2 := fun x y H Q => ∃ da db fr b outs, Rp K mg H x da ∧ Rp K mg H y db ∧ isOf c da = true ∧ okR c os db = true ∧ g [⟨0, da⟩, ⟨0, db⟩] = some (⟨fr, 0, .bool b⟩, outs) ∧
  ∀ H', Sub H H' → Q (.bl (if ng then !b else b)) H'
theorem all_top {vs : List V} {ds : List D} (r : RpA K mg H vs ds) : SR K mg H H H ((frz0 ds).map some) (vs.map some) [] := ⟨Sub.refl _, Sub.refl _, r.rs, .nil, fun a h => nomatch h⟩
theorem back_bl {outs : List (Option B)} {vs : List V} {fr b : Bool} {v : V} {H' : Hp} (q : Back K mg H H outs vs ⟨fr, 0, .bool b⟩ v H') : v = .bl b ∧ Sub H H' := by
  obtain ⟨F', G', cs', W, S', ⟨c, o, _⟩, _⟩ := q
  obtain ⟨_, rp⟩ := o
  cases rp
  exact ⟨rfl, W.g.trans S'.gh⟩
variable {c qual : Str} {os : List Str} {st : Stmt} {g : Fn} {j k : Nat}
theorem op_eqI (Ex : EqX X.prog X.w X.K X.mg X.base j c os qual st g) (hjk : j + 1 ≤ k) (room : Room k X.A) (guards : X.A.guards = some []) (hb : BindP "__eq__" qual st ["self", "other"]) : OpR X (compareOp .Eq) (rEqI X.K X.mg c os g false) := by
  obtain ⟨C, fa, fd, hC, cl, he, hfn, hne, ho, Fg, Fd⟩ := Ex.ex
  intro pins s σ H x y v u Q I rx ry ⟨da, db, fr, b, outs, ra, rb, ha, hk, eg, q⟩
  obtain ⟨a, dx, fs, kvs, rfl, hd, ea, rf⟩ := isOf_rp ra ha hC
  obtain rfl : v = Value.ref a := rx
  obtain ⟨mA, O, _⟩ := ins_get I.hok ea
  obtain ⟨od, J, _⟩ := O.look
  obtain ⟨m, hF⟩ := I.fr
  obtain ⟨t, ty, nf, _⟩ := tyx_of rb hk hC cl ho
  obtain ⟨P, Z, p, _⟩ := kit_of I ry ty
  show wpAny _ X.A (richCompare .Eq (.ref a) u) _ _ s
  refine PySem.W.cmp_K (op := .Eq) room.units0 hF I.ok.mod.kin J (Z.ty _ _ I.kIn p) nf he hfn ?_
  refine wpAny_call (codeAny_mono (run_fnG (args := ⟨[.ref a, u], []⟩) (us := [.ref a, u]) (vs := [.ref a, y]) (Fg.mono (Nat.le_of_succ_le hjk)) room guards (fun s _ => FnX.bind (P := X.prog) (w := X.w) (base := X.base) hb Fd rfl s) rfl I (.cons rfl (.cons ry .nil)) (all_top (.cons ra (.cons rb .nil))) eg (Q := fun v H' => v = .bl b ∧ Sub H H') fun v H' bk => back_bl bk) fun res s' hq => ?_)
  cases res with
  | error e => exact hq.elim
  | ok fl =>
    cases fl with
    | ret w =>
      obtain ⟨z, H', I', rz, ez, ex⟩ := hq
      subst ez
      cases rz
      exact ⟨.bl b, H', I', rfl, q H' ex⟩
    | next => exact hq.elim
    | brk => exact hq.elim
    | cont => exact hq.elim
theorem op_neI (Ex : EqX X.prog X.w X.K X.mg X.base j c os qual st g) (hjk : j + 1 ≤ k) (room : Room k X.A) (guards : X.A.guards = some []) (hb : BindP "__eq__" qual st ["self", "other"]) : OpR X (compareOp .NotEq) (rEqI X.K X.mg c os g true) := by
  obtain ⟨C, fa, fd, hC, cl, he, hfn, hne, ho, Fg, Fd⟩ := Ex.ex
  intro pins s σ H x y v u Q I rx ry ⟨da, db, fr, b, outs, ra, rb, ha, hk, eg, q⟩
  obtain ⟨a, dx, fs, kvs, rfl, hd, ea, rf⟩ := isOf_rp ra ha hC
  obtain rfl : v = Value.ref a := rx
  obtain ⟨mA, O, _⟩ := ins_get I.hok ea
  obtain ⟨od, J, _⟩ := O.look
  obtain ⟨m, hF⟩ := I.fr
  obtain ⟨t, ty, nf, _⟩ := tyx_of rb hk hC cl ho
  obtain ⟨P, Z, p, _⟩ := kit_of I ry ty
  show wpAny _ X.A (richCompare .NotEq (.ref a) u) _ _ s
  refine PySem.W.lk_ne_K (by have := room.units; omega) hF I.ok.mod.kin J (Z.ty _ _ I.kIn p) nf hne cl.hm he hfn ?_
  have e1 : Env0 X.prog X.w X.K X.mg X.base X.A.in1 X.stack s H := I.env0.in1
  refine codeAny_mono (Fg.run X.A.in1 X.stack s H ⟨[.ref a, u], []⟩ [.ref a, u] [.ref a, y] H H _ [] _ outs (room.mono hjk).in1 guards e1 (FnX.bind (P := X.prog) (w := X.w) (base := X.base) hb Fd rfl s) (.cons rfl (.cons ry .nil)) rfl (all_top (.cons ra (.cons rb .nil))) eg) fun res s' hq => ?_
  cases res with
  | error e => exact False.elim hq
  | ok fl =>
    cases fl with
    | ret w =>
      obtain ⟨z, H', I', rz, bk⟩ := I.after hq
      obtain ⟨ez, ex⟩ := back_bl bk
      subst ez
      cases rz
      exact ⟨b, rfl, .bl (!b), H', I', rfl, q H' ex⟩
    | next => exact False.elim hq
    | brk => exact False.elim hq
    | cont => exact False.elim hq
/-- == of any two: own where the left one is an instance of c -/
def fEqI (ng : Bool) (c : Str) (os : List Str) (g : Fn) : Op2 := fun ka da kb db => if isOf c da = true then (if okR c os db = true then match g [⟨0, da⟩, ⟨0, db⟩] with
    | some (⟨_, 0, .bool b⟩, _) => some (0, .bool (if ng then !b else b))
    | _ => none
  else none) else if ng then fNe ka da kb db else fEq ka da kb db
theorem opr_or {f : Value → Value → Sem Value} {r r' : R2} (h : OpR X f r) (h' : OpR X f r') : OpR X f (fun x y H Q => r x y H Q ∨ r' x y H Q) := fun pins s σ H x y v u Q I rx ry hq => hq.elim (h pins s σ H x y v u Q I rx ry) (h' pins s σ H x y v u Q I rx ry)
theorem os_eqI : OpS K mg (fun x y H Q => rEqI K mg c os g false x y H Q ∨ rEqD K x y H Q) (fEqI false c os g) := fun F G H x y ka da kb db ca cb k d Q fg gh oa ob e n => by
  unfold fEqI at e
  split at e
  · rename_i hi
    split at e
    · rename_i hk
      split at e
      · rename_i fr b outs eg
        cases e
        exact .inl ⟨da, db, _, b, _, oa.rpH (fg.trans gh), ob.rpH (fg.trans gh), hi, hk, eg, fun H' s => n F G H' _ [] ⟨fun _ _ => rfl, fun _ _ => rfl, s, fg, gh.trans s⟩ (ow0 (.bl _)) .nil fun a h => nomatch h⟩
      · cases e
    · cases e
  · exact .inr (os_eq F G H x y ka da kb db ca cb k d Q fg gh oa ob (by simpa using e) n)
theorem os_neI : OpS K mg (fun x y H Q => rEqI K mg c os g true x y H Q ∨ rNeD K x y H Q) (fEqI true c os g) := fun F G H x y ka da kb db ca cb k d Q fg gh oa ob e n => by
  unfold fEqI at e
  split at e
  · rename_i hi
    split at e
    · rename_i hk
      split at e
      · rename_i fr b outs eg
        cases e
        exact .inl ⟨da, db, _, b, _, oa.rpH (fg.trans gh), ob.rpH (fg.trans gh), hi, hk, eg, fun H' s => n F G H' _ [] ⟨fun _ _ => rfl, fun _ _ => rfl, s, fg, gh.trans s⟩ (ow0 (.bl _)) .nil fun a h => nomatch h⟩
      · cases e
    · cases e
  · exact .inr (os_ne F G H x y ka da kb db ca cb k d Q fg gh oa ob (by simpa using e) n)

/-! ### is True, is False -/
def fIsB (ng : Bool) : Op2 := fun ka da kb db => match da, db with
  | .bool a, .bool b => if ka = 0 ∧ kb = 0 then some (0, .bool (if ng then !decide (a = b) else decide (a = b))) else none
  | _, _ => none
theorem os_isB : OpS K mg rIsB (fIsB false) := fun F G H x y ka da kb db ca cb k d Q fg gh oa ob e n => by
  unfold fIsB at e
  split at e
  · rename_i a b
    split at e
    · rename_i hk
      obtain ⟨rfl, rfl⟩ := hk
      cases e
      obtain ⟨_, r1⟩ := oa
      obtain ⟨_, r2⟩ := ob
      cases r1
      cases r2
      exact ⟨a, b, rfl, rfl, n.sc fg gh (.bl _)⟩
    · cases e
  · cases e
theorem os_isnotB : OpS K mg rNotB (fIsB true) := fun F G H x y ka da kb db ca cb k d Q fg gh oa ob e n => by
  unfold fIsB at e
  split at e
  · rename_i a b
    split at e
    · rename_i hk
      obtain ⟨rfl, rfl⟩ := hk
      cases e
      obtain ⟨_, r1⟩ := oa
      obtain ⟨_, r2⟩ := ob
      cases r1
      cases r2
      exact ⟨a, b, rfl, rfl, n.sc fg gh (.bl _)⟩
    · cases e
  · cases e

/-! ### isinstance(e, C), e anything -/
structure IsiX (K : PySem.W.Frag) (mg : Str → Option Value) (c : Str) (os : List Str) : Prop where
  ex : ∃ C : Addr, mg c = some (.ref C) ∧ ClsI K C ∧ PySem.W.typeIn K (.ref C) = some (.type "type") ∧ ∀ c' ∈ os, OthX K mg C c'
def fIsiA (c : Str) (os : List Str) : Nat → D → Option (Nat × D) := fun _ d => if okR c os d = true then some (0, .bool (isOf c d)) else none
variable {e : Expr} {m : M R} {p p2 pos : Pos}
theorem de_isiA {x : Str} (hm : X.mg "isinstance" = none) (Ix : IsiX X.K X.mg x os) (he : DE X μ e m) (hg : Gl X "isinstance" := by rfl) (hg2 : Gl X x := by rfl) (hd : (x == ("__debug__" : Str)) = false := by decide)
    (hst : starEach [e, .Name x p2] X.env = (false, eval e X.env) :: starEach [.Name x p2] X.env := by rfl) (hst2 : starEach [.Name x p2] X.env = (false, eval (.Name x p2) X.env) :: starEach [] X.env := by rfl) (hpl : (backTo pos (starEach [.Name x p2] X.env)).any (·.1) = false := by rfl) :
    DE X μ (.Call (.Name "isinstance" p) [e, .Name x p2] [] pos) (mUn (fIsiA x os) m) := by
  obtain ⟨C, hC, cl, hty, ho⟩ := Ix.ex
  refine pe_imp (pe_callB call_isi hg hm (by decide +kernel) (pa_cons he (pa_cons (pe_glob (v := .ref C) hg2 hC rfl hd) pa_nil hst2) hst) (by decide) (by decide) hst hpl) fun σ H Q ⟨F, G, ρ, cs, r, ρ', S, e, q⟩ => ?_
  unfold mUn at e
  split at e
  · rename_i ra ρ1 em
    split at e
    · rename_i k d ef
      cases e
      unfold fIsiA at ef
      split at ef
      · rename_i hk
        cases ef
        refine ⟨F, G, ρ, cs, _, _, S, em, fun F1 G1 H1 cs1 v W mo S1 ⟨c, o, _⟩ => ?_⟩
        have rp := o.rpH (S1.fg.trans S1.gh)
        obtain ⟨t, ty, _, h1, h2⟩ := tyx_of rp hk hC cl ho
        refine ⟨_, .ref C, t, .ref C, isOf x ra.d, rfl, .own C, ty, ?_, q F1 G1 H1 cs1 (.bl _) W mo S1 ⟨[], ow0 (.bl _), fun _ => ⟨S1.nd, fun a h => absurd h (by simp)⟩⟩⟩
        cases hi : isOf x ra.d with
        | true => rw [h1 hi]; exact cl.self
        | false =>
          rcases h2 hi with ⟨T, hT, rfl⟩ | h
          · unfold PySem.W.kitOne PySem.W.kitCls
            have hcl : (PySem.W.clsIn X.K C).isSome = true := by
              obtain ⟨cd, hc, _⟩ := PySem.W.any_some cl.cl.hd
              rw [hc]
              rfl
            have e1 : (Value.type T == Value.ref C) = false := rfl
            rw [e1]
            simp only [Bool.false_eq_true, if_false, hcl, hty, Bool.true_and, beq_self_eq_true, if_true]
            exact sub_builtin X.K C T hT
          · exact h
      · cases ef
    · cases e
  · cases e

/-! ### l.index(e) -/
def fIndex : Op2 := fun ka da kb db => match da with
  | .list ds => if (eqOk db && eqOk (.list ds)) = true then match ds.findIdx? fun z => PyData.eqv z db with
      | some j => some (0, .int (j : Nat))
      | none => none
    else none
  | _ => none
theorem os_index : OpS K mg (fun x y => rIndexD K x [y]) fIndex := fun F G H x y ka da kb db ca cb k d Q fg gh oa ob e n => by
  unfold fIndex at e
  split at e
  · rename_i ds
    split at e
    · rename_i hk
      split at e
      · rename_i j hj
        cases e
        unfold eqOk at hk
        simp only [Bool.and_eq_true] at hk
        have ra := oa.rpH (fg.trans gh)
        have rb := ob.rpH (fg.trans gh)
        obtain ⟨h1, h2, h3⟩ := List.findIdx?_eq_some_iff_getElem.mp hj
        obtain ⟨a, rfl⟩ : ∃ a, x = .ref a := by cases ra <;> exact ⟨_, rfl⟩
        refine ⟨a, y, db, ds, j, ds[j], rfl, rfl, ra.dp hk.2.1, rb.dp hk.1.1, hk.2.2, hk.1.2, List.getElem?_eq_getElem h1, h2, fun m z' hm hz => ?_, n.sc fg gh (.int _)⟩
        obtain ⟨hl, ez⟩ := List.getElem?_eq_some_iff.mp hz
        subst ez
        have := h3 m hm
        simpa using this
      · cases e
    · cases e
  · cases e
theorem de_bmL {o : Expr} {mo me : M R} {name : Str} {id : String} {r : V → List V → Hp → VK → Prop} {f : Op2} {apos cpos : Pos} (hm : MtR X id r) (slot : Slot "list" name id) (hty : typeOf (.builtin id) = pure (.type "method_descriptor")) (hs : OpS X.K X.mg (fun x y => r x [y]) f)
    (hf : ∀ ka da kb db q, f ka da kb db = some q → ∃ ds, da = .list ds) (ho : DE X μ o mo) (ha : DE X true e me) (hbase : attributeBase o name X.env (eval o X.env) = eval o X.env := by rfl)
    (hfew : ((backTo cpos (starEach [e] X.env)).all (fun x => !x.1) && (backToKw cpos (keywordEach [] X.env)).all (fun x => x.1.isSome) && decide ([e].length + ([] : List Keyword).length + (if ([] : List Keyword).isEmpty then 0 else 1) < 30)) = true := by rfl)
    (hline : (apos.endLine == cpos.line) = true := by rfl) (hst : starEach [e] X.env = (false, eval e X.env) :: starEach [] X.env := by rfl) (hpl : (backTo cpos (starEach [] X.env)).any (·.1) = false := by rfl) :
    DE X μ (.Call (.Attribute o name apos) [e] [] cpos) (mBin f mo me) :=
  pe_imp (pe_bm PySem.F.plainAttrs_list slot hty hm ho (pa_cons ha pa_nil hst) hbase hfew hline hst hpl) fun σ H Q ⟨F, G, ρ, cs, r, ρ', S, e, q⟩ => by
    unfold mBin at e
    split at e
    · rename_i ra ρ1 ea
      split at e
      · rename_i rb ρ2 eb
        split at e
        · rename_i k d ef
          cases e
          refine ⟨F, G, ρ, cs, _, _, S, ea, fun F1 G1 H1 cs1 x W1 mo1 S1 ⟨ca, oa, _⟩ => ?_⟩
          obtain ⟨ds, hd⟩ := hf _ _ _ _ _ ef
          have ty : tyV X.K "list" x H1 := by
            have rp := oa.rpH (S1.fg.trans S1.gh)
            rw [hd] at rp
            cases rp with
            | lst h _ => exact tyL h
          refine ⟨ty, F1, G1, _, cs1, _, _, S1, eb, fun F2 G2 H2 cs2 y W2 mo2 S2 ⟨cb, ob, _⟩ => ?_⟩
          refine hs F2 G2 H2 x y _ _ _ _ ca cb k d Q S2.fg S2.gh (oa.gr W2.f (mo2 rfl)) ob ef fun F3 G3 H3 v c g o nd hn => ?_
          obtain ⟨S3, sv⟩ := S2.new g o nd hn
          exact q F3 G3 H3 cs2 v (W1.trans (W2.trans (g.fw S2.fg S2.gh))) (fun hμ => (mo1 hμ).trans ((mo2 rfl).trans g.h)) S3 sv
        · cases e
      · cases e
    · cases e
theorem de_index {o : Expr} {mo me : M R} {apos cpos : Pos} (hu : X.A.units + 65 < cLine) (ho : DE X μ o mo) (ha : DE X true e me) (hbase : attributeBase o "index" X.env (eval o X.env) = eval o X.env := by rfl)
    (hfew : ((backTo cpos (starEach [e] X.env)).all (fun x => !x.1) && (backToKw cpos (keywordEach [] X.env)).all (fun x => x.1.isSome) && decide ([e].length + ([] : List Keyword).length + (if ([] : List Keyword).isEmpty then 0 else 1) < 30)) = true := by rfl)
    (hline : (apos.endLine == cpos.line) = true := by rfl) (hst : starEach [e] X.env = (false, eval e X.env) :: starEach [] X.env := by rfl) (hpl : (backTo cpos (starEach [] X.env)).any (·.1) = false := by rfl) :
    DE X μ (.Call (.Attribute o "index" apos) [e] [] cpos) (mBin fIndex mo me) :=
  de_bmL (mt_indexD hu) PySem.F.slot_list_index PySem.F.type_list_index os_index (fun ka da kb db q h => by
    unfold fIndex at h
    split at h
    · exact ⟨_, rfl⟩
    · cases h) ho ha hbase hfew hline hst hpl
/-! ### tuple(e) -/
def fTupOf : Nat → D → Option (Nat × D) := fun k d => match d with
  | .list ds => if k ≤ 1 then some (0, .tuple ds) else none
  | .tuple ds => some (0, .tuple ds)
  | _ => none
theorem cs_tuple : CallS1 K mg (fun xs H Q => ∃ p ys, xs = [.ref p] ∧ ((SqL K H p ys ∧ ∀ l, H l = none → Q (.ref l) (upd H l (.tup ys))) ∨ (SqT K H p ys ∧ Q (.ref p) H))) fTupOf := fun F G H x ka da ca k d Q fg gh o e n => by
  unfold fTupOf at e
  split at e
  · split at e
    · rename_i hk
      cases e
      obtain ⟨a, vs, rfl, h, ra⟩ := o.list1 (fg.trans gh) hk
      exact ⟨a, vs, rfl, .inl ⟨SqL.of h, fun p hp => n.tup fg gh ra hp⟩⟩
    · cases e
  · cases e
    have r := o.flat (fun _ h => nomatch h) fun _ _ h => nomatch h
    cases r with
    | tup h ra => exact ⟨_, _, rfl, .inr ⟨sub_sqT (fg.trans gh) h, n F G H _ [] (Gr.refl fg gh) (ow0 (.tup h ra)) .nil fun a h => nomatch h⟩⟩
  · cases e
end
end Lk

set_option Elab.async false
set_option linter.all false
set_option maxRecDepth 100000
/-! LkY: sorted of a tuple. -/
namespace PySem.W
open PySem PySem.Calls PyProof.Rows
section
variable {prog : Program} {w : World} {A : Around} {E : Value → Shared → Prop} {s : Shared} {β : Type} {R : Value → β → Prop} {enc : β → PyData} {vs : List Value} {bs : List β}
theorem lk_collect_tuple {l : Addr} {Q : List Value → Shared → Prop} (hl : s.heap.IsTuple l vs.toArray)
    (h : Q vs { s with heap := (s.heap.push (seqObj "list" #[] 0)).update s.heap.objs.size (Obj.mapSeq (· ++ vs.toArray)) }) (hsz : vs.length ≤ sizeLine) :
    wpAny (model prog w) A (collect (.ref l)) Q E s := by
  obtain ⟨o, ho, hc, n, hd⟩ := id hl
  unfold collect
  refine wpAny_bind (wpAny_runValue (codeAny_builtin entry_proto_collect' ?_))
  show wpAny _ _ (do again (.builtin "list.__iadd__" ⟨[← newList [], .ref l], []⟩)) _ _ s
  refine wpAny_bind (wpAny_newList (wpAny_pure ⟨Code.quiet_builtin _ (by decide +kernel), codeAny_builtin entry_list_iadd' ?_⟩))
  show wpAny _ _ (Builtin.List.listExtendWith (.ref s.heap.objs.size) (.ref l) (.ref s.heap.objs.size)) _ _ { s with heap := s.heap.push (seqObj "list" #[] 0) }
  unfold Builtin.List.listExtendWith
  have ho' : (s.heap.push (seqObj "list" #[] 0)).get? l = some o := Heap.get?_push_of_some _ ho
  refine wpAny_bind (wpAny_typeOf (T := "tuple") ⟨o, ho', hc⟩ ?_)
  have ht : (Value.type "tuple" == Value.type "tuple") = true := by rfl
  rw [if_pos (by rw [ht]; simp)]
  refine wpAny_bind (listItems_at ho' hd ?_)
  refine wpAny_bind (listItems_at (xs := #[]) (n := 0) (Heap.get?_push_size _ rfl) rfl ?_)
  rw [if_neg (by simp)]
  refine wpAny_bind (listUpdate_at (xs := #[]) (n := 0) (Heap.get?_push_size _ rfl) rfl ?_ (Nat.zero_le _) (by show (#[] ++ vs.toArray).size ≤ sizeLine + 1; simp only [Array.size_append, List.size_toArray, List.length_nil]; omega))
  refine wpAny_pure ?_
  show wpAny (model prog w) A (do
      let o ← load s.heap.objs.size
      match o.data with
      | .seq xs _ => pure xs.toList
      | _ => unsupported "internal:collect") Q E { s with heap := (s.heap.push (seqObj "list" #[] 0)).update s.heap.objs.size (Obj.mapSeq (· ++ vs.toArray)) }
  refine wpAny_bind (wpAny_load (get?_update_seq (Heap.get?_push_size _ rfl) _) ?_)
  show wpAny _ _ (pure ((#[] : Array Value) ++ vs.toArray).toList) Q E _
  rw [show ((#[] : Array Value) ++ vs.toArray).toList = vs by simp]
  exact wpAny_pure h
theorem lk_sorted_of_sort {l : Addr} {kw : List (Str × Value)} {Q : Value → Shared → Prop} (hl : s.heap.IsTuple l vs.toArray) (hL : vs.length ≤ sizeLine) (ha1 : argsOk "sorted" ⟨[.ref l], kw⟩) (ha2 : ∀ x, argsOk "list.sort" ⟨[.ref x], kw⟩)
    (body : ∀ E' : Value → Shared → Prop, wpAny (model prog w) A.in1.in1 (Builtin.«list.sort» ⟨[.ref (s.heap.objs.size + 1)], kw⟩) (fun f s' => f = .done (.ret .none) ∧ Q (.ref (s.heap.objs.size + 1)) s') E' { s with heap := copyHeap s.heap vs }) :
    wpAny (model prog w) A (call (.builtin "sorted") [.ref l] kw) Q E s := by
  refine call_function_entry_kw kind_sorted plain_sorted entry_sorted ha1 ?_
  unfold Builtin.«sorted»
  refine wpAny_bind (m := checkCount "sorted" 1 1 _) (wpAny_pure ?_)
  refine wpAny_bind (lk_collect_tuple hl ?_ hL)
  refine wpAny_bind (wpAny_newList ?_ hL)
  have hsz : ((s.heap.push (seqObj "list" #[] 0)).update s.heap.objs.size (Obj.mapSeq (· ++ vs.toArray))).objs.size = s.heap.objs.size + 1 := by
    rw [Heap.size_update, size_push']
  show wpAny _ _ _ _ _ { s with heap := copyHeap s.heap vs }
  rw [hsz]
  refine wpAny_bind (wpAny_holding (wpAny_call_entry_kw slot_list_sort ⟨_, copyHeap_at s.heap vs, rfl⟩ entry_list_sort ?body (ha2 _)))
  case body =>
    show wpAny (model prog w) A.in1.in1 (Builtin.«list.sort» ⟨[.ref (s.heap.objs.size + 1)], kw⟩) _ _ _
    refine wpAny_mono (body _) (fun f s' hf => ?_) fun _ _ e => e
    obtain ⟨rfl, hq⟩ := hf
    exact ⟨_, rfl, wpAny_pure ⟨_, rfl, hq⟩⟩
theorem lk_sorted_data {l : Addr} {Q : Value → Shared → Prop} (hl : s.heap.IsTuple l vs.toArray) (e : EachIs R vs bs) (er : EachIs (fun v b => ∃ as, Reads s.heap v (enc b) as) vs bs) (hal : AllAlike (bs.map enc)) (hk : Sortable (bs.map enc)) (hL : bs.length ≤ sizeLine)
    (hu : ∀ b, b ∈ bs → A.units + 2 + (enc b).depth < cLine) (h : ∀ out, out.length = bs.length → EachIs R out (bs.mergeSort (dataLe false enc)) → Q (.ref (s.heap.objs.size + 1)) { s with heap := sortedAll s.heap vs (List.toArray out) }) :
    wpAny (model prog w) A (call (.builtin "sorted") [.ref l]) Q E s := by
  have er' : EachIs (fun v b => ∃ as, Reads (sortingHeap (copyHeap s.heap vs) (s.heap.objs.size + 1) vs) v (enc b) as) vs bs := er.mono fun _ _ ⟨as, r⟩ => ⟨as, PyProof.Rows.Reads.keeps (fun _ _ => sorting_copy_old) r⟩
  have S := SortsAt.data (prog := prog) (w := w) (A := A.in1.in1) (s := { s with heap := sortingHeap (copyHeap s.heap vs) (s.heap.objs.size + 1) vs }) (each_map (R := fun v d => ∃ as, Reads (sortingHeap (copyHeap s.heap vs) (s.heap.objs.size + 1) vs) v d as) enc er') hal hk (bound_map hu)
  have hv : vs.length ≤ sizeLine := by rw [e.length]; exact hL
  refine lk_sorted_of_sort hl hv (args_sorted1 _) (fun _ => args_list_sort _) fun _ => list_sort_vals (s := { s with heap := copyHeap s.heap vs }) (copyHeap_at s.heap vs) S hv ⟨rfl, ?_⟩
  exact h _ (by rw [sortVals_length false rfl]; exact e.length) (sortVals_data false e er' hal)
end
end PySem.W
namespace Lk
open PySem L2 PySem.Spec
section
variable {X : Cx} {μ : Bool} {K : PySem.W.Frag} {mg : Str → Option Value} {F G H : Hp}
def rSortDT (K : PySem.W.Frag) (mg : Str → Option Value) : List V → Hp → VK → Prop := fun xs H Q => ∃ a vs ds F, xs = [.ref a] ∧ Sub F H ∧ SqT K H a vs ∧ RpA K mg F vs ds ∧ sortOk ds = true ∧ ∀ p vs', H p = none → RpA K mg F vs' (sortD ds) → Q (.ref p) (upd H p (.lst vs'))
theorem call_sortedDT (hu : X.A.units + 100 < cLine) : CallR X (.builtin "sorted") (rSortDT X.K X.mg) := by
  intro pins s σ H xs us Q I r h
  obtain ⟨a, vs, ds, F, rfl, fh, sq, ra, ok, q⟩ := h
  obtain ⟨u, rfl, ru⟩ := Vals.one r
  cases ru
  obtain ⟨its, rv, pl, hz⟩ := I.tuple sq
  unfold sortOk at ok
  simp only [Bool.and_eq_true, Bool.or_eq_true, List.all_eq_true, decide_eq_true_eq] at ok
  obtain ⟨⟨⟨⟨okp, oka⟩, oks⟩, okd⟩, okl⟩ := ok
  have hl := ra.length
  have e2 : (vs.zip ds).map Prod.snd = ds := List.map_snd_zip (by omega)
  have hal : PySem.W.AllAlike ((vs.zip ds).map Prod.snd) := by rw [e2]; exact fun d hd d' hd' => oka d hd d' hd'
  have hk : PySem.W.Sortable ((vs.zip ds).map Prod.snd) := by
    rw [e2]
    rcases oks with h | h
    · left
      intro d hd
      have := h d hd
      cases d <;> first | (unfold isTup1 at this; cases this; done) | skip
      rename_i xs
      cases xs with
      | nil => cases this
      | cons x xs => exact ⟨x, xs, rfl⟩
    · right
      intro d hd
      have := h d hd
      exact ⟨fun e => (by rw [e] at this; cases this), fun xs e => (by rw [e] at this; cases this)⟩
  have hlz : (vs.zip ds).length ≤ sizeLine := by rw [List.length_zip, hl, Nat.min_self]; exact lim_le okl
  refine PySem.W.lk_sorted_data (bs := vs.zip ds) (enc := Prod.snd) pl (to_sorted rv hl) (reads_sorted I ((ra.sub fh).dp okp) rv) hal hk hlz (fun b hb => ?_) fun out ho er => ?_
  · have : b.2 ∈ ds := by rw [← e2]; exact List.mem_map_of_mem hb
    have := okd _ this
    omega
  · obtain ⟨c, hc⟩ := PyProof.Rows.sortedAll_at s.heap its out.toArray
    have hn : H (s.heap.objs.size + 1) = none := I.hok.fresh (Nat.le_succ _)
    have so := sorted_to er
    have em : ((vs.zip ds).mergeSort (PySem.W.dataLe false Prod.snd)).map Prod.snd = sortD ds := by
      have := PySem.W.sort_maps (r := PySem.W.dataLe false (Prod.snd : V × D → D)) (s := PySem.W.dataLe false (id : D → D)) Prod.snd (l := vs.zip ds) fun _ _ _ _ => rfl
      rw [this, e2]; rfl
    have rp' : RpA X.K X.mg F (((vs.zip ds).mergeSort (PySem.W.dataLe false Prod.snd)).map Prod.fst) (sortD ds) := by
      rw [← em]
      exact rpA_pairs fun p hp => rpA_zip ra p ((List.mergeSort_perm _ _).mem_iff.mp hp)
    have hlen : (((vs.zip ds).mergeSort (PySem.W.dataLe false Prod.snd)).map Prod.fst).length ≤ sizeLine := by rw [List.length_map, List.length_mergeSort]; exact hlz
    exact ⟨.ref (s.heap.objs.size + 1), upd H (s.heap.objs.size + 1) (.lst (((vs.zip ds).mergeSort (PySem.W.dataLe false Prod.snd)).map Prod.fst)),
      I.laid (a := s.heap.objs.size + 1) (o := .lst (((vs.zip ds).mergeSort (PySem.W.dataLe false Prod.snd)).map Prod.fst)) (t' := s.toks) (fun b o e => PyProof.Rows.sortedAll_old e) (Nat.le_succ _) ⟨hlen, out, c, so, hc⟩, rfl, q _ _ hn rp'⟩
theorem callr_or {f : Value} {r r' : List V → Hp → VK → Prop} (h : CallR X f r) (h' : CallR X f r') : CallR X f (fun xs H Q => r xs H Q ∨ r' xs H Q) := fun pins s σ H xs us Q I rx hq => hq.elim (h pins s σ H xs us Q I rx) (h' pins s σ H xs us Q I rx)
/-- sorted(e), e a list or a tuple -/
def fSortedS : Nat → D → Option (Nat × D) := fun k d => match d with
  | .tuple ds => if sortOk ds = true then some (1, .list (sortD ds)) else none
  | _ => fSorted k d
theorem call_sortedS (hu : X.A.units + 100 < cLine) : CallR X (.builtin "sorted") (fun xs H Q => rSortD X.K X.mg xs H Q ∨ rSortDT X.K X.mg xs H Q) := callr_or (Lk.call_sortedD hu) (call_sortedDT hu)
theorem cs_sortedS : CallS1 K mg (fun xs H Q => rSortD K mg xs H Q ∨ rSortDT K mg xs H Q) fSortedS := fun F G H x ka da ca k d Q fg gh o e n => by
  unfold fSortedS at e
  split at e
  · split at e
    · rename_i hk
      cases e
      have r := o.flat (fun _ h => nomatch h) fun _ _ h => nomatch h
      cases r with
      | tup h ra => exact .inr ⟨_, _, _, F, rfl, fg.trans gh, sub_sqT (fg.trans gh) h, ra, hk, fun p vs' hp r' => n.lst fg gh r' hp⟩
    · cases e
  · exact .inl (cs_sorted F G H x ka da ca k d Q fg gh o e n)
end
end Lk

set_option Elab.async false
set_option linter.all false
set_option maxRecDepth 100000
/-! LkMa: C(..) that is lent slots, C(x=..). -/
namespace Lk
open PySem L2 PySem.Spec
def shA : Arg → Arg
  | .v d => .v d
  | .r i => .r (i + 1)
theorem pull_sh {o : Option B} : ∀ {as : List Arg} {ρ ρ' : Sto} {bs : List B}, pull as ρ = some (bs, ρ') → pull (as.map shA) (o :: ρ) = some (bs, o :: ρ')
  | [], _, _, _, h => by cases h; rfl
  | .v d :: as, ρ, ρ', bs, h => by
    unfold pull at h
    split at h
    · rename_i bs' ρ1 h1
      cases h
      show pull (.v d :: as.map shA) (o :: ρ) = _
      unfold pull
      rw [pull_sh h1]
    · cases h
  | .r i :: as, ρ, ρ', bs, h => by
    unfold pull at h
    split at h
    · rename_i b hb
      split at h
      · rename_i bs' ρ1 h1
        cases h
        show pull (.r (i + 1) :: as.map shA) (o :: ρ) = _
        unfold pull
        rw [List.getElem?_cons_succ, hb]
        simp only [List.set_cons_succ]
        rw [pull_sh h1]
      · cases h
    · cases h
theorem push_sh {o : Option B} : ∀ {as : List Arg} {outs : List (Option B)} {ρ : Sto}, push (as.map shA) outs (o :: ρ) = o :: push as outs ρ
  | [], outs, ρ => by cases outs <;> rfl
  | .v d :: as, [], ρ => rfl
  | .r i :: as, [], ρ => rfl
  | .v d :: as, b :: outs, ρ => by
    show push (as.map shA) outs (o :: ρ) = o :: push as outs ρ
    exact push_sh
  | .r i :: as, b :: outs, ρ => by
    show push (as.map shA) outs ((o :: ρ).set (i + 1) b) = o :: push as outs (ρ.set i b)
    rw [List.set_cons_succ]
    exact push_sh
section
variable {X : Cx} {μ : Bool} {K : PySem.W.Frag} {mg : Str → Option Value} {F G H : Hp}
theorem ras_sh {o : Option V} {σ : St} : ∀ {as : List Arg} {vs : List V}, RAs K mg F σ as vs → RAs K mg F (o :: σ) (as.map shA) vs
  | _, _, .nil => .nil
  | _, _, .v rp ra => .v rp (ras_sh ra)
  | _, _, .r e ra => .r (by rw [List.getElem?_cons_succ]; exact e) (ras_sh ra)
/-- C(..), the arguments told -/
theorem make_end {k j : Nat} {x : Str} {ps : List Str} {g : Fn} {C f : Addr} {fd : FuncData} {pins : List (Addr × Obj)} {σ : St} {H1 F1 G1 : Hp} {s1 : Shared} {ρ1 ρ2 : Sto} {cs1 : List Addr} {as : List Arg} {bs : List B} {vs : List V} {us : List Value} {fr : Bool} {ki : Nat} {d : D} {outs : List (Option B)} {pos : List Value} {kw : List (Str × Value)} {Q : VK}
    (hm : X.mg x = some (.ref C)) (mk : Mk X.K C f) (Fg : FnG X.prog X.w X.K X.mg X.base j f fd ps g) (hjk : j + 1 ≤ k) (room : Room k X.A) (guards : X.A.guards = some []) (I1 : L2.Inv X pins σ H1 s1) (S1 : SR X.K X.mg F1 G1 H1 ρ1 σ cs1) (ra : RAs X.K X.mg F1 σ as vs) (hp : pull as ρ1 = some (bs, ρ2)) (rv : Vals vs us)
    (bd : ∀ (xa : Addr) (s : Shared), BindsTo s fd ⟨.ref xa :: pos, kw⟩ (ps.zip (.ref xa :: us))) (hl : vs.length + 1 = ps.length) (eg : g (⟨1, .dict [(.str clsKey, .str x)]⟩ :: bs) = some (⟨fr, 0, .none⟩, some ⟨ki + 1, d⟩ :: outs))
    (q : ∀ F' G' H' cs' v, Fw F1 G1 F' G' → SR X.K X.mg F' G' H' (push as outs ρ2) σ cs' → SV X.K X.mg F' G' H' cs' ⟨false, 0, d⟩ v → Q v H') : wpAny (model X.prog X.w) X.A (call (.ref C) pos kw) (EP X pins σ Q) X.xe s1 := by
  have I2 := L2.Inv.made (C := C) I1
  generalize hx : s1.heap.objs.size + 1 = xa at I2
  generalize hdx : s1.heap.objs.size = da at I2
  have nda : H1 da = none := I1.hok.fresh (Nat.le_of_eq hdx)
  have nxa : H1 xa = none := I1.hok.fresh (by rw [← hx]; exact Nat.le_succ _)
  have ne : da ≠ xa := by rw [← hx, ← hdx]; exact Nat.ne_of_lt (Nat.lt_succ_self _)
  have nxa' : (upd H1 da (.own xa)) xa = none := by rw [upd_ne (Ne.symm ne)]; exact nxa
  have sH : Sub H1 (upd (upd H1 da (.own xa)) xa (.ins C da [])) := (Sub.new nda).trans (Sub.new nxa')
  have ga : G1 xa = none := S1.gh.out nxa
  have offx : xa ∉ cs1 := fun h => by obtain ⟨o, e⟩ := S1.rs.there xa h; rw [nxa] at e; cases e
  have fgh : Sub G1 (upd (upd H1 da (.own xa)) xa (.ins C da [])) := S1.gh.trans sH
  have S2 : SR X.K X.mg F1 G1 (upd (upd H1 da (.own xa)) xa (.ins C da [])) (some ⟨1, .dict [(.str clsKey, .str x)]⟩ :: ρ1) (some (.ref xa) :: σ) ([xa] ++ cs1) := by
    refine ⟨S1.fg, fgh, RS.yes (b := ⟨1, .dict [(.str clsKey, .str x)]⟩) (.inr ⟨xa, C, da, [], x, [], rfl, rfl, upd_same, hm, .nil, rfl⟩) (S1.rs.keep (Sub.refl _) fun a ha => ?_), List.nodup_cons.mpr ⟨offx, S1.nd⟩, fun a ha => ?_⟩
    · obtain ⟨o, e⟩ := S1.rs.there a ha
      rw [e]; exact sH a o e
    · rcases List.mem_cons.mp ha with h | h
      · rw [h]; exact ga
      · exact S1.off a h
  have hp2 : pull (.r 0 :: as.map shA) (some ⟨1, .dict [(.str clsKey, .str x)]⟩ :: ρ1) = some (⟨1, .dict [(.str clsKey, .str x)]⟩ :: bs, none :: ρ2) := by
    unfold pull
    simp only [List.getElem?_cons_zero, List.set_cons_zero, pull_sh hp]
  have ra2 : RAs X.K X.mg F1 (some (.ref xa) :: σ) (.r 0 :: as.map shA) (.ref xa :: vs) := .r rfl (ras_sh ra)
  obtain ⟨cp, c1, h1, h2, hpm, hln, _, h4, h5⟩ := pull_ok S2.rs ra2 hp2
  have vl : (V.ref xa :: vs).length = ps.length := by rw [List.length_cons]; exact hl
  refine wpAny_call (make_map (f := f) I1.kIn mk.makes mk.init (beq_iff_eq.mp mk.fn) ?_)
  rw [hx, hdx]
  refine codeAny_mono (Fg.run _ X.stack _ _ ⟨Value.ref xa :: pos, kw⟩ (Value.ref xa :: us) (V.ref xa :: vs) F1 _ _ _ _ _ ((room.mono hjk).make C pos kw) (under_guards guards) (I2.env0.make C pos kw) (bd xa _) (.cons rfl rv) vl (S2.lent hpm h1) eg) fun res s' hq => ?_
  cases res with
  | error er => exact hq.elim
  | ok fl =>
    cases fl with
    | ret u =>
      obtain ⟨v, H', I3, rv3, b⟩ := I2.after hq
      have hv : v = .non := by
        obtain ⟨_, _, _, _, _, ⟨_, o3, _⟩, _⟩ := b
        obtain ⟨_, rp3⟩ := o3
        cases rp3; rfl
      subst hv
      refine ⟨rv3, V.ref xa, H', I3, rfl, ?_⟩
      obtain ⟨F3, G3, cs3, W3, S3, _⟩ := back_lent S2 hpm h2 ra2 h5 (fun i hi => (h4 i hi).2) b
      have e3 : push (.r 0 :: as.map shA) (some ⟨ki + 1, d⟩ :: outs) (none :: ρ2) = some ⟨ki + 1, d⟩ :: push as outs ρ2 := by
        show push (as.map shA) outs ((none :: ρ2).set 0 (some ⟨ki + 1, d⟩)) = _
        rw [List.set_cons_zero]
        exact push_sh
      rw [e3] at S3
      have r3 := S3.rs
      generalize hcs : cs3 = cc at r3 S3
      cases r3 with
      | @yes _ _ c4 cs4 _ _ ow4 r4 =>
        have nd4 := S3.nd
        have S4 : SR X.K X.mg F3 G3 H' (push as outs ρ2) σ cs4 := ⟨S3.fg, S3.gh, r4, (List.nodup_append.mp nd4).2.1, fun a ha => S3.off a (List.mem_append_right _ ha)⟩
        have c4n : ∀ a ∈ c4, G3 a = none := fun a ha => S3.off a (List.mem_append_left _ ha)
        obtain ⟨S5, W5⟩ := S4.frz c4n fun a ha hb => (List.nodup_append.mp nd4).2.2 a ha a hb rfl
        have rp4 := ow4.frozen fun a ha => S3.fg.out (c4n a ha)
        exact q _ _ H' cs4 (.ref xa) (W3.trans W5) S5 ⟨[], ow0 rp4, fun h => Bool.noConfusion h⟩
    | next => exact hq.elim
    | brk => exact hq.elim
    | cont => exact hq.elim
/-- C(..), slots lent -/
def mMakeR (n : Nat) (c : Str) (g : Fn) (ms : M (List Arg)) : M R := fun ρ => match ms ρ with
  | some (as, ρ1) => match pull as ρ1 with
    | some (bs, ρ2) => if bs.length + 1 = n then match g (⟨1, .dict [(.str clsKey, .str c)]⟩ :: bs) with
        | some (⟨_, 0, .none⟩, some ⟨_ + 1, d⟩ :: outs) => some (⟨false, 0, d⟩, push as outs ρ2)
        | _ => none
      else none
    | none => none
  | none => none
variable {k j : Nat} {x qual : Str} {st : Stmt} {ps : List Str} {g : Fn} {e : Expr} {es : List Expr} {p pos : Pos}
theorem de_makeR {ms : M (List Arg)} (Fx : ClsX X.prog X.w X.K X.mg X.base j x qual st ps g) (hjk : j + 1 ≤ k) (room : Room k X.A) (guards : X.A.guards = some []) (hb : BindP "__init__" qual st ps) (ha : DG X false (e :: es) ms) (hg : Gl X x := by rfl)
    (hdb : (x == ("__debug__" : Str)) = false := by decide) (he : starEach (e :: es) X.env = (false, eval e X.env) :: starEach es X.env := by rfl) (hpl : (backTo pos (starEach es X.env)).any (·.1) = false := by rfl) : DE X false (.Call (.Name x p) (e :: es) [] pos) (mMakeR ps.length x g ms) := by
  obtain ⟨C, f, fd, hm, mk, Fg, Fd⟩ := Fx.ex
  refine ⟨fun pins s σ H Q I h => ?_⟩
  obtain ⟨F, G, ρ, cs, rr, ρ', S, e2, q⟩ := h
  refine wpAny_Call_Name_kw (ld_glob I hg hm ?_ hdb)
  unfold mMakeR at e2
  split at e2
  · rename_i as ρ1 em
    split at e2
    · rename_i bs ρ2 ep
      split at e2
      · rename_i hlen
        split at e2
        · rename_i fr0 ki d outs eg
          cases e2
          refine PySem.W.callWith_K (h₀ := X.base) I.ok.mod.kin mk.kp (thn (ha.run pos pins s σ H (fun vs H1 => ∃ F1 G1 cs1, Fw F G F1 G1 ∧ SR X.K X.mg F1 G1 H1 ρ1 σ cs1 ∧ RAs X.K X.mg F1 σ as vs) I ⟨F, G, ρ, cs, _, _, S, em, fun F1 G1 H1 cs1 vs W mo S1 ra => ⟨F1, G1, cs1, W, S1, ra⟩⟩) fun us s1 ⟨vs, H1, I1, rv, F1, G1, cs1, W, S1, ra⟩ => ⟨I1.kIn, ?_⟩) he hpl
          have hln : vs.length = bs.length := by
            obtain ⟨_, _, _, _, _, h, _⟩ := pull_ok S1.rs ra ep
            exact h
          have vl : vs.length + 1 = ps.length := by rw [hln]; exact hlen
          exact make_end hm mk Fg hjk room guards I1 S1 ra ep rv (fun xa s => FnX.bind (P := X.prog) (w := X.w) (base := X.base) hb Fd (us := .ref xa :: us) (by rw [List.length_cons, ← rv.length]; exact vl) s) vl eg fun F2 G2 H2 cs2 v W2 S2 sv => q F2 G2 H2 cs2 v (W.trans W2) (fun h => Bool.noConfusion h) S2 sv
        · cases e2
      · cases e2
    · cases e2
  · cases e2
/-- C(x=..) -/
theorem ras_v {F : Hp} {σ : St} : ∀ {vs : List V} {ds : List D}, RpA K mg F vs ds → RAs K mg F σ (ds.map Arg.v) vs
  | _, _, .nil => .nil
  | _, _, .cons h t => .v h (ras_v t)
theorem pull_v : ∀ (ds : List D) (ρ : Sto), pull (ds.map Arg.v) ρ = some (frz0 ds, ρ)
  | [], _ => rfl
  | d :: ds, ρ => by
    show pull (.v d :: ds.map Arg.v) ρ = _
    unfold pull
    rw [pull_v ds ρ]
    rfl
theorem push_v : ∀ (ds : List D) (outs : List (Option B)) (ρ : Sto), push (ds.map Arg.v) outs ρ = ρ
  | [], outs, ρ => by cases outs <;> rfl
  | d :: ds, [], ρ => rfl
  | d :: ds, b :: outs, ρ => by
    show push (ds.map Arg.v) outs ρ = ρ
    exact push_v ds outs ρ
theorem de_makeK {mk' : M (List D)} {ks : List Str} {kws : List Keyword} {n : Nat} (Fx : ClsX X.prog X.w X.K X.mg X.base j x qual st ps g) (hjk : j + 1 ≤ k) (room : Room k X.A) (guards : X.A.guards = some [])
    (hb : ∀ (kV doc pm : Value) (an : Option Addr) (cdv ct : Value) (u : Value) (ws : List Value), ws.length = n → bindArgs (PySem.W.fnOf "__init__" qual (defArgs st) (defBody st) (defScope st) .none kV doc pm an cdv ct) ⟨[u], ks.zip ws⟩ = pure (ps.zip (u :: ws))) (hn : n + 1 = ps.length) (hk : DFk X μ kws mk')
    (hall : (backToKw pos (keywordEach kws X.env)).all (·.1.isSome) = true := by rfl) (hks : (backToKw pos (keywordEach kws X.env)).filterMap (·.1) = ks := by rfl) (hg : Gl X x := by rfl)
    (hdb : (x == ("__debug__" : Str)) = false := by decide) (hpl : ((backTo pos (starEach [] X.env)).any (·.1) || (backToKw pos (keywordEach kws X.env)).any (·.1.isNone)) = false := by rfl) : DE X false (.Call (.Name x p) [] kws pos) (mMake ps.length x g mk') := by
  obtain ⟨C, f, fd, hm, mk, Fg, Fd⟩ := Fx.ex
  refine ⟨fun pins s σ H Q I h => ?_⟩
  obtain ⟨F, G, ρ, cs, rr, ρ', S, e2, q⟩ := h
  refine wpAny_Call_Name_kw (ld_glob I hg hm ?_ hdb)
  unfold mMake at e2
  split at e2
  · rename_i ds ρ1 em
    split at e2
    · rename_i hlen
      split at e2
      · rename_i fr0 ki d outs eg
        cases e2
        refine PySem.W.callWith_KW0 (h₀ := X.base) I.ok.mod.kin mk.kp hall (thn (hk.run pos pins s σ H (fun vs H1 => ∃ F1 G1 cs1, Fw F G F1 G1 ∧ SR X.K X.mg F1 G1 H1 ρ' σ cs1 ∧ RpA X.K X.mg F1 vs ds) I ⟨F, G, ρ, cs, _, _, S, em, fun F1 G1 H1 cs1 vs W mo S1 ra => ⟨F1, G1, cs1, W, S1, ra⟩⟩) fun us s1 ⟨vs, H1, I1, rv, F1, G1, cs1, W, S1, ra⟩ => ⟨I1.kIn, ?_⟩) hpl
        rw [hks]
        have vl : vs.length + 1 = ps.length := by rw [ra.length]; exact hlen
        have un : us.length = n := by rw [← rv.length]; omega
        refine make_end hm mk Fg hjk room guards I1 S1 (ras_v ra) (pull_v ds ρ') rv (fun xa s => ?_) vl eg fun F2 G2 H2 cs2 v W2 S2 sv => ?_
        · obtain ⟨oc, od, kV, doc, pm, an, cdv, ct, osl, rfl, _, _⟩ := Fd.ex
          exact .of_eq (hb kV doc pm an cdv ct _ us un)
        · rw [push_v] at S2
          exact q F2 G2 H2 cs2 v (W.trans W2) (fun h => Bool.noConfusion h) S2 sv
      · cases e2
    · cases e2
  · cases e2
end
end Lk

set_option Elab.async false
set_option linter.all false
set_option maxRecDepth 100000
/-! LkMb: lists of new lists, all their own: displays, +, each gets one more; int in a tuple. -/
namespace Lk
open PySem L2 PySem.Spec
section
variable {X : Cx} {μ : Bool} {K : PySem.W.Frag} {mg : Str → Option Value} {F G H : Hp}
/-- some new lists -/
def tL2 (K : PySem.W.Frag) (mg : Str → Option Value) (m : M (List D)) : TA := fun σ H Q => ∃ F G ρ cs ds ρ', SR K mg F G H ρ σ cs ∧ m ρ = some (ds, ρ') ∧
  ∀ F' G' H' cs' vs c, Fw F G F' G' → SR K mg F' G' H' ρ' σ cs' → FA (Ow K mg F' H' 1) vs ds c → (c ++ cs').Nodup → (∀ a ∈ c, G' a = none) → Q vs H'
def DL2 (X : Cx) (es : List Expr) (m : M (List D)) : Prop := PA X es (tL2 X.K X.mg m)
def mL0 : M (List D) := fun ρ => some ([], ρ)
def mL1 (m : M R) (ms : M (List D)) : M (List D) := fun ρ => match m ρ with
  | some (⟨true, 1, d⟩, ρ1) => match ms ρ1 with
    | some (ds, ρ2) => some (d :: ds, ρ2)
    | none => none
  | _ => none
variable {e : Expr} {es : List Expr} {m : M R} {ms : M (List D)} {pos : Pos}
theorem dl2_nil : DL2 X [] mL0 := pa_imp pa_nil fun σ H Q ⟨F, G, ρ, cs, ds, ρ', S, e, q⟩ => by
  cases e
  exact q F G H cs [] [] Fw.refl S .nil S.nd (fun a h => nomatch h)
theorem dl2_cons (h : DE X μ e m) (h' : DL2 X es ms) (hs : starEach (e :: es) X.env = (false, eval e X.env) :: starEach es X.env := by rfl) : DL2 X (e :: es) (mL1 m ms) :=
  pa_imp (pa_cons h h' hs) fun σ H Q ⟨F, G, ρ, cs, ds, ρ', S, e, q⟩ => by
    unfold mL1 at e
    split at e
    · rename_i d ρ1 em
      split at e
      · rename_i ds' ρ2 es
        cases e
        refine ⟨F, G, ρ, cs, _, _, S, em, fun F1 G1 H1 cs1 v W mo S1 ⟨c, o, hf⟩ => ?_⟩
        obtain ⟨nd, off⟩ := hf rfl
        have there : ∀ a ∈ c, H1 a ≠ none := fun a ha => by obtain ⟨o, e⟩ := o.cells a ha; rw [e]; simp
        have Sh := S1.hold nd off
        refine ⟨F1, Lk.frz c G1 H1, _, cs1, _, _, Sh, es, fun F2 G2 H2 cs2 vs c2 W2 S2 fa nd2 off2 => ?_⟩
        obtain ⟨S3, W3, keep, dis, fN⟩ := S1.unhold off there W2 S2
        have o2 : Ow X.K X.mg F2 H2 1 v d c := o.keep W2.f keep
        have d2 : ∀ a ∈ c, a ∉ c2 := fun a ha hb => by
          have g1 := off2 a hb
          have g2 : Lk.frz c G1 H1 a ≠ none := by rw [frz_in ha]; exact there a ha
          cases e : Lk.frz c G1 H1 a with
          | none => exact g2 e
          | some o => rw [W2.g a o e] at g1; cases g1
        have ndc := (List.nodup_append.mp nd).1
        refine q F2 _ H2 cs2 (v :: vs) (c ++ c2) (W.trans W3) S3 (.cons o2 fa) ?_ fun a ha => ?_
        · rw [List.append_assoc]
          refine List.nodup_append.mpr ⟨ndc, nd2, fun a ha b hb e => ?_⟩
          subst e
          rcases List.mem_append.mp hb with hb | hb
          · exact d2 a ha hb
          · exact dis a ha hb
        · show (if a ∈ c then none else G2 a) = none
          rcases List.mem_append.mp ha with h | h
          · exact if_pos h
          · by_cases hc : a ∈ c
            · exact if_pos hc
            · rw [if_neg hc]; exact off2 a h
      · cases e
    · cases e
/-- [e1, e2, ..], all new lists -/
def mLst2 (ms : M (List D)) : M R := fun ρ => match ms ρ with
  | some (ds, ρ1) => if ds.length ≤ lim then some (⟨true, 2, .list ds⟩, ρ1) else none
  | none => none
theorem de_list2 (h : DL2 X es ms) : DE X false (.List es pos) (mLst2 ms) := pe_imp (pe_lst h) fun σ H Q ⟨F, G, ρ, cs, r, ρ', S, e, q⟩ => by
  unfold mLst2 at e
  split at e
  · rename_i ds ρ1 em
    split at e
    · rename_i hl
      cases e
      refine ⟨F, G, ρ, cs, _, _, S, em, fun F1 G1 H1 cs1 vs c W S1 fa nd off => ⟨by rw [fa.length]; exact lim_le hl, fun p hp => ?_⟩⟩
      have g := Gr.cell (o := .lst vs) S1.fg S1.gh hp
      have there : ∀ {vs : List V} {ds : List D} {c : List Addr}, FA (Ow X.K X.mg F1 H1 1) vs ds c → ∀ a ∈ c, H1 a ≠ none := fun {vs ds c} fa => by
        induction fa with
        | nil => intro a h; cases h
        | cons o _ ih =>
          intro a ha
          rcases List.mem_append.mp ha with h | h
          · obtain ⟨o, e⟩ := o.cells a h; rw [e]; simp
          · exact ih a h
      have pc : p ∉ c ++ cs1 := fun h => by
        rcases List.mem_append.mp h with h | h
        · exact there fa p h hp
        · obtain ⟨o, e⟩ := S1.rs.there p h; rw [hp] at e; cases e
      refine q F1 G1 _ cs1 _ W (fun h => Bool.noConfusion h) (S1.gr g) ⟨p :: c, .inl ⟨p, vs, ds, c, rfl, rfl, upd_same, fa.imp fun v d c' _ o => o.gr (Sub.refl _) g.h, rfl⟩, fun _ => ⟨List.nodup_cons.mpr ⟨pc, nd⟩, fun a ha => ?_⟩⟩
      rcases List.mem_cons.mp ha with e | ha
      · subst e; exact S1.gh.out hp
      · exact off a ha
    · cases e
  · cases e
theorem FA.app {P : V → D → List Addr → Prop} {vs ws : List V} {ds es : List D} {c c' : List Addr} (h : FA P vs ds c) (h' : FA P ws es c') : FA P (vs ++ ws) (ds ++ es) (c ++ c') := by
  induction h with
  | nil => exact h'
  | cons p _ ih => rw [List.append_assoc]; exact .cons p ih
/-- a + b, lists of new lists, both given away -/
def mCat2 (ma mb : M R) : M R := fun ρ => match ma ρ with
  | some (⟨true, 2, .list ds⟩, ρ1) => match mb ρ1 with
    | some (⟨true, 2, .list es⟩, ρ2) => if ds.length + es.length ≤ lim then some (⟨true, 2, .list (ds ++ es)⟩, ρ2) else none
    | _ => none
  | _ => none
theorem de_cat2 {a b : Expr} {ma mb : M R} {μ2 : Bool} (ha : DE X μ a ma) (hb : DE X μ2 b mb) : DE X false (.BinOp a .Add b pos) (mCat2 ma mb) :=
  pe_imp (pe_op op_cat ha hb) fun σ H Q ⟨F, G, ρ, cs, r, ρ', S, e, q⟩ => by
    unfold mCat2 at e
    split at e
    · rename_i ds ρ1 ea
      split at e
      · rename_i es ρ2 eb
        split at e
        · rename_i hl
          cases e
          refine ⟨F, G, ρ, cs, _, _, S, ea, fun F1 G1 H1 cs1 v W mo S1 ⟨c, o, hf⟩ => ?_⟩
          obtain ⟨nd, off⟩ := hf rfl
          have there : ∀ a ∈ c, H1 a ≠ none := fun a ha => by obtain ⟨o, e⟩ := o.cells a ha; rw [e]; simp
          have Sh := S1.hold nd off
          refine ⟨F1, Lk.frz c G1 H1, _, cs1, _, _, Sh, eb, fun F2 G2 H2 cs2 v2 W2 mo2 S2 ⟨c2, o2, hf2⟩ => ?_⟩
          obtain ⟨nd2, off2⟩ := hf2 rfl
          obtain ⟨S3, W3, keep, dis, fN⟩ := S1.unhold off there W2 S2
          have ok : Ow X.K X.mg F2 H2 2 v (.list ds) c := o.keep W2.f keep
          have d2 : ∀ a ∈ c, a ∉ c2 := fun a ha hb => by
            have g1 := off2 a hb
            have g2 : Lk.frz c G1 H1 a ≠ none := by rw [frz_in ha]; exact there a ha
            cases e : Lk.frz c G1 H1 a with
            | none => exact g2 e
            | some o => rw [W2.g a o e] at g1; cases g1
          obtain ⟨a1, vs1, ds1, css1, rfl, e1, h1, f1, rfl⟩ : ∃ a vs ds' css, v = .ref a ∧ PyData.list ds = .list ds' ∧ H2 a = some (.lst vs) ∧ FA (Ow X.K X.mg F2 H2 1) vs ds' css ∧ c = a :: css := by
            rcases ok with h | ⟨_, _, _, _, _, _, _, h, _⟩
            · exact h
            · cases h
          cases e1
          obtain ⟨a2, vs2, ds2, css2, rfl, e2, h2, f2, rfl⟩ : ∃ a vs ds' css, v2 = .ref a ∧ PyData.list es = .list ds' ∧ H2 a = some (.lst vs) ∧ FA (Ow X.K X.mg F2 H2 1) vs ds' css ∧ c2 = a :: css := by
            rcases o2 with h | ⟨_, _, _, _, _, _, _, h, _⟩
            · exact h
            · cases h
          cases e2
          refine ⟨a1, a2, vs1, vs2, rfl, rfl, h1, h2, by rw [f1.length, f2.length]; exact lim_le hl, fun p hp => ?_⟩
          have g := Gr.cell (o := .lst (vs1 ++ vs2)) S3.fg S3.gh hp
          have S4 := S3.gr g
          have fa := (f1.app f2)
          have n1 : css1.Nodup := (List.nodup_cons.mp (List.nodup_append.mp nd).1).2
          have n2 : (css2 ++ cs2).Nodup := (List.nodup_cons.mp nd2).2
          have thA : ∀ a ∈ css1 ++ css2 ++ cs2, H2 a ≠ none := fun a ha => by
            rcases List.mem_append.mp ha with h | h
            · rcases List.mem_append.mp h with h | h
              · rw [keep a (List.mem_cons_of_mem _ h)]; exact there a (List.mem_cons_of_mem _ h)
              · obtain ⟨o, e⟩ := Ow.cells (K := X.K) (mg := X.mg) (F := F2) (H := H2) (k := 2) (v := .ref a2) (d := .list es) (.inl ⟨a2, vs2, es, css2, rfl, rfl, h2, f2, rfl⟩) a (List.mem_cons_of_mem _ h)
                rw [e]; simp
            · obtain ⟨o, e⟩ := S3.rs.there a h; rw [e]; simp
          have ndA : (css1 ++ css2 ++ cs2).Nodup := by
            rw [List.append_assoc]
            refine List.nodup_append.mpr ⟨n1, n2, fun a ha b hb e => ?_⟩
            subst e
            rcases List.mem_append.mp hb with hb | hb
            · exact d2 a (List.mem_cons_of_mem _ ha) (List.mem_cons_of_mem _ hb)
            · exact dis a (List.mem_cons_of_mem _ ha) hb
          refine q F2 _ _ cs2 (.ref p) (W.trans W3) (fun h => Bool.noConfusion h) S4 ⟨p :: (css1 ++ css2), .inl ⟨p, _, _, _, rfl, rfl, upd_same, fa.imp fun v d c' _ o => o.gr (Sub.refl _) g.h, rfl⟩, fun _ => ⟨List.nodup_cons.mpr ⟨fun h => thA p h hp, ndA⟩, fun a ha => ?_⟩⟩
          rcases List.mem_cons.mp ha with e | ha
          · subst e; exact S3.gh.out hp
          · show (if a ∈ a1 :: css1 then none else G2 a) = none
            rcases List.mem_append.mp ha with h | h
            · exact if_pos (List.mem_cons_of_mem _ h)
            · by_cases hc : a ∈ a1 :: css1
              · exact if_pos hc
              · rw [if_neg hc]; exact off2 a (List.mem_cons_of_mem _ h)
        · cases e
      · cases e
    · cases e

/-! ### for x in y: x.append(None) -/
/-- the lists told, all owned: their cells -/
theorem fa_lists : ∀ {vs : List V} {ess : List (List D)} {c : List Addr}, FA (Ow K mg F H 1) vs (ess.map .list) c → ∃ wss : List (List V), vs = c.map V.ref ∧ c.length = ess.length ∧ wss.length = ess.length ∧ ∀ (i : Nat) (h1 : i < c.length) (h2 : i < wss.length) (h3 : i < ess.length), H c[i] = some (.lst wss[i]) ∧ RpA K mg F wss[i] ess[i]
  | [], [], _, h => by
    cases h
    exact ⟨[], rfl, rfl, rfl, fun i h1 => absurd h1 (by simp)⟩
  | v :: vs, es :: ess, _, h => by
    cases h with
    | @cons _ _ _ _ c0 cs p r =>
      obtain ⟨a, ws, ds', css, rfl, e1, h1, f1, rfl⟩ : ∃ a vs ds' css, v = .ref a ∧ PyData.list es = .list ds' ∧ H a = some (.lst vs) ∧ FA (Ow K mg F H 0) vs ds' css ∧ c0 = a :: css := by
        rcases p with h | ⟨_, _, _, _, _, _, _, h, _⟩
        · exact h
        · cases h
      cases e1
      obtain ⟨rfl, ra⟩ := fa_zero f1
      obtain ⟨wss, i1, i2, i3, i4⟩ := fa_lists r
      refine ⟨ws :: wss, by rw [i1]; rfl, by simp [i2], by simp [i3], fun i k1 k2 k3 => ?_⟩
      cases i with
      | zero => exact ⟨h1, ra⟩
      | succ i => exact i4 i (by simpa using k1) (by simpa using k2) (by simpa using k3)
theorem lists_fa : ∀ {c : List Addr} {wss : List (List V)} {ess : List (List D)}, c.length = ess.length → wss.length = ess.length → (∀ (i : Nat) (h1 : i < c.length) (h2 : i < wss.length) (h3 : i < ess.length), H c[i] = some (.lst wss[i]) ∧ RpA K mg F wss[i] ess[i]) → FA (Ow K mg F H 1) (c.map V.ref) (ess.map .list) c
  | [], [], [], _, _, _ => .nil
  | [], _ :: _, [], _, h, _ => absurd h (by simp)
  | [], _, _ :: _, h, _, _ => absurd h (by simp)
  | _ :: _, _, [], h, _, _ => absurd h (by simp)
  | _ :: _, [], _ :: _, _, h, _ => absurd h (by simp)
  | a :: c, ws :: wss, es :: ess, h1, h2, h => by
    obtain ⟨q1, q2⟩ := h 0 (by simp) (by simp) (by simp)
    have t := lists_fa (c := c) (wss := wss) (ess := ess) (by simpa using h1) (by simpa using h2) fun i k1 k2 k3 => h (i + 1) (by simpa using k1) (by simpa using k2) (by simpa using k3)
    exact FA.cons (c := [a]) (.inl ⟨a, ws, es, [], rfl, rfl, q1, fa_of_rpA q2, rfl⟩) t
def listsOf : List D → Option (List (List D))
  | [] => some []
  | .list es :: ds => if es.length < lim then match listsOf ds with
      | some r => some (es :: r)
      | none => none
    else none
  | _ :: _ => none
theorem listsOf_eq : ∀ {ds : List D} {ess : List (List D)}, listsOf ds = some ess → ds = ess.map .list ∧ ∀ es ∈ ess, es.length < lim
  | [], ess, h => by cases h; exact ⟨rfl, by simp⟩
  | d :: ds, ess, h => by
    cases d with
    | list es =>
      unfold listsOf at h
      split at h
      · rename_i hl
        split at h
        · rename_i r hr
          cases h
          obtain ⟨e1, e2⟩ := listsOf_eq hr
          refine ⟨by rw [e1]; rfl, fun x hx => ?_⟩
          rcases List.mem_cons.mp hx with e | hx
          · rw [e]; exact hl
          · exact e2 x hx
        · cases h
      · cases h
    | _ => cases h
/-- i: the list of lists, j: the loop's name -/
def mEach (i j : Nat) : M Fl := fun ρ => match ρ[i]? with
  | some (some ⟨2, .list ds⟩) => if j < ρ.length then match listsOf ds with
    | some ess => some (.nx, (ρ.set j none).set i (some ⟨2, .list (ess.map fun es => .list (es ++ [.none]))⟩))
    | none => none
    else none
  | _ => none
/-- the heap, the first t of these lists longer -/
def hEach (H : Hp) (bs : List Addr) (t : Nat) : Hp := fun b => if b ∈ bs.take t then (match H b with
  | some (.lst ws) => some (.lst (ws ++ [.non]))
  | o => o) else H b
theorem hEach_out {bs : List Addr} {t : Nat} {b : Addr} (h : b ∉ bs) : hEach H bs t b = H b := if_neg fun hm => h (List.mem_of_mem_take hm)
theorem hEach_step {bs : List Addr} (nd : bs.Nodup) {t : Nat} (ht : t < bs.length) {ws : List V} (hw : H bs[t] = some (.lst ws)) : upd (hEach H bs t) bs[t] (.lst (ws ++ [.non])) = hEach H bs (t + 1) := by
  funext b
  have tk : bs.take (t + 1) = bs.take t ++ [bs[t]] := by rw [List.take_succ, List.getElem?_eq_getElem ht]; rfl
  by_cases e : b = bs[t]
  · subst e
    rw [upd_same]
    unfold hEach
    rw [if_pos (by rw [tk]; exact List.mem_append_right _ (List.mem_singleton.mpr rfl)), hw]
  · rw [upd_ne e]
    unfold hEach
    have : b ∈ bs.take (t + 1) ↔ b ∈ bs.take t := by rw [tk, List.mem_append, List.mem_singleton]; exact ⟨fun h => h.resolve_right e, .inl⟩
    simp only [this]
theorem hEach_at {bs : List Addr} (nd : bs.Nodup) {t : Nat} (ht : t < bs.length) : hEach H bs t bs[t] = H bs[t] := by
  refine if_neg fun hm => ?_
  obtain ⟨k, hk, e⟩ := List.getElem_of_mem hm
  rw [List.getElem_take] at e
  rw [List.length_take] at hk
  exact (List.pairwise_iff_getElem.mp nd) k t (by omega) ht (by omega) e
theorem hEach_in {bs : List Addr} (nd : bs.Nodup) {t : Nat} (ht : t < bs.length) {ws : List V} (hw : H bs[t] = some (.lst ws)) : hEach H bs bs.length bs[t] = some (.lst (ws ++ [.non])) := by
  unfold hEach
  rw [List.take_length, if_pos (List.getElem_mem ht), hw]
theorem set_none_of {ρ : Sto} {j : Nat} : ∀ {σ : St} {cs : List Addr}, RS K mg F H ρ σ cs → ∃ cs', RS K mg F H (ρ.set j none) σ cs' ∧ ∃ c, cs.Perm (c ++ cs') := by
  intro σ cs h
  have := RS.wipeS (vs := [j]) h
  exact this
theorem ds_each {pr : List Nat} {i j : Nat} {x y : Str} {px px2 py pc apos cpos p1 : Pos} {jj : Nat} (hc : X.calm = true) (nd : X.N.Nodup) (hN : X.N[i]? = some y) (hv : Vis X.env.scope y) (hNx : X.N[j]? = some x) (hl : X.env.scope.names.lookup x = some .local) (hvx : Vis X.env.scope x) (hij : i ≠ j) (jp : j ∉ pr) (ip : i ∉ pr)
    (hp : PassesOwn (model X.prog X.w) X.A X.env X.xe) (hd : (y == ("__debug__" : Str)) = false := by decide) (hcd : (y == ("__classdict__" : Str)) = false := by decide) (hdx : (x == ("__debug__" : Str)) = false := by decide) (hcdx : (x == ("__classdict__" : Str)) = false := by decide)
    (hs : ∀ v, foldedSetIterable (.Name y py) X.env v = pure v := by intro _; rfl)
    (hbase : attributeBase (.Name x px2) "append" X.env (eval (.Name x px2) X.env) = eval (.Name x px2) X.env := by rfl)
    (hfew : ((backTo cpos (starEach [.Constant .none jj p1] X.env)).all (fun x => !x.1) && (backToKw cpos (keywordEach [] X.env)).all (fun x => x.1.isSome) && decide ([(.Constant .none jj p1 : Expr)].length + ([] : List Keyword).length + (if ([] : List Keyword).isEmpty then 0 else 1) < 30)) = true := by rfl)
    (hline : (apos.endLine == cpos.line) = true := by rfl) (hst : starEach [.Constant .none jj p1] X.env = (false, eval (.Constant .none jj p1) X.env) :: starEach [] X.env := by rfl) (hpl : (backTo cpos (starEach [] X.env)).any (·.1) = false := by rfl) :
    DS X pr (.For (.Name x px) (.Name y py) [.Expr (.Call (.Attribute (.Name x px2) "append" apos) [.Constant .none jj p1] [] cpos) pc] [] pos) (mEach i j) :=
  ps_imp (ps_for hp hc (pi_list (pe_var hN hv hd hcd)) (pg_name (i := j) nd hNx (.inl hl) (.inr hl)) (pss_one (ps_expr (pe_bm PySem.F.plainAttrs_list PySem.F.slot_list_append PySem.F.type_list_append mt_append (pe_var hNx hvx hdx hcdx) (pa_cons pe_non pa_nil hst) hbase hfew hline hst hpl))) hs) fun D σ H ⟨F, G, ρ, cs, fl, ρ', S, e, q⟩ => by
    unfold mEach at e
    split at e
    · rename_i ds hb
      split at e
      rotate_left
      · cases e
      rename_i hjl
      split at e
      · rename_i ess he
        cases e
        obtain ⟨rfl, hlen⟩ := listsOf_eq he
        obtain ⟨v, c, cs1, ev, ow, r1, pm⟩ := S.rs.out hb
        have ow : Ow X.K X.mg F H 2 v (.list (ess.map .list)) c := ow
        obtain ⟨a, vs, ds', bs, rfl, e1, h1, fa, rfl⟩ : ∃ a vs ds' css, v = .ref a ∧ PyData.list (ess.map .list) = .list ds' ∧ H a = some (.lst vs) ∧ FA (Ow X.K X.mg F H 1) vs ds' css ∧ c = a :: css := by
          rcases ow with h | ⟨_, _, _, _, _, _, _, h, _⟩
          · exact h
          · cases h
        cases e1
        obtain ⟨wss, rfl, l1, l2, hw⟩ := fa_lists fa
        have ndA : ((a :: bs) ++ cs1).Nodup := pm.nodup_iff.mp S.nd
        have ndb : bs.Nodup := (List.nodup_cons.mp (List.nodup_append.mp ndA).1).2
        have ab : a ∉ bs := (List.nodup_cons.mp (List.nodup_append.mp ndA).1).1
        have b1 : ∀ b ∈ bs, b ∉ cs1 := fun b hb h => (List.nodup_append.mp ndA).2.2 b (List.mem_cons_of_mem _ hb) b h rfl
        have a1 : a ∉ cs1 := fun h => (List.nodup_append.mp ndA).2.2 a List.mem_cons_self a h rfl
        have goff : ∀ b ∈ a :: bs, G b = none := fun b hb => S.off b (pm.mem_iff.mpr (List.mem_append_left _ hb))
        have il : i < ρ.length := (List.getElem?_eq_some_iff.mp hb).1
        have hA : ∀ t, hEach H bs t a = some (.lst (bs.map V.ref)) := fun t => (hEach_out ab).trans h1
        refine ⟨.ref a, ev, a, rfl, ⟨_, SqL.of h1⟩, fun t m σ1 H1 => m = bs.length - t ∧ t ≤ bs.length ∧ H1 = hEach H bs t ∧ (∀ k, k ≠ j → σ1[k]? = σ[k]?) ∧ σ1.length = σ.length, ⟨_, rfl, Nat.zero_le _, ?_, fun _ _ => rfl, rfl⟩, ?_⟩
        · funext b
          unfold hEach
          simp
        rintro t m σ1 H1 ⟨rfl, ht, rfl, hσ, hσl⟩
        by_cases hlt : t < bs.length
        · right
          have gt : (bs.map V.ref)[t]? = some (.ref bs[t]) := by rw [List.getElem?_map, List.getElem?_eq_getElem hlt]; rfl
          refine ⟨⟨_, _, SqL.of (hA t), gt⟩, fun σ3 H3 => ∃ m', m' < bs.length - t ∧ (m' = bs.length - (t + 1) ∧ t + 1 ≤ bs.length ∧ H3 = hEach H bs (t + 1) ∧ (∀ k, k ≠ j → σ3[k]? = σ[k]?) ∧ σ3.length = σ.length), fun σ' H' hn => hn, ?_⟩
          rintro x0 H' ⟨rfl, hx⟩
          have ex := hx _ (SqL.of (hA t))
          rw [gt] at ex
          cases ex
          obtain ⟨hw1, hw2⟩ := hw t hlt (by omega) (by omega)
          have ha2 : hEach H bs t bs[t] = some (.lst wss[t]) := (hEach_at ndb hlt).trans hw1
          have lw : wss[t].length < lim := by rw [hw2.length]; exact hlen _ (List.getElem_mem _)
          have jl : j < σ1.length := by
            rw [hσl, ← S.rs.length]
            exact hjl
          refine ⟨.ref bs[t], by rw [List.getElem?_set_self jl], tyL ha2, bs[t], wss[t], .non, rfl, rfl, ha2, lim_lt lw, ?_⟩
          exact ⟨_, by omega, rfl, hlt, hEach_step ndb hlt hw1, fun k hk => (List.getElem?_set_ne (Ne.symm hk)).trans (hσ k hk), by rw [List.length_set]; exact hσl⟩
        · left
          have et : t = bs.length := by omega
          subst et
          refine ⟨⟨_, SqL.of (hA _), by simp⟩, ?_⟩
          have keep : ∀ b, b ∉ bs → hEach H bs bs.length b = H b := fun b hb => hEach_out hb
          -- the store behind
          have r2 : RS X.K X.mg F (hEach H bs bs.length) (ρ.set i none) σ cs1 := r1.keep (Sub.refl _) fun b hb => keep b fun h => b1 b h hb
          obtain ⟨cs2, r3, c3, p3⟩ := set_none_of (j := j) r2
          have r4 : RS X.K X.mg F (hEach H bs bs.length) ((ρ.set i none).set j none) σ1 cs2 := r3.congr hσl fun k b hk => hσ k fun e => by
            subst e
            rw [List.getElem?_set_self (by rw [List.length_set]; exact hjl)] at hk
            cases hk
          have ei : ((ρ.set i none).set j none)[i]? = some none := by
            rw [List.getElem?_set_ne (Ne.symm hij), List.getElem?_set_self il]
          have fa2 : FA (Ow X.K X.mg F (hEach H bs bs.length) 1) (bs.map V.ref) ((ess.map fun es => es ++ [.none]).map .list) bs := by
            refine lists_fa (wss := wss.map fun ws => ws ++ [.non]) (by simpa using l1) (by simpa using l2) fun k k1 k2 k3 => ?_
            obtain ⟨q1, q2⟩ := hw k k1 (by simpa using k2) (by simpa using k3)
            rw [List.getElem_map, List.getElem_map]
            exact ⟨hEach_in ndb k1 q1, q2.append (.cons .non .nil)⟩
          rw [List.map_map] at fa2
          have fa3 : FA (Ow X.K X.mg F (hEach H bs bs.length) 1) (bs.map V.ref) (ess.map fun es => PyData.list (es ++ [PyData.none])) bs := fa2
          obtain ⟨cs5, r5, p5⟩ := r4.into (b := ⟨2, .list (ess.map fun es => .list (es ++ [.none]))⟩) (i := i) (c := a :: bs) ei ((hσ i hij).trans ev) (.inl ⟨a, _, _, bs, rfl, rfl, hA _, fa3, rfl⟩)
          have es : ((ρ.set i none).set j none).set i (some ⟨2, .list (ess.map fun es => .list (es ++ [.none]))⟩) = (ρ.set j none).set i (some ⟨2, .list (ess.map fun es => .list (es ++ [.none]))⟩) := by
            rw [List.set_comm _ _ hij, List.set_set]
          rw [es] at r5
          have nd5 : ((a :: bs) ++ cs2).Nodup := by
            have h1 := p3.nodup_iff.mp (List.nodup_append.mp ndA).2.1
            refine List.nodup_append.mpr ⟨(List.nodup_append.mp ndA).1, (List.nodup_append.mp h1).2.1, fun z hz u hu e => ?_⟩
            subst e
            exact (List.nodup_append.mp ndA).2.2 z hz z (p3.mem_iff.mpr (List.mem_append_right _ hu)) rfl
          refine q F G _ σ1 cs5 Fw.refl (fun k hk => hσ k fun e => jp (e ▸ hk)) ⟨S.fg, fun b o eb => ?_, r5, p5.nodup_iff.mpr nd5, fun b hb => ?_⟩
          · rw [keep b fun h => by rw [goff b (List.mem_cons_of_mem _ h)] at eb; cases eb]
            exact S.gh b o eb
          · rcases List.mem_append.mp (p5.mem_iff.mp hb) with h | h
            · exact goff b h
            · exact S.off b (pm.mem_iff.mpr (List.mem_append_right _ (p3.mem_iff.mpr (List.mem_append_right _ h))))
      · cases e
    · cases e

/-! ### an int in a tuple of ints -/
def fInT (neg : Bool) : Op2 := fun ka da kb db => match da, db with
  | .int i, .tuple ds => if ka = 0 ∧ kb = 0 then match intsOf ds with
      | some ns => some (0, .bool (if neg then !decide (i ∈ ns) else decide (i ∈ ns)))
      | none => none
    else none
  | _, _ => fIn neg ka da kb db
theorem ints_rpT {ds : List D} {ns : List Int} {vs : List V} (h : intsOf ds = some ns) (ra : RpA K mg F vs ds) : vs = ns.map V.int := by
  induction ds generalizing ns vs with
  | nil => cases h; cases ra; rfl
  | cons d ds ih =>
    cases d with
    | int i =>
      unfold intsOf at h
      split at h
      · rename_i r hr
        cases h
        cases ra with
        | cons r1 r2 =>
          cases r1
          rw [ih hr r2]; rfl
      · cases h
    | _ => cases h
theorem inV_ints (i : Int) (ns : List Int) : inV (.int i) (ns.map V.int) = decide (i ∈ ns) := by
  unfold inV
  induction ns with
  | nil => simp
  | cons n ns ih =>
    rw [List.map_cons, List.any_cons, ih]
    have : eqV (.int n) (.int i) = decide (i = n) := by
      unfold eqV
      simp only
      rw [Bool.eq_iff_iff, beq_iff_eq, decide_eq_true_iff]
      exact eq_comm
    rw [this]
    simp [List.mem_cons]
theorem os_inT : OpS K mg (fun x y H Q => rIn K false x y H Q ∨ rInD K x y H Q) (fInT false) := fun F G H x y ka da kb db ca cb k d Q fg gh oa ob e n => by
  unfold fInT at e
  split at e
  · rename_i i ds
    split at e
    · rename_i hk
      obtain ⟨rfl, rfl⟩ := hk
      split at e
      · rename_i ns hn
        cases e
        obtain ⟨_, r1⟩ := oa
        obtain ⟨_, r2⟩ := ob
        cases r1
        cases r2 with
        | @tup a vs _ h ra =>
          have ev := ints_rpT hn ra
          subst ev
          refine .inl ⟨a, _, rfl, .inr (sub_sqT (fg.trans gh) h), rfl, by simp [flatV], ?_⟩
          rw [inV_ints]
          exact n.sc fg gh (.bl _)
      · cases e
    · cases e
  · exact .inr (os_in F G H x y ka da kb db ca cb k d Q fg gh oa ob e n)
end
end Lk

set_option Elab.async false
set_option linter.all false
set_option maxRecDepth 100000
/-! LkMc: min, max of a tuple of ints. -/
namespace PySem
open Sem (wp)
section
variable {prog : Program} {w : World} {A : Around} {E : Value → Shared → Prop} {s : Shared} {l : Addr} {xs : Array (Int × Tok)}
theorem lk_iter_intTup {Q : Value → Shared → Prop} (hl : s.heap.IsTuple l (intItems xs))
    (h : ∀ s₂ : Shared, s₂ = { s with heap := s.heap.push { cls := .type "tuple_iterator", data := .fields #[.ref l, .int 0 0] } } →
      (s₂.heap.IsTupleIter s.heap.objs.size l 0 ∧ s₂.heap.IsTuple l (intItems xs)) → (∀ b ∈ [s.heap.objs.size, l], b < s₂.heap.objs.size) → l ≠ s.heap.objs.size → Q (.ref s.heap.objs.size) s₂) :
    wpAny (model prog w) A (pyIter (.ref l)) Q E s := by
  have hlt : l < s.heap.objs.size := by obtain ⟨_, e, _⟩ := hl; exact Heap.lt_size e
  refine wpAny_pyIter_tuple hl (h _ rfl ⟨⟨_, Heap.get?_push_size _ rfl, rfl, rfl⟩, hl.push _⟩ (fun b hb => ?_) (Nat.ne_of_lt hlt))
  show b < (s.heap.push _).objs.size
  rw [Heap.size_push]
  rcases List.mem_cons.mp hb with rfl | hb
  · exact Nat.lt_succ_self _
  · rcases List.mem_cons.mp hb with rfl | hb
    · exact Nat.lt_succ_of_lt hlt
    · cases hb
theorem lk_old_keptT {h' : Heap} (hk : ∀ b o, b ∉ [s.heap.objs.size] → (s.heap.push { cls := .type "tuple_iterator", data := .fields #[.ref l, .int 0 0] }).get? b = some o → h'.get? b = some o) :
    ∀ b o, s.heap.get? b = some o → h'.get? b = some o := fun b o e => by
  refine hk b o (fun hm => ?_) (Heap.get?_push_of_some _ e)
  rcases List.mem_cons.mp hm with e1 | hm
  · exact absurd (e1 ▸ Heap.lt_size e) (Nat.lt_irrefl _)
  · cases hm
theorem lk_max_intTup {Q : Value → Shared → Prop} (hh : A.handled = none) (hl : s.heap.IsTuple l (intItems xs)) (hne : 0 < xs.size)
    (h : ∀ v h' tk, (intItems xs)[argBest (fun i j => decide (numAt xs i > numAt xs j)) (xs.size - 1)]? = some v → (∀ b o, s.heap.get? b = some o → h'.get? b = some o) → Q v { s with heap := h', toks := tk }) :
    wpAny (model prog w) A (call (.builtin "max") [.ref l]) Q E s := by
  refine call_max_walk (lk_iter_intTup hl fun s₂ e st hfp hlI => ?_)
  subst e
  refine ⟨_, _, _, _, _, _, _, rfl, Walks.tuple (A := A.in1) hh _ l hlI (intItems xs), st, hfp, by simpa [intItems] using hne, CmpOf.ints_gt (numAt xs) (fun _ _ => intItems_at), fun v h' tk hP hk => ?_⟩
  exact h v h' tk (by simpa [intItems] using hP) (lk_old_keptT hk)
theorem lk_min_intTup {Q : Value → Shared → Prop} (hh : A.handled = none) (hl : s.heap.IsTuple l (intItems xs)) (hne : 0 < xs.size)
    (h : ∀ v h' tk, (intItems xs)[argBest (fun i j => decide (numAt xs i < numAt xs j)) (xs.size - 1)]? = some v → (∀ b o, s.heap.get? b = some o → h'.get? b = some o) → Q v { s with heap := h', toks := tk }) :
    wpAny (model prog w) A (call (.builtin "min") [.ref l]) Q E s := by
  refine call_min_walk (lk_iter_intTup hl fun s₂ e st hfp hlI => ?_)
  subst e
  refine ⟨_, _, _, _, _, _, _, rfl, Walks.tuple (A := A.in1) hh _ l hlI (intItems xs), st, hfp, by simpa [intItems] using hne, CmpOf.ints_lt (numAt xs) (fun _ _ => intItems_at), fun v h' tk hP hk => ?_⟩
  exact h v h' tk (by simpa [intItems] using hP) (lk_old_keptT hk)
end
end PySem
namespace L2
open PySem PySem.Spec PyProof.Rows
section
variable {prog : Program} {w : World} {A : Around} {E : Value → Shared → Prop} {s : Shared} {l : Addr} {its : List Value} {ns : List Int} {Q : Value → Shared → Prop}
theorem lk_max_rawT (hh : A.handled = none) (hl : s.heap.IsTuple l its.toArray) (hi : IntsAre its ns) (hne : 0 < ns.length)
    (h : ∀ h' tk M t', (∀ b o, s.heap.get? b = some o → h'.get? b = some o) → M ∈ ns → (∀ a, a ∈ ns → a ≤ M) → Q (.int M t') { s with heap := h', toks := tk }) : wpAny (model prog w) A (call (.builtin "max") [.ref l]) Q E s := by
  obtain ⟨xs, e⟩ := hi.allInts.items
  have hn : numsOf (intItems xs).toList = ns := by rw [← e]; exact hi.numsOf
  rw [nums_intItems] at hn
  subst hn
  rw [e] at hl
  have hsz : 0 < xs.size := by simpa using hne
  refine PySem.lk_max_intTup hh hl hsz fun v h' tk hv hk => ?_
  obtain ⟨t, rfl⟩ := intItems_at hv
  obtain ⟨h1, h2⟩ := argBest_gt (numAt xs) (xs.size - 1)
  refine h h' tk _ t hk ?_ fun a ha => ?_
  · rw [numAt_eq]; exact PySem.getD_mem (by rw [List.length_map, Array.length_toList]; omega)
  · obtain ⟨j, hj, rfl⟩ := mem_getD ha
    rw [List.length_map, Array.length_toList] at hj
    rw [← numAt_eq]; exact h2 j (by omega)
theorem lk_min_rawT (hh : A.handled = none) (hl : s.heap.IsTuple l its.toArray) (hi : IntsAre its ns) (hne : 0 < ns.length)
    (h : ∀ h' tk M t', (∀ b o, s.heap.get? b = some o → h'.get? b = some o) → M ∈ ns → (∀ a, a ∈ ns → M ≤ a) → Q (.int M t') { s with heap := h', toks := tk }) : wpAny (model prog w) A (call (.builtin "min") [.ref l]) Q E s := by
  obtain ⟨xs, e⟩ := hi.allInts.items
  have hn : numsOf (intItems xs).toList = ns := by rw [← e]; exact hi.numsOf
  rw [nums_intItems] at hn
  subst hn
  rw [e] at hl
  have hsz : 0 < xs.size := by simpa using hne
  refine PySem.lk_min_intTup hh hl hsz fun v h' tk hv hk => ?_
  obtain ⟨t, rfl⟩ := intItems_at hv
  obtain ⟨h1, h2⟩ := argBest_lt (numAt xs) (xs.size - 1)
  refine h h' tk _ t hk ?_ fun a ha => ?_
  · rw [numAt_eq]; exact PySem.getD_mem (by rw [List.length_map, Array.length_toList]; omega)
  · obtain ⟨j, hj, rfl⟩ := mem_getD ha
    rw [List.length_map, Array.length_toList] at hj
    rw [← numAt_eq]; exact h2 j (by omega)
end
end L2
namespace Lk
open PySem L2 PySem.Spec
section
variable {X : Cx} {μ : Bool} {K : PySem.W.Frag} {mg : Str → Option Value} {F G H : Hp}
def rMaxT (K : PySem.W.Frag) : List V → Hp → VK → Prop := fun vs H Q => ∃ (a : Addr) (ns : List Int), vs = [V.ref a] ∧ SqT K H a (ns.map V.int) ∧ 0 < ns.length ∧ ∀ m, m ∈ ns → (∀ y, y ∈ ns → y ≤ m) → Q (.int m) H
def rMinT (K : PySem.W.Frag) : List V → Hp → VK → Prop := fun vs H Q => ∃ (a : Addr) (ns : List Int), vs = [V.ref a] ∧ SqT K H a (ns.map V.int) ∧ 0 < ns.length ∧ ∀ m, m ∈ ns → (∀ y, y ∈ ns → m ≤ y) → Q (.int m) H
theorem cr_maxT (hc : X.calm = true) : CallR X (.builtin "max") (rMaxT X.K) := by
  intro pins s σ H vs us Q I r h
  obtain ⟨a, ns, rfl, hs, hne, q⟩ := h
  obtain ⟨its, rv, hl, _⟩ := I.tuple hs
  rw [Vals.ref1 r]
  exact lk_max_rawT (I.ok.hd hc) hl rv.ints hne fun h' tk m t' hk h1 h2 => ⟨.int _, H, I.kept hk, ⟨_, rfl⟩, q m h1 h2⟩
theorem cr_minT (hc : X.calm = true) : CallR X (.builtin "min") (rMinT X.K) := by
  intro pins s σ H vs us Q I r h
  obtain ⟨a, ns, rfl, hs, hne, q⟩ := h
  obtain ⟨its, rv, hl, _⟩ := I.tuple hs
  rw [Vals.ref1 r]
  exact lk_min_rawT (I.ok.hd hc) hl rv.ints hne fun h' tk m t' hk h1 h2 => ⟨.int _, H, I.kept hk, ⟨_, rfl⟩, q m h1 h2⟩
/-- g of a list or a tuple of ints -/
def fMmT (g : List Int → Option Int) : Nat → D → Option (Nat × D) := fun k d => match d with
  | .tuple ds => match intsOf ds with
      | some bs => match g bs with
        | some m => some (0, .int m)
        | none => none
      | none => none
  | _ => fMm g k d
theorem cs_maxT : CallS1 K mg (fun xs H Q => rMax K xs H Q ∨ rMaxT K xs H Q) (fMmT maxOf) := fun F G H x ka da ca k d Q fg gh o e n => by
  unfold fMmT at e
  split at e
  · rename_i ds
    split at e
    · rename_i bs eb
      split at e
      · rename_i m em
        cases e
        have r := o.flat (fun _ h => nomatch h) fun _ _ h => nomatch h
        cases r with
        | @tup a vs _ h ra =>
          have := ints_rp ra eb
          subst this
          obtain ⟨h1, h2⟩ := maxOf_is em
          refine .inr ⟨a, bs, rfl, sub_sqT (fg.trans gh) h, len_pos_of_mem h1, fun m' hm hle => ?_⟩
          have : m' = m := Int.le_antisymm (h2 _ hm) (hle _ h1)
          subst this
          exact n.sc fg gh (.int _)
      · cases e
    · cases e
  · exact .inl (cs_max F G H x ka da ca k d Q fg gh o e n)
theorem cs_minT : CallS1 K mg (fun xs H Q => rMin K xs H Q ∨ rMinT K xs H Q) (fMmT minOf) := fun F G H x ka da ca k d Q fg gh o e n => by
  unfold fMmT at e
  split at e
  · rename_i ds
    split at e
    · rename_i bs eb
      split at e
      · rename_i m em
        cases e
        have r := o.flat (fun _ h => nomatch h) fun _ _ h => nomatch h
        cases r with
        | @tup a vs _ h ra =>
          have := ints_rp ra eb
          subst this
          obtain ⟨h1, h2⟩ := minOf_is em
          refine .inr ⟨a, bs, rfl, sub_sqT (fg.trans gh) h, len_pos_of_mem h1, fun m' hm hle => ?_⟩
          have : m' = m := Int.le_antisymm (hle _ h1) (h2 _ hm)
          subst this
          exact n.sc fg gh (.int _)
      · cases e
    · cases e
  · exact .inl (cs_min F G H x ka da ca k d Q fg gh o e n)
end
end Lk

set_option Elab.async false
set_option linter.all false
set_option maxRecDepth 100000
/-! LkMd: f(x), x is only looked at: what x holds stays its own. -/
namespace Lk
open PySem L2 PySem.Spec PyProof.Rows
/-- whole numbers, None, tuples of whole numbers -/
def flat1 : D → Bool
  | .int _ => true
  | .none => true
  | .bool _ => true
  | .str _ => true
  | _ => false
def flat : D → Bool
  | .int _ => true
  | .none => true
  | .bool _ => true
  | .str _ => true
  | .tuple ds => ds.all flat1
  | _ => false
def flatR : R → Bool
  | ⟨_, 0, d⟩ => flat d
  | ⟨true, 1, .list ds⟩ => ds.all flat
  | _ => false
def mCallB (i : Nat) (g : Fn) : M R := fun ρ => match ρ[i]? with
  | some (some b) => match g [⟨0, b.d⟩] with
    | some (r, _) => if flatR r = true then some (r, ρ) else none
    | none => none
  | _ => none
section
variable {K : PySem.W.Frag} {mg : Str → Option Value} {F F' G H : Hp} {c : List Addr}
/-- F' without the cells -/
def cut (c : List Addr) (F : Hp) : Hp := fun a => if a ∈ c then none else F a
theorem Ow.kinds : ∀ {k : Nat} {v : V} {d : D} {cs : List Addr}, Ow K mg F H k v d cs → ∀ a ∈ cs, (∃ vs, H a = some (.lst vs)) ∨ ∃ C dx fs, H a = some (.ins C dx fs)
  | 0, _, _, _, ⟨e, _⟩, a, ha => by subst e; cases ha
  | k + 1, _, _, _, .inr ⟨a, C, dx, fs, c, kvs, e1, e2, e3, e4, r, e5⟩, b, hb => by
    subst e5
    obtain rfl := List.mem_singleton.mp hb
    exact .inr ⟨_, _, _, e3⟩
  | k + 1, _, _, _, .inl ⟨a, vs, ds, css, e1, e2, e3, f, e4⟩, b, hb => by
    subst e4
    rcases List.mem_cons.mp hb with e | hb
    · subst e; exact .inl ⟨_, e3⟩
    · clear e3 e1 e2
      induction f with
      | nil => cases hb
      | cons p _ ih =>
        rcases List.mem_append.mp hb with hb | hb
        · exact Ow.kinds p b hb
        · exact ih (List.mem_cons_of_mem _ hb) hb
theorem flat1_rp {v : V} {d : D} (h : flat1 d = true) (r : Rp K mg F v d) : Rp K mg F' v d := by
  cases r with
  | non => exact .non
  | bl b => exact .bl b
  | int i => exact .int i
  | str x => exact .str x
  | lst _ _ => exact Bool.noConfusion h
  | tup _ _ => exact Bool.noConfusion h
  | ins _ _ _ => exact Bool.noConfusion h
  | scr _ => exact Bool.noConfusion h
theorem flat1_rpA : ∀ {vs : List V} {ds : List D}, ds.all flat1 = true → RpA K mg F vs ds → RpA K mg F' vs ds
  | _, _, _, .nil => .nil
  | _, _, h, .cons r rs => by
    rw [List.all_cons, Bool.and_eq_true] at h
    exact .cons (flat1_rp h.1 r) (flat1_rpA h.2 rs)
theorem flat_rp (hk : ∀ a ∈ c, (∃ vs, F a = some (.lst vs)) ∨ ∃ C dx fs, F a = some (.ins C dx fs)) {v : V} {d : D} (h : flat d = true) (r : Rp K mg F v d) : Rp K mg (cut c F) v d := by
  have nc : ∀ {a : Addr} {o : HO}, F a = some o → (∀ vs, o ≠ .lst vs) → (∀ C dx fs, o ≠ .ins C dx fs) → cut c F a = some o := fun {a o} e n1 n2 => by
    have : a ∉ c := fun ha => by
      rcases hk a ha with ⟨vs, e2⟩ | ⟨C, dx, fs, e2⟩
      · rw [e] at e2; cases e2; exact n1 _ rfl
      · rw [e] at e2; cases e2; exact n2 _ _ _ rfl
    exact (if_neg this).trans e
  cases r with
  | non => exact .non
  | bl b => exact .bl b
  | int i => exact .int i
  | str x => exact .str x
  | lst _ _ => exact Bool.noConfusion h
  | tup hs ra =>
    refine .tup ?_ (flat1_rpA h ra)
    rcases hs with h2 | h2
    · rcases h2 with h3 | ⟨o, h3⟩
      · exact .inl (.inl (nc h3 (by intros; simp) (by intros; simp)))
      · exact .inl (.inr ⟨o, nc h3 (by intros; simp) (by intros; simp)⟩)
    · exact .inr h2
  | ins _ _ _ => exact Bool.noConfusion h
  | scr _ => exact Bool.noConfusion h
theorem flat_rpA (hk : ∀ a ∈ c, (∃ vs, F a = some (.lst vs)) ∨ ∃ C dx fs, F a = some (.ins C dx fs)) : ∀ {vs : List V} {ds : List D}, ds.all flat = true → RpA K mg F vs ds → RpA K mg (cut c F) vs ds
  | _, _, _, .nil => .nil
  | _, _, h, .cons r rs => by
    rw [List.all_cons, Bool.and_eq_true] at h
    exact .cons (flat_rp hk h.1 r) (flat_rpA hk h.2 rs)
theorem flat_ow (hk : ∀ a ∈ c, (∃ vs, F a = some (.lst vs)) ∨ ∃ C dx fs, F a = some (.ins C dx fs)) {v : V} {r : R} {cs : List Addr} (h : flatR r = true) (o : Ow K mg F H r.k v r.d cs) : Ow K mg (cut c F) H r.k v r.d cs := by
  unfold flatR at h
  split at h
  · obtain ⟨e, rp⟩ := o
    exact ⟨e, flat_rp hk h rp⟩
  · rcases o with ⟨a, vs, ds, css, e1, e2, e3, f, e4⟩ | ⟨a, C, dx, fs, c, kvs, e1, e2, _⟩
    · cases e2
      obtain ⟨e5, ra⟩ := fa_zero f
      subst e5
      exact .inl ⟨a, vs, _, [], e1, rfl, e3, fa_of_rpA (flat_rpA hk h ra), e4⟩
    · cases e2
  · cases h
/-- behind a call that only looked at an own thing -/
theorem back_look {ρ : Sto} {σ : L2.St} {cs : List Addr} {outs : List (Option B)} {v0 : V} {r : R} {v : V} {H' : Hp} {k : Nat} {d : D} (S : SR K mg F G H ρ σ cs) (o : Ow K mg F H k v0 d c) (hc : ∀ a ∈ c, a ∈ cs) (hr : flatR r = true) (b : Back K mg (frz c F H) H outs [v0] r v H') :
    ∃ F' G', Fw F G F' G' ∧ Sub H H' ∧ SR K mg F' G' H' ρ σ cs ∧ SV K mg F' G' H' cs r v := by
  obtain ⟨F', G', cs', W, S', sv, _⟩ := b
  have cG : ∀ a ∈ c, G a = none := fun a ha => S.off a (hc a ha)
  have cF : ∀ a ∈ c, F a = none := fun a ha => S.fg.out (cG a ha)
  have hs : ∀ a ∈ cs, H a ≠ none := fun a ha => by obtain ⟨vs, e⟩ := S.rs.there a ha; rw [e]; simp
  have fN : ∀ a ∈ cs, a ∉ c → F' a = none := fun a ha hn => by
    cases e : F' a with
    | none => rfl
    | some o =>
      rcases W.new a (by rw [e]; simp) with h | h
      · rw [frz_out hn] at h
        exact absurd (S.fg.out (S.off a ha)) h
      · exact absurd h (hs a ha)
  have GH : Sub H H' := W.g.trans S'.gh
  have fF : Sub F F' := (frz_sub cF).trans W.f
  have hk : ∀ a ∈ c, (∃ vs, F' a = some (.lst vs)) ∨ ∃ C dx fs, F' a = some (.ins C dx fs) := fun a ha => by
    rcases o.kinds a ha with ⟨vs, e⟩ | ⟨C, dx, fs, e⟩
    · exact .inl ⟨vs, W.f a _ ((frz_in ha).trans e)⟩
    · exact .inr ⟨C, dx, fs, W.f a _ ((frz_in ha).trans e)⟩
  have fC : Sub F (cut c F') := fun a o e => by
    have : a ∉ c := fun ha => by rw [cF a ha] at e; cases e
    exact (if_neg this).trans (fF a o e)
  refine ⟨cut c F', fun a => if a ∈ cs then none else G' a, ⟨fC, fun a o e => ?_, fun a h => ?_⟩, GH, ⟨fun a o e => ?_, fun a o e => ?_, S.rs.keep fC fun a ha => ?_, S.nd, fun a ha => by rw [if_pos ha]⟩, ?_⟩
  · have : a ∉ cs := fun ha => by rw [S.off a ha] at e; cases e
    rw [if_neg this]; exact W.g a o (S.gh a o e)
  · by_cases ha : a ∈ c
    · exact absurd (if_pos ha) h
    · have h2 : F' a ≠ none := fun e => h ((if_neg ha).trans e)
      rcases W.new a h2 with h3 | h3
      · rw [frz_out ha] at h3; exact .inl h3
      · exact .inr (S.gh.out h3)
  · by_cases hac : a ∈ c
    · rw [show cut c F' a = none from if_pos hac] at e; cases e
    · rw [show cut c F' a = F' a from if_neg hac] at e
      have : a ∉ cs := fun ha => by rw [fN a ha hac] at e; cases e
      rw [if_neg this]; exact S'.fg a o e
  · by_cases ha : a ∈ cs
    · rw [if_pos ha] at e; cases e
    · rw [if_neg ha] at e; exact S'.gh a o e
  · obtain ⟨vs, e⟩ := S.rs.there a ha
    rw [e]; exact GH a _ e
  · obtain ⟨c', o', hf⟩ := sv
    refine ⟨c', flat_ow hk hr o', fun h => ?_⟩
    obtain ⟨nd, off⟩ := hf h
    have n1 := (List.nodup_append.mp nd).1
    refine ⟨List.nodup_append.mpr ⟨n1, S.nd, fun a ha b hb e => ?_⟩, fun a ha => ?_⟩
    · subst e
      have : G' a ≠ none := by
        obtain ⟨vs, e⟩ := S.rs.there a hb
        rw [W.g a _ e]; simp
      exact this (off a ha)
    · by_cases hc' : a ∈ cs
      · exact if_pos hc'
      · exact (if_neg hc').trans (off a ha)
end
section
variable {X : Cx} {μ : Bool} {k j i : Nat} {x y qual : Str} {st : Stmt} {ps : List Str} {g : Fn} {p py pos : Pos} {x0 : Str}
theorem de_callB (Fx : FnC X j x qual st [x0] g) (hjk : j ≤ k) (room : Room k X.A) (guards : X.A.guards = some []) (hb : BindP x qual st [x0]) (hN : X.N[i]? = some y) (hv : Vis X.env.scope y) (hg : Gl X x := by rfl)
    (hd : (y == ("__debug__" : Str)) = false := by decide) (hcd : (y == ("__classdict__" : Str)) = false := by decide)
    (hdb : (x == ("__debug__" : Str)) = false := by decide) (he : starEach [.Name y py] X.env = (false, eval (.Name y py) X.env) :: starEach [] X.env := by rfl) (hpl : (backTo pos (starEach [] X.env)).any (·.1) = false := by rfl) : DE X μ (.Call (.Name x p) [.Name y py] [] pos) (mCallB i g) := by
  obtain ⟨f, fd, Fg, Fd, hm⟩ := Fx.ex
  refine ⟨fun pins s σ H Q I h => ?_⟩
  obtain ⟨F, G, ρ, cs, rr, ρ', S, e2, q⟩ := h
  refine wpAny_Call_Name_kw (ld_glob I hg hm ?_ hdb)
  unfold mCallB at e2
  split at e2
  · rename_i b hbi
    split at e2
    · rename_i r outs eg
      split at e2
      · rename_i hfl
        cases e2
        obtain ⟨v0, c, cs1, e1, ow, rs1, pm⟩ := S.rs.out hbi
        refine PySem.W.callWith_K (h₀ := X.base) I.ok.mod.kin Fd.kp (thn ((pa_cons (pe_var hN hv hd hcd) pa_nil he).run pos pins s σ H (fun vs H1 => vs = [v0] ∧ H1 = H) I ⟨v0, e1, rfl, rfl⟩) fun us s1 ⟨vs, H1, I1, rv, e3, e4⟩ => ⟨I1.kIn, ?_⟩) he hpl
        subst e3 e4
        have hcc : ∀ a ∈ c, a ∈ cs := fun a ha => pm.mem_iff.mpr (List.mem_append_left _ ha)
        have rp0 : Rp X.K X.mg (frz c F H1) v0 b.d := ow.frozen fun a ha => S.fg.out (S.off a (hcc a ha))
        have Sc : SR X.K X.mg (frz c F H1) H1 H1 (([⟨0, b.d⟩] : List B).map some) ([v0].map some) [] := ⟨frz_top (S.fg.trans S.gh), Sub.refl _, (RpA.cons rp0 .nil).rs, .nil, fun a h => nomatch h⟩
        refine wpAny_call (codeAny_mono (run_fnG (args := ⟨us, []⟩) (us := us) (Fg.mono hjk) room guards (fun s _ => FnX.bind (P := X.prog) (w := X.w) (base := X.base) hb Fd (by rw [← rv.length]; rfl) s) rfl I1 rv Sc eg (Q := Q) fun v' H' b' => ?_) fun res s' hq => ?_)
        · obtain ⟨F2, G2, W2, gh, S2, sv⟩ := back_look S ow hcc hfl b'
          exact q F2 G2 H' cs v' W2 (fun _ => gh) S2 sv
        · cases res with
          | error e => exact hq.elim
          | ok fl =>
            cases fl with
            | ret u => exact hq
            | next => exact hq.elim
            | brk => exact hq.elim
            | cont => exact hq.elim
      · cases e2
    · cases e2
  · cases e2
end
end Lk

set_option Elab.async false
set_option linter.all false
set_option maxRecDepth 100000
/-! LkW: mirrors, gone through step by step. -/
namespace Lk
open PySem L2 PySem.Spec
/-- m, from ρ, ends in Q -/
def Wp {α : Type} (o : Option (α × Sto)) (Q : α → Sto → Prop) : Prop := ∃ a ρ, o = some (a, ρ) ∧ Q a ρ
theorem Wp.mono {α : Type} {o : Option (α × Sto)} {Q Q' : α → Sto → Prop} (h : Wp o Q) (i : ∀ a ρ, Q a ρ → Q' a ρ) : Wp o Q' := by
  obtain ⟨a, ρ, e, q⟩ := h
  exact ⟨a, ρ, e, i a ρ q⟩
@[simp] theorem wp_some {α : Type} {a : α} {ρ : Sto} {Q : α → Sto → Prop} : Wp (some (a, ρ)) Q ↔ Q a ρ := ⟨fun ⟨_, _, e, q⟩ => by cases e; exact q, fun q => ⟨a, ρ, rfl, q⟩⟩
/-- a result of a def -/
def Fp (o : Option (R × List (Option B))) (Q : R → List (Option B) → Prop) : Prop := ∃ r outs, o = some (r, outs) ∧ Q r outs
@[simp] theorem fp_some {r : R} {outs : List (Option B)} {Q : R → List (Option B) → Prop} : Fp (some (r, outs)) Q ↔ Q r outs := ⟨fun ⟨_, _, e, q⟩ => by cases e; exact q, fun q => ⟨r, outs, rfl, q⟩⟩
theorem wp_seq {m n : M Fl} {ρ : Sto} {Q : Fl → Sto → Prop} (h : Wp (m ρ) fun fl ρ1 => match fl with
    | .nx => Wp (n ρ1) Q
    | fl => Q fl ρ1) : Wp (mSeq m n ρ) Q := by
  obtain ⟨fl, ρ1, e, q⟩ := h
  unfold mSeq
  rw [e]
  cases fl with
  | nx => exact q
  | bk => exact ⟨_, _, rfl, q⟩
  | ct => exact ⟨_, _, rfl, q⟩
  | rt r => exact ⟨_, _, rfl, q⟩
theorem wp_cond {t : M Bool} {a b : M Fl} {ρ : Sto} {Q : Fl → Sto → Prop} (h : Wp (t ρ) fun c ρ1 => if c = true then Wp (a ρ1) Q else Wp (b ρ1) Q) : Wp (mCond t a b ρ) Q := by
  obtain ⟨c, ρ1, e, q⟩ := h
  unfold mCond
  rw [e]
  cases c with
  | true => exact q
  | false => exact q
theorem wp_set {i : Nat} {m : M R} {ρ : Sto} {Q : Fl → Sto → Prop} (h : Wp (m ρ) fun r ρ1 => (r.fr || r.k == 0) = true ∧ i < ρ1.length ∧ Q .nx (ρ1.set i (some ⟨r.k, r.d⟩))) : Wp (mSet i m ρ) Q := by
  obtain ⟨r, ρ1, e, hr, hi, q⟩ := h
  unfold mSet
  rw [e]
  refine ⟨.nx, _, ?_, q⟩
  simp only [stor, hr, if_true]
  rw [List.getElem?_eq_getElem hi]
theorem wp_drop {m : M R} {ρ : Sto} {Q : Fl → Sto → Prop} (h : Wp (m ρ) fun _ ρ1 => Q .nx ρ1) : Wp (mDrop m ρ) Q := by
  obtain ⟨r, ρ1, e, q⟩ := h
  unfold mDrop
  rw [e]
  exact ⟨_, _, rfl, q⟩
theorem wp_ret {m : M R} {ρ : Sto} {Q : Fl → Sto → Prop} (h : Wp (m ρ) fun r ρ1 => Q (.rt r) ρ1) : Wp (mRet m ρ) Q := by
  obtain ⟨r, ρ1, e, q⟩ := h
  unfold mRet
  rw [e]
  exact ⟨_, _, rfl, q⟩
theorem wp_par {i j : Nat} {ma mb : M R} {ρ : Sto} {Q : Fl → Sto → Prop} (h : Wp (ma ρ) fun ra ρ1 => (ra.fr || ra.k == 0) = true ∧ Wp (mb ρ1) fun rb ρ2 => (rb.fr || rb.k == 0) = true ∧ i < ρ2.length ∧ j < ρ2.length ∧ Q .nx ((ρ2.set i (some ⟨ra.k, ra.d⟩)).set j (some ⟨rb.k, rb.d⟩))) : Wp (mPar i j ma mb ρ) Q := by
  obtain ⟨ra, ρ1, e, hr, rb, ρ2, e2, hr2, hi, hj, q⟩ := h
  unfold mPar
  rw [e]
  simp only [hr, if_true]
  rw [e2]
  refine ⟨.nx, _, ?_, q⟩
  simp only [stor, hr, hr2, if_true]
  rw [List.getElem?_eq_getElem hi]
  simp only
  rw [List.getElem?_eq_getElem (by rw [List.length_set]; exact hj)]
theorem wp_asg {b : D → Sto → Option Sto} {m : M R} {ρ : Sto} {Q : Fl → Sto → Prop} (h : Wp (m ρ) fun r ρ1 => (r.fr || r.k == 0) = true ∧ ∃ ρ2, b r.d ρ1 = some ρ2 ∧ Q .nx ρ2) : Wp (mAsg b m ρ) Q := by
  obtain ⟨r, ρ1, e, hr, ρ2, e2, q⟩ := h
  unfold mAsg
  rw [e]
  simp only [hr, if_true]
  rw [e2]
  exact ⟨_, _, rfl, q⟩
/-- the end of a def -/
theorem fp_fn {n np : Nat} {pr : List Nat} {body : M Fl} {bs : List B} {Q : R → List (Option B) → Prop} (h : Wp (body (bs.map some ++ List.replicate (n - np) none)) fun fl ρ => match fl with
    | .rt r => (r.fr || r.k == 0) = true ∧ Q r (outsOf np pr ρ)
    | .nx => Q ⟨false, 0, .none⟩ (outsOf np pr ρ)
    | _ => False) : Fp (fnM n np pr body bs) Q := by
  obtain ⟨fl, ρ, e, q⟩ := h
  unfold fnM
  rw [e]
  cases fl with
  | nx => exact ⟨_, _, rfl, q⟩
  | bk => exact q.elim
  | ct => exact q.elim
  | rt r => exact ⟨r, _, by simp only [q.1, if_true], q.2⟩
/-! ### loops -/
/-- for: an invariant, by how many are gone through -/
theorem wp_forL {b : D → Sto → Option Sto} {body : M Fl} {Q : Fl → Sto → Prop} {ds : List D} (I : Nat → Sto → Prop)
    (step : ∀ i d ρ, ds[i]? = some d → I i ρ → ∃ ρ1, b d ρ = some ρ1 ∧ Wp (body ρ1) fun fl ρ2 => match fl with
      | .nx => I (i + 1) ρ2
      | .ct => I (i + 1) ρ2
      | .bk => Q .nx ρ2
      | .rt r => Q (.rt r) ρ2) (fin : ∀ ρ, I ds.length ρ → Q .nx ρ) : ∀ (es : List D) (i : Nat) (ρ : Sto), ds.drop i = es → I i ρ → i ≤ ds.length → Wp (mForL b body es ρ) Q := by
  intro es
  induction es with
  | nil =>
    intro i ρ hd hi hle
    have : i = ds.length := by
      have h := congrArg List.length hd
      rw [List.length_drop, List.length_nil] at h
      omega
    subst this
    exact ⟨.nx, ρ, rfl, fin ρ hi⟩
  | cons d es ih =>
    intro i ρ hd hi hle
    have hlt : i < ds.length := by
      have h := congrArg List.length hd
      rw [List.length_drop, List.length_cons] at h
      omega
    have hg : ds[i]? = some d := by
      have h := congrArg (fun l => l[0]?) hd
      simpa using h
    have hd' : ds.drop (i + 1) = es := by
      have h := congrArg List.tail hd
      simpa using h
    obtain ⟨ρ1, e1, fl, ρ2, e2, q⟩ := step i d ρ hg hi
    unfold mForL
    simp only [e1, e2]
    cases fl with
    | nx => exact ih (i + 1) ρ2 hd' q (by omega)
    | ct => exact ih (i + 1) ρ2 hd' q (by omega)
    | bk => exact ⟨_, _, rfl, q⟩
    | rt r => exact ⟨_, _, rfl, q⟩
theorem wp_for {mi : M (List D)} {b : D → Sto → Option Sto} {body : M Fl} {ρ : Sto} {Q : Fl → Sto → Prop} (ds : List D) (I : Nat → Sto → Prop) (hi : Wp (mi ρ) fun l ρ1 => l = ds ∧ I 0 ρ1)
    (step : ∀ i d ρ, ds[i]? = some d → I i ρ → ∃ ρ1, b d ρ = some ρ1 ∧ Wp (body ρ1) fun fl ρ2 => match fl with
      | .nx => I (i + 1) ρ2
      | .ct => I (i + 1) ρ2
      | .bk => Q .nx ρ2
      | .rt r => Q (.rt r) ρ2) (fin : ∀ ρ, I ds.length ρ → Q .nx ρ) : Wp (mFor mi b body ρ) Q := by
  obtain ⟨l, ρ1, e, rfl, h0⟩ := hi
  unfold mFor
  simp only [e]
  exact wp_forL I step fin l 0 ρ1 rfl h0 (Nat.zero_le _)
/-- while: an invariant with a measure -/
theorem wp_while {t : M Bool} {body : M Fl} {Q : Fl → Sto → Prop} (I : Nat → Sto → Prop)
    (step : ∀ n ρ, I n ρ → Wp (t ρ) fun c ρ1 => if c = true then Wp (body ρ1) fun fl ρ2 => match fl with
        | .nx => ∃ n', n' < n ∧ I n' ρ2
        | .ct => ∃ n', n' < n ∧ I n' ρ2
        | .bk => Q .nx ρ2
        | .rt r => Q (.rt r) ρ2
      else Q .nx ρ1) : ∀ (n fuel : Nat) (ρ : Sto), I n ρ → n < fuel → Wp (mWhile fuel t body ρ) Q := by
  intro n
  induction n using Nat.strongRecOn with
  | ind n ih =>
    intro fuel ρ hI hf
    cases fuel with
    | zero => omega
    | succ f =>
      obtain ⟨c, ρ1, e, q⟩ := step n ρ hI
      unfold mWhile
      simp only [e]
      cases c with
      | false => exact ⟨_, _, rfl, by simpa using q⟩
      | true =>
        simp only [if_true] at q
        obtain ⟨fl, ρ2, e2, q⟩ := q
        simp only [e2]
        cases fl with
        | nx => obtain ⟨n', hn, hI'⟩ := q; exact ih n' hn f ρ2 hI' (by omega)
        | ct => obtain ⟨n', hn, hI'⟩ := q; exact ih n' hn f ρ2 hI' (by omega)
        | bk => exact ⟨_, _, rfl, q⟩
        | rt r => exact ⟨_, _, rfl, q⟩
/-- [e for .. in .. if ..]: an invariant over what is gathered -/
theorem wp_lcL {kk : Nat} {vs : List Nat} {b : D → Sto → Option Sto} {mt : M Bool} {me : M R} {ds : List D} {Q : List D → Sto → Prop} (I : Nat → List D → Sto → Prop)
    (step : ∀ i d acc ρ, ds[i]? = some d → I i acc ρ → ∃ ρ1, b d ρ = some ρ1 ∧ Wp (mt ρ1) fun c ρ2 => if c = true then Wp (me ρ2) fun r ρ3 => lvl kk r = true ∧ acc.length < lim ∧ I (i + 1) (acc ++ [r.d]) (wipeS ρ3 vs) else I (i + 1) acc (wipeS ρ2 vs))
    (fin : ∀ acc ρ, I ds.length acc ρ → Q acc ρ) : ∀ (es : List D) (i : Nat) (acc : List D) (ρ : Sto), ds.drop i = es → I i acc ρ → i ≤ ds.length → Wp (mLcL kk vs b mt me es acc ρ) Q := by
  intro es
  induction es with
  | nil =>
    intro i acc ρ hd hi hle
    have : i = ds.length := by
      have h := congrArg List.length hd
      rw [List.length_drop, List.length_nil] at h
      omega
    subst this
    exact ⟨acc, ρ, rfl, fin acc ρ hi⟩
  | cons d es ih =>
    intro i acc ρ hd hi hle
    have hlt : i < ds.length := by
      have h := congrArg List.length hd
      rw [List.length_drop, List.length_cons] at h
      omega
    have hg : ds[i]? = some d := by
      have h := congrArg (fun l => l[0]?) hd
      simpa using h
    have hd' : ds.drop (i + 1) = es := by
      have h := congrArg List.tail hd
      simpa using h
    obtain ⟨ρ1, e1, c, ρ2, e2, q⟩ := step i d acc ρ hg hi
    unfold mLcL
    simp only [e1, e2]
    cases c with
    | false => exact ih (i + 1) acc _ hd' (by simpa using q) (by omega)
    | true =>
      simp only [if_true] at q
      obtain ⟨r, ρ3, e3, h1, h2, h3⟩ := q
      simp only [e3, h1, h2, and_self, if_true]
      exact ih (i + 1) _ _ hd' h3 (by omega)
theorem wp_lc {kk : Nat} {vs : List Nat} {mi : M (List D)} {b : D → Sto → Option Sto} {mt : M Bool} {me : M R} {ρ : Sto} {Q : R → Sto → Prop} (ds : List D) (ρ0 : Sto) (I : Nat → List D → Sto → Prop) (hi : Wp (mi ρ) fun l ρ1 => l = ds ∧ ρ1 = ρ0 ∧ I 0 [] (wipeS ρ1 vs))
    (step : ∀ i d acc ρ, ds[i]? = some d → I i acc ρ → ∃ ρ1, b d ρ = some ρ1 ∧ Wp (mt ρ1) fun c ρ2 => if c = true then Wp (me ρ2) fun r ρ3 => lvl kk r = true ∧ acc.length < lim ∧ I (i + 1) (acc ++ [r.d]) (wipeS ρ3 vs) else I (i + 1) acc (wipeS ρ2 vs))
    (fin : ∀ acc ρ', I ds.length acc ρ' → Q ⟨true, kk + 1, .list acc⟩ (unwipe ρ0 ρ' vs)) : Wp (mLc kk vs mi b mt me ρ) Q := by
  obtain ⟨l, ρ1, e, rfl, rfl, h0⟩ := hi
  unfold mLc
  simp only [e]
  obtain ⟨acc, ρ2, e2, q⟩ := wp_lcL (Q := fun acc ρ' => Q ⟨true, kk + 1, .list acc⟩ (unwipe ρ1 ρ' vs)) I step fin l 0 [] _ rfl h0 (Nat.zero_le _)
  simp only [e2]
  exact ⟨_, _, rfl, q⟩
/-- [h x for g x in .. if p x]: nothing outside changes -/
theorem lcL_map {α : Type} {kk : Nat} {vs : List Nat} {b : D → Sto → Option Sto} {mt : M Bool} {me : M R} {ρw : Sto} {g : α → D} (p : α → Bool) (h : α → D) : ∀ (l : List α) (acc : List D), acc.length + l.length ≤ lim →
    (∀ x ∈ l, ∃ ρ1, b (g x) ρw = some ρ1 ∧ ∃ ρ2, mt ρ1 = some (p x, ρ2) ∧ if p x = true then ∃ r ρ3, me ρ2 = some (r, ρ3) ∧ lvl kk r = true ∧ r.d = h x ∧ wipeS ρ3 vs = ρw else wipeS ρ2 vs = ρw) →
    mLcL kk vs b mt me (l.map g) acc ρw = some (acc ++ (l.filter p).map h, ρw) := by
  intro l
  induction l with
  | nil => intro acc _ _; simp [mLcL]
  | cons x l ih =>
    intro acc hl hs
    rw [List.length_cons] at hl
    obtain ⟨ρ1, e1, ρ2, e2, q⟩ := hs x List.mem_cons_self
    have ih2 := fun acc' h => ih acc' h fun y hy => hs y (List.mem_cons_of_mem _ hy)
    rw [List.map_cons, mLcL]
    simp only [e1, e2]
    cases hp : p x with
    | false =>
      simp only [hp, Bool.false_eq_true, if_false] at q
      simp only
      rw [q, ih2 acc (by omega), List.filter_cons_of_neg (by simp [hp])]
    | true =>
      simp only [hp, if_true] at q
      obtain ⟨r, ρ3, e3, h1, h2, h3⟩ := q
      simp only [e3, h1, h2, h3]
      rw [if_pos ⟨trivial, by omega⟩, ih2 _ (by rw [List.length_append, List.length_singleton]; omega), List.filter_cons_of_pos hp]
      simp
theorem lc_map {α : Type} {kk : Nat} {vs : List Nat} {mi : M (List D)} {b : D → Sto → Option Sto} {mt : M Bool} {me : M R} {ρ ρ0 : Sto} {g : α → D} (l : List α) (p : α → Bool) (h : α → D) (hi : mi ρ = some (l.map g, ρ0)) (hl : l.length ≤ lim)
    (hs : ∀ x ∈ l, ∃ ρ1, b (g x) (wipeS ρ0 vs) = some ρ1 ∧ ∃ ρ2, mt ρ1 = some (p x, ρ2) ∧ if p x = true then ∃ r ρ3, me ρ2 = some (r, ρ3) ∧ lvl kk r = true ∧ r.d = h x ∧ wipeS ρ3 vs = wipeS ρ0 vs else wipeS ρ2 vs = wipeS ρ0 vs) :
    mLc kk vs mi b mt me ρ = some (⟨true, kk + 1, .list ((l.filter p).map h)⟩, unwipe ρ0 (wipeS ρ0 vs) vs) := by
  unfold mLc
  simp only [hi]
  rw [lcL_map p h l [] (by simpa using hl) hs]
  simp
theorem lc_all {α : Type} {kk : Nat} {vs : List Nat} {mi : M (List D)} {b : D → Sto → Option Sto} {me : M R} {ρ ρ0 : Sto} {g : α → D} (l : List α) (h : α → D) (hi : mi ρ = some (l.map g, ρ0)) (hl : l.length ≤ lim)
    (hs : ∀ x ∈ l, ∃ ρ1, b (g x) (wipeS ρ0 vs) = some ρ1 ∧ ∃ r ρ3, me ρ1 = some (r, ρ3) ∧ lvl kk r = true ∧ r.d = h x ∧ wipeS ρ3 vs = wipeS ρ0 vs) :
    mLc kk vs mi b mYes me ρ = some (⟨true, kk + 1, .list (l.map h)⟩, unwipe ρ0 (wipeS ρ0 vs) vs) := by
  have := lc_map (mt := mYes) (kk := kk) (vs := vs) (mi := mi) (b := b) (me := me) (ρ := ρ) (ρ0 := ρ0) l (fun _ => true) h hi hl fun x hx => by
    obtain ⟨ρ1, e1, q⟩ := hs x hx
    exact ⟨ρ1, e1, ρ1, rfl, by simpa using q⟩
  rw [this, List.filter_eq_self.mpr fun _ _ => rfl]
theorem lc_all2 {α : Type} {kk : Nat} {vs : List Nat} {mi : M (List D)} {b : D → Sto → Option Sto} {me : M R} {ρ ρ0 : Sto} {g : α → D} (l : List α) (h : α → D) (hi : mi ρ = some (l.map g, ρ0)) (hl : l.length ≤ lim)
    (hs : ∀ x ∈ l, match b (g x) (wipeS ρ0 vs) with
      | some ρ1 => (match me ρ1 with
        | some (r, ρ3) => lvl kk r = true ∧ r.d = h x ∧ wipeS ρ3 vs = wipeS ρ0 vs
        | none => False)
      | none => False) :
    mLc kk vs mi b mYes me ρ = some (⟨true, kk + 1, .list (l.map h)⟩, unwipe ρ0 (wipeS ρ0 vs) vs) := by
  refine lc_all l h hi hl fun x hx => ?_
  have q := hs x hx
  split at q
  · rename_i ρ1 e1
    split at q
    · rename_i r ρ3 e3
      exact ⟨ρ1, e1, r, ρ3, e3, q⟩
    · exact q.elim
  · exact q.elim
theorem lc_map2 {α : Type} {kk : Nat} {vs : List Nat} {mi : M (List D)} {b : D → Sto → Option Sto} {mt : M Bool} {me : M R} {ρ ρ0 : Sto} {g : α → D} (l : List α) (p : α → Bool) (h : α → D) (hi : mi ρ = some (l.map g, ρ0)) (hl : l.length ≤ lim)
    (hs : ∀ x ∈ l, match b (g x) (wipeS ρ0 vs) with
      | some ρ1 => (match mt ρ1 with
        | some (c, ρ2) => c = p x ∧ (if c = true then (match me ρ2 with
          | some (r, ρ3) => lvl kk r = true ∧ r.d = h x ∧ wipeS ρ3 vs = wipeS ρ0 vs
          | none => False) else wipeS ρ2 vs = wipeS ρ0 vs)
        | none => False)
      | none => False) :
    mLc kk vs mi b mt me ρ = some (⟨true, kk + 1, .list ((l.filter p).map h)⟩, unwipe ρ0 (wipeS ρ0 vs) vs) := by
  refine lc_map l p h hi hl fun x hx => ?_
  have q := hs x hx
  split at q
  · rename_i ρ1 e1
    split at q
    · rename_i c ρ2 e2
      obtain ⟨rfl, q⟩ := q
      refine ⟨ρ1, e1, ρ2, e2, ?_⟩
      cases hp : p x with
      | false => simpa [hp] using q
      | true =>
        simp only [hp, if_true] at q ⊢
        split at q
        · rename_i r ρ3 e3
          exact ⟨r, ρ3, e3, q⟩
        · exact q.elim
    · exact q.elim
  · exact q.elim
theorem call1 {n : Nat} {g : Fn} {ms : M (List D)} {ρ ρ1 : Sto} {ds : List D} {r : R} {bs : List B} {outs : List (Option B)} (h1 : ms ρ = some (ds, ρ1)) (h2 : ds.length = n) (h0 : frz0 ds = bs) (h3 : g bs = some (r, outs)) : mCall n g ms ρ = some (r, ρ1) := by
  unfold mCall
  rw [h1]
  subst h0
  simp only [h2, if_true, h3]
theorem dInts_nat (n : Nat) : dInts 0 n = (List.range n).map fun (i : Nat) => PyData.int (i : Int) := by
  unfold dInts
  simp
end Lk

set_option Elab.async false
set_option linter.all false
/-! TrA: trees: cuts, simple walks, sides. No program in sight. -/
namespace Tr
structure Tree (n : Nat) (A : Nat → Nat → Prop) : Prop where
  sym : ∀ a b, A a b → A b a
  le : ∀ a b, A a b → a ≤ n
  ex : ∃ (rk pa : Nat → Nat) (r : Nat), r ≤ n ∧ (∀ p, p ≤ n → p ≠ r → pa p ≤ n ∧ rk (pa p) < rk p ∧ A (pa p) p) ∧ (∀ a b, A a b → (b ≠ r ∧ a = pa b) ∨ (a ≠ r ∧ b = pa a))
inductive Dn (n : Nat) (pa : Nat → Nat) (r v : Nat) : Nat → Prop
  | self : Dn n pa r v v
  | up {p : Nat} : p ≤ n → p ≠ r → Dn n pa r v (pa p) → Dn n pa r v p
variable {n : Nat} {A : Nat → Nat → Prop}
theorem Dn.rk {pa rk : Nat → Nat} {r v p : Nat} (h : Dn n pa r v p) (hp : ∀ p, p ≤ n → p ≠ r → rk (pa p) < rk p) : rk v ≤ rk p := by
  induction h with
  | self => exact Nat.le_refl _
  | up h1 h2 _ ih => exact Nat.le_of_lt (Nat.lt_of_le_of_lt ih (hp _ h1 h2))
/-- an edge parts the tree -/
theorem Tree.cut (T : Tree n A) {y t : Nat} (h : A y t) : ∃ D : Nat → Prop, D y ∧ ¬ D t ∧ ∀ a b, A a b → D a → ¬ D b → a = y ∧ b = t := by
  obtain ⟨rk, pa, r, hr, hp, ha⟩ := T.ex
  have hrk : ∀ p, p ≤ n → p ≠ r → rk (pa p) < rk p := fun p h1 h2 => (hp p h1 h2).2.1
  have yn := T.le _ _ h
  have tn := T.le _ _ (T.sym _ _ h)
  rcases ha y t h with ⟨h1, h2⟩ | ⟨h1, h2⟩
  · refine ⟨fun p => ¬ Dn n pa r t p, fun hd => ?_, fun hd => hd .self, fun a b hab da db => ?_⟩
    · have := hd.rk (rk := rk) hrk
      rw [h2] at this
      exact absurd (hrk t tn h1) (by omega)
    · have db : Dn n pa r t b := Classical.not_not.mp db
      rcases ha a b hab with ⟨h3, h4⟩ | ⟨h3, h4⟩
      · cases db with
        | self => exact ⟨by rw [h4, h2], rfl⟩
        | up _ _ d => rw [h4] at da; exact absurd d da
      · rw [h4] at db
        exact absurd (Dn.up (T.le _ _ hab) h3 db) da
  · refine ⟨fun p => Dn n pa r y p, .self, fun hd => ?_, fun a b hab da db => ?_⟩
    · have := hd.rk (rk := rk) hrk
      rw [h2] at this
      exact absurd (hrk y yn h1) (by omega)
    · rcases ha a b hab with ⟨h3, h4⟩ | ⟨h3, h4⟩
      · rw [h4] at da
        exact absurd (Dn.up (T.le _ _ (T.sym _ _ hab)) h3 da) db
      · cases da with
        | self => exact ⟨rfl, by rw [h4, h2]⟩
        | up _ _ d => rw [h4] at db; exact absurd d db
/-- all hangs together -/
theorem Tree.conn (T : Tree n A) {C : Nat → Prop} {y : Nat} (yn : y ≤ n) (hy : C y) (hc : ∀ a b, C a → A a b → C b) : ∀ p, p ≤ n → C p := by
  obtain ⟨rk, pa, r, hr, hp, ha⟩ := T.ex
  have up : ∀ k p, rk p ≤ k → p ≤ n → C p → C r := by
    intro k
    induction k with
    | zero =>
      intro p hk pn cp
      by_cases e : p = r
      · rw [← e]; exact cp
      · have := (hp p pn e).2.1; omega
    | succ k ih =>
      intro p hk pn cp
      by_cases e : p = r
      · rw [← e]; exact cp
      · obtain ⟨h1, h2, h3⟩ := hp p pn e
        exact ih (pa p) (by omega) h1 (hc _ _ cp (T.sym _ _ h3))
  have cr := up (rk y) y (Nat.le_refl _) yn hy
  have down : ∀ k p, rk p ≤ k → p ≤ n → C p := by
    intro k
    induction k with
    | zero =>
      intro p hk pn
      by_cases e : p = r
      · rw [e]; exact cr
      · have := (hp p pn e).2.1; omega
    | succ k ih =>
      intro p hk pn
      by_cases e : p = r
      · rw [e]; exact cr
      · obtain ⟨h1, h2, h3⟩ := hp p pn e
        exact hc _ _ (ih (pa p) (by omega) h1) h3
  exact fun p pn => down (rk p) p (Nat.le_refl _) pn
/-- no place is its own neighbour -/
theorem Tree.ne (T : Tree n A) {a b : Nat} (h : A a b) : a ≠ b := by
  obtain ⟨D, h1, h2, _⟩ := T.cut h
  intro e
  rw [e] at h1
  exact h2 h1

/-- a simple walk from a, its places -/
inductive Wk (A : Nat → Nat → Prop) (a : Nat) : Nat → List Nat → Prop
  | one : Wk A a a [a]
  | snoc {q s : Nat} {l : List Nat} : Wk A a q l → A q s → s ∉ l → Wk A a s (l ++ [s])
theorem Wk.first {a e : Nat} {l : List Nat} (h : Wk A a e l) : a ∈ l := by
  induction h with
  | one => simp
  | snoc _ _ _ ih => exact List.mem_append_left _ ih
theorem Wk.last {a e : Nat} {l : List Nat} (h : Wk A a e l) : e ∈ l := by
  cases h with
  | one => simp
  | snoc _ _ _ => exact List.mem_append_right _ (by simp)
theorem Wk.nodup {a e : Nat} {l : List Nat} (h : Wk A a e l) : l.Nodup := by
  induction h with
  | one => simp
  | snoc _ _ hs ih => exact List.nodup_append.mpr ⟨ih, by simp, fun x hx y hy e => by
      rw [List.mem_singleton] at hy
      rw [e, hy] at hx; exact hs hx⟩
theorem Wk.getLast {a e : Nat} {l : List Nat} (h : Wk A a e l) : l.getLast? = some e := by
  cases h with
  | one => rfl
  | snoc _ _ _ => simp
theorem Wk.le {a e : Nat} {l : List Nat} (T : Tree n A) (h : Wk A a e l) (ha : a ≤ n) : ∀ x ∈ l, x ≤ n := by
  induction h with
  | one => intro x hx; have : x = a := by simpa using hx
           rw [this]; exact ha
  | snoc _ h1 _ ih =>
    intro x hx
    rcases List.mem_append.mp hx with h | h
    · exact ih x h
    · rw [List.mem_singleton] at h
      rw [h]; exact T.le _ _ (T.sym _ _ h1)
theorem Wk.keeps {D : Nat → Prop} {q s a e : Nat} {l : List Nat} (T : Tree n A) (hD : ∀ a b, A a b → D a → ¬ D b → a = q ∧ b = s) (h : Wk A a e l) : s ∉ l → (D a ↔ D e) := by
  induction h with
  | one => intro _; exact Iff.rfl
  | @snoc q1 s1 l h1 h2 h3 ih =>
    intro hs
    have n1 : s ∉ l := fun h => hs (List.mem_append_left _ h)
    have n2 : s ≠ s1 := fun h => hs (by rw [h]; simp)
    rw [ih n1]
    constructor
    · intro d
      refine Classical.byContradiction fun nd => ?_
      exact n2 (hD _ _ h2 d nd).2.symm
    · intro d
      refine Classical.byContradiction fun nd => ?_
      have := (hD _ _ (T.sym _ _ h2) d nd).2
      exact n1 (this ▸ h1.last)
theorem Wk.uniq (T : Tree n A) {a e : Nat} {X : List Nat} (h : Wk A a e X) : ∀ {X' : List Nat}, Wk A a e X' → X = X' := by
  induction h with
  | one =>
    intro X' h'
    generalize hz : a = z at h'
    cases h' with
    | one => rfl
    | snoc h1 _ h3 => subst hz; exact absurd h1.first h3
  | @snoc q s l h1 h2 h3 ih =>
    intro X' h'
    generalize hz : s = z at h'
    cases h' with
    | one => subst hz; exact absurd h1.first h3
    | @snoc q' _ l' h1' h2' h3' =>
      subst hz
      obtain ⟨D, d1, d2, d3⟩ := T.cut h2
      have k1 := h1.keeps T d3 h3
      have k2 := h1'.keeps T d3 h3'
      have dq : D q' := k2.mp (k1.mpr d1)
      have := (d3 _ _ h2' dq d2).1
      subst this
      rw [ih h1']

/-- y's side of the edge y - t -/
def Sd (A : Nat → Nat → Prop) (y t p : Nat) : Prop := ∀ C : Nat → Prop, C y → (∀ a b, C a → A a b → b ≠ t → C b) → C p
theorem Sd.self {y t : Nat} : Sd A y t y := fun _ h _ => h
theorem Sd.step {y t a b : Nat} (h : Sd A y t a) (hab : A a b) (hb : b ≠ t) : Sd A y t b := fun C h1 h2 => h2 a b (h C h1 h2) hab hb
theorem Sd.cut {y t p : Nat} {D : Nat → Prop} (h : Sd A y t p) (h1 : D y) (h3 : ∀ a b, A a b → D a → ¬ D b → a = y ∧ b = t) : D p :=
  h D h1 fun a b da hab hb => Classical.byContradiction fun nd => hb (h3 a b hab da nd).2
theorem Sd.of_walk {y t p e : Nat} {X : List Nat} (T : Tree n A) (w : Wk A p e X) : t ∉ X → Sd A y t e → Sd A y t p := by
  induction w with
  | one => exact fun _ h => h
  | @snoc q s l h1 h2 h3 ih =>
    intro ht h
    have n1 : t ∉ l := fun h => ht (List.mem_append_left _ h)
    exact ih n1 (h.step (T.sym _ _ h2) fun e => n1 (e ▸ h1.last))
theorem Sd.walk {y t p : Nat} {X : List Nat} (T : Tree n A) (h : A y t) (w : Wk A p y X) : t ∉ X ↔ Sd A y t p := by
  refine ⟨fun ht => Sd.of_walk T w ht .self, fun hs ht => ?_⟩
  obtain ⟨D, d1, d2, d3⟩ := T.cut h
  have dp := hs.cut d1 d3
  have key : ∀ {e : Nat} {X : List Nat}, Wk A p e X → t ∈ X → y ∈ X ∧ e ≠ y := by
    intro e X w
    induction w with
    | one =>
      intro ht
      have : t = p := by simpa using ht
      rw [this] at d2; exact absurd dp d2
    | @snoc q s l h1 h2 h3 ih =>
      intro ht
      by_cases htl : t ∈ l
      · obtain ⟨i1, i2⟩ := ih htl
        exact ⟨List.mem_append_left _ i1, fun e => h3 (e ▸ i1)⟩
      · have hts : t = s := by
          rcases List.mem_append.mp ht with h | h
          · exact absurd h htl
          · simpa using h
        subst hts
        have dq : D q := (h1.keeps T d3 htl).mp dp
        have := (d3 _ _ h2 dq d2).1
        subst this
        exact ⟨List.mem_append_left _ h1.last, fun e => htl (e ▸ h1.last)⟩
  exact (key w ht).2 rfl
theorem Sd.disj (T : Tree n A) {y t p : Nat} (h : A y t) (h1 : Sd A y t p) (h2 : Sd A t y p) : False := by
  obtain ⟨D, d1, d2, d3⟩ := T.cut h
  exact h2.cut (D := fun x => ¬ D x) d2 (fun a b hab da db => (d3 b a (T.sym _ _ hab) (Classical.not_not.mp db) da).symm) (h1.cut d1 d3)
theorem Sd.all (T : Tree n A) {y t : Nat} (h : A y t) {p : Nat} (hp : p ≤ n) : Sd A y t p ∨ Sd A t y p := by
  refine T.conn (C := fun p => Sd A y t p ∨ Sd A t y p) (T.le _ _ h) (.inl .self) (fun a b ha hab => ?_) p hp
  rcases ha with ha | ha
  · by_cases e : b = t
    · rw [e]; exact .inr .self
    · exact .inl (ha.step hab e)
  · by_cases e : b = y
    · rw [e]; exact .inl .self
    · exact .inr (ha.step hab e)
theorem Sd.leaf (T : Tree n A) {y t : Nat} (h : A y t) (hl : ∀ b, A t b → b = y) {p : Nat} (hp : p ≤ n) (hne : p ≠ t) : Sd A y t p := by
  have := T.conn (C := fun p => Sd A y t p ∨ p = t) (T.le _ _ h) (.inl .self) (fun a b ha hab => ?_) p hp
  · exact this.resolve_right hne
  · rcases ha with ha | ha
    · by_cases e : b = t
      · exact .inr e
      · exact .inl (ha.step hab e)
    · rw [ha] at hab
      rw [hl b hab]; exact .inl .self
theorem Sd.ne (T : Tree n A) {y o : Nat} (h : A y o) : ¬ Sd A o y y := fun hs => hs.disj T (T.sym _ _ h) .self
theorem Sd.disj2 (T : Tree n A) {y o o' p : Nat} (h : A y o) (h' : A y o') (hne : o ≠ o') (h1 : Sd A o y p) (h2 : Sd A o' y p) : False := by
  obtain ⟨D, d1, d2, d3⟩ := T.cut (T.sym _ _ h)
  have dp := h1.cut d1 d3
  have := h2 (fun x => ¬ D x ∧ x ≠ y) ⟨fun d => hne ((d3 _ _ (T.sym _ _ h') d d2).1).symm, (T.ne h').symm⟩ fun a b ⟨da, ne⟩ hab hb => ⟨fun db => ne (d3 _ _ (T.sym _ _ hab) db da).2, hb⟩
  exact this.1 dp
theorem Sd.split (T : Tree n A) {y t p : Nat} (h : A y t) : Sd A y t p ↔ p = y ∨ ∃ o, A y o ∧ o ≠ t ∧ Sd A o y p := by
  constructor
  · intro hs
    refine hs (fun p => p = y ∨ ∃ o, A y o ∧ o ≠ t ∧ Sd A o y p) (.inl rfl) fun a b ha hab hb => ?_
    by_cases e : b = y
    · exact .inl e
    · rcases ha with ha | ⟨o, h1, h2, h3⟩
      · subst ha; exact .inr ⟨b, hab, hb, .self⟩
      · exact .inr ⟨o, h1, h2, h3.step hab e⟩
  · rintro (e | ⟨o, h1, h2, h3⟩)
    · rw [e]; exact .self
    · obtain ⟨D, d1, d2, d3⟩ := T.cut h
      exact (h3 (fun x => Sd A y t x ∧ x ≠ y) ⟨Sd.self.step h1 h2, (T.ne h1).symm⟩ fun a b ⟨da, ne⟩ hab hb => ⟨da.step hab fun e => by
        subst e
        exact ne (d3 _ _ hab (da.cut d1 d3) d2).1, hb⟩).1
end Tr

set_option Elab.async false
set_option linter.all false
/-! TrB: simple walks turned about, the next place. -/
namespace Tr
variable {n : Nat} {A : Nat → Nat → Prop}
theorem Wk.cons {x a e : Nat} {l : List Nat} (h : Wk A a e l) : A x a → x ∉ l → Wk A x e (x :: l) := by
  induction h with
  | one => intro hx hn; exact Wk.snoc .one hx (by simpa using fun e => hn (by simp [e]))
  | @snoc q s l h1 h2 h3 ih =>
    intro hx hn
    have n1 : x ∉ l := fun h => hn (List.mem_append_left _ h)
    have n2 : s ≠ x := fun h => hn (by rw [← h]; simp)
    have := Wk.snoc (ih hx n1) h2 (by
      intro hm
      rcases List.mem_cons.mp hm with h | h
      · exact n2 h
      · exact h3 h)
    simpa using this
theorem Wk.rev (T : Tree n A) {a e : Nat} {l : List Nat} (h : Wk A a e l) : Wk A e a l.reverse := by
  induction h with
  | one => exact .one
  | @snoc q s l h1 h2 h3 ih =>
    rw [List.reverse_append]
    exact ih.cons (T.sym _ _ h2) (by simpa using h3)
/-- the next place towards e is told by its side -/
theorem Wk.prev (T : Tree n A) {e q p z : Nat} {l : List Nat} (h : Wk A e q l) (hp : A q p) (hn : p ∉ l) (hz : A z p) (hs : Sd A z p e) : z = q := by
  have h1 : Sd A q p e := Sd.of_walk T h hn .self
  exact Classical.byContradiction fun hne => hs.disj2 T (T.sym _ _ hz) (T.sym _ _ hp) hne h1
end Tr

set_option Elab.async false
set_option linter.all false
/-! TrC: where three walks meet. -/
namespace Tr
variable {n : Nat} {A : Nat → Nat → Prop}
theorem Wk.at (T : Tree n A) {a b e : Nat} {l : List Nat} (h : Wk A a e l) : b ∈ l → ∃ P R, l = P ++ b :: R ∧ Wk A a b (P ++ [b]) ∧ Wk A b e (b :: R) := by
  induction h with
  | one =>
    intro hb
    rw [List.mem_singleton] at hb
    subst hb
    exact ⟨[], [], rfl, .one, .one⟩
  | @snoc q s l h1 h2 h3 ih =>
    intro hb
    rcases List.mem_append.mp hb with hb | hb
    · obtain ⟨P, R, e1, w1, w2⟩ := ih hb
      refine ⟨P, R ++ [s], by rw [e1]; simp, w1, ?_⟩
      have := Wk.snoc w2 h2 fun hm => h3 (by rw [e1]; exact List.mem_append_right _ hm)
      simpa using this
    · rw [List.mem_singleton] at hb
      subst hb
      exact ⟨l, [], rfl, .snoc h1 h2 h3, .one⟩
/-- y's walks to x and to z go together up to m -/
theorem Wk.fork (T : Tree n A) {y x z : Nat} {X Z : List Nat} (h : Wk A y x X) (hz : Wk A y z Z) : ∃ m P R S, Wk A y m P ∧ X = P ++ R ∧ Z = P ++ S ∧ (∀ v ∈ R, v ∉ Z) ∧ Wk A x z (R.reverse ++ m :: S) := by
  induction h with
  | one =>
    obtain ⟨P, R, e1, w1, w2⟩ := hz.at T hz.first
    have := (w1.uniq T .one)
    have hP : P = [] := by
      have := congrArg List.length this
      simp at this
      exact this
    subst hP
    exact ⟨y, [y], [], R, .one, rfl, by simpa using e1, fun v hv => by simp at hv, by simpa using w2⟩
  | @snoc q s l h1 h2 h3 ih =>
    obtain ⟨m, P, R, S, w1, e1, e2, hn, w2⟩ := ih
    by_cases hs : s ∈ Z
    · obtain ⟨P', R', e3, w3, w4⟩ := hz.at T hs
      have e4 := w3.uniq T (Wk.snoc h1 h2 h3)
      have e5 : P' = l := by
        have := congrArg List.dropLast e4
        simpa using this
      subst e5
      exact ⟨s, P' ++ [s], [], R', Wk.snoc h1 h2 h3, by simp, by rw [e3]; simp, fun v hv => by simp at hv, by simpa using w4⟩
    · refine ⟨m, P, R ++ [s], S, w1, by rw [e1]; simp, e2, fun v hv => ?_, ?_⟩
      · rcases List.mem_append.mp hv with q | q
        · exact hn v q
        · rw [List.mem_singleton] at q; rw [q]; exact hs
      · have hsn : s ∉ R.reverse ++ m :: S := by
          intro hm
          rcases List.mem_append.mp hm with q | q
          · exact h3 (by rw [e1]; exact List.mem_append_right _ (by simpa using q))
          · rcases List.mem_cons.mp q with q | q
            · exact hs (by rw [e2, q]; exact List.mem_append_left _ w1.last)
            · exact hs (by rw [e2]; exact List.mem_append_right _ q)
        have := w2.cons (T.sym _ _ h2) hsn
        simpa using this
/-- where they meet: one place, on all three -/
theorem Wk.meet (T : Tree n A) {y x z : Nat} {X Z V : List Nat} (h : Wk A y x X) (hz : Wk A y z Z) (hv : Wk A x z V) : ∃ m P, Wk A y m P ∧ X.length + Z.length + 1 = V.length + 2 * P.length ∧ (∀ p, p ∈ X ∧ p ∈ Z ∧ p ∈ V ↔ p = m) ∧ (y ∈ V ↔ P.length = 1) := by
  obtain ⟨m, P, R, S, w1, e1, e2, hn, w2⟩ := h.fork T hz
  have e3 := hv.uniq T w2
  have nx := h.nodup
  have nz := hz.nodup
  rw [e1] at nx
  rw [e2] at nz
  have mP := w1.last
  have key : ∀ p, p ∈ P → (p ∈ V ↔ p = m) := fun p hp => by
    rw [e3, List.mem_append, List.mem_cons, List.mem_reverse]
    constructor
    · rintro (q | q | q)
      · exact absurd rfl ((List.nodup_append.mp nx).2.2 p hp p q)
      · exact q
      · exact absurd rfl ((List.nodup_append.mp nz).2.2 p hp p q)
    · intro q; exact .inr (.inl q)
  refine ⟨m, P, w1, ?_, fun p => ?_, ?_⟩
  · have l1 := congrArg List.length e1
    have l2 := congrArg List.length e2
    have l3 := congrArg List.length e3
    simp at l1 l2 l3
    omega
  · constructor
    · rintro ⟨h1, h2, h3⟩
      rw [e1] at h1
      rcases List.mem_append.mp h1 with q | q
      · exact (key p q).mp h3
      · exact absurd h2 (hn p q)
    · rintro rfl
      exact ⟨by rw [e1]; exact List.mem_append_left _ mP, by rw [e2]; exact List.mem_append_left _ mP, (key p mP).mpr rfl⟩
  · rw [key y w1.first]
    constructor
    · rintro rfl
      rw [w1.uniq T .one]; rfl
    · intro hl
      obtain ⟨u, hu⟩ := List.length_eq_one_iff.mp hl
      have a1 := w1.first
      have a2 := w1.last
      rw [hu] at a1 a2
      simp at a1 a2
      rw [a1, a2]
end Tr

set_option Elab.async false
set_option linter.all false
/-! TrD: trees with other numbers. -/
namespace Tr
variable {n : Nat} {A A' : Nat → Nat → Prop}
theorem Wk.pre {a e b : Nat} {l : List Nat} (h : Wk A a e l) : b ∈ l → ∃ l', Wk A a b l' := by
  induction h with
  | one =>
    intro hb
    have : b = a := by simpa using hb
    subst this
    exact ⟨_, .one⟩
  | @snoc q s l h1 h2 h3 ih =>
    intro hb
    rcases List.mem_append.mp hb with hb | hb
    · exact ih hb
    · have : b = s := by simpa using hb
      subst this
      exact ⟨_, .snoc h1 h2 h3⟩
theorem Tree.walk (T : Tree n A) {s e : Nat} (hs : s ≤ n) (he : e ≤ n) : ∃ W, Wk A s e W := by
  refine T.conn (C := fun p => ∃ W, Wk A s p W) hs ⟨_, .one⟩ (fun a b ⟨W, hW⟩ hab => ?_) e he
  by_cases hb : b ∈ W
  · exact hW.pre hb
  · exact ⟨_, .snoc hW hab hb⟩
/-- f and g turn each other about on 0 .. n -/
structure Bij (n : Nat) (f g : Nat → Nat) : Prop where
  fl : ∀ i, i ≤ n → f i ≤ n
  gl : ∀ i, i ≤ n → g i ≤ n
  gf : ∀ i, i ≤ n → g (f i) = i
  fg : ∀ i, i ≤ n → f (g i) = i
theorem Bij.symm {f g : Nat → Nat} (h : Bij n f g) : Bij n g f := ⟨h.gl, h.fl, h.fg, h.gf⟩
theorem Bij.inj {f g : Nat → Nat} (h : Bij n f g) {a b : Nat} (ha : a ≤ n) (hb : b ≤ n) (e : f a = f b) : a = b := by
  rw [← h.gf a ha, ← h.gf b hb, e]
structure Ren (n : Nat) (f g : Nat → Nat) (A A' : Nat → Nat → Prop) : Prop where
  bij : Bij n f g
  iff : ∀ x y, A' x y ↔ x ≤ n ∧ y ≤ n ∧ A (g x) (g y)
variable {f g : Nat → Nat}
theorem Ren.up (R : Ren n f g A A') {a b : Nat} (ha : a ≤ n) (hb : b ≤ n) : A' (f a) (f b) ↔ A a b := by
  rw [R.iff, R.bij.gf a ha, R.bij.gf b hb]
  exact ⟨fun h => h.2.2, fun h => ⟨R.bij.fl a ha, R.bij.fl b hb, h⟩⟩
theorem Ren.tree (R : Ren n f g A A') (T : Tree n A) : Tree n A' := by
  obtain ⟨rk, pa, r, hr, hp, ha⟩ := T.ex
  refine ⟨fun a b h => ?_, fun a b h => ((R.iff _ _).mp h).1, fun x => rk (g x), fun x => f (pa (g x)), f r, R.bij.fl r hr, fun p pn pr => ?_, fun a b h => ?_⟩
  · obtain ⟨h1, h2, h3⟩ := (R.iff _ _).mp h
    exact (R.iff _ _).mpr ⟨h2, h1, T.sym _ _ h3⟩
  · have g1 := R.bij.gl p pn
    have g2 : g p ≠ r := fun e => pr (by rw [← e, R.bij.fg p pn])
    obtain ⟨h1, h2, h3⟩ := hp (g p) g1 g2
    refine ⟨R.bij.fl _ h1, by show rk (g (f (pa (g p)))) < rk (g p); rw [R.bij.gf _ h1]; exact h2, ?_⟩
    show A' (f (pa (g p))) p
    rw [R.iff, R.bij.gf _ h1]
    exact ⟨R.bij.fl _ h1, pn, h3⟩
  · obtain ⟨h1, h2, h3⟩ := (R.iff _ _).mp h
    rcases ha _ _ h3 with ⟨h4, h5⟩ | ⟨h4, h5⟩
    · exact .inl ⟨fun e => h4 (by rw [e, R.bij.gf r hr]), by show a = f (pa (g b)); rw [← h5, R.bij.fg a h1]⟩
    · exact .inr ⟨fun e => h4 (by rw [e, R.bij.gf r hr]), by show b = f (pa (g a)); rw [← h5, R.bij.fg b h2]⟩
theorem Ren.walk (R : Ren n f g A A') (T : Tree n A) {a e : Nat} {l : List Nat} (h : Wk A a e l) : a ≤ n → Wk A' (f a) (f e) (l.map f) := by
  induction h with
  | one => intro _; exact .one
  | @snoc q s l h1 h2 h3 ih =>
    intro ha
    have qn := T.le _ _ h2
    have sn := T.le _ _ (T.sym _ _ h2)
    rw [List.map_append]
    refine .snoc (ih ha) ((R.up qn sn).mpr h2) fun hm => ?_
    obtain ⟨x, hx, e⟩ := List.mem_map.mp hm
    have xn := h1.le T ha x hx
    exact h3 (R.bij.inj xn sn e ▸ hx)
theorem Ren.sd (R : Ren n f g A A') (T : Tree n A) {y t p : Nat} (hy : y ≤ n) (ht : t ≤ n) (hp : p ≤ n) : Sd A' (f y) (f t) (f p) ↔ Sd A y t p := by
  constructor
  · intro h C c0 c1
    have := h (fun x => C (g x)) (by simpa [R.bij.gf y hy] using c0) fun a b ca hab hb => by
      obtain ⟨h1, h2, h3⟩ := (R.iff _ _).mp hab
      exact c1 _ _ ca h3 fun e => hb (by rw [← e, R.bij.fg b h2])
    simpa [R.bij.gf p hp] using this
  · intro h C c0 c1
    exact h (fun x => C (f x)) c0 fun a b ca hab hb => by
      have an := T.le _ _ hab
      have bn := T.le _ _ (T.sym _ _ hab)
      exact c1 _ _ ca ((R.up an bn).mpr hab) fun e => hb (R.bij.inj bn ht e)
/-- a list of all numbers, each once -/
theorem bij_perm {ps : List Nat} (hp : ps.Perm (List.range (n + 1))) : Bij n (fun i => ps.getD i 0) (fun p => ps.idxOf p) := by
  have lp : ps.length = n + 1 := by rw [hp.length_eq, List.length_range]
  have np : ps.Nodup := hp.nodup_iff.mpr List.nodup_range
  have mp : ∀ x, x ∈ ps ↔ x ≤ n := fun x => by rw [hp.mem_iff, List.mem_range]; omega
  have fe : ∀ i (hi : i < ps.length), ps.getD i 0 = ps[i] := fun i hi => by rw [List.getD_eq_getElem?_getD, List.getElem?_eq_getElem hi]; rfl
  have il : ∀ p, p ≤ n → ps.idxOf p < ps.length := fun p hpn => List.idxOf_lt_length_of_mem ((mp p).mpr hpn)
  refine ⟨fun i hi => ?_, fun i hi => ?_, fun i hi => ?_, fun p hpn => ?_⟩
  · show ps.getD i 0 ≤ n
    rw [fe i (by omega)]
    exact (mp _).mp (List.getElem_mem _)
  · have := il i hi
    show ps.idxOf i ≤ n
    omega
  · show ps.idxOf (ps.getD i 0) = i
    rw [fe i (by omega)]
    exact np.idxOf_getElem i (by omega)
  · show ps.getD (ps.idxOf p) 0 = p
    rw [fe _ (il p hpn)]
    exact List.getElem_idxOf (il p hpn)
end Tr

set_option Elab.async false
set_option linter.all false
set_option maxRecDepth 100000
/-! TrE: a leaf hung elsewhere. -/
namespace Tr
variable {n : Nat} {A : Nat → Nat → Prop}
def Hung (A : Nat → Nat → Prop) (x y : Nat) (a b : Nat) : Prop := (A a b ∧ a ≠ x ∧ b ≠ x) ∨ (a = x ∧ b = y) ∨ (a = y ∧ b = x)
theorem Tree.hung (T : Tree n A) {x y h : Nat} (hx : A x h) (leaf : ∀ b, A x b → b = h) (hy : y ≤ n) (hyx : y ≠ x) : Tree n (Hung A x y) := by
  obtain ⟨rk, pa, r, hr, hp, ha⟩ := T.ex
  have hxn : x ≤ n := T.le _ _ hx
  have hhx : h ≠ x := (T.ne hx).symm
  have hhn : h ≤ n := T.le _ _ (T.sym _ _ hx)
  -- the root
  obtain ⟨r', r1, r2, r3, r4⟩ : ∃ r', r' ≤ n ∧ r' ≠ x ∧ (∀ p, p ≤ n → p ≠ r' → p ≠ x → p ≠ r ∧ pa p ≠ x) ∧ ∀ a b, a ≠ x → b ≠ x → b ≠ r → a = pa b → b ≠ r' := by
    by_cases hrx : r = x
    · have px : x = pa h := by
        rcases ha _ _ hx with ⟨_, e⟩ | ⟨e, _⟩
        · exact e
        · exact absurd hrx.symm e
      refine ⟨h, hhn, hhx, fun p pn ph pxx => ⟨by rw [hrx]; exact pxx, fun e => ?_⟩, fun a b ax bx br e => ?_⟩
      · have := (hp p pn (by rw [hrx]; exact pxx)).2.2
        rw [e] at this
        exact ph (leaf _ this)
      · intro bh
        rw [bh, ← px] at e
        exact ax e
    · have px : pa x = h := leaf _ (T.sym _ _ (hp x hxn (fun e => hrx e.symm)).2.2)
      refine ⟨r, hr, hrx, fun p pn ph pxx => ⟨ph, fun e => ?_⟩, fun a b ax bx br e => br⟩
      have q := hp p pn ph
      rw [e] at q
      have e2 := leaf _ q.2.2
      have q2 := (hp x hxn (fun e => hrx e.symm)).2.1
      rw [px, ← e2] at q2
      omega
  refine ⟨fun a b hab => ?_, fun a b hab => ?_, fun p => if p = x then rk y + 1 else rk p, fun p => if p = x then y else pa p, r', r1, fun p pn ph => ?_, fun a b hab => ?_⟩
  · rcases hab with ⟨h1, h2, h3⟩ | ⟨h1, h2⟩ | ⟨h1, h2⟩
    · exact .inl ⟨T.sym _ _ h1, h3, h2⟩
    · exact .inr (.inr ⟨h2, h1⟩)
    · exact .inr (.inl ⟨h2, h1⟩)
  · rcases hab with ⟨h1, _⟩ | ⟨h1, _⟩ | ⟨h1, _⟩
    · exact T.le _ _ h1
    · rw [h1]; exact hxn
    · rw [h1]; exact hy
  · by_cases px : p = x
    · subst px
      simp only [if_true, if_neg hyx]
      exact ⟨hy, by omega, .inr (.inr ⟨rfl, rfl⟩)⟩
    · obtain ⟨q1, q2⟩ := r3 p pn ph px
      obtain ⟨q3, q4, q5⟩ := hp p pn q1
      simp only [if_neg px, if_neg q2]
      exact ⟨q3, q4, .inl ⟨q5, q2, px⟩⟩
  · rcases hab with ⟨h1, h2, h3⟩ | ⟨h1, h2⟩ | ⟨h1, h2⟩
    · rcases ha _ _ h1 with ⟨e1, e2⟩ | ⟨e1, e2⟩
      · exact .inl ⟨r4 a b h2 h3 e1 e2, by simp only [if_neg h3]; exact e2⟩
      · exact .inr ⟨r4 b a h3 h2 e1 e2, by simp only [if_neg h2]; exact e2⟩
    · subst h1 h2
      exact .inr ⟨fun e => r2 e.symm, by simp⟩
    · subst h1 h2
      exact .inl ⟨fun e => r2 e.symm, by simp⟩
end Tr

set_option Elab.async false
set_option linter.all false
set_option maxRecDepth 100000
/-! SpA: places, lanes, rows of these as data: sorted, compared, met. -/
namespace Lk
open PySem L2 PySem.Spec
abbrev dI (n : Nat) : D := .int (n : Int)
abbrev dL (l : List Nat) : D := .list (l.map dI)
abbrev dP (p : Nat × Nat) : D := .tuple [dI p.1, dI p.2]
abbrev dPs (l : List (Nat × Nat)) : D := .list (l.map dP)
abbrev dLL (l : List (List Nat)) : D := .list (l.map dL)
def sortN (l : List Nat) : List Nat := l.mergeSort fun a b => decide (a ≤ b)
def leP (a b : Nat × Nat) : Bool := PySem.W.dataLe false id (dP a) (dP b)
def sortP (l : List (Nat × Nat)) : List (Nat × Nat) := l.mergeSort leP
theorem le_int (a b : Int) : PySem.W.dataLe false (id : D → D) (.int a) (.int b) = decide (a ≤ b) := by
  have h := congrFun (congrFun (PySem.W.dataLe_int (fun n : Int => n)) a) b
  rw [PySem.W.dataLe_eq] at h
  rw [PySem.W.dataLe_eq]
  exact h
theorem sortD_dI (l : List Nat) : sortD (l.map dI) = (sortN l).map dI := by
  unfold sortD sortN
  rw [List.map_mergeSort (s := PySem.W.dataLe false (id : D → D)) (f := dI) fun a _ b _ => by rw [le_int]; simp]
theorem sortD_dP (l : List (Nat × Nat)) : sortD (l.map dP) = (sortP l).map dP := by
  unfold sortD sortP
  rw [List.map_mergeSort (r := leP) (s := PySem.W.dataLe false (id : D → D)) (f := dP) fun a _ b _ => rfl]
theorem sortN_perm (l : List Nat) : (sortN l).Perm l := List.mergeSort_perm l _
theorem sortP_perm (l : List (Nat × Nat)) : (sortP l).Perm l := List.mergeSort_perm l _
theorem sortN_sorted (l : List Nat) : (sortN l).Pairwise (· ≤ ·) := by
  have := List.pairwise_mergeSort (le := fun (a b : Nat) => decide (a ≤ b)) (fun a b c h1 h2 => by simp at *; omega) (fun a b => by simp; omega) l
  exact this.imp fun h => by simpa using h
theorem sorted_eq : ∀ {l m : List Nat}, l.Pairwise (· ≤ ·) → m.Pairwise (· ≤ ·) → l.Perm m → l = m
  | [], m, _, _, p => p.nil_eq
  | a :: l, [], _, _, p => absurd p.length_eq (by simp)
  | a :: l, b :: m, hl, hm, p => by
    have ha : a ∈ b :: m := p.mem_iff.mp List.mem_cons_self
    have hb : b ∈ a :: l := p.mem_iff.mpr List.mem_cons_self
    have h1 : a = b := by
      rcases List.mem_cons.mp ha with e | ha
      · exact e
      · rcases List.mem_cons.mp hb with e | hb
        · exact e.symm
        · have := (List.pairwise_cons.mp hl).1 b hb
          have := (List.pairwise_cons.mp hm).1 a ha
          omega
    subst h1
    rw [sorted_eq (List.pairwise_cons.mp hl).2 (List.pairwise_cons.mp hm).2 (List.Perm.cons_inv p)]
theorem sortN_eq {l m : List Nat} (p : l.Perm m) : sortN l = sortN m := sorted_eq (sortN_sorted l) (sortN_sorted m) ((sortN_perm l).trans (p.trans (sortN_perm m).symm))
theorem sortN_id {l : List Nat} (hl : l.Pairwise (· ≤ ·)) : sortN l = l := sorted_eq (sortN_sorted l) hl (sortN_perm l)
theorem plnA_dI (l : List Nat) : plnA (l.map dI) = true := by
  induction l with
  | nil => simp [plnA]
  | cons a l ih => simp [plnA, pln, ih]
theorem plnA_dP (l : List (Nat × Nat)) : plnA (l.map dP) = true := by
  induction l with
  | nil => simp [plnA]
  | cons a l ih => simp [plnA, pln, ih]
theorem depth_dI (n : Nat) : (dI n).depth = 0 := by simp [PyData.depth]
theorem depth_dP (p : Nat × Nat) : (dP p).depth = 1 := by simp [PyData.depth, PyData.depthAll]
theorem depthAll_dI (l : List Nat) : PyData.depthAll (l.map dI) = 0 := by
  induction l with
  | nil => simp [PyData.depthAll]
  | cons a l ih => simp [PyData.depthAll, ih, PyData.depth]
theorem canLayAll_dI (l : List Nat) : PyData.canLayAll0 (l.map dI) = true := by
  induction l with
  | nil => simp [PyData.canLayAll0]
  | cons a l ih => simp [PyData.canLayAll0, PyData.canLay0, ih]
theorem sortOk_dI {l : List Nat} (h : l.length ≤ lim) : sortOk (l.map dI) = true := by
  unfold sortOk
  simp [plnA_dI, h, isOth, PySem.W.alike, PyData.depth]
theorem sortOk_dP {l : List (Nat × Nat)} (h : l.length ≤ lim) : sortOk (l.map dP) = true := by
  unfold sortOk
  simp [plnA_dP, h, isTup1, PySem.W.alike, PySem.W.alikeAll, PyData.depth, PyData.depthAll]
theorem fSorted_dL {k : Nat} {l : List Nat} (hk : k ≤ 1) (h : l.length ≤ lim) : fSorted k (dL l) = some (1, dL (sortN l)) := by
  simp [fSorted, hk, sortOk_dI h, sortD_dI]
theorem fSorted_dPs {k : Nat} {l : List (Nat × Nat)} (hk : k ≤ 1) (h : l.length ≤ lim) : fSorted k (dPs l) = some (1, dPs (sortP l)) := by
  simp [fSorted, hk, sortOk_dP h, sortD_dP]
theorem eqOk_dI (n : Int) : eqOk (.int n) = true := by simp [eqOk, pln, SeqAt.shaped, PyData.canLay0, PyData.depth]
theorem eqOk_dL (l : List Nat) : eqOk (dL l) = true := by simp [eqOk, pln, plnA_dI, SeqAt.shaped, PyData.canLay0, PyData.depth, canLayAll_dI, depthAll_dI]
theorem eqvAll_dI (l m : List Nat) : PyData.eqvAll (l.map dI) (m.map dI) = decide (l = m) := by
  induction l generalizing m with
  | nil => cases m <;> simp [PyData.eqvAll]
  | cons a l ih =>
    cases m with
    | nil => simp [PyData.eqvAll]
    | cons b m =>
      have : (((a : Int) == (b : Int)) : Bool) = decide (a = b) := by rw [Bool.eq_iff_iff, beq_iff_eq, decide_eq_true_iff]; omega
      simp [PyData.eqvAll, PyData.eqv, ih, this]
theorem eqv_dL (l m : List Nat) : PyData.eqv (dL l) (dL m) = decide (l = m) := by simp [PyData.eqv, eqvAll_dI]
theorem fIn_dL {ng : Bool} {ka kb : Nat} {x : Nat} {l : List Nat} : fIn ng ka (dI x) kb (dL l) = some (0, .bool (if ng then !decide (x ∈ l) else decide (x ∈ l))) := by
  have h : ((l.map dI).any fun z => PyData.eqv z (dI x)) = decide (x ∈ l) := by
    induction l with
    | nil => simp
    | cons a l ih =>
      rw [List.map_cons, List.any_cons, ih]
      have : (((a : Int) == (x : Int)) : Bool) = decide (x = a) := by rw [Bool.eq_iff_iff, beq_iff_eq, decide_eq_true_iff]; omega
      simp [PyData.eqv, List.mem_cons, this]
  simp only [fIn, eqOk_dI, eqOk_dL, Bool.and_self, if_true, h]
theorem fEq_dL {ka kb : Nat} {l m : List Nat} : fEq ka (dL l) kb (dL m) = some (0, .bool (decide (l = m))) := by
  simp only [fEq, eqOk_dL, Bool.and_self, if_true, eqv_dL]
theorem fNe_dL {ka kb : Nat} {l m : List Nat} : fNe ka (dL l) kb (dL m) = some (0, .bool (!decide (l = m))) := by
  simp only [fNe, eqOk_dL, Bool.and_self, if_true, eqv_dL]
theorem fNe_nil {ka kb : Nat} {l : List Nat} : fNe ka (dL l) kb (.list []) = some (0, .bool (!decide (l = []))) := fNe_dL (m := [])
theorem fEq_int {ka kb : Nat} {a b : Int} : fEq ka (.int a) kb (.int b) = some (0, .bool (decide (a = b))) := by
  have : ((a == b) : Bool) = decide (a = b) := by rw [Bool.eq_iff_iff]; simp
  simp [fEq, eqOk_dI, PyData.eqv, this]
theorem fNe_int {ka kb : Nat} {a b : Int} : fNe ka (.int a) kb (.int b) = some (0, .bool (!decide (a = b))) := by
  have : ((a == b) : Bool) = decide (a = b) := by rw [Bool.eq_iff_iff]; simp
  simp [fNe, eqOk_dI, PyData.eqv, this]
theorem ixN_nat {n i : Nat} (h : i < n) : ixN n (i : Int) = some i := by
  unfold ixN
  rw [if_pos (by omega), if_pos (by omega)]
  simp
theorem atI_map {α : Type} {l : List α} {f : α → D} {i : Nat} (h : i < l.length) : atI (l.map f) (i : Int) = some (f l[i]) := by
  simp [atI, h, ixN_nat]
end Lk

set_option Elab.async false
set_option linter.all false
/-! LkX: mirrors, applied to a store (printed by genx.py). -/
namespace Lk
open PySem L2 PySem.Spec
@[simp] theorem x_mC (d : D) (ρ : Sto) : mC d ρ = (some (⟨false, 0, d⟩, ρ)) := Eq.trans rfl rfl
@[simp] theorem x_mV (i : Nat) (ρ : Sto) : mV i ρ = (match ρ[i]? with
  | some (some b) => some (⟨false, b.k, b.d⟩, ρ)
  | _ => none) := Eq.trans rfl rfl
@[simp] theorem x_mT (i : Nat) (ρ : Sto) : mT i ρ = (match ρ[i]? with
  | some (some b) => some (⟨false, 0, b.d⟩, ρ.set i (some ⟨0, b.d⟩))
  | _ => none) := Eq.trans rfl rfl
@[simp] theorem x_mM (i : Nat) (ρ : Sto) : mM i ρ = (match ρ[i]? with
  | some (some ⟨0, d⟩) => some (⟨false, 0, d⟩, ρ)
  | some (some ⟨k + 1, d⟩) => some (⟨true, k + 1, d⟩, ρ.set i none)
  | _ => none) := Eq.trans rfl rfl
@[simp] theorem x_mBin (f : Op2) (ma mb : M R) (ρ : Sto) : mBin f ma mb ρ = (match ma ρ with
  | some (ra, ρ1) => match mb ρ1 with
    | some (rb, ρ2) => match f ra.k ra.d rb.k rb.d with
      | some (k, d) => some (⟨true, k, d⟩, ρ2)
      | none => none
    | none => none
  | none => none) := Eq.trans rfl rfl
@[simp] theorem x_mBinS (f : Op2) (ma mb : M R) (ρ : Sto) : mBinS f ma mb ρ = (match ma ρ with
  | some (ra, ρ1) => if (ra.fr || ra.k == 0) = true then match mb ρ1 with
      | some (rb, ρ2) => match f 0 ra.d rb.k rb.d with
        | some (k, d) => some (⟨true, k, d⟩, ρ2)
        | none => none
      | none => none
    else none
  | none => none) := Eq.trans rfl rfl
@[simp] theorem x_mB (m : M R) (ρ : Sto) : mB m ρ = (match m ρ with
  | some (⟨_, 0, .bool b⟩, ρ1) => some (b, ρ1)
  | _ => none) := Eq.trans rfl rfl
@[simp] theorem x_mNotT (m : M Bool) (ρ : Sto) : mNotT m ρ = (match m ρ with
  | some (b, ρ1) => some (!b, ρ1)
  | none => none) := Eq.trans rfl rfl
@[simp] theorem x_mAndT (ma mb : M Bool) (ρ : Sto) : mAndT ma mb ρ = (match ma ρ with
  | some (true, ρ1) => mb ρ1
  | some (false, ρ1) => some (false, ρ1)
  | none => none) := Eq.trans rfl rfl
@[simp] theorem x_mOrT (ma mb : M Bool) (ρ : Sto) : mOrT ma mb ρ = (match ma ρ with
  | some (true, ρ1) => some (true, ρ1)
  | some (false, ρ1) => mb ρ1
  | none => none) := Eq.trans rfl rfl
@[simp] theorem x_mAndV (ma mb : M R) (ρ : Sto) : mAndV ma mb ρ = (match ma ρ with
  | some (⟨_, 0, .bool true⟩, ρ1) => mb ρ1
  | some (⟨_, 0, .bool false⟩, ρ1) => some (⟨false, 0, .bool false⟩, ρ1)
  | _ => none) := Eq.trans rfl rfl
@[simp] theorem x_mOrV (ma mb : M R) (ρ : Sto) : mOrV ma mb ρ = (match ma ρ with
  | some (⟨_, 0, .bool true⟩, ρ1) => some (⟨false, 0, .bool true⟩, ρ1)
  | some (⟨_, 0, .bool false⟩, ρ1) => mb ρ1
  | _ => none) := Eq.trans rfl rfl
@[simp] theorem x_mNotV (ma : M R) (ρ : Sto) : mNotV ma ρ = (match ma ρ with
  | some (⟨_, 0, .bool b⟩, ρ1) => some (⟨false, 0, .bool !b⟩, ρ1)
  | _ => none) := Eq.trans rfl rfl
@[simp] theorem x_mIf (t : M Bool) (ma mb : M R) (ρ : Sto) : mIf t ma mb ρ = (match t ρ with
  | some (true, ρ1) => ma ρ1
  | some (false, ρ1) => mb ρ1
  | none => none) := Eq.trans rfl rfl
@[simp] theorem x_mUn (f : Nat → D → Option (Nat × D)) (ma : M R) (ρ : Sto) : mUn f ma ρ = (match ma ρ with
  | some (ra, ρ1) => match f ra.k ra.d with
    | some (k, d) => some (⟨true, k, d⟩, ρ1)
    | none => none
  | none => none) := Eq.trans rfl rfl
@[simp] theorem x_mNx (ρ : Sto) : mNx  ρ = (some (.nx, ρ)) := Eq.trans rfl rfl
@[simp] theorem x_mSeq (m n : M Fl) (ρ : Sto) : mSeq m n ρ = (match m ρ with
  | some (.nx, ρ1) => n ρ1
  | some (.bk, ρ1) => some (.bk, ρ1)
  | some (.ct, ρ1) => some (.ct, ρ1)
  | some (.rt r, ρ1) => some (.rt r, ρ1)
  | none => none) := Eq.trans rfl rfl
@[simp] theorem x_mBk (ρ : Sto) : mBk  ρ = (some (.bk, ρ)) := Eq.trans rfl rfl
@[simp] theorem x_mCt (ρ : Sto) : mCt  ρ = (some (.ct, ρ)) := Eq.trans rfl rfl
@[simp] theorem x_mSet (i : Nat) (m : M R) (ρ : Sto) : mSet i m ρ = (match m ρ with
  | some (r, ρ1) => match stor i r ρ1 with
    | some ρ2 => some (.nx, ρ2)
    | none => none
  | none => none) := Eq.trans rfl rfl
@[simp] theorem x_mDrop (m : M R) (ρ : Sto) : mDrop m ρ = (match m ρ with
  | some (_, ρ1) => some (.nx, ρ1)
  | none => none) := Eq.trans rfl rfl
@[simp] theorem x_mRet (m : M R) (ρ : Sto) : mRet m ρ = (match m ρ with
  | some (r, ρ1) => some (.rt r, ρ1)
  | none => none) := Eq.trans rfl rfl
@[simp] theorem x_mCond (t : M Bool) (a b : M Fl) (ρ : Sto) : mCond t a b ρ = (match t ρ with
  | some (true, ρ1) => a ρ1
  | some (false, ρ1) => b ρ1
  | none => none) := Eq.trans rfl rfl
@[simp] theorem x_mF0 (ρ : Sto) : mF0  ρ = (some ([], ρ)) := Eq.trans rfl rfl
@[simp] theorem x_mF1 (m : M R) (ms : M (List D)) (ρ : Sto) : mF1 m ms ρ = (match m ρ with
  | some (r, ρ1) => if (r.fr || r.k == 0) = true then match ms ρ1 with
      | some (ds, ρ2) => some (r.d :: ds, ρ2)
      | none => none
    else none
  | none => none) := Eq.trans rfl rfl
@[simp] theorem x_mG0 (ρ : Sto) : mG0  ρ = (some ([], ρ)) := Eq.trans rfl rfl
@[simp] theorem x_mG1 (m : M R) (ms : M (List Arg)) (ρ : Sto) : mG1 m ms ρ = (match m ρ with
  | some (r, ρ1) => if (r.fr || r.k == 0) = true then match ms ρ1 with
      | some (ds, ρ2) => some (.v r.d :: ds, ρ2)
      | none => none
    else none
  | none => none) := Eq.trans rfl rfl
@[simp] theorem x_mGr (i : Nat) (ms : M (List Arg)) (ρ : Sto) : mGr i ms ρ = (match ρ[i]? with
  | some (some _) => match ms ρ with
    | some (ds, ρ2) => some (.r i :: ds, ρ2)
    | none => none
  | _ => none) := Eq.trans rfl rfl
@[simp] theorem x_mLst (ms : M (List D)) (ρ : Sto) : mLst ms ρ = (match ms ρ with
  | some (ds, ρ1) => if ds.length ≤ lim then some (⟨true, 1, .list ds⟩, ρ1) else none
  | none => none) := Eq.trans rfl rfl
@[simp] theorem x_mTup (ms : M (List D)) (ρ : Sto) : mTup ms ρ = (match ms ρ with
  | some (ds, ρ1) => if ds.length ≤ lim then some (⟨false, 0, .tuple ds⟩, ρ1) else none
  | none => none) := Eq.trans rfl rfl
@[simp] theorem x_mCall (n : Nat) (g : Fn) (ms : M (List D)) (ρ : Sto) : mCall n g ms ρ = (match ms ρ with
  | some (ds, ρ1) => if ds.length = n then match g (frz0 ds) with
      | some (r, _) => some (r, ρ1)
      | none => none
    else none
  | none => none) := Eq.trans rfl rfl
@[simp] theorem x_mCallR (n : Nat) (g : Fn) (ms : M (List Arg)) (ρ : Sto) : mCallR n g ms ρ = (match ms ρ with
  | some (as, ρ1) => match pull as ρ1 with
    | some (bs, ρ2) => if bs.length = n then match g bs with
        | some (r, outs) => some (r, push as outs ρ2)
        | none => none
      else none
    | none => none
  | none => none) := Eq.trans rfl rfl
@[simp] theorem x_mCallK (n : Nat) (ix : List Nat) (g : Fn) (ms ks : M (List D)) (ρ : Sto) : mCallK n ix g ms ks ρ = (match ms ρ with
  | some (ds, ρ1) => match ks ρ1 with
    | some (es, ρ2) => if (ds ++ es).length = n ∧ ix.all (fun i => decide (i < n)) = true then match g (frz0 (pick ix (ds ++ es))) with
        | some (r, _) => some (r, ρ2)
        | none => none
      else none
    | none => none
  | none => none) := Eq.trans rfl rfl
@[simp] theorem x_bN (i : Nat) (d : D) (ρ : Sto) : bN i d ρ = (stor i ⟨false, 0, d⟩ ρ) := Eq.trans rfl rfl
@[simp] theorem x_bs0 (ds : List D) (ρ : Sto) : bs0  ds ρ = (match ds with
  | [] => some ρ
  | _ => none) := Eq.trans rfl rfl
@[simp] theorem x_bs1 (b : D → Sto → Option Sto) (c : List D → Sto → Option Sto) (ds : List D) (ρ : Sto) : bs1 b c ds ρ = (match ds with
  | d :: r => match b d ρ with
    | some ρ1 => c r ρ1
    | none => none
  | [] => none) := Eq.trans rfl rfl
@[simp] theorem x_bT (n : Nat) (c : List D → Sto → Option Sto) (d : D) (ρ : Sto) : bT n c d ρ = (match d with
  | .tuple ds => if ds.length = n then c ds ρ else none
  | _ => none) := Eq.trans rfl rfl
@[simp] theorem x_mAsg (b : D → Sto → Option Sto) (m : M R) (ρ : Sto) : mAsg b m ρ = (match m ρ with
  | some (r, ρ1) => if (r.fr || r.k == 0) = true then match b r.d ρ1 with
      | some ρ2 => some (.nx, ρ2)
      | none => none
    else none
  | none => none) := Eq.trans rfl rfl
@[simp] theorem x_mIl (m : M R) (ρ : Sto) : mIl m ρ = (match m ρ with
  | some (r, ρ1) => if (r.fr || r.k == 0) = true then match r.d with
      | .list ds => some (ds, ρ1)
      | _ => none
    else none
  | none => none) := Eq.trans rfl rfl
@[simp] theorem x_mIt (m : M R) (ρ : Sto) : mIt m ρ = (match m ρ with
  | some (r, ρ1) => if (r.fr || r.k == 0) = true then match r.d with
      | .tuple ds => some (ds, ρ1)
      | _ => none
    else none
  | none => none) := Eq.trans rfl rfl
@[simp] theorem x_mR1 (m : M R) (ρ : Sto) : mR1 m ρ = (match m ρ with
  | some (⟨_, 0, .int n⟩, ρ1) => if -1000000000 ≤ n ∧ n ≤ 1000000000 then some (dInts 0 n.toNat, ρ1) else none
  | _ => none) := Eq.trans rfl rfl
@[simp] theorem x_mR2 (ma mb : M R) (ρ : Sto) : mR2 ma mb ρ = (match ma ρ with
  | some (⟨_, 0, .int a⟩, ρ1) => match mb ρ1 with
    | some (⟨_, 0, .int b⟩, ρ2) => if (-1000000000 ≤ a ∧ a ≤ 1000000000) ∧ (-1000000000 ≤ b ∧ b ≤ 1000000000) then some (dInts a (b - a).toNat, ρ2) else none
    | _ => none
  | _ => none) := Eq.trans rfl rfl
@[simp] theorem x_mIe (m : M R) (ρ : Sto) : mIe m ρ = (match mIl m ρ with
  | some (ds, ρ1) => some (dEnum ds, ρ1)
  | none => none) := Eq.trans rfl rfl
@[simp] theorem x_mIz (ma mb : M R) (ρ : Sto) : mIz ma mb ρ = (match mIl ma ρ with
  | some (ds, ρ1) => match mIl mb ρ1 with
    | some (es, ρ2) => some (dZip ds es, ρ2)
    | none => none
  | none => none) := Eq.trans rfl rfl
@[simp] theorem x_mYes (ρ : Sto) : mYes  ρ = (some (true, ρ)) := Eq.trans rfl rfl
@[simp] theorem x_bIx (i : Nat) (mj : M R) (d : D) (ρ : Sto) : bIx i mj d ρ = (match ρ[i]? with
  | some (some ⟨_ + 1, .list _⟩) => match mj ρ with
    | some (⟨_, 0, .int j⟩, ρ1) => match ρ1[i]? with
      | some (some ⟨_ + 1, .list ds⟩) => match ixN ds.length j with
        | some n => some (ρ1.set i (some ⟨1, .list (ds.set n d)⟩))
        | none => none
      | _ => none
    | _ => none
  | _ => none) := Eq.trans rfl rfl
@[simp] theorem x_mMet (i : Nat) (f : List D → R → Option (D × List D)) (me : M R) (ρ : Sto) : mMet i f me ρ = (match ρ[i]? with
  | some (some ⟨_ + 1, .list _⟩) => match me ρ with
    | some (r, ρ1) => if (r.fr || r.k == 0) = true then match ρ1[i]? with
        | some (some ⟨_ + 1, .list ds⟩) => match f ds r with
          | some (d, ds') => some (⟨false, 0, d⟩, ρ1.set i (some ⟨1, .list ds'⟩))
          | none => none
        | _ => none
      else none
    | none => none
  | _ => none) := Eq.trans rfl rfl
@[simp] theorem x_mMet0 (i : Nat) (f : List D → Option (D × List D)) (ρ : Sto) : mMet0 i f ρ = (match ρ[i]? with
  | some (some ⟨_ + 1, .list ds⟩) => match f ds with
    | some (d, ds') => some (⟨false, 0, d⟩, ρ.set i (some ⟨1, .list ds'⟩))
    | none => none
  | _ => none) := Eq.trans rfl rfl
@[simp] theorem x_mIx (ma mb : M R) (ρ : Sto) : mIx ma mb ρ = (match ma ρ with
  | some (ra, ρ1) => match mb ρ1 with
    | some (⟨_, 0, .int j⟩, ρ2) => match itemOf ra.k ra.d j with
      | some (k, d) => some (⟨false, k, d⟩, ρ2)
      | none => none
    | _ => none
  | none => none) := Eq.trans rfl rfl
@[simp] theorem x_mIxS (ma mb : M R) (ρ : Sto) : mIxS ma mb ρ = (match ma ρ with
  | some (ra, ρ1) => if (ra.fr || ra.k == 0) = true then match mb ρ1 with
      | some (⟨_, 0, .int j⟩, ρ2) => match itemOf 0 ra.d j with
        | some (k, d) => some (⟨false, 0, d⟩, ρ2)
        | none => none
      | _ => none
    else none
  | none => none) := Eq.trans rfl rfl
@[simp] theorem x_mO0 (ρ : Sto) : mO0  ρ = (some (none, ρ)) := Eq.trans rfl rfl
@[simp] theorem x_mO1 (m : M R) (ρ : Sto) : mO1 m ρ = (match m ρ with
  | some (⟨_, 0, .int j⟩, ρ1) => some (some j, ρ1)
  | _ => none) := Eq.trans rfl rfl
@[simp] theorem x_mSl (ma : M R) (ml mh : M (Option Int)) (ρ : Sto) : mSl ma ml mh ρ = (match ma ρ with
  | some (ra, ρ1) => match ml ρ1 with
    | some (lo, ρ2) => match mh ρ2 with
      | some (hi, ρ3) => if ra.k ≤ 1 then match ra.d with
          | .list ds => some (⟨true, 1, .list (cutD ds lo hi)⟩, ρ3)
          | _ => none
        else none
      | none => none
    | none => none
  | none => none) := Eq.trans rfl rfl
@[simp] theorem x_mAttrSet (i : Nat) (c f : Str) (m : M R) (ρ : Sto) : mAttrSet i c f m ρ = (match m ρ with
  | some (r, ρ1) => if (r.fr || r.k == 0) = true then match ρ1[i]? with
      | some (some ⟨k + 1, .dict ((.str ck, .str c') :: kvs)⟩) => if ck = clsKey ∧ c' = c ∧ kvs.length < 900 then some (.nx, ρ1.set i (some ⟨k + 1, .dict ((.str ck, .str c') :: putD f r.d kvs)⟩)) else none
      | _ => none
    else none
  | none => none) := Eq.trans rfl rfl
@[simp] theorem x_mMake (n : Nat) (c : Str) (g : Fn) (ms : M (List D)) (ρ : Sto) : mMake n c g ms ρ = (match ms ρ with
  | some (ds, ρ1) => if ds.length + 1 = n then match g (⟨1, .dict [(.str clsKey, .str c)]⟩ :: frz0 ds) with
      | some (⟨_, 0, .none⟩, some ⟨_ + 1, d⟩ :: _) => some (⟨false, 0, d⟩, ρ1)
      | _ => none
    else none
  | none => none) := Eq.trans rfl rfl
@[simp] theorem x_mChain (f f' : Op2) (ma mb mc : M R) (ρ : Sto) : mChain f f' ma mb mc ρ = (match ma ρ with
  | some (ra, ρ1) => match mb ρ1 with
    | some (rb, ρ2) => match f ra.k ra.d rb.k rb.d with
      | some (0, .bool true) => match mc ρ2 with
        | some (rc, ρ3) => match f' rb.k rb.d rc.k rc.d with
          | some (0, d) => some (⟨false, 0, d⟩, ρ3)
          | _ => none
        | none => none
      | some (0, .bool false) => some (⟨false, 0, .bool false⟩, ρ2)
      | _ => none
    | none => none
  | none => none) := Eq.trans rfl rfl
@[simp] theorem x_mPar (i j : Nat) (ma mb : M R) (ρ : Sto) : mPar i j ma mb ρ = (match ma ρ with
  | some (ra, ρ1) => if (ra.fr || ra.k == 0) = true then match mb ρ1 with
      | some (rb, ρ2) => match stor i ra ρ2 with
        | some ρ3 => match stor j rb ρ3 with
          | some ρ4 => some (.nx, ρ4)
          | none => none
        | none => none
      | none => none
    else none
  | none => none) := Eq.trans rfl rfl
@[simp] theorem x_mAppIx3 (i : Nat) (mj me : M R) (ρ : Sto) : mAppIx3 i mj me ρ = (match mj ρ with
  | some (⟨_, 0, .int j⟩, ρ1) => match ρ1[i]? with
    | some (some ⟨2, .list ds0⟩) => match atI ds0 j with
      | some (.list _) => match me ρ1 with
        | some (r, ρ2) => if (r.fr || r.k == 0) = true then match ρ2[i]? with
            | some (some ⟨2, .list ds⟩) => match ixN ds.length j with
              | some n => match ds[n]? with
                | some (.list es) => if es.length < lim then some (⟨false, 0, .none⟩, ρ2.set i (some ⟨2, .list (ds.set n (.list (es ++ [r.d])))⟩)) else none
                | _ => none
              | none => none
            | _ => none
          else none
        | none => none
      | _ => none
    | _ => none
  | _ => none) := Eq.trans rfl rfl
@[simp] theorem x_mAppIx2 (i : Nat) (mj me : M R) (ρ : Sto) : mAppIx2 i mj me ρ = (match ρ[i]? with
  | some (some _) => mAppIx3 i mj me ρ
  | _ => none) := Eq.trans rfl rfl
@[simp] theorem x_mO0s (ρ : Sto) : mO0s  ρ = (some ([], ρ)) := Eq.trans rfl rfl
@[simp] theorem x_mLst1 (m : M R) (ρ : Sto) : mLst1 m ρ = (match m ρ with
  | some (⟨true, k + 1, .list ds⟩, ρ1) => some (⟨true, k + 2, .list [.list ds]⟩, ρ1)
  | _ => none) := Eq.trans rfl rfl
@[simp] theorem x_mApp2 (i : Nat) (m : M R) (ρ : Sto) : mApp2 i m ρ = (match ρ[i]? with
  | some (some ⟨2, .list _⟩) => match m ρ with
    | some (⟨true, 1, .list es⟩, ρ1) => match ρ1[i]? with
      | some (some ⟨2, .list ds⟩) => if ds.length < lim then some (⟨false, 0, .none⟩, ρ1.set i (some ⟨2, .list (ds ++ [.list es])⟩)) else none
      | _ => none
    | _ => none
  | _ => none) := Eq.trans rfl rfl
@[simp] theorem x_mLenSet (m : M R) (ρ : Sto) : mLenSet m ρ = (match m ρ with
  | some (r, ρ1) => if r.k ≤ 1 then match r.d with
      | .list ds => match tupInts ds with
        | some l => if l.length < 64 then some (⟨false, 0, .int (dcount l : Int)⟩, ρ1) else none
        | none => none
      | _ => none
    else none
  | none => none) := Eq.trans rfl rfl
@[simp] theorem x_mIq (m : M R) (ρ : Sto) : mIq m ρ = (match m ρ with
  | some (r, ρ1) => if (r.fr || r.k == 0) = true then match r.d with
      | .list ds => some (ds, ρ1)
      | .tuple ds => some (ds, ρ1)
      | _ => none
    else none
  | none => none) := Eq.trans rfl rfl
@[simp] theorem x_mLr1 (m : M R) (ρ : Sto) : mLr1 m ρ = (match m ρ with
  | some (r, ρ1) => match r.d with
    | .int n => if 0 ≤ n ∧ n ≤ 1000000 then some (⟨true, 1, .list (dInts 0 n.toNat)⟩, ρ1) else none
    | _ => none
  | none => none) := Eq.trans rfl rfl
@[simp] theorem x_mCallH (g : Fn) (m : M R) (ρ : Sto) : mCallH g m ρ = (match m ρ with
  | some (r, ρ1) => if (r.fr || r.k == 0) = true then match g [⟨r.k, r.d⟩] with
      | some (r', _) => some (r', ρ1)
      | none => none
    else none
  | none => none) := Eq.trans rfl rfl
@[simp] theorem x_mNo {α : Type} (ρ : Sto) : (mNo : M α) ρ = none := Eq.trans rfl rfl
@[simp] theorem x_fnM (n np : Nat) (pr : List Nat) (body : M Fl) (bs : List B) : fnM n np pr body bs = (match body (bs.map some ++ List.replicate (n - np) none) with
  | some (.rt r, ρ) => if (r.fr || r.k == 0) = true then some (r, outsOf np pr ρ) else none
  | some (.nx, ρ) => some (⟨false, 0, .none⟩, outsOf np pr ρ)
  | _ => none) := Eq.trans rfl rfl
@[simp] theorem x_frz0 (ds : List D) : frz0 ds = ds.map fun d => ⟨0, d⟩ := Eq.trans rfl rfl

@[simp] theorem x_stor (i : Nat) (r : R) (ρ : Sto) : stor i r ρ = (if (r.fr || r.k == 0) = true then (match ρ[i]? with
  | some _ => some (ρ.set i (some ⟨r.k, r.d⟩))
  | none => none) else none) := Eq.trans rfl rfl
@[simp] theorem x_pull0 (ρ : Sto) : pull [] ρ = some ([], ρ) := Eq.trans rfl rfl
@[simp] theorem x_pullv (d : D) (as : List Arg) (ρ : Sto) : pull (.v d :: as) ρ = (match pull as ρ with
    | some (bs, ρ') => some (⟨0, d⟩ :: bs, ρ')
    | none => none) := Eq.trans rfl rfl
@[simp] theorem x_pullr (i : Nat) (as : List Arg) (ρ : Sto) : pull (.r i :: as) ρ = (match ρ[i]? with
    | some (some b) => match pull as (ρ.set i none) with
      | some (bs, ρ') => some (b :: bs, ρ')
      | none => none
    | _ => none) := Eq.trans rfl rfl
@[simp] theorem x_push0 (bs : List (Option B)) (ρ : Sto) : push [] bs ρ = ρ := by cases bs <;> rfl
@[simp] theorem x_pushr (i : Nat) (as : List Arg) (b : Option B) (bs : List (Option B)) (ρ : Sto) : push (.r i :: as) (b :: bs) ρ = push as bs (ρ.set i b) := Eq.trans rfl rfl
@[simp] theorem x_pushv (d : D) (as : List Arg) (b : Option B) (bs : List (Option B)) (ρ : Sto) : push (.v d :: as) (b :: bs) ρ = push as bs ρ := Eq.trans rfl rfl
@[simp] theorem x_wipe0 (ρ : Sto) : wipeS ρ [] = ρ := Eq.trans rfl rfl
@[simp] theorem x_wipe1 (ρ : Sto) (v : Nat) (vs : List Nat) : wipeS ρ (v :: vs) = (wipeS ρ vs).set v none := Eq.trans rfl rfl
@[simp] theorem x_unwipe0 (ρ0 ρ : Sto) : unwipe ρ0 ρ [] = ρ := Eq.trans rfl rfl
@[simp] theorem x_unwipe1 (ρ0 ρ : Sto) (v : Nat) (vs : List Nat) : unwipe ρ0 ρ (v :: vs) = (match ρ0[v]? with
    | some (some ⟨0, d⟩) => (unwipe ρ0 ρ vs).set v (some ⟨0, d⟩)
    | _ => unwipe ρ0 ρ vs) := Eq.trans rfl rfl
@[simp] theorem x_outsOf (np : Nat) (pr : List Nat) (ρ : Sto) : outsOf np pr ρ = ((List.range np).map fun i => if i ∈ pr then (ρ[i]?).getD none else none) := Eq.trans rfl rfl
@[simp] theorem x_lvl (kk : Nat) (r : R) : lvl kk r = (if kk = 0 then (r.fr || r.k == 0) else (r.fr && r.k == kk)) := Eq.trans rfl rfl
@[simp] theorem x_fApp (ds : List D) (r : R) : fApp ds r = (if ds.length < lim then some (.none, ds ++ [r.d]) else none) := Eq.trans rfl rfl
@[simp] theorem x_fExt (ds es : List D) (fr : Bool) (k : Nat) : fExt ds ⟨fr, k, .list es⟩ = (if ds.length + es.length ≤ lim then some (.none, ds ++ es) else none) := Eq.trans rfl rfl
@[simp] theorem x_fLenL (k : Nat) (ds : List D) : fLen k (.list ds) = some (0, .int (ds.length : Int)) := Eq.trans rfl rfl
@[simp] theorem x_fLenT (k : Nat) (ds : List D) : fLen k (.tuple ds) = some (0, .int (ds.length : Int)) := Eq.trans rfl rfl
@[simp] theorem x_fLenS (k : Nat) (ds : List D) : fLen k (.dict [(.none, .list ds)]) = some (0, .int (ds.length : Int)) := Eq.trans rfl rfl
@[simp] theorem x_fAddI (ka kb : Nat) (i j : Int) : fAdd ka (.int i) kb (.int j) = (if ka = 0 ∧ kb = 0 then some (0, .int (i + j)) else none) := Eq.trans rfl rfl
@[simp] theorem x_fAddL (ka kb : Nat) (xs ys : List D) : fAdd ka (.list xs) kb (.list ys) = (if ka ≤ 1 ∧ kb ≤ 1 ∧ xs.length + ys.length ≤ lim then some (1, .list (xs ++ ys)) else none) := Eq.trans rfl rfl
@[simp] theorem x_fSub (ka kb : Nat) (i j : Int) : fSub ka (.int i) kb (.int j) = (if ka = 0 ∧ kb = 0 then some (0, .int (i - j)) else none) := Eq.trans rfl rfl
@[simp] theorem x_fMulI (ka kb : Nat) (i j : Int) : fMul ka (.int i) kb (.int j) = (if ka = 0 ∧ kb = 0 ∧ CMul i j then some (0, .int (i * j)) else none) := Eq.trans rfl rfl
@[simp] theorem x_fDiv (ka kb : Nat) (i j : Int) : fDiv ka (.int i) kb (.int j) = (if ka = 0 ∧ kb = 0 ∧ CDiv i j then some (0, .int (i / j)) else none) := Eq.trans rfl rfl
@[simp] theorem x_fMod (ka kb : Nat) (i j : Int) : fMod ka (.int i) kb (.int j) = (if ka = 0 ∧ kb = 0 ∧ 0 < j then some (0, .int (i % j)) else none) := Eq.trans rfl rfl
@[simp] theorem x_fPow (ka kb : Nat) (i j : Int) : fPow ka (.int i) kb (.int j) = (if ka = 0 ∧ kb = 0 ∧ CPow i j then some (0, .int (i ^ j.toNat)) else none) := Eq.trans rfl rfl
@[simp] theorem x_fLt (ka kb : Nat) (i j : Int) : fLt ka (.int i) kb (.int j) = (if ka = 0 ∧ kb = 0 then some (0, .bool (decide (i < j))) else none) := Eq.trans rfl rfl
@[simp] theorem x_fLe (ka kb : Nat) (i j : Int) : fLe ka (.int i) kb (.int j) = (if ka = 0 ∧ kb = 0 then some (0, .bool (decide (i ≤ j))) else none) := Eq.trans rfl rfl
@[simp] theorem x_fGt (ka kb : Nat) (i j : Int) : fGt ka (.int i) kb (.int j) = (if ka = 0 ∧ kb = 0 then some (0, .bool (decide (j < i))) else none) := Eq.trans rfl rfl
@[simp] theorem x_fGe (ka kb : Nat) (i j : Int) : fGe ka (.int i) kb (.int j) = (if ka = 0 ∧ kb = 0 then some (0, .bool (decide (j ≤ i))) else none) := Eq.trans rfl rfl
@[simp] theorem x_fMin2 (ka kb : Nat) (i j : Int) : fMin2 ka (.int i) kb (.int j) = (if ka = 0 ∧ kb = 0 then some (0, .int (if j < i then j else i)) else none) := Eq.trans rfl rfl
@[simp] theorem x_fMax2 (ka kb : Nat) (i j : Int) : fMax2 ka (.int i) kb (.int j) = (if ka = 0 ∧ kb = 0 then some (0, .int (if j > i then j else i)) else none) := Eq.trans rfl rfl
@[simp] theorem x_fDivmod (ka kb : Nat) (i j : Int) : fDivmod ka (.int i) kb (.int j) = (if ka = 0 ∧ kb = 0 ∧ CDiv i j then some (0, .tuple [.int (i / j), .int (i % j)]) else none) := Eq.trans rfl rfl
@[simp] theorem x_fIs (ng : Bool) (ka : Nat) (da : D) : fIs ng ka da 0 .none = some (0, .bool (if ng then !isNoneD da else isNoneD da)) := Eq.trans rfl rfl
@[simp] theorem x_isNoneI (i : Int) : isNoneD (.int i) = false := Eq.trans rfl rfl
@[simp] theorem x_isNoneN : isNoneD .none = true := Eq.trans rfl rfl
@[simp] theorem x_isNoneL (l : List D) : isNoneD (.list l) = false := Eq.trans rfl rfl
@[simp] theorem x_fIsiI (Ts : List String) (k : Nat) (i : Int) : fIsi Ts k (.int i) = some (0, .bool (Ts.any fun T => isBT "int" T)) := Eq.trans rfl rfl
@[simp] theorem x_fIsiL (Ts : List String) (k : Nat) (l : List D) : fIsi Ts k (.list l) = some (0, .bool (Ts.any fun T => isBT "list" T)) := Eq.trans rfl rfl
@[simp] theorem x_fIsiT (Ts : List String) (k : Nat) (l : List D) : fIsi Ts k (.tuple l) = some (0, .bool (Ts.any fun T => isBT "tuple" T)) := Eq.trans rfl rfl
@[simp] theorem x_fIntI (i : Int) : fInt 0 (.int i) = some (0, .int i) := Eq.trans rfl rfl
@[simp] theorem x_fAbsI (i : Int) : fAbs 0 (.int i) = some (0, .int (if i < 0 then -i else i)) := Eq.trans rfl rfl
@[simp] theorem x_fNegI (i : Int) : fNeg 0 (.int i) = some (0, .int (-i)) := Eq.trans rfl rfl
@[simp] theorem x_itemL (k : Nat) (ds : List D) (j : Int) : itemOf k (.list ds) j = (match atI ds j with
    | some x => some (k - 1, x)
    | none => none) := Eq.trans rfl rfl
@[simp] theorem x_itemT (ds : List D) (j : Int) : itemOf 0 (.tuple ds) j = (match atI ds j with
    | some x => some (0, x)
    | none => none) := Eq.trans rfl rfl
@[simp] theorem x_itemS (ds : List D) (j : Int) : itemOf 0 (.dict [(.none, .list ds)]) j = (match atI ds j with
    | some x => some (0, x)
    | none => none) := Eq.trans rfl rfl
@[simp] theorem x_eqI (ka kb : Nat) (a b : Int) : fEq ka (.int a) kb (.int b) = some (0, .bool (decide (a = b))) := fEq_int
@[simp] theorem x_neI (ka kb : Nat) (a b : Int) : fNe ka (.int a) kb (.int b) = some (0, .bool (!decide (a = b))) := fNe_int
@[simp] theorem x_rng1 : List.range 1 = [0] := Eq.trans rfl rfl
@[simp] theorem x_rng2 : List.range 2 = [0, 1] := Eq.trans rfl rfl
@[simp] theorem x_rng3 : List.range 3 = [0, 1, 2] := Eq.trans rfl rfl
@[simp] theorem x_rng4 : List.range 4 = [0, 1, 2, 3] := Eq.trans rfl rfl
@[simp] theorem x_rng5 : List.range 5 = [0, 1, 2, 3, 4] := Eq.trans rfl rfl
@[simp] theorem x_lim : lim = 1000000 := Eq.trans rfl rfl
@[simp] theorem x_bt1 : isBT "int" "int" = true := by decide
@[simp] theorem x_bt2 : isBT "int" "bool" = false := by decide
@[simp] theorem x_bt3 : isBT "list" "list" = true := by decide
@[simp] theorem x_bt4 : isBT "tuple" "tuple" = true := by decide
@[simp] theorem x_bt5 : isBT "tuple" "list" = false := by decide

end Lk

set_option Elab.async false
set_option linter.all false
set_option maxRecDepth 100000
/-! SpB: going through a graph by a pile; numbers below n. -/
namespace Lk
open PySem L2 PySem.Spec
theorem nodup_le : ∀ {n : Nat} {l : List Nat}, l.Nodup → (∀ x ∈ l, x < n) → l.length ≤ n
  | 0, l, _, h => by
    cases l with
    | nil => simp
    | cons x l => exact absurd (h x List.mem_cons_self) (by omega)
  | n + 1, l, nd, h => by
    have h1 : (l.erase n).Nodup := nd.erase n
    have h2 : ∀ x ∈ l.erase n, x < n := fun x hx => by
      have := (List.Nodup.mem_erase_iff nd).mp hx
      have := h x this.2
      omega
    have := nodup_le h1 h2
    by_cases hm : n ∈ l
    · rw [List.length_erase_of_mem hm] at this; omega
    · rw [List.erase_of_not_mem hm] at this; omega
theorem nodup_sub : ∀ {k l : List Nat}, k.Nodup → l.Nodup → (∀ x ∈ k, x ∈ l) → k.length ≤ l.length
  | [], _, _, _, _ => by simp
  | x :: k, l, c, nd, h => by
    have hx := h x List.mem_cons_self
    obtain ⟨c1, c2⟩ := List.nodup_cons.mp c
    have := nodup_sub (l := l.erase x) c2 (nd.erase x) fun y hy => (List.Nodup.mem_erase_iff nd).mpr ⟨fun e => c1 (e ▸ hy), h y (List.mem_cons_of_mem _ hy)⟩
    rw [List.length_erase_of_mem hx] at this
    have : 0 < l.length := List.length_pos_of_mem hx
    rw [List.length_cons]; omega
theorem nodup_all {n : Nat} {l : List Nat} (nd : l.Nodup) (h : ∀ x ∈ l, x ≤ n) (a : ∀ x, x ≤ n → x ∈ l) : l.length = n + 1 := by
  have h1 := nodup_le nd (n := n + 1) fun x hx => Nat.lt_succ_of_le (h x hx)
  have h2 := nodup_sub List.nodup_range nd (k := List.range (n + 1)) fun x hx => a x (by simp at hx; omega)
  rw [List.length_range] at h2
  omega

theorem dfs {n y : Nat} {S : List Nat → List Nat → Option B → Sto} {row : Nat → List Nat} {ok : Nat → Bool} {t : M Bool} {mi : M (List D)} {b : D → Sto → Option Sto} {c : M Fl} {fuel : Nat} {x0 : Option B} (hf : 2 * (n + 2) < fuel) (hy : y ≤ n)
    (hr : ∀ a, a ≤ n → ∀ p ∈ row a, p ≤ n)
    (ht : ∀ met wait x, t (S met wait x) = some (!decide (wait = []), S met wait x))
    (hi : ∀ met wait a x, a ≤ n → mi (S met (wait ++ [a]) x) = some ((row a).map dI, S met wait x))
    (hb : ∀ p met wait x, b (dI p) (S met wait x) = some (S met wait (some ⟨0, dI p⟩)))
    (hc : ∀ p met wait, p ≤ n → met.length ≤ n + 1 → wait.length ≤ 2 * (n + 2) → c (S met wait (some ⟨0, dI p⟩)) = some (.nx, if p ∉ met ∧ ok p = true then S (met ++ [p]) (wait ++ [p]) (some ⟨0, dI p⟩) else S met wait (some ⟨0, dI p⟩))) :
    Wp (mWhile fuel t (mFor mi b c) (S [y] [y] x0)) fun fl ρ => fl = .nx ∧ ∃ met x, ρ = S met [] x ∧ met.Nodup ∧ (∀ p ∈ met, p ≤ n) ∧ y ∈ met ∧ (∀ a ∈ met, ∀ p ∈ row a, ok p = true → p ∈ met) ∧
      ∀ C : Nat → Prop, C y → (∀ a p, C a → p ∈ row a → ok p = true → C p) → ∀ p ∈ met, C p := by
  let Inv : List Nat → List Nat → (Nat → Prop) → Prop := fun met wait ex => met.Nodup ∧ (∀ p ∈ met, p ≤ n) ∧ y ∈ met ∧ (∀ p ∈ wait, p ∈ met) ∧ (∀ a ∈ met, a ∉ wait → ex a ∨ ∀ p ∈ row a, ok p = true → p ∈ met) ∧
    ∀ C : Nat → Prop, C y → (∀ a p, C a → p ∈ row a → ok p = true → C p) → ∀ p ∈ met, C p
  refine wp_while (fun k ρ => ∃ met wait x, ρ = S met wait x ∧ Inv met wait (fun _ => False) ∧ 2 * (n + 1 - met.length) + wait.length ≤ k ∧ k ≤ 2 * (n + 2)) ?_ (2 * (n + 1 - 1) + 1) fuel _ ⟨[y], [y], x0, rfl, ⟨by simp, by simpa using hy, by simp, by simp, by simp, fun C h1 h2 p hp => by
    rw [List.mem_singleton] at hp; rw [hp]; exact h1⟩, by simp, by omega⟩ (by omega)
  rintro k ρ ⟨met, wait, x, rfl, ⟨i1, i2, i3, i4, i5, i6⟩, hk, hk2⟩
  rw [ht]
  by_cases hw : wait = []
  · subst hw
    simp only [wp_some, decide_true, Bool.not_true, Bool.false_eq_true, if_false]
    exact ⟨trivial, met, x, rfl, i1, i2, i3, fun a ha p hp ho => (i5 a ha (by simp)).elim False.elim fun h => h p hp ho, i6⟩
  · obtain ⟨w, a, rfl⟩ : ∃ w a, wait = w ++ [a] := ⟨wait.dropLast, wait.getLast hw, (List.dropLast_concat_getLast hw).symm⟩
    simp only [wp_some, hw, decide_false, Bool.not_false, if_true]
    have ha : a ∈ met := i4 a (by simp)
    have an := i2 a ha
    rw [List.length_append, List.length_singleton] at hk
    refine (wp_for (Q := fun fl ρ2 => fl = .nx ∧ ∃ met' wait' x', ρ2 = S met' wait' x' ∧ Inv met' wait' (fun _ => False) ∧ 2 * (n + 1 - met'.length) + wait'.length + 1 ≤ k) ((row a).map dI) (fun i ρ => ∃ met' wait' x', ρ = S met' wait' x' ∧ Inv met' wait' (fun z => z = a) ∧ (∀ p ∈ (row a).take i, ok p = true → p ∈ met') ∧ 2 * (n + 1 - met'.length) + wait'.length + 1 ≤ k) ?_ ?_ ?_).mono ?_
    · rw [hi _ _ _ _ an]
      simp only [wp_some, true_and]
      refine ⟨met, w, x, rfl, ⟨i1, i2, i3, fun p hp => i4 p (List.mem_append_left _ hp), fun z hz hzw => ?_, i6⟩, by simp, by omega⟩
      by_cases e : z = a
      · exact .inl e
      · rcases i5 z hz (by simp [hzw, e]) with h | h
        · exact h.elim
        · exact .inr h
    · rintro i d ρ hd ⟨met', wait', x', rfl, ⟨j1, j2, j3, j4, j5, j6⟩, jt, jm⟩
      obtain ⟨p, hp, rfl⟩ : ∃ p, (row a)[i]? = some p ∧ d = dI p := by
        rw [List.getElem?_map] at hd
        cases e : (row a)[i]? with
        | none => rw [e] at hd; cases hd
        | some p => rw [e] at hd; cases hd; exact ⟨p, rfl, rfl⟩
      have pm : p ∈ row a := List.mem_of_getElem? hp
      have pn := hr a an p pm
      have ml : met'.length ≤ n + 1 := nodup_le j1 fun z hz => Nat.lt_succ_of_le (j2 z hz)
      refine ⟨_, hb _ _ _ _, ?_⟩
      rw [hc p met' wait' pn ml (by omega)]
      simp only [wp_some]
      have tk : (row a).take (i + 1) = (row a).take i ++ [p] := by rw [List.take_succ, hp]; rfl
      by_cases hq : p ∉ met' ∧ ok p = true
      · rw [if_pos hq]
        have nd2 : (met' ++ [p]).Nodup := List.nodup_append.mpr ⟨j1, by simp, fun z hz u hu e => by
          rw [List.mem_singleton] at hu; subst hu; subst e; exact hq.1 hz⟩
        have ml2 : (met' ++ [p]).length ≤ n + 1 := nodup_le nd2 fun z hz => by
          rcases List.mem_append.mp hz with h | h
          · exact Nat.lt_succ_of_le (j2 z h)
          · rw [List.mem_singleton] at h; omega
        rw [List.length_append, List.length_singleton] at ml2
        refine ⟨met' ++ [p], wait' ++ [p], _, rfl, ⟨nd2, fun z hz => ?_, List.mem_append_left _ j3, fun z hz => ?_, fun z hz hzw => ?_, fun C c1 c2 z hz => ?_⟩, fun z hz ho => ?_, ?_⟩
        · rcases List.mem_append.mp hz with h | h
          · exact j2 z h
          · rw [List.mem_singleton] at h; omega
        · rcases List.mem_append.mp hz with h | h
          · exact List.mem_append_left _ (j4 z h)
          · exact List.mem_append_right _ h
        · rcases List.mem_append.mp hz with h | h
          · rcases j5 z h (fun q => hzw (List.mem_append_left _ q)) with h | h
            · exact .inl h
            · exact .inr fun u hu ho => List.mem_append_left _ (h u hu ho)
          · exact absurd (List.mem_append_right _ h) hzw
        · rcases List.mem_append.mp hz with h | h
          · exact j6 C c1 c2 z h
          · rw [List.mem_singleton] at h; subst h
            exact c2 a z (i6 C c1 c2 a ha) pm hq.2
        · rw [tk] at hz
          rcases List.mem_append.mp hz with h | h
          · exact List.mem_append_left _ (jt z h ho)
          · exact List.mem_append_right _ h
        · rw [List.length_append, List.length_append, List.length_singleton]; omega
      · rw [if_neg hq]
        refine ⟨met', wait', _, rfl, ⟨j1, j2, j3, j4, j5, j6⟩, fun z hz ho => ?_, jm⟩
        rw [tk] at hz
        rcases List.mem_append.mp hz with h | h
        · exact jt z h ho
        · rw [List.mem_singleton] at h; subst h
          exact Classical.byContradiction fun hn => hq ⟨hn, ho⟩
    · rintro ρ ⟨met', wait', x', rfl, ⟨j1, j2, j3, j4, j5, j6⟩, jt, jm⟩
      refine ⟨rfl, met', wait', x', rfl, ⟨j1, j2, j3, j4, fun z hz hzw => .inr ?_, j6⟩, jm⟩
      rcases j5 z hz hzw with h | h
      · subst h
        intro p hp ho
        exact jt p (by rw [List.length_map, List.take_length]; exact hp) ho
      · exact h
    · rintro fl ρ2 ⟨rfl, met', wait', x', rfl, hI, hm⟩
      exact ⟨k - 1, by omega, met', wait', x', rfl, hI, by omega, by omega⟩
theorem appIx_eq {i : Nat} {mj me : M R} {ρ ρ2 : Sto} {rows : List (List Nat)} {a x : Nat} {f : Bool} {r : R} (h0 : ρ[i]? = some (some ⟨2, dLL rows⟩)) (hj : mj ρ = some (⟨f, 0, dI a⟩, ρ)) (ha : a < rows.length) (he : me ρ = some (r, ρ2)) (hr : (r.fr || r.k == 0) = true) (hx : r.d = dI x) (h2 : ρ2[i]? = some (some ⟨2, dLL rows⟩)) (hl : rows[a].length < lim) :
    mAppIx2 i mj me ρ = some (⟨false, 0, .none⟩, ρ2.set i (some ⟨2, dLL (rows.set a (rows[a] ++ [x]))⟩)) := by
  have e1 : atI (rows.map dL) (a : Int) = some (dL rows[a]) := atI_map ha
  have e2 : (rows.map dL)[a]? = some (dL rows[a]) := by simp [ha]
  unfold mAppIx2
  simp only [h0]
  unfold mAppIx3
  simp only [hj, h0, e1, he, hr, h2, if_true]
  rw [List.length_map, ixN_nat ha]
  simp only [e2, List.length_map, hl, if_true, hx]
  have : (rows.map dL).set a (.list (rows[a].map dI ++ [dI x])) = (rows.set a (rows[a] ++ [x])).map dL := by
    rw [List.map_set]
    show _ = (rows.map dL).set a (.list ((rows[a] ++ [x]).map dI))
    rw [List.map_append]
    rfl
  rw [this]
def nb (L : List (Nat × Nat)) (p : Nat) : List Nat := L.flatMap fun e => (if e.1 = p then [e.2] else []) ++ (if e.2 = p then [e.1] else [])
theorem nb_snoc (L : List (Nat × Nat)) (e : Nat × Nat) (p : Nat) : nb (L ++ [e]) p = nb L p ++ ((if e.1 = p then [e.2] else []) ++ (if e.2 = p then [e.1] else [])) := by
  unfold nb
  rw [List.flatMap_append]
  simp
theorem nb_len (L : List (Nat × Nat)) (p : Nat) : (nb L p).length ≤ 2 * L.length := by
  induction L with
  | nil => simp [nb]
  | cons e L ih =>
    unfold nb at *
    rw [List.flatMap_cons, List.length_append, List.length_cons, List.length_append]
    have h1 : (if e.1 = p then [e.2] else []).length ≤ 1 := by split <;> simp
    have h2 : (if e.2 = p then [e.1] else []).length ≤ 1 := by split <;> simp
    omega
theorem mem_nb {L : List (Nat × Nat)} {p q : Nat} : q ∈ nb L p ↔ (p, q) ∈ L ∨ (q, p) ∈ L := by
  unfold nb
  rw [List.mem_flatMap]
  constructor
  · rintro ⟨⟨a, b⟩, he, h⟩
    rcases List.mem_append.mp h with h' | h'
    · by_cases e : a = p
      · simp [e] at h'; subst h'; rw [e] at he; exact .inl he
      · simp [e] at h'
    · by_cases e : b = p
      · simp [e] at h'; subst h'; rw [e] at he; exact .inr he
      · simp [e] at h'
  · rintro (h | h)
    · exact ⟨_, h, by simp⟩
    · exact ⟨_, h, by simp⟩
theorem nb_perm {L M : List (Nat × Nat)} (h : L.Perm M) (p : Nat) : (nb L p).Perm (nb M p) := List.Perm.flatMap_right _ h
/-- one lane more -/
theorem rows_step {n a b : Nat} (L : List (Nat × Nat)) (ha : a ≤ n) (hb : b ≤ n) (hab : a ≠ b) :
    ((((List.range (n + 1)).map fun p => nb L p).set a (nb L a ++ [b])).set b (nb L b ++ [a])) = (List.range (n + 1)).map fun p => nb (L ++ [(a, b)]) p := by
  apply List.ext_getElem
  · simp
  · intro i h1 h2
    simp at h1
    rw [List.getElem_set, List.getElem_set]
    simp only [List.getElem_map, List.getElem_range, nb_snoc]
    by_cases e1 : b = i
    · subst e1; simp [hab]
    · by_cases e2 : a = i
      · subst e2; simp [e1]
      · simp [e1, e2]
end Lk

set_option Elab.async false
set_option linter.all false
set_option maxRecDepth 100000
/-! SpC: pairs sorted, compared. -/
namespace Lk
open PySem L2 PySem.Spec
theorem leP_iff (a b : Nat × Nat) : leP a b = decide (a.1 < b.1 ∨ (a.1 = b.1 ∧ a.2 ≤ b.2)) := by
  have h := congrFun (congrFun (PySem.W.dataLe_ii (fun p : Nat × Nat => (p.1 : Int)) (fun p : Nat × Nat => (p.2 : Int))) a) b
  have h2 : leP a b = decide ((a.1 : Int) < (b.1 : Int) ∨ ((a.1 : Int) = (b.1 : Int) ∧ (a.2 : Int) ≤ (b.2 : Int))) := h
  rw [h2]
  congr 1
  simp only [eq_iff_iff]
  omega
theorem sortP_sorted (l : List (Nat × Nat)) : (sortP l).Pairwise fun a b => a.1 < b.1 ∨ (a.1 = b.1 ∧ a.2 ≤ b.2) := by
  have := List.pairwise_mergeSort (le := leP) (fun a b c h1 h2 => by
    rw [leP_iff, decide_eq_true_iff] at *
    omega) (fun a b => by
    rw [leP_iff, leP_iff, Bool.or_eq_true, decide_eq_true_iff, decide_eq_true_iff]
    omega) l
  exact this.imp fun h => by
    rw [leP_iff, decide_eq_true_iff] at h
    exact h
theorem sortedP_eq : ∀ {l m : List (Nat × Nat)}, l.Pairwise (fun a b => a.1 < b.1 ∨ (a.1 = b.1 ∧ a.2 ≤ b.2)) → m.Pairwise (fun a b => a.1 < b.1 ∨ (a.1 = b.1 ∧ a.2 ≤ b.2)) → l.Perm m → l = m
  | [], m, _, _, p => p.nil_eq
  | a :: l, [], _, _, p => absurd p.length_eq (by simp)
  | a :: l, b :: m, hl, hm, p => by
    have ha : a ∈ b :: m := p.mem_iff.mp List.mem_cons_self
    have hb : b ∈ a :: l := p.mem_iff.mpr List.mem_cons_self
    have h1 : a = b := by
      rcases List.mem_cons.mp ha with e | ha
      · exact e
      · rcases List.mem_cons.mp hb with e | hb
        · exact e.symm
        · have h1 := (List.pairwise_cons.mp hl).1 b hb
          have h2 := (List.pairwise_cons.mp hm).1 a ha
          exact Prod.ext (by omega) (by omega)
    subst h1
    rw [sortedP_eq (List.pairwise_cons.mp hl).2 (List.pairwise_cons.mp hm).2 (List.Perm.cons_inv p)]
theorem sortP_eq {l m : List (Nat × Nat)} (p : l.Perm m) : sortP l = sortP m := sortedP_eq (sortP_sorted l) (sortP_sorted m) ((sortP_perm l).trans (p.trans (sortP_perm m).symm))
theorem sortP_id {l : List (Nat × Nat)} (hl : l.Pairwise (fun a b => a.1 < b.1 ∨ (a.1 = b.1 ∧ a.2 ≤ b.2))) : sortP l = l := sortedP_eq (sortP_sorted l) hl (sortP_perm l)
theorem sortP_sortP (l : List (Nat × Nat)) : sortP (sortP l) = sortP l := sortP_id (sortP_sorted l)
theorem eqvAll_dP (l m : List (Nat × Nat)) : PyData.eqvAll (l.map dP) (m.map dP) = decide (l = m) := by
  induction l generalizing m with
  | nil => cases m <;> simp [PyData.eqvAll]
  | cons a l ih =>
    cases m with
    | nil => simp [PyData.eqvAll]
    | cons b m =>
      have : ∀ x y : Nat, (((x : Int) == (y : Int)) : Bool) = decide (x = y) := fun x y => by rw [Bool.eq_iff_iff, beq_iff_eq, decide_eq_true_iff]; omega
      simp only [List.map_cons, PyData.eqvAll, PyData.eqv, this, ih, Bool.and_true]
      rw [Bool.eq_iff_iff]
      simp only [Bool.and_eq_true, decide_eq_true_eq, List.cons.injEq, Prod.ext_iff]
theorem eqv_dPs (l m : List (Nat × Nat)) : PyData.eqv (dPs l) (dPs m) = decide (l = m) := by simp only [PyData.eqv, eqvAll_dP]
end Lk

set_option Elab.async false
set_option linter.all false
set_option maxRecDepth 100000
/-! SpD: things of small numbers, told as texts. -/
namespace Lk
open PySem L2 PySem.Spec
theorem log_lt' {a : Nat} (ha : a ≤ 1000) : a.log2 < 10 := by
  by_cases h0 : a = 0
  · subst h0; decide
  · rw [Nat.log2_lt h0]; omega
/-- n deep, of weight w at most, of small numbers -/
structure Shw (n w : Nat) (d : D) : Prop where
  wt : d.weight ≤ w
  lay : d.canLay0 = true
  sh : d.intsShort 13 = true
  sw : d.showable = true
  pl : pln d = true
  dp : d.depth ≤ n
  fr : ∀ c, 1114112 ≤ c → c ∉ d.shown.cps.toList
structure ShwA (n w : Nat) (ds : List D) : Prop where
  wt : PyData.weightAll ds ≤ (w + 1) * ds.length
  lay : PyData.canLayAll0 ds = true
  sh : PyData.intsShortAll 13 ds = true
  sw : PyData.showableAll ds = true
  pl : plnA ds = true
  dp : PyData.depthAll ds ≤ n
theorem shw_all {n w : Nat} : ∀ {ds : List D}, (∀ d ∈ ds, Shw n w d) → ShwA n w ds
  | [], _ => ⟨by simp [PyData.weightAll], by simp [PyData.canLayAll0], by simp [PyData.intsShortAll], by simp [PyData.showableAll], by simp [plnA], by simp [PyData.depthAll]⟩
  | d :: ds, h => by
    have i := shw_all fun x hx => h x (List.mem_cons_of_mem _ hx)
    have a := h d List.mem_cons_self
    refine ⟨?_, ?_, ?_, ?_, ?_, ?_⟩
    · rw [PyData.weightAll, List.length_cons, Nat.mul_succ]
      have := i.wt
      have := a.wt
      omega
    · rw [PyData.canLayAll0, a.lay, i.lay]; rfl
    · rw [PyData.intsShortAll, a.sh, i.sh]; rfl
    · rw [PyData.showableAll, a.sw, i.sw]; rfl
    · rw [plnA, a.pl, i.pl]; rfl
    · rw [PyData.depthAll]
      have := i.dp
      have := a.dp
      omega
theorem shw_int {x : Nat} (h : x ≤ 1000) : Shw 0 11 (dI x) := by
  have l := log_lt' h
  refine ⟨?_, by rw [PyData.canLay0], ?_, ?_, by rw [pln] <;> simp, by simp [PyData.depth], fun c hc => PyProof.Rows.shown_int_free' (by omega) _⟩
  · simp only [PyData.weight]
    split
    · omega
    · simp only [Int.natAbs_natCast]; omega
  · have := PyData.shown_int_le (i := (x : Int)) (by omega)
    simp [PyData.intsShort, this]
  · have : x.log2 < 1920 := by omega
    simp [PyData.showable, this]
theorem shw_list {n w : Nat} {ds : List D} (h : ∀ d ∈ ds, Shw n w d) : Shw (n + 1) ((w + 1) * ds.length) (.list ds) := by
  have i := shw_all h
  refine ⟨by rw [PyData.weight]; exact i.wt, by rw [PyData.canLay0]; exact i.lay, by rw [PyData.intsShort]; exact i.sh, by rw [PyData.showable]; exact i.sw, by rw [pln]; exact i.pl, by rw [PyData.depth]; exact Nat.succ_le_succ i.dp, fun c hc => ?_⟩
  rw [PyData.shown_list, PyProof.Rows.mem_cps_append, PyProof.Rows.mem_cps_append, PyProof.Rows.signs_lbrack, PyProof.Rows.signs_rbrack, PyProof.Rows.mem_join]
  rintro ((hm | (⟨t, ht, h2⟩ | ⟨_, hm⟩)) | hm)
  · simp at hm; omega
  · exact PyProof.Rows.shownAll_free (k := c) (xs := ds) (fun x hx => (h x hx).fr c hc) t ht h2
  · rw [PyProof.Rows.signs_sep] at hm
    simp at hm; omega
  · simp at hm; omega
theorem shw_tuple {n w : Nat} {ds : List D} (h : ∀ d ∈ ds, Shw n w d) : Shw (n + 1) ((w + 1) * ds.length) (.tuple ds) := by
  have i := shw_all h
  refine ⟨by rw [PyData.weight]; exact i.wt, by rw [PyData.canLay0]; exact i.lay, by rw [PyData.intsShort]; exact i.sh, by rw [PyData.showable]; exact i.sw, by rw [pln]; exact i.pl, by rw [PyData.depth]; exact Nat.succ_le_succ i.dp, fun c hc => ?_⟩
  rw [PyData.shown_tuple, PyProof.Rows.mem_cps_append, PyProof.Rows.mem_cps_append, PyProof.Rows.signs_lparen, PyProof.Rows.signs_tuple_end, PyProof.Rows.mem_join]
  rintro ((hm | (⟨t, ht, h2⟩ | ⟨_, hm⟩)) | hm)
  · simp at hm; omega
  · exact PyProof.Rows.shownAll_free (k := c) (xs := ds) (fun x hx => (h x hx).fr c hc) t ht h2
  · rw [PyProof.Rows.signs_sep] at hm
    simp at hm; omega
  · split at hm
    · simp at hm; omega
    · simp at hm; omega
theorem Shw.mono {n w n' w' : Nat} {d : D} (h : Shw n w d) (hn : n ≤ n') (hw : w ≤ w') : Shw n' w' d := ⟨Nat.le_trans h.wt hw, h.lay, h.sh, h.sw, h.pl, Nat.le_trans h.dp hn, h.fr⟩
theorem shw_repr {n w k : Nat} {d : D} (h : Shw n w d) (hn : n ≤ 64) (hw : 15 * w + 13 ≤ 1000000) : fRepr k d = some (0, .str d.shown) := by
  have sh := PyData.shown_le 13 (by decide) d (PyData.leavesShort_of_canLay0 13 _ h.lay h.sh)
  have l2 : d.shown.length ≤ lim := by
    show _ ≤ 1000000
    have := h.wt
    have : (13 + 2) * d.weight ≤ 15 * w := Nat.mul_le_mul (Nat.le_refl _) h.wt
    omega
  have dp : d.depth ≤ 64 := Nat.le_trans h.dp hn
  unfold fRepr
  rw [h.pl, h.sw, decide_eq_true dp, decide_eq_true l2]
  rfl
theorem Shw.ok {n w : Nat} {d : D} (h : Shw n w d) : eqOk (.str d.shown) = true := by
  have so : PyData.strOk d.shown = true := by
    unfold PyData.strOk
    rw [Array.all_eq_true]
    intro i hi
    rw [decide_eq_true_iff]
    refine Classical.byContradiction fun hc => h.fr d.shown.cps[i] (by omega) ?_
    simp
  simp [eqOk, pln, SeqAt.shaped, PyData.canLay0, PyData.depth, so]
theorem shw_ne {n w ka kb : Nat} {d : D} (h : Shw n w d) : fNe ka (.str d.shown) kb (.str d.shown) = some (0, .bool false) := by
  simp only [fNe, h.ok, Bool.and_self, if_true]
  simp [PyData.eqv]
theorem shw_dL {l : List Nat} (h : ∀ x ∈ l, x ≤ 1000) : Shw 1 (12 * l.length) (dL l) := by
  have := shw_list (n := 0) (w := 11) (ds := l.map dI) fun d hd => by
    obtain ⟨x, hx, rfl⟩ := List.mem_map.mp hd
    exact shw_int (h x hx)
  rwa [List.length_map] at this
theorem shw_dP {p : Nat × Nat} (h : p.1 ≤ 1000 ∧ p.2 ≤ 1000) : Shw 1 24 (dP p) := shw_tuple (n := 0) (w := 11) (ds := [dI p.1, dI p.2]) fun d hd => by
  rcases List.mem_cons.mp hd with rfl | hd
  · exact shw_int h.1
  · rw [List.mem_singleton.mp hd]; exact shw_int h.2
theorem shw_dPs {l : List (Nat × Nat)} (h : ∀ p ∈ l, p.1 ≤ 1000 ∧ p.2 ≤ 1000) : Shw 2 (25 * l.length) (dPs l) := by
  have := shw_list (n := 1) (w := 24) (ds := l.map dP) fun d hd => by
    obtain ⟨x, hx, rfl⟩ := List.mem_map.mp hd
    exact shw_dP (h x hx)
  rwa [List.length_map] at this
theorem shw_dLL {l : List (List Nat)} {k : Nat} (h : ∀ r ∈ l, r.length ≤ k ∧ ∀ x ∈ r, x ≤ 1000) : Shw 2 ((12 * k + 1) * l.length) (dLL l) := by
  have := shw_list (n := 1) (w := 12 * k) (ds := l.map dL) fun d hd => by
    obtain ⟨x, hx, rfl⟩ := List.mem_map.mp hd
    exact (shw_dL (h x hx).2).mono (Nat.le_refl _) (Nat.mul_le_mul (Nat.le_refl _) (h x hx).1)
  rwa [List.length_map] at this
end Lk

set_option Elab.async false
set_option linter.all false
set_option maxRecDepth 100000
/-! LkZ: mirrors, one step each, as lemmas. -/
namespace Lk
open PySem L2 PySem.Spec
section
variable {ρ ρ1 ρ2 : Sto}
theorem un1 {f : Nat → D → Option (Nat × D)} {m : M R} {r : R} {k : Nat} {d : D} (h : m ρ = some (r, ρ1)) (hf : f r.k r.d = some (k, d)) : mUn f m ρ = some (⟨true, k, d⟩, ρ1) := by
  unfold mUn
  simp only [h, hf]
theorem bin1 {f : Op2} {ma mb : M R} {ra rb : R} {k : Nat} {d : D} (ha : ma ρ = some (ra, ρ1)) (hb : mb ρ1 = some (rb, ρ2)) (hf : f ra.k ra.d rb.k rb.d = some (k, d)) : mBin f ma mb ρ = some (⟨true, k, d⟩, ρ2) := by
  unfold mBin
  simp only [ha, hb, hf]
theorem b1 {m : M R} {fr b : Bool} (h : m ρ = some (⟨fr, 0, .bool b⟩, ρ1)) : mB m ρ = some (b, ρ1) := by
  simp [mB, h]
theorem not1 {m : M Bool} {b : Bool} (h : m ρ = some (b, ρ1)) : mNotT m ρ = some (!b, ρ1) := by
  unfold mNotT
  rw [h]
theorem or_f {ma mb : M Bool} {b : Bool} (ha : ma ρ = some (false, ρ1)) (hb : mb ρ1 = some (b, ρ2)) : mOrT ma mb ρ = some (b, ρ2) := by
  unfold mOrT
  rw [ha]
  exact hb
theorem or_t {ma mb : M Bool} (ha : ma ρ = some (true, ρ1)) : mOrT ma mb ρ = some (true, ρ1) := by
  unfold mOrT
  rw [ha]
theorem and_t {ma mb : M Bool} {b : Bool} (ha : ma ρ = some (true, ρ1)) (hb : mb ρ1 = some (b, ρ2)) : mAndT ma mb ρ = some (b, ρ2) := by
  unfold mAndT
  rw [ha]
  exact hb
theorem and_f {ma mb : M Bool} (ha : ma ρ = some (false, ρ1)) : mAndT ma mb ρ = some (false, ρ1) := by
  unfold mAndT
  rw [ha]
theorem andV_t {ma mb : M R} {fr : Bool} {r : R} (ha : ma ρ = some (⟨fr, 0, .bool true⟩, ρ1)) (hb : mb ρ1 = some (r, ρ2)) : mAndV ma mb ρ = some (r, ρ2) := by
  unfold mAndV
  rw [ha]
  exact hb
theorem andV_f {ma mb : M R} {fr : Bool} (ha : ma ρ = some (⟨fr, 0, .bool false⟩, ρ1)) : mAndV ma mb ρ = some (⟨false, 0, .bool false⟩, ρ1) := by
  simp [mAndV, ha]
theorem v1 {i k : Nat} {d : D} (h : ρ[i]? = some (some ⟨k, d⟩)) : mV i ρ = some (⟨false, k, d⟩, ρ) := by
  unfold mV
  rw [h]
theorem t0 {i : Nat} {d : D} (h : ρ[i]? = some (some ⟨0, d⟩)) : mT i ρ = some (⟨false, 0, d⟩, ρ) := by
  have e : ρ.set i (some ⟨0, d⟩) = ρ := by
    apply List.ext_getElem?
    intro j
    by_cases hj : i = j
    · subst hj
      rw [List.getElem?_set_self (List.getElem?_eq_some_iff.mp h).1, h]
    · rw [List.getElem?_set_ne hj]
  simp [h, e]
theorem c1 (d : D) : mC d ρ = some (⟨false, 0, d⟩, ρ) := by rfl
theorem iq1 {m : M R} {r : R} {ds : List D} (h : m ρ = some (r, ρ1)) (hr : (r.fr || r.k == 0) = true) (hd : r.d = .list ds ∨ r.d = .tuple ds) : mIq m ρ = some (ds, ρ1) := by
  unfold mIq
  simp only [h, hr, if_true]
  rcases hd with h | h <;> rw [h]
theorem f1 {m : M R} {ms : M (List D)} {r : R} {ds : List D} (h : m ρ = some (r, ρ1)) (hr : (r.fr || r.k == 0) = true) (hs : ms ρ1 = some (ds, ρ2)) : mF1 m ms ρ = some (r.d :: ds, ρ2) := by
  unfold mF1
  simp only [h, hr, if_true, hs]
theorem g1 {m : M R} {ms : M (List Arg)} {r : R} {as : List Arg} (h : m ρ = some (r, ρ1)) (hr : (r.fr || r.k == 0) = true) (hs : ms ρ1 = some (as, ρ2)) : mG1 m ms ρ = some (.v r.d :: as, ρ2) := by
  unfold mG1
  simp only [h, hr, if_true, hs]
theorem g0 : mG0 ρ = some ([], ρ) := rfl
theorem f0 : mF0 ρ = some ([], ρ) := rfl
theorem ix1 {ma mb : M R} {ra : R} {fr : Bool} {j : Int} {k : Nat} {d : D} (ha : ma ρ = some (ra, ρ1)) (hb : mb ρ1 = some (⟨fr, 0, .int j⟩, ρ2)) (hf : itemOf ra.k ra.d j = some (k, d)) (hk : (ra.fr || k == 0) = true) : ∃ fr, mIx ma mb ρ = some (⟨fr, k, d⟩, ρ2) := by
  unfold mIx
  simp only [ha, hb, hf]
  exact ⟨_, rfl⟩
end
end Lk

set_option Elab.async false
set_option linter.all false
set_option maxRecDepth 100000
namespace K11
open PySem L2 PySem.Spec Lk
def topS (i : Nat) : Stmt := PySem.Challenge.pw_lanekeepers_k11_whole_countries_told.main.body.getD i (.Pass ⟨0, 0, 0, 0⟩)
abbrev s__law_draw : Stmt := topS 25
abbrev s__law_pick : Stmt := topS 26
abbrev s__law_drawn : Stmt := topS 27
abbrev s__law_told_otherwise : Stmt := topS 31
abbrev s__law_beside : Stmt := topS 28
abbrev s__law_gates : Stmt := topS 30
abbrev s__law_yards : Stmt := topS 29
abbrev s__law_other : Stmt := topS 32
abbrev s_ties_of : Stmt := topS 13
abbrev s_is_list : Stmt := topS 8
abbrev s_is_integer : Stmt := topS 6
abbrev s_is_count : Stmt := topS 7
abbrev s_lane_in : Stmt := topS 12
abbrev s_is_whole : Stmt := topS 14
abbrev s_lanes_in : Stmt := topS 16
abbrev s_ahead_of : Stmt := topS 15
abbrev s_Country_init : Stmt := inClass (topS 17) 0
abbrev s_Country_lanes : Stmt := inClass (topS 17) 1
abbrev s_Country_yards : Stmt := inClass (topS 17) 2
abbrev s_Country_gates : Stmt := inClass (topS 17) 3
abbrev s_Country_neighbours : Stmt := inClass (topS 17) 4
abbrev s_Country_eq : Stmt := inClass (topS 17) 5
abbrev s_gates_in : Stmt := topS 18
abbrev s_gate_pairs : Stmt := topS 21
abbrev s_want_country : Stmt := topS 19
abbrev s_all_ways : Stmt := topS 22
abbrev s__law_right : Stmt := topS 33
abbrev s__law_pot : Stmt := topS 24
abbrev s_law : Stmt := topS 34
structure Cl_Country (K : PySem.W.Frag) (C : Addr) : Prop where
  cl : Cls K C
  isi : ClsI K C
  a_own_ahead : NoAttr K C "own_ahead"
  a_own_lanes : NoAttr K C "own_lanes"
  a_own_ties : NoAttr K C "own_ties"
  p_lanes : ∃ p f fd, PropOf K C "lanes" p f ∧ Fun K "lanes" "Country.lanes" s_Country_lanes f fd
  p_yards : ∃ p f fd, PropOf K C "yards" p f ∧ Fun K "yards" "Country.yards" s_Country_yards f fd
  p_gates : ∃ p f fd, PropOf K C "gates" p f ∧ Fun K "gates" "Country.gates" s_Country_gates f fd
  m_neighbours : ∃ f fd, Meth K C "neighbours" f ∧ Fun K "neighbours" "Country.neighbours" s_Country_neighbours f fd
  eq : ∃ f fd, PySem.W.findIn K (.ref C) "__eq__" = some (some (.ref f)) ∧ PySem.W.isFn K (.ref f) = true ∧ PySem.W.findIn K (.ref C) "__ne__" = some (some (.builtin "object.__ne__")) ∧ Fun K "__eq__" "Country.__eq__" s_Country_eq f fd
  ty : PySem.W.typeIn K (.ref C) = some (.type "type")
  made : ∃ f fd, Mk K C f ∧ Fun K "__init__" "Country.__init__" s_Country_init f fd
structure Txt (K : PySem.W.Frag) (mg : Str → Option Value) : Prop where
  n_abs : mg "abs" = none
  n_all : mg "all" = none
  n_any : mg "any" = none
  n_bool : mg "bool" = none
  n_divmod : mg "divmod" = none
  n_enumerate : mg "enumerate" = none
  n_int : mg "int" = none
  n_isinstance : mg "isinstance" = none
  n_len : mg "len" = none
  n_list : mg "list" = none
  n_max : mg "max" = none
  n_min : mg "min" = none
  n_range : mg "range" = none
  n_repr : mg "repr" = none
  n_set : mg "set" = none
  n_sorted : mg "sorted" = none
  n_tuple : mg "tuple" = none
  g_MOST_LANES : ∃ t, mg "MOST_LANES" = some (.int 4 t)
  g_MOST_YARDS : ∃ t, mg "MOST_YARDS" = some (.int 7 t)
  C_Country : ∃ C, mg "Country" = some (.ref C) ∧ Cl_Country K C
  F__law_draw : ∃ f fd, Fun K "_law_draw" "_law_draw" s__law_draw f fd ∧ mg "_law_draw" = some (.ref f)
  F__law_pick : ∃ f fd, Fun K "_law_pick" "_law_pick" s__law_pick f fd ∧ mg "_law_pick" = some (.ref f)
  F__law_drawn : ∃ f fd, Fun K "_law_drawn" "_law_drawn" s__law_drawn f fd ∧ mg "_law_drawn" = some (.ref f)
  F__law_told_otherwise : ∃ f fd, Fun K "_law_told_otherwise" "_law_told_otherwise" s__law_told_otherwise f fd ∧ mg "_law_told_otherwise" = some (.ref f)
  F__law_beside : ∃ f fd, Fun K "_law_beside" "_law_beside" s__law_beside f fd ∧ mg "_law_beside" = some (.ref f)
  F__law_gates : ∃ f fd, Fun K "_law_gates" "_law_gates" s__law_gates f fd ∧ mg "_law_gates" = some (.ref f)
  F__law_yards : ∃ f fd, Fun K "_law_yards" "_law_yards" s__law_yards f fd ∧ mg "_law_yards" = some (.ref f)
  F__law_other : ∃ f fd, Fun K "_law_other" "_law_other" s__law_other f fd ∧ mg "_law_other" = some (.ref f)
  F_ties_of : ∃ f fd, Fun K "ties_of" "ties_of" s_ties_of f fd ∧ mg "ties_of" = some (.ref f)
  F_is_list : ∃ f fd, Fun K "is_list" "is_list" s_is_list f fd ∧ mg "is_list" = some (.ref f)
  F_is_integer : ∃ f fd, Fun K "is_integer" "is_integer" s_is_integer f fd ∧ mg "is_integer" = some (.ref f)
  F_is_count : ∃ f fd, Fun K "is_count" "is_count" s_is_count f fd ∧ mg "is_count" = some (.ref f)
  F_lane_in : ∃ f fd, Fun K "lane_in" "lane_in" s_lane_in f fd ∧ mg "lane_in" = some (.ref f)
  F_is_whole : ∃ f fd, Fun K "is_whole" "is_whole" s_is_whole f fd ∧ mg "is_whole" = some (.ref f)
  F_lanes_in : ∃ f fd, Fun K "lanes_in" "lanes_in" s_lanes_in f fd ∧ mg "lanes_in" = some (.ref f)
  F_ahead_of : ∃ f fd, Fun K "ahead_of" "ahead_of" s_ahead_of f fd ∧ mg "ahead_of" = some (.ref f)
  F_gates_in : ∃ f fd, Fun K "gates_in" "gates_in" s_gates_in f fd ∧ mg "gates_in" = some (.ref f)
  F_gate_pairs : ∃ f fd, Fun K "gate_pairs" "gate_pairs" s_gate_pairs f fd ∧ mg "gate_pairs" = some (.ref f)
  F_want_country : ∃ f fd, Fun K "want_country" "want_country" s_want_country f fd ∧ mg "want_country" = some (.ref f)
  F_all_ways : ∃ f fd, Fun K "all_ways" "all_ways" s_all_ways f fd ∧ mg "all_ways" = some (.ref f)
  F__law_right : ∃ f fd, Fun K "_law_right" "_law_right" s__law_right f fd ∧ mg "_law_right" = some (.ref f)
  F__law_pot : ∃ f fd, Fun K "_law_pot" "_law_pot" s__law_pot f fd ∧ mg "_law_pot" = some (.ref f)
  F_law : ∃ f fd, Fun K "law" "law" s_law f fd ∧ mg "law" = some (.ref f)
theorem ix_Country {K : PySem.W.Frag} {mg : Str → Option Value} (T : Txt K mg) : IsiX K mg "Country" [] := by
  obtain ⟨C, hC, TC⟩ := T.C_Country
  exact ⟨C, hC, TC.isi, TC.ty, fun c hc => absurd hc (by simp)⟩
def fuel : Nat := 10 ^ 40
section
variable {P : Program} {w : World} {K : PySem.W.Frag} {mg : Str → Option Value} {base : Heap}
/-! _law_draw(_law_pot_here, _law_many): 0 _law_pot_here, 1 _law_many, 2 _law_digit -/
theorem sc__law_draw : FnScope ["_law_pot_here", "_law_many", "_law_digit"] ["_law_pot_here", "_law_many"] (defScope s__law_draw) := ⟨rfl, rfl, rfl, by decide +kernel, rfl, by decide +kernel, by decide +kernel⟩
theorem bp__law_draw : BindP "_law_draw" "_law_draw" s__law_draw ["_law_pot_here", "_law_many"] := fun _ _ _ _ _ _ us hl => match us, hl with | [_, _], _ => rfl
def m__law_draw : Fn := fnM 3 2 [0, 1] (mSeq (mCond (mB (mBin fGt (mIx (mV 0) (mC (.int 0))) (mC (.int 0)))) (mSeq (mAsg (bT 2 (bs1 (bIx 0 (mC (.int 0))) (bs1 (bN 2) bs0))) (mBinS fDivmod (mIx (mV 0) (mC (.int 0))) (mV 1))) (mRet (mM 2))) mNx) (mSeq (mAsg (bIx 0 (mC (.int 1))) (mBin fMod (mUn fInt (mBin fAdd (mBin fMul (mIx (mV 0) (mC (.int 1))) (mC (.int 40014))) (mC (.int 9011)))) (mC (.int 2147483587)))) (mRet (mBin fMod (mUn fInt (mBin fDiv (mBin fMod (mUn fInt (mBin fMul (mIx (mV 0) (mC (.int 1))) (mIx (mV 0) (mC (.int 1))))) (mC (.int 2147483563))) (mC (.int 31)))) (mV 1)))))
theorem fx__law_draw (T : Txt K mg) : FnX P w K mg base 1 "_law_draw" "_law_draw" s__law_draw ["_law_pot_here", "_law_many"] m__law_draw := by
  obtain ⟨f, fd, Fd, hm⟩ := T.F__law_draw
  refine ⟨f, fd, fnG_of Fd sc__law_draw (pr := [0, 1]) fun f cdv A outer s H X hX room guards => ?_, Fd, hm⟩
  subst hX
  exact dss_cons (ds_if (dt_cmp op_gt os_gt (de_ix (de_var (i := 0) rfl (.inl rfl)) de_int) de_int) (dss_cons (ds_asgm (tm_tup rfl (tms_cons (tm_ix (i := 0) rfl (.inl rfl) de_int) (tms_cons (tm_of (tg_name (i := 2) sc__law_draw.nd rfl (.inl rfl) (show 2 ∉ [0, 1] from by decide +kernel))) tms_nil))) (de_fn2 call_divmod cs_divmod T.n_divmod bt_divmod (de_ix (de_var (i := 0) rfl (.inl rfl)) de_int) (de_var (i := 1) rfl (.inl rfl)))) (dss_one (ds_ret (de_move (i := 2) rfl (.inl rfl))))) dss_nil) (dss_cons (ds_asgm (tm_ix (i := 0) rfl (.inl rfl) de_int) (de_bin op_mod os_mod (de_ty1 call_int1 cs_int T.n_int bt_int (de_bin op_addD os_add (de_bin op_mulD os_mul (de_ix (de_var (i := 0) rfl (.inl rfl)) de_int) de_int) de_int)) de_int)) (dss_one (ds_ret (de_bin op_mod os_mod (de_ty1 call_int1 cs_int T.n_int bt_int (de_bin op_fdiv os_div (de_bin op_mod os_mod (de_ty1 call_int1 cs_int T.n_int bt_int (de_bin op_mulD os_mul (de_ix (de_var (i := 0) rfl (.inl rfl)) de_int) (de_ix (de_var (i := 0) rfl (.inl rfl)) de_int))) de_int) de_int)) (de_var (i := 1) rfl (.inl rfl))))))
/-! _law_pick(_law_pot_here, _law_some): 0 _law_pot_here, 1 _law_some -/
theorem sc__law_pick : FnScope ["_law_pot_here", "_law_some"] ["_law_pot_here", "_law_some"] (defScope s__law_pick) := ⟨rfl, rfl, rfl, by decide +kernel, rfl, by decide +kernel, by decide +kernel⟩
theorem bp__law_pick : BindP "_law_pick" "_law_pick" s__law_pick ["_law_pot_here", "_law_some"] := fun _ _ _ _ _ _ us hl => match us, hl with | [_, _], _ => rfl
def m__law_pick : Fn := fnM 2 2 [0, 1] (mRet (mIxS (mV 1) (mCallR 2 m__law_draw (mGr 0 (mG1 (mUn fLen (mV 1)) mG0)))))
theorem fx__law_pick (T : Txt K mg) : FnX P w K mg base 2 "_law_pick" "_law_pick" s__law_pick ["_law_pot_here", "_law_some"] m__law_pick := by
  obtain ⟨f, fd, Fd, hm⟩ := T.F__law_pick
  refine ⟨f, fd, fnG_of Fd sc__law_pick (pr := [0, 1]) fun f cdv A outer s H X hX room guards => ?_, Fd, hm⟩
  subst hX
  exact dss_one (ds_ret (de_ixS ((de_var (i := 1) rfl (.inl rfl)).low) (de_callR (fx__law_draw T) (by decide) room guards bp__law_draw (dg_r (i := 0) rfl (.inl rfl) (dg_v ((de_fn1 Lk.call_lenD cs_len T.n_len bt_len (de_var (i := 1) rfl (.inl rfl))).low) dg_nil)))))
/-! _law_drawn(_law_pot_here, _law_most): 0 _law_pot_here, 1 _law_most, 2 _law_ties, 3 _law_lanes, 4 _law_yard, 5 _law_some, 6 _law_other_here, 7 _law_many, 8 _law_place, 9 _law_lacking, 10 _law_turn, 11 _law_left, 12 _law_places, 13 _law_at, 14 _law_one -/
theorem sc__law_drawn : FnScope ["_law_pot_here", "_law_most", "_law_ties", "_law_lanes", "_law_yard", "_law_some", "_law_other_here", "_law_many", "_law_place", "_law_lacking", "_law_turn", "_law_left", "_law_places", "_law_at", "_law_one"] ["_law_pot_here", "_law_most"] (defScope s__law_drawn) := ⟨rfl, rfl, rfl, by decide +kernel, rfl, by decide +kernel, by decide +kernel⟩
theorem bp__law_drawn : BindP "_law_drawn" "_law_drawn" s__law_drawn ["_law_pot_here", "_law_most"] := fun _ _ _ _ _ _ us hl => match us, hl with | [_, _], _ => rfl
def m__law_drawn : Fn := fnM 15 2 [0, 1] (mSeq (mPar 2 3 (mLst1 (mLst mF0)) (mLst mF0)) (mSeq (mFor (mR2 (mC (.int 1)) (mBinS fAdd (mC (.int 1)) (mCallR 2 m__law_draw (mGr 0 (mG1 (mT 1) mG0))))) (bN 4) (mSeq (mSet 5 (mLc 0 [13] (mR1 (mV 4)) (bN 13) (mB (mBin fLt (mUn fLen (mIx (mV 2) (mV 13))) (mC (.int 4)))) (mT 13))) (mSeq (mSet 6 (mCallR 2 m__law_pick (mGr 0 (mG1 (mT 5) mG0)))) (mSeq (mDrop (mApp2 2 (mLst (mF1 (mT 6) mF0)))) (mSeq (mDrop (mAppIx2 2 (mV 6) (mT 4))) (mDrop (mMet 3 fApp (mTup (mF1 (mT 6) (mF1 (mT 4) mF0)))))))))) (mSeq (mPar 7 8 (mUn fLen (mV 2)) (mUn fLen (mV 2))) (mSeq (mFor (mR1 (mV 7)) (bN 4) (mSeq (mSet 9 (mBinS fMax2 (mBin fSub (mC (.int 2)) (mUn fLen (mIx (mV 2) (mV 4)))) (mC (.int 0)))) (mSeq (mSet 9 (mBinS fAdd (mV 9) (mIf (mAndT (mB (mBin fEq (mCallR 2 m__law_draw (mGr 0 (mG1 (mC (.int 3)) mG0))) (mC (.int 0)))) (mB (mBin fLt (mBin fAdd (mUn fLen (mIx (mV 2) (mV 4))) (mV 9)) (mC (.int 4))))) (mC (.int 1)) (mC (.int 0))))) (mFor (mR1 (mV 9)) (bN 10) (mSeq (mDrop (mMet 3 fApp (mTup (mF1 (mT 4) (mF1 (mT 8) mF0))))) (mSet 8 (mBin fAdd (mV 8) (mC (.int 1))))))))) (mSeq (mPar 11 12 (mLr1 (mV 8)) (mLst mF0)) (mSeq (mWhile fuel (mB (mBin fNe (mV 11) (mLst mF0))) (mDrop (mMet 12 fApp (mMet 11 fPopAt (mCallR 2 m__law_draw (mGr 0 (mG1 (mUn fLen (mV 11)) mG0))))))) (mRet (mLc 0 [14, 6] (mIq (mT 3)) (bT 2 (bs1 (bN 14) (bs1 (bN 6) bs0))) mYes (mTup (mF1 (mIx (mV 12) (mV 14)) (mF1 (mIx (mV 12) (mV 6)) mF0)))))))))))
theorem fx__law_drawn (T : Txt K mg) : FnX P w K mg base 3 "_law_drawn" "_law_drawn" s__law_drawn ["_law_pot_here", "_law_most"] m__law_drawn := by
  obtain ⟨f, fd, Fd, hm⟩ := T.F__law_drawn
  refine ⟨f, fd, fnG_of Fd sc__law_drawn (pr := [0, 1]) fun f cdv A outer s H X hX room guards => ?_, Fd, hm⟩
  subst hX
  exact dss_cons (ds_parT (i := 2) (j := 3) rfl sc__law_drawn.nd rfl rfl (by decide) (.inr rfl) (.inl rfl) (by decide +kernel) (by decide +kernel) (de_list1 (de_list (df_nil (μ := true)))) (de_list (df_nil (μ := true)))) (dss_cons (ds_for PassesOwn.never rfl (di_range2 T.n_range (de_int.low) (de_binS op_addD os_add (de_int.low) (de_callR (fx__law_draw T) (by decide) room guards bp__law_draw (dg_r (i := 0) rfl (.inl rfl) (dg_v ((de_take (i := 1) rfl (.inl rfl)).low) dg_nil))))) (tg_name (i := 4) sc__law_drawn.nd rfl (.inl rfl) (show 4 ∉ [0, 1] from by decide +kernel)) (dss_cons (ds_setLc (i := 5) (own := [("_law_at", 13)]) 0 rfl sc__law_drawn.nd rfl rfl (by decide +kernel) rfl (di_range1 T.n_range (de_var (i := 4) rfl (.inl rfl))) (blkOk_by (by rfl)) (by decide +kernel) (fun _ _ _ _ _ => tg_name (i := 13) sc__law_drawn.nd rfl (.inl rfl) (show 13 ∉ (oth 15 [13]) from by decide +kernel)) (fun _ _ _ _ _ => dts_one (dt_cmp op_lt os_lt (de_fn1 Lk.call_lenD cs_len T.n_len bt_len (de_ix (de_var (i := 2) rfl (.inr (.inl rfl))) (de_var (i := 13) rfl (.inl rfl)))) de_int)) (fun _ _ _ _ _ => de_take (i := 13) rfl (.inl rfl))) (dss_cons (ds_set (i := 6) sc__law_drawn.nd rfl (.inl rfl) (by decide +kernel) (de_callR (fx__law_pick T) (by decide) room guards bp__law_pick (dg_r (i := 0) rfl (.inl rfl) (dg_v ((de_take (i := 5) rfl (.inl rfl)).low) dg_nil)))) (dss_cons (ds_expr (de_append2 (i := 2) rfl (.inr (.inl rfl)) (de_list (df_cons (de_take (i := 6) rfl (.inl rfl)) (df_nil (μ := true)))))) (dss_cons (ds_expr (de_appIx (i := 2) rfl (.inr (.inl rfl)) (de_var (i := 6) rfl (.inl rfl)) (de_take (i := 4) rfl (.inl rfl)))) (dss_one (ds_expr (de_append (i := 3) rfl (.inl rfl) (de_tup (df_cons (de_take (i := 6) rfl (.inl rfl)) (df_cons (de_take (i := 4) rfl (.inl rfl)) (df_nil (μ := true))))))))))))) (dss_cons (ds_par (i := 7) (j := 8) rfl sc__law_drawn.nd rfl rfl (by decide) rfl rfl (by decide +kernel) (by decide +kernel) (de_fn1 Lk.call_lenD cs_len T.n_len bt_len (de_var (i := 2) rfl (.inr (.inl rfl)))) (de_fn1 Lk.call_lenD cs_len T.n_len bt_len (de_var (i := 2) rfl (.inr (.inl rfl))))) (dss_cons (ds_for PassesOwn.never rfl (di_range1 T.n_range (de_var (i := 7) rfl (.inl rfl))) (tg_name (i := 4) sc__law_drawn.nd rfl (.inl rfl) (show 4 ∉ [0, 1] from by decide +kernel)) (dss_cons (ds_set (i := 9) sc__law_drawn.nd rfl (.inl rfl) (by decide +kernel) (de_fn2 (call_max2 rfl) cs_max2 T.n_max bt_max (de_bin op_sub os_sub de_int (de_fn1 Lk.call_lenD cs_len T.n_len bt_len (de_ix (de_var (i := 2) rfl (.inr (.inl rfl))) (de_var (i := 4) rfl (.inl rfl))))) de_int)) (dss_cons (ds_set (i := 9) sc__law_drawn.nd rfl (.inl rfl) (by decide +kernel) (de_binS op_addD os_add ((de_var (i := 9) rfl (.inl rfl)).low) (de_if (dt_bool (dw_and (dt_cmp (op_eqD (hu64 room)) os_eq (de_callR (fx__law_draw T) (by decide) room guards bp__law_draw (dg_r (i := 0) rfl (.inl rfl) (dg_v (de_int.low) dg_nil))) de_int) (dw_and1 ((dt_cmp op_lt os_lt (de_bin op_addD os_add (de_fn1 Lk.call_lenD cs_len T.n_len bt_len (de_ix (de_var (i := 2) rfl (.inr (.inl rfl))) (de_var (i := 4) rfl (.inl rfl)))) (de_var (i := 9) rfl (.inl rfl))) de_int).low)))) (de_int.low) (de_int.low)))) (dss_one (ds_for PassesOwn.never rfl (di_range1 T.n_range (de_var (i := 9) rfl (.inl rfl))) (tg_name (i := 10) sc__law_drawn.nd rfl (.inl rfl) (show 10 ∉ [0, 1] from by decide +kernel)) (dss_cons (ds_expr (de_append (i := 3) rfl (.inl rfl) (de_tup (df_cons (de_take (i := 4) rfl (.inl rfl)) (df_cons (de_take (i := 8) rfl (.inl rfl)) (df_nil (μ := true))))))) (dss_one (ds_set (i := 8) sc__law_drawn.nd rfl (.inl rfl) (by decide +kernel) (de_bin op_addD os_add (de_var (i := 8) rfl (.inl rfl)) de_int))))))))) (dss_cons (ds_parT (i := 11) (j := 12) rfl sc__law_drawn.nd rfl rfl (by decide) (.inl rfl) (.inr rfl) (by decide +kernel) (by decide +kernel) (de_listRg1 rfl T.n_list T.n_range (de_var (i := 8) rfl (.inl rfl))) (de_list (df_nil (μ := true)))) (dss_cons (ds_while fuel PassesOwn.never (dt_cmp (op_neD (hu64 room)) os_ne (de_var (i := 11) rfl (.inl rfl)) (de_list (df_nil (μ := true)))) (dss_one (ds_expr (de_append (i := 12) rfl (.inr (.inl rfl)) (de_popAt (i := 11) rfl (.inl rfl) (de_callR (fx__law_draw T) (by decide) room guards bp__law_draw (dg_r (i := 0) rfl (.inl rfl) (dg_v ((de_fn1 Lk.call_lenD cs_len T.n_len bt_len (de_var (i := 11) rfl (.inl rfl))).low) dg_nil)))))))) (dss_one (ds_ret (de_lc (own := [("_law_one", 14), ("_law_other_here", 6)]) 0 rfl sc__law_drawn.nd (di_seq (de_take (i := 3) rfl (.inl rfl))) (blkOk_by (by rfl)) (by decide +kernel) (fun _ _ _ _ _ => tg_tup rfl (tgs_cons (tg_name (i := 14) sc__law_drawn.nd rfl (.inl rfl) (show 14 ∉ (oth 15 [14, 6]) from by decide +kernel)) (tgs_cons (tg_name (i := 6) sc__law_drawn.nd rfl (.inl rfl) (show 6 ∉ (oth 15 [14, 6]) from by decide +kernel)) tgs_nil))) (fun _ _ _ _ _ => (dts_nil (μ := true))) (fun _ _ _ _ _ => de_tup (df_cons (de_ix (de_var (i := 12) rfl (.inr (.inl rfl))) (de_var (i := 14) rfl (.inl rfl))) (df_cons (de_ix (de_var (i := 12) rfl (.inr (.inl rfl))) (de_var (i := 6) rfl (.inl rfl))) (df_nil (μ := true)))))))))))))
/-! _law_told_otherwise(_law_pot_here, _law_lanes): 0 _law_pot_here, 1 _law_lanes, 2 _law_left, 3 _law_found, 4 _law_one, 5 _law_other_here, 6 _law_way -/
theorem sc__law_told_otherwise : FnScope ["_law_pot_here", "_law_lanes", "_law_left", "_law_found", "_law_one", "_law_other_here", "_law_way"] ["_law_pot_here", "_law_lanes"] (defScope s__law_told_otherwise) := ⟨rfl, rfl, rfl, by decide +kernel, rfl, by decide +kernel, by decide +kernel⟩
theorem bp__law_told_otherwise : BindP "_law_told_otherwise" "_law_told_otherwise" s__law_told_otherwise ["_law_pot_here", "_law_lanes"] := fun _ _ _ _ _ _ us hl => match us, hl with | [_, _], _ => rfl
def m__law_told_otherwise : Fn := fnM 7 2 [0, 1] (mSeq (mPar 2 3 (mUn fList (mV 1)) (mLst mF0)) (mSeq (mWhile fuel (mB (mBin fNe (mV 2) (mLst mF0))) (mSeq (mAsg (bT 2 (bs1 (bN 4) (bs1 (bN 5) bs0))) (mMet 2 fPopAt (mCallR 2 m__law_draw (mGr 0 (mG1 (mUn fLen (mV 2)) mG0))))) (mSeq (mSet 6 (mCallR 2 m__law_draw (mGr 0 (mG1 (mC (.int 3)) mG0)))) (mDrop (mMet 3 fApp (mIf (mB (mBin fEq (mV 6) (mC (.int 0)))) (mTup (mF1 (mT 4) (mF1 (mT 5) mF0))) (mIf (mB (mBin fEq (mV 6) (mC (.int 1)))) (mLst (mF1 (mT 5) (mF1 (mT 4) mF0))) (mTup (mF1 (mT 5) (mF1 (mT 4) mF0)))))))))) (mRet (mIf (mB (mBin fEq (mCallR 2 m__law_draw (mGr 0 (mG1 (mC (.int 2)) mG0))) (mC (.int 0)))) (mUn fTupOf (mV 3)) (mM 3)))))
theorem fx__law_told_otherwise (T : Txt K mg) : FnX P w K mg base 2 "_law_told_otherwise" "_law_told_otherwise" s__law_told_otherwise ["_law_pot_here", "_law_lanes"] m__law_told_otherwise := by
  obtain ⟨f, fd, Fd, hm⟩ := T.F__law_told_otherwise
  refine ⟨f, fd, fnG_of Fd sc__law_told_otherwise (pr := [0, 1]) fun f cdv A outer s H X hX room guards => ?_, Fd, hm⟩
  subst hX
  exact dss_cons (ds_par (i := 2) (j := 3) rfl sc__law_told_otherwise.nd rfl rfl (by decide) rfl rfl (by decide +kernel) (by decide +kernel) (de_ty1 call_list_of cs_list T.n_list bt_list (de_var (i := 1) rfl (.inl rfl))) (de_list (df_nil (μ := true)))) (dss_cons (ds_while fuel PassesOwn.never (dt_cmp (op_neD (hu64 room)) os_ne (de_var (i := 2) rfl (.inl rfl)) (de_list (df_nil (μ := true)))) (dss_cons (ds_asg (tg_tup rfl (tgs_cons (tg_name (i := 4) sc__law_told_otherwise.nd rfl (.inl rfl) (show 4 ∉ [0, 1] from by decide +kernel)) (tgs_cons (tg_name (i := 5) sc__law_told_otherwise.nd rfl (.inl rfl) (show 5 ∉ [0, 1] from by decide +kernel)) tgs_nil))) (de_popAt (i := 2) rfl (.inl rfl) (de_callR (fx__law_draw T) (by decide) room guards bp__law_draw (dg_r (i := 0) rfl (.inl rfl) (dg_v ((de_fn1 Lk.call_lenD cs_len T.n_len bt_len (de_var (i := 2) rfl (.inl rfl))).low) dg_nil))))) (dss_cons (ds_set (i := 6) sc__law_told_otherwise.nd rfl (.inl rfl) (by decide +kernel) (de_callR (fx__law_draw T) (by decide) room guards bp__law_draw (dg_r (i := 0) rfl (.inl rfl) (dg_v (de_int.low) dg_nil)))) (dss_one (ds_expr (de_append (i := 3) rfl (.inl rfl) (de_if (dt_cmp (op_eqD (hu64 room)) os_eq (de_var (i := 6) rfl (.inl rfl)) de_int) (de_tup (df_cons (de_take (i := 4) rfl (.inl rfl)) (df_cons (de_take (i := 5) rfl (.inl rfl)) (df_nil (μ := true))))) (de_if (dt_cmp (op_eqD (hu64 room)) os_eq (de_var (i := 6) rfl (.inl rfl)) de_int) (de_list (df_cons (de_take (i := 5) rfl (.inl rfl)) (df_cons (de_take (i := 4) rfl (.inl rfl)) (df_nil (μ := true))))) (de_tup (df_cons (de_take (i := 5) rfl (.inl rfl)) (df_cons (de_take (i := 4) rfl (.inl rfl)) (df_nil (μ := true))))))))))))) (dss_one (ds_ret (de_if (dt_cmp (op_eqD (hu64 room)) os_eq (de_callR (fx__law_draw T) (by decide) room guards bp__law_draw (dg_r (i := 0) rfl (.inl rfl) (dg_v (de_int.low) dg_nil))) de_int) ((de_ty1 call_tuple_of cs_tuple T.n_tuple bt_tuple (de_var (i := 3) rfl (.inl rfl))).low) ((de_move (i := 3) rfl (.inl rfl)).low)))))
/-! _law_beside(_law_lanes, _law_place): 0 _law_lanes, 1 _law_place, 2 _law_found, 3 _law_one, 4 _law_other_here -/
theorem sc__law_beside : FnScope ["_law_lanes", "_law_place", "_law_found", "_law_one", "_law_other_here"] ["_law_lanes", "_law_place"] (defScope s__law_beside) := ⟨rfl, rfl, rfl, by decide +kernel, rfl, by decide +kernel, by decide +kernel⟩
theorem bp__law_beside : BindP "_law_beside" "_law_beside" s__law_beside ["_law_lanes", "_law_place"] := fun _ _ _ _ _ _ us hl => match us, hl with | [_, _], _ => rfl
def m__law_beside : Fn := fnM 5 2 [0, 1] (mSeq (mSet 2 (mLc 0 [3, 4] (mIq (mT 0)) (bT 2 (bs1 (bN 3) (bs1 (bN 4) bs0))) (mB (mBin fEq (mV 3) (mV 1))) (mT 4))) (mRet (mUn fSorted (mBin fAdd (mV 2) (mLc 0 [3, 4] (mIq (mT 0)) (bT 2 (bs1 (bN 3) (bs1 (bN 4) bs0))) (mB (mBin fEq (mV 4) (mV 1))) (mT 3))))))
theorem fx__law_beside (T : Txt K mg) : FnX P w K mg base 1 "_law_beside" "_law_beside" s__law_beside ["_law_lanes", "_law_place"] m__law_beside := by
  obtain ⟨f, fd, Fd, hm⟩ := T.F__law_beside
  refine ⟨f, fd, fnG_of Fd sc__law_beside (pr := [0, 1]) fun f cdv A outer s H X hX room guards => ?_, Fd, hm⟩
  subst hX
  exact dss_cons (ds_setLc (i := 2) (own := [("_law_one", 3), ("_law_other_here", 4)]) 0 rfl sc__law_beside.nd rfl rfl (by decide +kernel) rfl (di_seq (de_take (i := 0) rfl (.inl rfl))) (blkOk_by (by rfl)) (by decide +kernel) (fun _ _ _ _ _ => tg_tup rfl (tgs_cons (tg_name (i := 3) sc__law_beside.nd rfl (.inl rfl) (show 3 ∉ (oth 5 [3, 4]) from by decide +kernel)) (tgs_cons (tg_name (i := 4) sc__law_beside.nd rfl (.inl rfl) (show 4 ∉ (oth 5 [3, 4]) from by decide +kernel)) tgs_nil))) (fun _ _ _ _ _ => dts_one (dt_cmp (op_eqD (hu64 room)) os_eq (de_var (i := 3) rfl (.inl rfl)) (de_var (i := 1) rfl (.inr (.inl rfl))))) (fun _ _ _ _ _ => de_take (i := 4) rfl (.inl rfl))) (dss_one (ds_ret (de_fn1 (call_sortedD (hu100 room)) cs_sorted T.n_sorted bt_sorted (de_bin op_addD os_add (de_var (i := 2) rfl (.inl rfl)) (de_lc (own := [("_law_one", 3), ("_law_other_here", 4)]) 0 rfl sc__law_beside.nd (di_seq (de_take (i := 0) rfl (.inl rfl))) (blkOk_by (by rfl)) (by decide +kernel) (fun _ _ _ _ _ => tg_tup rfl (tgs_cons (tg_name (i := 3) sc__law_beside.nd rfl (.inl rfl) (show 3 ∉ (oth 5 [3, 4]) from by decide +kernel)) (tgs_cons (tg_name (i := 4) sc__law_beside.nd rfl (.inl rfl) (show 4 ∉ (oth 5 [3, 4]) from by decide +kernel)) tgs_nil))) (fun _ _ _ _ _ => dts_one (dt_cmp (op_eqD (hu64 room)) os_eq (de_var (i := 4) rfl (.inl rfl)) (de_var (i := 1) rfl (.inr (.inl rfl))))) (fun _ _ _ _ _ => de_take (i := 3) rfl (.inl rfl)))))))
/-! _law_gates(_law_lanes): 0 _law_lanes, 1 _law_place -/
theorem sc__law_gates : FnScope ["_law_lanes", "_law_place"] ["_law_lanes"] (defScope s__law_gates) := ⟨rfl, rfl, rfl, by decide +kernel, rfl, by decide +kernel, by decide +kernel⟩
theorem bp__law_gates : BindP "_law_gates" "_law_gates" s__law_gates ["_law_lanes"] := fun _ _ _ _ _ _ us hl => match us, hl with | [_], _ => rfl
def m__law_gates : Fn := fnM 2 1 [0] (mRet (mLc 0 [1] (mR1 (mBin fAdd (mUn fLen (mV 0)) (mC (.int 1)))) (bN 1) (mB (mBin fEq (mUn fLen (mCall 2 m__law_beside (mF1 (mT 0) (mF1 (mT 1) mF0)))) (mC (.int 1)))) (mT 1)))
theorem fx__law_gates (T : Txt K mg) : FnX P w K mg base 2 "_law_gates" "_law_gates" s__law_gates ["_law_lanes"] m__law_gates := by
  obtain ⟨f, fd, Fd, hm⟩ := T.F__law_gates
  refine ⟨f, fd, fnG_of Fd sc__law_gates (pr := [0]) fun f cdv A outer s H X hX room guards => ?_, Fd, hm⟩
  subst hX
  exact dss_one (ds_ret (de_lc (own := [("_law_place", 1)]) 0 rfl sc__law_gates.nd (di_range1 T.n_range (de_bin op_addD os_add (de_fn1 Lk.call_lenD cs_len T.n_len bt_len (de_var (i := 0) rfl (.inr (.inl rfl)))) de_int)) (blkOk_by (by rfl)) (by decide +kernel) (fun _ _ _ _ _ => tg_name (i := 1) sc__law_gates.nd rfl (.inl rfl) (show 1 ∉ (oth 2 [1]) from by decide +kernel)) (fun _ _ _ _ _ => dts_one (dt_cmp (op_eqD (hu64 room)) os_eq (de_fn1 Lk.call_lenD cs_len T.n_len bt_len (de_call (fx__law_beside T) (by decide) room guards bp__law_beside (df_cons (de_take (i := 0) rfl (.inr (.inl rfl))) (df_cons (de_take (i := 1) rfl (.inl rfl)) (df_nil (μ := true)))))) de_int)) (fun _ _ _ _ _ => de_take (i := 1) rfl (.inl rfl))))
/-! _law_yards(_law_lanes): 0 _law_lanes, 1 _law_place -/
theorem sc__law_yards : FnScope ["_law_lanes", "_law_place"] ["_law_lanes"] (defScope s__law_yards) := ⟨rfl, rfl, rfl, by decide +kernel, rfl, by decide +kernel, by decide +kernel⟩
theorem bp__law_yards : BindP "_law_yards" "_law_yards" s__law_yards ["_law_lanes"] := fun _ _ _ _ _ _ us hl => match us, hl with | [_], _ => rfl
def m__law_yards : Fn := fnM 2 1 [0] (mRet (mLc 0 [1] (mR1 (mBin fAdd (mUn fLen (mV 0)) (mC (.int 1)))) (bN 1) (mB (mBin fGt (mUn fLen (mCall 2 m__law_beside (mF1 (mT 0) (mF1 (mT 1) mF0)))) (mC (.int 1)))) (mT 1)))
theorem fx__law_yards (T : Txt K mg) : FnX P w K mg base 2 "_law_yards" "_law_yards" s__law_yards ["_law_lanes"] m__law_yards := by
  obtain ⟨f, fd, Fd, hm⟩ := T.F__law_yards
  refine ⟨f, fd, fnG_of Fd sc__law_yards (pr := [0]) fun f cdv A outer s H X hX room guards => ?_, Fd, hm⟩
  subst hX
  exact dss_one (ds_ret (de_lc (own := [("_law_place", 1)]) 0 rfl sc__law_yards.nd (di_range1 T.n_range (de_bin op_addD os_add (de_fn1 Lk.call_lenD cs_len T.n_len bt_len (de_var (i := 0) rfl (.inr (.inl rfl)))) de_int)) (blkOk_by (by rfl)) (by decide +kernel) (fun _ _ _ _ _ => tg_name (i := 1) sc__law_yards.nd rfl (.inl rfl) (show 1 ∉ (oth 2 [1]) from by decide +kernel)) (fun _ _ _ _ _ => dts_one (dt_cmp op_gt os_gt (de_fn1 Lk.call_lenD cs_len T.n_len bt_len (de_call (fx__law_beside T) (by decide) room guards bp__law_beside (df_cons (de_take (i := 0) rfl (.inr (.inl rfl))) (df_cons (de_take (i := 1) rfl (.inl rfl)) (df_nil (μ := true)))))) de_int)) (fun _ _ _ _ _ => de_take (i := 1) rfl (.inl rfl))))
/-! _law_other(_law_pot_here, _law_lanes): 0 _law_pot_here, 1 _law_lanes, 2 _law_gate, 3 _law_home, 4 _law_some, 5 _law_yard, 6 _law_lane -/
theorem sc__law_other : FnScope ["_law_pot_here", "_law_lanes", "_law_gate", "_law_home", "_law_some", "_law_yard", "_law_lane"] ["_law_pot_here", "_law_lanes"] (defScope s__law_other) := ⟨rfl, rfl, rfl, by decide +kernel, rfl, by decide +kernel, by decide +kernel⟩
theorem bp__law_other : BindP "_law_other" "_law_other" s__law_other ["_law_pot_here", "_law_lanes"] := fun _ _ _ _ _ _ us hl => match us, hl with | [_, _], _ => rfl
def m__law_other : Fn := fnM 7 2 [0, 1] (mSeq (mSet 2 (mCallR 2 m__law_pick (mGr 0 (mG1 (mCall 1 m__law_gates (mF1 (mT 1) mF0)) mG0)))) (mSeq (mSet 3 (mIx (mCall 2 m__law_beside (mF1 (mT 1) (mF1 (mT 2) mF0))) (mC (.int 0)))) (mSeq (mSet 4 (mLc 0 [5] (mIq (mCall 1 m__law_yards (mF1 (mT 1) mF0))) (bN 5) (mAndT (mB (mBin fNe (mV 5) (mV 3))) (mB (mBin fLt (mUn fLen (mCall 2 m__law_beside (mF1 (mT 1) (mF1 (mT 5) mF0)))) (mC (.int 4))))) (mT 5))) (mSeq (mCond (mOrT (mB (mBin fEq (mV 4) (mLst mF0))) (mB (mBin fLt (mUn fLen (mCall 2 m__law_beside (mF1 (mT 1) (mF1 (mT 3) mF0)))) (mC (.int 3))))) (mRet (mC .none)) mNx) (mSeq (mSet 5 (mCallR 2 m__law_pick (mGr 0 (mG1 (mT 4) mG0)))) (mRet (mLc 0 [6] (mIq (mT 1)) (bN 6) mYes (mIf (mB (mBin (fInT false) (mV 2) (mV 6))) (mTup (mF1 (mT 5) (mF1 (mT 2) mF0))) (mV 6)))))))))
theorem fx__law_other (T : Txt K mg) : FnX P w K mg base 3 "_law_other" "_law_other" s__law_other ["_law_pot_here", "_law_lanes"] m__law_other := by
  obtain ⟨f, fd, Fd, hm⟩ := T.F__law_other
  refine ⟨f, fd, fnG_of Fd sc__law_other (pr := [0, 1]) fun f cdv A outer s H X hX room guards => ?_, Fd, hm⟩
  subst hX
  exact dss_cons (ds_set (i := 2) sc__law_other.nd rfl (.inr rfl) (by decide +kernel) (de_callR (fx__law_pick T) (by decide) room guards bp__law_pick (dg_r (i := 0) rfl (.inl rfl) (dg_v ((de_call (fx__law_gates T) (by decide) room guards bp__law_gates (df_cons (de_take (i := 1) rfl (.inr (.inl rfl))) (df_nil (μ := true)))).low) dg_nil)))) (dss_cons (ds_set (i := 3) sc__law_other.nd rfl (.inr rfl) (by decide +kernel) (de_ix (de_call (fx__law_beside T) (by decide) room guards bp__law_beside (df_cons (de_take (i := 1) rfl (.inr (.inl rfl))) (df_cons (de_take (i := 2) rfl (.inr (.inl rfl))) (df_nil (μ := true))))) de_int)) (dss_cons (ds_setLc (i := 4) (own := [("_law_yard", 5)]) 0 rfl sc__law_other.nd rfl rfl (by decide +kernel) rfl (di_seq (de_call (fx__law_yards T) (by decide) room guards bp__law_yards (df_cons (de_take (i := 1) rfl (.inr (.inl rfl))) (df_nil (μ := true))))) (blkOk_by (by rfl)) (by decide +kernel) (fun _ _ _ _ _ => tg_name (i := 5) sc__law_other.nd rfl (.inl rfl) (show 5 ∉ (oth 7 [5]) from by decide +kernel)) (fun _ _ _ _ _ => dts_one (dt_bool (dw_and (dt_cmp (op_neD (hu64 room)) os_ne (de_var (i := 5) rfl (.inl rfl)) (de_var (i := 3) rfl (.inr (.inl rfl)))) (dw_and1 (dt_cmp op_lt os_lt (de_fn1 Lk.call_lenD cs_len T.n_len bt_len (de_call (fx__law_beside T) (by decide) room guards bp__law_beside (df_cons (de_take (i := 1) rfl (.inr (.inl rfl))) (df_cons (de_take (i := 5) rfl (.inl rfl)) (df_nil (μ := true)))))) de_int))))) (fun _ _ _ _ _ => de_take (i := 5) rfl (.inl rfl))) (dss_cons (ds_if (dt_bool (dw_or (dt_cmp (op_eqD (hu64 room)) os_eq (de_var (i := 4) rfl (.inl rfl)) (de_list (df_nil (μ := true)))) (dw_or1 (dt_cmp op_lt os_lt (de_fn1 Lk.call_lenD cs_len T.n_len bt_len (de_call (fx__law_beside T) (by decide) room guards bp__law_beside (df_cons (de_take (i := 1) rfl (.inr (.inl rfl))) (df_cons (de_take (i := 3) rfl (.inr (.inl rfl))) (df_nil (μ := true)))))) de_int)))) (dss_one (ds_ret de_non)) dss_nil) (dss_cons (ds_set (i := 5) sc__law_other.nd rfl (.inr rfl) (by decide +kernel) (de_callR (fx__law_pick T) (by decide) room guards bp__law_pick (dg_r (i := 0) rfl (.inl rfl) (dg_v ((de_take (i := 4) rfl (.inl rfl)).low) dg_nil)))) (dss_one (ds_ret (de_lc (own := [("_law_lane", 6)]) 0 rfl sc__law_other.nd (di_seq (de_take (i := 1) rfl (.inr (.inl rfl)))) (blkOk_by (by rfl)) (by decide +kernel) (fun _ _ _ _ _ => tg_name (i := 6) sc__law_other.nd rfl (.inl rfl) (show 6 ∉ (oth 7 [6]) from by decide +kernel)) (fun _ _ _ _ _ => (dts_nil (μ := true))) (fun _ _ _ _ _ => de_if (dt_cmp (opr_or op_in_seq (op_inD (hu65 room))) os_inT (de_var (i := 2) rfl (.inr (.inl rfl))) (de_var (i := 6) rfl (.inl rfl))) (de_tup (df_cons (de_take (i := 5) rfl (.inr (.inl rfl))) (df_cons (de_take (i := 2) rfl (.inr (.inl rfl))) (df_nil (μ := true))))) (de_var (i := 6) rfl (.inl rfl))))))))))
/-! ties_of(lanes): 0 lanes, 1 found, 2 near, 3 far, 4 place, 5 row -/
theorem sc_ties_of : FnScope ["lanes", "found", "near", "far", "place", "row"] ["lanes"] (defScope s_ties_of) := ⟨rfl, rfl, rfl, by decide +kernel, rfl, by decide +kernel, by decide +kernel⟩
theorem bp_ties_of : BindP "ties_of" "ties_of" s_ties_of ["lanes"] := fun _ _ _ _ _ _ us hl => match us, hl with | [_], _ => rfl
def m_ties_of : Fn := fnM 6 1 [0] (mSeq (mSet 1 (mLc 1 [4] (mR1 (mBin fAdd (mUn fLen (mV 0)) (mC (.int 1)))) (bN 4) mYes (mLst mF0))) (mSeq (mFor (mIq (mT 0)) (bT 2 (bs1 (bN 2) (bs1 (bN 3) bs0))) (mSeq (mDrop (mAppIx2 1 (mV 2) (mT 3))) (mDrop (mAppIx2 1 (mV 3) (mT 2))))) (mRet (mLc 0 [5] (mIq (mT 1)) (bN 5) mYes (mUn fSorted (mV 5))))))
theorem fx_ties_of (T : Txt K mg) : FnX P w K mg base 1 "ties_of" "ties_of" s_ties_of ["lanes"] m_ties_of := by
  obtain ⟨f, fd, Fd, hm⟩ := T.F_ties_of
  refine ⟨f, fd, fnG_of Fd sc_ties_of (pr := [0]) fun f cdv A outer s H X hX room guards => ?_, Fd, hm⟩
  subst hX
  exact dss_cons (ds_setLc (i := 1) (own := [("place", 4)]) 1 rfl sc_ties_of.nd rfl rfl (by decide +kernel) rfl (di_range1 T.n_range (de_bin op_addD os_add (de_fn1 Lk.call_lenD cs_len T.n_len bt_len (de_var (i := 0) rfl (.inl rfl))) de_int)) (blkOk_by (by rfl)) (by decide +kernel) (fun _ _ _ _ _ => tg_name (i := 4) sc_ties_of.nd rfl (.inl rfl) (show 4 ∉ (oth 6 [4]) from by decide +kernel)) (fun _ _ _ _ _ => (dts_nil (μ := true))) (fun _ _ _ _ _ => de_list (df_nil (μ := true)))) (dss_cons (ds_for PassesOwn.never rfl (di_seq (de_take (i := 0) rfl (.inl rfl))) (tg_tup rfl (tgs_cons (tg_name (i := 2) sc_ties_of.nd rfl (.inl rfl) (show 2 ∉ [0] from by decide +kernel)) (tgs_cons (tg_name (i := 3) sc_ties_of.nd rfl (.inl rfl) (show 3 ∉ [0] from by decide +kernel)) tgs_nil))) (dss_cons (ds_expr (de_appIx (i := 1) rfl (.inl rfl) (de_var (i := 2) rfl (.inl rfl)) (de_take (i := 3) rfl (.inl rfl)))) (dss_one (ds_expr (de_appIx (i := 1) rfl (.inl rfl) (de_var (i := 3) rfl (.inl rfl)) (de_take (i := 2) rfl (.inl rfl))))))) (dss_one (ds_ret (de_lc (own := [("row", 5)]) 0 rfl sc_ties_of.nd (di_seq (de_take (i := 1) rfl (.inl rfl))) (blkOk_by (by rfl)) (by decide +kernel) (fun _ _ _ _ _ => tg_name (i := 5) sc_ties_of.nd rfl (.inl rfl) (show 5 ∉ (oth 6 [5]) from by decide +kernel)) (fun _ _ _ _ _ => (dts_nil (μ := true))) (fun _ _ _ _ _ => de_fn1 (call_sortedD (hu100 room)) cs_sorted T.n_sorted bt_sorted (de_var (i := 5) rfl (.inl rfl)))))))
/-! is_list(value): 0 value -/
theorem sc_is_list : FnScope ["value"] ["value"] (defScope s_is_list) := ⟨rfl, rfl, rfl, by decide +kernel, rfl, by decide +kernel, by decide +kernel⟩
theorem bp_is_list : BindP "is_list" "is_list" s_is_list ["value"] := fun _ _ _ _ _ _ us hl => match us, hl with | [_], _ => rfl
def m_is_list : Fn := fnM 1 1 [0] (mRet (mUn (fIsi ["list", "tuple"]) (mV 0)))
theorem fx_is_list (T : Txt K mg) : FnX P w K mg base 1 "is_list" "is_list" s_is_list ["value"] m_is_list := by
  obtain ⟨f, fd, Fd, hm⟩ := T.F_is_list
  refine ⟨f, fd, fnG_of Fd sc_is_list (pr := [0]) fun f cdv A outer s H X hX room guards => ?_, Fd, hm⟩
  subst hX
  exact dss_one (ds_ret (de_isi2 T.n_isinstance T.n_list bt_list T.n_tuple bt_tuple rfl rfl (de_var (i := 0) rfl (.inl rfl))))
/-! is_integer(value): 0 value -/
theorem sc_is_integer : FnScope ["value"] ["value"] (defScope s_is_integer) := ⟨rfl, rfl, rfl, by decide +kernel, rfl, by decide +kernel, by decide +kernel⟩
theorem bp_is_integer : BindP "is_integer" "is_integer" s_is_integer ["value"] := fun _ _ _ _ _ _ us hl => match us, hl with | [_], _ => rfl
def m_is_integer : Fn := fnM 1 1 [0] (mRet (mAndV (mUn (fIsi ["int"]) (mV 0)) (mNotV (mUn (fIsi ["bool"]) (mV 0)))))
theorem fx_is_integer (T : Txt K mg) : FnX P w K mg base 1 "is_integer" "is_integer" s_is_integer ["value"] m_is_integer := by
  obtain ⟨f, fd, Fd, hm⟩ := T.F_is_integer
  refine ⟨f, fd, fnG_of Fd sc_is_integer (pr := [0]) fun f cdv A outer s H X hX room guards => ?_, Fd, hm⟩
  subst hX
  exact dss_one (ds_ret (de_and (de_isi T.n_isinstance T.n_int bt_int rfl (de_var (i := 0) rfl (.inl rfl))) (de_one (de_not (de_isi T.n_isinstance T.n_bool bt_bool rfl (de_var (i := 0) rfl (.inl rfl)))))))
/-! is_count(value): 0 value -/
theorem sc_is_count : FnScope ["value"] ["value"] (defScope s_is_count) := ⟨rfl, rfl, rfl, by decide +kernel, rfl, by decide +kernel, by decide +kernel⟩
theorem bp_is_count : BindP "is_count" "is_count" s_is_count ["value"] := fun _ _ _ _ _ _ us hl => match us, hl with | [_], _ => rfl
def m_is_count : Fn := fnM 1 1 [0] (mRet (mAndV (mCall 1 m_is_integer (mF1 (mT 0) mF0)) (mBin fGe (mV 0) (mC (.int 0)))))
theorem fx_is_count (T : Txt K mg) : FnX P w K mg base 2 "is_count" "is_count" s_is_count ["value"] m_is_count := by
  obtain ⟨f, fd, Fd, hm⟩ := T.F_is_count
  refine ⟨f, fd, fnG_of Fd sc_is_count (pr := [0]) fun f cdv A outer s H X hX room guards => ?_, Fd, hm⟩
  subst hX
  exact dss_one (ds_ret (de_and (de_call (fx_is_integer T) (by decide) room guards bp_is_integer (df_cons (de_take (i := 0) rfl (.inl rfl)) (df_nil (μ := true)))) (de_one (de_cmp op_ge os_ge (de_var (i := 0) rfl (.inl rfl)) de_int))))
/-! lane_in(value): 0 value, 1 one -/
theorem sc_lane_in : FnScope ["value", "one"] ["value"] (defScope s_lane_in) := ⟨rfl, rfl, rfl, by decide +kernel, rfl, by decide +kernel, by decide +kernel⟩
theorem bp_lane_in : BindP "lane_in" "lane_in" s_lane_in ["value"] := fun _ _ _ _ _ _ us hl => match us, hl with | [_], _ => rfl
def m_lane_in : Fn := fnM 2 1 [0] (mSeq (mCond (mOrT (mNotT (mB (mCall 1 m_is_list (mF1 (mT 0) mF0)))) (mOrT (mB (mBin fNe (mUn fLen (mV 0)) (mC (.int 2)))) (mOrT (mNotT (mB (mUn fAll (mLc 0 [1] (mIq (mT 0)) (bN 1) mYes (mCall 1 m_is_count (mF1 (mT 1) mF0)))))) (mB (mBin fEq (mIx (mV 0) (mC (.int 0))) (mIx (mV 0) (mC (.int 1)))))))) (mRet (mC .none)) mNx) (mRet (mTup (mF1 (mBinS fMin2 (mIx (mV 0) (mC (.int 0))) (mIx (mV 0) (mC (.int 1)))) (mF1 (mBinS fMax2 (mIx (mV 0) (mC (.int 0))) (mIx (mV 0) (mC (.int 1)))) mF0)))))
theorem fx_lane_in (T : Txt K mg) : FnX P w K mg base 3 "lane_in" "lane_in" s_lane_in ["value"] m_lane_in := by
  obtain ⟨f, fd, Fd, hm⟩ := T.F_lane_in
  refine ⟨f, fd, fnG_of Fd sc_lane_in (pr := [0]) fun f cdv A outer s H X hX room guards => ?_, Fd, hm⟩
  subst hX
  exact dss_cons (ds_if (dt_bool (dw_or (dt_not (dt_val (de_call (fx_is_list T) (by decide) room guards bp_is_list (df_cons (de_take (i := 0) rfl (.inl rfl)) (df_nil (μ := true)))))) (dw_or (dt_cmp (op_neD (hu64 room)) os_ne (de_fn1 Lk.call_lenD cs_len T.n_len bt_len (de_var (i := 0) rfl (.inl rfl))) de_int) (dw_or (dt_not (dt_val (de_fn1 (cr_all rfl) cs_all T.n_all bt_all (de_lc (own := [("one", 1)]) 0 rfl sc_lane_in.nd (di_seq (de_take (i := 0) rfl (.inl rfl))) (blkOk_by (by rfl)) (by decide +kernel) (fun _ _ _ _ _ => tg_name (i := 1) sc_lane_in.nd rfl (.inl rfl) (show 1 ∉ (oth 2 [1]) from by decide +kernel)) (fun _ _ _ _ _ => (dts_nil (μ := true))) (fun _ _ _ _ _ => de_call (fx_is_count T) (by decide) room guards bp_is_count (df_cons (de_take (i := 1) rfl (.inl rfl)) (df_nil (μ := true)))))))) (dw_or1 (dt_cmp (op_eqD (hu64 room)) os_eq (de_ix (de_var (i := 0) rfl (.inl rfl)) de_int) (de_ix (de_var (i := 0) rfl (.inl rfl)) de_int))))))) (dss_one (ds_ret de_non)) dss_nil) (dss_one (ds_ret (de_tup (df_cons (de_fn2 (call_min2 rfl) cs_min2 T.n_min bt_min (de_ix (de_var (i := 0) rfl (.inl rfl)) de_int) (de_ix (de_var (i := 0) rfl (.inl rfl)) de_int)) (df_cons (de_fn2 (call_max2 rfl) cs_max2 T.n_max bt_max (de_ix (de_var (i := 0) rfl (.inl rfl)) de_int) (de_ix (de_var (i := 0) rfl (.inl rfl)) de_int)) (df_nil (μ := true)))))))
/-! is_whole(ties): 0 ties, 1 met, 2 waiting, 3 place -/
theorem sc_is_whole : FnScope ["ties", "met", "waiting", "place"] ["ties"] (defScope s_is_whole) := ⟨rfl, rfl, rfl, by decide +kernel, rfl, by decide +kernel, by decide +kernel⟩
theorem bp_is_whole : BindP "is_whole" "is_whole" s_is_whole ["ties"] := fun _ _ _ _ _ _ us hl => match us, hl with | [_], _ => rfl
def m_is_whole : Fn := fnM 4 1 [0] (mSeq (mPar 1 2 (mLst (mF1 (mC (.int 0)) mF0)) (mLst (mF1 (mC (.int 0)) mF0))) (mSeq (mWhile fuel (mB (mBin fNe (mV 2) (mLst mF0))) (mFor (mIq (mIxS (mV 0) (mMet0 2 fPop))) (bN 3) (mCond (mB (mBin (fIn true) (mV 3) (mV 1))) (mSeq (mDrop (mMet 1 fApp (mT 3))) (mDrop (mMet 2 fApp (mT 3)))) mNx))) (mRet (mBin fEq (mUn fLen (mV 1)) (mUn fLen (mV 0))))))
theorem fx_is_whole (T : Txt K mg) : FnX P w K mg base 1 "is_whole" "is_whole" s_is_whole ["ties"] m_is_whole := by
  obtain ⟨f, fd, Fd, hm⟩ := T.F_is_whole
  refine ⟨f, fd, fnG_of Fd sc_is_whole (pr := [0]) fun f cdv A outer s H X hX room guards => ?_, Fd, hm⟩
  subst hX
  exact dss_cons (ds_par (i := 1) (j := 2) rfl sc_is_whole.nd rfl rfl (by decide) rfl rfl (by decide +kernel) (by decide +kernel) (de_list (df_cons de_int (df_nil (μ := true)))) (de_list (df_cons de_int (df_nil (μ := true))))) (dss_cons (ds_while fuel PassesOwn.never (dt_cmp (op_neD (hu64 room)) os_ne (de_var (i := 2) rfl (.inl rfl)) (de_list (df_nil (μ := true)))) (dss_one (ds_for PassesOwn.never rfl (di_seq (de_ixS ((de_var (i := 0) rfl (.inl rfl)).low) (de_pop (i := 2) rfl (.inl rfl)))) (tg_name (i := 3) sc_is_whole.nd rfl (.inl rfl) (show 3 ∉ [0] from by decide +kernel)) (dss_one (ds_if (dt_cmp (op_notInD (hu65 room)) os_notin (de_var (i := 3) rfl (.inl rfl)) (de_var (i := 1) rfl (.inl rfl))) (dss_cons (ds_expr (de_append (i := 1) rfl (.inl rfl) (de_take (i := 3) rfl (.inl rfl)))) (dss_one (ds_expr (de_append (i := 2) rfl (.inl rfl) (de_take (i := 3) rfl (.inl rfl)))))) dss_nil))))) (dss_one (ds_ret (de_cmp (op_eqD (hu64 room)) os_eq (de_fn1 Lk.call_lenD cs_len T.n_len bt_len (de_var (i := 1) rfl (.inl rfl))) (de_fn1 Lk.call_lenD cs_len T.n_len bt_len (de_var (i := 0) rfl (.inl rfl)))))))
/-! lanes_in(value): 0 value, 1 found, 2 ties, 3 yards, 4 one, 5 lane, 6 row -/
theorem sc_lanes_in : FnScope ["value", "found", "ties", "yards", "one", "lane", "row"] ["value"] (defScope s_lanes_in) := ⟨rfl, rfl, rfl, by decide +kernel, rfl, by decide +kernel, by decide +kernel⟩
theorem bp_lanes_in : BindP "lanes_in" "lanes_in" s_lanes_in ["value"] := fun _ _ _ _ _ _ us hl => match us, hl with | [_], _ => rfl
def m_lanes_in : Fn := fnM 7 1 [0] (mSeq (mCond (mOrT (mNotT (mB (mCall 1 m_is_list (mF1 (mT 0) mF0)))) (mB (mBin fGt (mUn fLen (mV 0)) (mBin fMul (mC (.int 7)) (mC (.int 4)))))) (mRet (mC .none)) mNx) (mSeq (mSet 1 (mLc 0 [4] (mIq (mT 0)) (bN 4) mYes (mCall 1 m_lane_in (mF1 (mT 4) mF0)))) (mSeq (mCond (mOrT (mB (mBin (fIn false) (mC .none) (mV 1))) (mOrT (mB (mBin fNe (mLenSet (mV 1)) (mUn fLen (mV 1)))) (mB (mUn fAny (mLc 0 [5] (mIq (mT 1)) (bN 5) mYes (mBin fGt (mIx (mV 5) (mC (.int 1))) (mUn fLen (mV 1)))))))) (mRet (mC .none)) mNx) (mSeq (mSet 2 (mCall 1 m_ties_of (mF1 (mT 1) mF0))) (mSeq (mSet 3 (mLc 0 [6] (mIq (mT 2)) (bN 6) (mB (mBin fGt (mUn fLen (mV 6)) (mC (.int 1)))) (mT 6))) (mSeq (mCond (mOrT (mNotT (mB (mChain fLe fLe (mC (.int 1)) (mUn fLen (mV 3)) (mC (.int 7))))) (mOrT (mB (mUn fAny (mLc 0 [6] (mIq (mT 2)) (bN 6) mYes (mBin fGt (mUn fLen (mV 6)) (mC (.int 4)))))) (mNotT (mB (mCall 1 m_is_whole (mF1 (mT 2) mF0)))))) (mRet (mC .none)) mNx) (mRet (mUn fSorted (mV 1)))))))))
theorem fx_lanes_in (T : Txt K mg) : FnX P w K mg base 4 "lanes_in" "lanes_in" s_lanes_in ["value"] m_lanes_in := by
  obtain ⟨f, fd, Fd, hm⟩ := T.F_lanes_in
  refine ⟨f, fd, fnG_of Fd sc_lanes_in (pr := [0]) fun f cdv A outer s H X hX room guards => ?_, Fd, hm⟩
  subst hX
  exact dss_cons (ds_if (dt_bool (dw_or (dt_not (dt_val (de_call (fx_is_list T) (by decide) room guards bp_is_list (df_cons (de_take (i := 0) rfl (.inl rfl)) (df_nil (μ := true)))))) (dw_or1 (dt_cmp op_gt os_gt (de_fn1 Lk.call_lenD cs_len T.n_len bt_len (de_var (i := 0) rfl (.inl rfl))) (de_bin op_mulD os_mul (de_globI T.g_MOST_YARDS) (de_globI T.g_MOST_LANES)))))) (dss_one (ds_ret de_non)) dss_nil) (dss_cons (ds_set (i := 1) sc_lanes_in.nd rfl (.inr rfl) (by decide +kernel) (de_lc (own := [("one", 4)]) 0 rfl sc_lanes_in.nd (di_seq (de_take (i := 0) rfl (.inl rfl))) (blkOk_by (by rfl)) (by decide +kernel) (fun _ _ _ _ _ => tg_name (i := 4) sc_lanes_in.nd rfl (.inl rfl) (show 4 ∉ (oth 7 [4]) from by decide +kernel)) (fun _ _ _ _ _ => (dts_nil (μ := true))) (fun _ _ _ _ _ => de_call (fx_lane_in T) (by decide) room guards bp_lane_in (df_cons (de_take (i := 4) rfl (.inl rfl)) (df_nil (μ := true)))))) (dss_cons (ds_if (dt_bool (dw_or (dt_cmp (op_inD (hu65 room)) os_in de_non (de_var (i := 1) rfl (.inr (.inl rfl)))) (dw_or (dt_cmp (op_neD (hu64 room)) os_ne (de_lenSet rfl (hu64 room) T.n_len T.n_set (de_var (i := 1) rfl (.inr (.inl rfl)))) (de_fn1 Lk.call_lenD cs_len T.n_len bt_len (de_var (i := 1) rfl (.inr (.inl rfl))))) (dw_or1 (dt_val (de_fn1 (cr_any rfl) cs_any T.n_any bt_any (de_lc (own := [("lane", 5)]) 0 rfl sc_lanes_in.nd (di_seq (de_take (i := 1) rfl (.inr (.inl rfl)))) (blkOk_by (by rfl)) (by decide +kernel) (fun _ _ _ _ _ => tg_name (i := 5) sc_lanes_in.nd rfl (.inl rfl) (show 5 ∉ (oth 7 [5]) from by decide +kernel)) (fun _ _ _ _ _ => (dts_nil (μ := true))) (fun _ _ _ _ _ => de_cmp op_gt os_gt (de_ix (de_var (i := 5) rfl (.inl rfl)) de_int) (de_fn1 Lk.call_lenD cs_len T.n_len bt_len (de_var (i := 1) rfl (.inr (.inl rfl)))))))))))) (dss_one (ds_ret de_non)) dss_nil) (dss_cons (ds_set (i := 2) sc_lanes_in.nd rfl (.inl rfl) (by decide +kernel) (de_call (fx_ties_of T) (by decide) room guards bp_ties_of (df_cons (de_take (i := 1) rfl (.inr (.inl rfl))) (df_nil (μ := true))))) (dss_cons (ds_setLc (i := 3) (own := [("row", 6)]) 0 rfl sc_lanes_in.nd rfl rfl (by decide +kernel) rfl (di_seq (de_take (i := 2) rfl (.inl rfl))) (blkOk_by (by rfl)) (by decide +kernel) (fun _ _ _ _ _ => tg_name (i := 6) sc_lanes_in.nd rfl (.inl rfl) (show 6 ∉ (oth 7 [6]) from by decide +kernel)) (fun _ _ _ _ _ => dts_one (dt_cmp op_gt os_gt (de_fn1 Lk.call_lenD cs_len T.n_len bt_len (de_var (i := 6) rfl (.inl rfl))) de_int)) (fun _ _ _ _ _ => de_take (i := 6) rfl (.inl rfl))) (dss_cons (ds_if (dt_bool (dw_or (dt_not (dt_chain op_le os_le op_le os_le de_int (de_fn1 Lk.call_lenD cs_len T.n_len bt_len (de_var (i := 3) rfl (.inl rfl))) (de_globI T.g_MOST_YARDS))) (dw_or (dt_val (de_fn1 (cr_any rfl) cs_any T.n_any bt_any (de_lc (own := [("row", 6)]) 0 rfl sc_lanes_in.nd (di_seq (de_take (i := 2) rfl (.inl rfl))) (blkOk_by (by rfl)) (by decide +kernel) (fun _ _ _ _ _ => tg_name (i := 6) sc_lanes_in.nd rfl (.inl rfl) (show 6 ∉ (oth 7 [6]) from by decide +kernel)) (fun _ _ _ _ _ => (dts_nil (μ := true))) (fun _ _ _ _ _ => de_cmp op_gt os_gt (de_fn1 Lk.call_lenD cs_len T.n_len bt_len (de_var (i := 6) rfl (.inl rfl))) (de_globI T.g_MOST_LANES))))) (dw_or1 (dt_not (dt_val (de_call (fx_is_whole T) (by decide) room guards bp_is_whole (df_cons (de_take (i := 2) rfl (.inl rfl)) (df_nil (μ := true)))))))))) (dss_one (ds_ret de_non)) dss_nil) (dss_one (ds_ret (de_fn1 (call_sortedD (hu100 room)) cs_sorted T.n_sorted bt_sorted (de_var (i := 1) rfl (.inr (.inl rfl)))))))))))
/-! ahead_of(ties, goal): 0 ties, 1 goal, 2 found, 3 waiting, 4 here, 5 place -/
theorem sc_ahead_of : FnScope ["ties", "goal", "found", "waiting", "here", "place"] ["ties", "goal"] (defScope s_ahead_of) := ⟨rfl, rfl, rfl, by decide +kernel, rfl, by decide +kernel, by decide +kernel⟩
theorem bp_ahead_of : BindP "ahead_of" "ahead_of" s_ahead_of ["ties", "goal"] := fun _ _ _ _ _ _ us hl => match us, hl with | [_, _], _ => rfl
def m_ahead_of : Fn := fnM 6 2 [0, 1] (mSeq (mPar 2 3 (mBin fMul (mLst (mF1 (mC .none) mF0)) (mUn fLen (mV 0))) (mLst (mF1 (mT 1) mF0))) (mSeq (mAsg (bIx 2 (mV 1)) (mT 1)) (mSeq (mWhile fuel (mB (mBin fNe (mV 3) (mLst mF0))) (mSeq (mSet 4 (mMet0 3 fPop)) (mFor (mIq (mIx (mV 0) (mV 4))) (bN 5) (mCond (mB (mBin (fIs false) (mIx (mV 2) (mV 5)) (mC .none))) (mSeq (mAsg (bIx 2 (mV 5)) (mT 4)) (mDrop (mMet 3 fApp (mT 5)))) mNx)))) (mRet (mM 2)))))
theorem fx_ahead_of (T : Txt K mg) : FnX P w K mg base 1 "ahead_of" "ahead_of" s_ahead_of ["ties", "goal"] m_ahead_of := by
  obtain ⟨f, fd, Fd, hm⟩ := T.F_ahead_of
  refine ⟨f, fd, fnG_of Fd sc_ahead_of (pr := [0, 1]) fun f cdv A outer s H X hX room guards => ?_, Fd, hm⟩
  subst hX
  exact dss_cons (ds_par (i := 2) (j := 3) rfl sc_ahead_of.nd rfl rfl (by decide) rfl rfl (by decide +kernel) (by decide +kernel) (de_bin op_mulD os_mul (de_list (df_cons de_non (df_nil (μ := true)))) (de_fn1 Lk.call_lenD cs_len T.n_len bt_len (de_var (i := 0) rfl (.inl rfl)))) (de_list (df_cons (de_take (i := 1) rfl (.inl rfl)) (df_nil (μ := true))))) (dss_cons (ds_asgm (tm_ix (i := 2) rfl (.inl rfl) (de_var (i := 1) rfl (.inl rfl))) (de_take (i := 1) rfl (.inl rfl))) (dss_cons (ds_while fuel PassesOwn.never (dt_cmp (op_neD (hu64 room)) os_ne (de_var (i := 3) rfl (.inl rfl)) (de_list (df_nil (μ := true)))) (dss_cons (ds_set (i := 4) sc_ahead_of.nd rfl (.inl rfl) (by decide +kernel) (de_pop (i := 3) rfl (.inl rfl))) (dss_one (ds_for PassesOwn.never rfl (di_seq (de_ix (de_var (i := 0) rfl (.inl rfl)) (de_var (i := 4) rfl (.inl rfl)))) (tg_name (i := 5) sc_ahead_of.nd rfl (.inl rfl) (show 5 ∉ [0, 1] from by decide +kernel)) (dss_one (ds_if (dt_cmp op_isN os_is (de_ix (de_var (i := 2) rfl (.inl rfl)) (de_var (i := 5) rfl (.inl rfl))) de_non) (dss_cons (ds_asgm (tm_ix (i := 2) rfl (.inl rfl) (de_var (i := 5) rfl (.inl rfl))) (de_take (i := 4) rfl (.inl rfl))) (dss_one (ds_expr (de_append (i := 3) rfl (.inl rfl) (de_take (i := 5) rfl (.inl rfl)))))) dss_nil)))))) (dss_one (ds_ret (de_move (i := 2) rfl (.inl rfl))))))
/-! Country.__init__(self, lanes): 0 self, 1 lanes, 2 told, 3 goal -/
theorem sc_Country_init : FnScope ["self", "lanes", "told", "goal"] ["self", "lanes"] (defScope s_Country_init) := ⟨rfl, rfl, rfl, by decide +kernel, rfl, by decide +kernel, by decide +kernel⟩
theorem bp_Country_init : BindP "__init__" "Country.__init__" s_Country_init ["self", "lanes"] := fun _ _ _ _ _ _ us hl => match us, hl with | [_, _], _ => rfl
def m_Country_init : Fn := fnM 4 2 [0, 1] (mSeq (mSet 2 (mCallB 1 m_lanes_in)) (mSeq (mCond (mB (mBin (fIs false) (mV 2) (mC .none))) mNo mNx) (mSeq (mAttrSet 0 "Country" "own_lanes" (mT 2)) (mSeq (mAttrSet 0 "Country" "own_ties" (mCall 1 m_ties_of (mF1 (mT 2) mF0))) (mAttrSet 0 "Country" "own_ahead" (mLc 0 [3] (mR1 (mBin fAdd (mUn fLen (mV 2)) (mC (.int 1)))) (bN 3) mYes (mCall 2 m_ahead_of (mF1 (mUn (fAttr "Country" "own_ties") (mV 0)) (mF1 (mT 3) mF0)))))))))
theorem cx_Country (T : Txt K mg) : ClsX P w K mg base 5 "Country" "Country.__init__" s_Country_init ["self", "lanes"] m_Country_init := by
  obtain ⟨C, hC, TC⟩ := T.C_Country
  obtain ⟨f, fd, hM, Fd⟩ := TC.made
  refine ⟨C, f, fd, hC, hM, fnG_of Fd sc_Country_init (pr := [0, 1]) fun f cdv A outer s H X hX room guards => ?_, Fd⟩
  subst hX
  exact dss_cons (ds_set (i := 2) sc_Country_init.nd rfl (.inl rfl) (by decide +kernel) (de_callB (μ := true) (i := 1) (fx_lanes_in T) (by decide) room guards bp_lanes_in rfl (.inl rfl))) (dss_cons (ds_if (dt_cmp op_isN os_is (de_var (i := 2) rfl (.inl rfl)) de_non) (dss_one ds_never) dss_nil) (dss_cons (ds_attr (i := 0) rfl (.inr (.inl rfl)) (de_take (i := 2) rfl (.inl rfl)) (T.C_Country).choose_spec.1 (T.C_Country).choose_spec.2.cl (T.C_Country).choose_spec.2.a_own_lanes) (dss_cons (ds_attr (i := 0) rfl (.inr (.inl rfl)) (de_call (fx_ties_of T) (by decide) room guards bp_ties_of (df_cons (de_take (i := 2) rfl (.inl rfl)) (df_nil (μ := true)))) (T.C_Country).choose_spec.1 (T.C_Country).choose_spec.2.cl (T.C_Country).choose_spec.2.a_own_ties) (dss_one (ds_attr (i := 0) rfl (.inr (.inl rfl)) (de_lc (own := [("goal", 3)]) 0 rfl sc_Country_init.nd (di_range1 T.n_range (de_bin op_addD os_add (de_fn1 Lk.call_lenD cs_len T.n_len bt_len (de_var (i := 2) rfl (.inl rfl))) de_int)) (blkOk_by (by rfl)) (by decide +kernel) (fun _ _ _ _ _ => tg_name (i := 3) sc_Country_init.nd rfl (.inl rfl) (show 3 ∉ (oth 4 [3]) from by decide +kernel)) (fun _ _ _ _ _ => (dts_nil (μ := true))) (fun _ _ _ _ _ => de_call (fx_ahead_of T) (by decide) room guards bp_ahead_of (df_cons (de_attr (de_var (i := 0) rfl (.inr (.inl rfl))) (T.C_Country).choose_spec.1 (T.C_Country).choose_spec.2.cl ((T.C_Country).choose_spec.2.a_own_ties)) (df_cons (de_take (i := 3) rfl (.inl rfl)) (df_nil (μ := true)))))) (T.C_Country).choose_spec.1 (T.C_Country).choose_spec.2.cl (T.C_Country).choose_spec.2.a_own_ahead)))))
/-! Country.lanes(self): 0 self -/
theorem sc_Country_lanes : FnScope ["self"] ["self"] (defScope s_Country_lanes) := ⟨rfl, rfl, rfl, by decide +kernel, rfl, by decide +kernel, by decide +kernel⟩
theorem bp_Country_lanes : BindP "lanes" "Country.lanes" s_Country_lanes ["self"] := fun _ _ _ _ _ _ us hl => match us, hl with | [_], _ => rfl
def m_Country_lanes : Fn := fnM 1 1 [0] (mRet (mUn fList (mUn (fAttr "Country" "own_lanes") (mV 0))))
theorem px_Country_lanes (T : Txt K mg) : PropX P w K mg base 1 "Country" "lanes" "Country.lanes" s_Country_lanes m_Country_lanes := by
  obtain ⟨C, hC, TC⟩ := T.C_Country
  obtain ⟨p, f, fd, hP, Fd⟩ := TC.p_lanes
  refine ⟨C, p, f, fd, hC, TC.cl, hP, fnG_of Fd sc_Country_lanes (pr := [0]) fun f cdv A outer s H X hX room guards => ?_, Fd⟩
  subst hX
  exact dss_one (ds_ret (de_ty1 call_list_of cs_list T.n_list bt_list (de_attr (de_var (i := 0) rfl (.inl rfl)) (T.C_Country).choose_spec.1 (T.C_Country).choose_spec.2.cl ((T.C_Country).choose_spec.2.a_own_lanes))))
/-! Country.yards(self): 0 self, 1 place, 2 row -/
theorem sc_Country_yards : FnScope ["self", "place", "row"] ["self"] (defScope s_Country_yards) := ⟨rfl, rfl, rfl, by decide +kernel, rfl, by decide +kernel, by decide +kernel⟩
theorem bp_Country_yards : BindP "yards" "Country.yards" s_Country_yards ["self"] := fun _ _ _ _ _ _ us hl => match us, hl with | [_], _ => rfl
def m_Country_yards : Fn := fnM 3 1 [0] (mRet (mLc 0 [1, 2] (mIe (mUn (fAttr "Country" "own_ties") (mV 0))) (bT 2 (bs1 (bN 1) (bs1 (bN 2) bs0))) (mB (mBin fGt (mUn fLen (mV 2)) (mC (.int 1)))) (mT 1)))
theorem px_Country_yards (T : Txt K mg) : PropX P w K mg base 1 "Country" "yards" "Country.yards" s_Country_yards m_Country_yards := by
  obtain ⟨C, hC, TC⟩ := T.C_Country
  obtain ⟨p, f, fd, hP, Fd⟩ := TC.p_yards
  refine ⟨C, p, f, fd, hC, TC.cl, hP, fnG_of Fd sc_Country_yards (pr := [0]) fun f cdv A outer s H X hX room guards => ?_, Fd⟩
  subst hX
  exact dss_one (ds_ret (de_lc (own := [("place", 1), ("row", 2)]) 0 rfl sc_Country_yards.nd (di_enum T.n_enumerate (de_attr (de_var (i := 0) rfl (.inl rfl)) (T.C_Country).choose_spec.1 (T.C_Country).choose_spec.2.cl ((T.C_Country).choose_spec.2.a_own_ties))) (blkOk_by (by rfl)) (by decide +kernel) (fun _ _ _ _ _ => tg_tup rfl (tgs_cons (tg_name (i := 1) sc_Country_yards.nd rfl (.inl rfl) (show 1 ∉ (oth 3 [1, 2]) from by decide +kernel)) (tgs_cons (tg_name (i := 2) sc_Country_yards.nd rfl (.inl rfl) (show 2 ∉ (oth 3 [1, 2]) from by decide +kernel)) tgs_nil))) (fun _ _ _ _ _ => dts_one (dt_cmp op_gt os_gt (de_fn1 Lk.call_lenD cs_len T.n_len bt_len (de_var (i := 2) rfl (.inl rfl))) de_int)) (fun _ _ _ _ _ => de_take (i := 1) rfl (.inl rfl))))
/-! Country.gates(self): 0 self, 1 place, 2 row -/
theorem sc_Country_gates : FnScope ["self", "place", "row"] ["self"] (defScope s_Country_gates) := ⟨rfl, rfl, rfl, by decide +kernel, rfl, by decide +kernel, by decide +kernel⟩
theorem bp_Country_gates : BindP "gates" "Country.gates" s_Country_gates ["self"] := fun _ _ _ _ _ _ us hl => match us, hl with | [_], _ => rfl
def m_Country_gates : Fn := fnM 3 1 [0] (mRet (mLc 0 [1, 2] (mIe (mUn (fAttr "Country" "own_ties") (mV 0))) (bT 2 (bs1 (bN 1) (bs1 (bN 2) bs0))) (mB (mBin fEq (mUn fLen (mV 2)) (mC (.int 1)))) (mT 1)))
theorem px_Country_gates (T : Txt K mg) : PropX P w K mg base 1 "Country" "gates" "Country.gates" s_Country_gates m_Country_gates := by
  obtain ⟨C, hC, TC⟩ := T.C_Country
  obtain ⟨p, f, fd, hP, Fd⟩ := TC.p_gates
  refine ⟨C, p, f, fd, hC, TC.cl, hP, fnG_of Fd sc_Country_gates (pr := [0]) fun f cdv A outer s H X hX room guards => ?_, Fd⟩
  subst hX
  exact dss_one (ds_ret (de_lc (own := [("place", 1), ("row", 2)]) 0 rfl sc_Country_gates.nd (di_enum T.n_enumerate (de_attr (de_var (i := 0) rfl (.inl rfl)) (T.C_Country).choose_spec.1 (T.C_Country).choose_spec.2.cl ((T.C_Country).choose_spec.2.a_own_ties))) (blkOk_by (by rfl)) (by decide +kernel) (fun _ _ _ _ _ => tg_tup rfl (tgs_cons (tg_name (i := 1) sc_Country_gates.nd rfl (.inl rfl) (show 1 ∉ (oth 3 [1, 2]) from by decide +kernel)) (tgs_cons (tg_name (i := 2) sc_Country_gates.nd rfl (.inl rfl) (show 2 ∉ (oth 3 [1, 2]) from by decide +kernel)) tgs_nil))) (fun _ _ _ _ _ => dts_one (dt_cmp (op_eqD (hu64 room)) os_eq (de_fn1 Lk.call_lenD cs_len T.n_len bt_len (de_var (i := 2) rfl (.inl rfl))) de_int)) (fun _ _ _ _ _ => de_take (i := 1) rfl (.inl rfl))))
/-! Country.neighbours(self, place): 0 self, 1 place -/
theorem sc_Country_neighbours : FnScope ["self", "place"] ["self", "place"] (defScope s_Country_neighbours) := ⟨rfl, rfl, rfl, by decide +kernel, rfl, by decide +kernel, by decide +kernel⟩
theorem bp_Country_neighbours : BindP "neighbours" "Country.neighbours" s_Country_neighbours ["self", "place"] := fun _ _ _ _ _ _ us hl => match us, hl with | [_, _], _ => rfl
def m_Country_neighbours : Fn := fnM 2 2 [0, 1] (mSeq (mCond (mOrT (mNotT (mB (mCall 1 m_is_count (mF1 (mT 1) mF0)))) (mB (mBin fGe (mV 1) (mUn fLen (mUn (fAttr "Country" "own_ties") (mV 0)))))) mNo mNx) (mRet (mUn fList (mIx (mUn (fAttr "Country" "own_ties") (mV 0)) (mV 1)))))
theorem mx_Country_neighbours (T : Txt K mg) : MethX P w K mg base 3 "Country" "neighbours" "Country.neighbours" s_Country_neighbours ["self", "place"] m_Country_neighbours := by
  obtain ⟨C, hC, TC⟩ := T.C_Country
  obtain ⟨f, fd, hM, Fd⟩ := TC.m_neighbours
  refine ⟨C, f, fd, hC, TC.cl, hM, fnG_of Fd sc_Country_neighbours (pr := [0, 1]) fun f cdv A outer s H X hX room guards => ?_, Fd⟩
  subst hX
  exact dss_cons (ds_if (dt_bool (dw_or (dt_not (dt_val (de_call (fx_is_count T) (by decide) room guards bp_is_count (df_cons (de_take (i := 1) rfl (.inl rfl)) (df_nil (μ := true)))))) (dw_or1 (dt_cmp op_ge os_ge (de_var (i := 1) rfl (.inl rfl)) (de_fn1 Lk.call_lenD cs_len T.n_len bt_len (de_attr (de_var (i := 0) rfl (.inl rfl)) (T.C_Country).choose_spec.1 (T.C_Country).choose_spec.2.cl ((T.C_Country).choose_spec.2.a_own_ties))))))) (dss_one ds_never) dss_nil) (dss_one (ds_ret (de_ty1 call_list_of cs_list T.n_list bt_list (de_ix (de_attr (de_var (i := 0) rfl (.inl rfl)) (T.C_Country).choose_spec.1 (T.C_Country).choose_spec.2.cl ((T.C_Country).choose_spec.2.a_own_ties)) (de_var (i := 1) rfl (.inl rfl))))))
/-! Country.__eq__(self, other): 0 self, 1 other -/
theorem sc_Country_eq : FnScope ["self", "other"] ["self", "other"] (defScope s_Country_eq) := ⟨rfl, rfl, rfl, by decide +kernel, rfl, by decide +kernel, by decide +kernel⟩
theorem bp_Country_eq : BindP "__eq__" "Country.__eq__" s_Country_eq ["self", "other"] := fun _ _ _ _ _ _ us hl => match us, hl with | [_, _], _ => rfl
def m_Country_eq : Fn := fnM 2 2 [0, 1] (mRet (mAndV (mUn (fIsiA "Country" []) (mV 1)) (mBin fEq (mUn (fAttr "Country" "own_lanes") (mV 0)) (mUn (fAttr "Country" "own_lanes") (mV 1)))))
theorem ex_Country (T : Txt K mg) : EqX P w K mg base 1 "Country" [] "Country.__eq__" s_Country_eq m_Country_eq := by
  obtain ⟨C, hC, TC⟩ := T.C_Country
  obtain ⟨f, fd, h1, h2, h3, Fd⟩ := TC.eq
  refine ⟨C, f, fd, hC, TC.isi, h1, h2, h3, fun c hc => absurd hc (by simp), fnG_of Fd sc_Country_eq (pr := [0, 1]) fun f cdv A outer s H X hX room guards => ?_, Fd⟩
  subst hX
  exact dss_one (ds_ret (de_and (de_isiA T.n_isinstance (ix_Country T) (de_var (i := 1) rfl (.inl rfl))) (de_one (de_cmp (op_eqD (hu64 room)) os_eq (de_attr (de_var (i := 0) rfl (.inl rfl)) (T.C_Country).choose_spec.1 (T.C_Country).choose_spec.2.cl ((T.C_Country).choose_spec.2.a_own_lanes)) (de_attr (de_var (i := 1) rfl (.inl rfl)) (T.C_Country).choose_spec.1 (T.C_Country).choose_spec.2.cl ((T.C_Country).choose_spec.2.a_own_lanes))))))
/-! gates_in(country): 0 country, 1 place, 2 row -/
theorem sc_gates_in : FnScope ["country", "place", "row"] ["country"] (defScope s_gates_in) := ⟨rfl, rfl, rfl, by decide +kernel, rfl, by decide +kernel, by decide +kernel⟩
theorem bp_gates_in : BindP "gates_in" "gates_in" s_gates_in ["country"] := fun _ _ _ _ _ _ us hl => match us, hl with | [_], _ => rfl
def m_gates_in : Fn := fnM 3 1 [0] (mRet (mLc 0 [1, 2] (mIe (mUn (fAttr "Country" "own_ties") (mV 0))) (bT 2 (bs1 (bN 1) (bs1 (bN 2) bs0))) (mB (mBin fEq (mUn fLen (mV 2)) (mC (.int 1)))) (mT 1)))
theorem fx_gates_in (T : Txt K mg) : FnX P w K mg base 1 "gates_in" "gates_in" s_gates_in ["country"] m_gates_in := by
  obtain ⟨f, fd, Fd, hm⟩ := T.F_gates_in
  refine ⟨f, fd, fnG_of Fd sc_gates_in (pr := [0]) fun f cdv A outer s H X hX room guards => ?_, Fd, hm⟩
  subst hX
  exact dss_one (ds_ret (de_lc (own := [("place", 1), ("row", 2)]) 0 rfl sc_gates_in.nd (di_enum T.n_enumerate (de_attr (de_var (i := 0) rfl (.inl rfl)) (T.C_Country).choose_spec.1 (T.C_Country).choose_spec.2.cl ((T.C_Country).choose_spec.2.a_own_ties))) (blkOk_by (by rfl)) (by decide +kernel) (fun _ _ _ _ _ => tg_tup rfl (tgs_cons (tg_name (i := 1) sc_gates_in.nd rfl (.inl rfl) (show 1 ∉ (oth 3 [1, 2]) from by decide +kernel)) (tgs_cons (tg_name (i := 2) sc_gates_in.nd rfl (.inl rfl) (show 2 ∉ (oth 3 [1, 2]) from by decide +kernel)) tgs_nil))) (fun _ _ _ _ _ => dts_one (dt_cmp (op_eqD (hu64 room)) os_eq (de_fn1 Lk.call_lenD cs_len T.n_len bt_len (de_var (i := 2) rfl (.inl rfl))) de_int)) (fun _ _ _ _ _ => de_take (i := 1) rfl (.inl rfl))))
/-! gate_pairs(country): 0 country, 1 gates, 2 found, 3 start, 4 end -/
theorem sc_gate_pairs : FnScope ["country", "gates", "found", "start", "end"] ["country"] (defScope s_gate_pairs) := ⟨rfl, rfl, rfl, by decide +kernel, rfl, by decide +kernel, by decide +kernel⟩
theorem bp_gate_pairs : BindP "gate_pairs" "gate_pairs" s_gate_pairs ["country"] := fun _ _ _ _ _ _ us hl => match us, hl with | [_], _ => rfl
def m_gate_pairs : Fn := fnM 5 1 [0] (mSeq (mSet 1 (mCall 1 m_gates_in (mF1 (mT 0) mF0))) (mSeq (mSet 2 (mLst mF0)) (mSeq (mFor (mIq (mT 1)) (bN 3) (mDrop (mMet 2 fExt (mLc 0 [4] (mIq (mT 1)) (bN 4) (mB (mBin fNe (mV 4) (mV 3))) (mTup (mF1 (mT 3) (mF1 (mT 4) mF0))))))) (mRet (mM 2)))))
theorem fx_gate_pairs (T : Txt K mg) : FnX P w K mg base 2 "gate_pairs" "gate_pairs" s_gate_pairs ["country"] m_gate_pairs := by
  obtain ⟨f, fd, Fd, hm⟩ := T.F_gate_pairs
  refine ⟨f, fd, fnG_of Fd sc_gate_pairs (pr := [0]) fun f cdv A outer s H X hX room guards => ?_, Fd, hm⟩
  subst hX
  exact dss_cons (ds_set (i := 1) sc_gate_pairs.nd rfl (.inl rfl) (by decide +kernel) (de_call (fx_gates_in T) (by decide) room guards bp_gates_in (df_cons (de_take (i := 0) rfl (.inl rfl)) (df_nil (μ := true))))) (dss_cons (ds_set (i := 2) sc_gate_pairs.nd rfl (.inl rfl) (by decide +kernel) (de_list (df_nil (μ := true)))) (dss_cons (ds_for PassesOwn.never rfl (di_seq (de_take (i := 1) rfl (.inl rfl))) (tg_name (i := 3) sc_gate_pairs.nd rfl (.inr rfl) (show 3 ∉ [0] from by decide +kernel)) (dss_one (ds_expr (de_extend (i := 2) rfl (.inl rfl) (de_lc (own := [("end", 4)]) 0 rfl sc_gate_pairs.nd (di_seq (de_take (i := 1) rfl (.inl rfl))) (blkOk_by (by rfl)) (by decide +kernel) (fun _ _ _ _ _ => tg_name (i := 4) sc_gate_pairs.nd rfl (.inl rfl) (show 4 ∉ (oth 5 [4]) from by decide +kernel)) (fun _ _ _ _ _ => dts_one (dt_cmp (op_neD (hu64 room)) os_ne (de_var (i := 4) rfl (.inl rfl)) (de_var (i := 3) rfl (.inr (.inl rfl))))) (fun _ _ _ _ _ => de_tup (df_cons (de_take (i := 3) rfl (.inr (.inl rfl))) (df_cons (de_take (i := 4) rfl (.inl rfl)) (df_nil (μ := true)))))))))) (dss_one (ds_ret (de_move (i := 2) rfl (.inl rfl))))))
/-! want_country(value): 0 value -/
theorem sc_want_country : FnScope ["value"] ["value"] (defScope s_want_country) := ⟨rfl, rfl, rfl, by decide +kernel, rfl, by decide +kernel, by decide +kernel⟩
theorem bp_want_country : BindP "want_country" "want_country" s_want_country ["value"] := fun _ _ _ _ _ _ us hl => match us, hl with | [_], _ => rfl
def m_want_country : Fn := fnM 1 1 [0] (mSeq (mCond (mNotT (mB (mUn (fIsiC "Country") (mV 0)))) mNo mNx) (mRet (mM 0)))
theorem fx_want_country (T : Txt K mg) : FnX P w K mg base 1 "want_country" "want_country" s_want_country ["value"] m_want_country := by
  obtain ⟨f, fd, Fd, hm⟩ := T.F_want_country
  refine ⟨f, fd, fnG_of Fd sc_want_country (pr := [0]) fun f cdv A outer s H X hX room guards => ?_, Fd, hm⟩
  subst hX
  exact dss_cons (ds_if (dt_not (dt_val (de_isiC T.n_isinstance (T.C_Country).choose_spec.1 (T.C_Country).choose_spec.2.isi (de_var (i := 0) rfl (.inl rfl))))) (dss_one ds_never) dss_nil) (dss_one (ds_ret (de_move (i := 0) rfl (.inl rfl))))
/-! all_ways(country): 0 country -/
theorem sc_all_ways : FnScope ["country"] ["country"] (defScope s_all_ways) := ⟨rfl, rfl, rfl, by decide +kernel, rfl, by decide +kernel, by decide +kernel⟩
theorem bp_all_ways : BindP "all_ways" "all_ways" s_all_ways ["country"] := fun _ _ _ _ _ _ us hl => match us, hl with | [_], _ => rfl
def m_all_ways : Fn := fnM 1 1 [0] (mRet (mCall 1 m_gate_pairs (mF1 (mCall 1 m_want_country (mF1 (mT 0) mF0)) mF0)))
theorem fx_all_ways (T : Txt K mg) : FnX P w K mg base 3 "all_ways" "all_ways" s_all_ways ["country"] m_all_ways := by
  obtain ⟨f, fd, Fd, hm⟩ := T.F_all_ways
  refine ⟨f, fd, fnG_of Fd sc_all_ways (pr := [0]) fun f cdv A outer s H X hX room guards => ?_, Fd, hm⟩
  subst hX
  exact dss_one (ds_ret (de_call (fx_gate_pairs T) (by decide) room guards bp_gate_pairs (df_cons (de_call (fx_want_country T) (by decide) room guards bp_want_country (df_cons (de_take (i := 0) rfl (.inl rfl)) (df_nil (μ := true)))) (df_nil (μ := true)))))
/-! _law_right(_law_pot_here): 0 _law_pot_here, 1 _law_lanes, 2 _law_told, 3 _law_shown, 4 _law_country, 5 _law_due, 6 _law_yards_here, 7 _law_gates_here, 8 _law_rows, 9 _law_seen, 10 _law_ways, 11 _law_start, 12 _law_one, 13 _law_other_here, 14 _law_lane, 15 _law_place, 16 _law_end -/
theorem sc__law_right : FnScope ["_law_pot_here", "_law_lanes", "_law_told", "_law_shown", "_law_country", "_law_due", "_law_yards_here", "_law_gates_here", "_law_rows", "_law_seen", "_law_ways", "_law_start", "_law_one", "_law_other_here", "_law_lane", "_law_place", "_law_end"] ["_law_pot_here"] (defScope s__law_right) := ⟨rfl, rfl, rfl, by decide +kernel, rfl, by decide +kernel, by decide +kernel⟩
theorem bp__law_right : BindP "_law_right" "_law_right" s__law_right ["_law_pot_here"] := fun _ _ _ _ _ _ us hl => match us, hl with | [_], _ => rfl
def m__law_right : Fn := fnM 17 1 [0] (mSeq (mSet 1 (mCallR 2 m__law_drawn (mGr 0 (mG1 (mC (.int 7)) mG0)))) (mSeq (mSet 2 (mCallR 2 m__law_told_otherwise (mGr 0 (mG1 (mT 1) mG0)))) (mSeq (mPar 3 4 (mUn fRepr (mV 2)) (mMakeR 2 "Country" m_Country_init (mGr 2 mG0))) (mSeq (mSet 5 (mUn fSorted (mLc 0 [14] (mIq (mT 1)) (bN 14) mYes (mTup (mF1 (mUn (fMmT minOf) (mV 14)) (mF1 (mUn (fMmT maxOf) (mV 14)) mF0)))))) (mSeq (mPar 6 7 (mCall 1 m__law_yards (mF1 (mT 1) mF0)) (mCall 1 m__law_gates (mF1 (mT 1) mF0))) (mSeq (mSet 8 (mLc 0 [15] (mR1 (mBin fAdd (mUn fLen (mV 1)) (mC (.int 1)))) (bN 15) mYes (mCall 2 m__law_beside (mF1 (mT 1) (mF1 (mT 15) mF0))))) (mSeq (mSet 9 (mLst2 (mL1 (mProp "Country" m_Country_lanes (mT 4)) (mL1 (mProp "Country" m_Country_yards (mT 4)) (mL1 (mProp "Country" m_Country_gates (mT 4)) mL0))))) (mSeq (mCond (mOrT (mB (mBin fNe (mUn fRepr (mV 9)) (mUn fRepr (mLst (mF1 (mT 5) (mF1 (mT 6) (mF1 (mT 7) mF0))))))) (mB (mBin fNe (mUn fRepr (mV 2)) (mV 3)))) (mRet (mC (.bool false))) mNx) (mSeq (mCond (mB (mBin fNe (mUn fRepr (mLc 0 [15] (mR1 (mUn fLen (mV 8))) (bN 15) mYes (mMeth 2 "Country" "neighbours" m_Country_neighbours (mT 4) (mF1 (mT 15) mF0)))) (mUn fRepr (mV 8)))) (mRet (mC (.bool false))) mNx) (mSeq (mSet 10 (mLst mF0)) (mSeq (mFor (mIq (mT 7)) (bN 11) (mDrop (mMet 10 fExt (mLc 0 [16] (mIq (mT 7)) (bN 16) (mB (mBin fNe (mV 16) (mV 11))) (mTup (mF1 (mT 11) (mF1 (mT 16) mF0))))))) (mSeq (mCond (mOrT (mB (mBin fNe (mCall 1 m_all_ways (mF1 (mT 4) mF0)) (mV 10))) (mB (mBin fNe (mUn fRepr (mCallK 1 [0] m_all_ways mF0 (mF1 (mT 4) mF0))) (mUn fRepr (mV 10))))) (mRet (mC (.bool false))) mNx) (mSeq (mSet 9 (mCat2 (mM 9) (mLst2 (mL1 (mMeth 2 "Country" "neighbours" m_Country_neighbours (mT 4) (mF1 (mIx (mV 7) (mC (.int 0))) mF0)) (mL1 (mCall 1 m_all_ways (mF1 (mT 4) mF0)) mL0))))) (mSeq (mEach 9 12) (mSeq (mCond (mB (mUn (fIsi ["list"]) (mV 2))) (mDrop (mMet 2 fApp (mTup (mF1 (mC (.int 0)) (mF1 (mC (.int 99)) mF0))))) mNx) (mSeq (mSet 9 (mLst2 (mL1 (mProp "Country" m_Country_lanes (mT 4)) (mL1 (mProp "Country" m_Country_yards (mT 4)) (mL1 (mProp "Country" m_Country_gates (mT 4)) (mL1 (mMeth 2 "Country" "neighbours" m_Country_neighbours (mT 4) (mF1 (mIx (mV 7) (mC (.int 0))) mF0)) mL0)))))) (mSeq (mCond (mB (mBin fNe (mUn fRepr (mV 9)) (mUn fRepr (mLst (mF1 (mT 5) (mF1 (mT 6) (mF1 (mT 7) (mF1 (mIx (mV 8) (mIx (mV 7) (mC (.int 0)))) mF0)))))))) (mRet (mC (.bool false))) mNx) (mSeq (mSet 13 (mCallR 2 m__law_other (mGr 0 (mG1 (mT 1) mG0)))) (mSeq (mCond (mAndT (mB (mBin (fIs true) (mV 13) (mC .none))) (mB (mBin (fIsB true) (mBin (fEqI false "Country" [] m_Country_eq) (mV 4) (mMake 2 "Country" m_Country_init (mF1 (mT 13) mF0))) (mC (.bool false))))) (mRet (mC (.bool false))) mNx) (mSeq (mCond (mOrT (mB (mBin (fIsB true) (mBinS (fEqI false "Country" [] m_Country_eq) (mV 4) (mMake 2 "Country" m_Country_init (mF1 (mT 1) mF0))) (mC (.bool true)))) (mB (mBin (fIsB true) (mBin (fEqI false "Country" [] m_Country_eq) (mV 4) (mV 5)) (mC (.bool false))))) (mRet (mC (.bool false))) mNx) (mRet (mBin (fIsB false) (mBin (fEqI true "Country" [] m_Country_eq) (mV 4) (mMake 2 "Country" m_Country_init (mF1 (mUn fRev (mV 5)) mF0))) (mC (.bool false))))))))))))))))))))))))
theorem fx__law_right (T : Txt K mg) : FnX P w K mg base 7 "_law_right" "_law_right" s__law_right ["_law_pot_here"] m__law_right := by
  obtain ⟨f, fd, Fd, hm⟩ := T.F__law_right
  refine ⟨f, fd, fnG_of Fd sc__law_right (pr := [0]) fun f cdv A outer s H X hX room guards => ?_, Fd, hm⟩
  subst hX
  exact dss_cons (ds_set (i := 1) sc__law_right.nd rfl (.inr rfl) (by decide +kernel) (de_callR (fx__law_drawn T) (by decide) room guards bp__law_drawn (dg_r (i := 0) rfl (.inl rfl) (dg_v (de_int.low) dg_nil)))) (dss_cons (ds_set (i := 2) sc__law_right.nd rfl (.inl rfl) (by decide +kernel) (de_callR (fx__law_told_otherwise T) (by decide) room guards bp__law_told_otherwise (dg_r (i := 0) rfl (.inl rfl) (dg_v ((de_take (i := 1) rfl (.inr (.inl rfl))).low) dg_nil)))) (dss_cons (ds_parT (i := 3) (j := 4) rfl sc__law_right.nd rfl rfl (by decide) (.inl rfl) (.inr rfl) (by decide +kernel) (by decide +kernel) ((de_fn1 (call_reprD guards (hu100 room)) cs_repr T.n_repr bt_repr (de_var (i := 2) rfl (.inl rfl))).low) (de_makeR (cx_Country T) (by decide) room guards bp_Country_init (dg_r (i := 2) rfl (.inl rfl) dg_nil))) (dss_cons (ds_set (i := 5) sc__law_right.nd rfl (.inl rfl) (by decide +kernel) (de_fn1 (call_sortedD (hu100 room)) cs_sorted T.n_sorted bt_sorted (de_lc (own := [("_law_lane", 14)]) 0 rfl sc__law_right.nd (di_seq (de_take (i := 1) rfl (.inr (.inl rfl)))) (blkOk_by (by rfl)) (by decide +kernel) (fun _ _ _ _ _ => tg_name (i := 14) sc__law_right.nd rfl (.inl rfl) (show 14 ∉ (oth 17 [14]) from by decide +kernel)) (fun _ _ _ _ _ => (dts_nil (μ := true))) (fun _ _ _ _ _ => de_tup (df_cons (de_fn1 (callr_or (cr_min rfl) (cr_minT rfl)) cs_minT T.n_min bt_min (de_var (i := 14) rfl (.inl rfl))) (df_cons (de_fn1 (callr_or (cr_max rfl) (cr_maxT rfl)) cs_maxT T.n_max bt_max (de_var (i := 14) rfl (.inl rfl))) (df_nil (μ := true)))))))) (dss_cons (ds_par (i := 6) (j := 7) rfl sc__law_right.nd rfl rfl (by decide) rfl rfl (by decide +kernel) (by decide +kernel) (de_call (fx__law_yards T) (by decide) room guards bp__law_yards (df_cons (de_take (i := 1) rfl (.inr (.inl rfl))) (df_nil (μ := true)))) (de_call (fx__law_gates T) (by decide) room guards bp__law_gates (df_cons (de_take (i := 1) rfl (.inr (.inl rfl))) (df_nil (μ := true))))) (dss_cons (ds_setLc (i := 8) (own := [("_law_place", 15)]) 0 rfl sc__law_right.nd rfl rfl (by decide +kernel) rfl (di_range1 T.n_range (de_bin op_addD os_add (de_fn1 Lk.call_lenD cs_len T.n_len bt_len (de_var (i := 1) rfl (.inr (.inl rfl)))) de_int)) (blkOk_by (by rfl)) (by decide +kernel) (fun _ _ _ _ _ => tg_name (i := 15) sc__law_right.nd rfl (.inl rfl) (show 15 ∉ (oth 17 [15]) from by decide +kernel)) (fun _ _ _ _ _ => (dts_nil (μ := true))) (fun _ _ _ _ _ => de_call (fx__law_beside T) (by decide) room guards bp__law_beside (df_cons (de_take (i := 1) rfl (.inr (.inl rfl))) (df_cons (de_take (i := 15) rfl (.inl rfl)) (df_nil (μ := true)))))) (dss_cons (ds_set (i := 9) sc__law_right.nd rfl (.inl rfl) (by decide +kernel) (de_list2 (dl2_cons (de_prop (px_Country_lanes T) (by decide) room guards bp_Country_lanes (de_take (i := 4) rfl (.inr (.inl rfl)))) (dl2_cons (de_prop (px_Country_yards T) (by decide) room guards bp_Country_yards (de_take (i := 4) rfl (.inr (.inl rfl)))) (dl2_cons (de_prop (px_Country_gates T) (by decide) room guards bp_Country_gates (de_take (i := 4) rfl (.inr (.inl rfl)))) dl2_nil))))) (dss_cons (ds_if (dt_bool (dw_or (dt_cmp (op_neD (hu64 room)) os_ne (de_fn1 (call_reprD guards (hu100 room)) cs_repr T.n_repr bt_repr (de_var (i := 9) rfl (.inl rfl))) (de_fn1 (call_reprD guards (hu100 room)) cs_repr T.n_repr bt_repr (de_list (df_cons (de_take (i := 5) rfl (.inl rfl)) (df_cons (de_take (i := 6) rfl (.inl rfl)) (df_cons (de_take (i := 7) rfl (.inl rfl)) (df_nil (μ := true)))))))) (dw_or1 (dt_cmp (op_neD (hu64 room)) os_ne (de_fn1 (call_reprD guards (hu100 room)) cs_repr T.n_repr bt_repr (de_var (i := 2) rfl (.inl rfl))) (de_var (i := 3) rfl (.inl rfl)))))) (dss_one (ds_ret de_bl)) dss_nil) (dss_cons (ds_if (dt_cmp (op_neD (hu64 room)) os_ne (de_fn1 (call_reprD guards (hu100 room)) cs_repr T.n_repr bt_repr (de_lc (own := [("_law_place", 15)]) 0 rfl sc__law_right.nd (di_range1 T.n_range (de_fn1 Lk.call_lenD cs_len T.n_len bt_len (de_var (i := 8) rfl (.inl rfl)))) (blkOk_by (by rfl)) (by decide +kernel) (fun _ _ _ _ _ => tg_name (i := 15) sc__law_right.nd rfl (.inl rfl) (show 15 ∉ (oth 17 [15]) from by decide +kernel)) (fun _ _ _ _ _ => (dts_nil (μ := true))) (fun _ _ _ _ _ => de_meth (mx_Country_neighbours T) (by decide) room guards bp_Country_neighbours (de_take (i := 4) rfl (.inr (.inl rfl))) (df_cons (de_take (i := 15) rfl (.inl rfl)) (df_nil (μ := true)))))) (de_fn1 (call_reprD guards (hu100 room)) cs_repr T.n_repr bt_repr (de_var (i := 8) rfl (.inl rfl)))) (dss_one (ds_ret de_bl)) dss_nil) (dss_cons (ds_set (i := 10) sc__law_right.nd rfl (.inl rfl) (by decide +kernel) (de_list (df_nil (μ := true)))) (dss_cons (ds_for PassesOwn.never rfl (di_seq (de_take (i := 7) rfl (.inl rfl))) (tg_name (i := 11) sc__law_right.nd rfl (.inr rfl) (show 11 ∉ [0] from by decide +kernel)) (dss_one (ds_expr (de_extend (i := 10) rfl (.inl rfl) (de_lc (own := [("_law_end", 16)]) 0 rfl sc__law_right.nd (di_seq (de_take (i := 7) rfl (.inl rfl))) (blkOk_by (by rfl)) (by decide +kernel) (fun _ _ _ _ _ => tg_name (i := 16) sc__law_right.nd rfl (.inl rfl) (show 16 ∉ (oth 17 [16]) from by decide +kernel)) (fun _ _ _ _ _ => dts_one (dt_cmp (op_neD (hu64 room)) os_ne (de_var (i := 16) rfl (.inl rfl)) (de_var (i := 11) rfl (.inr (.inl rfl))))) (fun _ _ _ _ _ => de_tup (df_cons (de_take (i := 11) rfl (.inr (.inl rfl))) (df_cons (de_take (i := 16) rfl (.inl rfl)) (df_nil (μ := true)))))))))) (dss_cons (ds_if (dt_bool (dw_or (dt_cmp (op_neD (hu64 room)) os_ne (de_call (fx_all_ways T) (by decide) room guards bp_all_ways (df_cons (de_take (i := 4) rfl (.inr (.inl rfl))) (df_nil (μ := true)))) (de_var (i := 10) rfl (.inl rfl))) (dw_or1 (dt_cmp (op_neD (hu64 room)) os_ne (de_fn1 (call_reprD guards (hu100 room)) cs_repr T.n_repr bt_repr (de_callK0 (ks := ["country"]) (ix := [0]) 1 (fx_all_ways T) (by decide) room guards (fun _ _ _ _ _ _ us ws h1 h2 => match us, ws, h1, h2 with | [], [_], _, _ => rfl) rfl (dk_cons (de_take (i := 4) rfl (.inr (.inl rfl))) (dk_nil (μ := true))))) (de_fn1 (call_reprD guards (hu100 room)) cs_repr T.n_repr bt_repr (de_var (i := 10) rfl (.inl rfl))))))) (dss_one (ds_ret de_bl)) dss_nil) (dss_cons (ds_set (i := 9) sc__law_right.nd rfl (.inl rfl) (by decide +kernel) (de_cat2 (de_move (i := 9) rfl (.inl rfl)) (de_list2 (dl2_cons (de_methK (ks := ["place"]) (n := 1) (mx_Country_neighbours T) (by decide) room guards (fun _ _ _ _ _ _ u ws h => match ws, h with | [_], _ => rfl) rfl (de_take (i := 4) rfl (.inr (.inl rfl))) (dk_cons (de_ix (de_var (i := 7) rfl (.inl rfl)) de_int) (dk_nil (μ := true)))) (dl2_cons (de_call (fx_all_ways T) (by decide) room guards bp_all_ways (df_cons (de_take (i := 4) rfl (.inr (.inl rfl))) (df_nil (μ := true)))) dl2_nil))))) (dss_cons (ds_each (i := 9) (j := 12) rfl sc__law_right.nd rfl (.inl rfl) rfl rfl (.inl rfl) (by decide) (by decide +kernel) (by decide +kernel) PassesOwn.never) (dss_cons (ds_if (dt_val (de_isi T.n_isinstance T.n_list bt_list rfl (de_var (i := 2) rfl (.inl rfl)))) (dss_one (ds_expr (de_append (i := 2) rfl (.inl rfl) (de_tup (df_cons de_int (df_cons de_int (df_nil (μ := true)))))))) dss_nil) (dss_cons (ds_set (i := 9) sc__law_right.nd rfl (.inl rfl) (by decide +kernel) (de_list2 (dl2_cons (de_prop (px_Country_lanes T) (by decide) room guards bp_Country_lanes (de_take (i := 4) rfl (.inr (.inl rfl)))) (dl2_cons (de_prop (px_Country_yards T) (by decide) room guards bp_Country_yards (de_take (i := 4) rfl (.inr (.inl rfl)))) (dl2_cons (de_prop (px_Country_gates T) (by decide) room guards bp_Country_gates (de_take (i := 4) rfl (.inr (.inl rfl)))) (dl2_cons (de_meth (mx_Country_neighbours T) (by decide) room guards bp_Country_neighbours (de_take (i := 4) rfl (.inr (.inl rfl))) (df_cons (de_ix (de_var (i := 7) rfl (.inl rfl)) de_int) (df_nil (μ := true)))) dl2_nil)))))) (dss_cons (ds_if (dt_cmp (op_neD (hu64 room)) os_ne (de_fn1 (call_reprD guards (hu100 room)) cs_repr T.n_repr bt_repr (de_var (i := 9) rfl (.inl rfl))) (de_fn1 (call_reprD guards (hu100 room)) cs_repr T.n_repr bt_repr (de_list (df_cons (de_take (i := 5) rfl (.inl rfl)) (df_cons (de_take (i := 6) rfl (.inl rfl)) (df_cons (de_take (i := 7) rfl (.inl rfl)) (df_cons (de_ix (de_var (i := 8) rfl (.inl rfl)) (de_ix (de_var (i := 7) rfl (.inl rfl)) de_int)) (df_nil (μ := true))))))))) (dss_one (ds_ret de_bl)) dss_nil) (dss_cons (ds_set (i := 13) sc__law_right.nd rfl (.inl rfl) (by decide +kernel) (de_callR (fx__law_other T) (by decide) room guards bp__law_other (dg_r (i := 0) rfl (.inl rfl) (dg_v ((de_take (i := 1) rfl (.inr (.inl rfl))).low) dg_nil)))) (dss_cons (ds_if (dt_bool (dw_and (dt_cmp op_notN os_isnot (de_var (i := 13) rfl (.inl rfl)) de_non) (dw_and1 (dt_cmp op_notBl os_isnotB (de_cmp (opr_or (op_eqI (ex_Country T) (by decide) room guards bp_Country_eq) (op_eqD (hu64 room))) os_eqI (de_var (i := 4) rfl (.inr (.inl rfl))) (de_make (cx_Country T) (by decide) room guards bp_Country_init (df_cons (de_take (i := 13) rfl (.inl rfl)) (df_nil (μ := true))))) de_bl)))) (dss_one (ds_ret de_bl)) dss_nil) (dss_cons (ds_if (dt_bool (dw_or (dt_cmp op_notBl os_isnotB (de_cmpS (opr_or (op_eqI (ex_Country T) (by decide) room guards bp_Country_eq) (op_eqD (hu64 room))) os_eqI ((de_var (i := 4) rfl (.inr (.inl rfl))).low) (de_makeK (ks := ["lanes"]) (n := 1) (cx_Country T) (by decide) room guards (fun _ _ _ _ _ _ u ws h => match ws, h with | [_], _ => rfl) rfl (dk_cons (de_take (i := 1) rfl (.inr (.inl rfl))) (dk_nil (μ := true))))) de_bl) (dw_or1 ((dt_cmp op_notBl os_isnotB (de_cmp (opr_or (op_eqI (ex_Country T) (by decide) room guards bp_Country_eq) (op_eqD (hu64 room))) os_eqI (de_var (i := 4) rfl (.inr (.inl rfl))) (de_var (i := 5) rfl (.inl rfl))) de_bl).low)))) (dss_one (ds_ret de_bl)) dss_nil) (dss_one (ds_ret (de_cmp op_isBl os_isB (de_cmp (opr_or (op_neI (ex_Country T) (by decide) room guards bp_Country_eq) (op_neD (hu64 room))) os_neI (de_var (i := 4) rfl (.inr (.inl rfl))) (de_make (cx_Country T) (by decide) room guards bp_Country_init (df_cons (de_rev (de_var (i := 5) rfl (.inl rfl))) (df_nil (μ := true))))) de_bl))))))))))))))))))))))
/-! _law_pot(_law_script, _law_k): 0 _law_script, 1 _law_k, 2 _law_cell, 3 _law_low -/
theorem sc__law_pot : FnScope ["_law_script", "_law_k", "_law_cell", "_law_low"] ["_law_script", "_law_k"] (defScope s__law_pot) := ⟨rfl, rfl, rfl, by decide +kernel, rfl, by decide +kernel, by decide +kernel⟩
theorem bp__law_pot : BindP "_law_pot" "_law_pot" s__law_pot ["_law_script", "_law_k"] := fun _ _ _ _ _ _ us hl => match us, hl with | [_, _], _ => rfl
def m__law_pot : Fn := fnM 4 2 [0, 1] (mSeq (mSet 2 (mIf (mB (mBin fLt (mV 1) (mUn fLen (mV 0)))) (mUn fAbs (mIx (mV 0) (mV 1))) (mBin fAdd (mBin fMul (mC (.int 709)) (mV 1)) (mC (.int 313))))) (mSeq (mSet 3 (mBin fAdd (mBin fMod (mUn fInt (mBin fAdd (mBin fAdd (mBin fMul (mBin fMod (mUn fInt (mV 2)) (mC (.int 2147483549))) (mC (.int 69621))) (mBin fMul (mC (.int 9103)) (mV 1))) (mC (.int 103)))) (mC (.int 2147483563))) (mC (.int 1)))) (mRet (mLst (mF1 (mBinS fMax2 (mC (.int 0)) (mBin fSub (mV 2) (mBin fPow (mC (.int 10)) (mC (.int 18))))) (mF1 (mT 3) mF0))))))
theorem fx__law_pot (T : Txt K mg) : FnX P w K mg base 1 "_law_pot" "_law_pot" s__law_pot ["_law_script", "_law_k"] m__law_pot := by
  obtain ⟨f, fd, Fd, hm⟩ := T.F__law_pot
  refine ⟨f, fd, fnG_of Fd sc__law_pot (pr := [0, 1]) fun f cdv A outer s H X hX room guards => ?_, Fd, hm⟩
  subst hX
  exact dss_cons (ds_set (i := 2) sc__law_pot.nd rfl (.inl rfl) (by decide +kernel) (de_if (dt_cmp op_lt os_lt (de_var (i := 1) rfl (.inl rfl)) (de_fn1 Lk.call_lenD cs_len T.n_len bt_len (de_var (i := 0) rfl (.inl rfl)))) (de_fn1 call_abs cs_abs T.n_abs bt_abs (de_ix (de_var (i := 0) rfl (.inl rfl)) (de_var (i := 1) rfl (.inl rfl)))) (de_bin op_addD os_add (de_bin op_mulD os_mul de_int (de_var (i := 1) rfl (.inl rfl))) de_int))) (dss_cons (ds_set (i := 3) sc__law_pot.nd rfl (.inl rfl) (by decide +kernel) (de_bin op_addD os_add (de_bin op_mod os_mod (de_ty1 call_int1 cs_int T.n_int bt_int (de_bin op_addD os_add (de_bin op_addD os_add (de_bin op_mulD os_mul (de_bin op_mod os_mod (de_ty1 call_int1 cs_int T.n_int bt_int (de_var (i := 2) rfl (.inl rfl))) de_int) de_int) (de_bin op_mulD os_mul de_int (de_var (i := 1) rfl (.inl rfl)))) de_int)) de_int) de_int)) (dss_one (ds_ret (de_list (df_cons (de_fn2 (call_max2 rfl) cs_max2 T.n_max bt_max de_int (de_bin op_sub os_sub (de_var (i := 2) rfl (.inl rfl)) (de_bin op_pow os_pow de_int de_int))) (df_cons (de_take (i := 3) rfl (.inl rfl)) (df_nil (μ := true))))))))
/-! law(_law_script): 0 _law_script -/
theorem sc_law : FnScope ["_law_script"] ["_law_script"] (defScope s_law) := ⟨rfl, rfl, rfl, by decide +kernel, rfl, by decide +kernel, by decide +kernel⟩
theorem bp_law : BindP "law" "law" s_law ["_law_script"] := fun _ _ _ _ _ _ us hl => match us, hl with | [_], _ => rfl
def m_law : Fn := fnM 1 1 [0] (mRet (mCallH m__law_right (mCall 2 m__law_pot (mF1 (mT 0) (mF1 (mC (.int 0)) mF0)))))
theorem fg_law (T : Txt K mg) {f : Addr} {fd : FuncData} (Fd : Fun K "law" "law" s_law f fd) : FnG P w K mg base 8 f fd ["_law_script"] m_law := by
  refine fnG_of Fd sc_law (pr := [0]) fun f cdv A outer s H X hX room guards => ?_
  subst hX
  exact dss_one (ds_ret (de_callH (fx__law_right T) (by decide) room guards bp__law_right (de_call (fx__law_pot T) (by decide) room guards bp__law_pot (df_cons (de_take (i := 0) rfl (.inl rfl)) (df_cons de_int (df_nil (μ := true)))))))
end
end K11

set_option Elab.async false
set_option linter.all false
set_option maxRecDepth 100000
namespace K11
open PySem L2 PySem.Spec Lk Tr
@[simp] theorem e_is_integer (n : Int) : m_is_integer [⟨0, .int n⟩] = some (⟨false, 0, .bool true⟩, [some ⟨0, .int n⟩]) := by
  simp [m_is_integer]
@[simp] theorem e_is_count (n : Nat) : m_is_count [⟨0, dI n⟩] = some (⟨true, 0, .bool true⟩, [some ⟨0, dI n⟩]) := by
  simp [m_is_count]
@[simp] theorem e_is_listL (l : List D) : m_is_list [⟨0, .list l⟩] = some (⟨true, 0, .bool true⟩, [some ⟨0, .list l⟩]) := by
  simp [m_is_list]
@[simp] theorem e_is_listT (l : List D) : m_is_list [⟨0, .tuple l⟩] = some (⟨true, 0, .bool true⟩, [some ⟨0, .tuple l⟩]) := by
  simp [m_is_list]
theorem e_lane_in (p : Nat × Nat) (h : p.1 ≠ p.2) : m_lane_in [⟨0, dP p⟩] = some (⟨false, 0, dP (min p.1 p.2, max p.1 p.2)⟩, [some ⟨0, dP p⟩]) := by
  obtain ⟨a, b⟩ := p
  have h1 : mLc 0 [1] (mIq (mT 0)) (bN 1) mYes (mCall 1 m_is_count (mF1 (mT 1) mF0)) [some ⟨0, dP (a, b)⟩, none] = some (⟨true, 1, .list [.bool true, .bool true]⟩, [some ⟨0, dP (a, b)⟩, none]) := by
    have := lc_all2 (kk := 0) (vs := [1]) (mi := mIq (mT 0)) (b := bN 1) (me := mCall 1 m_is_count (mF1 (mT 1) mF0)) (ρ := [some ⟨0, dP (a, b)⟩, none]) (ρ0 := [some ⟨0, dP (a, b)⟩, none]) (g := dI) [a, b] (fun _ => .bool true) (by simp) (by simp) (fun x hx => by simp)
    simpa using this
  have e : ¬ (a : Int) = (b : Int) := by intro e; exact h (by show a = b; omega)
  have i0 : atI [dI a, dI b] 0 = some (dI a) := rfl
  have i1 : atI [dI a, dI b] 1 = some (dI b) := rfl
  have m1 : (if b < a then (b : Int) else (a : Int)) = ((min a b : Nat) : Int) := by split <;> omega
  have m2 : (if a < b then (b : Int) else (a : Int)) = ((max a b : Nat) : Int) := by split <;> omega
  simp [m_lane_in, h1, fAll, fBs, bools, i0, i1, e, m1, m2]
theorem Fp.eq {o : Option (R × List (Option B))} {r0 : R} {o0 : List (Option B)} (h : Fp o fun r outs => r = r0 ∧ outs = o0) : o = some (r0, o0) := by
  obtain ⟨r, outs, e, rfl, rfl⟩ := h
  exact e
/-- the rows of neighbours -/
def tiesL (L : List (Nat × Nat)) : List (List Nat) := (List.range (L.length + 1)).map fun p => sortN (nb L p)
theorem e_ties_of (L : List (Nat × Nat)) (hle : ∀ e ∈ L, e.1 ≤ L.length ∧ e.2 ≤ L.length ∧ e.1 ≠ e.2) (hs : L.length ≤ 100) : m_ties_of [⟨0, dPs L⟩] = some (⟨true, 1, dLL (tiesL L)⟩, [some ⟨0, dPs L⟩]) := by
  apply Fp.eq
  unfold m_ties_of
  refine fp_fn (wp_seq (wp_set ?_))
  have h1 : mLc 1 [4] (mR1 (mBin fAdd (mUn fLen (mV 0)) (mC (.int 1)))) (bN 4) mYes (mLst mF0) [some ⟨0, dPs L⟩, none, none, none, none, none] = some (⟨true, 2, dLL ((List.range (L.length + 1)).map fun p => nb [] p)⟩, [some ⟨0, dPs L⟩, none, none, none, none, none]) := by
    have := lc_all2 (kk := 1) (vs := [4]) (mi := mR1 (mBin fAdd (mUn fLen (mV 0)) (mC (.int 1)))) (b := bN 4) (me := mLst mF0) (ρ := [some ⟨0, dPs L⟩, none, none, none, none, none]) (ρ0 := [some ⟨0, dPs L⟩, none, none, none, none, none]) (g := fun i : Nat => PyData.int (i : Int)) (List.range (L.length + 1)) (fun _ => .list []) (by
      have e : ((L.length : Int) + 1).toNat = L.length + 1 := by omega
      have b1 : (-1000000000 : Int) ≤ (L.length : Int) + 1 ∧ (L.length : Int) + 1 ≤ 1000000000 := by omega
      simp [e, dInts_nat, b1]) (by simp; omega) (fun x hx => by simp)
    rw [this]
    simp [nb]
  simp only [List.map, List.replicate, List.append_eq, List.cons_append, List.nil_append]
  rw [h1]
  simp only [wp_some, List.length_cons, List.length_nil]
  refine ⟨rfl, by omega, ?_⟩
  refine wp_seq (wp_for (L.map dP) (fun i ρ => ∃ x y, ρ = [some ⟨0, dPs L⟩, some ⟨2, dLL ((List.range (L.length + 1)).map fun p => nb (L.take i) p)⟩, x, y, none, none]) ?_ ?_ ?_)
  · simp
  · rintro i d ρ hd ⟨x, y, rfl⟩
    obtain ⟨⟨a, b⟩, hp, rfl⟩ : ∃ p, L[i]? = some p ∧ d = dP p := by
      rw [List.getElem?_map] at hd
      cases e : L[i]? with
      | none => rw [e] at hd; cases hd
      | some p => rw [e] at hd; cases hd; exact ⟨p, rfl, rfl⟩
    obtain ⟨la, lb, hab⟩ := hle _ (List.mem_of_getElem? hp)
    simp only at la lb hab
    have hlt : i < L.length := (List.getElem?_eq_some_iff.mp hp).1
    have tk : L.take (i + 1) = L.take i ++ [(a, b)] := by rw [List.take_succ, hp]; rfl
    refine ⟨[some ⟨0, dPs L⟩, some ⟨2, dLL ((List.range (L.length + 1)).map fun p => nb (L.take i) p)⟩, some ⟨0, dI a⟩, some ⟨0, dI b⟩, none, none], by simp, ?_⟩
    have ll : ∀ p, (nb (L.take i) p).length ≤ 200 := fun p => by
      have := nb_len (L.take i) p
      rw [List.length_take] at this
      omega
    refine wp_seq (wp_drop ?_)
    rw [appIx_eq (rows := (List.range (L.length + 1)).map fun p => nb (L.take i) p) (a := a) (x := b) (f := false) (r := ⟨false, 0, dI b⟩) (ρ2 := [some ⟨0, dPs L⟩, some ⟨2, dLL ((List.range (L.length + 1)).map fun p => nb (L.take i) p)⟩, some ⟨0, dI a⟩, some ⟨0, dI b⟩, none, none]) (by simp) (by simp) (by simp; omega) (by simp) (by simp) rfl (by simp) (by have := ll a; simp; omega)]
    simp only [wp_some]
    refine wp_drop ?_
    rw [appIx_eq (rows := ((List.range (L.length + 1)).map fun p => nb (L.take i) p).set a (nb (L.take i) a ++ [b])) (a := b) (x := a) (f := false) (r := ⟨false, 0, dI a⟩) (ρ2 := [some ⟨0, dPs L⟩, some ⟨2, dLL (((List.range (L.length + 1)).map fun p => nb (L.take i) p).set a (nb (L.take i) a ++ [b]))⟩, some ⟨0, dI a⟩, some ⟨0, dI b⟩, none, none]) (by simp) (by simp) (by simp; omega) (by simp) (by simp) rfl (by simp) (by have := ll b; simp [List.getElem_set, hab]; omega)]
    simp only [wp_some]
    refine ⟨some ⟨0, dI a⟩, some ⟨0, dI b⟩, ?_⟩
    have st := rows_step (L.take i) la lb hab
    rw [tk, ← st]
    simp [List.getElem_set, hab]
  · rintro ρ ⟨x, y, rfl⟩
    rw [List.length_map, List.take_length]
    simp only
    refine wp_ret ?_
    have h2 := lc_all2 (kk := 0) (vs := [5]) (mi := mIq (mT 1)) (b := bN 5) (me := mUn fSorted (mV 5)) (ρ := [some ⟨0, dPs L⟩, some ⟨2, dLL ((List.range (L.length + 1)).map fun p => nb L p)⟩, x, y, none, none]) (ρ0 := [some ⟨0, dPs L⟩, some ⟨0, dLL ((List.range (L.length + 1)).map fun p => nb L p)⟩, x, y, none, none]) (g := dL) ((List.range (L.length + 1)).map fun p => nb L p) (fun r => dL (sortN r)) (by simp) (by simp; omega) (fun r hr => by
      obtain ⟨p, _, rfl⟩ := List.mem_map.mp hr
      have := nb_len L p
      have hs := fSorted_dL (k := 0) (l := nb L p) (by omega) (by simp; omega)
      simp [hs])
    rw [h2]
    simp [tiesL, Function.comp_def]
@[simp] theorem pop_snoc (ds : List D) (d : D) : fPop (ds ++ [d]) = some (d, ds) := by
  unfold fPop
  simp
@[simp] theorem x_pop_map (l : List Nat) (a : Nat) : fPop ((l ++ [a]).map dI) = some (dI a, l.map dI) := by
  rw [List.map_append]
  exact pop_snoc _ _
theorem atI_rows {rows : List (List Nat)} {a : Nat} (h : a < rows.length) : atI (rows.map dL) (a : Int) = some (dL (rows.getD a [])) := by
  rw [atI_map h]
  simp [h]
theorem ne_nil (l : List Nat) (k : Nat) : fNe k (dL l) 1 (.list []) = some (0, .bool (!decide (l = []))) := fNe_nil
theorem e_is_whole {n : Nat} {A : Nat → Nat → Prop} (T : Tree n A) (rows : List (List Nat)) (hl : rows.length = n + 1) (hr : ∀ a, a ≤ n → ∀ p, p ∈ rows.getD a [] ↔ A a p) (hn : n ≤ 1000) :
    m_is_whole [⟨0, dLL rows⟩] = some (⟨true, 0, .bool true⟩, [some ⟨0, dLL rows⟩]) := by
  apply Fp.eq
  unfold m_is_whole
  refine fp_fn (wp_seq (wp_par ?_))
  simp only [List.map, List.replicate, List.append_eq, List.cons_append, List.nil_append]
  have z : PyData.int 0 = dI 0 := rfl
  simp [z]
  have w := dfs (n := n) (y := 0) (S := fun met wait x => [some ⟨0, dLL rows⟩, some ⟨1, dL met⟩, some ⟨1, dL wait⟩, x]) (row := fun a => rows.getD a []) (ok := fun _ => true) (t := mB (mBin fNe (mV 2) (mLst mF0))) (mi := mIq (mIxS (mV 0) (mMet0 2 fPop))) (b := bN 3) (c := mCond (mB (mBin (fIn true) (mV 3) (mV 1))) (mSeq (mDrop (mMet 1 fApp (mT 3))) (mDrop (mMet 2 fApp (mT 3)))) mNx) (fuel := fuel) (x0 := none)
    (by unfold fuel; omega) (Nat.zero_le _) (fun a ha p hp => T.le _ _ (T.sym _ _ ((hr a ha p).mp hp)))
    (fun met wait x => by simp [ne_nil]) (fun met wait a x ha => by
      have := atI_rows (rows := rows) (a := a) (by omega)
      simp [this]) (fun p met wait x => by simp) (fun p met wait hp h1 h2 => by
      by_cases hm : p ∈ met
      · simp [fIn_dL, hm]
      · have l1 : met.length < 1000000 := by omega
        have l2 : wait.length < 1000000 := by omega
        simp [fIn_dL, hm, l1, l2])
  refine wp_seq (w.mono ?_)
  rintro fl ρ ⟨rfl, met, x, rfl, m1, m2, m3, m4, m5⟩
  have all := T.conn (C := fun p => p ∈ met) (Nat.zero_le _) m3 fun a b ha hab => m4 a ha b ((hr a (m2 a ha) b).mpr hab) rfl
  have ln := nodup_all m1 m2 all
  simp [ln, hl]
theorem none_set : ∀ {l : List D} {i : Nat} {d : D}, l[i]? = some .none → isNoneD d = false → ((l.set i d).filter isNoneD).length + 1 = (l.filter isNoneD).length
  | [], _, _, h, _ => by simp at h
  | x :: l, 0, d, h, hd => by
    simp at h; subst h
    rw [List.set_cons_zero, List.filter_cons_of_neg (by simp [hd]), List.filter_cons_of_pos rfl, List.length_cons]
  | x :: l, i + 1, d, h, hd => by
    have := none_set (l := l) (i := i) (d := d) (by simpa using h) hd
    rw [List.set_cons_succ]
    cases hx : isNoneD x <;> simp [hx] <;> omega
theorem x_fMulL (ka : Nat) (xs : List D) (j : Int) : fMul ka (.list xs) 0 (.int j) = (if ka ≤ 1 ∧ 0 = 0 ∧ -1000000000 ≤ j ∧ j ≤ 1000000000 ∧ xs.length * j.toNat ≤ lim then some (1, .list (List.replicate j.toNat xs).flatten) else none) := rfl
theorem e_ahead_of {n g : Nat} (rows : List (List Nat)) (hl : rows.length = n + 1) (hg : g ≤ n) (hr : ∀ a, a ≤ n → ∀ p ∈ rows.getD a [], p ≤ n) (hn : n ≤ 1000) :
    ∃ found : List D, m_ahead_of [⟨0, dLL rows⟩, ⟨0, dI g⟩] = some (⟨true, 1, .list found⟩, [some ⟨0, dLL rows⟩, some ⟨0, dI g⟩]) := by
  have fin : Fp (m_ahead_of [⟨0, dLL rows⟩, ⟨0, dI g⟩]) fun r outs => outs = [some ⟨0, dLL rows⟩, some ⟨0, dI g⟩] ∧ ∃ found : List D, r = ⟨true, 1, .list found⟩ := by
    unfold m_ahead_of
    refine fp_fn (wp_seq (wp_par ?_))
    simp only [List.map, List.replicate, List.append_eq, List.cons_append, List.nil_append]
    have e1 : ((n : Int) + 1).toNat = n + 1 := by omega
    have b1 : (-1000000000 : Int) ≤ (n : Int) + 1 ∧ (n : Int) + 1 ≤ 1000000000 ∧ n + 1 ≤ 1000000 := by omega
    have hmul : fMul 1 (.list [.none]) 0 (.int (rows.length : Int)) = some (1, .list (List.replicate (n + 1) .none)) := by
      rw [hl, x_fMulL]
      simp [e1, b1]
    have i1 : ixN (n + 1) (g : Int) = some g := ixN_nat (by omega)
    simp [hmul, i1]
    refine wp_seq ?_
    refine (wp_while (fun k ρ => ∃ (found : List D) (wait : List Nat) (x y : Option B), ρ = [some ⟨0, dLL rows⟩, some ⟨0, dI g⟩, some ⟨1, .list found⟩, some ⟨1, dL wait⟩, x, y] ∧ found.length = n + 1 ∧ (∀ p ∈ wait, p ≤ n) ∧ 2 * (found.filter isNoneD).length + wait.length ≤ k ∧ k ≤ 2 * (n + 2)) ?_ (2 * (n + 2)) fuel _ ⟨_, [g], _, _, rfl, by simp, by simpa using hg, ?_, Nat.le_refl _⟩ (by unfold fuel; omega) (Q := fun fl ρ => fl = .nx ∧ ∃ (found : List D) (wait : List Nat) (x y : Option B), ρ = [some ⟨0, dLL rows⟩, some ⟨0, dI g⟩, some ⟨1, .list found⟩, some ⟨1, dL wait⟩, x, y])).mono ?_
    · rintro k ρ ⟨found, wait, x, y, rfl, f1, f2, f3, f4⟩
      by_cases hw : wait = []
      · subst hw
        simp [ne_nil]
      · obtain ⟨w, a, rfl⟩ : ∃ w a, wait = w ++ [a] := ⟨wait.dropLast, wait.getLast hw, (List.dropLast_concat_getLast hw).symm⟩
        have an : a ≤ n := f2 a (by simp)
        have ar := atI_rows (rows := rows) (a := a) (by omega)
        have nn := ne_nil (w ++ [a]) 1
        simp only [dL] at nn
        simp only [x_mB, x_mBin, x_mV, x_mLst, x_mF0, List.getElem?_cons_zero, List.getElem?_cons_succ, List.length_nil, Nat.zero_le, if_true, nn, wp_some]
        simp
        refine (wp_for (Q := fun fl ρ2 => fl = .nx ∧ ∃ (found : List D) (wait : List Nat) (x y : Option B), ρ2 = [some ⟨0, dLL rows⟩, some ⟨0, dI g⟩, some ⟨1, .list found⟩, some ⟨1, dL wait⟩, x, y] ∧ found.length = n + 1 ∧ (∀ p ∈ wait, p ≤ n) ∧ 2 * (found.filter isNoneD).length + wait.length + 1 ≤ k) ((rows.getD a []).map dI) (fun i ρ2 => ∃ (found : List D) (wait : List Nat) (y : Option B), ρ2 = [some ⟨0, dLL rows⟩, some ⟨0, dI g⟩, some ⟨1, .list found⟩, some ⟨1, dL wait⟩, some ⟨0, dI a⟩, y] ∧ found.length = n + 1 ∧ (∀ p ∈ wait, p ≤ n) ∧ 2 * (found.filter isNoneD).length + wait.length + 1 ≤ k) ?_ ?_ ?_).mono ?_
        · simp [ar]
          exact ⟨found, w, ⟨rfl, rfl⟩, f1, fun p hp => f2 p (List.mem_append_left _ hp), by simpa [Nat.add_assoc] using f3⟩
        · rintro i d ρ hd ⟨found, wait, y, rfl, f1, f2, f3⟩
          obtain ⟨p, hp, rfl⟩ : ∃ p, (rows.getD a [])[i]? = some p ∧ d = dI p := by
            rw [List.getElem?_map] at hd
            cases e : (rows.getD a [])[i]? with
            | none => rw [e] at hd; cases hd
            | some p => rw [e] at hd; cases hd; exact ⟨p, rfl, rfl⟩
          have pn := hr a an p (List.mem_of_getElem? hp)
          have i2 : ixN found.length (p : Int) = some p := ixN_nat (by omega)
          have hpl : p < found.length := by omega
          have g2 : found[p]? = some found[p] := by simp [hpl]
          have a2 : atI found (p : Int) = some found[p] := by simp [atI, i2, g2]
          refine ⟨_, rfl, ?_⟩
          cases hz : isNoneD found[p] with
          | true =>
            have hz2 : found[p]? = some .none := by
              rw [g2]
              cases hq : found[p] <;> rw [hq] at hz <;> simp [isNoneD] at hz
            have cnt := none_set (i := p) (d := dI a) hz2 rfl
            have l2 : wait.length < 1000000 := by omega
            simp [a2, hz, i2, l2]
            exact ⟨found.set p (dI a), wait ++ [p], ⟨rfl, by simp⟩, by simp [f1], fun q hq => by
              rcases List.mem_append.mp hq with h | h
              · exact f2 q h
              · rw [List.mem_singleton] at h; omega, by rw [List.length_append, List.length_singleton]; omega⟩
          | false =>
            simp [a2, hz]
            exact ⟨found, wait, ⟨rfl, rfl⟩, f1, f2, f3⟩
        · rintro ρ ⟨found, wait, y, rfl, f1, f2, f3⟩
          exact ⟨rfl, found, wait, _, y, rfl, f1, f2, f3⟩
        · rintro fl ρ2 ⟨rfl, found, wait, x, y, rfl, f1, f2, f3⟩
          exact ⟨k - 1, by omega, found, wait, ⟨x, y, rfl⟩, f1, f2, by omega, by omega⟩
    · have := List.length_filter_le isNoneD ((List.replicate (n + 1) (PyData.none)).set g (dI g))
      simp at this
      simp
      omega
    · rintro fl ρ ⟨rfl, found, wait, x, y, rfl⟩
      simp
  obtain ⟨r, outs, e, rfl, found, rfl⟩ := fin
  exact ⟨found, e⟩
/-! ### a good list of lanes -/
def Adj (L : List (Nat × Nat)) (a b : Nat) : Prop := (a, b) ∈ L ∨ (b, a) ∈ L
def mm (p : Nat × Nat) : Nat × Nat := (min p.1 p.2, max p.1 p.2)
def yardsL (L : List (Nat × Nat)) : List Nat := (List.range (L.length + 1)).filter fun p => decide (1 < (nb L p).length)
structure Good (L : List (Nat × Nat)) : Prop where
  tree : Tree L.length (Adj L)
  nd : (L.map mm).Nodup
  few : L.length ≤ 28
  deg : ∀ p, p ≤ L.length → (nb L p).length ≤ 4
  y1 : 1 ≤ (yardsL L).length
  y7 : (yardsL L).length ≤ 7
theorem Good.le {L : List (Nat × Nat)} (g : Good L) {e : Nat × Nat} (h : e ∈ L) : e.1 ≤ L.length ∧ e.2 ≤ L.length ∧ e.1 ≠ e.2 := by
  have h1 : Adj L e.1 e.2 := .inl h
  exact ⟨g.tree.le _ _ h1, g.tree.le _ _ (g.tree.sym _ _ h1), g.tree.ne h1⟩
theorem nb_mm {L : List (Nat × Nat)} (h : ∀ e ∈ L, e.1 ≠ e.2) (p : Nat) : nb (L.map mm) p = nb L p := by
  unfold nb
  rw [List.flatMap_map]
  induction L with
  | nil => rfl
  | cons e L ih =>
    rw [List.flatMap_cons, List.flatMap_cons, ih fun x hx => h x (List.mem_cons_of_mem _ hx)]
    congr 1
    obtain ⟨a, b⟩ := e
    have hab : a ≠ b := h (a, b) List.mem_cons_self
    simp only [mm]
    by_cases h1 : a = p
    · subst h1
      have : ¬ b = a := fun e => hab e.symm
      rcases Nat.lt_or_gt_of_ne hab with q | q
      · simp [Nat.min_eq_left (Nat.le_of_lt q), Nat.max_eq_right (Nat.le_of_lt q), this]
      · simp [Nat.min_eq_right (Nat.le_of_lt q), Nat.max_eq_left (Nat.le_of_lt q), this]
    · by_cases h2 : b = p
      · subst h2
        rcases Nat.lt_or_gt_of_ne hab with q | q
        · simp [Nat.min_eq_left (Nat.le_of_lt q), Nat.max_eq_right (Nat.le_of_lt q), h1]
        · simp [Nat.min_eq_right (Nat.le_of_lt q), Nat.max_eq_left (Nat.le_of_lt q), h1]
      · rcases Nat.lt_or_gt_of_ne hab with q | q
        · simp [Nat.min_eq_left (Nat.le_of_lt q), Nat.max_eq_right (Nat.le_of_lt q), h1, h2]
        · simp [Nat.min_eq_right (Nat.le_of_lt q), Nat.max_eq_left (Nat.le_of_lt q), h1, h2]
theorem tiesL_mm {L : List (Nat × Nat)} (h : ∀ e ∈ L, e.1 ≠ e.2) : tiesL (L.map mm) = tiesL L := by
  unfold tiesL
  rw [List.length_map]
  exact List.map_congr_left fun p _ => by rw [nb_mm h]
theorem tiesL_perm {L M : List (Nat × Nat)} (h : L.Perm M) : tiesL L = tiesL M := by
  unfold tiesL
  rw [h.length_eq]
  exact List.map_congr_left fun p _ => sortN_eq (nb_perm h p)
theorem mm_le {L : List (Nat × Nat)} (g : Good L) : ∀ e ∈ L.map mm, e.1 ≤ (L.map mm).length ∧ e.2 ≤ (L.map mm).length ∧ e.1 ≠ e.2 := by
  intro e he
  obtain ⟨⟨a, b⟩, hx, rfl⟩ := List.mem_map.mp he
  have := g.le hx
  simp only [mm, List.length_map] at *
  omega
theorem tiesL_get (L : List (Nat × Nat)) {a : Nat} (h : a ≤ L.length) : (tiesL L).getD a [] = sortN (nb L a) := by
  unfold tiesL
  rw [List.getD_eq_getElem?_getD, List.getElem?_map, List.getElem?_range (by omega)]
  rfl
theorem mem_ties {L : List (Nat × Nat)} {a : Nat} (h : a ≤ L.length) (p : Nat) : p ∈ (tiesL L).getD a [] ↔ Adj L a p := by
  rw [tiesL_get L h, (sortN_perm _).mem_iff, mem_nb]
  rfl
theorem eqOk_dPs (l : List (Nat × Nat)) : eqOk (dPs l) = true := by
  have h1 : PyData.canLayAll0 (l.map dP) = true := by
    induction l with
    | nil => simp [PyData.canLayAll0]
    | cons a l ih => simp [PyData.canLayAll0, PyData.canLay0, ih]
  have h2 : PyData.depthAll (l.map dP) ≤ 1 := by
    induction l with
    | nil => simp [PyData.depthAll]
    | cons a l ih =>
      have := ih (by
        simp [PyData.canLayAll0] at h1
        exact h1.2)
      simp [PyData.depthAll, PyData.depth]
      omega
  simp [eqOk, pln, plnA_dP, SeqAt.shaped, PyData.canLay0, PyData.depth, h1]
  omega
theorem tupInts_dP (l : List (Nat × Nat)) : tupInts (l.map dP) = some (l.map fun p => [(p.1 : Int), (p.2 : Int)]) := by
  induction l with
  | nil => rfl
  | cons a l ih => simp [tupInts, intsOf, ih]
theorem dcount_nd : ∀ {l : List (List Int)}, l.Nodup → dcount l = l.length
  | [], _ => rfl
  | x :: l, h => by
    obtain ⟨h1, h2⟩ := List.nodup_cons.mp h
    simp [dcount, h1, dcount_nd h2]
theorem ints_nd {l : List (Nat × Nat)} (h : l.Nodup) : (l.map fun p => [(p.1 : Int), (p.2 : Int)]).Nodup := by
  induction l with
  | nil => simp
  | cons a l ih =>
    obtain ⟨h1, h2⟩ := List.nodup_cons.mp h
    rw [List.map_cons, List.nodup_cons]
    refine ⟨fun hm => ?_, ih h2⟩
    obtain ⟨b, hb, e⟩ := List.mem_map.mp hm
    simp at e
    apply h1
    have : b = a := Prod.ext (by omega) (by omega)
    rw [← this]; exact hb
theorem bools_map {α : Type} (l : List α) (f : α → Bool) : bools (l.map fun x => .bool (f x)) = some (l.map f) := by
  induction l with
  | nil => rfl
  | cons a l ih => simp [bools, ih]
theorem fIn_none {k : Nat} (l : List (Nat × Nat)) : fIn false 0 .none k (dPs l) = some (0, .bool false) := by
  have h0 : eqOk .none = true := by simp [eqOk, pln, SeqAt.shaped, PyData.canLay0, PyData.depth]
  have h : ((l.map dP).any fun z => PyData.eqv z .none) = false := by
    rw [List.any_map, List.any_eq_false]
    intro x _
    simp [PyData.eqv]
  simp only [fIn, h0, eqOk_dPs, Bool.and_self, if_true, h]
  rfl
theorem any_false {α : Type} {l : List α} {f : α → Bool} (h : ∀ x ∈ l, f x = false) : (l.map f).any id = false := by
  rw [List.any_map, List.any_eq_false]
  intro x hx
  simp [h x hx]
theorem fAny_eq {α : Type} {k : Nat} (l : List α) (f : α → Bool) (hk : k ≤ 1) : fAny k (.list (l.map fun x => .bool (f x))) = some (0, .bool ((l.map f).any id)) := by
  simp [fAny, fBs, hk, bools_map]
theorem sortN_len (l : List Nat) : (sortN l).length = l.length := (sortN_perm l).length_eq
theorem tiesL_len (L : List (Nat × Nat)) : (tiesL L).length = L.length + 1 := by simp [tiesL]
theorem yards_len (L : List (Nat × Nat)) : ((tiesL L).filter fun r => decide (1 < r.length)).length = (yardsL L).length := by
  unfold tiesL yardsL
  rw [List.filter_map, List.length_map]
  congr 1
  apply List.filter_congr
  intro p _
  simp [sortN_len]
/-! ### lanes as they may be told: pairs as tuples or lists -/
def itm (x : (Nat × Nat) × Bool) : D := if x.2 = true then dP x.1 else dL [x.1.1, x.1.2]
def IsTold (T : List ((Nat × Nat) × Bool)) (t : D) : Prop := t = .list (T.map itm) ∨ t = .tuple (T.map itm)
theorem e_lane_inL (p : Nat × Nat) (h : p.1 ≠ p.2) : m_lane_in [⟨0, dL [p.1, p.2]⟩] = some (⟨false, 0, dP (min p.1 p.2, max p.1 p.2)⟩, [some ⟨0, dL [p.1, p.2]⟩]) := by
  obtain ⟨a, b⟩ := p
  have h1 : mLc 0 [1] (mIq (mT 0)) (bN 1) mYes (mCall 1 m_is_count (mF1 (mT 1) mF0)) [some ⟨0, dL [a, b]⟩, none] = some (⟨true, 1, .list [.bool true, .bool true]⟩, [some ⟨0, dL [a, b]⟩, none]) := by
    have := lc_all2 (kk := 0) (vs := [1]) (mi := mIq (mT 0)) (b := bN 1) (me := mCall 1 m_is_count (mF1 (mT 1) mF0)) (ρ := [some ⟨0, dL [a, b]⟩, none]) (ρ0 := [some ⟨0, dL [a, b]⟩, none]) (g := dI) [a, b] (fun _ => .bool true) (by simp) (by simp) (fun x hx => by simp)
    simpa using this
  have e : ¬ (a : Int) = (b : Int) := by intro e; exact h (by show a = b; omega)
  have i0 : atI [dI a, dI b] 0 = some (dI a) := rfl
  have i1 : atI [dI a, dI b] 1 = some (dI b) := rfl
  have m1 : (if b < a then (b : Int) else (a : Int)) = ((min a b : Nat) : Int) := by split <;> omega
  have m2 : (if a < b then (b : Int) else (a : Int)) = ((max a b : Nat) : Int) := by split <;> omega
  simp [m_lane_in, h1, fAll, fBs, bools, i0, i1, e, m1, m2]
theorem e_lane_itm (x : (Nat × Nat) × Bool) (h : x.1.1 ≠ x.1.2) : m_lane_in [⟨0, itm x⟩] = some (⟨false, 0, dP (mm x.1)⟩, [some ⟨0, itm x⟩]) := by
  obtain ⟨p, b⟩ := x
  cases b with
  | true => exact e_lane_in p h
  | false => exact e_lane_inL p h
theorem told_is {T : List ((Nat × Nat) × Bool)} {t : D} (h : IsTold T t) : m_is_list [⟨0, t⟩] = some (⟨true, 0, .bool true⟩, [some ⟨0, t⟩]) := by
  rcases h with rfl | rfl
  · exact e_is_listL _
  · exact e_is_listT _
theorem told_len {T : List ((Nat × Nat) × Bool)} {t : D} (h : IsTold T t) (k : Nat) (hk : k ≤ 1) : fLen 0 t = some (0, .int (T.length : Int)) := by
  rcases h with rfl | rfl <;> simp
theorem told_iq {T : List ((Nat × Nat) × Bool)} {t : D} (h : IsTold T t) {m : M R} {ρ ρ1 : Sto} {f : Bool} (e : m ρ = some (⟨f, 0, t⟩, ρ1)) : mIq m ρ = some (T.map itm, ρ1) := by
  unfold mIq
  rw [e]
  rcases h with rfl | rfl <;> simp
theorem e_lanes_in {TT : List ((Nat × Nat) × Bool)} {t : D} (ht : IsTold TT t) {L : List (Nat × Nat)} (hL : L = TT.map (·.1)) (g : Good L) : m_lanes_in [⟨0, t⟩] = some (⟨true, 1, dPs (sortP (L.map mm))⟩, [some ⟨0, t⟩]) := by
  have lT : TT.length = L.length := by rw [hL, List.length_map]
  have hlen := told_len ht 0 (Nat.zero_le _)
  rw [lT] at hlen
  have hl1 := call1 (n := 1) (ms := mF1 (mT 0) mF0) (ρ := [some ⟨0, t⟩, none, none, none, none, none, none]) (ds := [t]) (ρ1 := [some ⟨0, t⟩, none, none, none, none, none, none]) (by simp) rfl rfl (told_is ht)
  have few := g.few
  have ne : ∀ e ∈ L, e.1 ≠ e.2 := fun e he => (g.le he).2.2
  have cm : CMul 7 4 := .inl (by decide)
  have f28 : ¬ (28 : Int) < (L.length : Int) := by omega
  have hle := mm_le g
  have c1 := lc_all2 (kk := 0) (vs := [4]) (mi := mIq (mT 0)) (b := bN 4) (me := mCall 1 m_lane_in (mF1 (mT 4) mF0)) (ρ := [some ⟨0, t⟩, none, none, none, none, none, none]) (ρ0 := [some ⟨0, t⟩, none, none, none, none, none, none]) (g := itm) TT (fun x => dP (mm x.1)) (told_iq ht (f := false) (by simp)) (by simp; omega) (fun x hx => by
    have := e_lane_itm x (ne x.1 (by rw [hL]; exact List.mem_map_of_mem hx))
    simp [this])
  have hM0 : (TT.map fun x => dP (mm x.1)) = (L.map mm).map dP := by rw [hL]; simp
  rw [hM0] at c1
  have t3 : dcount ((L.map mm).map fun p => [(p.1 : Int), (p.2 : Int)]) = L.length := by rw [dcount_nd (ints_nd g.nd)]; simp
  have tm : tiesL (L.map mm) = tiesL L := tiesL_mm ne
  have lM : (L.map mm).length = L.length := by simp
  have e1 := e_ties_of (L.map mm) hle (by rw [lM]; omega)
  rw [tm] at e1
  have e2 := e_is_whole g.tree (tiesL L) (tiesL_len L) (fun a ha p => mem_ties ha p) (by omega)
  have y0 := yards_len L
  have y1 := g.y1
  have y7 := g.y7
  have tl := tiesL_len L
  have td : ∀ r ∈ tiesL L, r.length ≤ 4 := fun r hr => by
    obtain ⟨p, hp, rfl⟩ := List.mem_map.mp hr
    rw [sortN_len]
    exact g.deg p (by simp at hp; omega)
  rw [lM] at hle
  generalize L.map mm = M at *
  generalize tiesL L = T at *
  have t1 := fIn_none (k := 1) M
  have t2 := tupInts_dP M
  have c2 := lc_all2 (kk := 0) (vs := [5]) (mi := mIq (mT 1)) (b := bN 5) (me := mBin fGt (mIx (mV 5) (mC (.int 1))) (mUn fLen (mV 1))) (ρ := [some ⟨0, t⟩, some ⟨1, dPs M⟩, none, none, none, none, none]) (ρ0 := [some ⟨0, t⟩, some ⟨0, dPs M⟩, none, none, none, none, none]) (g := dP) M (fun p => .bool (decide (L.length < p.2))) (by simp) (by simp [lM]; omega) (fun x hx => by
    have a1 : atI [dI x.1, dI x.2] 1 = some (dI x.2) := rfl
    simp [a1, lM])
  have c3 := fAny_eq (k := 1) M (fun p => decide (L.length < p.2)) (Nat.le_refl _)
  have c4 : (M.map fun p => decide (L.length < p.2)).any id = false := any_false fun p hp => by
    have := (hle p hp).2.1
    simp; omega
  rw [c4] at c3
  have c5 := lc_map2 (kk := 0) (vs := [6]) (mi := mIq (mT 2)) (b := bN 6) (mt := mB (mBin fGt (mUn fLen (mV 6)) (mC (.int 1)))) (me := mT 6) (ρ := [some ⟨0, t⟩, some ⟨0, dPs M⟩, some ⟨1, dLL T⟩, none, none, none, none]) (ρ0 := [some ⟨0, t⟩, some ⟨0, dPs M⟩, some ⟨0, dLL T⟩, none, none, none, none]) (g := dL) T (fun r => decide (1 < r.length)) dL (by simp) (by simp [tl]; omega) (fun x hx => by simp; omega)
  have c6 := fun (z : Option B) => lc_all2 (kk := 0) (vs := [6]) (mi := mIq (mT 2)) (b := bN 6) (me := mBin fGt (mUn fLen (mV 6)) (mC (.int 4))) (ρ := [some ⟨0, t⟩, some ⟨0, dPs M⟩, some ⟨0, dLL T⟩, z, none, none, none]) (ρ0 := [some ⟨0, t⟩, some ⟨0, dPs M⟩, some ⟨0, dLL T⟩, z, none, none, none]) (g := dL) T (fun r => .bool (decide (4 < r.length))) (by simp) (by simp [tl]; omega) (fun x hx => by simp; omega)
  have c7 := fAny_eq (k := 1) T (fun r => decide (4 < r.length)) (Nat.le_refl _)
  have c8 : (T.map fun r => decide (4 < r.length)).any id = false := any_false fun r hr => by
    have := td r hr
    simp; omega
  rw [c8] at c7
  have c9 := fSorted_dPs (k := 0) (l := M) (by omega) (by simp [lM]; omega)
  have l64 : L.length < 64 := by omega
  have b1 : (1 : Int) ≤ ((yardsL L).length : Int) := by omega
  have b7 : ((yardsL L).length : Int) ≤ 7 := by omega
  apply Fp.eq
  unfold m_lanes_in
  refine fp_fn (wp_seq (wp_cond ?_))
  simp only [List.map, List.replicate, List.append_eq, List.cons_append, List.nil_append]
  simp [-x_mSeq, -x_mCall, cm, f28, hlen, hl1]
  refine wp_seq (wp_set ?_)
  rw [c1]
  simp [-x_mSeq]
  refine wp_seq (wp_cond ?_)
  simp [-x_mSeq, t1, t2, t3, lM, l64, c2, c3, hlen]
  refine wp_seq (wp_set ?_)
  rw [call1 (n := 1) (ms := mF1 (mT 1) mF0) (ρ := [some ⟨0, t⟩, some ⟨0, dPs M⟩, none, none, none, none, none]) (ds := [dPs M]) (ρ1 := [some ⟨0, t⟩, some ⟨0, dPs M⟩, none, none, none, none, none]) (by simp) rfl rfl e1]
  simp [-x_mSeq]
  refine wp_seq (wp_set ?_)
  rw [c5]
  simp [-x_mSeq]
  refine wp_seq (wp_cond ?_)
  have k2 := call1 (n := 1) (ms := mF1 (mT 2) mF0) (ρ := [some ⟨0, t⟩, some ⟨0, dPs M⟩, some ⟨0, dLL T⟩, some ⟨1, dLL (T.filter fun r => decide (1 < r.length))⟩, none, none, none]) (ds := [dLL T]) (ρ1 := [some ⟨0, t⟩, some ⟨0, dPs M⟩, some ⟨0, dLL T⟩, some ⟨1, dLL (T.filter fun r => decide (1 < r.length))⟩, none, none, none]) (by simp) rfl rfl e2
  simp [-x_mSeq, -x_mCall, y0, b1, b7, c6, c7, k2]
  first
    | (refine wp_ret ?_; simp [c9])
    | simp [c9]
theorem told_dPs (L : List (Nat × Nat)) : IsTold (L.map fun p => (p, true)) (dPs L) := .inl (by
  show PyData.list _ = PyData.list _
  rw [List.map_map]
  rfl)
theorem told_fst (L : List (Nat × Nat)) : L = (L.map fun p => (p, true)).map (·.1) := by rw [List.map_map]; exact (List.map_id L).symm
end K11

set_option Elab.async false
set_option linter.all false
set_option maxRecDepth 100000
namespace K11
open PySem L2 PySem.Spec Lk Tr
def ctry (L : List (Nat × Nat)) (X : List D) : D := .dict [(.str clsKey, .str "Country"), (.str "own_lanes", dPs (sortP (L.map mm))), (.str "own_ties", dLL (tiesL L)), (.str "own_ahead", .list X)]
theorem ne1 : ¬ ((Str.ofString "own_lanes") = (Str.ofString "own_ties")) := by decide +kernel
theorem ne2 : ¬ ((Str.ofString "own_lanes") = (Str.ofString "own_ahead")) := by decide +kernel
theorem ne3 : ¬ ((Str.ofString "own_ties") = (Str.ofString "own_ahead")) := by decide +kernel
theorem put1 (a d : D) : putD "own_ties" d [(.str "own_lanes", a)] = [(.str "own_lanes", a), (.str "own_ties", d)] := by
  simp [putD, ne1]
theorem put2 (a b d : D) : putD "own_ahead" d [(.str "own_lanes", a), (.str "own_ties", b)] = [(.str "own_lanes", a), (.str "own_ties", b), (.str "own_ahead", d)] := by
  simp [putD, ne2, ne3]
theorem attr2 (k : Nat) (a b : D) : fAttr "Country" "own_ties" k (.dict [(.str clsKey, .str "Country"), (.str "own_lanes", a), (.str "own_ties", b)]) = some (0, b) := by
  simp [fAttr, attrOf, attrOf.look, ne1]
theorem attr3 (k : Nat) (L : List (Nat × Nat)) (X : List D) : fAttr "Country" "own_ties" k (ctry L X) = some (0, dLL (tiesL L)) := by
  simp [fAttr, attrOf, attrOf.look, ne1, ctry]
theorem call2 {n : Nat} {g : Fn} {ms : M (List D)} {ρ ρ1 : Sto} {ds : List D} {r : R} {bs : List B} {outs : List (Option B)} (h1 : ms ρ = some (ds, ρ1)) (h2 : ds.length = n) (h0 : frz0 ds = bs) (h3 : g bs = some (r, outs)) : mCall n g ms ρ = some (r, ρ1) := call1 h1 h2 h0 h3
theorem wp_attr {i : Nat} {c f : Str} {m : M R} {ρ : Sto} {Q : Fl → Sto → Prop} (h : Wp (m ρ) fun r ρ1 => (r.fr || r.k == 0) = true ∧ ∃ k kvs, ρ1[i]? = some (some ⟨k + 1, .dict ((.str clsKey, .str c) :: kvs)⟩) ∧ kvs.length < 900 ∧ Q .nx (ρ1.set i (some ⟨k + 1, .dict ((.str clsKey, .str c) :: putD f r.d kvs)⟩))) : Wp (mAttrSet i c f m ρ) Q := by
  obtain ⟨r, ρ1, e, hr, k, kvs, h1, h2, q⟩ := h
  refine ⟨_, _, ?_, q⟩
  unfold mAttrSet
  simp only [e, hr, if_true, h1, h2, and_self]
end K11

set_option Elab.async false
set_option linter.all false
set_option maxRecDepth 100000
namespace K11
open PySem L2 PySem.Spec Lk Tr
abbrev sn (L : List (Nat × Nat)) (p : Nat) : List Nat := sortN (nb L p)
variable {L : List (Nat × Nat)} {X : List D}
theorem at_ties {p : Nat} (hp : p ≤ L.length) : atI ((tiesL L).map dL) (p : Int) = some (dL (sn L p)) := by
  rw [atI_rows (by rw [tiesL_len]; omega), tiesL_get L hp]
theorem e_want_country : m_want_country [⟨0, ctry L X⟩] = some (⟨false, 0, ctry L X⟩, [some ⟨0, ctry L X⟩]) := by
  have h : fIsiC "Country" 0 (ctry L X) = some (0, .bool true) := by simp [fIsiC, ctry]
  simp [m_want_country, h]
theorem mem_sn {p q : Nat} : q ∈ sn L p ↔ Adj L p q := by
  rw [(sortN_perm _).mem_iff, mem_nb]; rfl
noncomputable def side (L : List (Nat × Nat)) (y t : Nat) : List Nat := (yardsL L).filter fun p => @decide (Sd (Adj L) y t p) (Classical.propDecidable _)
theorem yardsL_lt : (yardsL L).Pairwise (· < ·) := List.pairwise_lt_range.filter _
theorem mem_yards {p : Nat} : p ∈ yardsL L ↔ p ≤ L.length ∧ 1 < (nb L p).length := by
  unfold yardsL
  rw [List.mem_filter]
  simp
  omega
theorem lt_le {l : List Nat} (h : l.Pairwise (· < ·)) : l.Pairwise (· ≤ ·) := h.imp fun h => Nat.le_of_lt h
theorem lt_nd {l : List Nat} (h : l.Pairwise (· < ·)) : l.Nodup := h.imp fun h => Nat.ne_of_lt h
theorem sort_is {W l : List Nat} (nd : W.Nodup) (hl : l.Pairwise (· < ·)) (h : ∀ p, p ∈ W ↔ p ∈ l) : sortN W = l :=
  sorted_eq (sortN_sorted W) (lt_le hl) ((sortN_perm W).trans ((List.perm_ext_iff_of_nodup nd (lt_nd hl)).mpr h))
end K11

set_option Elab.async false
set_option linter.all false
set_option maxRecDepth 100000
namespace K11
open PySem L2 PySem.Spec Lk Tr
variable {L : List (Nat × Nat)} {X : List D}
theorem nb_two (L : List (Nat × Nat)) (p : Nat) : ((L.filter fun e => decide (e.1 = p)).map (·.2) ++ (L.filter fun e => decide (e.2 = p)).map (·.1)).Perm (nb L p) := by
  induction L with
  | nil => exact List.Perm.refl _
  | cons e L ih =>
    unfold nb at *
    rw [List.flatMap_cons]
    by_cases h1 : e.1 = p
    · by_cases h2 : e.2 = p
      · simp only [h1, h2, decide_true, List.filter_cons_of_pos, List.map_cons, if_true, List.cons_append, List.nil_append]
        refine List.Perm.cons _ ?_
        exact List.perm_middle.trans (List.Perm.cons _ ih)
      · simp only [h1, h2, decide_true, decide_false, List.filter_cons_of_pos, List.filter_cons_of_neg, List.map_cons, if_true, if_false, List.cons_append, List.nil_append, Bool.false_eq_true, not_false_eq_true]
        exact List.Perm.cons _ ih
    · by_cases h2 : e.2 = p
      · simp only [h1, h2, decide_true, decide_false, List.filter_cons_of_pos, List.filter_cons_of_neg, List.map_cons, if_true, if_false, List.cons_append, List.nil_append, Bool.false_eq_true, not_false_eq_true]
        exact List.perm_middle.trans (List.Perm.cons _ ih)
      · simp only [h1, h2, decide_false, List.filter_cons_of_neg, if_false, List.nil_append, Bool.false_eq_true, not_false_eq_true]
        exact ih
theorem e_law_beside (L : List (Nat × Nat)) (p : Nat) (few : L.length ≤ 100) : m__law_beside [⟨0, dPs L⟩, ⟨0, dI p⟩] = some (⟨true, 1, dL (sn L p)⟩, [some ⟨0, dPs L⟩, some ⟨0, dI p⟩]) := by
  have f1 := List.length_filter_le (fun e : Nat × Nat => decide (e.1 = p)) L
  have f2 := List.length_filter_le (fun e : Nat × Nat => decide (e.2 = p)) L
  have c1 := lc_map2 (kk := 0) (vs := [3, 4]) (mi := mIq (mT 0)) (b := bT 2 (bs1 (bN 3) (bs1 (bN 4) bs0))) (mt := mB (mBin fEq (mV 3) (mV 1))) (me := mT 4) (ρ := [some ⟨0, dPs L⟩, some ⟨0, dI p⟩, none, none, none]) (ρ0 := [some ⟨0, dPs L⟩, some ⟨0, dI p⟩, none, none, none]) (g := dP) L (fun e => decide (e.1 = p)) (fun e => dI e.2) (by simp) (by simp; omega) (fun e he => by
    have : ((e.1 : Int) = (p : Int)) ↔ e.1 = p := by omega
    simp [this])
  have c2 := fun z : Option B => lc_map2 (kk := 0) (vs := [3, 4]) (mi := mIq (mT 0)) (b := bT 2 (bs1 (bN 3) (bs1 (bN 4) bs0))) (mt := mB (mBin fEq (mV 4) (mV 1))) (me := mT 3) (ρ := [some ⟨0, dPs L⟩, some ⟨0, dI p⟩, z, none, none]) (ρ0 := [some ⟨0, dPs L⟩, some ⟨0, dI p⟩, z, none, none]) (g := dP) L (fun e => decide (e.2 = p)) (fun e => dI e.1) (by simp) (by simp; omega) (fun e he => by
    have : ((e.2 : Int) = (p : Int)) ↔ e.2 = p := by omega
    simp [this])
  have hsn : sortN ((L.filter fun e => decide (e.1 = p)).map (·.2) ++ (L.filter fun e => decide (e.2 = p)).map (·.1)) = sn L p := sortN_eq (nb_two L p)
  have fs := fSorted_dL (k := 1) (l := (L.filter fun e => decide (e.1 = p)).map (·.2) ++ (L.filter fun e => decide (e.2 = p)).map (·.1)) (Nat.le_refl _) (by simp; omega)
  rw [hsn] at fs
  have e1 : (L.filter fun e => decide (e.1 = p)).map (fun e => dI e.2) = ((L.filter fun e => decide (e.1 = p)).map (·.2)).map dI := by simp
  have e2 : (L.filter fun e => decide (e.2 = p)).map (fun e => dI e.1) = ((L.filter fun e => decide (e.2 = p)).map (·.1)).map dI := by simp
  rw [e1] at c1
  simp only [e2] at c2
  have ln : ((L.filter fun e => decide (e.1 = p)).map (·.2)).length + ((L.filter fun e => decide (e.2 = p)).map (·.1)).length ≤ 1000000 := by simp; omega
  generalize (L.filter fun e => decide (e.1 = p)).map (·.2) = l1 at *
  generalize (L.filter fun e => decide (e.2 = p)).map (·.1) = l2 at *
  have fs' : fSorted 1 (.list (l1.map dI ++ l2.map dI)) = some (1, dL (sn L p)) := by rw [← List.map_append]; exact fs
  apply Fp.eq
  unfold m__law_beside
  refine fp_fn (wp_seq (wp_set ?_))
  simp only [List.map, List.replicate, List.append_eq, List.cons_append, List.nil_append]
  refine ⟨_, _, c1, rfl, by simp, ?_⟩
  simp only [x_unwipe1, x_unwipe0, x_wipe1, x_wipe0, List.set_cons_succ, List.set_cons_zero, List.getElem?_cons_succ, List.getElem?_cons_zero]
  refine wp_ret ?_
  simp only [x_mUn, x_mBin, x_mV, List.getElem?_cons_succ, List.getElem?_cons_zero, c2]
  simp [ln, fs']
theorem e_law_yards (L : List (Nat × Nat)) (few : L.length ≤ 100) : m__law_yards [⟨0, dPs L⟩] = some (⟨true, 1, dL (yardsL L)⟩, [some ⟨0, dPs L⟩]) := by
  have c := lc_map2 (kk := 0) (vs := [1]) (mi := mR1 (mBin fAdd (mUn fLen (mV 0)) (mC (.int 1)))) (b := bN 1) (mt := mB (mBin fGt (mUn fLen (mCall 2 m__law_beside (mF1 (mT 0) (mF1 (mT 1) mF0)))) (mC (.int 1)))) (me := mT 1) (ρ := [some ⟨0, dPs L⟩, none]) (ρ0 := [some ⟨0, dPs L⟩, none]) (g := fun i : Nat => PyData.int (i : Int)) (List.range (L.length + 1)) (fun p => decide (1 < (nb L p).length)) dI (by
      have e : ((L.length : Int) + 1).toNat = L.length + 1 := by omega
      have b1 : (-1000000000 : Int) ≤ (L.length : Int) + 1 ∧ (L.length : Int) + 1 ≤ 1000000000 := by omega
      simp [e, dInts_nat, b1]) (by simp; omega) (fun x hx => by
    have k := call1 (n := 2) (ms := mF1 (mT 0) (mF1 (mT 1) mF0)) (ρ := [some ⟨0, dPs L⟩, some ⟨0, dI x⟩]) (ds := [dPs L, dI x]) (ρ1 := [some ⟨0, dPs L⟩, some ⟨0, dI x⟩]) (by simp) rfl rfl (e_law_beside L x few)
    have sl : (sn L x).length = (nb L x).length := sortN_len _
    simp [-x_mCall, k, sl]
    try omega)
  apply Fp.eq
  unfold m__law_yards
  refine fp_fn (wp_ret ?_)
  simp only [List.map, List.replicate, List.append_eq, List.cons_append, List.nil_append]
  refine ⟨_, _, c, ?_⟩
  simp [yardsL]
end K11

set_option Elab.async false
set_option linter.all false
set_option maxRecDepth 100000
namespace K11
open PySem L2 PySem.Spec Lk Tr
theorem wk_snoc {A : Nat → Nat → Prop} {a q : Nat} {r : List Nat} (h : Wk A a q r) : ∃ l, r = l ++ [q] := by
  cases h with
  | one => exact ⟨[], rfl⟩
  | snoc _ _ _ => exact ⟨_, rfl⟩
theorem nb_nodup {L : List (Nat × Nat)} (h : (L.map mm).Nodup) (ne : ∀ e ∈ L, e.1 ≠ e.2) (p : Nat) : (nb L p).Nodup := by
  induction L with
  | nil => simp [nb]
  | cons e L ih =>
    rw [List.map_cons, List.nodup_cons] at h
    have ih := ih h.2 fun x hx => ne x (List.mem_cons_of_mem _ hx)
    have e0 : nb (e :: L) p = ((if e.1 = p then [e.2] else []) ++ (if e.2 = p then [e.1] else [])) ++ nb L p := by
      unfold nb
      rw [List.flatMap_cons]
    rw [e0]
    have key : ∀ q, mm (p, q) = mm e → q ∉ nb L p := fun q hq hm => by
      apply h.1
      rw [← hq]
      rcases mem_nb.mp hm with hm | hm
      · exact List.mem_map.mpr ⟨_, hm, rfl⟩
      · exact List.mem_map.mpr ⟨_, hm, by simp [mm, Nat.min_comm, Nat.max_comm]⟩
    have hne := ne e List.mem_cons_self
    obtain ⟨a, b⟩ := e
    simp only at hne ⊢
    by_cases h1 : a = p
    · have h2 : ¬ b = p := fun h2 => hne (h1.trans h2.symm)
      simp only [h1, h2, if_true, if_false, List.append_nil, List.cons_append, List.nil_append]
      exact List.nodup_cons.mpr ⟨key b (by rw [h1]), ih⟩
    · by_cases h2 : b = p
      · simp only [h1, h2, if_true, if_false, List.cons_append, List.nil_append]
        exact List.nodup_cons.mpr ⟨key a (by rw [← h2]; simp [mm, Nat.min_comm, Nat.max_comm]), ih⟩
      · simp only [h1, h2, if_false, List.nil_append]
        exact ih
structure WI (A : Nat → Nat → Prop) (s e : Nat) (rows : List (List Nat)) (at' : Nat) : Prop where
  walks : ∀ r ∈ rows, ∃ q, Wk A s q r
  nd : rows.Nodup
  first : [s] ∈ rows
  le : at' ≤ rows.length
  done : ∀ (j : Nat) (r : List Nat), j < at' → rows[j]? = some r → ∀ q, Wk A s q r → q ≠ e ∧ ∀ z, A q z → z ∉ r → r ++ [z] ∈ rows
  from_ : ∀ r ∈ rows, r = [s] ∨ ∃ (j : Nat) (r' : List Nat) (z : Nat), j < at' ∧ rows[j]? = some r' ∧ r = r' ++ [z]
theorem wk_end {A : Nat → Nat → Prop} {a q q' : Nat} {r : List Nat} (h : Wk A a q r) (h' : Wk A a q' r) : q = q' := by
  have h1 := h.getLast
  rw [h'.getLast] at h1
  exact (Option.some.inj h1).symm
theorem WI.pre {A : Nat → Nat → Prop} {s e : Nat} {rows : List (List Nat)} {at' : Nat} (w : WI A s e rows at') {b q : Nat} {r : List Nat} (h : Wk A s q r) : r ∈ rows → b ∈ r → ∃ r' ∈ rows, Wk A s b r' := by
  induction h with
  | one =>
    intro hr hb
    rw [List.mem_singleton] at hb
    subst hb
    exact ⟨_, hr, .one⟩
  | @snoc q s' l h1 h2 h3 ih =>
    intro hr hb
    rcases List.mem_append.mp hb with hb | hb
    · rcases w.from_ _ hr with e1 | ⟨j, r', z, _, h5, h6⟩
      · have : (l ++ [s']).length = 1 := by rw [e1]; rfl
        have l0 : l.length = 0 := by simpa using this
        have : l = [] := List.length_eq_zero_iff.mp l0
        rw [this] at hb; simp at hb
      · have := (List.append_inj' h6 rfl).1
        rw [this] at ih
        exact ih (List.mem_of_getElem? h5) (this ▸ hb)
    · rw [List.mem_singleton] at hb
      subst hb
      exact ⟨_, hr, .snoc h1 h2 h3⟩
theorem WI.more {n : Nat} {A : Nat → Nat → Prop} (T : Tree n A) {s e : Nat} (hs : s ≤ n) (he : e ≤ n) {rows : List (List Nat)} {at' : Nat} (w : WI A s e rows at') : at' < rows.length := by
  refine Classical.byContradiction fun hn => ?_
  have hat : at' = rows.length := by have := w.le; omega
  have cl := T.conn (C := fun p => ∃ r ∈ rows, Wk A s p r) hs ⟨_, w.first, .one⟩ (fun a b ⟨r, hr, hw⟩ hab => by
    by_cases hb : b ∈ r
    · exact w.pre hw hr hb
    · obtain ⟨j, hj, ej⟩ := List.getElem_of_mem hr
      have := (w.done j r (by omega) (by rw [List.getElem?_eq_getElem hj, ej]) a hw).2 b hab hb
      exact ⟨_, this, .snoc hw hab hb⟩) e he
  obtain ⟨r, hr, hw⟩ := cl
  obtain ⟨j, hj, ej⟩ := List.getElem_of_mem hr
  exact (w.done j r (by omega) (by rw [List.getElem?_eq_getElem hj, ej]) e hw).1 rfl
theorem WI.len {n : Nat} {A : Nat → Nat → Prop} (T : Tree n A) {s e : Nat} (hs : s ≤ n) {rows : List (List Nat)} {at' : Nat} (w : WI A s e rows at') : rows.length ≤ n + 1 := by
  have h1 : (rows.map fun r => r.getLastD 0).Nodup := by
    have p := w.nd
    unfold List.Nodup at *
    rw [List.pairwise_map]
    refine p.imp_of_mem fun {a b} ha hb hab hq => hab ?_
    obtain ⟨qa, wa⟩ := w.walks a ha
    obtain ⟨qb, wb⟩ := w.walks b hb
    have ea : a.getLastD 0 = qa := by rw [List.getLastD_eq_getLast?, wa.getLast]; rfl
    have eb : b.getLastD 0 = qb := by rw [List.getLastD_eq_getLast?, wb.getLast]; rfl
    rw [ea, eb] at hq
    subst hq
    exact wa.uniq T wb
  have := nodup_le h1 (n := n + 1) fun x hx => by
    obtain ⟨r, hr, rfl⟩ := List.mem_map.mp hx
    obtain ⟨q, wq⟩ := w.walks r hr
    rw [List.getLastD_eq_getLast?, wq.getLast]
    exact Nat.lt_succ_of_le (wq.le T hs q wq.last)
  rw [List.length_map] at this
  exact this
theorem WI.step {n : Nat} {A : Nat → Nat → Prop} (T : Tree n A) {s e q : Nat} {r : List Nat} {rows : List (List Nat)} {at' : Nat} (w : WI A s e rows at') (hr : rows[at']? = some r) (hw : Wk A s q r) (hq : q ≠ e) (nbs : List Nat) (hn : nbs.Nodup) (hA : ∀ z, z ∈ nbs ↔ A q z) :
    WI A s e (rows ++ (nbs.filter fun z => decide (z ∉ r)).map fun z => r ++ [z]) (at' + 1) := by
  have hlt : at' < rows.length := (List.getElem?_eq_some_iff.mp hr).1
  have old : ∀ j, j < rows.length → (rows ++ (nbs.filter fun z => decide (z ∉ r)).map fun z => r ++ [z])[j]? = rows[j]? := fun j hj => List.getElem?_append_left hj
  refine ⟨fun x hx => ?_, ?_, List.mem_append_left _ w.first, by rw [List.length_append]; omega, fun j x hj hx q' wq' => ?_, fun x hx => ?_⟩
  · rcases List.mem_append.mp hx with h | h
    · exact w.walks x h
    · obtain ⟨z, hz, rfl⟩ := List.mem_map.mp h
      rw [List.mem_filter] at hz
      exact ⟨z, .snoc hw ((hA z).mp hz.1) (by simpa using hz.2)⟩
  · refine List.nodup_append.mpr ⟨w.nd, ?_, fun x hx y hy exy => ?_⟩
    · have p := hn.filter fun z => decide (z ∉ r)
      unfold List.Nodup at *
      rw [List.pairwise_map]
      exact p.imp fun hab h => hab (by simpa using h)
    · subst exy
      obtain ⟨z, hz, rfl⟩ := List.mem_map.mp hy
      rcases w.from_ _ hx with h | ⟨j, r', z', hj, h5, h6⟩
      · obtain ⟨l, hl⟩ := wk_snoc hw
        have : (r ++ [z]).length = 1 := by rw [h]; rfl
        rw [hl] at this
        simp at this
      · have e1 := (List.append_inj' h6 rfl).1
        rw [← e1] at h5
        have i1 := (List.getElem?_eq_some_iff.mp h5)
        have i2 := (List.getElem?_eq_some_iff.mp hr)
        obtain ⟨b1, c1⟩ := i1
        obtain ⟨b2, c2⟩ := i2
        exact (List.pairwise_iff_getElem.mp w.nd) j at' b1 b2 hj (c1.trans c2.symm)
  · by_cases hj2 : j < at'
    · rw [old j (by omega)] at hx
      obtain ⟨d1, d2⟩ := w.done j x hj2 hx q' wq'
      exact ⟨d1, fun z h1 h2 => List.mem_append_left _ (d2 z h1 h2)⟩
    · have : j = at' := by omega
      subst this
      rw [old j hlt, hr] at hx
      cases hx
      have := wk_end wq' hw
      subst this
      refine ⟨hq, fun z h1 h2 => List.mem_append_right _ (List.mem_map.mpr ⟨z, ?_, rfl⟩)⟩
      rw [List.mem_filter]
      exact ⟨(hA z).mpr h1, by simpa using h2⟩
  · rcases List.mem_append.mp hx with h | h
    · rcases w.from_ x h with h | ⟨j, r', z, hj, h5, h6⟩
      · exact .inl h
      · exact .inr ⟨j, r', z, by omega, by rw [old j (by omega)]; exact h5, h6⟩
    · obtain ⟨z, hz, rfl⟩ := List.mem_map.mp h
      exact .inr ⟨at', r, z, by omega, by rw [old at' hlt]; exact hr, rfl⟩
end K11

set_option Elab.async false
set_option linter.all false
set_option maxRecDepth 100000
namespace K11
open PySem L2 PySem.Spec Lk Tr
theorem log_lt {a : Nat} (ha : a ≤ 1000) : a.log2 < 10 := by
  by_cases h0 : a = 0
  · subst h0; decide
  · rw [Nat.log2_lt h0]; omega
theorem weightAll_dI (l : List Nat) (h : ∀ x ∈ l, x ≤ 1000) : PyData.weightAll (l.map dI) ≤ 12 * l.length := by
  induction l with
  | nil => simp [PyData.weightAll]
  | cons a l ih =>
    have := ih fun x hx => h x (List.mem_cons_of_mem _ hx)
    have := log_lt (h a List.mem_cons_self)
    simp [PyData.weightAll, PyData.weight] at *
    split <;> omega
theorem shortAll_dI (l : List Nat) (h : ∀ x ∈ l, x ≤ 1000) : PyData.intsShortAll 13 (l.map dI) = true := by
  induction l with
  | nil => simp [PyData.intsShortAll]
  | cons a l ih =>
    have ha := h a List.mem_cons_self
    have := PyData.shown_int_le (i := (a : Int)) (by omega)
    simp [PyData.intsShortAll, PyData.intsShort, this, ih fun x hx => h x (List.mem_cons_of_mem _ hx)]
theorem showAll_dI (l : List Nat) (h : ∀ x ∈ l, x ≤ 1000) : PyData.showableAll (l.map dI) = true := by
  induction l with
  | nil => simp [PyData.showableAll]
  | cons a l ih =>
    have ha := h a List.mem_cons_self
    have := log_lt ha
    have h2 : a.log2 < 1920 := by omega
    simp [PyData.showableAll, PyData.showable, h2, ih fun x hx => h x (List.mem_cons_of_mem _ hx)]
theorem fRepr_dL {k : Nat} {l : List Nat} (hl : l.length ≤ 40) (h : ∀ x ∈ l, x ≤ 1000) : fRepr k (dL l) = some (0, .str (dL l).shown) := by
  have c : (dL l).canLay0 = true := by simp [PyData.canLay0, canLayAll_dI]
  have s : (dL l).intsShort 13 = true := by simp [PyData.intsShort, shortAll_dI l h]
  have w : (dL l).weight ≤ 500 := by
    have := weightAll_dI l h
    simp [PyData.weight]
    omega
  have sh := PyData.shown_le 13 (by decide) (dL l) (PyData.leavesShort_of_canLay0 13 _ c s)
  have p : pln (dL l) = true := by simp [pln, plnA_dI]
  have dp : (dL l).depth ≤ 64 := by simp [PyData.depth, depthAll_dI]
  have sw : (dL l).showable = true := by simp [PyData.showable, showAll_dI l h]
  have l2 : (dL l).shown.length ≤ lim := by
    show _ ≤ 1000000
    omega
  unfold fRepr
  rw [p, sw, decide_eq_true dp, decide_eq_true l2]
  rfl
theorem big_free {c : Nat} (hc : 1114112 ≤ c) (l : List Nat) : c ∉ (dL l).shown.cps.toList := by
  rw [PyData.shown_list, PyProof.Rows.mem_cps_append, PyProof.Rows.mem_cps_append, PyProof.Rows.signs_lbrack, PyProof.Rows.signs_rbrack, PyProof.Rows.mem_join]
  rintro ((hm | (⟨t, ht, h⟩ | ⟨_, hm⟩)) | hm)
  · simp at hm; omega
  · refine PyProof.Rows.shownAll_free (k := c) (xs := l.map dI) (fun x hx => ?_) t ht h
    obtain ⟨n, _, rfl⟩ := List.mem_map.mp hx
    exact PyProof.Rows.shown_int_free' (by omega) _
  · rw [PyProof.Rows.signs_sep] at hm
    simp at hm; omega
  · simp at hm; omega
theorem eqOk_shown (l : List Nat) : eqOk (.str (dL l).shown) = true := by
  have : PyData.strOk (dL l).shown = true := by
    unfold PyData.strOk
    rw [Array.all_eq_true]
    intro i hi
    rw [decide_eq_true_iff]
    refine Classical.byContradiction fun h => big_free (c := (dL l).shown.cps[i]) (by omega) l ?_
    simp
  simp [eqOk, pln, SeqAt.shaped, PyData.canLay0, PyData.depth, this]
theorem fNe_shown {ka kb : Nat} (l : List Nat) : fNe ka (.str (dL l).shown) kb (.str (dL l).shown) = some (0, .bool false) := by
  simp only [fNe, eqOk_shown, Bool.and_self, if_true]
  simp [PyData.eqv]
end K11

set_option Elab.async false
set_option linter.all false
set_option maxRecDepth 100000
namespace K11
open PySem L2 PySem.Spec Lk Tr
def enc : Option Nat → D
  | none => .none
  | some z => dI z
def upto (h : Nat → Option Nat) (p a : Nat) : Nat → Option Nat := fun x => if x = p then some a else h x
/-- what a goal's list of next places tells -/
def Ahead (n : Nat) (A : Nat → Nat → Prop) (g : Nat) (h : Nat → Option Nat) : Prop := h g = some g ∧ ∀ p, p ≤ n → p ≠ g → ∃ z, h p = some z ∧ A z p ∧ Sd A z p g
structure AI (n : Nat) (A : Nat → Nat → Prop) (g : Nat) (h : Nat → Option Nat) (wait : List Nat) (ex : Nat → Prop) : Prop where
  hg : h g = some g
  nx : ∀ p, p ≤ n → p ≠ g → ∀ z, h p = some z → A z p ∧ Sd A z p g ∧ h z ≠ none
  w : ∀ p ∈ wait, p ≤ n ∧ h p ≠ none
  cl : ∀ a, a ≤ n → h a ≠ none → a ∈ wait ∨ ex a ∨ ∀ p, A a p → h p ≠ none
def cnt (n : Nat) (h : Nat → Option Nat) : Nat := ((List.range (n + 1)).filter fun p => (h p).isNone).length
theorem map_set {n p a : Nat} (h : Nat → Option Nat) (hp : p ≤ n) : ((List.range (n + 1)).map fun x => enc (h x)).set p (dI a) = (List.range (n + 1)).map fun x => enc (upto h p a x) := by
  apply List.ext_getElem
  · simp
  · intro i h1 h2
    simp at h1
    rw [List.getElem_set]
    simp only [List.getElem_map, List.getElem_range, upto]
    by_cases e : p = i
    · subst e; simp [enc]
    · rw [if_neg e, if_neg fun q => e q.symm]
theorem cnt_up {n p a : Nat} {h : Nat → Option Nat} (hp : p ≤ n) (h0 : h p = none) : cnt n (upto h p a) + 1 = cnt n h := by
  unfold cnt
  have : ∀ l : List Nat, l.Nodup → p ∈ l → (l.filter fun x => (upto h p a x).isNone).length + 1 = (l.filter fun x => (h x).isNone).length := by
    intro l
    induction l with
    | nil => intro _ hm; simp at hm
    | cons x l ih =>
      intro nd hm
      obtain ⟨n1, n2⟩ := List.nodup_cons.mp nd
      by_cases e : x = p
      · subst e
        have e2 : l.filter (fun y => (upto h x a y).isNone) = l.filter (fun y => (h y).isNone) := List.filter_congr fun y hy => by
          unfold upto
          rw [if_neg fun q : y = x => n1 (by rw [← q]; exact hy)]
        rw [List.filter_cons_of_neg (by simp [upto]), List.filter_cons_of_pos (by simp [h0]), e2, List.length_cons]
      · have hm2 : p ∈ l := by
          rcases List.mem_cons.mp hm with q | q
          · exact absurd q.symm e
          · exact q
        have := ih n2 hm2
        have ex : upto h p a x = h x := if_neg e
        cases hx : h x with
        | none =>
          rw [List.filter_cons_of_pos (by simp [ex, hx]), List.filter_cons_of_pos (by simp [hx]), List.length_cons, List.length_cons]
          omega
        | some y =>
          rw [List.filter_cons_of_neg (by simp [ex, hx]), List.filter_cons_of_neg (by simp [hx])]
          exact this
  exact this _ List.nodup_range (List.mem_range.mpr (by omega))
theorem enc_none (h : Nat → Option Nat) (p : Nat) : isNoneD (enc (h p)) = (h p).isNone := by
  cases h p <;> rfl
theorem x_fMulL' (xs : List D) (n : Nat) : (List.replicate n [PyData.none]).flatten = List.replicate n .none := by
  induction n with
  | zero => rfl
  | succ n ih => rw [List.replicate_succ, List.replicate_succ, List.flatten_cons, ih]; rfl
theorem e_ahead {n g : Nat} {A : Nat → Nat → Prop} (T : Tree n A) (rows : List (List Nat)) (hl : rows.length = n + 1) (hg : g ≤ n) (hr : ∀ a, a ≤ n → ∀ p, p ∈ rows.getD a [] ↔ A a p) (hn : n ≤ 1000) :
    ∃ h : Nat → Option Nat, Ahead n A g h ∧ m_ahead_of [⟨0, dLL rows⟩, ⟨0, dI g⟩] = some (⟨true, 1, .list ((List.range (n + 1)).map fun x => enc (h x))⟩, [some ⟨0, dLL rows⟩, some ⟨0, dI g⟩]) := by
  have fin : Fp (m_ahead_of [⟨0, dLL rows⟩, ⟨0, dI g⟩]) fun r outs => outs = [some ⟨0, dLL rows⟩, some ⟨0, dI g⟩] ∧ ∃ h : Nat → Option Nat, Ahead n A g h ∧ r = ⟨true, 1, .list ((List.range (n + 1)).map fun x => enc (h x))⟩ := by
    unfold m_ahead_of
    refine fp_fn (wp_seq (wp_par ?_))
    simp only [List.map, List.replicate, List.append_eq, List.cons_append, List.nil_append]
    have e1 : ((n : Int) + 1).toNat = n + 1 := by omega
    have b1 : (-1000000000 : Int) ≤ (n : Int) + 1 ∧ (n : Int) + 1 ≤ 1000000000 ∧ n + 1 ≤ 1000000 := by omega
    have hmul : fMul 1 (.list [.none]) 0 (.int (rows.length : Int)) = some (1, .list ((List.range (n + 1)).map fun x => enc ((fun _ => none) x))) := by
      rw [hl, x_fMulL]
      have e2 : (List.range (n + 1)).map (fun x => enc ((fun _ : Nat => (none : Option Nat)) x)) = List.replicate (n + 1) PyData.none := by
        apply List.ext_getElem
        · simp
        · intro i h1 h2; simp [enc]
      rw [e2]
      simp [e1, b1]
    have i1 : ixN (n + 1) (g : Int) = some g := ixN_nat (by omega)
    have st0 := map_set (n := n) (p := g) (a := g) (fun _ => none) hg
    simp [-x_mSeq, -List.map_map, hmul]
    refine wp_seq ?_
    simp [-x_mSeq, -List.map_map, i1]
    rw [st0]
    refine wp_seq ?_
    refine (wp_while (fun k ρ => ∃ (h : Nat → Option Nat) (wait : List Nat) (x y : Option B), ρ = [some ⟨0, dLL rows⟩, some ⟨0, dI g⟩, some ⟨1, .list ((List.range (n + 1)).map fun x => enc (h x))⟩, some ⟨1, dL wait⟩, x, y] ∧ AI n A g h wait (fun _ => False) ∧ 2 * cnt n h + wait.length ≤ k ∧ k ≤ 2 * (n + 2)) ?_ (2 * (n + 2)) fuel _ ⟨upto (fun _ => none) g g, [g], _, _, rfl, ⟨by simp [upto], fun p _ hp z hz => by simp [upto, hp] at hz, fun p hp => by
      rw [List.mem_singleton] at hp
      subst hp
      exact ⟨hg, by simp [upto]⟩, fun a _ ha => .inl (by
      by_cases e : a = g
      · simp [e]
      · simp [upto, e] at ha)⟩, ?_, Nat.le_refl _⟩ (by unfold fuel; omega) (Q := fun fl ρ => fl = .nx ∧ ∃ (h : Nat → Option Nat) (x y : Option B), ρ = [some ⟨0, dLL rows⟩, some ⟨0, dI g⟩, some ⟨1, .list ((List.range (n + 1)).map fun x => enc (h x))⟩, some ⟨1, dL []⟩, x, y] ∧ AI n A g h [] (fun _ => False))).mono ?_
    · rintro k ρ ⟨h, wait, x, y, rfl, ai, f3, f4⟩
      by_cases hw : wait = []
      · subst hw
        refine ⟨false, [some ⟨0, dLL rows⟩, some ⟨0, dI g⟩, some ⟨1, .list ((List.range (n + 1)).map fun x => enc (h x))⟩, some ⟨1, dL []⟩, x, y], by simp [-List.map_map, ne_nil], ?_⟩
        simp only [Bool.false_eq_true, if_false]
        exact ⟨trivial, h, x, y, rfl, ai⟩
      · obtain ⟨w, a, rfl⟩ : ∃ w a, wait = w ++ [a] := ⟨wait.dropLast, wait.getLast hw, (List.dropLast_concat_getLast hw).symm⟩
        have an : a ≤ n := (ai.w a (by simp)).1
        have ha0 : h a ≠ none := (ai.w a (by simp)).2
        have ar := atI_rows (rows := rows) (a := a) (by omega)
        have nn := ne_nil (w ++ [a]) 1
        refine ⟨true, [some ⟨0, dLL rows⟩, some ⟨0, dI g⟩, some ⟨1, .list ((List.range (n + 1)).map fun x => enc (h x))⟩, some ⟨1, dL (w ++ [a])⟩, x, y], by simp [-List.map_map, -List.map_append, nn], ?_⟩
        simp only [if_true]
        refine wp_seq (wp_set ?_)
        refine ⟨⟨false, 0, dI a⟩, [some ⟨0, dLL rows⟩, some ⟨0, dI g⟩, some ⟨1, .list ((List.range (n + 1)).map fun x => enc (h x))⟩, some ⟨1, dL w⟩, x, y], by simp [-List.map_map], rfl, by simp, ?_⟩
        simp only [List.set_cons_succ, List.set_cons_zero]
        rw [List.length_append, List.length_singleton] at f3
        refine (wp_for (Q := fun fl ρ2 => fl = .nx ∧ ∃ (h : Nat → Option Nat) (wait : List Nat) (x y : Option B), ρ2 = [some ⟨0, dLL rows⟩, some ⟨0, dI g⟩, some ⟨1, .list ((List.range (n + 1)).map fun x => enc (h x))⟩, some ⟨1, dL wait⟩, x, y] ∧ AI n A g h wait (fun _ => False) ∧ 2 * cnt n h + wait.length + 1 ≤ k) ((rows.getD a []).map dI) (fun i ρ2 => ∃ (h : Nat → Option Nat) (wait : List Nat) (y : Option B), ρ2 = [some ⟨0, dLL rows⟩, some ⟨0, dI g⟩, some ⟨1, .list ((List.range (n + 1)).map fun x => enc (h x))⟩, some ⟨1, dL wait⟩, some ⟨0, dI a⟩, y] ∧ AI n A g h wait (fun z => z = a) ∧ h a ≠ none ∧ (∀ p ∈ (rows.getD a []).take i, h p ≠ none) ∧ 2 * cnt n h + wait.length + 1 ≤ k) ?_ ?_ ?_).mono ?_
        · refine ⟨(rows.getD a []).map dI, _, by simp [-List.map_map, ar]; rfl, rfl, ?_⟩
          exact ⟨h, w, y, rfl, ⟨ai.hg, ai.nx, fun p hp => ai.w p (List.mem_append_left _ hp), fun z zn hz => by
            by_cases e : z = a
            · exact .inr (.inl e)
            · rcases ai.cl z zn hz with q | q | q
              · rcases List.mem_append.mp q with q | q
                · exact .inl q
                · exact absurd (List.mem_singleton.mp q) e
              · exact q.elim
              · exact .inr (.inr q)⟩, ha0, by simp, by omega⟩
        · rintro i d ρ hd ⟨h, wait, y, rfl, ai, ha, tk, f3⟩
          obtain ⟨p, hp, rfl⟩ : ∃ p, (rows.getD a [])[i]? = some p ∧ d = dI p := by
            rw [List.getElem?_map] at hd
            cases e : (rows.getD a [])[i]? with
            | none => rw [e] at hd; cases hd
            | some p => rw [e] at hd; cases hd; exact ⟨p, rfl, rfl⟩
          have hap : A a p := (hr a an p).mp (List.mem_of_getElem? hp)
          have pn := T.le _ _ (T.sym _ _ hap)
          have i2 : ixN (n + 1) (p : Int) = some p := ixN_nat (by omega)
          have a2 : atI ((List.range (n + 1)).map fun x => enc (h x)) (p : Int) = some (enc (h p)) := by
            rw [atI_map (by simpa using Nat.lt_succ_of_le pn)]; simp
          have tks : (rows.getD a []).take (i + 1) = (rows.getD a []).take i ++ [p] := by rw [List.take_succ, hp]; rfl
          refine ⟨[some ⟨0, dLL rows⟩, some ⟨0, dI g⟩, some ⟨1, .list ((List.range (n + 1)).map fun x => enc (h x))⟩, some ⟨1, dL wait⟩, some ⟨0, dI a⟩, some ⟨0, dI p⟩], by simp [-List.map_map], ?_⟩
          rw [tks]
          refine wp_cond ?_
          cases hz : h p with
          | none =>
            have cu := cnt_up (a := a) pn hz
            have l2 : wait.length < 1000000 := by omega
            have ms := map_set (n := n) (p := p) (a := a) h pn
            have nz : isNoneD (enc (h p)) = true := by rw [hz]; rfl
            refine ⟨true, [some ⟨0, dLL rows⟩, some ⟨0, dI g⟩, some ⟨1, .list ((List.range (n + 1)).map fun x => enc (h x))⟩, some ⟨1, dL wait⟩, some ⟨0, dI a⟩, some ⟨0, dI p⟩], by simp [-List.map_map, a2, nz], ?_⟩
            simp only [if_true]
            refine wp_seq (wp_asg ?_)
            refine ⟨⟨false, 0, dI a⟩, [some ⟨0, dLL rows⟩, some ⟨0, dI g⟩, some ⟨1, .list ((List.range (n + 1)).map fun x => enc (h x))⟩, some ⟨1, dL wait⟩, some ⟨0, dI a⟩, some ⟨0, dI p⟩], by simp [-List.map_map], rfl, [some ⟨0, dLL rows⟩, some ⟨0, dI g⟩, some ⟨1, .list ((List.range (n + 1)).map fun x => enc (upto h p a x))⟩, some ⟨1, dL wait⟩, some ⟨0, dI a⟩, some ⟨0, dI p⟩], by rw [← ms]; simp [-List.map_map, i2], ?_⟩
            refine wp_drop ?_
            refine ⟨⟨false, 0, .none⟩, [some ⟨0, dLL rows⟩, some ⟨0, dI g⟩, some ⟨1, .list ((List.range (n + 1)).map fun x => enc (upto h p a x))⟩, some ⟨1, dL (wait ++ [p])⟩, some ⟨0, dI a⟩, some ⟨0, dI p⟩], by simp [-List.map_map, l2], ?_⟩
            have keep : ∀ x, h x ≠ none → upto h p a x = h x := fun x hx => if_neg fun e : x = p => hx (by rw [e]; exact hz)
            have up : upto h p a p = some a := if_pos rfl
            have gp : g ≠ p := fun e => by rw [← e, ai.hg] at hz; cases hz
            refine ⟨upto h p a, wait ++ [p], _, rfl, ⟨(keep g (by rw [ai.hg]; simp)).trans ai.hg, fun x xn xg z hx => ?_, fun x hx => ?_, fun x xn hx => ?_⟩, by rw [keep a ha]; exact ha, fun x hx => ?_, by rw [List.length_append, List.length_singleton]; omega⟩
            · by_cases e : x = p
              · subst e
                rw [up] at hx
                cases hx
                refine ⟨hap, ?_, by rw [keep a ha]; exact ha⟩
                rw [Sd.split T hap]
                by_cases ag : a = g
                · exact .inl ag.symm
                · cases hza : h a with
                  | none => exact absurd hza ha
                  | some z0 =>
                    obtain ⟨q1, q2, q3⟩ := ai.nx a an ag z0 hza
                    exact .inr ⟨z0, T.sym _ _ q1, fun e => q3 (e ▸ hz), q2⟩
              · have ex : upto h p a x = h x := if_neg e
                rw [ex] at hx
                obtain ⟨q1, q2, q3⟩ := ai.nx x xn xg z hx
                exact ⟨q1, q2, by rw [keep z q3]; exact q3⟩
            · rcases List.mem_append.mp hx with q | q
              · obtain ⟨q1, q2⟩ := ai.w x q
                exact ⟨q1, by rw [keep x q2]; exact q2⟩
              · rw [List.mem_singleton] at q
                subst q
                exact ⟨pn, by rw [up]; simp⟩
            · by_cases e : x = p
              · subst e; exact .inl (by simp)
              · have ex : upto h p a x = h x := if_neg e
                rw [ex] at hx
                rcases ai.cl x xn hx with q | q | q
                · exact .inl (List.mem_append_left _ q)
                · exact .inr (.inl q)
                · exact .inr (.inr fun u hu => by rw [keep u (q u hu)]; exact q u hu)
            · rcases List.mem_append.mp hx with q | q
              · rw [keep x (tk x q)]; exact tk x q
              · rw [List.mem_singleton] at q
                subst q
                rw [up]; simp
          | some z0 =>
            have nz : isNoneD (enc (h p)) = false := by rw [hz]; rfl
            refine ⟨false, [some ⟨0, dLL rows⟩, some ⟨0, dI g⟩, some ⟨1, .list ((List.range (n + 1)).map fun x => enc (h x))⟩, some ⟨1, dL wait⟩, some ⟨0, dI a⟩, some ⟨0, dI p⟩], by simp [-List.map_map, a2, nz], ?_⟩
            refine ⟨.nx, _, rfl, h, wait, _, rfl, ai, ha, fun x hx => ?_, f3⟩
            rcases List.mem_append.mp hx with q | q
            · exact tk x q
            · rw [List.mem_singleton] at q
              subst q
              rw [hz]; simp
        · rintro ρ ⟨h, wait, y, rfl, ai, ha, tk, f3⟩
          rw [List.length_map, List.take_length] at tk
          refine ⟨rfl, h, wait, _, y, rfl, ⟨ai.hg, ai.nx, ai.w, fun x xn hx => ?_⟩, f3⟩
          rcases ai.cl x xn hx with q | q | q
          · exact .inl q
          · subst q
            exact .inr (.inr fun p hp => tk p ((hr x an p).mpr hp))
          · exact .inr (.inr q)
        · rintro fl ρ2 ⟨rfl, h, wait, x, y, rfl, ai, f3⟩
          exact ⟨k - 1, by omega, h, wait, x, y, rfl, ai, by omega, by omega⟩
    · have : cnt n (upto (fun _ => none) g g) ≤ n + 1 := by
        unfold cnt
        have := List.length_filter_le (fun p => (upto (fun _ => none) g g p).isNone) (List.range (n + 1))
        rw [List.length_range] at this
        exact this
      simp only [List.length_singleton]
      have c := cnt_up (n := n) (p := g) (a := g) (h := fun _ => none) hg rfl
      have c2 : cnt n (fun _ => none) ≤ n + 1 := by
        unfold cnt
        have := List.length_filter_le (fun p => ((fun _ : Nat => (none : Option Nat)) p).isNone) (List.range (n + 1))
        rw [List.length_range] at this
        exact this
      omega
    · rintro fl ρ ⟨rfl, h, x, y, rfl, ai⟩
      refine wp_ret ?_
      refine ⟨⟨true, 1, .list ((List.range (n + 1)).map fun x => enc (h x))⟩, [some ⟨0, dLL rows⟩, some ⟨0, dI g⟩, none, some ⟨1, dL []⟩, x, y], by simp [-List.map_map], .inl rfl, by simp, h, ⟨ai.hg, fun p pn pg => ?_⟩, rfl⟩
      have all := T.conn (C := fun p => h p ≠ none) hg (by rw [ai.hg]; simp) (fun a b ha hab => by
        rcases ai.cl a (T.le _ _ hab) ha with q | q | q
        · simp at q
        · exact q.elim
        · exact q b hab) p pn
      cases hz : h p with
      | none => exact absurd hz all
      | some z =>
        obtain ⟨q1, q2, _⟩ := ai.nx p pn pg z hz
        exact ⟨z, rfl, q1, q2⟩
  obtain ⟨r, outs, e, rfl, h, ah, rfl⟩ := fin
  exact ⟨h, ah, e⟩
end K11

set_option Elab.async false
set_option linter.all false
set_option maxRecDepth 100000
namespace K11
open PySem L2 PySem.Spec Lk Tr
def aheads (n : Nat) (Fd : Nat → Nat → Option Nat) : List D := (List.range (n + 1)).map fun q => .list ((List.range (n + 1)).map fun x => enc (Fd q x))
theorem callB1 {i : Nat} {g : Fn} {ρ : Sto} {b : B} {r : R} {outs : List (Option B)} (h : ρ[i]? = some (some b)) (e : g [⟨0, b.d⟩] = some (r, outs)) (f : flatR r = true) : mCallB i g ρ = some (r, ρ) := by
  unfold mCallB
  rw [h]
  simp only [e, f, if_true]
theorem flat_dPs (l : List (Nat × Nat)) : flatR ⟨true, 1, dPs l⟩ = true := by
  show (l.map dP).all flat = true
  rw [List.all_eq_true]
  intro x hx
  obtain ⟨p, _, rfl⟩ := List.mem_map.mp hx
  rfl
theorem e_init {TT : List ((Nat × Nat) × Bool)} {t : D} (ht : IsTold TT t) {L : List (Nat × Nat)} (hL : L = TT.map (·.1)) (g : Good L) : ∃ Fd : Nat → Nat → Option Nat, (∀ q, q ≤ L.length → Ahead L.length (Adj L) q (Fd q)) ∧ ∀ k : Nat, m_Country_init [⟨1, .dict [(.str clsKey, .str "Country")]⟩, ⟨k, t⟩] = some (⟨false, 0, .none⟩, [some ⟨1, ctry L (aheads L.length Fd)⟩, some ⟨k, t⟩]) := by
  have few := g.few
  have e1 := e_lanes_in ht hL g
  have ne : ∀ e ∈ L, e.1 ≠ e.2 := fun e he => (g.le he).2.2
  have lS : (sortP (L.map mm)).length = L.length := by rw [(sortP_perm _).length_eq, List.length_map]
  have tS : tiesL (sortP (L.map mm)) = tiesL L := (tiesL_perm (sortP_perm _)).trans (tiesL_mm ne)
  have hle := mm_le g
  rw [List.length_map] at hle
  have e2 := e_ties_of (sortP (L.map mm)) (fun e he => by
    rw [lS]
    exact hle e ((sortP_perm _).mem_iff.mp he)) (by omega)
  rw [tS] at e2
  have tl := tiesL_len L
  have ea : ∀ q, ∃ h : Nat → Option Nat, q ≤ L.length → Ahead L.length (Adj L) q h ∧ m_ahead_of [⟨0, dLL (tiesL L)⟩, ⟨0, dI q⟩] = some (⟨true, 1, .list ((List.range (L.length + 1)).map fun x => enc (h x))⟩, [some ⟨0, dLL (tiesL L)⟩, some ⟨0, dI q⟩]) := fun q => by
    by_cases hq : q ≤ L.length
    · obtain ⟨h, ah, e⟩ := e_ahead g.tree (tiesL L) tl hq (fun a ha p => mem_ties ha p) (by omega)
      exact ⟨h, fun _ => ⟨ah, e⟩⟩
    · exact ⟨fun _ => none, fun h => absurd h hq⟩
  obtain ⟨Fd, hF⟩ := Classical.axiomOfChoice ea
  refine ⟨Fd, fun q hq => (hF q hq).1, fun k => ?_⟩
  have f1 := flat_dPs (sortP (L.map mm))
  apply Fp.eq
  unfold ctry aheads
  generalize sortP (L.map mm) = S at *
  generalize tiesL L = T at *
  unfold m_Country_init
  refine fp_fn (wp_seq (wp_set ?_))
  simp only [List.map, List.replicate, List.append_eq, List.cons_append, List.nil_append]
  rw [callB1 (i := 1) (ρ := [some ⟨1, .dict [(.str clsKey, .str "Country")]⟩, some ⟨k, t⟩, none, none]) (b := ⟨k, t⟩) rfl e1 f1]
  simp [-x_mSeq]
  refine wp_seq (wp_cond ?_)
  simp [-x_mSeq]
  refine wp_seq (wp_attr ?_)
  simp only [x_mT, List.getElem?_cons_zero, List.getElem?_cons_succ, wp_some]
  refine ⟨rfl, 0, [], rfl, by simp, ?_⟩
  refine wp_seq (wp_attr ?_)
  have k2 := call1 (n := 1) (ms := mF1 (mT 2) mF0) (ρ := [some ⟨1, .dict [(.str clsKey, .str "Country"), (.str "own_lanes", dPs S)]⟩, some ⟨k, t⟩, some ⟨0, dPs S⟩, none]) (ds := [dPs S]) (ρ1 := [some ⟨1, .dict [(.str clsKey, .str "Country"), (.str "own_lanes", dPs S)]⟩, some ⟨k, t⟩, some ⟨0, dPs S⟩, none]) (by simp) rfl rfl e2
  refine ⟨_, _, k2, rfl, 0, [(.str "own_lanes", dPs S)], rfl, by simp, ?_⟩
  rw [put1]
  refine wp_attr ?_
  have c1 := lc_all2 (kk := 0) (vs := [3]) (mi := mR1 (mBin fAdd (mUn fLen (mV 2)) (mC (.int 1)))) (b := bN 3) (me := mCall 2 m_ahead_of (mF1 (mUn (fAttr "Country" "own_ties") (mV 0)) (mF1 (mT 3) mF0))) (ρ := [some ⟨1, .dict [(.str clsKey, .str "Country"), (.str "own_lanes", dPs S), (.str "own_ties", dLL T)]⟩, some ⟨k, t⟩, some ⟨0, dPs S⟩, none]) (ρ0 := [some ⟨1, .dict [(.str clsKey, .str "Country"), (.str "own_lanes", dPs S), (.str "own_ties", dLL T)]⟩, some ⟨k, t⟩, some ⟨0, dPs S⟩, none]) (g := fun i : Nat => PyData.int (i : Int)) (List.range (L.length + 1)) (fun q => .list ((List.range (L.length + 1)).map fun x => enc (Fd q x))) (by
      have e : ((L.length : Int) + 1).toNat = L.length + 1 := by omega
      have b1 : (-1000000000 : Int) ≤ (L.length : Int) + 1 ∧ (L.length : Int) + 1 ≤ 1000000000 := by omega
      simp [e, dInts_nat, b1, lS]) (by simp; omega) (fun x hx => by
      have := call1 (n := 2) (ms := mF1 (mUn (fAttr "Country" "own_ties") (mV 0)) (mF1 (mT 3) mF0)) (ρ := [some ⟨1, .dict [(.str clsKey, .str "Country"), (.str "own_lanes", dPs S), (.str "own_ties", dLL T)]⟩, some ⟨k, t⟩, some ⟨0, dPs S⟩, some ⟨0, dI x⟩]) (ds := [dLL T, dI x]) (ρ1 := [some ⟨1, .dict [(.str clsKey, .str "Country"), (.str "own_lanes", dPs S), (.str "own_ties", dLL T)]⟩, some ⟨k, t⟩, some ⟨0, dPs S⟩, some ⟨0, dI x⟩]) (by simp [attr2]) rfl rfl (hF x (by simp at hx; omega)).2
      simp [-x_mCall, -List.map_map, this])
  refine ⟨_, _, c1, rfl, 0, [(.str "own_lanes", dPs S), (.str "own_ties", dLL T)], rfl, by simp, ?_⟩
  rw [put2]
  simp
theorem ne5 : ¬ ((Str.ofString "own_ties") = (Str.ofString "own_ahead")) := by decide +kernel
theorem attrA (k : Nat) (L : List (Nat × Nat)) (X : List D) : fAttr "Country" "own_ahead" k (ctry L X) = some (0, .list X) := by
  simp [fAttr, attrOf, attrOf.look, ne2, ne3, ctry]
theorem at_ahead {n q p : Nat} (Fd : Nat → Nat → Option Nat) (hq : q ≤ n) : atI (aheads n Fd) (q : Int) = some (.list ((List.range (n + 1)).map fun x => enc (Fd q x))) := by
  unfold aheads
  rw [atI_map (by simpa using Nat.lt_succ_of_le hq)]
  simp
theorem at_enc {n p : Nat} (h : Nat → Option Nat) (hp : p ≤ n) : atI ((List.range (n + 1)).map fun x => enc (h x)) (p : Int) = some (enc (h p)) := by
  rw [atI_map (by simpa using Nat.lt_succ_of_le hp)]
  simp
variable {L : List (Nat × Nat)} {Fd : Nat → Nat → Option Nat}
end K11

set_option Elab.async false
set_option linter.all false
set_option maxRecDepth 100000
namespace K11
open PySem L2 PySem.Spec Lk Tr
variable {L : List (Nat × Nat)} {X : List D} {Fd : Nat → Nat → Option Nat}
abbrev C' (L : List (Nat × Nat)) (Fd : Nat → Nat → Option Nat) : D := ctry L (aheads L.length Fd)
end K11

set_option Elab.async false
set_option linter.all false
set_option maxRecDepth 100000
namespace K11
open PySem L2 PySem.Spec Lk Tr
variable {L : List (Nat × Nat)} {Fd : Nat → Nat → Option Nat}
/-! ### texts of lists of lists -/
theorem weight_dL {l : List Nat} (hl : l.length ≤ 40) (h : ∀ x ∈ l, x ≤ 1000) : (dL l).weight ≤ 480 := by
  have := weightAll_dI l h
  simp [PyData.weight]
  omega
theorem LL_all {l : List (List Nat)} (h : ∀ r ∈ l, r.length ≤ 40 ∧ ∀ x ∈ r, x ≤ 1000) : PyData.weightAll (l.map dL) ≤ 481 * l.length ∧ PyData.canLayAll0 (l.map dL) = true ∧ PyData.intsShortAll 13 (l.map dL) = true ∧ PyData.showableAll (l.map dL) = true ∧ plnA (l.map dL) = true ∧ PyData.depthAll (l.map dL) ≤ 1 := by
  induction l with
  | nil => simp [PyData.weightAll, PyData.canLayAll0, PyData.intsShortAll, PyData.showableAll, plnA, PyData.depthAll]
  | cons r l ih =>
    obtain ⟨i1, i2, i3, i4, i5, i6⟩ := ih fun x hx => h x (List.mem_cons_of_mem _ hx)
    obtain ⟨hl, hx⟩ := h r List.mem_cons_self
    have w := weight_dL hl hx
    have d0 := depthAll_dI r
    refine ⟨?_, ?_, ?_, ?_, ?_, ?_⟩
    · rw [List.map_cons, PyData.weightAll, List.length_cons]; omega
    · simp [PyData.canLayAll0, PyData.canLay0, canLayAll_dI] at i2 ⊢; exact i2
    · simp [PyData.intsShortAll, PyData.intsShort, shortAll_dI r hx] at i3 ⊢; exact i3
    · simp [PyData.showableAll, PyData.showable, showAll_dI r hx] at i4 ⊢; exact i4
    · simp [plnA, pln, plnA_dI] at i5 ⊢; exact i5
    · rw [List.map_cons, PyData.depthAll]
      have : (dL r).depth = 1 := by simp [PyData.depth, d0]
      omega
theorem fRepr_LL {k : Nat} {l : List (List Nat)} (h0 : l.length ≤ 5) (h : ∀ r ∈ l, r.length ≤ 40 ∧ ∀ x ∈ r, x ≤ 1000) : fRepr k (dLL l) = some (0, .str (dLL l).shown) := by
  obtain ⟨i1, i2, i3, i4, i5, i6⟩ := LL_all h
  have c : (dLL l).canLay0 = true := by rw [PyData.canLay0]; exact i2
  have s : (dLL l).intsShort 13 = true := by rw [PyData.intsShort]; exact i3
  have w : (dLL l).weight ≤ 2500 := by rw [PyData.weight]; omega
  have sh := PyData.shown_le 13 (by decide) (dLL l) (PyData.leavesShort_of_canLay0 13 _ c s)
  have p : pln (dLL l) = true := by rw [pln]; exact i5
  have dp : (dLL l).depth ≤ 64 := by rw [PyData.depth]; omega
  have sw : (dLL l).showable = true := by rw [PyData.showable]; exact i4
  have l2 : (dLL l).shown.length ≤ lim := by
    show _ ≤ 1000000
    omega
  unfold fRepr
  rw [p, sw, decide_eq_true dp, decide_eq_true l2]
  rfl
theorem fNe_LL {ka kb : Nat} (l : List (List Nat)) : fNe ka (.str (dLL l).shown) kb (.str (dLL l).shown) = some (0, .bool false) := by
  have bf : ∀ c, 1114112 ≤ c → c ∉ (dLL l).shown.cps.toList := fun c hc => by
    rw [PyData.shown_list, PyProof.Rows.mem_cps_append, PyProof.Rows.mem_cps_append, PyProof.Rows.signs_lbrack, PyProof.Rows.signs_rbrack, PyProof.Rows.mem_join]
    rintro ((hm | (⟨t, ht, h⟩ | ⟨_, hm⟩)) | hm)
    · simp at hm; omega
    · refine PyProof.Rows.shownAll_free (k := c) (xs := l.map dL) (fun x hx => ?_) t ht h
      obtain ⟨r, _, rfl⟩ := List.mem_map.mp hx
      exact big_free hc r
    · rw [PyProof.Rows.signs_sep] at hm
      simp at hm; omega
    · simp at hm; omega
  have so : PyData.strOk (dLL l).shown = true := by
    unfold PyData.strOk
    rw [Array.all_eq_true]
    intro i hi
    rw [decide_eq_true_iff]
    refine Classical.byContradiction fun h => bf (dLL l).shown.cps[i] (by omega) ?_
    simp
  have eo : eqOk (.str (dLL l).shown) = true := by simp [eqOk, pln, SeqAt.shaped, PyData.canLay0, PyData.depth, so]
  simp only [fNe, eo, Bool.and_self, if_true]
  simp [PyData.eqv]
/-! ### along a walk -/
end K11

set_option Elab.async false
set_option linter.all false
set_option maxRecDepth 100000
namespace K11
open PySem L2 PySem.Spec Lk Tr
def IsPot (b : B) : Prop := ∃ x y : Int, b = ⟨1, .list [.int x, .int y]⟩ ∧ 0 ≤ x ∧ 0 ≤ y ∧ y < 2147483648
theorem callR1 {n : Nat} {g : Fn} {ms : M (List Lk.Arg)} {ρ ρ1 ρ2 : Sto} {as : List Lk.Arg} {bs : List B} {r : R} {outs : List (Option B)} (h1 : ms ρ = some (as, ρ1)) (h2 : pull as ρ1 = some (bs, ρ2)) (h3 : bs.length = n) (h4 : g bs = some (r, outs)) : mCallR n g ms ρ = some (r, push as outs ρ2) := by
  unfold mCallR
  rw [h1]
  simp only
  rw [h2]
  simp only [h3, if_true, h4]
theorem e_draw {P : B} (hp : IsPot P) {many : Nat} (h1 : 1 ≤ many) (h2 : many ≤ 100000) : ∃ fr d P', d < many ∧ IsPot P' ∧ m__law_draw [P, ⟨0, dI many⟩] = some (⟨fr, 0, dI d⟩, [some P', some ⟨0, dI many⟩]) := by
  obtain ⟨x, y, rfl, hx, hy, hy2⟩ := hp
  have a0 : ∀ u v : D, atI [u, v] 0 = some u := fun u v => rfl
  have a1 : ∀ u v : D, atI [u, v] 1 = some v := fun u v => rfl
  have i0 : ixN 2 0 = some 0 := by decide
  have i1 : ixN 2 1 = some 1 := by decide
  by_cases h0 : 0 < x
  · have cd : CDiv x (many : Int) := ⟨by omega, by omega⟩
    have q0 : 0 ≤ x / (many : Int) := Int.ediv_nonneg hx (by omega)
    have r0 : 0 ≤ x % (many : Int) := Int.emod_nonneg x (by omega)
    have r1 : x % (many : Int) < (many : Int) := Int.emod_lt_of_pos x (by omega)
    refine ⟨false, (x % (many : Int)).toNat, ⟨1, .list [.int (x / (many : Int)), .int y]⟩, by omega, ⟨_, _, rfl, q0, hy, hy2⟩, ?_⟩
    have e : ((x % (many : Int)).toNat : Int) = x % (many : Int) := by omega
    simp [m__law_draw, a0, a1, i0, h0, cd, e]
  · have c1 : CMul y 40014 := .inr (by decide)
    have z0 : 0 ≤ (y * 40014 + 9011) % 2147483587 := Int.emod_nonneg _ (by decide)
    have z1 : (y * 40014 + 9011) % 2147483587 < 2147483587 := Int.emod_lt_of_pos _ (by decide)
    generalize hz : (y * 40014 + 9011) % 2147483587 = z at z0 z1
    have c2 : CMul z z := .inl ⟨by omega, by omega⟩
    have c3 : CDiv (z * z % 2147483563) 31 := ⟨by decide, by decide⟩
    have r0 : 0 ≤ (z * z % 2147483563 / 31) % (many : Int) := Int.emod_nonneg _ (by omega)
    have r1 : (z * z % 2147483563 / 31) % (many : Int) < (many : Int) := Int.emod_lt_of_pos _ (by omega)
    have hm : (0 : Int) < (many : Int) := by omega
    have hm' : 0 < many := by omega
    refine ⟨true, ((z * z % 2147483563 / 31) % (many : Int)).toNat, ⟨1, .list [.int x, .int z]⟩, by omega, ⟨_, _, rfl, hx, z0, by omega⟩, ?_⟩
    have e : (((z * z % 2147483563 / 31) % (many : Int)).toNat : Int) = (z * z % 2147483563 / 31) % (many : Int) := by omega
    simp [m__law_draw, a0, a1, i1, h0, c1, hz, c2, c3, hm', e]
theorem e_pick {P : B} (hp : IsPot P) {l : List Nat} (h1 : l ≠ []) (h2 : l.length ≤ 1000) : ∃ x P', x ∈ l ∧ IsPot P' ∧ m__law_pick [P, ⟨0, dL l⟩] = some (⟨false, 0, dI x⟩, [some P', some ⟨0, dL l⟩]) := by
  obtain ⟨fr, d, P', hd, hP, e⟩ := e_draw hp (many := l.length) (List.length_pos_iff.mpr h1) (by omega)
  refine ⟨l[d], P', List.getElem_mem _, hP, ?_⟩
  have a1 : atI (l.map dI) (d : Int) = some (dI l[d]) := atI_map hd
  have k := callR1 (n := 2) (ms := mGr 0 (mG1 (mUn fLen (mV 1)) mG0)) (ρ := [some P, some ⟨0, dL l⟩]) (ρ1 := [some P, some ⟨0, dL l⟩]) (ρ2 := [none, some ⟨0, dL l⟩]) (as := [.r 0, .v (dI l.length)]) (bs := [P, ⟨0, dI l.length⟩]) (by simp) (by simp) rfl e
  simp [-x_mCallR, m__law_pick, k, a1]
end K11

set_option Elab.async false
set_option linter.all false
set_option maxRecDepth 100000
namespace K11
open PySem L2 PySem.Spec Lk Tr
structure Raw (LL : List (Nat × Nat)) (m : Nat) : Prop where
  m1 : 1 ≤ m
  ml : m ≤ LL.length + 1
  sh : ∀ (k : Nat) (e : Nat × Nat), LL[k]? = some e → e.2 = k + 1 ∧ e.1 ≤ k ∧ e.1 < m
theorem Raw.mem {LL : List (Nat × Nat)} {m : Nat} (h : Raw LL m) {e : Nat × Nat} (he : e ∈ LL) : ∃ k, LL[k]? = some e ∧ k < LL.length ∧ e.2 = k + 1 ∧ e.1 ≤ k ∧ e.1 < m := by
  obtain ⟨k, hk, e1⟩ := List.getElem_of_mem he
  have : LL[k]? = some e := by rw [List.getElem?_eq_getElem hk, e1]
  exact ⟨k, this, hk, h.sh k e this⟩
theorem Raw.pw {LL : List (Nat × Nat)} {m : Nat} (h : Raw LL m) : LL.Pairwise fun a b => a.2 < b.2 := by
  rw [List.pairwise_iff_getElem]
  intro i j hi hj hij
  have h1 := (h.sh i _ (List.getElem?_eq_getElem hi)).1
  have h2 := (h.sh j _ (List.getElem?_eq_getElem hj)).1
  omega
theorem one_le {l : List (Nat × Nat)} {u : Nat} (h : l.Pairwise fun a b => a.2 < b.2) (hu : ∀ e ∈ l, e.2 = u) : l.length ≤ 1 := by
  match l, h, hu with
  | [], _, _ => simp
  | [_], _, _ => simp
  | x :: y :: r, h, hu =>
    have h1 := (List.pairwise_cons.mp h).1 y List.mem_cons_self
    have h2 := hu x List.mem_cons_self
    have h3 := hu y (List.mem_cons_of_mem _ List.mem_cons_self)
    omega
/-- who is no parent has one neighbour at most -/
theorem Raw.gate {LL : List (Nat × Nat)} {m u : Nat} (h : Raw LL m) (hu : ∀ e ∈ LL, e.1 ≠ u) : (nb LL u).length ≤ 1 := by
  rw [← (nb_two LL u).length_eq, List.length_append, List.length_map, List.length_map]
  have h1 : LL.filter (fun e => decide (e.1 = u)) = [] := by
    rw [List.filter_eq_nil_iff]
    intro e he
    simpa using hu e he
  have h2 := one_le (l := LL.filter fun e => decide (e.2 = u)) (u := u) (h.pw.filter _) fun e he => by simpa using (List.mem_filter.mp he).2
  rw [h1]
  simp only [List.length_nil]
  omega
def led (ps : List Nat) (LL : List (Nat × Nat)) : List (Nat × Nat) := LL.map fun e => (ps.getD e.1 0, ps.getD e.2 0)
theorem good_of {LL : List (Nat × Nat)} {m : Nat} {ps : List Nat} (h : Raw LL m) (hp : ps.Perm (List.range (LL.length + 1))) (hm : m ≤ 7) (few : LL.length ≤ 28) (hd : ∀ u, u < m → 2 ≤ (nb LL u).length ∧ (nb LL u).length ≤ 4) : Good (led ps LL) := by
  have lp : ps.length = LL.length + 1 := by rw [hp.length_eq, List.length_range]
  have np : ps.Nodup := hp.nodup_iff.mpr List.nodup_range
  have mp : ∀ x, x ∈ ps ↔ x ≤ LL.length := fun x => by rw [hp.mem_iff, List.mem_range]; omega
  obtain ⟨f, hf⟩ : ∃ f : Nat → Nat, ∀ i, f i = ps.getD i 0 := ⟨fun i => ps.getD i 0, fun _ => rfl⟩
  have fe : ∀ i (hi : i < ps.length), f i = ps[i] := fun i hi => by rw [hf, List.getD_eq_getElem?_getD, List.getElem?_eq_getElem hi]; rfl
  have fl : ∀ i, i ≤ LL.length → f i ≤ LL.length := fun i hi => by
    rw [fe i (by omega)]
    exact (mp _).mp (List.getElem_mem _)
  have fi : ∀ i j, i ≤ LL.length → j ≤ LL.length → f i = f j → i = j := fun i j hi hj e => by
    rw [fe i (by omega), fe j (by omega)] at e
    refine Classical.byContradiction fun hn => ?_
    rcases Nat.lt_or_gt_of_ne hn with q | q
    · exact (List.pairwise_iff_getElem.mp np) i j (by omega) (by omega) q e
    · exact (List.pairwise_iff_getElem.mp np) j i (by omega) (by omega) q e.symm
  have fs : ∀ p, p ≤ LL.length → ∃ i, i ≤ LL.length ∧ f i = p := fun p hp => by
    obtain ⟨i, hi, e⟩ := List.getElem_of_mem ((mp p).mpr hp)
    exact ⟨i, by omega, by rw [fe i hi, e]⟩
  obtain ⟨gv, hg⟩ : ∃ gv : Nat → Nat, ∀ i, i ≤ LL.length → gv (f i) = i := by
    refine ⟨fun p => @dite _ (∃ i, i ≤ LL.length ∧ f i = p) (Classical.propDecidable _) (fun h => h.choose) (fun _ => 0), fun i hi => ?_⟩
    have hx : ∃ j, j ≤ LL.length ∧ f j = f i := ⟨i, hi, rfl⟩
    simp only [dif_pos hx]
    exact fi _ _ hx.choose_spec.1 hi hx.choose_spec.2
  have eL : led ps LL = LL.map fun e => (f e.1, f e.2) := by
    unfold led
    exact List.map_congr_left fun e _ => by rw [hf, hf]
  have ll : (led ps LL).length = LL.length := by simp [led]
  have mL : ∀ a b, (a, b) ∈ led ps LL ↔ ∃ k u, LL[k]? = some (u, k + 1) ∧ k < LL.length ∧ u ≤ k ∧ u < m ∧ a = f u ∧ b = f (k + 1) := fun a b => by
    rw [eL, List.mem_map]
    constructor
    · rintro ⟨e, he, ee⟩
      obtain ⟨k, h1, h2, h3, h4, h5⟩ := h.mem he
      obtain ⟨u, v⟩ := e
      simp only at h3 h4 h5 ee
      subst h3
      exact ⟨k, u, h1, h2, h4, h5, (congrArg Prod.fst ee).symm, (congrArg Prod.snd ee).symm⟩
    · rintro ⟨k, u, h1, _, _, _, rfl, rfl⟩
      exact ⟨_, List.mem_of_getElem? h1, rfl⟩
  have leA : ∀ a b, Adj (led ps LL) a b → a ≤ LL.length := fun a b hab => by
    rcases hab with hab | hab
    · obtain ⟨k, u, _, h2, h3, _, e1, _⟩ := (mL _ _).mp hab
      rw [e1]; exact fl _ (by omega)
    · obtain ⟨k, u, _, h2, h3, _, _, e2⟩ := (mL _ _).mp hab
      rw [e2]; exact fl _ (by omega)
  have tree : Tree LL.length (Adj (led ps LL)) := by
    refine ⟨fun a b hab => hab.symm, leA, gv, fun p => f ((LL.getD (gv p - 1) (0, 0)).1), f 0, fl 0 (Nat.zero_le _), fun p pn pr => ?_, fun a b hab => ?_⟩
    · obtain ⟨i, hi, rfl⟩ := fs p pn
      have i0 : i ≠ 0 := fun e => pr (by rw [e])
      obtain ⟨j, rfl⟩ : ∃ j, i = j + 1 := ⟨i - 1, by omega⟩
      have hj : j < LL.length := by omega
      have hs := h.sh j _ (List.getElem?_eq_getElem hj)
      have ed : LL.getD (gv (f (j + 1)) - 1) (0, 0) = LL[j] := by
        rw [hg _ hi, List.getD_eq_getElem?_getD, Nat.add_sub_cancel, List.getElem?_eq_getElem hj]; rfl
      simp only [ed]
      refine ⟨fl _ (by omega), by rw [hg _ (by omega), hg _ hi]; omega, .inl ((mL _ _).mpr ⟨j, LL[j].1, ?_, hj, hs.2.1, hs.2.2, rfl, rfl⟩)⟩
      rw [List.getElem?_eq_getElem hj]
      congr 1
      exact Prod.ext rfl hs.1
    · have key : ∀ a b, (a, b) ∈ led ps LL → b ≠ f 0 ∧ a = f ((LL.getD (gv b - 1) (0, 0)).1) := fun a b hm => by
        obtain ⟨k, u, h1, h2, h3, h4, rfl, rfl⟩ := (mL _ _).mp hm
        refine ⟨fun e => by have := fi _ _ (by omega) (Nat.zero_le _) e; omega, ?_⟩
        rw [hg _ (by omega), List.getD_eq_getElem?_getD, Nat.add_sub_cancel, h1]
        rfl
      rcases hab with hab | hab
      · exact .inl (key _ _ hab)
      · exact .inr (key _ _ hab)
  have nbl : ∀ u, u ≤ LL.length → nb (led ps LL) (f u) = (nb LL u).map f := fun u hu => by
    rw [eL]
    have hb : ∀ e ∈ LL, e.1 ≤ LL.length ∧ e.2 ≤ LL.length := fun e he => by
      obtain ⟨k, _, h2, h3, h4, _⟩ := h.mem he
      omega
    generalize LL.length = n at *
    clear mL leA tree eL h hd ll
    induction LL with
    | nil => rfl
    | cons e LL ih =>
      have ih := ih (fun x hx => hb x (List.mem_cons_of_mem _ hx))
      have hb1 := hb e List.mem_cons_self
      unfold nb at *
      rw [List.map_cons, List.flatMap_cons, List.flatMap_cons, List.map_append, ih]
      congr 1
      have q1 : f e.1 = f u ↔ e.1 = u := ⟨fi _ _ hb1.1 hu, fun e => by rw [e]⟩
      have q2 : f e.2 = f u ↔ e.2 = u := ⟨fi _ _ hb1.2 hu, fun e => by rw [e]⟩
      by_cases c1 : e.1 = u <;> by_cases c2 : e.2 = u <;> simp [q1, q2, c1, c2]
  have gate : ∀ u, m ≤ u → (nb LL u).length ≤ 1 := fun u hu => h.gate fun e he => by
    obtain ⟨_, _, _, _, _, h5⟩ := h.mem he
    omega
  have deg : ∀ u, u ≤ LL.length → (nb (led ps LL) (f u)).length = (nb LL u).length := fun u hu => by rw [nbl u hu, List.length_map]
  have my : ∀ p, p ∈ yardsL (led ps LL) ↔ p ∈ (List.range m).map f := fun p => by
    rw [mem_yards, ll, List.mem_map]
    constructor
    · rintro ⟨h1, h2⟩
      obtain ⟨u, hu, rfl⟩ := fs p h1
      rw [deg u hu] at h2
      refine ⟨u, List.mem_range.mpr (Classical.byContradiction fun hn => ?_), rfl⟩
      have := gate u (by omega)
      omega
    · rintro ⟨u, hu, rfl⟩
      have hu := List.mem_range.mp hu
      have ml := h.ml
      refine ⟨fl u (by omega), ?_⟩
      rw [deg u (by omega)]
      have := (hd u hu).1
      omega
  have ym : (yardsL (led ps LL)).length = m := by
    have nd2 : ((List.range m).map f).Nodup := by
      have p := List.nodup_range (n := m)
      unfold List.Nodup at *
      rw [List.pairwise_map]
      refine p.imp_of_mem fun {a b} ha hb hab e => hab ?_
      have := h.ml
      exact fi a b (by have := List.mem_range.mp ha; omega) (by have := List.mem_range.mp hb; omega) e
    have := ((List.perm_ext_iff_of_nodup (lt_nd yardsL_lt) nd2).mpr my).length_eq
    rw [this, List.length_map, List.length_range]
  refine ⟨by rw [ll]; exact tree, ?_, by rw [ll]; exact few, fun p pn => ?_, by rw [ym]; exact h.m1, by rw [ym]; exact hm⟩
  · unfold List.Nodup
    rw [eL, List.map_map, List.pairwise_map, List.pairwise_iff_getElem]
    intro i j hi hj hij e
    have s1 := h.sh i _ (List.getElem?_eq_getElem hi)
    have s2 := h.sh j _ (List.getElem?_eq_getElem hj)
    simp only [Function.comp, mm, Prod.mk.injEq] at e
    have hq : f LL[j].2 = f LL[i].1 ∨ f LL[j].2 = f LL[i].2 := by omega
    rcases hq with q | q
    · have := fi _ _ (by omega) (by omega) q; omega
    · have := fi _ _ (by omega) (by omega) q; omega
  · rw [ll] at pn
    obtain ⟨u, hu, rfl⟩ := fs p pn
    rw [deg u hu]
    by_cases q : u < m
    · exact (hd u q).2
    · have := gate u (by omega); omega
end K11

set_option Elab.async false
set_option linter.all false
set_option maxRecDepth 100000
namespace K11
open PySem L2 PySem.Spec Lk Tr
/-- a digit drawn inside a store whose first slot is the pot -/
theorem draw_in {P : B} (hp : IsPot P) {many : Nat} (h1 : 1 ≤ many) (h2 : many ≤ 100000) : ∃ fr d P', d < many ∧ IsPot P' ∧ ∀ (rest : Sto) (ms : M (List Lk.Arg)), ms (some P :: rest) = some ([.v (dI many)], some P :: rest) →
    mCallR 2 m__law_draw (mGr 0 ms) (some P :: rest) = some (⟨fr, 0, dI d⟩, some P' :: rest) := by
  obtain ⟨fr, d, P', hd, hP, e⟩ := e_draw hp h1 h2
  refine ⟨fr, d, P', hd, hP, fun rest ms hm => ?_⟩
  have := callR1 (n := 2) (g := m__law_draw) (ms := mGr 0 ms) (ρ := some P :: rest) (ρ1 := some P :: rest) (ρ2 := none :: rest) (as := [.r 0, .v (dI many)]) (bs := [P, ⟨0, dI many⟩]) (by simp [hm]) (by simp) rfl e
  rw [this]
  simp
theorem pick_in {P : B} (hp : IsPot P) {l : List Nat} (h1 : l ≠ []) (h2 : l.length ≤ 1000) : ∃ x P', x ∈ l ∧ IsPot P' ∧ ∀ (rest rest' : Sto) (ms : M (List Lk.Arg)), ms (some P :: rest) = some ([.v (dL l)], some P :: rest') →
    mCallR 2 m__law_pick (mGr 0 ms) (some P :: rest) = some (⟨false, 0, dI x⟩, some P' :: rest') := by
  obtain ⟨x, P', hx, hP, e⟩ := e_pick hp h1 h2
  refine ⟨x, P', hx, hP, fun rest rest' ms hm => ?_⟩
  have := callR1 (n := 2) (g := m__law_pick) (ms := mGr 0 ms) (ρ := some P :: rest) (ρ1 := some P :: rest') (ρ2 := none :: rest') (as := [.r 0, .v (dL l)]) (bs := [P, ⟨0, dL l⟩]) (by simp [hm]) (by simp) rfl e
  rw [this]
  simp
theorem rows_at (i : Nat) (LL : List (Nat × Nat)) {a : Nat} (h : a < i) : atI (((List.range i).map fun u => nb LL u).map dL) (a : Int) = some (dL (nb LL a)) := by
  rw [atI_map (by simpa using h)]
  simp
theorem ph1 {M7 : Nat} (hM : 1 ≤ M7 ∧ M7 ≤ 7) {P : B} (hp : IsPot P) : Wp (mFor (mR2 (mC (.int 1)) (mBinS fAdd (mC (.int 1)) (mCallR 2 m__law_draw (mGr 0 (mG1 (mT 1) mG0))))) (bN 4) (mSeq (mSet 5 (mLc 0 [13] (mR1 (mV 4)) (bN 13) (mB (mBin fLt (mUn fLen (mIx (mV 2) (mV 13))) (mC (.int 4)))) (mT 13))) (mSeq (mSet 6 (mCallR 2 m__law_pick (mGr 0 (mG1 (mT 5) mG0)))) (mSeq (mDrop (mApp2 2 (mLst (mF1 (mT 6) mF0)))) (mSeq (mDrop (mAppIx2 2 (mV 6) (mT 4))) (mDrop (mMet 3 fApp (mTup (mF1 (mT 6) (mF1 (mT 4) mF0)))))))))
    [some P, some ⟨0, dI M7⟩, some ⟨2, .list [.list []]⟩, some ⟨1, .list []⟩, none, none, none, none, none, none, none, none, none, none, none])
    fun fl ρ => fl = .nx ∧ ∃ P' LL x4 x5 x6, IsPot P' ∧ LL.length < 7 ∧ Raw LL (LL.length + 1) ∧ (∀ u, u ≤ LL.length → (nb LL u).length ≤ 4) ∧ ρ = [some P', some ⟨0, dI M7⟩, some ⟨2, dLL ((List.range (LL.length + 1)).map fun u => nb LL u)⟩, some ⟨1, dPs LL⟩, x4, x5, x6, none, none, none, none, none, none, none, none] := by
  obtain ⟨fr, d, P1, hd, hP1, kd⟩ := draw_in hp (many := M7) hM.1 (by omega)
  have kd' := kd [some ⟨0, dI M7⟩, some ⟨2, .list [.list []]⟩, some ⟨1, .list []⟩, none, none, none, none, none, none, none, none, none, none, none] (mG1 (mT 1) mG0) (by simp)
  refine wp_for (dInts 1 d) (fun i ρ => ∃ P' LL x4 x5 x6, IsPot P' ∧ LL.length = i ∧ Raw LL (i + 1) ∧ (∀ u, u ≤ i → (nb LL u).length ≤ 4) ∧ ρ = [some P', some ⟨0, dI M7⟩, some ⟨2, dLL ((List.range (i + 1)).map fun u => nb LL u)⟩, some ⟨1, dPs LL⟩, x4, x5, x6, none, none, none, none, none, none, none, none]) ?_ ?_ ?_
  · have e1 : ((1 : Int) + (d : Int) - 1).toNat = d := by omega
    have b1 : (-1000000000 : Int) ≤ 1 + (d : Int) ∧ 1 + (d : Int) ≤ 1000000000 := by omega
    simp [-x_mCallR, kd', e1, b1]
    exact ⟨P1, hP1, ⟨by omega, by simp, fun k e he => by simp at he⟩, by simp [nb], rfl, by simp [nb]⟩
  · rintro i dd ρ hdd ⟨P', LL, x4, x5, x6, hP', hl, raw, deg, rfl⟩
    have hid : i < d := by
      have := (List.getElem?_eq_some_iff.mp hdd).1
      simpa [dInts] using this
    obtain rfl : dd = dI (i + 1) := by
      unfold dInts at hdd
      rw [List.getElem?_map, List.getElem?_range hid] at hdd
      have := Option.some.inj hdd
      rw [← this]
      show PyData.int (1 + (i : Int)) = PyData.int ((i + 1 : Nat) : Int)
      congr 1
      omega
    refine ⟨[some P', some ⟨0, dI M7⟩, some ⟨2, dLL ((List.range (i + 1)).map fun u => nb LL u)⟩, some ⟨1, dPs LL⟩, some ⟨0, dI (i + 1)⟩, x5, x6, none, none, none, none, none, none, none, none], by simp, ?_⟩
    refine wp_seq (wp_set ?_)
    have c1 := lc_map2 (kk := 0) (vs := [13]) (mi := mR1 (mV 4)) (b := bN 13) (mt := mB (mBin fLt (mUn fLen (mIx (mV 2) (mV 13))) (mC (.int 4)))) (me := mT 13) (ρ := [some P', some ⟨0, dI M7⟩, some ⟨2, dLL ((List.range (i + 1)).map fun u => nb LL u)⟩, some ⟨1, dPs LL⟩, some ⟨0, dI (i + 1)⟩, x5, x6, none, none, none, none, none, none, none, none]) (ρ0 := [some P', some ⟨0, dI M7⟩, some ⟨2, dLL ((List.range (i + 1)).map fun u => nb LL u)⟩, some ⟨1, dPs LL⟩, some ⟨0, dI (i + 1)⟩, x5, x6, none, none, none, none, none, none, none, none]) (g := fun u : Nat => PyData.int (u : Int)) (List.range (i + 1)) (fun u => decide ((nb LL u).length < 4)) dI (by
      have e : ((i : Int) + 1).toNat = i + 1 := by omega
      have b1 : (-1000000000 : Int) ≤ (i : Int) + 1 ∧ (i : Int) + 1 ≤ 1000000000 := by omega
      simp [e, dInts_nat, b1]) (by simp; omega) (fun u hu => by
      have hu := List.mem_range.mp hu
      have ra := rows_at (i + 1) LL hu
      simp [-List.map_map, ra]
      try omega)
    refine ⟨_, _, c1, rfl, by simp, ?_⟩
    simp only [x_unwipe1, x_unwipe0, x_wipe1, x_wipe0, List.set_cons_succ, List.set_cons_zero, List.getElem?_cons_succ, List.getElem?_cons_zero]
    have hli : i ∈ (List.range (i + 1)).filter fun u => decide ((nb LL u).length < 4) := by
      rw [List.mem_filter]
      refine ⟨List.mem_range.mpr (by omega), ?_⟩
      have := raw.gate (u := i) fun e he => by
        obtain ⟨k, _, h2, _, h4, _⟩ := raw.mem he
        omega
      simp; omega
    have lsome : ((List.range (i + 1)).filter fun u => decide ((nb LL u).length < 4)).length ≤ 1000 := by
      have := List.length_filter_le (fun u => decide ((nb LL u).length < 4)) (List.range (i + 1))
      rw [List.length_range] at this
      omega
    obtain ⟨x, P2, hx, hP2, kp⟩ := pick_in hP' (l := (List.range (i + 1)).filter fun u => decide ((nb LL u).length < 4)) (fun e => by rw [e] at hli; simp at hli) lsome
    obtain ⟨hx1, hx2⟩ := List.mem_filter.mp hx
    have hx1 := List.mem_range.mp hx1
    have hx2 : (nb LL x).length < 4 := by simpa using hx2
    refine wp_seq (wp_set ?_)
    refine ⟨_, _, kp _ [some ⟨0, dI M7⟩, some ⟨2, dLL ((List.range (i + 1)).map fun u => nb LL u)⟩, some ⟨1, dPs LL⟩, some ⟨0, dI (i + 1)⟩, some ⟨0, dL ((List.range (i + 1)).filter fun u => decide ((nb LL u).length < 4))⟩, x6, none, none, none, none, none, none, none, none] _ (by simp), rfl, by simp, ?_⟩
    simp only [List.set_cons_succ, List.set_cons_zero]
    refine wp_seq (wp_drop ?_)
    have lr : ((List.range (i + 1)).map fun u => nb LL u).length = i + 1 := by simp
    refine ⟨⟨false, 0, .none⟩, [some P2, some ⟨0, dI M7⟩, some ⟨2, dLL (((List.range (i + 1)).map fun u => nb LL u) ++ [[x]])⟩, some ⟨1, dPs LL⟩, some ⟨0, dI (i + 1)⟩, some ⟨0, dL ((List.range (i + 1)).filter fun u => decide ((nb LL u).length < 4))⟩, some ⟨0, dI x⟩, none, none, none, none, none, none, none, none], ?_, ?_⟩
    · have l3 : i + 1 < 1000000 := by omega
      simp [l3]
    refine wp_seq (wp_drop ?_)
    have gx : (((List.range (i + 1)).map fun u => nb LL u) ++ [[x]])[x]? = some (nb LL x) := by
      rw [List.getElem?_append_left (by rw [lr]; exact hx1), List.getElem?_map, List.getElem?_range hx1]; rfl
    have hxl : x < (((List.range (i + 1)).map fun u => nb LL u) ++ [[x]]).length := (List.getElem?_eq_some_iff.mp gx).1
    have gx2 : (((List.range (i + 1)).map fun u => nb LL u) ++ [[x]])[x] = nb LL x := (List.getElem?_eq_some_iff.mp gx).2
    have ap := appIx_eq (i := 2) (mj := mV 6) (me := mT 4) (ρ := [some P2, some ⟨0, dI M7⟩, some ⟨2, dLL (((List.range (i + 1)).map fun u => nb LL u) ++ [[x]])⟩, some ⟨1, dPs LL⟩, some ⟨0, dI (i + 1)⟩, some ⟨0, dL ((List.range (i + 1)).filter fun u => decide ((nb LL u).length < 4))⟩, some ⟨0, dI x⟩, none, none, none, none, none, none, none, none]) (ρ2 := [some P2, some ⟨0, dI M7⟩, some ⟨2, dLL (((List.range (i + 1)).map fun u => nb LL u) ++ [[x]])⟩, some ⟨1, dPs LL⟩, some ⟨0, dI (i + 1)⟩, some ⟨0, dL ((List.range (i + 1)).filter fun u => decide ((nb LL u).length < 4))⟩, some ⟨0, dI x⟩, none, none, none, none, none, none, none, none]) (rows := ((List.range (i + 1)).map fun u => nb LL u) ++ [[x]]) (a := x) (x := i + 1) (f := false) (r := ⟨false, 0, dI (i + 1)⟩) (by simp) (by simp) hxl (by simp) rfl rfl (by simp) (by rw [gx2]; show _ < 1000000; omega)
    rw [gx2] at ap
    refine ⟨_, _, ap, ?_⟩
    simp only [List.set_cons_succ, List.set_cons_zero]
    refine wp_drop ?_
    have l4 : LL.length < 1000000 := by omega
    have nby : nb LL (i + 1) = [] := by
      rw [List.eq_nil_iff_forall_not_mem]
      intro q hq
      rcases mem_nb.mp hq with hq | hq
      · obtain ⟨k, _, h2, _, h4, _⟩ := raw.mem hq
        simp only at h4
        omega
      · obtain ⟨k, _, h2, h3, _, _⟩ := raw.mem hq
        simp only at h3
        omega
    refine ⟨⟨false, 0, .none⟩, [some P2, some ⟨0, dI M7⟩, some ⟨2, dLL ((((List.range (i + 1)).map fun u => nb LL u) ++ [[x]]).set x (nb LL x ++ [i + 1]))⟩, some ⟨1, dPs (LL ++ [(x, i + 1)])⟩, some ⟨0, dI (i + 1)⟩, some ⟨0, dL ((List.range (i + 1)).filter fun u => decide ((nb LL u).length < 4))⟩, some ⟨0, dI x⟩, none, none, none, none, none, none, none, none], by simp [l4], ?_⟩
    refine ⟨P2, LL ++ [(x, i + 1)], some ⟨0, dI (i + 1)⟩, some ⟨0, dL ((List.range (i + 1)).filter fun u => decide ((nb LL u).length < 4))⟩, some ⟨0, dI x⟩, hP2, by simp [hl], ⟨by omega, by simp [hl], fun k e he => ?_⟩, fun u hu => ?_, ?_⟩
    · by_cases hk : k < LL.length
      · rw [List.getElem?_append_left hk] at he
        have := raw.sh k e he
        omega
      · have hk2 : k < (LL ++ [(x, i + 1)]).length := (List.getElem?_eq_some_iff.mp he).1
        simp at hk2
        have : k = LL.length := by omega
        subst this
        rw [List.getElem?_concat_length] at he
        cases he
        simp only
        omega
    · rw [nb_snoc]
      by_cases h1 : x = u
      · subst h1
        have : ¬ i + 1 = x := by omega
        simp [this]; omega
      · by_cases h2 : i + 1 = u
        · subst h2
          simp [nby, h1]
        · have := deg u (by omega)
          simp [h1, h2, this]
    · have er : (((List.range (i + 1)).map fun u => nb LL u) ++ [[x]]).set x (nb LL x ++ [i + 1]) = (List.range (i + 1 + 1)).map fun u => nb (LL ++ [(x, i + 1)]) u := by
        apply List.ext_getElem
        · simp
        · intro u h1 h2
          simp at h1
          rw [List.getElem_set]
          simp only [List.getElem_map, List.getElem_range, nb_snoc]
          by_cases c1 : x = u
          · subst c1
            have : ¬ i + 1 = x := by omega
            simp [this]
          · by_cases c2 : u < i + 1
            · rw [if_neg c1, List.getElem_append_left (by simpa using c2)]
              have : ¬ i + 1 = u := by omega
              simp [c1, this]
            · have : u = i + 1 := by omega
              subst this
              rw [if_neg c1, List.getElem_append_right (by simp)]
              simp [c1, nby]
      rw [er]
  · rintro ρ ⟨P', LL, x4, x5, x6, hP', hl, raw, deg, rfl⟩
    have : (dInts 1 d).length = d := by simp [dInts]
    rw [this] at hl raw deg ⊢
    subst hl
    exact ⟨rfl, P', LL, x4, x5, x6, hP', Nat.lt_of_lt_of_le hd hM.2, raw, deg, rfl⟩
end K11

set_option Elab.async false
set_option linter.all false
set_option maxRecDepth 100000
namespace K11
open PySem L2 PySem.Spec Lk Tr
/-- one lane more, to a new place -/
theorem Raw.snoc {LL : List (Nat × Nat)} {m j : Nat} (h : Raw LL m) (hj : j < m) : Raw (LL ++ [(j, LL.length + 1)]) m := by
  have := h.ml
  refine ⟨h.m1, by simp; omega, fun k e he => ?_⟩
  by_cases hk : k < LL.length
  · rw [List.getElem?_append_left hk] at he
    exact h.sh k e he
  · have hk2 : k < (LL ++ [(j, LL.length + 1)]).length := (List.getElem?_eq_some_iff.mp he).1
    simp at hk2
    have : k = LL.length := by omega
    subst this
    rw [List.getElem?_concat_length] at he
    cases he
    exact ⟨rfl, by show j ≤ LL.length; omega, hj⟩
theorem ph2 {M7 : Nat} (hM : 1 ≤ M7 ∧ M7 ≤ 7) {P : B} (hp : IsPot P) {LL : List (Nat × Nat)} {x4 x5 x6 : Option B} (hl : LL.length < 7) (raw : Raw LL (LL.length + 1)) (deg : ∀ u, u ≤ LL.length → (nb LL u).length ≤ 4) :
    Wp (mFor (mR1 (mV 7)) (bN 4) (mSeq (mSet 9 (mBinS fMax2 (mBin fSub (mC (.int 2)) (mUn fLen (mIx (mV 2) (mV 4)))) (mC (.int 0)))) (mSeq (mSet 9 (mBinS fAdd (mV 9) (mIf (mAndT (mB (mBin fEq (mCallR 2 m__law_draw (mGr 0 (mG1 (mC (.int 3)) mG0))) (mC (.int 0)))) (mB (mBin fLt (mBin fAdd (mUn fLen (mIx (mV 2) (mV 4))) (mV 9)) (mC (.int 4))))) (mC (.int 1)) (mC (.int 0))))) (mFor (mR1 (mV 9)) (bN 10) (mSeq (mDrop (mMet 3 fApp (mTup (mF1 (mT 4) (mF1 (mT 8) mF0))))) (mSet 8 (mBin fAdd (mV 8) (mC (.int 1))))))))
      [some P, some ⟨0, dI M7⟩, some ⟨2, dLL ((List.range (LL.length + 1)).map fun u => nb LL u)⟩, some ⟨1, dPs LL⟩, x4, x5, x6, some ⟨0, dI (LL.length + 1)⟩, some ⟨0, dI (LL.length + 1)⟩, none, none, none, none, none, none])
    fun fl ρ => fl = .nx ∧ ∃ P' LL' x4 x9 x10, IsPot P' ∧ Raw LL' (LL.length + 1) ∧ LL'.length ≤ 28 ∧ (∀ u, u < LL.length + 1 → 2 ≤ (nb LL' u).length ∧ (nb LL' u).length ≤ 4) ∧
      ρ = [some P', some ⟨0, dI M7⟩, some ⟨2, dLL ((List.range (LL.length + 1)).map fun u => nb LL u)⟩, some ⟨1, dPs LL'⟩, x4, x5, x6, some ⟨0, dI (LL.length + 1)⟩, some ⟨0, dI (LL'.length + 1)⟩, x9, x10, none, none, none, none] := by
  refine wp_for ((List.range (LL.length + 1)).map fun u : Nat => PyData.int (u : Int)) (fun j ρ => ∃ P' LL' x4 x9 x10, IsPot P' ∧ Raw LL' (LL.length + 1) ∧ LL'.length ≤ LL.length + 3 * j ∧ (∀ u, u < j → 2 ≤ (nb LL' u).length ∧ (nb LL' u).length ≤ 4) ∧ (∀ u, j ≤ u → u < LL.length + 1 → nb LL' u = nb LL u) ∧
      ρ = [some P', some ⟨0, dI M7⟩, some ⟨2, dLL ((List.range (LL.length + 1)).map fun u => nb LL u)⟩, some ⟨1, dPs LL'⟩, x4, x5, x6, some ⟨0, dI (LL.length + 1)⟩, some ⟨0, dI (LL'.length + 1)⟩, x9, x10, none, none, none, none]) ?_ ?_ ?_
  · have e : ((LL.length : Int) + 1).toNat = LL.length + 1 := by omega
    have b1 : (-1000000000 : Int) ≤ (LL.length : Int) + 1 ∧ (LL.length : Int) + 1 ≤ 1000000000 := by omega
    refine ⟨(List.range (LL.length + 1)).map fun u : Nat => PyData.int (u : Int), _, by simp [e, dInts_nat, b1]; rfl, rfl, ?_⟩
    exact ⟨P, LL, x4, none, none, hp, raw, by omega, fun u hu => by omega, fun u _ _ => rfl, rfl⟩
  · rintro j d ρ hd ⟨P', LL', x4', x9, x10, hP', raw', hlen, hlo, hhi, rfl⟩
    have hj : j < LL.length + 1 := by
      have := (List.getElem?_eq_some_iff.mp hd).1
      simpa using this
    obtain rfl : d = dI j := by
      rw [List.getElem?_map, List.getElem?_range hj] at hd
      exact (Option.some.inj hd).symm
    refine ⟨[some P', some ⟨0, dI M7⟩, some ⟨2, dLL ((List.range (LL.length + 1)).map fun u => nb LL u)⟩, some ⟨1, dPs LL'⟩, some ⟨0, dI j⟩, x5, x6, some ⟨0, dI (LL.length + 1)⟩, some ⟨0, dI (LL'.length + 1)⟩, x9, x10, none, none, none, none], by simp, ?_⟩
    have ra := rows_at (LL.length + 1) LL hj
    have dg := deg j (by omega)
    have hnj : nb LL' j = nb LL j := hhi j (Nat.le_refl _) hj
    generalize hT : ((List.range (LL.length + 1)).map fun u => nb LL u) = T at *
    -- how many are lacking
    refine wp_seq (wp_set ?_)
    have m2 : (if (2 : Int) - ((nb LL j).length : Int) < 0 then (0 : Int) else 2 - ((nb LL j).length : Int)) = ((2 - (nb LL j).length : Nat) : Int) := by split <;> omega
    refine ⟨⟨true, 0, dI (2 - (nb LL j).length)⟩, [some P', some ⟨0, dI M7⟩, some ⟨2, dLL T⟩, some ⟨1, dPs LL'⟩, some ⟨0, dI j⟩, x5, x6, some ⟨0, dI (LL.length + 1)⟩, some ⟨0, dI (LL'.length + 1)⟩, x9, x10, none, none, none, none], ?_, rfl, by simp, ?_⟩
    · simp [-List.map_map, ra]
      split <;> omega
    simp only [List.set_cons_succ, List.set_cons_zero]
    refine wp_seq (wp_set ?_)
    obtain ⟨fr, d3, P2, hd3, hP2, kd⟩ := draw_in hP' (many := 3) (by omega) (by omega)
    have kd' := kd [some ⟨0, dI M7⟩, some ⟨2, dLL T⟩, some ⟨1, dPs LL'⟩, some ⟨0, dI j⟩, x5, x6, some ⟨0, dI (LL.length + 1)⟩, some ⟨0, dI (LL'.length + 1)⟩, some ⟨0, dI (2 - (nb LL j).length)⟩, x10, none, none, none, none] (mG1 (mC (.int 3)) mG0) (by simp)
    have lack : ∃ lk, 2 ≤ (nb LL j).length + lk ∧ (nb LL j).length + lk ≤ 4 ∧ lk ≤ 3 ∧ mBinS fAdd (mV 9) (mIf (mAndT (mB (mBin fEq (mCallR 2 m__law_draw (mGr 0 (mG1 (mC (.int 3)) mG0))) (mC (.int 0)))) (mB (mBin fLt (mBin fAdd (mUn fLen (mIx (mV 2) (mV 4))) (mV 9)) (mC (.int 4))))) (mC (.int 1)) (mC (.int 0))) [some P', some ⟨0, dI M7⟩, some ⟨2, dLL T⟩, some ⟨1, dPs LL'⟩, some ⟨0, dI j⟩, x5, x6, some ⟨0, dI (LL.length + 1)⟩, some ⟨0, dI (LL'.length + 1)⟩, some ⟨0, dI (2 - (nb LL j).length)⟩, x10, none, none, none, none] = some (⟨true, 0, dI lk⟩, [some P2, some ⟨0, dI M7⟩, some ⟨2, dLL T⟩, some ⟨1, dPs LL'⟩, some ⟨0, dI j⟩, x5, x6, some ⟨0, dI (LL.length + 1)⟩, some ⟨0, dI (LL'.length + 1)⟩, some ⟨0, dI (2 - (nb LL j).length)⟩, x10, none, none, none, none]) := by
      by_cases c1 : d3 = 0
      · by_cases c2 : (nb LL j).length + (2 - (nb LL j).length) < 4
        · refine ⟨(2 - (nb LL j).length) + 1, by omega, by omega, by omega, ?_⟩
          have c2' : ((nb LL j).length : Int) + ((2 - (nb LL j).length : Nat) : Int) < 4 := by omega
          simp [-List.map_map, -x_mCallR, kd', ra, c1, c2']
        · refine ⟨2 - (nb LL j).length, by omega, by omega, by omega, ?_⟩
          have c2' : ¬ ((nb LL j).length : Int) + ((2 - (nb LL j).length : Nat) : Int) < 4 := by omega
          simp [-List.map_map, -x_mCallR, kd', ra, c1, c2']
      · refine ⟨2 - (nb LL j).length, by omega, by omega, by omega, ?_⟩
        have c1' : ¬ (d3 : Int) = 0 := by omega
        simp [-List.map_map, -x_mCallR, kd', ra, c1, c1']
    obtain ⟨lk, k1, k2, k3, ek⟩ := lack
    refine ⟨_, _, ek, rfl, by simp, ?_⟩
    simp only [List.set_cons_succ, List.set_cons_zero]
    refine (wp_for (Q := fun fl ρ => fl = .nx ∧ ∃ LL2 x10, Raw LL2 (LL.length + 1) ∧ LL2.length = LL'.length + lk ∧ (nb LL2 j).length = (nb LL j).length + lk ∧ (∀ u, u < LL.length + 1 → u ≠ j → nb LL2 u = nb LL' u) ∧ ρ = [some P2, some ⟨0, dI M7⟩, some ⟨2, dLL T⟩, some ⟨1, dPs LL2⟩, some ⟨0, dI j⟩, x5, x6, some ⟨0, dI (LL.length + 1)⟩, some ⟨0, dI (LL2.length + 1)⟩, some ⟨0, dI lk⟩, x10, none, none, none, none]) ((List.range lk).map fun u : Nat => PyData.int (u : Int)) (fun t ρ => ∃ LL2 x10, Raw LL2 (LL.length + 1) ∧ LL2.length = LL'.length + t ∧ (nb LL2 j).length = (nb LL j).length + t ∧ (∀ u, u < LL.length + 1 → u ≠ j → nb LL2 u = nb LL' u) ∧ ρ = [some P2, some ⟨0, dI M7⟩, some ⟨2, dLL T⟩, some ⟨1, dPs LL2⟩, some ⟨0, dI j⟩, x5, x6, some ⟨0, dI (LL.length + 1)⟩, some ⟨0, dI (LL2.length + 1)⟩, some ⟨0, dI lk⟩, x10, none, none, none, none]) ?_ ?_ ?_).mono ?_
    · have b1 : (-1000000000 : Int) ≤ (lk : Int) ∧ (lk : Int) ≤ 1000000000 := by omega
      refine ⟨(List.range lk).map fun u : Nat => PyData.int (u : Int), _, by simp [dInts_nat, b1]; rfl, rfl, ?_⟩
      exact ⟨LL', x10, raw', rfl, by rw [hnj]; rfl, fun u _ _ => rfl, rfl⟩
    · rintro t dt ρ hdt ⟨LL2, x10', r2, l2, n2, o2, rfl⟩
      have ht : t < lk := by
        have := (List.getElem?_eq_some_iff.mp hdt).1
        simpa using this
      obtain rfl : dt = dI t := by
        rw [List.getElem?_map, List.getElem?_range ht] at hdt
        exact (Option.some.inj hdt).symm
      refine ⟨[some P2, some ⟨0, dI M7⟩, some ⟨2, dLL T⟩, some ⟨1, dPs LL2⟩, some ⟨0, dI j⟩, x5, x6, some ⟨0, dI (LL.length + 1)⟩, some ⟨0, dI (LL2.length + 1)⟩, some ⟨0, dI lk⟩, some ⟨0, dI t⟩, none, none, none, none], by simp, ?_⟩
      have l4 : LL2.length < 1000000 := by omega
      refine wp_seq (wp_drop ?_)
      refine ⟨⟨false, 0, .none⟩, [some P2, some ⟨0, dI M7⟩, some ⟨2, dLL T⟩, some ⟨1, dPs (LL2 ++ [(j, LL2.length + 1)])⟩, some ⟨0, dI j⟩, x5, x6, some ⟨0, dI (LL.length + 1)⟩, some ⟨0, dI (LL2.length + 1)⟩, some ⟨0, dI lk⟩, some ⟨0, dI t⟩, none, none, none, none], by simp [l4], ?_⟩
      refine wp_set ?_
      refine ⟨⟨true, 0, dI ((LL2 ++ [(j, LL2.length + 1)]).length + 1)⟩, [some P2, some ⟨0, dI M7⟩, some ⟨2, dLL T⟩, some ⟨1, dPs (LL2 ++ [(j, LL2.length + 1)])⟩, some ⟨0, dI j⟩, x5, x6, some ⟨0, dI (LL.length + 1)⟩, some ⟨0, dI (LL2.length + 1)⟩, some ⟨0, dI lk⟩, some ⟨0, dI t⟩, none, none, none, none], by simp, rfl, by simp, ?_⟩
      have r2m := r2.ml
      refine ⟨LL2 ++ [(j, LL2.length + 1)], _, r2.snoc hj, by simp; omega, ?_, fun u hu hne => ?_, rfl⟩
      · rw [nb_snoc, List.length_append, n2]
        have : ¬ LL2.length + 1 = j := by omega
        simp [this]
        omega
      · rw [nb_snoc, o2 u hu hne]
        have h1 : ¬ j = u := fun e => hne e.symm
        have h2 : ¬ LL2.length + 1 = u := by omega
        simp [h1, h2]
    · rintro ρ ⟨LL2, x10', r2, l2, n2, o2, rfl⟩
      rw [List.length_map, List.length_range] at l2 n2
      exact ⟨rfl, LL2, x10', r2, l2, n2, o2, rfl⟩
    · rintro fl ρ ⟨rfl, LL2, x10', r2, l2, n2, o2, rfl⟩
      refine ⟨P2, LL2, _, _, _, hP2, r2, by omega, fun u hu => ?_, fun u h1 h2 => ?_, rfl⟩
      · by_cases e : u = j
        · subst e; omega
        · rw [o2 u (by omega) e]
          exact hlo u (by omega)
      · rw [o2 u h2 (by omega)]
        exact hhi u (by omega) h2
  · rintro ρ ⟨P', LL', x4', x9, x10, hP', raw', hlen, hlo, hhi, rfl⟩
    rw [List.length_map, List.length_range] at hlen hlo
    exact ⟨rfl, P', LL', x4', x9, x10, hP', raw', by omega, hlo, rfl⟩
end K11

set_option Elab.async false
set_option linter.all false
set_option maxRecDepth 100000
namespace K11
open PySem L2 PySem.Spec Lk Tr
theorem map_erase : ∀ (l : List Nat) (d : Nat), (l.map dI).eraseIdx d = (l.eraseIdx d).map dI
  | [], _ => by simp
  | _ :: _, 0 => by simp
  | a :: l, d + 1 => by simp [map_erase l d]
theorem perm_erase : ∀ (l : List Nat) (d : Nat) (h : d < l.length), (l[d] :: l.eraseIdx d).Perm l
  | _ :: _, 0, _ => by simp
  | a :: l, d + 1, h => by
    have h2 : d < l.length := by simpa using h
    have := perm_erase l d h2
    simp only [List.getElem_cons_succ, List.eraseIdx_cons_succ]
    exact (List.Perm.swap a l[d] _).trans (List.Perm.cons a this)
theorem popAt_dL {l : List Nat} {d : Nat} (h : d < l.length) (hl : l.length ≤ 1000) (fr : Bool) (k : Nat) : fPopAt (l.map dI) ⟨fr, k, dI d⟩ = some (dI l[d], (l.eraseIdx d).map dI) := by
  have e : seqIndex? (d : Int) (l.map dI).length = some d := by
    unfold seqIndex?
    simp
    omega
  have b1 : (-1000000000 : Int) ≤ (d : Int) ∧ (d : Int) ≤ 1000000000 := by omega
  have g : (l.map dI)[d]? = some (dI l[d]) := by simp [h]
  unfold fPopAt
  simp only [b1, and_self, if_true, e, g]
  simp [map_erase]
theorem ph3 {N : Nat} (hN : N ≤ 100) {P : B} (hp : IsPot P) (a1 a2 a3 a4 a5 a6 a7 a8 a9 a10 : Option B) :
    Wp (mWhile fuel (mB (mBin fNe (mV 11) (mLst mF0))) (mDrop (mMet 12 fApp (mMet 11 fPopAt (mCallR 2 m__law_draw (mGr 0 (mG1 (mUn fLen (mV 11)) mG0)))))) [some P, a1, a2, a3, a4, a5, a6, a7, a8, a9, a10, some ⟨1, dL (List.range N)⟩, some ⟨1, dL []⟩, none, none])
    fun fl ρ => fl = .nx ∧ ∃ P' ps, IsPot P' ∧ ps.Perm (List.range N) ∧ ρ = [some P', a1, a2, a3, a4, a5, a6, a7, a8, a9, a10, some ⟨1, dL []⟩, some ⟨1, dL ps⟩, none, none] := by
  refine wp_while (fun k ρ => ∃ P' left ps, IsPot P' ∧ (ps ++ left).Perm (List.range N) ∧ left.length = k ∧ ρ = [some P', a1, a2, a3, a4, a5, a6, a7, a8, a9, a10, some ⟨1, dL left⟩, some ⟨1, dL ps⟩, none, none]) ?_ N fuel _ ⟨P, List.range N, [], hp, by simp, by simp, rfl⟩ (by unfold fuel; omega)
  rintro k ρ ⟨P', left, ps, hP', hperm, hk, rfl⟩
  have hlen : ps.length + left.length = N := by
    have := hperm.length_eq
    simpa using this
  by_cases hw : left = []
  · subst hw
    simp [ne_nil]
    exact ⟨P', hP', ps, by simpa using hperm, rfl, rfl⟩
  · have hpos : 0 < left.length := List.length_pos_iff.mpr hw
    obtain ⟨fr, d, P2, hd, hP2, kd⟩ := draw_in hP' (many := left.length) (by omega) (by omega)
    have kd' := kd [a1, a2, a3, a4, a5, a6, a7, a8, a9, a10, some ⟨1, dL left⟩, some ⟨1, dL ps⟩, none, none] (mG1 (mUn fLen (mV 11)) mG0) (by simp)
    have nn := ne_nil left 1
    have pa := popAt_dL hd (by omega) fr 0
    refine ⟨true, [some P', a1, a2, a3, a4, a5, a6, a7, a8, a9, a10, some ⟨1, dL left⟩, some ⟨1, dL ps⟩, none, none], by simp [nn, hw], ?_⟩
    simp only [if_true]
    refine wp_drop ?_
    have l1 : ps.length < 1000000 := by omega
    refine ⟨⟨false, 0, .none⟩, [some P2, a1, a2, a3, a4, a5, a6, a7, a8, a9, a10, some ⟨1, dL (left.eraseIdx d)⟩, some ⟨1, dL (ps ++ [left[d]])⟩, none, none], ?_, ?_⟩
    · simp [-x_mCallR, kd', pa, l1]
    · refine ⟨left.length - 1, by omega, P2, left.eraseIdx d, ps ++ [left[d]], hP2, ?_, by rw [List.length_eraseIdx]; simp [hd], rfl⟩
      refine List.Perm.trans ?_ hperm
      rw [List.append_assoc]
      exact List.Perm.append_left _ (perm_erase left d hd)
theorem e_drawn {M7 : Nat} (hM : 1 ≤ M7 ∧ M7 ≤ 7) {P : B} (hp : IsPot P) : ∃ L P', Good L ∧ IsPot P' ∧ m__law_drawn [P, ⟨0, dI M7⟩] = some (⟨true, 1, dPs L⟩, [some P', some ⟨0, dI M7⟩]) := by
  have fin : Fp (m__law_drawn [P, ⟨0, dI M7⟩]) fun r outs => ∃ L P', Good L ∧ IsPot P' ∧ r = ⟨true, 1, dPs L⟩ ∧ outs = [some P', some ⟨0, dI M7⟩] := by
    unfold m__law_drawn
    refine fp_fn (wp_seq (wp_par ?_))
    simp only [List.map, List.replicate, List.append_eq, List.cons_append, List.nil_append]
    simp [-x_mSeq]
    refine wp_seq ((ph1 hM hp).mono ?_)
    rintro fl ρ ⟨rfl, P1, LL, x4, x5, x6, hP1, hl, raw, deg, rfl⟩
    simp only
    refine wp_seq (wp_par ?_)
    simp [-x_mSeq, -List.map_map]
    refine wp_seq ((ph2 hM hP1 hl raw deg (x4 := x4) (x5 := x5) (x6 := x6)).mono ?_)
    rintro fl ρ ⟨rfl, P2, L2, y4, y9, y10, hP2, r2, few, dg, rfl⟩
    simp only
    refine wp_seq (wp_par ?_)
    have b8 : (0 : Int) ≤ (L2.length : Int) + 1 ∧ (L2.length : Int) + 1 ≤ 1000000 := by omega
    have e8 : ((L2.length : Int) + 1).toNat = L2.length + 1 := by omega
    simp [-x_mSeq, -List.map_map, b8, e8, dInts_nat]
    refine wp_seq ((ph3 (N := L2.length + 1) (by omega) hP2 _ _ _ _ _ _ _ _ _ _).mono ?_)
    rintro fl ρ ⟨rfl, P3, ps, hP3, perm, rfl⟩
    simp only
    have lp : ps.length = L2.length + 1 := by rw [perm.length_eq, List.length_range]
    refine wp_ret ?_
    have c := lc_all2 (kk := 0) (vs := [14, 6]) (mi := mIq (mT 3)) (b := bT 2 (bs1 (bN 14) (bs1 (bN 6) bs0))) (me := mTup (mF1 (mIx (mV 12) (mV 14)) (mF1 (mIx (mV 12) (mV 6)) mF0))) (ρ := [some P3, some ⟨0, dI M7⟩, some ⟨2, dLL ((List.range (LL.length + 1)).map fun u => nb LL u)⟩, some ⟨1, dPs L2⟩, y4, x5, x6, some ⟨0, dI (LL.length + 1)⟩, some ⟨0, dI (L2.length + 1)⟩, y9, y10, some ⟨1, dL []⟩, some ⟨1, dL ps⟩, none, none]) (ρ0 := [some P3, some ⟨0, dI M7⟩, some ⟨2, dLL ((List.range (LL.length + 1)).map fun u => nb LL u)⟩, some ⟨0, dPs L2⟩, y4, x5, x6, some ⟨0, dI (LL.length + 1)⟩, some ⟨0, dI (L2.length + 1)⟩, y9, y10, some ⟨1, dL []⟩, some ⟨1, dL ps⟩, none, none]) (g := dP) L2 (fun e => dP (ps.getD e.1 0, ps.getD e.2 0)) (by simp) (by simp; omega) (fun e he => by
      obtain ⟨k, _, h2, h3, h4, _⟩ := r2.mem he
      have q1 : atI (ps.map dI) (e.1 : Int) = some (dI (ps.getD e.1 0)) := by
        rw [atI_map (by omega), List.getD_eq_getElem?_getD, List.getElem?_eq_getElem (by omega)]; rfl
      have q2 : atI (ps.map dI) (e.2 : Int) = some (dI (ps.getD e.2 0)) := by
        rw [atI_map (by omega), List.getD_eq_getElem?_getD, List.getElem?_eq_getElem (by omega)]; rfl
      simp [q1, q2])
    refine ⟨_, _, c, .inl rfl, led ps L2, good_of r2 perm (by omega) few dg, P3, hP3, ?_, ?_⟩
    · simp [led]
    · rcases x6 with _ | ⟨k0, d0⟩
      · simp
      · cases k0 <;> simp
  obtain ⟨r, outs, e, L, P', g, hP, rfl, rfl⟩ := fin
  exact ⟨L, P', g, hP, e⟩
end K11

set_option Elab.async false
set_option linter.all false
set_option maxRecDepth 100000
namespace K11
open PySem L2 PySem.Spec Lk Tr
/-! ### lists of lanes with other numbers -/
abbrev fn (ps : List Nat) : Nat → Nat := fun i => ps.getD i 0
abbrev canon (L : List (Nat × Nat)) : List (Nat × Nat) := sortP (L.map mm)
theorem mm_mm (e : Nat × Nat) : mm (mm e) = mm e := by
  unfold mm
  ext <;> simp <;> omega
theorem mm_led (f : Nat → Nat) (e : Nat × Nat) : mm (f (mm e).1, f (mm e).2) = mm (f e.1, f e.2) := by
  obtain ⟨a, b⟩ := e
  unfold mm
  rcases Nat.le_total a b with h | h
  · simp [Nat.min_eq_left h, Nat.max_eq_right h]
  · simp [Nat.min_eq_right h, Nat.max_eq_left h, Nat.min_comm, Nat.max_comm]
theorem canon_canon (L : List (Nat × Nat)) : canon (canon L) = canon L := by
  refine sortP_eq (((sortP_perm (L.map mm)).map mm).trans ?_)
  rw [List.map_map]
  exact List.Perm.of_eq (List.map_congr_left fun e _ => mm_mm e)
theorem canon_led (ps : List Nat) (L : List (Nat × Nat)) : canon (led ps (canon L)) = canon (led ps L) := by
  unfold led
  refine sortP_eq ?_
  rw [List.map_map, List.map_map]
  refine ((sortP_perm (L.map mm)).map _).trans ?_
  rw [List.map_map]
  exact List.Perm.of_eq (List.map_congr_left fun e _ => mm_led (fn ps) e)
theorem canon_len (L : List (Nat × Nat)) : (canon L).length = L.length := by rw [(sortP_perm _).length_eq, List.length_map]
theorem led_len (ps : List Nat) (L : List (Nat × Nat)) : (led ps L).length = L.length := by simp [led]
theorem adj_canon (L : List (Nat × Nat)) : Adj (canon L) = Adj L := by
  have m : ∀ e, e ∈ canon L ↔ e ∈ L.map mm := fun e => (sortP_perm _).mem_iff
  funext a b
  apply propext
  unfold Adj
  rw [m, m, List.mem_map, List.mem_map]
  constructor
  · rintro (⟨⟨u, v⟩, he, e⟩ | ⟨⟨u, v⟩, he, e⟩)
    · simp only [mm, Prod.mk.injEq] at e
      rcases Nat.le_total u v with h | h
      · rw [Nat.min_eq_left h, Nat.max_eq_right h] at e
        obtain ⟨rfl, rfl⟩ := e; exact .inl he
      · rw [Nat.min_eq_right h, Nat.max_eq_left h] at e
        obtain ⟨rfl, rfl⟩ := e; exact .inr he
    · simp only [mm, Prod.mk.injEq] at e
      rcases Nat.le_total u v with h | h
      · rw [Nat.min_eq_left h, Nat.max_eq_right h] at e
        obtain ⟨rfl, rfl⟩ := e; exact .inr he
      · rw [Nat.min_eq_right h, Nat.max_eq_left h] at e
        obtain ⟨rfl, rfl⟩ := e; exact .inl he
  · rintro (h | h)
    · rcases Nat.le_total a b with q | q
      · exact .inl ⟨_, h, by simp [mm, Nat.min_eq_left q, Nat.max_eq_right q]⟩
      · exact .inr ⟨_, h, by simp [mm, Nat.min_eq_right q, Nat.max_eq_left q]⟩
    · rcases Nat.le_total a b with q | q
      · exact .inl ⟨_, h, by simp [mm, Nat.min_eq_right q, Nat.max_eq_left q]⟩
      · exact .inr ⟨_, h, by simp [mm, Nat.min_eq_left q, Nat.max_eq_right q]⟩
theorem Good.ne {L : List (Nat × Nat)} (g : Good L) : ∀ e ∈ L, e.1 ≠ e.2 := fun e he => (g.le he).2.2
theorem nb_canon {L : List (Nat × Nat)} (g : Good L) (p : Nat) : (nb (canon L) p).Perm (nb L p) := by
  have := nb_perm (sortP_perm (L.map mm)) p
  rwa [nb_mm g.ne p] at this
theorem yards_canon {L : List (Nat × Nat)} (g : Good L) : yardsL (canon L) = yardsL L := by
  unfold yardsL
  rw [canon_len]
  exact List.filter_congr fun p _ => by rw [(nb_canon g p).length_eq]
theorem good_canon {L : List (Nat × Nat)} (g : Good L) : Good (canon L) := by
  refine ⟨by rw [canon_len, adj_canon]; exact g.tree, ?_, by rw [canon_len]; exact g.few, fun p hp => ?_, by rw [yards_canon g]; exact g.y1, by rw [yards_canon g]; exact g.y7⟩
  · have h : ((canon L).map mm).Perm (L.map mm) := by
      refine ((sortP_perm (L.map mm)).map mm).trans ?_
      rw [List.map_map]
      exact List.Perm.of_eq (List.map_congr_left fun e _ => mm_mm e)
    exact h.nodup_iff.mpr g.nd
  · rw [canon_len] at hp
    rw [(nb_canon g p).length_eq]
    exact g.deg p hp
theorem nb_led {n : Nat} {f g : Nat → Nat} (B : Bij n f g) {ps : List Nat} (hf : ∀ i, ps.getD i 0 = f i) {L : List (Nat × Nat)} (hL : ∀ e ∈ L, e.1 ≤ n ∧ e.2 ≤ n) {u : Nat} (hu : u ≤ n) : nb (led ps L) (f u) = (nb L u).map f := by
  induction L with
  | nil => rfl
  | cons e L ih =>
    have ih := ih fun x hx => hL x (List.mem_cons_of_mem _ hx)
    have hb := hL e List.mem_cons_self
    unfold led nb at *
    rw [List.map_cons, List.flatMap_cons, List.flatMap_cons, List.map_append, ih]
    congr 1
    simp only [hf]
    have q1 : f e.1 = f u ↔ e.1 = u := ⟨B.inj hb.1 hu, fun e => by rw [e]⟩
    have q2 : f e.2 = f u ↔ e.2 = u := ⟨B.inj hb.2 hu, fun e => by rw [e]⟩
    by_cases c1 : e.1 = u <;> by_cases c2 : e.2 = u <;> simp [q1, q2, c1, c2]
section
variable {L : List (Nat × Nat)} {ps : List Nat}
theorem ren_led (g : Good L) (hp : ps.Perm (List.range (L.length + 1))) : Ren L.length (fn ps) (fun p => ps.idxOf p) (Adj L) (Adj (led ps L)) := by
  have B := bij_perm hp
  refine ⟨B, fun x y => ?_⟩
  have key : ∀ x y, (x, y) ∈ led ps L ↔ x ≤ L.length ∧ y ≤ L.length ∧ (ps.idxOf x, ps.idxOf y) ∈ L := fun x y => by
    unfold led
    rw [List.mem_map]
    constructor
    · rintro ⟨⟨a, b⟩, he, e⟩
      obtain ⟨ha, hb, _⟩ := g.le he
      obtain ⟨rfl, rfl⟩ := Prod.mk.inj e
      refine ⟨B.fl a ha, B.fl b hb, ?_⟩
      rw [B.gf a ha, B.gf b hb]; exact he
    · rintro ⟨hx, hy, he⟩
      exact ⟨_, he, Prod.ext (B.fg x hx) (B.fg y hy)⟩
  unfold Adj
  rw [key, key]
  constructor
  · rintro (⟨h1, h2, h3⟩ | ⟨h1, h2, h3⟩)
    · exact ⟨h1, h2, .inl h3⟩
    · exact ⟨h2, h1, .inr h3⟩
  · rintro ⟨h1, h2, h3 | h3⟩
    · exact .inl ⟨h1, h2, h3⟩
    · exact .inr ⟨h2, h1, h3⟩
theorem nb_led' (g : Good L) (hp : ps.Perm (List.range (L.length + 1))) {u : Nat} (hu : u ≤ L.length) : nb (led ps L) (fn ps u) = (nb L u).map (fn ps) :=
  nb_led (bij_perm hp) (fun _ => rfl) (fun e he => ⟨(g.le he).1, (g.le he).2.1⟩) hu
/-- places told by how many neighbours they have -/
theorem mem_some (g : Good L) (hp : ps.Perm (List.range (L.length + 1))) (P : Nat → Bool) (p : Nat) : p ∈ ((List.range (L.length + 1)).filter fun p => P (nb L p).length).map (fn ps) ↔ p ∈ (List.range (L.length + 1)).filter fun p => P (nb (led ps L) p).length := by
  have B := bij_perm hp
  rw [List.mem_map, List.mem_filter]
  constructor
  · rintro ⟨u, hu, rfl⟩
    obtain ⟨h1, h2⟩ := List.mem_filter.mp hu
    have hu := List.mem_range.mp h1
    have := B.fl u (by omega)
    refine ⟨List.mem_range.mpr (Nat.lt_succ_of_le this), ?_⟩
    rw [nb_led' g hp (by omega), List.length_map]
    exact h2
  · rintro ⟨h1, h2⟩
    have hpn := List.mem_range.mp h1
    have q := B.gl p (by omega)
    refine ⟨ps.idxOf p, List.mem_filter.mpr ⟨List.mem_range.mpr (Nat.lt_succ_of_le q), ?_⟩, B.fg p (by omega)⟩
    have := nb_led' g hp q
    rw [show fn ps (ps.idxOf p) = p from B.fg p (by omega)] at this
    rw [this, List.length_map] at h2
    exact h2
theorem map_nd {n : Nat} {f g : Nat → Nat} (B : Bij n f g) {l : List Nat} (nd : l.Nodup) (hl : ∀ x ∈ l, x ≤ n) : (l.map f).Nodup := by
  unfold List.Nodup at *
  rw [List.pairwise_map]
  exact nd.imp_of_mem fun {a b} ha hb h e => h (B.inj (hl a ha) (hl b hb) e)
theorem some_led (g : Good L) (hp : ps.Perm (List.range (L.length + 1))) (P : Nat → Bool) : sortN (((List.range (L.length + 1)).filter fun p => P (nb L p).length).map (fn ps)) = (List.range (L.length + 1)).filter fun p => P (nb (led ps L) p).length :=
  sort_is (map_nd (bij_perm hp) (List.nodup_range.filter _) fun x hx => by
    have := List.mem_range.mp (List.mem_filter.mp hx).1
    omega) (List.pairwise_lt_range.filter _) (mem_some g hp P)
theorem yards_led (g : Good L) (hp : ps.Perm (List.range (L.length + 1))) : sortN ((yardsL L).map (fn ps)) = yardsL (led ps L) := by
  have := some_led g hp fun k => decide (1 < k)
  unfold yardsL
  rw [led_len]
  exact this
def gatesL (L : List (Nat × Nat)) : List Nat := (List.range (L.length + 1)).filter fun p => decide ((nb L p).length = 1)
theorem gates_led (g : Good L) (hp : ps.Perm (List.range (L.length + 1))) : sortN ((gatesL L).map (fn ps)) = gatesL (led ps L) := by
  have := some_led g hp fun k => decide (k = 1)
  unfold gatesL
  rw [led_len]
  exact this
theorem gates_canon (g : Good L) : gatesL (canon L) = gatesL L := by
  unfold gatesL
  rw [canon_len]
  exact List.filter_congr fun p _ => by rw [(nb_canon g p).length_eq]
theorem good_led (g : Good L) (hp : ps.Perm (List.range (L.length + 1))) : Good (led ps L) := by
  have B := bij_perm hp
  have R := ren_led g hp
  have yl : (yardsL (led ps L)).length = (yardsL L).length := by rw [← yards_led g hp, sortN_len, List.length_map]
  refine ⟨by rw [led_len]; exact R.tree g.tree, ?_, by rw [led_len]; exact g.few, fun p hpn => ?_, by rw [yl]; exact g.y1, by rw [yl]; exact g.y7⟩
  · have e1 : (led ps L).map mm = (L.map mm).map fun e => mm (fn ps e.1, fn ps e.2) := by
      unfold led
      rw [List.map_map, List.map_map]
      exact List.map_congr_left fun e _ => (mm_led (fn ps) e).symm
    rw [e1]
    unfold List.Nodup
    rw [List.pairwise_map]
    have nd := g.nd
    unfold List.Nodup at nd
    refine nd.imp_of_mem fun {a b} ha hb h e => h ?_
    obtain ⟨x, hx, rfl⟩ := List.mem_map.mp ha
    obtain ⟨y, hy, rfl⟩ := List.mem_map.mp hb
    obtain ⟨x1, x2, _⟩ := g.le hx
    obtain ⟨y1, y2, _⟩ := g.le hy
    rw [mm_led, mm_led] at e
    simp only [mm, Prod.mk.injEq] at e
    have hc : (fn ps x.1 = fn ps y.1 ∧ fn ps x.2 = fn ps y.2) ∨ (fn ps x.1 = fn ps y.2 ∧ fn ps x.2 = fn ps y.1) := by omega
    rcases hc with ⟨c1, c2⟩ | ⟨c1, c2⟩
    · rw [show x = y from Prod.ext (B.inj x1 y1 c1) (B.inj x2 y2 c2)]
    · have h1 := B.inj x1 y2 c1
      have h2 := B.inj x2 y1 c2
      simp only [mm, h1, h2, Nat.min_comm, Nat.max_comm]
  · rw [led_len] at hpn
    have := nb_led' g hp (B.gl p hpn)
    rw [show fn ps (ps.idxOf p) = p from B.fg p hpn] at this
    rw [this, List.length_map]
    exact g.deg _ (B.gl p hpn)
theorem sn_led (g : Good L) (hp : ps.Perm (List.range (L.length + 1))) {u : Nat} (hu : u ≤ L.length) : sortN ((sn L u).map (fn ps)) = sn (led ps L) (fn ps u) := by
  have := nb_led' g hp hu
  show _ = sortN (nb (led ps L) (fn ps u))
  rw [this]
  exact sortN_eq ((sortN_perm _).map _)
theorem sn_canon (g : Good L) (p : Nat) : sn (canon L) p = sn L p := sortN_eq (nb_canon g p)
/-! ### lists of all numbers -/
theorem range_getD {n i : Nat} (h : i < n) : (List.range n).getD i 0 = i := by
  rw [List.getD_eq_getElem?_getD, List.getElem?_range h]; rfl
theorem led_range (g : Good L) : led (List.range (L.length + 1)) L = L := by
  unfold led
  conv => rhs; rw [← List.map_id L]
  refine List.map_congr_left fun e he => ?_
  obtain ⟨h1, h2, _⟩ := g.le he
  rw [range_getD (by omega), range_getD (by omega)]
  rfl
theorem led_led {n : Nat} (ms : List Nat) (hp : ps.Perm (List.range (n + 1))) (hL : ∀ e ∈ L, e.1 ≤ n ∧ e.2 ≤ n) : led ms (led ps L) = led (ps.map (fn ms)) L := by
  have lp : ps.length = n + 1 := by rw [hp.length_eq, List.length_range]
  unfold led
  rw [List.map_map]
  refine List.map_congr_left fun e he => ?_
  obtain ⟨h1, h2⟩ := hL e he
  have key : ∀ i, i ≤ n → (ps.map (fn ms)).getD i 0 = fn ms (ps.getD i 0) := fun i hi => by
    rw [List.getD_eq_getElem?_getD, List.getElem?_map, List.getD_eq_getElem?_getD, List.getElem?_eq_getElem (by omega)]
    rfl
  show (fn ms (ps.getD e.1 0), fn ms (ps.getD e.2 0)) = _
  rw [key _ h1, key _ h2]
theorem map_range_fn {n : Nat} {ms : List Nat} (h : ms.length = n) : (List.range n).map (fn ms) = ms := by
  apply List.ext_getElem
  · simp [h]
  · intro i h1 h2
    simp [h2]
theorem perm_map {n : Nat} {ms : List Nat} (hp : ps.Perm (List.range (n + 1))) (hm : ms.Perm (List.range (n + 1))) : (ps.map (fn ms)).Perm (List.range (n + 1)) := by
  have lm : ms.length = n + 1 := by rw [hm.length_eq, List.length_range]
  have := hp.map (fn ms)
  rw [map_range_fn lm] at this
  exact this.trans hm
def back (ps : List Nat) : List Nat := (List.range ps.length).map fun p => ps.idxOf p
theorem back_perm {n : Nat} (hp : ps.Perm (List.range (n + 1))) : (back ps).Perm (List.range (n + 1)) := by
  have lp : ps.length = n + 1 := by rw [hp.length_eq, List.length_range]
  have B := bij_perm hp
  unfold back
  rw [lp]
  refine (List.perm_ext_iff_of_nodup (map_nd B.symm List.nodup_range fun x hx => by have := List.mem_range.mp hx; omega) List.nodup_range).mpr fun p => ?_
  rw [List.mem_map, List.mem_range]
  constructor
  · rintro ⟨x, hx, rfl⟩
    have := B.gl x (by have := List.mem_range.mp hx; omega)
    show ps.idxOf x < n + 1
    omega
  · intro h
    exact ⟨fn ps p, List.mem_range.mpr (Nat.lt_succ_of_le (B.fl p (by omega))), B.gf p (by omega)⟩
theorem led_back (g : Good L) (hp : ps.Perm (List.range (L.length + 1))) : led (back ps) (led ps L) = L := by
  have lp : ps.length = L.length + 1 := by rw [hp.length_eq, List.length_range]
  have B := bij_perm hp
  unfold led
  rw [List.map_map]
  conv => rhs; rw [← List.map_id L]
  refine List.map_congr_left fun e he => ?_
  obtain ⟨h1, h2, _⟩ := g.le he
  have key : ∀ i, i ≤ L.length → (back ps).getD (ps.getD i 0) 0 = i := fun i hi => by
    have q : ps.getD i 0 ≤ L.length := B.fl i hi
    have q2 : ps.idxOf (ps.getD i 0) = i := B.gf i hi
    unfold back
    rw [List.getD_eq_getElem?_getD, List.getElem?_map, List.getElem?_range (by omega)]
    show ps.idxOf (ps.getD i 0) = i
    exact q2
  show ((back ps).getD (ps.getD e.1 0) 0, (back ps).getD (ps.getD e.2 0) 0) = e
  rw [key _ h1, key _ h2]
theorem swap_perm {n i j : Nat} (hi : i < n) (hj : j < n) : (((List.range n).set i j).set j i).Perm (List.range n) := by
  have e : ((List.range n).set i j).set j i = (List.range n).map fun x => if x = j then i else if x = i then j else x := by
    apply List.ext_getElem
    · simp
    · intro x h1 h2
      simp at h1
      rw [List.getElem_set, List.getElem_set]
      simp only [List.getElem_map, List.getElem_range]
      by_cases c1 : j = x
      · simp [c1]
      · by_cases c2 : i = x
        · simp [c2, c1, Ne.symm c1]
        · simp [c1, c2, Ne.symm c1, Ne.symm c2]
  rw [e]
  have nd : ((List.range n).map fun x => if x = j then i else if x = i then j else x).Nodup := by
    have := List.nodup_range (n := n)
    unfold List.Nodup at *
    rw [List.pairwise_map]
    refine this.imp fun {a b} h q => h ?_
    split at q <;> split at q <;> (try split at q) <;> (try split at q) <;> omega
  refine (List.perm_ext_iff_of_nodup nd List.nodup_range).mpr fun p => ?_
  rw [List.mem_map, List.mem_range]
  constructor
  · rintro ⟨x, hx, rfl⟩
    have := List.mem_range.mp hx
    split
    · exact hi
    · split <;> omega
  · intro h
    refine ⟨if p = j then i else if p = i then j else p, List.mem_range.mpr ?_, ?_⟩
    · split
      · exact hi
      · split <;> omega
    · by_cases c1 : p = j
      · subst c1
        by_cases c2 : i = p
        · simp [c2]
        · simp [c2]
      · by_cases c2 : p = i
        · subst c2; simp [c1]
        · simp [c1, c2]
end
end K11

set_option Elab.async false
set_option linter.all false
set_option maxRecDepth 100000
namespace K11
open PySem L2 PySem.Spec Lk Tr
variable {L LB : List (Nat × Nat)} {X Y : List D} {ps : List Nat}
theorem fEq_dPs {ka kb : Nat} {l m : List (Nat × Nat)} : fEq ka (dPs l) kb (dPs m) = some (0, .bool (decide (l = m))) := by
  simp only [fEq, eqOk_dPs, Bool.and_self, if_true, eqv_dPs]
theorem fNe_dPs {ka kb : Nat} {l m : List (Nat × Nat)} : fNe ka (dPs l) kb (dPs m) = some (0, .bool (!decide (l = m))) := by
  simp only [fNe, eqOk_dPs, Bool.and_self, if_true, eqv_dPs]
theorem attrL (k : Nat) : fAttr "Country" "own_lanes" k (ctry L X) = some (0, dPs (canon L)) := by
  simp [fAttr, attrOf, attrOf.look, ctry]
theorem isOf_ctry : isOf "Country" (ctry L X) = true := by simp [isOf, ctry]
theorem okR_ctry : okR "Country" [] (ctry L X) = true := by simp [okR, isOf_ctry]
theorem e_lanes : m_Country_lanes [⟨0, ctry L X⟩] = some (⟨true, 1, dPs (canon L)⟩, [some ⟨0, ctry L X⟩]) := by
  have h : ∀ l : List D, fList 0 (.list l) = some (1, .list l) := fun l => rfl
  simp [m_Country_lanes, attrL, h]
theorem e_eq : m_Country_eq [⟨0, ctry L X⟩, ⟨0, ctry LB Y⟩] = some (⟨true, 0, .bool (decide (canon L = canon LB))⟩, [some ⟨0, ctry L X⟩, some ⟨0, ctry LB Y⟩]) := by
  have h : fIsiA "Country" [] 0 (ctry LB Y) = some (0, .bool true) := by simp [fIsiA, okR_ctry, isOf_ctry]
  simp [m_Country_eq, h, attrL, fEq_dPs]
theorem fEqI_ctry (ng : Bool) (ka kb : Nat) : fEqI ng "Country" [] m_Country_eq ka (ctry L X) kb (ctry LB Y) = some (0, .bool (if ng then !decide (canon L = canon LB) else decide (canon L = canon LB))) := by
  unfold fEqI
  rw [isOf_ctry, okR_ctry, e_eq]
  simp
theorem enum_ties : dEnum ((tiesL L).map dL) = (List.range (L.length + 1)).map fun p => PyData.tuple [dI p, dL (sn L p)] := by
  unfold dEnum
  rw [List.length_map, tiesL_len]
  refine List.map_congr_left fun p hp => ?_
  have hp := List.mem_range.mp hp
  have := tiesL_get L (show p ≤ L.length by omega)
  rw [List.getD_eq_getElem?_getD] at this
  have hl : p < (tiesL L).length := by rw [tiesL_len]; omega
  rw [List.getElem?_eq_getElem hl] at this
  rw [List.getElem?_map, List.getElem?_eq_getElem hl]
  simp only [Option.map_some, Option.getD_some] at this ⊢
  rw [this]
theorem e_yards (few : L.length ≤ 100) : m_Country_yards [⟨0, ctry L X⟩] = some (⟨true, 1, dL (yardsL L)⟩, [some ⟨0, ctry L X⟩]) := by
  have c := lc_map2 (kk := 0) (vs := [1, 2]) (mi := mIe (mUn (fAttr "Country" "own_ties") (mV 0))) (b := bT 2 (bs1 (bN 1) (bs1 (bN 2) bs0))) (mt := mB (mBin fGt (mUn fLen (mV 2)) (mC (.int 1)))) (me := mT 1) (ρ := [some ⟨0, ctry L X⟩, none, none]) (ρ0 := [some ⟨0, ctry L X⟩, none, none]) (g := fun p => PyData.tuple [dI p, dL (sn L p)]) (List.range (L.length + 1)) (fun p => decide (1 < (nb L p).length)) dI (by
      simp [-List.map_map, attr3, enum_ties]) (by simp; omega) (fun x hx => by
    have sl : (sn L x).length = (nb L x).length := sortN_len _
    simp [sl]
    try omega)
  apply Fp.eq
  unfold m_Country_yards
  refine fp_fn (wp_ret ?_)
  simp only [List.map, List.replicate, List.append_eq, List.cons_append, List.nil_append]
  refine ⟨_, _, c, ?_⟩
  simp [yardsL]
theorem e_gates (few : L.length ≤ 100) : m_Country_gates [⟨0, ctry L X⟩] = some (⟨true, 1, dL (gatesL L)⟩, [some ⟨0, ctry L X⟩]) := by
  have c := lc_map2 (kk := 0) (vs := [1, 2]) (mi := mIe (mUn (fAttr "Country" "own_ties") (mV 0))) (b := bT 2 (bs1 (bN 1) (bs1 (bN 2) bs0))) (mt := mB (mBin fEq (mUn fLen (mV 2)) (mC (.int 1)))) (me := mT 1) (ρ := [some ⟨0, ctry L X⟩, none, none]) (ρ0 := [some ⟨0, ctry L X⟩, none, none]) (g := fun p => PyData.tuple [dI p, dL (sn L p)]) (List.range (L.length + 1)) (fun p => decide ((nb L p).length = 1)) dI (by
      simp [-List.map_map, attr3, enum_ties]) (by simp; omega) (fun x hx => by
    have sl : (sn L x).length = (nb L x).length := sortN_len _
    simp [sl]
    try omega)
  apply Fp.eq
  unfold m_Country_gates
  refine fp_fn (wp_ret ?_)
  simp only [List.map, List.replicate, List.append_eq, List.cons_append, List.nil_append]
  refine ⟨_, _, c, ?_⟩
  simp [gatesL]
theorem e_neighbours {p : Nat} (hp : p ≤ L.length) : m_Country_neighbours [⟨0, ctry L X⟩, ⟨0, dI p⟩] = some (⟨true, 1, dL (sn L p)⟩, [some ⟨0, ctry L X⟩, some ⟨0, dI p⟩]) := by
  have h : ∀ l : List D, fList 0 (.list l) = some (1, .list l) := fun l => rfl
  have k := call1 (n := 1) (ms := mF1 (mT 1) mF0) (ρ := [some ⟨0, ctry L X⟩, some ⟨0, dI p⟩]) (ds := [dI p]) (ρ1 := [some ⟨0, ctry L X⟩, some ⟨0, dI p⟩]) (by simp) rfl rfl (e_is_count p)
  have b : ¬ ((L.length : Int) + 1 ≤ (p : Int)) := by omega
  simp [-x_mCall, m_Country_neighbours, k, attr3, tiesL_len, b, at_ties hp, h]
theorem noAttr_ctry : noAttrD "neighbours" (ctry L X) = true := by
  have h1 : ¬ ((Str.ofString "own_lanes") = (Str.ofString "neighbours")) := by decide +kernel
  have h2 : ¬ ((Str.ofString "own_ties") = (Str.ofString "neighbours")) := by decide +kernel
  have h3 : ¬ ((Str.ofString "own_ahead") = (Str.ofString "neighbours")) := by decide +kernel
  simp [noAttrD, ctry, attrOf.look, h1, h2, h3]
theorem meth1 {n : Nat} {c m : Str} {g : Fn} {mo : M R} {ms : M (List D)} {ρ ρ1 ρ2 : Sto} {ds : List D} {bs : List B} {r r' : R} {outs : List (Option B)} (h0 : mo ρ = some (r, ρ1)) (hc : (r.fr || r.k == 0) = true ∧ isOf c r.d = true ∧ noAttrD m r.d = true) (h1 : ms ρ1 = some (ds, ρ2)) (h2 : ds.length + 1 = n) (h3 : frz0 (r.d :: ds) = bs) (h4 : g bs = some (r', outs)) : mMeth n c m g mo ms ρ = some (r', ρ2) := by
  unfold mMeth
  rw [h0]
  subst h3
  simp only [hc, and_self, if_true, h1, h2, h4]
theorem prop1 {c : Str} {g : Fn} {mo : M R} {ρ ρ1 : Sto} {r r' : R} {outs : List (Option B)} (h0 : mo ρ = some (r, ρ1)) (hc : (r.fr || r.k == 0) = true ∧ isOf c r.d = true) (h4 : g [⟨0, r.d⟩] = some (r', outs)) : mProp c g mo ρ = some (r', ρ1) := by
  unfold mProp
  rw [h0]
  simp only [hc, and_self, if_true, h4]
theorem make1 {n : Nat} {c : Str} {g : Fn} {ms : M (List D)} {ρ ρ1 : Sto} {ds : List D} {bs : List B} {d : D} {fr : Bool} {k : Nat} {os : List (Option B)} (h1 : ms ρ = some (ds, ρ1)) (h2 : ds.length + 1 = n) (h0 : (⟨1, .dict [(.str clsKey, .str c)]⟩ : B) :: frz0 ds = bs) (h3 : g bs = some (⟨fr, 0, .none⟩, some ⟨k + 1, d⟩ :: os)) : mMake n c g ms ρ = some (⟨false, 0, d⟩, ρ1) := by
  unfold mMake
  rw [h1]
  subst h0
  simp only [h2, if_true, h3]
theorem callK1 {n : Nat} {ix : List Nat} {g : Fn} {ms ks : M (List D)} {ρ ρ1 ρ2 : Sto} {ds es : List D} {bs : List B} {r : R} {outs : List (Option B)} (h1 : ms ρ = some (ds, ρ1)) (h2 : ks ρ1 = some (es, ρ2)) (h3 : (ds ++ es).length = n ∧ ix.all (fun i => decide (i < n)) = true) (h4 : frz0 (pick ix (ds ++ es)) = bs) (h5 : g bs = some (r, outs)) :
    mCallK n ix g ms ks ρ = some (r, ρ2) := by
  unfold mCallK
  rw [h1]
  simp only
  rw [h2]
  subst h4
  simp only [h3, and_self, if_true, h5]
/-! ### renamed -/
/-- a list or a tuple of places -/
def IsSeq (ps : List Nat) (d : D) : Prop := d = dL ps ∨ d = .tuple (ps.map dI)
theorem at_fn {i : Nat} (h : i < ps.length) : atI (ps.map dI) (i : Int) = some (dI (fn ps i)) := by
  rw [atI_map h, fn, List.getD_eq_getElem?_getD, List.getElem?_eq_getElem h]; rfl
theorem item_seq {d : D} (hd : IsSeq ps d) {i : Nat} (h : i < ps.length) : itemOf 0 d (i : Int) = some (0, dI (fn ps i)) := by
  rcases hd with rfl | rfl <;> simp [itemOf, at_fn h]
theorem sorted_seq {d : D} (hd : IsSeq ps d) (hl : ps.length ≤ 100) : fSortedS 0 d = some (1, dL (sortN ps)) := by
  rcases hd with rfl | rfl
  · exact fSorted_dL (by omega) (by simp; omega)
  · simp only [fSortedS]
    rw [sortOk_dI (by simp; omega), sortD_dI]
    rfl
theorem e_is_list {d : D} (hd : IsSeq ps d) : m_is_list [⟨0, d⟩] = some (⟨true, 0, .bool true⟩, [some ⟨0, d⟩]) := by
  rcases hd with rfl | rfl
  · exact e_is_listL _
  · exact e_is_listT _
theorem iq_seq {d : D} (hd : IsSeq ps d) {m : M R} {ρ ρ1 : Sto} {f : Bool} (h : m ρ = some (⟨f, 0, d⟩, ρ1)) : mIq m ρ = some (ps.map dI, ρ1) := by
  unfold mIq
  rw [h]
  rcases hd with rfl | rfl <;> simp
theorem sorted_range {n : Nat} (hp : ps.Perm (List.range n)) : sortN ps = List.range n := by
  rw [sortN_eq hp]
  exact sortN_id (lt_le List.pairwise_lt_range)
end K11

set_option Elab.async false
set_option linter.all false
set_option maxRecDepth 100000
namespace K11
open PySem L2 PySem.Spec Lk Tr
variable {L M : List (Nat × Nat)} {X : List D}
/-! ### the same lanes otherwise -/
theorem perm_canon (hp : (M.map mm).Perm (L.map mm)) : canon M = canon L := sortP_eq hp
theorem perm_len (hp : (M.map mm).Perm (L.map mm)) : M.length = L.length := by
  have := hp.length_eq
  rwa [List.length_map, List.length_map] at this
theorem perm_adj (hp : (M.map mm).Perm (L.map mm)) : Adj M = Adj L := by rw [← adj_canon M, perm_canon hp, adj_canon]
theorem perm_nb (g : Good L) (hp : (M.map mm).Perm (L.map mm)) (p : Nat) : (nb M p).Perm (nb L p) := by
  have neM : ∀ e ∈ M, e.1 ≠ e.2 := fun e he => by
    have h : Adj M e.1 e.2 := .inl he
    rw [perm_adj hp] at h
    exact g.tree.ne h
  have := nb_perm hp p
  rwa [nb_mm neM, nb_mm g.ne] at this
theorem perm_yards (g : Good L) (hp : (M.map mm).Perm (L.map mm)) : yardsL M = yardsL L := by
  unfold yardsL
  rw [perm_len hp]
  exact List.filter_congr fun p _ => by rw [(perm_nb g hp p).length_eq]
theorem good_perm (g : Good L) (hp : (M.map mm).Perm (L.map mm)) : Good M := by
  have lM := perm_len hp
  refine ⟨by rw [lM, perm_adj hp]; exact g.tree, hp.nodup_iff.mpr g.nd, by rw [lM]; exact g.few, fun p hq => ?_, by rw [perm_yards g hp]; exact g.y1, by rw [perm_yards g hp]; exact g.y7⟩
  rw [lM] at hq
  rw [(perm_nb g hp p).length_eq]
  exact g.deg p hq
theorem perm_ctry (g : Good L) (hp : (M.map mm).Perm (L.map mm)) : ctry M X = ctry L X := by
  have h1 : sortP (M.map mm) = sortP (L.map mm) := sortP_eq hp
  have h2 : tiesL M = tiesL L := by
    unfold tiesL
    rw [perm_len hp]
    exact List.map_congr_left fun p _ => sortN_eq (perm_nb g hp p)
  unfold ctry
  rw [h1, h2]
/-! ### there is a gate -/
theorem zero_sum : ∀ l : List Nat, (∀ x ∈ l, x = 0) → l.sum = 0
  | [], _ => rfl
  | a :: l, h => by rw [List.sum_cons, zero_sum l fun x hx => h x (List.mem_cons_of_mem _ hx), h a List.mem_cons_self]
theorem one_sum (N a : Nat) (h : a < N) : ((List.range N).map fun p => if a = p then 1 else 0).sum = 1 := by
  induction N with
  | zero => omega
  | succ N ih =>
    rw [List.range_succ, List.map_append, List.sum_append]
    by_cases e : a = N
    · subst e
      have : ((List.range a).map fun p => if a = p then 1 else 0).sum = 0 := by
        refine zero_sum _ fun x hx => ?_
        obtain ⟨p, hp, rfl⟩ := List.mem_map.mp hx
        have := List.mem_range.mp hp
        rw [if_neg (by omega)]
      rw [this]; simp
    · rw [ih (by omega)]; simp [e]
theorem add_sum (l : List Nat) (f g : Nat → Nat) : (l.map fun p => f p + g p).sum = (l.map f).sum + (l.map g).sum := by
  induction l with
  | nil => rfl
  | cons a l ih => simp [ih]; omega
theorem nb_sum (N : Nat) (L : List (Nat × Nat)) (h : ∀ e ∈ L, e.1 < N ∧ e.2 < N) : ((List.range N).map fun p => (nb L p).length).sum = 2 * L.length := by
  induction L with
  | nil =>
    refine zero_sum _ fun x hx => ?_
    obtain ⟨p, _, rfl⟩ := List.mem_map.mp hx
    rfl
  | cons e L ih =>
    have ih := ih fun x hx => h x (List.mem_cons_of_mem _ hx)
    have he := h e List.mem_cons_self
    have e1 : ∀ p, (nb (e :: L) p).length = ((if e.1 = p then 1 else 0) + (if e.2 = p then 1 else 0)) + (nb L p).length := fun p => by
      unfold nb
      rw [List.flatMap_cons, List.length_append, List.length_append]
      congr 2
      · split <;> rfl
      · split <;> rfl
    simp only [e1]
    rw [add_sum, add_sum, one_sum _ _ he.1, one_sum _ _ he.2, ih, List.length_cons]
    omega
theorem Good.pos (g : Good L) : 1 ≤ L.length := by
  have y := g.y1
  cases L with
  | nil => simp [yardsL, nb] at y
  | cons e L => simp
theorem sum_ge (l : List Nat) (f : Nat → Nat) (k : Nat) (h : ∀ p ∈ l, k ≤ f p) : k * l.length ≤ (l.map f).sum := by
  induction l with
  | nil => simp
  | cons a l ih =>
    have h1 := ih fun p hp => h p (List.mem_cons_of_mem _ hp)
    have h2 := h a List.mem_cons_self
    rw [List.length_cons, List.map_cons, List.sum_cons, Nat.mul_succ]
    omega
theorem Good.has_nb (g : Good L) {p : Nat} (hp : p ≤ L.length) : 1 ≤ (nb L p).length := by
  refine Classical.byContradiction fun h => ?_
  have h0 : nb L p = [] := List.length_eq_zero_iff.mp (by omega)
  have := g.tree.conn (C := fun q => q = p) hp rfl (fun a b ha hab => by
    subst ha
    have : b ∈ nb L a := mem_nb.mpr hab
    rw [h0] at this
    cases this)
  have h1 := this 0 (Nat.zero_le _)
  have h2 := this 1 g.pos
  omega
theorem gates_ne (g : Good L) : gatesL L ≠ [] := by
  intro h
  have s := nb_sum (L.length + 1) L fun e he => by have := g.le he; omega
  have q : ∀ p ∈ List.range (L.length + 1), 2 ≤ (nb L p).length := fun p hp => by
    have hpl := List.mem_range.mp hp
    have h1 := g.has_nb (show p ≤ L.length by omega)
    have h2 : ¬ (nb L p).length = 1 := fun e => by
      have : p ∈ gatesL L := List.mem_filter.mpr ⟨hp, by simp [e]⟩
      rw [h] at this
      cases this
    omega
  have := sum_ge (List.range (L.length + 1)) (fun p => (nb L p).length) 2 q
  rw [s, List.length_range] at this
  omega
/-! ### a gate's lane led elsewhere -/
def hang (x y : Nat) (e : Nat × Nat) : Nat × Nat := if e.1 = x ∨ e.2 = x then (y, x) else e
theorem mem_gates {p : Nat} : p ∈ gatesL L ↔ p ≤ L.length ∧ (nb L p).length = 1 := by
  unfold gatesL
  rw [List.mem_filter, List.mem_range, decide_eq_true_iff]
  omega
theorem gate_one {x : Nat} (h : (nb L x).length = 1) : ∃ hm, nb L x = [hm] ∧ Adj L x hm ∧ ∀ b, Adj L x b → b = hm := by
  obtain ⟨hm, e⟩ := List.length_eq_one_iff.mp h
  refine ⟨hm, e, mem_nb.mp (by rw [e]; simp), fun b hb => ?_⟩
  have := mem_nb.mpr hb
  rw [e] at this
  exact List.mem_singleton.mp this
theorem adj_hang (g : Good L) {x y hm : Nat} (hx : Adj L x hm) (leaf : ∀ b, Adj L x b → b = hm) : Adj (L.map (hang x y)) = Hung (Adj L) x y := by
  have key : ∀ a b, (a, b) ∈ L.map (hang x y) ↔ ((a, b) ∈ L ∧ a ≠ x ∧ b ≠ x) ∨ (a = y ∧ b = x) := fun a b => by
    rw [List.mem_map]
    constructor
    · rintro ⟨e, he, q⟩
      unfold hang at q
      split at q
      · obtain ⟨rfl, rfl⟩ := Prod.mk.inj q
        exact .inr ⟨rfl, rfl⟩
      · rename_i hn
        subst q
        exact .inl ⟨he, fun h => hn (.inl h), fun h => hn (.inr h)⟩
    · rintro (⟨h1, h2, h3⟩ | ⟨rfl, rfl⟩)
      · exact ⟨_, h1, if_neg (by rintro (h | h) <;> contradiction)⟩
      · rcases hx with h | h
        · exact ⟨_, h, if_pos (.inl rfl)⟩
        · exact ⟨_, h, if_pos (.inr rfl)⟩
  funext a b
  apply propext
  unfold Hung
  show ((a, b) ∈ _ ∨ (b, a) ∈ _) ↔ _
  rw [key, key]
  unfold Adj
  constructor
  · rintro ((⟨h1, h2, h3⟩ | ⟨rfl, rfl⟩) | (⟨h1, h2, h3⟩ | ⟨rfl, rfl⟩))
    · exact .inl ⟨.inl h1, h2, h3⟩
    · exact .inr (.inr ⟨rfl, rfl⟩)
    · exact .inl ⟨.inr h1, h3, h2⟩
    · exact .inr (.inl ⟨rfl, rfl⟩)
  · rintro (⟨h1 | h1, h2, h3⟩ | ⟨rfl, rfl⟩ | ⟨rfl, rfl⟩)
    · exact .inl (.inl ⟨h1, h2, h3⟩)
    · exact .inr (.inl ⟨h1, h3, h2⟩)
    · exact .inr (.inr ⟨rfl, rfl⟩)
    · exact .inl (.inr ⟨rfl, rfl⟩)
theorem hang_nd (g : Good L) {x y hm : Nat} (leaf : ∀ b, Adj L x b → b = hm) : ((L.map (hang x y)).map mm).Nodup := by
  have nd := g.nd
  unfold List.Nodup at *
  rw [List.map_map, List.pairwise_map]
  rw [List.pairwise_map] at nd
  refine nd.imp_of_mem fun {a b} ha hb h e => h ?_
  have one : ∀ e ∈ L, e.1 = x ∨ e.2 = x → mm e = mm (x, hm) := fun e he h => by
    rcases h with h | h
    · have := leaf e.2 (.inl (by rw [← h]; exact he))
      rw [← h, ← this]
    · have := leaf e.1 (.inr (by rw [← h]; exact he))
      rw [← h, ← this]
      simp only [mm, Nat.min_comm, Nat.max_comm]
  simp only [Function.comp, hang] at e
  split at e
  · rename_i ca
    split at e
    · rename_i cb
      rw [one a ha ca, one b hb cb]
    · rename_i cb
      simp only [mm, Prod.mk.injEq] at e
      omega
  · rename_i ca
    split at e
    · rename_i cb
      simp only [mm, Prod.mk.injEq] at e
      omega
    · exact e
theorem nb_nd' {L : List (Nat × Nat)} (hne : ∀ e ∈ L, e.1 ≠ e.2) (nd : (L.map mm).Nodup) (p : Nat) : (nb L p).Nodup := by
  induction L with
  | nil => exact List.nodup_nil
  | cons e L ih =>
    rw [List.map_cons, List.nodup_cons] at nd
    have ih := ih (fun x hx => hne x (List.mem_cons_of_mem _ hx)) nd.2
    have he := hne e List.mem_cons_self
    have out : ∀ q, (p, q) = e ∨ (q, p) = e → q ∉ nb L p := fun q hq hm => by
      apply nd.1
      rw [List.mem_map]
      rcases mem_nb.mp hm with h | h
      · refine ⟨_, h, ?_⟩
        rcases hq with rfl | rfl
        · rfl
        · simp only [mm, Nat.min_comm, Nat.max_comm]
      · refine ⟨_, h, ?_⟩
        rcases hq with rfl | rfl
        · simp only [mm, Nat.min_comm, Nat.max_comm]
        · rfl
    obtain ⟨a, b⟩ := e
    unfold nb at *
    rw [List.flatMap_cons]
    simp only at he ⊢
    by_cases c1 : a = p
    · have c2 : ¬ b = p := fun e => he (c1.trans e.symm)
      simp only [c1, c2, if_true, if_false, List.append_nil, List.cons_append, List.nil_append]
      exact List.nodup_cons.mpr ⟨out b (.inl (by rw [c1])), ih⟩
    · by_cases c2 : b = p
      · simp only [c1, c2, if_true, if_false, List.nil_append, List.cons_append]
        exact List.nodup_cons.mpr ⟨out a (.inr (by rw [c2])), ih⟩
      · simp only [c1, c2, if_false, List.nil_append]
        exact ih
theorem good_hang (g : Good L) {x y hm : Nat} (hx : nb L x = [hm]) (hA : Adj L x hm) (leaf : ∀ b, Adj L x b → b = hm) (hy : y ≤ L.length) (hyd : 1 < (nb L y).length) (hy4 : (nb L y).length < 4) (hyh : y ≠ hm) (hh : 3 ≤ (nb L hm).length) :
    Good (L.map (hang x y)) ∧ canon (L.map (hang x y)) ≠ canon L := by
  have hyx : y ≠ x := fun e => by rw [e, hx] at hyd; simp at hyd
  have xn : x ≤ L.length := g.tree.le _ _ hA
  have tr := g.tree.hung hA leaf hy hyx
  have aM := adj_hang (y := y) g hA leaf
  have lM : (L.map (hang x y)).length = L.length := by rw [List.length_map]
  have nd := hang_nd (y := y) g leaf
  have neM : ∀ e ∈ L.map (hang x y), e.1 ≠ e.2 := fun e he => by
    have h : Adj (L.map (hang x y)) e.1 e.2 := .inl he
    rw [aM] at h
    exact tr.ne h
  have ndM := fun p => nb_nd' neM nd p
  have ndL := fun p => nb_nd' g.ne g.nd p
  have mM : ∀ p b, b ∈ nb (L.map (hang x y)) p ↔ Hung (Adj L) x y p b := fun p b => by
    rw [← aM]; exact mem_nb
  have nyx : ¬ Adj L y x := fun h => hyh (leaf _ (g.tree.sym _ _ h))
  have dx : (nb (L.map (hang x y)) x).length = 1 := by
    have : (nb (L.map (hang x y)) x).Perm [y] := (List.perm_ext_iff_of_nodup (ndM x) (by simp)).mpr fun b => by
      rw [mM, List.mem_singleton]
      constructor
      · rintro (⟨_, h, _⟩ | ⟨_, h⟩ | ⟨h, _⟩)
        · exact absurd rfl h
        · exact h
        · exact absurd h.symm hyx
      · intro h; exact .inr (.inl ⟨rfl, h⟩)
    rw [this.length_eq]; rfl
  have dy : (nb (L.map (hang x y)) y).length = (nb L y).length + 1 := by
    have : (nb (L.map (hang x y)) y).Perm (x :: nb L y) := (List.perm_ext_iff_of_nodup (ndM y) (List.nodup_cons.mpr ⟨fun h => nyx (mem_nb.mp h), ndL y⟩)).mpr fun b => by
      rw [mM, List.mem_cons]
      constructor
      · rintro (⟨h, _, _⟩ | ⟨h, _⟩ | ⟨_, h⟩)
        · exact .inr (mem_nb.mpr h)
        · exact absurd h hyx
        · exact .inl h
      · rintro (h | h)
        · exact .inr (.inr ⟨rfl, h⟩)
        · have h := mem_nb.mp h
          exact .inl ⟨h, hyx, fun e => nyx (e ▸ h)⟩
    rw [this.length_eq]; rfl
  have dp : ∀ p, p ≠ x → p ≠ y → (nb (L.map (hang x y)) p).Perm ((nb L p).filter fun b => decide (b ≠ x)) := fun p px py => by
    refine (List.perm_ext_iff_of_nodup (ndM p) ((ndL p).filter _)).mpr fun b => ?_
    rw [mM, List.mem_filter, decide_eq_true_iff]
    constructor
    · rintro (⟨h, _, h2⟩ | ⟨h, _⟩ | ⟨h, _⟩)
      · exact ⟨mem_nb.mpr h, h2⟩
      · exact absurd h px
      · exact absurd h py
    · rintro ⟨h1, h2⟩
      exact .inl ⟨mem_nb.mp h1, px, h2⟩
  have dh : hm ≠ x := (g.tree.ne hA).symm
  have rm : ∀ p, (nb L p).length ≤ ((nb L p).filter fun b => decide (b ≠ x)).length + 1 := fun p => by
    have h1 := List.Nodup.erase_eq_filter (ndL p) x
    have h2 : ((nb L p).filter fun b => decide (b ≠ x)) = (nb L p).erase x := by
      rw [h1]
      exact List.filter_congr fun b _ => by rw [Bool.eq_iff_iff]; simp
    rw [h2, List.length_erase]
    split <;> omega
  have de : ∀ p, p ≠ x → p ≠ hm → p ≠ y → (nb (L.map (hang x y)) p).length = (nb L p).length := fun p px ph py => by
    rw [(dp p px py).length_eq]
    congr 1
    rw [List.filter_eq_self]
    intro b hb
    rw [decide_eq_true_iff]
    intro e
    exact ph (leaf _ (g.tree.sym _ _ (e ▸ mem_nb.mp hb)))
  have yd : yardsL (L.map (hang x y)) = yardsL L := by
    unfold yardsL
    rw [lM]
    refine List.filter_congr fun p _ => ?_
    by_cases px : p = x
    · subst px; rw [dx, hx]; rfl
    · by_cases py : p = y
      · subst py; rw [dy]
        rw [decide_eq_true hyd, decide_eq_true (by omega)]
      · by_cases ph : p = hm
        · subst ph
          have h1 := rm p
          rw [(dp p px py).length_eq, decide_eq_true (show 1 < (nb L p).length by omega), decide_eq_true (by omega)]
        · rw [de p px ph py]
  refine ⟨⟨by rw [lM, aM]; exact tr, nd, by rw [lM]; exact g.few, fun p hp => ?_, by rw [yd]; exact g.y1, by rw [yd]; exact g.y7⟩, fun e => ?_⟩
  · rw [lM] at hp
    have h4 := g.deg p hp
    by_cases px : p = x
    · subst px; omega
    · by_cases py : p = y
      · subst py; omega
      · rw [(dp p px py).length_eq]
        exact Nat.le_trans (List.length_filter_le _ _) h4
  · have h1 : Adj (L.map (hang x y)) y x := by rw [aM]; exact .inr (.inr ⟨rfl, rfl⟩)
    rw [← adj_canon, e, adj_canon] at h1
    exact nyx h1
end K11

set_option Elab.async false
set_option linter.all false
set_option maxRecDepth 100000
namespace K11
open PySem L2 PySem.Spec Lk Tr
variable {L M : List (Nat × Nat)} {X : List D}
theorem map_eraseP : ∀ (l : List (Nat × Nat)) (d : Nat), (l.map dP).eraseIdx d = (l.eraseIdx d).map dP
  | [], _ => by simp
  | _ :: _, 0 => by simp
  | a :: l, d + 1 => by simp [map_eraseP l d]
theorem perm_eraseP : ∀ (l : List (Nat × Nat)) (d : Nat) (h : d < l.length), (l[d] :: l.eraseIdx d).Perm l
  | _ :: _, 0, _ => by simp
  | a :: l, d + 1, h => by
    have h2 : d < l.length := by simpa using h
    have := perm_eraseP l d h2
    simp only [List.getElem_cons_succ, List.eraseIdx_cons_succ]
    exact (List.Perm.swap a l[d] _).trans (List.Perm.cons a this)
theorem popAt_dPs {l : List (Nat × Nat)} {d : Nat} (h : d < l.length) (hl : l.length ≤ 1000) (fr : Bool) (k : Nat) : fPopAt (l.map dP) ⟨fr, k, dI d⟩ = some (dP l[d], (l.eraseIdx d).map dP) := by
  have e : seqIndex? (d : Int) (l.map dP).length = some d := by
    unfold seqIndex?
    simp
    omega
  have b1 : (-1000000000 : Int) ≤ (d : Int) ∧ (d : Int) ≤ 1000000000 := by omega
  have g : (l.map dP)[d]? = some (dP l[d]) := by simp [h]
  unfold fPopAt
  simp only [b1, and_self, if_true, e, g]
  simp [map_eraseP]
theorem ne_nilP (l : List (Nat × Nat)) (k : Nat) : fNe k (dPs l) 1 (.list []) = some (0, .bool (!decide (l = []))) := fNe_dPs (m := [])
theorem mm_swap (a b : Nat) : mm (b, a) = mm (a, b) := by simp only [mm, Nat.min_comm, Nat.max_comm]
abbrev TP := List ((Nat × Nat) × Bool)
theorem told_loop (few : L.length ≤ 100) {P : B} (hp : IsPot P) :
    Wp (mWhile fuel (mB (mBin fNe (mV 2) (mLst mF0))) (mSeq (mAsg (bT 2 (bs1 (bN 4) (bs1 (bN 5) bs0))) (mMet 2 fPopAt (mCallR 2 m__law_draw (mGr 0 (mG1 (mUn fLen (mV 2)) mG0))))) (mSeq (mSet 6 (mCallR 2 m__law_draw (mGr 0 (mG1 (mC (.int 3)) mG0)))) (mDrop (mMet 3 fApp (mIf (mB (mBin fEq (mV 6) (mC (.int 0)))) (mTup (mF1 (mT 4) (mF1 (mT 5) mF0))) (mIf (mB (mBin fEq (mV 6) (mC (.int 1)))) (mLst (mF1 (mT 5) (mF1 (mT 4) mF0))) (mTup (mF1 (mT 5) (mF1 (mT 4) mF0))))))))) [some P, some ⟨0, dPs L⟩, some ⟨1, dPs L⟩, some ⟨1, .list []⟩, none, none, none])
    fun fl ρ => fl = .nx ∧ ∃ (P' : B) (TT : TP) (x4 x5 x6 : Option B), IsPot P' ∧ ((TT.map (·.1)).map mm).Perm (L.map mm) ∧ ρ = [some P', some ⟨0, dPs L⟩, some ⟨1, dPs []⟩, some ⟨1, .list (TT.map itm)⟩, x4, x5, x6] := by
  refine wp_while (fun k ρ => ∃ (P' : B) (left : List (Nat × Nat)) (TT : TP) (x4 x5 x6 : Option B), IsPot P' ∧ ((TT.map (·.1)).map mm ++ left.map mm).Perm (L.map mm) ∧ left.length = k ∧ ρ = [some P', some ⟨0, dPs L⟩, some ⟨1, dPs left⟩, some ⟨1, .list (TT.map itm)⟩, x4, x5, x6]) ?_ L.length fuel _ ⟨P, L, [], none, none, none, hp, by simp, rfl, rfl⟩ (by unfold fuel; omega)
  rintro k ρ ⟨P', left, TT, x4, x5, x6, hP', hperm, hk, rfl⟩
  have hlen : TT.length + left.length = L.length := by
    have := hperm.length_eq
    simpa using this
  have nn := ne_nilP left 1
  refine ⟨!decide (left = []), [some P', some ⟨0, dPs L⟩, some ⟨1, dPs left⟩, some ⟨1, .list (TT.map itm)⟩, x4, x5, x6], b1 (bin1 (v1 rfl) rfl nn), ?_⟩
  by_cases hw : left = []
  · subst hw
    simp only [decide_true, Bool.not_true, Bool.false_eq_true, if_false]
    exact ⟨trivial, P', TT, x4, x5, x6, hP', by simpa using hperm, rfl⟩
  · have hpos : 0 < left.length := List.length_pos_iff.mpr hw
    simp only [hw, decide_false, Bool.not_false, if_true]
    obtain ⟨fr, d, P2, hd, hP2, kd⟩ := draw_in hP' (many := left.length) (by omega) (by omega)
    have kd' := kd [some ⟨0, dPs L⟩, some ⟨1, dPs left⟩, some ⟨1, .list (TT.map itm)⟩, x4, x5, x6] (mG1 (mUn fLen (mV 2)) mG0) (by simp)
    have pa := popAt_dPs hd (by omega) fr 0
    have hq : left[d] = left[d] := rfl
    obtain ⟨fr2, w, P3, hw3, hP3, kw⟩ := draw_in hP2 (many := 3) (by omega) (by omega)
    have kw' := kw [some ⟨0, dPs L⟩, some ⟨1, dPs (left.eraseIdx d)⟩, some ⟨1, .list (TT.map itm)⟩, some ⟨0, dI left[d].1⟩, some ⟨0, dI left[d].2⟩, x6] (mG1 (mC (.int 3)) mG0) (by simp)
    refine wp_seq (wp_asg ⟨⟨false, 0, dP left[d]⟩, [some P2, some ⟨0, dPs L⟩, some ⟨1, dPs (left.eraseIdx d)⟩, some ⟨1, .list (TT.map itm)⟩, x4, x5, x6], ?_, rfl, [some P2, some ⟨0, dPs L⟩, some ⟨1, dPs (left.eraseIdx d)⟩, some ⟨1, .list (TT.map itm)⟩, some ⟨0, dI left[d].1⟩, some ⟨0, dI left[d].2⟩, x6], by simp, ?_⟩)
    · simp [-x_mCallR, kd', pa]
    refine wp_seq (wp_set ⟨_, _, kw', by simp, by simp, ?_⟩)
    simp only [List.set_cons_succ, List.set_cons_zero]
    have l1 : TT.length < 1000000 := by omega
    have fin : ∀ (p : Nat × Nat) (b : Bool), mm p = mm left[d] → ∃ k', k' < k ∧ ∃ (P' : B) (lf : List (Nat × Nat)) (T2 : TP) (x4 x5 x6 : Option B), IsPot P' ∧ ((T2.map (·.1)).map mm ++ lf.map mm).Perm (L.map mm) ∧ lf.length = k' ∧ [some P3, some ⟨0, dPs L⟩, some ⟨1, dPs (left.eraseIdx d)⟩, some ⟨1, .list ((TT ++ [(p, b)]).map itm)⟩, some ⟨0, dI left[d].1⟩, some ⟨0, dI left[d].2⟩, some ⟨0, dI w⟩] = [some P', some ⟨0, dPs L⟩, some ⟨1, dPs lf⟩, some ⟨1, .list (T2.map itm)⟩, x4, x5, x6] := fun p b e => by
      refine ⟨left.length - 1, by omega, P3, left.eraseIdx d, TT ++ [(p, b)], _, _, _, hP3, ?_, by rw [List.length_eraseIdx]; simp [hd], rfl⟩
      refine List.Perm.trans ?_ hperm
      rw [List.map_append, List.map_append, List.append_assoc]
      refine List.Perm.append_left _ ?_
      show (mm p :: (left.eraseIdx d).map mm).Perm _
      rw [e]
      exact (perm_eraseP left d hd).map mm
    have w0 : ((w : Int) = 0) ↔ w = 0 := by omega
    have w1 : ((w : Int) = 1) ↔ w = 1 := by omega
    refine wp_drop ?_
    by_cases c0 : w = 0
    · refine ⟨⟨false, 0, .none⟩, [some P3, some ⟨0, dPs L⟩, some ⟨1, dPs (left.eraseIdx d)⟩, some ⟨1, .list ((TT ++ [(left[d], true)]).map itm)⟩, some ⟨0, dI left[d].1⟩, some ⟨0, dI left[d].2⟩, some ⟨0, dI w⟩], ?_, ?_⟩
      · simp [c0, l1, itm]
      · obtain ⟨k', h1, h2⟩ := fin left[d] true rfl
        exact ⟨k', h1, h2⟩
    · by_cases c1 : w = 1
      · refine ⟨⟨false, 0, .none⟩, [some P3, some ⟨0, dPs L⟩, some ⟨1, dPs (left.eraseIdx d)⟩, some ⟨1, .list ((TT ++ [((left[d].2, left[d].1), false)]).map itm)⟩, some ⟨0, dI left[d].1⟩, some ⟨0, dI left[d].2⟩, some ⟨0, dI w⟩], ?_, ?_⟩
        · simp [c1, l1, itm]
        · obtain ⟨k', h1, h2⟩ := fin (left[d].2, left[d].1) false (mm_swap _ _)
          exact ⟨k', h1, h2⟩
      · refine ⟨⟨false, 0, .none⟩, [some P3, some ⟨0, dPs L⟩, some ⟨1, dPs (left.eraseIdx d)⟩, some ⟨1, .list ((TT ++ [((left[d].2, left[d].1), true)]).map itm)⟩, some ⟨0, dI left[d].1⟩, some ⟨0, dI left[d].2⟩, some ⟨0, dI w⟩], ?_, ?_⟩
        · simp [c0, c1, w0, w1, l1, itm]
        · obtain ⟨k', h1, h2⟩ := fin (left[d].2, left[d].1) true (mm_swap _ _)
          exact ⟨k', h1, h2⟩
/-- what is told: a tuple, or a list of its own -/
def ToldB (TT : TP) (b : B) : Prop := b = ⟨0, .tuple (TT.map itm)⟩ ∨ b = ⟨1, .list (TT.map itm)⟩
theorem e_told (few : L.length ≤ 100) {P : B} (hp : IsPot P) : ∃ (TT : TP) (b P' : B), IsPot P' ∧ ToldB TT b ∧ ((TT.map (·.1)).map mm).Perm (L.map mm) ∧ m__law_told_otherwise [P, ⟨0, dPs L⟩] = some (⟨true, b.k, b.d⟩, [some P', some ⟨0, dPs L⟩]) := by
  have fl : fList 0 (dPs L) = some (1, dPs L) := rfl
  have fin : Fp (m__law_told_otherwise [P, ⟨0, dPs L⟩]) fun r outs => ∃ (TT : TP) (b P' : B), IsPot P' ∧ ToldB TT b ∧ ((TT.map (·.1)).map mm).Perm (L.map mm) ∧ r = ⟨true, b.k, b.d⟩ ∧ outs = [some P', some ⟨0, dPs L⟩] := by
    unfold m__law_told_otherwise
    refine fp_fn (wp_seq (wp_par ?_))
    simp only [List.map, List.replicate, List.append_eq, List.cons_append, List.nil_append]
    refine ⟨⟨true, 1, dPs L⟩, [some P, some ⟨0, dPs L⟩, none, none, none, none, none], un1 (v1 rfl) fl, rfl, ?_⟩
    refine ⟨⟨true, 1, .list []⟩, [some P, some ⟨0, dPs L⟩, none, none, none, none, none], by rfl, rfl, by simp, by simp, ?_⟩
    simp only [List.set_cons_succ, List.set_cons_zero]
    refine wp_seq ((told_loop few hp).mono ?_)
    rintro fl ρ ⟨rfl, P1, TT, x4, x5, x6, hP1, hperm, rfl⟩
    simp only
    obtain ⟨fr, w, P2, hw, hP2, kd⟩ := draw_in hP1 (many := 2) (by omega) (by omega)
    have kd' := kd [some ⟨0, dPs L⟩, some ⟨1, dPs []⟩, some ⟨1, .list (TT.map itm)⟩, x4, x5, x6] (mG1 (mC (.int 2)) mG0) (by simp)
    have w0 : ((w : Int) = 0) ↔ w = 0 := by omega
    refine wp_ret ?_
    by_cases c0 : w = 0
    · refine ⟨⟨true, 0, .tuple (TT.map itm)⟩, [some P2, some ⟨0, dPs L⟩, some ⟨1, dPs []⟩, some ⟨1, .list (TT.map itm)⟩, x4, x5, x6], ?_, rfl, TT, ⟨0, .tuple (TT.map itm)⟩, P2, hP2, .inl rfl, hperm, rfl, rfl⟩
      have t : mB (mBin fEq (mCallR 2 m__law_draw (mGr 0 (mG1 (mC (.int 2)) mG0))) (mC (.int 0))) [some P1, some ⟨0, dPs L⟩, some ⟨1, dPs []⟩, some ⟨1, .list (TT.map itm)⟩, x4, x5, x6] = some (true, [some P2, some ⟨0, dPs L⟩, some ⟨1, dPs []⟩, some ⟨1, .list (TT.map itm)⟩, x4, x5, x6]) := b1 (bin1 kd' (c1 _) (by simp [c0]))
      rw [x_mIf, t]
      exact un1 (v1 rfl) (by rfl)
    · refine ⟨⟨true, 1, .list (TT.map itm)⟩, [some P2, some ⟨0, dPs L⟩, some ⟨1, dPs []⟩, none, x4, x5, x6], ?_, rfl, TT, ⟨1, .list (TT.map itm)⟩, P2, hP2, .inr rfl, hperm, rfl, rfl⟩
      have t : mB (mBin fEq (mCallR 2 m__law_draw (mGr 0 (mG1 (mC (.int 2)) mG0))) (mC (.int 0))) [some P1, some ⟨0, dPs L⟩, some ⟨1, dPs []⟩, some ⟨1, .list (TT.map itm)⟩, x4, x5, x6] = some (false, [some P2, some ⟨0, dPs L⟩, some ⟨1, dPs []⟩, some ⟨1, .list (TT.map itm)⟩, x4, x5, x6]) := b1 (bin1 kd' (c1 _) (by simp [w0, c0]))
      rw [x_mIf, t]
      simp
  obtain ⟨r, outs, e, TT, b, P', hP, hb, hperm, rfl, rfl⟩ := fin
  exact ⟨TT, b, P', hP, hb, hperm, e⟩
end K11

set_option Elab.async false
set_option linter.all false
set_option maxRecDepth 100000
namespace K11
open PySem L2 PySem.Spec Lk Tr
variable {L M : List (Nat × Nat)} {X : List D}
theorem e_law_gates (L : List (Nat × Nat)) (few : L.length ≤ 100) : m__law_gates [⟨0, dPs L⟩] = some (⟨true, 1, dL (gatesL L)⟩, [some ⟨0, dPs L⟩]) := by
  have c := lc_map2 (kk := 0) (vs := [1]) (mi := mR1 (mBin fAdd (mUn fLen (mV 0)) (mC (.int 1)))) (b := bN 1) (mt := mB (mBin fEq (mUn fLen (mCall 2 m__law_beside (mF1 (mT 0) (mF1 (mT 1) mF0)))) (mC (.int 1)))) (me := mT 1) (ρ := [some ⟨0, dPs L⟩, none]) (ρ0 := [some ⟨0, dPs L⟩, none]) (g := fun i : Nat => PyData.int (i : Int)) (List.range (L.length + 1)) (fun p => decide ((nb L p).length = 1)) dI (by
      have e : ((L.length : Int) + 1).toNat = L.length + 1 := by omega
      have b1 : (-1000000000 : Int) ≤ (L.length : Int) + 1 ∧ (L.length : Int) + 1 ≤ 1000000000 := by omega
      simp [e, dInts_nat, b1]) (by simp; omega) (fun x hx => by
    have k := call1 (n := 2) (ms := mF1 (mT 0) (mF1 (mT 1) mF0)) (ρ := [some ⟨0, dPs L⟩, some ⟨0, dI x⟩]) (ds := [dPs L, dI x]) (ρ1 := [some ⟨0, dPs L⟩, some ⟨0, dI x⟩]) (by simp) rfl rfl (e_law_beside L x few)
    have sl : (sn L x).length = (nb L x).length := sortN_len _
    simp [-x_mCall, k, sl]
    try omega)
  apply Fp.eq
  unfold m__law_gates
  refine fp_fn (wp_ret ?_)
  simp only [List.map, List.replicate, List.append_eq, List.cons_append, List.nil_append]
  refine ⟨_, _, c, ?_⟩
  simp [gatesL]

theorem inT_dP (x : Nat) (e : Nat × Nat) : fInT false 0 (dI x) 0 (dP e) = some (0, .bool (decide (e.1 = x ∨ e.2 = x))) := by
  have h : ((x : Int) ∈ [(e.1 : Int), (e.2 : Int)]) ↔ (e.1 = x ∨ e.2 = x) := by
    simp only [List.mem_cons, List.not_mem_nil, or_false]
    omega
  simp only [fInT, intsOf, and_self, if_true, Bool.false_eq_true, if_false, h]
theorem e_other (g : Good L) {P : B} (hp : IsPot P) : ∃ (P' : B) (r : R), IsPot P' ∧ (r = ⟨false, 0, .none⟩ ∨ ∃ M, Good M ∧ canon M ≠ canon L ∧ r = ⟨true, 1, dPs M⟩) ∧ m__law_other [P, ⟨0, dPs L⟩] = some (r, [some P', some ⟨0, dPs L⟩]) := by
  have few := g.few
  have fin : Fp (m__law_other [P, ⟨0, dPs L⟩]) fun r outs => ∃ P' : B, IsPot P' ∧ (r = ⟨false, 0, .none⟩ ∨ ∃ M, Good M ∧ canon M ≠ canon L ∧ r = ⟨true, 1, dPs M⟩) ∧ outs = [some P', some ⟨0, dPs L⟩] := by
    unfold m__law_other
    refine fp_fn (wp_seq (wp_set ?_))
    simp only [List.map, List.replicate, List.append_eq, List.cons_append, List.nil_append]
    have gl : (gatesL L).length ≤ 1000 := by
      have := List.length_filter_le (fun p => decide ((nb L p).length = 1)) (List.range (L.length + 1))
      rw [List.length_range] at this
      unfold gatesL; omega
    have yl : (yardsL L).length ≤ 1000 := by have := g.y7; omega
    have kg : mCall 1 m__law_gates (mF1 (mT 1) mF0) [some P, some ⟨0, dPs L⟩, none, none, none, none, none] = some (⟨true, 1, dL (gatesL L)⟩, [some P, some ⟨0, dPs L⟩, none, none, none, none, none]) := call1 (ds := [dPs L]) (f1 (t0 rfl) rfl f0) rfl rfl (e_law_gates L (by omega))
    obtain ⟨x, P1, hx, hP1, kp⟩ := pick_in hp (l := gatesL L) (gates_ne g) gl
    have kp' := kp _ _ (mG1 (mCall 1 m__law_gates (mF1 (mT 1) mF0)) mG0) (g1 kg rfl g0)
    refine ⟨_, _, kp', rfl, by simp, ?_⟩
    simp only [List.set_cons_succ, List.set_cons_zero]
    obtain ⟨xn, x1⟩ := mem_gates.mp hx
    obtain ⟨hm, xe, xA, leaf⟩ := gate_one x1
    have hmn : hm ≤ L.length := g.tree.le _ _ (g.tree.sym _ _ xA)
    have snx : sn L x = [hm] := by
      unfold sn
      rw [xe]
      exact sortN_id (by simp)
    have kb : ∀ (i p : Nat) (σ : Sto), σ[1]? = some (some ⟨0, dPs L⟩) → σ[i]? = some (some ⟨0, dI p⟩) → mCall 2 m__law_beside (mF1 (mT 1) (mF1 (mT i) mF0)) σ = some (⟨true, 1, dL (sn L p)⟩, σ) := fun i p σ h1 h2 => call1 (ds := [dPs L, dI p]) (f1 (t0 h1) rfl (f1 (t0 h2) rfl f0)) rfl rfl (e_law_beside L p (by omega))
    have kb1 := kb 2 x [some P1, some ⟨0, dPs L⟩, some ⟨0, dI x⟩, none, none, none, none] rfl rfl
    rw [snx] at kb1
    obtain ⟨fr1, i1⟩ := ix1 (d := dI hm) (k := 0) kb1 (c1 (.int 0)) (by rfl) (by simp)
    refine wp_seq (wp_set ⟨_, _, i1, by simp, by simp, ?_⟩)
    simp only [List.set_cons_succ, List.set_cons_zero]
    have ky : mCall 1 m__law_yards (mF1 (mT 1) mF0) [some P1, some ⟨0, dPs L⟩, some ⟨0, dI x⟩, some ⟨0, dI hm⟩, none, none, none] = some (⟨true, 1, dL (yardsL L)⟩, [some P1, some ⟨0, dPs L⟩, some ⟨0, dI x⟩, some ⟨0, dI hm⟩, none, none, none]) := call1 (ds := [dPs L]) (f1 (t0 rfl) rfl f0) rfl rfl (e_law_yards L (by omega))
    have c := lc_map2 (kk := 0) (vs := [5]) (mi := mIq (mCall 1 m__law_yards (mF1 (mT 1) mF0))) (b := bN 5) (mt := mAndT (mB (mBin fNe (mV 5) (mV 3))) (mB (mBin fLt (mUn fLen (mCall 2 m__law_beside (mF1 (mT 1) (mF1 (mT 5) mF0)))) (mC (.int 4))))) (me := mT 5) (ρ := [some P1, some ⟨0, dPs L⟩, some ⟨0, dI x⟩, some ⟨0, dI hm⟩, none, none, none]) (ρ0 := [some P1, some ⟨0, dPs L⟩, some ⟨0, dI x⟩, some ⟨0, dI hm⟩, none, none, none]) (g := dI) (yardsL L) (fun y => decide (y ≠ hm) && decide ((nb L y).length < 4)) dI (iq1 ky rfl (.inl rfl)) (by simp; omega) (fun y hy => by
      have kb2 := kb 5 y [some P1, some ⟨0, dPs L⟩, some ⟨0, dI x⟩, some ⟨0, dI hm⟩, none, some ⟨0, dI y⟩, none] rfl rfl
      have e1 : ((y : Int) = (hm : Int)) ↔ y = hm := by omega
      have sl : (sn L y).length = (nb L y).length := sortN_len _
      have e2 : ((((nb L y).length : Nat) : Int) < 4) ↔ (nb L y).length < 4 := by omega
      have u1 : mB (mBin fNe (mV 5) (mV 3)) [some P1, some ⟨0, dPs L⟩, some ⟨0, dI x⟩, some ⟨0, dI hm⟩, none, some ⟨0, dI y⟩, none] = some (decide (y ≠ hm), [some P1, some ⟨0, dPs L⟩, some ⟨0, dI x⟩, some ⟨0, dI hm⟩, none, some ⟨0, dI y⟩, none]) := b1 (bin1 (v1 rfl) (v1 rfl) (by simp [e1]))
      have u2 : mB (mBin fLt (mUn fLen (mCall 2 m__law_beside (mF1 (mT 1) (mF1 (mT 5) mF0)))) (mC (.int 4))) [some P1, some ⟨0, dPs L⟩, some ⟨0, dI x⟩, some ⟨0, dI hm⟩, none, some ⟨0, dI y⟩, none] = some (decide ((nb L y).length < 4), [some P1, some ⟨0, dPs L⟩, some ⟨0, dI x⟩, some ⟨0, dI hm⟩, none, some ⟨0, dI y⟩, none]) := b1 (bin1 (un1 (k := 0) (d := .int ((nb L y).length : Int)) kb2 (by simp [sl])) (c1 _) (by simp [e2]))
      have u : mAndT (mB (mBin fNe (mV 5) (mV 3))) (mB (mBin fLt (mUn fLen (mCall 2 m__law_beside (mF1 (mT 1) (mF1 (mT 5) mF0)))) (mC (.int 4)))) [some P1, some ⟨0, dPs L⟩, some ⟨0, dI x⟩, some ⟨0, dI hm⟩, none, some ⟨0, dI y⟩, none] = some (decide (y ≠ hm) && decide ((nb L y).length < 4), [some P1, some ⟨0, dPs L⟩, some ⟨0, dI x⟩, some ⟨0, dI hm⟩, none, some ⟨0, dI y⟩, none]) := by
        by_cases c1 : y ≠ hm
        · rw [decide_eq_true c1] at u1
          rw [decide_eq_true c1, Bool.true_and]
          exact and_t u1 u2
        · rw [decide_eq_false c1] at u1
          rw [decide_eq_false c1, Bool.false_and]
          exact and_f u1
      simp only [x_bN, x_wipe1, x_wipe0, List.set_cons_succ, List.set_cons_zero, List.length_cons, List.length_nil]
      simp [-x_mAndT, -x_mB, u])
    simp only [x_unwipe1, x_unwipe0, x_wipe1, x_wipe0, List.set_cons_succ, List.set_cons_zero, List.getElem?_cons_succ, List.getElem?_cons_zero, Nat.zero_add] at c
    refine wp_seq (wp_set ⟨_, _, c, rfl, by simp, ?_⟩)
    simp only [List.set_cons_succ, List.set_cons_zero]
    have ml : ∀ y ∈ (yardsL L).filter (fun y => decide (y ≠ hm) && decide ((nb L y).length < 4)), y ≤ L.length ∧ 1 < (nb L y).length ∧ y ≠ hm ∧ (nb L y).length < 4 := fun y hy => by
      obtain ⟨h1, h2⟩ := List.mem_filter.mp hy
      rw [Bool.and_eq_true, decide_eq_true_iff, decide_eq_true_iff] at h2
      obtain ⟨h3, h4⟩ := mem_yards.mp h1
      exact ⟨h3, h4, h2.1, h2.2⟩
    have sl := List.length_filter_le (fun y => decide (y ≠ hm) && decide ((nb L y).length < 4)) (yardsL L)
    generalize hS : (yardsL L).filter (fun y => decide (y ≠ hm) && decide ((nb L y).length < 4)) = S at *
    have kb3 := kb 3 hm [some P1, some ⟨0, dPs L⟩, some ⟨0, dI x⟩, some ⟨0, dI hm⟩, some ⟨1, dL S⟩, none, none] rfl rfl
    have ql : (sn L hm).length = (nb L hm).length := sortN_len _
    have e3 : ((((nb L hm).length : Nat) : Int) < 3) ↔ (nb L hm).length < 3 := by omega
    have t1 : mB (mBin fEq (mV 4) (mLst mF0)) [some P1, some ⟨0, dPs L⟩, some ⟨0, dI x⟩, some ⟨0, dI hm⟩, some ⟨1, dL S⟩, none, none] = some (decide (S = []), [some P1, some ⟨0, dPs L⟩, some ⟨0, dI x⟩, some ⟨0, dI hm⟩, some ⟨1, dL S⟩, none, none]) := b1 (bin1 (v1 rfl) rfl (fEq_dL (m := [])))
    have t2 : mB (mBin fLt (mUn fLen (mCall 2 m__law_beside (mF1 (mT 1) (mF1 (mT 3) mF0)))) (mC (.int 3))) [some P1, some ⟨0, dPs L⟩, some ⟨0, dI x⟩, some ⟨0, dI hm⟩, some ⟨1, dL S⟩, none, none] = some (decide ((nb L hm).length < 3), [some P1, some ⟨0, dPs L⟩, some ⟨0, dI x⟩, some ⟨0, dI hm⟩, some ⟨1, dL S⟩, none, none]) := b1 (bin1 (un1 (k := 0) (d := .int ((nb L hm).length : Int)) kb3 (by simp [ql])) (c1 _) (by simp [e3]))
    by_cases c0 : S = [] ∨ (nb L hm).length < 3
    · refine wp_seq (wp_cond ⟨true, [some P1, some ⟨0, dPs L⟩, some ⟨0, dI x⟩, some ⟨0, dI hm⟩, some ⟨1, dL S⟩, none, none], ?_, ?_⟩)
      · by_cases h1 : S = []
        · exact or_t (by rw [t1, decide_eq_true h1])
        · exact or_f (by rw [t1, decide_eq_false h1]) (by rw [t2, decide_eq_true (c0.resolve_left h1)])
      · simp only [if_true]
        refine wp_ret ?_
        exact ⟨_, _, c1 _, rfl, P1, hP1, .inl rfl, rfl⟩
    · have h1 : S ≠ [] := fun h => c0 (.inl h)
      have h2 : ¬ (nb L hm).length < 3 := fun h => c0 (.inr h)
      refine wp_seq (wp_cond ⟨false, [some P1, some ⟨0, dPs L⟩, some ⟨0, dI x⟩, some ⟨0, dI hm⟩, some ⟨1, dL S⟩, none, none], or_f (by rw [t1, decide_eq_false h1]) (by rw [t2, decide_eq_false h2]), ?_⟩)
      simp only [Bool.false_eq_true, if_false]
      refine ⟨.nx, _, rfl, ?_⟩
      obtain ⟨y, P2, hy, hP2, kq⟩ := pick_in hP1 (l := S) h1 (by omega)
      have kq' := kq [some ⟨0, dPs L⟩, some ⟨0, dI x⟩, some ⟨0, dI hm⟩, some ⟨1, dL S⟩, none, none] [some ⟨0, dPs L⟩, some ⟨0, dI x⟩, some ⟨0, dI hm⟩, some ⟨0, dL S⟩, none, none] (mG1 (mT 4) mG0) (by simp)
      refine wp_seq (wp_set ⟨_, _, kq', rfl, by simp, ?_⟩)
      simp only [List.set_cons_succ, List.set_cons_zero]
      obtain ⟨q1, q2, q3, q4⟩ := ml y hy
      obtain ⟨gM, cM⟩ := good_hang g xe xA leaf q1 q2 q4 q3 (by omega)
      refine wp_ret ?_
      have d := lc_all2 (kk := 0) (vs := [6]) (mi := mIq (mT 1)) (b := bN 6) (me := mIf (mB (mBin (fInT false) (mV 2) (mV 6))) (mTup (mF1 (mT 5) (mF1 (mT 2) mF0))) (mV 6)) (ρ := [some P2, some ⟨0, dPs L⟩, some ⟨0, dI x⟩, some ⟨0, dI hm⟩, some ⟨0, dL S⟩, some ⟨0, dI y⟩, none]) (ρ0 := [some P2, some ⟨0, dPs L⟩, some ⟨0, dI x⟩, some ⟨0, dI hm⟩, some ⟨0, dL S⟩, some ⟨0, dI y⟩, none]) (g := dP) L (fun e => dP (hang x y e)) (by simp) (by simp; omega) (fun e he => by
        have it := inT_dP x e
        unfold hang
        by_cases ce : e.1 = x ∨ e.2 = x
        · rw [decide_eq_true ce] at it
          simp [it, ce]
        · rw [decide_eq_false ce] at it
          simp [it, ce])
      have e5 : L.map (fun e => dP (hang x y e)) = (L.map (hang x y)).map dP := by simp
      rw [e5] at d
      refine ⟨_, _, d, rfl, P2, hP2, .inr ⟨_, gM, cM, rfl⟩, ?_⟩
      rfl
  obtain ⟨r, outs, e, P', hP, hr, rfl⟩ := fin
  exact ⟨P', r, hP, hr, e⟩
end K11

set_option Elab.async false
set_option linter.all false
set_option maxRecDepth 100000
namespace K11
open PySem L2 PySem.Spec Lk Tr
variable {L M : List (Nat × Nat)} {X : List D}
def rowF (G : List Nat) (x : Nat) : List (Nat × Nat) := (G.filter fun y => decide (y ≠ x)).map fun y => (x, y)
def waysF (G H : List Nat) : List (Nat × Nat) := H.flatMap (rowF G)
theorem waysF_snoc (G H : List Nat) (x : Nat) : waysF G (H ++ [x]) = waysF G H ++ rowF G x := by simp [waysF]
theorem waysF_len (G : List Nat) : ∀ H : List Nat, (waysF G H).length ≤ H.length * G.length
  | [] => by simp [waysF]
  | x :: H => by
    have := waysF_len G H
    have h2 : (rowF G x).length ≤ G.length := by
      unfold rowF
      rw [List.length_map]
      exact List.length_filter_le _ _
    unfold waysF at *
    rw [List.flatMap_cons, List.length_append, List.length_cons, Nat.succ_mul]
    omega

theorem ways_loop1 {G : List Nat} (hG : G.length ≤ 100) {c0 : B} {kg : Nat} (hk : kg ≤ 1) (a : Option B) : Wp (mFor (mIq (mT 1)) (bN 3) (mDrop (mMet 2 fExt (mLc 0 [4] (mIq (mT 1)) (bN 4) (mB (mBin fNe (mV 4) (mV 3))) (mTup (mF1 (mT 3) (mF1 (mT 4) mF0)))))) [some c0, some ⟨kg, dL G⟩, some ⟨1, dPs []⟩, a, none])
    fun fl ρ => fl = .nx ∧ ∃ a : Option B, ρ = [some c0, some ⟨0, dL G⟩, some ⟨1, dPs (waysF G G)⟩, a, none] := by
  refine wp_for (G.map dI) (fun i ρ => ∃ a : Option B, ρ = [some c0, some ⟨0, dL G⟩, some ⟨1, dPs (waysF G (G.take i))⟩, a, none]) ?_ ?_ ?_
  · exact ⟨G.map dI, [some c0, some ⟨0, dL G⟩, some ⟨1, dPs []⟩, a, none], iq1 (r := ⟨false, 0, dL G⟩) (by simp) rfl (.inl rfl), rfl, a, rfl⟩
  · rintro i d ρ hd ⟨a, rfl⟩
    obtain ⟨x, hx, rfl⟩ : ∃ x, G[i]? = some x ∧ d = dI x := by
      rw [List.getElem?_map] at hd
      cases e : G[i]? with
      | none => rw [e] at hd; cases hd
      | some p => rw [e] at hd; cases hd; exact ⟨p, rfl, rfl⟩
    have hlt : i < G.length := (List.getElem?_eq_some_iff.mp hx).1
    have tk : G.take (i + 1) = G.take i ++ [x] := by rw [List.take_succ, hx]; rfl
    have ll := waysF_len G (G.take i)
    rw [List.length_take, Nat.min_eq_left (by omega)] at ll
    have l2 : i * G.length ≤ 100 * 100 := Nat.mul_le_mul (by omega) hG
    have st : waysF G (G.take (i + 1)) = waysF G (G.take i) ++ rowF G x := by rw [tk, waysF_snoc]
    rw [st]
    generalize waysF G (G.take i) = W at *
    refine ⟨[some c0, some ⟨0, dL G⟩, some ⟨1, dPs W⟩, some ⟨0, dI x⟩, none], by simp, ?_⟩
    have c := lc_map2 (kk := 0) (vs := [4]) (mi := mIq (mT 1)) (b := bN 4) (mt := mB (mBin fNe (mV 4) (mV 3))) (me := mTup (mF1 (mT 3) (mF1 (mT 4) mF0))) (ρ := [some c0, some ⟨0, dL G⟩, some ⟨1, dPs W⟩, some ⟨0, dI x⟩, none]) (ρ0 := [some c0, some ⟨0, dL G⟩, some ⟨1, dPs W⟩, some ⟨0, dI x⟩, none]) (g := dI) G (fun y => decide (y ≠ x)) (fun y => dP (x, y)) (iq1 (t0 (by rfl)) rfl (.inl rfl)) (by simp; omega) (fun y hy => by
      have e1 : ((y : Int) = (x : Int)) ↔ y = x := by omega
      simp [e1])
    have e5 : (G.filter fun y => decide (y ≠ x)).map (fun y => dP (x, y)) = (rowF G x).map dP := by simp [rowF]
    rw [e5] at c
    simp only [x_unwipe1, x_unwipe0, x_wipe1, x_wipe0, List.set_cons_succ, List.set_cons_zero, List.getElem?_cons_succ, List.getElem?_cons_zero, Nat.zero_add] at c
    have l3 : (rowF G x).length ≤ 100 := by
      unfold rowF
      rw [List.length_map]
      exact Nat.le_trans (List.length_filter_le _ _) hG
    refine wp_drop ⟨⟨false, 0, .none⟩, [some c0, some ⟨0, dL G⟩, some ⟨1, dPs (W ++ rowF G x)⟩, some ⟨0, dI x⟩, none], ?_, _, rfl⟩
    have l4 : W.length + (rowF G x).length ≤ 1000000 := by omega
    simp only [x_mMet, List.getElem?_cons_succ, List.getElem?_cons_zero, c, x_fExt, List.length_map, l4, if_true, Bool.true_or]
    simp [l4]
  · rintro ρ ⟨a, rfl⟩
    rw [List.length_map, List.take_length]
    exact ⟨rfl, a, rfl⟩

theorem ways_loop2 {G : List Nat} (hG : G.length ≤ 100) {b0 : B} {b1 b2 b3 b4 b5 b6 b8 b9 : Option B} {kg : Nat} (hk : kg ≤ 1) (a : Option B) : Wp (mFor (mIq (mT 7)) (bN 11) (mDrop (mMet 10 fExt (mLc 0 [16] (mIq (mT 7)) (bN 16) (mB (mBin fNe (mV 16) (mV 11))) (mTup (mF1 (mT 11) (mF1 (mT 16) mF0)))))) [some b0, b1, b2, b3, b4, b5, b6, some ⟨kg, dL G⟩, b8, b9, some ⟨1, dPs []⟩, a, none, none, none, none, none])
    fun fl ρ => fl = .nx ∧ ∃ a : Option B, ρ = [some b0, b1, b2, b3, b4, b5, b6, some ⟨0, dL G⟩, b8, b9, some ⟨1, dPs (waysF G G)⟩, a, none, none, none, none, none] := by
  refine wp_for (G.map dI) (fun i ρ => ∃ a : Option B, ρ = [some b0, b1, b2, b3, b4, b5, b6, some ⟨0, dL G⟩, b8, b9, some ⟨1, dPs (waysF G (G.take i))⟩, a, none, none, none, none, none]) ?_ ?_ ?_
  · exact ⟨G.map dI, [some b0, b1, b2, b3, b4, b5, b6, some ⟨0, dL G⟩, b8, b9, some ⟨1, dPs []⟩, a, none, none, none, none, none], iq1 (r := ⟨false, 0, dL G⟩) (by simp) rfl (.inl rfl), rfl, a, rfl⟩
  · rintro i d ρ hd ⟨a, rfl⟩
    obtain ⟨x, hx, rfl⟩ : ∃ x, G[i]? = some x ∧ d = dI x := by
      rw [List.getElem?_map] at hd
      cases e : G[i]? with
      | none => rw [e] at hd; cases hd
      | some p => rw [e] at hd; cases hd; exact ⟨p, rfl, rfl⟩
    have hlt : i < G.length := (List.getElem?_eq_some_iff.mp hx).1
    have tk : G.take (i + 1) = G.take i ++ [x] := by rw [List.take_succ, hx]; rfl
    have ll := waysF_len G (G.take i)
    rw [List.length_take, Nat.min_eq_left (by omega)] at ll
    have l2 : i * G.length ≤ 100 * 100 := Nat.mul_le_mul (by omega) hG
    have st : waysF G (G.take (i + 1)) = waysF G (G.take i) ++ rowF G x := by rw [tk, waysF_snoc]
    rw [st]
    generalize waysF G (G.take i) = W at *
    refine ⟨[some b0, b1, b2, b3, b4, b5, b6, some ⟨0, dL G⟩, b8, b9, some ⟨1, dPs W⟩, some ⟨0, dI x⟩, none, none, none, none, none], by simp, ?_⟩
    have c := lc_map2 (kk := 0) (vs := [16]) (mi := mIq (mT 7)) (b := bN 16) (mt := mB (mBin fNe (mV 16) (mV 11))) (me := mTup (mF1 (mT 11) (mF1 (mT 16) mF0))) (ρ := [some b0, b1, b2, b3, b4, b5, b6, some ⟨0, dL G⟩, b8, b9, some ⟨1, dPs W⟩, some ⟨0, dI x⟩, none, none, none, none, none]) (ρ0 := [some b0, b1, b2, b3, b4, b5, b6, some ⟨0, dL G⟩, b8, b9, some ⟨1, dPs W⟩, some ⟨0, dI x⟩, none, none, none, none, none]) (g := dI) G (fun y => decide (y ≠ x)) (fun y => dP (x, y)) (iq1 (t0 (by rfl)) rfl (.inl rfl)) (by simp; omega) (fun y hy => by
      have e1 : ((y : Int) = (x : Int)) ↔ y = x := by omega
      simp [e1])
    have e5 : (G.filter fun y => decide (y ≠ x)).map (fun y => dP (x, y)) = (rowF G x).map dP := by simp [rowF]
    rw [e5] at c
    simp only [x_unwipe1, x_unwipe0, x_wipe1, x_wipe0, List.set_cons_succ, List.set_cons_zero, List.getElem?_cons_succ, List.getElem?_cons_zero, Nat.zero_add] at c
    have l3 : (rowF G x).length ≤ 100 := by
      unfold rowF
      rw [List.length_map]
      exact Nat.le_trans (List.length_filter_le _ _) hG
    refine wp_drop ⟨⟨false, 0, .none⟩, [some b0, b1, b2, b3, b4, b5, b6, some ⟨0, dL G⟩, b8, b9, some ⟨1, dPs (W ++ rowF G x)⟩, some ⟨0, dI x⟩, none, none, none, none, none], ?_, _, rfl⟩
    have l4 : W.length + (rowF G x).length ≤ 1000000 := by omega
    simp only [x_mMet, List.getElem?_cons_succ, List.getElem?_cons_zero, c, x_fExt, List.length_map, l4, if_true, Bool.true_or]
    simp [l4]
  · rintro ρ ⟨a, rfl⟩
    rw [List.length_map, List.take_length]
    exact ⟨rfl, a, rfl⟩

theorem e_gates_in (few : L.length ≤ 100) : m_gates_in [⟨0, ctry L X⟩] = some (⟨true, 1, dL (gatesL L)⟩, [some ⟨0, ctry L X⟩]) := by
  have c := lc_map2 (kk := 0) (vs := [1, 2]) (mi := mIe (mUn (fAttr "Country" "own_ties") (mV 0))) (b := bT 2 (bs1 (bN 1) (bs1 (bN 2) bs0))) (mt := mB (mBin fEq (mUn fLen (mV 2)) (mC (.int 1)))) (me := mT 1) (ρ := [some ⟨0, ctry L X⟩, none, none]) (ρ0 := [some ⟨0, ctry L X⟩, none, none]) (g := fun p => PyData.tuple [dI p, dL (sn L p)]) (List.range (L.length + 1)) (fun p => decide ((nb L p).length = 1)) dI (by
      simp [-List.map_map, attr3, enum_ties]) (by simp; omega) (fun x hx => by
    have sl : (sn L x).length = (nb L x).length := sortN_len _
    simp [sl]
    try omega)
  apply Fp.eq
  unfold m_gates_in
  refine fp_fn (wp_ret ?_)
  simp only [List.map, List.replicate, List.append_eq, List.cons_append, List.nil_append]
  refine ⟨_, _, c, ?_⟩
  simp [gatesL]
theorem gates_len : (gatesL L).length ≤ L.length + 1 := by
  have := List.length_filter_le (fun p => decide ((nb L p).length = 1)) (List.range (L.length + 1))
  rw [List.length_range] at this
  exact this
abbrev waysG (L : List (Nat × Nat)) : List (Nat × Nat) := waysF (gatesL L) (gatesL L)
theorem e_gate_pairs (few : L.length ≤ 60) : m_gate_pairs [⟨0, ctry L X⟩] = some (⟨true, 1, dPs (waysG L)⟩, [some ⟨0, ctry L X⟩]) := by
  have gl := gates_len (L := L)
  apply Fp.eq
  unfold m_gate_pairs
  refine fp_fn (wp_seq (wp_set ?_))
  simp only [List.map, List.replicate, List.append_eq, List.cons_append, List.nil_append]
  have k : mCall 1 m_gates_in (mF1 (mT 0) mF0) [some ⟨0, ctry L X⟩, none, none, none, none] = some (⟨true, 1, dL (gatesL L)⟩, [some ⟨0, ctry L X⟩, none, none, none, none]) := call1 (ds := [ctry L X]) (f1 (t0 rfl) rfl f0) rfl rfl (e_gates_in (by omega))
  refine ⟨_, _, k, rfl, by simp, ?_⟩
  simp only [List.set_cons_succ, List.set_cons_zero]
  refine wp_seq (wp_set ⟨⟨true, 1, .list []⟩, _, by rfl, rfl, by simp, ?_⟩)
  simp only [List.set_cons_succ, List.set_cons_zero]
  refine wp_seq ((ways_loop1 (G := gatesL L) (by omega) (c0 := ⟨0, ctry L X⟩) (kg := 1) (Nat.le_refl _) none).mono ?_)
  rintro fl ρ ⟨rfl, a, rfl⟩
  simp only
  refine wp_ret ?_
  refine ⟨⟨true, 1, dPs (waysG L)⟩, [some ⟨0, ctry L X⟩, some ⟨0, dL (gatesL L)⟩, none, a, none], by simp, rfl, rfl, rfl⟩
theorem e_all_ways (few : L.length ≤ 60) : m_all_ways [⟨0, ctry L X⟩] = some (⟨true, 1, dPs (waysG L)⟩, [some ⟨0, ctry L X⟩]) := by
  have k1 : mCall 1 m_want_country (mF1 (mT 0) mF0) [some ⟨0, ctry L X⟩] = some (⟨false, 0, ctry L X⟩, [some ⟨0, ctry L X⟩]) := call1 (ds := [ctry L X]) (f1 (t0 rfl) rfl f0) rfl rfl e_want_country
  have k2 : mCall 1 m_gate_pairs (mF1 (mCall 1 m_want_country (mF1 (mT 0) mF0)) mF0) [some ⟨0, ctry L X⟩] = some (⟨true, 1, dPs (waysG L)⟩, [some ⟨0, ctry L X⟩]) := call1 (ds := [ctry L X]) (f1 k1 rfl f0) rfl rfl (e_gate_pairs few)
  apply Fp.eq
  unfold m_all_ways
  refine fp_fn (wp_ret ?_)
  simp only [List.map, List.replicate, List.append_eq, List.cons_append, List.nil_append]
  exact ⟨_, _, k2, rfl, rfl, rfl⟩
end K11

set_option Elab.async false
set_option linter.all false
set_option maxRecDepth 100000
namespace K11
open PySem L2 PySem.Spec Lk Tr
theorem e_pot (ns : List Int) : ∃ x y : Int, 0 ≤ x ∧ 0 ≤ y ∧ y < 2147483648 ∧ m__law_pot [⟨0, scrD ns⟩, ⟨0, .int 0⟩] = some (⟨true, 1, .list [.int x, .int y]⟩, [some ⟨0, scrD ns⟩, some ⟨0, .int 0⟩]) := by
  have c1 : CMul 709 0 := .inl (by decide)
  have c3 : CMul 9103 0 := .inl (by decide)
  have c4 : CPow 10 18 := ⟨by decide, by decide, by decide⟩
  have c2 : ∀ z : Int, CMul z 69621 := fun z => .inr (by decide)
  have main : ∀ c : Int, 0 ≤ c → ∃ x y : Int, 0 ≤ x ∧ 0 ≤ y ∧ y < 2147483648 ∧ Wp (mSeq (mSet 3 (mBin fAdd (mBin fMod (mUn fInt (mBin fAdd (mBin fAdd (mBin fMul (mBin fMod (mUn fInt (mV 2)) (mC (.int 2147483549))) (mC (.int 69621))) (mBin fMul (mC (.int 9103)) (mV 1))) (mC (.int 103)))) (mC (.int 2147483563))) (mC (.int 1)))) (mRet (mLst (mF1 (mBinS fMax2 (mC (.int 0)) (mBin fSub (mV 2) (mBin fPow (mC (.int 10)) (mC (.int 18))))) (mF1 (mT 3) mF0)))) [some ⟨0, scrD ns⟩, some ⟨0, .int 0⟩, some ⟨0, .int c⟩, none]) fun fl ρ => match fl with
      | .rt r => (r.fr || r.k == 0) = true ∧ r = ⟨true, 1, .list [.int x, .int y]⟩ ∧ outsOf 2 [0, 1] ρ = [some ⟨0, scrD ns⟩, some ⟨0, .int 0⟩]
      | .nx => False
      | _ => False := fun c hc => by
    have z0 := Int.emod_nonneg (c % 2147483549 * 69621 + 9103 * 0 + 103) (b := 2147483563) (by decide)
    have z1 := Int.emod_lt_of_pos (c % 2147483549 * 69621 + 9103 * 0 + 103) (b := 2147483563) (by decide)
    refine ⟨if 0 < c - 10 ^ 18 then c - 10 ^ 18 else 0, (c % 2147483549 * 69621 + 9103 * 0 + 103) % 2147483563 + 1, by split <;> omega, by omega, by omega, ?_⟩
    refine wp_seq (wp_set ?_)
    refine ⟨⟨true, 0, .int ((c % 2147483549 * 69621 + 9103 * 0 + 103) % 2147483563 + 1)⟩, [some ⟨0, scrD ns⟩, some ⟨0, .int 0⟩, some ⟨0, .int c⟩, none], by simp [c2, c3], rfl, by simp, ?_⟩
    simp only [List.set_cons_succ, List.set_cons_zero]
    refine wp_ret ?_
    refine ⟨⟨true, 1, .list [.int (if 0 < c - 10 ^ 18 then c - 10 ^ 18 else 0), .int ((c % 2147483549 * 69621 + 9103 * 0 + 103) % 2147483563 + 1)]⟩, [some ⟨0, scrD ns⟩, some ⟨0, .int 0⟩, some ⟨0, .int c⟩, some ⟨0, .int ((c % 2147483549 * 69621 + 9103 * 0 + 103) % 2147483563 + 1)⟩], ?_, rfl, rfl, by simp⟩
    simp [c4]
  have start : ∃ c : Int, 0 ≤ c ∧ mIf (mB (mBin fLt (mV 1) (mUn fLen (mV 0)))) (mUn fAbs (mIx (mV 0) (mV 1))) (mBin fAdd (mBin fMul (mC (.int 709)) (mV 1)) (mC (.int 313))) [some ⟨0, scrD ns⟩, some ⟨0, .int 0⟩, none, none] = some (⟨true, 0, .int c⟩, [some ⟨0, scrD ns⟩, some ⟨0, .int 0⟩, none, none]) := by
    cases ns with
    | nil => exact ⟨313, by decide, by simp [scrD, c1]⟩
    | cons z ns =>
      have hp : (0 : Int) < (ns.length : Int) + 1 := by omega
      have a0 : atI (.int z :: ns.map PyData.int) 0 = some (.int z) := by
        have : (0 : Int) < ((ns.length + 1 : Nat) : Int) := by omega
        simp [atI, ixN, hp]
      refine ⟨if z < 0 then -z else z, by split <;> omega, ?_⟩
      simp [scrD, hp, a0]
  obtain ⟨c, hc, e1⟩ := start
  obtain ⟨x, y, hx, hy, hy2, w⟩ := main c hc
  refine ⟨x, y, hx, hy, hy2, ?_⟩
  apply Fp.eq
  unfold m__law_pot
  refine fp_fn (wp_seq (wp_set ?_))
  simp only [List.map, List.replicate, List.append_eq, List.cons_append, List.nil_append]
  refine ⟨_, _, e1, rfl, by simp, ?_⟩
  simp only [List.set_cons_succ, List.set_cons_zero]
  refine w.mono fun fl ρ h => ?_
  cases fl with
  | rt r => exact h
  | nx => exact h.elim
  | bk => exact h
  | ct => exact h

section
variable {ρ ρ1 ρ2 : Sto}
theorem makeR1 {n : Nat} {c : Str} {g : Fn} {ms : M (List Lk.Arg)} {as : List Lk.Arg} {bs bs' : List B} {d : D} {fr : Bool} {k : Nat} {os : List (Option B)} (h1 : ms ρ = some (as, ρ1)) (h2 : pull as ρ1 = some (bs, ρ2)) (h3 : bs.length + 1 = n) (h0 : (⟨1, .dict [(.str clsKey, .str c)]⟩ : B) :: bs = bs') (h4 : g bs' = some (⟨fr, 0, .none⟩, some ⟨k + 1, d⟩ :: os)) : mMakeR n c g ms ρ = some (⟨false, 0, d⟩, push as os ρ2) := by
  unfold mMakeR
  rw [h1]
  simp only
  rw [h2]
  subst h0
  simp only [h3, if_true, h4]
theorem l0 : mL0 ρ = some ([], ρ) := rfl
theorem l1 {m : M R} {ms : M (List D)} {d : D} {ds : List D} (h : m ρ = some (⟨true, 1, d⟩, ρ1)) (hs : ms ρ1 = some (ds, ρ2)) : mL1 m ms ρ = some (d :: ds, ρ2) := by
  unfold mL1
  rw [h]
  simp only [hs]
theorem lst2 {ms : M (List D)} {ds : List D} (h : ms ρ = some (ds, ρ1)) (hl : ds.length ≤ lim) : mLst2 ms ρ = some (⟨true, 2, .list ds⟩, ρ1) := by
  unfold mLst2
  rw [h]
  simp only [hl, if_true]
theorem lst1 {ms : M (List D)} {ds : List D} (h : ms ρ = some (ds, ρ1)) (hl : ds.length ≤ lim) : mLst ms ρ = some (⟨true, 1, .list ds⟩, ρ1) := by
  unfold mLst
  rw [h]
  simp only [hl, if_true]
theorem cat2 {ma mb : M R} {ds es : List D} (ha : ma ρ = some (⟨true, 2, .list ds⟩, ρ1)) (hb : mb ρ1 = some (⟨true, 2, .list es⟩, ρ2)) (hl : ds.length + es.length ≤ lim) : mCat2 ma mb ρ = some (⟨true, 2, .list (ds ++ es)⟩, ρ2) := by
  unfold mCat2
  rw [ha]
  simp only
  rw [hb]
  simp only [hl, if_true]
theorem t1 {i : Nat} {b : B} (h : ρ[i]? = some (some b)) : mT i ρ = some (⟨false, 0, b.d⟩, ρ.set i (some ⟨0, b.d⟩)) := by
  simp [h]
theorem listsOf_map : ∀ {ess : List (List D)}, (∀ es ∈ ess, es.length < lim) → listsOf (ess.map .list) = some ess
  | [], _ => rfl
  | es :: ess, h => by
    have h1 := listsOf_map fun x hx => h x (List.mem_cons_of_mem _ hx)
    have h2 := h es List.mem_cons_self
    rw [List.map_cons]
    unfold listsOf
    rw [if_pos h2, h1]
theorem each1 {i j : Nat} {ess : List (List D)} (h : ρ[i]? = some (some ⟨2, .list (ess.map .list)⟩)) (hj : j < ρ.length) (hl : ∀ es ∈ ess, es.length < lim) : mEach i j ρ = some (.nx, (ρ.set j none).set i (some ⟨2, .list (ess.map fun es => .list (es ++ [.none]))⟩)) := by
  unfold mEach
  rw [h]
  simp only [hj, if_true, listsOf_map hl]
end
theorem minT {k : Nat} (p : Nat × Nat) : fMmT minOf k (dP p) = some (0, dI (mm p).1) := by
  have h : (if ((p.2 : Nat) : Int) ≤ ((p.1 : Nat) : Int) then ((p.2 : Nat) : Int) else ((p.1 : Nat) : Int)) = ((min p.1 p.2 : Nat) : Int) := by split <;> omega
  simp only [fMmT, intsOf, minOf, h, mm]
theorem maxT {k : Nat} (p : Nat × Nat) : fMmT maxOf k (dP p) = some (0, dI (mm p).2) := by
  have h : (if ((p.1 : Nat) : Int) ≤ ((p.2 : Nat) : Int) then ((p.2 : Nat) : Int) else ((p.1 : Nat) : Int)) = ((max p.1 p.2 : Nat) : Int) := by split <;> omega
  simp only [fMmT, intsOf, maxOf, h, mm]
variable {L : List (Nat × Nat)} {X : List D} {TT : TP} {b : B}
theorem ToldB.is (h : ToldB TT b) : IsTold TT b.d := by
  rcases h with rfl | rfl
  · exact .inr rfl
  · exact .inl rfl
theorem makeX (g : Good L) {T : TP} {d : D} (hd : IsTold T d) (pm : ((T.map (·.1)).map mm).Perm (L.map mm)) : ∃ X : List D, ∀ k : Nat, m_Country_init [⟨1, .dict [(.str clsKey, .str "Country")]⟩, ⟨k, d⟩] = some (⟨false, 0, .none⟩, [some ⟨1, ctry L X⟩, some ⟨k, d⟩]) := by
  obtain ⟨Fd, _, e⟩ := e_init hd rfl (good_perm g pm)
  refine ⟨aheads (T.map (·.1)).length Fd, fun k => ?_⟩
  have := e k
  rw [perm_ctry g pm] at this
  exact this
theorem makeP (g : Good L) : ∃ X : List D, m_Country_init [⟨1, .dict [(.str clsKey, .str "Country")]⟩, ⟨0, dPs L⟩] = some (⟨false, 0, .none⟩, [some ⟨1, ctry L X⟩, some ⟨0, dPs L⟩]) := by
  obtain ⟨X, h⟩ := makeX g (told_dPs L) (by rw [← told_fst L])
  exact ⟨X, h 0⟩
/-! ### texts -/
theorem shw_itm {x : (Nat × Nat) × Bool} (h : x.1.1 ≤ 1000 ∧ x.1.2 ≤ 1000) : Shw 1 24 (itm x) := by
  obtain ⟨p, c⟩ := x
  cases c with
  | true => exact shw_dP h
  | false =>
    refine shw_dL (l := [p.1, p.2]) fun y hy => ?_
    rcases List.mem_cons.mp hy with rfl | hy
    · exact h.1
    · rw [List.mem_singleton.mp hy]; exact h.2
theorem shw_told (g : Good L) (tb : ToldB TT b) (pm : ((TT.map (·.1)).map mm).Perm (L.map mm)) : Shw 2 700 b.d := by
  have few := g.few
  have gM := good_perm g pm
  have lT : TT.length = L.length := by have := perm_len pm; rwa [List.length_map] at this
  have hi : ∀ d ∈ TT.map itm, Shw 1 24 d := fun d hd => by
    obtain ⟨x, hx, rfl⟩ := List.mem_map.mp hd
    have := gM.le (List.mem_map_of_mem hx)
    rw [List.length_map, lT] at this
    exact shw_itm ⟨by omega, by omega⟩
  have w : (24 + 1) * (TT.map itm).length ≤ 700 := by rw [List.length_map, lT]; omega
  rcases tb with rfl | rfl
  · exact (shw_tuple hi).mono (Nat.le_refl _) w
  · exact (shw_list hi).mono (Nat.le_refl _) w
theorem shw_canon (g : Good L) : Shw 2 700 (dPs (canon L)) := by
  have few := g.few
  have cl := canon_len L
  refine (shw_dPs fun p hp => ?_).mono (Nat.le_refl _) (by rw [cl]; omega)
  have := (good_canon g).le hp
  rw [cl] at this
  omega
theorem shw_yards (g : Good L) : Shw 2 700 (dL (yardsL L)) := by
  have few := g.few
  have y7 := g.y7
  refine (shw_dL fun p hp => ?_).mono (by omega) (by omega)
  have := (mem_yards.mp hp).1
  omega
theorem shw_gates (g : Good L) : Shw 2 700 (dL (gatesL L)) := by
  have few := g.few
  have gl := gates_len (L := L)
  refine (shw_dL fun p hp => ?_).mono (by omega) (by omega)
  have := (mem_gates.mp hp).1
  omega
theorem sn_ok (g : Good L) {p : Nat} (hp : p ≤ L.length) : (sn L p).length ≤ 4 ∧ ∀ x ∈ sn L p, x ≤ 1000 := by
  have few := g.few
  refine ⟨by rw [sortN_len]; exact g.deg p hp, fun x hx => ?_⟩
  have := g.tree.le _ _ (g.tree.sym _ _ (mem_sn.mp hx))
  omega
theorem shw_sn (g : Good L) {p : Nat} (hp : p ≤ L.length) : Shw 2 700 (dL (sn L p)) := by
  have h := sn_ok g hp
  exact (shw_dL h.2).mono (by omega) (by omega)
def rowsL (L : List (Nat × Nat)) : List (List Nat) := (List.range (L.length + 1)).map fun p => sn L p
theorem shw_rows (g : Good L) : Shw 2 1500 (dLL (rowsL L)) := by
  have few := g.few
  refine (shw_dLL (k := 4) fun r hr => ?_).mono (Nat.le_refl _) (by simp [rowsL]; omega)
  obtain ⟨p, hp, rfl⟩ := List.mem_map.mp hr
  have := List.mem_range.mp hp
  exact sn_ok g (by omega)
theorem ways_len (g : Good L) : (waysG L).length ≤ 841 := by
  have few := g.few
  have gl := gates_len (L := L)
  have h := waysF_len (gatesL L) (gatesL L)
  have : (gatesL L).length * (gatesL L).length ≤ 29 * 29 := Nat.mul_le_mul (by omega) (by omega)
  show (waysF (gatesL L) (gatesL L)).length ≤ 841
  omega
theorem shw_ways (g : Good L) : Shw 2 21100 (dPs (waysG L)) := by
  have few := g.few
  have wl := ways_len g
  refine (shw_dPs fun p hp => ?_).mono (Nat.le_refl _) (by omega)
  obtain ⟨x, hx, hr⟩ := List.mem_flatMap.mp hp
  obtain ⟨y, hy, rfl⟩ := List.mem_map.mp hr
  have h1 := (mem_gates.mp hx).1
  have h2 := (mem_gates.mp (List.mem_filter.mp hy).1).1
  simp only
  omega
theorem shw_seen3 (g : Good L) : Shw 3 2200 (.list [dPs (canon L), dL (yardsL L), dL (gatesL L)]) := (shw_list (n := 2) (w := 700) (ds := [dPs (canon L), dL (yardsL L), dL (gatesL L)]) fun d hd => by
  rcases List.mem_cons.mp hd with rfl | hd
  · exact shw_canon g
  rcases List.mem_cons.mp hd with rfl | hd
  · exact shw_yards g
  rw [List.mem_singleton.mp hd]; exact shw_gates g).mono (by omega) (by simp)
theorem shw_seen4 (g : Good L) {p : Nat} (hp : p ≤ L.length) : Shw 3 3000 (.list [dPs (canon L), dL (yardsL L), dL (gatesL L), dL (sn L p)]) := (shw_list (n := 2) (w := 700) (ds := [dPs (canon L), dL (yardsL L), dL (gatesL L), dL (sn L p)]) fun d hd => by
  rcases List.mem_cons.mp hd with rfl | hd
  · exact shw_canon g
  rcases List.mem_cons.mp hd with rfl | hd
  · exact shw_yards g
  rcases List.mem_cons.mp hd with rfl | hd
  · exact shw_gates g
  rw [List.mem_singleton.mp hd]; exact shw_sn g hp).mono (by omega) (by simp)
/-! ### the country, asked -/
section
variable {σ : Sto}
theorem askL (h : σ[4]? = some (some ⟨0, ctry L X⟩)) : mProp "Country" m_Country_lanes (mT 4) σ = some (⟨true, 1, dPs (canon L)⟩, σ) := prop1 (t0 h) ⟨rfl, isOf_ctry⟩ e_lanes
theorem askY (g : Good L) (h : σ[4]? = some (some ⟨0, ctry L X⟩)) : mProp "Country" m_Country_yards (mT 4) σ = some (⟨true, 1, dL (yardsL L)⟩, σ) := prop1 (t0 h) ⟨rfl, isOf_ctry⟩ (e_yards (by have := g.few; omega))
theorem askG (g : Good L) (h : σ[4]? = some (some ⟨0, ctry L X⟩)) : mProp "Country" m_Country_gates (mT 4) σ = some (⟨true, 1, dL (gatesL L)⟩, σ) := prop1 (t0 h) ⟨rfl, isOf_ctry⟩ (e_gates (by have := g.few; omega))
theorem askN {ms : M (List D)} {p : Nat} {σ1 : Sto} (h : σ[4]? = some (some ⟨0, ctry L X⟩)) (hp : p ≤ L.length) (hm : ms σ = some ([dI p], σ1)) : mMeth 2 "Country" "neighbours" m_Country_neighbours (mT 4) ms σ = some (⟨true, 1, dL (sn L p)⟩, σ1) := meth1 (t0 h) ⟨rfl, isOf_ctry, noAttr_ctry⟩ hm rfl rfl (e_neighbours hp)
theorem eq_list (ng : Bool) (ka kb : Nat) (l : List D) : fEqI ng "Country" [] m_Country_eq ka (ctry L X) kb (.list l) = some (0, .bool ng) := by
  have h1 : okR "Country" [] (PyData.list l) = true := by simp [okR, tyN]
  have h2 : isOf "Country" (PyData.list l) = false := rfl
  have h3 : fIsiA "Country" [] 0 (PyData.list l) = some (0, .bool false) := by simp [fIsiA, h1, h2]
  have h4 : m_Country_eq [⟨0, ctry L X⟩, ⟨0, .list l⟩] = some (⟨false, 0, .bool false⟩, [some ⟨0, ctry L X⟩, some ⟨0, .list l⟩]) := by simp [m_Country_eq, h3]
  unfold fEqI
  rw [isOf_ctry, h1, h4]
  cases ng <;> simp
theorem eq_same (ng : Bool) (ka kb : Nat) {M N : List (Nat × Nat)} {X Y : List D} (h : canon M = canon N) : fEqI ng "Country" [] m_Country_eq ka (ctry M X) kb (ctry N Y) = some (0, .bool (!ng)) := by
  rw [fEqI_ctry, h]
  cases ng <;> simp
theorem eq_not (ng : Bool) (ka kb : Nat) {M N : List (Nat × Nat)} {X Y : List D} (h : canon M ≠ canon N) : fEqI ng "Country" [] m_Country_eq ka (ctry M X) kb (ctry N Y) = some (0, .bool ng) := by
  rw [fEqI_ctry, decide_eq_false h]
  cases ng <;> simp
end
end K11

set_option Elab.async false
set_option linter.all false
set_option maxRecDepth 100000
namespace K11
open PySem L2 PySem.Spec Lk Tr
section
theorem binS1 {ρ ρ1 ρ2 : Sto} {f : Op2} {ma mb : M R} {ra rb : R} {k : Nat} {d : D} (ha : ma ρ = some (ra, ρ1)) (hr : (ra.fr || ra.k == 0) = true) (hb : mb ρ1 = some (rb, ρ2)) (hf : f 0 ra.d rb.k rb.d = some (k, d)) : mBinS f ma mb ρ = some (⟨true, k, d⟩, ρ2) := by
  unfold mBinS
  simp only [ha, hr, if_true, hb, hf]
variable {L : List (Nat × Nat)} {X : List D} {TT : TP} {b : B} {x2 x9 a : Option B} {P : B}
theorem w4 (g : Good L) : (mUn fSorted (mLc 0 [14] (mIq (mT 1)) (bN 14) mYes (mTup (mF1 (mUn (fMmT minOf) (mV 14)) (mF1 (mUn (fMmT maxOf) (mV 14)) mF0))))) [some P, some ⟨0, dPs L⟩, some b, some ⟨0, .str b.d.shown⟩, some ⟨0, ctry L X⟩, none, none, none, none, none, none, none, none, none, none, none, none] = some (⟨true, 1, dPs (canon L)⟩, [some P, some ⟨0, dPs L⟩, some b, some ⟨0, .str b.d.shown⟩, some ⟨0, ctry L X⟩, none, none, none, none, none, none, none, none, none, none, none, none]) := by
  have few := g.few
  have c := lc_all2 (kk := 0) (vs := [14]) (mi := mIq (mT 1)) (b := bN 14) (me := mTup (mF1 (mUn (fMmT minOf) (mV 14)) (mF1 (mUn (fMmT maxOf) (mV 14)) mF0))) (ρ := [some P, some ⟨0, dPs L⟩, some b, some ⟨0, .str b.d.shown⟩, some ⟨0, ctry L X⟩, none, none, none, none, none, none, none, none, none, none, none, none]) (ρ0 := [some P, some ⟨0, dPs L⟩, some b, some ⟨0, .str b.d.shown⟩, some ⟨0, ctry L X⟩, none, none, none, none, none, none, none, none, none, none, none, none]) (g := dP) L (fun e => dP (mm e)) (iq1 (r := ⟨false, 0, dPs L⟩) (by simp) rfl (.inl rfl)) (by simp; omega) (fun e he => by
    have h1 := minT (k := 0) e
    have h2 := maxT (k := 0) e
    simp [h1, h2])
  have e5 : L.map (fun e => dP (mm e)) = (L.map mm).map dP := by simp
  rw [e5] at c
  simp only [x_unwipe1, x_unwipe0, x_wipe1, x_wipe0, List.set_cons_succ, List.set_cons_zero, List.getElem?_cons_succ, List.getElem?_cons_zero, Nat.zero_add] at c
  have s := fSorted_dPs (k := 1) (l := L.map mm) (Nat.le_refl _) (by simp; omega)
  exact un1 c s
theorem w6 (g : Good L) : (mLc 0 [15] (mR1 (mBin fAdd (mUn fLen (mV 1)) (mC (.int 1)))) (bN 15) mYes (mCall 2 m__law_beside (mF1 (mT 1) (mF1 (mT 15) mF0)))) [some P, some ⟨0, dPs L⟩, some b, some ⟨0, .str b.d.shown⟩, some ⟨0, ctry L X⟩, some ⟨1, dPs (canon L)⟩, some ⟨1, dL (yardsL L)⟩, some ⟨1, dL (gatesL L)⟩, none, none, none, none, none, none, none, none, none] = some (⟨true, 1, dLL (rowsL L)⟩, [some P, some ⟨0, dPs L⟩, some b, some ⟨0, .str b.d.shown⟩, some ⟨0, ctry L X⟩, some ⟨1, dPs (canon L)⟩, some ⟨1, dL (yardsL L)⟩, some ⟨1, dL (gatesL L)⟩, none, none, none, none, none, none, none, none, none]) := by
  have few := g.few
  have c := lc_all2 (kk := 0) (vs := [15]) (mi := mR1 (mBin fAdd (mUn fLen (mV 1)) (mC (.int 1)))) (b := bN 15) (me := mCall 2 m__law_beside (mF1 (mT 1) (mF1 (mT 15) mF0))) (ρ := [some P, some ⟨0, dPs L⟩, some b, some ⟨0, .str b.d.shown⟩, some ⟨0, ctry L X⟩, some ⟨1, dPs (canon L)⟩, some ⟨1, dL (yardsL L)⟩, some ⟨1, dL (gatesL L)⟩, none, none, none, none, none, none, none, none, none]) (ρ0 := [some P, some ⟨0, dPs L⟩, some b, some ⟨0, .str b.d.shown⟩, some ⟨0, ctry L X⟩, some ⟨1, dPs (canon L)⟩, some ⟨1, dL (yardsL L)⟩, some ⟨1, dL (gatesL L)⟩, none, none, none, none, none, none, none, none, none]) (g := fun i : Nat => PyData.int (i : Int)) (List.range (L.length + 1)) (fun p => dL (sn L p)) (by
      have e : ((L.length : Int) + 1).toNat = L.length + 1 := by omega
      have b1 : (-1000000000 : Int) ≤ (L.length : Int) + 1 ∧ (L.length : Int) + 1 ≤ 1000000000 := by omega
      simp [e, dInts_nat, b1]) (by simp; omega) (fun x hx => by
    have k : mCall 2 m__law_beside (mF1 (mT 1) (mF1 (mT 15) mF0)) [some P, some ⟨0, dPs L⟩, some b, some ⟨0, .str b.d.shown⟩, some ⟨0, ctry L X⟩, some ⟨1, dPs (canon L)⟩, some ⟨1, dL (yardsL L)⟩, some ⟨1, dL (gatesL L)⟩, none, none, none, none, none, none, none, some ⟨0, dI x⟩, none] = some (⟨true, 1, dL (sn L x)⟩, [some P, some ⟨0, dPs L⟩, some b, some ⟨0, .str b.d.shown⟩, some ⟨0, ctry L X⟩, some ⟨1, dPs (canon L)⟩, some ⟨1, dL (yardsL L)⟩, some ⟨1, dL (gatesL L)⟩, none, none, none, none, none, none, none, some ⟨0, dI x⟩, none]) := call1 (ds := [dPs L, dI x]) (f1 (t0 (by rfl)) rfl (f1 (t0 (by rfl)) rfl f0)) rfl rfl (e_law_beside L x (by omega))
    simp [-x_mCall, k])
  have e5 : (List.range (L.length + 1)).map (fun p => dL (sn L p)) = (rowsL L).map dL := by simp [rowsL]
  rw [e5] at c
  simp only [x_unwipe1, x_unwipe0, x_wipe1, x_wipe0, List.set_cons_succ, List.set_cons_zero, List.getElem?_cons_succ, List.getElem?_cons_zero, Nat.zero_add] at c
  exact c
theorem w7 (g : Good L) : (mLst2 (mL1 (mProp "Country" m_Country_lanes (mT 4)) (mL1 (mProp "Country" m_Country_yards (mT 4)) (mL1 (mProp "Country" m_Country_gates (mT 4)) mL0)))) [some P, some ⟨0, dPs L⟩, some b, some ⟨0, .str b.d.shown⟩, some ⟨0, ctry L X⟩, some ⟨1, dPs (canon L)⟩, some ⟨1, dL (yardsL L)⟩, some ⟨1, dL (gatesL L)⟩, some ⟨1, dLL (rowsL L)⟩, none, none, none, none, none, none, none, none] = some (⟨true, 2, .list [dPs (canon L), dL (yardsL L), dL (gatesL L)]⟩, [some P, some ⟨0, dPs L⟩, some b, some ⟨0, .str b.d.shown⟩, some ⟨0, ctry L X⟩, some ⟨1, dPs (canon L)⟩, some ⟨1, dL (yardsL L)⟩, some ⟨1, dL (gatesL L)⟩, some ⟨1, dLL (rowsL L)⟩, none, none, none, none, none, none, none, none]) :=
  lst2 (l1 (askL (by rfl)) (l1 (askY g (by rfl)) (l1 (askG g (by rfl)) l0))) (show 3 ≤ 1000000 by decide)
theorem w8 (g : Good L) (tb : ToldB TT b) (pm : ((TT.map (·.1)).map mm).Perm (L.map mm)) : (mOrT (mB (mBin fNe (mUn fRepr (mV 9)) (mUn fRepr (mLst (mF1 (mT 5) (mF1 (mT 6) (mF1 (mT 7) mF0))))))) (mB (mBin fNe (mUn fRepr (mV 2)) (mV 3)))) [some P, some ⟨0, dPs L⟩, some b, some ⟨0, .str b.d.shown⟩, some ⟨0, ctry L X⟩, some ⟨1, dPs (canon L)⟩, some ⟨1, dL (yardsL L)⟩, some ⟨1, dL (gatesL L)⟩, some ⟨1, dLL (rowsL L)⟩, some ⟨2, .list [dPs (canon L), dL (yardsL L), dL (gatesL L)]⟩, none, none, none, none, none, none, none] = some (false, [some P, some ⟨0, dPs L⟩, some b, some ⟨0, .str b.d.shown⟩, some ⟨0, ctry L X⟩, some ⟨0, dPs (canon L)⟩, some ⟨0, dL (yardsL L)⟩, some ⟨0, dL (gatesL L)⟩, some ⟨1, dLL (rowsL L)⟩, some ⟨2, .list [dPs (canon L), dL (yardsL L), dL (gatesL L)]⟩, none, none, none, none, none, none, none]) := by
  have s3 := shw_seen3 g
  have sb := shw_told g tb pm
  have r1 := shw_repr (k := 2) s3 (by omega) (by omega)
  have r2 := shw_repr (k := 1) s3 (by omega) (by omega)
  have r3 := shw_repr (k := b.k) sb (by omega) (by omega)
  have n1 := shw_ne (ka := 0) (kb := 0) s3
  have n2 := shw_ne (ka := 0) (kb := 0) sb
  have h1 : mLst (mF1 (mT 5) (mF1 (mT 6) (mF1 (mT 7) mF0))) [some P, some ⟨0, dPs L⟩, some b, some ⟨0, .str b.d.shown⟩, some ⟨0, ctry L X⟩, some ⟨1, dPs (canon L)⟩, some ⟨1, dL (yardsL L)⟩, some ⟨1, dL (gatesL L)⟩, some ⟨1, dLL (rowsL L)⟩, some ⟨2, .list [dPs (canon L), dL (yardsL L), dL (gatesL L)]⟩, none, none, none, none, none, none, none] = some (⟨true, 1, .list [dPs (canon L), dL (yardsL L), dL (gatesL L)]⟩, [some P, some ⟨0, dPs L⟩, some b, some ⟨0, .str b.d.shown⟩, some ⟨0, ctry L X⟩, some ⟨0, dPs (canon L)⟩, some ⟨0, dL (yardsL L)⟩, some ⟨0, dL (gatesL L)⟩, some ⟨1, dLL (rowsL L)⟩, some ⟨2, .list [dPs (canon L), dL (yardsL L), dL (gatesL L)]⟩, none, none, none, none, none, none, none]) := by simp
  exact or_f (b1 (bin1 (un1 (v1 (by rfl)) r1) (un1 h1 r2) n1)) (b1 (bin1 (un1 (v1 (by rfl)) r3) (v1 (by rfl)) n2))
theorem w9 (g : Good L) : (mB (mBin fNe (mUn fRepr (mLc 0 [15] (mR1 (mUn fLen (mV 8))) (bN 15) mYes (mMeth 2 "Country" "neighbours" m_Country_neighbours (mT 4) (mF1 (mT 15) mF0)))) (mUn fRepr (mV 8)))) [some P, some ⟨0, dPs L⟩, some b, some ⟨0, .str b.d.shown⟩, some ⟨0, ctry L X⟩, some ⟨0, dPs (canon L)⟩, some ⟨0, dL (yardsL L)⟩, some ⟨0, dL (gatesL L)⟩, some ⟨1, dLL (rowsL L)⟩, some ⟨2, .list [dPs (canon L), dL (yardsL L), dL (gatesL L)]⟩, none, none, none, none, none, none, none] = some (false, [some P, some ⟨0, dPs L⟩, some b, some ⟨0, .str b.d.shown⟩, some ⟨0, ctry L X⟩, some ⟨0, dPs (canon L)⟩, some ⟨0, dL (yardsL L)⟩, some ⟨0, dL (gatesL L)⟩, some ⟨1, dLL (rowsL L)⟩, some ⟨2, .list [dPs (canon L), dL (yardsL L), dL (gatesL L)]⟩, none, none, none, none, none, none, none]) := by
  have few := g.few
  have rl : (rowsL L).length = L.length + 1 := by simp [rowsL]
  have sr := shw_rows g
  have r1 := shw_repr (k := 1) sr (by omega) (by omega)
  have n1 := shw_ne (ka := 0) (kb := 0) sr
  have c := lc_all2 (kk := 0) (vs := [15]) (mi := mR1 (mUn fLen (mV 8))) (b := bN 15) (me := mMeth 2 "Country" "neighbours" m_Country_neighbours (mT 4) (mF1 (mT 15) mF0)) (ρ := [some P, some ⟨0, dPs L⟩, some b, some ⟨0, .str b.d.shown⟩, some ⟨0, ctry L X⟩, some ⟨0, dPs (canon L)⟩, some ⟨0, dL (yardsL L)⟩, some ⟨0, dL (gatesL L)⟩, some ⟨1, dLL (rowsL L)⟩, some ⟨2, .list [dPs (canon L), dL (yardsL L), dL (gatesL L)]⟩, none, none, none, none, none, none, none]) (ρ0 := [some P, some ⟨0, dPs L⟩, some b, some ⟨0, .str b.d.shown⟩, some ⟨0, ctry L X⟩, some ⟨0, dPs (canon L)⟩, some ⟨0, dL (yardsL L)⟩, some ⟨0, dL (gatesL L)⟩, some ⟨1, dLL (rowsL L)⟩, some ⟨2, .list [dPs (canon L), dL (yardsL L), dL (gatesL L)]⟩, none, none, none, none, none, none, none]) (g := fun i : Nat => PyData.int (i : Int)) (List.range (L.length + 1)) (fun p => dL (sn L p)) (by
      have e : ((L.length : Int) + 1).toNat = L.length + 1 := by omega
      have b1 : (-1000000000 : Int) ≤ (L.length : Int) + 1 ∧ (L.length : Int) + 1 ≤ 1000000000 := by omega
      simp [e, dInts_nat, b1, rl]) (by simp; omega) (fun x hx => by
    have xl : x ≤ L.length := by have := List.mem_range.mp hx; omega
    have k : mMeth 2 "Country" "neighbours" m_Country_neighbours (mT 4) (mF1 (mT 15) mF0) [some P, some ⟨0, dPs L⟩, some b, some ⟨0, .str b.d.shown⟩, some ⟨0, ctry L X⟩, some ⟨0, dPs (canon L)⟩, some ⟨0, dL (yardsL L)⟩, some ⟨0, dL (gatesL L)⟩, some ⟨1, dLL (rowsL L)⟩, some ⟨2, .list [dPs (canon L), dL (yardsL L), dL (gatesL L)]⟩, none, none, none, none, none, some ⟨0, dI x⟩, none] = some (⟨true, 1, dL (sn L x)⟩, [some P, some ⟨0, dPs L⟩, some b, some ⟨0, .str b.d.shown⟩, some ⟨0, ctry L X⟩, some ⟨0, dPs (canon L)⟩, some ⟨0, dL (yardsL L)⟩, some ⟨0, dL (gatesL L)⟩, some ⟨1, dLL (rowsL L)⟩, some ⟨2, .list [dPs (canon L), dL (yardsL L), dL (gatesL L)]⟩, none, none, none, none, none, some ⟨0, dI x⟩, none]) := askN (by rfl) xl (f1 (t0 (by rfl)) rfl f0)
    simp [k])
  have e5 : (List.range (L.length + 1)).map (fun p => dL (sn L p)) = (rowsL L).map dL := by simp [rowsL]
  rw [e5] at c
  simp only [x_unwipe1, x_unwipe0, x_wipe1, x_wipe0, List.set_cons_succ, List.set_cons_zero, List.getElem?_cons_succ, List.getElem?_cons_zero, Nat.zero_add] at c
  exact b1 (bin1 (un1 c r1) (un1 (v1 (by rfl)) r1) n1)
theorem w12 (g : Good L) : (mOrT (mB (mBin fNe (mCall 1 m_all_ways (mF1 (mT 4) mF0)) (mV 10))) (mB (mBin fNe (mUn fRepr (mCallK 1 [0] m_all_ways mF0 (mF1 (mT 4) mF0))) (mUn fRepr (mV 10))))) [some P, some ⟨0, dPs L⟩, some b, some ⟨0, .str b.d.shown⟩, some ⟨0, ctry L X⟩, some ⟨0, dPs (canon L)⟩, some ⟨0, dL (yardsL L)⟩, some ⟨0, dL (gatesL L)⟩, some ⟨1, dLL (rowsL L)⟩, some ⟨2, .list [dPs (canon L), dL (yardsL L), dL (gatesL L)]⟩, some ⟨1, dPs (waysG L)⟩, a, none, none, none, none, none] = some (false, [some P, some ⟨0, dPs L⟩, some b, some ⟨0, .str b.d.shown⟩, some ⟨0, ctry L X⟩, some ⟨0, dPs (canon L)⟩, some ⟨0, dL (yardsL L)⟩, some ⟨0, dL (gatesL L)⟩, some ⟨1, dLL (rowsL L)⟩, some ⟨2, .list [dPs (canon L), dL (yardsL L), dL (gatesL L)]⟩, some ⟨1, dPs (waysG L)⟩, a, none, none, none, none, none]) := by
  have few := g.few
  have sw := shw_ways g
  have r1 := shw_repr (k := 1) sw (by omega) (by omega)
  have n1 := shw_ne (ka := 0) (kb := 0) sw
  have nz : fNe 1 (dPs (waysG L)) 1 (dPs (waysG L)) = some (0, .bool false) := by rw [fNe_dPs]; simp
  have k1 : mCall 1 m_all_ways (mF1 (mT 4) mF0) [some P, some ⟨0, dPs L⟩, some b, some ⟨0, .str b.d.shown⟩, some ⟨0, ctry L X⟩, some ⟨0, dPs (canon L)⟩, some ⟨0, dL (yardsL L)⟩, some ⟨0, dL (gatesL L)⟩, some ⟨1, dLL (rowsL L)⟩, some ⟨2, .list [dPs (canon L), dL (yardsL L), dL (gatesL L)]⟩, some ⟨1, dPs (waysG L)⟩, a, none, none, none, none, none] = some (⟨true, 1, dPs (waysG L)⟩, [some P, some ⟨0, dPs L⟩, some b, some ⟨0, .str b.d.shown⟩, some ⟨0, ctry L X⟩, some ⟨0, dPs (canon L)⟩, some ⟨0, dL (yardsL L)⟩, some ⟨0, dL (gatesL L)⟩, some ⟨1, dLL (rowsL L)⟩, some ⟨2, .list [dPs (canon L), dL (yardsL L), dL (gatesL L)]⟩, some ⟨1, dPs (waysG L)⟩, a, none, none, none, none, none]) := call1 (ds := [ctry L X]) (f1 (t0 (by rfl)) rfl f0) rfl rfl (e_all_ways (by omega))
  have k2 : mCallK 1 [0] m_all_ways mF0 (mF1 (mT 4) mF0) [some P, some ⟨0, dPs L⟩, some b, some ⟨0, .str b.d.shown⟩, some ⟨0, ctry L X⟩, some ⟨0, dPs (canon L)⟩, some ⟨0, dL (yardsL L)⟩, some ⟨0, dL (gatesL L)⟩, some ⟨1, dLL (rowsL L)⟩, some ⟨2, .list [dPs (canon L), dL (yardsL L), dL (gatesL L)]⟩, some ⟨1, dPs (waysG L)⟩, a, none, none, none, none, none] = some (⟨true, 1, dPs (waysG L)⟩, [some P, some ⟨0, dPs L⟩, some b, some ⟨0, .str b.d.shown⟩, some ⟨0, ctry L X⟩, some ⟨0, dPs (canon L)⟩, some ⟨0, dL (yardsL L)⟩, some ⟨0, dL (gatesL L)⟩, some ⟨1, dLL (rowsL L)⟩, some ⟨2, .list [dPs (canon L), dL (yardsL L), dL (gatesL L)]⟩, some ⟨1, dPs (waysG L)⟩, a, none, none, none, none, none]) := callK1 (ds := []) (es := [ctry L X]) rfl (f1 (t0 (by rfl)) rfl f0) ⟨rfl, rfl⟩ rfl (e_all_ways (by omega))
  exact or_f (b1 (bin1 k1 (v1 (by rfl)) nz)) (b1 (bin1 (un1 k2 r1) (un1 (v1 (by rfl)) r1) n1))
theorem w13 (g : Good L) {x0 : Nat} (hx : x0 ≤ L.length) (h0 : atI ((gatesL L).map dI) 0 = some (dI x0)) : (mCat2 (mM 9) (mLst2 (mL1 (mMeth 2 "Country" "neighbours" m_Country_neighbours (mT 4) (mF1 (mIx (mV 7) (mC (.int 0))) mF0)) (mL1 (mCall 1 m_all_ways (mF1 (mT 4) mF0)) mL0)))) [some P, some ⟨0, dPs L⟩, some b, some ⟨0, .str b.d.shown⟩, some ⟨0, ctry L X⟩, some ⟨0, dPs (canon L)⟩, some ⟨0, dL (yardsL L)⟩, some ⟨0, dL (gatesL L)⟩, some ⟨1, dLL (rowsL L)⟩, some ⟨2, .list [dPs (canon L), dL (yardsL L), dL (gatesL L)]⟩, some ⟨1, dPs (waysG L)⟩, a, none, none, none, none, none] = some (⟨true, 2, .list [dPs (canon L), dL (yardsL L), dL (gatesL L), dL (sn L x0), dPs (waysG L)]⟩, [some P, some ⟨0, dPs L⟩, some b, some ⟨0, .str b.d.shown⟩, some ⟨0, ctry L X⟩, some ⟨0, dPs (canon L)⟩, some ⟨0, dL (yardsL L)⟩, some ⟨0, dL (gatesL L)⟩, some ⟨1, dLL (rowsL L)⟩, none, some ⟨1, dPs (waysG L)⟩, a, none, none, none, none, none]) := by
  have few := g.few
  have h1 : mM 9 [some P, some ⟨0, dPs L⟩, some b, some ⟨0, .str b.d.shown⟩, some ⟨0, ctry L X⟩, some ⟨0, dPs (canon L)⟩, some ⟨0, dL (yardsL L)⟩, some ⟨0, dL (gatesL L)⟩, some ⟨1, dLL (rowsL L)⟩, some ⟨2, .list [dPs (canon L), dL (yardsL L), dL (gatesL L)]⟩, some ⟨1, dPs (waysG L)⟩, a, none, none, none, none, none] = some (⟨true, 2, .list [dPs (canon L), dL (yardsL L), dL (gatesL L)]⟩, [some P, some ⟨0, dPs L⟩, some b, some ⟨0, .str b.d.shown⟩, some ⟨0, ctry L X⟩, some ⟨0, dPs (canon L)⟩, some ⟨0, dL (yardsL L)⟩, some ⟨0, dL (gatesL L)⟩, some ⟨1, dLL (rowsL L)⟩, none, some ⟨1, dPs (waysG L)⟩, a, none, none, none, none, none]) := by simp
  obtain ⟨fr, i1⟩ : ∃ fr, mIx (mV 7) (mC (.int 0)) [some P, some ⟨0, dPs L⟩, some b, some ⟨0, .str b.d.shown⟩, some ⟨0, ctry L X⟩, some ⟨0, dPs (canon L)⟩, some ⟨0, dL (yardsL L)⟩, some ⟨0, dL (gatesL L)⟩, some ⟨1, dLL (rowsL L)⟩, none, some ⟨1, dPs (waysG L)⟩, a, none, none, none, none, none] = some (⟨fr, 0, dI x0⟩, [some P, some ⟨0, dPs L⟩, some b, some ⟨0, .str b.d.shown⟩, some ⟨0, ctry L X⟩, some ⟨0, dPs (canon L)⟩, some ⟨0, dL (yardsL L)⟩, some ⟨0, dL (gatesL L)⟩, some ⟨1, dLL (rowsL L)⟩, none, some ⟨1, dPs (waysG L)⟩, a, none, none, none, none, none]) := ix1 (v1 (by rfl)) (c1 (.int 0)) (by simp [h0]) (by simp)
  have k1 : mMeth 2 "Country" "neighbours" m_Country_neighbours (mT 4) (mF1 (mIx (mV 7) (mC (.int 0))) mF0) [some P, some ⟨0, dPs L⟩, some b, some ⟨0, .str b.d.shown⟩, some ⟨0, ctry L X⟩, some ⟨0, dPs (canon L)⟩, some ⟨0, dL (yardsL L)⟩, some ⟨0, dL (gatesL L)⟩, some ⟨1, dLL (rowsL L)⟩, none, some ⟨1, dPs (waysG L)⟩, a, none, none, none, none, none] = some (⟨true, 1, dL (sn L x0)⟩, [some P, some ⟨0, dPs L⟩, some b, some ⟨0, .str b.d.shown⟩, some ⟨0, ctry L X⟩, some ⟨0, dPs (canon L)⟩, some ⟨0, dL (yardsL L)⟩, some ⟨0, dL (gatesL L)⟩, some ⟨1, dLL (rowsL L)⟩, none, some ⟨1, dPs (waysG L)⟩, a, none, none, none, none, none]) := askN (by rfl) hx (f1 i1 (by simp) f0)
  have k2 : mCall 1 m_all_ways (mF1 (mT 4) mF0) [some P, some ⟨0, dPs L⟩, some b, some ⟨0, .str b.d.shown⟩, some ⟨0, ctry L X⟩, some ⟨0, dPs (canon L)⟩, some ⟨0, dL (yardsL L)⟩, some ⟨0, dL (gatesL L)⟩, some ⟨1, dLL (rowsL L)⟩, none, some ⟨1, dPs (waysG L)⟩, a, none, none, none, none, none] = some (⟨true, 1, dPs (waysG L)⟩, [some P, some ⟨0, dPs L⟩, some b, some ⟨0, .str b.d.shown⟩, some ⟨0, ctry L X⟩, some ⟨0, dPs (canon L)⟩, some ⟨0, dL (yardsL L)⟩, some ⟨0, dL (gatesL L)⟩, some ⟨1, dLL (rowsL L)⟩, none, some ⟨1, dPs (waysG L)⟩, a, none, none, none, none, none]) := call1 (ds := [ctry L X]) (f1 (t0 (by rfl)) rfl f0) rfl rfl (e_all_ways (by omega))
  exact cat2 h1 (lst2 (l1 k1 (l1 k2 l0)) (show 2 ≤ 1000000 by decide)) (show 3 + 2 ≤ 1000000 by decide)
theorem w14 (g : Good L) {x0 : Nat} (hx : x0 ≤ L.length) : ∃ x9 : Option B, mEach 9 12 [some P, some ⟨0, dPs L⟩, some b, some ⟨0, .str b.d.shown⟩, some ⟨0, ctry L X⟩, some ⟨0, dPs (canon L)⟩, some ⟨0, dL (yardsL L)⟩, some ⟨0, dL (gatesL L)⟩, some ⟨1, dLL (rowsL L)⟩, some ⟨2, .list [dPs (canon L), dL (yardsL L), dL (gatesL L), dL (sn L x0), dPs (waysG L)]⟩, some ⟨1, dPs (waysG L)⟩, a, none, none, none, none, none] = some (.nx, [some P, some ⟨0, dPs L⟩, some b, some ⟨0, .str b.d.shown⟩, some ⟨0, ctry L X⟩, some ⟨0, dPs (canon L)⟩, some ⟨0, dL (yardsL L)⟩, some ⟨0, dL (gatesL L)⟩, some ⟨1, dLL (rowsL L)⟩, x9, some ⟨1, dPs (waysG L)⟩, a, none, none, none, none, none]) := by
  have few := g.few
  have cl := canon_len L
  have gl := gates_len (L := L)
  have y7 := g.y7
  have wl := ways_len g
  have sl := (sn_ok g hx).1
  have h := each1 (ρ := [some P, some ⟨0, dPs L⟩, some b, some ⟨0, .str b.d.shown⟩, some ⟨0, ctry L X⟩, some ⟨0, dPs (canon L)⟩, some ⟨0, dL (yardsL L)⟩, some ⟨0, dL (gatesL L)⟩, some ⟨1, dLL (rowsL L)⟩, some ⟨2, .list [dPs (canon L), dL (yardsL L), dL (gatesL L), dL (sn L x0), dPs (waysG L)]⟩, some ⟨1, dPs (waysG L)⟩, a, none, none, none, none, none]) (i := 9) (j := 12) (ess := [(canon L).map dP, (yardsL L).map dI, (gatesL L).map dI, (sn L x0).map dI, (waysG L).map dP]) rfl (show 12 < 17 by decide) (fun es he => by
    show es.length < 1000000
    simp only [List.mem_cons, List.not_mem_nil, or_false] at he
    rcases he with rfl | rfl | rfl | rfl | rfl <;> rw [List.length_map] <;> omega)
  exact ⟨_, h⟩
theorem w15 (g : Good L) (tb : ToldB TT b) (pm : ((TT.map (·.1)).map mm).Perm (L.map mm)) : ∃ x2 : Option B, (mCond (mB (mUn (fIsi ["list"]) (mV 2))) (mDrop (mMet 2 fApp (mTup (mF1 (mC (.int 0)) (mF1 (mC (.int 99)) mF0))))) mNx) [some P, some ⟨0, dPs L⟩, some b, some ⟨0, .str b.d.shown⟩, some ⟨0, ctry L X⟩, some ⟨0, dPs (canon L)⟩, some ⟨0, dL (yardsL L)⟩, some ⟨0, dL (gatesL L)⟩, some ⟨1, dLL (rowsL L)⟩, x9, some ⟨1, dPs (waysG L)⟩, a, none, none, none, none, none] = some (.nx, [some P, some ⟨0, dPs L⟩, x2, some ⟨0, .str b.d.shown⟩, some ⟨0, ctry L X⟩, some ⟨0, dPs (canon L)⟩, some ⟨0, dL (yardsL L)⟩, some ⟨0, dL (gatesL L)⟩, some ⟨1, dLL (rowsL L)⟩, x9, some ⟨1, dPs (waysG L)⟩, a, none, none, none, none, none]) := by
  have few := g.few
  have lT : TT.length = L.length := by have := perm_len pm; rwa [List.length_map] at this
  have l1 : TT.length < 1000000 := by omega
  rcases tb with rfl | rfl
  · exact ⟨some ⟨0, .tuple (TT.map itm)⟩, by simp [mCond, isBT, mNx]⟩
  · exact ⟨some ⟨1, .list (TT.map itm ++ [dP (0, 99)])⟩, by simp [mCond, isBT, mDrop, l1]⟩
theorem w16 (g : Good L) {x0 : Nat} (hx : x0 ≤ L.length) (h0 : atI ((gatesL L).map dI) 0 = some (dI x0)) : (mLst2 (mL1 (mProp "Country" m_Country_lanes (mT 4)) (mL1 (mProp "Country" m_Country_yards (mT 4)) (mL1 (mProp "Country" m_Country_gates (mT 4)) (mL1 (mMeth 2 "Country" "neighbours" m_Country_neighbours (mT 4) (mF1 (mIx (mV 7) (mC (.int 0))) mF0)) mL0))))) [some P, some ⟨0, dPs L⟩, x2, some ⟨0, .str b.d.shown⟩, some ⟨0, ctry L X⟩, some ⟨0, dPs (canon L)⟩, some ⟨0, dL (yardsL L)⟩, some ⟨0, dL (gatesL L)⟩, some ⟨1, dLL (rowsL L)⟩, x9, some ⟨1, dPs (waysG L)⟩, a, none, none, none, none, none] = some (⟨true, 2, .list [dPs (canon L), dL (yardsL L), dL (gatesL L), dL (sn L x0)]⟩, [some P, some ⟨0, dPs L⟩, x2, some ⟨0, .str b.d.shown⟩, some ⟨0, ctry L X⟩, some ⟨0, dPs (canon L)⟩, some ⟨0, dL (yardsL L)⟩, some ⟨0, dL (gatesL L)⟩, some ⟨1, dLL (rowsL L)⟩, x9, some ⟨1, dPs (waysG L)⟩, a, none, none, none, none, none]) := by
  obtain ⟨fr, i1⟩ : ∃ fr, mIx (mV 7) (mC (.int 0)) [some P, some ⟨0, dPs L⟩, x2, some ⟨0, .str b.d.shown⟩, some ⟨0, ctry L X⟩, some ⟨0, dPs (canon L)⟩, some ⟨0, dL (yardsL L)⟩, some ⟨0, dL (gatesL L)⟩, some ⟨1, dLL (rowsL L)⟩, x9, some ⟨1, dPs (waysG L)⟩, a, none, none, none, none, none] = some (⟨fr, 0, dI x0⟩, [some P, some ⟨0, dPs L⟩, x2, some ⟨0, .str b.d.shown⟩, some ⟨0, ctry L X⟩, some ⟨0, dPs (canon L)⟩, some ⟨0, dL (yardsL L)⟩, some ⟨0, dL (gatesL L)⟩, some ⟨1, dLL (rowsL L)⟩, x9, some ⟨1, dPs (waysG L)⟩, a, none, none, none, none, none]) := ix1 (v1 (by rfl)) (c1 (.int 0)) (by simp [h0]) (by simp)
  have k1 : mMeth 2 "Country" "neighbours" m_Country_neighbours (mT 4) (mF1 (mIx (mV 7) (mC (.int 0))) mF0) [some P, some ⟨0, dPs L⟩, x2, some ⟨0, .str b.d.shown⟩, some ⟨0, ctry L X⟩, some ⟨0, dPs (canon L)⟩, some ⟨0, dL (yardsL L)⟩, some ⟨0, dL (gatesL L)⟩, some ⟨1, dLL (rowsL L)⟩, x9, some ⟨1, dPs (waysG L)⟩, a, none, none, none, none, none] = some (⟨true, 1, dL (sn L x0)⟩, [some P, some ⟨0, dPs L⟩, x2, some ⟨0, .str b.d.shown⟩, some ⟨0, ctry L X⟩, some ⟨0, dPs (canon L)⟩, some ⟨0, dL (yardsL L)⟩, some ⟨0, dL (gatesL L)⟩, some ⟨1, dLL (rowsL L)⟩, x9, some ⟨1, dPs (waysG L)⟩, a, none, none, none, none, none]) := askN (by rfl) hx (f1 i1 (by simp) f0)
  exact lst2 (l1 (askL (by rfl)) (l1 (askY g (by rfl)) (l1 (askG g (by rfl)) (l1 k1 l0)))) (show 4 ≤ 1000000 by decide)
theorem w17 (g : Good L) {x0 : Nat} (hx : x0 ≤ L.length) (h0 : atI ((gatesL L).map dI) 0 = some (dI x0)) : (mB (mBin fNe (mUn fRepr (mV 9)) (mUn fRepr (mLst (mF1 (mT 5) (mF1 (mT 6) (mF1 (mT 7) (mF1 (mIx (mV 8) (mIx (mV 7) (mC (.int 0)))) mF0)))))))) [some P, some ⟨0, dPs L⟩, x2, some ⟨0, .str b.d.shown⟩, some ⟨0, ctry L X⟩, some ⟨0, dPs (canon L)⟩, some ⟨0, dL (yardsL L)⟩, some ⟨0, dL (gatesL L)⟩, some ⟨1, dLL (rowsL L)⟩, some ⟨2, .list [dPs (canon L), dL (yardsL L), dL (gatesL L), dL (sn L x0)]⟩, some ⟨1, dPs (waysG L)⟩, a, none, none, none, none, none] = some (false, [some P, some ⟨0, dPs L⟩, x2, some ⟨0, .str b.d.shown⟩, some ⟨0, ctry L X⟩, some ⟨0, dPs (canon L)⟩, some ⟨0, dL (yardsL L)⟩, some ⟨0, dL (gatesL L)⟩, some ⟨1, dLL (rowsL L)⟩, some ⟨2, .list [dPs (canon L), dL (yardsL L), dL (gatesL L), dL (sn L x0)]⟩, some ⟨1, dPs (waysG L)⟩, a, none, none, none, none, none]) := by
  have s4 := shw_seen4 g hx
  have r1 := shw_repr (k := 2) s4 (by omega) (by omega)
  have r2 := shw_repr (k := 1) s4 (by omega) (by omega)
  have n1 := shw_ne (ka := 0) (kb := 0) s4
  have ra : atI ((rowsL L).map dL) (x0 : Int) = some (dL (sn L x0)) := by
    rw [atI_map (by simp [rowsL]; omega)]
    simp [rowsL]
  obtain ⟨fr, i1⟩ : ∃ fr, mIx (mV 7) (mC (.int 0)) [some P, some ⟨0, dPs L⟩, x2, some ⟨0, .str b.d.shown⟩, some ⟨0, ctry L X⟩, some ⟨0, dPs (canon L)⟩, some ⟨0, dL (yardsL L)⟩, some ⟨0, dL (gatesL L)⟩, some ⟨1, dLL (rowsL L)⟩, some ⟨2, .list [dPs (canon L), dL (yardsL L), dL (gatesL L), dL (sn L x0)]⟩, some ⟨1, dPs (waysG L)⟩, a, none, none, none, none, none] = some (⟨fr, 0, dI x0⟩, [some P, some ⟨0, dPs L⟩, x2, some ⟨0, .str b.d.shown⟩, some ⟨0, ctry L X⟩, some ⟨0, dPs (canon L)⟩, some ⟨0, dL (yardsL L)⟩, some ⟨0, dL (gatesL L)⟩, some ⟨1, dLL (rowsL L)⟩, some ⟨2, .list [dPs (canon L), dL (yardsL L), dL (gatesL L), dL (sn L x0)]⟩, some ⟨1, dPs (waysG L)⟩, a, none, none, none, none, none]) := ix1 (v1 (by rfl)) (c1 (.int 0)) (by simp [h0]) (by simp)
  obtain ⟨fr2, i2⟩ : ∃ fr, mIx (mV 8) (mIx (mV 7) (mC (.int 0))) [some P, some ⟨0, dPs L⟩, x2, some ⟨0, .str b.d.shown⟩, some ⟨0, ctry L X⟩, some ⟨0, dPs (canon L)⟩, some ⟨0, dL (yardsL L)⟩, some ⟨0, dL (gatesL L)⟩, some ⟨1, dLL (rowsL L)⟩, some ⟨2, .list [dPs (canon L), dL (yardsL L), dL (gatesL L), dL (sn L x0)]⟩, some ⟨1, dPs (waysG L)⟩, a, none, none, none, none, none] = some (⟨fr, 0, dL (sn L x0)⟩, [some P, some ⟨0, dPs L⟩, x2, some ⟨0, .str b.d.shown⟩, some ⟨0, ctry L X⟩, some ⟨0, dPs (canon L)⟩, some ⟨0, dL (yardsL L)⟩, some ⟨0, dL (gatesL L)⟩, some ⟨1, dLL (rowsL L)⟩, some ⟨2, .list [dPs (canon L), dL (yardsL L), dL (gatesL L), dL (sn L x0)]⟩, some ⟨1, dPs (waysG L)⟩, a, none, none, none, none, none]) := ix1 (v1 (by rfl)) i1 (by simp [ra]) (by simp)
  have h1 : mLst (mF1 (mT 5) (mF1 (mT 6) (mF1 (mT 7) (mF1 (mIx (mV 8) (mIx (mV 7) (mC (.int 0)))) mF0)))) [some P, some ⟨0, dPs L⟩, x2, some ⟨0, .str b.d.shown⟩, some ⟨0, ctry L X⟩, some ⟨0, dPs (canon L)⟩, some ⟨0, dL (yardsL L)⟩, some ⟨0, dL (gatesL L)⟩, some ⟨1, dLL (rowsL L)⟩, some ⟨2, .list [dPs (canon L), dL (yardsL L), dL (gatesL L), dL (sn L x0)]⟩, some ⟨1, dPs (waysG L)⟩, a, none, none, none, none, none] = some (⟨true, 1, .list [dPs (canon L), dL (yardsL L), dL (gatesL L), dL (sn L x0)]⟩, [some P, some ⟨0, dPs L⟩, x2, some ⟨0, .str b.d.shown⟩, some ⟨0, ctry L X⟩, some ⟨0, dPs (canon L)⟩, some ⟨0, dL (yardsL L)⟩, some ⟨0, dL (gatesL L)⟩, some ⟨1, dLL (rowsL L)⟩, some ⟨2, .list [dPs (canon L), dL (yardsL L), dL (gatesL L), dL (sn L x0)]⟩, some ⟨1, dPs (waysG L)⟩, a, none, none, none, none, none]) := lst1 (f1 (t0 (by rfl)) rfl (f1 (t0 (by rfl)) rfl (f1 (t0 (by rfl)) rfl (f1 i2 (by simp) f0)))) (show 4 ≤ 1000000 by decide)
  exact b1 (bin1 (un1 (v1 (by rfl)) r1) (un1 h1 r2) n1)
theorem w19n : (mAndT (mB (mBin (fIs true) (mV 13) (mC .none))) (mB (mBin (fIsB true) (mBin (fEqI false "Country" [] m_Country_eq) (mV 4) (mMake 2 "Country" m_Country_init (mF1 (mT 13) mF0))) (mC (.bool false))))) [some P, some ⟨0, dPs L⟩, x2, some ⟨0, .str b.d.shown⟩, some ⟨0, ctry L X⟩, some ⟨0, dPs (canon L)⟩, some ⟨0, dL (yardsL L)⟩, some ⟨0, dL (gatesL L)⟩, some ⟨1, dLL (rowsL L)⟩, some ⟨2, .list [dPs (canon L), dL (yardsL L), dL (gatesL L), dL (sn L x0)]⟩, some ⟨1, dPs (waysG L)⟩, a, none, some ⟨0, .none⟩, none, none, none] = some (false, [some P, some ⟨0, dPs L⟩, x2, some ⟨0, .str b.d.shown⟩, some ⟨0, ctry L X⟩, some ⟨0, dPs (canon L)⟩, some ⟨0, dL (yardsL L)⟩, some ⟨0, dL (gatesL L)⟩, some ⟨1, dLL (rowsL L)⟩, some ⟨2, .list [dPs (canon L), dL (yardsL L), dL (gatesL L), dL (sn L x0)]⟩, some ⟨1, dPs (waysG L)⟩, a, none, some ⟨0, .none⟩, none, none, none]) := by
  exact and_f (b1 (bin1 (v1 (by rfl)) (c1 _) (by rfl)))
theorem w19s {M : List (Nat × Nat)} (gM : Good M) (cM : canon M ≠ canon L) : (mAndT (mB (mBin (fIs true) (mV 13) (mC .none))) (mB (mBin (fIsB true) (mBin (fEqI false "Country" [] m_Country_eq) (mV 4) (mMake 2 "Country" m_Country_init (mF1 (mT 13) mF0))) (mC (.bool false))))) [some P, some ⟨0, dPs L⟩, x2, some ⟨0, .str b.d.shown⟩, some ⟨0, ctry L X⟩, some ⟨0, dPs (canon L)⟩, some ⟨0, dL (yardsL L)⟩, some ⟨0, dL (gatesL L)⟩, some ⟨1, dLL (rowsL L)⟩, some ⟨2, .list [dPs (canon L), dL (yardsL L), dL (gatesL L), dL (sn L x0)]⟩, some ⟨1, dPs (waysG L)⟩, a, none, some ⟨1, dPs M⟩, none, none, none] = some (false, [some P, some ⟨0, dPs L⟩, x2, some ⟨0, .str b.d.shown⟩, some ⟨0, ctry L X⟩, some ⟨0, dPs (canon L)⟩, some ⟨0, dL (yardsL L)⟩, some ⟨0, dL (gatesL L)⟩, some ⟨1, dLL (rowsL L)⟩, some ⟨2, .list [dPs (canon L), dL (yardsL L), dL (gatesL L), dL (sn L x0)]⟩, some ⟨1, dPs (waysG L)⟩, a, none, some ⟨0, dPs M⟩, none, none, none]) := by
  obtain ⟨Y, hY⟩ := makeP gM
  have k : mMake 2 "Country" m_Country_init (mF1 (mT 13) mF0) [some P, some ⟨0, dPs L⟩, x2, some ⟨0, .str b.d.shown⟩, some ⟨0, ctry L X⟩, some ⟨0, dPs (canon L)⟩, some ⟨0, dL (yardsL L)⟩, some ⟨0, dL (gatesL L)⟩, some ⟨1, dLL (rowsL L)⟩, some ⟨2, .list [dPs (canon L), dL (yardsL L), dL (gatesL L), dL (sn L x0)]⟩, some ⟨1, dPs (waysG L)⟩, a, none, some ⟨1, dPs M⟩, none, none, none] = some (⟨false, 0, ctry M Y⟩, [some P, some ⟨0, dPs L⟩, x2, some ⟨0, .str b.d.shown⟩, some ⟨0, ctry L X⟩, some ⟨0, dPs (canon L)⟩, some ⟨0, dL (yardsL L)⟩, some ⟨0, dL (gatesL L)⟩, some ⟨1, dLL (rowsL L)⟩, some ⟨2, .list [dPs (canon L), dL (yardsL L), dL (gatesL L), dL (sn L x0)]⟩, some ⟨1, dPs (waysG L)⟩, a, none, some ⟨0, dPs M⟩, none, none, none]) := make1 (ds := [dPs M]) (by simp) rfl rfl hY
  exact and_t (b1 (bin1 (v1 (by rfl)) (c1 _) (by rfl))) (b1 (bin1 (bin1 (v1 (by rfl)) k (eq_not false 0 0 (fun h => cM h.symm))) (c1 _) (by rfl)))
theorem w20 (g : Good L) {x13 : Option B} : (mOrT (mB (mBin (fIsB true) (mBinS (fEqI false "Country" [] m_Country_eq) (mV 4) (mMake 2 "Country" m_Country_init (mF1 (mT 1) mF0))) (mC (.bool true)))) (mB (mBin (fIsB true) (mBin (fEqI false "Country" [] m_Country_eq) (mV 4) (mV 5)) (mC (.bool false))))) [some P, some ⟨0, dPs L⟩, x2, some ⟨0, .str b.d.shown⟩, some ⟨0, ctry L X⟩, some ⟨0, dPs (canon L)⟩, some ⟨0, dL (yardsL L)⟩, some ⟨0, dL (gatesL L)⟩, some ⟨1, dLL (rowsL L)⟩, some ⟨2, .list [dPs (canon L), dL (yardsL L), dL (gatesL L), dL (sn L x0)]⟩, some ⟨1, dPs (waysG L)⟩, a, none, x13, none, none, none] = some (false, [some P, some ⟨0, dPs L⟩, x2, some ⟨0, .str b.d.shown⟩, some ⟨0, ctry L X⟩, some ⟨0, dPs (canon L)⟩, some ⟨0, dL (yardsL L)⟩, some ⟨0, dL (gatesL L)⟩, some ⟨1, dLL (rowsL L)⟩, some ⟨2, .list [dPs (canon L), dL (yardsL L), dL (gatesL L), dL (sn L x0)]⟩, some ⟨1, dPs (waysG L)⟩, a, none, x13, none, none, none]) := by
  obtain ⟨Y, hY⟩ := makeP g
  have k : mMake 2 "Country" m_Country_init (mF1 (mT 1) mF0) [some P, some ⟨0, dPs L⟩, x2, some ⟨0, .str b.d.shown⟩, some ⟨0, ctry L X⟩, some ⟨0, dPs (canon L)⟩, some ⟨0, dL (yardsL L)⟩, some ⟨0, dL (gatesL L)⟩, some ⟨1, dLL (rowsL L)⟩, some ⟨2, .list [dPs (canon L), dL (yardsL L), dL (gatesL L), dL (sn L x0)]⟩, some ⟨1, dPs (waysG L)⟩, a, none, x13, none, none, none] = some (⟨false, 0, ctry L Y⟩, [some P, some ⟨0, dPs L⟩, x2, some ⟨0, .str b.d.shown⟩, some ⟨0, ctry L X⟩, some ⟨0, dPs (canon L)⟩, some ⟨0, dL (yardsL L)⟩, some ⟨0, dL (gatesL L)⟩, some ⟨1, dLL (rowsL L)⟩, some ⟨2, .list [dPs (canon L), dL (yardsL L), dL (gatesL L), dL (sn L x0)]⟩, some ⟨1, dPs (waysG L)⟩, a, none, x13, none, none, none]) := make1 (ds := [dPs L]) (f1 (t0 (by rfl)) rfl f0) rfl rfl hY
  have q1 : mBinS (fEqI false "Country" [] m_Country_eq) (mV 4) (mMake 2 "Country" m_Country_init (mF1 (mT 1) mF0)) [some P, some ⟨0, dPs L⟩, x2, some ⟨0, .str b.d.shown⟩, some ⟨0, ctry L X⟩, some ⟨0, dPs (canon L)⟩, some ⟨0, dL (yardsL L)⟩, some ⟨0, dL (gatesL L)⟩, some ⟨1, dLL (rowsL L)⟩, some ⟨2, .list [dPs (canon L), dL (yardsL L), dL (gatesL L), dL (sn L x0)]⟩, some ⟨1, dPs (waysG L)⟩, a, none, x13, none, none, none] = some (⟨true, 0, .bool true⟩, [some P, some ⟨0, dPs L⟩, x2, some ⟨0, .str b.d.shown⟩, some ⟨0, ctry L X⟩, some ⟨0, dPs (canon L)⟩, some ⟨0, dL (yardsL L)⟩, some ⟨0, dL (gatesL L)⟩, some ⟨1, dLL (rowsL L)⟩, some ⟨2, .list [dPs (canon L), dL (yardsL L), dL (gatesL L), dL (sn L x0)]⟩, some ⟨1, dPs (waysG L)⟩, a, none, x13, none, none, none]) := binS1 (v1 (by rfl)) rfl k (eq_same false 0 0 rfl)
  exact or_f (b1 (bin1 q1 (c1 _) (by rfl))) (b1 (bin1 (bin1 (v1 (by rfl)) (v1 (by rfl)) (eq_list false 0 0 _)) (c1 _) (by rfl)))
theorem w21 (g : Good L) {x13 : Option B} : (mBin (fIsB false) (mBin (fEqI true "Country" [] m_Country_eq) (mV 4) (mMake 2 "Country" m_Country_init (mF1 (mUn fRev (mV 5)) mF0))) (mC (.bool false))) [some P, some ⟨0, dPs L⟩, x2, some ⟨0, .str b.d.shown⟩, some ⟨0, ctry L X⟩, some ⟨0, dPs (canon L)⟩, some ⟨0, dL (yardsL L)⟩, some ⟨0, dL (gatesL L)⟩, some ⟨1, dLL (rowsL L)⟩, some ⟨2, .list [dPs (canon L), dL (yardsL L), dL (gatesL L), dL (sn L x0)]⟩, some ⟨1, dPs (waysG L)⟩, a, none, x13, none, none, none] = some (⟨true, 0, .bool true⟩, [some P, some ⟨0, dPs L⟩, x2, some ⟨0, .str b.d.shown⟩, some ⟨0, ctry L X⟩, some ⟨0, dPs (canon L)⟩, some ⟨0, dL (yardsL L)⟩, some ⟨0, dL (gatesL L)⟩, some ⟨1, dLL (rowsL L)⟩, some ⟨2, .list [dPs (canon L), dL (yardsL L), dL (gatesL L), dL (sn L x0)]⟩, some ⟨1, dPs (waysG L)⟩, a, none, x13, none, none, none]) := by
  have pm : (((canon L).reverse).map mm).Perm (L.map mm) := by
    rw [List.map_reverse]
    refine (List.reverse_perm _).trans ?_
    refine ((sortP_perm (L.map mm)).map mm).trans ?_
    rw [List.map_map]
    exact List.Perm.of_eq (List.map_congr_left fun e _ => mm_mm e)
  obtain ⟨Y, hY⟩ := makeX g (told_dPs (canon L).reverse) (by rw [← told_fst]; exact pm)
  have rv : fRev 0 (dPs (canon L)) = some (1, dPs (canon L).reverse) := by
    simp [fRev]
  have k : mMake 2 "Country" m_Country_init (mF1 (mUn fRev (mV 5)) mF0) [some P, some ⟨0, dPs L⟩, x2, some ⟨0, .str b.d.shown⟩, some ⟨0, ctry L X⟩, some ⟨0, dPs (canon L)⟩, some ⟨0, dL (yardsL L)⟩, some ⟨0, dL (gatesL L)⟩, some ⟨1, dLL (rowsL L)⟩, some ⟨2, .list [dPs (canon L), dL (yardsL L), dL (gatesL L), dL (sn L x0)]⟩, some ⟨1, dPs (waysG L)⟩, a, none, x13, none, none, none] = some (⟨false, 0, ctry L Y⟩, [some P, some ⟨0, dPs L⟩, x2, some ⟨0, .str b.d.shown⟩, some ⟨0, ctry L X⟩, some ⟨0, dPs (canon L)⟩, some ⟨0, dL (yardsL L)⟩, some ⟨0, dL (gatesL L)⟩, some ⟨1, dLL (rowsL L)⟩, some ⟨2, .list [dPs (canon L), dL (yardsL L), dL (gatesL L), dL (sn L x0)]⟩, some ⟨1, dPs (waysG L)⟩, a, none, x13, none, none, none]) := make1 (ds := [dPs (canon L).reverse]) (f1 (un1 (v1 (by rfl)) rv) rfl f0) rfl rfl (hY 0)
  exact bin1 (bin1 (v1 (by rfl)) k (eq_same true 0 0 rfl)) (c1 _) (by rfl)
end
theorem e_right {P : B} (hp : IsPot P) : ∃ fr outs, m__law_right [P] = some (⟨fr, 0, .bool true⟩, outs) := by
  obtain ⟨L, P0, g, hP0, e1⟩ := e_drawn (M7 := 7) (by omega) hp
  have few := g.few
  have gl := gates_len (L := L)
  obtain ⟨TT, b, P1, hP1, tb, pm, e2⟩ := e_told (L := L) (by omega) hP0
  obtain ⟨X, e3⟩ := makeX g tb.is pm
  have sb := shw_told g tb pm
  obtain ⟨P2, r, hP2, hr, e18⟩ := e_other g hP1
  obtain ⟨x0, xs, hx0⟩ : ∃ x0 xs, gatesL L = x0 :: xs := by
    cases h : gatesL L with
    | nil => exact absurd h (gates_ne g)
    | cons x0 xs => exact ⟨x0, xs, rfl⟩
  have h0 : atI ((gatesL L).map dI) 0 = some (dI x0) := by
    have := atI_map (f := dI) (l := gatesL L) (i := 0) (by rw [hx0]; simp)
    have e : (gatesL L)[0]'(by rw [hx0]; simp) = x0 := by simp [hx0]
    rw [e] at this
    exact this
  have hx : x0 ≤ L.length := (mem_gates.mp (by rw [hx0]; simp)).1
  have fin : Fp (m__law_right [P]) fun r _ => ∃ fr, r = ⟨fr, 0, .bool true⟩ := by
    unfold m__law_right
    refine fp_fn (wp_seq (wp_set ?_))
    simp only [List.map, List.replicate, List.append_eq, List.cons_append, List.nil_append]
    have k1 : mCallR 2 m__law_drawn (mGr 0 (mG1 (mC (.int 7)) mG0)) [some P, none, none, none, none, none, none, none, none, none, none, none, none, none, none, none, none] = some (⟨true, 1, dPs L⟩, [some P0, none, none, none, none, none, none, none, none, none, none, none, none, none, none, none, none]) := callR1 (ρ1 := [some P, none, none, none, none, none, none, none, none, none, none, none, none, none, none, none, none]) (ρ2 := [none, none, none, none, none, none, none, none, none, none, none, none, none, none, none, none, none]) (as := [.r 0, .v (dI 7)]) (bs := [P, ⟨0, dI 7⟩]) (by simp) (by simp) rfl e1
    refine ⟨_, _, k1, rfl, by simp, ?_⟩
    simp only [List.set_cons_succ, List.set_cons_zero]
    have k2 : mCallR 2 m__law_told_otherwise (mGr 0 (mG1 (mT 1) mG0)) [some P0, some ⟨1, dPs L⟩, none, none, none, none, none, none, none, none, none, none, none, none, none, none, none] = some (⟨true, b.k, b.d⟩, [some P1, some ⟨0, dPs L⟩, none, none, none, none, none, none, none, none, none, none, none, none, none, none, none]) := callR1 (ρ1 := [some P0, some ⟨0, dPs L⟩, none, none, none, none, none, none, none, none, none, none, none, none, none, none, none]) (ρ2 := [none, some ⟨0, dPs L⟩, none, none, none, none, none, none, none, none, none, none, none, none, none, none, none]) (as := [.r 0, .v (dPs L)]) (bs := [P0, ⟨0, dPs L⟩]) (by simp) (by simp) rfl e2
    refine wp_seq (wp_set ⟨_, _, k2, rfl, by simp, ?_⟩)
    simp only [List.set_cons_succ, List.set_cons_zero]
    have k3 : mMakeR 2 "Country" m_Country_init (mGr 2 mG0) [some P1, some ⟨0, dPs L⟩, some b, none, none, none, none, none, none, none, none, none, none, none, none, none, none] = some (⟨false, 0, ctry L X⟩, [some P1, some ⟨0, dPs L⟩, some b, none, none, none, none, none, none, none, none, none, none, none, none, none, none]) := makeR1 (ρ1 := [some P1, some ⟨0, dPs L⟩, some b, none, none, none, none, none, none, none, none, none, none, none, none, none, none]) (ρ2 := [some P1, some ⟨0, dPs L⟩, none, none, none, none, none, none, none, none, none, none, none, none, none, none, none]) (as := [.r 2]) (bs := [b]) (by simp) (by simp) rfl rfl (e3 b.k)
    refine wp_seq (wp_par ⟨_, [some P1, some ⟨0, dPs L⟩, some b, none, none, none, none, none, none, none, none, none, none, none, none, none, none], un1 (v1 (by rfl)) (shw_repr (k := b.k) sb (by omega) (by omega)), rfl, _, _, k3, rfl, by simp, by simp, ?_⟩)
    simp only [List.set_cons_succ, List.set_cons_zero]
    refine wp_seq (wp_set ⟨_, _, w4 g, rfl, by simp, ?_⟩)
    simp only [List.set_cons_succ, List.set_cons_zero]
    have k5 : mCall 1 m__law_yards (mF1 (mT 1) mF0) [some P1, some ⟨0, dPs L⟩, some b, some ⟨0, .str b.d.shown⟩, some ⟨0, ctry L X⟩, some ⟨1, dPs (canon L)⟩, none, none, none, none, none, none, none, none, none, none, none] = some (⟨true, 1, dL (yardsL L)⟩, [some P1, some ⟨0, dPs L⟩, some b, some ⟨0, .str b.d.shown⟩, some ⟨0, ctry L X⟩, some ⟨1, dPs (canon L)⟩, none, none, none, none, none, none, none, none, none, none, none]) := call1 (ds := [dPs L]) (f1 (t0 (by rfl)) rfl f0) rfl rfl (e_law_yards L (by omega))
    have k6 : mCall 1 m__law_gates (mF1 (mT 1) mF0) [some P1, some ⟨0, dPs L⟩, some b, some ⟨0, .str b.d.shown⟩, some ⟨0, ctry L X⟩, some ⟨1, dPs (canon L)⟩, none, none, none, none, none, none, none, none, none, none, none] = some (⟨true, 1, dL (gatesL L)⟩, [some P1, some ⟨0, dPs L⟩, some b, some ⟨0, .str b.d.shown⟩, some ⟨0, ctry L X⟩, some ⟨1, dPs (canon L)⟩, none, none, none, none, none, none, none, none, none, none, none]) := call1 (ds := [dPs L]) (f1 (t0 (by rfl)) rfl f0) rfl rfl (e_law_gates L (by omega))
    refine wp_seq (wp_par ⟨_, _, k5, rfl, _, _, k6, rfl, by simp, by simp, ?_⟩)
    simp only [List.set_cons_succ, List.set_cons_zero]
    refine wp_seq (wp_set ⟨_, _, w6 g, rfl, by simp, ?_⟩)
    simp only [List.set_cons_succ, List.set_cons_zero]
    refine wp_seq (wp_set ⟨_, _, w7 g, rfl, by simp, ?_⟩)
    simp only [List.set_cons_succ, List.set_cons_zero]
    refine wp_seq (wp_cond ⟨_, _, w8 g tb pm, ?_⟩)
    simp only [Bool.false_eq_true, if_false]
    refine ⟨.nx, _, rfl, ?_⟩
    refine wp_seq (wp_cond ⟨_, _, w9 g, ?_⟩)
    simp only [Bool.false_eq_true, if_false]
    refine ⟨.nx, _, rfl, ?_⟩
    refine wp_seq (wp_set ⟨⟨true, 1, .list []⟩, _, by rfl, rfl, by simp, ?_⟩)
    simp only [List.set_cons_succ, List.set_cons_zero]
    refine wp_seq ((ways_loop2 (G := gatesL L) (by omega) (kg := 0) (Nat.zero_le _) none).mono ?_)
    rintro fl ρ ⟨rfl, a, rfl⟩
    simp only
    refine wp_seq (wp_cond ⟨_, _, w12 g, ?_⟩)
    simp only [Bool.false_eq_true, if_false]
    refine ⟨.nx, _, rfl, ?_⟩
    refine wp_seq (wp_set ⟨_, _, w13 g hx h0, rfl, by simp, ?_⟩)
    simp only [List.set_cons_succ, List.set_cons_zero]
    obtain ⟨x9, k14⟩ := w14 (X := X) (b := b) (a := a) (P := P1) g hx
    refine wp_seq ⟨.nx, _, k14, ?_⟩
    obtain ⟨x2, k15⟩ := w15 (X := X) (a := a) (P := P1) (x9 := x9) g tb pm
    refine wp_seq ⟨.nx, _, k15, ?_⟩
    refine wp_seq (wp_set ⟨_, _, w16 g hx h0, rfl, by simp, ?_⟩)
    simp only [List.set_cons_succ, List.set_cons_zero]
    refine wp_seq (wp_cond ⟨_, _, w17 g hx h0, ?_⟩)
    simp only [Bool.false_eq_true, if_false]
    refine ⟨.nx, _, rfl, ?_⟩
    have k18 : mCallR 2 m__law_other (mGr 0 (mG1 (mT 1) mG0)) [some P1, some ⟨0, dPs L⟩, x2, some ⟨0, .str b.d.shown⟩, some ⟨0, ctry L X⟩, some ⟨0, dPs (canon L)⟩, some ⟨0, dL (yardsL L)⟩, some ⟨0, dL (gatesL L)⟩, some ⟨1, dLL (rowsL L)⟩, some ⟨2, .list [dPs (canon L), dL (yardsL L), dL (gatesL L), dL (sn L x0)]⟩, some ⟨1, dPs (waysG L)⟩, a, none, none, none, none, none] = some (r, [some P2, some ⟨0, dPs L⟩, x2, some ⟨0, .str b.d.shown⟩, some ⟨0, ctry L X⟩, some ⟨0, dPs (canon L)⟩, some ⟨0, dL (yardsL L)⟩, some ⟨0, dL (gatesL L)⟩, some ⟨1, dLL (rowsL L)⟩, some ⟨2, .list [dPs (canon L), dL (yardsL L), dL (gatesL L), dL (sn L x0)]⟩, some ⟨1, dPs (waysG L)⟩, a, none, none, none, none, none]) := callR1 (ρ1 := [some P1, some ⟨0, dPs L⟩, x2, some ⟨0, .str b.d.shown⟩, some ⟨0, ctry L X⟩, some ⟨0, dPs (canon L)⟩, some ⟨0, dL (yardsL L)⟩, some ⟨0, dL (gatesL L)⟩, some ⟨1, dLL (rowsL L)⟩, some ⟨2, .list [dPs (canon L), dL (yardsL L), dL (gatesL L), dL (sn L x0)]⟩, some ⟨1, dPs (waysG L)⟩, a, none, none, none, none, none]) (ρ2 := [none, some ⟨0, dPs L⟩, x2, some ⟨0, .str b.d.shown⟩, some ⟨0, ctry L X⟩, some ⟨0, dPs (canon L)⟩, some ⟨0, dL (yardsL L)⟩, some ⟨0, dL (gatesL L)⟩, some ⟨1, dLL (rowsL L)⟩, some ⟨2, .list [dPs (canon L), dL (yardsL L), dL (gatesL L), dL (sn L x0)]⟩, some ⟨1, dPs (waysG L)⟩, a, none, none, none, none, none]) (as := [.r 0, .v (dPs L)]) (bs := [P1, ⟨0, dPs L⟩]) (by simp) (by simp) rfl e18
    have hfr : (r.fr || r.k == 0) = true := by
      rcases hr with rfl | ⟨M, _, _, rfl⟩ <;> rfl
    refine wp_seq (wp_set ⟨_, _, k18, hfr, by simp, ?_⟩)
    simp only [List.set_cons_succ, List.set_cons_zero]
    obtain ⟨x13, k19⟩ : ∃ x13 : Option B, (mAndT (mB (mBin (fIs true) (mV 13) (mC .none))) (mB (mBin (fIsB true) (mBin (fEqI false "Country" [] m_Country_eq) (mV 4) (mMake 2 "Country" m_Country_init (mF1 (mT 13) mF0))) (mC (.bool false))))) [some P2, some ⟨0, dPs L⟩, x2, some ⟨0, .str b.d.shown⟩, some ⟨0, ctry L X⟩, some ⟨0, dPs (canon L)⟩, some ⟨0, dL (yardsL L)⟩, some ⟨0, dL (gatesL L)⟩, some ⟨1, dLL (rowsL L)⟩, some ⟨2, .list [dPs (canon L), dL (yardsL L), dL (gatesL L), dL (sn L x0)]⟩, some ⟨1, dPs (waysG L)⟩, a, none, some ⟨r.k, r.d⟩, none, none, none] = some (false, [some P2, some ⟨0, dPs L⟩, x2, some ⟨0, .str b.d.shown⟩, some ⟨0, ctry L X⟩, some ⟨0, dPs (canon L)⟩, some ⟨0, dL (yardsL L)⟩, some ⟨0, dL (gatesL L)⟩, some ⟨1, dLL (rowsL L)⟩, some ⟨2, .list [dPs (canon L), dL (yardsL L), dL (gatesL L), dL (sn L x0)]⟩, some ⟨1, dPs (waysG L)⟩, a, none, x13, none, none, none]) := by
      rcases hr with rfl | ⟨M, gM, cM, rfl⟩
      · exact ⟨_, w19n⟩
      · exact ⟨_, w19s gM cM⟩
    refine wp_seq (wp_cond ⟨_, _, k19, ?_⟩)
    simp only [Bool.false_eq_true, if_false]
    refine ⟨.nx, _, rfl, ?_⟩
    refine wp_seq (wp_cond ⟨_, _, w20 g, ?_⟩)
    simp only [Bool.false_eq_true, if_false]
    refine ⟨.nx, _, rfl, ?_⟩
    refine wp_ret ?_
    exact ⟨_, _, w21 g, rfl, true, rfl⟩
  obtain ⟨r, outs, e, fr, rfl⟩ := fin
  exact ⟨fr, outs, e⟩
theorem holds (ns : List Int) (hl : ns.length ≤ 63) : ∃ fr kk outs, m_law [⟨0, scrD ns⟩] = some (⟨fr, kk, .bool true⟩, outs) := by
  obtain ⟨x, y, hx, hy, hy2, e⟩ := e_pot ns
  obtain ⟨fr, outs, e2⟩ := e_right (P := ⟨1, .list [.int x, .int y]⟩) ⟨x, y, rfl, hx, hy, hy2⟩
  have k := call1 (n := 2) (ms := mF1 (mT 0) (mF1 (mC (.int 0)) mF0)) (ρ := [some ⟨0, scrD ns⟩]) (ds := [scrD ns, .int 0]) (ρ1 := [some ⟨0, scrD ns⟩]) (by simp) rfl rfl e
  have fin : Fp (m_law [⟨0, scrD ns⟩]) fun r _ => r = ⟨fr, 0, .bool true⟩ := by
    unfold m_law
    refine fp_fn (wp_ret ?_)
    simp only [List.map, List.replicate, List.append_eq, List.cons_append, List.nil_append]
    refine ⟨⟨fr, 0, .bool true⟩, [some ⟨0, scrD ns⟩], ?_, by cases fr <;> rfl, rfl⟩
    unfold mCallH
    simp only [Nat.sub_self, List.replicate, List.append_nil]
    rw [k]
    simp only [Bool.true_or, if_true, e2]
  obtain ⟨r, outs, e3, rfl⟩ := fin
  exact ⟨fr, 0, outs, e3⟩
end K11

set_option Elab.async false
set_option linter.all false
set_option maxRecDepth 100000
namespace K11
open PySem L2 PySem.Spec Lk
theorem all_mk {l : PySem.W.OpenLaw} {w : World} {K : PySem.W.Frag} {h : Heap} {mg : Str → Option Value} {fa : Addr} (X : K.In h) (G : h.Ns mainGlobals mg) (hfa : mg "law" = some (.ref fa))
    {f1 : Addr} {od1 an1 : Option Addr} {sl1 : Array (Option Value)} {oc1 kV1 dc1 pm1 cd1 ct1 : Value}
    {f2 : Addr} {od2 an2 : Option Addr} {sl2 : Array (Option Value)} {oc2 kV2 dc2 pm2 cd2 ct2 : Value}
    {f3 : Addr} {od3 an3 : Option Addr} {sl3 : Array (Option Value)} {oc3 kV3 dc3 pm3 cd3 ct3 : Value}
    {f4 : Addr} {od4 an4 : Option Addr} {sl4 : Array (Option Value)} {oc4 kV4 dc4 pm4 cd4 ct4 : Value}
    {f5 : Addr} {od5 an5 : Option Addr} {sl5 : Array (Option Value)} {oc5 kV5 dc5 pm5 cd5 ct5 : Value}
    {f6 : Addr} {od6 an6 : Option Addr} {sl6 : Array (Option Value)} {oc6 kV6 dc6 pm6 cd6 ct6 : Value}
    {f7 : Addr} {od7 an7 : Option Addr} {sl7 : Array (Option Value)} {oc7 kV7 dc7 pm7 cd7 ct7 : Value}
    {f8 : Addr} {od8 an8 : Option Addr} {sl8 : Array (Option Value)} {oc8 kV8 dc8 pm8 cd8 ct8 : Value}
    {f9 : Addr} {od9 an9 : Option Addr} {sl9 : Array (Option Value)} {oc9 kV9 dc9 pm9 cd9 ct9 : Value}
    {f10 : Addr} {od10 an10 : Option Addr} {sl10 : Array (Option Value)} {oc10 kV10 dc10 pm10 cd10 ct10 : Value}
    {f11 : Addr} {od11 an11 : Option Addr} {sl11 : Array (Option Value)} {oc11 kV11 dc11 pm11 cd11 ct11 : Value}
    {f12 : Addr} {od12 an12 : Option Addr} {sl12 : Array (Option Value)} {oc12 kV12 dc12 pm12 cd12 ct12 : Value}
    {f13 : Addr} {od13 an13 : Option Addr} {sl13 : Array (Option Value)} {oc13 kV13 dc13 pm13 cd13 ct13 : Value}
    {f14 : Addr} {od14 an14 : Option Addr} {sl14 : Array (Option Value)} {oc14 kV14 dc14 pm14 cd14 ct14 : Value}
    {f15 : Addr} {od15 an15 : Option Addr} {sl15 : Array (Option Value)} {oc15 kV15 dc15 pm15 cd15 ct15 : Value}
    {f16 : Addr} {od16 an16 : Option Addr} {sl16 : Array (Option Value)} {oc16 kV16 dc16 pm16 cd16 ct16 : Value}
    {f17 : Addr} {od17 an17 : Option Addr} {sl17 : Array (Option Value)} {oc17 kV17 dc17 pm17 cd17 ct17 : Value}
    {f18 : Addr} {od18 an18 : Option Addr} {sl18 : Array (Option Value)} {oc18 kV18 dc18 pm18 cd18 ct18 : Value}
    {p18 : Addr} {rs18 : List Value}
    {f19 : Addr} {od19 an19 : Option Addr} {sl19 : Array (Option Value)} {oc19 kV19 dc19 pm19 cd19 ct19 : Value}
    {p19 : Addr} {rs19 : List Value}
    {f20 : Addr} {od20 an20 : Option Addr} {sl20 : Array (Option Value)} {oc20 kV20 dc20 pm20 cd20 ct20 : Value}
    {p20 : Addr} {rs20 : List Value}
    {f21 : Addr} {od21 an21 : Option Addr} {sl21 : Array (Option Value)} {oc21 kV21 dc21 pm21 cd21 ct21 : Value}
    {f22 : Addr} {od22 an22 : Option Addr} {sl22 : Array (Option Value)} {oc22 kV22 dc22 pm22 cd22 ct22 : Value}
    {f23 : Addr} {od23 an23 : Option Addr} {sl23 : Array (Option Value)} {oc23 kV23 dc23 pm23 cd23 ct23 : Value}
    {f24 : Addr} {od24 an24 : Option Addr} {sl24 : Array (Option Value)} {oc24 kV24 dc24 pm24 cd24 ct24 : Value}
    {f25 : Addr} {od25 an25 : Option Addr} {sl25 : Array (Option Value)} {oc25 kV25 dc25 pm25 cd25 ct25 : Value}
    {f26 : Addr} {od26 an26 : Option Addr} {sl26 : Array (Option Value)} {oc26 kV26 dc26 pm26 cd26 ct26 : Value}
    {f27 : Addr} {od27 an27 : Option Addr} {sl27 : Array (Option Value)} {oc27 kV27 dc27 pm27 cd27 ct27 : Value}
    {f28 : Addr} {od28 an28 : Option Addr} {sl28 : Array (Option Value)} {oc28 kV28 dc28 pm28 cd28 ct28 : Value}
    {f29 : Addr} {od29 an29 : Option Addr} {sl29 : Array (Option Value)} {oc29 kV29 dc29 pm29 cd29 ct29 : Value}
    {C_Country : Addr}
    {t_MOST_LANES : Tok}
    {t_MOST_YARDS : Tok}
    (aC_Country : PySem.W.nsIn K mainGlobals "Country" = some (some (.ref C_Country)))
    (a1 : PySem.W.nsIn K mainGlobals "_law_draw" = some (some (.ref f1)))
    (l1 : K.lookup f1 = some ⟨oc1, od1, .func (PySem.W.fnOf "_law_draw" "_law_draw" (defArgs s__law_draw) (defBody s__law_draw) (defScope s__law_draw) .none kV1 dc1 pm1 an1 cd1 ct1), sl1⟩)
    (c1 : PySem.W.codeIn K cd1 "_law_draw" = true)
    (k1 : PySem.W.keepIn K (.ref f1) = true)
    (a2 : PySem.W.nsIn K mainGlobals "_law_pick" = some (some (.ref f2)))
    (l2 : K.lookup f2 = some ⟨oc2, od2, .func (PySem.W.fnOf "_law_pick" "_law_pick" (defArgs s__law_pick) (defBody s__law_pick) (defScope s__law_pick) .none kV2 dc2 pm2 an2 cd2 ct2), sl2⟩)
    (c2 : PySem.W.codeIn K cd2 "_law_pick" = true)
    (k2 : PySem.W.keepIn K (.ref f2) = true)
    (a3 : PySem.W.nsIn K mainGlobals "_law_drawn" = some (some (.ref f3)))
    (l3 : K.lookup f3 = some ⟨oc3, od3, .func (PySem.W.fnOf "_law_drawn" "_law_drawn" (defArgs s__law_drawn) (defBody s__law_drawn) (defScope s__law_drawn) .none kV3 dc3 pm3 an3 cd3 ct3), sl3⟩)
    (c3 : PySem.W.codeIn K cd3 "_law_drawn" = true)
    (k3 : PySem.W.keepIn K (.ref f3) = true)
    (a4 : PySem.W.nsIn K mainGlobals "_law_told_otherwise" = some (some (.ref f4)))
    (l4 : K.lookup f4 = some ⟨oc4, od4, .func (PySem.W.fnOf "_law_told_otherwise" "_law_told_otherwise" (defArgs s__law_told_otherwise) (defBody s__law_told_otherwise) (defScope s__law_told_otherwise) .none kV4 dc4 pm4 an4 cd4 ct4), sl4⟩)
    (c4 : PySem.W.codeIn K cd4 "_law_told_otherwise" = true)
    (k4 : PySem.W.keepIn K (.ref f4) = true)
    (a5 : PySem.W.nsIn K mainGlobals "_law_beside" = some (some (.ref f5)))
    (l5 : K.lookup f5 = some ⟨oc5, od5, .func (PySem.W.fnOf "_law_beside" "_law_beside" (defArgs s__law_beside) (defBody s__law_beside) (defScope s__law_beside) .none kV5 dc5 pm5 an5 cd5 ct5), sl5⟩)
    (c5 : PySem.W.codeIn K cd5 "_law_beside" = true)
    (k5 : PySem.W.keepIn K (.ref f5) = true)
    (a6 : PySem.W.nsIn K mainGlobals "_law_gates" = some (some (.ref f6)))
    (l6 : K.lookup f6 = some ⟨oc6, od6, .func (PySem.W.fnOf "_law_gates" "_law_gates" (defArgs s__law_gates) (defBody s__law_gates) (defScope s__law_gates) .none kV6 dc6 pm6 an6 cd6 ct6), sl6⟩)
    (c6 : PySem.W.codeIn K cd6 "_law_gates" = true)
    (k6 : PySem.W.keepIn K (.ref f6) = true)
    (a7 : PySem.W.nsIn K mainGlobals "_law_yards" = some (some (.ref f7)))
    (l7 : K.lookup f7 = some ⟨oc7, od7, .func (PySem.W.fnOf "_law_yards" "_law_yards" (defArgs s__law_yards) (defBody s__law_yards) (defScope s__law_yards) .none kV7 dc7 pm7 an7 cd7 ct7), sl7⟩)
    (c7 : PySem.W.codeIn K cd7 "_law_yards" = true)
    (k7 : PySem.W.keepIn K (.ref f7) = true)
    (a8 : PySem.W.nsIn K mainGlobals "_law_other" = some (some (.ref f8)))
    (l8 : K.lookup f8 = some ⟨oc8, od8, .func (PySem.W.fnOf "_law_other" "_law_other" (defArgs s__law_other) (defBody s__law_other) (defScope s__law_other) .none kV8 dc8 pm8 an8 cd8 ct8), sl8⟩)
    (c8 : PySem.W.codeIn K cd8 "_law_other" = true)
    (k8 : PySem.W.keepIn K (.ref f8) = true)
    (a9 : PySem.W.nsIn K mainGlobals "ties_of" = some (some (.ref f9)))
    (l9 : K.lookup f9 = some ⟨oc9, od9, .func (PySem.W.fnOf "ties_of" "ties_of" (defArgs s_ties_of) (defBody s_ties_of) (defScope s_ties_of) .none kV9 dc9 pm9 an9 cd9 ct9), sl9⟩)
    (c9 : PySem.W.codeIn K cd9 "ties_of" = true)
    (k9 : PySem.W.keepIn K (.ref f9) = true)
    (a10 : PySem.W.nsIn K mainGlobals "is_list" = some (some (.ref f10)))
    (l10 : K.lookup f10 = some ⟨oc10, od10, .func (PySem.W.fnOf "is_list" "is_list" (defArgs s_is_list) (defBody s_is_list) (defScope s_is_list) .none kV10 dc10 pm10 an10 cd10 ct10), sl10⟩)
    (c10 : PySem.W.codeIn K cd10 "is_list" = true)
    (k10 : PySem.W.keepIn K (.ref f10) = true)
    (a11 : PySem.W.nsIn K mainGlobals "is_integer" = some (some (.ref f11)))
    (l11 : K.lookup f11 = some ⟨oc11, od11, .func (PySem.W.fnOf "is_integer" "is_integer" (defArgs s_is_integer) (defBody s_is_integer) (defScope s_is_integer) .none kV11 dc11 pm11 an11 cd11 ct11), sl11⟩)
    (c11 : PySem.W.codeIn K cd11 "is_integer" = true)
    (k11 : PySem.W.keepIn K (.ref f11) = true)
    (a12 : PySem.W.nsIn K mainGlobals "is_count" = some (some (.ref f12)))
    (l12 : K.lookup f12 = some ⟨oc12, od12, .func (PySem.W.fnOf "is_count" "is_count" (defArgs s_is_count) (defBody s_is_count) (defScope s_is_count) .none kV12 dc12 pm12 an12 cd12 ct12), sl12⟩)
    (c12 : PySem.W.codeIn K cd12 "is_count" = true)
    (k12 : PySem.W.keepIn K (.ref f12) = true)
    (a13 : PySem.W.nsIn K mainGlobals "lane_in" = some (some (.ref f13)))
    (l13 : K.lookup f13 = some ⟨oc13, od13, .func (PySem.W.fnOf "lane_in" "lane_in" (defArgs s_lane_in) (defBody s_lane_in) (defScope s_lane_in) .none kV13 dc13 pm13 an13 cd13 ct13), sl13⟩)
    (c13 : PySem.W.codeIn K cd13 "lane_in" = true)
    (k13 : PySem.W.keepIn K (.ref f13) = true)
    (a14 : PySem.W.nsIn K mainGlobals "is_whole" = some (some (.ref f14)))
    (l14 : K.lookup f14 = some ⟨oc14, od14, .func (PySem.W.fnOf "is_whole" "is_whole" (defArgs s_is_whole) (defBody s_is_whole) (defScope s_is_whole) .none kV14 dc14 pm14 an14 cd14 ct14), sl14⟩)
    (c14 : PySem.W.codeIn K cd14 "is_whole" = true)
    (k14 : PySem.W.keepIn K (.ref f14) = true)
    (a15 : PySem.W.nsIn K mainGlobals "lanes_in" = some (some (.ref f15)))
    (l15 : K.lookup f15 = some ⟨oc15, od15, .func (PySem.W.fnOf "lanes_in" "lanes_in" (defArgs s_lanes_in) (defBody s_lanes_in) (defScope s_lanes_in) .none kV15 dc15 pm15 an15 cd15 ct15), sl15⟩)
    (c15 : PySem.W.codeIn K cd15 "lanes_in" = true)
    (k15 : PySem.W.keepIn K (.ref f15) = true)
    (a16 : PySem.W.nsIn K mainGlobals "ahead_of" = some (some (.ref f16)))
    (l16 : K.lookup f16 = some ⟨oc16, od16, .func (PySem.W.fnOf "ahead_of" "ahead_of" (defArgs s_ahead_of) (defBody s_ahead_of) (defScope s_ahead_of) .none kV16 dc16 pm16 an16 cd16 ct16), sl16⟩)
    (c16 : PySem.W.codeIn K cd16 "ahead_of" = true)
    (k16 : PySem.W.keepIn K (.ref f16) = true)
    (a17 : PySem.W.findIn K (.ref C_Country) "__init__" = some (some (.ref f17)))
    (i17 : PySem.W.isFn K (.ref f17) = true)
    (l17 : K.lookup f17 = some ⟨oc17, od17, .func (PySem.W.fnOf "__init__" "Country.__init__" (defArgs s_Country_init) (defBody s_Country_init) (defScope s_Country_init) .none kV17 dc17 pm17 an17 cd17 ct17), sl17⟩)
    (c17 : PySem.W.codeIn K cd17 "Country.__init__" = true)
    (k17 : PySem.W.keepIn K (.ref f17) = true)
    (a18 : PySem.W.findIn K (.ref C_Country) "lanes" = some (some (.ref p18)))
    (pq18 : PySem.W.recIn K p18 "property" = some (.ref f18 :: rs18))
    (ps18 : PySem.W.specialIn K (.ref p18) "__get__" = some (some (.builtin "property.__get__")))
    (pt18 : PySem.W.takesIn K (.ref p18) = some true)
    (l18 : K.lookup f18 = some ⟨oc18, od18, .func (PySem.W.fnOf "lanes" "Country.lanes" (defArgs s_Country_lanes) (defBody s_Country_lanes) (defScope s_Country_lanes) .none kV18 dc18 pm18 an18 cd18 ct18), sl18⟩)
    (c18 : PySem.W.codeIn K cd18 "Country.lanes" = true)
    (k18 : PySem.W.keepIn K (.ref f18) = true)
    (a19 : PySem.W.findIn K (.ref C_Country) "yards" = some (some (.ref p19)))
    (pq19 : PySem.W.recIn K p19 "property" = some (.ref f19 :: rs19))
    (ps19 : PySem.W.specialIn K (.ref p19) "__get__" = some (some (.builtin "property.__get__")))
    (pt19 : PySem.W.takesIn K (.ref p19) = some true)
    (l19 : K.lookup f19 = some ⟨oc19, od19, .func (PySem.W.fnOf "yards" "Country.yards" (defArgs s_Country_yards) (defBody s_Country_yards) (defScope s_Country_yards) .none kV19 dc19 pm19 an19 cd19 ct19), sl19⟩)
    (c19 : PySem.W.codeIn K cd19 "Country.yards" = true)
    (k19 : PySem.W.keepIn K (.ref f19) = true)
    (a20 : PySem.W.findIn K (.ref C_Country) "gates" = some (some (.ref p20)))
    (pq20 : PySem.W.recIn K p20 "property" = some (.ref f20 :: rs20))
    (ps20 : PySem.W.specialIn K (.ref p20) "__get__" = some (some (.builtin "property.__get__")))
    (pt20 : PySem.W.takesIn K (.ref p20) = some true)
    (l20 : K.lookup f20 = some ⟨oc20, od20, .func (PySem.W.fnOf "gates" "Country.gates" (defArgs s_Country_gates) (defBody s_Country_gates) (defScope s_Country_gates) .none kV20 dc20 pm20 an20 cd20 ct20), sl20⟩)
    (c20 : PySem.W.codeIn K cd20 "Country.gates" = true)
    (k20 : PySem.W.keepIn K (.ref f20) = true)
    (a21 : PySem.W.findIn K (.ref C_Country) "neighbours" = some (some (.ref f21)))
    (i21 : PySem.W.isFn K (.ref f21) = true)
    (l21 : K.lookup f21 = some ⟨oc21, od21, .func (PySem.W.fnOf "neighbours" "Country.neighbours" (defArgs s_Country_neighbours) (defBody s_Country_neighbours) (defScope s_Country_neighbours) .none kV21 dc21 pm21 an21 cd21 ct21), sl21⟩)
    (c21 : PySem.W.codeIn K cd21 "Country.neighbours" = true)
    (k21 : PySem.W.keepIn K (.ref f21) = true)
    (a22 : PySem.W.findIn K (.ref C_Country) "__eq__" = some (some (.ref f22)))
    (i22 : PySem.W.isFn K (.ref f22) = true)
    (ne22 : PySem.W.findIn K (.ref C_Country) "__ne__" = some (some (.builtin "object.__ne__")))
    (l22 : K.lookup f22 = some ⟨oc22, od22, .func (PySem.W.fnOf "__eq__" "Country.__eq__" (defArgs s_Country_eq) (defBody s_Country_eq) (defScope s_Country_eq) .none kV22 dc22 pm22 an22 cd22 ct22), sl22⟩)
    (c22 : PySem.W.codeIn K cd22 "Country.__eq__" = true)
    (k22 : PySem.W.keepIn K (.ref f22) = true)
    (a23 : PySem.W.nsIn K mainGlobals "gates_in" = some (some (.ref f23)))
    (l23 : K.lookup f23 = some ⟨oc23, od23, .func (PySem.W.fnOf "gates_in" "gates_in" (defArgs s_gates_in) (defBody s_gates_in) (defScope s_gates_in) .none kV23 dc23 pm23 an23 cd23 ct23), sl23⟩)
    (c23 : PySem.W.codeIn K cd23 "gates_in" = true)
    (k23 : PySem.W.keepIn K (.ref f23) = true)
    (a24 : PySem.W.nsIn K mainGlobals "gate_pairs" = some (some (.ref f24)))
    (l24 : K.lookup f24 = some ⟨oc24, od24, .func (PySem.W.fnOf "gate_pairs" "gate_pairs" (defArgs s_gate_pairs) (defBody s_gate_pairs) (defScope s_gate_pairs) .none kV24 dc24 pm24 an24 cd24 ct24), sl24⟩)
    (c24 : PySem.W.codeIn K cd24 "gate_pairs" = true)
    (k24 : PySem.W.keepIn K (.ref f24) = true)
    (a25 : PySem.W.nsIn K mainGlobals "want_country" = some (some (.ref f25)))
    (l25 : K.lookup f25 = some ⟨oc25, od25, .func (PySem.W.fnOf "want_country" "want_country" (defArgs s_want_country) (defBody s_want_country) (defScope s_want_country) .none kV25 dc25 pm25 an25 cd25 ct25), sl25⟩)
    (c25 : PySem.W.codeIn K cd25 "want_country" = true)
    (k25 : PySem.W.keepIn K (.ref f25) = true)
    (a26 : PySem.W.nsIn K mainGlobals "all_ways" = some (some (.ref f26)))
    (l26 : K.lookup f26 = some ⟨oc26, od26, .func (PySem.W.fnOf "all_ways" "all_ways" (defArgs s_all_ways) (defBody s_all_ways) (defScope s_all_ways) .none kV26 dc26 pm26 an26 cd26 ct26), sl26⟩)
    (c26 : PySem.W.codeIn K cd26 "all_ways" = true)
    (k26 : PySem.W.keepIn K (.ref f26) = true)
    (a27 : PySem.W.nsIn K mainGlobals "_law_right" = some (some (.ref f27)))
    (l27 : K.lookup f27 = some ⟨oc27, od27, .func (PySem.W.fnOf "_law_right" "_law_right" (defArgs s__law_right) (defBody s__law_right) (defScope s__law_right) .none kV27 dc27 pm27 an27 cd27 ct27), sl27⟩)
    (c27 : PySem.W.codeIn K cd27 "_law_right" = true)
    (k27 : PySem.W.keepIn K (.ref f27) = true)
    (a28 : PySem.W.nsIn K mainGlobals "_law_pot" = some (some (.ref f28)))
    (l28 : K.lookup f28 = some ⟨oc28, od28, .func (PySem.W.fnOf "_law_pot" "_law_pot" (defArgs s__law_pot) (defBody s__law_pot) (defScope s__law_pot) .none kV28 dc28 pm28 an28 cd28 ct28), sl28⟩)
    (c28 : PySem.W.codeIn K cd28 "_law_pot" = true)
    (k28 : PySem.W.keepIn K (.ref f28) = true)
    (a29 : PySem.W.nsIn K mainGlobals "law" = some (some (.ref f29)))
    (l29 : K.lookup f29 = some ⟨oc29, od29, .func (PySem.W.fnOf "law" "law" (defArgs s_law) (defBody s_law) (defScope s_law) .none kV29 dc29 pm29 an29 cd29 ct29), sl29⟩)
    (c29 : PySem.W.codeIn K cd29 "law" = true)
    (k29 : PySem.W.keepIn K (.ref f29) = true)
    (pg_Country : PySem.W.plainGet K C_Country Str.empty = true)
    (hd_Country : PySem.W.hasDictIn K C_Country = true)
    (po_Country : PySem.W.plainOver K C_Country = true)
    (sa_Country : PySem.W.findIn K (.ref C_Country) "__setattr__" = some (some (.builtin "object.__setattr__")))
    (ha_Country : PySem.W.findIn K (.ref C_Country) "__class__" = some (some (.builtin "object.__class__")))
    (hn_Country : PySem.W.specialIn K (.builtin "object.__class__") "__get__" = some (some (.builtin "getset_descriptor.__get__")))
    (ht_Country : PySem.W.takesIn K (.builtin "object.__class__") = some true)
    (hm_Country : PySem.W.mroIn K C_Country (.type "object") = some true)
    (n_Country_own_ahead : PySem.W.findIn K (.ref C_Country) "own_ahead" = some none)
    (n_Country_own_lanes : PySem.W.findIn K (.ref C_Country) "own_lanes" = some none)
    (n_Country_own_ties : PySem.W.findIn K (.ref C_Country) "own_ties" = some none)
    (ty_Country : PySem.W.typeIn K (.ref C_Country) = some (.type "type"))
    (mk_Country : PySem.W.makesIn K C_Country = true)
    (kc_Country : PySem.W.keepIn K (.ref C_Country) = true)
    (z_abs : PySem.W.nsIn K mainGlobals "abs" = some none)
    (z_all : PySem.W.nsIn K mainGlobals "all" = some none)
    (z_any : PySem.W.nsIn K mainGlobals "any" = some none)
    (z_bool : PySem.W.nsIn K mainGlobals "bool" = some none)
    (z_divmod : PySem.W.nsIn K mainGlobals "divmod" = some none)
    (z_enumerate : PySem.W.nsIn K mainGlobals "enumerate" = some none)
    (z_int : PySem.W.nsIn K mainGlobals "int" = some none)
    (z_isinstance : PySem.W.nsIn K mainGlobals "isinstance" = some none)
    (z_len : PySem.W.nsIn K mainGlobals "len" = some none)
    (z_list : PySem.W.nsIn K mainGlobals "list" = some none)
    (z_max : PySem.W.nsIn K mainGlobals "max" = some none)
    (z_min : PySem.W.nsIn K mainGlobals "min" = some none)
    (z_range : PySem.W.nsIn K mainGlobals "range" = some none)
    (z_repr : PySem.W.nsIn K mainGlobals "repr" = some none)
    (z_set : PySem.W.nsIn K mainGlobals "set" = some none)
    (z_sorted : PySem.W.nsIn K mainGlobals "sorted" = some none)
    (z_tuple : PySem.W.nsIn K mainGlobals "tuple" = some none)
    (g_MOST_LANES : PySem.W.nsIn K mainGlobals "MOST_LANES" = some (some (.int 4 t_MOST_LANES)))
    (g_MOST_YARDS : PySem.W.nsIn K mainGlobals "MOST_YARDS" = some (some (.int 7 t_MOST_YARDS))) :
    ∃ fd : FuncData, (∀ (s : Shared) (v : Value), BindsTo s fd ⟨[v], []⟩ [("_law_script", v)]) ∧ ∀ base : Heap, K.In base → base.Ns mainGlobals mg → FnG l.prog w K mg base 8 fa fd ["_law_script"] m_law := by
  have ea := hfa.symm.trans (PySem.W.mg_of X G a29)
  cases ea
  have T : Txt K mg := {
    n_abs := PySem.W.mg_none_of X G z_abs,
    n_all := PySem.W.mg_none_of X G z_all,
    n_any := PySem.W.mg_none_of X G z_any,
    n_bool := PySem.W.mg_none_of X G z_bool,
    n_divmod := PySem.W.mg_none_of X G z_divmod,
    n_enumerate := PySem.W.mg_none_of X G z_enumerate,
    n_int := PySem.W.mg_none_of X G z_int,
    n_isinstance := PySem.W.mg_none_of X G z_isinstance,
    n_len := PySem.W.mg_none_of X G z_len,
    n_list := PySem.W.mg_none_of X G z_list,
    n_max := PySem.W.mg_none_of X G z_max,
    n_min := PySem.W.mg_none_of X G z_min,
    n_range := PySem.W.mg_none_of X G z_range,
    n_repr := PySem.W.mg_none_of X G z_repr,
    n_set := PySem.W.mg_none_of X G z_set,
    n_sorted := PySem.W.mg_none_of X G z_sorted,
    n_tuple := PySem.W.mg_none_of X G z_tuple,
    g_MOST_LANES := ⟨_, PySem.W.mg_of X G g_MOST_LANES⟩,
    g_MOST_YARDS := ⟨_, PySem.W.mg_of X G g_MOST_YARDS⟩,
    C_Country := ⟨_, PySem.W.mg_of X G aC_Country, { cl := ⟨pg_Country, hd_Country, po_Country, sa_Country⟩, isi := ⟨⟨pg_Country, hd_Country, po_Country, sa_Country⟩, ha_Country, hn_Country, ht_Country, hm_Country, if_pos (beq_self_eq_true _)⟩, a_own_ahead := n_Country_own_ahead, a_own_lanes := n_Country_own_lanes, a_own_ties := n_Country_own_ties, ty := ty_Country, p_lanes := ⟨_, _, _, ⟨a18, ps18, pt18, _, pq18⟩, fun_mk (st := s_Country_lanes) l18 c18 k18⟩, p_yards := ⟨_, _, _, ⟨a19, ps19, pt19, _, pq19⟩, fun_mk (st := s_Country_yards) l19 c19 k19⟩, p_gates := ⟨_, _, _, ⟨a20, ps20, pt20, _, pq20⟩, fun_mk (st := s_Country_gates) l20 c20 k20⟩, m_neighbours := ⟨_, _, ⟨a21, i21, k21⟩, fun_mk (st := s_Country_neighbours) l21 c21 k21⟩, eq := ⟨_, _, a22, i22, ne22, fun_mk (st := s_Country_eq) l22 c22 k22⟩, made := ⟨_, _, ⟨mk_Country, a17, i17, kc_Country⟩, fun_mk (st := s_Country_init) l17 c17 k17⟩ }⟩,
    F__law_draw := ⟨_, _, fun_mk (st := s__law_draw) l1 c1 k1, PySem.W.mg_of X G a1⟩,
    F__law_pick := ⟨_, _, fun_mk (st := s__law_pick) l2 c2 k2, PySem.W.mg_of X G a2⟩,
    F__law_drawn := ⟨_, _, fun_mk (st := s__law_drawn) l3 c3 k3, PySem.W.mg_of X G a3⟩,
    F__law_told_otherwise := ⟨_, _, fun_mk (st := s__law_told_otherwise) l4 c4 k4, PySem.W.mg_of X G a4⟩,
    F__law_beside := ⟨_, _, fun_mk (st := s__law_beside) l5 c5 k5, PySem.W.mg_of X G a5⟩,
    F__law_gates := ⟨_, _, fun_mk (st := s__law_gates) l6 c6 k6, PySem.W.mg_of X G a6⟩,
    F__law_yards := ⟨_, _, fun_mk (st := s__law_yards) l7 c7 k7, PySem.W.mg_of X G a7⟩,
    F__law_other := ⟨_, _, fun_mk (st := s__law_other) l8 c8 k8, PySem.W.mg_of X G a8⟩,
    F_ties_of := ⟨_, _, fun_mk (st := s_ties_of) l9 c9 k9, PySem.W.mg_of X G a9⟩,
    F_is_list := ⟨_, _, fun_mk (st := s_is_list) l10 c10 k10, PySem.W.mg_of X G a10⟩,
    F_is_integer := ⟨_, _, fun_mk (st := s_is_integer) l11 c11 k11, PySem.W.mg_of X G a11⟩,
    F_is_count := ⟨_, _, fun_mk (st := s_is_count) l12 c12 k12, PySem.W.mg_of X G a12⟩,
    F_lane_in := ⟨_, _, fun_mk (st := s_lane_in) l13 c13 k13, PySem.W.mg_of X G a13⟩,
    F_is_whole := ⟨_, _, fun_mk (st := s_is_whole) l14 c14 k14, PySem.W.mg_of X G a14⟩,
    F_lanes_in := ⟨_, _, fun_mk (st := s_lanes_in) l15 c15 k15, PySem.W.mg_of X G a15⟩,
    F_ahead_of := ⟨_, _, fun_mk (st := s_ahead_of) l16 c16 k16, PySem.W.mg_of X G a16⟩,
    F_gates_in := ⟨_, _, fun_mk (st := s_gates_in) l23 c23 k23, PySem.W.mg_of X G a23⟩,
    F_gate_pairs := ⟨_, _, fun_mk (st := s_gate_pairs) l24 c24 k24, PySem.W.mg_of X G a24⟩,
    F_want_country := ⟨_, _, fun_mk (st := s_want_country) l25 c25 k25, PySem.W.mg_of X G a25⟩,
    F_all_ways := ⟨_, _, fun_mk (st := s_all_ways) l26 c26 k26, PySem.W.mg_of X G a26⟩,
    F__law_right := ⟨_, _, fun_mk (st := s__law_right) l27 c27 k27, PySem.W.mg_of X G a27⟩,
    F__law_pot := ⟨_, _, fun_mk (st := s__law_pot) l28 c28 k28, PySem.W.mg_of X G a28⟩,
    F_law := ⟨_, _, fun_mk (st := s_law) l29 c29 k29, PySem.W.mg_of X G a29⟩ }
  exact ⟨PySem.W.fnOf "law" "law" (defArgs s_law) (defBody s_law) (defScope s_law) .none kV29 dc29 pm29 an29 cd29 ct29, fun s v => .of_eq rfl, fun base _ _ => fg_law T (fun_mk (st := s_law) l29 c29 k29)⟩
theorem walk {l : PySem.W.OpenLaw} {q : Program} {loose : List Str} {XP : (Str → Option Value) → Heap → Prop} {YP : World → Heap → Prop} {d : DefRec} {K : Params → PySem.W.Frag} (hn : l.most = some 63) (hdf : d.params.defaults = [])
    (hY : ∀ (w : World) (h : Heap), YP w h → (K w.params).In h)
    (F : ∀ (w : World) (mg : Str → Option Value) (fa : Addr) (h : Heap), (K w.params).In h → h.Ns mainGlobals mg → mg d.name = some (.ref fa) →
      ∃ fd : FuncData, (∀ (s : Shared) (u : Value), BindsTo s fd ⟨[u], []⟩ [("_law_script", u)]) ∧ ∀ base : Heap, (K w.params).In base → base.Ns mainGlobals mg → FnG l.prog w (K w.params) mg base 8 fa fd ["_law_script"] m_law) :
    PySem.W.WalkO q loose XP YP l.row.toRowW d [] (fun f vs => PySem.call f vs) :=
  walk_ofG (n := 63) (k := 8) hn (by decide) hdf ⟨rfl, by decide, by decide⟩ hY F fun ns hl => holds ns hl
end K11
open PySem PySem.W PyProof.Rows in
set_option maxRecDepth 100000 in
set_option maxHeartbeats 0 in
theorem PySem.Challenge.cw_lanekeepers_k11_whole_countries_told_holds : PySem.Challenge.rw_lanekeepers_k11_whole_countries_told.Holds := by
  w_on; o_law; k_head; (case hw => w_witness2)
  k_fill
  refine K11.walk (l := PySem.Challenge.rw_lanekeepers_k11_whole_countries_told) rfl rfl (fun w h Y => PySem.W.kIn_of Y) ?F
  case F =>
    intro w mg fa h KX G hmg
    refine' K11.all_mk KX G hmg ?aC_Country ?a1 ?l1 ?c1 ?k1 ?a2 ?l2 ?c2 ?k2 ?a3 ?l3 ?c3 ?k3 ?a4 ?l4 ?c4 ?k4 ?a5 ?l5 ?c5 ?k5 ?a6 ?l6 ?c6 ?k6 ?a7 ?l7 ?c7 ?k7 ?a8 ?l8 ?c8 ?k8 ?a9 ?l9 ?c9 ?k9 ?a10 ?l10 ?c10 ?k10 ?a11 ?l11 ?c11 ?k11 ?a12 ?l12 ?c12 ?k12 ?a13 ?l13 ?c13 ?k13 ?a14 ?l14 ?c14 ?k14 ?a15 ?l15 ?c15 ?k15 ?a16 ?l16 ?c16 ?k16 ?a17 ?i17 ?l17 ?c17 ?k17 ?a18 ?pq18 ?ps18 ?pt18 ?l18 ?c18 ?k18 ?a19 ?pq19 ?ps19 ?pt19 ?l19 ?c19 ?k19 ?a20 ?pq20 ?ps20 ?pt20 ?l20 ?c20 ?k20 ?a21 ?i21 ?l21 ?c21 ?k21 ?a22 ?i22 ?ne22 ?l22 ?c22 ?k22 ?a23 ?l23 ?c23 ?k23 ?a24 ?l24 ?c24 ?k24 ?a25 ?l25 ?c25 ?k25 ?a26 ?l26 ?c26 ?k26 ?a27 ?l27 ?c27 ?k27 ?a28 ?l28 ?c28 ?k28 ?a29 ?l29 ?c29 ?k29 ?pg_Country ?hd_Country ?po_Country ?sa_Country ?ha_Country ?hn_Country ?ht_Country ?hm_Country ?n_Country_own_ahead ?n_Country_own_lanes ?n_Country_own_ties ?ty_Country ?mk_Country ?kc_Country ?z_abs ?z_all ?z_any ?z_bool ?z_divmod ?z_enumerate ?z_int ?z_isinstance ?z_len ?z_list ?z_max ?z_min ?z_range ?z_repr ?z_set ?z_sorted ?z_tuple ?g_MOST_LANES ?g_MOST_YARDS
    (case aC_Country => k_is)
    (case a1 => k_is)
    (case l1 => k_is)
    (case c1 => k_is)
    (case k1 => k_is)
    (case a2 => k_is)
    (case l2 => k_is)
    (case c2 => k_is)
    (case k2 => k_is)
    (case a3 => k_is)
    (case l3 => k_is)
    (case c3 => k_is)
    (case k3 => k_is)
    (case a4 => k_is)
    (case l4 => k_is)
    (case c4 => k_is)
    (case k4 => k_is)
    (case a5 => k_is)
    (case l5 => k_is)
    (case c5 => k_is)
    (case k5 => k_is)
    (case a6 => k_is)
    (case l6 => k_is)
    (case c6 => k_is)
    (case k6 => k_is)
    (case a7 => k_is)
    (case l7 => k_is)
    (case c7 => k_is)
    (case k7 => k_is)
    (case a8 => k_is)
    (case l8 => k_is)
    (case c8 => k_is)
    (case k8 => k_is)
    (case a9 => k_is)
    (case l9 => k_is)
    (case c9 => k_is)
    (case k9 => k_is)
    (case a10 => k_is)
    (case l10 => k_is)
    (case c10 => k_is)
    (case k10 => k_is)
    (case a11 => k_is)
    (case l11 => k_is)
    (case c11 => k_is)
    (case k11 => k_is)
    (case a12 => k_is)
    (case l12 => k_is)
    (case c12 => k_is)
    (case k12 => k_is)
    (case a13 => k_is)
    (case l13 => k_is)
    (case c13 => k_is)
    (case k13 => k_is)
    (case a14 => k_is)
    (case l14 => k_is)
    (case c14 => k_is)
    (case k14 => k_is)
    (case a15 => k_is)
    (case l15 => k_is)
    (case c15 => k_is)
    (case k15 => k_is)
    (case a16 => k_is)
    (case l16 => k_is)
    (case c16 => k_is)
    (case k16 => k_is)
    (case a17 => k_is)
    (case i17 => k_is)
    (case l17 => k_is)
    (case c17 => k_is)
    (case k17 => k_is)
    (case a18 => k_is)
    (case pq18 => k_is)
    (case ps18 => k_is)
    (case pt18 => k_is)
    (case l18 => k_is)
    (case c18 => k_is)
    (case k18 => k_is)
    (case a19 => k_is)
    (case pq19 => k_is)
    (case ps19 => k_is)
    (case pt19 => k_is)
    (case l19 => k_is)
    (case c19 => k_is)
    (case k19 => k_is)
    (case a20 => k_is)
    (case pq20 => k_is)
    (case ps20 => k_is)
    (case pt20 => k_is)
    (case l20 => k_is)
    (case c20 => k_is)
    (case k20 => k_is)
    (case a21 => k_is)
    (case i21 => k_is)
    (case l21 => k_is)
    (case c21 => k_is)
    (case k21 => k_is)
    (case a22 => k_is)
    (case i22 => k_is)
    (case ne22 => k_is)
    (case l22 => k_is)
    (case c22 => k_is)
    (case k22 => k_is)
    (case a23 => k_is)
    (case l23 => k_is)
    (case c23 => k_is)
    (case k23 => k_is)
    (case a24 => k_is)
    (case l24 => k_is)
    (case c24 => k_is)
    (case k24 => k_is)
    (case a25 => k_is)
    (case l25 => k_is)
    (case c25 => k_is)
    (case k25 => k_is)
    (case a26 => k_is)
    (case l26 => k_is)
    (case c26 => k_is)
    (case k26 => k_is)
    (case a27 => k_is)
    (case l27 => k_is)
    (case c27 => k_is)
    (case k27 => k_is)
    (case a28 => k_is)
    (case l28 => k_is)
    (case c28 => k_is)
    (case k28 => k_is)
    (case a29 => k_is)
    (case l29 => k_is)
    (case c29 => k_is)
    (case k29 => k_is)
    (case pg_Country => k_is)
    (case hd_Country => k_is)
    (case po_Country => k_is)
    (case sa_Country => k_is)
    (case ha_Country => k_is)
    (case hn_Country => k_is)
    (case ht_Country => k_is)
    (case hm_Country => k_is)
    (case n_Country_own_ahead => k_is)
    (case n_Country_own_lanes => k_is)
    (case n_Country_own_ties => k_is)
    (case ty_Country => k_is)
    (case mk_Country => k_is)
    (case kc_Country => k_is)
    (case z_abs => k_is)
    (case z_all => k_is)
    (case z_any => k_is)
    (case z_bool => k_is)
    (case z_divmod => k_is)
    (case z_enumerate => k_is)
    (case z_int => k_is)
    (case z_isinstance => k_is)
    (case z_len => k_is)
    (case z_list => k_is)
    (case z_max => k_is)
    (case z_min => k_is)
    (case z_range => k_is)
    (case z_repr => k_is)
    (case z_set => k_is)
    (case z_sorted => k_is)
    (case z_tuple => k_is)
    (case g_MOST_LANES => k_is)
    (case g_MOST_YARDS => k_is)
#print axioms PySem.Challenge.cw_lanekeepers_k11_whole_countries_told_holds
