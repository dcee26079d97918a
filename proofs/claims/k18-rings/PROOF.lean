import PyProof.Rows.All
import Wide.All
import OpenK.AllK
import Wide.FinOn
import HandS.ForMost
import HandS.More
import HandS.Conv
import HandS.NoneIn
import HandS.Deep
import HandS.IsInst
import HandS.Head0
import HandS.Head1
import HandS.Head2
import HandS.HeadEnd
import HandS.HeadHook1
import HandS.HeadHook2
import HandS.Replace
import HandS.Text
import HandS.DeepEq
import KE.LtData
import KE.DataEq
import PySem.Challenge.RW_menutree_k18_rings_of_hours
set_option Elab.async false
set_option linter.all false
set_option maxRecDepth 100000
set_option maxHeartbeats 4000000
namespace DL
open PySem PySem.Spec PyProof.Rows L2

abbrev D := PyData
abbrev Fg := PySem.W.Frag

/-! ### heaps up to locks -/
def IsDc : HO → Prop
  | .dK _ => True
  | .dT _ => True
  | _ => False
def Ct (u o : HO) : Prop := o = u ∨ ∃ p, o = .frz p u
/-- the same up to locks -/
def Sw (o o' : HO) : Prop := o' = o ∨ ∃ u, IsDc u ∧ Ct u o ∧ Ct u o'
theorem ct_uniq {u v o : HO} (hu : IsDc u) (hv : IsDc v) (a : Ct u o) (b : Ct v o) : u = v := by
  rcases a with a | ⟨p, a⟩ <;> rcases b with b | ⟨q, b⟩
  · rw [← a, ← b]
  · rw [a] at b; subst b; exact hu.elim
  · rw [a] at b; subst b; exact hv.elim
  · rw [a] at b; cases b; rfl
theorem Sw.eq {o p : HO} (h : Sw o p) (n : ∀ u, IsDc u → ¬ Ct u o) : p = o := by
  rcases h with h | ⟨u, hu, a, _⟩
  · exact h
  · exact (n u hu a).elim
def Kw (H H' : Hp) : Prop := ∀ a o, H a = some o → ∃ o', H' a = some o' ∧ Sw o o'
theorem Kw.same {H H' : Hp} (e : Kw H H') {a : Addr} {o : HO} (h : H a = some o) (n : ∀ u, IsDc u → ¬ Ct u o) : H' a = some o := by
  obtain ⟨o', h', s⟩ := e a o h
  rw [h', s.eq n]
theorem noct_lst {xs : List V} : ∀ u, IsDc u → ¬ Ct u (.lst xs) := fun u hu h => by
  rcases h with h | ⟨p, h⟩
  · subst h; exact hu
  · cases h
theorem noct_tup {xs : List V} : ∀ u, IsDc u → ¬ Ct u (.tup xs) := fun u hu h => by
  rcases h with h | ⟨p, h⟩
  · subst h; exact hu
  · cases h
theorem noct_frzl {o : Obj} {xs : List V} : ∀ u, IsDc u → ¬ Ct u (.frz o (.lst xs)) := fun u hu h => by
  rcases h with h | ⟨p, h⟩
  · subst h; exact hu
  · cases h; exact hu
theorem Kw.lst {H H' : Hp} (e : Kw H H') {a : Addr} {xs : List V} (h : H a = some (.lst xs)) : H' a = some (.lst xs) := e.same h noct_lst
theorem Kw.tup {H H' : Hp} (e : Kw H H') {a : Addr} {xs : List V} (h : H a = some (.tup xs)) : H' a = some (.tup xs) := e.same h noct_tup
theorem Kw.sql {K : Fg} {H H' : Hp} (e : Kw H H') {a : Addr} {xs : List V} (h : SqL K H a xs) : SqL K H' a xs := by
  rcases h with (h | ⟨o, h⟩) | h
  · exact .inl (.inl (e.lst h))
  · exact .inl (.inr ⟨o, e.same h noct_frzl⟩)
  · exact .inr h
theorem rd_ct {H : Hp} {a : Addr} {u : HO} : Rd H a u ↔ ∃ o, H a = some o ∧ Ct u o := by
  constructor
  · rintro (h | ⟨p, h⟩)
    · exact ⟨_, h, .inl rfl⟩
    · exact ⟨_, h, .inr ⟨p, rfl⟩⟩
  · rintro ⟨o, h, rfl | ⟨p, rfl⟩⟩
    · exact .inl h
    · exact .inr ⟨p, h⟩
theorem Kw.rd {H H' : Hp} (e : Kw H H') {a : Addr} {u : HO} (hu : IsDc u) (h : Rd H a u) : Rd H' a u := by
  obtain ⟨o, h1, c⟩ := rd_ct.mp h
  obtain ⟨o', h2, s⟩ := e a o h1
  refine rd_ct.mpr ⟨o', h2, ?_⟩
  rcases s with rfl | ⟨v, hv, b1, b2⟩
  · exact c
  · have := ct_uniq hu hv c b1
    subst this
    exact b2
/-- the same, or a dict that is locked now -/
def Sm (o o' : HO) : Prop := o' = o ∨ (IsDc o ∧ ∃ p, o' = .frz p o)
theorem Sm.refl (o : HO) : Sm o o := .inl rfl
theorem Sm.w {o o' : HO} (h : Sm o o') : Sw o o' := by
  rcases h with rfl | ⟨hd, p, rfl⟩
  · exact .inl rfl
  · exact .inr ⟨o, hd, .inl rfl, .inr ⟨p, rfl⟩⟩
theorem Sm.trans {o p q : HO} (a : Sm o p) (b : Sm p q) : Sm o q := by
  rcases a with rfl | ⟨hd, r, rfl⟩
  · exact b
  · rcases b with rfl | ⟨h, _⟩
    · exact .inr ⟨hd, r, rfl⟩
    · exact h.elim
def Kx (H H' : Hp) : Prop := ∀ a o, H a = some o → ∃ o', H' a = some o' ∧ Sm o o'
theorem Kx.w {H H' : Hp} (e : Kx H H') : Kw H H' := fun a o h => let ⟨o', h', s⟩ := e a o h; ⟨o', h', s.w⟩
theorem Kx.refl (H : Hp) : Kx H H := fun _ o h => ⟨o, h, .refl o⟩
theorem Kx.trans {H H1 H2 : Hp} (a : Kx H H1) (b : Kx H1 H2) : Kx H H2 := fun x o h => by
  obtain ⟨o1, h1, s1⟩ := a x o h
  obtain ⟨o2, h2, s2⟩ := b x o1 h1
  exact ⟨o2, h2, s1.trans s2⟩
theorem Kx.ne {H H' : Hp} (e : Kx H H') {a : Addr} {o : HO} (h : H a = some o) : ∃ o', H' a = some o' := let ⟨o', h', _⟩ := e a o h; ⟨o', h'⟩
theorem Kx.back {H H' : Hp} (e : Kx H H') {a : Addr} (h : H' a = none) : H a = none := by
  cases q : H a with
  | none => rfl
  | some o =>
    obtain ⟨o', h', _⟩ := e a o q
    rw [h] at h'; cases h'
theorem Kx.lst {H H' : Hp} (e : Kx H H') {a : Addr} {xs : List V} (h : H a = some (.lst xs)) : H' a = some (.lst xs) := e.w.lst h
theorem Kx.tup {H H' : Hp} (e : Kx H H') {a : Addr} {xs : List V} (h : H a = some (.tup xs)) : H' a = some (.tup xs) := e.w.tup h
theorem Kx.sql {K : Fg} {H H' : Hp} (e : Kx H H') {a : Addr} {xs : List V} (h : SqL K H a xs) : SqL K H' a xs := e.w.sql h
theorem Kx.rd {H H' : Hp} (e : Kx H H') {a : Addr} {u : HO} (hu : IsDc u) (h : Rd H a u) : Rd H' a u := e.w.rd hu h
theorem Kx.frz {H H' : Hp} (e : Kx H H') {a : Addr} {p : Obj} {u : HO} (h : H a = some (.frz p u)) : H' a = some (.frz p u) := by
  obtain ⟨o', h', s⟩ := e a _ h
  rcases s with rfl | ⟨z, _⟩
  · exact h'
  · exact z.elim
theorem Kx.new {H : Hp} {p : Addr} {o : HO} (h : H p = none) : Kx H (upd H p o) := fun a u e =>
  ⟨u, by rw [upd_ne (ne_of_none e h)]; exact e, .refl u⟩
theorem Kx.mut {H H' : Hp} {p : Addr} {o : HO} (e : Kx H H') (h : H p = none) : Kx H (upd H' p o) := fun a u ha => by
  obtain ⟨o', h', s⟩ := e a u ha
  exact ⟨o', by rw [upd_ne (ne_of_none ha h)]; exact h', s⟩
theorem Kx.both {H H' : Hp} {p : Addr} {o : HO} (e : Kx H H') : Kx (upd H p o) (upd H' p o) := fun a u ha => by
  by_cases ha' : a = p
  · subst ha'
    rw [upd_same] at ha ⊢
    cases ha
    exact ⟨_, rfl, .refl _⟩
  · rw [upd_ne ha'] at ha ⊢
    exact e a u ha

/-! ### data -/
def kD : Key → D
  | .inl i => .int i
  | .inr x => .str x
mutual
inductive Dn (K : Fg) (F : Hp) : V → D → Prop
  | non : Dn K F .non .none
  | bl (b : Bool) : Dn K F (.bl b) (.bool b)
  | int (i : Int) : Dn K F (.int i) (.int i)
  | str (x : Str) : Dn K F (.str x) (.str x)
  | lst {a : Addr} {xs : List V} {ds : List D} : SqL K F a xs → DnAll K F xs ds → Dn K F (.ref a) (.list ds)
  | tup {a : Addr} {xs : List V} {ds : List D} : F a = some (.tup xs) → DnAll K F xs ds → Dn K F (.ref a) (.tuple ds)
  | dic {a : Addr} {kvs : List (Key × V)} {ds : List (D × D)} : Rd F a (.dK kvs) → DnKv K F kvs ds → Dn K F (.ref a) (.dict ds)
inductive DnAll (K : Fg) (F : Hp) : List V → List D → Prop
  | nil : DnAll K F [] []
  | cons {v : V} {vs : List V} {d : D} {ds : List D} : Dn K F v d → DnAll K F vs ds → DnAll K F (v :: vs) (d :: ds)
inductive DnKv (K : Fg) (F : Hp) : List (Key × V) → List (D × D) → Prop
  | nil : DnKv K F [] []
  | cons {k : Key} {v : V} {vs : List (Key × V)} {d : D} {ds : List (D × D)} : Dn K F v d → DnKv K F vs ds → DnKv K F ((k, v) :: vs) ((kD k, d) :: ds)
end
mutual
theorem Dn.monoW {K : Fg} {F F' : Hp} (e : Kw F F') : ∀ {v : V} {d : D}, Dn K F v d → Dn K F' v d
  | _, _, .non => .non
  | _, _, .bl b => .bl b
  | _, _, .int i => .int i
  | _, _, .str x => .str x
  | _, _, .lst h a => .lst (e.sql h) (a.monoW e)
  | _, _, .tup h a => .tup (e.tup h) (a.monoW e)
  | _, _, .dic h a => .dic (e.rd trivial h) (a.monoW e)
theorem DnAll.monoW {K : Fg} {F F' : Hp} (e : Kw F F') : ∀ {vs : List V} {ds : List D}, DnAll K F vs ds → DnAll K F' vs ds
  | _, _, .nil => .nil
  | _, _, .cons h t => .cons (h.monoW e) (t.monoW e)
theorem DnKv.monoW {K : Fg} {F F' : Hp} (e : Kw F F') : ∀ {vs : List (Key × V)} {ds : List (D × D)}, DnKv K F vs ds → DnKv K F' vs ds
  | _, _, .nil => .nil
  | _, _, .cons h t => .cons (h.monoW e) (t.monoW e)
end
theorem Dn.mono {K : Fg} {F F' : Hp} (e : Kx F F') {v : V} {d : D} (h : Dn K F v d) : Dn K F' v d := h.monoW e.w
theorem DnAll.mono {K : Fg} {F F' : Hp} (e : Kx F F') {vs : List V} {ds : List D} (h : DnAll K F vs ds) : DnAll K F' vs ds := h.monoW e.w
theorem DnKv.mono {K : Fg} {F F' : Hp} (e : Kx F F') {vs : List (Key × V)} {ds : List (D × D)} (h : DnKv K F vs ds) : DnKv K F' vs ds := h.monoW e.w
section
variable {K : Fg} {F F' H H' : Hp}
theorem DnAll.len {vs : List V} {ds : List D} (h : DnAll K F vs ds) : vs.length = ds.length := by
  induction ds generalizing vs with
  | nil => cases h; rfl
  | cons d ds ih => cases h with | cons _ t => simp [ih t]
theorem DnAll.get {vs : List V} {ds : List D} (h : DnAll K F vs ds) {i : Nat} {d : D} (e : ds[i]? = some d) : ∃ v, vs[i]? = some v ∧ Dn K F v d := by
  induction ds generalizing vs i with
  | nil => simp at e
  | cons d ds ih =>
    cases h with
    | cons h t =>
      cases i with
      | zero => simp at e; subst e; exact ⟨_, rfl, h⟩
      | succ i => exact ih t (by simpa using e)
theorem DnAll.app {vs ws : List V} {ds es : List D} (h : DnAll K F vs ds) (g : DnAll K F ws es) : DnAll K F (vs ++ ws) (ds ++ es) := by
  induction ds generalizing vs with
  | nil => cases h; exact g
  | cons d ds ih => cases h with | cons h t => exact .cons h (ih t)
theorem DnAll.drop {vs : List V} {ds : List D} (h : DnAll K F vs ds) : ∀ n : Nat, DnAll K F (vs.drop n) (ds.drop n) := by
  induction ds generalizing vs with
  | nil => intro n; cases h; simpa using DnAll.nil
  | cons d ds ih =>
    intro n
    cases h with
    | cons h t =>
      cases n with
      | zero => exact .cons h t
      | succ n => exact ih t n
theorem DnAll.take {vs : List V} {ds : List D} (h : DnAll K F vs ds) : ∀ n : Nat, DnAll K F (vs.take n) (ds.take n) := by
  induction ds generalizing vs with
  | nil => intro n; cases h; simpa using DnAll.nil
  | cons d ds ih =>
    intro n
    cases h with
    | cons h t =>
      cases n with
      | zero => exact .nil
      | succ n => exact .cons h (ih t n)
theorem DnAll.set {vs : List V} {ds : List D} (h : DnAll K F vs ds) {v : V} {d : D} (e : Dn K F v d) : ∀ n : Nat, DnAll K F (vs.set n v) (ds.set n d) := by
  induction ds generalizing vs with
  | nil => intro n; cases h; exact .nil
  | cons x ds ih =>
    intro n
    cases h with
    | cons h t =>
      cases n with
      | zero => exact .cons e t
      | succ n => exact .cons h (ih t n)
theorem DnAll.reverse {vs : List V} {ds : List D} (h : DnAll K F vs ds) : DnAll K F vs.reverse ds.reverse := by
  induction ds generalizing vs with
  | nil => cases h; exact .nil
  | cons d ds ih =>
    cases h with
    | cons h t =>
      rw [List.reverse_cons, List.reverse_cons]
      exact (ih t).app (.cons h .nil)
theorem DnAll.ints : ∀ ns : List Int, DnAll K F (ns.map V.int) (ns.map PyData.int)
  | [] => .nil
  | n :: ns => .cons (.int n) (DnAll.ints ns)
theorem DnAll.strs : ∀ ns : List Str, DnAll K F (ns.map V.str) (ns.map PyData.str)
  | [] => .nil
  | n :: ns => .cons (.str n) (DnAll.strs ns)
theorem DnAll.strs_inv {vs : List V} {ns : List Str} (h : DnAll K F vs (ns.map PyData.str)) : vs = ns.map V.str := by
  induction ns generalizing vs with
  | nil => cases h; rfl
  | cons n ns ih => cases h with | cons h t => cases h; rw [ih t]; rfl
theorem DnAll.ints_inv {vs : List V} {ns : List Int} (h : DnAll K F vs (ns.map PyData.int)) : vs = ns.map V.int := by
  induction ns generalizing vs with
  | nil => cases h; rfl
  | cons n ns ih => cases h with | cons h t => cases h; rw [ih t]; rfl
theorem DnKv.len {vs : List (Key × V)} {ds : List (D × D)} (h : DnKv K F vs ds) : vs.length = ds.length := by
  induction ds generalizing vs with
  | nil => cases h; rfl
  | cons d ds ih => cases h with | cons _ t => simp [ih t]
end

/-! ### what an evaluation leaves: F, what is known to stand for ever; H, all that is tracked -/
structure Ext (F H F' H' : Hp) : Prop where
  f : Kx F F'
  h : Kx H H'
  i : Kx F' H'
  n : ∀ a, F a = none → F' a ≠ none → H a = none
  o : ∀ a o, F a = none → H a = some o → H' a = some o
theorem Ext.fr {F H F' H' : Hp} (e : Ext F H F' H') {a : Addr} {o : HO} (h1 : F a = none) (h2 : H a = some o) : F' a = none := by
  cases z : F' a with
  | none => rfl
  | some u =>
    have := e.n a h1 (by rw [z]; simp)
    rw [h2] at this; cases this
theorem Ext.trans {F H F1 H1 F2 H2 : Hp} (a : Ext F H F1 H1) (b : Ext F1 H1 F2 H2) : Ext F H F2 H2 :=
  ⟨a.f.trans b.f, a.h.trans b.h, b.i, fun x hx h2 => by
    cases q : F1 x with
    | none => exact a.h.back (b.n x q h2)
    | some o => exact a.n x hx (by rw [q]; simp),
   fun x o h1 h2 => b.o x o (a.fr h1 h2) (a.o x o h1 h2)⟩
theorem Ext.refl {F H : Hp} (e : Kx F H) : Ext F H F H := ⟨.refl _, .refl _, e, fun _ h h' => absurd h h', fun _ _ _ h => h⟩
theorem Ext.new {F H : Hp} (e : Kx F H) {p : Addr} {o : HO} (hp : H p = none) : Ext F H (upd F p o) (upd H p o) :=
  ⟨.new (e.back hp), .new hp, e.both, fun a ha h' => by
    by_cases q : a = p
    · subst q; exact hp
    · rw [upd_ne q] at h'; exact absurd ha h', fun a u _ h2 => by rw [upd_ne (ne_of_none h2 hp)]; exact h2⟩

/-! ### answers -/
inductive R (α : Type) where
  | ok (a : α)
  | ex (c : Str) (d : D)
  | bad
def R.bind {α β : Type} (r : R α) (k : α → R β) : R β := match r with
  | .ok a => k a
  | .ex c d => .ex c d
  | .bad => .bad
@[simp] theorem R.bind_ok {α β : Type} (a : α) (k : α → R β) : (R.ok a).bind k = k a := rfl
@[simp] theorem R.bind_bad {α β : Type} (k : α → R β) : (R.bad : R α).bind k = .bad := rfl
@[simp] theorem R.bind_ex {α β : Type} (c : Str) (d : D) (k : α → R β) : (R.ex c d : R α).bind k = .ex c d := rfl
inductive Sl where
  | no
  | d (x : D)
  | ol (xs : List D)
  | od (kvs : List (D × D))
def Sl.own : Sl → Bool
  | .ol _ => true
  | .od _ => true
  | _ => false
abbrev DSt := List Sl
abbrev EM := DSt → R D
abbrev TM := DSt → R Bool
abbrev AM := DSt → R (List D)
inductive Out where
  | nx (s : DSt)
  | bk (s : DSt)
  | ct (s : DSt)
  | rt (d : D)
  | ex (c : Str) (d : D)
  | bad
abbrev SM := DSt → Out
/-- what is wanted of an exception -/
abbrev XZ := Str → D → Hp → Hp → Prop
abbrev Z0 : XZ := fun _ _ _ _ => False

def PostR {α : Type} (Z : XZ) (F H : Hp) (r : R α) (P : α → Hp → Hp → Prop) : Prop := match r with
  | .ok a => ∀ F' H', Ext F H F' H' → P a F' H'
  | .ex c d => ∀ F' H', Ext F H F' H' → Z c d F' H'
  | .bad => False
theorem PostR.mono {α : Type} {Z : XZ} {F H F1 H1 : Hp} {r : R α} {P : α → Hp → Hp → Prop} (h : PostR Z F H r P) (e : Ext F H F1 H1) : PostR Z F1 H1 r P := by
  cases r with
  | ok a => exact fun F' H' e' => h F' H' (e.trans e')
  | ex c d => exact fun F' H' e' => h F' H' (e.trans e')
  | bad => exact h
/-- after the first step the second -/
theorem PostR.bind {α β : Type} {Z : XZ} {F H : Hp} {r : R α} {k : α → R β} {P : β → Hp → Hp → Prop} {P1 : α → Hp → Hp → Prop} (h : PostR Z F H (r.bind k) P)
    (g : ∀ a F1 H1, r = .ok a → Ext F H F1 H1 → PostR Z F1 H1 (k a) P → P1 a F1 H1) : PostR Z F H r P1 := by
  cases r with
  | ok a => exact fun F' H' e' => g a F' H' rfl e' (PostR.mono (show PostR Z F H (k a) P from h) e')
  | ex c d => exact h
  | bad => exact h
theorem PostR.ok {α : Type} {Z : XZ} {F H : Hp} {a : α} {P : α → Hp → Hp → Prop} (h : PostR Z F H (.ok a) P) (e : Kx F H) : P a F H := h F H (.refl e)

/-! ### slots -/
section
variable (K : Fg) (G : Hp × Hp) (F H : Hp)
/-- the pairs of a dict that is being filled -/
def DcOk (a : Addr) (kvs : List (D × D)) : Prop := ∃ ks : List (Key × V), H a = some (.dK ks) ∧ DnKv K F ks kvs
def SlOk (o : Option (Option V)) : Sl → Prop
  | .no => True
  | .d x => ∃ v, o = some (some v) ∧ Dn K F v x
  | .ol xs => ∃ a vs, o = some (some (.ref a)) ∧ F a = none ∧ G.2 a = none ∧ H a = some (.lst vs) ∧ DnAll K F vs xs
  | .od kvs => ∃ a, o = some (some (.ref a)) ∧ F a = none ∧ G.2 a = none ∧ DcOk K F H a kvs
structure StOk (σ : L2.St) (s : DSt) : Prop where
  e : Ext G.1 G.2 F H
  ln : s.length = σ.length
  sl : ∀ (i : Nat) (x : Sl), s[i]? = some x → SlOk K G F H (σ[i]?) x
  ds : ∀ (i j : Nat) (x y : Sl) (a : Addr), s[i]? = some x → s[j]? = some y → x.own = true → y.own = true → σ[i]? = some (some (.ref a)) → σ[j]? = some (some (.ref a)) → i = j
end
section
variable {K : Fg} {G : Hp × Hp} {F H F' H' : Hp} {σ : L2.St} {s : DSt}
theorem StOk.kx (h : StOk K G F H σ s) : Kx F H := h.e.i
theorem StOk.ext (h : StOk K G F H σ s) (e : Ext F H F' H') : StOk K G F' H' σ s where
  e := h.e.trans e
  ln := h.ln
  sl := fun i x hx => by
    have q := h.sl i x hx
    cases x with
    | no => trivial
    | d x =>
      obtain ⟨v, e1, d1⟩ := q
      exact ⟨v, e1, d1.mono e.f⟩
    | ol xs =>
      obtain ⟨a, vs, e1, f1, g1, h1, d1⟩ := q
      exact ⟨a, vs, e1, e.fr f1 h1, g1, e.o a _ f1 h1, d1.mono e.f⟩
    | od kvs =>
      obtain ⟨a, e1, f1, g1, ks, h1, d1⟩ := q
      exact ⟨a, e1, e.fr f1 h1, g1, ks, e.o a _ f1 h1, d1.mono e.f⟩
  ds := h.ds
end
end DL

set_option Elab.async false
set_option linter.all false
set_option maxRecDepth 100000
set_option maxHeartbeats 4000000
namespace DL
open PySem PySem.Spec PyProof.Rows L2

/-! ### two readings of one piece -/
section
variable {X : Cx}
theorem peOr {e : Expr} {t u : TE} (a : PE X e t) (b : PE X e u) : PE X e (fun σ H Q => t σ H Q ∨ u σ H Q) :=
  ⟨fun pins s σ H Q I h => h.elim (a.run pins s σ H Q I) (b.run pins s σ H Q I)⟩
theorem ptOr {e : Expr} {t u : TT} (a : PT X e t) (b : PT X e u) : PT X e (fun σ H Q => t σ H Q ∨ u σ H Q) :=
  ⟨fun pins s σ H Q I h => h.elim (a.run pins s σ H Q I) (b.run pins s σ H Q I)⟩
theorem psOr {e : Stmt} {t u : TS} (a : PS X e t) (b : PS X e u) : PS X e (fun D σ H => t D σ H ∨ u D σ H) :=
  ⟨fun pins s σ H D I h => h.elim (a.run pins s σ H D I) (b.run pins s σ H D I)⟩
theorem piOr {tg e : Expr} {t u : TI} (a : PI X tg e t) (b : PI X tg e u) : PI X tg e (fun σ H R => t σ H R ∨ u σ H R) :=
  ⟨fun pins s σ H R I h => h.elim (a.run pins s σ H R I) (b.run pins s σ H R I)⟩
def or2 (r q : R2) : R2 := fun x y H Q => r x y H Q ∨ q x y H Q
theorem op_or2 {f : Value → Value → Sem Value} {r q : R2} (a : OpR X f r) (b : OpR X f q) : OpR X f (or2 r q) :=
  fun pins s σ H x y v u Q I rx ry h => h.elim (a pins s σ H x y v u Q I rx ry) (b pins s σ H x y v u Q I rx ry)
end

/-! ### readings that keep mirrors -/
section
variable (K : Fg) (Z : XZ)
abbrev PD (Q : VK) : D → Hp → Hp → Prop := fun d F' H' => ∀ v, Dn K F' v d → Q v H'
def SE (te : TE) (f : EM) : Prop := ∀ G F H σ s, StOk K G F H σ s → ∀ Q : VK, PostR Z F H (f s) (PD K Q) → te σ H Q
def ST (tt : TT) (f : TM) : Prop := ∀ G F H σ s, StOk K G F H σ s → ∀ Q : Bool → Hp → Prop, PostR Z F H (f s) (fun b _ H' => Q b H') → tt σ H Q
def SA (ta : TA) (f : AM) : Prop := ∀ G F H σ s, StOk K G F H σ s → ∀ Q : List V → Hp → Prop, PostR Z F H (f s) (fun ds F' H' => ∀ vs, DnAll K F' vs ds → Q vs H') → ta σ H Q
def SO (to : TO) (f : DSt → R (Option Int)) : Prop := ∀ G F H σ s, StOk K G F H σ s → ∀ Q : Option Int → Hp → Prop, PostR Z F H (f s) (fun o _ H' => Q o H') → to σ H Q
def SR2 (r : R2) (g : D → D → R D) : Prop := ∀ F H x y a b, Kx F H → Dn K F x a → Dn K F y b → ∀ Q : VK, PostR Z F H (g a b) (PD K Q) → r x y H Q
def SR1 (r : V → Hp → VK → Prop) (g : D → R D) : Prop := ∀ F H x a, Kx F H → Dn K F x a → ∀ Q : VK, PostR Z F H (g a) (PD K Q) → r x H Q
def SRN (r : List V → Hp → VK → Prop) (g : List D → R D) : Prop := ∀ F H xs ds, Kx F H → DnAll K F xs ds → ∀ Q : VK, PostR Z F H (g ds) (PD K Q) → r xs H Q
def SRM (r : V → List V → Hp → VK → Prop) (g : D → List D → R D) : Prop := ∀ F H x a xs ds, Kx F H → Dn K F x a → DnAll K F xs ds → ∀ Q : VK, PostR Z F H (g a ds) (PD K Q) → r x xs H Q
end
structure DE (X : Cx) (Z : XZ) (e : Expr) (f : EM) : Prop where
  ex : ∃ te, PE X e te ∧ SE X.K Z te f
structure DT (X : Cx) (Z : XZ) (e : Expr) (f : TM) : Prop where
  ex : ∃ te, PT X e te ∧ ST X.K Z te f
structure DW (X : Cx) (Z : XZ) (e : Expr) (f : TM) : Prop where
  ex : ∃ te, PW X e te ∧ ST X.K Z te f
structure DA (X : Cx) (Z : XZ) (es : List Expr) (f : AM) : Prop where
  ex : ∃ te, PA X es te ∧ SA X.K Z te f
  ln : ∀ s ds, f s = .ok ds → ds.length = es.length
structure DO (X : Cx) (Z : XZ) (e : Option Expr) (f : DSt → R (Option Int)) : Prop where
  ex : ∃ te, PO X e te ∧ SO X.K Z te f

/-! ### names and constants -/
@[simp] def eVar (i : Nat) : EM := fun s => match s[i]? with
  | some (.d x) => .ok x
  | _ => .bad
@[simp] def eC (d : D) : EM := fun _ => .ok d
section
variable {X : Cx} {Z : XZ}
theorem se_var {K : Fg} (i : Nat) : SE K Z (tVar i) (eVar i) := fun G F H σ s S Q h => by
  unfold eVar at h
  split at h
  · rename_i x e
    obtain ⟨v, e1, d1⟩ := S.sl i _ e
    exact ⟨v, e1, h.ok S.kx v d1⟩
  · exact h.elim
theorem dv (i : Nat) {x : Str} {pos : Pos} (hN : X.N[i]? = some x := by rfl) (hv : Vis X.env.scope x := by first | exact Or.inl rfl | exact Or.inr (Or.inl rfl) | exact Or.inr (Or.inr rfl)) (hd : (x == ("__debug__" : Str)) = false := by decide)
    (hcd : (x == ("__classdict__" : Str)) = false := by decide) : DE X Z (.Name x pos) (eVar i) := ⟨_, pe_var hN hv hd hcd, se_var i⟩
theorem se_c {K : Fg} {v : V} {d : D} (h : ∀ F, Dn K F v d) : SE K Z (tC v) (eC d) := fun G F H σ s S Q q => q.ok S.kx v (h F)
theorem de_int {i : Int} {j pos} : DE X Z (.Constant (.int i) j pos) (eC (.int i)) := ⟨_, pe_int, se_c fun _ => .int i⟩
theorem de_bl {b j pos} : DE X Z (.Constant (.bool b) j pos) (eC (.bool b)) := ⟨_, pe_bl, se_c fun _ => .bl b⟩
theorem de_non {j pos} : DE X Z (.Constant .none j pos) (eC .none) := ⟨_, pe_non, se_c fun _ => .non⟩
theorem de_str {x j pos} : DE X Z (.Constant (.str x) j pos) (eC (.str x)) := ⟨_, pe_str, se_c fun _ => .str x⟩
/-- a module's constant: a text, an int -/
theorem de_gstr {x y : Str} {t : Tok} {pos : Pos} (hm : X.mg x = some (.str y t)) (hg : Gl X x := by rfl) (hd : (x == ("__debug__" : Str)) = false := by decide) : DE X Z (.Name x pos) (eC (.str y)) :=
  ⟨_, pe_glob (v := .str y) hg hm ⟨_, rfl⟩ hd, se_c fun _ => .str y⟩
theorem de_gint {x : Str} {y : Int} {t : Tok} {pos : Pos} (hm : X.mg x = some (.int y t)) (hg : Gl X x := by rfl) (hd : (x == ("__debug__" : Str)) = false := by decide) : DE X Z (.Name x pos) (eC (.int y)) :=
  ⟨_, pe_glob (v := .int y) hg hm ⟨_, rfl⟩ hd, se_c fun _ => .int y⟩
end

/-! ### operators -/
@[simp] def eOp (g : D → D → R D) (f1 f2 : EM) : EM := fun s => (f1 s).bind fun a => (f2 s).bind fun b => g a b
@[simp] def eUn (g : D → R D) (f1 : EM) : EM := fun s => (f1 s).bind g
def toB (d : D) : R Bool := match d with
  | .bool b => .ok b
  | _ => .bad
@[simp] theorem toB_bool (b : Bool) : toB (.bool b) = .ok b := rfl
@[simp] theorem ite_ok {α : Type} (p : Prop) [Decidable p] (a b : α) : (if p then R.ok a else R.ok b) = R.ok (if p then a else b) := by split <;> rfl
@[simp] theorem ite_bool (p : Prop) [Decidable p] (a b : Bool) : (if p then PyData.bool a else PyData.bool b) = PyData.bool (if p then a else b) := by split <;> rfl
section
variable {K : Fg} {Z : XZ}
theorem se_op {ta tb : TE} {f1 f2 : EM} {r : R2} {g : D → D → R D} (h1 : SE K Z ta f1) (h2 : SE K Z tb f2) (hr : SR2 K Z r g) : SE K Z (tOp r ta tb) (eOp g f1 f2) := fun G F H σ s S Q q => by
  refine h1 G F H σ s S _ (PostR.bind q fun a F1 H1 _ e1 q1 v1 d1 => ?_)
  refine h2 G F1 H1 σ s (S.ext e1) _ (PostR.bind q1 fun b F2 H2 _ e2 q2 v2 d2 => ?_)
  exact hr F2 H2 v1 v2 a b e2.i (d1.mono e2.f) d2 Q q2
theorem se_un {ta : TE} {f1 : EM} {r : V → Hp → VK → Prop} {g : D → R D} (h1 : SE K Z ta f1) (hr : SR1 K Z r g) : SE K Z (tUn r ta) (eUn g f1) := fun G F H σ s S Q q => by
  refine h1 G F H σ s S _ (PostR.bind q fun a F1 H1 _ e1 q1 v1 d1 => ?_)
  exact hr F1 H1 v1 a e1.i d1 Q q1
theorem st_of_se {te : TE} {f : EM} (h : SE K Z te f) : ST K Z (tTest te) (fun s => (f s).bind toB) := fun G F H σ s S Q q => by
  refine h G F H σ s S _ (PostR.bind q fun a F1 H1 _ e1 q1 v1 d1 => ?_)
  cases a with
  | bool b => cases d1; exact ⟨b, rfl, q1.ok e1.i⟩
  | _ => exact (show False from q1).elim
theorem sr2_or1 {r q : R2} {g : D → D → R D} (h : ∀ F H x y a b, Kx F H → Dn K F x a → Dn K F y b → ∀ Q : VK, PostR Z F H (g a b) (PD K Q) → or2 r q x y H Q) : SR2 K Z (or2 r q) g := h
end

/-! #### the operators by data -/
def dAdd (a b : D) : R D := match a, b with
  | .int i, .int j => .ok (.int (i + j))
  | .str x, .str y => if x.length + y.length ≤ sizeLine then .ok (.str (x ++ y)) else .bad
  | .list xs, .list ys => if xs.length + ys.length ≤ sizeLine then .ok (.list (xs ++ ys)) else .bad
  | _, _ => .bad
def dSub (a b : D) : R D := match a, b with
  | .int i, .int j => .ok (.int (i - j))
  | _, _ => .bad
def MulB (i j : Int) : Prop := (-18446744073709551616 < i ∧ i < 18446744073709551616) ∨ (-18446744073709551616 < j ∧ j < 18446744073709551616)
instance (i j : Int) : Decidable (MulB i j) := inferInstanceAs (Decidable (_ ∨ _))
def dMul (a b : D) : R D := match a, b with
  | .int i, .int j => if MulB i j then .ok (.int (i * j)) else .bad
  | _, _ => .bad
def dDiv (a b : D) : R D := match a, b with
  | .int i, .int j => if 0 < j ∧ j < 1073741824 then .ok (.int (i / j)) else .bad
  | _, _ => .bad
def dMod (a b : D) : R D := match a, b with
  | .int i, .int j => if 0 < j then .ok (.int (i % j)) else .bad
  | _, _ => .bad
def dNeg (a : D) : R D := match a with
  | .int i => .ok (.int (-i))
  | _ => .bad
section
variable (i j : Int) (x y : Str) (xs ys : List D)
@[simp] theorem dAdd_int : dAdd (.int i) (.int j) = .ok (.int (i + j)) := rfl
@[simp] theorem dAdd_str : dAdd (.str x) (.str y) = if x.length + y.length ≤ sizeLine then .ok (.str (x ++ y)) else .bad := rfl
@[simp] theorem dAdd_list : dAdd (.list xs) (.list ys) = if xs.length + ys.length ≤ sizeLine then .ok (.list (xs ++ ys)) else .bad := rfl
@[simp] theorem dSub_int : dSub (.int i) (.int j) = .ok (.int (i - j)) := rfl
@[simp] theorem dMul_int : dMul (.int i) (.int j) = if MulB i j then .ok (.int (i * j)) else .bad := rfl
@[simp] theorem dDiv_int : dDiv (.int i) (.int j) = if 0 < j ∧ j < 1073741824 then .ok (.int (i / j)) else .bad := rfl
@[simp] theorem dMod_int : dMod (.int i) (.int j) = if 0 < j then .ok (.int (i % j)) else .bad := rfl
@[simp] theorem dNeg_int : dNeg (.int i) = .ok (.int (-i)) := rfl
end
section
variable {X : Cx} {Z : XZ} {a b : Expr} {f1 f2 : EM} {pos : Pos}
abbrev rAddS : R2 := fun x y H Q => ∃ i j, x = .str i ∧ y = .str j ∧ i.length + j.length ≤ sizeLine ∧ Q (.str (i ++ j)) H
/-- two lists that may be read, whoever holds them -/
def rCatS (K : Fg) : R2 := fun x y H Q => ∃ l b xs zs, x = .ref l ∧ y = .ref b ∧ SqL K H l xs ∧ SqL K H b zs ∧ xs.length + zs.length ≤ sizeLine ∧ ∀ p, H p = none → Q (.ref p) (upd H p (.lst (xs ++ zs)))
theorem op_catS : OpR X (binaryOp .Add) (rCatS X.K) := by
  intro pins s σ H x y v u Q I rx ry h
  obtain ⟨l, b, xs, zs, rfl, rfl, hH, hB, hz, q⟩ := h
  cases rx
  cases ry
  obtain ⟨vs, r, p, _⟩ := I.list hH
  obtain ⟨ws, r2, p2, _⟩ := I.list hB
  have l1 := r.length
  have l2 := r2.length
  obtain ⟨⟨cls, dd, data, sl⟩, ho, hc, n, hd⟩ := p.isList
  obtain ⟨⟨cls2, dd2, data2, sl2⟩, ho2, hc2, n2, hd2⟩ := p2.isList
  simp only at hc hd hc2 hd2
  subst hc hd hc2 hd2
  have e : vs.toArray ++ ws.toArray = (vs ++ ws).toArray := by simp
  refine concat_meets ⟨_, ho, rfl⟩ ⟨_, ho2, rfl⟩ noFill_list_add seq_list_add PySem.F.slot_list_add PySem.F.entry_list_add (PySem.F.args_list_add_2 _ _) (PyProof.Rows.list_addW l b vs.toArray ws.toArray n n2 dd dd2 sl sl2 (by simp only [List.size_toArray]; omega)) ⟨ho, ho2, ?_⟩
  rw [e]
  exact ⟨.ref _, _, I.lnew (t' := s.toks) (r.append r2) (by rw [List.length_append]; omega), rfl, q _ I.fresh⟩
theorem sr_add {K : Fg} : SR2 K Z (or2 (rI0 fun i j => .int (i + j)) (or2 rAddS (rCatS K))) dAdd := fun F H x y a b e d1 d2 Q q => by
  unfold dAdd at q
  split at q
  · cases d1; cases d2
    exact .inl ⟨_, _, rfl, rfl, q.ok e _ (.int _)⟩
  · cases d1; cases d2
    split at q
    · rename_i hz
      exact .inr (.inl ⟨_, _, rfl, rfl, hz, q.ok e _ (.str _)⟩)
    · exact q.elim
  · cases d1 with
    | lst h1 a1 =>
      cases d2 with
      | lst h2 a2 =>
        split at q
        · rename_i hz
          refine .inr (.inr ⟨_, _, _, _, rfl, rfl, e.sql h1, e.sql h2, by rw [a1.len, a2.len]; exact hz, fun p hp => ?_⟩)
          exact q _ _ (.new e hp) _ (.lst (.of upd_same) ((a1.app a2).mono (.new (e.back hp))))
        · exact q.elim
  · exact q.elim
theorem de_add (ha : DE X Z a f1) (hb : DE X Z b f2) : DE X Z (.BinOp a .Add b pos) (eOp dAdd f1 f2) := by
  obtain ⟨t1, p1, s1⟩ := ha
  obtain ⟨t2, p2, s2⟩ := hb
  exact ⟨_, pe_op (op_or2 op_add (op_or2 op_add_str op_catS)) p1 p2, se_op s1 s2 sr_add⟩
theorem sr_ints {K : Fg} {C : Int → Int → Prop} {g : Int → Int → V} {g' : D → D → R D} (h : ∀ F H a b, ∀ Q : VK, Kx F H → PostR Z F H (g' a b) (PD K Q) → ∃ i j, a = .int i ∧ b = .int j ∧ C i j ∧ Q (g i j) H) : SR2 K Z (rI C g) g' := fun F H x y a b e d1 d2 Q q => by
  obtain ⟨i, j, rfl, rfl, hc, hq⟩ := h F H a b Q e q
  cases d1; cases d2
  exact ⟨i, j, rfl, rfl, hc, hq⟩
theorem de_sub (ha : DE X Z a f1) (hb : DE X Z b f2) : DE X Z (.BinOp a .Sub b pos) (eOp dSub f1 f2) := by
  obtain ⟨t1, p1, s1⟩ := ha
  obtain ⟨t2, p2, s2⟩ := hb
  refine ⟨_, pe_op op_sub p1 p2, se_op s1 s2 fun F H x y a b e d1 d2 Q q => ?_⟩
  unfold dSub at q
  split at q
  · cases d1; cases d2
    exact ⟨_, _, rfl, rfl, q.ok e _ (.int _)⟩
  · exact q.elim
theorem de_mul (ha : DE X Z a f1) (hb : DE X Z b f2) : DE X Z (.BinOp a .Mult b pos) (eOp dMul f1 f2) := by
  obtain ⟨t1, p1, s1⟩ := ha
  obtain ⟨t2, p2, s2⟩ := hb
  refine ⟨_, pe_op op_mul p1 p2, se_op s1 s2 (sr_ints fun F H a b Q e q => ?_)⟩
  unfold dMul at q
  split at q
  · split at q
    · rename_i hc
      exact ⟨_, _, rfl, rfl, hc, q.ok e _ (.int _)⟩
    · exact q.elim
  · exact q.elim
theorem de_div (ha : DE X Z a f1) (hb : DE X Z b f2) : DE X Z (.BinOp a .FloorDiv b pos) (eOp dDiv f1 f2) := by
  obtain ⟨t1, p1, s1⟩ := ha
  obtain ⟨t2, p2, s2⟩ := hb
  refine ⟨_, pe_op op_fdiv p1 p2, se_op s1 s2 (sr_ints fun F H a b Q e q => ?_)⟩
  unfold dDiv at q
  split at q
  · split at q
    · rename_i hc
      exact ⟨_, _, rfl, rfl, hc, q.ok e _ (.int _)⟩
    · exact q.elim
  · exact q.elim
theorem de_mod (ha : DE X Z a f1) (hb : DE X Z b f2) : DE X Z (.BinOp a .Mod b pos) (eOp dMod f1 f2) := by
  obtain ⟨t1, p1, s1⟩ := ha
  obtain ⟨t2, p2, s2⟩ := hb
  refine ⟨_, pe_op op_mod p1 p2, se_op s1 s2 (sr_ints fun F H a b Q e q => ?_)⟩
  unfold dMod at q
  split at q
  · split at q
    · rename_i hc
      exact ⟨_, _, rfl, rfl, hc, q.ok e _ (.int _)⟩
    · exact q.elim
  · exact q.elim
theorem de_neg (ha : DE X Z a f1) : DE X Z (.UnaryOp .USub a pos) (eUn dNeg f1) := by
  obtain ⟨t1, p1, s1⟩ := ha
  refine ⟨_, pe_un un_neg p1, se_un s1 fun F H x a e d1 Q q => ?_⟩
  unfold dNeg at q
  split at q
  · cases d1
    exact ⟨_, rfl, q.ok e _ (.int _)⟩
  · exact q.elim
end

/-! #### comparisons -/
/-- data without dicts -/
theorem dn_dp {K : Fg} {F H : Hp} (e : Kx F H) : ∀ (d : D) (v : V), d.canLay0 = true → Dn K F v d → Dp K H v d := by
  intro d v hd h
  exact (PyData.rec (motive_1 := fun d => ∀ v, d.canLay0 = true → Dn K F v d → Dp K H v d)
    (motive_2 := fun ds => ∀ vs, PyData.canLayAll0 ds = true → DnAll K F vs ds → DpAll K H vs ds) (motive_3 := fun _ => True) (motive_4 := fun _ => True)
    (fun v _ h => by cases h; exact .non) (fun b v _ h => by cases h; exact .bl b) (fun i v _ h => by cases h; exact .int i) (fun x v _ h => by cases h; exact .str x)
    (fun xs ih v hl h => by cases h with | lst h1 a1 => exact .lst (e.sql h1) (ih _ (by simpa [PyData.canLay0] using hl) a1))
    (fun xs ih v hl h => by cases h with | tup h1 a1 => exact .tup (.of (e.tup h1)) (ih _ (by simpa [PyData.canLay0] using hl) a1))
    (fun kvs _ v hl _ => nomatch hl)
    (fun vs _ h => by cases h; exact .nil)
    (fun d ds i1 i2 vs hl h => by
      have hl' : d.canLay0 = true ∧ PyData.canLayAll0 ds = true := by simpa [PyData.canLayAll0] using hl
      cases h with | cons h t => exact .cons (i1 _ hl'.1 h) (i2 _ hl'.2 t))
    trivial (fun _ _ _ _ => trivial) (fun _ _ _ _ => trivial) d) v hd h
theorem shaped_lay {d : D} (h : SeqAt.shaped d = true) : d.canLay0 = true := by
  unfold SeqAt.shaped at h
  exact (Bool.and_eq_true_iff.mp h).1
def dEq (a b : D) : R D := if SeqAt.shaped a = true ∧ SeqAt.shaped b = true then .ok (.bool (PyData.eqv a b)) else .bad
def dNe (a b : D) : R D := if SeqAt.shaped a = true ∧ SeqAt.shaped b = true then .ok (.bool (!PyData.eqv a b)) else .bad
def dLt (a b : D) : R D := match a, b with
  | .int i, .int j => .ok (.bool (decide (i < j)))
  | .str x, .str y => .ok (.bool (decide (x.cps.toList < y.cps.toList)))
  | _, _ => .bad
def dLe (a b : D) : R D := match a, b with
  | .int i, .int j => .ok (.bool (decide (i ≤ j)))
  | .str x, .str y => .ok (.bool (!decide (y.cps.toList < x.cps.toList)))
  | _, _ => .bad
def dGt (a b : D) : R D := match a, b with
  | .int i, .int j => .ok (.bool (decide (i > j)))
  | .str x, .str y => .ok (.bool (decide (y.cps.toList < x.cps.toList)))
  | _, _ => .bad
def dGe (a b : D) : R D := match a, b with
  | .int i, .int j => .ok (.bool (decide (i ≥ j)))
  | .str x, .str y => .ok (.bool (!decide (x.cps.toList < y.cps.toList)))
  | _, _ => .bad
/-- is None, is not None -/
def isNo (a : D) : Bool := match a with | .none => true | _ => false
def dIsN (a : D) : R D := .ok (.bool (isNo a))
def dNotN (a : D) : R D := .ok (.bool (!isNo a))
section
variable (i j : Int) (x y : Str) (p q : Bool)
@[simp] theorem dLt_int : dLt (.int i) (.int j) = .ok (.bool (decide (i < j))) := rfl
@[simp] theorem dLe_int : dLe (.int i) (.int j) = .ok (.bool (decide (i ≤ j))) := rfl
@[simp] theorem dGt_int : dGt (.int i) (.int j) = .ok (.bool (decide (i > j))) := rfl
@[simp] theorem dGe_int : dGe (.int i) (.int j) = .ok (.bool (decide (i ≥ j))) := rfl
@[simp] theorem dLt_str : dLt (.str x) (.str y) = .ok (.bool (decide (x.cps.toList < y.cps.toList))) := rfl
@[simp] theorem dLe_str : dLe (.str x) (.str y) = .ok (.bool (!decide (y.cps.toList < x.cps.toList))) := rfl
@[simp] theorem dGt_str : dGt (.str x) (.str y) = .ok (.bool (decide (y.cps.toList < x.cps.toList))) := rfl
@[simp] theorem isNo_none : isNo .none = true := rfl
@[simp] theorem isNo_int : isNo (.int i) = false := rfl
@[simp] theorem isNo_str : isNo (.str x) = false := rfl
@[simp] theorem isNo_bool : isNo (.bool p) = false := rfl
@[simp] theorem isNo_list (xs : List D) : isNo (.list xs) = false := rfl
@[simp] theorem isNo_tuple (xs : List D) : isNo (.tuple xs) = false := rfl
@[simp] theorem isNo_dict (xs : List (D × D)) : isNo (.dict xs) = false := rfl
@[simp] theorem dIsN_any (a : D) : dIsN a = .ok (.bool (isNo a)) := rfl
@[simp] theorem dNotN_any (a : D) : dNotN a = .ok (.bool (!isNo a)) := rfl
end
section
variable {X : Cx} {Z : XZ} {a b c : Expr} {f1 f2 f3 : EM} {g1 g2 : TM} {pos : Pos}
abbrev rD2 (r : R2) : R2 := r
theorem sr_cmp {K : Fg} {p : Int → Int → Bool} {q : Str → Str → Bool} {g : D → D → R D} (h : ∀ a b d, g a b = .ok d → (∃ i j, a = .int i ∧ b = .int j ∧ d = .bool (p i j)) ∨ ∃ x y, a = .str x ∧ b = .str y ∧ d = .bool (q x y)) (hx : ∀ a b c d, g a b ≠ .ex c d) :
    SR2 K Z (or2 (rI0 fun i j => .bl (p i j)) (fun x y H Q => ∃ i j, x = .str i ∧ y = .str j ∧ Q (.bl (q i j)) H)) g := fun F H x y a b e d1 d2 Q z => by
  cases hg : g a b with
  | ok d =>
    rw [hg] at z
    rcases h a b d hg with ⟨i, j, rfl, rfl, rfl⟩ | ⟨i, j, rfl, rfl, rfl⟩
    · cases d1; cases d2
      exact .inl ⟨i, j, rfl, rfl, z.ok e _ (.bl _)⟩
    · cases d1; cases d2
      exact .inr ⟨i, j, rfl, rfl, z.ok e _ (.bl _)⟩
  | ex c d => exact (hx a b c d hg).elim
  | bad => rw [hg] at z; exact z.elim
theorem cmp_inv {p : Int → Int → Bool} {q : Str → Str → Bool} {g : D → D → R D} (h : ∀ a b, g a b = match a, b with | .int i, .int j => .ok (.bool (p i j)) | .str x, .str y => .ok (.bool (q x y)) | _, _ => .bad) :
    (∀ a b d, g a b = .ok d → (∃ i j, a = .int i ∧ b = .int j ∧ d = .bool (p i j)) ∨ ∃ x y, a = .str x ∧ b = .str y ∧ d = .bool (q x y)) ∧ ∀ a b c d, g a b ≠ .ex c d := by
  refine ⟨fun a b d e => ?_, fun a b c d e => ?_⟩
  · rw [h] at e
    split at e
    · cases e; exact .inl ⟨_, _, rfl, rfl, rfl⟩
    · cases e; exact .inr ⟨_, _, rfl, rfl, rfl⟩
    · cases e
  · rw [h] at e
    split at e <;> cases e
abbrev rLtA : R2 := or2 (rI0 fun i j => .bl (decide (i < j))) (fun x y H Q => ∃ i j, x = .str i ∧ y = .str j ∧ Q (.bl (decide (i.cps.toList < j.cps.toList))) H)
abbrev rLeA : R2 := or2 (rI0 fun i j => .bl (decide (i ≤ j))) (fun x y H Q => ∃ i j, x = .str i ∧ y = .str j ∧ Q (.bl (!decide (j.cps.toList < i.cps.toList))) H)
abbrev rGtA : R2 := or2 (rI0 fun i j => .bl (decide (i > j))) (fun x y H Q => ∃ i j, x = .str i ∧ y = .str j ∧ Q (.bl (decide (j.cps.toList < i.cps.toList))) H)
abbrev rGeA : R2 := or2 (rI0 fun i j => .bl (decide (i ≥ j))) (fun x y H Q => ∃ i j, x = .str i ∧ y = .str j ∧ Q (.bl (!decide (i.cps.toList < j.cps.toList))) H)
theorem op_ltA : OpR X (compareOp .Lt) rLtA := op_or2 op_lt op_lt_str
theorem op_leA : OpR X (compareOp .LtE) rLeA := op_or2 op_le op_le_str
theorem op_gtA : OpR X (compareOp .Gt) rGtA := op_or2 op_gt op_gt_str
theorem op_geA : OpR X (compareOp .GtE) rGeA := op_or2 op_ge op_ge_str
theorem sr_lt {K : Fg} : SR2 K Z rLtA dLt := let h := cmp_inv (g := dLt) (fun _ _ => rfl); sr_cmp h.1 h.2
theorem sr_le {K : Fg} : SR2 K Z rLeA dLe := let h := cmp_inv (g := dLe) (fun _ _ => rfl); sr_cmp h.1 h.2
theorem sr_gt {K : Fg} : SR2 K Z rGtA dGt := let h := cmp_inv (g := dGt) (fun _ _ => rfl); sr_cmp h.1 h.2
theorem sr_ge {K : Fg} : SR2 K Z rGeA dGe := let h := cmp_inv (g := dGe) (fun _ _ => rfl); sr_cmp h.1 h.2
/-- ==, !=: scalars of one kind by themselves, else data -/
def dSc (a b : D) : Option Bool := match a, b with
  | .int i, .int j => some (decide (i = j))
  | .str i, .str j => some (decide (i = j))
  | .bool i, .bool j => some (decide (i = j))
  | .none, .none => some true
  | .none, .int _ => some false
  | .none, .str _ => some false
  | .none, .bool _ => some false
  | .int _, .none => some false
  | .str _, .none => some false
  | .bool _, .none => some false
  | .int _, .str _ => some false
  | .str _, .int _ => some false
  | .bool _, .str _ => some false
  | .str _, .bool _ => some false
  | _, _ => none
abbrev rEqA (K : Fg) : R2 := or2 rEq (rEqD K)
abbrev rNeA (K : Fg) : R2 := or2 rNe (rNeD K)
def dEqA (a b : D) : R D := match dSc a b with
  | some k => .ok (.bool k)
  | none => dEq a b
def dNeA (a b : D) : R D := match dSc a b with
  | some k => .ok (.bool (!k))
  | none => dNe a b
@[simp] theorem dEqA_int (i j : Int) : dEqA (.int i) (.int j) = .ok (.bool (decide (i = j))) := rfl
@[simp] theorem dEqA_str (x y : Str) : dEqA (.str x) (.str y) = .ok (.bool (decide (x = y))) := rfl
@[simp] theorem dEqA_bool (x y : Bool) : dEqA (.bool x) (.bool y) = .ok (.bool (decide (x = y))) := rfl
@[simp] theorem dEqA_none : dEqA .none .none = .ok (.bool true) := rfl
@[simp] theorem dEqA_ns (x : Str) : dEqA .none (.str x) = .ok (.bool false) := rfl
@[simp] theorem dEqA_sn (x : Str) : dEqA (.str x) .none = .ok (.bool false) := rfl
@[simp] theorem dNeA_ns (x : Str) : dNeA .none (.str x) = .ok (.bool true) := rfl
@[simp] theorem dNeA_sn (x : Str) : dNeA (.str x) .none = .ok (.bool true) := rfl
@[simp] theorem dNeA_int (i j : Int) : dNeA (.int i) (.int j) = .ok (.bool (!decide (i = j))) := rfl
@[simp] theorem dNeA_str (x y : Str) : dNeA (.str x) (.str y) = .ok (.bool (!decide (x = y))) := rfl
@[simp] theorem dNeA_bool (x y : Bool) : dNeA (.bool x) (.bool y) = .ok (.bool (!decide (x = y))) := rfl
@[simp] theorem dNeA_none : dNeA .none .none = .ok (.bool false) := rfl
theorem dSc_V {K : Fg} {F : Hp} {x y : V} {a b : D} {k : Bool} (h : dSc a b = some k) (d1 : Dn K F x a) (d2 : Dn K F y b) : scal x y = true ∧ decide (x = y) = k := by
  unfold dSc at h
  split at h
  · cases d1; cases d2; cases h; exact ⟨rfl, by simp⟩
  · cases d1; cases d2; cases h; exact ⟨rfl, by simp⟩
  · cases d1; cases d2; cases h; exact ⟨rfl, by simp⟩
  · cases d1; cases d2; cases h; exact ⟨rfl, by simp⟩
  · cases d1; cases d2; cases h; exact ⟨rfl, by simp⟩
  · cases d1; cases d2; cases h; exact ⟨rfl, by simp⟩
  · cases d1; cases d2; cases h; exact ⟨rfl, by simp⟩
  · cases d1; cases d2; cases h; exact ⟨rfl, by simp⟩
  · cases d1; cases d2; cases h; exact ⟨rfl, by simp⟩
  · cases d1; cases d2; cases h; exact ⟨rfl, by simp⟩
  · cases d1; cases d2; cases h; exact ⟨rfl, by simp⟩
  · cases d1; cases d2; cases h; exact ⟨rfl, by simp⟩
  · cases d1; cases d2; cases h; exact ⟨rfl, by simp⟩
  · cases d1; cases d2; cases h; exact ⟨rfl, by simp⟩
  · cases h
theorem op_eqA (hu : X.A.units + 64 < cLine) : OpR X (compareOp .Eq) (rEqA X.K) := op_or2 op_eq (op_eqD hu)
theorem op_neA (hu : X.A.units + 64 < cLine) : OpR X (compareOp .NotEq) (rNeA X.K) := op_or2 op_ne (op_neD hu)
theorem sr_eq {K : Fg} : SR2 K Z (rEqA K) dEqA := fun F H x y a b e d1 d2 Q q => by
  unfold dEqA at q
  split at q
  · rename_i k hk
    obtain ⟨h1, h2⟩ := dSc_V hk d1 d2
    exact .inl ⟨h1, by rw [h2]; exact q.ok e _ (.bl _)⟩
  · unfold dEq at q
    split at q
    · rename_i h
      exact .inr ⟨a, b, dn_dp e a x (shaped_lay h.1) d1, dn_dp e b y (shaped_lay h.2) d2, h.1, h.2, q.ok e _ (.bl _)⟩
    · exact q.elim
theorem sr_ne {K : Fg} : SR2 K Z (rNeA K) dNeA := fun F H x y a b e d1 d2 Q q => by
  unfold dNeA at q
  split at q
  · rename_i k hk
    obtain ⟨h1, h2⟩ := dSc_V hk d1 d2
    exact .inl ⟨h1, by rw [h2]; exact q.ok e _ (.bl _)⟩
  · unfold dNe at q
    split at q
    · rename_i h
      exact .inr ⟨a, b, dn_dp e a x (shaped_lay h.1) d1, dn_dp e b y (shaped_lay h.2) d2, h.1, h.2, q.ok e _ (.bl _)⟩
    · exact q.elim
/-- a comparison by its rule: a value, a test -/
structure DC (X : Cx) (Z : XZ) (op : CmpOp) (g : D → D → R D) : Prop where
  ex : ∃ r, OpR X (compareOp op) r ∧ SR2 X.K Z r g
theorem dc_lt : DC X Z .Lt dLt := ⟨_, op_ltA, sr_lt⟩
theorem dc_le : DC X Z .LtE dLe := ⟨_, op_leA, sr_le⟩
theorem dc_gt : DC X Z .Gt dGt := ⟨_, op_gtA, sr_gt⟩
theorem dc_ge : DC X Z .GtE dGe := ⟨_, op_geA, sr_ge⟩
theorem dc_eq (hu : X.A.units + 64 < cLine) : DC X Z .Eq dEqA := ⟨_, op_eqA hu, sr_eq⟩
theorem dc_ne (hu : X.A.units + 64 < cLine) : DC X Z .NotEq dNeA := ⟨_, op_neA hu, sr_ne⟩
@[simp] def tE (f : EM) : TM := fun s => (f s).bind toB
theorem de_cmp {op : CmpOp} {g : D → D → R D} (hc : DC X Z op g) (ha : DE X Z a f1) (hb : DE X Z b f2) (hm : behindInMarks op b = false := by first | exact nomark _ | rfl) : DE X Z (.Compare a [op] [b] pos) (eOp g f1 f2) := by
  obtain ⟨r, o, sr⟩ := hc
  obtain ⟨t1, p1, s1⟩ := ha
  obtain ⟨t2, p2, s2⟩ := hb
  exact ⟨_, pe_cmpR o p1 p2 hm, se_op s1 s2 sr⟩
theorem dt_cmp {op : CmpOp} {g : D → D → R D} (hc : DC X Z op g) (ha : DE X Z a f1) (hb : DE X Z b f2) (hm : behindInMarks op b = false := by first | exact nomark _ | rfl) : DT X Z (.Compare a [op] [b] pos) (tE (eOp g f1 f2)) := by
  obtain ⟨r, o, sr⟩ := hc
  obtain ⟨t1, p1, s1⟩ := ha
  obtain ⟨t2, p2, s2⟩ := hb
  exact ⟨_, pt_cmpR o p1 p2 hm, st_of_se (se_op s1 s2 sr)⟩
/-- a < b < c -/
@[simp] def eChain (g g' : D → D → R D) (f1 f2 f3 : EM) : EM := fun s => (f1 s).bind fun a => (f2 s).bind fun b => (g a b).bind fun k => (toB k).bind fun k => if k = true then (f3 s).bind fun c => g' b c else .ok (.bool false)
theorem se_chain {K : Fg} {ta tb tc : TE} {r r' : R2} {g g' : D → D → R D} (h1 : SE K Z ta f1) (h2 : SE K Z tb f2) (h3 : SE K Z tc f3) (hr : SR2 K Z r g) (hr' : SR2 K Z r' g') : SE K Z (tChain r r' ta tb tc) (eChain g g' f1 f2 f3) := fun G F H σ s S Q q => by
  refine h1 G F H σ s S _ (PostR.bind q fun a F1 H1 _ e1 q1 v1 d1 => ?_)
  refine h2 G F1 H1 σ s (S.ext e1) _ (PostR.bind q1 fun b F2 H2 _ e2 q2 v2 d2 => ?_)
  refine hr F2 H2 v1 v2 a b e2.i (d1.mono e2.f) d2 _ (PostR.bind q2 fun k F3 H3 _ e3 q3 v3 d3 => ?_)
  cases k with
  | bool k =>
    cases d3
    refine ⟨k, rfl, ?_⟩
    cases k with
    | true =>
      refine iteT ?_
      refine h3 G F3 H3 σ s (((S.ext e1).ext e2).ext e3) _ (PostR.bind q3 fun c F4 H4 _ e4 q4 v4 d4 => ?_)
      exact hr' F4 H4 v2 v4 b c e4.i (d2.mono (e3.f.trans e4.f)) d4 Q q4
    | false =>
      refine iteF ?_
      exact q3.ok e3.i _ (.bl _)
  | _ => exact (show False from q3).elim
theorem de_chain {op op' : CmpOp} {g g' : D → D → R D} (hc : DC X Z op g) (hc' : DC X Z op' g') (ha : DE X Z a f1) (hb : DE X Z b f2) (hcc : DE X Z c f3) (hm : lastMarks [op, op'] [b, c] = false := by with_unfolding_all rfl) : DE X Z (.Compare a [op, op'] [b, c] pos) (eChain g g' f1 f2 f3) := by
  obtain ⟨r, o, sr⟩ := hc
  obtain ⟨r', o', sr'⟩ := hc'
  obtain ⟨t1, p1, s1⟩ := ha
  obtain ⟨t2, p2, s2⟩ := hb
  obtain ⟨t3, p3, s3⟩ := hcc
  exact ⟨_, pe_chain o o' p1 p2 p3 hm, se_chain s1 s2 s3 sr sr'⟩
theorem dt_chain {op op' : CmpOp} {g g' : D → D → R D} (hc : DC X Z op g) (hc' : DC X Z op' g') (ha : DE X Z a f1) (hb : DE X Z b f2) (hcc : DE X Z c f3) (hm : lastMarks [op, op'] [b, c] = false := by with_unfolding_all rfl) : DT X Z (.Compare a [op, op'] [b, c] pos) (tE (eChain g g' f1 f2 f3)) := by
  obtain ⟨r, o, sr⟩ := hc
  obtain ⟨r', o', sr'⟩ := hc'
  obtain ⟨t1, p1, s1⟩ := ha
  obtain ⟨t2, p2, s2⟩ := hb
  obtain ⟨t3, p3, s3⟩ := hcc
  exact ⟨_, pt_chain o o' p1 p2 p3 hm, st_of_se (se_chain s1 s2 s3 sr sr')⟩
/-- is None -/
theorem dc_isN {f : EM} {j pos'} (ha : DE X Z a f) : DE X Z (.Compare a [.Is] [.Constant .none j pos'] pos) (eUn dIsN f) ∧ DT X Z (.Compare a [.Is] [.Constant .none j pos'] pos) (tE (eUn dIsN f)) := by
  obtain ⟨t1, p1, s1⟩ := ha
  have h : SE X.K Z (tOp (fun x y H Q => y = .non ∧ Q (.bl (decide (x = .non))) H) t1 (tC .non)) (eUn dIsN f) := fun G F H σ s S Q q => by
    refine s1 G F H σ s S _ (PostR.bind q fun a F1 H1 _ e1 q1 v1 d1 => ?_)
    refine ⟨rfl, ?_⟩
    have e : decide (v1 = V.non) = isNo a := by cases d1 <;> simp
    rw [e]
    exact q1.ok e1.i _ (.bl _)
  exact ⟨⟨_, pe_cmpR op_isN p1 pe_non (nomark _), h⟩, ⟨_, pt_cmpR op_isN p1 pe_non (nomark _), st_of_se h⟩⟩
theorem dc_notN {f : EM} {j pos'} (ha : DE X Z a f) : DE X Z (.Compare a [.IsNot] [.Constant .none j pos'] pos) (eUn dNotN f) ∧ DT X Z (.Compare a [.IsNot] [.Constant .none j pos'] pos) (tE (eUn dNotN f)) := by
  obtain ⟨t1, p1, s1⟩ := ha
  have h : SE X.K Z (tOp (fun x y H Q => y = .non ∧ Q (.bl (!decide (x = .non))) H) t1 (tC .non)) (eUn dNotN f) := fun G F H σ s S Q q => by
    refine s1 G F H σ s S _ (PostR.bind q fun a F1 H1 _ e1 q1 v1 d1 => ?_)
    refine ⟨rfl, ?_⟩
    have e : (!decide (v1 = V.non)) = !isNo a := by cases d1 <;> simp
    rw [e]
    exact q1.ok e1.i _ (.bl _)
  exact ⟨⟨_, pe_cmpR op_notN p1 pe_non (nomark _), h⟩, ⟨_, pt_cmpR op_notN p1 pe_non (nomark _), st_of_se h⟩⟩

/-! ### truth, and, or, not -/
def dTru (a : D) : R Bool := match a with
  | .none => .ok false
  | .bool b => .ok b
  | .int i => .ok (i != 0)
  | .str x => if x.length ≤ sizeLine then .ok ((x.length : Int) != 0) else .bad
  | .list xs => .ok (!xs.isEmpty)
  | .tuple xs => .ok (!xs.isEmpty)
  | _ => .bad
theorem dnAll_empty {K : Fg} {F : Hp} {vs : List V} {ds : List D} (h : DnAll K F vs ds) : vs.isEmpty = ds.isEmpty := by
  cases h <;> rfl
@[simp] theorem dTru_bool (b : Bool) : dTru (.bool b) = .ok b := rfl
@[simp] theorem dTru_int (i : Int) : dTru (.int i) = .ok (i != 0) := rfl
@[simp] theorem dTru_list (xs : List D) : dTru (.list xs) = .ok (!xs.isEmpty) := rfl
theorem tru_dn {K : Fg} {F H : Hp} {x : V} {a : D} {k : Bool} (e : Kx F H) (d : Dn K F x a) (h : dTru a = .ok k) : TruV K x H k := by
  cases d with
  | non => cases h; exact rfl
  | bl b => cases h; exact rfl
  | int i => cases h; exact rfl
  | str x =>
    simp only [dTru] at h
    split at h
    · rename_i hl
      cases h
      exact ⟨hl, rfl⟩
    · cases h
  | lst h1 a1 => cases h; exact .inl ⟨_, e.sql h1, by rw [dnAll_empty a1]⟩
  | tup h1 a1 => cases h; exact .inr (.inl ⟨_, .of (e.tup h1), by rw [dnAll_empty a1]⟩)
  | dic h1 a1 => cases h
@[simp] def tTru (f : EM) : TM := fun s => (f s).bind dTru
theorem dTru_noex {a : D} {c : Str} {d : D} : dTru a ≠ .ex c d := by
  intro h
  unfold dTru at h
  split at h <;> first | cases h | (split at h <;> cases h)
theorem dt_tru (ha : DE X Z a f1) (he : ∀ whole, isTrue a X.env whole = (do let v ← whole; standAt a.pos; holding [v] (truthy v)) := by intro _; rfl) : DT X Z a (tTru f1) := by
  obtain ⟨t1, p1, s1⟩ := ha
  refine ⟨_, pt_truth p1 he, fun G F H σ s S Q q => ?_⟩
  refine s1 G F H σ s S _ (PostR.bind q fun a F1 H1 _ e1 q1 v1 d1 => ?_)
  cases h : dTru a with
  | ok k => rw [h] at q1; exact ⟨k, tru_dn e1.i d1 h, q1.ok e1.i⟩
  | ex c d => exact (dTru_noex h).elim
  | bad => rw [h] at q1; exact q1.elim
@[simp] def tAnd2 (f g : TM) : TM := fun s => (f s).bind fun b => if b = true then g s else .ok false
@[simp] def tOr2 (f g : TM) : TM := fun s => (f s).bind fun b => if b = true then .ok true else g s
@[simp] def tNot2 (f : TM) : TM := fun s => (f s).bind fun b => .ok (!b)
theorem st_and {K : Fg} {t u : TT} (h1 : ST K Z t g1) (h2 : ST K Z u g2) : ST K Z (tAnd t u) (tAnd2 g1 g2) := fun G F H σ s S Q q => by
  refine h1 G F H σ s S _ (PostR.bind q fun b F1 H1 _ e1 q1 => ?_)
  cases b with
  | true => exact iteT (h2 G F1 H1 σ s (S.ext e1) _ q1)
  | false => exact iteF (q1.ok e1.i)
theorem st_or {K : Fg} {t u : TT} (h1 : ST K Z t g1) (h2 : ST K Z u g2) : ST K Z (tOr t u) (tOr2 g1 g2) := fun G F H σ s S Q q => by
  refine h1 G F H σ s S _ (PostR.bind q fun b F1 H1 _ e1 q1 => ?_)
  cases b with
  | true => exact iteT (q1.ok e1.i)
  | false => exact iteF (h2 G F1 H1 σ s (S.ext e1) _ q1)
theorem dt_not (h : DT X Z a g1) : DT X Z (.UnaryOp .Not a pos) (tNot2 g1) := by
  obtain ⟨t, p, s1⟩ := h
  refine ⟨_, pt_not p, fun G F H σ s S Q q => ?_⟩
  exact s1 G F H σ s S _ (PostR.bind q fun b F1 H1 _ e1 q1 => q1.ok e1.i)
theorem dw_and1 (h : DT X Z a g1) : DW X Z (.BoolOp .And [a] pos) g1 := let ⟨t, p, s1⟩ := h; ⟨t, pw_and1 p, s1⟩
theorem dw_or1 (h : DT X Z a g1) : DW X Z (.BoolOp .Or [a] pos) g1 := let ⟨t, p, s1⟩ := h; ⟨t, pw_or1 p, s1⟩
theorem dw_and {rest : List Expr} (h : DT X Z a g1) (k : DW X Z (.BoolOp .And (b :: rest) pos) g2) : DW X Z (.BoolOp .And (a :: b :: rest) pos) (tAnd2 g1 g2) := let ⟨t, p, s1⟩ := h; let ⟨u, p2, s2⟩ := k; ⟨_, pw_and p p2, st_and s1 s2⟩
theorem dw_or {rest : List Expr} (h : DT X Z a g1) (k : DW X Z (.BoolOp .Or (b :: rest) pos) g2) : DW X Z (.BoolOp .Or (a :: b :: rest) pos) (tOr2 g1 g2) := let ⟨t, p, s1⟩ := h; let ⟨u, p2, s2⟩ := k; ⟨_, pw_or p p2, st_or s1 s2⟩
theorem DW.dt (h : DW X Z a g1) : DT X Z a g1 := let ⟨t, p, s1⟩ := h; ⟨t, p.pt, s1⟩
/-- .. as values, all but the last bools -/
@[simp] def eAnd2 (f g : EM) : EM := fun s => (f s).bind fun d => (toB d).bind fun b => if b = true then g s else .ok (.bool false)
@[simp] def eOr2 (f g : EM) : EM := fun s => (f s).bind fun d => (toB d).bind fun b => if b = true then .ok (.bool true) else g s
@[simp] def eNot2 (f : EM) : EM := fun s => (f s).bind fun d => (toB d).bind fun b => .ok (.bool (!b))
theorem de_one {op} (h : DE X Z a f1) : DE X Z (.BoolOp op [a] pos) f1 := let ⟨t, p, s1⟩ := h; ⟨t, pe_one p, s1⟩
theorem de_and {rest : List Expr} (h : DE X Z a f1) (k : DE X Z (.BoolOp .And (b :: rest) pos) f2) : DE X Z (.BoolOp .And (a :: b :: rest) pos) (eAnd2 f1 f2) := by
  obtain ⟨t, p, s1⟩ := h
  obtain ⟨u, p2, s2⟩ := k
  refine ⟨_, pe_and p p2, fun G F H σ s S Q q => ?_⟩
  refine s1 G F H σ s S _ (PostR.bind q fun b F1 H1 _ e1 q1 v1 d1 => ?_)
  cases b with
  | bool b =>
    cases d1
    refine ⟨b, rfl, ?_⟩
    cases b with
    | true => exact iteT (s2 G F1 H1 σ s (S.ext e1) _ q1)
    | false => exact iteF (q1.ok e1.i _ (.bl _))
  | _ => exact (show False from q1).elim
theorem de_or {rest : List Expr} (h : DE X Z a f1) (k : DE X Z (.BoolOp .Or (b :: rest) pos) f2) : DE X Z (.BoolOp .Or (a :: b :: rest) pos) (eOr2 f1 f2) := by
  obtain ⟨t, p, s1⟩ := h
  obtain ⟨u, p2, s2⟩ := k
  refine ⟨_, pe_or p p2, fun G F H σ s S Q q => ?_⟩
  refine s1 G F H σ s S _ (PostR.bind q fun b F1 H1 _ e1 q1 v1 d1 => ?_)
  cases b with
  | bool b =>
    cases d1
    refine ⟨b, rfl, ?_⟩
    cases b with
    | true => exact iteT (q1.ok e1.i _ (.bl _))
    | false => exact iteF (s2 G F1 H1 σ s (S.ext e1) _ q1)
  | _ => exact (show False from q1).elim
theorem de_not (h : DE X Z a f1) : DE X Z (.UnaryOp .Not a pos) (eNot2 f1) := by
  obtain ⟨t, p, s1⟩ := h
  refine ⟨_, pe_not p, fun G F H σ s S Q q => ?_⟩
  refine s1 G F H σ s S _ (PostR.bind q fun b F1 H1 _ e1 q1 v1 d1 => ?_)
  cases b with
  | bool b => cases d1; exact ⟨b, rfl, q1.ok e1.i _ (.bl _)⟩
  | _ => exact (show False from q1).elim
/-- a if t else b -/
@[simp] def eIf (c : TM) (f g : EM) : EM := fun s => (c s).bind fun b => if b = true then f s else g s
theorem de_if (hc : DT X Z c g1) (h : DE X Z a f1) (k : DE X Z b f2) : DE X Z (.IfExp c a b pos) (eIf g1 f1 f2) := by
  obtain ⟨t0, p0, s0⟩ := hc
  obtain ⟨t, p, s1⟩ := h
  obtain ⟨u, p2, s2⟩ := k
  refine ⟨_, pe_ifExp p0 p p2, fun G F H σ s S Q q => ?_⟩
  refine s0 G F H σ s S _ (PostR.bind q fun b F1 H1 _ e1 q1 => ?_)
  cases b with
  | true => exact iteT (s1 G F1 H1 σ s (S.ext e1) _ q1)
  | false => exact iteF (s2 G F1 H1 σ s (S.ext e1) _ q1)
end
end DL

set_option Elab.async false
set_option linter.all false
set_option maxRecDepth 100000
set_option maxHeartbeats 4000000
namespace DL
open PySem PySem.Spec PyProof.Rows L2

/-! ### argument lists, displays -/
@[simp] def aNil : AM := fun _ => .ok []
@[simp] def aCons (f : EM) (g : AM) : AM := fun s => (f s).bind fun d => (g s).bind fun ds => .ok (d :: ds)
@[simp] def eTup (f : AM) : EM := fun s => (f s).bind fun ds => .ok (.tuple ds)
abbrev LM := DSt → R (List D)
@[simp] def eLst (f : LM) : EM := fun s => (f s).bind fun ds => .ok (.list ds)
/-- a new list is made -/
def SN (K : Fg) (Z : XZ) (te : TE) (f : LM) : Prop := ∀ G F H σ s, StOk K G F H σ s → ∀ Q : VK, PostR Z F H (f s) (fun ds F' H' => ∀ p vs, H' p = none → DnAll K F' vs ds → Q (.ref p) (upd H' p (.lst vs))) → te σ H Q
structure DN (X : Cx) (Z : XZ) (e : Expr) (f : LM) : Prop where
  ex : ∃ te, PE X e te ∧ SN X.K Z te f
theorem PostR.imp {α : Type} {Z : XZ} {F H : Hp} {r : R α} {P P' : α → Hp → Hp → Prop} (h : PostR Z F H r P) (g : ∀ a F' H', r = .ok a → Ext F H F' H' → P a F' H' → P' a F' H') : PostR Z F H r P' := by
  cases r with
  | ok a => exact fun F' H' e => g a F' H' rfl e (h F' H' e)
  | ex c d => exact h
  | bad => exact h
theorem ext_lay {F H : Hp} (e : Kx F H) {p : Addr} {vs : List V} (hp : H p = none) : Ext F H (upd F p (.lst vs)) (upd H p (.lst vs)) := .new e hp
section
variable {X : Cx} {Z : XZ} {e : Expr} {es : List Expr} {f f1 f2 : EM} {g : AM} {pos : Pos}
theorem da_nil : DA X Z [] aNil := ⟨⟨_, pa_nil, fun G F H σ s S Q q => q.ok S.kx _ .nil⟩, fun s ds h => by cases h; rfl⟩
theorem da_cons (h : DE X Z e f) (k : DA X Z es g) (hs : starEach (e :: es) X.env = (false, eval e X.env) :: starEach es X.env := by rfl) : DA X Z (e :: es) (aCons f g) := by
  obtain ⟨t, p, s1⟩ := h
  obtain ⟨⟨u, p2, s2⟩, ln⟩ := k
  refine ⟨⟨_, pa_cons p p2 hs, fun G F H σ s S Q q => ?_⟩, fun s ds h => ?_⟩
  · refine s1 G F H σ s S _ (PostR.bind q fun d F1 H1 _ e1 q1 v1 d1 => ?_)
    refine s2 G F1 H1 σ s (S.ext e1) _ (PostR.bind q1 fun ds F2 H2 _ e2 q2 vs d2 => ?_)
    exact q2.ok e2.i _ (.cons (d1.mono e2.f) d2)
  · unfold aCons at h
    cases h1 : f s with
    | ok d =>
      rw [h1] at h
      cases h2 : g s with
      | ok ds' =>
        simp only [R.bind, h2] at h
        cases h
        simp [ln s ds' h2]
      | ex c d => simp [R.bind, h2] at h
      | bad => simp [R.bind, h2] at h
    | ex c d => rw [h1] at h; cases h
    | bad => rw [h1] at h; cases h
theorem de_tup {x1} (h : DA X Z es g) (hl : es.length ≤ 1000 := by decide) : DE X Z (.Tuple es x1 pos) (eTup g) := by
  obtain ⟨⟨t, p, s1⟩, ln⟩ := h
  refine ⟨_, pe_tup p, fun G F H σ s S Q q => ?_⟩
  refine s1 G F H σ s S _ (PostR.bind q fun ds F1 H1 hr e1 q1 vs d1 => ?_)
  refine ⟨by rw [d1.len, ln s ds hr, sizeLine_eq]; omega, fun p hp => ?_⟩
  exact q1 _ _ (.new e1.i hp) _ (.tup upd_same (d1.mono (.new (e1.i.back hp))))
theorem dn_lst (h : DA X Z es g) (hl : es.length ≤ 1000 := by decide) : DN X Z (.List es pos) g := by
  obtain ⟨⟨t, p, s1⟩, ln⟩ := h
  refine ⟨_, pe_lst p, fun G F H σ s S Q q => ?_⟩
  refine s1 G F H σ s S _ (q.imp fun ds F1 H1 hr e1 q1 vs d1 => ?_)
  exact ⟨by rw [d1.len, ln s ds hr, sizeLine_eq]; omega, fun p hp => q1 p vs hp d1⟩
/-- a new list, from now on for ever as it is -/
theorem DN.de {g : LM} (h : DN X Z e g) : DE X Z e (eLst g) := by
  obtain ⟨t, p, s1⟩ := h
  refine ⟨_, p, fun G F H σ s S Q q => ?_⟩
  refine s1 G F H σ s S _ (PostR.bind q fun ds F1 H1 hr e1 q1 p vs hp d1 => ?_)
  exact q1 _ _ (.new e1.i hp) _ (.lst (.of upd_same) (d1.mono (.new (e1.i.back hp))))
end

/-! ### places -/
def oR {α : Type} (o : Option α) : R α := match o with
  | some a => .ok a
  | none => .bad
def kEq (a b : D) : Bool := match a, b with
  | .int i, .int j => decide (i = j)
  | .str x, .str y => decide (x = y)
  | _, _ => false
def dLook : List (D × D) → D → Option D
  | [], _ => none
  | (k, v) :: r, x => if kEq k x then some v else dLook r x
@[simp] theorem dLook_nil (x : D) : dLook [] x = none := rfl
@[simp] theorem dLook_cons (k v : D) (r : List (D × D)) (x : D) : dLook ((k, v) :: r) x = if kEq k x then some v else dLook r x := rfl
def isKey (a : D) : Bool := match a with
  | .int _ => true
  | .str _ => true
  | _ => false
def dIdx (a i : D) : R D := match a, i with
  | .list xs, .int i => oR (atI xs i)
  | .tuple xs, .int i => oR (atI xs i)
  | .str z, .int i => if z.length ≤ sizeLine then oR ((atI z.cps.toList i).map fun c => .str ⟨#[c]⟩) else .bad
  | .dict kvs, k => if isKey k then oR (dLook kvs k) else .bad
  | _, _ => .bad
section
variable {α : Type} (a : α) (i j : Int) (x y : Str) (xs : List D) (kvs : List (D × D)) (d : D)
@[simp] theorem oR_some : oR (some a) = .ok a := rfl
@[simp] theorem oR_none : oR (none : Option α) = .bad := rfl
@[simp] theorem kEq_int : kEq (.int i) (.int j) = decide (i = j) := rfl
@[simp] theorem kEq_str : kEq (.str x) (.str y) = decide (x = y) := rfl
@[simp] theorem isKey_int : isKey (.int i) = true := rfl
@[simp] theorem isKey_str : isKey (.str x) = true := rfl
@[simp] theorem dIdx_list : dIdx (.list xs) (.int i) = oR (atI xs i) := rfl
@[simp] theorem dIdx_tuple : dIdx (.tuple xs) (.int i) = oR (atI xs i) := rfl
@[simp] theorem dIdx_str : dIdx (.str x) (.int i) = if x.length ≤ sizeLine then oR ((atI x.cps.toList i).map fun c => .str ⟨#[c]⟩) else .bad := rfl
@[simp] theorem dIdx_dict_str : dIdx (.dict kvs) (.str x) = oR (dLook kvs (.str x)) := rfl
@[simp] theorem dIdx_dict_int : dIdx (.dict kvs) (.int i) = oR (dLook kvs (.int i)) := rfl
@[simp] theorem atI_zero (a : α) (l : List α) : atI (a :: l) 0 = some a := atI_nat (j := 0) rfl
theorem atI_succ (a : α) (l : List α) (n : Nat) : atI (a :: l) ((n + 1 : Nat) : Int) = atI l (n : Int) := by
  by_cases h : n < l.length
  · rw [atI_nat (List.getElem?_eq_getElem h), atI_nat (show (a :: l)[n + 1]? = some l[n] by simp [h])]
  · have h1 : ixN l.length (n : Int) = none := by unfold ixN; rw [if_pos (by omega), if_neg (by omega)]
    have h2 : ixN (a :: l).length ((n + 1 : Nat) : Int) = none := by unfold ixN; rw [if_pos (by omega), if_neg (by simp; omega)]
    unfold atI
    rw [h1, h2]; rfl
@[simp] theorem atI_1 (a b : α) (l : List α) : atI (a :: b :: l) 1 = some b := atI_nat (j := 1) rfl
@[simp] theorem atI_2 (a b c : α) (l : List α) : atI (a :: b :: c :: l) 2 = some c := atI_nat (j := 2) rfl
@[simp] theorem atI_3 (a b c d : α) (l : List α) : atI (a :: b :: c :: d :: l) 3 = some d := atI_nat (j := 3) rfl
@[simp] theorem atI_4 (a b c d e : α) (l : List α) : atI (a :: b :: c :: d :: e :: l) 4 = some e := atI_nat (j := 4) rfl
@[simp] theorem atI_5 (a b c d e f : α) (l : List α) : atI (a :: b :: c :: d :: e :: f :: l) 5 = some f := atI_nat (j := 5) rfl
theorem atI_ofNat {l : List α} {i : Int} {n : Nat} {a : α} (h : i = n) (h2 : l[n]? = some a) : atI l i = some a := by rw [h]; exact atI_nat h2
end
theorem kEq_kD (a b : Key) : kEq (kD a) (kD b) = decide (a = b) := by
  cases a <;> cases b <;> simp [kD, kEq]
section
variable {K : Fg} {F H : Hp}
theorem key_inv {y : V} {i : D} (d : Dn K F y i) (h : isKey i = true) : ∃ k : Key, y = kV k ∧ i = kD k := by
  cases d with
  | int i => exact ⟨.inl i, rfl, rfl⟩
  | str x => exact ⟨.inr x, rfl, rfl⟩
  | _ => cases h
theorem look_ok {kvs : List (Key × V)} {ds : List (D × D)} (h : DnKv K F kvs ds) (k : Key) : (∀ d, dLook ds (kD k) = some d → ∃ v, valV kvs k = some v ∧ Dn K F v d) ∧ (dLook ds (kD k) = none → valV kvs k = none) := by
  induction ds generalizing kvs with
  | nil =>
    cases h
    refine ⟨fun d h => ?_, fun _ => rfl⟩
    cases h
  | cons p ds ih =>
    cases h with
    | @cons k' v vs d _ h t =>
      rw [dLook_cons, kEq_kD]
      by_cases e : k' = k
      · subst e
        rw [valV_pos rfl]
        simp only [decide_true, if_true]
        exact ⟨fun d' h' => ⟨v, rfl, by cases h'; exact h⟩, fun h' => by cases h'⟩
      · rw [valV_neg e]
        simp only [decide_eq_false e, Bool.false_eq_true, if_false]
        exact ih t
theorem look_some {kvs : List (Key × V)} {ds : List (D × D)} (h : DnKv K F kvs ds) (k : Key) : (valV kvs k).isSome = (dLook ds (kD k)).isSome := by
  have g := look_ok h k
  cases e : dLook ds (kD k) with
  | none => rw [g.2 e]; rfl
  | some d => obtain ⟨v, e1, _⟩ := g.1 d e; rw [e1]; rfl
theorem atI_dn {vs : List V} {ds : List D} (h : DnAll K F vs ds) {i : Int} {d : D} (e : atI ds i = some d) : ∃ v, atI vs i = some v ∧ Dn K F v d := by
  unfold atI at e ⊢
  rw [h.len]
  cases q : ixN ds.length i with
  | none => rw [q] at e; cases e
  | some j =>
    rw [q] at e
    exact h.get e
end
section
variable {X : Cx} {Z : XZ} {a b : Expr} {f1 f2 : EM} {pos : Pos}
theorem sr_ixS {K : Fg} {F H : Hp} {x y : V} {a b : D} (hd : ∀ kvs, a ≠ .dict kvs) (e : Kx F H) (d1 : Dn K F x a) (d2 : Dn K F y b) {Q : VK} (q : PostR Z F H (dIdx a b) (PD K Q)) : rIx K x y H Q := by
  cases d2 with
  | int i =>
    cases d1 with
    | lst h1 a1 =>
      rename_i l vs ds
      have q' : PostR Z F H (oR (atI ds i)) (PD K Q) := q
      cases z : atI ds i with
      | none => rw [z] at q'; exact q'.elim
      | some d =>
        rw [z] at q'
        obtain ⟨v, e1, dv⟩ := atI_dn a1 z
        exact .inl ⟨_, _, i, v, rfl, rfl, e.sql h1, e1, q'.ok e _ dv⟩
    | tup h1 a1 =>
      rename_i l vs ds
      have q' : PostR Z F H (oR (atI ds i)) (PD K Q) := q
      cases z : atI ds i with
      | none => rw [z] at q'; exact q'.elim
      | some d =>
        rw [z] at q'
        obtain ⟨v, e1, dv⟩ := atI_dn a1 z
        exact .inr (.inl ⟨_, _, i, v, rfl, rfl, .of (e.tup h1), e1, q'.ok e _ dv⟩)
    | str z =>
      have q' : PostR Z F H (if z.length ≤ sizeLine then oR ((atI z.cps.toList i).map fun c => PyData.str ⟨#[c]⟩) else .bad) (PD K Q) := q
      split at q'
      · rename_i hz
        cases w : atI z.cps.toList i with
        | none => rw [w] at q'; exact q'.elim
        | some c =>
          rw [w] at q'
          exact .inr (.inr ⟨z, i, c, rfl, rfl, hz, w, q'.ok e _ (.str _)⟩)
      · exact q'.elim
    | dic h1 a1 => exact (hd _ rfl).elim
    | _ => exact (show False from q).elim
  | _ =>
    cases d1 with
    | dic h1 a1 => exact (hd _ rfl).elim
    | _ => exact (show False from q).elim
theorem sr_ixD {K : Fg} {F H : Hp} {x y : V} {kvs : List (D × D)} {b : D} (e : Kx F H) (d1 : Dn K F x (.dict kvs)) (d2 : Dn K F y b) {Q : VK} (q : PostR Z F H (dIdx (.dict kvs) b) (PD K Q)) :
    ∃ a v, x = .ref a ∧ DGet H a y (some v) ∧ Q v H := by
  have q' : PostR Z F H (if isKey b then oR (dLook kvs b) else .bad) (PD K Q) := q
  split at q'
  · rename_i hk
    obtain ⟨k, rfl, rfl⟩ := key_inv d2 hk
    cases d1 with
    | dic h1 a1 =>
      cases w : dLook kvs (kD k) with
      | none => rw [w] at q'; exact q'.elim
      | some d =>
        rw [w] at q'
        obtain ⟨v, e1, dv⟩ := (look_ok a1 k).1 d w
        exact ⟨_, v, rfl, .inl ⟨_, k, e.rd trivial h1, rfl, e1.symm⟩, q'.ok e _ dv⟩
  · exact q'.elim
theorem isDict_or (a : D) : (∃ kvs, a = .dict kvs) ∨ ∀ kvs, a ≠ .dict kvs := by
  cases a <;> first | exact .inl ⟨_, rfl⟩ | exact .inr fun _ h => by cases h
theorem de_ix (hu : X.A.units + 1 < cLine) (ha : DE X Z a f1) (hb : DE X Z b f2) (hs : PlainIx b := by exact fun _ _ => rfl) (hn : NoSl b := by exact fun _ _ => rfl) : DE X Z (.Subscript a b pos) (eOp dIdx f1 f2) := by
  obtain ⟨t1, p1, s1⟩ := ha
  obtain ⟨t2, p2, s2⟩ := hb
  refine ⟨_, peOr (pe_ix ix_seq p1 p2 hs (pos := pos)) (pe_dget hu p1 p2 hn (pos := pos)), fun G F H σ s S Q q => ?_⟩
  have go : ∀ a, f1 s = .ok a → tOp (rIx X.K) t1 t2 σ H Q ∨ tDGet t1 t2 σ H Q := fun a ea => by
    rcases isDict_or a with ⟨kvs, rfl⟩ | hd
    · refine .inr (s1 G F H σ s S _ (PostR.bind q fun a F1 H1 er e1 q1 v1 d1 => ?_))
      rw [ea] at er; cases er
      refine s2 G F1 H1 σ s (S.ext e1) _ (PostR.bind q1 fun b F2 H2 _ e2 q2 v2 d2 => ?_)
      exact sr_ixD e2.i (d1.mono e2.f) d2 q2
    · refine .inl (s1 G F H σ s S _ (PostR.bind q fun a F1 H1 er e1 q1 v1 d1 => ?_))
      rw [ea] at er; cases er
      refine s2 G F1 H1 σ s (S.ext e1) _ (PostR.bind q1 fun b F2 H2 _ e2 q2 v2 d2 => ?_)
      exact sr_ixS hd e2.i (d1.mono e2.f) d2 q2
  cases ea : f1 s with
  | ok a => exact go a ea
  | ex c d =>
    refine .inl (s1 G F H σ s S _ (PostR.bind q fun a F1 H1 er e1 q1 v1 d1 => ?_))
    rw [ea] at er; cases er
  | bad =>
    have q' : PostR Z F H ((f1 s).bind fun a => (f2 s).bind fun b => dIdx a b) (PD X.K Q) := q
    rw [ea] at q'
    exact (show False from q').elim
end

/-! ### x in y -/
@[simp] def strsOf : List D → Option (List Str)
  | [] => some []
  | .str x :: r => (strsOf r).map (x :: ·)
  | _ :: _ => none
@[simp] def intsOf : List D → Option (List Int)
  | [] => some []
  | .int x :: r => (intsOf r).map (x :: ·)
  | _ :: _ => none
theorem strsOf_eq : ∀ {ds : List D} {xs : List Str}, strsOf ds = some xs → ds = xs.map PyData.str
  | [], _, h => by cases h; rfl
  | .str x :: r, xs, h => by
    simp only [strsOf] at h
    cases e : strsOf r with
    | none => rw [e] at h; cases h
    | some ys =>
      rw [e] at h
      cases h
      rw [strsOf_eq e]; rfl
  | .none :: _, _, h => by cases h
  | .bool _ :: _, _, h => by cases h
  | .int _ :: _, _, h => by cases h
  | .list _ :: _, _, h => by cases h
  | .tuple _ :: _, _, h => by cases h
  | .dict _ :: _, _, h => by cases h
theorem intsOf_eq : ∀ {ds : List D} {xs : List Int}, intsOf ds = some xs → ds = xs.map PyData.int
  | [], _, h => by cases h; rfl
  | .int x :: r, xs, h => by
    simp only [intsOf] at h
    cases e : intsOf r with
    | none => rw [e] at h; cases h
    | some ys =>
      rw [e] at h
      cases h
      rw [intsOf_eq e]; rfl
  | .none :: _, _, h => by cases h
  | .bool _ :: _, _, h => by cases h
  | .str _ :: _, _, h => by cases h
  | .list _ :: _, _, h => by cases h
  | .tuple _ :: _, _, h => by cases h
  | .dict _ :: _, _, h => by cases h
@[simp] theorem strsOf_map (xs : List Str) : strsOf (xs.map PyData.str) = some xs := by
  induction xs with
  | nil => rfl
  | cons x xs ih => simp [ih]
@[simp] theorem intsOf_map (xs : List Int) : intsOf (xs.map PyData.int) = some xs := by
  induction xs with
  | nil => rfl
  | cons x xs ih => simp [ih]
/-- a list or tuple: its items -/
@[simp] def seqOf (a : D) : Option (List D) := match a with
  | .list ds => some ds
  | .tuple ds => some ds
  | _ => none
def dInD (a : D) (ds : List D) (isL : Bool) : R Bool := if isL = true ∧ SeqAt.shaped a = true ∧ SeqAt.shaped (.list ds) = true then .ok (ds.any fun z => PyData.eqv z a) else .bad
def dInL (x : D) (ds : List D) (isL : Bool) : R Bool := match x with
  | .str a => match strsOf ds with
    | some ys => .ok (decide (a ∈ ys))
    | none => dInD x ds isL
  | .int a => match intsOf ds with
    | some ys => .ok (decide (a ∈ ys))
    | none => dInD x ds isL
  | _ => dInD x ds isL
def dInB (x y : D) : R Bool := match y with
  | .str z => match x with
    | .str a => if a.length = 1 then .ok (decide (a.cps.toList.headD 0 ∈ z.cps.toList)) else .bad
    | _ => .bad
  | .list ds => dInL x ds true
  | .tuple ds => dInL x ds false
  | .dict kvs => if isKey x then .ok (dLook kvs x).isSome else .bad
  | _ => .bad
def dIn (x y : D) : R D := (dInB x y).bind fun b => .ok (.bool b)
def dNotIn (x y : D) : R D := (dInB x y).bind fun b => .ok (.bool (!b))
theorem inV_strs {a : Str} {ys : List Str} : inV (.str a) (ys.map V.str) = decide (a ∈ ys) := by
  unfold inV
  rw [List.any_map]
  induction ys with
  | nil => simp
  | cons y ys ih =>
    rw [List.any_cons, ih]
    by_cases h : a = y
    · subst h; simp [eqV]
    · have h' : ¬ y = a := fun e => h e.symm
      simp [eqV, h, h']
theorem inV_ints {a : Int} {ys : List Int} : inV (.int a) (ys.map V.int) = decide (a ∈ ys) := by
  unfold inV
  rw [List.any_map]
  induction ys with
  | nil => simp
  | cons y ys ih =>
    rw [List.any_cons, ih]
    by_cases h : a = y
    · subst h; simp [eqV]
    · have h' : ¬ y = a := fun e => h e.symm
      simp [eqV, h, h']
theorem flat_strs (ys : List Str) : (ys.map V.str).all flatV = true := by simp [flatV]
theorem flat_ints (ys : List Int) : (ys.map V.int).all flatV = true := by simp [flatV]
theorem str_one {a : Str} (h : a.length = 1) : a = ⟨#[a.cps.toList.headD 0]⟩ := by
  obtain ⟨⟨l⟩⟩ := a
  have hl : l.length = 1 := by simpa [Str.length] using h
  match l, hl with
  | [c], _ => rfl
section
variable (x y : Str) (i : Int) (ds : List D) (kvs : List (D × D)) (b : Bool) (ys : List Str) (ms : List Int)
@[simp] theorem dIn_str : dIn (.str x) (.str y) = if x.length = 1 then .ok (.bool (decide (x.cps.toList.headD 0 ∈ y.cps.toList))) else .bad := by
  show (if x.length = 1 then R.ok (decide (x.cps.toList.headD 0 ∈ y.cps.toList)) else .bad).bind _ = _
  split <;> rfl
@[simp] theorem dNotIn_str : dNotIn (.str x) (.str y) = if x.length = 1 then .ok (.bool (!decide (x.cps.toList.headD 0 ∈ y.cps.toList))) else .bad := by
  show (if x.length = 1 then R.ok (decide (x.cps.toList.headD 0 ∈ y.cps.toList)) else .bad).bind _ = _
  split <;> rfl
@[simp] theorem dIn_dict_str : dIn (.str x) (.dict kvs) = .ok (.bool (dLook kvs (.str x)).isSome) := rfl
@[simp] theorem dNotIn_dict_str : dNotIn (.str x) (.dict kvs) = .ok (.bool (!(dLook kvs (.str x)).isSome)) := rfl
@[simp] theorem dIn_strs : dIn (.str x) (.list (ys.map PyData.str)) = .ok (.bool (decide (x ∈ ys))) := by
  show (match strsOf (ys.map PyData.str) with | some ys => R.ok (decide (x ∈ ys)) | none => _).bind _ = _
  rw [strsOf_map]; rfl
@[simp] theorem dNotIn_strs : dNotIn (.str x) (.list (ys.map PyData.str)) = .ok (.bool (!decide (x ∈ ys))) := by
  show (match strsOf (ys.map PyData.str) with | some ys => R.ok (decide (x ∈ ys)) | none => _).bind _ = _
  rw [strsOf_map]; rfl
@[simp] theorem dIn_ints : dIn (.int i) (.list (ms.map PyData.int)) = .ok (.bool (decide (i ∈ ms))) := by
  show (match intsOf (ms.map PyData.int) with | some ys => R.ok (decide (i ∈ ys)) | none => _).bind _ = _
  rw [intsOf_map]; rfl
@[simp] theorem dNotIn_ints : dNotIn (.int i) (.list (ms.map PyData.int)) = .ok (.bool (!decide (i ∈ ms))) := by
  show (match intsOf (ms.map PyData.int) with | some ys => R.ok (decide (i ∈ ys)) | none => _).bind _ = _
  rw [intsOf_map]; rfl
@[simp] theorem dIn_s1 (a : Str) : dIn (.str x) (.list [.str a]) = .ok (.bool (decide (x ∈ [a]))) := rfl
@[simp] theorem dIn_s2 (a b : Str) : dIn (.str x) (.list [.str a, .str b]) = .ok (.bool (decide (x ∈ [a, b]))) := rfl
@[simp] theorem dIn_s3 (a b c : Str) : dIn (.str x) (.list [.str a, .str b, .str c]) = .ok (.bool (decide (x ∈ [a, b, c]))) := rfl
@[simp] theorem dIn_s4 (a b c d : Str) : dIn (.str x) (.list [.str a, .str b, .str c, .str d]) = .ok (.bool (decide (x ∈ [a, b, c, d]))) := rfl
@[simp] theorem dIn_s5 (a b c d e : Str) : dIn (.str x) (.list [.str a, .str b, .str c, .str d, .str e]) = .ok (.bool (decide (x ∈ [a, b, c, d, e]))) := rfl
@[simp] theorem dNotIn_s2 (a b : Str) : dNotIn (.str x) (.list [.str a, .str b]) = .ok (.bool (!decide (x ∈ [a, b]))) := rfl
@[simp] theorem dNotIn_s3 (a b c : Str) : dNotIn (.str x) (.list [.str a, .str b, .str c]) = .ok (.bool (!decide (x ∈ [a, b, c]))) := rfl
end
/-- the three ways of in for what is no dict -/
def rInA (K : Fg) (neg : Bool) : R2 := fun x y H Q =>
  (∃ (c : Nat) (z : Str), x = .str ⟨#[c]⟩ ∧ y = .str z ∧ Q (.bl (neg.xor (decide (c ∈ z.cps.toList)))) H) ∨
  (∃ p xs, y = .ref p ∧ (SqL K H p xs ∨ SqT K H p xs) ∧ flatV x = true ∧ xs.all flatV = true ∧ Q (.bl (neg.xor (inV x xs))) H) ∨
  (∃ d ds, Dp K H x d ∧ Dp K H y (.list ds) ∧ SeqAt.shaped d = true ∧ SeqAt.shaped (.list ds) = true ∧ Q (.bl (neg.xor (ds.any fun z => PyData.eqv z d))) H)
section
variable {X : Cx} {Z : XZ}
theorem op_inA (hu : X.A.units + 65 < cLine) : OpR X (compareOp .In) (rInA X.K false) := fun pins s σ H x y v u Q I rx ry h => by
  rcases h with ⟨c, z, e1, e2, q⟩ | ⟨p, xs, e1, hs, f1, f2, q⟩ | ⟨d, ds, d1, d2, s1, s2, q⟩
  · exact op_in_sign pins s σ H x y v u Q I rx ry ⟨c, z, e1, e2, by simpa using q⟩
  · exact op_in_seq pins s σ H x y v u Q I rx ry ⟨p, xs, e1, hs, f1, f2, by simpa using q⟩
  · exact op_inD hu pins s σ H x y v u Q I rx ry ⟨d, ds, d1, d2, s1, s2, by simpa using q⟩
theorem op_notInA (hu : X.A.units + 65 < cLine) : OpR X (compareOp .NotIn) (rInA X.K true) := fun pins s σ H x y v u Q I rx ry h => by
  rcases h with ⟨c, z, e1, e2, q⟩ | ⟨p, xs, e1, hs, f1, f2, q⟩ | ⟨d, ds, d1, d2, s1, s2, q⟩
  · exact op_notIn_sign pins s σ H x y v u Q I rx ry ⟨c, z, e1, e2, by simpa using q⟩
  · exact op_notIn_seq pins s σ H x y v u Q I rx ry ⟨p, xs, e1, hs, f1, f2, by simpa using q⟩
  · exact op_notInD hu pins s σ H x y v u Q I rx ry ⟨d, ds, d1, d2, s1, s2, by simpa using q⟩
theorem dInL_ok {K : Fg} {F H : Hp} {x : V} {p : Addr} {vs : List V} {a : D} {ds : List D} {isL k neg : Bool} {Q : VK} (e : Kx F H) (d1 : Dn K F x a) (d2 : DnAll K F vs ds) (hs : SqL K F p vs ∨ (isL = false ∧ SqT K H p vs)) (h : dInL a ds isL = .ok k) (q : Q (.bl (neg.xor k)) H) :
    rInA K neg x (.ref p) H Q := by
  have hs' : SqL K H p vs ∨ SqT K H p vs := by
    rcases hs with z | z
    · exact .inl (e.sql z)
    · exact .inr z.2
  have deep : dInD a ds isL = .ok k → rInA K neg x (.ref p) H Q := fun h => by
    unfold dInD at h
    split at h
    · rename_i hc
      cases h
      rcases hs with z | z
      · exact .inr (.inr ⟨_, ds, dn_dp e _ x (shaped_lay hc.2.1) d1, dn_dp e _ _ (shaped_lay hc.2.2) (.lst z d2), hc.2.1, hc.2.2, q⟩)
      · rw [z.1] at hc; exact absurd hc.1 (by decide)
    · cases h
  cases d1 with
  | str a =>
    have h' : (match strsOf ds with | some ys => R.ok (decide (a ∈ ys)) | none => dInD (.str a) ds isL) = .ok k := h
    cases h1 : strsOf ds with
    | none => rw [h1] at h'; exact deep h'
    | some ys =>
      rw [h1] at h'
      cases h'
      have := strsOf_eq h1
      subst this
      rw [d2.strs_inv] at hs'
      exact .inr (.inl ⟨p, _, rfl, hs', rfl, flat_strs _, by rw [inV_strs]; exact q⟩)
  | int a =>
    have h' : (match intsOf ds with | some ys => R.ok (decide (a ∈ ys)) | none => dInD (.int a) ds isL) = .ok k := h
    cases h1 : intsOf ds with
    | none => rw [h1] at h'; exact deep h'
    | some ys =>
      rw [h1] at h'
      cases h'
      have := intsOf_eq h1
      subst this
      rw [d2.ints_inv] at hs'
      exact .inr (.inl ⟨p, _, rfl, hs', rfl, flat_ints _, by rw [inV_ints]; exact q⟩)
  | _ => exact deep h
theorem dInD_noex {a : D} {ds : List D} {b : Bool} {c : Str} {d : D} : dInD a ds b ≠ .ex c d := fun h => by
  unfold dInD at h
  split at h <;> cases h
theorem dInL_noex {a : D} {ds : List D} {b : Bool} {c : Str} {d : D} : dInL a ds b ≠ .ex c d := fun h => by
  unfold dInL at h
  split at h
  · split at h
    · cases h
    · exact dInD_noex h
  · split at h
    · cases h
    · exact dInD_noex h
  · exact dInD_noex h
theorem dInB_noex {a y : D} {c : Str} {d : D} : dInB a y ≠ .ex c d := fun h => by
  unfold dInB at h
  split at h
  · split at h
    · split at h <;> cases h
    · cases h
  · exact dInL_noex h
  · exact dInL_noex h
  · split at h <;> cases h
  · cases h
theorem sr_inS {K : Fg} {F H : Hp} {x y : V} {a b : D} {k neg : Bool} {Q : VK} (hd : ∀ kvs, b ≠ .dict kvs) (e : Kx F H) (d1 : Dn K F x a) (d2 : Dn K F y b) (h : dInB a b = .ok k) (q : Q (.bl (neg.xor k)) H) : rInA K neg x y H Q := by
  unfold dInB at h
  split at h
  · split at h
    · split at h
      · rename_i z _ a hl
        cases h
        cases d1; cases d2
        exact .inl ⟨a.cps.toList.headD 0, z, by rw [← str_one hl], rfl, q⟩
      · cases h
    · cases h
  · cases d2 with
    | lst h1 a1 => exact dInL_ok e d1 a1 (.inl h1) h q
  · cases d2 with
    | tup h1 a1 => exact dInL_ok e d1 a1 (.inr ⟨rfl, .of (e.tup h1)⟩) h q
  · exact (hd _ rfl).elim
  · cases h
variable {a b : Expr} {f1 f2 : EM} {pos : Pos}
@[simp] def eIn (f1 f2 : EM) : EM := eOp dIn f1 f2
@[simp] def eNotIn (f1 f2 : EM) : EM := eOp dNotIn f1 f2
theorem se_in {K : Fg} {t1 t2 : TE} {op : D → D → R D} {neg : Bool} (ho : ∀ x y, op x y = (dInB x y).bind fun b => .ok (.bool (neg.xor b))) (tD : TE) (hD : ∀ σ H Q, (t1 σ H fun y H1 => t2 σ H1 fun x H2 => ∃ a o, x = .ref a ∧ DGet H2 a y o ∧ Q (.bl (neg.xor o.isSome)) H2) → tD σ H Q)
    (s1 : SE K Z t1 f1) (s2 : SE K Z t2 f2) : SE K Z (fun σ H Q => tOp (rInA K neg) t1 t2 σ H Q ∨ tD σ H Q) (eOp op f1 f2) := fun G F H σ s S Q q => by
  have q' : PostR Z F H ((f1 s).bind fun a => (f2 s).bind fun b => op a b) (PD K Q) := q
  by_cases hd : ∃ kvs, f2 s = .ok (.dict kvs)
  · obtain ⟨kvs, ek⟩ := hd
    refine .inr (hD σ H Q (s1 G F H σ s S _ (PostR.bind q' fun a F1 H1 er e1 q1 v1 d1 => ?_)))
    refine s2 G F1 H1 σ s (S.ext e1) _ (PostR.bind q1 fun b F2 H2 er2 e2 q2 v2 d2 => ?_)
    rw [ek] at er2; cases er2
    rw [ho] at q2
    cases hk : isKey a with
    | false =>
      rw [show dInB a (.dict kvs) = (if isKey a then .ok (dLook kvs a).isSome else .bad) from rfl, hk] at q2
      exact (show False from q2).elim
    | true =>
      rw [show dInB a (.dict kvs) = (if isKey a then .ok (dLook kvs a).isSome else .bad) from rfl, hk] at q2
      obtain ⟨k, rfl, rfl⟩ := key_inv d1 hk
      cases d2 with
      | dic h1 a1 =>
        simp only [if_true, R.bind] at q2
        refine ⟨_, _, rfl, .inl ⟨_, k, e2.i.rd trivial h1, rfl, rfl⟩, ?_⟩
        rw [look_some a1]
        exact q2.ok e2.i _ (.bl _)
  · refine .inl (s1 G F H σ s S _ (PostR.bind q' fun a F1 H1 er e1 q1 v1 d1 => ?_))
    refine s2 G F1 H1 σ s (S.ext e1) _ (PostR.bind q1 fun b F2 H2 er2 e2 q2 v2 d2 => ?_)
    rw [ho] at q2
    cases hk : dInB a b with
    | ok k =>
      rw [hk] at q2
      exact sr_inS (fun kvs h => hd ⟨kvs, by rw [er2, h]⟩) e2.i (d1.mono e2.f) d2 hk (q2.ok e2.i _ (.bl _))
    | ex c d => exact (dInB_noex hk).elim
    | bad => rw [hk] at q2; exact q2.elim
theorem dc_notIn (hu : X.A.units + 65 < cLine) (ha : DE X Z a f1) (hb : DE X Z b f2) (hm : behindInMarks .NotIn b = false := by rfl) : DE X Z (.Compare a [.NotIn] [b] pos) (eNotIn f1 f2) ∧ DT X Z (.Compare a [.NotIn] [b] pos) (tE (eNotIn f1 f2)) := by
  obtain ⟨t1, p1, s1⟩ := ha
  obtain ⟨t2, p2, s2⟩ := hb
  have hd := pc_dnotin (Nat.lt_of_le_of_lt (by omega) hu) p1 p2
  have h := se_in (Z := Z) (neg := true) (op := dNotIn) (fun x y => by simp [dNotIn]) (tDNotIn t1 t2) (fun σ H Q h => by unfold tDNotIn; simpa using h) s1 s2
  exact ⟨⟨_, peOr (pe_cmpR (op_notInA hu) p1 p2 hm (pos := pos)) (pe_cmp hd hm), h⟩, ⟨_, ptOr (pt_cmpR (op_notInA hu) p1 p2 hm (pos := pos)) (pt_cmp hd hm), fun G F H σ s S Q q => by
    rcases st_of_se h G F H σ s S Q q with z | z
    · exact .inl z
    · exact .inr z⟩⟩
theorem dc_in (hu : X.A.units + 65 < cLine) (ha : DE X Z a f1) (hb : DE X Z b f2) (hm : behindInMarks .In b = false := by rfl) : DE X Z (.Compare a [.In] [b] pos) (eIn f1 f2) ∧ DT X Z (.Compare a [.In] [b] pos) (tE (eIn f1 f2)) := by
  obtain ⟨t1, p1, s1⟩ := ha
  obtain ⟨t2, p2, s2⟩ := hb
  have hd := pc_din (Nat.lt_of_le_of_lt (by omega) hu) p1 p2
  have h := se_in (Z := Z) (neg := false) (op := dIn) (fun x y => by simp [dIn]) (tDIn t1 t2) (fun σ H Q h => by unfold tDIn; simpa using h) s1 s2
  exact ⟨⟨_, peOr (pe_cmpR (op_inA hu) p1 p2 hm (pos := pos)) (pe_cmp hd hm), h⟩, ⟨_, ptOr (pt_cmpR (op_inA hu) p1 p2 hm (pos := pos)) (pt_cmp hd hm), fun G F H σ s S Q q => by
    rcases st_of_se h G F H σ s S Q q with z | z
    · exact .inl z
    · exact .inr z⟩⟩
end
end DL

set_option Elab.async false
set_option linter.all false
set_option maxRecDepth 100000
set_option maxHeartbeats 4000000
namespace DL
open PySem PySem.Spec PyProof.Rows L2

/-! ### slices -/
def cutL {α : Type} (xs : List α) (lo hi : Option Int) : List α := (xs.drop (HT.sIx xs.length 0 lo)).take (HT.sIx xs.length xs.length hi - HT.sIx xs.length 0 lo)
theorem cutL_dn {K : Fg} {F : Hp} {vs : List V} {ds : List D} (h : DnAll K F vs ds) (lo hi : Option Int) : DnAll K F (cutV vs lo hi) (cutL ds lo hi) := by
  unfold cutV cutL
  rw [h.len]
  exact (h.drop _).take _
def dSl (a : D) (lo hi : Option Int) : R D := match a with
  | .list xs => .ok (.list (cutL xs lo hi))
  | .tuple xs => if HT.sIx xs.length 0 lo = 0 ∧ HT.sIx xs.length xs.length hi = xs.length then .bad else .ok (.tuple (cutL xs lo hi))
  | .str z => if z.length ≤ sizeLine then .ok (.str (cutS z lo hi)) else .bad
  | _ => .bad
def cutN (a : D) (i j : Option Int) : R (List D) := match a with | .list xs => .ok (cutL xs i j) | _ => .bad
@[simp] theorem cutN_list (xs : List D) (i j : Option Int) : cutN (.list xs) i j = .ok (cutL xs i j) := rfl
@[simp] theorem dSl_list (xs : List D) (i j : Option Int) : dSl (.list xs) i j = .ok (.list (cutL xs i j)) := rfl
@[simp] theorem dSl_str (z : Str) (i j : Option Int) : dSl (.str z) i j = if z.length ≤ sizeLine then .ok (.str (cutS z i j)) else .bad := rfl
@[simp] theorem dSl_tuple (xs : List D) (lo hi : Option Int) : dSl (.tuple xs) lo hi = if HT.sIx xs.length 0 lo = 0 ∧ HT.sIx xs.length xs.length hi = xs.length then .bad else .ok (.tuple (cutL xs lo hi)) := rfl
abbrev OM := DSt → R (Option Int)
@[simp] def oNo : OM := fun _ => .ok none
def toI (d : D) : R (Option Int) := match d with | .int i => .ok (some i) | _ => .bad
@[simp] theorem toI_int (i : Int) : toI (.int i) = .ok (some i) := rfl
@[simp] def oInt (f : EM) : OM := fun s => (f s).bind toI
@[simp] def eSl (f : EM) (lo hi : OM) : EM := fun s => (f s).bind fun a => (lo s).bind fun i => (hi s).bind fun j => dSl a i j
@[simp] def nSl (f : EM) (lo hi : OM) : LM := fun s => (f s).bind fun a => (lo s).bind fun i => (hi s).bind fun j => cutN a i j
section
variable {X : Cx} {Z : XZ} {e : Expr} {lo hi : Option Expr} {f f1 f2 : EM} {o1 o2 : OM} {pos p2 : Pos}
theorem do_none : DO X Z none oNo := ⟨_, po_none, fun G F H σ s S Q q => q.ok S.kx⟩
theorem do_some (h : DE X Z e f) : DO X Z (some e) (oInt f) := by
  obtain ⟨t, p, s1⟩ := h
  refine ⟨_, po_some p, fun G F H σ s S Q q => ?_⟩
  refine s1 G F H σ s S _ (PostR.bind q fun d F1 H1 _ e1 q1 v1 d1 => ?_)
  cases d with
  | int i => cases d1; exact ⟨i, rfl, q1.ok e1.i⟩
  | _ => exact (show False from q1).elim
theorem de_sl (h : DE X Z e f) (h1 : DO X Z lo o1) (h2 : DO X Z hi o2) : DE X Z (.Subscript e (.Slice lo hi none p2) pos) (eSl f o1 o2) := by
  obtain ⟨t, p, s1⟩ := h
  obtain ⟨t1, p1, s2⟩ := h1
  obtain ⟨t2, p3, s3⟩ := h2
  refine ⟨_, pe_slice (sl_list.or (sl_tup.or sl_str)) p p1 p3, fun G F H σ s S Q q => ?_⟩
  refine s1 G F H σ s S _ (PostR.bind q fun a F1 H1 _ e1 q1 v1 d1 => ?_)
  refine s2 G F1 H1 σ s (S.ext e1) _ (PostR.bind q1 fun i F2 H2 _ e2 q2 => ?_)
  refine s3 G F2 H2 σ s ((S.ext e1).ext e2) _ (PostR.bind q2 fun j F3 H3 _ e3 q3 => ?_)
  have d3 := d1.mono (e2.f.trans e3.f)
  cases d3 with
  | lst h1 a1 => exact .inl ⟨_, _, rfl, e3.i.sql h1, fun p hp => q3 _ _ (.new e3.i hp) _ (.lst (.of upd_same) ((cutL_dn a1 i j).mono (.new (e3.i.back hp))))⟩
  | @tup l xs ds h1 a1 =>
    have q4 : PostR Z F3 H3 (if HT.sIx ds.length 0 i = 0 ∧ HT.sIx ds.length ds.length j = ds.length then .bad else .ok (.tuple (cutL ds i j))) (PD X.K Q) := q3
    by_cases hc : HT.sIx ds.length 0 i = 0 ∧ HT.sIx ds.length ds.length j = ds.length
    · rw [if_pos hc] at q4; exact q4.elim
    · rw [if_neg hc] at q4
      exact .inr (.inl ⟨_, _, rfl, .of (e3.i.tup h1), by rw [a1.len]; exact hc, fun p hp => q4 _ _ (.new e3.i hp) _ (.tup upd_same ((cutL_dn a1 i j).mono (.new (e3.i.back hp))))⟩)
  | str z =>
    have q4 : PostR Z F3 H3 (if z.length ≤ sizeLine then .ok (.str (cutS z i j)) else .bad) (PD X.K Q) := q3
    by_cases hc : z.length ≤ sizeLine
    · rw [if_pos hc] at q4
      exact .inr (.inr ⟨z, rfl, hc, q4.ok e3.i _ (.str _)⟩)
    · rw [if_neg hc] at q4; exact q4.elim
  | _ => exact (show False from q3).elim
theorem dn_sl (h : DE X Z e f) (h1 : DO X Z lo o1) (h2 : DO X Z hi o2) : DN X Z (.Subscript e (.Slice lo hi none p2) pos) (nSl f o1 o2) := by
  obtain ⟨t, p, s1⟩ := h
  obtain ⟨t1, p1, s2⟩ := h1
  obtain ⟨t2, p3, s3⟩ := h2
  refine ⟨_, pe_slice sl_list p p1 p3, fun G F H σ s S Q q => ?_⟩
  refine s1 G F H σ s S _ (PostR.bind q fun a F1 H1 _ e1 q1 v1 d1 => ?_)
  refine s2 G F1 H1 σ s (S.ext e1) _ (PostR.bind q1 fun i F2 H2 _ e2 q2 => ?_)
  refine s3 G F2 H2 σ s ((S.ext e1).ext e2) _ (PostR.bind q2 fun j F3 H3 _ e3 q3 => ?_)
  have d3 := d1.mono (e2.f.trans e3.f)
  cases d3 with
  | lst h1 a1 => exact ⟨_, _, rfl, e3.i.sql h1, fun p hp => q3.ok e3.i p _ hp (cutL_dn a1 i j)⟩
  | _ => exact (show False from q3).elim
end

/-! ### calls of built-ins by values -/
@[simp] def eCall (g : List D → R D) (f : AM) : EM := fun s => (f s).bind g
theorem se_cb {K : Fg} {Z : XZ} {r : List V → Hp → VK → Prop} {g : List D → R D} {t : TA} {f : AM} (h : SA K Z t f) (hr : SRN K Z r g) : SE K Z (tCB r t) (eCall g f) := fun G F H σ s S Q q => by
  refine h G F H σ s S _ (PostR.bind q fun ds F1 H1 _ e1 q1 vs d1 => ?_)
  exact hr F1 H1 vs ds e1.i d1 Q q1
def dLen (ds : List D) : R D := match ds with
  | [.list xs] => .ok (.int xs.length)
  | [.tuple xs] => .ok (.int xs.length)
  | [.str x] => if x.length ≤ sizeLine then .ok (.int x.length) else .bad
  | [.dict kvs] => .ok (.int kvs.length)
  | _ => .bad
@[simp] theorem dLen_list (xs : List D) : dLen [.list xs] = .ok (.int xs.length) := rfl
@[simp] theorem dLen_tuple (xs : List D) : dLen [.tuple xs] = .ok (.int xs.length) := rfl
@[simp] theorem dLen_str (x : Str) : dLen [.str x] = if x.length ≤ sizeLine then .ok (.int x.length) else .bad := rfl
@[simp] theorem dLen_dict (kvs : List (D × D)) : dLen [.dict kvs] = .ok (.int kvs.length) := rfl
section
variable {X : Cx} {Z : XZ} {e : Expr} {es : List Expr} {f f1 f2 : EM} {g : AM} {pos p : Pos}
theorem call_lenK : CallR X (.builtin "len") (fun xs H Q => ∃ a kvs, xs = [V.ref a] ∧ Rd H a (.dK kvs) ∧ Q (.int kvs.length) H) := by
  intro pins s σ H xs us Q I r h
  obtain ⟨a, kvs, rfl, ha, q⟩ := h
  obtain ⟨u, rfl, ru⟩ := vals1 r
  cases ru
  exact d_len I ha fun t s' I' => ⟨.int kvs.length, H, I', ⟨t, rfl⟩, q⟩
theorem de_len (hm : X.mg "len" = none) (ha : DA X Z (e :: es) g) (hg : Gl X "len" := by rfl)
    (he : starEach (e :: es) X.env = (false, eval e X.env) :: starEach es X.env := by rfl) (hpl : (backTo pos (starEach es X.env)).any (·.1) = false := by rfl) : DE X Z (.Call (.Name "len" p) (e :: es) [] pos) (eCall dLen g) := by
  obtain ⟨⟨t, p1, s1⟩, _⟩ := ha
  refine ⟨_, pe_callB (call_len.or call_lenK) hg hm PySem.boot_len p1 (by decide) (by decide) he hpl, se_cb s1 fun F H xs ds ek d Q q => ?_⟩
  match ds, d, q with
  | [.list xs], .cons (.lst h1 a1) .nil, q => exact .inl ⟨_, _, rfl, .inl ⟨_, ek.sql h1, a1.len.symm⟩, q.ok ek _ (.int _)⟩
  | [.tuple xs], .cons (.tup h1 a1) .nil, q => exact .inl ⟨_, _, rfl, .inr ⟨_, .of (ek.tup h1), a1.len.symm⟩, q.ok ek _ (.int _)⟩
  | [.str x], .cons (.str _) .nil, q =>
    have q4 : PostR Z F H (if x.length ≤ sizeLine then .ok (.int x.length) else .bad) (PD X.K Q) := q
    by_cases hc : x.length ≤ sizeLine
    · rw [if_pos hc] at q4
      exact .inl ⟨_, _, rfl, ⟨hc, rfl⟩, q4.ok ek _ (.int _)⟩
    · rw [if_neg hc] at q4; exact q4.elim
  | [.dict kvs], .cons (.dic h1 a1) .nil, q => exact .inr ⟨_, _, rfl, ek.rd trivial h1, by rw [a1.len]; exact q.ok ek _ (.int _)⟩
end

/-! ### what a def promises: its mirror -/
def spM (K : Fg) (Z : XK → XZ) (n : Nat) (m : List D → R D) : Sp := fun vs H Q E => vs.length = n ∧ ∃ F ds, Kx F H ∧ DnAll K F vs ds ∧ PostR (Z E) F H (m ds) (PD K Q)
def noEx {α : Type} (r : R α) : R α := match r with
  | .ex _ _ => .bad
  | r => r
@[simp] theorem noEx_ok {α : Type} (a : α) : noEx (.ok a) = .ok a := rfl
@[simp] theorem noEx_bad {α : Type} : noEx (.bad : R α) = .bad := rfl
@[simp] theorem noEx_ex {α : Type} (c : Str) (d : D) : noEx (.ex c d : R α) = .bad := rfl
section
variable {X : Cx} {Z : XZ} {e : Expr} {es : List Expr} {g : AM} {pos p : Pos}
/-- a call of a def of one's own, that raises nothing -/
theorem de_call {k : Nat} {f : Addr} {fd : FuncData} {ps : List Str} {m : List D → R D} {x : Str} {Zs : XK → XZ} (Gk : FnOk X.prog X.w X.K X.mg X.base CX0 k f fd ps (spM X.K Zs ps.length m)) (hr : Room k X.A) (hm : X.mg x = some (.ref f)) (hk : PySem.W.keepIn X.K (.ref f) = true)
    (hb : Binds X.K fd ps []) (ha : DA X Z (e :: es) g) (hl : (e :: es).length = ps.length := by rfl) (hg : Gl X x := by rfl) (hdb : (x == ("__debug__" : Str)) = false := by decide)
    (he : starEach (e :: es) X.env = (false, eval e X.env) :: starEach es X.env := by rfl) (hpl : (backTo pos (starEach es X.env)).any (·.1) = false := by rfl) :
    DE X Z (.Call (.Name x p) (e :: es) [] pos) (eCall (fun ds => noEx (m ds)) g) := by
  obtain ⟨⟨t, p1, s1⟩, ln⟩ := ha
  refine ⟨_, pe_call Gk hr hg hm hk hb .nil (E := E0) pass0 p1 hdb he hpl, fun G F H σ s S Q q => ?_⟩
  refine s1 G F H σ s S _ (PostR.bind q fun ds F1 H1 er e1 q1 vs d1 => ?_)
  refine ⟨by rw [List.append_nil, d1.len, ln s ds er, hl], F1, ds, e1.i, by rw [List.append_nil]; exact d1, ?_⟩
  cases h : m ds with
  | ok a => rw [h] at q1; exact q1
  | ex c d => rw [h] at q1; exact (show False from q1).elim
  | bad => rw [h] at q1; exact q1
end

/-! ### targets -/
abbrev BM := D → DSt → Option DSt
abbrev BMs := List D → DSt → Option DSt
def SG (K : Fg) (g : TG) (b : BM) : Prop := ∀ G F H σ s v d, StOk K G F H σ s → Dn K F v d → ∀ Q : L2.St → Hp → Prop, (∃ s', b d s = some s' ∧ ∀ σ', StOk K G F H σ' s' → Q σ' H) → g v σ H Q
def SGs (K : Fg) (g : TGs) (b : BMs) : Prop := ∀ G F H σ s vs ds, StOk K G F H σ s → DnAll K F vs ds → ∀ Q : L2.St → Hp → Prop, (∃ s', b ds s = some s' ∧ ∀ σ', StOk K G F H σ' s' → Q σ' H) → g vs σ H Q
structure DG (X : Cx) (tg : Expr) (b : BM) : Prop where
  ex : ∃ g, PG X tg g ∧ SG X.K g b
structure DGs (X : Cx) (tg : List Expr) (b : BMs) : Prop where
  ex : ∃ g, PGs X tg g ∧ SGs X.K g b
@[simp] def bName (i : Nat) : BM := fun d s => some (s.set i (.d d))
@[simp] def bNil : BMs := fun ds s => match ds with | [] => some s | _ => none
@[simp] def bCons (b : BM) (r : BMs) : BMs := fun ds s => match ds with | d :: ds => (b d s).bind (r ds) | [] => none
@[simp] def bTup (n : Nat) (r : BMs) : BM := fun d s => match d with | .tuple ds => if ds.length = n then r ds s else none | .list ds => if ds.length = n then r ds s else none | _ => none
section
variable {K : Fg} {G : Hp × Hp} {F H : Hp} {σ : L2.St} {s : DSt}
/-- a slot gets what stands for ever -/
theorem StOk.setD (h : StOk K G F H σ s) (i : Nat) {v : V} {d : D} (hd : Dn K F v d) : StOk K G F H (σ.set i (some v)) (s.set i (.d d)) where
  e := h.e
  ln := by rw [List.length_set, List.length_set]; exact h.ln
  sl := fun j x hx => by
    by_cases hj : i = j
    · subst hj
      have hi : i < s.length := by
        have := (List.getElem?_eq_some_iff.mp hx).1
        simpa using this
      rw [List.getElem?_set_self hi] at hx
      cases hx
      exact ⟨v, by rw [List.getElem?_set_self (by rw [← h.ln]; exact hi)], hd⟩
    · rw [List.getElem?_set_ne hj] at hx ⊢
      exact h.sl j x hx
  ds := fun j k x y a h1 h2 o1 o2 e1 e2 => by
    have hj : i ≠ j := fun q => by
      subst q
      have hi : i < s.length := by have := (List.getElem?_eq_some_iff.mp h1).1; simpa using this
      rw [List.getElem?_set_self hi] at h1
      cases h1; cases o1
    have hk : i ≠ k := fun q => by
      subst q
      have hi : i < s.length := by have := (List.getElem?_eq_some_iff.mp h2).1; simpa using this
      rw [List.getElem?_set_self hi] at h2
      cases h2; cases o2
    rw [List.getElem?_set_ne hj] at h1 e1
    rw [List.getElem?_set_ne hk] at h2 e2
    exact h.ds j k x y a h1 h2 o1 o2 e1 e2
end
section
variable {X : Cx} {pos : Pos}
theorem dg_name (i : Nat) {x : Str} (hN : X.N.Nodup) (hi : X.N[i]? = some x := by rfl) (hx : Loc X.env.scope x := by first | exact Or.inl rfl | exact Or.inr rfl) (hf : X.fn x = true ∨ X.env.scope.names.lookup x = some .local := by first | exact .inl rfl | exact .inr rfl | assumption) : DG X (.Name x pos) (bName i) :=
  ⟨_, pg_name hN hi hx hf, fun G F H σ s v d S dv Q ⟨s', e, q⟩ => by cases e; exact q _ (S.setD i dv)⟩
theorem dgs_nil : DGs X [] bNil := ⟨_, pgs_nil, fun G F H σ s vs ds S dv Q ⟨s', e, q⟩ => by
  cases dv with
  | nil => cases e; exact ⟨rfl, q _ S⟩
  | cons _ _ => cases e⟩
theorem dgs_cons {e : Expr} {es : List Expr} {b : BM} {r : BMs} (h : DG X e b) (k : DGs X es r) (hs : (assignEach (e :: es) X.env).map (·.2) = assign e X.env :: (assignEach es X.env).map (·.2) := by rfl) : DGs X (e :: es) (bCons b r) := by
  obtain ⟨g, p, s1⟩ := h
  obtain ⟨g2, p2, s2⟩ := k
  refine ⟨_, pgs_cons p p2 hs, fun G F H σ s vs ds S dv Q ⟨s', e, q⟩ => ?_⟩
  cases dv with
  | nil => cases e
  | @cons v vs d ds h t =>
    have e' : (b d s).bind (r ds) = some s' := e
    cases z : b d s with
    | none => rw [z] at e'; cases e'
    | some s1' =>
      rw [z] at e'
      exact ⟨v, vs, rfl, s1 G F H σ s v d S h _ ⟨s1', z, fun σ' S' => s2 G F H σ' s1' vs ds S' t _ ⟨s', e', q⟩⟩⟩
/-- a, b, .. = a tuple -/
theorem dg_tup {es : List Expr} {k : Nat} {n : Nat} {r : BMs} (hc : X.calm = true) (h : DGs X es r) (hn : (assignEach es X.env).length = n := by rfl) (hst : (assignEach es X.env).findIdx? (·.1) = none := by rfl) : DG X (.Tuple es k pos) (bTup n r) := by
  obtain ⟨g, p, s1⟩ := h
  have pA := pg_tup (k := k) (pos := pos) hc p hn hst
  have pB := pg_unl (k := k) (pos := pos) hc p hn hst
  refine ⟨fun v σ H Q => gTup X.K n g v σ H Q ∨ gUnl X.K n g v σ H Q, ⟨fun pins s σ H v u Q I r h => h.elim (pA.run pins s σ H v u Q I r) (pB.run pins s σ H v u Q I r)⟩, fun G F H σ s v d S dv Q ⟨s', e, q⟩ => ?_⟩
  cases dv with
  | @tup l vs ds h1 a1 =>
    have e' : (if ds.length = n then r ds s else none) = some s' := e
    by_cases hl : ds.length = n
    · rw [if_pos hl] at e'
      exact .inl ⟨_, _, rfl, .of (S.kx.tup h1), by rw [a1.len]; exact hl, s1 G F H σ s _ ds S a1 _ ⟨s', e', q⟩⟩
    · rw [if_neg hl] at e'; cases e'
  | @lst l vs ds h1 a1 =>
    have e' : (if ds.length = n then r ds s else none) = some s' := e
    by_cases hl : ds.length = n
    · rw [if_pos hl] at e'
      exact .inr ⟨_, _, rfl, S.kx.sql h1, by rw [a1.len]; exact hl, s1 G F H σ s _ ds S a1 _ ⟨s', e', q⟩⟩
    · rw [if_neg hl] at e'; cases e'
  | _ => cases e
end
end DL

set_option Elab.async false
set_option linter.all false
set_option maxRecDepth 100000
set_option maxHeartbeats 4000000
namespace DL
open PySem PySem.Spec PyProof.Rows L2

/-! ### statements -/
def PostS (K : Fg) (Z : XZ) (G : Hp × Hp) (F : Hp) (D : Ends) : Out → Prop
  | .nx s' => ∀ F' H' σ', Kx F F' → StOk K G F' H' σ' s' → D.nx σ' H'
  | .bk s' => ∀ F' H' σ', Kx F F' → StOk K G F' H' σ' s' → D.bk σ' H'
  | .ct s' => ∀ F' H' σ', Kx F F' → StOk K G F' H' σ' s' → D.ct σ' H'
  | .rt d => ∀ F' H' v, Kx F F' → Ext G.1 G.2 F' H' → Dn K F' v d → D.rt v H'
  | .ex c d => ∀ F' H', Kx F F' → Ext G.1 G.2 F' H' → Z c d F' H'
  | .bad => False
def SS (K : Fg) (Z : XZ) (ts : TS) (f : SM) : Prop := ∀ G F H σ s, StOk K G F H σ s → ∀ D : Ends, PostS K Z G F D (f s) → ts D σ H
structure DS (X : Cx) (Z : XZ) (st : Stmt) (f : SM) : Prop where
  ex : ∃ ts, PS X st ts ∧ SS X.K Z ts f
structure DSs (X : Cx) (Z : XZ) (st : List Stmt) (f : SM) : Prop where
  ex : ∃ ts, PSs X st ts ∧ SS X.K Z ts f
def oE {α : Type} (r : R α) (k : α → Out) : Out := match r with
  | .ok a => k a
  | .ex c d => .ex c d
  | .bad => .bad
@[simp] theorem oE_ok {α : Type} (a : α) (k : α → Out) : oE (.ok a) k = k a := rfl
@[simp] theorem oE_bad {α : Type} (k : α → Out) : oE (.bad : R α) k = .bad := rfl
@[simp] theorem oE_ex {α : Type} (c : Str) (d : D) (k : α → Out) : oE (.ex c d : R α) k = .ex c d := rfl
def sqO (o : Out) (g : DSt → Out) : Out := match o with
  | .nx s' => g s'
  | o => o
@[simp] theorem sqO_nx (s : DSt) (g : DSt → Out) : sqO (.nx s) g = g s := rfl
@[simp] theorem sqO_rt (d : D) (g : DSt → Out) : sqO (.rt d) g = .rt d := rfl
@[simp] theorem sqO_bk (s : DSt) (g : DSt → Out) : sqO (.bk s) g = .bk s := rfl
@[simp] theorem sqO_ct (s : DSt) (g : DSt → Out) : sqO (.ct s) g = .ct s := rfl
@[simp] theorem sqO_ex (c : Str) (d : D) (g : DSt → Out) : sqO (.ex c d) g = .ex c d := rfl
@[simp] theorem sqO_bad (g : DSt → Out) : sqO .bad g = .bad := rfl
def obO (o : Option DSt) : Out := match o with
  | some s' => .nx s'
  | none => .bad
@[simp] theorem obO_some (s : DSt) : obO (some s) = .nx s := rfl
@[simp] theorem obO_none : obO none = .bad := rfl
theorem PostS.mono {K : Fg} {Z : XZ} {G : Hp × Hp} {F F1 : Hp} {D : Ends} {o : Out} (h : PostS K Z G F D o) (e : Kx F F1) : PostS K Z G F1 D o := by
  cases o with
  | nx s => exact fun F' H' σ' k S => h F' H' σ' (e.trans k) S
  | bk s => exact fun F' H' σ' k S => h F' H' σ' (e.trans k) S
  | ct s => exact fun F' H' σ' k S => h F' H' σ' (e.trans k) S
  | rt d => exact fun F' H' v k S => h F' H' v (e.trans k) S
  | ex c d => exact fun F' H' k S => h F' H' (e.trans k) S
  | bad => exact h
theorem PostS.bind {α : Type} {K : Fg} {Z : XZ} {G : Hp × Hp} {F H : Hp} {σ : L2.St} {s : DSt} {D : Ends} {r : R α} {k : α → Out} {P : α → Hp → Hp → Prop} (S : StOk K G F H σ s) (h : PostS K Z G F D (oE r k))
    (g : ∀ a F' H', r = .ok a → Ext F H F' H' → PostS K Z G F' D (k a) → P a F' H') : PostR Z F H r P := by
  cases r with
  | ok a => exact fun F' H' e => g a F' H' rfl e (PostS.mono (show PostS K Z G F D (k a) from h) e.f)
  | ex c d => exact fun F' H' e => h F' H' e.f (S.e.trans e)
  | bad => exact h
@[simp] def mNx : SM := fun s => .nx s
@[simp] def mBk : SM := fun s => .bk s
@[simp] def mCt : SM := fun s => .ct s
@[simp] def mSeq (f g : SM) : SM := fun s => sqO (f s) g
@[simp] def mAsg (f : EM) (b : BM) : SM := fun s => oE (f s) fun d => obO (b d s)
@[simp] def mRet (f : EM) : SM := fun s => oE (f s) fun d => .rt d
@[simp] def mRetN : SM := fun _ => .rt .none
@[simp] def mExpr (f : EM) : SM := fun s => oE (f s) fun _ => .nx s
@[simp] def mIf (c : TM) (f g : SM) : SM := fun s => oE (c s) fun b => if b = true then f s else g s
section
variable {X : Cx} {Z : XZ} {st : Stmt} {rest : List Stmt} {e c : Expr} {f g : SM} {fe : EM} {fc : TM} {pos : Pos}
theorem dss_nil : DSs X Z [] mNx := ⟨_, pss_nil, fun G F H σ s S D q => q F H σ (.refl F) S⟩
theorem dss_cons (h : DS X Z st f) (k : DSs X Z rest g) : DSs X Z (st :: rest) (mSeq f g) := by
  obtain ⟨t, p, s1⟩ := h
  obtain ⟨u, p2, s2⟩ := k
  refine ⟨_, pss_cons p p2, fun G F H σ s S D q => ?_⟩
  refine s1 G F H σ s S _ ?_
  have q' : PostS X.K Z G F D (sqO (f s) g) := q
  cases h : f s with
  | nx s' =>
    rw [h] at q'
    exact fun F' H' σ' k S' => s2 G F' H' σ' s' S' _ (PostS.mono q' k)
  | bk s' => rw [h] at q'; exact q'
  | ct s' => rw [h] at q'; exact q'
  | rt d => rw [h] at q'; exact q'
  | ex c d => rw [h] at q'; exact q'
  | bad => rw [h] at q'; exact q'
theorem dss_one (h : DS X Z st f) : DSs X Z [st] f := let ⟨t, p, s1⟩ := h; ⟨t, pss_one p, s1⟩
theorem ds_pass : DS X Z (.Pass pos) mNx := ⟨_, ps_pass, fun G F H σ s S D q => q F H σ (.refl F) S⟩
theorem ds_break : DS X Z (.Break pos) mBk := ⟨_, ps_break, fun G F H σ s S D q => q F H σ (.refl F) S⟩
theorem ds_cont : DS X Z (.Continue pos) mCt := ⟨_, ps_continue, fun G F H σ s S D q => q F H σ (.refl F) S⟩
theorem ds_never : DS X Z st (fun _ => .bad) := ⟨_, ps_never, fun G F H σ s S D q => q⟩
theorem ds_ret (h : DE X Z e fe) : DS X Z (.Return (some e) pos) (mRet fe) := by
  obtain ⟨t, p, s1⟩ := h
  refine ⟨_, ps_ret p, fun G F H σ s S D q => ?_⟩
  exact s1 G F H σ s S _ (PostS.bind S q fun d F' H' _ e q v dv => q F' H' v (.refl _) (S.e.trans e) dv)
theorem ds_retN : DS X Z (.Return none pos) mRetN := ⟨_, ps_retN, fun G F H σ s S D q => q F H _ (.refl F) S.e .non⟩
theorem ds_expr (h : DE X Z e fe) (hs : swapsWith e none pos.line X.env = pure false := by rfl) : DS X Z (.Expr e pos) (mExpr fe) := by
  obtain ⟨t, p, s1⟩ := h
  refine ⟨_, ps_expr p hs, fun G F H σ s S D q => ?_⟩
  exact s1 G F H σ s S _ (PostS.bind S q fun d F' H' _ e q v dv => q F' H' σ (.refl _) (S.ext e))
theorem ds_if {a b : List Stmt} (hc : DT X Z c fc) (ha : DSs X Z a f) (hb : DSs X Z b g) : DS X Z (.If c a b pos) (mIf fc f g) := by
  obtain ⟨t, p, s0⟩ := hc
  obtain ⟨t1, p1, s1⟩ := ha
  obtain ⟨t2, p2, s2⟩ := hb
  refine ⟨_, ps_if p p1 p2, fun G F H σ s S D q => ?_⟩
  refine s0 G F H σ s S _ (PostS.bind S q fun b F' H' _ e q => ?_)
  cases b with
  | true => exact iteT (s1 G F' H' σ s (S.ext e) D q)
  | false => exact iteF (s2 G F' H' σ s (S.ext e) D q)
theorem ds_asg {tg : Expr} {b : BM} (h : DE X Z e fe) (hg : DG X tg b) (hs : swapsWithSole [tg] e pos.line X.env = pure false := by rfl) (hw : swappedStores [tg] e X.env = pure none := by rfl)
    (h1 : (assignEach [tg] X.env).map (·.2) = [assign tg X.env] := by rfl) : DS X Z (.Assign [tg] e pos) (mAsg fe b) := by
  obtain ⟨t, p, s1⟩ := h
  obtain ⟨g, p2, s2⟩ := hg
  refine ⟨_, ps_asg p p2 hs hw h1, fun G F H σ s S D q => ?_⟩
  refine s1 G F H σ s S _ (PostS.bind S q fun d F' H' _ e q v dv => ?_)
  cases z : b d s with
  | none => rw [z] at q; exact q.elim
  | some s' =>
    rw [z] at q
    exact s2 G F' H' σ s v d (S.ext e) dv _ ⟨s', z, fun σ' S' => q F' H' σ' (.refl _) S'⟩
/-- x = e -/
theorem ds_set (i : Nat) {x : Str} {pos' : Pos} (hN : X.N.Nodup) (h : DE X Z e fe) (hi : X.N[i]? = some x := by rfl) (hx : Loc X.env.scope x := by first | exact Or.inl rfl | exact Or.inr rfl) (hs : swapsWith e (some (.Name x pos')) pos.line X.env = pure false := by rfl) (hf : X.fn x = true ∨ X.env.scope.names.lookup x = some .local := by first | exact .inl rfl | exact .inr rfl | assumption) :
    DS X Z (.Assign [.Name x pos'] e pos) (mAsg fe (bName i)) := by
  obtain ⟨t, p, s1⟩ := h
  refine ⟨_, ps_set hN hi hx p hs hf, fun G F H σ s S D q => ?_⟩
  exact s1 G F H σ s S _ (PostS.bind S q fun d F' H' _ e q v dv => q F' H' _ (.refl _) ((S.ext e).setD i dv))
end

/-! ### lists and dicts of one's own -/
section
variable {K : Fg} {G : Hp × Hp} {F H : Hp} {σ : L2.St} {s : DSt}
theorem StOk.lt (h : StOk K G F H σ s) {i : Nat} (hi : i < s.length) : i < σ.length := by rw [← h.ln]; exact hi
theorem StOk.set_sl (h : StOk K G F H σ s) {H' : Hp} {i : Nat} {p : Addr} {y : Sl} (e : Ext G.1 G.2 F H') (hy : SlOk K G F H' (some (some (.ref p))) y) (hk : ∀ a o, F a = none → G.2 a = none → H a = some o → a ≠ p → H' a = some o) (hn : ∀ (j : Nat) (x : Sl), j ≠ i → s[j]? = some x → x.own = true → σ[j]? ≠ some (some (.ref p))) :
    StOk K G F H' (σ.set i (some (.ref p))) (s.set i y) where
  e := e
  ln := by rw [List.length_set, List.length_set]; exact h.ln
  sl := fun j x hx => by
    by_cases hj : i = j
    · subst hj
      have hi : i < s.length := by have := (List.getElem?_eq_some_iff.mp hx).1; simpa using this
      rw [List.getElem?_set_self hi] at hx
      cases hx
      rw [List.getElem?_set_self (h.lt hi)]
      exact hy
    · rw [List.getElem?_set_ne hj] at hx ⊢
      have q := h.sl j x hx
      cases x with
      | no => trivial
      | d x => exact q
      | ol xs =>
        obtain ⟨a, vs, e1, f1, g1, h1, d1⟩ := q
        exact ⟨a, vs, e1, f1, g1, hk a _ f1 g1 h1 fun z => hn j _ (fun w => hj w.symm) hx rfl (by rw [e1, z]), d1⟩
      | od kvs =>
        obtain ⟨a, e1, f1, g1, ks, h1, d1⟩ := q
        exact ⟨a, e1, f1, g1, ks, hk a _ f1 g1 h1 fun z => hn j _ (fun w => hj w.symm) hx rfl (by rw [e1, z]), d1⟩
  ds := fun j k x z a h1 h2 o1 o2 e1 e2 => by
    by_cases hj : i = j
    · subst hj
      by_cases hk' : i = k
      · exact hk'
      · have hi : i < s.length := by have := (List.getElem?_eq_some_iff.mp h1).1; simpa using this
        rw [List.getElem?_set_self (h.lt hi)] at e1
        rw [List.getElem?_set_ne hk'] at e2 h2
        cases e1
        exact (hn k _ (fun w => hk' w.symm) h2 o2 e2).elim
    · rw [List.getElem?_set_ne hj] at h1 e1
      by_cases hk' : i = k
      · subst hk'
        have hi : i < s.length := by have := (List.getElem?_eq_some_iff.mp h2).1; simpa using this
        rw [List.getElem?_set_self (h.lt hi)] at e2
        cases e2
        exact (hn j _ (fun w => hj w.symm) h1 o1 e1).elim
      · rw [List.getElem?_set_ne hk'] at h2 e2
        exact h.ds j k x z a h1 h2 o1 o2 e1 e2
theorem StOk.ownH (h : StOk K G F H σ s) {j : Nat} {x : Sl} (hx : s[j]? = some x) (ho : x.own = true) : ∃ a o, σ[j]? = some (some (.ref a)) ∧ F a = none ∧ G.2 a = none ∧ H a = some o := by
  have q := h.sl j x hx
  cases x with
  | no => cases ho
  | d x => cases ho
  | ol xs => obtain ⟨a, vs, e1, f1, g1, h1, d1⟩ := q; exact ⟨a, _, e1, f1, g1, h1⟩
  | od kvs => obtain ⟨a, e1, f1, g1, ks, h1, d1⟩ := q; exact ⟨a, _, e1, f1, g1, h1⟩
theorem ext_mut (e : Ext G.1 G.2 F H) {p : Addr} {o : HO} (hf : F p = none) (hg : G.2 p = none) : Ext G.1 G.2 F (upd H p o) :=
  ⟨e.f, e.h.mut hg, e.i.mut hf, e.n, fun a u h1 h2 => by
    have : a ≠ p := fun z => by rw [z, hg] at h2; cases h2
    rw [upd_ne this]; exact e.o a u h1 h2⟩
/-- a slot gets a new object of its own -/
theorem StOk.setN (h : StOk K G F H σ s) (i : Nat) {p : Addr} {o : HO} {y : Sl} (hp : H p = none) (hy : F p = none → G.2 p = none → SlOk K G F (upd H p o) (some (some (.ref p))) y) : StOk K G F (upd H p o) (σ.set i (some (.ref p))) (s.set i y) := by
  have hf := h.kx.back hp
  have hg := h.e.h.back hp
  refine h.set_sl (ext_mut h.e hf hg) (hy hf hg) (fun a u _ _ h1 ha => by rw [upd_ne ha]; exact h1) fun j x hj hx ho e1 => ?_
  obtain ⟨a, u, e2, _, _, h2⟩ := h.ownH hx ho
  rw [e1] at e2
  cases e2
  rw [hp] at h2; cases h2
/-- an object of one's own is changed -/
theorem StOk.mutN (h : StOk K G F H σ s) {i : Nat} {p : Addr} {o : HO} {x y : Sl} (hx : s[i]? = some x) (ho : x.own = true) (hσ : σ[i]? = some (some (.ref p))) (hf : F p = none) (hg : G.2 p = none) (hy : SlOk K G F (upd H p o) (some (some (.ref p))) y) : StOk K G F (upd H p o) σ (s.set i y) := by
  have e : σ.set i (some (.ref p)) = σ := by
    apply List.ext_getElem?
    intro j
    by_cases hj : i = j
    · subst hj
      have hi : i < σ.length := (List.getElem?_eq_some_iff.mp hσ).1
      rw [List.getElem?_set_self hi, hσ]
    · rw [List.getElem?_set_ne hj]
  have := h.set_sl (i := i) (p := p) (H' := upd H p o) (y := y) (ext_mut h.e hf hg) hy (fun a u _ _ h1 ha => by rw [upd_ne ha]; exact h1) fun j x' hj hx' ho' e1 => hj (h.ds j i x' x p hx' hx ho' ho e1 hσ)
  rw [e] at this
  exact this
/-- from now on for ever as it is -/
theorem StOk.frz (h : StOk K G F H σ s) {i : Nat} {a : Addr} {o : HO} {x : Sl} {d : D} (hx : s[i]? = some x) (ho : x.own = true) (hσ : σ[i]? = some (some (.ref a))) (hf : F a = none) (hg : G.2 a = none) (hH : H a = some o) (hd : Dn K (upd F a o) (.ref a) d) : StOk K G (upd F a o) H σ (s.set i (.d d)) := by
  have k : Kx F (upd F a o) := .new hf
  have g1 : G.1 a = none := h.e.f.back hf
  refine ⟨⟨h.e.f.trans k, h.e.h, fun b u hb => ?_, fun b h1 h2 => ?_, h.e.o⟩, by rw [List.length_set]; exact h.ln, fun j y hy => ?_, fun j k x z b h1 h2 o1 o2 e1 e2 => ?_⟩
  · by_cases q : b = a
    · subst q
      rw [upd_same] at hb; cases hb
      exact ⟨_, hH, .refl _⟩
    · rw [upd_ne q] at hb
      exact h.e.i b u hb
  · by_cases q : b = a
    · subst q; exact hg
    · rw [upd_ne q] at h2; exact h.e.n b h1 h2
  · by_cases hj : i = j
    · subst hj
      have hi : i < s.length := by have := (List.getElem?_eq_some_iff.mp hy).1; simpa using this
      rw [List.getElem?_set_self hi] at hy
      cases hy
      exact ⟨_, hσ, hd⟩
    · rw [List.getElem?_set_ne hj] at hy
      have q := h.sl j y hy
      cases y with
      | no => trivial
      | d x => obtain ⟨v, e1, d1⟩ := q; exact ⟨v, e1, d1.mono k⟩
      | ol xs =>
        obtain ⟨b, vs, e1, f1, g2, h1, d1⟩ := q
        have nb : b ≠ a := fun z => hj (h.ds i j x _ a hx hy ho rfl hσ (by rw [e1, z]))
        exact ⟨b, vs, e1, by rw [upd_ne nb]; exact f1, g2, h1, d1.mono k⟩
      | od kvs =>
        obtain ⟨b, e1, f1, g2, ks, h1, d1⟩ := q
        have nb : b ≠ a := fun z => hj (h.ds i j x _ a hx hy ho rfl hσ (by rw [e1, z]))
        exact ⟨b, e1, by rw [upd_ne nb]; exact f1, g2, ks, h1, d1.mono k⟩
  · have hj : i ≠ j := fun q => by
      subst q
      have hi : i < s.length := by have := (List.getElem?_eq_some_iff.mp h1).1; simpa using this
      rw [List.getElem?_set_self hi] at h1
      cases h1; cases o1
    have hk : i ≠ k := fun q => by
      subst q
      have hi : i < s.length := by have := (List.getElem?_eq_some_iff.mp h2).1; simpa using this
      rw [List.getElem?_set_self hi] at h2
      cases h2; cases o2
    rw [List.getElem?_set_ne hj] at h1
    rw [List.getElem?_set_ne hk] at h2
    exact h.ds j k x z b h1 h2 o1 o2 e1 e2
end
@[simp] def frz (i : Nat) (s : DSt) : DSt := match s[i]? with
  | some (.ol xs) => s.set i (.d (.list xs))
  | some (.od kvs) => s.set i (.d (.dict kvs))
  | _ => s
@[simp] def mFrz (i : Nat) (f : SM) : SM := fun s => f (frz i s)
@[simp] def mSetL (i : Nat) (f : LM) : SM := fun s => oE (f s) fun xs => .nx (s.set i (.ol xs))
@[simp] def mSetE (i : Nat) : SM := fun s => .nx (s.set i (.od []))
@[simp] def mApp (i : Nat) (f : EM) : SM := fun s => match s[i]? with
  | some (.ol _) => oE (f s) fun d => match s[i]? with
    | some (.ol xs) => if xs.length < sizeLine then .nx (s.set i (.ol (xs ++ [d]))) else .bad
    | _ => .bad
  | _ => .bad
section
variable {X : Cx} {Z : XZ} {st : Stmt} {rest : List Stmt} {e c : Expr} {f g : SM} {fe : EM} {fl : LM} {pos : Pos}
theorem ss_frz {K : Fg} {ts : TS} (i : Nat) (h : SS K Z ts f) : SS K Z ts (mFrz i f) := fun G F H σ s S D q => by
  have q' : PostS K Z G F D (f (frz i s)) := q
  cases hx : s[i]? with
  | none => rw [show frz i s = s by simp [frz, hx]] at q'; exact h G F H σ s S D q'
  | some x =>
    cases x with
    | no => rw [show frz i s = s by simp [frz, hx]] at q'; exact h G F H σ s S D q'
    | d x => rw [show frz i s = s by simp [frz, hx]] at q'; exact h G F H σ s S D q'
    | ol xs =>
      rw [show frz i s = s.set i (.d (.list xs)) by simp [frz, hx]] at q'
      obtain ⟨a, vs, e1, f1, g1, h1, d1⟩ := S.sl i _ hx
      have k : Kx F (upd F a (.lst vs)) := .new f1
      exact h G _ H σ _ (S.frz hx rfl e1 f1 g1 h1 (.lst (.of upd_same) (d1.mono k))) D (q'.mono k)
    | od kvs =>
      rw [show frz i s = s.set i (.d (.dict kvs)) by simp [frz, hx]] at q'
      obtain ⟨a, e1, f1, g1, ks, h1, d1⟩ := S.sl i _ hx
      have k : Kx F (upd F a (.dK ks)) := .new f1
      exact h G _ H σ _ (S.frz hx rfl e1 f1 g1 h1 (.dic (.inl upd_same) (d1.mono k))) D (q'.mono k)
theorem ds_frz (i : Nat) (h : DS X Z st f) : DS X Z st (mFrz i f) := let ⟨t, p, s1⟩ := h; ⟨t, p, ss_frz i s1⟩
theorem dss_frz (i : Nat) (h : DSs X Z rest f) : DSs X Z rest (mFrz i f) := let ⟨t, p, s1⟩ := h; ⟨t, p, ss_frz i s1⟩
/-- x = a new list that will be changed -/
theorem ds_setL (i : Nat) {x : Str} {pos' : Pos} (hN : X.N.Nodup) (h : DN X Z e fl) (hi : X.N[i]? = some x := by rfl) (hx : Loc X.env.scope x := by first | exact Or.inl rfl | exact Or.inr rfl) (hs : swapsWith e (some (.Name x pos')) pos.line X.env = pure false := by rfl) (hf : X.fn x = true ∨ X.env.scope.names.lookup x = some .local := by first | exact .inl rfl | exact .inr rfl | assumption) :
    DS X Z (.Assign [.Name x pos'] e pos) (mSetL i fl) := by
  obtain ⟨t, p, s1⟩ := h
  refine ⟨_, ps_set hN hi hx p hs hf, fun G F H σ s S D q => ?_⟩
  refine s1 G F H σ s S _ (PostS.bind S q fun ds F' H' _ e q p vs hp dv => ?_)
  exact q F' _ _ (.refl _) ((S.ext e).setN i hp fun f1 g1 => ⟨p, vs, rfl, f1, g1, upd_same, dv⟩)
/-- x = {} that will be filled -/
theorem ds_setE (i : Nat) {x : Str} {pos' pos2 : Pos} (hN : X.N.Nodup) (hi : X.N[i]? = some x := by rfl) (hx : Loc X.env.scope x := by first | exact Or.inl rfl | exact Or.inr rfl) (hs : swapsWith (.Dict [] [] pos2) (some (.Name x pos')) pos.line X.env = pure false := by rfl) (hf : X.fn x = true ∨ X.env.scope.names.lookup x = some .local := by first | exact .inl rfl | exact .inr rfl | assumption) :
    DS X Z (.Assign [.Name x pos'] (.Dict [] [] pos2) pos) (mSetE i) := by
  refine ⟨_, ps_set hN hi hx pe_dnewK hs hf, fun G F H σ s S D q => ?_⟩
  intro p hp
  exact q F _ _ (.refl _) (S.setN i hp fun f1 g1 => ⟨p, rfl, f1, g1, [], upd_same, .nil⟩)
/-- x.append(e) -/
theorem ds_app (i : Nat) {x : Str} {p1 p2 p3 : Pos} (he : DE X Z e fe) (hN : X.N[i]? = some x := by rfl) (hv : Vis X.env.scope x := by first | exact Or.inl rfl | exact Or.inr (Or.inl rfl) | exact Or.inr (Or.inr rfl)) (hd : (x == ("__debug__" : Str)) = false := by decide)
    (hcd : (x == ("__classdict__" : Str)) = false := by decide) (hs : swapsWith (.Call (.Attribute (.Name x p1) "append" p2) [e] [] p3) none pos.line X.env = pure false := by rfl)
    (h1 : starEach [e] X.env = (false, eval e X.env) :: starEach [] X.env := by rfl)
    (pe : ∀ t, PA X [e] (tCons t tNil) → PE X (.Call (.Attribute (.Name x p1) "append" p2) [e] [] p3) (tBM X.K "list" rAppend (tVar i) (tCons t tNil))) :
    DS X Z (.Expr (.Call (.Attribute (.Name x p1) "append" p2) [e] [] p3) pos) (mApp i fe) := by
  obtain ⟨t, p, s1⟩ := he
  refine ⟨_, ps_expr (pe t (pa_cons p pa_nil h1)) hs, fun G F H σ s S D q => ?_⟩
  unfold mApp at q
  cases hx : s[i]? with
  | none => simp only [hx] at q; exact q.elim
  | some y =>
    cases y with
    | ol xs =>
      simp only [hx] at q
      obtain ⟨a, vs, e1, f1, g1, k1, d1⟩ := S.sl i _ hx
      refine ⟨.ref a, e1, .inl ⟨rfl, _, .of k1⟩, ?_⟩
      refine s1 G F H σ s S _ (PostS.bind S q fun d F' H' _ e q v dv => ?_)
      split at q
      · rename_i hl
        have k2 := e.o a _ f1 k1
        have d2 := d1.mono e.f
        refine ⟨a, vs, v, rfl, rfl, k2, by rw [d1.len]; exact hl, ?_⟩
        exact q F' _ σ (.refl _) ((S.ext e).mutN hx rfl e1 (e.fr f1 k1) g1 ⟨a, _, rfl, e.fr f1 k1, g1, upd_same, d2.app (.cons dv .nil)⟩)
      · exact q.elim
    | _ => simp only [hx] at q; exact q.elim
end
end DL

set_option Elab.async false
set_option linter.all false
set_option maxRecDepth 100000
set_option maxHeartbeats 4000000
namespace DL
open PySem PySem.Spec PyProof.Rows L2

/-! ### what is walked -/
def ItOk (K : Fg) (F1 : Hp) (J : It) (items : List D) : Prop := ∀ F' H', Kx F1 F' → Kx F' H' →
  (∀ (i : Nat) (d : D), items[i]? = some d → J.go i H' ∧ ∀ x H'', J.yld i H' x H'' → ∃ F'', Ext F' H' F'' H'' ∧ Dn K F'' x d) ∧ J.stop items.length H'
def SI (K : Fg) (Z : XZ) (wi : TI) (f : LM) : Prop := ∀ G F H σ s, StOk K G F H σ s → ∀ R : It → Hp → Prop, PostR Z F H (f s) (fun items F' H' => ∀ J, ItOk K F' J items → R J H') → wi σ H R
structure DI (X : Cx) (Z : XZ) (tg e : Expr) (f : LM) : Prop where
  ex : ∃ wi, PI X tg e wi ∧ SI X.K Z wi f
/-- the signs of a text -/
def signs (z : Str) : List D := z.cps.toList.map fun c => .str ⟨#[c]⟩
def dSeq (a : D) : R (List D) := match a with
  | .list xs => .ok xs
  | .tuple xs => .ok xs
  | .str z => .ok (signs z)
  | _ => .bad
@[simp] theorem dSeq_list (xs : List D) : dSeq (.list xs) = .ok xs := rfl
@[simp] theorem dSeq_tuple (xs : List D) : dSeq (.tuple xs) = .ok xs := rfl
@[simp] theorem dSeq_str (z : Str) : dSeq (.str z) = .ok (signs z) := rfl
@[simp] def nSeq (f : EM) : LM := fun s => (f s).bind dSeq
section
variable {K : Fg} {F : Hp}
theorem it_list {a : Addr} {xs : List V} {ds : List D} (h : SqL K F a xs) (hd : DnAll K F xs ds) (uniq : ∀ H ys, Kx F H → SqL K H a ys → SqL K H a xs) : True := trivial
theorem itOk_list {a : Addr} {xs : List V} {ds : List D} (h : SqL K F a xs) (hd : DnAll K F xs ds) : ItOk K F (Itl K a) ds := fun F' H' k1 k2 => by
  have hs := k2.sql (k1.sql h)
  refine ⟨fun i d hi => ?_, xs, hs, by rw [hd.len]; exact Nat.le_refl _⟩
  obtain ⟨v, e, dv⟩ := hd.get hi
  refine ⟨⟨xs, v, hs, e⟩, fun x H'' y => ?_⟩
  obtain ⟨rfl, y2⟩ := y
  have := (y2 xs hs).symm.trans e
  cases this
  exact ⟨F', .refl k2, dv.mono k1⟩
theorem itOk_tup {a : Addr} {xs : List V} {ds : List D} (h : F a = some (.tup xs)) (hd : DnAll K F xs ds) : ItOk K F (Itt K a) ds := fun F' H' k1 k2 => by
  have hs : SqT K H' a xs := .of (k2.tup (k1.tup h))
  refine ⟨fun i d hi => ?_, xs, hs, by rw [hd.len]; exact Nat.le_refl _⟩
  obtain ⟨v, e, dv⟩ := hd.get hi
  refine ⟨⟨xs, v, hs, e⟩, fun x H'' y => ?_⟩
  obtain ⟨rfl, y2⟩ := y
  have := (y2 xs hs).symm.trans e
  cases this
  exact ⟨F', .refl k2, dv.mono k1⟩
theorem itOk_str {z : Str} : ItOk K F (Its z) (signs z) := fun F' H' k1 k2 => by
  refine ⟨fun i d hi => ?_, ?_⟩
  · unfold signs at hi
    rw [List.getElem?_map] at hi
    cases q : z.cps.toList[i]? with
    | none => rw [q] at hi; cases hi
    | some c =>
      rw [q] at hi
      cases hi
      have q' : z.cps[i]? = some c := by simpa using q
      have hl : i < z.cps.size := by
        have := (List.getElem?_eq_some_iff.mp q).1
        simpa using this
      refine ⟨hl, fun x H'' y => ?_⟩
      obtain ⟨rfl, c', e1, rfl⟩ := y
      have := e1.symm.trans q'
      cases this
      exact ⟨F', .refl k2, .str _⟩
  · show z.cps.size ≤ (signs z).length
    simp [signs]
def rangeD (lo : Int) (n : Nat) : List D := (List.range n).map fun k => .int (lo + (k : Nat))
theorem itOk_rng {lo : Int} {n : Nat} : ItOk K F (Itr lo n) (rangeD lo n) := fun F' H' k1 k2 => by
  refine ⟨fun i d hi => ?_, by show n ≤ (rangeD lo n).length; simp [rangeD]⟩
  unfold rangeD at hi
  rw [List.getElem?_map] at hi
  have hl : i < n := by
    cases q : (List.range n)[i]? with
    | none => rw [q] at hi; cases hi
    | some c =>
      have := (List.getElem?_eq_some_iff.mp q).1
      simpa using this
  rw [List.getElem?_range hl] at hi
  cases hi
  refine ⟨hl, fun x H'' y => ?_⟩
  obtain ⟨rfl, rfl⟩ := y
  exact ⟨F', .refl k2, .int _⟩
end
section
variable {X : Cx} {Z : XZ} {tg e : Expr} {es : List Expr} {fe : EM} {fa : AM} {pos p : Pos}
theorem si_seq {K : Fg} {te : TE} (h : SE K Z te fe) : SI K Z (fun σ H R => iList K te σ H R ∨ iTup K te σ H R ∨ iStr te σ H R) (nSeq fe) := fun G F H σ s S R q => by
  have q' : PostR Z F H ((fe s).bind dSeq) (fun items F' H' => ∀ J, ItOk K F' J items → R J H') := q
  cases hf : fe s with
  | ok d =>
    cases d with
    | list ds =>
      refine .inl (h G F H σ s S _ (PostR.bind q' fun d F1 H1 er e1 q1 v dv => ?_))
      rw [hf] at er; cases er
      cases dv with
      | lst h1 a1 => exact ⟨_, rfl, ⟨_, e1.i.sql h1⟩, q1.ok e1.i _ (itOk_list h1 a1)⟩
    | tuple ds =>
      refine .inr (.inl (h G F H σ s S _ (PostR.bind q' fun d F1 H1 er e1 q1 v dv => ?_)))
      rw [hf] at er; cases er
      cases dv with
      | tup h1 a1 => exact ⟨_, rfl, ⟨_, .of (e1.i.tup h1)⟩, q1.ok e1.i _ (itOk_tup h1 a1)⟩
    | str z =>
      refine .inr (.inr (h G F H σ s S _ (PostR.bind q' fun d F1 H1 er e1 q1 v dv => ?_)))
      rw [hf] at er; cases er
      cases dv
      exact ⟨z, rfl, q1.ok e1.i _ itOk_str⟩
    | _ => rw [hf] at q'; exact (show False from q').elim
  | ex c d => exact .inl (h G F H σ s S _ (PostR.bind q' fun d F1 H1 er e1 q1 v dv => by rw [hf] at er; cases er))
  | bad => rw [hf] at q'; exact (show False from q').elim
theorem pi_seq {te : TE} (p : PE X e te) : PI X tg e (fun σ H R => iList X.K te σ H R ∨ iTup X.K te σ H R ∨ iStr te σ H R) := piOr (pi_list p) (piOr (pi_tup p) (pi_str p))
theorem di_seq (h : DE X Z e fe) : DI X Z tg e (nSeq fe) := let ⟨t, p, s1⟩ := h; ⟨_, pi_seq p, si_seq s1⟩
def RgOkD (i : Int) : Prop := -4611686018427387904 ≤ i ∧ i < 4611686018427387904
instance (i : Int) : Decidable (RgOkD i) := inferInstanceAs (Decidable (_ ∧ _))
def dRng (ds : List D) : R (List D) := match ds with
  | [.int j] => if RgOkD j then .ok (rangeD 0 j.toNat) else .bad
  | [.int i, .int j] => if RgOkD i ∧ RgOkD j then .ok (rangeD i (j - i).toNat) else .bad
  | _ => .bad
@[simp] theorem dRng_1 (j : Int) : dRng [.int j] = if RgOkD j then .ok (rangeD 0 j.toNat) else .bad := rfl
@[simp] theorem dRng_2 (i j : Int) : dRng [.int i, .int j] = if RgOkD i ∧ RgOkD j then .ok (rangeD i (j - i).toNat) else .bad := rfl
@[simp] def nRng (f : AM) : LM := fun s => (f s).bind dRng
theorem di_rng1 {a : Expr} (hm : X.mg "range" = none) (ha : DA X Z [a] fa) (hg : Gl X "range" := by rfl) (hs : starEach [a] X.env = [(false, eval a X.env)] := by rfl) : DI X Z tg (.Call (.Name "range" p) [a] [] pos) (nRng fa) := by
  obtain ⟨⟨t, p1, s1⟩, ln⟩ := ha
  refine ⟨_, pi_range1 hg hm p1 hs, fun G F H σ s S R q => ?_⟩
  refine s1 G F H σ s S _ (PostR.bind q fun ds F1 H1 er e1 q1 vs dv => ?_)
  have hl := ln s ds er
  match ds, hl, dv, q1 with
  | [d], _, .cons d1 .nil, q1 =>
    cases d1 with
    | int j =>
      have q2 : PostR Z F1 H1 (if RgOkD j then .ok (rangeD 0 j.toNat) else .bad) (fun items F' H' => ∀ J, ItOk X.K F' J items → R J H') := q1
      by_cases hc : RgOkD j
      · rw [if_pos hc] at q2
        exact ⟨j, rfl, hc.1, hc.2, q2.ok e1.i _ itOk_rng⟩
      · rw [if_neg hc] at q2; exact q2.elim
    | _ => exact (show False from q1).elim
theorem di_rng2 {a b : Expr} (hm : X.mg "range" = none) (ha : DA X Z [a, b] fa) (hg : Gl X "range" := by rfl) (hs : starEach [a, b] X.env = [(false, eval a X.env), (false, eval b X.env)] := by rfl) (hs2 : starEach [b] X.env = [(false, eval b X.env)] := by rfl) : DI X Z tg (.Call (.Name "range" p) [a, b] [] pos) (nRng fa) := by
  obtain ⟨⟨t, p1, s1⟩, ln⟩ := ha
  refine ⟨_, pi_range2 hg hm p1 hs hs2, fun G F H σ s S R q => ?_⟩
  refine s1 G F H σ s S _ (PostR.bind q fun ds F1 H1 er e1 q1 vs dv => ?_)
  have hl := ln s ds er
  match ds, hl, dv, q1 with
  | [d, d'], _, .cons d1 (.cons d2 .nil), q1 =>
    cases d1 with
    | int i =>
      cases d2 with
      | int j =>
        have q2 : PostR Z F1 H1 (if RgOkD i ∧ RgOkD j then .ok (rangeD i (j - i).toNat) else .bad) (fun items F' H' => ∀ J, ItOk X.K F' J items → R J H') := q1
        by_cases hc : RgOkD i ∧ RgOkD j
        · rw [if_pos hc] at q2
          exact ⟨i, j, rfl, ⟨hc.1.1, hc.1.2, hc.2.1, hc.2.2⟩, q2.ok e1.i _ itOk_rng⟩
        · rw [if_neg hc] at q2; exact q2.elim
      | _ => exact (show False from q1).elim
    | _ => exact (show False from q1).elim
/-- enumerate of a list, zip of two lists: each turn a new pair -/
def enumD (k : Nat) : List D → List D
  | [] => []
  | d :: ds => .tuple [.int (k : Nat), d] :: enumD (k + 1) ds
@[simp] theorem enumD_nil (k : Nat) : enumD k [] = [] := rfl
@[simp] theorem enumD_cons (k : Nat) (d : D) (ds : List D) : enumD k (d :: ds) = .tuple [.int (k : Nat), d] :: enumD (k + 1) ds := rfl
theorem enumD_get : ∀ {ds : List D} {k i : Nat} {x : D}, (enumD k ds)[i]? = some x → ∃ d, ds[i]? = some d ∧ x = .tuple [.int ((k + i : Nat) : Int), d]
  | [], k, i, x, h => by simp at h
  | d :: ds, k, 0, x, h => by simp at h; exact ⟨d, rfl, h.symm⟩
  | d :: ds, k, i + 1, x, h => by
    have h' : (enumD (k + 1) ds)[i]? = some x := by simpa using h
    obtain ⟨d', e1, e2⟩ := enumD_get h'
    exact ⟨d', by simpa using e1, by rw [e2]; congr 4; omega⟩
theorem enumD_len : ∀ (ds : List D) (k : Nat), (enumD k ds).length = ds.length
  | [], _ => rfl
  | d :: ds, k => by simp [enumD_len ds (k + 1)]
theorem itOk_enum {K : Fg} {F : Hp} {a : Addr} {xs : List V} {ds : List D} (h : SqL K F a xs) (hd : DnAll K F xs ds) : ItOk K F (Ite K a) (enumD 0 ds) := fun F' H' k1 k2 => by
  have hs := k2.sql (k1.sql h)
  refine ⟨fun i d hi => ?_, xs, hs, by rw [hd.len, enumD_len]; exact Nat.le_refl _⟩
  obtain ⟨d', e0, rfl⟩ := enumD_get hi
  obtain ⟨v, e, dv⟩ := hd.get e0
  refine ⟨⟨xs, v, hs, e⟩, fun x H'' y => ?_⟩
  obtain ⟨T, x', rfl, hT, rfl, y2⟩ := y
  have := (y2 xs hs).symm.trans e
  cases this
  refine ⟨_, .new k2 hT, .tup upd_same (.cons ?_ (.cons ((dv.mono k1).mono (.new (k2.back hT))) .nil))⟩
  rw [Nat.zero_add]
  exact .int _
def dEnum (ds : List D) : R (List D) := match ds with
  | [.list xs] => .ok (enumD 0 xs)
  | _ => .bad
@[simp] theorem dEnum_list (xs : List D) : dEnum [.list xs] = .ok (enumD 0 xs) := rfl
@[simp] def nEnum (f : AM) : LM := fun s => (f s).bind dEnum
theorem di_enum {elts : List Expr} {kk : Nat} {tpos : Pos} (hm : X.mg "enumerate" = none) (ha : DA X Z [e] fa) (hg : Gl X "enumerate" := by rfl) (hs : starEach [e] X.env = [(false, eval e X.env)] := by rfl) :
    DI X Z (.Tuple elts kk tpos) (.Call (.Name "enumerate" p) [e] [] pos) (nEnum fa) := by
  obtain ⟨⟨t, p1, s1⟩, ln⟩ := ha
  refine ⟨_, pi_enum hg hm p1 hs, fun G F H σ s S R q => ?_⟩
  refine s1 G F H σ s S _ (PostR.bind q fun ds F1 H1 er e1 q1 vs dv => ?_)
  have hl := ln s ds er
  match ds, hl, dv, q1 with
  | [d], _, .cons d1 .nil, q1 =>
    cases d1 with
    | lst h1 a1 => exact ⟨_, _, rfl, e1.i.sql h1, q1.ok e1.i _ (itOk_enum h1 a1)⟩
    | _ => exact (show False from q1).elim
def zipD : List D → List D → List D
  | a :: as, b :: bs => .tuple [a, b] :: zipD as bs
  | _, _ => []
@[simp] theorem zipD_cons (a b : D) (as bs : List D) : zipD (a :: as) (b :: bs) = .tuple [a, b] :: zipD as bs := rfl
@[simp] theorem zipD_nil (bs : List D) : zipD [] bs = [] := rfl
@[simp] theorem zipD_nil2 (as : List D) : zipD as [] = [] := by cases as <;> rfl
theorem zipD_get : ∀ {as bs : List D} {i : Nat} {x : D}, (zipD as bs)[i]? = some x → ∃ a b, as[i]? = some a ∧ bs[i]? = some b ∧ x = .tuple [a, b]
  | [], _, i, x, h => by simp at h
  | _ :: _, [], i, x, h => by simp at h
  | a :: as, b :: bs, 0, x, h => by simp at h; exact ⟨a, b, rfl, rfl, h.symm⟩
  | a :: as, b :: bs, i + 1, x, h => by
    have h' : (zipD as bs)[i]? = some x := by simpa using h
    obtain ⟨a', b', e1, e2, e3⟩ := zipD_get h'
    exact ⟨a', b', by simpa using e1, by simpa using e2, e3⟩
theorem zipD_len : ∀ (as bs : List D), as.length ≤ (zipD as bs).length ∨ bs.length ≤ (zipD as bs).length
  | [], _ => .inl (Nat.zero_le _)
  | _ :: _, [] => .inr (Nat.zero_le _)
  | a :: as, b :: bs => by
    rcases zipD_len as bs with h | h
    · exact .inl (by simpa using h)
    · exact .inr (by simpa using h)
theorem itOk_zip {K : Fg} {F : Hp} {a b : Addr} {xs ys : List V} {ds es : List D} (h : SqL K F a xs) (hd : DnAll K F xs ds) (h2 : SqL K F b ys) (hd2 : DnAll K F ys es) : ItOk K F (Itz K a b) (zipD ds es) := fun F' H' k1 k2 => by
  have hs := k2.sql (k1.sql h)
  have hs2 := k2.sql (k1.sql h2)
  refine ⟨fun i d hi => ?_, xs, ys, hs, hs2, by rw [hd.len, hd2.len]; exact zipD_len ds es⟩
  obtain ⟨d1, d2, e1, e2, rfl⟩ := zipD_get hi
  obtain ⟨v, f1, dv⟩ := hd.get e1
  obtain ⟨w, f2, dw⟩ := hd2.get e2
  refine ⟨⟨xs, ys, v, w, hs, hs2, f1, f2⟩, fun x H'' y => ?_⟩
  obtain ⟨T, x', y', rfl, hT, rfl, y2, y3⟩ := y
  have := (y2 xs hs).symm.trans f1
  cases this
  have := (y3 ys hs2).symm.trans f2
  cases this
  exact ⟨_, .new k2 hT, .tup upd_same (.cons ((dv.mono k1).mono (.new (k2.back hT))) (.cons ((dw.mono k1).mono (.new (k2.back hT))) .nil))⟩
def dZip (ds : List D) : R (List D) := match ds with
  | [.list xs, .list ys] => .ok (zipD xs ys)
  | _ => .bad
@[simp] theorem dZip_list (xs ys : List D) : dZip [.list xs, .list ys] = .ok (zipD xs ys) := rfl
@[simp] def nZip (f : AM) : LM := fun s => (f s).bind dZip
theorem di_zip {e2 : Expr} {elts : List Expr} {kk : Nat} {tpos : Pos} (hm : X.mg "zip" = none) (ha : DA X Z [e, e2] fa) (hg : Gl X "zip" := by rfl)
    (hp : ∀ t, PA X [e, e2] t → PI X (.Tuple elts kk tpos) (.Call (.Name "zip" p) [e, e2] [] pos) (iZip X.K t)) :
    DI X Z (.Tuple elts kk tpos) (.Call (.Name "zip" p) [e, e2] [] pos) (nZip fa) := by
  obtain ⟨⟨t, p1, s1⟩, ln⟩ := ha
  refine ⟨_, hp t p1, fun G F H σ s S R q => ?_⟩
  refine s1 G F H σ s S _ (PostR.bind q fun ds F1 H1 er e1 q1 vs dv => ?_)
  have hl := ln s ds er
  match ds, hl, dv, q1 with
  | [d, d'], _, .cons d1 (.cons d2 .nil), q1 =>
    cases d1 with
    | lst h1 a1 =>
      cases d2 with
      | lst h2 a2 => exact ⟨_, _, _, _, rfl, e1.i.sql h1, e1.i.sql h2, q1.ok e1.i _ (itOk_zip h1 a1 h2 a2)⟩
      | _ => exact (show False from q1).elim
    | _ => exact (show False from q1).elim
/-- reversed of a list -/
theorem itOk_rev {K : Fg} {F : Hp} {a : Addr} {xs : List V} {ds : List D} (h : SqL K F a xs) (hd : DnAll K F xs ds) : ItOk K F (Itv K a xs.length) ds.reverse := fun F' H' k1 k2 => by
  have hs := k2.sql (k1.sql h)
  refine ⟨fun i d hi => ?_, by show xs.length ≤ _; rw [hd.len, List.length_reverse]; exact Nat.le_refl _⟩
  have hlt : i < ds.length := by
    have := (List.getElem?_eq_some_iff.mp hi).1
    simpa using this
  rw [List.getElem?_reverse hlt] at hi
  obtain ⟨v, e, dv⟩ := hd.get hi
  rw [← hd.len] at e hlt
  refine ⟨⟨hlt, xs, v, hs, e⟩, fun x H'' y => ?_⟩
  obtain ⟨rfl, y2⟩ := y
  have := (y2 xs hs).symm.trans e
  cases this
  exact ⟨F', .refl k2, dv.mono k1⟩
def dRev (ds : List D) : R (List D) := match ds with
  | [.list xs] => .ok xs.reverse
  | _ => .bad
@[simp] theorem dRev_list (xs : List D) : dRev [.list xs] = .ok xs.reverse := rfl
@[simp] def nRev (f : AM) : LM := fun s => (f s).bind dRev
theorem di_rev (hm : X.mg "reversed" = none) (ha : DA X Z [e] fa) (hg : Gl X "reversed" := by rfl) (hs : starEach [e] X.env = [(false, eval e X.env)] := by rfl) : DI X Z tg (.Call (.Name "reversed" p) [e] [] pos) (nRev fa) := by
  obtain ⟨⟨t, p1, s1⟩, ln⟩ := ha
  refine ⟨_, pi_reversed hg hm p1 hs, fun G F H σ s S R q => ?_⟩
  refine s1 G F H σ s S _ (PostR.bind q fun ds F1 H1 er e1 q1 vs dv => ?_)
  have hl := ln s ds er
  match ds, hl, dv, q1 with
  | [d], _, .cons d1 .nil, q1 =>
    cases d1 with
    | lst h1 a1 => exact ⟨_, _, rfl, e1.i.sql h1, q1.ok e1.i _ (itOk_rev h1 a1)⟩
    | _ => exact (show False from q1).elim
end

/-! ### loops -/
/-- a turn's end, then the other turns -/
def lpO (o : Out) (k : DSt → Out) : Out := match o with
  | .nx s2 => k s2
  | .ct s2 => k s2
  | .bk s2 => .nx s2
  | o => o
@[simp] theorem lpO_nx (s : DSt) (k : DSt → Out) : lpO (.nx s) k = k s := rfl
@[simp] theorem lpO_ct (s : DSt) (k : DSt → Out) : lpO (.ct s) k = k s := rfl
@[simp] theorem lpO_bk (s : DSt) (k : DSt → Out) : lpO (.bk s) k = .nx s := rfl
@[simp] theorem lpO_rt (d : D) (k : DSt → Out) : lpO (.rt d) k = .rt d := rfl
@[simp] theorem lpO_ex (c : Str) (d : D) (k : DSt → Out) : lpO (.ex c d) k = .ex c d := rfl
@[simp] theorem lpO_bad (k : DSt → Out) : lpO .bad k = .bad := rfl
def onS (o : Option DSt) (k : DSt → Out) : Out := match o with
  | none => .bad
  | some s => k s
@[simp] theorem onS_some (s : DSt) (k : DSt → Out) : onS (some s) k = k s := rfl
@[simp] theorem onS_none (k : DSt → Out) : onS none k = .bad := rfl
def dFor (b : BM) (body : SM) : List D → DSt → Out
  | [], s => .nx s
  | x :: xs, s => onS (b x s) fun s1 => lpO (body s1) fun s2 => dFor b body xs s2
@[simp] theorem dFor_nil (b : BM) (body : SM) (s : DSt) : dFor b body [] s = .nx s := rfl
theorem dFor_cons (b : BM) (body : SM) (x : D) (xs : List D) (s : DSt) : dFor b body (x :: xs) s = onS (b x s) fun s1 => lpO (body s1) fun s2 => dFor b body xs s2 := rfl
@[simp] def mFor (it : LM) (b : BM) (body : SM) : SM := fun s => oE (it s) fun xs => dFor b body xs s
theorem drop_get {α : Type} {xs : List α} {i : Nat} {x : α} (h : xs[i]? = some x) : xs.drop i = x :: xs.drop (i + 1) := by
  obtain ⟨hl, e⟩ := List.getElem?_eq_some_iff.mp h
  rw [List.drop_eq_getElem_cons hl, e]
theorem ss_for {K : Fg} {Z : XZ} {wi : TI} {g : TG} {tb : TS} {fi : LM} {b : BM} {body : SM} (h1 : SI K Z wi fi) (h2 : SG K g b) (h3 : SS K Z tb body) : SS K Z (tFor wi g tb) (mFor fi b body) := fun G F H σ s S D q => by
  refine h1 G F H σ s S _ (PostS.bind S q fun items F1 H1 er e1 q1 J hJ => ?_)
  refine ⟨fun i m σ' H' => m = items.length - i ∧ i ≤ items.length ∧ ∃ F' s', Kx F1 F' ∧ StOk K G F' H' σ' s' ∧ PostS K Z G F' D (dFor b body (items.drop i) s'), ⟨_, rfl, Nat.zero_le _, F1, s, .refl _, S.ext e1, q1⟩, ?_⟩
  rintro i m σ' H' ⟨rfl, hi, F', s', k, S', q'⟩
  obtain ⟨ok, st⟩ := hJ F' H' k S'.kx
  by_cases hlt : i < items.length
  · have hx : items[i]? = some items[i] := List.getElem?_eq_getElem hlt
    rw [drop_get hx, dFor_cons] at q'
    obtain ⟨go, yl⟩ := ok i _ hx
    refine .inr ⟨go, fun σ2 H2 => ∃ F2 s2, Kx F1 F2 ∧ StOk K G F2 H2 σ2 s2 ∧ PostS K Z G F2 D (dFor b body (items.drop (i + 1)) s2), fun σ2 H2 ⟨F2, s2, k2, S2, q2⟩ => ⟨items.length - (i + 1), by omega, rfl, hlt, F2, s2, k2, S2, q2⟩, fun x H'' y => ?_⟩
    obtain ⟨F'', ex, dx⟩ := yl x H'' y
    cases hb : b items[i] s' with
    | none => rw [hb] at q'; exact (show False from q').elim
    | some s1 =>
      rw [hb] at q'
      have q' : PostS K Z G F' D (lpO (body s1) fun s2 => dFor b body (items.drop (i + 1)) s2) := q'
      refine h2 G F'' H'' σ' s' x _ (S'.ext ex) dx _ ⟨s1, hb, fun σ2 S2 => ?_⟩
      refine h3 G F'' H'' σ2 s1 S2 _ ?_
      have q2 := PostS.mono q' ex.f
      cases ho : body s1 with
      | nx s2 => rw [ho] at q2; exact fun F3 H3 σ3 k3 S3 => ⟨F3, s2, k.trans (ex.f.trans k3), S3, PostS.mono q2 k3⟩
      | ct s2 => rw [ho] at q2; exact fun F3 H3 σ3 k3 S3 => ⟨F3, s2, k.trans (ex.f.trans k3), S3, PostS.mono q2 k3⟩
      | bk s2 => rw [ho] at q2; exact q2
      | rt d => rw [ho] at q2; exact q2
      | ex c d => rw [ho] at q2; exact q2
      | bad => rw [ho] at q2; exact q2
  · have e : i = items.length := by omega
    subst e
    rw [List.drop_length, dFor_nil] at q'
    exact .inl ⟨st, q' F' H' σ' (.refl _) S'⟩
def dWh (c : TM) (body : SM) : Nat → DSt → Out
  | 0, _ => .bad
  | n + 1, s => oE (c s) fun k => if k = true then lpO (body s) fun s2 => dWh c body n s2 else .nx s
def mWh (n : Nat) (c : TM) (body : SM) : SM := fun s => dWh c body n s
theorem dWh_succ (c : TM) (body : SM) (n : Nat) (s : DSt) : dWh c body (n + 1) s = oE (c s) fun k => if k = true then lpO (body s) fun s2 => dWh c body n s2 else .nx s := rfl
/-- more turns than are needed do no harm -/
theorem dWh_more (c : TM) (body : SM) : ∀ (n m : Nat) (s : DSt) (o : Out), dWh c body n s = o → o ≠ .bad → dWh c body (n + m) s = o
  | 0, m, s, o, h, hb => absurd h.symm hb
  | n + 1, m, s, o, h, hb => by
    rw [show n + 1 + m = (n + m) + 1 by omega, dWh_succ]
    rw [dWh_succ] at h
    cases hc : c s with
    | ok k =>
      rw [hc] at h
      simp only [oE_ok] at h ⊢
      cases k with
      | true =>
        simp only [if_true] at h ⊢
        cases ho : body s with
        | nx s2 => rw [ho] at h; exact dWh_more c body n m s2 o h hb
        | ct s2 => rw [ho] at h; exact dWh_more c body n m s2 o h hb
        | _ => rw [ho] at h; exact h
      | false => exact h
    | ex a d => rw [hc] at h; exact h
    | bad => rw [hc] at h; exact h
theorem dWh_le {c : TM} {body : SM} {n m : Nat} {s : DSt} {o : Out} (h : dWh c body n s = o) (hb : o ≠ .bad) (hl : n ≤ m) : dWh c body m s = o := by
  rw [show m = n + (m - n) by omega]
  exact dWh_more c body n (m - n) s o h hb
theorem ss_wh {K : Fg} {Z : XZ} {tc : TT} {tb : TS} {c : TM} {body : SM} (n : Nat) (h1 : ST K Z tc c) (h3 : SS K Z tb body) : SS K Z (tWhile tc tb) (mWh n c body) := fun G F H σ s S D q => by
  refine ⟨fun m σ' H' => ∃ F' s', StOk K G F' H' σ' s' ∧ PostS K Z G F' D (dWh c body m s'), ⟨n, F, s, S, q⟩, ?_⟩
  rintro m σ' H' ⟨F', s', S', q'⟩
  cases m with
  | zero => exact (show False from q').elim
  | succ m =>
    rw [dWh_succ] at q'
    refine h1 G F' H' σ' s' S' _ (PostS.bind S' q' fun k F2 H2 er e2 q2 => ?_)
    cases k with
    | false => exact iteF (q2 F2 H2 σ' (.refl _) (S'.ext e2))
    | true =>
      have q2 : PostS K Z G F2 D (lpO (body s') fun s2 => dWh c body m s2) := q2
      refine iteT ⟨fun σ2 H2 => ∃ F2 s2, StOk K G F2 H2 σ2 s2 ∧ PostS K Z G F2 D (dWh c body m s2), fun σ2 H2 ⟨F2, s2, S2, q3⟩ => ⟨m, Nat.lt_succ_self m, F2, s2, S2, q3⟩, ?_⟩
      refine h3 G F2 H2 σ' s' (S'.ext e2) _ ?_
      cases ho : body s' with
      | nx s2 => rw [ho] at q2; exact fun F3 H3 σ3 k3 S3 => ⟨F3, s2, S3, PostS.mono q2 k3⟩
      | ct s2 => rw [ho] at q2; exact fun F3 H3 σ3 k3 S3 => ⟨F3, s2, S3, PostS.mono q2 k3⟩
      | bk s2 => rw [ho] at q2; exact q2
      | rt d => rw [ho] at q2; exact q2
      | ex c d => rw [ho] at q2; exact q2
      | bad => rw [ho] at q2; exact q2
section
variable {X : Cx} {Z : XZ} {tg e c : Expr} {body : List Stmt} {fi : LM} {b : BM} {fb : SM} {fc : TM} {pos : Pos}
theorem ds_for (hp : PassesOwn (model X.prog X.w) X.A X.env X.xe) (hc : X.calm = true) (hi : DI X Z tg e fi) (hg : DG X tg b) (hb : DSs X Z body fb) (hs : ∀ x, foldedSetIterable e X.env x = pure x := by intro _; rfl) : DS X Z (.For tg e body [] pos) (mFor fi b fb) := by
  obtain ⟨wi, p1, s1⟩ := hi
  obtain ⟨g, p2, s2⟩ := hg
  obtain ⟨t, p3, s3⟩ := hb
  exact ⟨_, ps_for hp hc p1 p2 p3 hs, ss_for s1 s2 s3⟩
theorem ds_wh (n : Nat) (hp : PassesOwn (model X.prog X.w) X.A X.env X.xe) (hc : DT X Z c fc) (hb : DSs X Z body fb) : DS X Z (.While c body [] pos) (mWh n fc fb) := by
  obtain ⟨tc, p1, s1⟩ := hc
  obtain ⟨t, p3, s3⟩ := hb
  exact ⟨_, ps_while hp p1 p3, ss_wh n s1 s3⟩
end

/-! ### a def -/
def startS (L : Nat) (ds : List D) : DSt := ds.map Sl.d ++ List.replicate (L - ds.length) Sl.no
def endR (o : Out) : R D := match o with
  | .rt d => .ok d
  | .nx _ => .ok .none
  | .ex c d => .ex c d
  | _ => .bad
@[simp] theorem endR_rt (d : D) : endR (.rt d) = .ok d := rfl
@[simp] theorem endR_nx (s : DSt) : endR (.nx s) = .ok .none := rfl
@[simp] theorem endR_ex (c : Str) (d : D) : endR (.ex c d) = .ex c d := rfl
@[simp] theorem endR_bad : endR .bad = .bad := rfl
def fnM (L : Nat) (m : SM) : List D → R D := fun ds => endR (m (startS L ds))
theorem StOk.start {K : Fg} {F H : Hp} {N : List Str} {vs : List V} {ds : List D} (e : Kx F H) (h : DnAll K F vs ds) : StOk K (F, H) F H (start N vs) (startS N.length ds) where
  e := .refl e
  ln := by simp [L2.start, startS, h.len]
  sl := fun i x hx => by
    unfold startS at hx
    by_cases hi : i < ds.length
    · rw [List.getElem?_append_left (by simpa using hi), List.getElem?_map] at hx
      cases q : ds[i]? with
      | none => rw [q] at hx; cases hx
      | some d =>
        rw [q] at hx
        cases hx
        obtain ⟨v, e1, dv⟩ := h.get q
        refine ⟨v, ?_, dv⟩
        unfold L2.start
        have hv : i < vs.length := by rw [h.len]; exact hi
        rw [List.getElem?_append_left (by simpa using hv), List.getElem?_map, e1]
        rfl
    · rw [List.getElem?_append_right (by simpa using hi), List.getElem?_replicate] at hx
      split at hx
      · cases hx; trivial
      · cases hx
  ds := fun i j x y a h1 h2 o1 o2 e1 e2 => by
    unfold startS at h1
    by_cases hi : i < ds.length
    · rw [List.getElem?_append_left (by simpa using hi), List.getElem?_map] at h1
      cases q : ds[i]? with
      | none => rw [q] at h1; cases h1
      | some d => rw [q] at h1; cases h1; cases o1
    · rw [List.getElem?_append_right (by simpa using hi), List.getElem?_replicate] at h1
      split at h1
      · cases h1; cases o1
      · cases h1
abbrev cxF (P : Program) (w : World) (K : Fg) (mg : Str → Option Value) (base : Heap) (N : List Str) (qual : Str) (st : Stmt) (f : Addr) (cdv : Value) (A : Around) (outer : List Env) (s : Shared) (H : Hp) (E : XK) : Cx :=
  (cxOf CX0 P w K mg base N qual (defScope st) f cdv A outer s H E).nox
/-- a def keeps its mirror's promise -/
theorem fn_ok {P : Program} {w : World} {K : Fg} {mg : Str → Option Value} {base : Heap} {x qual : Str} {st : Stmt} {f : Addr} {fd : FuncData} {N ps : List Str} {k : Nat} {m : SM} (F : Fun K x qual st f fd) (S : FnScope N ps (defScope st))
    (hb : ∀ (cdv : Value) (A : Around) (outer : List Env) (s : Shared) (H : Hp) (E : XK), Room k (A.deeper (envOfC qual (defScope st) s.heap.objs.size f cdv)) → DSs (cxF P w K mg base N qual st f cdv A outer s H E) Z0 (defBody st) m) :
    FnOk P w K mg base CX0 (k + 1) f fd ps (spM K (fun _ => Z0) ps.length (fnM N.length m)) := by
  refine F.ok S (fun vs H Q E h => h.1) (fun cdv A outer s H vs Q E hr h => ?_)
  obtain ⟨hl, F0, ds, e0, dv, q⟩ := h
  obtain ⟨ts, p1, s1⟩ := hb cdv A outer s H E hr
  refine ⟨ts, p1, ?_⟩
  refine s1 (F0, H) F0 H _ _ (StOk.start e0 dv) _ ?_
  unfold fnM at q
  cases ho : m (startS N.length ds) with
  | rt d => rw [ho] at q; exact fun F' H' v _ e' dv' => q F' H' e' v dv'
  | nx s' => rw [ho] at q; exact fun F' H' σ' _ S' => q F' H' S'.e _ .non
  | ex c d => rw [ho] at q; exact fun F' H' _ e' => q F' H' e'
  | bk s' => rw [ho] at q; exact q.elim
  | ct s' => rw [ho] at q; exact q.elim
  | bad => rw [ho] at q; exact q.elim
end DL

set_option Elab.async false
set_option linter.all false
set_option maxRecDepth 100000
set_option maxHeartbeats 4000000
namespace DL
open PySem PySem.Spec PyProof.Rows L2

/-! ### one reading for many contexts -/
def cE (K : Fg) (Z : XZ) (f : EM) : TE := fun σ H Q => ∃ G F s, StOk K G F H σ s ∧ PostR Z F H (f s) (PD K Q)
def cT (K : Fg) (Z : XZ) (f : TM) : TT := fun σ H Q => ∃ G F s, StOk K G F H σ s ∧ PostR Z F H (f s) (fun b _ H' => Q b H')
theorem se_cE {K : Fg} {Z : XZ} {f : EM} : SE K Z (cE K Z f) f := fun G F H σ s S Q q => ⟨G, F, s, S, q⟩
theorem st_cT {K : Fg} {Z : XZ} {f : TM} : ST K Z (cT K Z f) f := fun G F H σ s S Q q => ⟨G, F, s, S, q⟩
section
variable {X : Cx} {Z : XZ} {e : Expr}
theorem DE.can {f : EM} (h : DE X Z e f) : PE X e (cE X.K Z f) := let ⟨t, p, s1⟩ := h; ⟨fun pins s σ H Q I ⟨G, F, s', S, q⟩ => p.run pins s σ H Q I (s1 G F H σ s' S Q q)⟩
theorem DT.can {f : TM} (h : DT X Z e f) : PT X e (cT X.K Z f) := let ⟨t, p, s1⟩ := h; ⟨fun pins s σ H Q I ⟨G, F, s', S, q⟩ => p.run pins s σ H Q I (s1 G F H σ s' S Q q)⟩
end
/-- a comprehension's target: only the slots vs change -/
def SGc (K : Fg) (vs : List Nat) (g : TG) (b : BM) : Prop := ∀ G F H σ s v d, StOk K G F H σ s → Dn K F v d → ∀ Q : L2.St → Hp → Prop, (∃ s', b d s = some s' ∧ ∀ σ', StOk K G F H σ' s' → wipe σ' vs = wipe σ vs → Q σ' H) → g v σ H Q
def SGsc (K : Fg) (vs : List Nat) (g : TGs) (b : BMs) : Prop := ∀ G F H σ s ws ds, StOk K G F H σ s → DnAll K F ws ds → ∀ Q : L2.St → Hp → Prop, (∃ s', b ds s = some s' ∧ ∀ σ', StOk K G F H σ' s' → wipe σ' vs = wipe σ vs → Q σ' H) → g ws σ H Q
structure DGc (X : Cx) (vs : List Nat) (tg : Expr) (b : BM) : Prop where
  ex : ∃ g, PG X tg g ∧ SGc X.K vs g b
structure DGsc (X : Cx) (vs : List Nat) (tg : List Expr) (b : BMs) : Prop where
  ex : ∃ g, PGs X tg g ∧ SGsc X.K vs g b
def cG (K : Fg) (vs : List Nat) (b : BM) : TG := fun v σ H Q => ∃ G F s d s', StOk K G F H σ s ∧ Dn K F v d ∧ b d s = some s' ∧ ∀ σ', StOk K G F H σ' s' → wipe σ' vs = wipe σ vs → Q σ' H
theorem DGc.can {X : Cx} {vs : List Nat} {tg : Expr} {b : BM} (h : DGc X vs tg b) : PG X tg (cG X.K vs b) := let ⟨t, p, s1⟩ := h; ⟨fun pins s σ H v u Q I r ⟨G, F, s0, d, s', S, dv, e, q⟩ => p.run pins s σ H v u Q I r (s1 G F H σ s0 v d S dv Q ⟨s', e, q⟩)⟩
theorem wipe_at {σ : L2.St} : ∀ {vs : List Nat} {j : Nat}, (wipe σ vs)[j]? = if j ∈ vs then (σ[j]?).map fun _ => none else σ[j]?
  | [], j => by simp [wipe]
  | v :: vs, j => by
    unfold wipe
    by_cases h : v = j
    · subst h
      rw [List.getElem?_set]
      by_cases hl : v < σ.length
      · simp [wipe_length, hl, List.getElem?_eq_getElem hl]
      · simp [wipe_length, hl, List.getElem?_eq_none (Nat.le_of_not_lt hl)]
    · rw [List.getElem?_set_ne h, wipe_at]
      have h' : ¬ j = v := fun e => h e.symm
      simp [List.mem_cons, h']
theorem wipe_set {σ : L2.St} {vs : List Nat} {i : Nat} {x : Option V} (h : i ∈ vs) : wipe (σ.set i x) vs = wipe σ vs := by
  apply List.ext_getElem?
  intro j
  rw [wipe_at, wipe_at]
  by_cases hj : j ∈ vs
  · simp only [hj, if_true]
    by_cases e : i = j
    · subst e
      rw [List.getElem?_set]
      by_cases hl : i < σ.length
      · simp [hl]
      · simp [hl, List.getElem?_eq_none (Nat.le_of_not_lt hl)]
    · rw [List.getElem?_set_ne e]
  · simp only [hj, if_false]
    have hne : i ≠ j := fun e => hj (by rw [← e]; exact h)
    rw [List.getElem?_set_ne hne]
section
variable {X : Cx} {vs : List Nat} {pos : Pos}
theorem dgc_name (i : Nat) {x : Str} (hN : X.N.Nodup) (hm : i ∈ vs := by decide) (hi : X.N[i]? = some x := by rfl) (hx : Loc X.env.scope x := by first | exact Or.inl rfl | exact Or.inr rfl) (hf : X.fn x = true ∨ X.env.scope.names.lookup x = some .local := by first | exact .inl rfl | exact .inr rfl | assumption) : DGc X vs (.Name x pos) (bName i) :=
  ⟨_, pg_name hN hi hx hf, fun G F H σ s v d S dv Q ⟨s', e, q⟩ => by cases e; exact q _ (S.setD i dv) (wipe_set hm)⟩
theorem dgsc_nil : DGsc X vs [] bNil := ⟨_, pgs_nil, fun G F H σ s ws ds S dv Q ⟨s', e, q⟩ => by
  cases dv with
  | nil => cases e; exact ⟨rfl, q _ S rfl⟩
  | cons _ _ => cases e⟩
theorem dgsc_cons {e : Expr} {es : List Expr} {b : BM} {r : BMs} (h : DGc X vs e b) (k : DGsc X vs es r) (hs : (assignEach (e :: es) X.env).map (·.2) = assign e X.env :: (assignEach es X.env).map (·.2) := by rfl) : DGsc X vs (e :: es) (bCons b r) := by
  obtain ⟨g, p, s1⟩ := h
  obtain ⟨g2, p2, s2⟩ := k
  refine ⟨_, pgs_cons p p2 hs, fun G F H σ s ws ds S dv Q ⟨s', e, q⟩ => ?_⟩
  cases dv with
  | nil => cases e
  | @cons v vs d ds h t =>
    have e' : (b d s).bind (r ds) = some s' := e
    cases z : b d s with
    | none => rw [z] at e'; cases e'
    | some s1' =>
      rw [z] at e'
      exact ⟨v, vs, rfl, s1 G F H σ s v d S h _ ⟨s1', z, fun σ' S' w => s2 G F H σ' s1' vs ds S' t _ ⟨s', e', fun σ2 S2 w2 => q σ2 S2 (w2.trans w)⟩⟩⟩
theorem dgc_tup {es : List Expr} {k : Nat} {n : Nat} {r : BMs} (hc : X.calm = true) (h : DGsc X vs es r) (hn : (assignEach es X.env).length = n := by rfl) (hst : (assignEach es X.env).findIdx? (·.1) = none := by rfl) : DGc X vs (.Tuple es k pos) (bTup n r) := by
  obtain ⟨g, p, s1⟩ := h
  have pA := pg_tup (k := k) (pos := pos) hc p hn hst
  have pB := pg_unl (k := k) (pos := pos) hc p hn hst
  refine ⟨fun v σ H Q => gTup X.K n g v σ H Q ∨ gUnl X.K n g v σ H Q, ⟨fun pins s σ H v u Q I r h => h.elim (pA.run pins s σ H v u Q I r) (pB.run pins s σ H v u Q I r)⟩, fun G F H σ s v d S dv Q ⟨s', e, q⟩ => ?_⟩
  cases dv with
  | @tup l ws ds h1 a1 =>
    have e' : (if ds.length = n then r ds s else none) = some s' := e
    by_cases hl : ds.length = n
    · rw [if_pos hl] at e'
      exact .inl ⟨_, _, rfl, .of (S.kx.tup h1), by rw [a1.len]; exact hl, s1 G F H σ s _ ds S a1 _ ⟨s', e', q⟩⟩
    · rw [if_neg hl] at e'; cases e'
  | @lst l ws ds h1 a1 =>
    have e' : (if ds.length = n then r ds s else none) = some s' := e
    by_cases hl : ds.length = n
    · rw [if_pos hl] at e'
      exact .inr ⟨_, _, rfl, S.kx.sql h1, by rw [a1.len]; exact hl, s1 G F H σ s _ ds S a1 _ ⟨s', e', q⟩⟩
    · rw [if_neg hl] at e'; cases e'
  | _ => cases e
end

/-! ### comprehensions -/
@[simp] def wipeS (s : DSt) : List Nat → DSt
  | [] => s
  | v :: vs => (wipeS s vs).set v .no
theorem StOk.setNo {K : Fg} {G : Hp × Hp} {F H : Hp} {σ : L2.St} {s : DSt} (h : StOk K G F H σ s) (i : Nat) : StOk K G F H (σ.set i none) (s.set i .no) where
  e := h.e
  ln := by rw [List.length_set, List.length_set]; exact h.ln
  sl := fun j x hx => by
    by_cases hj : i = j
    · subst hj
      have hi : i < s.length := by have := (List.getElem?_eq_some_iff.mp hx).1; simpa using this
      rw [List.getElem?_set_self hi] at hx
      cases hx
      trivial
    · rw [List.getElem?_set_ne hj] at hx ⊢
      exact h.sl j x hx
  ds := fun j k x y a h1 h2 o1 o2 e1 e2 => by
    have hj : i ≠ j := fun q => by
      subst q
      have hi : i < s.length := by have := (List.getElem?_eq_some_iff.mp h1).1; simpa using this
      rw [List.getElem?_set_self hi] at h1
      cases h1; cases o1
    have hk : i ≠ k := fun q => by
      subst q
      have hi : i < s.length := by have := (List.getElem?_eq_some_iff.mp h2).1; simpa using this
      rw [List.getElem?_set_self hi] at h2
      cases h2; cases o2
    rw [List.getElem?_set_ne hj] at h1 e1
    rw [List.getElem?_set_ne hk] at h2 e2
    exact h.ds j k x y a h1 h2 o1 o2 e1 e2
theorem StOk.wipe {K : Fg} {G : Hp × Hp} {F H : Hp} {σ : L2.St} {s : DSt} (h : StOk K G F H σ s) : ∀ vs : List Nat, StOk K G F H (L2.wipe σ vs) (wipeS s vs)
  | [] => h
  | v :: vs => (h.wipe vs).setNo v
def onR (o : Option DSt) (k : DSt → R (List D)) : R (List D) := match o with
  | none => .bad
  | some s => k s
@[simp] theorem onR_some (s : DSt) (k : DSt → R (List D)) : onR (some s) k = k s := rfl
@[simp] theorem onR_none (k : DSt → R (List D)) : onR none k = .bad := rfl
def dLc (b : BM) (t : TM) (f : EM) (s : DSt) : List D → R (List D)
  | [] => .ok []
  | x :: xs => onR (b x s) fun s1 => (noEx (t s1)).bind fun k => if k = true then (noEx (f s1)).bind fun d => (dLc b t f s xs).bind fun ds => .ok (d :: ds) else dLc b t f s xs
@[simp] theorem dLc_nil (b : BM) (t : TM) (f : EM) (s : DSt) : dLc b t f s [] = .ok [] := rfl
theorem dLc_cons (b : BM) (t : TM) (f : EM) (s : DSt) (x : D) (xs : List D) : dLc b t f s (x :: xs) = onR (b x s) fun s1 => (noEx (t s1)).bind fun k => if k = true then (noEx (f s1)).bind fun d => (dLc b t f s xs).bind fun ds => .ok (d :: ds) else dLc b t f s xs := rfl
theorem dLc_noex {b : BM} {t : TM} {f : EM} {s : DSt} {c : Str} {d : D} : ∀ xs : List D, dLc b t f s xs ≠ .ex c d
  | [], h => by cases h
  | x :: xs, h => by
    rw [dLc_cons] at h
    cases hb : b x s with
    | none => rw [hb] at h; cases h
    | some s1 =>
      rw [hb, onR_some] at h
      cases ht : t s1 with
      | ok k =>
        rw [ht, noEx_ok, R.bind_ok] at h
        cases k with
        | true =>
          simp only [if_true] at h
          cases hf : f s1 with
          | ok d' =>
            rw [hf, noEx_ok, R.bind_ok] at h
            cases hr : dLc b t f s xs with
            | ok ds => rw [hr] at h; cases h
            | ex c' d' => exact dLc_noex xs hr
            | bad => rw [hr] at h; cases h
          | ex c' d' => rw [hf] at h; cases h
          | bad => rw [hf] at h; cases h
        | false => exact dLc_noex xs h
      | ex c' d' => rw [ht] at h; cases h
      | bad => rw [ht] at h; cases h
@[simp] def tYesM : TM := fun _ => .ok true
@[simp] def nLc (it : LM) (b : BM) (t : TM) (f : EM) (vs : List Nat) : LM := fun s => (it s).bind fun items => if items.length ≤ sizeLine then dLc b t f (wipeS s vs) items else .bad
structure DTs (X : Cx) (ifs : List Expr) (f : TM) : Prop where
  ex : ∃ tt, PTs X ifs tt ∧ ST X.K Z0 tt f
theorem DTs.can {X : Cx} {ifs : List Expr} {f : TM} (h : DTs X ifs f) : PTs X ifs (cT X.K Z0 f) := let ⟨t, p, s1⟩ := h; ⟨fun pins s σ H Q I ⟨G, F, s', S, q⟩ => p.run pins s σ H Q I (s1 G F H σ s' S Q q)⟩
theorem dts_nil {X : Cx} : DTs X [] tYesM := ⟨_, pts_nil, fun G F H σ s S Q q => q.ok S.kx⟩
theorem dts_one {X : Cx} {c : Expr} {f : TM} (h : DT X Z0 c f) : DTs X [c] f := let ⟨t, p, s1⟩ := h; ⟨_, pts_one p, s1⟩
def hole (H : Hp) (D : Addr) : Hp := fun a => if a = D then none else H a
theorem hole_upd {H : Hp} {D : Addr} {o : HO} (h : H D = some o) : upd (hole H D) D o = H := by
  funext a
  unfold upd hole
  by_cases e : a = D
  · rw [if_pos e, e, h]
  · rw [if_neg e, if_neg e]
theorem hole_ne {H : Hp} {D a : Addr} (h : a ≠ D) : hole H D a = H a := by unfold hole; rw [if_neg h]
theorem ext_hole {F H F' H' : Hp} {D : Addr} (e : Ext F H F' H') (h : H D = none) (h' : F' D = none) : Ext F H F' (hole H' D) :=
  ⟨e.f, fun a o ha => by rw [hole_ne (ne_of_none ha h)]; exact e.h a o ha, fun a o ha => by rw [hole_ne (ne_of_none ha h')]; exact e.i a o ha, e.n, fun a o h1 h2 => by rw [hole_ne (ne_of_none h2 h)]; exact e.o a o h1 h2⟩
theorem sn_lc {K : Fg} {Z : XZ} {wi : TI} {it : LM} {b : BM} {t : TM} {f : EM} {vs : List Nat} (h1 : SI K Z wi it) : SN K Z (tLc wi (cG K vs b) (cT K Z0 t) (cE K Z0 f) vs) (nLc it b t f vs) := fun G F H σ s S Q q => by
  refine h1 G F H σ s S _ (PostR.bind q fun items F1 H1 er e1 q1 J hJ => ?_)
  by_cases hz : items.length ≤ sizeLine
  case neg => rw [if_neg hz] at q1; exact q1.elim
  rw [if_pos hz] at q1
  cases hr : dLc b t f (wipeS s vs) items with
  | ex c d => exact (dLc_noex items hr).elim
  | bad => rw [hr] at q1; exact q1.elim
  | ok total =>
    rw [hr] at q1
    intro D hD
    have S1 := S.ext e1
    refine ⟨fun i m H' => m = items.length - i ∧ i ≤ items.length ∧ ∃ F' xs ds rest, Ext F1 H1 F' H' ∧ F' D = none ∧ H' D = some (.lst xs) ∧ DnAll K F' xs ds ∧ ds.length ≤ i ∧ dLc b t f (wipeS s vs) (items.drop i) = .ok rest ∧ total = ds ++ rest,
      ⟨_, rfl, Nat.zero_le _, F1, [], [], total, ?_, ?_, upd_same, .nil, Nat.le_refl _, hr, rfl⟩, ?_⟩
    · exact ⟨.refl _, .new hD, e1.i.mut (e1.i.back hD), fun a h h' => absurd h h', fun a o h1 h2 => by rw [upd_ne (ne_of_none h2 hD)]; exact h2⟩
    · exact e1.i.back hD
    rintro i m H' ⟨rfl, hi, F', xs, ds, rest, ex, fD, kD, dn, hl, hrest, htot⟩
    obtain ⟨ok, st⟩ := hJ F' H' ex.f ex.i
    by_cases hlt : i < items.length
    · have hx : items[i]? = some items[i] := List.getElem?_eq_getElem hlt
      rw [drop_get hx, dLc_cons] at hrest
      obtain ⟨go, yl⟩ := ok i _ hx
      refine .inr ⟨go, fun H2 => ∃ F' xs ds rest, Ext F1 H1 F' H2 ∧ F' D = none ∧ H2 D = some (.lst xs) ∧ DnAll K F' xs ds ∧ ds.length ≤ i + 1 ∧ dLc b t f (wipeS s vs) (items.drop (i + 1)) = .ok rest ∧ total = ds ++ rest,
        fun H2 h2 => ⟨items.length - (i + 1), by omega, rfl, hlt, h2⟩, fun x H'' y => ?_⟩
      obtain ⟨F'', ex2, dx⟩ := yl x H'' y
      cases hb : b items[i] (wipeS s vs) with
      | none => rw [hb] at hrest; cases hrest
      | some s1 =>
        rw [hb, onR_some] at hrest
        have S2 := (S1.wipe vs).ext (ex.trans ex2)
        refine ⟨G, F'', wipeS s vs, items[i], s1, S2, dx, hb, fun σ2 S3 hw => ⟨?_, G, F'', s1, S3, ?_⟩⟩
        · rw [hw]
          apply List.ext_getElem?
          intro j
          rw [wipe_at, wipe_at]
          by_cases hj : j ∈ vs
          · simp only [hj, if_true]
            cases σ[j]? <;> rfl
          · simp only [hj, if_false]
        · cases ht : t s1 with
          | ok k =>
            rw [ht, noEx_ok, R.bind_ok] at hrest
            cases k with
            | false =>
              intro F3 H3 e3
              refine iteF ⟨F3, xs, ds, rest, (ex.trans ex2).trans e3, (ex2.trans e3).fr fD kD, (ex2.trans e3).o D _ fD kD, dn.mono (ex2.f.trans e3.f), by omega, hrest, htot⟩
            | true =>
              intro F3 H3 e3
              refine iteT ⟨G, F3, s1, S3.ext e3, ?_⟩
              simp only [if_true] at hrest
              cases hf : f s1 with
              | ok d =>
                rw [hf, noEx_ok, R.bind_ok] at hrest
                cases hr2 : dLc b t f (wipeS s vs) (items.drop (i + 1)) with
                | ok ds2 =>
                  rw [hr2] at hrest
                  cases hrest
                  intro F4 H4 e4 v dv
                  have e5 := (ex2.trans e3).trans e4
                  have fD4 := e5.fr fD kD
                  have kD4 := e5.o D _ fD kD
                  refine ⟨xs, kD4, ?_, F4, xs ++ [v], ds ++ [d], ds2, ?_, fD4, upd_same, (dn.mono e5.f).app (.cons dv .nil), by simp; omega, rfl, by rw [htot, List.append_assoc]; rfl⟩
                  · rw [dn.len]
                    exact Nat.lt_of_le_of_lt hl (Nat.lt_of_lt_of_le hlt hz)
                  · have e6 := ex.trans e5
                    exact ⟨e6.f, e6.h.mut hD, e6.i.mut fD4, e6.n, fun a o h1 h2 => by rw [upd_ne (ne_of_none h2 hD)]; exact e6.o a o h1 h2⟩
                | ex c d => rw [hr2] at hrest; cases hrest
                | bad => rw [hr2] at hrest; cases hrest
              | ex c d => rw [hf] at hrest; cases hrest
              | bad => rw [hf] at hrest; cases hrest
          | ex c d => rw [ht] at hrest; cases hrest
          | bad => rw [ht] at hrest; cases hrest
    · have e : i = items.length := by omega
      subst e
      rw [List.drop_length, dLc_nil] at hrest
      cases hrest
      rw [List.append_nil] at htot
      subst htot
      refine .inl ⟨st, ?_⟩
      have := q1 F' (hole H' D) (ext_hole ex hD fD) D xs (by unfold hole; rw [if_pos rfl]) dn
      rw [hole_upd kD] at this
      exact this
section
variable {X : Cx} {Z : XZ} {elt tg iter : Expr} {ifs : List Expr} {scope : Scope} {pos : Pos} {it : LM} {b : BM} {t : TM} {f : EM}
theorem dn_lc (own : List (Str × Nat)) (hc : X.calm = true) (hN : X.N.Nodup) (hi : DI X Z tg iter it) (ok : blkC X.N X.env.scope scope own = true)
    (hg : ∀ (s : Shared) (H : Hp) (C : Addr) (cl : List (Str × Addr)) (fp : List Addr), DGc (X.blk s H scope (compEnvC scope cl C X.env) fp) (own.map (·.2)) tg b) (ht : ∀ (s : Shared) (H : Hp) (C : Addr) (cl : List (Str × Addr)) (fp : List Addr), DTs (X.blk s H scope (compEnvC scope cl C X.env) fp) ifs t)
    (he : ∀ (s : Shared) (H : Hp) (C : Addr) (cl : List (Str × Addr)) (fp : List Addr), DE (X.blk s H scope (compEnvC scope cl C X.env) fp) Z0 elt f) (hs : ∀ x, foldedSetIterable iter X.env x = pure x := by intro _; rfl) :
    DN X Z (.ListComp elt [⟨tg, iter, ifs, 0⟩] scope pos) (nLc it b t f (own.map (·.2))) := by
  obtain ⟨wi, p1, s1⟩ := hi
  exact ⟨_, pe_lc (te := cE X.K Z0 f) (tt := cT X.K Z0 t) (g := cG X.K (own.map (·.2)) b) hc hN p1 (blkOk_by ok) (fun s H C cl fp => (hg s H C cl fp).can) (fun s H C cl fp => (ht s H C cl fp).can) (fun s H C cl fp => (he s H C cl fp).can) hs, sn_lc s1⟩
/-- x = [..] on one line -/
theorem ds_setLc (i : Nat) {x : Str} {py spos : Pos} (own : List (Str × Nat)) (hc : X.calm = true) (hN : X.N.Nodup) (hi : DI X Z tg iter it) (ok : blkC X.N X.env.scope scope own = true)
    (hg : ∀ (s : Shared) (H : Hp) (C : Addr) (cl : List (Str × Addr)) (fp : List Addr), DGc (X.blk s H scope (compEnvC scope cl C X.env) fp) (own.map (·.2)) tg b) (ht : ∀ (s : Shared) (H : Hp) (C : Addr) (cl : List (Str × Addr)) (fp : List Addr), DTs (X.blk s H scope (compEnvC scope cl C X.env) fp) ifs t)
    (he : ∀ (s : Shared) (H : Hp) (C : Addr) (cl : List (Str × Addr)) (fp : List Addr), DE (X.blk s H scope (compEnvC scope cl C X.env) fp) Z0 elt f)
    (hsw : swapsWith (.ListComp elt [⟨tg, iter, ifs, 0⟩] scope pos) (some (.Name x py)) spos.line X.env = pure true) (hy : X.N[i]? = some x := by rfl) (hyl : X.env.scope.names.lookup x = some .local := by rfl) (hs : ∀ x, foldedSetIterable iter X.env x = pure x := by intro _; rfl) :
    DS X Z (.Assign [.Name x py] (.ListComp elt [⟨tg, iter, ifs, 0⟩] scope pos) spos) (mAsg (eLst (nLc it b t f (own.map (·.2)))) (bName i)) ∧ DS X Z (.Assign [.Name x py] (.ListComp elt [⟨tg, iter, ifs, 0⟩] scope pos) spos) (mSetL i (nLc it b t f (own.map (·.2)))) := by
  obtain ⟨wi, p1, s1⟩ := hi
  have p := ps_setLc (te := cE X.K Z0 f) (tt := cT X.K Z0 t) (g := cG X.K (own.map (·.2)) b) hc hN hy hyl hsw p1 (blkOk_by ok) (fun s H C cl fp => (hg s H C cl fp).can) (fun s H C cl fp => (ht s H C cl fp).can) (fun s H C cl fp => (he s H C cl fp).can) hs
  refine ⟨⟨_, p, fun G F H σ s S D q => ?_⟩, ⟨_, p, fun G F H σ s S D q => ?_⟩⟩
  · refine sn_lc s1 G F H σ s S _ (PostS.bind (D := D) (k := fun ds => .nx (s.set i (.d (.list ds)))) S ?_ fun ds F' H' _ e q p vs hp dv => ?_)
    · have q' : PostS X.K Z G F D (oE ((nLc it b t f (own.map (·.2)) s).bind fun ds => .ok (.list ds)) fun d => obO (bName i d s)) := q
      cases h : nLc it b t f (own.map (·.2)) s with
      | ok ds => rw [h] at q'; exact q'
      | ex c d => rw [h] at q'; exact q'
      | bad => rw [h] at q'; exact q'
    · exact q _ _ _ (.new (e.i.back hp)) (((S.ext e).ext (.new e.i hp)).setD i (.lst (.of upd_same) (dv.mono (.new (e.i.back hp)))))
  · refine sn_lc s1 G F H σ s S _ (PostS.bind S q fun ds F' H' _ e q p vs hp dv => ?_)
    exact q F' _ _ (.refl _) ((S.ext e).setN i hp fun f1 g1 => ⟨p, vs, rfl, f1, g1, upd_same, dv⟩)
end
end DL

set_option Elab.async false
set_option linter.all false
set_option maxRecDepth 100000
set_option maxHeartbeats 4000000
namespace DL
open PySem PySem.Spec PyProof.Rows L2

/-! ### isinstance -/
inductive BT where
  | str | int | bool | list | tuple | dict
def BT.nm : BT → String
  | .str => "str" | .int => "int" | .bool => "bool" | .list => "list" | .tuple => "tuple" | .dict => "dict"
def tyN : D → String
  | .none => "NoneType" | .bool _ => "bool" | .int _ => "int" | .str _ => "str" | .list _ => "list" | .tuple _ => "tuple" | .dict _ => "dict"
def isiB : BT → D → Bool
  | .str, .str _ => true
  | .int, .int _ => true
  | .int, .bool _ => true
  | .bool, .bool _ => true
  | .list, .list _ => true
  | .tuple, .tuple _ => true
  | .dict, .dict _ => true
  | _, _ => false
@[simp] def dIsi (T : BT) (a : D) : R D := .ok (.bool (isiB T a))
section
variable (b : Bool) (i : Int) (x : Str) (xs : List D) (kvs : List (D × D))
@[simp] theorem isiB_str : isiB .str (.str x) = true := rfl
@[simp] theorem isiB_int : isiB .int (.int i) = true := rfl
@[simp] theorem isiB_int_b : isiB .int (.bool b) = true := rfl
@[simp] theorem isiB_bool : isiB .bool (.bool b) = true := rfl
@[simp] theorem isiB_bool_i : isiB .bool (.int i) = false := rfl
@[simp] theorem isiB_list : isiB .list (.list xs) = true := rfl
@[simp] theorem isiB_tuple : isiB .tuple (.tuple xs) = true := rfl
@[simp] theorem isiB_dict : isiB .dict (.dict kvs) = true := rfl
@[simp] theorem isiB_str_n : isiB .str .none = false := rfl
end
theorem kit_all : (∀ T ∈ [BT.str, .int, .bool, .list, .tuple, .dict], ∀ a ∈ [PyData.none, .bool true, .int 0, .str Str.empty, .list [], .tuple [], .dict []], kitB (tyN a) T.nm = some (isiB T a)) := by
  decide +kernel
theorem kit_one (T : BT) (a : D) : kitB (tyN a) T.nm = some (isiB T a) := by
  have h := kit_all T (by cases T <;> simp)
  cases a with
  | none => exact h .none (by simp)
  | bool b => have := h (.bool true) (by simp); cases T <;> exact this
  | int b => have := h (.int 0) (by simp); cases T <;> exact this
  | str b => have := h (.str Str.empty) (by simp); cases T <;> exact this
  | list b => have := h (.list []) (by simp); cases T <;> exact this
  | tuple b => have := h (.tuple []) (by simp); cases T <;> exact this
  | dict b => have := h (.dict []) (by simp); cases T <;> exact this
theorem tyx_dn {K : Fg} {F H : Hp} {x : V} {a : D} (e : Kx F H) (d : Dn K F x a) : TyX K H x (.type (tyN a)) := by
  cases d with
  | non => exact .base .non
  | bl b => exact .base (.bl b)
  | int i => exact .base (.int i)
  | str x => exact .base (.str x)
  | lst h1 a1 =>
    rcases e.sql h1 with (h | ⟨o, h⟩) | ⟨o, its, n, h, hc, _⟩
    · exact .base (.lst h)
    · exact .base (.frz h)
    · exact .kList h hc
  | tup h1 a1 => exact .base (.tup (e.tup h1))
  | dic h1 a1 =>
    rcases e.rd (u := .dK _) True.intro h1 with h | ⟨o, h⟩
    · exact .base (.dK h)
    · exact .fDict h
section
variable {X : Cx} {Z : XZ} {e : Expr} {es : List Expr} {f : EM} {fa : AM} {pos p p2 : Pos}
theorem de_isi (T : BT) {x : Str} (hm : X.mg "isinstance" = none) (hm2 : X.mg x = none) (h : DE X Z e f) (hv : bootBuiltins x = some (.type T.nm) := by decide +kernel) (hg : Gl X "isinstance" := by rfl) (hg2 : Gl X x := by rfl) (hn : x ≠ "__name__" := by decide) (hd : (x == ("__debug__" : Str)) = false := by decide)
    (he : starEach (e :: [.Name x p2]) X.env = (false, eval e X.env) :: starEach [.Name x p2] X.env := by rfl) (he2 : starEach (.Name x p2 :: []) X.env = (false, eval (.Name x p2) X.env) :: starEach [] X.env := by rfl) (hpl : (backTo pos (starEach [.Name x p2] X.env)).any (·.1) = false := by rfl) :
    DE X Z (.Call (.Name "isinstance" p) [e, .Name x p2] [] pos) (eUn (dIsi T) f) := by
  obtain ⟨t, p1, s1⟩ := h
  have pT : PE X (.Name x p2) (tC (.ty T.nm)) := pe_bltn hg2 hm2 hv rfl hn hd
  refine ⟨_, pe_callB call_isi hg hm (by decide +kernel) (pa_cons p1 (pa_cons pT pa_nil he2) he) (by decide) (by decide) he hpl, fun G F H σ s S Q q => ?_⟩
  refine s1 G F H σ s S _ (PostR.bind q fun d F1 H1 _ e1 q1 v dv => ?_)
  exact ⟨v, .ty T.nm, _, _, _, rfl, .ty _, tyx_dn e1.i dv, kit_ty (kit_one T d), q1.ok e1.i _ (.bl _)⟩
end

/-! ### int, str, tuple, list -/
def dInt (ds : List D) : R D := match ds with
  | [.int i] => .ok (.int i)
  | [.bool k] => .ok (.int (if k then 1 else 0))
  | [.str z] => if z.length ≤ 640 then match PySem.intText? z with
    | some n => .ok (.int n)
    | none => .bad else .bad
  | _ => .bad
def dStr (ds : List D) : R D := match ds with
  | [.int i] => if i.natAbs.log2 < 1920 then .ok (.str (Str.ofString (toString i))) else .bad
  | _ => .bad
def dTupC (ds : List D) : R D := match ds with
  | [.list xs] => .ok (.tuple xs)
  | [.tuple xs] => .ok (.tuple xs)
  | _ => .bad
def dList (ds : List D) : R (List D) := match ds with
  | [.list xs] => .ok xs
  | [.tuple xs] => .ok xs
  | _ => .bad
@[simp] theorem dList_list (xs : List D) : dList [.list xs] = .ok xs := rfl
@[simp] theorem dList_tuple (xs : List D) : dList [.tuple xs] = .ok xs := rfl
@[simp] def nList (f : AM) : LM := fun s => (f s).bind dList
@[simp] theorem dInt_int (i : Int) : dInt [.int i] = .ok (.int i) := rfl
@[simp] theorem dInt_bool (k : Bool) : dInt [.bool k] = .ok (.int (if k then 1 else 0)) := rfl
@[simp] theorem dStr_int (i : Int) : dStr [.int i] = if i.natAbs.log2 < 1920 then .ok (.str (Str.ofString (toString i))) else .bad := rfl
@[simp] theorem dTupC_list (xs : List D) : dTupC [.list xs] = .ok (.tuple xs) := rfl
@[simp] theorem dTupC_tuple (xs : List D) : dTupC [.tuple xs] = .ok (.tuple xs) := rfl
section
variable {X : Cx} {Z : XZ} {e : Expr} {es : List Expr} {f : EM} {fa : AM} {pos p p2 : Pos}
theorem de_int1 (hm : X.mg "int" = none) (ha : DA X Z (e :: es) fa) (hg : Gl X "int" := by rfl) (he : starEach (e :: es) X.env = (false, eval e X.env) :: starEach es X.env := by rfl) (hpl : (backTo pos (starEach es X.env)).any (·.1) = false := by rfl) :
    DE X Z (.Call (.Name "int" p) (e :: es) [] pos) (eCall dInt fa) := by
  obtain ⟨⟨t, p1, s1⟩, _⟩ := ha
  refine ⟨_, pe_callTy (call_int1.or call_int_str) hg hm (by decide +kernel) p1 (by decide) (by decide) he hpl, se_cb s1 fun F H xs ds ek d Q q => ?_⟩
  match ds, d, q with
  | [.int i], .cons (.int _) .nil, q => exact .inl (.inl ⟨i, rfl, q.ok ek _ (.int _)⟩)
  | [.bool k], .cons (.bl _) .nil, q => exact .inl (.inr ⟨k, rfl, q.ok ek _ (.int _)⟩)
  | [.str z], .cons (.str _) .nil, q =>
    have q4 : PostR Z F H (if z.length ≤ 640 then (match PySem.intText? z with | some n => .ok (.int n) | none => .bad) else .bad) (PD X.K Q) := q
    by_cases hc : z.length ≤ 640
    · rw [if_pos hc] at q4
      cases h : PySem.intText? z with
      | none => rw [h] at q4; exact q4.elim
      | some n => rw [h] at q4; exact .inr ⟨z, n, rfl, h, hc, q4.ok ek _ (.int _)⟩
    · rw [if_neg hc] at q4; exact q4.elim
theorem de_str1 (hm : X.mg "str" = none) (ha : DA X Z (e :: es) fa) (hg : Gl X "str" := by rfl) (he : starEach (e :: es) X.env = (false, eval e X.env) :: starEach es X.env := by rfl) (hpl : (backTo pos (starEach es X.env)).any (·.1) = false := by rfl) :
    DE X Z (.Call (.Name "str" p) (e :: es) [] pos) (eCall dStr fa) := by
  obtain ⟨⟨t, p1, s1⟩, _⟩ := ha
  refine ⟨_, pe_callTy call_str_int hg hm (by decide +kernel) p1 (by decide) (by decide) he hpl, se_cb s1 fun F H xs ds ek d Q q => ?_⟩
  match ds, d, q with
  | [.int i], .cons (.int _) .nil, q =>
    have q4 : PostR Z F H (if i.natAbs.log2 < 1920 then .ok (.str (Str.ofString (toString i))) else .bad) (PD X.K Q) := q
    by_cases hc : i.natAbs.log2 < 1920
    · rw [if_pos hc] at q4
      exact ⟨i, rfl, hc, q4.ok ek _ (.str _)⟩
    · rw [if_neg hc] at q4; exact q4.elim
theorem de_tupC (hm : X.mg "tuple" = none) (ha : DA X Z (e :: es) fa) (hg : Gl X "tuple" := by rfl) (he : starEach (e :: es) X.env = (false, eval e X.env) :: starEach es X.env := by rfl) (hpl : (backTo pos (starEach es X.env)).any (·.1) = false := by rfl) :
    DE X Z (.Call (.Name "tuple" p) (e :: es) [] pos) (eCall dTupC fa) := by
  obtain ⟨⟨t, p1, s1⟩, _⟩ := ha
  refine ⟨_, pe_callTy call_tuple_of hg hm (by decide +kernel) p1 (by decide) (by decide) he hpl, se_cb s1 fun F H xs ds ek d Q q => ?_⟩
  match ds, d, q with
  | [.list xs], .cons (.lst h1 a1) .nil, q => exact ⟨_, _, rfl, .inl ⟨ek.sql h1, fun l hl => q _ _ (.new ek hl) _ (.tup upd_same (a1.mono (.new (ek.back hl))))⟩⟩
  | [.tuple xs], .cons (.tup h1 a1) .nil, q => exact ⟨_, _, rfl, .inr ⟨.of (ek.tup h1), q.ok ek _ (.tup h1 a1)⟩⟩
theorem dn_list (hm : X.mg "list" = none) (ha : DA X Z [e] fa) (hg : Gl X "list" := by rfl) (he : starEach (e :: []) X.env = (false, eval e X.env) :: starEach [] X.env := by rfl) (hpl : (backTo pos (starEach [] X.env)).any (·.1) = false := by rfl) :
    DN X Z (.Call (.Name "list" p) [e] [] pos) (nList fa) := by
  obtain ⟨⟨t, p1, s1⟩, _⟩ := ha
  refine ⟨_, pe_callTy call_list_of hg hm (by decide +kernel) p1 (by decide) (by decide) he hpl, fun G F H σ s S Q q => ?_⟩
  refine s1 G F H σ s S _ (PostR.bind q fun ds F1 H1 _ e1 q1 vs dv => ?_)
  match ds, dv, q1 with
  | [.list xs], .cons (.lst h1 a1) .nil, q => exact ⟨_, _, rfl, .inl (e1.i.sql h1), fun l hl => q.ok e1.i _ _ hl a1⟩
  | [.tuple xs], .cons (.tup h1 a1) .nil, q => exact ⟨_, _, rfl, .inr (.of (e1.i.tup h1)), fun l hl => q.ok e1.i _ _ hl a1⟩
end
end DL

set_option Elab.async false
set_option linter.all false
set_option maxRecDepth 100000
set_option maxHeartbeats 4000000
namespace DL
open PySem PySem.Spec PyProof.Rows L2

theorem blk_ok {N : List Str} {sc scope : Scope} {own : List (Str × Nat)} (h : blkC N sc scope own = true) : blkC N sc scope own = true := h
theorem r1 {k : Nat} {A : Around} (hr : Room k A) : A.units + 1 < cLine := by have := hr.un; omega
theorem r65 {k : Nat} {A : Around} (hr : Room k A) : A.units + 65 < cLine := by have := hr.un; omega
def wFuel : Nat := 1000000000000

/-! ### what is read without a trace -/
def SP (K : Fg) (te : TE) (f : EM) : Prop := ∀ G F H σ s, StOk K G F H σ s → ∀ d, f s = .ok d → ∃ v, Dn K F v d ∧ ∀ H', Kw F H' → ∀ Q : VK, Q v H' → te σ H' Q
structure DP (X : Cx) (e : Expr) (f : EM) : Prop where
  ex : ∃ te, PE X e te ∧ SP X.K te f ∧ ∀ s c d, f s ≠ .ex c d
section
variable {X : Cx} {Z : XZ} {a b e : Expr} {f f1 f2 : EM} {pos : Pos}
theorem dp_var (i : Nat) {x : Str} {pos : Pos} (hN : X.N[i]? = some x := by rfl) (hv : Vis X.env.scope x := by first | exact Or.inl rfl | exact Or.inr (Or.inl rfl) | exact Or.inr (Or.inr rfl)) (hd : (x == ("__debug__" : Str)) = false := by decide)
    (hcd : (x == ("__classdict__" : Str)) = false := by decide) : DP X (.Name x pos) (eVar i) := by
  refine ⟨_, pe_var hN hv hd hcd, fun G F H σ s S d h => ?_, fun s c d h => ?_⟩
  · unfold eVar at h
    split at h
    · rename_i y e
      cases h
      obtain ⟨v, e1, d1⟩ := S.sl i _ e
      exact ⟨v, d1, fun H' _ Q q => ⟨v, e1, q⟩⟩
    · cases h
  · unfold eVar at h
    split at h <;> cases h
theorem dp_int {i : Int} {j pos} : DP X (.Constant (.int i) j pos) (eC (.int i)) := ⟨_, pe_int, fun G F H σ s S d h => by cases h; exact ⟨_, .int i, fun H' _ Q q => q⟩, fun s c d h => by cases h⟩
theorem dp_str {x j pos} : DP X (.Constant (.str x) j pos) (eC (.str x)) := ⟨_, pe_str, fun G F H σ s S d h => by cases h; exact ⟨_, .str x, fun H' _ Q q => q⟩, fun s c d h => by cases h⟩
theorem dIdx_noex {a b : D} {c : Str} {d : D} : dIdx a b ≠ .ex c d := fun h => by
  have oR_noex : ∀ {α : Type} {o : Option α} {c : Str} {d : D}, oR o ≠ .ex c d := fun {α o c d} h => by cases o <;> cases h
  unfold dIdx at h
  split at h
  · exact oR_noex h
  · exact oR_noex h
  · split at h
    · exact oR_noex h
    · cases h
  · split at h
    · exact oR_noex h
    · cases h
  · cases h
theorem dp_ix (hu : X.A.units + 1 < cLine) (ha : DP X a f1) (hb : DP X b f2) (hs : PlainIx b := by exact fun _ _ => rfl) (hn : NoSl b := by exact fun _ _ => rfl) : DP X (.Subscript a b pos) (eOp dIdx f1 f2) := by
  obtain ⟨t1, p1, s1, n1⟩ := ha
  obtain ⟨t2, p2, s2, n2⟩ := hb
  refine ⟨_, peOr (pe_ix ix_seq p1 p2 hs (pos := pos)) (pe_dget hu p1 p2 hn (pos := pos)), fun G F H σ s S d h => ?_, fun s c d h => ?_⟩
  · have h' : ((f1 s).bind fun a => (f2 s).bind fun b => dIdx a b) = .ok d := h
    cases e1 : f1 s with
    | ex c d => exact (n1 s c d e1).elim
    | bad => rw [e1] at h'; cases h'
    | ok a =>
      rw [e1] at h'
      have h' : ((f2 s).bind fun b => dIdx a b) = .ok d := h'
      cases e2 : f2 s with
      | ex c d => exact (n2 s c d e2).elim
      | bad => rw [e2] at h'; cases h'
      | ok b =>
        rw [e2] at h'
        have h' : dIdx a b = .ok d := h'
        obtain ⟨v1, d1, k1⟩ := s1 G F H σ s S a e1
        obtain ⟨v2, d2, k2⟩ := s2 G F H σ s S b e2
        have q0 : ∀ Q : VK, (∀ F' H' v, Ext F F F' H' → Dn X.K F' v d → Q v H') → PostR Z0 F F (dIdx a b) (PD X.K Q) := fun Q q => by
          rw [h']; exact fun F' H' e v dv => q F' H' v e dv
        have w : ∃ v, Dn X.K F v d ∧ ∀ H', Kw F H' → ∀ Q : VK, Q v H' → rIx X.K v1 v2 H' Q ∨ ∃ a v, v1 = .ref a ∧ DGet H' a v2 (some v) ∧ Q v H' := by
          cases d1 with
          | @lst l vs ds h1 a1 =>
            cases d2 with
            | int i =>
              have h2 : oR (atI ds i) = R.ok d := h'
              cases z : atI ds i with
              | none => rw [z] at h2; cases h2
              | some d' =>
                rw [z] at h2; cases h2
                obtain ⟨v, e3, dv⟩ := atI_dn a1 z
                exact ⟨v, dv, fun H' k Q q => .inl (.inl ⟨_, _, i, v, rfl, rfl, k.sql h1, e3, q⟩)⟩
            | _ => cases h'
          | @tup l vs ds h1 a1 =>
            cases d2 with
            | int i =>
              have h2 : oR (atI ds i) = R.ok d := h'
              cases z : atI ds i with
              | none => rw [z] at h2; cases h2
              | some d' =>
                rw [z] at h2; cases h2
                obtain ⟨v, e3, dv⟩ := atI_dn a1 z
                exact ⟨v, dv, fun H' k Q q => .inl (.inr (.inl ⟨_, _, i, v, rfl, rfl, .of (k.tup h1), e3, q⟩))⟩
            | _ => cases h'
          | str z =>
            cases d2 with
            | int i =>
              have h2 : (if z.length ≤ sizeLine then oR ((atI z.cps.toList i).map fun c => PyData.str ⟨#[c]⟩) else .bad) = R.ok d := h'
              split at h2
              · rename_i hz
                cases w : atI z.cps.toList i with
                | none => rw [w] at h2; cases h2
                | some c =>
                  rw [w] at h2; cases h2
                  exact ⟨_, .str _, fun H' k Q q => .inl (.inr (.inr ⟨z, i, c, rfl, rfl, hz, w, q⟩))⟩
              · cases h2
            | _ => cases h'
          | @dic l kvs ds h1 a1 =>
            have h2 : (if isKey b then oR (dLook ds b) else .bad) = R.ok d := h'
            split at h2
            · rename_i hk
              obtain ⟨k, rfl, rfl⟩ := key_inv d2 hk
              cases w : dLook ds (kD k) with
              | none => rw [w] at h2; cases h2
              | some d' =>
                rw [w] at h2; cases h2
                obtain ⟨v, e3, dv⟩ := (look_ok a1 k).1 _ w
                exact ⟨v, dv, fun H' kk Q q => .inr ⟨_, v, rfl, .inl ⟨_, k, kk.rd trivial h1, rfl, e3.symm⟩, q⟩⟩
            · cases h2
          | _ => cases d2 <;> cases h'
        obtain ⟨v, dv, q⟩ := w
        refine ⟨v, dv, fun H' kk Q qq => ?_⟩
        rcases q H' kk Q qq with z | z
        · exact .inl (k1 H' kk _ (k2 H' kk _ z))
        · exact .inr (k1 H' kk _ (k2 H' kk _ z))
  · have h' : ((f1 s).bind fun a => (f2 s).bind fun b => dIdx a b) = .ex c d := h
    cases e1 : f1 s with
    | ex c d => exact (n1 s c d e1).elim
    | bad => rw [e1] at h'; cases h'
    | ok a =>
      rw [e1] at h'
      have h' : ((f2 s).bind fun b => dIdx a b) = .ex c d := h'
      cases e2 : f2 s with
      | ex c d => exact (n2 s c d e2).elim
      | bad => rw [e2] at h'; cases h'
      | ok b => rw [e2] at h'; exact dIdx_noex h'
theorem Kx.toH {F H : Hp} (e : Kx F H) : Kw F H := e.w
end

/-! ### locks -/
theorem Sm.dc {o u : HO} (h : Sm o u) (hd : IsDc u) : o = u := by
  rcases h with h | ⟨_, p, h⟩
  · exact h.symm
  · subst h; exact hd.elim
theorem Ext.lock {G1 G2 F H : Hp} {d : Addr} {u : HO} {od : Obj} (e : Ext G1 G2 F H) (hd : IsDc u) (hF : F d = some u) (hH : H d = some u) : Ext G1 G2 (upd F d (.frz od u)) (upd H d (.frz od u)) := by
  have k : ∀ {B : Hp}, B d = some u → Kx B (upd B d (.frz od u)) := fun {B} hb a o ha => by
    by_cases q : a = d
    · subst q
      rw [hb] at ha; cases ha
      exact ⟨_, upd_same, .inr ⟨hd, od, rfl⟩⟩
    · exact ⟨o, by rw [upd_ne q]; exact ha, .refl o⟩
  have g : G1 d = none → G2 d = none := fun h => e.n d h (by rw [hF]; simp)
  refine ⟨e.f.trans (k hF), e.h.trans (k hH), e.i.both, fun a h1 h2 => ?_, fun a o h1 h2 => ?_⟩
  · by_cases q : a = d
    · subst q; exact g h1
    · rw [upd_ne q] at h2; exact e.n a h1 h2
  · by_cases q : a = d
    · subst q; rw [g h1] at h2; cases h2
    · rw [upd_ne q]; exact e.o a o h1 h2
theorem Ext.unlock {G1 G2 F H F' H' : Hp} {d : Addr} {u : HO} (e0 : Ext G1 G2 F H) (hd : IsDc u) (hF : F d = some u) (hH : H d = some u) (e : Ext G1 G2 F' H') : Ext G1 G2 (upd F' d u) (upd H' d u) := by
  have g : G1 d = none → G2 d = none := fun h => e0.n d h (by rw [hF]; simp)
  refine ⟨fun a o ha => ?_, fun a o ha => ?_, e.i.both, fun a h1 h2 => ?_, fun a o h1 h2 => ?_⟩
  · by_cases q : a = d
    · subst q
      obtain ⟨o', h1, s⟩ := e0.f a o ha
      rw [hF] at h1; cases h1
      exact ⟨_, upd_same, s⟩
    · rw [upd_ne q]; exact e.f a o ha
  · by_cases q : a = d
    · subst q
      obtain ⟨o', h1, s⟩ := e0.h a o ha
      rw [hH] at h1; cases h1
      exact ⟨_, upd_same, s⟩
    · rw [upd_ne q]; exact e.h a o ha
  · by_cases q : a = d
    · subst q; exact g h1
    · rw [upd_ne q] at h2; exact e.n a h1 h2
  · by_cases q : a = d
    · subst q; rw [g h1] at h2; cases h2
    · rw [upd_ne q]; exact e.o a o h1 h2
theorem kw_unlock {F : Hp} {d : Addr} {u : HO} {od : Obj} (hd : IsDc u) (hF : F d = some (.frz od u)) : Kw F (upd F d u) := fun a o ha => by
  by_cases q : a = d
  · subst q
    rw [hF] at ha; cases ha
    exact ⟨u, upd_same, .inr ⟨u, hd, .inr ⟨od, rfl⟩, .inl rfl⟩⟩
  · exact ⟨o, by rw [upd_ne q]; exact ha, .inl rfl⟩
theorem kx_unlock {F F' : Hp} {d : Addr} {u : HO} {od : Obj} (hF : F d = some u) (k : Kx (upd F d (.frz od u)) F') : Kx F (upd F' d u) := fun a o ha => by
  by_cases q : a = d
  · subst q
    rw [hF] at ha; cases ha
    exact ⟨_, upd_same, .refl _⟩
  · rw [upd_ne q]
    exact k a o (by rw [upd_ne q]; exact ha)
section
variable {K : Fg} {G : Hp × Hp} {F H : Hp} {σ : L2.St} {s : DSt}
theorem StOk.reF (h : StOk K G F H σ s) {F' H' : Hp} (e : Ext G.1 G.2 F' H') (k : Kw F F') (hn : ∀ a o, F a = none → H a = some o → F' a = none ∧ H' a = some o) : StOk K G F' H' σ s where
  e := e
  ln := h.ln
  sl := fun i x hx => by
    have q := h.sl i x hx
    cases x with
    | no => trivial
    | d x => obtain ⟨v, e1, d1⟩ := q; exact ⟨v, e1, d1.monoW k⟩
    | ol xs => obtain ⟨a, vs, e1, f1, g1, h1, d1⟩ := q; exact ⟨a, vs, e1, (hn a _ f1 h1).1, g1, (hn a _ f1 h1).2, d1.monoW k⟩
    | od kvs => obtain ⟨a, e1, f1, g1, ks, h1, d1⟩ := q; exact ⟨a, e1, (hn a _ f1 h1).1, g1, ks, (hn a _ f1 h1).2, d1.monoW k⟩
  ds := h.ds
theorem StOk.lock (h : StOk K G F H σ s) {d : Addr} {u : HO} {od : Obj} (hd : IsDc u) (hF : F d = some u) (hH : H d = some u) : StOk K G (upd F d (.frz od u)) (upd H d (.frz od u)) σ s := by
  refine h.reF (h.e.lock hd hF hH) (fun a o ha => ?_) fun a o h1 h2 => ?_
  · by_cases q : a = d
    · subst q
      rw [hF] at ha; cases ha
      exact ⟨_, upd_same, .inr ⟨_, hd, .inl rfl, .inr ⟨od, rfl⟩⟩⟩
    · exact ⟨o, by rw [upd_ne q]; exact ha, .inl rfl⟩
  · have q : a ≠ d := fun q => by subst q; rw [hF] at h1; cases h1
    rw [upd_ne q, upd_ne q]; exact ⟨h1, h2⟩
theorem StOk.unlock {F' H' : Hp} (h0 : Ext G.1 G.2 F H) {d : Addr} {u : HO} {od : Obj} (hd : IsDc u) (hF : F d = some u) (hH : H d = some u) (hF' : F' d = some (.frz od u)) (h : StOk K G F' H' σ s) : StOk K G (upd F' d u) (upd H' d u) σ s := by
  refine h.reF (h0.unlock hd hF hH h.e) (kw_unlock hd hF') fun a o h1 h2 => ?_
  have q : a ≠ d := fun q => by subst q; rw [hF'] at h1; cases h1
  rw [upd_ne q, upd_ne q]; exact ⟨h1, h2⟩
end

/-! ### what is walked: data of any kind -/
def keysD (kvs : List (D × D)) : List D := kvs.map (·.1)
def dIter (a : D) : R (List D) := match a with
  | .list xs => .ok xs
  | .tuple xs => .ok xs
  | .str z => .ok (signs z)
  | .dict kvs => .ok (keysD kvs)
  | _ => .bad
@[simp] theorem dIter_list (xs : List D) : dIter (.list xs) = .ok xs := rfl
@[simp] theorem dIter_tuple (xs : List D) : dIter (.tuple xs) = .ok xs := rfl
@[simp] theorem dIter_str (z : Str) : dIter (.str z) = .ok (signs z) := rfl
@[simp] theorem dIter_dict (kvs : List (D × D)) : dIter (.dict kvs) = .ok (keysD kvs) := rfl
@[simp] def nIter (f : EM) : LM := fun s => (f s).bind dIter
theorem kv_key {K : Fg} {F : Hp} {kvs : List (Key × V)} {ds : List (D × D)} (h : DnKv K F kvs ds) {i : Nat} {x : D} (e : (keysD ds)[i]? = some x) : ∃ k v, kvs[i]? = some (k, v) ∧ x = kD k := by
  unfold keysD at e
  induction ds generalizing kvs i with
  | nil => simp at e
  | cons p ds ih =>
    cases h with
    | @cons k v vs d _ h t =>
      cases i with
      | zero => simp at e; exact ⟨k, v, rfl, e.symm⟩
      | succ i => exact ih t (by simpa using e)
theorem itOk_keys {K : Fg} {F : Hp} {d : Addr} {o : Obj} {kvs : List (Key × V)} {ds : List (D × D)} (h : F d = some (.frz o (.dK kvs))) (hd : DnKv K F kvs ds) : ItOk K F (Itk d o kvs) (keysD ds) := fun F' H' k1 k2 => by
  have hs := k2.frz (k1.frz h)
  have hl : kvs.length = (keysD ds).length := by unfold keysD; rw [List.length_map]; exact hd.len
  refine ⟨fun i x hi => ?_, hs, by rw [hl]; exact Nat.le_refl _⟩
  have hlt : i < kvs.length := by rw [hl]; exact (List.getElem?_eq_some_iff.mp hi).1
  obtain ⟨k, v, e, rfl⟩ := kv_key hd hi
  refine ⟨⟨hs, hlt⟩, fun x H'' y => ?_⟩
  obtain ⟨rfl, k', v', e', rfl⟩ := y
  have e2 := e'.symm.trans e
  have e3 : (k', v') = (k, v) := Option.some.inj e2
  cases e3
  refine ⟨F', .refl k2, ?_⟩
  cases k with
  | inl i => exact .int i
  | inr x => exact .str x
theorem sm_sw {o p q : HO} (a : Sm o p) (b : Sw p q) : Sw o q := by
  rcases a with rfl | ⟨hd, r, rfl⟩
  · exact b
  · rcases b with rfl | ⟨w, hw, c1, c2⟩
    · exact .inr ⟨o, hd, .inl rfl, .inr ⟨r, rfl⟩⟩
    · have : w = o := by
        rcases c1 with c1 | ⟨z, c1⟩
        · subst c1; exact hw.elim
        · cases c1; rfl
      subst this
      exact .inr ⟨w, hw, .inl rfl, c2⟩
/-- the statement runs while the dict that f tells is locked, if it is no locked one already -/
theorem ss_keys {K : Fg} {Z : XZ} {te : TE} {f : EM} {g : TG} {tb : TS} {b : BM} {body : SM} (h1 : SP K te f) (h2 : SG K g b) (h3 : SS K Z tb body) {G : Hp × Hp} {F H : Hp} {σ : L2.St} {s : DSt} (S : StOk K G F H σ s) {kvs : List (D × D)} (hf : f s = .ok (.dict kvs)) (D : Ends)
    (q : PostS K Z G F D (dFor b body (keysD kvs) s)) : tFor (iKeys te) g tb D σ H ∨ tLock (tFor (iKeys te) g tb) D σ H := by
  obtain ⟨v, dv, kv⟩ := h1 G F H σ s S _ hf
  -- the loop over a locked dict
  have loop : ∀ (F H : Hp) (d : Addr) (o : Obj) (ks : List (Key × V)) (D : Ends), StOk K G F H σ s → v = .ref d → Kw F H → F d = some (.frz o (.dK ks)) → DnKv K F ks kvs → (∀ H', Kw F H' → ∀ Q : VK, Q v H' → te σ H' Q) → PostS K Z G F D (dFor b body (keysD kvs) s) → tFor (iKeys te) g tb D σ H := fun F H d o ks D S hv kw hF dn kte q => by
    refine kte H kw _ ⟨d, o, hv, .inl ⟨ks, S.kx.frz hF, ?_⟩⟩
    -- as in ss_for
    have hJ := itOk_keys hF dn
    refine ⟨fun i m σ' H' => m = (keysD kvs).length - i ∧ i ≤ (keysD kvs).length ∧ ∃ F' s', Kx F F' ∧ StOk K G F' H' σ' s' ∧ PostS K Z G F' D (dFor b body ((keysD kvs).drop i) s'), ⟨_, rfl, Nat.zero_le _, F, s, .refl _, S, q⟩, ?_⟩
    rintro i m σ' H' ⟨rfl, hi, F', s', k, S', q'⟩
    obtain ⟨ok, st⟩ := hJ F' H' k S'.kx
    by_cases hlt : i < (keysD kvs).length
    · have hx : (keysD kvs)[i]? = some (keysD kvs)[i] := List.getElem?_eq_getElem hlt
      rw [drop_get hx, dFor_cons] at q'
      obtain ⟨go, yl⟩ := ok i _ hx
      refine .inr ⟨go, fun σ2 H2 => ∃ F2 s2, Kx F F2 ∧ StOk K G F2 H2 σ2 s2 ∧ PostS K Z G F2 D (dFor b body ((keysD kvs).drop (i + 1)) s2), fun σ2 H2 ⟨F2, s2, k2, S2, q2⟩ => ⟨(keysD kvs).length - (i + 1), by omega, rfl, hlt, F2, s2, k2, S2, q2⟩, fun x H'' y => ?_⟩
      obtain ⟨F'', ex, dx⟩ := yl x H'' y
      cases hb : b (keysD kvs)[i] s' with
      | none => rw [hb] at q'; exact (show False from q').elim
      | some s1 =>
        rw [hb] at q'
        have q' : PostS K Z G F' D (lpO (body s1) fun s2 => dFor b body ((keysD kvs).drop (i + 1)) s2) := q'
        refine h2 G F'' H'' σ' s' x _ (S'.ext ex) dx _ ⟨s1, hb, fun σ2 S2 => ?_⟩
        refine h3 G F'' H'' σ2 s1 S2 _ ?_
        have q2 := PostS.mono q' ex.f
        cases ho : body s1 with
        | nx s2 => rw [ho] at q2; exact fun F3 H3 σ3 k3 S3 => ⟨F3, s2, k.trans (ex.f.trans k3), S3, PostS.mono q2 k3⟩
        | ct s2 => rw [ho] at q2; exact fun F3 H3 σ3 k3 S3 => ⟨F3, s2, k.trans (ex.f.trans k3), S3, PostS.mono q2 k3⟩
        | bk s2 => rw [ho] at q2; exact q2
        | rt d => rw [ho] at q2; exact q2
        | ex c d => rw [ho] at q2; exact q2
        | bad => rw [ho] at q2; exact q2
    · have e : i = (keysD kvs).length := by omega
      subst e
      rw [List.drop_length, dFor_nil] at q'
      exact .inl ⟨st, q' F' H' σ' (.refl _) S'⟩
  cases dv with
  | @dic d ks _ hr dn =>
    rcases hr with hF | ⟨o, hF⟩
    · -- not locked in F
      obtain ⟨o', hH, sm⟩ := S.kx d _ hF
      rcases sm with rfl | ⟨_, p, rfl⟩
      · refine .inr ⟨d, .dK ks, hH, trivial, fun od => ?_⟩
        have S2 : StOk K G (upd F d (.frz od (.dK ks))) (upd H d (.frz od (.dK ks))) σ s := S.lock trivial hF hH
        have kl : Kx F (upd F d (.frz od (.dK ks))) := fun a o ha => by
          by_cases q : a = d
          · subst q
            rw [hF] at ha; cases ha
            exact ⟨_, upd_same, .inr ⟨trivial, od, rfl⟩⟩
          · exact ⟨o, by rw [upd_ne q]; exact ha, .refl o⟩
        refine loop _ _ d od ks _ S2 rfl S2.kx.w upd_same (dn.mono kl) (fun H' kw Q qq => kv H' (fun a o ha => ?_) Q qq) ?_
        · obtain ⟨o1, h1, s1⟩ := kl a o ha
          obtain ⟨o2, h2, s2⟩ := kw a o1 h1
          exact ⟨o2, h2, sm_sw s1 s2⟩
        · have lk : ∀ F' H', Kx (upd F d (.frz od (.dK ks))) F' → Kx F' H' → F' d = some (.frz od (.dK ks)) ∧ H' d = some (.frz od (.dK ks)) := fun F' H' k k2 => ⟨k.frz upd_same, k2.frz (k.frz upd_same)⟩
          cases ho : dFor b body (keysD kvs) s with
          | nx s2 =>
            rw [ho] at q
            exact fun F' H' σ' k S' => ⟨(lk F' H' k S'.kx).2, q _ _ σ' (kx_unlock hF k) (StOk.unlock S.e trivial hF hH (lk F' H' k S'.kx).1 S')⟩
          | bk s2 =>
            rw [ho] at q
            exact fun F' H' σ' k S' => ⟨(lk F' H' k S'.kx).2, q _ _ σ' (kx_unlock hF k) (StOk.unlock S.e trivial hF hH (lk F' H' k S'.kx).1 S')⟩
          | ct s2 =>
            rw [ho] at q
            exact fun F' H' σ' k S' => ⟨(lk F' H' k S'.kx).2, q _ _ σ' (kx_unlock hF k) (StOk.unlock S.e trivial hF hH (lk F' H' k S'.kx).1 S')⟩
          | rt x =>
            rw [ho] at q
            exact fun F' H' v k e dv => ⟨(lk F' H' k e.i).2, q _ _ v (kx_unlock hF k) (S.e.unlock trivial hF hH e) (dv.monoW (kw_unlock (u := .dK ks) True.intro (lk F' H' k e.i).1))⟩
          | ex c x =>
            rw [ho] at q
            exact fun F' H' k e => q F' H' (kl.trans k) e
          | bad => rw [ho] at q; exact q
      · have kl : Kx F (upd F d (.frz p (.dK ks))) := fun a o ha => by
          by_cases q : a = d
          · subst q
            rw [hF] at ha; cases ha
            exact ⟨_, upd_same, .inr ⟨trivial, p, rfl⟩⟩
          · exact ⟨o, by rw [upd_ne q]; exact ha, .refl o⟩
        have S2 : StOk K G (upd F d (.frz p (.dK ks))) H σ s := by
          refine S.reF ⟨S.e.f.trans kl, S.e.h, fun a o ha => ?_, fun a h1 h2 => ?_, S.e.o⟩ kl.w fun a o h1 h2 => ⟨?_, h2⟩
          · by_cases q : a = d
            · subst q
              rw [upd_same] at ha; cases ha
              exact ⟨_, hH, .refl _⟩
            · rw [upd_ne q] at ha; exact S.e.i a o ha
          · by_cases q : a = d
            · subst q; exact S.e.n a h1 (by rw [hF]; simp)
            · rw [upd_ne q] at h2; exact S.e.n a h1 h2
          · have q : a ≠ d := fun q => by subst q; rw [hF] at h1; cases h1
            rw [upd_ne q]; exact h1
        refine .inl (loop _ H d p ks D S2 rfl S2.kx.w upd_same (dn.mono kl) (fun H' kw Q qq => kv H' (fun a o ha => ?_) Q qq) (q.mono kl))
        obtain ⟨o1, h1, s1⟩ := kl a o ha
        obtain ⟨o2, h2, s2⟩ := kw a o1 h1
        exact ⟨o2, h2, sm_sw s1 s2⟩
    · exact .inl (loop F H d o ks D S rfl S.kx.w hF dn kv q)
section
variable {X : Cx} {Z : XZ} {tg e : Expr} {body : List Stmt} {fe : EM} {b : BM} {fb : SM} {pos : Pos}
/-- for x in e, e read without a trace: a list, a tuple, a text, a dict -/
theorem ds_forP (hp : PassesOwn (model X.prog X.w) X.A X.env X.xe) (hc : X.calm = true) (hi : DP X e fe) (hg : DG X tg b) (hb : DSs X Z body fb) (hs : ∀ x, foldedSetIterable e X.env x = pure x := by intro _; rfl) : DS X Z (.For tg e body [] pos) (mFor (nIter fe) b fb) := by
  obtain ⟨te, p1, s1, n1⟩ := hi
  obtain ⟨g, p2, s2⟩ := hg
  obtain ⟨t, p3, s3⟩ := hb
  have pS := ps_for (pos := pos) hp hc (pi_seq p1 (tg := tg)) p2 p3 hs
  have pK := ps_for (pos := pos) hp hc (pi_keys p1 (tg := tg)) p2 p3 hs
  have sE : SE X.K Z te fe := fun G F H σ s S Q q => by
    cases h : fe s with
    | ok d =>
      rw [h] at q
      obtain ⟨v, dv, k⟩ := s1 G F H σ s S d h
      exact k H S.kx.w Q (q.ok S.kx v dv)
    | ex c d => exact (n1 s c d h).elim
    | bad => rw [h] at q; exact q.elim
  refine ⟨_, psOr pS (psOr pK (ps_lock pK)), fun G F H σ s S D q => ?_⟩
  have q' : PostS X.K Z G F D (oE ((fe s).bind dIter) fun xs => dFor b fb xs s) := q
  by_cases hd : ∃ kvs, fe s = .ok (.dict kvs)
  · obtain ⟨kvs, hf⟩ := hd
    rw [hf] at q'
    exact .inr (ss_keys s1 s2 s3 S hf D q')
  · refine .inl (ss_for (si_seq sE) s2 s3 G F H σ s S D ?_)
    show PostS X.K Z G F D (oE ((fe s).bind dSeq) fun xs => dFor b fb xs s)
    cases h : fe s with
    | ok d =>
      rw [h] at q'
      cases d with
      | dict kvs => exact (hd ⟨kvs, h⟩).elim
      | _ => exact q'
    | ex c d => exact (n1 s c d h).elim
    | bad => rw [h] at q'; exact q'
end
end DL

set_option Elab.async false
set_option linter.all false
set_option maxRecDepth 100000
set_option maxHeartbeats 4000000
namespace DL
open PySem PySem.Spec PyProof.Rows L2

abbrev FnP (K : Fg) (x qual : Str) (st : Stmt) (f : Addr) (fd : FuncData) : Prop := FunD K x qual (defArgs st) (defBody st) (defScope st) [] [] f fd
/-- a def keeps its mirror's promise -/
theorem fn_okD {P : Program} {w : World} {K : Fg} {mg : Str → Option Value} {base : Heap} {x qual : Str} {st : Stmt} {f : Addr} {fd : FuncData} {N ps : List Str} {k : Nat} {m : SM} (F : FnP K x qual st f fd) (S : FnScope N ps (defScope st))
    (hb : ∀ (cdv : Value) (A : Around) (outer : List Env) (s : Shared) (H : Hp) (E : XK), Room k (A.deeper (envOfC qual (defScope st) s.heap.objs.size f cdv)) → DSs (cxF P w K mg base N qual st f cdv A outer s H E) Z0 (defBody st) m) :
    FnOk P w K mg base CX0 (k + 1) f fd ps (spM K (fun _ => Z0) ps.length (fnM N.length m)) := by
  refine F.ok S (fun vs H Q E h => h.1) (fun cdv A outer s H vs Q E hr h => ?_)
  obtain ⟨hl, F0, ds, e0, dv, q⟩ := h
  obtain ⟨ts, p1, s1⟩ := hb cdv A outer s H E hr
  refine ⟨ts, p1.nox, ?_⟩
  refine s1 (F0, H) F0 H _ _ (StOk.start e0 dv) _ ?_
  unfold fnM at q
  cases ho : m (startS N.length ds) with
  | rt d => rw [ho] at q; exact fun F' H' v _ e' dv' => q F' H' e' v dv'
  | nx s' => rw [ho] at q; exact fun F' H' σ' _ S' => q F' H' S'.e _ .non
  | ex c d => rw [ho] at q; exact fun F' H' _ e' => q F' H' e'
  | bk s' => rw [ho] at q; exact q.elim
  | ct s' => rw [ho] at q; exact q.elim
  | bad => rw [ho] at q; exact q.elim
/-- the law's own promise, from its mirror -/
theorem law_sp {K : Fg} {m : List D → R D} {H : Hp} {a : Addr} {ns : List Int} {E : XK} (h : m [.list (ns.map PyData.int)] = .ok (.bool true)) (hS : SqL K H a (ns.map V.int)) : spM K (fun _ => Z0) 1 m [.ref a] H (fun v _ => v = .bl true) E := by
  refine ⟨rfl, H, [.list (ns.map PyData.int)], .refl H, .cons (.lst hS (DnAll.ints ns)) .nil, ?_⟩
  rw [h]
  intro F' H' _ v dv
  cases dv
  rfl
end DL

set_option Elab.async false
set_option linter.all false
set_option maxRecDepth 100000
set_option maxHeartbeats 4000000
namespace DL
open PySem PySem.Spec PyProof.Rows L2

/-! ### what one owns, read where it stands -/
/-- the list or dict of a slot, owned or for ever -/
def slD (x : Option Sl) : Option D := match x with
  | some (.d x) => some x
  | some (.ol xs) => some (.list xs)
  | some (.od kvs) => some (.dict kvs)
  | _ => none
@[simp] theorem slD_d (x : D) : slD (some (.d x)) = some x := rfl
@[simp] theorem slD_ol (xs : List D) : slD (some (.ol xs)) = some (.list xs) := rfl
@[simp] theorem slD_od (xs : List (D × D)) : slD (some (.od xs)) = some (.dict xs) := rfl
@[simp] def eOwn (i : Nat) : EM := fun s => oR (slD s[i]?)
/-- read as data where the heap is as it is: what is read of it (items, values) stands in F -/
def DnO (K : Fg) (F H : Hp) (v : V) (d : D) : Prop := Dn K F v d ∨ (∃ a vs xs, v = .ref a ∧ d = .list xs ∧ H a = some (.lst vs) ∧ DnAll K F vs xs) ∨ ∃ a ks kvs, v = .ref a ∧ d = .dict kvs ∧ H a = some (.dK ks) ∧ DnKv K F ks kvs
theorem own_read {K : Fg} {G : Hp × Hp} {F H : Hp} {σ : L2.St} {s : DSt} (S : StOk K G F H σ s) {i : Nat} {d : D} (h : slD s[i]? = some d) : ∃ v, σ[i]? = some (some v) ∧ DnO K F H v d := by
  cases hx : s[i]? with
  | none => rw [hx] at h; cases h
  | some x =>
    rw [hx] at h
    cases x with
    | no => cases h
    | d x => cases h; obtain ⟨v, e1, d1⟩ := S.sl i _ hx; exact ⟨v, e1, .inl d1⟩
    | ol xs => cases h; obtain ⟨a, vs, e1, f1, g1, h1, d1⟩ := S.sl i _ hx; exact ⟨_, e1, .inr (.inl ⟨a, vs, xs, rfl, rfl, h1, d1⟩)⟩
    | od kvs => cases h; obtain ⟨a, e1, f1, g1, ks, h1, d1⟩ := S.sl i _ hx; exact ⟨_, e1, .inr (.inr ⟨a, ks, kvs, rfl, rfl, h1, d1⟩)⟩
section
variable {X : Cx} {Z : XZ} {a b e : Expr} {f f1 f2 : EM} {pos p p1 p2 : Pos}
@[simp] def eIxO (i : Nat) (f : EM) : EM := fun s => (oR (slD s[i]?)).bind fun a => (f s).bind fun b => dIdx a b
theorem oR_bind {α β : Type} {Z : XZ} {F H : Hp} {o : Option α} {k : α → R β} {P : β → Hp → Hp → Prop} (q : PostR Z F H ((oR o).bind k) P) : ∃ a, o = some a ∧ PostR Z F H (k a) P := by
  cases o with
  | none => exact q.elim
  | some a => exact ⟨a, rfl, q⟩
theorem DnO.ext {K : Fg} {F H F' H' : Hp} {v : V} {d : D} (h : DnO K F H v d) (e : Ext F H F' H') (ow : ∀ a, v = .ref a → (∃ xs, d = .list xs) ∨ (∃ kvs, d = .dict kvs) → Dn K F v d ∨ F a = none) : DnO K F' H' v d := by
  rcases h with h | ⟨a, vs, xs, rfl, rfl, h1, d1⟩ | ⟨a, ks, kvs, rfl, rfl, h1, d1⟩
  · exact .inl (h.mono e.f)
  · rcases ow a rfl (.inl ⟨_, rfl⟩) with z | z
    · exact .inl (z.mono e.f)
    · exact .inr (.inl ⟨a, vs, xs, rfl, rfl, e.o a _ z h1, d1.mono e.f⟩)
  · rcases ow a rfl (.inr ⟨_, rfl⟩) with z | z
    · exact .inl (z.mono e.f)
    · exact .inr (.inr ⟨a, ks, kvs, rfl, rfl, e.o a _ z h1, d1.mono e.f⟩)
theorem own_read2 {K : Fg} {G : Hp × Hp} {F H : Hp} {σ : L2.St} {s : DSt} (S : StOk K G F H σ s) {i : Nat} {d : D} (h : slD s[i]? = some d) : ∃ v, σ[i]? = some (some v) ∧ DnO K F H v d ∧ ∀ F' H', Ext F H F' H' → DnO K F' H' v d := by
  cases hx : s[i]? with
  | none => rw [hx] at h; cases h
  | some x =>
    rw [hx] at h
    cases x with
    | no => cases h
    | d x => cases h; obtain ⟨v, e1, d1⟩ := S.sl i _ hx; exact ⟨v, e1, .inl d1, fun F' H' e => .inl (d1.mono e.f)⟩
    | ol xs => cases h; obtain ⟨a, vs, e1, f1, g1, h1, d1⟩ := S.sl i _ hx; exact ⟨_, e1, .inr (.inl ⟨a, vs, xs, rfl, rfl, h1, d1⟩), fun F' H' e => .inr (.inl ⟨a, vs, xs, rfl, rfl, e.o a _ f1 h1, d1.mono e.f⟩)⟩
    | od kvs => cases h; obtain ⟨a, e1, f1, g1, ks, h1, d1⟩ := S.sl i _ hx; exact ⟨_, e1, .inr (.inr ⟨a, ks, kvs, rfl, rfl, h1, d1⟩), fun F' H' e => .inr (.inr ⟨a, ks, kvs, rfl, rfl, e.o a _ f1 h1, d1.mono e.f⟩)⟩
theorem de_ixO (hu : X.A.units + 1 < cLine) (i : Nat) {x : Str} {f : EM} (hb : DE X Z b f) (hN : X.N[i]? = some x := by rfl) (hv : Vis X.env.scope x := by first | exact Or.inl rfl | exact Or.inr (Or.inl rfl) | exact Or.inr (Or.inr rfl)) (hd : (x == ("__debug__" : Str)) = false := by decide)
    (hcd : (x == ("__classdict__" : Str)) = false := by decide) (hs : PlainIx b := by exact fun _ _ => rfl) (hn : NoSl b := by exact fun _ _ => rfl) : DE X Z (.Subscript (.Name x p) b pos) (eIxO i f) := by
  obtain ⟨t2, p2, s2⟩ := hb
  have p1 : PE X (.Name x p) (tVar i) := pe_var hN hv hd hcd
  refine ⟨_, peOr (pe_ix ix_seq p1 p2 hs (pos := pos)) (pe_dget hu p1 p2 hn (pos := pos)), fun G F H σ s S Q q => ?_⟩
  obtain ⟨d, ed, q1⟩ := oR_bind (show PostR Z F H ((oR (slD s[i]?)).bind fun a => (f s).bind fun b => dIdx a b) (PD X.K Q) from q)
  obtain ⟨v, e1, _, later⟩ := own_read2 S ed
  have seq : (∀ kvs, d ≠ .dict kvs) → tOp (rIx X.K) (tVar i) t2 σ H Q := fun hd => by
    refine ⟨v, e1, s2 G F H σ s S _ (PostR.bind q1 fun b F2 H2 _ e2 q2 v2 d2 => ?_)⟩
    rcases later F2 H2 e2 with z | ⟨a, vs, xs, rfl, rfl, h1, d1⟩ | ⟨a, ks, kvs, rfl, rfl, h1, d1⟩
    · exact sr_ixS hd e2.i z d2 q2
    · cases d2 with
      | int j =>
        have q' : PostR Z F2 H2 (oR (atI xs j)) (PD X.K Q) := q2
        cases z : atI xs j with
        | none => rw [z] at q'; exact q'.elim
        | some d' =>
          rw [z] at q'
          obtain ⟨v', e3, dv⟩ := atI_dn d1 z
          exact .inl ⟨_, _, j, v', rfl, rfl, .of h1, e3, q'.ok e2.i _ dv⟩
      | _ => exact (show False from q2).elim
    · exact (hd _ rfl).elim
  rcases isDict_or d with ⟨kvs, rfl⟩ | hd
  · refine .inr ⟨v, e1, s2 G F H σ s S _ (PostR.bind q1 fun b F2 H2 _ e2 q2 v2 d2 => ?_)⟩
    rcases later F2 H2 e2 with z | ⟨a, vs, xs, rfl, h, h1, d1⟩ | ⟨a, ks, kvs', rfl, h, h1, d1⟩
    · exact sr_ixD e2.i z d2 q2
    · cases h
    · cases h
      have q' : PostR Z F2 H2 (if isKey b then oR (dLook kvs b) else .bad) (PD X.K Q) := q2
      split at q'
      · rename_i hk
        obtain ⟨k, rfl, rfl⟩ := key_inv d2 hk
        cases w : dLook kvs (kD k) with
        | none => rw [w] at q'; exact q'.elim
        | some d =>
          rw [w] at q'
          obtain ⟨v', e3, dv⟩ := (look_ok d1 k).1 d w
          exact ⟨_, v', rfl, .inl ⟨_, k, .inl h1, rfl, e3.symm⟩, q'.ok e2.i _ dv⟩
      · exact q'.elim
  · exact .inl (seq hd)
@[simp] def eLenO (i : Nat) : EM := fun s => (oR (slD s[i]?)).bind fun a => dLen [a]
theorem de_lenO (hm : X.mg "len" = none) (i : Nat) {x : Str} (hN : X.N[i]? = some x := by rfl) (hv : Vis X.env.scope x := by first | exact Or.inl rfl | exact Or.inr (Or.inl rfl) | exact Or.inr (Or.inr rfl)) (hd : (x == ("__debug__" : Str)) = false := by decide)
    (hcd : (x == ("__classdict__" : Str)) = false := by decide) (hg : Gl X "len" := by rfl)
    (he : starEach (.Name x p1 :: []) X.env = (false, eval (.Name x p1) X.env) :: starEach [] X.env := by rfl) (hpl : (backTo pos (starEach [] X.env)).any (·.1) = false := by rfl) : DE X Z (.Call (.Name "len" p) [.Name x p1] [] pos) (eLenO i) := by
  have pv : PE X (.Name x p1) (tVar i) := pe_var hN hv hd hcd
  refine ⟨_, pe_callB (call_len.or call_lenK) hg hm PySem.boot_len (pa_cons pv pa_nil he) (by decide) (by decide) he hpl, fun G F H σ s S Q q => ?_⟩
  obtain ⟨d, ed, q1⟩ := oR_bind (show PostR Z F H ((oR (slD s[i]?)).bind fun a => dLen [a]) (PD X.K Q) from q)
  obtain ⟨v, e1, dO, _⟩ := own_read2 S ed
  refine ⟨v, e1, ?_⟩
  rcases dO with z | ⟨a, vs, xs, rfl, rfl, h1, d1⟩ | ⟨a, ks, kvs, rfl, rfl, h1, d1⟩
  · match d, z, q1 with
    | .list xs, .lst h1 a1, q => exact .inl ⟨_, _, rfl, .inl ⟨_, S.kx.sql h1, a1.len.symm⟩, q.ok S.kx _ (.int _)⟩
    | .tuple xs, .tup h1 a1, q => exact .inl ⟨_, _, rfl, .inr ⟨_, .of (S.kx.tup h1), a1.len.symm⟩, q.ok S.kx _ (.int _)⟩
    | .str x, .str _, q =>
      have q4 : PostR Z F H (if x.length ≤ sizeLine then .ok (.int x.length) else .bad) (PD X.K Q) := q
      by_cases hc : x.length ≤ sizeLine
      · rw [if_pos hc] at q4
        exact .inl ⟨_, _, rfl, ⟨hc, rfl⟩, q4.ok S.kx _ (.int _)⟩
      · rw [if_neg hc] at q4; exact q4.elim
    | .dict kvs, .dic h1 a1, q => exact .inr ⟨_, _, rfl, S.kx.rd trivial h1, by rw [a1.len]; exact q.ok S.kx _ (.int _)⟩
  · exact .inl ⟨_, _, rfl, .inl ⟨_, .of h1, d1.len.symm⟩, q1.ok S.kx _ (.int _)⟩
  · exact .inr ⟨_, _, rfl, .inl h1, by rw [d1.len]; exact q1.ok S.kx _ (.int _)⟩
/-- e in x, x of one's own -/
@[simp] def eInO (i : Nat) (f : EM) : EM := fun s => (f s).bind fun b => (oR (slD s[i]?)).bind fun a => dIn b a
@[simp] def eNotInO (i : Nat) (f : EM) : EM := fun s => (f s).bind fun b => (oR (slD s[i]?)).bind fun a => dNotIn b a
theorem se_inO {t1 : TE} {op : D → D → R D} {neg : Bool} (ho : ∀ x y, op x y = (dInB x y).bind fun b => .ok (.bool (neg.xor b))) (i : Nat) (tD : TE) (hD : ∀ σ H Q, (t1 σ H fun y H1 => tVar i σ H1 fun x H2 => ∃ a o, x = .ref a ∧ DGet H2 a y o ∧ Q (.bl (neg.xor o.isSome)) H2) → tD σ H Q)
    (s1 : SE X.K Z t1 f1) : SE X.K Z (fun σ H Q => tOp (rInA X.K neg) t1 (tVar i) σ H Q ∨ tD σ H Q) (fun s => (f1 s).bind fun b => (oR (slD s[i]?)).bind fun a => op b a) := fun G F H σ s S Q q => by
  have q' : PostR Z F H ((f1 s).bind fun b => (oR (slD s[i]?)).bind fun a => op b a) (PD X.K Q) := q
  by_cases hd : ∃ kvs, slD s[i]? = some (.dict kvs)
  · obtain ⟨kvs, ek⟩ := hd
    obtain ⟨v, ev, _, later⟩ := own_read2 S ek
    refine .inr (hD σ H Q (s1 G F H σ s S _ (PostR.bind q' fun a F1 H1 er e1 q1 v1 d1 => ⟨v, ev, ?_⟩)))
    obtain ⟨d, ed, q2⟩ := oR_bind q1
    rw [ek] at ed; cases ed
    rw [ho] at q2
    cases hk : isKey a with
    | false =>
      rw [show dInB a (.dict kvs) = (if isKey a then .ok (dLook kvs a).isSome else .bad) from rfl, hk] at q2
      exact (show False from q2).elim
    | true =>
      rw [show dInB a (.dict kvs) = (if isKey a then .ok (dLook kvs a).isSome else .bad) from rfl, hk] at q2
      obtain ⟨k, rfl, rfl⟩ := key_inv d1 hk
      simp only [if_true, R.bind_ok] at q2
      rcases later F1 H1 e1 with z | ⟨a, vs, xs, rfl, h, h1, d2⟩ | ⟨a, ks, kvs', rfl, h, h1, d2⟩
      · cases z with
        | dic h1 a1 =>
          refine ⟨_, _, rfl, .inl ⟨_, k, e1.i.rd trivial h1, rfl, rfl⟩, ?_⟩
          rw [look_some a1]
          exact q2.ok e1.i _ (.bl _)
      · cases h
      · cases h
        refine ⟨_, _, rfl, .inl ⟨_, k, .inl h1, rfl, rfl⟩, ?_⟩
        rw [look_some d2]
        exact q2.ok e1.i _ (.bl _)
  · refine .inl (s1 G F H σ s S _ (PostR.bind q' fun a F1 H1 er e1 q1 v1 d1 => ?_))
    obtain ⟨d, ed, q2⟩ := oR_bind q1
    obtain ⟨v, ev, _, later⟩ := own_read2 S ed
    refine ⟨v, ev, ?_⟩
    rw [ho] at q2
    cases hk : dInB a d with
    | ok k =>
      rw [hk] at q2
      rcases later F1 H1 e1 with z | ⟨l, vs, xs, rfl, rfl, h1, d2⟩ | ⟨l, ks, kvs', rfl, rfl, h1, d2⟩
      · exact sr_inS (fun kvs h => hd ⟨kvs, by rw [ed, h]⟩) e1.i d1 z hk (q2.ok e1.i _ (.bl _))
      · -- a list of one's own: read as if it stood in F
        have kf : Kx (upd F1 l (.lst vs)) H1 := fun b o hb => by
          by_cases hbl : b = l
          · subst hbl; rw [upd_same] at hb; cases hb; exact ⟨_, h1, .refl _⟩
          · rw [upd_ne hbl] at hb; exact e1.i b o hb
        have kw : Kw F1 (upd F1 l (.lst vs)) := fun b o hb => by
          by_cases hbl : b = l
          · subst hbl
            obtain ⟨o', h2, sm⟩ := e1.i b o hb
            rw [h1] at h2; cases h2
            rcases sm with rfl | ⟨_, p, hp⟩
            · exact ⟨_, upd_same, .inl rfl⟩
            · cases hp
          · exact ⟨o, by rw [upd_ne hbl]; exact hb, .inl rfl⟩
        exact sr_inS (fun kvs h => by cases h) kf (d1.monoW kw) (.lst (.of upd_same) (d2.monoW kw)) hk (q2.ok e1.i _ (.bl _))
      · exact (hd ⟨_, ed⟩).elim
    | ex c d => exact (dInB_noex hk).elim
    | bad => rw [hk] at q2; exact q2.elim
theorem dc_inO (hu : X.A.units + 65 < cLine) (i : Nat) {x : Str} (ha : DE X Z a f1) (hN : X.N[i]? = some x := by rfl) (hv : Vis X.env.scope x := by first | exact Or.inl rfl | exact Or.inr (Or.inl rfl) | exact Or.inr (Or.inr rfl)) (hd : (x == ("__debug__" : Str)) = false := by decide)
    (hcd : (x == ("__classdict__" : Str)) = false := by decide) (hm : behindInMarks .In (.Name x p) = false := by rfl) : DE X Z (.Compare a [.In] [.Name x p] pos) (eInO i f1) ∧ DT X Z (.Compare a [.In] [.Name x p] pos) (tE (eInO i f1)) := by
  obtain ⟨t1, p1, s1⟩ := ha
  have p2 : PE X (.Name x p) (tVar i) := pe_var hN hv hd hcd
  have hd := pc_din (Nat.lt_of_le_of_lt (by omega) hu) p1 p2
  have h := se_inO (X := X) (Z := Z) (neg := false) (op := dIn) (fun x y => by simp [dIn]) i (tDIn t1 (tVar i)) (fun σ H Q h => by unfold tDIn; simpa using h) s1
  exact ⟨⟨_, peOr (pe_cmpR (op_inA hu) p1 p2 hm (pos := pos)) (pe_cmp hd hm), h⟩, ⟨_, ptOr (pt_cmpR (op_inA hu) p1 p2 hm (pos := pos)) (pt_cmp hd hm), fun G F H σ s S Q q => by
    rcases st_of_se h G F H σ s S Q q with z | z
    · exact .inl z
    · exact .inr z⟩⟩
theorem dc_notInO (hu : X.A.units + 65 < cLine) (i : Nat) {x : Str} (ha : DE X Z a f1) (hN : X.N[i]? = some x := by rfl) (hv : Vis X.env.scope x := by first | exact Or.inl rfl | exact Or.inr (Or.inl rfl) | exact Or.inr (Or.inr rfl)) (hd : (x == ("__debug__" : Str)) = false := by decide)
    (hcd : (x == ("__classdict__" : Str)) = false := by decide) (hm : behindInMarks .NotIn (.Name x p) = false := by rfl) : DE X Z (.Compare a [.NotIn] [.Name x p] pos) (eNotInO i f1) ∧ DT X Z (.Compare a [.NotIn] [.Name x p] pos) (tE (eNotInO i f1)) := by
  obtain ⟨t1, p1, s1⟩ := ha
  have p2 : PE X (.Name x p) (tVar i) := pe_var hN hv hd hcd
  have hd := pc_dnotin (Nat.lt_of_le_of_lt (by omega) hu) p1 p2
  have h := se_inO (X := X) (Z := Z) (neg := true) (op := dNotIn) (fun x y => by simp [dNotIn]) i (tDNotIn t1 (tVar i)) (fun σ H Q h => by unfold tDNotIn; simpa using h) s1
  exact ⟨⟨_, peOr (pe_cmpR (op_notInA hu) p1 p2 hm (pos := pos)) (pe_cmp hd hm), h⟩, ⟨_, ptOr (pt_cmpR (op_notInA hu) p1 p2 hm (pos := pos)) (pt_cmp hd hm), fun G F H σ s S Q q => by
    rcases st_of_se h G F H σ s S Q q with z | z
    · exact .inl z
    · exact .inr z⟩⟩
end

end DL

set_option Elab.async false
set_option linter.all false
set_option maxRecDepth 100000
set_option maxHeartbeats 4000000
namespace DL
open PySem PySem.Spec PyProof.Rows L2

/-! ### stores -/
/-- x[e2] = e1, a list of one's own -/
def setN (i : Nat) (s : DSt) (xs : List D) (d j : D) : Out := match j with
  | .int j => match ixN xs.length j with
    | some k => .nx (s.set i (.ol (xs.set k d)))
    | none => .bad
  | _ => .bad
@[simp] theorem setN_int (i : Nat) (s : DSt) (xs : List D) (d : D) (j : Int) : setN i s xs d (.int j) = match ixN xs.length j with
    | some k => .nx (s.set i (.ol (xs.set k d)))
    | none => .bad := rfl
@[simp] def mSetIx (i : Nat) (fv fi : EM) : SM := fun s => oE (fv s) fun d => match s[i]? with
  | some (.ol xs) => oE (fi s) fun j => setN i s xs d j
  | _ => .bad
def dPut (kvs : List (D × D)) (k v : D) : List (D × D) :=
  if (kvs.any fun p => kEq p.1 k) = true then kvs.map (fun p => if kEq p.1 k = true then (p.1, v) else p) else kvs ++ [(k, v)]
@[simp] theorem dPut_nil (k v : D) : dPut [] k v = [(k, v)] := rfl
theorem dLook_any (k : D) : ∀ kvs : List (D × D), (kvs.any fun p => kEq p.1 k) = (dLook kvs k).isSome
  | [] => rfl
  | (a, b) :: r => by
    rw [List.any_cons, dLook_cons, dLook_any k r]
    by_cases h : kEq a k = true
    · rw [h]; simp
    · simp only [Bool.not_eq_true] at h; rw [h]; simp
theorem dPut_new {kvs : List (D × D)} {k : D} (v : D) (h : dLook kvs k = none) : dPut kvs k v = kvs ++ [(k, v)] := by
  unfold dPut; rw [dLook_any, h]; simp
/-- x[e2] = e1, a dict of one's own -/
@[simp] def mPut (i : Nat) (fv fk : EM) : SM := fun s => oE (fv s) fun d => match s[i]? with
  | some (.od kvs) => oE (fk s) fun k => if isKey k = true ∧ kvs.length < sizeLine then .nx (s.set i (.od (dPut kvs k d))) else .bad
  | _ => .bad
theorem DnKv.any {K : Fg} {F : Hp} (k : Key) : ∀ {ks : List (Key × V)} {kvs : List (D × D)}, DnKv K F ks kvs → (ks.any fun p => decide (p.1 = k)) = (kvs.any fun p => kEq p.1 (kD k))
  | _, _, .nil => rfl
  | _, _, .cons d t => by simp only [List.any_cons, kEq_kD, t.any k]
theorem DnKv.repl {K : Fg} {F : Hp} (k : Key) {v : V} {d : D} (hd : Dn K F v d) : ∀ {ks : List (Key × V)} {kvs : List (D × D)}, DnKv K F ks kvs → DnKv K F (ks.map fun p => if p.1 = k then (p.1, v) else p) (kvs.map fun p => if kEq p.1 (kD k) = true then (p.1, d) else p)
  | _, _, .nil => .nil
  | _, _, @DnKv.cons _ _ k' v' vs d' ds d1 t => by
    have e : kEq (kD k') (kD k) = decide (k' = k) := kEq_kD _ _
    rw [List.map_cons, List.map_cons]
    by_cases h : k' = k
    · subst h
      have e2 : kEq (kD k') (kD k') = true := by rw [e]; simp
      simp only [e2, if_true]
      exact .cons hd (t.repl _ hd)
    · have e2 : kEq (kD k') (kD k) = false := by rw [e]; simp [h]
      simp only [e2, if_neg h, Bool.false_eq_true, if_false]
      exact .cons d1 (t.repl k hd)
theorem DnKv.app1 {K : Fg} {F : Hp} {k : Key} {v : V} {d : D} (hd : Dn K F v d) : ∀ {ks : List (Key × V)} {kvs : List (D × D)}, DnKv K F ks kvs → DnKv K F (ks ++ [(k, v)]) (kvs ++ [(kD k, d)])
  | _, _, .nil => .cons hd .nil
  | _, _, .cons d1 t => .cons d1 (t.app1 hd)
theorem DnKv.put {K : Fg} {F : Hp} {ks : List (Key × V)} {kvs : List (D × D)} (h : DnKv K F ks kvs) (k : Key) {v : V} {d : D} (hd : Dn K F v d) : DnKv K F (putK ks k v) (dPut kvs (kD k) d) := by
  unfold putK dPut
  rw [h.any k]
  split
  · exact h.repl k hd
  · exact h.app1 hd
section
variable {X : Cx} {Z : XZ} {a b e ev ei : Expr} {f f1 f2 fv fi : EM} {pos p p1 p2 : Pos}
theorem ds_setIx (i : Nat) {x : Str} {p0 : Pos} (hv : DE X Z ev fv) (hi : DE X Z ei fi) (hN : X.N[i]? = some x := by rfl) (hvis : Vis X.env.scope x := by first | exact Or.inl rfl | exact Or.inr (Or.inl rfl) | exact Or.inr (Or.inr rfl)) (hd : (x == ("__debug__" : Str)) = false := by decide)
    (hcd : (x == ("__classdict__" : Str)) = false := by decide)
    (ha : ∀ v, assign (.Subscript (.Name x p) ei p0) X.env v = (do
      let ov ← holding [v] (eval (.Name x p) X.env)
      let iv ← holding [v, ov] (eval ei X.env)
      standAt p0
      holding [v, ov, iv] (setItem ov iv v)
      release [v, ov, iv] []) := by intro _; rfl)
    (hs : swapsWithSole [.Subscript (.Name x p) ei p0] ev pos.line X.env = pure false := by rfl) (hw : swappedStores [.Subscript (.Name x p) ei p0] ev X.env = pure none := by rfl)
    (h1 : (assignEach [.Subscript (.Name x p) ei p0] X.env).map (·.2) = [assign (.Subscript (.Name x p) ei p0) X.env] := by rfl) :
    DS X Z (.Assign [.Subscript (.Name x p) ei p0] ev pos) (mSetIx i fv fi) := by
  obtain ⟨tv, pv, sv⟩ := hv
  obtain ⟨ti, pi, si⟩ := hi
  refine ⟨_, ps_asg pv (pg_sub (pe_var hN hvis hd hcd) pi set_list ha) hs hw h1, fun G F H σ s S D q => ?_⟩
  refine sv G F H σ s S _ (PostS.bind S q fun d F1 H1 _ e1 q1 v1 d1 => ?_)
  have S1 := S.ext e1
  cases hx : s[i]? with
  | none => simp only [hx] at q1; exact q1.elim
  | some y =>
    cases y with
    | ol xs =>
      simp only [hx] at q1
      obtain ⟨a, vs, e2, f2, g2, h2, d2⟩ := S1.sl i _ hx
      refine ⟨.ref a, e2, ?_⟩
      refine si G F1 H1 σ s S1 _ (PostS.bind S1 q1 fun j F2 H2 _ e3 q3 vj dj => ?_)
      unfold setN at q3
      cases dj with
      | int j =>
        cases hk : ixN xs.length j with
        | none => simp only [hk] at q3; exact q3.elim
        | some k =>
          simp only [hk] at q3
          have h3 := e3.o a _ f2 h2
          have d3 := d2.mono e3.f
          refine ⟨a, vs, j, k, rfl, rfl, h3, by rw [d3.len]; exact hk, ?_⟩
          exact q3 F2 _ σ (.refl _) ((S1.ext e3).mutN hx rfl e2 (e3.fr f2 h2) g2 ⟨a, _, rfl, e3.fr f2 h2, g2, upd_same, d3.set (d1.mono e3.f) k⟩)
      | _ => exact q3.elim
    | _ => simp only [hx] at q1; exact q1.elim
theorem ds_put (hu : X.A.units + 1 < cLine) (i : Nat) {x : Str} {p0 : Pos} (hv : DE X Z ev fv) (hi : DE X Z ei fi) (hN : X.N[i]? = some x := by rfl) (hvis : Vis X.env.scope x := by first | exact Or.inl rfl | exact Or.inr (Or.inl rfl) | exact Or.inr (Or.inr rfl)) (hd : (x == ("__debug__" : Str)) = false := by decide)
    (hcd : (x == ("__classdict__" : Str)) = false := by decide)
    (hs : swapsWith ev (some (.Subscript (.Name x p) ei p0)) pos.line X.env = pure false := by rfl) :
    DS X Z (.Assign [.Subscript (.Name x p) ei p0] ev pos) (mPut i fv fi) := by
  obtain ⟨tv, pv, sv⟩ := hv
  obtain ⟨ti, pi, si⟩ := hi
  refine ⟨_, ps_dput hu (pe_var hN hvis hd hcd) pi pv hs, fun G F H σ s S D q => ?_⟩
  refine sv G F H σ s S _ (PostS.bind S q fun d F1 H1 _ e1 q1 v1 d1 => ?_)
  have S1 := S.ext e1
  cases hx : s[i]? with
  | none => simp only [hx] at q1; exact q1.elim
  | some y =>
    cases y with
    | od kvs =>
      simp only [hx] at q1
      obtain ⟨a, e2, f2, g2, ks, h2, d2⟩ := S1.sl i _ hx
      refine ⟨.ref a, e2, ?_⟩
      refine si G F1 H1 σ s S1 _ (PostS.bind S1 q1 fun j F2 H2 _ e3 q3 vj dj => ?_)
      split at q3
      · rename_i hc
        obtain ⟨k, rfl, rfl⟩ := key_inv dj hc.1
        have h3 := e3.o a _ f2 h2
        have d3 := d2.mono e3.f
        refine ⟨a, _, rfl, .k h3 (by rw [d3.len]; exact hc.2), ?_⟩
        exact q3 F2 _ σ (.refl _) ((S1.ext e3).mutN hx rfl e2 (e3.fr f2 h2) g2 ⟨a, rfl, e3.fr f2 h2, g2, _, upd_same, d3.put k (d1.mono e3.f)⟩)
      · exact q3.elim
    | _ => simp only [hx] at q1; exact q1.elim
end

/-! ### displays of dicts -/
abbrev KM := DSt → R (List (D × D))
def SPs (K : Fg) (Z : XZ) (trs : List (TE × TE)) (m : KM) : Prop := ∀ G F H σ s, StOk K G F H σ s → ∀ Q : List (V × V) → Hp → Prop, PostR Z F H (m s) (fun kvs F' H' => ∀ ks, DnKv K F' ks kvs → Q (ks.map fun kv => (kV kv.1, kv.2)) H') → tPairs trs σ H Q
structure DK (X : Cx) (Z : XZ) (pos : Pos) (keys : List (Option Expr)) (values : List Expr) (m : KM) : Prop where
  ex : ∃ trs, PPs X pos keys values trs ∧ SPs X.K Z trs m
  all : keys.all (·.isSome) = true
  ln : keys.length = values.length
  out : ∀ s kvs, m s = .ok kvs → kvs.length = keys.length
@[simp] def kNil : KM := fun _ => .ok []
def kOne (k v : D) (r : List (D × D)) : R (List (D × D)) := if isKey k = true then .ok ((k, v) :: r) else .bad
@[simp] theorem kOne_str (x : Str) (v : D) (r : List (D × D)) : kOne (.str x) v r = .ok ((.str x, v) :: r) := rfl
@[simp] theorem kOne_int (x : Int) (v : D) (r : List (D × D)) : kOne (.int x) v r = .ok ((.int x, v) :: r) := rfl
@[simp] def kCons (fk fv : EM) (g : KM) : KM := fun s => (fk s).bind fun k => (fv s).bind fun v => (g s).bind fun r => kOne k v r
def mergeD (kvs more : List (D × D)) : List (D × D) := more.foldl (fun acc kv => dPut acc kv.1 kv.2) kvs
@[simp] theorem mergeD_nil (kvs : List (D × D)) : mergeD kvs [] = kvs := rfl
@[simp] theorem mergeD_cons (kvs r : List (D × D)) (p : D × D) : mergeD kvs (p :: r) = mergeD (dPut kvs p.1 p.2) r := rfl
@[simp] def eDict (m : KM) : EM := fun s => (m s).bind fun kvs => .ok (.dict (mergeD [] kvs))
theorem DnKv.mergeD {K : Fg} {F : Hp} : ∀ {more : List (Key × V)} {md : List (D × D)} {ks : List (Key × V)} {kvs : List (D × D)}, DnKv K F more md → DnKv K F ks kvs → DnKv K F (mergeK ks more) (DL.mergeD kvs md)
  | _, _, _, _, .nil, h => h
  | _, _, _, _, .cons d t, h => t.mergeD (h.put _ d)
theorem Ext.pad {F H : Hp} (e : Kx F H) {p : Addr} {o : HO} (hp : H p = none) : Ext F H F (upd H p o) :=
  ⟨.refl _, .new hp, e.mut (e.back hp), fun _ h h' => absurd h h', fun a u _ h2 => by rw [upd_ne (ne_of_none h2 hp)]; exact h2⟩
/-- an object grows beside the evaluation, and stands for ever at its end -/
theorem PostR.pad {α : Type} {Z : XZ} {F H : Hp} {r : R α} {P : α → Hp → Hp → Prop} (q : PostR Z F H r P) (e0 : Kx F H) {p : Addr} {o : HO} (hp : H p = none) :
    PostR Z F (upd H p o) r (fun a F' H' => Kx F' H' ∧ F' p = none ∧ H' p = some o ∧ ∀ X, P a (upd F' p X) (upd H' p X)) := by
  cases r with
  | bad => exact q
  | ex c d => exact PostR.mono (show PostR Z F H (.ex c d) P from q) (.pad e0 hp)
  | ok a =>
    intro F' H' e
    have hf : F p = none := e0.back hp
    have hf' : F' p = none := e.fr hf upd_same
    have hh' : H' p = some o := e.o p _ hf upd_same
    refine ⟨e.i, hf', hh', fun X => q _ _ ⟨e.f.trans (.new hf'), ?_, e.i.both, fun b hb h' => ?_, fun b u h1 h2 => ?_⟩⟩
    · intro b u hb
      have nb : b ≠ p := ne_of_none hb hp
      obtain ⟨u', h1, s1⟩ := e.h b u (by rw [upd_ne nb]; exact hb)
      exact ⟨u', by rw [upd_ne nb]; exact h1, s1⟩
    · by_cases nb : b = p
      · subst nb; exact hp
      · rw [upd_ne nb] at h'
        have := e.n b hb h'
        rw [upd_ne nb] at this; exact this
    · have nb : b ≠ p := ne_of_none h2 hp
      rw [upd_ne nb]
      exact e.o b u h1 (by rw [upd_ne nb]; exact h2)
section
variable {X : Cx} {Z : XZ} {a b e : Expr} {f f1 f2 fk fv : EM} {g : KM} {pos p p1 p2 : Pos} {ks : List (Option Expr)} {vs : List Expr}
theorem dk_nil : DK X Z pos [] [] kNil := ⟨⟨_, pps_nil, fun G F H σ s S Q q => q.ok S.kx [] .nil⟩, rfl, rfl, fun s kvs h => by cases h; rfl⟩
theorem dk_cons (ha : DE X Z a fk) (hb : DE X Z b fv) (h : DK X Z pos ks vs g) : DK X Z pos (some a :: ks) (b :: vs) (kCons fk fv g) := by
  obtain ⟨t1, p1, s1⟩ := ha
  obtain ⟨t2, p2, s2⟩ := hb
  obtain ⟨⟨tr, p3, s3⟩, al, ln, out⟩ := h
  refine ⟨⟨_, pps_cons p1 p2 p3, fun G F H σ s S Q q => ?_⟩, by simpa using al, by simp [ln], fun s kvs h => ?_⟩
  · refine s1 G F H σ s S _ (PostR.bind q fun k F1 H1 _ e1 q1 v1 d1 => ?_)
    refine s2 G F1 H1 σ s (S.ext e1) _ (PostR.bind q1 fun d F2 H2 _ e2 q2 v2 d2 => ?_)
    refine s3 G F2 H2 σ s ((S.ext e1).ext e2) _ (PostR.bind q2 fun r F3 H3 _ e3 q3 kr d3 => ?_)
    unfold kOne at q3
    split at q3
    · rename_i hk
      obtain ⟨k, rfl, rfl⟩ := key_inv d1 hk
      exact q3.ok e3.i ((k, v2) :: kr) (.cons (d2.mono e3.f) d3)
    · exact q3.elim
  · unfold kCons at h
    cases h1 : fk s <;> simp only [h1, R.bind_ok, R.bind_bad, R.bind_ex, reduceCtorEq] at h
    cases h2 : fv s <;> simp only [h2, R.bind_ok, R.bind_bad, R.bind_ex, reduceCtorEq] at h
    cases h3 : g s <;> simp only [h3, R.bind_ok, R.bind_bad, R.bind_ex, reduceCtorEq] at h
    unfold kOne at h
    split at h
    · cases h; simp [out _ _ h3]
    · cases h
theorem de_dict (h : DK X Z pos ks vs g) (h0 : ks ≠ [] := by simp) (h15 : ks.length ≤ 15 := by decide) : DE X Z (.Dict ks vs pos) (eDict g) := by
  obtain ⟨⟨tr, p3, s3⟩, al, ln, out⟩ := h
  refine ⟨_, pe_disp p3 al ln h0 h15, fun G F H σ s S Q q => ?_⟩
  intro p hp
  have q' : PostR Z F H ((g s).bind fun kvs => .ok (.dict (mergeD [] kvs))) (PD X.K Q) := q
  refine s3 G F _ σ s (S.ext (.pad S.kx hp)) _ (PostR.bind (q'.pad S.kx hp) fun kvs F1 H1 hr e1 q1 kr d1 => ?_)
  obtain ⟨k1, f1, h1, q2⟩ := q1.ok e1.i
  refine ⟨h1, kr, rfl, by rw [d1.len, out s kvs hr]; exact h15, ?_⟩
  exact q2 _ _ (.dic (.inl upd_same) ((d1.mergeD .nil).mono (.new f1)))
end

theorem dss_never {X : Cx} {Z : XZ} : ∀ sts : List Stmt, DSs X Z sts (fun _ => .bad)
  | [] => ⟨_, pss_nil, fun G F H σ s S D q => q.elim⟩
  | st :: r => by
    obtain ⟨u, p, _⟩ := dss_never (X := X) (Z := Z) r
    exact ⟨_, pss_cons (ps_never (st := st)) p, fun G F H σ s S D q => q.elim⟩
end DL

set_option Elab.async false
set_option linter.all false
set_option maxRecDepth 100000
set_option maxHeartbeats 4000000
namespace DL
open PySem PySem.Spec PyProof.Rows L2

/-! ### methods of texts -/
def onStr (a : D) (k : Str → R D) : R D := match a with | .str x => k x | _ => .bad
@[simp] theorem onStr_str (x : Str) (k : Str → R D) : onStr (.str x) k = k x := rfl
@[simp] def eM1 (g : Str → D → R D) (fo fe : EM) : EM := fun s => (fo s).bind fun a => onStr a fun x => (fe s).bind fun b => g x b
def dIndex (x : Str) (b : D) : R D := match b with
  | .str y => match Builtin.Str.occurrences x y 0 x.length 1 with | i :: _ => .ok (.int (i : Nat)) | [] => .bad
  | _ => .bad
def dStarts (x : Str) (b : D) : R D := match b with | .str y => .ok (.bool (Txt.startswith x y)) | _ => .bad
@[simp] theorem dStarts_str (x y : Str) : dStarts x (.str y) = .ok (.bool (Txt.startswith x y)) := rfl
def dJoin (x : Str) (b : D) : R D := match b with
  | .list ds => match strsOf ds with | some ys => if (ys.map (·.length)).sum + ys.length * x.length ≤ 16777216 then .ok (.str (Txt.join x ys)) else .bad | none => .bad
  | .tuple ds => match strsOf ds with | some ys => if (ys.map (·.length)).sum + ys.length * x.length ≤ 16777216 then .ok (.str (Txt.join x ys)) else .bad | none => .bad
  | _ => .bad
@[simp] theorem dJoin_strs (x : Str) (ys : List Str) : dJoin x (.list (ys.map PyData.str)) = if (ys.map (·.length)).sum + ys.length * x.length ≤ 16777216 then .ok (.str (Txt.join x ys)) else .bad := by
  unfold dJoin; simp only [strsOf_map]
section
variable {X : Cx} {Z : XZ} {a b e o : Expr} {f f1 f2 fo fe : EM} {pos p p1 p2 : Pos}
theorem se_m1 {K : Fg} {to te : TE} {r : V → List V → Hp → VK → Prop} {g : Str → D → R D} (s1 : SE K Z to fo) (s2 : SE K Z te fe)
    (hr : ∀ F H x y b, ∀ Q : VK, Kx F H → Dn K F y b → PostR Z F H (g x b) (PD K Q) → r (.str x) [y] H Q) : SE K Z (tM1 r to te) (eM1 g fo fe) := fun G F H σ s S Q q => by
  refine s1 G F H σ s S _ (PostR.bind q fun a F1 H1 _ e1 q1 v1 d1 => ?_)
  cases d1 with
  | str x =>
    refine ⟨⟨x, rfl⟩, ?_⟩
    refine s2 G F1 H1 σ s (S.ext e1) _ (PostR.bind (show PostR Z F1 H1 ((fe s).bind fun b => g x b) (PD K Q) from q1) fun b F2 H2 _ e2 q2 v2 d2 => ?_)
    exact hr F2 H2 x v2 b Q e2.i d2 q2
  | _ => exact (show False from q1).elim
theorem de_index (hu : X.A.units + 65 < cLine) (ho : DE X Z o fo) (he : DE X Z e fe) (hs : starEach [e] X.env = [(false, eval e X.env)] := by rfl) (hbase : attributeBase o "index" X.env (eval o X.env) = eval o X.env := by rfl) (hline : (p.endLine == pos.line) = true := by rfl) :
    DE X Z (.Call (.Attribute o "index" p) [e] [] pos) (eM1 dIndex fo fe) := by
  obtain ⟨t1, p1, s1⟩ := ho
  obtain ⟨t2, p2, s2⟩ := he
  refine ⟨_, pe_m1 PySem.F.slot_str_index PySem.F.type_str_index mt_sindex p1 p2 hs hbase hline, se_m1 s1 s2 fun F H x y b Q k d q => ?_⟩
  cases d with
  | str y =>
    cases h : Builtin.Str.occurrences x y 0 x.length 1 with
    | nil => rw [show dIndex x (.str y) = (match Builtin.Str.occurrences x y 0 x.length 1 with | i :: _ => .ok (.int (i : Nat)) | [] => .bad) from rfl, h] at q; exact q.elim
    | cons i r =>
      rw [show dIndex x (.str y) = (match Builtin.Str.occurrences x y 0 x.length 1 with | i :: _ => .ok (.int (i : Nat)) | [] => .bad) from rfl, h] at q
      exact ⟨x, y, i, r, rfl, rfl, h, q.ok k _ (.int _)⟩
  | _ => exact (show False from q).elim
theorem de_starts (ho : DE X Z o fo) (he : DE X Z e fe) (hs : starEach [e] X.env = [(false, eval e X.env)] := by rfl) (hbase : attributeBase o "startswith" X.env (eval o X.env) = eval o X.env := by rfl) (hline : (p.endLine == pos.line) = true := by rfl) :
    DE X Z (.Call (.Attribute o "startswith" p) [e] [] pos) (eM1 dStarts fo fe) := by
  obtain ⟨t1, p1, s1⟩ := ho
  obtain ⟨t2, p2, s2⟩ := he
  refine ⟨_, pe_m1 PySem.F.slot_str_startswith PySem.F.type_str_startswith mt_startswith p1 p2 hs hbase hline, se_m1 s1 s2 fun F H x y b Q k d q => ?_⟩
  cases d with
  | str y => exact ⟨x, y, rfl, rfl, PostR.ok (show PostR Z F H (.ok (.bool (Txt.startswith x y))) (PD X.K Q) from q) k _ (.bl _)⟩
  | _ => exact (show False from q).elim
theorem de_join (ho : DE X Z o fo) (he : DE X Z e fe) (hs : starEach [e] X.env = [(false, eval e X.env)] := by rfl) (hbase : attributeBase o "join" X.env (eval o X.env) = eval o X.env := by rfl) (hline : (p.endLine == pos.line) = true := by rfl) :
    DE X Z (.Call (.Attribute o "join" p) [e] [] pos) (eM1 dJoin fo fe) := by
  obtain ⟨t1, p1, s1⟩ := ho
  obtain ⟨t2, p2, s2⟩ := he
  refine ⟨_, pe_join p1 p2 hs hbase hline, se_m1 s1 s2 fun F H x y b Q k d q => ?_⟩
  unfold dJoin at q
  cases d with
  | @lst a vs ds h1 a1 =>
    simp only at q
    cases h : strsOf ds with
    | none => rw [h] at q; exact q.elim
    | some ys =>
      rw [h] at q
      have := strsOf_eq h; subst this
      have := a1.strs_inv; subst this
      simp only at q
      split at q
      · rename_i hz
        exact ⟨x, a, ys, rfl, rfl, .inl (k.sql h1), hz, q.ok k _ (.str _)⟩
      · exact q.elim
  | @tup a vs ds h1 a1 =>
    simp only at q
    cases h : strsOf ds with
    | none => rw [h] at q; exact q.elim
    | some ys =>
      rw [h] at q
      have := strsOf_eq h; subst this
      have := a1.strs_inv; subst this
      simp only at q
      split at q
      · rename_i hz
        exact ⟨x, a, ys, rfl, rfl, .inr (.of (k.tup h1)), hz, q.ok k _ (.str _)⟩
      · exact q.elim
  | _ => exact (show False from q).elim
def dMax2 (ds : List D) : R D := match ds with
  | [.int i, .int j] => .ok (.int (if j > i then j else i))
  | _ => .bad
@[simp] theorem dMax2_int (i j : Int) : dMax2 [.int i, .int j] = .ok (.int (if j > i then j else i)) := rfl
theorem de_max2 {es : List Expr} {fa : AM} (hc : X.calm = true) (hm : X.mg "max" = none) (ha : DA X Z (e :: es) fa) (hg : Gl X "max" := by rfl) (he : starEach (e :: es) X.env = (false, eval e X.env) :: starEach es X.env := by rfl) (hpl : (backTo pos (starEach es X.env)).any (·.1) = false := by rfl) :
    DE X Z (.Call (.Name "max" p) (e :: es) [] pos) (eCall dMax2 fa) := by
  obtain ⟨⟨t, p1, s1⟩, _⟩ := ha
  refine ⟨_, pe_callB (call_max2 hc) hg hm (by decide +kernel) p1 (by decide) (by decide) he hpl, se_cb s1 fun F H xs ds ek d Q q => ?_⟩
  match ds, d, q with
  | [.int i, .int j], .cons (.int _) (.cons (.int _) .nil), q => exact ⟨i, j, rfl, q.ok ek _ (.int _)⟩
end

/-! ### < of data -/
def dLtD (a b : D) : R D := if SeqAt.shaped a = true ∧ SeqAt.shaped b = true ∧ PySem.W.alike a b = true ∧ isNo a = false then .ok (.bool (PySem.W.dataLt a b)) else .bad
def rLtD (K : Fg) : R2 := fun x y H Q => ∃ da db, Dp K H x da ∧ Dp K H y db ∧ SeqAt.shaped da = true ∧ SeqAt.shaped db = true ∧ PySem.W.alike da db = true ∧ da ≠ .none ∧ Q (.bl (PySem.W.dataLt da db)) H
theorem shaped_depth {d : D} (h : SeqAt.shaped d = true) : d.depth ≤ 64 := by
  unfold SeqAt.shaped at h
  exact of_decide_eq_true (Bool.and_eq_true_iff.mp h).2
theorem op_ltD {X : Cx} (hu : X.A.units + 64 < cLine) : OpR X (compareOp .Lt) (rLtD X.K) := by
  intro pins s σ H x y v u Q I rx ry h
  obtain ⟨da, db, hd, he, sd, se, al, nn, q⟩ := h
  obtain ⟨as, r1⟩ := Dp.reads I da x v hd rx
  obtain ⟨bs, r2⟩ := Dp.reads I db y u he ry
  have h1 := shaped_depth sd
  exact PySem.W.rcLt_alike da db X.A s v u as bs r1 r2 al nn (by omega) X.prog X.w _ _ ⟨.bl _, H, I, rfl, q⟩
theorem dc_ltD {X : Cx} {Z : XZ} (hu : X.A.units + 64 < cLine) : DC X Z .Lt dLtD := ⟨_, op_ltD hu, fun F H x y a b e d1 d2 Q q => by
  unfold dLtD at q
  split at q
  · rename_i h
    exact ⟨a, b, dn_dp e a x (shaped_lay h.1) d1, dn_dp e b y (shaped_lay h.2.1) d2, h.1, h.2.1, h.2.2.1, fun z => by subst z; exact absurd h.2.2.2 (by decide), q.ok e _ (.bl _)⟩
  · exact q.elim⟩

/-! ### == of dicts that are alike -/
def plainOk (d : D) : Bool := SeqAt.shaped d && decide (d.depth ≤ 40)
def nodupK : List (D × D) → Bool
  | [] => true
  | p :: r => !(r.any fun q => kEq q.1 p.1) && nodupK r
def sameOk : Nat → D → Bool
  | n + 1, .dict kvs => nodupK kvs && kvs.all fun p => sameOk n p.2
  | _, d => plainOk d
@[simp] theorem sameOk_dict (n : Nat) (kvs : List (D × D)) : sameOk (n + 1) (.dict kvs) = (nodupK kvs && kvs.all fun p => sameOk n p.2) := rfl
def EqD (K : Fg) (H : Hp) : Nat → V → V → Prop
  | 0 => fun x y => ∃ d, Dp K H x d ∧ Dp K H y d ∧ plainOk d = true
  | n + 1 => fun x y => (∃ d, Dp K H x d ∧ Dp K H y d ∧ plainOk d = true) ∨
    ∃ a b ks ls, x = .ref a ∧ y = .ref b ∧ Rd H a (.dK ks) ∧ Rd H b (.dK ls) ∧ ks.length = ls.length ∧ ∀ p ∈ ks, ∃ u, valV ls p.1 = some u ∧ EqD K H n p.2 u
section
variable {X : Cx} {pins : List (Addr × Obj)} {σ : L2.St} {H : Hp} {s : Shared}
theorem plain_run (I : Inv X pins σ H s) {A : Around} (hu : A.units + 40 < cLine) {x y : V} {v u : Value} (h : ∃ d, Dp X.K H x d ∧ Dp X.K H y d ∧ plainOk d = true) (rx : RelV x v) (ry : RelV y u) : SeqAt.EqP X.prog X.w A s v u true := by
  obtain ⟨d, h1, h2, h3⟩ := h
  unfold plainOk at h3
  rw [Bool.and_eq_true] at h3
  obtain ⟨as, r1⟩ := Dp.reads I d x v h1 rx
  obtain ⟨bs, r2⟩ := Dp.reads I d y u h2 ry
  have hp := PyData.plain_of_canLay0 d (shaped_lay h3.1)
  have hd := of_decide_eq_true h3.2
  have := SeqAt.eqAt_plain d d A s v u as bs r1 r2 hp hp (by omega)
  rw [SeqAt.eqv_refl_plain d hp] at this
  exact this.eqP
theorem dicts_run (I : Inv X pins σ H s) {A : Around} {F : V → V → Prop} (hu : A.units < cLine) (ih : ∀ x y v u, F x y → RelV x v → RelV y u → SeqAt.EqP X.prog X.w A.in1 s v u true) {a b : Addr} {ks ls : List (Key × V)}
    (ha : Rd H a (.dK ks)) (hb : Rd H b (.dK ls)) (hl : ks.length = ls.length) (hp : ∀ p ∈ ks, ∃ u, valV ls p.1 = some u ∧ F p.2 u) (E Q : Value → Shared → Prop) (q : Q (.bool true) s) : wpAny (model X.prog X.w) A (richCompare .Eq (.ref a) (.ref b)) Q E s := by
  obtain ⟨_, ya, va, ra, da⟩ := dk_rd I.hok ha
  obtain ⟨_, yb, vb, rb, db⟩ := dk_rd I.hok hb
  refine PySem.W.rcP_dicts (knd := mixKind X.prog X.w) (r := true) ya yb da db hu (fun _ => hits_run ih rb ra hp) E Q ?_
  have e : va.length = vb.length := by rw [← ra.length, ← rb.length]; exact hl
  rw [show (va.length == vb.length && true) = true from by rw [e]; simp]
  exact q
theorem eqD_run (I : Inv X pins σ H s) : ∀ (n : Nat) (A : Around), A.units + 40 + n < cLine → ∀ (x y : V) (v u : Value), EqD X.K H n x y → RelV x v → RelV y u → SeqAt.EqP X.prog X.w A s v u true
  | 0, A, hu, x, y, v, u, h, rx, ry => plain_run I (by omega) h rx ry
  | n + 1, A, hu, x, y, v, u, h, rx, ry => by
    rcases h with h | ⟨a, b, ks, ls, rfl, rfl, ha, hb, hl, hp⟩
    · exact plain_run I (by omega) h rx ry
    · cases (show v = Value.ref a from rx)
      cases (show u = Value.ref b from ry)
      by_cases e : a = b
      · subst e
        exact (SeqAt.EqAt.same _).eqP
      · exact SeqAt.eqP_refs e fun E Q q => dicts_run I (A := A) (by omega) (eqD_run I n A.in1 (by show A.units + 1 + 40 + n < cLine; omega)) ha hb hl hp E Q q
end
def rEqH (K : Fg) : R2 := fun x y H Q => ∃ n a b ks ls, n ≤ 20 ∧ x = .ref a ∧ y = .ref b ∧ Rd H a (.dK ks) ∧ Rd H b (.dK ls) ∧ ks.length = ls.length ∧ (∀ p ∈ ks, ∃ u, valV ls p.1 = some u ∧ EqD K H n p.2 u) ∧ Q (.bl true) H
theorem op_eqH {X : Cx} (hu : X.A.units + 64 < cLine) : OpR X (compareOp .Eq) (rEqH X.K) := by
  intro pins s σ H x y v u Q I rx ry h
  obtain ⟨n, a, b, ks, ls, hn, rfl, rfl, ha, hb, hl, hp, q⟩ := h
  cases (show v = Value.ref a from rx)
  cases (show u = Value.ref b from ry)
  exact dicts_run I (A := X.A) (by omega) (eqD_run I n X.A.in1 (by show X.A.units + 1 + 40 + n < cLine; omega)) ha hb hl hp _ _ ⟨.bl true, H, I, rfl, q⟩
theorem DnKv.mem {K : Fg} {F : Hp} : ∀ {ks : List (Key × V)} {kvs : List (D × D)}, DnKv K F ks kvs → ∀ p ∈ ks, ∃ d, (kD p.1, d) ∈ kvs
  | _, _, .nil, p, h => by cases h
  | _, _, .cons d t, p, h => by
    rcases List.mem_cons.mp h with rfl | h
    · exact ⟨_, List.mem_cons_self⟩
    · obtain ⟨d, hd⟩ := t.mem p h
      exact ⟨d, List.mem_cons_of_mem _ hd⟩
theorem DnKv.mem2 {K : Fg} {F : Hp} : ∀ {ks : List (Key × V)} {kvs : List (D × D)}, DnKv K F ks kvs → nodupK kvs = true → ∀ p ∈ ks, ∃ d, (kD p.1, d) ∈ kvs ∧ Dn K F p.2 d ∧ dLook kvs (kD p.1) = some d
  | _, _, .nil, _, p, h => by cases h
  | _, _, @DnKv.cons _ _ k v vs d ds d1 t, hn, p, h => by
    have hn' : (!(ds.any fun q => kEq q.1 (kD k)) && nodupK ds) = true := hn
    rw [Bool.and_eq_true] at hn'
    rcases List.mem_cons.mp h with rfl | h
    · exact ⟨d, List.mem_cons_self, d1, by rw [dLook_cons, kEq_kD]; simp⟩
    · obtain ⟨d', hd, d2, l⟩ := t.mem2 hn'.2 p h
      refine ⟨d', List.mem_cons_of_mem _ hd, d2, ?_⟩
      rw [dLook_cons]
      have : kEq (kD k) (kD p.1) = false := by
        have h1 := hn'.1
        rw [Bool.not_eq_true', List.any_eq_false] at h1
        have h2 := h1 _ hd
        rw [kEq_kD] at h2 ⊢
        simp only [decide_eq_true_eq] at h2
        simp only [decide_eq_false_iff_not]
        exact fun z => h2 z.symm
      rw [this]
      exact l
theorem same_eqD {K : Fg} {F H : Hp} (e : Kx F H) : ∀ (n : Nat) (d : D) (x y : V), sameOk n d = true → Dn K F x d → Dn K F y d → EqD K H n x y
  | 0, d, x, y, h, d1, d2 => by
    have h' : plainOk d = true := h
    have hs : SeqAt.shaped d = true := by unfold plainOk at h'; rw [Bool.and_eq_true] at h'; exact h'.1
    exact ⟨d, dn_dp e d x (shaped_lay hs) d1, dn_dp e d y (shaped_lay hs) d2, h'⟩
  | n + 1, d, x, y, h, d1, d2 => by
    rcases isDict_or d with ⟨kvs, rfl⟩ | hd
    · cases d1 with
      | @dic a ks _ ha a1 =>
        cases d2 with
        | @dic b ls _ hb a2 =>
          have h' : (nodupK kvs && kvs.all fun p => sameOk n p.2) = true := h
          rw [Bool.and_eq_true] at h'
          refine .inr ⟨a, b, ks, ls, rfl, rfl, e.rd trivial ha, e.rd trivial hb, by rw [a1.len, a2.len], fun p hp => ?_⟩
          obtain ⟨d, hm, dd, hl⟩ := a1.mem2 h'.1 p hp
          obtain ⟨u, hu, du⟩ := (look_ok a2 p.1).1 d hl
          exact ⟨u, hu, same_eqD e n d _ _ (List.all_eq_true.mp h'.2 _ hm) dd du⟩
    · have h' : plainOk d = true := by
        cases d with
        | dict kvs => exact (hd kvs rfl).elim
        | _ => exact h
      have hs : SeqAt.shaped d = true := by unfold plainOk at h'; rw [Bool.and_eq_true] at h'; exact h'.1
      exact .inl ⟨d, dn_dp e d x (shaped_lay hs) d1, dn_dp e d y (shaped_lay hs) d2, h'⟩
open Classical in
noncomputable def dEqH (a b : D) : R D := match a with
  | .dict kvs => if b = .dict kvs ∧ sameOk 5 (.dict kvs) = true then .ok (.bool true) else .bad
  | _ => .bad
theorem dEqH_same {kvs : List (D × D)} (h : sameOk 5 (.dict kvs) = true) : dEqH (.dict kvs) (.dict kvs) = .ok (.bool true) := by
  unfold dEqH
  exact if_pos ⟨rfl, h⟩
theorem dc_eqH {X : Cx} {Z : XZ} (hu : X.A.units + 64 < cLine) : DC X Z .Eq dEqH := ⟨_, op_eqH hu, fun F H x y a b e d1 d2 Q q => by
  unfold dEqH at q
  cases d1 with
  | @dic la ks kvs ha a1 =>
    simp only at q
    split at q
    · rename_i h
      obtain ⟨rfl, h⟩ := h
      have h' : (nodupK kvs && kvs.all fun p => sameOk 4 p.2) = true := h
      rw [Bool.and_eq_true] at h'
      cases d2 with
      | @dic lb ls _ hb a2 =>
        refine ⟨4, la, lb, ks, ls, by omega, rfl, rfl, e.rd trivial ha, e.rd trivial hb, by rw [a1.len, a2.len], fun p hp => ?_, q.ok e _ (.bl _)⟩
        obtain ⟨d, hm, dd, hl⟩ := a1.mem2 h'.1 p hp
        obtain ⟨u, hu, du⟩ := (look_ok a2 p.1).1 d hl
        exact ⟨u, hu, same_eqD e 4 d _ _ (List.all_eq_true.mp h'.2 _ hm) dd du⟩
    · exact q.elim
  | _ => exact q.elim⟩
end DL

set_option Elab.async false
set_option linter.all false
set_option maxRecDepth 100000
set_option maxHeartbeats 4000000
namespace DL
open PySem PySem.Spec PyProof.Rows L2

/-! ### comprehensions over what is read without a trace: dicts, too -/
theorem sn_lc_at {K : Fg} {Z : XZ} {wi : TI} {it : LM} {b : BM} {t : TM} {f : EM} {vs : List Nat} {G : Hp × Hp} {F H : Hp} {σ : L2.St} {s : DSt} (S : StOk K G F H σ s)
    (h1 : ∀ R : It → Hp → Prop, PostR Z F H (it s) (fun items F' H' => ∀ J, ItOk K F' J items → R J H') → wi σ H R) (Q : VK)
    (q : PostR Z F H (nLc it b t f vs s) (fun ds F' H' => ∀ p vs, H' p = none → DnAll K F' vs ds → Q (.ref p) (upd H' p (.lst vs)))) : tLc wi (cG K vs b) (cT K Z0 t) (cE K Z0 f) vs σ H Q := by
  refine h1 _ (PostR.bind q fun items F1 H1 er e1 q1 J hJ => ?_)
  by_cases hz : items.length ≤ sizeLine
  case neg => rw [if_neg hz] at q1; exact q1.elim
  rw [if_pos hz] at q1
  cases hr : dLc b t f (wipeS s vs) items with
  | ex c d => exact (dLc_noex items hr).elim
  | bad => rw [hr] at q1; exact q1.elim
  | ok total =>
    rw [hr] at q1
    intro D hD
    have S1 := S.ext e1
    refine ⟨fun i m H' => m = items.length - i ∧ i ≤ items.length ∧ ∃ F' xs ds rest, Ext F1 H1 F' H' ∧ F' D = none ∧ H' D = some (.lst xs) ∧ DnAll K F' xs ds ∧ ds.length ≤ i ∧ dLc b t f (wipeS s vs) (items.drop i) = .ok rest ∧ total = ds ++ rest,
      ⟨_, rfl, Nat.zero_le _, F1, [], [], total, ?_, ?_, upd_same, .nil, Nat.le_refl _, hr, rfl⟩, ?_⟩
    · exact ⟨.refl _, .new hD, e1.i.mut (e1.i.back hD), fun a h h' => absurd h h', fun a o h1 h2 => by rw [upd_ne (ne_of_none h2 hD)]; exact h2⟩
    · exact e1.i.back hD
    rintro i m H' ⟨rfl, hi, F', xs, ds, rest, ex, fD, kD, dn, hl, hrest, htot⟩
    obtain ⟨ok, st⟩ := hJ F' H' ex.f ex.i
    by_cases hlt : i < items.length
    · have hx : items[i]? = some items[i] := List.getElem?_eq_getElem hlt
      rw [drop_get hx, dLc_cons] at hrest
      obtain ⟨go, yl⟩ := ok i _ hx
      refine .inr ⟨go, fun H2 => ∃ F' xs ds rest, Ext F1 H1 F' H2 ∧ F' D = none ∧ H2 D = some (.lst xs) ∧ DnAll K F' xs ds ∧ ds.length ≤ i + 1 ∧ dLc b t f (wipeS s vs) (items.drop (i + 1)) = .ok rest ∧ total = ds ++ rest,
        fun H2 h2 => ⟨items.length - (i + 1), by omega, rfl, hlt, h2⟩, fun x H'' y => ?_⟩
      obtain ⟨F'', ex2, dx⟩ := yl x H'' y
      cases hb : b items[i] (wipeS s vs) with
      | none => rw [hb] at hrest; cases hrest
      | some s1 =>
        rw [hb, onR_some] at hrest
        have S2 := (S1.wipe vs).ext (ex.trans ex2)
        refine ⟨G, F'', wipeS s vs, items[i], s1, S2, dx, hb, fun σ2 S3 hw => ⟨?_, G, F'', s1, S3, ?_⟩⟩
        · rw [hw]
          apply List.ext_getElem?
          intro j
          rw [wipe_at, wipe_at]
          by_cases hj : j ∈ vs
          · simp only [hj, if_true]
            cases σ[j]? <;> rfl
          · simp only [hj, if_false]
        · cases ht : t s1 with
          | ok k =>
            rw [ht, noEx_ok, R.bind_ok] at hrest
            cases k with
            | false =>
              intro F3 H3 e3
              refine iteF ⟨F3, xs, ds, rest, (ex.trans ex2).trans e3, (ex2.trans e3).fr fD kD, (ex2.trans e3).o D _ fD kD, dn.mono (ex2.f.trans e3.f), by omega, hrest, htot⟩
            | true =>
              intro F3 H3 e3
              refine iteT ⟨G, F3, s1, S3.ext e3, ?_⟩
              simp only [if_true] at hrest
              cases hf : f s1 with
              | ok d =>
                rw [hf, noEx_ok, R.bind_ok] at hrest
                cases hr2 : dLc b t f (wipeS s vs) (items.drop (i + 1)) with
                | ok ds2 =>
                  rw [hr2] at hrest
                  cases hrest
                  intro F4 H4 e4 v dv
                  have e5 := (ex2.trans e3).trans e4
                  have fD4 := e5.fr fD kD
                  have kD4 := e5.o D _ fD kD
                  refine ⟨xs, kD4, ?_, F4, xs ++ [v], ds ++ [d], ds2, ?_, fD4, upd_same, (dn.mono e5.f).app (.cons dv .nil), by simp; omega, rfl, by rw [htot, List.append_assoc]; rfl⟩
                  · rw [dn.len]
                    exact Nat.lt_of_le_of_lt hl (Nat.lt_of_lt_of_le hlt hz)
                  · have e6 := ex.trans e5
                    exact ⟨e6.f, e6.h.mut hD, e6.i.mut fD4, e6.n, fun a o h1 h2 => by rw [upd_ne (ne_of_none h2 hD)]; exact e6.o a o h1 h2⟩
                | ex c d => rw [hr2] at hrest; cases hrest
                | bad => rw [hr2] at hrest; cases hrest
              | ex c d => rw [hf] at hrest; cases hrest
              | bad => rw [hf] at hrest; cases hrest
          | ex c d => rw [ht] at hrest; cases hrest
          | bad => rw [ht] at hrest; cases hrest
    · have e : i = items.length := by omega
      subst e
      rw [List.drop_length, dLc_nil] at hrest
      cases hrest
      rw [List.append_nil] at htot
      subst htot
      refine .inl ⟨st, ?_⟩
      have := q1 F' (hole H' D) (ext_hole ex hD fD) D xs (by unfold hole; rw [if_pos rfl]) dn
      rw [hole_upd kD] at this
      exact this
theorem upd_comm {H : Hp} {a b : Addr} {o u : HO} (h : a ≠ b) : upd (upd H a o) b u = upd (upd H b u) a o := by
  funext x
  unfold upd
  by_cases h1 : x = b
  · subst h1
    rw [if_pos rfl, if_neg (fun z => h z.symm), if_pos rfl]
  · by_cases h2 : x = a
    · subst h2
      rw [if_neg h1, if_pos rfl, if_pos rfl]
    · rw [if_neg h1, if_neg h2, if_neg h2, if_neg h1]
/-- keys of the dict that f tells -/
theorem sn_keys {K : Fg} {Z : XZ} {te : TE} {fe : EM} {b : BM} {t : TM} {f : EM} {vs : List Nat} (h1 : SP K te fe) {G : Hp × Hp} {F H : Hp} {σ : L2.St} {s : DSt} (S : StOk K G F H σ s) {kvs : List (D × D)} (hf : fe s = .ok (.dict kvs)) (Q : VK)
    (q : PostR Z F H (nLc (nIter fe) b t f vs s) (fun ds F' H' => ∀ p vs, H' p = none → DnAll K F' vs ds → Q (.ref p) (upd H' p (.lst vs)))) :
    tLc (iKeys te) (cG K vs b) (cT K Z0 t) (cE K Z0 f) vs σ H Q ∨ tLockE (tLc (iKeys te) (cG K vs b) (cT K Z0 t) (cE K Z0 f) vs) σ H Q := by
  obtain ⟨v, dv, kv⟩ := h1 G F H σ s S _ hf
  have itv : nIter fe s = .ok (keysD kvs) := by show (fe s).bind dIter = _; rw [hf]; rfl
  have at_ : ∀ (F2 H2 : Hp) (d : Addr) (o : Obj) (ks : List (Key × V)), StOk K G F2 H2 σ s → v = .ref d → (∀ Q : VK, Q v H2 → te σ H2 Q) → F2 d = some (.frz o (.dK ks)) → DnKv K F2 ks kvs → ∀ R : It → Hp → Prop, PostR Z F2 H2 (nIter fe s) (fun items F' H' => ∀ J, ItOk K F' J items → R J H') → iKeys te σ H2 R := by
    intro F2 H2 d o ks S2 hv kte hF dn R q
    rw [itv] at q
    exact kte _ ⟨d, o, hv, .inl ⟨ks, S2.kx.frz hF, q.ok S2.kx _ (itOk_keys hF dn)⟩⟩
  cases dv with
  | @dic d ks _ hr dn =>
    rcases hr with hF | ⟨o, hF⟩
    · obtain ⟨o', hH, sm⟩ := S.kx d _ hF
      rcases sm with rfl | ⟨_, p, rfl⟩
      · refine .inr ⟨d, .dK ks, hH, trivial, fun od => ?_⟩
        have S2 : StOk K G (upd F d (.frz od (.dK ks))) (upd H d (.frz od (.dK ks))) σ s := S.lock trivial hF hH
        have e0 : Ext F H (upd F d (.frz od (.dK ks))) (upd H d (.frz od (.dK ks))) := (Ext.refl S.kx).lock trivial hF hH
        refine sn_lc_at S2 (at_ _ _ d od ks S2 rfl (fun Q qq => kv _ (fun a o ha => ?_) Q qq) upd_same (dn.mono e0.f)) _ ?_
        · obtain ⟨o1, h1, s1⟩ := e0.f a o ha
          obtain ⟨o2, h2, s2⟩ := S2.kx.w a o1 h1
          exact ⟨o2, h2, sm_sw s1 s2⟩
        · cases hn : nLc (nIter fe) b t f vs s with
          | ok ds =>
            rw [hn] at q
            intro F' H' e p ws hp dw
            have hF' : F' d = some (.frz od (.dK ks)) := e.f.frz upd_same
            have hH' : H' d = some (.frz od (.dK ks)) := e.i.frz hF'
            have nd : p ≠ d := fun z => by subst z; rw [hp] at hH'; cases hH'
            refine ⟨by rw [upd_ne (Ne.symm nd)]; exact hH', ?_⟩
            rw [upd_comm nd]
            exact q _ _ ((Ext.refl S.kx).unlock (u := .dK ks) True.intro hF hH (e0.trans e)) p ws (by rw [upd_ne nd]; exact hp) (dw.monoW (kw_unlock (u := .dK ks) True.intro hF'))
          | ex c x =>
            rw [hn] at q
            exact fun F' H' e => q F' H' (e0.trans e)
          | bad => rw [hn] at q; exact q
      · have kl : Kx F (upd F d (.frz p (.dK ks))) := fun a o ha => by
          by_cases q : a = d
          · subst q
            rw [hF] at ha; cases ha
            exact ⟨_, upd_same, .inr ⟨trivial, p, rfl⟩⟩
          · exact ⟨o, by rw [upd_ne q]; exact ha, .refl o⟩
        have ki : Kx (upd F d (.frz p (.dK ks))) H := fun a o ha => by
          by_cases q : a = d
          · subst q
            rw [upd_same] at ha; cases ha
            exact ⟨_, hH, .refl _⟩
          · rw [upd_ne q] at ha; exact S.kx a o ha
        have e0 : Ext F H (upd F d (.frz p (.dK ks))) H := ⟨kl, .refl _, ki, fun a h1 h2 => by
          by_cases q : a = d
          · subst q; rw [hF] at h1; cases h1
          · rw [upd_ne q] at h2; exact absurd h1 h2, fun a o h1 h2 => h2⟩
        have S2 := S.ext e0
        refine .inl (sn_lc_at S2 (at_ _ _ d p ks S2 rfl (fun Q qq => kv _ S.kx.w Q qq) upd_same (dn.mono kl)) _ (q.mono e0))
    · exact .inl (sn_lc_at S (at_ F H d o ks S rfl (fun Q qq => kv _ S.kx.w Q qq) hF dn) _ q)
section
variable {X : Cx} {Z : XZ} {elt tg iter : Expr} {ifs : List Expr} {scope : Scope} {pos : Pos} {fe : EM} {b : BM} {t : TM} {f : EM}
theorem dn_lcP (own : List (Str × Nat)) (hc : X.calm = true) (hN : X.N.Nodup) (hi : DP X iter fe) (ok : blkC X.N X.env.scope scope own = true)
    (hg : ∀ (s : Shared) (H : Hp) (C : Addr) (cl : List (Str × Addr)) (fp : List Addr), DGc (X.blk s H scope (compEnvC scope cl C X.env) fp) (own.map (·.2)) tg b) (ht : ∀ (s : Shared) (H : Hp) (C : Addr) (cl : List (Str × Addr)) (fp : List Addr), DTs (X.blk s H scope (compEnvC scope cl C X.env) fp) ifs t)
    (he : ∀ (s : Shared) (H : Hp) (C : Addr) (cl : List (Str × Addr)) (fp : List Addr), DE (X.blk s H scope (compEnvC scope cl C X.env) fp) Z0 elt f) (hs : ∀ x, foldedSetIterable iter X.env x = pure x := by intro _; rfl) :
    DN X Z (.ListComp elt [⟨tg, iter, ifs, 0⟩] scope pos) (nLc (nIter fe) b t f (own.map (·.2))) := by
  obtain ⟨te, p1, s1, n1⟩ := hi
  have pS := pe_lc (pos := pos) (te := cE X.K Z0 f) (tt := cT X.K Z0 t) (g := cG X.K (own.map (·.2)) b) hc hN (pi_seq p1 (tg := tg)) (blkOk_by ok) (fun s H C cl fp => (hg s H C cl fp).can) (fun s H C cl fp => (ht s H C cl fp).can) (fun s H C cl fp => (he s H C cl fp).can) hs
  have pK := pe_lc (pos := pos) (te := cE X.K Z0 f) (tt := cT X.K Z0 t) (g := cG X.K (own.map (·.2)) b) hc hN (pi_keys p1 (tg := tg)) (blkOk_by ok) (fun s H C cl fp => (hg s H C cl fp).can) (fun s H C cl fp => (ht s H C cl fp).can) (fun s H C cl fp => (he s H C cl fp).can) hs
  have sE : SE X.K Z te fe := fun G F H σ s S Q q => by
    cases h : fe s with
    | ok d =>
      rw [h] at q
      obtain ⟨v, dv, k⟩ := s1 G F H σ s S d h
      exact k H S.kx.w Q (q.ok S.kx v dv)
    | ex c d => exact (n1 s c d h).elim
    | bad => rw [h] at q; exact q.elim
  refine ⟨_, peOr pS (peOr pK (pe_lock pK)), fun G F H σ s S Q q => ?_⟩
  by_cases hd : ∃ kvs, fe s = .ok (.dict kvs)
  · obtain ⟨kvs, hf⟩ := hd
    exact .inr (sn_keys s1 S hf Q q)
  · refine .inl (sn_lc (si_seq sE) G F H σ s S Q ?_)
    have e : nLc (nSeq fe) b t f (own.map (·.2)) s = nLc (nIter fe) b t f (own.map (·.2)) s := by
      show ((fe s).bind dSeq).bind _ = ((fe s).bind dIter).bind _
      cases h : fe s with
      | ok d =>
        cases d with
        | dict kvs => exact (hd ⟨kvs, h⟩).elim
        | _ => rfl
      | ex c d => rfl
      | bad => rfl
    rw [e]
    exact q
/-- list(x), x a dict, too -/
def dList2 (ds : List D) : R (List D) := match ds with
  | [.dict kvs] => .ok (keysD kvs)
  | ds => dList ds
@[simp] theorem dList2_dict (kvs : List (D × D)) : dList2 [.dict kvs] = .ok (keysD kvs) := rfl
@[simp] theorem dList2_list (xs : List D) : dList2 [.list xs] = .ok xs := rfl
@[simp] theorem dList2_tuple (xs : List D) : dList2 [.tuple xs] = .ok xs := rfl
@[simp] def nList2 (f : AM) : LM := fun s => (f s).bind dList2
theorem keys_dn {K : Fg} {F : Hp} : ∀ {ks : List (Key × V)} {kvs : List (D × D)}, DnKv K F ks kvs → DnAll K F (ks.map fun kv => kV kv.1) (keysD kvs)
  | _, _, .nil => .nil
  | _, _, @DnKv.cons _ _ k v vs d ds d1 t => by
    refine .cons ?_ (keys_dn t)
    cases k with
    | inl i => exact .int i
    | inr x => exact .str x
theorem dn_list2 {e : Expr} {p pos : Pos} {fa : AM} (hc : X.calm = true) (hm : X.mg "list" = none) (ha : DA X Z [e] fa) (hg : Gl X "list" := by rfl) (he : starEach (e :: []) X.env = (false, eval e X.env) :: starEach [] X.env := by rfl) (hpl : (backTo pos (starEach [] X.env)).any (·.1) = false := by rfl) :
    DN X Z (.Call (.Name "list" p) [e] [] pos) (nList2 fa) := by
  obtain ⟨⟨t, p1, s1⟩, _⟩ := ha
  refine ⟨_, pe_callTy (call_list_of.or (call_listD hc)) hg hm (by decide +kernel) p1 (by decide) (by decide) he hpl, fun G F H σ s S Q q => ?_⟩
  refine s1 G F H σ s S _ (PostR.bind q fun ds F1 H1 _ e1 q1 vs dv => ?_)
  match ds, dv, q1 with
  | [.list xs], .cons (.lst h1 a1) .nil, q => exact .inl ⟨_, _, rfl, .inl (e1.i.sql h1), fun l hl => q.ok e1.i _ _ hl a1⟩
  | [.tuple xs], .cons (.tup h1 a1) .nil, q => exact .inl ⟨_, _, rfl, .inr (.of (e1.i.tup h1)), fun l hl => q.ok e1.i _ _ hl a1⟩
  | [.dict kvs], .cons (.dic h1 a1) .nil, q => exact .inr ⟨_, _, rfl, e1.i.rd trivial h1, fun l hl => q.ok e1.i _ _ hl (keys_dn a1)⟩
end
end DL

set_option Elab.async false
set_option linter.all false
set_option maxRecDepth 100000
set_option maxHeartbeats 1000000
/-! plain laws about mirrors' loops -/
namespace ML
open PySem L2 DL

/-- a loop that runs to its end -/
theorem for_inv {b : BM} {body : SM} (I : Nat → DSt → Prop) : ∀ (items : List D) (k : Nat) (s : DSt), I k s → (∀ i x s, items[i]? = some x → I (k + i) s → ∃ s1, b x s = some s1 ∧ ∃ s2, (body s1 = .nx s2 ∨ body s1 = .ct s2) ∧ I (k + i + 1) s2) →
    ∃ s', dFor b body items s = .nx s' ∧ I (k + items.length) s'
  | [], k, s, h0, _ => ⟨s, rfl, h0⟩
  | x :: xs, k, s, h0, st => by
    obtain ⟨s1, e1, s2, e2, h2⟩ := st 0 x s rfl h0
    have ih := for_inv I xs (k + 1) s2 h2 fun i y s hy hi => by
      have := st (i + 1) y s (by simpa using hy) (by rw [show k + (i + 1) = k + 1 + i by omega]; exact hi)
      rw [show k + (i + 1) + 1 = k + 1 + i + 1 by omega] at this
      exact this
    obtain ⟨s', e3, h3⟩ := ih
    refine ⟨s', ?_, by rw [List.length_cons, show k + (xs.length + 1) = k + 1 + xs.length by omega]; exact h3⟩
    rw [dFor_cons, e1, onS_some]
    rcases e2 with e2 | e2 <;> rw [e2] <;> exact e3
/-- .. over a list that is told by other things -/
theorem for_map {α : Type} {b : BM} {body : SM} (enc : α → D) (I : List α → DSt → Prop) (xs : List α) (s : DSt) (h0 : I [] s)
    (st : ∀ pre x post s, xs = pre ++ x :: post → I pre s → ∃ s1, b (enc x) s = some s1 ∧ ∃ s2, (body s1 = .nx s2 ∨ body s1 = .ct s2) ∧ I (pre ++ [x]) s2) : ∃ s', dFor b body (xs.map enc) s = .nx s' ∧ I xs s' := by
  have key : ∀ (post pre : List α) (s : DSt), xs = pre ++ post → I pre s → ∃ s', dFor b body (post.map enc) s = .nx s' ∧ I xs s' := by
    intro post
    induction post with
    | nil => intro pre s e h; rw [List.append_nil] at e; subst e; exact ⟨s, rfl, h⟩
    | cons x post ih =>
      intro pre s e h
      obtain ⟨s1, e1, s2, e2, h2⟩ := st pre x post s e h
      obtain ⟨s', e3, h3⟩ := ih (pre ++ [x]) s2 (by rw [e]; simp) h2
      refine ⟨s', ?_, h3⟩
      rw [List.map_cons, dFor_cons, e1, onS_some]
      rcases e2 with e2 | e2 <;> rw [e2] <;> exact e3
  exact key xs [] s rfl h0
/-- a loop that may return -/
theorem for_ret {α : Type} {b : BM} {body : SM} (enc : α → D) (I : List α → DSt → Prop) (Q : D → Prop) (xs : List α) (s : DSt) (h0 : I [] s)
    (st : ∀ pre x post s, xs = pre ++ x :: post → I pre s → ∃ s1, b (enc x) s = some s1 ∧ ((∃ s2, (body s1 = .nx s2 ∨ body s1 = .ct s2) ∧ I (pre ++ [x]) s2) ∨ ∃ d, body s1 = .rt d ∧ Q d)) :
    (∃ s', dFor b body (xs.map enc) s = .nx s' ∧ I xs s') ∨ ∃ d, dFor b body (xs.map enc) s = .rt d ∧ Q d := by
  have key : ∀ (post pre : List α) (s : DSt), xs = pre ++ post → I pre s → (∃ s', dFor b body (post.map enc) s = .nx s' ∧ I xs s') ∨ ∃ d, dFor b body (post.map enc) s = .rt d ∧ Q d := by
    intro post
    induction post with
    | nil => intro pre s e h; rw [List.append_nil] at e; subst e; exact .inl ⟨s, rfl, h⟩
    | cons x post ih =>
      intro pre s e h
      obtain ⟨s1, e1, h1⟩ := st pre x post s e h
      rw [List.map_cons, dFor_cons, e1, onS_some]
      rcases h1 with ⟨s2, e2, h2⟩ | ⟨d, e2, h2⟩
      · have ih' := ih (pre ++ [x]) s2 (by rw [e]; simp) h2
        rcases e2 with e2 | e2 <;> rw [e2] <;> exact ih'
      · rw [e2]; exact .inr ⟨d, rfl, h2⟩
  exact key xs [] s rfl h0
/-- a comprehension -/
theorem lc_map {α : Type} {b : BM} {t : TM} {f : EM} {s : DSt} (enc : α → D) (p : α → Bool) (g : α → D) : ∀ (xs : List α), (∀ x ∈ xs, ∃ s1, b (enc x) s = some s1 ∧ t s1 = .ok (p x) ∧ (p x = true → f s1 = .ok (g x))) → dLc b t f s (xs.map enc) = .ok ((xs.filter p).map g)
  | [], _ => rfl
  | x :: xs, h => by
    obtain ⟨s1, e1, e2, e3⟩ := h x List.mem_cons_self
    have ih := lc_map enc p g xs fun y hy => h y (List.mem_cons_of_mem _ hy)
    rw [List.map_cons, dLc_cons, e1, onR_some, e2, noEx_ok, R.bind_ok, ih]
    cases hp : p x with
    | true => rw [if_pos rfl, e3 hp, noEx_ok, R.bind_ok, R.bind_ok, List.filter_cons_of_pos hp, List.map_cons]
    | false => rw [if_neg (by decide), List.filter_cons_of_neg (by simp [hp])]
theorem lc_all {α : Type} {b : BM} {f : EM} {s : DSt} (enc : α → D) (g : α → D) (xs : List α) (h : ∀ x ∈ xs, ∃ s1, b (enc x) s = some s1 ∧ f s1 = .ok (g x)) : dLc b tYesM f s (xs.map enc) = .ok (xs.map g) := by
  have := lc_map (t := tYesM) enc (fun _ => true) g xs fun x hx => let ⟨s1, e1, e2⟩ := h x hx; ⟨s1, e1, rfl, fun _ => e2⟩
  rw [this, List.filter_eq_self.mpr (fun _ _ => rfl)]
theorem enumD_map {α : Type} (enc : α → D) : ∀ (xs : List α) (k : Nat), enumD k (xs.map enc) = (xs.zipIdx k).map fun p => .tuple [.int (p.2 : Nat), enc p.1]
  | [], _ => rfl
  | x :: xs, k => by rw [List.map_cons, enumD_cons, enumD_map enc xs (k + 1)]; rfl
@[simp] theorem sizeLine_val : sizeLine = 16777216 := sizeLine_eq
theorem mulOk_l {i j : Int} (h : -18446744073709551616 < i) (h2 : i < 18446744073709551616) : MulB i j := .inl ⟨h, h2⟩
theorem mulOk_r {i j : Int} (h : -18446744073709551616 < j) (h2 : j < 18446744073709551616) : MulB i j := .inr ⟨h, h2⟩
theorem atI_getD {α : Type} {l : List α} {i : Int} (d : α) (h0 : 0 ≤ i) (h1 : i < l.length) : atI l i = some (l.getD i.toNat d) := by
  have h : i.toNat < l.length := by omega
  exact atI_ofNat (n := i.toNat) (by omega) (by simp [List.getD, List.getElem?_eq_getElem h])
theorem str_len (l : List Nat) : (⟨l.toArray⟩ : Str).length = l.length := by simp [Str.length]
theorem str_app (a b : List Nat) : (⟨a.toArray⟩ : Str) ++ (⟨b.toArray⟩ : Str) = ⟨(a ++ b).toArray⟩ := by
  show Str.append _ _ = _
  simp [Str.append]
theorem str_nil : ("" : Str) = ⟨([] : List Nat).toArray⟩ := by decide +kernel
theorem range_cut {n : Nat} {pre post : List Nat} {x : Nat} (h : List.range n = pre ++ x :: post) : x = pre.length ∧ pre = List.range pre.length ∧ x < n := by
  have hl : pre.length < n := by
    have := congrArg List.length h
    simp at this
    omega
  have hx : (List.range n)[pre.length]? = some x := by rw [h]; simp
  rw [List.getElem?_range hl] at hx
  cases hx
  refine ⟨rfl, ?_, hl⟩
  have := congrArg (List.take pre.length) h
  rw [List.take_range, List.take_left, Nat.min_eq_left (Nat.le_of_lt hl)] at this
  exact this.symm
end ML

set_option Elab.async false
set_option linter.all false
set_option maxRecDepth 100000
set_option maxHeartbeats 4000000
namespace LW
open PySem L2 DL
def top (i : Nat) : Stmt := PySem.Challenge.pw_menutree_k18_rings_of_hours.main.body.getD i (.Pass ⟨0, 0, 0, 0⟩)
abbrev s_handed : Stmt := top 1
abbrev s_key_of : Stmt := top 3
abbrev s_code_of : Stmt := top 4
abbrev s_named_in : Stmt := top 7
abbrev s_lost_names : Stmt := top 8
abbrev s_coded : Stmt := top 9
abbrev s_lettered : Stmt := top 10
abbrev s_twins : Stmt := top 11
abbrev s_comes_back : Stmt := top 12
abbrev s_rings : Stmt := top 13
abbrev s_faults : Stmt := top 14
abbrev s__law_cell_at : Stmt := top 16
abbrev s__law_mixed : Stmt := top 17
abbrev s__law_names : Stmt := top 18
abbrev s__law_house : Stmt := top 19
abbrev s__law_next : Stmt := top 20
abbrev s__law_due : Stmt := top 21
abbrev s_law : Stmt := top 22
/-! mirrors -/
noncomputable section
abbrev N_handed : List Str := ["room", "hour", "first", "last", "name"]
def m_handed_b1 : SM := (mIf (tE (eChain dLe dLt (eVar 2) (eVar 1) (eVar 3))) (mRet (eVar 4)) mNx)
def m_handed : SM := (mSeq (mFor (nIter (eOp dIdx (eVar 0) (eC (.int 1)))) (bTup 3 (bCons (bName 2) (bCons (bName 3) (bCons (bName 4) bNil)))) m_handed_b1)
  (mRet (eOp dIdx (eVar 0) (eC (.int 2)))))
def M_handed : List D → R D := fnM 5 m_handed
abbrev N_key_of : List Str := ["letters", "letter", "key", "some"]
def m_key_of : SM := (fun _ => .bad)
def M_key_of : List D → R D := fnM 4 m_key_of
abbrev N_code_of : List Str := ["letters", "word", "code", "letter", "key"]
def m_code_of : SM := (fun _ => .bad)
def M_code_of : List D → R D := fnM 5 m_code_of
abbrev N_named_in : List Str := ["room", "limits", "first", "last", "name", "key"]
def m_named_in : SM := (mSeq (mIf (tE (eOp dEqA (eOp dIdx (eVar 0) (eC (.int 0))) (eC (.str "hours")))) (mRet (eOp dAdd (eLst (aCons (eOp dIdx (eVar 0) (eC (.int 2))) aNil)) (eLst (nLc (nSeq (eOp dIdx (eVar 0) (eC (.int 1)))) (bTup 3 (bCons (bName 2) (bCons (bName 3) (bCons (bName 4) bNil)))) tYesM (eVar 4) [2, 3, 4])))) mNx)
  (mSeq (mIf (tE (eIn (eOp dIdx (eVar 0) (eC (.int 0))) (eLst (aCons (eC (.str "menu")) (aCons (eC (.str "names")) aNil))))) (mSeq (mAsg (eLst (aCons (eOp dIdx (eOp dIdx (eVar 0) (eC (.int 3))) (eC (.int 1))) (aCons (eOp dIdx (eOp dIdx (eVar 0) (eC (.int 4))) (eC (.int 1))) aNil))) (bName 1))
  (mRet (eOp dAdd (eVar 1) (eLst (nLc (nSeq (eOp dIdx (eVar 0) (eC (.int 2)))) (bTup 2 (bCons (bName 5) (bCons (bName 4) bNil))) (tOr2 (tE (eOp dEqA (eOp dIdx (eVar 0) (eC (.int 0))) (eC (.str "names")))) (tE (eOp dNeA (eVar 4) (eC (.str "back"))))) (eVar 4) [5, 4]))))) mNx)
  (mRet (eLst aNil))))
def M_named_in : List D → R D := fnM 6 m_named_in
abbrev N_lost_names : List Str := ["house", "rooms", "found", "name", "target"]
def m_lost_names_b1 : SM := (mIf (tE (eNotIn (eVar 4) (eVar 1))) (mApp 2 (eTup (aCons (eC (.str "lost")) (aCons (eVar 3) (aCons (eVar 4) aNil))))) mNx)
def m_lost_names_b2 : SM := (mFor (nSeq (eCall (fun ds => noEx (M_named_in ds)) (aCons (eOp dIdx (eVar 1) (eVar 3)) aNil))) (bName 4) m_lost_names_b1)
def m_lost_names : SM := (mSeq (mAsg (eOp dIdx (eVar 0) (eC (.str "rooms"))) (bName 1))
  (mSeq (mSetL 2 aNil)
  (mSeq (mIf (tE (eNotIn (eOp dIdx (eVar 0) (eC (.str "first"))) (eVar 1))) (mApp 2 (eTup (aCons (eC (.str "lost")) (aCons (eC (.str "")) (aCons (eOp dIdx (eVar 0) (eC (.str "first"))) aNil))))) mNx)
  (mSeq (mFor (nIter (eVar 1)) (bName 3) m_lost_names_b2)
  (mFrz 2 (mRet (eVar 2)))))))
def M_lost_names : List D → R D := fnM 5 m_lost_names
abbrev N_coded : List Str := ["house", "name", "room", "word", "target"]
def m_coded : SM := (mSeq (mAsg (eOp dIdx (eOp dIdx (eVar 0) (eC (.str "rooms"))) (eVar 1)) (bName 2))
  (mSeq (mIf (tE (eOp dNeA (eOp dIdx (eVar 2) (eC (.int 0))) (eC (.str "names")))) (mRet (eLst aNil)) mNx)
  (mRet (eLst (nLc (nSeq (eOp dIdx (eVar 2) (eC (.int 2)))) (bTup 2 (bCons (bName 3) (bCons (bName 4) bNil))) tYesM (eTup (aCons (eVar 3) (aCons (eCall (fun ds => noEx (M_code_of ds)) (aCons (eOp dIdx (eVar 0) (eC (.str "letters"))) (aCons (eVar 3) aNil))) aNil))) [3, 4])))))
def M_coded : List D → R D := fnM 5 m_coded
abbrev N_lettered : List Str := ["house", "found", "name", "word", "code"]
def m_lettered_b1 : SM := (mIf (tE (eUn dIsN (eVar 4))) (mApp 1 (eTup (aCons (eC (.str "letter")) (aCons (eVar 2) (aCons (eVar 3) aNil))))) mNx)
def m_lettered_b2 : SM := (mFor (nSeq (eCall (fun ds => noEx (M_coded ds)) (aCons (eVar 0) (aCons (eVar 2) aNil)))) (bTup 2 (bCons (bName 3) (bCons (bName 4) bNil))) m_lettered_b1)
def m_lettered : SM := (mSeq (mSetL 1 aNil)
  (mSeq (mFor (nIter (eOp dIdx (eVar 0) (eC (.str "rooms")))) (bName 2) m_lettered_b2)
  (mFrz 1 (mRet (eVar 1)))))
def M_lettered : List D → R D := fnM 5 m_lettered
abbrev N_twins : List Str := ["house", "found", "name", "some", "k", "word", "code", "other", "twin"]
def m_twins_b1 : SM := (mIf (tAnd2 (tE (eUn dNotN (eVar 6))) (tE (eOp dEqA (eVar 6) (eVar 8)))) (mApp 1 (eTup (aCons (eC (.str "twins")) (aCons (eVar 2) (aCons (eVar 5) (aCons (eVar 7) aNil)))))) mNx)
def m_twins_b2 : SM := (mFor (nSeq (eSl (eVar 3) (oInt (eOp dAdd (eVar 4) (eC (.int 1)))) oNo)) (bTup 2 (bCons (bName 7) (bCons (bName 8) bNil))) m_twins_b1)
def m_twins_b3 : SM := (mSeq (mAsg (eCall (fun ds => noEx (M_coded ds)) (aCons (eVar 0) (aCons (eVar 2) aNil))) (bName 3))
  (mFor (nEnum (aCons (eVar 3) aNil)) (bTup 2 (bCons (bName 4) (bCons (bTup 2 (bCons (bName 5) (bCons (bName 6) bNil))) bNil))) m_twins_b2))
def m_twins : SM := (mSeq (mSetL 1 aNil)
  (mSeq (mFor (nIter (eOp dIdx (eVar 0) (eC (.str "rooms")))) (bName 2) m_twins_b3)
  (mFrz 1 (mRet (eVar 1)))))
def M_twins : List D → R D := fnM 9 m_twins
abbrev N_comes_back : List Str := ["house", "hour", "name", "rooms", "here", "turn"]
def m_comes_back_b1 : SM := (mSeq (mIf (tOr2 (tE (eNotIn (eVar 4) (eVar 3))) (tE (eOp dNeA (eOp dIdx (eOp dIdx (eVar 3) (eVar 4)) (eC (.int 0))) (eC (.str "hours"))))) (mRet (eC (.bool false))) mNx)
  (mSeq (mAsg (eCall (fun ds => noEx (M_handed ds)) (aCons (eOp dIdx (eVar 3) (eVar 4)) (aCons (eVar 1) aNil))) (bName 4))
  (mIf (tE (eOp dEqA (eVar 4) (eVar 2))) (mRet (eC (.bool true))) mNx)))
def m_comes_back : SM := (mSeq (mAsg (eOp dIdx (eVar 0) (eC (.str "rooms"))) (bName 3))
  (mSeq (mAsg (eVar 2) (bName 4))
  (mSeq (mFor (nRng (aCons (eCall dLen (aCons (eVar 3) aNil)) aNil)) (bName 5) m_comes_back_b1)
  (mRet (eC (.bool false))))))
def M_comes_back : List D → R D := fnM 6 m_comes_back
abbrev N_rings : List Str := ["house", "found", "hour", "name"]
def m_rings_b1 : SM := (mIf (tAnd2 (tE (eOp dEqA (eOp dIdx (eOp dIdx (eOp dIdx (eVar 0) (eC (.str "rooms"))) (eVar 3)) (eC (.int 0))) (eC (.str "hours")))) (tTru (eCall (fun ds => noEx (M_comes_back ds)) (aCons (eVar 0) (aCons (eVar 2) (aCons (eVar 3) aNil)))))) (mApp 1 (eTup (aCons (eC (.str "ring")) (aCons (eVar 2) (aCons (eVar 3) aNil))))) mNx)
def m_rings_b2 : SM := (mFor (nIter (eOp dIdx (eVar 0) (eC (.str "rooms")))) (bName 3) m_rings_b1)
def m_rings : SM := (mSeq (mSetL 1 aNil)
  (mSeq (mFor (nRng (aCons (eC (.int 24)) aNil)) (bName 2) m_rings_b2)
  (mFrz 1 (mRet (eVar 1)))))
def M_rings : List D → R D := fnM 4 m_rings
abbrev N_faults : List Str := ["house"]
def m_faults : SM := (mRet (eOp dAdd (eOp dAdd (eOp dAdd (eCall (fun ds => noEx (M_lost_names ds)) (aCons (eVar 0) aNil)) (eCall (fun ds => noEx (M_lettered ds)) (aCons (eVar 0) aNil))) (eCall (fun ds => noEx (M_twins ds)) (aCons (eVar 0) aNil))) (eCall (fun ds => noEx (M_rings ds)) (aCons (eVar 0) aNil))))
def M_faults : List D → R D := fnM 1 m_faults
abbrev N__law_cell_at : List Str := ["_law_script", "_law_k"]
def m__law_cell_at : SM := (mSeq (mIf (tE (eOp dLt (eVar 1) (eCall dLen (aCons (eVar 0) aNil)))) (mRet (eOp dIdx (eVar 0) (eVar 1))) mNx)
  (mRet (eC (.int 0))))
def M__law_cell_at : List D → R D := fnM 2 m__law_cell_at
abbrev N__law_mixed : List Str := ["_law_cell", "_law_by"]
def m__law_mixed : SM := (mRet (eOp dMod (eOp dMul (eOp dMod (eVar 0) (eC (.int 2147483647))) (eVar 1)) (eC (.int 2147483647))))
def M__law_mixed : List D → R D := fnM 2 m__law_mixed
abbrev N__law_names : List Str := ["_law_number", "_law_many", "_law_letters", "_law_size", "_law_at", "_law_names_here", "_law_turn", "_law_name", "_law_k", "_law_more"]
def m__law_names_b1 : SM := (mSeq (mAsg (eOp dMul (eVar 6) (eCall dInt (aCons (eOp dEqA (eVar 8) (eVar 4)) aNil))) (bName 9))
  (mAsg (eOp dAdd (eVar 7) (eOp dIdx (eVar 2) (eOp dMod (eOp dAdd (eOp dDiv (eVar 0) (eOp dAdd (eVar 8) (eC (.int 2)))) (eVar 9)) (eC (.int 24))))) (bName 7)))
def m__law_names_b2 : SM := (mSeq (mAsg (eC (.str "")) (bName 7))
  (mSeq (mFor (nRng (aCons (eVar 3) aNil)) (bName 8) m__law_names_b1)
  (mApp 5 (eVar 7))))
def m__law_names : SM := (mSeq (mAsg (eC (.str "acdefghijlmnopqrstuvwxyz")) (bName 2))
  (mSeq (mAsg (eOp dAdd (eC (.int 1)) (eOp dMod (eVar 0) (eC (.int 8)))) (bName 3))
  (mSeq (mAsg (eOp dMod (eOp dDiv (eVar 0) (eC (.int 8))) (eVar 3)) (bName 4))
  (mSeq (mSetL 5 aNil)
  (mSeq (mFor (nRng (aCons (eVar 1) aNil)) (bName 6) m__law_names_b2)
  (mFrz 5 (mRet (eVar 5))))))))
def M__law_names : List D → R D := fnM 10 m__law_names
abbrev N__law_house : List Str := ["_law_script", "_law_cells", "_law_names_here", "_law_rooms", "_law_k", "_law_cell", "_law_number", "_law_spans", "_law_j", "_law_first", "_law_last"]
def m__law_house_b1 : SM := (mSeq (mAsg (eOp dMod (eOp dDiv (eVar 6) (eOp dAdd (eC (.int 9)) (eOp dMul (eC (.int 3)) (eVar 8)))) (eC (.int 24))) (bName 9))
  (mSeq (mAsg (eOp dAdd (eOp dAdd (eVar 9) (eC (.int 1))) (eOp dMod (eOp dDiv (eVar 6) (eOp dAdd (eC (.int 11)) (eOp dMul (eC (.int 5)) (eVar 8)))) (eOp dSub (eC (.int 24)) (eVar 9)))) (bName 10))
  (mApp 7 (eTup (aCons (eVar 9) (aCons (eVar 10) (aCons (eOp dIdx (eVar 2) (eOp dMod (eOp dDiv (eVar 6) (eOp dAdd (eC (.int 3)) (eVar 8))) (eCall dLen (aCons (eVar 2) aNil)))) aNil)))))))
def m__law_house_b2 : SM := (mSeq (mAsg (eCall (fun ds => noEx (M__law_mixed ds)) (aCons (eOp dAdd (eVar 5) (eVar 4)) (aCons (eC (.int 48271)) aNil))) (bName 6))
  (mSeq (mSetL 7 aNil)
  (mSeq (mFor (nRng (aCons (eOp dMod (eOp dDiv (eVar 6) (eC (.int 8))) (eC (.int 4))) aNil)) (bName 8) m__law_house_b1)
  (mSeq (mFrz 7 (mPut 3 (eTup (aCons (eC (.str "hours")) (aCons (eCall dTupC (aCons (eVar 7) aNil)) (aCons (eOp dIdx (eVar 2) (eOp dMod (eOp dDiv (eVar 6) (eC (.int 32))) (eCall dLen (aCons (eVar 2) aNil)))) aNil)))) (eOp dIdx (eVar 2) (eVar 4))))
  (mIf (tE (eOp dEqA (eOp dMod (eVar 6) (eC (.int 4))) (eC (.int 0)))) (mPut 3 (eTup (aCons (eC (.str "hand")) (aCons (eC (.str "So it is")) aNil))) (eOp dIdx (eVar 2) (eVar 4))) mNx)))))
def m__law_house : SM := (mSeq (mAsg (eOp dAdd (eLst (aCons (eCall (fun ds => noEx (M__law_cell_at ds)) (aCons (eVar 0) (aCons (eC (.int 1)) aNil))) aNil)) (eSl (eVar 0) (oInt (eC (.int 2))) (oInt (eC (.int 9))))) (bName 1))
  (mSeq (mAsg (eCall (fun ds => noEx (M__law_names ds)) (aCons (eCall (fun ds => noEx (M__law_mixed ds)) (aCons (eCall (fun ds => noEx (M__law_cell_at ds)) (aCons (eVar 0) (aCons (eC (.int 0)) aNil))) (aCons (eC (.int 16807)) aNil))) (aCons (eCall dLen (aCons (eVar 1) aNil)) aNil))) (bName 2))
  (mSeq (mSetE 3)
  (mSeq (mFor (nEnum (aCons (eVar 1) aNil)) (bTup 2 (bCons (bName 4) (bCons (bName 5) bNil))) m__law_house_b2)
  (mFrz 3 (mRet (eDict (kCons (eC (.str "first")) (eOp dIdx (eVar 2) (eC (.int 0))) (kCons (eC (.str "letters")) (eLst aNil) (kCons (eC (.str "rooms")) (eVar 3) kNil))))))))))
def M__law_house : List D → R D := fnM 11 m__law_house
abbrev N__law_next : List Str := ["_law_room", "_law_hour", "_law_covered", "_law_first", "_law_last", "_law_name"]
def m__law_next : SM := (mSeq (mAsg (eLst (nLc (nSeq (eOp dIdx (eVar 0) (eC (.int 1)))) (bTup 3 (bCons (bName 3) (bCons (bName 4) (bCons (bName 5) bNil)))) (tAnd2 (tE (eOp dLe (eVar 3) (eVar 1))) (tE (eOp dLt (eVar 1) (eVar 4)))) (eVar 5) [3, 4, 5])) (bName 2))
  (mRet (eOp dIdx (eOp dAdd (eVar 2) (eLst (aCons (eOp dIdx (eVar 0) (eC (.int 2))) aNil))) (eC (.int 0)))))
def M__law_next : List D → R D := fnM 6 m__law_next
abbrev N__law_due : List Str := ["_law_rooms", "_law_due_here", "_law_hour", "_law_name", "_law_met", "_law_here"]
def m__law_due_b1 : SM := (mSeq (mApp 4 (eVar 5))
  (mAsg (eCall (fun ds => noEx (M__law_next ds)) (aCons (eOp dIdx (eVar 0) (eVar 5)) (aCons (eVar 2) aNil))) (bName 5)))
def m__law_due_b2 : SM := (mSeq (mSetL 4 aNil)
  (mSeq (mAsg (eVar 3) (bName 5))
  (mSeq (mWh wFuel (tAnd2 (tE (eOp dEqA (eOp dIdx (eOp dIdx (eVar 0) (eVar 5)) (eC (.int 0))) (eC (.str "hours")))) (tE (eNotInO 4 (eVar 5)))) m__law_due_b1)
  (mFrz 4 (mIf (tAnd2 (tE (eOp dNeA (eVar 4) (eLst aNil))) (tE (eOp dEqA (eVar 5) (eVar 3)))) (mApp 1 (eTup (aCons (eC (.str "ring")) (aCons (eVar 2) (aCons (eVar 3) aNil))))) mNx)))))
def m__law_due_b3 : SM := (mFor (nIter (eVar 0)) (bName 3) m__law_due_b2)
def m__law_due : SM := (mSeq (mSetL 1 aNil)
  (mSeq (mFor (nRng (aCons (eC (.int 24)) aNil)) (bName 2) m__law_due_b3)
  (mFrz 1 (mRet (eVar 1)))))
def M__law_due : List D → R D := fnM 6 m__law_due
abbrev N_law : List Str := ["_law_script", "_law_house_here", "_law_found", "_law_one"]
def m_law_b1 : SM := (mIf (tOr2 (tNot2 (tTru (eUn (dIsi .tuple) (eVar 3)))) (tTru (eUn (dIsi .bool) (eOp dIdx (eVar 3) (eC (.int 1)))))) (mRet (eC (.bool false))) mNx)
def m_law : SM := (mSeq (mAsg (eCall (fun ds => noEx (M__law_house ds)) (aCons (eVar 0) aNil)) (bName 1))
  (mSeq (mAsg (eCall (fun ds => noEx (M_faults ds)) (aCons (eVar 1) aNil)) (bName 2))
  (mSeq (mIf (tOr2 (tNot2 (tTru (eUn (dIsi .list) (eVar 2)))) (tE (eOp dNeA (eVar 2) (eCall (fun ds => noEx (M__law_due ds)) (aCons (eOp dIdx (eVar 1) (eC (.str "rooms"))) aNil))))) (mRet (eC (.bool false))) mNx)
  (mSeq (mFor (nIter (eVar 2)) (bName 3) m_law_b1)
  (mRet (eOp dEqH (eVar 1) (eCall (fun ds => noEx (M__law_house ds)) (aCons (eVar 0) aNil))))))))
def M_law : List D → R D := fnM 4 m_law
end
/-! what the top has left -/
structure Tx (K : Fg) (mg : Str → Option Value) where
  f_handed : Addr
  d_handed : FuncData
  F_handed : FnP K "handed" "handed" s_handed f_handed d_handed
  m_handed : mg "handed" = some (.ref f_handed)
  b_handed : Binds K d_handed ["room", "hour"] []
  f_key_of : Addr
  d_key_of : FuncData
  F_key_of : FnP K "key_of" "key_of" s_key_of f_key_of d_key_of
  m_key_of : mg "key_of" = some (.ref f_key_of)
  b_key_of : Binds K d_key_of ["letters", "letter"] []
  f_code_of : Addr
  d_code_of : FuncData
  F_code_of : FnP K "code_of" "code_of" s_code_of f_code_of d_code_of
  m_code_of : mg "code_of" = some (.ref f_code_of)
  b_code_of : Binds K d_code_of ["letters", "word"] []
  f_named_in : Addr
  d_named_in : FuncData
  F_named_in : FnP K "named_in" "named_in" s_named_in f_named_in d_named_in
  m_named_in : mg "named_in" = some (.ref f_named_in)
  b_named_in : Binds K d_named_in ["room"] []
  f_lost_names : Addr
  d_lost_names : FuncData
  F_lost_names : FnP K "lost_names" "lost_names" s_lost_names f_lost_names d_lost_names
  m_lost_names : mg "lost_names" = some (.ref f_lost_names)
  b_lost_names : Binds K d_lost_names ["house"] []
  f_coded : Addr
  d_coded : FuncData
  F_coded : FnP K "coded" "coded" s_coded f_coded d_coded
  m_coded : mg "coded" = some (.ref f_coded)
  b_coded : Binds K d_coded ["house", "name"] []
  f_lettered : Addr
  d_lettered : FuncData
  F_lettered : FnP K "lettered" "lettered" s_lettered f_lettered d_lettered
  m_lettered : mg "lettered" = some (.ref f_lettered)
  b_lettered : Binds K d_lettered ["house"] []
  f_twins : Addr
  d_twins : FuncData
  F_twins : FnP K "twins" "twins" s_twins f_twins d_twins
  m_twins : mg "twins" = some (.ref f_twins)
  b_twins : Binds K d_twins ["house"] []
  f_comes_back : Addr
  d_comes_back : FuncData
  F_comes_back : FnP K "comes_back" "comes_back" s_comes_back f_comes_back d_comes_back
  m_comes_back : mg "comes_back" = some (.ref f_comes_back)
  b_comes_back : Binds K d_comes_back ["house", "hour", "name"] []
  f_rings : Addr
  d_rings : FuncData
  F_rings : FnP K "rings" "rings" s_rings f_rings d_rings
  m_rings : mg "rings" = some (.ref f_rings)
  b_rings : Binds K d_rings ["house"] []
  f_faults : Addr
  d_faults : FuncData
  F_faults : FnP K "faults" "faults" s_faults f_faults d_faults
  m_faults : mg "faults" = some (.ref f_faults)
  b_faults : Binds K d_faults ["house"] []
  f__law_cell_at : Addr
  d__law_cell_at : FuncData
  F__law_cell_at : FnP K "_law_cell_at" "_law_cell_at" s__law_cell_at f__law_cell_at d__law_cell_at
  m__law_cell_at : mg "_law_cell_at" = some (.ref f__law_cell_at)
  b__law_cell_at : Binds K d__law_cell_at ["_law_script", "_law_k"] []
  f__law_mixed : Addr
  d__law_mixed : FuncData
  F__law_mixed : FnP K "_law_mixed" "_law_mixed" s__law_mixed f__law_mixed d__law_mixed
  m__law_mixed : mg "_law_mixed" = some (.ref f__law_mixed)
  b__law_mixed : Binds K d__law_mixed ["_law_cell", "_law_by"] []
  f__law_names : Addr
  d__law_names : FuncData
  F__law_names : FnP K "_law_names" "_law_names" s__law_names f__law_names d__law_names
  m__law_names : mg "_law_names" = some (.ref f__law_names)
  b__law_names : Binds K d__law_names ["_law_number", "_law_many"] []
  f__law_house : Addr
  d__law_house : FuncData
  F__law_house : FnP K "_law_house" "_law_house" s__law_house f__law_house d__law_house
  m__law_house : mg "_law_house" = some (.ref f__law_house)
  b__law_house : Binds K d__law_house ["_law_script"] []
  f__law_next : Addr
  d__law_next : FuncData
  F__law_next : FnP K "_law_next" "_law_next" s__law_next f__law_next d__law_next
  m__law_next : mg "_law_next" = some (.ref f__law_next)
  b__law_next : Binds K d__law_next ["_law_room", "_law_hour"] []
  f__law_due : Addr
  d__law_due : FuncData
  F__law_due : FnP K "_law_due" "_law_due" s__law_due f__law_due d__law_due
  m__law_due : mg "_law_due" = some (.ref f__law_due)
  b__law_due : Binds K d__law_due ["_law_rooms"] []
  f_law : Addr
  d_law : FuncData
  F_law : FnP K "law" "law" s_law f_law d_law
  m_law : mg "law" = some (.ref f_law)
  b_law : Binds K d_law ["_law_script"] []
  t_HOURS : Tok
  c_HOURS : mg "HOURS" = some (.int 24 t_HOURS)
  n_bool : mg "bool" = none
  n_enumerate : mg "enumerate" = none
  n_int : mg "int" = none
  n_isinstance : mg "isinstance" = none
  n_len : mg "len" = none
  n_list : mg "list" = none
  n_range : mg "range" = none
  n_tuple : mg "tuple" = none
section
variable {P : Program} {w : World} {K : Fg} {mg : Str → Option Value} {base : Heap}
theorem sc_handed : FnScope N_handed ["room", "hour"] (defScope s_handed) := ⟨rfl, rfl, rfl, by decide +kernel, rfl, by decide +kernel, by decide +kernel⟩
theorem ok_handed (T : Tx K mg) : FnOk P w K mg base CX0 1 T.f_handed T.d_handed ["room", "hour"] (spM K (fun _ => Z0) 2 M_handed) :=
  fn_okD T.F_handed sc_handed fun cdv A outer s H E hr => by
    show DSs _ Z0 _ m_handed
    exact (dss_cons (ds_forP PassesOwn.never rfl (dp_ix (r1 hr) (dp_var 0) dp_int) (dg_tup rfl (dgs_cons (dg_name 2 sc_handed.nd) (dgs_cons (dg_name 3 sc_handed.nd) (dgs_cons (dg_name 4 sc_handed.nd) dgs_nil)))) (dss_one (ds_if (dt_chain dc_le dc_lt (dv 2) (dv 1) (dv 3)) (dss_one (ds_ret (dv 4))) dss_nil)))
    (dss_one (ds_ret (de_ix (r1 hr) (dv 0) de_int))))
theorem sc_key_of : FnScope N_key_of ["letters", "letter"] (defScope s_key_of) := ⟨rfl, rfl, rfl, by decide +kernel, rfl, by decide +kernel, by decide +kernel⟩
theorem ok_key_of (T : Tx K mg) : FnOk P w K mg base CX0 1 T.f_key_of T.d_key_of ["letters", "letter"] (spM K (fun _ => Z0) 2 M_key_of) :=
  fn_okD T.F_key_of sc_key_of fun cdv A outer s H E hr => by
    show DSs _ Z0 _ m_key_of
    exact (dss_never _)
theorem sc_code_of : FnScope N_code_of ["letters", "word"] (defScope s_code_of) := ⟨rfl, rfl, rfl, by decide +kernel, rfl, by decide +kernel, by decide +kernel⟩
theorem ok_code_of (T : Tx K mg) : FnOk P w K mg base CX0 1 T.f_code_of T.d_code_of ["letters", "word"] (spM K (fun _ => Z0) 2 M_code_of) :=
  fn_okD T.F_code_of sc_code_of fun cdv A outer s H E hr => by
    show DSs _ Z0 _ m_code_of
    exact (dss_never _)
theorem sc_named_in : FnScope N_named_in ["room"] (defScope s_named_in) := ⟨rfl, rfl, rfl, by decide +kernel, rfl, by decide +kernel, by decide +kernel⟩
theorem ok_named_in (T : Tx K mg) : FnOk P w K mg base CX0 1 T.f_named_in T.d_named_in ["room"] (spM K (fun _ => Z0) 1 M_named_in) :=
  fn_okD T.F_named_in sc_named_in fun cdv A outer s H E hr => by
    show DSs _ Z0 _ m_named_in
    exact (dss_cons (ds_if (dt_cmp (dc_eq hr.units) (de_ix (r1 hr) (dv 0) de_int) de_str) (dss_one (ds_ret (de_add ((dn_lst (da_cons (de_ix (r1 hr) (dv 0) de_int) da_nil))).de ((dn_lc [("first", 2), ("last", 3), ("name", 4)] rfl sc_named_in.nd (di_seq (de_ix (r1 hr) (dv 0) de_int)) (blk_ok (N := N_named_in) (sc := defScope s_named_in) (own := [("first", 2), ("last", 3), ("name", 4)]) (by decide +kernel)) (fun _ _ _ _ _ => (dgc_tup rfl (dgsc_cons (dgc_name 2 sc_named_in.nd) (dgsc_cons (dgc_name 3 sc_named_in.nd) (dgsc_cons (dgc_name 4 sc_named_in.nd) dgsc_nil))))) (fun _ _ _ _ _ => dts_nil) (fun _ _ _ _ _ => (dv 4)))).de))) dss_nil)
    (dss_cons (ds_if (dc_in (r65 hr) (de_ix (r1 hr) (dv 0) de_int) ((dn_lst (da_cons de_str (da_cons de_str da_nil)))).de).2 (dss_cons (ds_set 1 sc_named_in.nd ((dn_lst (da_cons (de_ix (r1 hr) (de_ix (r1 hr) (dv 0) de_int) de_int) (da_cons (de_ix (r1 hr) (de_ix (r1 hr) (dv 0) de_int) de_int) da_nil)))).de)
    (dss_one (ds_ret (de_add (dv 1) ((dn_lc [("key", 5), ("name", 4)] rfl sc_named_in.nd (di_seq (de_ix (r1 hr) (dv 0) de_int)) (blk_ok (N := N_named_in) (sc := defScope s_named_in) (own := [("key", 5), ("name", 4)]) (by decide +kernel)) (fun _ _ _ _ _ => (dgc_tup rfl (dgsc_cons (dgc_name 5 sc_named_in.nd) (dgsc_cons (dgc_name 4 sc_named_in.nd) dgsc_nil)))) (fun _ _ _ _ _ => (dts_one ((dw_or (dt_cmp (dc_eq hr.units) (de_ix (r1 hr) (dv 0) de_int) de_str) (dw_or1 (dt_cmp (dc_ne hr.units) (dv 4) de_str)))).dt)) (fun _ _ _ _ _ => (dv 4)))).de)))) dss_nil)
    (dss_one (ds_ret ((dn_lst da_nil)).de))))
theorem sc_lost_names : FnScope N_lost_names ["house"] (defScope s_lost_names) := ⟨rfl, rfl, rfl, by decide +kernel, rfl, by decide +kernel, by decide +kernel⟩
theorem ok_lost_names (T : Tx K mg) : FnOk P w K mg base CX0 2 T.f_lost_names T.d_lost_names ["house"] (spM K (fun _ => Z0) 1 M_lost_names) :=
  fn_okD T.F_lost_names sc_lost_names fun cdv A outer s H E hr => by
    show DSs _ Z0 _ m_lost_names
    exact (dss_cons (ds_set 1 sc_lost_names.nd (de_ix (r1 hr) (dv 0) de_str))
    (dss_cons (ds_setL 2 sc_lost_names.nd (dn_lst da_nil))
    (dss_cons (ds_if (dc_notIn (r65 hr) (de_ix (r1 hr) (dv 0) de_str) (dv 1)).2 (dss_one (ds_app 2 (de_tup (da_cons de_str (da_cons de_str (da_cons (de_ix (r1 hr) (dv 0) de_str) da_nil)))) (pe := fun t pa => pe_bm PySem.F.plainAttrs_list PySem.F.slot_list_append PySem.F.type_list_append mt_append (pv 2) pa))) dss_nil)
    (dss_cons (ds_forP PassesOwn.never rfl (dp_var 1) (dg_name 3 sc_lost_names.nd) (dss_one (ds_for PassesOwn.never rfl (di_seq (de_call (ok_named_in T) (hr.mono (by decide)) T.m_named_in T.F_named_in.kp T.b_named_in (da_cons (de_ix (r1 hr) (dv 1) (dv 3)) da_nil))) (dg_name 4 sc_lost_names.nd) (dss_one (ds_if (dc_notIn (r65 hr) (dv 4) (dv 1)).2 (dss_one (ds_app 2 (de_tup (da_cons de_str (da_cons (dv 3) (da_cons (dv 4) da_nil)))) (pe := fun t pa => pe_bm PySem.F.plainAttrs_list PySem.F.slot_list_append PySem.F.type_list_append mt_append (pv 2) pa))) dss_nil)))))
    (dss_one (ds_frz 2 (ds_ret (dv 2))))))))
theorem sc_coded : FnScope N_coded ["house", "name"] (defScope s_coded) := ⟨rfl, rfl, rfl, by decide +kernel, rfl, by decide +kernel, by decide +kernel⟩
theorem ok_coded (T : Tx K mg) : FnOk P w K mg base CX0 2 T.f_coded T.d_coded ["house", "name"] (spM K (fun _ => Z0) 2 M_coded) :=
  fn_okD T.F_coded sc_coded fun cdv A outer s H E hr => by
    show DSs _ Z0 _ m_coded
    exact (dss_cons (ds_set 2 sc_coded.nd (de_ix (r1 hr) (de_ix (r1 hr) (dv 0) de_str) (dv 1)))
    (dss_cons (ds_if (dt_cmp (dc_ne hr.units) (de_ix (r1 hr) (dv 2) de_int) de_str) (dss_one (ds_ret ((dn_lst da_nil)).de)) dss_nil)
    (dss_one (ds_ret ((dn_lc [("word", 3), ("target", 4)] rfl sc_coded.nd (di_seq (de_ix (r1 hr) (dv 2) de_int)) (blk_ok (N := N_coded) (sc := defScope s_coded) (own := [("word", 3), ("target", 4)]) (by decide +kernel)) (fun _ _ _ _ _ => (dgc_tup rfl (dgsc_cons (dgc_name 3 sc_coded.nd) (dgsc_cons (dgc_name 4 sc_coded.nd) dgsc_nil)))) (fun _ _ _ _ _ => dts_nil) (fun _ _ _ _ _ => (de_tup (da_cons (dv 3) (da_cons (de_call (ok_code_of T) (hr.mono (by decide)) T.m_code_of T.F_code_of.kp T.b_code_of (da_cons (de_ix (r1 hr) (dv 0) de_str) (da_cons (dv 3) da_nil))) da_nil)))))).de))))
theorem sc_lettered : FnScope N_lettered ["house"] (defScope s_lettered) := ⟨rfl, rfl, rfl, by decide +kernel, rfl, by decide +kernel, by decide +kernel⟩
theorem ok_lettered (T : Tx K mg) : FnOk P w K mg base CX0 3 T.f_lettered T.d_lettered ["house"] (spM K (fun _ => Z0) 1 M_lettered) :=
  fn_okD T.F_lettered sc_lettered fun cdv A outer s H E hr => by
    show DSs _ Z0 _ m_lettered
    exact (dss_cons (ds_setL 1 sc_lettered.nd (dn_lst da_nil))
    (dss_cons (ds_forP PassesOwn.never rfl (dp_ix (r1 hr) (dp_var 0) dp_str) (dg_name 2 sc_lettered.nd) (dss_one (ds_for PassesOwn.never rfl (di_seq (de_call (ok_coded T) (hr.mono (by decide)) T.m_coded T.F_coded.kp T.b_coded (da_cons (dv 0) (da_cons (dv 2) da_nil)))) (dg_tup rfl (dgs_cons (dg_name 3 sc_lettered.nd) (dgs_cons (dg_name 4 sc_lettered.nd) dgs_nil))) (dss_one (ds_if (dc_isN (dv 4)).2 (dss_one (ds_app 1 (de_tup (da_cons de_str (da_cons (dv 2) (da_cons (dv 3) da_nil)))) (pe := fun t pa => pe_bm PySem.F.plainAttrs_list PySem.F.slot_list_append PySem.F.type_list_append mt_append (pv 1) pa))) dss_nil)))))
    (dss_one (ds_frz 1 (ds_ret (dv 1))))))
theorem sc_twins : FnScope N_twins ["house"] (defScope s_twins) := ⟨rfl, rfl, rfl, by decide +kernel, rfl, by decide +kernel, by decide +kernel⟩
theorem ok_twins (T : Tx K mg) : FnOk P w K mg base CX0 3 T.f_twins T.d_twins ["house"] (spM K (fun _ => Z0) 1 M_twins) :=
  fn_okD T.F_twins sc_twins fun cdv A outer s H E hr => by
    show DSs _ Z0 _ m_twins
    exact (dss_cons (ds_setL 1 sc_twins.nd (dn_lst da_nil))
    (dss_cons (ds_forP PassesOwn.never rfl (dp_ix (r1 hr) (dp_var 0) dp_str) (dg_name 2 sc_twins.nd) (dss_cons (ds_set 3 sc_twins.nd (de_call (ok_coded T) (hr.mono (by decide)) T.m_coded T.F_coded.kp T.b_coded (da_cons (dv 0) (da_cons (dv 2) da_nil))))
    (dss_one (ds_for PassesOwn.never rfl (di_enum T.n_enumerate (da_cons (dv 3) da_nil)) (dg_tup rfl (dgs_cons (dg_name 4 sc_twins.nd) (dgs_cons (dg_tup rfl (dgs_cons (dg_name 5 sc_twins.nd) (dgs_cons (dg_name 6 sc_twins.nd) dgs_nil))) dgs_nil))) (dss_one (ds_for PassesOwn.never rfl (di_seq (de_sl (dv 3) (do_some (de_add (dv 4) de_int)) do_none)) (dg_tup rfl (dgs_cons (dg_name 7 sc_twins.nd) (dgs_cons (dg_name 8 sc_twins.nd) dgs_nil))) (dss_one (ds_if ((dw_and (dc_notN (dv 6)).2 (dw_and1 (dt_cmp (dc_eq hr.units) (dv 6) (dv 8))))).dt (dss_one (ds_app 1 (de_tup (da_cons de_str (da_cons (dv 2) (da_cons (dv 5) (da_cons (dv 7) da_nil))))) (pe := fun t pa => pe_bm PySem.F.plainAttrs_list PySem.F.slot_list_append PySem.F.type_list_append mt_append (pv 1) pa))) dss_nil))))))))
    (dss_one (ds_frz 1 (ds_ret (dv 1))))))
theorem sc_comes_back : FnScope N_comes_back ["house", "hour", "name"] (defScope s_comes_back) := ⟨rfl, rfl, rfl, by decide +kernel, rfl, by decide +kernel, by decide +kernel⟩
theorem ok_comes_back (T : Tx K mg) : FnOk P w K mg base CX0 2 T.f_comes_back T.d_comes_back ["house", "hour", "name"] (spM K (fun _ => Z0) 3 M_comes_back) :=
  fn_okD T.F_comes_back sc_comes_back fun cdv A outer s H E hr => by
    show DSs _ Z0 _ m_comes_back
    exact (dss_cons (ds_set 3 sc_comes_back.nd (de_ix (r1 hr) (dv 0) de_str))
    (dss_cons (ds_set 4 sc_comes_back.nd (dv 2))
    (dss_cons (ds_for PassesOwn.never rfl (di_rng1 T.n_range (da_cons (de_len T.n_len (da_cons (dv 3) da_nil)) da_nil)) (dg_name 5 sc_comes_back.nd) (dss_cons (ds_if ((dw_or (dc_notIn (r65 hr) (dv 4) (dv 3)).2 (dw_or1 (dt_cmp (dc_ne hr.units) (de_ix (r1 hr) (de_ix (r1 hr) (dv 3) (dv 4)) de_int) de_str)))).dt (dss_one (ds_ret de_bl)) dss_nil)
    (dss_cons (ds_set 4 sc_comes_back.nd (de_call (ok_handed T) (hr.mono (by decide)) T.m_handed T.F_handed.kp T.b_handed (da_cons (de_ix (r1 hr) (dv 3) (dv 4)) (da_cons (dv 1) da_nil))))
    (dss_one (ds_if (dt_cmp (dc_eq hr.units) (dv 4) (dv 2)) (dss_one (ds_ret de_bl)) dss_nil)))))
    (dss_one (ds_ret de_bl)))))
theorem sc_rings : FnScope N_rings ["house"] (defScope s_rings) := ⟨rfl, rfl, rfl, by decide +kernel, rfl, by decide +kernel, by decide +kernel⟩
theorem ok_rings (T : Tx K mg) : FnOk P w K mg base CX0 3 T.f_rings T.d_rings ["house"] (spM K (fun _ => Z0) 1 M_rings) :=
  fn_okD T.F_rings sc_rings fun cdv A outer s H E hr => by
    show DSs _ Z0 _ m_rings
    exact (dss_cons (ds_setL 1 sc_rings.nd (dn_lst da_nil))
    (dss_cons (ds_for PassesOwn.never rfl (di_rng1 T.n_range (da_cons (de_gint T.c_HOURS) da_nil)) (dg_name 2 sc_rings.nd) (dss_one (ds_forP PassesOwn.never rfl (dp_ix (r1 hr) (dp_var 0) dp_str) (dg_name 3 sc_rings.nd) (dss_one (ds_if ((dw_and (dt_cmp (dc_eq hr.units) (de_ix (r1 hr) (de_ix (r1 hr) (de_ix (r1 hr) (dv 0) de_str) (dv 3)) de_int) de_str) (dw_and1 (dt_tru (de_call (ok_comes_back T) (hr.mono (by decide)) T.m_comes_back T.F_comes_back.kp T.b_comes_back (da_cons (dv 0) (da_cons (dv 2) (da_cons (dv 3) da_nil)))))))).dt (dss_one (ds_app 1 (de_tup (da_cons de_str (da_cons (dv 2) (da_cons (dv 3) da_nil)))) (pe := fun t pa => pe_bm PySem.F.plainAttrs_list PySem.F.slot_list_append PySem.F.type_list_append mt_append (pv 1) pa))) dss_nil)))))
    (dss_one (ds_frz 1 (ds_ret (dv 1))))))
theorem sc_faults : FnScope N_faults ["house"] (defScope s_faults) := ⟨rfl, rfl, rfl, by decide +kernel, rfl, by decide +kernel, by decide +kernel⟩
theorem ok_faults (T : Tx K mg) : FnOk P w K mg base CX0 4 T.f_faults T.d_faults ["house"] (spM K (fun _ => Z0) 1 M_faults) :=
  fn_okD T.F_faults sc_faults fun cdv A outer s H E hr => by
    show DSs _ Z0 _ m_faults
    exact (dss_one (ds_ret (de_add (de_add (de_add (de_call (ok_lost_names T) (hr.mono (by decide)) T.m_lost_names T.F_lost_names.kp T.b_lost_names (da_cons (dv 0) da_nil)) (de_call (ok_lettered T) (hr.mono (by decide)) T.m_lettered T.F_lettered.kp T.b_lettered (da_cons (dv 0) da_nil))) (de_call (ok_twins T) (hr.mono (by decide)) T.m_twins T.F_twins.kp T.b_twins (da_cons (dv 0) da_nil))) (de_call (ok_rings T) (hr.mono (by decide)) T.m_rings T.F_rings.kp T.b_rings (da_cons (dv 0) da_nil)))))
theorem sc__law_cell_at : FnScope N__law_cell_at ["_law_script", "_law_k"] (defScope s__law_cell_at) := ⟨rfl, rfl, rfl, by decide +kernel, rfl, by decide +kernel, by decide +kernel⟩
theorem ok__law_cell_at (T : Tx K mg) : FnOk P w K mg base CX0 1 T.f__law_cell_at T.d__law_cell_at ["_law_script", "_law_k"] (spM K (fun _ => Z0) 2 M__law_cell_at) :=
  fn_okD T.F__law_cell_at sc__law_cell_at fun cdv A outer s H E hr => by
    show DSs _ Z0 _ m__law_cell_at
    exact (dss_cons (ds_if (dt_cmp dc_lt (dv 1) (de_len T.n_len (da_cons (dv 0) da_nil))) (dss_one (ds_ret (de_ix (r1 hr) (dv 0) (dv 1)))) dss_nil)
    (dss_one (ds_ret de_int)))
theorem sc__law_mixed : FnScope N__law_mixed ["_law_cell", "_law_by"] (defScope s__law_mixed) := ⟨rfl, rfl, rfl, by decide +kernel, rfl, by decide +kernel, by decide +kernel⟩
theorem ok__law_mixed (T : Tx K mg) : FnOk P w K mg base CX0 1 T.f__law_mixed T.d__law_mixed ["_law_cell", "_law_by"] (spM K (fun _ => Z0) 2 M__law_mixed) :=
  fn_okD T.F__law_mixed sc__law_mixed fun cdv A outer s H E hr => by
    show DSs _ Z0 _ m__law_mixed
    exact (dss_one (ds_ret (de_mod (de_mul (de_mod (dv 0) de_int) (dv 1)) de_int)))
theorem sc__law_names : FnScope N__law_names ["_law_number", "_law_many"] (defScope s__law_names) := ⟨rfl, rfl, rfl, by decide +kernel, rfl, by decide +kernel, by decide +kernel⟩
theorem ok__law_names (T : Tx K mg) : FnOk P w K mg base CX0 1 T.f__law_names T.d__law_names ["_law_number", "_law_many"] (spM K (fun _ => Z0) 2 M__law_names) :=
  fn_okD T.F__law_names sc__law_names fun cdv A outer s H E hr => by
    show DSs _ Z0 _ m__law_names
    exact (dss_cons (ds_set 2 sc__law_names.nd de_str)
    (dss_cons (ds_set 3 sc__law_names.nd (de_add de_int (de_mod (dv 0) de_int)))
    (dss_cons (ds_set 4 sc__law_names.nd (de_mod (de_div (dv 0) de_int) (dv 3)))
    (dss_cons (ds_setL 5 sc__law_names.nd (dn_lst da_nil))
    (dss_cons (ds_for PassesOwn.never rfl (di_rng1 T.n_range (da_cons (dv 1) da_nil)) (dg_name 6 sc__law_names.nd) (dss_cons (ds_set 7 sc__law_names.nd de_str)
    (dss_cons (ds_for PassesOwn.never rfl (di_rng1 T.n_range (da_cons (dv 3) da_nil)) (dg_name 8 sc__law_names.nd) (dss_cons (ds_set 9 sc__law_names.nd (de_mul (dv 6) (de_int1 T.n_int (da_cons (de_cmp (dc_eq hr.units) (dv 8) (dv 4)) da_nil))))
    (dss_one (ds_set 7 sc__law_names.nd (de_add (dv 7) (de_ix (r1 hr) (dv 2) (de_mod (de_add (de_div (dv 0) (de_add (dv 8) de_int)) (dv 9)) de_int)))))))
    (dss_one (ds_app 5 (dv 7) (pe := fun t pa => pe_bm PySem.F.plainAttrs_list PySem.F.slot_list_append PySem.F.type_list_append mt_append (pv 5) pa))))))
    (dss_one (ds_frz 5 (ds_ret (dv 5)))))))))
theorem sc__law_house : FnScope N__law_house ["_law_script"] (defScope s__law_house) := ⟨rfl, rfl, rfl, by decide +kernel, rfl, by decide +kernel, by decide +kernel⟩
theorem ok__law_house (T : Tx K mg) : FnOk P w K mg base CX0 2 T.f__law_house T.d__law_house ["_law_script"] (spM K (fun _ => Z0) 1 M__law_house) :=
  fn_okD T.F__law_house sc__law_house fun cdv A outer s H E hr => by
    show DSs _ Z0 _ m__law_house
    exact (dss_cons (ds_set 1 sc__law_house.nd (de_add ((dn_lst (da_cons (de_call (ok__law_cell_at T) (hr.mono (by decide)) T.m__law_cell_at T.F__law_cell_at.kp T.b__law_cell_at (da_cons (dv 0) (da_cons de_int da_nil))) da_nil))).de (de_sl (dv 0) (do_some de_int) (do_some de_int))))
    (dss_cons (ds_set 2 sc__law_house.nd (de_call (ok__law_names T) (hr.mono (by decide)) T.m__law_names T.F__law_names.kp T.b__law_names (da_cons (de_call (ok__law_mixed T) (hr.mono (by decide)) T.m__law_mixed T.F__law_mixed.kp T.b__law_mixed (da_cons (de_call (ok__law_cell_at T) (hr.mono (by decide)) T.m__law_cell_at T.F__law_cell_at.kp T.b__law_cell_at (da_cons (dv 0) (da_cons de_int da_nil))) (da_cons de_int da_nil))) (da_cons (de_len T.n_len (da_cons (dv 1) da_nil)) da_nil))))
    (dss_cons (ds_setE 3 sc__law_house.nd)
    (dss_cons (ds_for PassesOwn.never rfl (di_enum T.n_enumerate (da_cons (dv 1) da_nil)) (dg_tup rfl (dgs_cons (dg_name 4 sc__law_house.nd) (dgs_cons (dg_name 5 sc__law_house.nd) dgs_nil))) (dss_cons (ds_set 6 sc__law_house.nd (de_call (ok__law_mixed T) (hr.mono (by decide)) T.m__law_mixed T.F__law_mixed.kp T.b__law_mixed (da_cons (de_add (dv 5) (dv 4)) (da_cons de_int da_nil))))
    (dss_cons (ds_setL 7 sc__law_house.nd (dn_lst da_nil))
    (dss_cons (ds_for PassesOwn.never rfl (di_rng1 T.n_range (da_cons (de_mod (de_div (dv 6) de_int) de_int) da_nil)) (dg_name 8 sc__law_house.nd) (dss_cons (ds_set 9 sc__law_house.nd (de_mod (de_div (dv 6) (de_add de_int (de_mul de_int (dv 8)))) de_int))
    (dss_cons (ds_set 10 sc__law_house.nd (de_add (de_add (dv 9) de_int) (de_mod (de_div (dv 6) (de_add de_int (de_mul de_int (dv 8)))) (de_sub de_int (dv 9)))))
    (dss_one (ds_app 7 (de_tup (da_cons (dv 9) (da_cons (dv 10) (da_cons (de_ix (r1 hr) (dv 2) (de_mod (de_div (dv 6) (de_add de_int (dv 8))) (de_len T.n_len (da_cons (dv 2) da_nil)))) da_nil)))) (pe := fun t pa => pe_bm PySem.F.plainAttrs_list PySem.F.slot_list_append PySem.F.type_list_append mt_append (pv 7) pa))))))
    (dss_cons (ds_frz 7 (ds_put (r1 hr) 3 (de_tup (da_cons de_str (da_cons (de_tupC T.n_tuple (da_cons (dv 7) da_nil)) (da_cons (de_ix (r1 hr) (dv 2) (de_mod (de_div (dv 6) de_int) (de_len T.n_len (da_cons (dv 2) da_nil)))) da_nil)))) (de_ix (r1 hr) (dv 2) (dv 4))))
    (dss_one (ds_if (dt_cmp (dc_eq hr.units) (de_mod (dv 6) de_int) de_int) (dss_one (ds_put (r1 hr) 3 (de_tup (da_cons de_str (da_cons de_str da_nil))) (de_ix (r1 hr) (dv 2) (dv 4)))) dss_nil)))))))
    (dss_one (ds_frz 3 (ds_ret (de_dict (dk_cons de_str (de_ix (r1 hr) (dv 2) de_int) (dk_cons de_str ((dn_lst da_nil)).de (dk_cons de_str (dv 3) dk_nil)))))))))))
theorem sc__law_next : FnScope N__law_next ["_law_room", "_law_hour"] (defScope s__law_next) := ⟨rfl, rfl, rfl, by decide +kernel, rfl, by decide +kernel, by decide +kernel⟩
theorem ok__law_next (T : Tx K mg) : FnOk P w K mg base CX0 1 T.f__law_next T.d__law_next ["_law_room", "_law_hour"] (spM K (fun _ => Z0) 2 M__law_next) :=
  fn_okD T.F__law_next sc__law_next fun cdv A outer s H E hr => by
    show DSs _ Z0 _ m__law_next
    exact (dss_cons (ds_setLc 2 [("_law_first", 3), ("_law_last", 4), ("_law_name", 5)] rfl sc__law_next.nd (di_seq (de_ix (r1 hr) (dv 0) de_int)) (blk_ok (N := N__law_next) (sc := defScope s__law_next) (own := [("_law_first", 3), ("_law_last", 4), ("_law_name", 5)]) (by decide +kernel)) (fun _ _ _ _ _ => (dgc_tup rfl (dgsc_cons (dgc_name 3 sc__law_next.nd) (dgsc_cons (dgc_name 4 sc__law_next.nd) (dgsc_cons (dgc_name 5 sc__law_next.nd) dgsc_nil))))) (fun _ _ _ _ _ => (dts_one ((dw_and (dt_cmp dc_le (dv 3) (dv 1)) (dw_and1 (dt_cmp dc_lt (dv 1) (dv 4))))).dt)) (fun _ _ _ _ _ => (dv 5)) (sw_true rfl rfl rfl (by decide +kernel))).1
    (dss_one (ds_ret (de_ix (r1 hr) (de_add (dv 2) ((dn_lst (da_cons (de_ix (r1 hr) (dv 0) de_int) da_nil))).de) de_int))))
theorem sc__law_due : FnScope N__law_due ["_law_rooms"] (defScope s__law_due) := ⟨rfl, rfl, rfl, by decide +kernel, rfl, by decide +kernel, by decide +kernel⟩
theorem ok__law_due (T : Tx K mg) : FnOk P w K mg base CX0 2 T.f__law_due T.d__law_due ["_law_rooms"] (spM K (fun _ => Z0) 1 M__law_due) :=
  fn_okD T.F__law_due sc__law_due fun cdv A outer s H E hr => by
    show DSs _ Z0 _ m__law_due
    exact (dss_cons (ds_setL 1 sc__law_due.nd (dn_lst da_nil))
    (dss_cons (ds_for PassesOwn.never rfl (di_rng1 T.n_range (da_cons de_int da_nil)) (dg_name 2 sc__law_due.nd) (dss_one (ds_forP PassesOwn.never rfl (dp_var 0) (dg_name 3 sc__law_due.nd) (dss_cons (ds_setL 4 sc__law_due.nd (dn_lst da_nil))
    (dss_cons (ds_set 5 sc__law_due.nd (dv 3))
    (dss_cons (ds_wh wFuel PassesOwn.never ((dw_and (dt_cmp (dc_eq hr.units) (de_ix (r1 hr) (de_ix (r1 hr) (dv 0) (dv 5)) de_int) de_str) (dw_and1 (dc_notInO (r65 hr) 4 (dv 5)).2))).dt (dss_cons (ds_app 4 (dv 5) (pe := fun t pa => pe_bm PySem.F.plainAttrs_list PySem.F.slot_list_append PySem.F.type_list_append mt_append (pv 4) pa))
    (dss_one (ds_set 5 sc__law_due.nd (de_call (ok__law_next T) (hr.mono (by decide)) T.m__law_next T.F__law_next.kp T.b__law_next (da_cons (de_ix (r1 hr) (dv 0) (dv 5)) (da_cons (dv 2) da_nil)))))))
    (dss_one (ds_frz 4 (ds_if ((dw_and (dt_cmp (dc_ne hr.units) (dv 4) ((dn_lst da_nil)).de) (dw_and1 (dt_cmp (dc_eq hr.units) (dv 5) (dv 3))))).dt (dss_one (ds_app 1 (de_tup (da_cons de_str (da_cons (dv 2) (da_cons (dv 3) da_nil)))) (pe := fun t pa => pe_bm PySem.F.plainAttrs_list PySem.F.slot_list_append PySem.F.type_list_append mt_append (pv 1) pa))) dss_nil)))))))))
    (dss_one (ds_frz 1 (ds_ret (dv 1))))))
theorem sc_law : FnScope N_law ["_law_script"] (defScope s_law) := ⟨rfl, rfl, rfl, by decide +kernel, rfl, by decide +kernel, by decide +kernel⟩
theorem ok_law (T : Tx K mg) : FnOk P w K mg base CX0 5 T.f_law T.d_law ["_law_script"] (spM K (fun _ => Z0) 1 M_law) :=
  fn_okD T.F_law sc_law fun cdv A outer s H E hr => by
    show DSs _ Z0 _ m_law
    exact (dss_cons (ds_set 1 sc_law.nd (de_call (ok__law_house T) (hr.mono (by decide)) T.m__law_house T.F__law_house.kp T.b__law_house (da_cons (dv 0) da_nil)))
    (dss_cons (ds_set 2 sc_law.nd (de_call (ok_faults T) (hr.mono (by decide)) T.m_faults T.F_faults.kp T.b_faults (da_cons (dv 1) da_nil)))
    (dss_cons (ds_if ((dw_or (dt_not (dt_tru (de_isi .list T.n_isinstance T.n_list (dv 2)))) (dw_or1 (dt_cmp (dc_ne hr.units) (dv 2) (de_call (ok__law_due T) (hr.mono (by decide)) T.m__law_due T.F__law_due.kp T.b__law_due (da_cons (de_ix (r1 hr) (dv 1) de_str) da_nil)))))).dt (dss_one (ds_ret de_bl)) dss_nil)
    (dss_cons (ds_forP PassesOwn.never rfl (dp_var 2) (dg_name 3 sc_law.nd) (dss_one (ds_if ((dw_or (dt_not (dt_tru (de_isi .tuple T.n_isinstance T.n_tuple (dv 3)))) (dw_or1 (dt_tru (de_isi .bool T.n_isinstance T.n_bool (de_ix (r1 hr) (dv 3) de_int)))))).dt (dss_one (ds_ret de_bl)) dss_nil)))
    (dss_one (ds_ret (de_cmp (dc_eqH hr.units) (dv 1) (de_call (ok__law_house T) (hr.mono (by decide)) T.m__law_house T.F__law_house.kp T.b__law_house (da_cons (dv 0) da_nil)))))))))
end
/-! the head: facts by names -/
def h_handed : He.DefD := ⟨("handed", none), "handed", "handed", defArgs s_handed, defBody s_handed, defScope s_handed, [], []⟩
def h_key_of : He.DefD := ⟨("key_of", none), "key_of", "key_of", defArgs s_key_of, defBody s_key_of, defScope s_key_of, [], []⟩
def h_code_of : He.DefD := ⟨("code_of", none), "code_of", "code_of", defArgs s_code_of, defBody s_code_of, defScope s_code_of, [], []⟩
def h_named_in : He.DefD := ⟨("named_in", none), "named_in", "named_in", defArgs s_named_in, defBody s_named_in, defScope s_named_in, [], []⟩
def h_lost_names : He.DefD := ⟨("lost_names", none), "lost_names", "lost_names", defArgs s_lost_names, defBody s_lost_names, defScope s_lost_names, [], []⟩
def h_coded : He.DefD := ⟨("coded", none), "coded", "coded", defArgs s_coded, defBody s_coded, defScope s_coded, [], []⟩
def h_lettered : He.DefD := ⟨("lettered", none), "lettered", "lettered", defArgs s_lettered, defBody s_lettered, defScope s_lettered, [], []⟩
def h_twins : He.DefD := ⟨("twins", none), "twins", "twins", defArgs s_twins, defBody s_twins, defScope s_twins, [], []⟩
def h_comes_back : He.DefD := ⟨("comes_back", none), "comes_back", "comes_back", defArgs s_comes_back, defBody s_comes_back, defScope s_comes_back, [], []⟩
def h_rings : He.DefD := ⟨("rings", none), "rings", "rings", defArgs s_rings, defBody s_rings, defScope s_rings, [], []⟩
def h_faults : He.DefD := ⟨("faults", none), "faults", "faults", defArgs s_faults, defBody s_faults, defScope s_faults, [], []⟩
def h__law_cell_at : He.DefD := ⟨("_law_cell_at", none), "_law_cell_at", "_law_cell_at", defArgs s__law_cell_at, defBody s__law_cell_at, defScope s__law_cell_at, [], []⟩
def h__law_mixed : He.DefD := ⟨("_law_mixed", none), "_law_mixed", "_law_mixed", defArgs s__law_mixed, defBody s__law_mixed, defScope s__law_mixed, [], []⟩
def h__law_names : He.DefD := ⟨("_law_names", none), "_law_names", "_law_names", defArgs s__law_names, defBody s__law_names, defScope s__law_names, [], []⟩
def h__law_house : He.DefD := ⟨("_law_house", none), "_law_house", "_law_house", defArgs s__law_house, defBody s__law_house, defScope s__law_house, [], []⟩
def h__law_next : He.DefD := ⟨("_law_next", none), "_law_next", "_law_next", defArgs s__law_next, defBody s__law_next, defScope s__law_next, [], []⟩
def h__law_due : He.DefD := ⟨("_law_due", none), "_law_due", "_law_due", defArgs s__law_due, defBody s__law_due, defScope s__law_due, [], []⟩
def h_law : He.DefD := ⟨("law", none), "law", "law", defArgs s_law, defBody s_law, defScope s_law, [], []⟩
def hfn : List He.DefD := [h_handed, h_key_of, h_code_of, h_named_in, h_lost_names, h_coded, h_lettered, h_twins, h_comes_back, h_rings, h_faults, h__law_cell_at, h__law_mixed, h__law_names, h__law_house, h__law_next, h__law_due, h_law]
def hfa : List He.Fa := [.glo "handed", .glo "key_of", .glo "code_of", .glo "named_in", .glo "lost_names", .glo "coded", .glo "lettered", .glo "twins", .glo "comes_back", .glo "rings", .glo "faults", .glo "_law_cell_at", .glo "_law_mixed", .glo "_law_names", .glo "_law_house", .glo "_law_next", .glo "_law_due", .glo "law", .int "HOURS" 24, .free "bool", .free "enumerate", .free "int", .free "isinstance", .free "len", .free "list", .free "range", .free "tuple"]
theorem tx {K : Fg} {h : Heap} {mg : Str → Option Value} (X : K.In h) (G : h.Ns mainGlobals mg) (c : He.SaysD hfa hfn K) : Nonempty (Tx K mg) := by
  obtain ⟨d0, F0⟩ := c.def_ 0 (d := h_handed) rfl
  obtain ⟨d1, F1⟩ := c.def_ 1 (d := h_key_of) rfl
  obtain ⟨d2, F2⟩ := c.def_ 2 (d := h_code_of) rfl
  obtain ⟨d3, F3⟩ := c.def_ 3 (d := h_named_in) rfl
  obtain ⟨d4, F4⟩ := c.def_ 4 (d := h_lost_names) rfl
  obtain ⟨d5, F5⟩ := c.def_ 5 (d := h_coded) rfl
  obtain ⟨d6, F6⟩ := c.def_ 6 (d := h_lettered) rfl
  obtain ⟨d7, F7⟩ := c.def_ 7 (d := h_twins) rfl
  obtain ⟨d8, F8⟩ := c.def_ 8 (d := h_comes_back) rfl
  obtain ⟨d9, F9⟩ := c.def_ 9 (d := h_rings) rfl
  obtain ⟨d10, F10⟩ := c.def_ 10 (d := h_faults) rfl
  obtain ⟨d11, F11⟩ := c.def_ 11 (d := h__law_cell_at) rfl
  obtain ⟨d12, F12⟩ := c.def_ 12 (d := h__law_mixed) rfl
  obtain ⟨d13, F13⟩ := c.def_ 13 (d := h__law_names) rfl
  obtain ⟨d14, F14⟩ := c.def_ 14 (d := h__law_house) rfl
  obtain ⟨d15, F15⟩ := c.def_ 15 (d := h__law_next) rfl
  obtain ⟨d16, F16⟩ := c.def_ 16 (d := h__law_due) rfl
  obtain ⟨d17, F17⟩ := c.def_ 17 (d := h_law) rfl
  obtain ⟨t18, C18⟩ := He.int_ok X G (c.fact 18 (f := .int "HOURS" 24) rfl)
  exact ⟨⟨He.ga K "handed", d0, F0, He.glo_ok X G (c.fact 0 (f := .glo "handed") rfl), FunD.bindsN F0 fun _ _ _ _ _ _ us hl => match us, hl with | [_, _], _ => rfl, He.ga K "key_of", d1, F1, He.glo_ok X G (c.fact 1 (f := .glo "key_of") rfl), FunD.bindsN F1 fun _ _ _ _ _ _ us hl => match us, hl with | [_, _], _ => rfl, He.ga K "code_of", d2, F2, He.glo_ok X G (c.fact 2 (f := .glo "code_of") rfl), FunD.bindsN F2 fun _ _ _ _ _ _ us hl => match us, hl with | [_, _], _ => rfl, He.ga K "named_in", d3, F3, He.glo_ok X G (c.fact 3 (f := .glo "named_in") rfl), FunD.bindsN F3 fun _ _ _ _ _ _ us hl => match us, hl with | [_], _ => rfl, He.ga K "lost_names", d4, F4, He.glo_ok X G (c.fact 4 (f := .glo "lost_names") rfl), FunD.bindsN F4 fun _ _ _ _ _ _ us hl => match us, hl with | [_], _ => rfl, He.ga K "coded", d5, F5, He.glo_ok X G (c.fact 5 (f := .glo "coded") rfl), FunD.bindsN F5 fun _ _ _ _ _ _ us hl => match us, hl with | [_, _], _ => rfl, He.ga K "lettered", d6, F6, He.glo_ok X G (c.fact 6 (f := .glo "lettered") rfl), FunD.bindsN F6 fun _ _ _ _ _ _ us hl => match us, hl with | [_], _ => rfl, He.ga K "twins", d7, F7, He.glo_ok X G (c.fact 7 (f := .glo "twins") rfl), FunD.bindsN F7 fun _ _ _ _ _ _ us hl => match us, hl with | [_], _ => rfl, He.ga K "comes_back", d8, F8, He.glo_ok X G (c.fact 8 (f := .glo "comes_back") rfl), FunD.bindsN F8 fun _ _ _ _ _ _ us hl => match us, hl with | [_, _, _], _ => rfl, He.ga K "rings", d9, F9, He.glo_ok X G (c.fact 9 (f := .glo "rings") rfl), FunD.bindsN F9 fun _ _ _ _ _ _ us hl => match us, hl with | [_], _ => rfl, He.ga K "faults", d10, F10, He.glo_ok X G (c.fact 10 (f := .glo "faults") rfl), FunD.bindsN F10 fun _ _ _ _ _ _ us hl => match us, hl with | [_], _ => rfl, He.ga K "_law_cell_at", d11, F11, He.glo_ok X G (c.fact 11 (f := .glo "_law_cell_at") rfl), FunD.bindsN F11 fun _ _ _ _ _ _ us hl => match us, hl with | [_, _], _ => rfl, He.ga K "_law_mixed", d12, F12, He.glo_ok X G (c.fact 12 (f := .glo "_law_mixed") rfl), FunD.bindsN F12 fun _ _ _ _ _ _ us hl => match us, hl with | [_, _], _ => rfl, He.ga K "_law_names", d13, F13, He.glo_ok X G (c.fact 13 (f := .glo "_law_names") rfl), FunD.bindsN F13 fun _ _ _ _ _ _ us hl => match us, hl with | [_, _], _ => rfl, He.ga K "_law_house", d14, F14, He.glo_ok X G (c.fact 14 (f := .glo "_law_house") rfl), FunD.bindsN F14 fun _ _ _ _ _ _ us hl => match us, hl with | [_], _ => rfl, He.ga K "_law_next", d15, F15, He.glo_ok X G (c.fact 15 (f := .glo "_law_next") rfl), FunD.bindsN F15 fun _ _ _ _ _ _ us hl => match us, hl with | [_, _], _ => rfl, He.ga K "_law_due", d16, F16, He.glo_ok X G (c.fact 16 (f := .glo "_law_due") rfl), FunD.bindsN F16 fun _ _ _ _ _ _ us hl => match us, hl with | [_], _ => rfl, He.ga K "law", d17, F17, He.glo_ok X G (c.fact 17 (f := .glo "law") rfl), FunD.bindsN F17 fun _ _ _ _ _ _ us hl => match us, hl with | [_], _ => rfl, t18, C18, He.free_ok X G (c.fact 19 (f := .free "bool") rfl), He.free_ok X G (c.fact 20 (f := .free "enumerate") rfl), He.free_ok X G (c.fact 21 (f := .free "int") rfl), He.free_ok X G (c.fact 22 (f := .free "isinstance") rfl), He.free_ok X G (c.fact 23 (f := .free "len") rfl), He.free_ok X G (c.fact 24 (f := .free "list") rfl), He.free_ok X G (c.fact 25 (f := .free "range") rfl), He.free_ok X G (c.fact 26 (f := .free "tuple") rfl)⟩⟩
abbrev R : PySem.W.OpenRow := PySem.W.OpenLaw.row PySem.Challenge.rw_menutree_k18_rings_of_hours
abbrev hk : PySem.W.Hook := He.hookD 4 hfa hfn
def ob (s : PySem.W.SharedT) : He.AlD := He.obsDG 4 hfa hfn (HandSHeadRun.getT s)
theorem ob_eq (s : PySem.W.SharedT) : ob s = hk.obs s.abs := He.obsDG_eq (HandSHeadRun.getT_eq s)
def names0 : List Str := ["handed", "key_of", "code_of", "HOURS", "named_in", "lost_names", "coded", "lettered", "twins", "comes_back", "rings", "faults", "_law_cell_at", "_law_mixed", "_law_names", "_law_house", "_law_next", "_law_due"]
def names : List Str := names0
theorem run (w : World) : HandSHeadRun.RunEq R (PySem.W.view R.prog [22]) hk ob 1320 names w := by
  intro os
  kernel_rfl
end LW

set_option Elab.async false
set_option linter.all false
set_option maxRecDepth 100000
set_option maxHeartbeats 1000000
namespace RG
open PySem
section
variable (f : Str → Option Str) (name : Str)
def ite_ : Nat → Str
  | 0 => name
  | i + 1 => (f (ite_ i)).getD Str.empty
/-- from here in so many turns to the name -/
def cb : Nat → Str → Bool
  | 0, _ => false
  | k + 1, here => match f here with
    | some y => if y = name then true else cb k y
    | none => false
theorem cb_iff : ∀ (k j : Nat), cb f name k (ite_ f name j) = true ↔ ∃ i, j < i ∧ i ≤ j + k ∧ ite_ f name i = name ∧ ∀ m, j ≤ m → m < i → (f (ite_ f name m)).isSome = true
  | 0, j => by
    constructor
    · intro h; cases h
    · rintro ⟨i, h1, h2, _⟩; omega
  | k + 1, j => by
    unfold cb
    cases e : f (ite_ f name j) with
    | none =>
      constructor
      · intro h; cases h
      · rintro ⟨i, h1, h2, h3, h4⟩
        have := h4 j (Nat.le_refl _) h1
        rw [e] at this; cases this
    | some y =>
      have ey : ite_ f name (j + 1) = y := by show (f (ite_ f name j)).getD _ = y; rw [e]; rfl
      by_cases h : y = name
      · simp only [h, if_true, true_iff]
        refine ⟨j + 1, by omega, by omega, by rw [ey, h], fun m h1 h2 => ?_⟩
        have : m = j := by omega
        subst this
        rw [e]; rfl
      · simp only [if_neg h]
        rw [← ey, cb_iff k (j + 1)]
        constructor
        · rintro ⟨i, h1, h2, h3, h4⟩
          refine ⟨i, by omega, by omega, h3, fun m h5 h6 => ?_⟩
          by_cases hm : m = j
          · subst hm; rw [e]; rfl
          · exact h4 m (by omega) h6
        · rintro ⟨i, h1, h2, h3, h4⟩
          refine ⟨i, ?_, by omega, h3, fun m h5 h6 => h4 m (by omega) h6⟩
          by_cases hi : i = j + 1
          · subst hi; rw [ey] at h3; exact (h h3).elim
          · omega
theorem shift (a b : Nat) (h : ite_ f name a = ite_ f name b) : ∀ m, ite_ f name (a + m) = ite_ f name (b + m)
  | 0 => h
  | m + 1 => by
    show (f (ite_ f name (a + m))).getD _ = (f (ite_ f name (b + m))).getD _
    rw [shift a b h m]
theorem nodup_len {α : Type} [DecidableEq α] : ∀ (l k : List α), l.Nodup → (∀ x ∈ l, x ∈ k) → l.length ≤ k.length
  | [], _, _, _ => Nat.zero_le _
  | x :: l, k, hn, hs => by
    rw [List.nodup_cons] at hn
    have hx := hs x List.mem_cons_self
    have ih := nodup_len l (k.erase x) hn.2 fun y hy => (List.mem_erase_of_ne (fun z => hn.1 (by rw [← z]; exact hy))).mpr (hs y (List.mem_cons_of_mem _ hy))
    rw [List.length_erase_of_mem hx] at ih
    have := List.length_pos_of_mem hx
    simp only [List.length_cons]
    omega
/-- where the law's own walk stops -/
structure Stop (J : Nat) : Prop where
  go : ∀ i, i < J → (f (ite_ f name i)).isSome = true
  nd : ((List.range J).map (ite_ f name)).Nodup
  st : f (ite_ f name J) = none ∨ ite_ f name J ∈ (List.range J).map (ite_ f name)
theorem ring_iff (K : List Str) (hK : ∀ n, (f n).isSome = true → n ∈ K) {J : Nat} (S : Stop f name J) : (0 < J ∧ ite_ f name J = name) ↔ ((f name).isSome = true ∧ cb f name K.length name = true) := by
  have c := cb_iff f name K.length 0
  have e0 : ite_ f name 0 = name := rfl
  rw [e0] at c
  have hJ : J ≤ K.length := by
    have := nodup_len _ K S.nd fun x hx => by
      obtain ⟨i, hi, rfl⟩ := List.mem_map.mp hx
      exact hK _ (S.go i (List.mem_range.mp hi))
    simpa using this
  constructor
  · rintro ⟨h1, h2⟩
    refine ⟨S.go 0 h1, c.mpr ⟨J, h1, by omega, h2, fun m _ h3 => S.go m h3⟩⟩
  · rintro ⟨h1, h2⟩
    obtain ⟨i0, p1, p2, p3, p4⟩ := c.mp h2
    -- the least such
    obtain ⟨i, q1, q2, q3, q4⟩ : ∃ i, 0 < i ∧ ite_ f name i = name ∧ (∀ m, m < i → (f (ite_ f name m)).isSome = true) ∧ ∀ m, 0 < m → m < i → ite_ f name m ≠ name := by
      clear p2
      induction i0 using Nat.strongRecOn with
      | ind i0 ih =>
        by_cases hm : ∃ m, 0 < m ∧ m < i0 ∧ ite_ f name m = name
        · obtain ⟨m, m1, m2, m3⟩ := hm
          exact ih m m2 m1 m3 fun k _ hk => p4 k (Nat.zero_le _) (by omega)
        · exact ⟨i0, p1, p3, fun m hm => p4 m (Nat.zero_le _) hm, fun m m1 m2 m3 => hm ⟨m, m1, m2, m3⟩⟩
    have gt : ¬ i < J := fun h => by
      have hn := S.nd
      have w := (List.pairwise_iff_getElem.mp hn) 0 i (by simp; omega) (by simpa using h) q1
      rw [List.getElem_map, List.getElem_map, List.getElem_range, List.getElem_range, q2] at w
      exact w rfl
    have lt : ¬ J < i := fun h => by
      rcases S.st with s | s
      · have := q3 J h
        rw [s] at this; cases this
      · obtain ⟨a, ha, ea⟩ := List.mem_map.mp s
        rw [List.mem_range] at ha
        by_cases a0 : a = 0
        · subst a0
          exact q4 J (by omega) h ea.symm
        · have sh := shift f name a J ea (i - J)
          rw [show J + (i - J) = i by omega, q2] at sh
          exact q4 (a + (i - J)) (by omega) (by omega) sh
    have : J = i := by omega
    subst this
    exact ⟨q1, q2⟩
end
end RG

set_option Elab.async false
set_option linter.all false
set_option maxRecDepth 100000
set_option maxHeartbeats 1000000
namespace LW
open PySem L2 DL ML
/-! ### _law_cell_at, _law_mixed -/
def cell (ns : List Int) (k : Nat) : Int := ns.getD k 0
theorem cell_at_ok (ns : List Int) (k : Nat) : M__law_cell_at [.list (ns.map PyData.int), .int (k : Nat)] = .ok (.int (cell ns k)) := by
  unfold M__law_cell_at fnM
  by_cases h : k < ns.length
  · have e : atI (ns.map PyData.int) ((k : Nat) : Int) = some (.int (cell ns k)) := by
      apply atI_nat
      rw [List.getElem?_map, List.getElem?_eq_getElem h]
      simp [cell, h]
    simp [startS, m__law_cell_at, h, e]
  · simp [startS, m__law_cell_at, h, cell]
theorem mixed_ok (c b : Int) : M__law_mixed [.int c, .int b] = .ok (.int (c % 2147483647 * b % 2147483647)) := by
  have h : MulB (c % 2147483647) b := mulOk_l (by omega) (by omega)
  unfold M__law_mixed fnM
  simp [startS, m__law_mixed, h]
/-! ### _law_names -/
def abc24 : Str := "acdefghijlmnopqrstuvwxyz"
theorem abc24_len : abc24.cps.toList.length = 24 := by decide +kernel
theorem abc24_len2 : abc24.length = 24 := by decide +kernel
def nmChar (n t : Int) (k : Nat) : Nat := abc24.cps.toList.getD ((n / ((k : Int) + 2) + t * (if (k : Int) = n / 8 % (1 + n % 8) then 1 else 0)) % 24).toNat 0
def nmSize (n : Int) : Nat := (1 + n % 8).toNat
def nm (n t : Int) : Str := ⟨((List.range (nmSize n)).map (nmChar n t)).toArray⟩
@[simp] def stN (n t : Int) (a e : Sl) (m : Str) (x y : Sl) : DSt := [.d (.int n), a, .d (.str abc24), .d (.int (1 + n % 8)), .d (.int (n / 8 % (1 + n % 8))), e, .d (.int t), .d (.str m), x, y]
theorem names_inner (n t : Int) (a e y z : Sl) : ∃ y' z', dFor (bName 8) m__law_names_b1 (rangeD 0 (nmSize n)) (stN n t a e "" y z) = .nx (stN n t a e (nm n t) y' z') := by
  have h := for_map (b := bName 8) (body := m__law_names_b1) (fun k : Nat => PyData.int (0 + (k : Nat))) (fun pre s => ∃ y' z', s = stN n t a e ⟨(pre.map (nmChar n t)).toArray⟩ y' z')
    (List.range (nmSize n)) (stN n t a e "" y z) ⟨y, z, by rw [str_nil]; rfl⟩ ?_
  · obtain ⟨s', e1, y', z', e2⟩ := h
    exact ⟨y', z', by rw [show rangeD 0 (nmSize n) = (List.range (nmSize n)).map fun k : Nat => PyData.int (0 + (k : Nat)) from rfl, e1, e2]; rfl⟩
  · rintro pre k post s hp ⟨y', z', rfl⟩
    obtain ⟨rfl, _, hk⟩ := range_cut hp
    have hs : nmSize n ≤ 8 := by unfold nmSize; omega
    have hl : pre.length + 1 ≤ 16777216 := by omega
    have hm : ∀ p : Prop, [Decidable p] → MulB t (if p then 1 else 0) := fun p _ => mulOk_r (by split <;> omega) (by split <;> omega)
    have hd : (0 : Int) < (pre.length : Int) + 2 ∧ (pre.length : Int) + 2 < 1073741824 := by omega
    have ha := atI_getD (l := abc24.cps.toList) (i := (n / ((pre.length : Int) + 2) + t * (if (pre.length : Int) = n / 8 % (1 + n % 8) then 1 else 0)) % 24) 0 (by omega) (by rw [abc24_len]; omega)
    refine ⟨_, rfl, stN n t a e ⟨((pre ++ [pre.length]).map (nmChar n t)).toArray⟩ (.d (.int pre.length)) (.d (.int (t * (if (pre.length : Int) = n / 8 % (1 + n % 8) then 1 else 0)))), .inl ?_, _, _, rfl⟩
    simp [m__law_names_b1, hm, hd, ha, abc24_len2, str_len, hl, str_app, nmChar]
@[simp] def stO (n m : Int) (ns : List Str) (r x y z : Sl) : DSt := [.d (.int n), .d (.int m), .d (.str abc24), .d (.int (1 + n % 8)), .d (.int (n / 8 % (1 + n % 8))), .ol (ns.map PyData.str), r, x, y, z]
theorem names_ok (n m : Int) (hn : 0 ≤ n) (h0 : 0 ≤ m) (h1 : m ≤ 1000) : M__law_names [.int n, .int m] = .ok (.list (((List.range m.toNat).map fun t : Nat => nm n t).map PyData.str)) := by
  have h := for_map (b := bName 6) (body := m__law_names_b2) (fun k : Nat => PyData.int (0 + (k : Nat))) (fun pre s => ∃ r x y z, s = stO n m (pre.map fun t : Nat => nm n t) r x y z)
    (List.range m.toNat) (stO n m [] .no .no .no .no) ⟨_, _, _, _, rfl⟩ ?_
  · obtain ⟨s', e1, r, x, y, z, e2⟩ := h
    subst e2
    have e3 : rangeD 0 m.toNat = (List.range m.toNat).map fun k : Nat => PyData.int (0 + (k : Nat)) := rfl
    have hr : RgOkD m := ⟨by omega, by omega⟩
    have e4 : (PyData.str "acdefghijlmnopqrstuvwxyz") = .str abc24 := rfl
    have hp : (0 : Int) < 1 + n % 8 := by omega
    unfold M__law_names fnM
    rw [← e3] at e1
    simp only [stO, List.map_nil] at e1
    simp [-List.map_map, startS, m__law_names, e4, hp, hr, e1]
  · rintro pre k post s hp ⟨r, x, y, z, rfl⟩
    obtain ⟨rfl, _, hk⟩ := range_cut hp
    obtain ⟨y', z', hi⟩ := names_inner n (pre.length : Nat) (.d (.int m)) (.ol ((pre.map fun t : Nat => nm n t).map PyData.str)) y z
    have hl : pre.length < 16777216 := by omega
    have hs : (1 + n % 8).toNat = nmSize n := rfl
    have hr : RgOkD (1 + n % 8) := ⟨by omega, by omega⟩
    refine ⟨_, rfl, stO n m ((pre ++ [pre.length]).map fun t : Nat => nm n t) (.d (.int pre.length)) (.d (.str (nm n pre.length))) y' z', .inl ?_, _, _, _, _, rfl⟩
    simp only [stN] at hi
    simp [-List.map_map, m__law_names_b2, hs, hr, hi, hl]
end LW

set_option Elab.async false
set_option linter.all false
set_option maxRecDepth 100000
set_option maxHeartbeats 1000000
namespace LW
open PySem L2 DL ML
/-! ### handed -/
abbrev Span := Int × Int × Str
def spanD (s : Span) : D := .tuple [.int s.1, .int s.2.1, .str s.2.2]
def hoursD (ss : List Span) (last : Str) : D := .tuple [.str "hours", .tuple (ss.map spanD), .str last]
def handedF : List Span → Str → Int → Str
  | [], last, _ => last
  | s :: r, last, h => if s.1 ≤ h ∧ h < s.2.1 then s.2.2 else handedF r last h
theorem handed_step (r : D) (h : Int) (s : Span) : m_handed_b1 [.d r, .d (.int h), .d (.int s.1), .d (.int s.2.1), .d (.str s.2.2)] = if s.1 ≤ h ∧ h < s.2.1 then .rt (.str s.2.2) else .nx [.d r, .d (.int h), .d (.int s.1), .d (.int s.2.1), .d (.str s.2.2)] := by
  simp [m_handed_b1]
theorem handed_loop (r : D) (h : Int) (last : Str) : ∀ (ss : List Span) (x y z : Sl),
    (dFor (bTup 3 (bCons (bName 2) (bCons (bName 3) (bCons (bName 4) bNil)))) m_handed_b1 (ss.map spanD) [.d r, .d (.int h), x, y, z] = .rt (.str (handedF ss last h))) ∨
    (∃ x' y' z', dFor (bTup 3 (bCons (bName 2) (bCons (bName 3) (bCons (bName 4) bNil)))) m_handed_b1 (ss.map spanD) [.d r, .d (.int h), x, y, z] = .nx [.d r, .d (.int h), x', y', z'] ∧ handedF ss last h = last)
  | [], x, y, z => .inr ⟨x, y, z, rfl, rfl⟩
  | s :: ss, x, y, z => by
    have ih := handed_loop r h last ss (.d (.int s.1)) (.d (.int s.2.1)) (.d (.str s.2.2))
    have eb : bTup 3 (bCons (bName 2) (bCons (bName 3) (bCons (bName 4) bNil))) (spanD s) [.d r, .d (.int h), x, y, z] = some [.d r, .d (.int h), .d (.int s.1), .d (.int s.2.1), .d (.str s.2.2)] := by simp [spanD]
    rw [List.map_cons, dFor_cons, eb, onS_some, handed_step]
    by_cases hc : s.1 ≤ h ∧ h < s.2.1
    · left
      simp [handedF, hc]
    · rw [if_neg hc, lpO_nx]
      have e : handedF (s :: ss) last h = handedF ss last h := by simp only [handedF, if_neg hc]
      rw [e]
      exact ih
theorem handed_ok (ss : List Span) (last : Str) (h : Int) : M_handed [hoursD ss last, .int h] = .ok (.str (handedF ss last h)) := by
  unfold M_handed fnM
  rcases handed_loop (hoursD ss last) h last ss .no .no .no with e | ⟨x, y, z, e, e2⟩
  · simp only [hoursD] at e
    simp [startS, m_handed, hoursD, e]
  · simp only [hoursD] at e
    simp [startS, m_handed, hoursD, e, e2]
theorem due_is (ss : List Span) (last : Str) (h : Int) : ∃ r, ((ss.filter fun s => decide (s.1 ≤ h) && decide (h < s.2.1)).map fun s => PyData.str s.2.2) ++ [.str last] = PyData.str (handedF ss last h) :: r := by
  induction ss with
  | nil => exact ⟨_, rfl⟩
  | cons s ss ih =>
    by_cases hc : s.1 ≤ h ∧ h < s.2.1
    · exact ⟨_, by rw [List.filter_cons_of_pos (by simpa using hc), List.map_cons, List.cons_append, handedF, if_pos hc]⟩
    · obtain ⟨r, e⟩ := ih
      exact ⟨r, by rw [List.filter_cons_of_neg (by simpa using hc), handedF, if_neg hc]; exact e⟩

theorem handedF_mem (h : Int) : ∀ (ss : List Span) (last : Str), handedF ss last h ∈ last :: ss.map (·.2.2)
  | [], last => List.mem_cons_self
  | s :: r, last => by
    unfold handedF
    split
    · simp
    · have := handedF_mem h r last
      rcases List.mem_cons.mp this with e | e
      · rw [e]; exact List.mem_cons_self
      · exact List.mem_cons_of_mem _ (List.mem_cons_of_mem _ e)
inductive Rm where
  | hours (ss : List Span) (last : Str)
  | leaf (k t : Str)
def rmD : Rm → D
  | .hours ss last => hoursD ss last
  | .leaf k t => .tuple [.str k, .str t]
abbrev RS := List (Str × Rm)
def rsD (rs : RS) : List (D × D) := rs.map fun p => (.str p.1, rmD p.2)
def lkR : RS → Str → Option Rm
  | [], _ => none
  | (a, b) :: r, c => if a = c then some b else lkR r c
theorem look_rs (c : Str) : ∀ rs : RS, dLook (rsD rs) (.str c) = (lkR rs c).map rmD
  | [] => rfl
  | (a, b) :: r => by
    show dLook ((.str a, rmD b) :: rsD r) _ = _
    rw [dLook_cons, kEq_str, look_rs c r]
    by_cases h : a = c
    · subst h; simp [lkR]
    · simp [lkR, h]
theorem lkR_none (c : Str) : ∀ rs : RS, (∀ p ∈ rs, p.1 ≠ c) → lkR rs c = none
  | [], _ => rfl
  | (a, b) :: r, h => by
    have h1 : a ≠ c := h (a, b) List.mem_cons_self
    simp [lkR, h1, lkR_none c r fun p hp => h p (List.mem_cons_of_mem _ hp)]
theorem lkR_of : ∀ {rs : RS} {c : Str} {k : Rm}, (rs.map (·.1)).Nodup → (c, k) ∈ rs → lkR rs c = some k
  | (a, b) :: r, c, k, hn, h => by
    rw [List.map_cons, List.nodup_cons] at hn
    rcases List.mem_cons.mp h with h | h
    · cases h; simp [lkR]
    · have : a ≠ c := fun z => hn.1 (by rw [z]; exact List.mem_map.mpr ⟨_, h, rfl⟩)
      simp [lkR, this, lkR_of hn.2 h]
def houseD (f : Str) (rs : RS) : D := .dict [(.str "first", .str f), (.str "letters", .list []), (.str "rooms", .dict (rsD rs))]
@[simp] theorem rooms_of (f : Str) (rs : RS) : dIdx (houseD f rs) (.str "rooms") = .ok (.dict (rsD rs)) := by kernel_rfl
/-! ### names -/
theorem abc_inj : ∀ i < 24, ∀ j < 24, abc24.cps.toList.getD i 0 = abc24.cps.toList.getD j 0 → i = j := by decide +kernel
theorem abc_small : ∀ i < 24, abc24.cps.toList.getD i 0 < 1000 := by decide +kernel
theorem nm_inj (n : Int) (t u : Nat) (ht : t < 24) (hu : u < 24) (h : nm n (t : Int) = nm n (u : Int)) : t = u := by
  have hl : (List.range (nmSize n)).map (nmChar n t) = (List.range (nmSize n)).map (nmChar n u) := by
    have := congrArg (fun s : Str => s.cps.toList) h
    simpa [nm] using this
  have ha : (n / 8 % (1 + n % 8)).toNat < nmSize n := by
    unfold nmSize
    have h1 := Int.emod_nonneg (n / 8) (show (1 + n % 8) ≠ 0 by omega)
    have h2 := Int.emod_lt_of_pos (n / 8) (show 0 < (1 + n % 8) by omega)
    omega
  have hc : nmChar n t (n / 8 % (1 + n % 8)).toNat = nmChar n u (n / 8 % (1 + n % 8)).toNat := by
    have := congrArg (fun l : List Nat => l[(n / 8 % (1 + n % 8)).toNat]?) hl
    simpa [ha] using this
  have h1 := Int.emod_nonneg (n / 8) (show (1 + n % 8) ≠ 0 by omega)
  unfold nmChar at hc
  rw [if_pos (by omega)] at hc
  have := abc_inj _ (by omega) _ (by omega) hc
  omega
theorem nm_ok (n : Int) (t : Nat) : PyData.strOk (nm n (t : Int)) = true := by
  simp only [PyData.strOk, nm, List.all_toArray, List.all_eq_true, decide_eq_true_eq]
  intro c hc
  obtain ⟨k, _, rfl⟩ := List.mem_map.mp hc
  have := abc_small ((n / ((k : Int) + 2) + t * (if (k : Int) = n / 8 % (1 + n % 8) then 1 else 0)) % 24).toNat (by omega)
  unfold nmChar
  omega
/-! ### spans -/
theorem at_row (rs : List Str) (j : Nat) (h : j < rs.length) : ∃ r, r ∈ rs ∧ atI (rs.map PyData.str) (j : Int) = some (.str r) :=
  ⟨rs[j], List.getElem_mem h, atI_nat (by rw [List.getElem?_map, List.getElem?_eq_getElem h]; rfl)⟩
theorem at_mod (rs : List Str) (n L : Int) (eL : (rs.length : Int) = L) (h : 0 < L) : ∃ r, r ∈ rs ∧ atI (rs.map PyData.str) (n % L) = some (.str r) := by
  have h1 := Int.emod_nonneg n (show L ≠ 0 by omega)
  have h2 := Int.emod_lt_of_pos n h
  obtain ⟨r, hr, e⟩ := at_row rs (n % L).toNat (by omega)
  exact ⟨r, hr, by rw [← e]; congr 1; omega⟩
theorem span_body (a0 a1 a3 a4 a5 x y : Sl) (n : Int) (B : List Str) (L : Int) (eL : (B.length : Int) = L) (l0 : 0 < L) (l1 : L < 1000) (J : Int) (j0 : 0 ≤ J) (j1 : J ≤ 10) (ss : List Span) (hs : ss.length ≤ 10) :
    ∃ s : Span, s.2.2 ∈ B ∧ ∃ x' y', m__law_house_b1 [a0, a1, .d (.list (B.map PyData.str)), a3, a4, a5, .d (.int n), .ol (ss.map spanD), .d (.int J), x, y] = .nx [a0, a1, .d (.list (B.map PyData.str)), a3, a4, a5, .d (.int n), .ol ((ss ++ [s]).map spanD), .d (.int J), x', y'] := by
  obtain ⟨t, ht, et⟩ := at_mod B (n / (3 + J)) L eL l0
  have m1 : MulB 3 J := mulOk_l (by omega) (by omega)
  have m2 : MulB 5 J := mulOk_l (by omega) (by omega)
  have d1 : (0 : Int) < 9 + 3 * J ∧ 9 + 3 * J < 1073741824 := by omega
  have d2 : (0 : Int) < 11 + 5 * J ∧ 11 + 5 * J < 1073741824 := by omega
  have d3 : (0 : Int) < 3 + J ∧ 3 + J < 1073741824 := by omega
  have d5 : (0 : Int) < L ∧ L < 1073741824 := by omega
  have d4 : n / (9 + 3 * J) % 24 < 24 := by omega
  have hl : ss.length < 16777216 := by omega
  refine ⟨(n / (9 + 3 * J) % 24, n / (9 + 3 * J) % 24 + 1 + n / (11 + 5 * J) % (24 - n / (9 + 3 * J) % 24), t), ht, .d (.int (n / (9 + 3 * J) % 24)), .d (.int (n / (9 + 3 * J) % 24 + 1 + n / (11 + 5 * J) % (24 - n / (9 + 3 * J) % 24))), ?_⟩
  simp [-List.map_map, m__law_house_b1, m1, m2, d1, d2, d3, d4, d5, hl, eL, et, spanD]
theorem spans_ok (a0 a1 a3 a4 a5 x y z : Sl) (n : Int) (B : List Str) (L : Int) (eL : (B.length : Int) = L) (l0 : 0 < L) (l1 : L < 1000) (M : Nat) (hM : M ≤ 5) :
    ∃ ss : List Span, ss.length ≤ 10 ∧ (∀ s ∈ ss, s.2.2 ∈ B) ∧ ∃ j' x' y', dFor (bName 8) m__law_house_b1 (rangeD 0 M) [a0, a1, .d (.list (B.map PyData.str)), a3, a4, a5, .d (.int n), .ol [], z, x, y] = .nx [a0, a1, .d (.list (B.map PyData.str)), a3, a4, a5, .d (.int n), .ol (ss.map spanD), j', x', y'] := by
  have h := for_map (b := bName 8) (body := m__law_house_b1) (fun k : Nat => PyData.int (0 + (k : Nat))) (fun pre s => ∃ (ss : List Span) (j x y : Sl), ss.length = pre.length ∧ (∀ s ∈ ss, s.2.2 ∈ B) ∧ s = [a0, a1, .d (.list (B.map PyData.str)), a3, a4, a5, .d (.int n), .ol (ss.map spanD), j, x, y])
    (List.range M) [a0, a1, .d (.list (B.map PyData.str)), a3, a4, a5, .d (.int n), .ol [], z, x, y] ⟨[], z, x, y, rfl, (by simp), rfl⟩ ?_
  · obtain ⟨s', e1, ss, j, x, y, hs, hB, e2⟩ := h
    subst e2
    exact ⟨ss, by simp at hs; omega, hB, j, x, y, e1⟩
  · rintro pre k post s hp ⟨ss, j, x, y, hs, hB, rfl⟩
    obtain ⟨rfl, _, hk⟩ := range_cut hp
    obtain ⟨s, hsB, x', y', e⟩ := span_body a0 a1 a3 a4 a5 x y n B L eL l0 l1 (0 + (pre.length : Nat)) (by omega) (by omega) ss (by omega)
    refine ⟨_, rfl, _, .inl e, ss ++ [s], _, x', y', by simp [hs], fun q hq => ?_, rfl⟩
    rcases List.mem_append.mp hq with hq | hq
    · exact hB q hq
    · rw [List.mem_singleton] at hq; subst hq; exact hsB
/-! ### rooms -/
def RmOk (N : List Str) : Rm → Prop
  | .leaf k t => k = "hand" ∧ t = "So it is"
  | .hours ss last => ss.length ≤ 10 ∧ ∀ t ∈ last :: ss.map (·.2.2), t ∈ N
theorem rsD_app (rs : RS) (n : Str) (r : Rm) : rsD rs ++ [(.str n, rmD r)] = rsD (rs ++ [(n, r)]) := by simp [rsD]
theorem put_new (rs : RS) (n : Str) (r : Rm) (h : ∀ p ∈ rs, p.1 ≠ n) : dPut (rsD rs) (.str n) (rmD r) = rsD (rs ++ [(n, r)]) := by
  rw [dPut_new, rsD_app]
  rw [look_rs, lkR_none n rs h]; rfl
theorem put_last (rs : RS) (n : Str) (q r : Rm) (h : ∀ p ∈ rs, p.1 ≠ n) : dPut (rsD (rs ++ [(n, q)])) (.str n) (rmD r) = rsD (rs ++ [(n, r)]) := by
  have e1 : rsD (rs ++ [(n, q)]) = rsD rs ++ [(PyData.str n, rmD q)] := (rsD_app rs n q).symm
  have e2 : ((rsD rs ++ [(PyData.str n, rmD q)]).any fun p => kEq p.1 (.str n)) = true := by simp
  have e3 : (rsD rs).map (fun p => if kEq p.1 (.str n) = true then (p.1, rmD r) else p) = rsD rs := by
    unfold rsD
    rw [List.map_map]
    apply List.map_congr_left
    intro p hp
    have := h p hp
    simp [this]
  unfold dPut
  rw [e1, if_pos e2, List.map_append, e3, ← rsD_app]
  simp
theorem hours_rm (ss : List Span) (last : Str) : PyData.tuple [.str "hours", .tuple (ss.map spanD), .str last] = rmD (.hours ss last) := rfl
theorem leaf_rm (k t : Str) : PyData.tuple [.str k, .str t] = rmD (.leaf k t) := rfl
theorem room_body (a0 a1 x6 x7 x8 x9 xa : Sl) (N : List Str) (rs : RS) (k : Nat) (K c : Int) (eK : (k : Int) = K) (hk : k < N.length) (hN : N.length ≤ 100) (hrs : rs.length ≤ 100) (hn : ∀ p ∈ rs, p.1 ≠ N.getD k Str.empty) :
    ∃ r, RmOk N r ∧ ∃ x6' x7' x8' x9' xa', m__law_house_b2 [a0, a1, .d (.list (N.map PyData.str)), .od (rsD rs), .d (.int K), .d (.int c), x6, x7, x8, x9, xa] =
      .nx [a0, a1, .d (.list (N.map PyData.str)), .od (rsD (rs ++ [(N.getD k Str.empty, r)])), .d (.int K), .d (.int c), x6', x7', x8', x9', xa'] := by
  have xk := mixed_ok (c + K) 48271
  have nz : 0 ≤ (c + K) % 2147483647 * 48271 % 2147483647 := by omega
  generalize (c + K) % 2147483647 * 48271 % 2147483647 = n at xk nz
  obtain ⟨L, eL⟩ : ∃ L : Int, (N.length : Int) = L := ⟨_, rfl⟩
  have l0 : 0 < L := by omega
  have l1 : L < 1000 := by omega
  have d5 : (0 : Int) < L ∧ L < 1073741824 := by omega
  obtain ⟨ss, hs, hsB, j', x', y', es⟩ := spans_ok a0 a1 (.od (rsD rs)) (.d (.int K)) (.d (.int c)) x9 xa x8 n N L eL l0 l1 (n / 8 % 4).toNat (by omega)
  have rg : RgOkD (n / 8 % 4) := ⟨by omega, by omega⟩
  obtain ⟨last, hlB, el⟩ := at_mod N (n / 32) L eL l0
  have ek : atI (N.map PyData.str) K = some (.str (N.getD k Str.empty)) := by
    rw [← eK]
    refine atI_nat ?_
    rw [List.getElem?_map, List.getElem?_eq_getElem (by omega)]
    simp [List.getD, List.getElem?_eq_getElem (show k < N.length by omega)]
  generalize N.getD k Str.empty = nk at *
  have p1 := put_new rs nk (.hours ss last) hn
  have hz : (rsD rs).length < 16777216 := by unfold rsD; rw [List.length_map]; omega
  have hz2 : (rsD (rs ++ [(nk, Rm.hours ss last)])).length < 16777216 := by unfold rsD; rw [List.length_map]; simp; omega
  have ok : RmOk N (.hours ss last) := ⟨hs, fun t ht => by
    rcases List.mem_cons.mp ht with rfl | ht
    · exact hlB
    · obtain ⟨s, hs1, rfl⟩ := List.mem_map.mp ht
      exact hsB s hs1⟩
  by_cases h4 : n % 4 = 0
  · have p2 := put_last rs nk (.hours ss last) (.leaf "hand" "So it is") hn
    refine ⟨.leaf "hand" "So it is", ⟨rfl, rfl⟩, .d (.int n), .d (.list (ss.map spanD)), j', x', y', ?_⟩
    simp [-List.map_map, m__law_house_b2, xk, rg, es, eL, d5, el, ek, hours_rm, leaf_rm, p1, p2, hz, hz2, h4]
  · refine ⟨.hours ss last, ok, .d (.int n), .d (.list (ss.map spanD)), j', x', y', ?_⟩
    simp [-List.map_map, m__law_house_b2, xk, rg, es, eL, d5, el, ek, hours_rm, p1, hz, h4]
theorem split_at (N : List Str) (k : Nat) (hk : k < N.length) : N = N.take k ++ N.getD k Str.empty :: N.drop (k + 1) := by
  rw [List.getD_eq_getElem?_getD, List.getElem?_eq_getElem hk, Option.getD_some, ← List.drop_eq_getElem_cons hk, List.take_append_drop]
theorem take_one (N : List Str) (k : Nat) (hk : k < N.length) : N.take (k + 1) = N.take k ++ [N.getD k Str.empty] := by
  rw [List.take_succ, List.getD_eq_getElem?_getD, List.getElem?_eq_getElem hk]; rfl
theorem not_ahead (N : List Str) (hN : N.Nodup) (k : Nat) (hk : k < N.length) : ∀ n ∈ N.take k, n ≠ N.getD k Str.empty := by
  have h := hN
  rw [split_at N k hk, List.nodup_append] at h
  exact fun n hn => h.2.2 n hn _ List.mem_cons_self
theorem rooms_loop (a0 a1 x4 x5 x6 x7 x8 x9 xa : Sl) (N : List Str) (hN : N.Nodup) (hl : N.length ≤ 100) (cs : List Int) (hc : cs.length = N.length) :
    ∃ rs : RS, rs.map (·.1) = N ∧ (∀ p ∈ rs, RmOk N p.2) ∧ ∃ y4 y5 y6 y7 y8 y9 ya, dFor (bTup 2 (bCons (bName 4) (bCons (bName 5) bNil))) m__law_house_b2 ((cs.zipIdx 0).map fun p => .tuple [.int (p.2 : Nat), .int p.1]) [a0, a1, .d (.list (N.map PyData.str)), .od [], x4, x5, x6, x7, x8, x9, xa] =
      .nx [a0, a1, .d (.list (N.map PyData.str)), .od (rsD rs), y4, y5, y6, y7, y8, y9, ya] := by
  have h := for_map (b := bTup 2 (bCons (bName 4) (bCons (bName 5) bNil))) (body := m__law_house_b2) (fun p : Int × Nat => PyData.tuple [.int (p.2 : Nat), .int p.1]) (fun pre s => ∃ (rs : RS) (y4 y5 y6 y7 y8 y9 ya : Sl), rs.map (·.1) = N.take pre.length ∧ (∀ p ∈ rs, RmOk N p.2) ∧ s = [a0, a1, .d (.list (N.map PyData.str)), .od (rsD rs), y4, y5, y6, y7, y8, y9, ya])
    (cs.zipIdx 0) [a0, a1, .d (.list (N.map PyData.str)), .od [], x4, x5, x6, x7, x8, x9, xa] ⟨[], x4, x5, x6, x7, x8, x9, xa, rfl, (by simp), rfl⟩ ?_
  · obtain ⟨s', e1, rs, y4, y5, y6, y7, y8, y9, ya, h1, h2, e2⟩ := h
    subst e2
    exact ⟨rs, by rw [h1, List.length_zipIdx, List.take_of_length_le (by omega)], h2, y4, y5, y6, y7, y8, y9, ya, e1⟩
  · rintro pre ⟨c, k⟩ post s hp ⟨rs, y4, y5, y6, y7, y8, y9, ya, h1, h2, rfl⟩
    have hk : k = pre.length ∧ pre.length < cs.length := by
      have q : (cs.zipIdx 0)[pre.length]? = some (c, k) := by rw [hp]; simp
      rw [List.getElem?_zipIdx] at q
      cases z : cs[pre.length]? with
      | none => rw [z] at q; cases q
      | some w =>
        rw [z] at q
        simp at q
        exact ⟨q.2.symm, (List.getElem?_eq_some_iff.mp z).1⟩
    obtain ⟨rfl, hk⟩ := hk
    have hrl : rs.length = pre.length := by
      have := congrArg List.length h1
      rw [List.length_map, List.length_take] at this
      omega
    have hn : ∀ p ∈ rs, p.1 ≠ N.getD pre.length Str.empty := fun p hpm => not_ahead N hN pre.length (by omega) p.1 (by rw [← h1]; exact List.mem_map.mpr ⟨p, hpm, rfl⟩)
    obtain ⟨K, eK⟩ : ∃ K : Int, ((pre.length : Nat) : Int) = K := ⟨_, rfl⟩
    obtain ⟨r, hr, y6', y7', y8', y9', ya', e⟩ := room_body a0 a1 y6 y7 y8 y9 ya N rs pre.length K c eK (by omega) hl (by omega) hn
    refine ⟨[a0, a1, .d (.list (N.map PyData.str)), .od (rsD rs), .d (.int K), .d (.int c), y6, y7, y8, y9, ya], by simp [eK], _, .inl e, rs ++ [(N.getD pre.length Str.empty, r)], .d (.int K), .d (.int c), y6', y7', y8', y9', ya', ?_, fun p hpm => ?_, rfl⟩
    · rw [List.map_append, h1, List.length_append, List.length_singleton, take_one N pre.length (by omega)]
      rfl
    · rcases List.mem_append.mp hpm with hpm | hpm
      · exact h2 p hpm
      · rw [List.mem_singleton] at hpm; subst hpm; exact hr
theorem lay_spans : ∀ ss : List Span, (∀ s ∈ ss, PyData.strOk s.2.2 = true) → PyData.canLayAll0 (ss.map spanD) = true ∧ PyData.depthAll (ss.map spanD) ≤ 1
  | [], _ => ⟨by simp [PyData.canLayAll0], by simp [PyData.depthAll]⟩
  | s :: r, h => by
    have ih := lay_spans r fun q hq => h q (List.mem_cons_of_mem _ hq)
    have hs := h s List.mem_cons_self
    constructor
    · simp [PyData.canLayAll0, spanD, PyData.canLay0, hs, ih.1]
    · have := ih.2
      simp [PyData.depthAll, spanD, PyData.depth] at this ⊢
      omega
theorem sk1 : PyData.strOk "hours" = true := by decide +kernel
theorem sk2 : PyData.strOk "hand" = true := by decide +kernel
theorem sk3 : PyData.strOk "end" = true := by decide +kernel
theorem sk4 : PyData.strOk "So it is" = true := by decide +kernel
theorem sk5 : PyData.strOk "At last" = true := by decide +kernel
theorem rm_plain (N : List Str) (hN : ∀ n ∈ N, PyData.strOk n = true) (r : Rm) (h : RmOk N r) : sameOk 3 (rmD r) = true := by
  cases r with
  | leaf k t =>
    have e : sameOk 3 (rmD (.leaf k t)) = plainOk (rmD (.leaf k t)) := rfl
    rw [e]
    obtain ⟨rfl, rfl⟩ := h
    simp [plainOk, SeqAt.shaped, rmD, PyData.canLay0, PyData.canLayAll0, PyData.depth, PyData.depthAll, sk2, sk3, sk4, sk5]
  | hours ss last =>
    have e : sameOk 3 (rmD (.hours ss last)) = plainOk (rmD (.hours ss last)) := rfl
    rw [e]
    have hm : ∀ t ∈ last :: ss.map (·.2.2), PyData.strOk t = true := fun t ht => hN t (h.2 t ht)
    have hl := hm last List.mem_cons_self
    have hs := lay_spans ss fun s hs => hm s.2.2 (List.mem_cons_of_mem _ (List.mem_map.mpr ⟨s, hs, rfl⟩))
    have h1 : PyData.canLay0 (rmD (.hours ss last)) = true := by simp [rmD, hoursD, PyData.canLay0, PyData.canLayAll0, hs.1, hl, sk1]
    have h2 : PyData.depth (rmD (.hours ss last)) ≤ 40 := by
      have := hs.2
      simp [rmD, hoursD, PyData.depth, PyData.depthAll]
      omega
    unfold plainOk SeqAt.shaped
    rw [h1]
    simp only [Bool.true_and, Bool.and_eq_true, decide_eq_true_eq]
    omega
theorem nodup_rs : ∀ rs : RS, (rs.map (·.1)).Nodup → nodupK (rsD rs) = true
  | [], _ => rfl
  | p :: r, h => by
    rw [List.map_cons, List.nodup_cons] at h
    have ih := nodup_rs r h.2
    show (!((rsD r).any fun q => kEq q.1 (.str p.1)) && nodupK (rsD r)) = true
    rw [ih, Bool.and_true, Bool.not_eq_true', List.any_eq_false]
    intro q hq
    unfold rsD at hq
    obtain ⟨x, hx, rfl⟩ := List.mem_map.mp hq
    simp only [kEq_str, decide_eq_true_eq]
    exact fun z => h.1 (by rw [← z]; exact List.mem_map.mpr ⟨x, hx, rfl⟩)
theorem house_same (f : Str) (rs : RS) (hf : PyData.strOk f = true) (hn : (rs.map (·.1)).Nodup) (hr : ∀ p ∈ rs, sameOk 3 (rmD p.2) = true) : sameOk 5 (houseD f rs) = true := by
  have h1 : sameOk 4 (.str f) = true := by
    show plainOk (.str f) = true
    simp [plainOk, SeqAt.shaped, PyData.canLay0, PyData.depth, hf]
  have h2 : sameOk 4 (.list []) = true := by decide +kernel
  have h3 : sameOk 4 (.dict (rsD rs)) = true := by
    rw [sameOk_dict, nodup_rs rs hn, Bool.true_and, List.all_eq_true]
    intro q hq
    unfold rsD at hq
    obtain ⟨x, hx, rfl⟩ := List.mem_map.mp hq
    exact hr x hx
  have h0 : nodupK [((.str "first" : D), (.str f : D)), (.str "letters", .list []), (.str "rooms", .dict (rsD rs))] = true := by
    have n1 : ("letters" : Str) ≠ "first" := by decide +kernel
    have n2 : ("rooms" : Str) ≠ "first" := by decide +kernel
    have n3 : ("rooms" : Str) ≠ "letters" := by decide +kernel
    simp [nodupK, n1, n2, n3]
  unfold houseD
  rw [sameOk_dict, h0]
  simp [h1, h2, h3]
end LW

set_option Elab.async false
set_option linter.all false
set_option maxRecDepth 100000
set_option maxHeartbeats 1000000
namespace LW
open PySem L2 DL ML
def nxt (rs : RS) (h : Int) (n : Str) : Option Str := match lkR rs n with
  | some (.hours ss last) => some (handedF ss last h)
  | _ => none
structure Hs (N : List Str) (rs : RS) : Prop where
  ks : rs.map (·.1) = N
  nd : N.Nodup
  ok : ∀ p ∈ rs, RmOk N p.2
  ln : N.length ≤ 100
  sk : ∀ n ∈ N, PyData.strOk n = true
theorem Hs.lk {N : List Str} {rs : RS} (H : Hs N rs) {n : Str} (hn : n ∈ N) : (lkR rs n = some (.leaf "hand" "So it is")) ∨ ∃ ss last, lkR rs n = some (.hours ss last) ∧ ss.length ≤ 10 ∧ ∀ h, handedF ss last h ∈ N := by
  rw [← H.ks] at hn
  obtain ⟨p, hp, rfl⟩ := List.mem_map.mp hn
  have l := lkR_of (by rw [H.ks]; exact H.nd) (show (p.1, p.2) ∈ rs from hp)
  have ok := H.ok p hp
  cases e : p.2 with
  | leaf k t => rw [e] at ok l; obtain ⟨rfl, rfl⟩ := ok; exact .inl l
  | hours ss last => rw [e] at ok l; exact .inr ⟨ss, last, l, ok.1, fun h => ok.2 _ (handedF_mem h ss last)⟩
theorem nxt_in {N : List Str} {rs : RS} (H : Hs N rs) (h : Int) (n : Str) (hs : (nxt rs h n).isSome = true) : n ∈ N := by
  unfold nxt at hs
  split at hs
  · rename_i e
    rw [← H.ks]
    have : ∀ rs : RS, (lkR rs n).isSome = true → n ∈ rs.map (·.1) := by
      intro rs
      induction rs with
      | nil => intro z; cases z
      | cons p r ih =>
        intro z
        obtain ⟨a, b⟩ := p
        unfold lkR at z
        split at z
        · rename_i q; subst q; simp
        · exact List.mem_cons_of_mem _ (ih z)
    exact this rs (by rw [e]; rfl)
  · cases hs
/-! ### comes_back -/
theorem back_body (f : Str) (N : List Str) (rs : RS) (H : Hs N rs) (h : Int) (name here : Str) (hh : here ∈ N) (x : Sl) :
    (nxt rs h here = none → m_comes_back_b1 [.d (houseD f rs), .d (.int h), .d (.str name), .d (.dict (rsD rs)), .d (.str here), x] = .rt (.bool false)) ∧
    ∀ y, nxt rs h here = some y → y ∈ N ∧ m_comes_back_b1 [.d (houseD f rs), .d (.int h), .d (.str name), .d (.dict (rsD rs)), .d (.str here), x] = if y = name then .rt (.bool true) else .nx [.d (houseD f rs), .d (.int h), .d (.str name), .d (.dict (rsD rs)), .d (.str y), x] := by
  have l := look_rs here rs
  rcases H.lk hh with e | ⟨ss, last, e, hz, ht⟩
  · rw [e] at l
    have l' : dLook (rsD rs) (.str here) = some (.tuple [.str "hand", .str "So it is"]) := l
    have k : ("hand" : Str) ≠ "hours" := by decide +kernel
    refine ⟨fun _ => ?_, fun y hy => ?_⟩
    · simp [m_comes_back_b1, l', k]
    · unfold nxt at hy; rw [e] at hy; cases hy
  · rw [e] at l
    have l' : dLook (rsD rs) (.str here) = some (hoursD ss last) := l
    have hd := handed_ok ss last h
    have h0 : dIdx (hoursD ss last) (.int 0) = .ok (.str "hours") := rfl
    refine ⟨fun hy => ?_, fun y hy => ?_⟩
    · unfold nxt at hy; rw [e] at hy; cases hy
    · unfold nxt at hy; rw [e] at hy; cases hy
      refine ⟨ht h, ?_⟩
      by_cases q : handedF ss last h = name
      · simp [m_comes_back_b1, l', hd, h0, q]
      · simp [m_comes_back_b1, l', hd, h0, q]
theorem back_loop (f : Str) (N : List Str) (rs : RS) (H : Hs N rs) (h : Int) (name : Str) : ∀ (items : List D) (here : Str) (x : Sl), here ∈ N →
    (RG.cb (nxt rs h) name items.length here = true → dFor (bName 5) m_comes_back_b1 items [.d (houseD f rs), .d (.int h), .d (.str name), .d (.dict (rsD rs)), .d (.str here), x] = .rt (.bool true)) ∧
    (RG.cb (nxt rs h) name items.length here = false → (dFor (bName 5) m_comes_back_b1 items [.d (houseD f rs), .d (.int h), .d (.str name), .d (.dict (rsD rs)), .d (.str here), x] = .rt (.bool false)) ∨ ∃ s, dFor (bName 5) m_comes_back_b1 items [.d (houseD f rs), .d (.int h), .d (.str name), .d (.dict (rsD rs)), .d (.str here), x] = .nx s)
  | [], here, x, hh => by
    refine ⟨fun z => ?_, fun _ => .inr ⟨_, rfl⟩⟩
    cases z
  | d :: items, here, x, hh => by
    obtain ⟨b1, b2⟩ := back_body f N rs H h name here hh (.d d)
    rw [dFor_cons]
    simp only [bName, List.set, onS_some, List.length_cons]
    cases e : nxt rs h here with
    | none =>
      rw [b1 e]
      simp only [RG.cb, e]
      refine ⟨fun z => ?_, fun _ => .inl rfl⟩
      cases z
    | some y =>
      obtain ⟨yN, eb⟩ := b2 y e
      rw [eb]
      simp only [RG.cb, e]
      by_cases q : y = name
      · simp only [if_pos q]
        refine ⟨fun _ => rfl, fun z => ?_⟩
        cases z
      · simp only [if_neg q]
        exact back_loop f N rs H h name items y (.d d) yN
theorem back_ok (f : Str) (N : List Str) (rs : RS) (H : Hs N rs) (h : Int) (name : Str) (hn : name ∈ N) : M_comes_back [houseD f rs, .int h, .str name] = .ok (.bool (RG.cb (nxt rs h) name N.length name)) := by
  have nl : (rsD rs).length = N.length := by unfold rsD; rw [List.length_map, ← H.ks, List.length_map]
  have hl := H.ln
  obtain ⟨L, eL⟩ : ∃ L : Int, ((rsD rs).length : Int) = L := ⟨_, rfl⟩
  have rg : RgOkD L := ⟨by omega, by omega⟩
  obtain ⟨b1, b2⟩ := back_loop f N rs H h name (rangeD 0 L.toNat) name .no hn
  have rl : (rangeD 0 L.toNat).length = N.length := by unfold rangeD; rw [List.length_map, List.length_range]; omega
  rw [rl] at b1 b2
  have s1 : nRng (aCons (eCall dLen (aCons (eVar 3) aNil)) aNil) [.d (houseD f rs), .d (.int h), .d (.str name), .d (.dict (rsD rs)), .d (.str name), .no] = .ok (rangeD 0 L.toNat) := by
    have h1 : aCons (eCall dLen (aCons (eVar 3) aNil)) aNil [.d (houseD f rs), .d (.int h), .d (.str name), .d (.dict (rsD rs)), .d (.str name), .no] = .ok [.int L] := by simp [eL]
    unfold nRng
    rw [h1, R.bind_ok, dRng_1, if_pos rg]
  have a1 : mAsg (eOp dIdx (eVar 0) (eC (.str "rooms"))) (bName 3) [.d (houseD f rs), .d (.int h), .d (.str name), .no, .no, .no] = .nx [.d (houseD f rs), .d (.int h), .d (.str name), .d (.dict (rsD rs)), .no, .no] := by simp
  have a2 : mAsg (eVar 2) (bName 4) [.d (houseD f rs), .d (.int h), .d (.str name), .d (.dict (rsD rs)), .no, .no] = .nx [.d (houseD f rs), .d (.int h), .d (.str name), .d (.dict (rsD rs)), .d (.str name), .no] := by simp
  have m : m_comes_back [.d (houseD f rs), .d (.int h), .d (.str name), .no, .no, .no] = sqO (dFor (bName 5) m_comes_back_b1 (rangeD 0 L.toNat) [.d (houseD f rs), .d (.int h), .d (.str name), .d (.dict (rsD rs)), .d (.str name), .no]) (mRet (eC (.bool false))) := by
    unfold m_comes_back
    show sqO (mAsg _ _ _) _ = _
    rw [a1, sqO_nx]
    show sqO (mAsg _ _ _) _ = _
    rw [a2, sqO_nx]
    show sqO (oE (nRng _ _) _) _ = _
    rw [s1, oE_ok]
  show endR (m_comes_back [.d (houseD f rs), .d (.int h), .d (.str name), .no, .no, .no]) = _
  rw [m]
  cases e : RG.cb (nxt rs h) name N.length name with
  | true => rw [b1 e]; rfl
  | false =>
    rcases b2 e with z | ⟨s, z⟩
    · rw [z]; rfl
    · rw [z]; rfl
/-! ### the law's next -/
theorem next_ok (ss : List Span) (last : Str) (h : Int) (hl : ss.length ≤ 10) : M__law_next [hoursD ss last, .int h] = .ok (.str (handedF ss last h)) := by
  unfold M__law_next fnM
  have hc := lc_map (b := bTup 3 (bCons (bName 3) (bCons (bName 4) (bCons (bName 5) bNil)))) (t := tAnd2 (tE (eOp dLe (eVar 3) (eVar 1))) (tE (eOp dLt (eVar 1) (eVar 4)))) (f := eVar 5) (s := [.d (hoursD ss last), .d (.int h), .no, .no, .no, .no]) spanD (fun s => decide (s.1 ≤ h) && decide (h < s.2.1)) (fun s => .str s.2.2) ss
    fun s _ => ⟨[.d (hoursD ss last), .d (.int h), .no, .d (.int s.1), .d (.int s.2.1), .d (.str s.2.2)], by simp [spanD], by simp, fun _ => by simp⟩
  simp only [hoursD] at hc
  obtain ⟨r, e⟩ := due_is ss last h
  have hz : ss.length ≤ 16777216 := by omega
  have hz2 : (ss.filter fun s => decide (s.1 ≤ h) && decide (h < s.2.1)).length + 1 ≤ 16777216 := by
    have := List.length_filter_le (fun s : Span => decide (s.1 ≤ h) && decide (h < s.2.1)) ss
    omega
  simp [-Bool.decide_and, startS, m__law_next, hoursD, hc, hz, hz2, e]
/-! ### the law's own walk -/
abbrev cW : TM := tAnd2 (tE (eOp dEqA (eOp dIdx (eOp dIdx (eVar 0) (eVar 5)) (eC (.int 0))) (eC (.str "hours")))) (tE (eNotInO 4 (eVar 5)))
theorem walk_ok (N : List Str) (rs : RS) (H : Hs N rs) (h : Int) (name : Str) (hn : name ∈ N) (a1 : Sl) : ∀ (F j : Nat), N.length < F + j → (∀ i, i < j → (nxt rs h (RG.ite_ (nxt rs h) name i)).isSome = true) → ((List.range j).map (RG.ite_ (nxt rs h) name)).Nodup → RG.ite_ (nxt rs h) name j ∈ N →
    ∃ J, RG.Stop (nxt rs h) name J ∧ dWh cW m__law_due_b1 F [.d (.dict (rsD rs)), a1, .d (.int h), .d (.str name), .ol (((List.range j).map (RG.ite_ (nxt rs h) name)).map PyData.str), .d (.str (RG.ite_ (nxt rs h) name j))] =
      .nx [.d (.dict (rsD rs)), a1, .d (.int h), .d (.str name), .ol (((List.range J).map (RG.ite_ (nxt rs h) name)).map PyData.str), .d (.str (RG.ite_ (nxt rs h) name J))]
  | 0, j, hF, go, nd, hj => by
    have := RG.nodup_len _ N nd fun x hx => by
      obtain ⟨i, hi, rfl⟩ := List.mem_map.mp hx
      exact nxt_in H h _ (go i (List.mem_range.mp hi))
    simp at this
    omega
  | F + 1, j, hF, go, nd, hj => by
    have hjl : j ≤ N.length := by
      have := RG.nodup_len _ N nd fun x hx => by
        obtain ⟨i, hi, rfl⟩ := List.mem_map.mp hx
        exact nxt_in H h _ (go i (List.mem_range.mp hi))
      simpa using this
    have hNl := H.ln
    have l := look_rs (RG.ite_ (nxt rs h) name j) rs
    rw [dWh_succ]
    rcases H.lk hj with e | ⟨ss, last, e, hz, ht⟩
    · rw [e] at l
      have l' : dLook (rsD rs) (.str (RG.ite_ (nxt rs h) name j)) = some (.tuple [.str "hand", .str "So it is"]) := l
      have k : ("hand" : Str) ≠ "hours" := by decide +kernel
      have ec : cW [.d (.dict (rsD rs)), a1, .d (.int h), .d (.str name), .ol (((List.range j).map (RG.ite_ (nxt rs h) name)).map PyData.str), .d (.str (RG.ite_ (nxt rs h) name j))] = .ok false := by
        simp [-List.map_map, l', k]
      refine ⟨j, ⟨go, nd, .inl (by
        generalize RG.ite_ (nxt rs h) name j = q at e ⊢
        unfold nxt; rw [e])⟩, ?_⟩
      rw [ec]; rfl
    · rw [e] at l
      have l' : dLook (rsD rs) (.str (RG.ite_ (nxt rs h) name j)) = some (hoursD ss last) := l
      have h0 : dIdx (hoursD ss last) (.int 0) = .ok (.str "hours") := rfl
      have en : nxt rs h (RG.ite_ (nxt rs h) name j) = some (handedF ss last h) := by
        generalize RG.ite_ (nxt rs h) name j = q at e ⊢
        unfold nxt; rw [e]
      by_cases hm : RG.ite_ (nxt rs h) name j ∈ (List.range j).map (RG.ite_ (nxt rs h) name)
      · have ec : cW [.d (.dict (rsD rs)), a1, .d (.int h), .d (.str name), .ol (((List.range j).map (RG.ite_ (nxt rs h) name)).map PyData.str), .d (.str (RG.ite_ (nxt rs h) name j))] = .ok false := by
          generalize (List.range j).map (RG.ite_ (nxt rs h) name) = M at hm ⊢
          simp [-List.map_map, l', h0, hm]
        refine ⟨j, ⟨go, nd, .inr hm⟩, ?_⟩
        rw [ec]; rfl
      · have ec : cW [.d (.dict (rsD rs)), a1, .d (.int h), .d (.str name), .ol (((List.range j).map (RG.ite_ (nxt rs h) name)).map PyData.str), .d (.str (RG.ite_ (nxt rs h) name j))] = .ok true := by
          generalize (List.range j).map (RG.ite_ (nxt rs h) name) = M at hm ⊢
          simp [-List.map_map, l', h0, hm]
        have e1 : RG.ite_ (nxt rs h) name (j + 1) = handedF ss last h := by
          show (nxt rs h (RG.ite_ (nxt rs h) name j)).getD _ = _
          rw [en]; rfl
        have er : (List.range (j + 1)).map (RG.ite_ (nxt rs h) name) = (List.range j).map (RG.ite_ (nxt rs h) name) ++ [RG.ite_ (nxt rs h) name j] := by rw [List.range_succ, List.map_append]; rfl
        have hnx := next_ok ss last h hz
        have eb : m__law_due_b1 [.d (.dict (rsD rs)), a1, .d (.int h), .d (.str name), .ol (((List.range j).map (RG.ite_ (nxt rs h) name)).map PyData.str), .d (.str (RG.ite_ (nxt rs h) name j))] = .nx [.d (.dict (rsD rs)), a1, .d (.int h), .d (.str name), .ol (((List.range (j + 1)).map (RG.ite_ (nxt rs h) name)).map PyData.str), .d (.str (RG.ite_ (nxt rs h) name (j + 1)))] := by
          rw [e1, er, List.map_append]
          have hz3 : (((List.range j).map (RG.ite_ (nxt rs h) name))).length < 16777216 := by rw [List.length_map, List.length_range]; omega
          generalize (List.range j).map (RG.ite_ (nxt rs h) name) = M at hz3 ⊢
          simp [-List.map_map, m__law_due_b1, l', hnx, hz3]
        obtain ⟨J, S, ih⟩ := walk_ok N rs H h name hn a1 F (j + 1) (by omega) (fun i hi => by
          by_cases hij : i = j
          · subst hij; rw [en]; rfl
          · exact go i (by omega)) (by
          rw [er, List.nodup_append]
          refine ⟨nd, by simp, fun a ha b hb => ?_⟩
          rw [List.mem_singleton] at hb
          subst hb
          exact fun z => hm (by rw [← z]; exact ha)) (by rw [e1]; exact ht h)
        refine ⟨J, S, ?_⟩
        rw [ec, oE_ok, if_pos rfl, eb]
        exact ih
end LW

set_option Elab.async false
set_option linter.all false
set_option maxRecDepth 100000
set_option maxHeartbeats 1000000
namespace LW
open PySem L2 DL ML
def rD (p : Int × Str) : D := .tuple [.str "ring", .int p.1, .str p.2]
def rg (N : List Str) (rs : RS) (h : Int) (q : Str) : Bool := (nxt rs h q).isSome && RG.cb (nxt rs h) q N.length q
def rp (N : List Str) (rs : RS) (h : Int) (l : List Str) : List (Int × Str) := (l.filter (rg N rs h)).map fun q => (h, q)
theorem rp_one (N : List Str) (rs : RS) (h : Int) (l : List Str) (q : Str) : rp N rs h (l ++ [q]) = rp N rs h l ++ (if rg N rs h q = true then [(h, q)] else []) := by
  unfold rp
  rw [List.filter_append, List.map_append]
  by_cases z : rg N rs h q = true
  · simp [z]
  · simp only [Bool.not_eq_true] at z; simp [z]
theorem rp_len (N : List Str) (rs : RS) (h : Int) (l : List Str) : (rp N rs h l).length ≤ l.length := by
  unfold rp; rw [List.length_map]; exact List.length_filter_le _ _
theorem keys_n {N : List Str} {rs : RS} (H : Hs N rs) : keysD (rsD rs) = N.map PyData.str := by
  rw [← H.ks]; simp [keysD, rsD]
theorem hand_ne : ("hand" : Str) ≠ "hours" := by decide +kernel
theorem h0_of (ss : List Span) (last : Str) : dIdx (hoursD ss last) (.int 0) = .ok (.str "hours") := rfl
theorem look_of {N : List Str} {rs : RS} (H : Hs N rs) {q : Str} (hq : q ∈ N) (h : Int) : (dLook (rsD rs) (.str q) = some (.tuple [.str "hand", .str "So it is"]) ∧ nxt rs h q = none) ∨ ∃ ss last, dLook (rsD rs) (.str q) = some (hoursD ss last) ∧ (nxt rs h q).isSome = true ∧ ss.length ≤ 10 := by
  have l := look_rs q rs
  rcases H.lk hq with e | ⟨ss, last, e, hz, _⟩
  · rw [e] at l
    exact .inl ⟨l, by unfold nxt; rw [e]⟩
  · rw [e] at l
    exact .inr ⟨ss, last, l, by unfold nxt; rw [e]; rfl, hz⟩
theorem ring_gen (G : List D → DL.R D) (R : List (D × D)) (H0 : D) (e0 : dIdx H0 (.str "rooms") = .ok (.dict R)) (h : Int) (q : Str) (x : Sl) (ss : List Span) (last : Str) (e : dLook R (.str q) = some (hoursD ss last)) (b : Bool) (g : G [H0, .int h, .str q] = .ok (.bool b)) :
    tAnd2 (tE (eOp dEqA (eOp dIdx (eOp dIdx (eOp dIdx (eVar 0) (eC (.str "rooms"))) (eVar 3)) (eC (.int 0))) (eC (.str "hours")))) (tTru (eCall (fun ds => noEx (G ds)) (aCons (eVar 0) (aCons (eVar 2) (aCons (eVar 3) aNil))))) [.d H0, x, .d (.int h), .d (.str q)] = .ok b := by
  have h0 := h0_of ss last
  simp [e0, e, h0, g]
theorem ring_gen0 (G : List D → DL.R D) (R : List (D × D)) (H0 : D) (e0 : dIdx H0 (.str "rooms") = .ok (.dict R)) (h : Int) (q : Str) (x : Sl) (e : dLook R (.str q) = some (.tuple [.str "hand", .str "So it is"])) :
    tAnd2 (tE (eOp dEqA (eOp dIdx (eOp dIdx (eOp dIdx (eVar 0) (eC (.str "rooms"))) (eVar 3)) (eC (.int 0))) (eC (.str "hours")))) (tTru (eCall (fun ds => noEx (G ds)) (aCons (eVar 0) (aCons (eVar 2) (aCons (eVar 3) aNil))))) [.d H0, x, .d (.int h), .d (.str q)] = .ok false := by
  have k := hand_ne
  simp [e0, e, k]
theorem ring_test (f : Str) (N : List Str) (rs : RS) (H : Hs N rs) (h : Int) (q : Str) (hq : q ∈ N) (x : Sl) :
    tAnd2 (tE (eOp dEqA (eOp dIdx (eOp dIdx (eOp dIdx (eVar 0) (eC (.str "rooms"))) (eVar 3)) (eC (.int 0))) (eC (.str "hours")))) (tTru (eCall (fun ds => noEx (M_comes_back ds)) (aCons (eVar 0) (aCons (eVar 2) (aCons (eVar 3) aNil))))) [.d (houseD f rs), x, .d (.int h), .d (.str q)] = .ok (rg N rs h q) := by
  rcases look_of H hq h with ⟨e, n⟩ | ⟨ss, last, e, n, _⟩
  · have r : rg N rs h q = false := by unfold rg; rw [n]; rfl
    rw [r]
    exact ring_gen0 M_comes_back (rsD rs) (houseD f rs) (rooms_of f rs) h q x e
  · have r : rg N rs h q = RG.cb (nxt rs h) q N.length q := by unfold rg; rw [n, Bool.true_and]
    rw [r]
    exact ring_gen M_comes_back (rsD rs) (houseD f rs) (rooms_of f rs) h q x ss last e _ (back_ok f N rs H h q hq)
theorem ring_app (a x : Sl) (h : Int) (q : Str) (l : List D) (hl : l.length < 16777216) : mApp 1 (eTup (aCons (eC (.str "ring")) (aCons (eVar 2) (aCons (eVar 3) aNil)))) [a, .ol l, .d (.int h), .d (.str q)] = .nx [a, .ol (l ++ [rD (h, q)]), .d (.int h), .d (.str q)] := by
  simp [hl, rD]
theorem ring_body (f : Str) (N : List Str) (rs : RS) (H : Hs N rs) (h : Int) (q : Str) (hq : q ∈ N) (acc : List (Int × Str)) (ha : acc.length ≤ 100000) :
    m_rings_b1 [.d (houseD f rs), .ol (acc.map rD), .d (.int h), .d (.str q)] = .nx [.d (houseD f rs), .ol ((acc ++ (if rg N rs h q = true then [(h, q)] else [])).map rD), .d (.int h), .d (.str q)] := by
  have t := ring_test f N rs H h q hq (.ol (acc.map rD))
  have a := ring_app (.d (houseD f rs)) .no h q (acc.map rD) (by rw [List.length_map]; omega)
  unfold m_rings_b1
  show oE (tAnd2 _ _ _) _ = _
  rw [t, oE_ok]
  by_cases z : rg N rs h q = true
  · rw [if_pos z, if_pos z, a, List.map_append]
    rfl
  · rw [if_neg z, if_neg z, List.append_nil]
    rfl
theorem rings_ok (f : Str) (N : List Str) (rs : RS) (H : Hs N rs) : M_rings [houseD f rs] = .ok (.list (((List.range 24).flatMap fun k : Nat => rp N rs (0 + (k : Int)) N).map rD)) := by
  have hr : RgOkD 24 := ⟨by omega, by omega⟩
  have inner : ∀ (h : Int) (acc : List (Int × Str)) (x : Sl), acc.length ≤ 10000 → ∃ x', m_rings_b2 [.d (houseD f rs), .ol (acc.map rD), .d (.int h), x] = .nx [.d (houseD f rs), .ol ((acc ++ rp N rs h N).map rD), .d (.int h), x'] := fun h acc x ha => by
    have hl := H.ln
    obtain ⟨s', e1, x', e2⟩ := for_map (b := bName 3) (body := m_rings_b1) PyData.str (fun pre s => ∃ x, s = [.d (houseD f rs), .ol ((acc ++ rp N rs h pre).map rD), .d (.int h), x]) N [.d (houseD f rs), .ol (acc.map rD), .d (.int h), x] ⟨x, by simp [rp]⟩ (by
      rintro pre q post s hp ⟨x, rfl⟩
      have hpl : pre.length ≤ 100 := by
        have := congrArg List.length hp
        simp at this
        omega
      refine ⟨_, rfl, _, .inl (ring_body f N rs H h q (by rw [hp]; simp) (acc ++ rp N rs h pre) (by have := rp_len N rs h pre; rw [List.length_append]; omega)), .d (.str q), ?_⟩
      rw [rp_one, List.append_assoc])
    subst e2
    rw [← keys_n H] at e1
    refine ⟨x', ?_⟩
    simp only [m_rings_b2, mFor, nIter, eOp, eVar, eC]
    simp [-List.map_map, e1]
  obtain ⟨s', e1, ac, x, hac, e2, e3⟩ := for_map (b := bName 2) (body := m_rings_b2) (fun k : Nat => PyData.int (0 + (k : Nat))) (fun pre s => ∃ (acc : List (Int × Str)) (x y : Sl), acc = (pre.flatMap fun k : Nat => rp N rs (0 + (k : Int)) N) ∧ acc.length ≤ 100 * pre.length ∧ s = [.d (houseD f rs), .ol (acc.map rD), x, y]) (List.range 24) [.d (houseD f rs), .ol [], .no, .no] ⟨[], _, _, rfl, Nat.zero_le _, rfl⟩ (by
    rintro pre k post s hp ⟨acc, x, y, ha, hal, rfl⟩
    obtain ⟨rfl, _, hk⟩ := range_cut hp
    obtain ⟨x', e⟩ := inner (0 + (pre.length : Nat)) acc y (by omega)
    refine ⟨_, rfl, _, .inl e, _, _, _, ?_, ?_, rfl⟩
    · rw [List.flatMap_append, ← ha]; simp
    · have := rp_len N rs (0 + (pre.length : Nat)) N
      have := H.ln
      rw [List.length_append, List.length_append, List.length_singleton]
      omega)
  obtain ⟨hal, e4⟩ := e3
  subst e4
  subst e2
  rw [show (List.range 24).map (fun k : Nat => PyData.int (0 + (k : Nat))) = rangeD 0 24 from rfl] at e1
  unfold M_rings fnM
  generalize ((List.range 24).flatMap fun k : Nat => rp N rs (0 + (k : Int)) N) = PS at *
  simp [-List.map_map, startS, m_rings, hr, e1]
end LW

set_option Elab.async false
set_option linter.all false
set_option maxRecDepth 100000
set_option maxHeartbeats 1000000
/-! clean data: none, ints, texts, tuples and lists of these -/
namespace CL
open PySem L2 DL ML
def cl : Nat → D → Bool
  | 0, _ => false
  | _ + 1, .none => true
  | _ + 1, .int _ => true
  | _ + 1, .str s => PyData.strOk s
  | n + 1, .tuple ds => ds.all (cl n)
  | n + 1, .list ds => ds.all (cl n)
  | _ + 1, .bool _ => false
  | _ + 1, .dict _ => false
@[simp] theorem cl_none (n : Nat) : cl (n + 1) .none = true := rfl
@[simp] theorem cl_int (n : Nat) (i : Int) : cl (n + 1) (.int i) = true := rfl
@[simp] theorem cl_str (n : Nat) (s : Str) : cl (n + 1) (.str s) = PyData.strOk s := rfl
@[simp] theorem cl_tuple (n : Nat) (ds : List D) : cl (n + 1) (.tuple ds) = ds.all (cl n) := rfl
@[simp] theorem cl_list (n : Nat) (ds : List D) : cl (n + 1) (.list ds) = ds.all (cl n) := rfl
theorem cl_up : ∀ (n : Nat) (d : D), cl n d = true → cl (n + 1) d = true
  | 0, _, h => by cases h
  | n + 1, d, h => by
    cases d with
    | none => rfl
    | int i => rfl
    | str s => exact h
    | tuple ds =>
      rw [cl_tuple, List.all_eq_true] at h ⊢
      exact fun x hx => cl_up n x (h x hx)
    | list ds =>
      rw [cl_list, List.all_eq_true] at h ⊢
      exact fun x hx => cl_up n x (h x hx)
    | bool b => cases h
    | dict k => cases h
theorem cl_le {n m : Nat} (hl : n ≤ m) {d : D} (h : cl n d = true) : cl m d = true := by
  induction hl with
  | refl => exact h
  | step _ ih => exact cl_up _ _ ih
theorem all_lay : ∀ (ds : List D), (∀ x ∈ ds, PyData.canLay0 x = true) → PyData.canLayAll0 ds = true
  | [], _ => rfl
  | x :: xs, h => by
    show (PyData.canLay0 x && PyData.canLayAll0 xs) = true
    rw [h x List.mem_cons_self, all_lay xs fun y hy => h y (List.mem_cons_of_mem _ hy)]; rfl
theorem all_dep (n : Nat) : ∀ (ds : List D), (∀ x ∈ ds, PyData.depth x ≤ n) → PyData.depthAll ds ≤ n
  | [], _ => Nat.zero_le _
  | x :: xs, h => by
    show max (PyData.depth x) (PyData.depthAll xs) ≤ n
    exact Nat.max_le.mpr ⟨h x List.mem_cons_self, all_dep n xs fun y hy => h y (List.mem_cons_of_mem _ hy)⟩
theorem cl_lay : ∀ (n : Nat) (d : D), cl n d = true → d.canLay0 = true ∧ d.depth ≤ n
  | 0, _, h => by cases h
  | n + 1, d, h => by
    cases d with
    | none => exact ⟨rfl, Nat.zero_le _⟩
    | int i => exact ⟨rfl, Nat.zero_le _⟩
    | str s => exact ⟨h, Nat.zero_le _⟩
    | tuple ds =>
      rw [cl_tuple, List.all_eq_true] at h
      exact ⟨all_lay ds fun x hx => (cl_lay n x (h x hx)).1, Nat.succ_le_succ (all_dep n ds fun x hx => (cl_lay n x (h x hx)).2)⟩
    | list ds =>
      rw [cl_list, List.all_eq_true] at h
      exact ⟨all_lay ds fun x hx => (cl_lay n x (h x hx)).1, Nat.succ_le_succ (all_dep n ds fun x hx => (cl_lay n x (h x hx)).2)⟩
    | bool b => cases h
    | dict k => cases h
theorem cl_shaped {n : Nat} {d : D} (h : cl n d = true) (hn : n ≤ 64) : SeqAt.shaped d = true := by
  have := cl_lay n d h
  unfold SeqAt.shaped
  rw [this.1, Bool.true_and, decide_eq_true_eq]
  omega
theorem cl_plain {n : Nat} {d : D} (h : cl n d = true) (hn : n ≤ 40) : plainOk d = true := by
  have := cl_lay n d h
  unfold plainOk
  rw [cl_shaped h (by omega), Bool.true_and, decide_eq_true_eq]
  omega
mutual
theorem cl_eqv : ∀ (n : Nat) (a b : D), cl n a = true → cl n b = true → (PyData.eqv a b = true ↔ a = b)
  | 0, _, _, h, _ => by cases h
  | n + 1, .none, b, ha, hb => by cases b <;> simp [PyData.eqv]
  | n + 1, .int i, b, ha, hb => by
    cases b with
    | bool b => cases hb
    | _ => simp [PyData.eqv]
  | n + 1, .str i, b, ha, hb => by cases b <;> simp [PyData.eqv]
  | n + 1, .tuple xs, b, ha, hb => by
    cases b with
    | tuple ys =>
      rw [cl_tuple, List.all_eq_true] at ha hb
      simp only [PyData.eqv, PyData.tuple.injEq]
      exact cl_eqvs n xs ys ha hb
    | _ => simp [PyData.eqv]
  | n + 1, .list xs, b, ha, hb => by
    cases b with
    | list ys =>
      rw [cl_list, List.all_eq_true] at ha hb
      simp only [PyData.eqv, PyData.list.injEq]
      exact cl_eqvs n xs ys ha hb
    | _ => simp [PyData.eqv]
  | n + 1, .bool _, _, ha, _ => by cases ha
  | n + 1, .dict _, _, ha, _ => by cases ha
theorem cl_eqvs : ∀ (n : Nat) (xs ys : List D), (∀ x ∈ xs, cl n x = true) → (∀ x ∈ ys, cl n x = true) → (PyData.eqvAll xs ys = true ↔ xs = ys)
  | _, [], [], _, _ => by simp [PyData.eqvAll]
  | _, [], _ :: _, _, _ => by simp [PyData.eqvAll]
  | _, _ :: _, [], _, _ => by simp [PyData.eqvAll]
  | n, x :: xs, y :: ys, h, g => by
    have h1 := cl_eqv n x y (h x List.mem_cons_self) (g y List.mem_cons_self)
    have h2 := cl_eqvs n xs ys (fun z hz => h z (List.mem_cons_of_mem _ hz)) (fun z hz => g z (List.mem_cons_of_mem _ hz))
    simp only [PyData.eqvAll, Bool.and_eq_true, h1, h2, List.cons.injEq]
end
theorem cl_dSc {n : Nat} {a b : D} (ha : cl n a = true) (hb : cl n b = true) (k : Bool) (h : dSc a b = some k) : k = true ↔ a = b := by
  cases n with
  | zero => cases ha
  | succ n => cases a <;> cases b <;> simp [dSc] at h <;> first | (subst h; simp) | (cases ha) | (cases hb)
open Classical in
theorem cl_eq {n m : Nat} {a b : D} (ha : cl n a = true) (hb : cl m b = true) (hn : n ≤ 60) (hm : m ≤ 60) : dEqA a b = .ok (.bool (decide (a = b))) := by
  have h1 := cl_le (Nat.le_max_left n m) ha
  have h2 := cl_le (Nat.le_max_right n m) hb
  unfold dEqA
  cases e : dSc a b with
  | some k =>
    have := cl_dSc h1 h2 k e
    have z : k = decide (a = b) := by rw [Bool.eq_iff_iff, this, decide_eq_true_eq]
    rw [z]
  | none =>
    show dEq a b = _
    unfold dEq
    rw [if_pos ⟨cl_shaped ha (by omega), cl_shaped hb (by omega)⟩]
    have z : PyData.eqv a b = decide (a = b) := by rw [Bool.eq_iff_iff, cl_eqv _ a b h1 h2, decide_eq_true_eq]
    rw [z]
open Classical in
theorem cl_ne {n m : Nat} {a b : D} (ha : cl n a = true) (hb : cl m b = true) (hn : n ≤ 60) (hm : m ≤ 60) : dNeA a b = .ok (.bool (!decide (a = b))) := by
  have h1 := cl_le (Nat.le_max_left n m) ha
  have h2 := cl_le (Nat.le_max_right n m) hb
  unfold dNeA
  cases e : dSc a b with
  | some k =>
    have := cl_dSc h1 h2 k e
    have z : k = decide (a = b) := by rw [Bool.eq_iff_iff, this, decide_eq_true_eq]
    rw [z]
  | none =>
    show dNe a b = _
    unfold dNe
    rw [if_pos ⟨cl_shaped ha (by omega), cl_shaped hb (by omega)⟩]
    have z : PyData.eqv a b = decide (a = b) := by rw [Bool.eq_iff_iff, cl_eqv _ a b h1 h2, decide_eq_true_eq]
    rw [z]
theorem eq_same {n : Nat} {a : D} (ha : cl n a = true) (hn : n ≤ 60) : dEqA a a = .ok (.bool true) := by
  classical
  rw [cl_eq ha ha hn hn, decide_eq_true rfl]
theorem ne_same {n : Nat} {a : D} (ha : cl n a = true) (hn : n ≤ 60) : dNeA a a = .ok (.bool false) := by
  classical
  rw [cl_ne ha ha hn hn, decide_eq_true rfl]; rfl
theorem eq_diff {n m : Nat} {a b : D} (ha : cl n a = true) (hb : cl m b = true) (hn : n ≤ 60) (hm : m ≤ 60) (h : a ≠ b) : dEqA a b = .ok (.bool false) := by
  classical
  rw [cl_eq ha hb hn hm, decide_eq_false h]
theorem ne_diff {n m : Nat} {a b : D} (ha : cl n a = true) (hb : cl m b = true) (hn : n ≤ 60) (hm : m ≤ 60) (h : a ≠ b) : dNeA a b = .ok (.bool true) := by
  classical
  rw [cl_ne ha hb hn hm, decide_eq_false h]; rfl
theorem cl_strs (n : Nat) (l : List Str) (h : ∀ x ∈ l, PyData.strOk x = true) : cl (n + 2) (.list (l.map PyData.str)) = true := by
  rw [cl_list, List.all_eq_true]
  intro x hx
  obtain ⟨s, hs, rfl⟩ := List.mem_map.mp hx
  exact h s hs
theorem cl_map {α : Type} (n : Nat) (l : List α) (f : α → D) (h : ∀ x ∈ l, cl n (f x) = true) : cl (n + 1) (.list (l.map f)) = true := by
  rw [cl_list, List.all_eq_true]
  intro x hx
  obtain ⟨s, hs, rfl⟩ := List.mem_map.mp hx
  exact h s hs
theorem cl_mapT {α : Type} (n : Nat) (l : List α) (f : α → D) (h : ∀ x ∈ l, cl n (f x) = true) : cl (n + 1) (.tuple (l.map f)) = true := by
  rw [cl_tuple, List.all_eq_true]
  intro x hx
  obtain ⟨s, hs, rfl⟩ := List.mem_map.mp hx
  exact h s hs
end CL

set_option Elab.async false
set_option linter.all false
set_option maxRecDepth 100000
set_option maxHeartbeats 1000000
namespace LW
open PySem L2 DL ML
theorem due_gen (R : List (D × D)) (acc : List D) (hl : acc.length < 16777216) (h : Int) (name here : Str) (met : List Str) (hm : ∀ q ∈ met, PyData.strOk q = true) (x y : Sl) (W : TM) (B : SM)
    (e : dWh W B wFuel [.d (.dict R), .ol acc, .d (.int h), .d (.str name), .ol [], .d (.str name)] = .nx [.d (.dict R), .ol acc, .d (.int h), .d (.str name), .ol (met.map PyData.str), .d (.str here)]) :
    mSeq (mSetL 4 aNil) (mSeq (mAsg (eVar 3) (bName 5)) (mSeq (mWh wFuel W B) (mFrz 4 (mIf (tAnd2 (tE (eOp dNeA (eVar 4) (eLst aNil))) (tE (eOp dEqA (eVar 5) (eVar 3)))) (mApp 1 (eTup (aCons (eC (.str "ring")) (aCons (eVar 2) (aCons (eVar 3) aNil))))) mNx)))) [.d (.dict R), .ol acc, .d (.int h), .d (.str name), x, y] =
      .nx [.d (.dict R), .ol (acc ++ if met ≠ [] ∧ here = name then [rD (h, name)] else []), .d (.int h), .d (.str name), .d (.list (met.map PyData.str)), .d (.str here)] := by
  have c0 := CL.cl_strs 0 met hm
  have c1 : CL.cl 2 (.list []) = true := rfl
  have e' : mWh wFuel W B [.d (.dict R), .ol acc, .d (.int h), .d (.str name), .ol [], .d (.str name)] = .nx [.d (.dict R), .ol acc, .d (.int h), .d (.str name), .ol (met.map PyData.str), .d (.str here)] := e
  by_cases m0 : met = []
  · subst m0
    have n := CL.ne_same c1 (by omega)
    simp [e', n]
  · have n := CL.ne_diff c0 c1 (by omega) (by omega) (fun z => m0 (by simpa using z))
    by_cases q : here = name
    · simp [-List.map_map, e', n, q, hl, rD, m0]
    · simp [-List.map_map, e', n, q, m0]
theorem due_inner (N : List Str) (rs : RS) (H : Hs N rs) (h : Int) (name : Str) (hn : name ∈ N) (acc : List D) (hl : acc.length < 16777216) (x y : Sl) :
    ∃ x' y', m__law_due_b2 [.d (.dict (rsD rs)), .ol acc, .d (.int h), .d (.str name), x, y] = .nx [.d (.dict (rsD rs)), .ol (acc ++ if rg N rs h name = true then [rD (h, name)] else []), .d (.int h), .d (.str name), x', y'] := by
  have hF : N.length < wFuel + 0 := by have := H.ln; unfold wFuel; omega
  obtain ⟨J, S, e⟩ := walk_ok N rs H h name hn (.ol acc) wFuel 0 hF (fun i hi => absurd hi (Nat.not_lt_zero _)) List.nodup_nil hn
  have r := RG.ring_iff (nxt rs h) name N (nxt_in H h) S
  have g := due_gen (rsD rs) acc hl h name (RG.ite_ (nxt rs h) name J) ((List.range J).map (RG.ite_ (nxt rs h) name)) (fun q hq => by
    obtain ⟨i, hi, rfl⟩ := List.mem_map.mp hq
    exact H.sk _ (nxt_in H h _ (S.go i (List.mem_range.mp hi)))) x y _ _ e
  have q : ((List.range J).map (RG.ite_ (nxt rs h) name) ≠ [] ∧ RG.ite_ (nxt rs h) name J = name) ↔ rg N rs h name = true := by
    unfold rg
    rw [Bool.and_eq_true, ← r]
    have : (List.range J).map (RG.ite_ (nxt rs h) name) ≠ [] ↔ 0 < J := by
      cases J with
      | zero => simp
      | succ J => simp
    rw [this]
  have e2 : (if (List.range J).map (RG.ite_ (nxt rs h) name) ≠ [] ∧ RG.ite_ (nxt rs h) name J = name then [rD (h, name)] else []) = if rg N rs h name = true then [rD (h, name)] else [] := by
    by_cases z : rg N rs h name = true
    · rw [if_pos (q.mpr z), if_pos z]
    · rw [if_neg fun y => z (q.mp y), if_neg z]
  rw [e2] at g
  exact ⟨_, _, g⟩
theorem due_ok (N : List Str) (rs : RS) (H : Hs N rs) : M__law_due [.dict (rsD rs)] = .ok (.list (((List.range 24).flatMap fun k : Nat => rp N rs (0 + (k : Int)) N).map rD)) := by
  have hr : RgOkD 24 := ⟨by omega, by omega⟩
  have inner : ∀ (h : Int) (acc : List (Int × Str)) (x y z : Sl), acc.length ≤ 10000 → ∃ x' y' z', m__law_due_b3 [.d (.dict (rsD rs)), .ol (acc.map rD), .d (.int h), x, y, z] = .nx [.d (.dict (rsD rs)), .ol ((acc ++ rp N rs h N).map rD), .d (.int h), x', y', z'] := fun h acc x y z ha => by
    have hl := H.ln
    obtain ⟨s', e1, x', y', z', e2⟩ := for_map (b := bName 3) (body := m__law_due_b2) PyData.str (fun pre s => ∃ x y z, s = [.d (.dict (rsD rs)), .ol ((acc ++ rp N rs h pre).map rD), .d (.int h), x, y, z]) N [.d (.dict (rsD rs)), .ol (acc.map rD), .d (.int h), x, y, z] ⟨x, y, z, by simp [rp]⟩ (by
      rintro pre q post s hp ⟨x, y, z, rfl⟩
      have hpl : pre.length ≤ 100 := by
        have := congrArg List.length hp
        simp at this
        omega
      obtain ⟨x', y', e⟩ := due_inner N rs H h q (by rw [hp]; simp) ((acc ++ rp N rs h pre).map rD) (by have := rp_len N rs h pre; rw [List.length_map, List.length_append]; omega) y z
      refine ⟨_, rfl, _, .inl e, .d (.str q), x', y', ?_⟩
      rw [rp_one, ← List.append_assoc, List.map_append (l₁ := acc ++ rp N rs h pre)]
      by_cases r : rg N rs h q = true
      · rw [if_pos r, if_pos r]; rfl
      · rw [if_neg r, if_neg r]; rfl)
    subst e2
    rw [← keys_n H] at e1
    refine ⟨x', y', z', ?_⟩
    simp only [m__law_due_b3, mFor, nIter, eOp, eVar, eC]
    simp [-List.map_map, e1]
  obtain ⟨s', e1, ac, x, y, z, w, hac, e2, e3⟩ := for_map (b := bName 2) (body := m__law_due_b3) (fun k : Nat => PyData.int (0 + (k : Nat))) (fun pre s => ∃ (acc : List (Int × Str)) (x y z w : Sl), acc = (pre.flatMap fun k : Nat => rp N rs (0 + (k : Int)) N) ∧ acc.length ≤ 100 * pre.length ∧ s = [.d (.dict (rsD rs)), .ol (acc.map rD), x, y, z, w]) (List.range 24) [.d (.dict (rsD rs)), .ol [], .no, .no, .no, .no] ⟨[], _, _, _, _, rfl, Nat.zero_le _, rfl⟩ (by
    rintro pre k post s hp ⟨acc, x, y, z, w, ha, hal, rfl⟩
    obtain ⟨rfl, _, hk⟩ := range_cut hp
    obtain ⟨x', y', z', e⟩ := inner (0 + (pre.length : Nat)) acc y z w (by omega)
    refine ⟨_, rfl, _, .inl e, _, _, _, _, _, ?_, ?_, rfl⟩
    · rw [List.flatMap_append, ← ha]; simp
    · have := rp_len N rs (0 + (pre.length : Nat)) N
      have := H.ln
      rw [List.length_append, List.length_append, List.length_singleton]
      omega)
  obtain ⟨hal, e4⟩ := And.intro e2 e3
  subst e4
  subst hac
  rw [show (List.range 24).map (fun k : Nat => PyData.int (0 + (k : Nat))) = rangeD 0 24 from rfl] at e1
  unfold M__law_due fnM
  generalize ((List.range 24).flatMap fun k : Nat => rp N rs (0 + (k : Int)) N) = PS at *
  simp [-List.map_map, startS, m__law_due, hr, e1]
/-! ### no other faults -/
theorem look_h {N : List Str} {rs : RS} (H : Hs N rs) {q : Str} (hq : q ∈ N) : (dLook (rsD rs) (.str q) = some (.tuple [.str "hand", .str "So it is"])) ∨ ∃ ss last, dLook (rsD rs) (.str q) = some (hoursD ss last) ∧ ss.length ≤ 10 ∧ last ∈ N ∧ ∀ s ∈ ss, s.2.2 ∈ N := by
  have l := look_rs q rs
  have hq2 := hq
  rw [← H.ks] at hq2
  obtain ⟨p, hp, rfl⟩ := List.mem_map.mp hq2
  rw [lkR_of (by rw [H.ks]; exact H.nd) (show (p.1, p.2) ∈ rs from hp)] at l
  have ok := H.ok p hp
  cases e : p.2 with
  | leaf k t => rw [e] at ok l; obtain ⟨rfl, rfl⟩ := ok; exact .inl l
  | hours ss last =>
    rw [e] at ok l
    exact .inr ⟨ss, last, l, ok.1, ok.2 _ List.mem_cons_self, fun s hs => ok.2 _ (List.mem_cons_of_mem _ (List.mem_map.mpr ⟨s, hs, rfl⟩))⟩
theorem named_hours (ss : List Span) (last : Str) (hl : ss.length ≤ 1000) : M_named_in [hoursD ss last] = .ok (.list ((last :: ss.map (·.2.2)).map PyData.str)) := by
  have hc := lc_all (b := bTup 3 (bCons (bName 2) (bCons (bName 3) (bCons (bName 4) bNil)))) (f := eVar 4) (s := [.d (hoursD ss last), .no, .no, .no, .no, .no]) spanD (fun s => .str s.2.2) ss
    fun s _ => ⟨[.d (hoursD ss last), .no, .d (.int s.1), .d (.int s.2.1), .d (.str s.2.2), .no], by simp [spanD], by simp⟩
  simp only [hoursD] at hc
  unfold M_named_in fnM
  have hz : 1 + ss.length ≤ 16777216 := by omega
  have hz2 : ss.length ≤ 16777216 := by omega
  simp [startS, m_named_in, hoursD, hc, hz, hz2, Function.comp_def]
theorem named_hand : M_named_in [.tuple [.str "hand", .str "So it is"]] = .ok (.list []) := by
  unfold M_named_in fnM
  have h1 : ("hand" : Str) ≠ "hours" := by decide +kernel
  have h2 : ("hand" : Str) ≠ "menu" := by decide +kernel
  have h3 : ("hand" : Str) ≠ "names" := by decide +kernel
  simp [startS, m_named_in, h1, h2, h3]
theorem rooms_idx (f : Str) (rs : RS) : dIdx (houseD f rs) (.str "rooms") = .ok (.dict (rsD rs)) := rooms_of f rs
theorem first_idx (f : Str) (rs : RS) : dIdx (houseD f rs) (.str "first") = .ok (.str f) := by kernel_rfl
theorem look_in {N : List Str} {rs : RS} (H : Hs N rs) {q : Str} (hq : q ∈ N) : (dLook (rsD rs) (.str q)).isSome = true := by
  rcases look_h H hq with e | ⟨ss, last, e, _⟩ <;> rw [e] <;> rfl
theorem lost_in (H0 : D) (N : List Str) (rs : RS) (H : Hs N rs) (nm : Sl) (T : List Str) (hT : ∀ t ∈ T, t ∈ N) (x : Sl) :
    ∃ x', dFor (bName 4) m_lost_names_b1 (T.map PyData.str) [.d H0, .d (.dict (rsD rs)), .ol [], nm, x] = .nx [.d H0, .d (.dict (rsD rs)), .ol [], nm, x'] := by
  obtain ⟨s', e1, x', e2⟩ := for_map (b := bName 4) (body := m_lost_names_b1) PyData.str (fun pre s => ∃ x, s = [.d H0, .d (.dict (rsD rs)), .ol [], nm, x]) T [.d H0, .d (.dict (rsD rs)), .ol [], nm, x] ⟨x, rfl⟩ (by
    rintro pre q post s hp ⟨x, rfl⟩
    have l := look_in H (hT q (by rw [hp]; simp))
    refine ⟨_, rfl, [.d H0, .d (.dict (rsD rs)), .ol [], nm, .d (.str q)], .inl ?_, _, rfl⟩
    simp [m_lost_names_b1, l])
  subst e2
  exact ⟨x', e1⟩
theorem lost_ok (f : Str) (N : List Str) (rs : RS) (H : Hs N rs) (hf : f ∈ N) : M_lost_names [houseD f rs] = .ok (.list []) := by
  obtain ⟨s', e1, x', y', e2⟩ := for_map (b := bName 3) (body := m_lost_names_b2) PyData.str (fun pre s => ∃ x y, s = [.d (houseD f rs), .d (.dict (rsD rs)), .ol [], x, y]) N [.d (houseD f rs), .d (.dict (rsD rs)), .ol [], .no, .no] ⟨_, _, rfl⟩ (by
    rintro pre q post s hp ⟨x, y, rfl⟩
    have hq : q ∈ N := by rw [hp]; simp
    rcases look_h H hq with e | ⟨ss, last, e, hz, h1, h2⟩
    · refine ⟨_, rfl, [.d (houseD f rs), .d (.dict (rsD rs)), .ol [], .d (.str q), y], .inl ?_, _, _, rfl⟩
      simp [m_lost_names_b2, e, named_hand]
    · obtain ⟨x', ex⟩ := lost_in (houseD f rs) N rs H (.d (.str q)) (last :: ss.map (·.2.2)) (fun t ht => by
        rcases List.mem_cons.mp ht with rfl | ht
        · exact h1
        · obtain ⟨s, hs, rfl⟩ := List.mem_map.mp ht
          exact h2 s hs) y
      have nh := named_hours ss last (by omega)
      refine ⟨_, rfl, [.d (houseD f rs), .d (.dict (rsD rs)), .ol [], .d (.str q), x'], .inl ?_, _, _, rfl⟩
      generalize (last :: ss.map (·.2.2)).map PyData.str = T at *
      simp [m_lost_names_b2, e, nh, ex])
  subst e2
  rw [← keys_n H] at e1
  have l := look_in H hf
  have i1 := rooms_idx f rs
  have i2 := first_idx f rs
  unfold M_lost_names fnM
  generalize houseD f rs = H0 at *
  simp [startS, m_lost_names, i1, i2, l, e1]
theorem coded_ok (f : Str) (N : List Str) (rs : RS) (H : Hs N rs) (q : Str) (hq : q ∈ N) : M_coded [houseD f rs, .str q] = .ok (.list []) := by
  have h1 : ("hand" : Str) ≠ "names" := by decide +kernel
  have h2 : ("hours" : Str) ≠ "names" := by decide +kernel
  have i1 := rooms_idx f rs
  have h0 := h0_of
  unfold M_coded fnM
  generalize houseD f rs = H0 at *
  rcases look_h H hq with e | ⟨ss, last, e, _⟩
  · simp [startS, m_coded, i1, e, h1]
  · simp [startS, m_coded, i1, e, h0, h2]
theorem lettered_ok (f : Str) (N : List Str) (rs : RS) (H : Hs N rs) : M_lettered [houseD f rs] = .ok (.list []) := by
  obtain ⟨s', e1, x', y', z', e2⟩ := for_map (b := bName 2) (body := m_lettered_b2) PyData.str (fun pre s => ∃ x y z, s = [.d (houseD f rs), .ol [], x, y, z]) N [.d (houseD f rs), .ol [], .no, .no, .no] ⟨_, _, _, rfl⟩ (by
    rintro pre q post s hp ⟨x, y, z, rfl⟩
    have c := coded_ok f N rs H q (by rw [hp]; simp)
    refine ⟨_, rfl, [.d (houseD f rs), .ol [], .d (.str q), y, z], .inl ?_, _, _, _, rfl⟩
    simp [m_lettered_b2, c])
  subst e2
  rw [← keys_n H] at e1
  have i1 := rooms_idx f rs
  unfold M_lettered fnM
  generalize houseD f rs = H0 at *
  simp [startS, m_lettered, i1, e1]
theorem twins_ok (f : Str) (N : List Str) (rs : RS) (H : Hs N rs) : M_twins [houseD f rs] = .ok (.list []) := by
  obtain ⟨s', e1, x1, x2, x3, x4, x5, x6, x7, e2⟩ := for_map (b := bName 2) (body := m_twins_b3) PyData.str (fun pre s => ∃ x1 x2 x3 x4 x5 x6 x7, s = [.d (houseD f rs), .ol [], x1, x2, x3, x4, x5, x6, x7]) N [.d (houseD f rs), .ol [], .no, .no, .no, .no, .no, .no, .no] ⟨_, _, _, _, _, _, _, rfl⟩ (by
    rintro pre q post s hp ⟨x1, x2, x3, x4, x5, x6, x7, rfl⟩
    have c := coded_ok f N rs H q (by rw [hp]; simp)
    refine ⟨_, rfl, [.d (houseD f rs), .ol [], .d (.str q), .d (.list []), x3, x4, x5, x6, x7], .inl ?_, _, _, _, _, _, _, _, rfl⟩
    simp [m_twins_b3, c])
  subst e2
  rw [← keys_n H] at e1
  have i1 := rooms_idx f rs
  unfold M_twins fnM
  generalize houseD f rs = H0 at *
  simp [startS, m_twins, i1, e1]
theorem faults_ok (f : Str) (N : List Str) (rs : RS) (H : Hs N rs) (hf : f ∈ N) (l : List D) (hl : l.length ≤ 100000) (e : M_rings [houseD f rs] = .ok (.list l)) : M_faults [houseD f rs] = .ok (.list l) := by
  have e1 := lost_ok f N rs H hf
  have e2 := lettered_ok f N rs H
  have e3 := twins_ok f N rs H
  have hz : l.length ≤ 16777216 := by omega
  unfold M_faults fnM
  generalize houseD f rs = H0 at *
  simp [startS, m_faults, e, e1, e2, e3, hz]
/-! ### the house -/
theorem names_nd (n : Int) (m : Nat) (hm : m ≤ 24) : ((List.range m).map fun t : Nat => nm n t).Nodup := by
  unfold List.Nodup
  rw [List.pairwise_map]
  refine List.Pairwise.imp_of_mem (fun {a b} ha hb hab z => ?_) (List.pairwise_lt_range (n := m))
  rw [List.mem_range] at ha hb
  have := nm_inj n a b (by omega) (by omega) z
  omega
theorem house_ok (ns : List Int) (hns : ns.length ≤ 63) : ∃ f N rs, M__law_house [.list (ns.map PyData.int)] = .ok (houseD f rs) ∧ sameOk 5 (houseD f rs) = true ∧ Hs N rs ∧ f ∈ N := by
  have c0 : M__law_cell_at [.list (ns.map PyData.int), .int 0] = .ok (.int (cell ns 0)) := cell_at_ok ns 0
  have c1 : M__law_cell_at [.list (ns.map PyData.int), .int 1] = .ok (.int (cell ns 1)) := cell_at_ok ns 1
  have x0 := mixed_ok (cell ns 0) 16807
  have nz : 0 ≤ cell ns 0 % 2147483647 * 16807 % 2147483647 := by omega
  generalize cell ns 0 % 2147483647 * 16807 % 2147483647 = n at x0 nz
  obtain ⟨cs, hcl, hc0, hcs⟩ : ∃ cs : List Int, cs.length ≤ 8 ∧ 0 < cs.length ∧ PyData.int (cell ns 1) :: cutL (ns.map PyData.int) (some 2) (some 9) = cs.map PyData.int := by
    refine ⟨cell ns 1 :: cutL ns (some 2) (some 9), ?_, by simp, ?_⟩
    · have q : HT.sIx ns.length 0 (some 2) = min 2 ns.length := HT.sIx_nat ns.length 0 2
      have q2 : HT.sIx ns.length ns.length (some 9) = min 9 ns.length := HT.sIx_nat ns.length ns.length 9
      unfold cutL
      rw [List.length_cons, List.length_take, List.length_drop, q, q2]
      omega
    · unfold cutL
      simp [List.map_drop, List.map_take]
  have hz : 1 + (cutL (ns.map PyData.int) (some 2) (some 9)).length ≤ 16777216 := by
    have := congrArg List.length hcs
    simp at this
    omega
  obtain ⟨Lc, eLc⟩ : ∃ Lc : Int, (cs.length : Int) = Lc := ⟨_, rfl⟩
  have nk := names_ok n Lc nz (by omega) (by omega)
  have nd := names_nd n Lc.toNat (by omega)
  have nsk : ∀ q ∈ (List.range Lc.toNat).map (fun t : Nat => nm n t), PyData.strOk q = true := fun q hq => by
    obtain ⟨t, _, rfl⟩ := List.mem_map.mp hq
    exact nm_ok n t
  have nl : ((List.range Lc.toNat).map fun t : Nat => nm n t).length = cs.length := by simp; omega
  generalize (List.range Lc.toNat).map (fun t : Nat => nm n t) = N at *
  obtain ⟨rs, h1, h2, y4, y5, y6, y7, y8, y9, ya, e⟩ := rooms_loop (.d (.list (ns.map PyData.int))) (.d (.list (cs.map PyData.int))) .no .no .no .no .no .no .no N nd (by omega) cs nl.symm
  rw [← enumD_map] at e
  have a0 : atI (N.map PyData.str) 0 = some (.str (N.getD 0 Str.empty)) := by
    refine atI_nat (j := 0) ?_
    rw [List.getElem?_map, List.getElem?_eq_getElem (by omega), List.getD_eq_getElem?_getD, List.getElem?_eq_getElem (by omega)]
    rfl
  have H : Hs N rs := ⟨h1, nd, h2, by omega, nsk⟩
  have hf : N.getD 0 Str.empty ∈ N := by
    rw [List.getD_eq_getElem?_getD, List.getElem?_eq_getElem (by omega)]
    exact List.getElem_mem _
  have hsf : dPut (dPut (dPut [] (.str "first") (.str (N.getD 0 Str.empty))) (.str "letters") (.list [])) (.str "rooms") (.dict (rsD rs)) = [(.str "first", .str (N.getD 0 Str.empty)), (.str "letters", .list []), (.str "rooms", .dict (rsD rs))] := by kernel_rfl
  simp only [dPut_nil] at hsf
  refine ⟨N.getD 0 Str.empty, N, rs, ?_, house_same _ _ (nsk _ hf) (by rw [h1]; exact nd) (fun p hp => rm_plain N nsk _ (h2 p hp)), H, hf⟩
  unfold M__law_house fnM houseD
  simp [-List.map_map, -enumD_cons, -List.getD_eq_getElem?_getD, startS, m__law_house, c0, c1, hz, hcs, eLc, x0, nk, e, a0, hsf]
/-! ### the law -/
theorem found_loop (a b : Sl) (ps : List (Int × Str)) (x : Sl) : ∃ x', dFor (bName 3) m_law_b1 (ps.map rD) [a, b, .d (.list (ps.map rD)), x] = .nx [a, b, .d (.list (ps.map rD)), x'] := by
  obtain ⟨s', e1, x', e2⟩ := for_map (b := bName 3) (body := m_law_b1) rD (fun pre s => ∃ x, s = [a, b, .d (.list (ps.map rD)), x]) ps [a, b, .d (.list (ps.map rD)), x] ⟨x, rfl⟩ (by
    rintro pre q post s hp ⟨x, rfl⟩
    refine ⟨_, rfl, [a, b, .d (.list (ps.map rD)), .d (rD q)], .inl ?_, _, rfl⟩
    simp [m_law_b1, rD])
  subst e2
  exact ⟨x', e1⟩
theorem law_true (ns : List Int) (hns : ns.length ≤ 63) : M_law [.list (ns.map PyData.int)] = .ok (.bool true) := by
  obtain ⟨f, N, rs, eh, es, H, hf⟩ := house_ok ns hns
  have er := rings_ok f N rs H
  have ed := due_ok N rs H
  have hl : (((List.range 24).flatMap fun k : Nat => rp N rs (0 + (k : Int)) N)).length ≤ 10000 := by
    have : ∀ l : List Nat, (l.flatMap fun k : Nat => rp N rs (0 + (k : Int)) N).length ≤ 100 * l.length := fun l => by
      induction l with
      | nil => simp
      | cons k l ih =>
        have := rp_len N rs (0 + (k : Int)) N
        have := H.ln
        rw [List.flatMap_cons, List.length_append, List.length_cons]
        omega
    have := this (List.range 24)
    rw [List.length_range] at this
    omega
  have hm : ∀ p ∈ ((List.range 24).flatMap fun k : Nat => rp N rs (0 + (k : Int)) N), PyData.strOk p.2 = true := fun p hp => by
    obtain ⟨k, _, hk⟩ := List.mem_flatMap.mp hp
    unfold rp at hk
    obtain ⟨q, hq, rfl⟩ := List.mem_map.mp hk
    exact H.sk q (List.mem_filter.mp hq).1
  generalize ((List.range 24).flatMap fun k : Nat => rp N rs (0 + (k : Int)) N) = PS at *
  have ef := faults_ok f N rs H hf (PS.map rD) (by rw [List.length_map]; omega) er
  have cc : CL.cl 3 (.list (PS.map rD)) = true := CL.cl_map 2 PS rD fun p hp => by simp [rD, hm p hp, show PyData.strOk "ring" = true by decide +kernel]
  have nn := CL.ne_same cc (by omega)
  obtain ⟨x', el⟩ := found_loop (.d (.list (ns.map PyData.int))) (.d (houseD f rs)) PS .no
  have eq : dEqH (houseD f rs) (houseD f rs) = .ok (.bool true) := dEqH_same es
  have i1 := rooms_idx f rs
  unfold M_law fnM
  generalize houseD f rs = H0 at *
  simp [-List.map_map, startS, m_law, eh, ef, i1, ed, nn, el, eq]
end LW

set_option Elab.async false
set_option linter.all false
set_option maxRecDepth 100000
open PySem PySem.W PySem.Calls PyProof.Rows
set_option maxHeartbeats 8000000 in
theorem PySem.Challenge.cw_menutree_k18_rings_of_hours_holds : PySem.Challenge.rw_menutree_k18_rings_of_hours.Holds := by
  w_on; o_law
  refine HandSHeadRun.head_any (r := OpenLaw.row PySem.Challenge.rw_menutree_k18_rings_of_hours) (q := view (OpenLaw.row PySem.Challenge.rw_menutree_k18_rings_of_hours).prog [22]) (H := LW.hk) (ob := LW.ob) (M := 1320) (loose := LW.names) (d := HandSHeadRun.topDef (OpenLaw.row PySem.Challenge.rw_menutree_k18_rings_of_hours).prog 22) (kwd := []) LW.ob_eq
    (by kernel_rfl) (fun s => by kernel_rfl) LW.run (by kernel_rfl) (by kernel_rfl) (by kernel_rfl) (by rfl) (by first | assumption | decide +kernel) (by decide +kernel) ⟨rfl, rfl, rfl, rfl, rfl, by decide +kernel⟩ ?hw ?hc
  case hw => w_witness2
  case hc =>
    refine L2.walk_ofE (l := PySem.Challenge.rw_menutree_k18_rings_of_hours) (n := 63) (k := 5) (x := "_law_script") (CX := L2.CX0) rfl (by decide) (by kernel_rfl) ⟨rfl, by decide, by decide⟩ ?F (fun _ _ _ _ z => z)
    intro w mg fa h Y G hmg0
    obtain ⟨K, KX, c⟩ := Y
    have hmg : mg ("law" : PySem.Str) = some (.ref fa) := by
      have e : (HandSHeadRun.topDef (OpenLaw.row PySem.Challenge.rw_menutree_k18_rings_of_hours).prog 22).name = ("law" : PySem.Str) := by kernel_rfl
      rw [← e]
      exact hmg0
    obtain ⟨T⟩ := LW.tx KX G c
    have e := hmg.symm.trans T.m_law
    cases e
    have b := L2.FunD.bindsA (ps := ["_law_script"]) T.F_law fun _ _ _ _ _ _ us hl => match us, hl with | [_], _ => rfl
    exact ⟨K, T.d_law, _, KX, fun s v => b s [v] rfl, fun H a ns hl _ hS => DL.law_sp (LW.law_true ns hl) hS, fun base _ _ => LW.ok_law T⟩
