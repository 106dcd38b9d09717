import PyProof.Rows.All
import Wide.All
import OpenK.AllK
import Wide.FinOn
import HandS.ForMost
import HandS.Exc
import HandS.CallSlots
import HandS.TryOnly
import HandS.IsInst
import HandS.Deep
import HandS.Conv
import HandS.Wide
import HandS.Style
import HandS.Flow
import HandS.Lambda
import HandS.TupAny
import KE.LtData
import HandS.Zip
import HandS.ExcOwn
import HandS.WordsExc
import HandS.RaiseMore
import HandS.Ends
import HandS.HeadEnd
import PySem.Challenge.RW_stretchwebs_k55_whole_what_is_sure_of_pl
set_option Elab.async false
set_option linter.all false
set_option maxRecDepth 100000
set_option maxHeartbeats 1000000
namespace L2.DL
open PySem PySem.Spec PyProof.Rows

/-! ### data -/
inductive D where
  | non | bl (b : Bool) | int (i : Int) | str (x : Str)
  | tup (xs : List D) | lst (xs : List D)
  | obj (c : Str) (fs : List (Str × D))
  | fn (x : Str)
  | emp
  | scr (ns : List Int)

/-- what the whole proof stands on -/
structure Tb where
  P : Program
  w : World
  K : PySem.W.Frag
  mg : Str → Option Value
  base : Heap
  tabs : List (Addr × Str)
abbrev tbOf (X : Cx) (tabs : List (Addr × Str)) : Tb := ⟨X.prog, X.w, X.K, X.mg, X.base, tabs⟩

abbrev Ext (H H' : Hp) : Prop := ∀ a o, H a = some o → H' a = some o
theorem Ext.rfl' {H : Hp} : Ext H H := fun _ _ h => h
theorem Ext.trans {H H1 H2 : Hp} (a : Ext H H1) (b : Ext H1 H2) : Ext H H2 := fun x o h => b x o (a x o h)
theorem Ext.new {H : Hp} {p : Addr} {o : HO} (h : H p = none) : Ext H (upd H p o) := fun a u e => by
  rw [upd_ne (ne_of_none e h)]; exact e
theorem Ext.free {H H' : Hp} (e : Ext H H') {p : Addr} (h : H' p = none) : H p = none := by
  cases h1 : H p with
  | none => rfl
  | some o => rw [e p o h1] at h; cases h
theorem Ext.sqL {K : PySem.W.Frag} {H H' : Hp} {a : Addr} {xs : List V} (e : Ext H H') (h : SqL K H a xs) : SqL K H' a xs := by
  rcases h with (h | ⟨o, h⟩) | h
  · exact .inl (.inl (e a _ h))
  · exact .inl (.inr ⟨o, e a _ h⟩)
  · exact .inr h
theorem Ext.sqT {K : PySem.W.Frag} {H H' : Hp} {a : Addr} {xs : List V} (e : Ext H H') (h : SqT K H a xs) : SqT K H' a xs := by
  rcases h with (h | ⟨o, h⟩) | h
  · exact .inl (.inl (e a _ h))
  · exact .inl (.inr ⟨o, e a _ h⟩)
  · exact .inr h

mutual
inductive Rp (T : Tb) (H : Hp) : V → D → Prop
  | non : Rp T H .non .non
  | bl (b : Bool) : Rp T H (.bl b) (.bl b)
  | int (i : Int) : Rp T H (.int i) (.int i)
  | str (x : Str) : Rp T H (.str x) (.str x)
  | tup {a : Addr} {xs : List V} {ds : List D} : SqT T.K H a xs → RpL T H xs ds → Rp T H (.ref a) (.tup ds)
  | lst {a : Addr} {xs : List V} {ds : List D} : H a = some (.lst xs) → RpL T H xs ds → Rp T H (.ref a) (.lst ds)
  | scr {a : Addr} {ns : List Int} : SqL T.K H a (ns.map V.int) → Rp T H (.ref a) (.scr ns)
  | obj {a C dx : Addr} {c : Str} {fs : List (Str × V)} {gs : List (Str × D)} : T.mg c = some (.ref C) → H a = some (.ins C dx fs) → RpF T H fs gs → Rp T H (.ref a) (.obj c gs)
  | fn {a : Addr} {x : Str} : T.mg x = some (.ref a) → Rp T H (.ref a) (.fn x)
  | emp {a : Addr} : H a = some (.dK []) → Rp T H (.ref a) .emp
inductive RpL (T : Tb) (H : Hp) : List V → List D → Prop
  | nil : RpL T H [] []
  | cons {v : V} {vs : List V} {d : D} {ds : List D} : Rp T H v d → RpL T H vs ds → RpL T H (v :: vs) (d :: ds)
inductive RpF (T : Tb) (H : Hp) : List (Str × V) → List (Str × D) → Prop
  | nil : RpF T H [] []
  | cons {x : Str} {v : V} {vs : List (Str × V)} {d : D} {ds : List (Str × D)} : Rp T H v d → RpF T H vs ds → RpF T H ((x, v) :: vs) ((x, d) :: ds)
end
section
variable {T : Tb} {H H' : Hp}
mutual
theorem Rp.mono (e : Ext H H') : ∀ {v : V} {d : D}, Rp T H v d → Rp T H' v d
  | _, _, .non => .non
  | _, _, .bl b => .bl b
  | _, _, .int i => .int i
  | _, _, .str x => .str x
  | _, _, .tup h r => .tup (e.sqT h) (RpL.mono e r)
  | _, _, .lst h r => .lst (e _ _ h) (RpL.mono e r)
  | _, _, .scr h => .scr (e.sqL h)
  | _, _, .obj m h r => .obj m (e _ _ h) (RpF.mono e r)
  | _, _, .fn m => .fn m
  | _, _, .emp h => .emp (e _ _ h)
theorem RpL.mono (e : Ext H H') : ∀ {vs : List V} {ds : List D}, RpL T H vs ds → RpL T H' vs ds
  | _, _, .nil => .nil
  | _, _, .cons a r => .cons (Rp.mono e a) (RpL.mono e r)
theorem RpF.mono (e : Ext H H') : ∀ {vs : List (Str × V)} {ds : List (Str × D)}, RpF T H vs ds → RpF T H' vs ds
  | _, _, .nil => .nil
  | _, _, .cons a r => .cons (Rp.mono e a) (RpF.mono e r)
end
theorem RpL.length : ∀ {vs : List V} {ds : List D}, RpL T H vs ds → vs.length = ds.length
  | _, _, .nil => rfl
  | _, _, .cons _ r => by simp [RpL.length r]
theorem RpL.get : ∀ {vs : List V} {ds : List D} {i : Nat} {v : V}, RpL T H vs ds → vs[i]? = some v → ∃ d, ds[i]? = some d ∧ Rp T H v d
  | _, _, _, _, .nil, e => by simp at e
  | _, _, 0, _, .cons a _, e => by simp at e; subst e; exact ⟨_, rfl, a⟩
  | _, _, i + 1, _, .cons _ r, e => by
    obtain ⟨d, h1, h2⟩ := RpL.get (i := i) r (by simpa using e)
    exact ⟨d, by simpa using h1, h2⟩
theorem RpL.getD : ∀ {vs : List V} {ds : List D} {i : Nat} {d : D}, RpL T H vs ds → ds[i]? = some d → ∃ v, vs[i]? = some v ∧ Rp T H v d
  | _, _, _, _, .nil, e => by simp at e
  | _, _, 0, _, .cons a _, e => by simp at e; subst e; exact ⟨_, rfl, a⟩
  | _, _, i + 1, _, .cons _ r, e => by
    obtain ⟨d, h1, h2⟩ := RpL.getD (i := i) r (by simpa using e)
    exact ⟨d, by simpa using h1, h2⟩
theorem RpL.append : ∀ {vs ws : List V} {ds es : List D}, RpL T H vs ds → RpL T H ws es → RpL T H (vs ++ ws) (ds ++ es)
  | _, _, _, _, .nil, s => s
  | _, _, _, _, .cons a r, s => .cons a (RpL.append r s)
theorem RpL.take : ∀ {vs : List V} {ds : List D} (n : Nat), RpL T H vs ds → RpL T H (vs.take n) (ds.take n)
  | _, _, 0, _ => by simp; exact .nil
  | _, _, _ + 1, .nil => .nil
  | _, _, n + 1, .cons a r => .cons a (RpL.take n r)
theorem RpL.drop : ∀ {vs : List V} {ds : List D} (n : Nat), RpL T H vs ds → RpL T H (vs.drop n) (ds.drop n)
  | _, _, 0, r => r
  | _, _, _ + 1, .nil => .nil
  | _, _, n + 1, .cons _ r => RpL.drop n r
theorem RpL.set {v : V} {d : D} (h : Rp T H v d) : ∀ {vs : List V} {ds : List D} (i : Nat), RpL T H vs ds → RpL T H (vs.set i v) (ds.set i d)
  | _, _, _, .nil => .nil
  | _, _, 0, .cons _ r => .cons h r
  | _, _, i + 1, .cons a r => .cons a (RpL.set h i r)
theorem RpL.reverse : ∀ {vs : List V} {ds : List D}, RpL T H vs ds → RpL T H vs.reverse ds.reverse
  | _, _, .nil => .nil
  | _, _, .cons a r => by
    simp only [List.reverse_cons]
    exact RpL.append (RpL.reverse r) (.cons a .nil)
theorem RpL.rep {vs : List V} {ds : List D} (r : RpL T H vs ds) : ∀ k : Nat, RpL T H (List.replicate k vs).flatten (List.replicate k ds).flatten
  | 0 => .nil
  | k + 1 => by
    simp only [List.replicate_succ, List.flatten_cons]
    exact RpL.append r (RpL.rep r k)
theorem RpL.eraseIdx : ∀ {vs : List V} {ds : List D} (i : Nat), RpL T H vs ds → RpL T H (vs.eraseIdx i) (ds.eraseIdx i)
  | _, _, _, .nil => .nil
  | _, _, 0, .cons _ r => r
  | _, _, i + 1, .cons a r => .cons a (RpL.eraseIdx i r)
theorem RpL.dropLast : ∀ {vs : List V} {ds : List D}, RpL T H vs ds → RpL T H vs.dropLast ds.dropLast
  | _, _, .nil => .nil
  | _, _, .cons _ .nil => .nil
  | _, _, .cons a (.cons b r) => by
    have := RpL.dropLast (.cons b r : RpL T H _ _)
    simp only [List.dropLast_cons_cons]
    exact .cons a this
theorem RpF.length : ∀ {vs : List (Str × V)} {ds : List (Str × D)}, RpF T H vs ds → vs.length = ds.length
  | _, _, .nil => rfl
  | _, _, .cons _ r => by simp [RpF.length r]
theorem RpF.look : ∀ {vs : List (Str × V)} {ds : List (Str × D)} {x : Str} {d : D}, RpF T H vs ds → ds.lookup x = some d → ∃ v, vs.lookup x = some v ∧ Rp T H v d
  | _, _, _, _, .nil, e => by simp at e
  | _, _, x, d, .cons (x := y) a r, e => by
    simp only [List.lookup] at e ⊢
    split at e
    · cases e; exact ⟨_, rfl, a⟩
    · exact RpF.look r e
end

/-- an own object: a list, a dict -/
inductive Ob where
  | lst (ds : List D)
  | dic (kvs : List (Key × D))
inductive RpK (T : Tb) (H : Hp) : List (Key × V) → List (Key × D) → Prop
  | nil : RpK T H [] []
  | cons {x : Key} {v : V} {vs : List (Key × V)} {d : D} {ds : List (Key × D)} : Rp T H v d → RpK T H vs ds → RpK T H ((x, v) :: vs) ((x, d) :: ds)
theorem RpK.mono {T : Tb} {H H' : Hp} (e : Ext H H') : ∀ {vs : List (Key × V)} {ds : List (Key × D)}, RpK T H vs ds → RpK T H' vs ds
  | _, _, .nil => .nil
  | _, _, .cons a r => .cons (a.mono e) (RpK.mono e r)
def ObOk (T : Tb) (G : Hp) : HO → Ob → Prop
  | .lst vs, .lst ds => RpL T G vs ds
  | .dK kvs, .dic es => RpK T G kvs es
  | _, _ => False
theorem ObOk.mono {T : Tb} {H H' : Hp} (e : Ext H H') : ∀ {o : HO} {ob : Ob}, ObOk T H o ob → ObOk T H' o ob
  | .lst _, .lst _, h => RpL.mono e h
  | .dK _, .dic _, h => RpK.mono e h
  | .tup _, _, h => h.elim
  | .dT _, _, h => h.elim
  | .set _ _, _, h => h.elim
  | .ins _ _ _, _, h => h.elim
  | .own _, _, h => h.elim
  | .xd _, _, h => h.elim
  | .met _ _, _, h => h.elim
  | .rng _ _, _, h => h.elim
  | .frz _ _, _, h => h.elim
  | .tbl _, _, h => h.elim
  | .ext _, _, h => h.elim
  | .lst _, .dic _, h => h.elim
  | .dK _, .lst _, h => h.elim
theorem ObOk.lst {T : Tb} {H : Hp} {o : HO} {ds : List D} (h : ObOk T H o (.lst ds)) : ∃ vs, o = .lst vs ∧ RpL T H vs ds := by
  cases o <;> first | exact ⟨_, rfl, h⟩ | exact h.elim
theorem ObOk.dic {T : Tb} {H : Hp} {o : HO} {ds : List (Key × D)} (h : ObOk T H o (.dic ds)) : ∃ vs, o = .dK vs ∧ RpK T H vs ds := by
  cases o <;> first | exact ⟨_, rfl, h⟩ | exact h.elim
theorem ObOk.nt {T : Tb} {H : Hp} {o : HO} {ob : Ob} (h : ObOk T H o ob) (ps : Array Value) : o ≠ .tbl ps := by
  rintro rfl; cases ob <;> exact h.elim

/-! ### slots and states -/
inductive Sl where
  | un
  | im (d : D)
  | ow (par : Bool) (ob : Ob)
abbrev En := List Sl
def OwnAt (σ : L2.St) (ρ : En) (a : Addr) : Prop := ∃ (i : Nat) (par : Bool) (ob : Ob), ρ[i]? = some (.ow par ob) ∧ σ[i]? = some (some (.ref a))
structure Ok (T : Tb) (G H : Hp) (σ : L2.St) (ρ : En) : Prop where
  ex : Ext G H
  tb : LamX.Tabs T.tabs H
  len : ρ.length = σ.length
  im : ∀ (i : Nat) (d : D), ρ[i]? = some (.im d) → ∃ v, σ[i]? = some (some v) ∧ Rp T G v d
  ow : ∀ (i : Nat) (par : Bool) (ob : Ob), ρ[i]? = some (.ow par ob) → ∃ (p : Addr) (o : HO), σ[i]? = some (some (.ref p)) ∧ G p = none ∧ H p = some o ∧ ObOk T G o ob
  ds : ∀ (i j : Nat) (p : Addr) (a : Bool) (x : Ob) (b : Bool) (y : Ob), i ≠ j → ρ[i]? = some (.ow a x) → ρ[j]? = some (.ow b y) → σ[i]? = some (some (.ref p)) → σ[j]? = some (some (.ref p)) → False
structure Stp (G H : Hp) (σ : L2.St) (ρ : En) (G' H' : Hp) (σ' : L2.St) (ρ' : En) : Prop where
  keep : ∀ (a : Addr) (o : HO), H a = some o → (∀ ps, o ≠ .tbl ps) → ¬ OwnAt σ ρ a → H' a = some o ∧ G' a = G a
  own : ∀ a, OwnAt σ' ρ' a → OwnAt σ ρ a ∨ H a = none
  dom : ∀ a, H' a = none → H a = none
  par : ∀ (i : Nat) (ob : Ob), ρ[i]? = some (.ow true ob) → (∃ ob', ρ'[i]? = some (.ow true ob')) ∧ σ'[i]? = σ[i]?
  tbl : ∀ (a : Addr) (ps : Array Value), H a = some (.tbl ps) → (∃ ps', H' a = some (.tbl ps')) ∧ G' a = G a
section
variable {T : Tb} {G H G1 H1 G2 H2 : Hp} {σ σ1 σ2 : L2.St} {ρ ρ1 ρ2 : En}
theorem Stp.refl : Stp G H σ ρ G H σ ρ := ⟨fun _ _ h _ _ => ⟨h, rfl⟩, fun _ h => .inl h, fun _ h => h, fun _ ob h => ⟨⟨ob, h⟩, rfl⟩, fun _ ps h => ⟨⟨ps, h⟩, rfl⟩⟩
theorem Ok.noown (k : Ok T G H σ ρ) {a : Addr} {o : HO} (h : G a = some o) : ¬ OwnAt σ ρ a := fun ⟨i, par, ob, e1, e2⟩ => by
  obtain ⟨p, o', q1, q2, _⟩ := k.ow i par ob e1
  rw [e2] at q1; cases q1; rw [h] at q2; cases q2
theorem Ok.owned (k : Ok T G H σ ρ) {a : Addr} (h : OwnAt σ ρ a) : ∃ o ob, H a = some o ∧ G a = none ∧ ObOk T G o ob := by
  obtain ⟨i, par, ob, e1, e2⟩ := h
  obtain ⟨p, o', q1, q2, q3, q4⟩ := k.ow i par ob e1
  rw [e2] at q1; cases q1; exact ⟨_, _, q3, q2, q4⟩
/-- the immutable view only grows -/
theorem Stp.ext (s : Stp G H σ ρ G1 H1 σ1 ρ1) (k : Ok T G H σ ρ) : Ext G G1 := fun a o h => by
  have h1 := k.ex a o h
  by_cases ht : ∃ ps, o = .tbl ps
  · obtain ⟨ps, rfl⟩ := ht
    rw [(s.tbl a ps h1).2]; exact h
  · rw [(s.keep a o h1 (fun ps e => ht ⟨ps, e⟩) (k.noown h)).2]; exact h
theorem Stp.trans (a : Stp G H σ ρ G1 H1 σ1 ρ1) (b : Stp G1 H1 σ1 ρ1 G2 H2 σ2 ρ2) : Stp G H σ ρ G2 H2 σ2 ρ2 where
  keep := fun c o h nt no => by
    obtain ⟨q1, q2⟩ := a.keep c o h nt no
    obtain ⟨q3, q4⟩ := b.keep c o q1 nt (fun w => (a.own c w).elim no fun z => by rw [h] at z; cases z)
    exact ⟨q3, q4.trans q2⟩
  own := fun c h => (b.own c h).elim (a.own c) fun z => .inr (a.dom c z)
  dom := fun c h => a.dom c (b.dom c h)
  par := fun i ob h => by
    obtain ⟨⟨ob1, e1⟩, e2⟩ := a.par i ob h
    obtain ⟨⟨ob2, e3⟩, e4⟩ := b.par i ob1 e1
    exact ⟨⟨ob2, e3⟩, e4.trans e2⟩
  tbl := fun c ps h => by
    obtain ⟨⟨ps', h'⟩, e⟩ := a.tbl c ps h
    obtain ⟨h2, e2⟩ := b.tbl c ps' h'
    exact ⟨h2, e2.trans e⟩
end
end L2.DL
namespace L2.DL
open PySem PySem.Spec PyProof.Rows

/-! ### results -/
structure Exc where
  c : Str
  fs : List (Str × D)
inductive Res (α : Type) where
  | ok (a : α) (ρ : En)
  | ex (e : Exc) (ρ : En)
abbrev M (α : Type) := En → Option (Res α)
def bnd {α β : Type} (x : Option (Res α)) (k : α → M β) : Option (Res β) := match x with
  | none => none
  | some (.ex e ρ) => some (.ex e ρ)
  | some (.ok a ρ) => k a ρ
@[simp] theorem bnd_none {α β : Type} (k : α → M β) : bnd none k = none := rfl
@[simp] theorem bnd_ok {α β : Type} (k : α → M β) (a : α) (ρ : En) : bnd (some (.ok a ρ)) k = k a ρ := rfl
@[simp] theorem bnd_ex {α β : Type} (k : α → M β) (e : Exc) (ρ : En) : bnd (some (.ex e ρ)) k = some (.ex e ρ) := rfl
def ret {α : Type} (a : α) : M α := fun ρ => some (.ok a ρ)
/-- a value that may fail -/
def opt {α : Type} (x : Option α) : M α := fun ρ => x.map fun a => .ok a ρ
@[simp] theorem ret_eq {α : Type} (a : α) (ρ : En) : ret a ρ = some (.ok a ρ) := rfl
@[simp] theorem opt_some {α : Type} (a : α) (ρ : En) : opt (some a) ρ = some (.ok a ρ) := rfl
@[simp] theorem opt_none {α : Type} (ρ : En) : opt (none : Option α) ρ = none := rfl

def ExOk (T : Tb) (G H : Hp) (e : Exc) (cls : Value) (d : Option Addr) : Prop :=
  ∃ C, T.mg e.c = some (.ref C) ∧ cls = .ref C ∧ ((e.fs = [] ∧ d = none) ∨ ∃ dd xs, d = some dd ∧ H dd = some (.xd xs) ∧ RpF T G xs e.fs)

/-- what an expression gives: data; the own object of a slot; a new object that nobody else has -/
inductive Rv where
  | im (d : D)
  | al (i : Nat)
  | nw (ob : Ob)
def RvOk (T : Tb) (Hs G H : Hp) (σ : L2.St) (ρ : En) (v : V) : Rv → Prop
  | .im d => Rp T G v d
  | .al i => σ[i]? = some (some v)
  | .nw ob => ∃ (p : Addr) (o : HO), v = .ref p ∧ Hs p = none ∧ G p = none ∧ H p = some o ∧ ObOk T G o ob ∧ ¬ OwnAt σ ρ p
def Ob.toD : Ob → Option D
  | .lst ds => some (.lst ds)
  | .dic _ => none
def deref (ρ : En) : Rv → Option D
  | .im d => some d
  | .al i => match ρ[i]? with
    | some (.im d) => some d
    | some (.ow _ ob) => ob.toD
    | _ => none
  | .nw ob => ob.toD
/-- read as d, whether it may change later or not -/
def Vw (T : Tb) (G H : Hp) (v : V) (d : D) : Prop :=
  Rp T G v d ∨ ∃ (p : Addr) (vs : List V) (ds : List D), v = .ref p ∧ d = .lst ds ∧ G p = none ∧ H p = some (.lst vs) ∧ RpL T G vs ds

section
variable {T : Tb} {Hs G H G1 H1 G2 H2 : Hp} {σ σ1 σ2 : L2.St} {ρ ρ1 ρ2 : En} {v : V} {r : Rv} {d : D}
theorem Vw.rp (e : Ext G H) (h : Vw T G H v d) (hl : ∀ ds, d = .lst ds → True) : Vw T G H v d := h
theorem vw_of (k : Ok T G H σ ρ) (h : RvOk T Hs G H σ ρ v r) (e : deref ρ r = some d) : Vw T G H v d := by
  cases r with
  | im d' => cases e; exact .inl h
  | al i =>
    have h : σ[i]? = some (some v) := h
    simp only [deref] at e
    split at e
    · rename_i d' hd
      cases e
      obtain ⟨v', e1, e2⟩ := k.im i _ hd
      rw [h] at e1; cases e1; exact .inl e2
    · rename_i par ob hd
      obtain ⟨p, o, e1, e2, e3, e4⟩ := k.ow i _ _ hd
      rw [h] at e1; cases e1
      cases ob with
      | lst ds =>
        cases e
        obtain ⟨vs, rfl, e5⟩ := e4.lst
        exact .inr ⟨p, vs, ds, rfl, rfl, e2, e3, e5⟩
      | dic _ => cases e
    · cases e
  | nw ob =>
    obtain ⟨p, o, rfl, _, e2, e3, e4, _⟩ := h
    cases ob with
    | lst ds =>
      cases e
      obtain ⟨vs, rfl, e5⟩ := e4.lst
      exact .inr ⟨p, vs, ds, rfl, rfl, e2, e3, e5⟩
    | dic _ => cases e
theorem RvOk.step (h : RvOk T Hs G H σ ρ v r) (s : Stp G H σ ρ G1 H1 σ ρ1) (k : Ok T G H σ ρ) : RvOk T Hs G1 H1 σ ρ1 v r := by
  cases r with
  | im d => exact Rp.mono (s.ext k) h
  | al i => exact h
  | nw ob =>
    obtain ⟨p, o, rfl, e1, e2, e3, e4, e5⟩ := h
    obtain ⟨q1, q2⟩ := s.keep p o e3 e4.nt e5
    exact ⟨p, o, rfl, e1, q2.trans e2, q1, e4.mono (s.ext k), fun w => (s.own p w).elim e5 fun z => by rw [e3] at z; cases z⟩
theorem RvOk.shift {Hs' : Hp} (h : RvOk T Hs' G H σ ρ v r) (e : ∀ a, Hs' a = none → Hs a = none) : RvOk T Hs G H σ ρ v r := by
  cases r with
  | im d => exact h
  | al i => exact h
  | nw ob =>
    obtain ⟨p, o, rfl, e1, q⟩ := h
    exact ⟨p, o, rfl, e p e1, q⟩
end

/-! ### what only lays new objects -/
def Grow (G H H' : Hp) : Hp := fun a => match H a with
  | none => H' a
  | some _ => G a
section
variable {T : Tb} {G H H1 : Hp} {σ : L2.St} {ρ : En}
theorem grow_old {a : Addr} {o : HO} (h : H a = some o) : Grow G H H1 a = G a := by simp [Grow, h]
theorem grow_new {a : Addr} (h : H a = none) : Grow G H H1 a = H1 a := by simp [Grow, h]
theorem grow_ext (e : Ext G H) : Ext G (Grow G H H1) := fun a o h => by rw [grow_old (e a o h)]; exact h
theorem grow_in (e : Ext G H) (x : Ext H H1) : Ext (Grow G H H1) H1 := fun a o h => by
  cases q : H a with
  | none => rw [grow_new q] at h; exact h
  | some u => rw [grow_old q] at h; exact x a o (e a o h)
theorem grow_self : Grow G H H = G ∨ True := .inr trivial
theorem Ok.grow (k : Ok T G H σ ρ) (x : Ext H H1) : Ok T (Grow G H H1) H1 σ ρ where
  ex := grow_in k.ex x
  tb := k.tb.ext x
  len := k.len
  im := fun i d h => let ⟨v, e, r⟩ := k.im i d h; ⟨v, e, r.mono (grow_ext k.ex)⟩
  ow := fun i par ob h => let ⟨p, o, e1, e2, e3, e4⟩ := k.ow i par ob h; ⟨p, o, e1, by rw [grow_old e3]; exact e2, x p o e3, e4.mono (grow_ext k.ex)⟩
  ds := k.ds
theorem Stp.grow (x : Ext H H1) : Stp G H σ ρ (Grow G H H1) H1 σ ρ where
  keep := fun a o h _ _ => ⟨x a o h, grow_old h⟩
  own := fun a h => .inl h
  dom := fun a h => Ext.free x h
  par := fun i ob h => ⟨⟨ob, h⟩, rfl⟩
  tbl := fun a ps h => ⟨⟨ps, x a _ h⟩, grow_old h⟩
/-- a new object that stays outside of the view -/
theorem Ok.lay (k : Ok T G H σ ρ) {p : Addr} {o : HO} (hp : H p = none) : Ok T G (upd H p o) σ ρ where
  ex := k.ex.trans (Ext.new hp)
  tb := k.tb.ext (Ext.new hp)
  len := k.len
  im := k.im
  ow := fun i par ob h => let ⟨q, u, e1, e2, e3, e4⟩ := k.ow i par ob h; ⟨q, u, e1, e2, Ext.new hp q u e3, e4⟩
  ds := k.ds
theorem Stp.lay {p : Addr} {o : HO} (hp : H p = none) : Stp G H σ ρ G (upd H p o) σ ρ where
  keep := fun a u h _ _ => ⟨Ext.new hp a u h, rfl⟩
  own := fun a h => .inl h
  dom := fun a h => Ext.free (Ext.new hp) h
  par := fun i ob h => ⟨⟨ob, h⟩, rfl⟩
  tbl := fun a ps h => ⟨⟨ps, Ext.new hp a _ h⟩, rfl⟩
theorem Ok.fresh_own (k : Ok T G H σ ρ) {p : Addr} (hp : H p = none) : ¬ OwnAt σ ρ p := fun w => by
  obtain ⟨o, ob, e, _⟩ := k.owned w
  rw [hp] at e; cases e
theorem Ok.fresh_view (k : Ok T G H σ ρ) {p : Addr} (hp : H p = none) : G p = none := Ext.free k.ex hp
end

/-! ### contexts -/
structure Cf where
  T : Tb
  N : List Str
  sc : Scope
  k : Nat
  fn : Str → Bool
structure CxOk (C : Cf) (X : Cx) (W : WX) : Prop where
  tb : tbOf X C.T.tabs = C.T
  n : X.N = C.N
  nd : C.N.Nodup
  s : X.env.scope = C.sc
  calm : X.calm = true
  room : Room C.k X.A
  tk : Takes X W
  po : PassesOwn (model X.prog X.w) X.A X.env X.xe
  hf : X.fn = C.fn
  gd : X.A.guards = some []
/-- a def's own context -/
structure CxS (C : Cf) (X : Cx) (W : WX) : Prop extends CxOk C X W where
  st : X.stack = X.env :: X.outer
  fr : X.env.frame = some X.env.locals

/-! ### judgements -/
def Tel {α β : Type} (T : Tb) (RO : Hp → Hp → Hp → L2.St → En → β → α → Prop) (G H : Hp) (σ : L2.St) (ρ : En) (W : WX) (Q : β → Hp → Prop) : Option (Res α) → Prop
  | none => False
  | some (.ok a ρ') => ∀ (b : β) (G' H' : Hp), Ok T G' H' σ ρ' → Stp G H σ ρ G' H' σ ρ' → RO H G' H' σ ρ' b a → Q b H'
  | some (.ex e ρ') => ∀ (cls : Value) (d : Option Addr) (G' H' : Hp), Ok T G' H' σ ρ' → Stp G H σ ρ G' H' σ ρ' → ExOk T G' H' e cls d → W cls d σ H'
def ROb (_ _ _ : Hp) (_ : L2.St) (_ : En) (b a : Bool) : Prop := b = a
def ROd (T : Tb) (_ G _ : Hp) (_ : L2.St) (_ : En) (v : V) (d : D) : Prop := Rp T G v d
inductive RvsOk (T : Tb) (Hs G H : Hp) (σ : L2.St) (ρ : En) : List V → List Rv → Prop
  | nil : RvsOk T Hs G H σ ρ [] []
  | cons {v : V} {vs : List V} {r : Rv} {rs : List Rv} : RvOk T Hs G H σ ρ v r → (∀ ob, r = .nw ob → ∀ (j : Nat) (v' : V) (ob' : Ob), vs[j]? = some v' → rs[j]? = some (.nw ob') → v' ≠ v) → RvsOk T Hs G H σ ρ vs rs → RvsOk T Hs G H σ ρ (v :: vs) (r :: rs)
def XE (C : Cf) (e : Expr) (m : M Rv) : Prop := ∃ t : WX → TE, (∀ X W, CxOk C X W → PE X e (t W)) ∧
  ∀ W G H σ ρ Q, Ok C.T G H σ ρ → Tel C.T (RvOk C.T) G H σ ρ W Q (m ρ) → t W σ H Q
def XT (C : Cf) (e : Expr) (m : M Bool) : Prop := ∃ t : WX → TT, (∀ X W, CxOk C X W → PT X e (t W)) ∧
  ∀ W G H σ ρ Q, Ok C.T G H σ ρ → Tel C.T ROb G H σ ρ W Q (m ρ) → t W σ H Q
/-- expressions in a row -/
def XA (C : Cf) (es : List Expr) (m : M (List Rv)) : Prop := (∀ ρ rs ρ', m ρ = some (.ok rs ρ') → rs.length = es.length) ∧ ∃ t : WX → TA, (∀ X W, CxOk C X W → PA X es (t W)) ∧
  ∀ W G H σ ρ Q, Ok C.T G H σ ρ → Tel C.T (RvsOk C.T) G H σ ρ W Q (m ρ) → t W σ H Q

section
variable {T : Tb} {G H G1 H1 G2 H2 : Hp} {σ : L2.St} {ρ ρ1 ρ2 : En} {W : WX}
/-- what is told from a later state on -/
theorem Tel.later {α β : Type} {RO : Hp → Hp → Hp → L2.St → En → β → α → Prop} {Q : β → Hp → Prop} {x : Option (Res α)} (hsh : ∀ Hs Hs' G H σ ρ b a, (∀ p, Hs' p = none → Hs p = none) → RO Hs' G H σ ρ b a → RO Hs G H σ ρ b a)
    (s : Stp G H σ ρ G1 H1 σ ρ1) (h : Tel T RO G H σ ρ W Q x) : Tel T RO G1 H1 σ ρ1 W Q x := by
  cases x with
  | none => exact h
  | some y =>
    cases y with
    | ok a ρ' => exact fun b G' H' k s' r => h b G' H' k (s.trans s') (hsh _ _ _ _ _ _ _ _ s.dom r)
    | ex e ρ' => exact fun cls d G' H' k s' r => h cls d G' H' k (s.trans s') r
theorem sh_b (Hs Hs' G H : Hp) (σ : L2.St) (ρ : En) (b a : Bool) (_ : ∀ p, Hs' p = none → Hs p = none) (h : ROb Hs' G H σ ρ b a) : ROb Hs G H σ ρ b a := h
theorem sh_v (Hs Hs' G H : Hp) (σ : L2.St) (ρ : En) (b : V) (a : Rv) (e : ∀ p, Hs' p = none → Hs p = none) (h : RvOk T Hs' G H σ ρ b a) : RvOk T Hs G H σ ρ b a := h.shift e
theorem sh_d (Hs Hs' G H : Hp) (σ : L2.St) (ρ : En) (b : V) (a : D) (_ : ∀ p, Hs' p = none → Hs p = none) (h : ROd T Hs' G H σ ρ b a) : ROd T Hs G H σ ρ b a := h
theorem RvsOk.shift {Hs Hs' : Hp} (e : ∀ p, Hs' p = none → Hs p = none) : ∀ {vs : List V} {rs : List Rv}, RvsOk T Hs' G H σ ρ vs rs → RvsOk T Hs G H σ ρ vs rs
  | _, _, .nil => .nil
  | _, _, .cons a n r => .cons (a.shift e) n (RvsOk.shift e r)
theorem sh_s (Hs Hs' G H : Hp) (σ : L2.St) (ρ : En) (b : List V) (a : List Rv) (e : ∀ p, Hs' p = none → Hs p = none) (h : RvsOk T Hs' G H σ ρ b a) : RvsOk T Hs G H σ ρ b a := h.shift e
/-- first the one, then what hangs on it -/
theorem tel_bnd {α α' β β' : Type} {RO : Hp → Hp → Hp → L2.St → En → β → α → Prop} {RO' : Hp → Hp → Hp → L2.St → En → β' → α' → Prop} {Q : β → Hp → Prop} {Q' : β' → Hp → Prop} {x : Option (Res α)} {k : α → M α'}
    (hsh : ∀ Hs Hs' G H σ ρ b a, (∀ p, Hs' p = none → Hs p = none) → RO' Hs' G H σ ρ b a → RO' Hs G H σ ρ b a) (h : Tel T RO' G H σ ρ W Q' (bnd x k))
    (hk : ∀ (b : β) (a : α) (ρ1 : En) (G1 H1 : Hp), Ok T G1 H1 σ ρ1 → Stp G H σ ρ G1 H1 σ ρ1 → RO H G1 H1 σ ρ1 b a → Tel T RO' G1 H1 σ ρ1 W Q' (k a ρ1) → Q b H1) : Tel T RO G H σ ρ W Q x := by
  cases x with
  | none => exact h
  | some y =>
    cases y with
    | ok a ρ' => exact fun b G' H' o s r => hk b a ρ' G' H' o s r (Tel.later hsh s h)
    | ex e ρ' => exact h
/-- .. seen from where it began -/
theorem tel_bnd0 {α α' β β' : Type} {RO : Hp → Hp → Hp → L2.St → En → β → α → Prop} {RO' : Hp → Hp → Hp → L2.St → En → β' → α' → Prop} {Q : β → Hp → Prop} {Q' : β' → Hp → Prop} {x : Option (Res α)} {k : α → M α'}
    (h : Tel T RO' G H σ ρ W Q' (bnd x k))
    (hk : ∀ (b : β) (a : α) (ρ1 : En) (G1 H1 : Hp), Ok T G1 H1 σ ρ1 → Stp G H σ ρ G1 H1 σ ρ1 → RO H G1 H1 σ ρ1 b a → x = some (.ok a ρ1) → Tel T RO' G H σ ρ W Q' (k a ρ1) → Q b H1) : Tel T RO G H σ ρ W Q x := by
  cases x with
  | none => exact h
  | some y =>
    cases y with
    | ok a ρ' => exact fun b G' H' o s r => hk b a ρ' G' H' o s r rfl h
    | ex e ρ' => exact h
theorem tel_ret {α β : Type} {RO : Hp → Hp → Hp → L2.St → En → β → α → Prop} {Q : β → Hp → Prop} {a : α} {b : β} (h : Tel T RO G H σ ρ W Q (some (.ok a ρ))) (k : Ok T G H σ ρ) (r : RO H G H σ ρ b a) : Q b H := h b G H k Stp.refl r
/-- an end behind new objects -/
theorem tel_grow {α β : Type} {RO : Hp → Hp → Hp → L2.St → En → β → α → Prop} {Q : β → Hp → Prop} {a : α} {b : β} {H' : Hp} (h : Tel T RO G H σ ρ W Q (some (.ok a ρ))) (k : Ok T G H σ ρ) (x : Ext H H') (r : RO H (Grow G H H') H' σ ρ b a) : Q b H' :=
  h b _ H' (k.grow x) (Stp.grow x) r
theorem tel_new {Q : VK} {ob : Ob} {p : Addr} {o : HO} (h : Tel T (RvOk T) G H σ ρ W Q (some (.ok (.nw ob) ρ))) (k : Ok T G H σ ρ) (hp : H p = none) (r : ObOk T G o ob) : Q (.ref p) (upd H p o) :=
  h (.ref p) G _ (k.lay hp) (Stp.lay hp) ⟨p, o, rfl, hp, k.fresh_view hp, upd_same, r, k.fresh_own hp⟩
end

/-! ### names, constants -/
def xVar (i : Nat) : M Rv := fun ρ => match ρ[i]? with
  | some (.im d) => some (.ok (.im d) ρ)
  | some (.ow _ _) => some (.ok (.al i) ρ)
  | _ => none
def xC (d : D) : M Rv := ret (.im d)
section
variable {C : Cf}
theorem xe_var (i : Nat) {x : Str} {pos : Pos} (hN : C.N[i]? = some x) (hv : Vis C.sc x) (hd : (x == ("__debug__" : Str)) = false := by decide) (hcd : (x == ("__classdict__" : Str)) = false := by decide) : XE C (.Name x pos) (xVar i) := by
  refine ⟨fun _ => tVar i, fun X W c => pe_var (by rw [c.n]; exact hN) (by rw [c.s]; exact hv) hd hcd, fun W G H σ ρ Q k h => ?_⟩
  simp only [xVar] at h
  split at h
  · rename_i d hd
    obtain ⟨v, e, r⟩ := k.im i d hd
    exact ⟨v, e, tel_ret h k r⟩
  · rename_i par ob hd
    obtain ⟨p, o, e, _⟩ := k.ow i par ob hd
    exact ⟨_, e, tel_ret h k e⟩
  · exact h.elim
theorem xe_int {i : Int} {j : Nat} {pos : Pos} : XE C (.Constant (.int i) j pos) (xC (.int i)) := ⟨fun _ => tC _, fun _ _ _ => pe_int, fun _ _ _ _ _ _ k h => tel_ret h k (.int i)⟩
theorem xe_bl {b : Bool} {j : Nat} {pos : Pos} : XE C (.Constant (.bool b) j pos) (xC (.bl b)) := ⟨fun _ => tC _, fun _ _ _ => pe_bl, fun _ _ _ _ _ _ k h => tel_ret h k (.bl b)⟩
theorem xe_non {j : Nat} {pos : Pos} : XE C (.Constant .none j pos) (xC .non) := ⟨fun _ => tC _, fun _ _ _ => pe_non, fun _ _ _ _ _ _ k h => tel_ret h k .non⟩
theorem xe_str {x : Str} {j : Nat} {pos : Pos} : XE C (.Constant (.str x) j pos) (xC (.str x)) := ⟨fun _ => tC _, fun _ _ _ => pe_str, fun _ _ _ _ _ _ k h => tel_ret h k (.str x)⟩
/-- a number, a text of the module -/
theorem xe_glob {x : Str} {u : Value} {v : V} {d : D} {pos : Pos} (hm : C.T.mg x = some u) (r : RelV v u) (hr : ∀ H, Rp C.T H v d) (hg : C.sc.names.lookup x = some .globalImplicit) (hd : (x == ("__debug__" : Str)) = false := by decide) : XE C (.Name x pos) (xC d) := by
  refine ⟨fun _ => tC v, fun X W c => ?_, fun _ G _ _ _ _ k h => tel_ret h k (hr G)⟩
  refine pe_glob (u := u) (by show X.env.scope.names.lookup x = _; rw [c.s]; exact hg) ?_ r hd
  have e : X.mg = C.T.mg := congrArg Tb.mg c.tb
  rw [e]; exact hm
end
end L2.DL
namespace L2.DL
open PySem PySem.Spec PyProof.Rows

/-! ### a value becomes data -/
def fz1 : Rv → En → Option (D × En)
  | .im d, ρ => some (d, ρ)
  | .al i, ρ => match ρ[i]? with
    | some (.im d) => some (d, ρ)
    | some (.ow false (.lst ds)) => some (.lst ds, ρ.set i (.im (.lst ds)))
    | _ => none
  | .nw (.lst ds), ρ => some (.lst ds, ρ)
  | .nw (.dic []), ρ => some (.emp, ρ)
  | .nw (.dic _), _ => none
def fzs : List Rv → En → Option (List D × En)
  | [], ρ => some ([], ρ)
  | r :: rs, ρ => match fz1 r ρ with
    | none => none
    | some (d, ρ1) => match fzs rs ρ1 with
      | none => none
      | some (ds, ρ2) => some (d :: ds, ρ2)
section
variable {T : Tb} {Hs Gs G H : Hp} {σ : L2.St} {ρs ρ : En} {v : V} {r : Rv}
theorem rpl_upd {p : Addr} {vs : List V} {ds : List D} (hp : G p = none) (h : RpL T G vs ds) : Rp T (upd G p (.lst vs)) (.ref p) (.lst ds) := .lst upd_same (h.mono (Ext.new hp))
/-- an object of no slot is put into the view -/
theorem view_nw (k : Ok T G H σ ρ) (s : Stp Gs Hs σ ρs G H σ ρ) {p : Addr} {o : HO} (hs : Hs p = none) (hg : G p = none) (hh : H p = some o) (no : ¬ OwnAt σ ρ p) :
    Ok T (upd G p o) H σ ρ ∧ Stp Gs Hs σ ρs (upd G p o) H σ ρ := by
  have x : Ext G (upd G p o) := Ext.new hg
  refine ⟨⟨fun a u e => ?_, k.tb, k.len, fun i d h => ?_, fun i par ob h => ?_, k.ds⟩, ⟨fun a u h nt hn => ?_, s.own, s.dom, s.par, fun a ps h => ?_⟩⟩
  · by_cases q : a = p
    · subst q; rw [upd_same] at e; rw [hh]; exact e
    · rw [upd_ne q] at e; exact k.ex a u e
  · obtain ⟨v, e, r⟩ := k.im i d h
    exact ⟨v, e, r.mono x⟩
  · obtain ⟨q, u, e1, e2, e3, e4⟩ := k.ow i par ob h
    have hne : q ≠ p := fun z => no ⟨i, par, ob, h, by rw [← z]; exact e1⟩
    exact ⟨q, u, e1, by rw [upd_ne hne]; exact e2, e3, e4.mono x⟩
  · have hne : a ≠ p := ne_of_none h hs
    rw [upd_ne hne]; exact s.keep a u h nt hn
  · have hne : a ≠ p := ne_of_none h hs
    rw [upd_ne hne]; exact s.tbl a ps h
/-- a slot's own list becomes data -/
theorem view_al (k : Ok T G H σ ρ) (s : Stp Gs Hs σ ρs G H σ ρ) {i : Nat} {ds : List D} (hi : ρ[i]? = some (.ow false (.lst ds))) :
    ∃ (p : Addr) (vs : List V), σ[i]? = some (some (.ref p)) ∧ OwnAt σ ρ p ∧ G p = none ∧ H p = some (.lst vs) ∧ RpL T G vs ds ∧ Ok T (upd G p (.lst vs)) H σ (ρ.set i (.im (.lst ds))) ∧ Stp Gs Hs σ ρs (upd G p (.lst vs)) H σ (ρ.set i (.im (.lst ds))) := by
  obtain ⟨p, o, e1, e2, e3, e4⟩ := k.ow i _ _ hi
  obtain ⟨vs, rfl, e5⟩ := e4.lst
  have x : Ext G (upd G p (.lst vs)) := Ext.new e2
  have hlt : i < ρ.length := (List.getElem?_eq_some_iff.mp hi).1
  have ho : OwnAt σ ρ p := ⟨i, _, _, hi, e1⟩
  have sub : ∀ a, OwnAt σ (ρ.set i (.im (.lst ds))) a → OwnAt σ ρ a := fun a ⟨j, par, ob, h1, h2⟩ => by
    by_cases q : j = i
    · subst q; rw [List.getElem?_set_self hlt] at h1; cases h1
    · rw [List.getElem?_set_ne (Ne.symm q)] at h1; exact ⟨j, par, ob, h1, h2⟩
  refine ⟨p, vs, e1, ho, e2, e3, e5, ⟨fun a u e => ?_, k.tb, by simpa using k.len, fun j d h => ?_, fun j par ob h => ?_, fun a b q x1 y1 x2 y2 hab h1 h2 h3 h4 => ?_⟩, ⟨fun a u h nt hn => ?_, fun a h => s.own a (sub a h), s.dom, fun j ob h => ?_, fun a ps h => ?_⟩⟩
  · by_cases q : a = p
    · subst q; rw [upd_same] at e; rw [e3]; exact e
    · rw [upd_ne q] at e; exact k.ex a u e
  · by_cases q : j = i
    · subst q
      rw [List.getElem?_set_self hlt] at h; cases h
      exact ⟨_, e1, rpl_upd e2 e5⟩
    · rw [List.getElem?_set_ne (Ne.symm q)] at h
      obtain ⟨v, e, r⟩ := k.im j d h
      exact ⟨v, e, r.mono x⟩
  · by_cases q : j = i
    · subst q; rw [List.getElem?_set_self hlt] at h; cases h
    · rw [List.getElem?_set_ne (Ne.symm q)] at h
      obtain ⟨q', u, f1, f2, f3, f4⟩ := k.ow j par ob h
      have hne : q' ≠ p := fun z => k.ds j i p _ _ _ _ q h hi (by rw [← z]; exact f1) e1
      exact ⟨q', u, f1, by rw [upd_ne hne]; exact f2, f3, f4.mono x⟩
  · have ha : a ≠ i := fun z => by subst z; rw [List.getElem?_set_self hlt] at h1; cases h1
    have hb : b ≠ i := fun z => by subst z; rw [List.getElem?_set_self hlt] at h2; cases h2
    rw [List.getElem?_set_ne (Ne.symm ha)] at h1
    rw [List.getElem?_set_ne (Ne.symm hb)] at h2
    exact k.ds a b q _ _ _ _ hab h1 h2 h3 h4
  · have hne : a ≠ p := fun z => by
      subst z
      rcases s.own a ho with w | w
      · exact hn w
      · rw [h] at w; cases w
    rw [upd_ne hne]; exact s.keep a u h nt hn
  · obtain ⟨⟨ob', e⟩, e'⟩ := s.par j ob h
    have hne : j ≠ i := fun z => by subst z; rw [hi] at e; cases e
    exact ⟨⟨ob', by rw [List.getElem?_set_ne (Ne.symm hne)]; exact e⟩, e'⟩
  · obtain ⟨⟨ps', e⟩, e'⟩ := s.tbl a ps h
    have hne : a ≠ p := fun z => by subst z; rw [e3] at e; cases e
    exact ⟨⟨ps', e⟩, by rw [upd_ne hne]; exact e'⟩
structure FzOk (T : Tb) (Gs Hs : Hp) (σ : L2.St) (ρs : En) (G H : Hp) (ρ : En) (G2 : Hp) (ρ2 : En) : Prop where
  ok : Ok T G2 H σ ρ2
  st : Stp Gs Hs σ ρs G2 H σ ρ2
  ext : Ext G G2
  sub : ∀ a, OwnAt σ ρ2 a → OwnAt σ ρ a
theorem fz1_ok (k : Ok T G H σ ρ) (s : Stp Gs Hs σ ρs G H σ ρ) (h : RvOk T Hs G H σ ρ v r) {d : D} {ρ2 : En} (e : fz1 r ρ = some (d, ρ2)) :
    ∃ G2, FzOk T Gs Hs σ ρs G H ρ G2 ρ2 ∧ Rp T G2 v d ∧ ∀ p, G p = none → ¬ OwnAt σ ρ p → (∀ ob, r = .nw ob → v ≠ .ref p) → G2 p = none := by
  cases r with
  | im d' =>
    cases e
    exact ⟨G, ⟨k, s, Ext.rfl', fun _ h => h⟩, h, fun p e _ _ => e⟩
  | al i =>
    have h : σ[i]? = some (some v) := h
    simp only [fz1] at e
    split at e
    · rename_i d' hd
      cases e
      obtain ⟨v', e1, e2⟩ := k.im i _ hd
      rw [h] at e1; cases e1
      exact ⟨G, ⟨k, s, Ext.rfl', fun _ h => h⟩, e2, fun p e _ _ => e⟩
    · rename_i ds hd
      cases e
      obtain ⟨p, vs, e1, ho, e2, e3, e4, k', s'⟩ := view_al k s hd
      rw [h] at e1; cases e1
      have hlt : i < ρ.length := (List.getElem?_eq_some_iff.mp hd).1
      refine ⟨_, ⟨k', s', Ext.new e2, fun a ⟨j, par, ob, h1, h2⟩ => ?_⟩, rpl_upd e2 e4, fun q e hn _ => ?_⟩
      · by_cases q : j = i
        · subst q; rw [List.getElem?_set_self hlt] at h1; cases h1
        · rw [List.getElem?_set_ne (Ne.symm q)] at h1; exact ⟨j, par, ob, h1, h2⟩
      · have hne : q ≠ p := fun z => hn (by rw [z]; exact ho)
        rw [upd_ne hne]; exact e
    · cases e
  | nw ob =>
    obtain ⟨p, o, rfl, e1, e2, e3, e4, e5⟩ := h
    obtain ⟨k', s'⟩ := view_nw k s e1 e2 e3 e5
    cases ob with
    | lst ds =>
      obtain ⟨vs, rfl, e6⟩ := e4.lst
      cases e
      exact ⟨_, ⟨k', s', Ext.new e2, fun _ h => h⟩, rpl_upd e2 e6, fun q e _ hq => by rw [upd_ne (fun z => hq _ rfl (by rw [z]))]; exact e⟩
    | dic es =>
      obtain ⟨vs, rfl, e6⟩ := e4.dic
      cases es with
      | nil =>
        cases e6
        cases e
        exact ⟨_, ⟨k', s', Ext.new e2, fun _ h => h⟩, .emp upd_same, fun q e _ hq => by rw [upd_ne (fun z => hq _ rfl (by rw [z]))]; exact e⟩
      | cons a b => cases e
theorem fzs_ok : ∀ {rs : List Rv} {vs : List V} {G : Hp} {ρ : En} {ds : List D} {ρ2 : En}, Ok T G H σ ρ → Stp Gs Hs σ ρs G H σ ρ → RvsOk T Hs G H σ ρ vs rs → fzs rs ρ = some (ds, ρ2) →
    ∃ G2, FzOk T Gs Hs σ ρs G H ρ G2 ρ2 ∧ RpL T G2 vs ds
  | [], _, G, ρ, _, _, k, s, .nil, e => by cases e; exact ⟨G, ⟨k, s, Ext.rfl', fun _ h => h⟩, .nil⟩
  | r :: rs, v :: vs, G, ρ, ds, ρ2, k, s, .cons h1 n h2, e => by
    simp only [fzs] at e
    split at e
    · cases e
    · rename_i d ρ1 e1
      split at e
      · cases e
      · rename_i ds' ρ3 e2
        cases e
        obtain ⟨G1, F1, q1, q2⟩ := fz1_ok k s h1 e1
        have h3 : RvsOk T Hs G1 H σ ρ1 vs rs := by
          have key : ∀ (vs' : List V) (rs' : List Rv), RvsOk T Hs G H σ ρ vs' rs' → (∀ ob, r = .nw ob → ∀ (j : Nat) (v' : V) (ob' : Ob), vs'[j]? = some v' → rs'[j]? = some (.nw ob') → v' ≠ v) → RvsOk T Hs G1 H σ ρ1 vs' rs' := by
            intro vs' rs' hh
            induction hh with
            | nil => exact fun _ => .nil
            | @cons w ws r' rs'' a b c ih =>
              intro hd
              refine .cons ?_ b (ih fun ob e j v' ob' x y => hd ob e (j + 1) v' ob' (by simpa using x) (by simpa using y))
              cases r' with
              | im d' => exact Rp.mono F1.ext a
              | al i => exact a
              | nw ob' =>
                obtain ⟨p, o, rfl, f1, f2, f3, f4, f5⟩ := a
                refine ⟨p, o, rfl, f1, ?_, f3, f4.mono F1.ext, fun w => f5 (F1.sub p w)⟩
                exact q2 p f2 f5 fun ob z => fun w => hd ob z 0 _ ob' rfl rfl w.symm
          exact key vs rs h2 n
        obtain ⟨G2, F2, q3⟩ := fzs_ok F1.ok F1.st h3 e2
        exact ⟨G2, ⟨F2.ok, F2.st, F1.ext.trans F2.ext, fun a h => F1.sub a (F2.sub a h)⟩, .cons (q1.mono F2.ext) q3⟩
end
end L2.DL
namespace L2.DL
open PySem PySem.Spec PyProof.Rows

/-- one part after another, all seen from the beginning -/
theorem tel_next {T : Tb} {G H G1 H1 : Hp} {σ : L2.St} {ρ ρ1 : En} {W : WX} {α α' β β' : Type} {RO : Hp → Hp → Hp → L2.St → En → β → α → Prop} {RO' : Hp → Hp → Hp → L2.St → En → β' → α' → Prop} {Q : β → Hp → Prop} {Q' : β' → Hp → Prop} {x : Option (Res α)} {k : α → M α'}
    (h : Tel T RO' G H σ ρ W Q' (bnd x k)) (s1 : Stp G H σ ρ G1 H1 σ ρ1)
    (hk : ∀ (b : β) (a : α) (ρ2 : En) (G2 H2 : Hp), Ok T G2 H2 σ ρ2 → Stp G1 H1 σ ρ1 G2 H2 σ ρ2 → RO H1 G2 H2 σ ρ2 b a → Tel T RO' G H σ ρ W Q' (k a ρ2) → Q b H2) : Tel T RO G1 H1 σ ρ1 W Q x := by
  cases x with
  | none => exact h
  | some y =>
    cases y with
    | ok a ρ' => exact fun b G' H' o s r => hk b a ρ' G' H' o s r h
    | ex e ρ' => exact fun cls d G' H' k s r => h cls d G' H' k (s1.trans s) r
theorem tel_first {T : Tb} {G H : Hp} {σ : L2.St} {ρ : En} {W : WX} {α α' β β' : Type} {RO : Hp → Hp → Hp → L2.St → En → β → α → Prop} {RO' : Hp → Hp → Hp → L2.St → En → β' → α' → Prop} {Q : β → Hp → Prop} {Q' : β' → Hp → Prop} {x : Option (Res α)} {k : α → M α'}
    (h : Tel T RO' G H σ ρ W Q' (bnd x k))
    (hk : ∀ (b : β) (a : α) (ρ2 : En) (G2 H2 : Hp), Ok T G2 H2 σ ρ2 → Stp G H σ ρ G2 H2 σ ρ2 → RO H G2 H2 σ ρ2 b a → Tel T RO' G H σ ρ W Q' (k a ρ2) → Q b H2) : Tel T RO G H σ ρ W Q x := tel_next h Stp.refl hk
/-- the last part hands on what it gives -/
theorem tel_last {T : Tb} {G H G1 H1 : Hp} {σ : L2.St} {ρ ρ1 : En} {W : WX} {α β : Type} {RO : Hp → Hp → Hp → L2.St → En → β → α → Prop} {Q : β → Hp → Prop} {x : Option (Res α)}
    (hsh : ∀ Hs Hs' G H σ ρ b a, (∀ p, Hs' p = none → Hs p = none) → RO Hs' G H σ ρ b a → RO Hs G H σ ρ b a) (h : Tel T RO G H σ ρ W Q x) (s1 : Stp G H σ ρ G1 H1 σ ρ1) : Tel T RO G1 H1 σ ρ1 W Q x := Tel.later hsh s1 h
/-! ### expressions in a row, displays -/
def xANil : M (List Rv) := ret []
def xACons (a : M Rv) (r : M (List Rv)) : M (List Rv) := fun ρ => bnd (a ρ) fun x ρ1 => bnd (r ρ1) fun xs => ret (x :: xs)
/-- the values, as data -/
def fzM (rs : List Rv) : M (List D) := fun ρ => match fzs rs ρ with
  | none => none
  | some (ds, ρ2) => some (.ok ds ρ2)
def fzM1 (r : Rv) : M D := fun ρ => match fz1 r ρ with
  | none => none
  | some (ds, ρ2) => some (.ok ds ρ2)
def xTup (a : M (List Rv)) : M Rv := fun ρ => bnd (a ρ) fun rs ρ1 => bnd (fzM rs ρ1) fun ds => ret (.im (.tup ds))
def xLst (a : M (List Rv)) : M Rv := fun ρ => bnd (a ρ) fun rs ρ1 => bnd (fzM rs ρ1) fun ds => ret (.nw (.lst ds))
def xDic : M Rv := ret (.nw (.dic []))
section
variable {C : Cf} {pos : Pos}
theorem bnd_some {α β : Type} {x : Option (Res α)} {k : α → M β} {b : β} {ρ' : En} (h : bnd x k = some (.ok b ρ')) : ∃ a ρ1, x = some (.ok a ρ1) ∧ k a ρ1 = some (.ok b ρ') := by
  cases x with
  | none => cases h
  | some y => cases y with
    | ok a ρ1 => exact ⟨a, ρ1, rfl, h⟩
    | ex e ρ1 => cases h
theorem xa_nil : XA C [] xANil := ⟨fun ρ rs ρ' h => by cases h; rfl, fun _ => tNil, fun _ _ _ => pa_nil, fun _ _ _ _ _ _ k h => tel_ret h k .nil⟩
theorem RvsOk.step {T : Tb} {Hs G H G1 H1 : Hp} {σ : L2.St} {ρ ρ1 : En} (s : Stp G H σ ρ G1 H1 σ ρ1) (k : Ok T G H σ ρ) : ∀ {vs : List V} {rs : List Rv}, RvsOk T Hs G H σ ρ vs rs → RvsOk T Hs G1 H1 σ ρ1 vs rs
  | _, _, .nil => .nil
  | _, _, .cons a n r => .cons (a.step s k) n (RvsOk.step s k r)
theorem RvsOk.get {T : Tb} {Hs G H : Hp} {σ : L2.St} {ρ : En} : ∀ {vs : List V} {rs : List Rv} {j : Nat} {v : V} {r : Rv}, RvsOk T Hs G H σ ρ vs rs → vs[j]? = some v → rs[j]? = some r → RvOk T Hs G H σ ρ v r
  | _, _, _, _, _, .nil, e, _ => by simp at e
  | _, _, 0, _, _, .cons a _ _, e, e' => by simp at e e'; subst e e'; exact a
  | _, _, j + 1, _, _, .cons _ _ r, e, e' => RvsOk.get (j := j) r (by simpa using e) (by simpa using e')
theorem RvsOk.length {T : Tb} {Hs G H : Hp} {σ : L2.St} {ρ : En} : ∀ {vs : List V} {rs : List Rv}, RvsOk T Hs G H σ ρ vs rs → vs.length = rs.length
  | _, _, .nil => rfl
  | _, _, .cons _ _ r => by simp [RvsOk.length r]
theorem xa_cons {e : Expr} {es : List Expr} {a : M Rv} {r : M (List Rv)} (he : XE C e a) (hr : XA C es r) (hs : ∀ env, starEach (e :: es) env = (false, eval e env) :: starEach es env := by intro _; rfl) : XA C (e :: es) (xACons a r) := by
  obtain ⟨t, h1, h2⟩ := he
  obtain ⟨hl, u, h3, h4⟩ := hr
  refine ⟨fun ρ rs ρ' h => ?_, fun W => tCons (t W) (u W), fun X W c => pa_cons (h1 X W c) (h3 X W c) (hs _), fun W G H σ ρ Q k h => ?_⟩
  · obtain ⟨x, ρ1, _, h⟩ := bnd_some h
    obtain ⟨xs, ρ2, e2, h⟩ := bnd_some h
    cases h
    simp [hl _ _ _ e2]
  · refine h2 W G H σ ρ _ k (tel_first h fun v x ρ1 G1 H1 k1 s1 r1 h => ?_)
    refine h4 W G1 H1 σ ρ1 _ k1 (tel_next h s1 fun vs xs ρ2 G2 H2 k2 s2 r2 h => ?_)
    refine h (v :: vs) G2 H2 k2 (s1.trans s2) (.cons (r1.step s2 k1) (fun ob hx j v' ob' hv hr z => ?_) (r2.shift s1.dom))
    subst hx
    obtain ⟨p, o, rfl, _, _, q3, _, _⟩ := r1
    obtain ⟨p', o', e', q1, _⟩ := r2.get hv hr
    rw [z] at e'; cases e'
    rw [q3] at q1; cases q1
theorem xe_tup {es : List Expr} {n : Nat} {a : M (List Rv)} (ha : XA C es a) (hn : es.length ≤ 1000) : XE C (.Tuple es n pos) (xTup a) := by
  obtain ⟨hl, t, h1, h2⟩ := ha
  refine ⟨fun W => tTup (t W), fun X W c => pe_tup (h1 X W c), fun W G H σ ρ Q k h => ?_⟩
  have hz : ∀ rs ρ', a ρ = some (.ok rs ρ') → rs.length ≤ sizeLine := fun rs ρ' e => by
    rw [hl _ _ _ e]; exact Nat.le_trans hn (by decide)
  unfold xTup at h
  cases e : a ρ with
  | none => rw [e] at h; exact h.elim
  | some y =>
    cases y with
    | ex ee ρ' => rw [e] at h; refine h2 W G H σ ρ _ k ?_; rw [e]; exact h
    | ok rs ρ1 =>
      rw [e] at h
      refine h2 W G H σ ρ _ k ?_
      rw [e]
      intro vs G1 H1 k1 s1 r1
      refine ⟨by rw [r1.length]; exact hz rs ρ1 e, fun p hp => ?_⟩
      simp only [bnd_ok, fzM] at h
      cases e2 : fzs rs ρ1 with
      | none => rw [e2] at h; exact h.elim
      | some y =>
        obtain ⟨ds, ρ2⟩ := y
        rw [e2] at h
        obtain ⟨G2, F, q⟩ := fzs_ok k1 s1 r1 e2
        have hx : Ext H1 (upd H1 p (.tup vs)) := Ext.new hp
        refine h (.ref p) _ _ (F.ok.grow hx) (F.st.trans (Stp.grow hx)) (.tup (SqT.of ?_) (q.mono (grow_ext F.ok.ex)))
        rw [grow_new hp, upd_same]
theorem xe_lst {es : List Expr} {a : M (List Rv)} (ha : XA C es a) (hn : es.length ≤ 1000) : XE C (.List es pos) (xLst a) := by
  obtain ⟨hl, t, h1, h2⟩ := ha
  refine ⟨fun W => tLst (t W), fun X W c => pe_lst (h1 X W c), fun W G H σ ρ Q k h => ?_⟩
  have hz : ∀ rs ρ', a ρ = some (.ok rs ρ') → rs.length ≤ sizeLine := fun rs ρ' e => by
    rw [hl _ _ _ e]; exact Nat.le_trans hn (by decide)
  unfold xLst at h
  cases e : a ρ with
  | none => rw [e] at h; exact h.elim
  | some y =>
    cases y with
    | ex ee ρ' => rw [e] at h; refine h2 W G H σ ρ _ k ?_; rw [e]; exact h
    | ok rs ρ1 =>
      rw [e] at h
      refine h2 W G H σ ρ _ k ?_
      rw [e]
      intro vs G1 H1 k1 s1 r1
      refine ⟨by rw [r1.length]; exact hz rs ρ1 e, fun p hp => ?_⟩
      simp only [bnd_ok, fzM] at h
      cases e2 : fzs rs ρ1 with
      | none => rw [e2] at h; exact h.elim
      | some y =>
        obtain ⟨ds, ρ2⟩ := y
        rw [e2] at h
        obtain ⟨G2, F, q⟩ := fzs_ok k1 s1 r1 e2
        exact h (.ref p) _ _ (F.ok.lay hp) (F.st.trans (Stp.lay hp)) ⟨p, .lst vs, rfl, s1.dom p hp, F.ok.fresh_view hp, upd_same, q, F.ok.fresh_own hp⟩
end

/-! ### operations upon values -/
inductive Dr where
  | pd (x : D)
  | nl (xs : List D)
def Dr.rv : Dr → Rv
  | .pd x => .im x
  | .nl xs => .nw (.lst xs)
@[simp] theorem Dr.rv_pd (x : D) : (Dr.pd x).rv = .im x := rfl
@[simp] theorem Dr.rv_nl (xs : List D) : (Dr.nl xs).rv = .nw (.lst xs) := rfl
def PoR (T : Tb) (G H : Hp) (Q : VK) : Dr → Prop
  | .pd d => ∀ v H', Ext H H' → Rp T (Grow G H H') v d → Q v H'
  | .nl ds => ∀ p vs, H p = none → RpL T G vs ds → Q (.ref p) (upd H p (.lst vs))
theorem por_tel {T : Tb} {G H G1 H1 : Hp} {σ : L2.St} {ρ ρ1 : En} {W : WX} {Q : VK} {res : Dr} (h : Tel T (RvOk T) G H σ ρ W Q (some (.ok res.rv ρ1))) (k : Ok T G1 H1 σ ρ1) (s : Stp G H σ ρ G1 H1 σ ρ1) : PoR T G1 H1 Q res := by
  cases res with
  | pd d =>
    intro v H' x r
    have r : RvOk T H (Grow G1 H1 H') H' σ ρ1 v (.im d) := r
    exact h v _ H' (k.grow x) (s.trans (Stp.grow x)) r
  | nl ds =>
    intro p vs hp r
    have r : RvOk T H G1 (upd H1 p (.lst vs)) σ ρ1 (.ref p) (.nw (.lst ds)) := ⟨p, .lst vs, rfl, s.dom p hp, k.fresh_view hp, upd_same, r, k.fresh_own hp⟩
    exact h (.ref p) _ _ (k.lay hp) (s.trans (Stp.lay hp)) r
theorem por_pd {T : Tb} {G H : Hp} {Q : VK} {d : D} {v : V} (h : PoR T G H Q (.pd d)) (e : Ext G H) (r : Rp T G v d) : Q v H := h v H Ext.rfl' (r.mono (grow_ext e))
theorem por_tup {T : Tb} {G H : Hp} {Q : VK} {ds : List D} {vs : List V} {p : Addr} (h : PoR T G H Q (.pd (.tup ds))) (e : Ext G H) (hp : H p = none) (r : RpL T G vs ds) : Q (.ref p) (upd H p (.tup vs)) :=
  h (.ref p) _ (Ext.new hp) (.tup (SqT.of (by rw [grow_new hp, upd_same])) (r.mono (grow_ext e)))

/-- two values -/
def OpD (T : Tb) (r : R2) (f : D → D → Option Dr) : Prop := ∀ (G H : Hp) (x y : V) (a b : D) (res : Dr) (Q : VK), Ext G H → Vw T G H x a → Vw T G H y b → f a b = some res → PoR T G H Q res → r x y H Q
/-- several values -/
def FnD (T : Tb) (r : List V → Hp → VK → Prop) (f : List D → Option Dr) : Prop := ∀ (G H : Hp) (xs : List V) (ds : List D) (res : Dr) (Q : VK), Ext G H → xs.length = ds.length → (∀ (j : Nat) v d, xs[j]? = some v → ds[j]? = some d → Vw T G H v d) → f ds = some res → PoR T G H Q res → r xs H Q
def derefs (ρ : En) : List Rv → Option (List D)
  | [] => some []
  | r :: rs => match deref ρ r, derefs ρ rs with
    | some d, some ds => some (d :: ds)
    | _, _ => none
def xOp (f : D → D → Option Dr) (a b : M Rv) : M Rv := fun ρ => bnd (a ρ) fun r1 ρ1 => bnd (b ρ1) fun r2 ρ2 => match deref ρ2 r1, deref ρ2 r2 with
  | some d1, some d2 => match f d1 d2 with
    | some res => some (.ok res.rv ρ2)
    | none => none
  | _, _ => none
def xFn (f : List D → Option Dr) (a : M (List Rv)) : M Rv := fun ρ => bnd (a ρ) fun rs ρ1 => match derefs ρ1 rs with
  | some ds => match f ds with
    | some res => some (.ok res.rv ρ1)
    | none => none
  | none => none
section
variable {C : Cf} {pos : Pos}
theorem op_core {T : Tb} {r : R2} {f : D → D → Option Dr} (hf : OpD T r f) {t1 t2 : TE} {m1 m2 : M Rv} {W : WX} {G H : Hp} {σ : L2.St} {ρ : En} {Q : VK}
    (h1 : ∀ G H ρ Q, Ok T G H σ ρ → Tel T (RvOk T) G H σ ρ W Q (m1 ρ) → t1 σ H Q) (h2 : ∀ G H ρ Q, Ok T G H σ ρ → Tel T (RvOk T) G H σ ρ W Q (m2 ρ) → t2 σ H Q)
    (k : Ok T G H σ ρ) (h : Tel T (RvOk T) G H σ ρ W Q (xOp f m1 m2 ρ)) : tOp r t1 t2 σ H Q := by
  refine h1 G H ρ _ k (tel_first h fun x r1 ρ1 G1 H1 k1 s1 q1 h => ?_)
  refine h2 G1 H1 ρ1 _ k1 (tel_next h s1 fun y r2 ρ2 G2 H2 k2 s2 q2 h => ?_)
  cases e1 : deref ρ2 r1 with
  | none => simp only [e1] at h; exact h.elim
  | some d1 =>
    cases e2 : deref ρ2 r2 with
    | none => simp only [e1, e2] at h; exact h.elim
    | some d2 =>
      simp only [e1, e2] at h
      cases e3 : f d1 d2 with
      | none => rw [e3] at h; exact h.elim
      | some res =>
        rw [e3] at h
        exact hf G2 H2 x y d1 d2 res Q k2.ex (vw_of k2 (q1.step s2 k1) e1) (vw_of k2 q2 e2) e3 (por_tel h k2 (s1.trans s2))
theorem xe_op {op : Operator} {f : D → D → Option Dr} {r : Cf → R2} (hr : ∀ X W, CxOk C X W → OpR X (binaryOp op) (r C)) (hf : OpD C.T (r C) f) {a b : Expr} {ma mb : M Rv} (ha : XE C a ma) (hb : XE C b mb) : XE C (.BinOp a op b pos) (xOp f ma mb) := by
  obtain ⟨t1, p1, q1⟩ := ha
  obtain ⟨t2, p2, q2⟩ := hb
  exact ⟨fun W => tOp (r C) (t1 W) (t2 W), fun X W c => pe_op (hr X W c) (p1 X W c) (p2 X W c), fun W G H σ ρ Q k h => op_core hf (fun G H ρ Q => q1 W G H σ ρ Q) (fun G H ρ Q => q2 W G H σ ρ Q) k h⟩
theorem xe_cmp {op : CmpOp} {f : D → D → Option Dr} {r : Cf → R2} (hr : ∀ X W, CxOk C X W → OpR X (compareOp op) (r C)) (hf : OpD C.T (r C) f) {a b : Expr} {ma mb : M Rv} (ha : XE C a ma) (hb : XE C b mb) (hm : behindInMarks op b = false) : XE C (.Compare a [op] [b] pos) (xOp f ma mb) := by
  obtain ⟨t1, p1, q1⟩ := ha
  obtain ⟨t2, p2, q2⟩ := hb
  exact ⟨fun W => tOp (r C) (t1 W) (t2 W), fun X W c => pe_cmpR (hr X W c) (p1 X W c) (p2 X W c) hm, fun W G H σ ρ Q k h => op_core hf (fun G H ρ Q => q1 W G H σ ρ Q) (fun G H ρ Q => q2 W G H σ ρ Q) k h⟩
theorem fn_core {T : Tb} {r : List V → Hp → VK → Prop} {f : List D → Option Dr} (hf : FnD T r f) {t : TA} {m : M (List Rv)} {W : WX} {G H : Hp} {σ : L2.St} {ρ : En} {Q : VK}
    (h1 : ∀ G H ρ Q, Ok T G H σ ρ → Tel T (RvsOk T) G H σ ρ W Q (m ρ) → t σ H Q) (k : Ok T G H σ ρ) (h : Tel T (RvOk T) G H σ ρ W Q (xFn f m ρ)) : tCB r t σ H Q := by
  refine h1 G H ρ _ k (tel_first h fun xs rs ρ1 G1 H1 k1 s1 q1 h => ?_)
  cases e1 : derefs ρ1 rs with
  | none => simp only [e1] at h; exact h.elim
  | some ds =>
    simp only [e1] at h
    cases e3 : f ds with
    | none => rw [e3] at h; exact h.elim
    | some res =>
      rw [e3] at h
      have key : ∀ {xs : List V} {rs : List Rv} {ds : List D}, RvsOk T H G1 H1 σ ρ1 xs rs → derefs ρ1 rs = some ds → xs.length = ds.length ∧ ∀ (j : Nat) v d, xs[j]? = some v → ds[j]? = some d → Vw T G1 H1 v d := by
        intro xs rs
        induction rs generalizing xs with
        | nil => intro ds hh e; cases hh; cases e; exact ⟨rfl, fun j v d hv _ => by simp at hv⟩
        | cons r' rs ih =>
          intro ds hh e
          cases hh with
          | cons a n c =>
            simp only [derefs] at e
            split at e
            · rename_i d' ds' e4 e5
              cases e
              obtain ⟨z1, z2⟩ := ih c e5
              refine ⟨by simp [z1], fun j v d hv hd => ?_⟩
              cases j with
              | zero => simp at hv hd; subst hv hd; exact vw_of k1 a e4
              | succ j => exact z2 j v d (by simpa using hv) (by simpa using hd)
            · cases e
      obtain ⟨z1, z2⟩ := key q1 e1
      exact hf G1 H1 xs ds res Q k1.ex z1 z2 e3 (por_tel h k1 s1)
theorem cx_mg {X : Cx} {W : WX} (c : CxOk C X W) : X.mg = C.T.mg := congrArg Tb.mg c.tb
theorem cx_gl {X : Cx} {W : WX} (c : CxOk C X W) {x : Str} (h : C.sc.names.lookup x = some .globalImplicit) : Gl X x := by show X.env.scope.names.lookup x = _; rw [c.s]; exact h
/-- a built-in function called -/
theorem xe_callB {id : String} {x : Str} {f : List D → Option Dr} {r : Cf → List V → Hp → VK → Prop} (hr : ∀ X W, CxOk C X W → CallR X (.builtin id) (r C)) (hf : FnD C.T (r C) f) (hm : C.T.mg x = none) {e : Expr} {es : List Expr} {a : M (List Rv)} {p : Pos} (ha : XA C (e :: es) a)
    (hg : C.sc.names.lookup x = some .globalImplicit := by rfl) (hv : bootBuiltins x = some (.builtin id) := by decide +kernel) (hn : x ≠ "__name__" := by decide) (hdb : (x == ("__debug__" : Str)) = false := by decide)
    (he : ∀ env, starEach (e :: es) env = (false, eval e env) :: starEach es env := by intro _; rfl) (hpl : ∀ env, (backTo pos (starEach es env)).any (·.1) = false := by intro _; rfl) : XE C (.Call (.Name x p) (e :: es) [] pos) (xFn f a) := by
  obtain ⟨_, t, p1, q1⟩ := ha
  exact ⟨fun W => tCB (r C) (t W), fun X W c => pe_callB (hr X W c) (cx_gl c hg) (by rw [cx_mg c]; exact hm) hv (p1 X W c) hn hdb (he _) (hpl _), fun W G H σ ρ Q k h => fn_core hf (fun G H ρ Q => q1 W G H σ ρ Q) k h⟩
/-- a built-in class called -/
theorem xe_callT {id : String} {x : Str} {f : List D → Option Dr} {r : Cf → List V → Hp → VK → Prop} (hr : ∀ X W, CxOk C X W → CallR X (.type id) (r C)) (hf : FnD C.T (r C) f) (hm : C.T.mg x = none) {e : Expr} {es : List Expr} {a : M (List Rv)} {p : Pos} (ha : XA C (e :: es) a)
    (hg : C.sc.names.lookup x = some .globalImplicit := by rfl) (hv : bootBuiltins x = some (.type id) := by decide +kernel) (hn : x ≠ "__name__" := by decide) (hdb : (x == ("__debug__" : Str)) = false := by decide)
    (he : ∀ env, starEach (e :: es) env = (false, eval e env) :: starEach es env := by intro _; rfl) (hpl : ∀ env, (backTo pos (starEach es env)).any (·.1) = false := by intro _; rfl) : XE C (.Call (.Name x p) (e :: es) [] pos) (xFn f a) := by
  obtain ⟨_, t, p1, q1⟩ := ha
  exact ⟨fun W => tCB (r C) (t W), fun X W c => pe_callTy (hr X W c) (cx_gl c hg) (by rw [cx_mg c]; exact hm) hv (p1 X W c) hn hdb (he _) (hpl _), fun W G H σ ρ Q k h => fn_core hf (fun G H ρ Q => q1 W G H σ ρ Q) k h⟩
end
end L2.DL
namespace L2.DL
open PySem PySem.Spec PyProof.Rows

/-! ### what a view tells -/
section
variable {T : Tb} {G H : Hp} {v : V}
theorem vw_int {i : Int} (h : Vw T G H v (.int i)) : v = .int i := by
  rcases h with h | ⟨_, _, _, _, e, _⟩
  · cases h; rfl
  · cases e
theorem vw_bl {i : Bool} (h : Vw T G H v (.bl i)) : v = .bl i := by
  rcases h with h | ⟨_, _, _, _, e, _⟩
  · cases h; rfl
  · cases e
theorem vw_str {i : Str} (h : Vw T G H v (.str i)) : v = .str i := by
  rcases h with h | ⟨_, _, _, _, e, _⟩
  · cases h; rfl
  · cases e
theorem vw_non (h : Vw T G H v .non) : v = .non := by
  rcases h with h | ⟨_, _, _, _, e, _⟩
  · cases h; rfl
  · cases e
theorem vw_lst {ds : List D} (x : Ext G H) (h : Vw T G H v (.lst ds)) : ∃ p vs, v = .ref p ∧ H p = some (.lst vs) ∧ RpL T G vs ds := by
  rcases h with h | ⟨p, vs, ds', rfl, e, _, h2, h3⟩
  · cases h with
    | lst h r => exact ⟨_, _, rfl, x _ _ h, r⟩
  · cases e; exact ⟨p, vs, rfl, h2, h3⟩
theorem vw_tup {ds : List D} (x : Ext G H) (h : Vw T G H v (.tup ds)) : ∃ p vs, v = .ref p ∧ SqT T.K H p vs ∧ RpL T G vs ds ∧ Rp T G v (.tup ds) := by
  rcases h with h | ⟨_, _, _, _, e, _⟩
  · have h' := h
    cases h with
    | tup h r => exact ⟨_, _, rfl, x.sqT h, r, h'⟩
  · cases e
theorem vw_scr {ns : List Int} (x : Ext G H) (h : Vw T G H v (.scr ns)) : ∃ p, v = .ref p ∧ SqL T.K H p (ns.map V.int) := by
  rcases h with h | ⟨_, _, _, _, e, _⟩
  · cases h with
    | scr h => exact ⟨_, rfl, x.sqL h⟩
  · cases e
end

/-! ### plain data -/
mutual
def D.py : D → Option PyData
  | .non => some .none
  | .bl b => some (.bool b)
  | .int i => some (.int i)
  | .str x => some (.str x)
  | .tup xs => match pys xs with
    | some ps => some (.tuple ps)
    | none => none
  | .lst xs => match pys xs with
    | some ps => some (.list ps)
    | none => none
  | .obj _ _ => none
  | .fn _ => none
  | .emp => none
  | .scr _ => none
def pys : List D → Option (List PyData)
  | [] => some []
  | x :: xs => match D.py x, pys xs with
    | some p, some ps => some (p :: ps)
    | _, _ => none
end
section
variable {T : Tb} {G H : Hp}
mutual
theorem rp_dp : ∀ (d : D) (v : V) (p : PyData), Rp T H v d → d.py = some p → Dp T.K H v p
  | .non, _, _, .non, e => by cases e; exact .non
  | .bl b, _, _, .bl _, e => by cases e; exact .bl b
  | .int i, _, _, .int _, e => by cases e; exact .int i
  | .str x, _, _, .str _, e => by cases e; exact .str x
  | .tup ds, _, _, .tup h r, e => by
    simp only [D.py] at e
    split at e
    · rename_i ps e2
      cases e
      exact .tup h (rpl_dp ds _ ps r e2)
    · cases e
  | .lst ds, _, _, .lst h r, e => by
    simp only [D.py] at e
    split at e
    · rename_i ps e2
      cases e
      exact .lst (SqL.of h) (rpl_dp ds _ ps r e2)
    · cases e
  | .obj _ _, _, _, .obj _ _ _, e => by cases e
  | .fn _, _, _, .fn _, e => by cases e
  | .emp, _, _, .emp _, e => by cases e
  | .scr _, _, _, .scr _, e => by cases e
theorem rpl_dp : ∀ (ds : List D) (vs : List V) (ps : List PyData), RpL T H vs ds → pys ds = some ps → DpAll T.K H vs ps
  | [], _, _, .nil, e => by cases e; exact .nil
  | d :: ds, _, _, .cons a r, e => by
    simp only [pys] at e
    split at e
    · rename_i p ps e1 e2
      cases e
      exact .cons (rp_dp d _ p a e1) (rpl_dp ds _ ps r e2)
    · cases e
end
theorem vw_dp {v : V} {d : D} {p : PyData} (x : Ext G H) (h : Vw T G H v d) (e : d.py = some p) : Dp T.K H v p := by
  rcases h with h | ⟨q, vs, ds, rfl, rfl, h1, h2, h3⟩
  · exact rp_dp d v p (h.mono x) e
  · exact rp_dp _ _ p (.lst h2 (h3.mono x)) e
end

/-! ### arithmetic -/
def dAdd : D → D → Option Dr
  | .int a, .int b => some (.pd (.int (a + b)))
  | .str a, .str b => if a.length + b.length ≤ sizeLine then some (.pd (.str (a ++ b))) else none
  | .lst a, .lst b => if a.length + b.length ≤ sizeLine then some (.nl (a ++ b)) else none
  | .tup a, .tup b => if a.length + b.length ≤ sizeLine then some (.pd (.tup (a ++ b))) else none
  | _, _ => none
def dSub : D → D → Option Dr
  | .int a, .int b => some (.pd (.int (a - b)))
  | _, _ => none
def smallF (a b : Int) : Bool := (decide (-(2 ^ 64) < a) && decide (a < 2 ^ 64)) || (decide (-(2 ^ 64) < b) && decide (b < 2 ^ 64))
def dMul : D → D → Option Dr
  | .int a, .int b => if smallF a b then some (.pd (.int (a * b))) else none
  | .lst a, .int b => if b ≤ 1000000 ∧ a.length * b.toNat ≤ sizeLine ∧ -(2 ^ 63) ≤ b then some (.nl (List.replicate b.toNat a).flatten) else none
  | _, _ => none
def dDiv : D → D → Option Dr
  | .int a, .int b => if 0 < b ∧ b < 1073741824 then some (.pd (.int (a / b))) else none
  | _, _ => none
def dMod : D → D → Option Dr
  | .int a, .int b => if 0 < b then some (.pd (.int (a % b))) else none
  | _, _ => none
def dPow : D → D → Option Dr
  | .int a, .int b => if 0 ≤ b ∧ b ≤ 1000000 ∧ a.natAbs < 2 ^ 64 then some (.pd (.int (a ^ b.toNat))) else none
  | _, _ => none
/-- of two ints -/
def dI (p : Int → Int → Bool) : D → D → Option Dr
  | .int a, .int b => some (.pd (.bl (p a b)))
  | _, _ => none
def rAddA (K : PySem.W.Frag) : R2 := fun x y H Q => (rI0 (fun i j => .int (i + j)) x y H Q) ∨ ((∃ i j, x = .str i ∧ y = .str j ∧ i.length + j.length ≤ sizeLine ∧ Q (.str (i ++ j)) H) ∨ (rCat x y H Q ∨ rCatA K x y H Q))
theorem ex_false {P : Prop} (h : (none : Option Dr) = some r) : P := by cases h
theorem ok_add {T : Tb} : OpD T (rAddA T.K) dAdd := by
  intro G H x y a b res Q e hx hy hf q
  cases a <;> cases b <;> simp only [dAdd] at hf <;> try cases hf
  · have := vw_int hx; have := vw_int hy; subst x y
    exact .inl ⟨_, _, rfl, rfl, por_pd q e (.int _)⟩
  · split at hf
    · rename_i hz
      cases hf
      have := vw_str hx; have := vw_str hy; subst x y
      exact .inr (.inl ⟨_, _, rfl, rfl, hz, por_pd q e (.str _)⟩)
    · cases hf
  · split at hf
    · rename_i hz
      cases hf
      obtain ⟨p, vs, rfl, h1, r1, r2⟩ := vw_tup e hx
      obtain ⟨p', ws, rfl, h2, s1, s2⟩ := vw_tup e hy
      refine .inr (.inr (.inr ⟨p, p', vs, ws, rfl, rfl, h1, h2, by rw [r1.length, s1.length]; exact hz, fun z => ?_, fun _ z => ?_, fun _ _ p3 hp => por_tup q e hp (r1.append s1)⟩))
      · subst z
        cases r1
        exact por_pd q e s2
      · subst z
        cases s1
        exact por_pd q e (by simpa using r2)
    · cases hf
  · split at hf
    · rename_i hz
      cases hf
      obtain ⟨p, vs, rfl, h1, r1⟩ := vw_lst e hx
      obtain ⟨p', ws, rfl, h2, s1⟩ := vw_lst e hy
      exact .inr (.inr (.inl ⟨p, p', vs, ws, rfl, rfl, h1, h2, by rw [r1.length, s1.length]; exact hz, fun p3 hp => q p3 _ hp (r1.append s1)⟩))
    · cases hf
theorem ok_sub {T : Tb} : OpD T (rI0 fun i j => .int (i - j)) dSub := by
  intro G H x y a b res Q e hx hy hf q
  cases a <;> cases b <;> simp only [dSub] at hf <;> try cases hf
  have := vw_int hx; have := vw_int hy; subst x y
  exact ⟨_, _, rfl, rfl, por_pd q e (.int _)⟩
def rMulA : R2 := fun x y H Q => rI CMul (fun i j => .int (i * j)) x y H Q ∨ rRep x y H Q
theorem ok_mul {T : Tb} : OpD T rMulA dMul := by
  intro G H x y a b res Q e hx hy hf q
  cases a <;> cases b <;> simp only [dMul] at hf <;> try cases hf
  · split at hf
    · rename_i hz
      cases hf
      have := vw_int hx; have := vw_int hy; subst x y
      refine .inl ⟨_, _, rfl, rfl, ?_, por_pd q e (.int _)⟩
      simpa [smallF, CMul] using hz
    · cases hf
  · split at hf
    · rename_i hz
      cases hf
      obtain ⟨p, vs, rfl, h1, r1⟩ := vw_lst e hx
      have := vw_int hy; subst y
      refine .inr ⟨p, _, vs, rfl, rfl, h1, hz.2.2, by omega, by rw [r1.length]; exact hz.2.1, fun p3 hp => q p3 _ hp (r1.rep _)⟩
    · cases hf
theorem ok_div {T : Tb} : OpD T (rI CDiv fun i j => .int (i / j)) dDiv := by
  intro G H x y a b res Q e hx hy hf q
  cases a <;> cases b <;> simp only [dDiv] at hf <;> try cases hf
  split at hf
  · rename_i hz
    cases hf
    have := vw_int hx; have := vw_int hy; subst x y
    exact ⟨_, _, rfl, rfl, hz, por_pd q e (.int _)⟩
  · cases hf
theorem ok_mod {T : Tb} : OpD T (rI (fun _ j => 0 < j) fun i j => .int (i % j)) dMod := by
  intro G H x y a b res Q e hx hy hf q
  cases a <;> cases b <;> simp only [dMod] at hf <;> try cases hf
  split at hf
  · rename_i hz
    cases hf
    have := vw_int hx; have := vw_int hy; subst x y
    exact ⟨_, _, rfl, rfl, hz, por_pd q e (.int _)⟩
  · cases hf
theorem ok_pow {T : Tb} : OpD T (rI CPow fun i j => .int (i ^ j.toNat)) dPow := by
  intro G H x y a b res Q e hx hy hf q
  cases a <;> cases b <;> simp only [dPow] at hf <;> try cases hf
  split at hf
  · rename_i hz
    cases hf
    have := vw_int hx; have := vw_int hy; subst x y
    exact ⟨_, _, rfl, rfl, hz, por_pd q e (.int _)⟩
  · cases hf
theorem ok_i {T : Tb} {p : Int → Int → Bool} : OpD T (rI0 fun i j => .bl (p i j)) (dI p) := by
  intro G H x y a b res Q e hx hy hf q
  cases a <;> cases b <;> simp only [dI] at hf <;> try cases hf
  have := vw_int hx; have := vw_int hy; subst x y
  exact ⟨_, _, rfl, rfl, por_pd q e (.bl _)⟩
section
variable {C : Cf} {pos : Pos} {a b : Expr} {ma mb : M Rv}
theorem cx_K {X : Cx} {W : WX} (c : CxOk C X W) : X.K = C.T.K := congrArg Tb.K c.tb
theorem xe_add (ha : XE C a ma) (hb : XE C b mb) : XE C (.BinOp a .Add b pos) (xOp dAdd ma mb) :=
  xe_op (r := fun C => rAddA C.T.K) (fun X W c => by rw [← cx_K c]; exact OpR.or op_add (OpR.or op_add_str (OpR.or op_cat op_catA))) ok_add ha hb
theorem xe_sub (ha : XE C a ma) (hb : XE C b mb) : XE C (.BinOp a .Sub b pos) (xOp dSub ma mb) := xe_op (r := fun _ => rI0 fun i j => .int (i - j)) (fun X W c => op_sub) ok_sub ha hb
theorem xe_mul (ha : XE C a ma) (hb : XE C b mb) : XE C (.BinOp a .Mult b pos) (xOp dMul ma mb) := xe_op (r := fun _ => rMulA) (fun X W c => OpR.or op_mul op_rep) ok_mul ha hb
theorem xe_div (ha : XE C a ma) (hb : XE C b mb) : XE C (.BinOp a .FloorDiv b pos) (xOp dDiv ma mb) := xe_op (r := fun _ => rI CDiv fun i j => .int (i / j)) (fun X W c => op_fdiv) ok_div ha hb
theorem xe_mod (ha : XE C a ma) (hb : XE C b mb) : XE C (.BinOp a .Mod b pos) (xOp dMod ma mb) := xe_op (r := fun _ => rI (fun _ j => 0 < j) fun i j => .int (i % j)) (fun X W c => op_mod) ok_mod ha hb
theorem xe_pow (ha : XE C a ma) (hb : XE C b mb) : XE C (.BinOp a .Pow b pos) (xOp dPow ma mb) := xe_op (r := fun _ => rI CPow fun i j => .int (i ^ j.toNat)) (fun X W c => op_pow) ok_pow ha hb
end
end L2.DL
namespace L2.DL
open PySem PySem.Spec PyProof.Rows

/-! ### comparisons -/
def two (f : PyData → PyData → Option Dr) (a b : D) : Option Dr := match a.py, b.py with
  | some p, some q => f p q
  | _, _ => none
def eqF (neg : Bool) (p q : PyData) : Option Dr := if SeqAt.shaped p && SeqAt.shaped q then some (.pd (.bl (if neg then !PyData.eqv p q else PyData.eqv p q))) else none
def dEq : D → D → Option Dr := two (eqF false)
def dNe : D → D → Option Dr := two (eqF true)
theorem two_some {f : PyData → PyData → Option Dr} {a b : D} {r : Dr} (h : two f a b = some r) : ∃ p q, a.py = some p ∧ b.py = some q ∧ f p q = some r := by
  unfold two at h
  split at h
  · rename_i p q e1 e2; exact ⟨p, q, e1, e2, h⟩
  · cases h
theorem ok_eq {T : Tb} : OpD T (rEqD T.K) dEq := by
  intro G H x y a b res Q e hx hy hf q
  obtain ⟨p, p', e1, e2, h⟩ := two_some hf
  simp only [eqF] at h
  split at h
  · rename_i hz
    cases h
    simp only [Bool.and_eq_true] at hz
    exact ⟨p, p', vw_dp e hx e1, vw_dp e hy e2, hz.1, hz.2, por_pd q e (.bl _)⟩
  · cases h
theorem ok_ne {T : Tb} : OpD T (rNeD T.K) dNe := by
  intro G H x y a b res Q e hx hy hf q
  obtain ⟨p, p', e1, e2, h⟩ := two_some hf
  simp only [eqF] at h
  split at h
  · rename_i hz
    cases h
    simp only [Bool.and_eq_true] at hz
    exact ⟨p, p', vw_dp e hx e1, vw_dp e hy e2, hz.1, hz.2, por_pd q e (.bl _)⟩
  · cases h
/-- < of data that is alike -/
def rLtD (K : PySem.W.Frag) : R2 := fun x y H Q => ∃ d e, Dp K H x d ∧ Dp K H y e ∧ PySem.W.alike d e = true ∧ d ≠ .none ∧ d.depth ≤ 64 ∧ Q (.bl (PySem.W.dataLt d e)) H
theorem op_ltD {X : Cx} (hu : X.A.units + 64 < cLine) : OpR X (compareOp .Lt) (rLtD X.K) := by
  intro pins s σ H x y v u Q I rx ry h
  obtain ⟨d, e, hd, he, ha, hn, hz, q⟩ := h
  obtain ⟨as, r1⟩ := Dp.reads I d x v hd rx
  obtain ⟨bs, r2⟩ := Dp.reads I e y u he ry
  exact PySem.W.rcLt_alike d e X.A s v u as bs r1 r2 ha hn (by omega) _ _ _ _ ⟨.bl _, H, I, rfl, q⟩
def isNone : PyData → Bool
  | .none => true
  | _ => false
def ltF (p q : PyData) : Option Dr := if PySem.W.alike p q && !isNone p && decide (p.depth ≤ 64) then some (.pd (.bl (PySem.W.dataLt p q))) else none
def dLt : D → D → Option Dr
  | .int a, .int b => some (.pd (.bl (decide (a < b))))
  | a, b => two ltF a b
def rLtA (K : PySem.W.Frag) : R2 := fun x y H Q => (rI0 fun i j => .bl (decide (i < j))) x y H Q ∨ rLtD K x y H Q
theorem ok_lt {T : Tb} : OpD T (rLtA T.K) dLt := by
  intro G H x y a b res Q e hx hy hf q
  have two' : two ltF a b = some res → rLtA T.K x y H Q := fun hf => by
    obtain ⟨p, p', e1, e2, h⟩ := two_some hf
    simp only [ltF] at h
    split at h
    · rename_i hz
      cases h
      simp only [Bool.and_eq_true, Bool.not_eq_true', decide_eq_true_eq] at hz
      exact .inr ⟨p, p', vw_dp e hx e1, vw_dp e hy e2, hz.1.1, fun w => by subst w; exact absurd hz.1.2 (by decide), hz.2, por_pd q e (.bl _)⟩
    · cases h
  unfold dLt at hf
  split at hf
  · cases hf
    have := vw_int hx; have := vw_int hy; subst x y
    exact .inl ⟨_, _, rfl, rfl, por_pd q e (.bl _)⟩
  · exact two' hf
def dLe : D → D → Option Dr
  | .int a, .int b => some (.pd (.bl (decide (a ≤ b))))
  | .str a, .str b => some (.pd (.bl (!decide (b.cps.toList < a.cps.toList))))
  | _, _ => none
def rLeA : R2 := fun x y H Q => (rI0 fun i j => .bl (decide (i ≤ j))) x y H Q ∨ ∃ i j, x = .str i ∧ y = .str j ∧ Q (.bl (!decide (j.cps.toList < i.cps.toList))) H
theorem ok_le {T : Tb} : OpD T rLeA dLe := by
  intro G H x y a b res Q e hx hy hf q
  cases a <;> cases b <;> simp only [dLe] at hf <;> try cases hf
  · have := vw_int hx; have := vw_int hy; subst x y
    exact .inl ⟨_, _, rfl, rfl, por_pd q e (.bl _)⟩
  · have := vw_str hx; have := vw_str hy; subst x y
    exact .inr ⟨_, _, rfl, rfl, por_pd q e (.bl _)⟩
/-- x in xs -/
def rInA (K : PySem.W.Frag) : R2 := fun x y H Q => ∃ d ds, Dp K H x d ∧ (Dp K H y (.list ds) ∨ Dp K H y (.tuple ds)) ∧ SeqAt.shaped d = true ∧ PyData.canLayAll0 ds = true ∧ Q (.bl (ds.any fun z => PyData.eqv z d)) H
def rNotInA (K : PySem.W.Frag) : R2 := fun x y H Q => ∃ d ds, Dp K H x d ∧ (Dp K H y (.list ds) ∨ Dp K H y (.tuple ds)) ∧ SeqAt.shaped d = true ∧ PyData.canLayAll0 ds = true ∧ Q (.bl (!ds.any fun z => PyData.eqv z d)) H
theorem op_inA {X : Cx} (hu : X.A.units + 65 < cLine) : OpR X (compareOp .In) (rInA X.K) := by
  intro pins s σ H x y v u Q I rx ry h
  obtain ⟨d, ds, hd, he, sd, se, q⟩ := h
  obtain ⟨as, r1⟩ := Dp.reads I d x v hd rx
  rcases he with he | he
  · obtain ⟨bs, r2⟩ := Dp.reads I (.list ds) y u he ry
    exact SeqAt.in_list_reads r2 r1 se (SeqAt.canLay_of_shaped sd) (room_in_shaped sd hu) ⟨.bl _, H, I, rfl, q⟩
  · obtain ⟨bs, r2⟩ := Dp.reads I (.tuple ds) y u he ry
    exact SeqAt.in_tuple_reads r2 r1 se (SeqAt.canLay_of_shaped sd) (room_in_shaped sd hu) ⟨.bl _, H, I, rfl, q⟩
theorem op_notInA {X : Cx} (hu : X.A.units + 65 < cLine) : OpR X (compareOp .NotIn) (rNotInA X.K) := by
  intro pins s σ H x y v u Q I rx ry h
  obtain ⟨d, ds, hd, he, sd, se, q⟩ := h
  obtain ⟨as, r1⟩ := Dp.reads I d x v hd rx
  rcases he with he | he
  · obtain ⟨bs, r2⟩ := Dp.reads I (.list ds) y u he ry
    exact SeqAt.notIn_list_reads r2 r1 se (SeqAt.canLay_of_shaped sd) (room_in_shaped sd hu) ⟨.bl _, H, I, rfl, q⟩
  · obtain ⟨bs, r2⟩ := Dp.reads I (.tuple ds) y u he ry
    exact SeqAt.notIn_tuple_reads r2 r1 se (SeqAt.canLay_of_shaped sd) (room_in_shaped sd hu) ⟨.bl _, H, I, rfl, q⟩
def inF (neg : Bool) (p : PyData) (qs : List PyData) : Option Dr := if SeqAt.shaped p && PyData.canLayAll0 qs then some (.pd (.bl (if neg then !qs.any fun z => PyData.eqv z p else qs.any fun z => PyData.eqv z p))) else none
def dIn (neg : Bool) (a b : D) : Option Dr := match a.py, b.py with
  | some p, some (.list qs) => inF neg p qs
  | some p, some (.tuple qs) => inF neg p qs
  | _, _ => none
theorem dIn_some {neg : Bool} {a b : D} {r : Dr} (h : dIn neg a b = some r) : ∃ p qs, a.py = some p ∧ (b.py = some (.list qs) ∨ b.py = some (.tuple qs)) ∧ inF neg p qs = some r := by
  unfold dIn at h
  split at h
  · rename_i p qs e1 e2; exact ⟨p, qs, e1, .inl e2, h⟩
  · rename_i p qs e1 e2; exact ⟨p, qs, e1, .inr e2, h⟩
  · cases h
theorem ok_in {T : Tb} : OpD T (rInA T.K) (dIn false) := by
  intro G H x y a b res Q e hx hy hf q
  obtain ⟨p, qs, e1, e2, h⟩ := dIn_some hf
  simp only [inF] at h
  split at h
  · rename_i hz
    cases h
    simp only [Bool.and_eq_true] at hz
    exact ⟨p, qs, vw_dp e hx e1, e2.imp (vw_dp e hy) (vw_dp e hy), hz.1, hz.2, por_pd q e (.bl _)⟩
  · cases h
theorem ok_notIn {T : Tb} : OpD T (rNotInA T.K) (dIn true) := by
  intro G H x y a b res Q e hx hy hf q
  obtain ⟨p, qs, e1, e2, h⟩ := dIn_some hf
  simp only [inF] at h
  split at h
  · rename_i hz
    cases h
    simp only [Bool.and_eq_true] at hz
    exact ⟨p, qs, vw_dp e hx e1, e2.imp (vw_dp e hy) (vw_dp e hy), hz.1, hz.2, por_pd q e (.bl _)⟩
  · cases h
def dIs (neg : Bool) : D → D → Option Dr
  | .bl a, .bl b => some (.pd (.bl (if neg then !decide (a = b) else decide (a = b))))
  | _, _ => none
theorem ok_is {T : Tb} : OpD T rIsB (dIs false) := by
  intro G H x y a b res Q e hx hy hf q
  cases a <;> cases b <;> simp only [dIs] at hf <;> try cases hf
  have := vw_bl hx; have := vw_bl hy; subst x y
  exact ⟨_, _, rfl, rfl, por_pd q e (.bl _)⟩
theorem ok_isnt {T : Tb} : OpD T rNotB (dIs true) := by
  intro G H x y a b res Q e hx hy hf q
  cases a <;> cases b <;> simp only [dIs] at hf <;> try cases hf
  have := vw_bl hx; have := vw_bl hy; subst x y
  exact ⟨_, _, rfl, rfl, por_pd q e (.bl _)⟩
/-- the operators of comparisons, each with its meaning -/
inductive CmpD (C : Cf) : CmpOp → (D → D → Option Dr) → Prop where
  | mk {op : CmpOp} {f : D → D → Option Dr} (r : R2) (hr : ∀ X W, CxOk C X W → OpR X (compareOp op) r) (hf : OpD C.T r f) : CmpD C op f
theorem room65 {k : Nat} {A : Around} (r : Room k A) : A.units + 65 < cLine := by have := r.un; omega
section
variable {C : Cf} {pos : Pos} {a b c : Expr} {ma mb mc : M Rv}
theorem c_eq : CmpD C .Eq dEq := .mk (rEqD C.T.K) (fun X W c => by rw [← cx_K c]; exact op_eqD c.room.units) ok_eq
theorem c_ne : CmpD C .NotEq dNe := .mk (rNeD C.T.K) (fun X W c => by rw [← cx_K c]; exact op_neD c.room.units) ok_ne
theorem c_lt : CmpD C .Lt dLt := .mk (rLtA C.T.K) (fun X W c => by rw [← cx_K c]; exact OpR.or op_lt (op_ltD c.room.units)) ok_lt
theorem c_le : CmpD C .LtE dLe := .mk rLeA (fun X W c => OpR.or op_le op_le_str) ok_le
theorem c_gt : CmpD C .Gt (dI fun i j => decide (j < i)) := .mk (rI0 fun i j => .bl (decide (j < i))) (fun X W c => op_gt) ok_i
theorem c_ge : CmpD C .GtE (dI fun i j => decide (j ≤ i)) := .mk (rI0 fun i j => .bl (decide (j ≤ i))) (fun X W c => op_ge) ok_i
theorem c_in : CmpD C .In (dIn false) := .mk (rInA C.T.K) (fun X W c => by rw [← cx_K c]; exact op_inA (room65 c.room)) ok_in
theorem c_nin : CmpD C .NotIn (dIn true) := .mk (rNotInA C.T.K) (fun X W c => by rw [← cx_K c]; exact op_notInA (room65 c.room)) ok_notIn
theorem c_is : CmpD C .Is (dIs false) := .mk rIsB (fun X W c => op_isBl) ok_is
theorem c_isnt : CmpD C .IsNot (dIs true) := .mk rNotB (fun X W c => op_notBl) ok_isnt
theorem xe_cp {op : CmpOp} {f : D → D → Option Dr} (h : CmpD C op f) (ha : XE C a ma) (hb : XE C b mb) (hm : behindInMarks op b = false := by rfl) : XE C (.Compare a [op] [b] pos) (xOp f ma mb) := by
  obtain ⟨r, hr, hf⟩ := h
  exact xe_cmp (r := fun _ => r) hr hf ha hb hm
/-- a value as a test -/
def xB (m : M Rv) : M Bool := fun ρ => bnd (m ρ) fun r ρ1 => match deref ρ1 r with
  | some (.bl b) => some (.ok b ρ1)
  | _ => none
theorem xb_core {T : Tb} {W : WX} {t : TE} {m : M Rv} (h1 : ∀ G H σ ρ Q, Ok T G H σ ρ → Tel T (RvOk T) G H σ ρ W Q (m ρ) → t σ H Q) {G H : Hp} {σ : L2.St} {ρ : En} {Q : Bool → Hp → Prop} (k : Ok T G H σ ρ) (h : Tel T ROb G H σ ρ W Q (xB m ρ)) :
    t σ H fun x H' => ∃ b, x = .bl b ∧ Q b H' := by
  refine h1 G H σ ρ _ k (tel_first h fun x r ρ1 G1 H1 k1 s1 q1 h => ?_)
  cases e : deref ρ1 r with
  | none => simp only [e] at h; exact h.elim
  | some d =>
    cases d <;> simp only [e] at h <;> first | exact h.elim | skip
    rename_i b
    exact ⟨b, vw_bl (vw_of k1 q1 e), h b G1 H1 k1 s1 rfl⟩
theorem xt_val {m : M Rv} (h : XE C a m) (he : ∀ env whole, isTrue a env whole = (do let v ← whole; standAt a.pos; holding [v] (truthy v)) := by intro _ _; rfl) : XT C a (xB m) := by
  obtain ⟨t, p, q⟩ := h
  exact ⟨fun W => tB (t W), fun X W c => pt_val (p X W c) (he _), fun W G H σ ρ Q k h => xb_core (fun G H σ ρ Q => q W G H σ ρ Q) k h⟩
theorem xt_cp {op : CmpOp} {f : D → D → Option Dr} (h : CmpD C op f) (ha : XE C a ma) (hb : XE C b mb) (hm : behindInMarks op b = false := by rfl) : XT C (.Compare a [op] [b] pos) (xB (xOp f ma mb)) := by
  obtain ⟨r, hr, hf⟩ := h
  obtain ⟨t1, p1, q1⟩ := ha
  obtain ⟨t2, p2, q2⟩ := hb
  exact ⟨fun W => tTest (tOp r (t1 W) (t2 W)), fun X W c => pt_cmpR (hr X W c) (p1 X W c) (p2 X W c) hm,
    fun W G H σ ρ Q k h => xb_core (m := xOp f ma mb) (fun G H σ ρ Q k h => op_core hf (fun G H ρ Q => q1 W G H σ ρ Q) (fun G H ρ Q => q2 W G H σ ρ Q) k h) k h⟩
/-- a < b < c -/
def xChain (f g : D → D → Option Dr) (a b c : M Rv) : M Rv := fun ρ => bnd (a ρ) fun r1 ρ1 => bnd (b ρ1) fun r2 ρ2 => match deref ρ2 r1, deref ρ2 r2 with
  | some d1, some d2 => match f d1 d2 with
    | some (.pd (.bl true)) => bnd (c ρ2) fun r3 ρ3 => match deref ρ3 r2, deref ρ3 r3 with
      | some d2', some d3 => match g d2' d3 with
        | some res => some (.ok res.rv ρ3)
        | none => none
      | _, _ => none
    | some (.pd (.bl false)) => some (.ok (.im (.bl false)) ρ2)
    | _ => none
  | _, _ => none
theorem rp_bl {T : Tb} {H : Hp} {v : V} {b : Bool} (h : Rp T H v (.bl b)) : v = .bl b := by cases h; rfl
theorem chain_core {T : Tb} {r r' : R2} {f g : D → D → Option Dr} (hf : OpD T r f) (hg : OpD T r' g) {t1 t2 t3 : TE} {m1 m2 m3 : M Rv} {W : WX} {G H : Hp} {σ : L2.St} {ρ : En} {Q : VK}
    (h1 : ∀ G H ρ Q, Ok T G H σ ρ → Tel T (RvOk T) G H σ ρ W Q (m1 ρ) → t1 σ H Q) (h2 : ∀ G H ρ Q, Ok T G H σ ρ → Tel T (RvOk T) G H σ ρ W Q (m2 ρ) → t2 σ H Q) (h3 : ∀ G H ρ Q, Ok T G H σ ρ → Tel T (RvOk T) G H σ ρ W Q (m3 ρ) → t3 σ H Q)
    (k : Ok T G H σ ρ) (h : Tel T (RvOk T) G H σ ρ W Q (xChain f g m1 m2 m3 ρ)) : tChain r r' t1 t2 t3 σ H Q := by
  refine h1 G H ρ _ k (tel_first h fun x r1 ρ1 G1 H1 k1 s1 q1 h => ?_)
  refine h2 G1 H1 ρ1 _ k1 (tel_next h s1 fun y r2 ρ2 G2 H2 k2 s2 q2 h => ?_)
  cases e1 : deref ρ2 r1 with
  | none => simp only [e1] at h; exact h.elim
  | some d1 =>
    cases e2 : deref ρ2 r2 with
    | none => simp only [e1, e2] at h; exact h.elim
    | some d2 =>
      simp only [e1, e2] at h
      have vx := vw_of k2 (q1.step s2 k1) e1
      have vy := vw_of k2 q2 e2
      split at h
      · rename_i e3
        refine hf G2 H2 x y d1 d2 _ _ k2.ex vx vy e3 fun v H' hx r => ?_
        obtain rfl := rp_bl r
        refine ⟨true, rfl, ?_⟩
        rw [if_pos rfl]
        have k3 := k2.grow hx
        refine h3 _ H' ρ2 _ k3 (tel_next h ((s1.trans s2).trans (Stp.grow hx)) fun z r3 ρ3 G3 H3 k4 s3 q3 h => ?_)
        cases e4 : deref ρ3 r2 with
        | none => simp only [e4] at h; exact h.elim
        | some d2' =>
          cases e5 : deref ρ3 r3 with
          | none => simp only [e4, e5] at h; exact h.elim
          | some d3 =>
            simp only [e4, e5] at h
            cases e6 : g d2' d3 with
            | none => rw [e6] at h; exact h.elim
            | some res =>
              rw [e6] at h
              exact hg G3 H3 y z d2' d3 res Q k4.ex (vw_of k4 ((q2.step (Stp.grow hx) k2).step s3 k3) e4) (vw_of k4 q3 e5) e6 (por_tel h k4 (((s1.trans s2).trans (Stp.grow hx)).trans s3))
      · rename_i e3
        refine hf G2 H2 x y d1 d2 _ _ k2.ex vx vy e3 fun v H' hx r => ?_
        obtain rfl := rp_bl r
        refine ⟨false, rfl, ?_⟩
        rw [if_neg Bool.false_ne_true]
        exact h (.bl false) _ H' (k2.grow hx) ((s1.trans s2).trans (Stp.grow hx)) (.bl false)
      · exact h.elim
theorem xe_ch {op op' : CmpOp} {f g : D → D → Option Dr} (hf : CmpD C op f) (hg : CmpD C op' g) (ha : XE C a ma) (hb : XE C b mb) (hc : XE C c mc) (hm : lastMarks [op, op'] [b, c] = false := by with_unfolding_all rfl) : XE C (.Compare a [op, op'] [b, c] pos) (xChain f g ma mb mc) := by
  obtain ⟨r, hr, hf⟩ := hf
  obtain ⟨r', hr', hg⟩ := hg
  obtain ⟨t1, p1, q1⟩ := ha
  obtain ⟨t2, p2, q2⟩ := hb
  obtain ⟨t3, p3, q3⟩ := hc
  exact ⟨fun W => tChain r r' (t1 W) (t2 W) (t3 W), fun X W c => pe_chain (hr X W c) (hr' X W c) (p1 X W c) (p2 X W c) (p3 X W c) hm, fun W G H σ ρ Q k h =>
    chain_core hf hg (fun G H ρ Q => q1 W G H σ ρ Q) (fun G H ρ Q => q2 W G H σ ρ Q) (fun G H ρ Q => q3 W G H σ ρ Q) k h⟩
theorem xt_ch {op op' : CmpOp} {f g : D → D → Option Dr} (hf : CmpD C op f) (hg : CmpD C op' g) (ha : XE C a ma) (hb : XE C b mb) (hc : XE C c mc) (hm : lastMarks [op, op'] [b, c] = false := by with_unfolding_all rfl) : XT C (.Compare a [op, op'] [b, c] pos) (xB (xChain f g ma mb mc)) := by
  obtain ⟨r, hr, hf⟩ := hf
  obtain ⟨r', hr', hg⟩ := hg
  obtain ⟨t1, p1, q1⟩ := ha
  obtain ⟨t2, p2, q2⟩ := hb
  obtain ⟨t3, p3, q3⟩ := hc
  exact ⟨fun W => tTest (tChain r r' (t1 W) (t2 W) (t3 W)), fun X W c => pt_chain (hr X W c) (hr' X W c) (p1 X W c) (p2 X W c) (p3 X W c) hm, fun W G H σ ρ Q k h =>
    xb_core (m := xChain f g ma mb mc) (fun G H σ ρ Q k h => chain_core hf hg (fun G H ρ Q => q1 W G H σ ρ Q) (fun G H ρ Q => q2 W G H σ ρ Q) (fun G H ρ Q => q3 W G H σ ρ Q) k h) k h⟩
/-- is None -/
def isN : D → Bool
  | .non => true
  | _ => false
def xIsN (neg : Bool) (m : M Rv) : M Rv := fun ρ => bnd (m ρ) fun r ρ1 => match deref ρ1 r with
  | some d => some (.ok (.im (.bl (if neg then !isN d else isN d))) ρ1)
  | none => none
theorem vw_isN {T : Tb} {G H : Hp} {v : V} {d : D} (h : Vw T G H v d) : decide (v = .non) = isN d := by
  rcases h with h | ⟨p, vs, ds, rfl, rfl, _⟩
  · cases h <;> simp [isN]
  · simp [isN]
theorem isN_core {T : Tb} {W : WX} {neg : Bool} {t : TE} {m : M Rv} (h1 : ∀ G H σ ρ Q, Ok T G H σ ρ → Tel T (RvOk T) G H σ ρ W Q (m ρ) → t σ H Q) {G H : Hp} {σ : L2.St} {ρ : En} {Q : VK} (k : Ok T G H σ ρ) (h : Tel T (RvOk T) G H σ ρ W Q (xIsN neg m ρ)) :
    t σ H fun x H' => Q (.bl (if neg then !decide (x = .non) else decide (x = .non))) H' := by
  refine h1 G H σ ρ _ k (tel_first h fun x r ρ1 G1 H1 k1 s1 q1 h => ?_)
  cases e : deref ρ1 r with
  | none => simp only [e] at h; exact h.elim
  | some d =>
    simp only [e] at h
    rw [vw_isN (vw_of k1 q1 e)]
    exact h _ G1 H1 k1 s1 (.bl _)
theorem xe_isN {m : M Rv} {j : Nat} {p2 : Pos} (h : XE C a m) : XE C (.Compare a [.Is] [.Constant .none j p2] pos) (xIsN false m) := by
  obtain ⟨t, p, q⟩ := h
  exact ⟨fun W => tIsN (t W), fun X W c => pe_cmp (pc_isN (p X W c)) rfl, fun W G H σ ρ Q k h => isN_core (fun G H σ ρ Q => q W G H σ ρ Q) k h⟩
theorem xe_notN {m : M Rv} {j : Nat} {p2 : Pos} (h : XE C a m) : XE C (.Compare a [.IsNot] [.Constant .none j p2] pos) (xIsN true m) := by
  obtain ⟨t, p, q⟩ := h
  exact ⟨fun W => tNotN (t W), fun X W c => pe_cmp (pc_notN (p X W c)) rfl, fun W G H σ ρ Q k h => isN_core (neg := true) (fun G H σ ρ Q => q W G H σ ρ Q) k h⟩
theorem xt_isN {m : M Rv} {j : Nat} {p2 : Pos} (h : XE C a m) : XT C (.Compare a [.Is] [.Constant .none j p2] pos) (xB (xIsN false m)) := by
  obtain ⟨t, p, q⟩ := h
  exact ⟨fun W => tB (tIsN (t W)), fun X W c => pt_cmp (pc_isN (p X W c)) rfl, fun W G H σ ρ Q k h => xb_core (m := xIsN false m) (fun G H σ ρ Q k h => isN_core (neg := false) (fun G H σ ρ Q => q W G H σ ρ Q) k h) k h⟩
theorem xt_notN {m : M Rv} {j : Nat} {p2 : Pos} (h : XE C a m) : XT C (.Compare a [.IsNot] [.Constant .none j p2] pos) (xB (xIsN true m)) := by
  obtain ⟨t, p, q⟩ := h
  exact ⟨fun W => tB (tNotN (t W)), fun X W c => pt_cmp (pc_notN (p X W c)) rfl, fun W G H σ ρ Q k h => xb_core (m := xIsN true m) (fun G H σ ρ Q k h => isN_core (neg := true) (fun G H σ ρ Q => q W G H σ ρ Q) k h) k h⟩
end
end L2.DL
namespace L2.DL
open PySem PySem.Spec PyProof.Rows

/-! ### and, or, not -/
def XW (C : Cf) (e : Expr) (m : M Bool) : Prop := ∃ t : WX → TT, (∀ X W, CxOk C X W → PW X e (t W)) ∧
  ∀ W G H σ ρ Q, Ok C.T G H σ ρ → Tel C.T ROb G H σ ρ W Q (m ρ) → t W σ H Q
def xAnd (a b : M Bool) : M Bool := fun ρ => bnd (a ρ) fun c ρ1 => if c = true then b ρ1 else some (.ok false ρ1)
def xOr (a b : M Bool) : M Bool := fun ρ => bnd (a ρ) fun c ρ1 => if c = true then some (.ok true ρ1) else b ρ1
def xNot (a : M Bool) : M Bool := fun ρ => bnd (a ρ) fun c ρ1 => some (.ok (!c) ρ1)
/-- a test's answer as a value -/
def xV (a : M Bool) : M Rv := fun ρ => bnd (a ρ) fun c ρ1 => some (.ok (.im (.bl c)) ρ1)
section
variable {C : Cf} {pos : Pos} {a b c : Expr} {rest : List Expr} {ma mb : M Bool} {va vb vc : M Rv}
theorem xt_w (h : XW C a ma) : XT C a ma := by
  obtain ⟨t, p, q⟩ := h
  exact ⟨t, fun X W c => (p X W c).pt, q⟩
theorem xw_and1 (h : XT C a ma) : XW C (.BoolOp .And [a] pos) ma := by
  obtain ⟨t, p, q⟩ := h
  exact ⟨t, fun X W c => pw_and1 (p X W c), q⟩
theorem xw_or1 (h : XT C a ma) : XW C (.BoolOp .Or [a] pos) ma := by
  obtain ⟨t, p, q⟩ := h
  exact ⟨t, fun X W c => pw_or1 (p X W c), q⟩
theorem and_core {T : Tb} {W : WX} {t u : TT} {ma mb : M Bool} (h1 : ∀ G H σ ρ Q, Ok T G H σ ρ → Tel T ROb G H σ ρ W Q (ma ρ) → t σ H Q) (h2 : ∀ G H σ ρ Q, Ok T G H σ ρ → Tel T ROb G H σ ρ W Q (mb ρ) → u σ H Q)
    {G H : Hp} {σ : L2.St} {ρ : En} {Q : Bool → Hp → Prop} (k : Ok T G H σ ρ) (h : Tel T ROb G H σ ρ W Q (xAnd ma mb ρ)) : tAnd t u σ H Q := by
  refine h1 G H σ ρ _ k (tel_first h fun x r ρ1 G1 H1 k1 s1 q1 h => ?_)
  obtain rfl : x = r := q1
  cases x with
  | true => exact h2 G1 H1 σ ρ1 Q k1 (tel_last sh_b h s1)
  | false => exact h false G1 H1 k1 s1 rfl
theorem or_core {T : Tb} {W : WX} {t u : TT} {ma mb : M Bool} (h1 : ∀ G H σ ρ Q, Ok T G H σ ρ → Tel T ROb G H σ ρ W Q (ma ρ) → t σ H Q) (h2 : ∀ G H σ ρ Q, Ok T G H σ ρ → Tel T ROb G H σ ρ W Q (mb ρ) → u σ H Q)
    {G H : Hp} {σ : L2.St} {ρ : En} {Q : Bool → Hp → Prop} (k : Ok T G H σ ρ) (h : Tel T ROb G H σ ρ W Q (xOr ma mb ρ)) : tOr t u σ H Q := by
  refine h1 G H σ ρ _ k (tel_first h fun x r ρ1 G1 H1 k1 s1 q1 h => ?_)
  obtain rfl : x = r := q1
  cases x with
  | true => exact h true G1 H1 k1 s1 rfl
  | false => exact h2 G1 H1 σ ρ1 Q k1 (tel_last sh_b h s1)
theorem xw_and (ha : XT C a ma) (hb : XW C (.BoolOp .And (b :: rest) pos) mb) : XW C (.BoolOp .And (a :: b :: rest) pos) (xAnd ma mb) := by
  obtain ⟨t, p, q⟩ := ha
  obtain ⟨u, p', q'⟩ := hb
  exact ⟨fun W => tAnd (t W) (u W), fun X W c => pw_and (p X W c) (p' X W c), fun W G H σ ρ Q k h => and_core (fun G H σ ρ Q => q W G H σ ρ Q) (fun G H σ ρ Q => q' W G H σ ρ Q) k h⟩
theorem xw_or (ha : XT C a ma) (hb : XW C (.BoolOp .Or (b :: rest) pos) mb) : XW C (.BoolOp .Or (a :: b :: rest) pos) (xOr ma mb) := by
  obtain ⟨t, p, q⟩ := ha
  obtain ⟨u, p', q'⟩ := hb
  exact ⟨fun W => tOr (t W) (u W), fun X W c => pw_or (p X W c) (p' X W c), fun W G H σ ρ Q k h => or_core (fun G H σ ρ Q => q W G H σ ρ Q) (fun G H σ ρ Q => q' W G H σ ρ Q) k h⟩
theorem xt_not (ha : XT C a ma) : XT C (.UnaryOp .Not a pos) (xNot ma) := by
  obtain ⟨t, p, q⟩ := ha
  exact ⟨fun W => tNot (t W), fun X W c => pt_not (p X W c), fun W G H σ ρ Q k h => q W G H σ ρ _ k (tel_first h fun x r ρ1 G1 H1 k1 s1 q1 h => by
    obtain rfl : x = r := q1
    exact h _ G1 H1 k1 s1 rfl)⟩
/-- .. as values -/
theorem xv_core {T : Tb} {W : WX} {t : TE} {m : M Rv} (h1 : ∀ G H σ ρ Q, Ok T G H σ ρ → Tel T (RvOk T) G H σ ρ W Q (m ρ) → t σ H Q) {α β : Type} {RO : Hp → Hp → Hp → L2.St → En → β → α → Prop} {Q' : β → Hp → Prop} {k' : Bool → M α} {G H : Hp} {σ : L2.St} {ρ : En} {R : Bool → Hp → Prop}
    (k : Ok T G H σ ρ) (h : Tel T RO G H σ ρ W Q' (bnd (xB m ρ) k')) (hR : ∀ b ρ1 G1 H1, Ok T G1 H1 σ ρ1 → Stp G H σ ρ G1 H1 σ ρ1 → Tel T RO G H σ ρ W Q' (k' b ρ1) → R b H1) : t σ H fun x H1 => ∃ c, x = .bl c ∧ R c H1 := by
  refine xb_core (m := m) (T := T) (W := W) (Q := R) h1 k ?_
  refine tel_first h fun b r ρ1 G1 H1 k1 s1 q1 h => ?_
  obtain rfl : b = r := q1
  exact hR b ρ1 G1 H1 k1 s1 h
theorem xe_one {op : BoolOp} (h : XE C a va) : XE C (.BoolOp op [a] pos) va := by
  obtain ⟨t, p, q⟩ := h
  exact ⟨t, fun X W c => pe_one (p X W c), q⟩
def xAndV (a b : M Rv) : M Rv := fun ρ => bnd (xB a ρ) fun c ρ1 => if c = true then b ρ1 else some (.ok (.im (.bl false)) ρ1)
def xOrV (a b : M Rv) : M Rv := fun ρ => bnd (xB a ρ) fun c ρ1 => if c = true then some (.ok (.im (.bl true)) ρ1) else b ρ1
def xNotV (a : M Rv) : M Rv := fun ρ => bnd (xB a ρ) fun c ρ1 => some (.ok (.im (.bl (!c))) ρ1)
theorem xe_and (ha : XE C a va) (hb : XE C (.BoolOp .And (b :: rest) pos) vb) : XE C (.BoolOp .And (a :: b :: rest) pos) (xAndV va vb) := by
  obtain ⟨t, p, q⟩ := ha
  obtain ⟨u, p', q'⟩ := hb
  refine ⟨fun W => tAndV (t W) (u W), fun X W c => pe_and (p X W c) (p' X W c), fun W G H σ ρ Q k h => xv_core (fun G H σ ρ Q => q W G H σ ρ Q) k h fun b ρ1 G1 H1 k1 s1 h => ?_⟩
  cases b with
  | true => exact q' W G1 H1 σ ρ1 Q k1 (tel_last sh_v h s1)
  | false => exact h (.bl false) G1 H1 k1 s1 (.bl false)
theorem xe_or (ha : XE C a va) (hb : XE C (.BoolOp .Or (b :: rest) pos) vb) : XE C (.BoolOp .Or (a :: b :: rest) pos) (xOrV va vb) := by
  obtain ⟨t, p, q⟩ := ha
  obtain ⟨u, p', q'⟩ := hb
  refine ⟨fun W => tOrV (t W) (u W), fun X W c => pe_or (p X W c) (p' X W c), fun W G H σ ρ Q k h => xv_core (fun G H σ ρ Q => q W G H σ ρ Q) k h fun b ρ1 G1 H1 k1 s1 h => ?_⟩
  cases b with
  | true => exact h (.bl true) G1 H1 k1 s1 (.bl true)
  | false => exact q' W G1 H1 σ ρ1 Q k1 (tel_last sh_v h s1)
theorem xe_not (ha : XE C a va) : XE C (.UnaryOp .Not a pos) (xNotV va) := by
  obtain ⟨t, p, q⟩ := ha
  exact ⟨fun W => tNotV (t W), fun X W c => pe_not (p X W c), fun W G H σ ρ Q k h => xv_core (fun G H σ ρ Q => q W G H σ ρ Q) k h fun b ρ1 G1 H1 k1 s1 h => h _ G1 H1 k1 s1 (.bl _)⟩
def xNeg (a : M Rv) : M Rv := fun ρ => bnd (a ρ) fun r ρ1 => match deref ρ1 r with
  | some (.int i) => some (.ok (.im (.int (-i))) ρ1)
  | _ => none
theorem xe_neg (ha : XE C a va) : XE C (.UnaryOp .USub a pos) (xNeg va) := by
  obtain ⟨t, p, q⟩ := ha
  refine ⟨fun W => tUn (rU fun i => .int (-i)) (t W), fun X W c => pe_un un_neg (p X W c), fun W G H σ ρ Q k h => q W G H σ ρ _ k (tel_first h fun x r ρ1 G1 H1 k1 s1 q1 h => ?_)⟩
  cases e : deref ρ1 r with
  | none => simp only [e] at h; exact h.elim
  | some d =>
    cases d <;> simp only [e] at h <;> first | exact h.elim | skip
    rename_i i
    exact ⟨i, vw_int (vw_of k1 q1 e), h (.int (-i)) G1 H1 k1 s1 (.int _)⟩
def xIf (c : M Bool) (a b : M Rv) : M Rv := fun ρ => bnd (c ρ) fun k ρ1 => if k = true then a ρ1 else b ρ1
theorem xe_if {mc : M Bool} (hc : XT C c mc) (ha : XE C a va) (hb : XE C b vb) : XE C (.IfExp c a b pos) (xIf mc va vb) := by
  obtain ⟨t, p, q⟩ := hc
  obtain ⟨t1, p1, q1⟩ := ha
  obtain ⟨t2, p2, q2⟩ := hb
  refine ⟨fun W => tIf (t W) (t1 W) (t2 W), fun X W c => pe_ifExp (p X W c) (p1 X W c) (p2 X W c), fun W G H σ ρ Q k h => q W G H σ ρ _ k (tel_first h fun x r ρ1 G1 H1 k1 s1 q1' h => ?_)⟩
  obtain rfl : x = r := q1'
  cases x with
  | true => exact q1 W G1 H1 σ ρ1 Q k1 (tel_last sh_v h s1)
  | false => exact q2 W G1 H1 σ ρ1 Q k1 (tel_last sh_v h s1)
end

/-! ### subscripts -/
def dIx : D → D → Option Dr
  | .lst xs, .int i => (atI xs i).map .pd
  | .tup xs, .int i => (atI xs i).map .pd
  | .str z, .int i => if z.length ≤ sizeLine then (atI z.cps.toList i).map fun c => .pd (.str ⟨#[c]⟩) else none
  | _, _ => none
theorem rpl_at {T : Tb} {G : Hp} {vs : List V} {ds : List D} (r : RpL T G vs ds) {i : Int} {d : D} (h : atI ds i = some d) : ∃ v, atI vs i = some v ∧ Rp T G v d := by
  unfold atI at h ⊢
  rw [r.length]
  cases e : ixN ds.length i with
  | none => rw [e] at h; cases h
  | some j =>
    rw [e] at h
    exact r.getD h
theorem ok_ix {T : Tb} : OpD T (rIx T.K) dIx := by
  intro G H x y a b res Q e hx hy hf q
  cases a <;> cases b <;> simp only [dIx] at hf <;> try cases hf
  · rename_i z i
    split at hf
    · rename_i hz
      cases e1 : atI z.cps.toList i with
      | none => rw [e1] at hf; cases hf
      | some c =>
        rw [e1] at hf; cases hf
        have := vw_str hx; have := vw_int hy; subst x y
        exact .inr (.inr ⟨z, i, c, rfl, rfl, hz, e1, por_pd q e (.str _)⟩)
    · cases hf
  · rename_i xs i
    cases e1 : atI xs i with
    | none => rw [e1] at hf; cases hf
    | some d =>
      rw [e1] at hf; cases hf
      obtain ⟨p, vs, rfl, h1, r1, _⟩ := vw_tup e hx
      have := vw_int hy; subst y
      obtain ⟨v, e2, r2⟩ := rpl_at r1 e1
      exact .inr (.inl ⟨p, vs, i, v, rfl, rfl, h1, e2, por_pd q e r2⟩)
  · rename_i xs i
    cases e1 : atI xs i with
    | none => rw [e1] at hf; cases hf
    | some d =>
      rw [e1] at hf; cases hf
      obtain ⟨p, vs, rfl, h1, r1⟩ := vw_lst e hx
      have := vw_int hy; subst y
      obtain ⟨v, e2, r2⟩ := rpl_at r1 e1
      exact .inl ⟨p, vs, i, v, rfl, rfl, SqL.of h1, e2, por_pd q e r2⟩
section
variable {C : Cf} {pos : Pos} {a b c : Expr} {va vb : M Rv}
theorem xe_ix (ha : XE C a va) (hb : XE C b vb) (hs : PlainIx b := by exact fun _ _ => rfl) : XE C (.Subscript a b pos) (xOp dIx va vb) := by
  obtain ⟨t1, p1, q1⟩ := ha
  obtain ⟨t2, p2, q2⟩ := hb
  exact ⟨fun W => tOp (rIx C.T.K) (t1 W) (t2 W), fun X W c => pe_ix (by rw [← cx_K c]; exact ix_seq) (p1 X W c) (p2 X W c) hs, fun W G H σ ρ Q k h => op_core ok_ix (fun G H ρ Q => q1 W G H σ ρ Q) (fun G H ρ Q => q2 W G H σ ρ Q) k h⟩
/-- a part of a slice -/
def XO (C : Cf) (e : Option Expr) (m : M (Option Int)) : Prop := ∃ t : WX → TO, (∀ X W, CxOk C X W → PO X e (t W)) ∧
  ∀ W G H σ ρ Q, Ok C.T G H σ ρ → Tel C.T (fun _ _ _ _ _ (b a : Option Int) => b = a) G H σ ρ W Q (m ρ) → t W σ H Q
def oNo : M (Option Int) := ret none
def oYes (m : M Rv) : M (Option Int) := fun ρ => bnd (m ρ) fun r ρ1 => match deref ρ1 r with
  | some (.int i) => some (.ok (some i) ρ1)
  | _ => none
theorem xo_no : XO C none oNo := ⟨fun _ => tNoPart, fun X W c => po_none, fun W G H σ ρ Q k h => h none G H k Stp.refl rfl⟩
theorem xo_yes {m : M Rv} (ha : XE C a m) : XO C (some a) (oYes m) := by
  obtain ⟨t, p, q⟩ := ha
  refine ⟨fun W => tPart (t W), fun X W c => po_some (p X W c), fun W G H σ ρ Q k h => q W G H σ ρ _ k (tel_first h fun x r ρ1 G1 H1 k1 s1 q1 h => ?_)⟩
  cases e : deref ρ1 r with
  | none => simp only [e] at h; exact h.elim
  | some d =>
    cases d <;> simp only [e] at h <;> first | exact h.elim | skip
    rename_i i
    exact ⟨i, vw_int (vw_of k1 q1 e), h _ G1 H1 k1 s1 rfl⟩
def cutD (xs : List D) (lo hi : Option Int) : List D := (xs.drop (HT.sIx xs.length 0 lo)).take (HT.sIx xs.length xs.length hi - HT.sIx xs.length 0 lo)
def dSl (lo hi : Option Int) : D → Option Dr
  | .lst xs => some (.nl (cutD xs lo hi))
  | .tup xs => some (.pd (.tup (cutD xs lo hi)))
  | .str z => if z.length ≤ sizeLine then some (.pd (.str (cutS z lo hi))) else none
  | .scr ns => some (.nl (cutD (ns.map .int) lo hi))
  | _ => none
def rSlAll (K : PySem.W.Frag) : V → Option Int → Option Int → Hp → VK → Prop := fun x lo hi H Q => rSlL K x lo hi H Q ∨ (rSlA K x lo hi H Q ∨ rSlS x lo hi H Q)
theorem rpl_cut {T : Tb} {G : Hp} {vs : List V} {ds : List D} (r : RpL T G vs ds) (lo hi : Option Int) : RpL T G (cutV vs lo hi) (cutD ds lo hi) := by
  unfold cutV cutD
  rw [r.length]
  exact (r.drop _).take _
theorem rpl_ints {T : Tb} {G : Hp} : ∀ ns : List Int, RpL T G (ns.map V.int) (ns.map D.int)
  | [] => .nil
  | n :: ns => .cons (.int n) (rpl_ints ns)
theorem ok_sl {T : Tb} {G H : Hp} {x : V} {d : D} {lo hi : Option Int} {res : Dr} {Q : VK} (e : Ext G H) (hx : Vw T G H x d) (hf : dSl lo hi d = some res) (q : PoR T G H Q res) : rSlAll T.K x lo hi H Q := by
  cases d <;> simp only [dSl] at hf <;> try cases hf
  · split at hf
    · rename_i hz
      cases hf
      have := vw_str hx; subst x
      exact .inr (.inr ⟨_, rfl, hz, por_pd q e (.str _)⟩)
    · cases hf
  · obtain ⟨p, vs, rfl, h1, r1, r2⟩ := vw_tup e hx
    refine .inr (.inl ⟨p, vs, rfl, h1, fun z => ?_, fun _ p3 hp => por_tup q e hp (rpl_cut r1 lo hi)⟩)
    refine por_pd q e ?_
    have hz : ∀ xs : List D, RpL T G vs xs → cutD xs lo hi = xs := fun xs r => by
      unfold cutD
      rw [← r.length, z.1, z.2, List.drop_zero, Nat.sub_zero, r.length, List.take_length]
    rw [hz _ r1]
    exact r2
  · obtain ⟨p, vs, rfl, h1, r1⟩ := vw_lst e hx
    exact .inl ⟨p, vs, rfl, SqL.of h1, fun p3 hp => q p3 _ hp (rpl_cut r1 lo hi)⟩
  · rename_i ns
    obtain ⟨p, rfl, h1⟩ := vw_scr e hx
    exact .inl ⟨p, _, rfl, h1, fun p3 hp => q p3 _ hp (rpl_cut (rpl_ints ns) lo hi)⟩
def xSl (m : M Rv) (lo hi : M (Option Int)) : M Rv := fun ρ => bnd (m ρ) fun r ρ1 => bnd (lo ρ1) fun l ρ2 => bnd (hi ρ2) fun h ρ3 => match deref ρ3 r with
  | some d => match dSl l h d with
    | some res => some (.ok res.rv ρ3)
    | none => none
  | none => none
theorem sh_o (Hs Hs' G H : Hp) (σ : L2.St) (ρ : En) (b a : Option Int) (_ : ∀ p, Hs' p = none → Hs p = none) (h : b = a) : b = a := h
theorem xe_sl {lo hi : Option Expr} {m : M Rv} {ml mh : M (Option Int)} {p2 : Pos} (ha : XE C a m) (hl : XO C lo ml) (hh : XO C hi mh) : XE C (.Subscript a (.Slice lo hi none p2) pos) (xSl m ml mh) := by
  obtain ⟨t, p, q⟩ := ha
  obtain ⟨t1, p1, q1⟩ := hl
  obtain ⟨t2, p2, q2⟩ := hh
  refine ⟨fun W => tSl (rSlAll C.T.K) (t W) (t1 W) (t2 W), fun X W c => pe_slice (by rw [← cx_K c]; exact SlR.or sl_list (SlR.or sl_tupA sl_str)) (p X W c) (p1 X W c) (p2 X W c), fun W G H σ ρ Q k h => ?_⟩
  refine q W G H σ ρ _ k (tel_first h fun x r ρ1 G1 H1 k1 s1 r1 h => ?_)
  refine q1 W G1 H1 σ ρ1 _ k1 (tel_next h s1 fun l l' ρ2 G2 H2 k2 s2 e2 h => ?_)
  obtain rfl : l = l' := e2
  refine q2 W G2 H2 σ ρ2 _ k2 (tel_next h (s1.trans s2) fun u u' ρ3 G3 H3 k3 s3 e3 h => ?_)
  obtain rfl : u = u' := e3
  cases e : deref ρ3 r with
  | none => simp only [e] at h; exact h.elim
  | some d =>
    simp only [e] at h
    cases e4 : dSl l u d with
    | none => rw [e4] at h; exact h.elim
    | some res =>
      rw [e4] at h
      exact ok_sl k3.ex (vw_of k3 ((r1.step s2 k1).step s3 k2) e) e4 (por_tel h k3 ((s1.trans s2).trans s3))
end
end L2.DL
namespace L2.DL
open PySem PySem.Spec PyProof.Rows

/-! ### statements -/
inductive SR where
  | nx (ρ : En)
  | rt (d : Rv) (ρ : En)
  | bk (ρ : En)
  | ct (ρ : En)
  | ex (e : Exc) (ρ : En)
abbrev MS := En → Option SR
def TelS (T : Tb) (G H : Hp) (σ : L2.St) (ρ : En) (W : WX) (E : Ends) : Option SR → Prop
  | none => False
  | some (.nx ρ') => ∀ (σ' : L2.St) (G' H' : Hp), Ok T G' H' σ' ρ' → Stp G H σ ρ G' H' σ' ρ' → E.nx σ' H'
  | some (.rt d ρ') => ∀ (v : V) (σ' : L2.St) (G' H' : Hp), Ok T G' H' σ' ρ' → Stp G H σ ρ G' H' σ' ρ' → RvOk T H G' H' σ' ρ' v d → E.rt v H'
  | some (.bk ρ') => ∀ (σ' : L2.St) (G' H' : Hp), Ok T G' H' σ' ρ' → Stp G H σ ρ G' H' σ' ρ' → E.bk σ' H'
  | some (.ct ρ') => ∀ (σ' : L2.St) (G' H' : Hp), Ok T G' H' σ' ρ' → Stp G H σ ρ G' H' σ' ρ' → E.ct σ' H'
  | some (.ex e ρ') => ∀ (cls : Value) (d : Option Addr) (σ' : L2.St) (G' H' : Hp), Ok T G' H' σ' ρ' → Stp G H σ ρ G' H' σ' ρ' → ExOk T G' H' e cls d → W cls d σ' H'
theorem TelS.later {T : Tb} {G H G1 H1 : Hp} {σ σ1 : L2.St} {ρ ρ1 : En} {W : WX} {E : Ends} {x : Option SR} (h : TelS T G H σ ρ W E x) (s : Stp G H σ ρ G1 H1 σ1 ρ1) : TelS T G1 H1 σ1 ρ1 W E x := by
  cases x with
  | none => exact h
  | some y =>
    cases y with
    | nx ρ' => exact fun σ' G' H' k s' => h σ' G' H' k (s.trans s')
    | rt d ρ' => exact fun v σ' G' H' k s' r => h v σ' G' H' k (s.trans s') (r.shift s.dom)
    | bk ρ' => exact fun σ' G' H' k s' => h σ' G' H' k (s.trans s')
    | ct ρ' => exact fun σ' G' H' k s' => h σ' G' H' k (s.trans s')
    | ex e ρ' => exact fun cls d σ' G' H' k s' => h cls d σ' G' H' k (s.trans s')
def XS (C : Cf) (st : Stmt) (m : MS) : Prop := ∃ t : WX → TS, (∀ X W, CxS C X W → PS X st (t W)) ∧
  ∀ W G H σ ρ E, Ok C.T G H σ ρ → TelS C.T G H σ ρ W E (m ρ) → t W E σ H
def XSs (C : Cf) (st : List Stmt) (m : MS) : Prop := ∃ t : WX → TS, (∀ X W, CxS C X W → PSs X st (t W)) ∧
  ∀ W G H σ ρ E, Ok C.T G H σ ρ → TelS C.T G H σ ρ W E (m ρ) → t W E σ H
/-- an expression, then what hangs on it -/
def sbn {α : Type} (x : Option (Res α)) (k : α → MS) : Option SR := match x with
  | none => none
  | some (.ex e ρ) => some (.ex e ρ)
  | some (.ok a ρ) => k a ρ
@[simp] theorem sbn_none {α : Type} (k : α → MS) : sbn none k = none := rfl
@[simp] theorem sbn_ok {α : Type} (k : α → MS) (a : α) (ρ : En) : sbn (some (.ok a ρ)) k = k a ρ := rfl
@[simp] theorem sbn_ex {α : Type} (k : α → MS) (e : Exc) (ρ : En) : sbn (some (.ex e ρ)) k = some (.ex e ρ) := rfl
theorem tels_sbn {T : Tb} {G H : Hp} {σ : L2.St} {ρ : En} {W : WX} {E : Ends} {α β : Type} {RO : Hp → Hp → Hp → L2.St → En → β → α → Prop} {Q : β → Hp → Prop} {x : Option (Res α)} {k : α → MS} (h : TelS T G H σ ρ W E (sbn x k))
    (hk : ∀ (b : β) (a : α) (ρ2 : En) (G2 H2 : Hp), Ok T G2 H2 σ ρ2 → Stp G H σ ρ G2 H2 σ ρ2 → RO H G2 H2 σ ρ2 b a → TelS T G H σ ρ W E (k a ρ2) → Q b H2) : Tel T RO G H σ ρ W Q x := by
  cases x with
  | none => exact h
  | some y =>
    cases y with
    | ok a ρ' => exact fun b G' H' o s r => hk b a ρ' G' H' o s r h
    | ex e ρ' => exact fun cls d G' H' k s r => h cls d σ G' H' k s r
def sSkip : MS := fun ρ => some (.nx ρ)
def sSeq (a b : MS) : MS := fun ρ => match a ρ with
  | some (.nx ρ1) => b ρ1
  | r => r
def sDrop (e : M Rv) : MS := fun ρ => sbn (e ρ) fun _ ρ1 => some (.nx ρ1)
def sRet (e : M Rv) : MS := fun ρ => sbn (e ρ) fun r ρ1 => match fz1 r ρ1 with
  | some (d, ρ2) => some (.rt (.im d) ρ2)
  | none => none
/-- .. a new list stays the taker's own -/
def sRetN (e : M Rv) : MS := fun ρ => sbn (e ρ) fun r ρ1 => match r with
  | .nw ob => some (.rt (.nw ob) ρ1)
  | _ => none
def sIf (c : M Bool) (a b : MS) : MS := fun ρ => sbn (c ρ) fun k ρ1 => if k = true then a ρ1 else b ρ1
def sBrk : MS := fun ρ => some (.bk ρ)
def sCnt : MS := fun ρ => some (.ct ρ)
section
variable {C : Cf} {pos : Pos} {st : Stmt} {sts : List Stmt} {a b : MS} {e : Expr} {m : M Rv}
theorem xs_nil : XSs C [] sSkip := ⟨fun _ => tNext, fun _ _ _ => pss_nil, fun _ G H σ ρ E k h => h σ G H k Stp.refl⟩
theorem xs_pass : XS C (.Pass pos) sSkip := ⟨fun _ => tNext, fun _ _ _ => ps_pass, fun _ G H σ ρ E k h => h σ G H k Stp.refl⟩
theorem xs_one (h : XS C st a) : XSs C [st] a := by
  obtain ⟨t, p, q⟩ := h
  exact ⟨t, fun X W c => pss_one (p X W c), q⟩
theorem xs_cons (h1 : XS C st a) (h2 : XSs C sts b) : XSs C (st :: sts) (sSeq a b) := by
  obtain ⟨t, p, q⟩ := h1
  obtain ⟨u, p', q'⟩ := h2
  refine ⟨fun W => tSeq (t W) (u W), fun X W c => pss_cons (p X W c) (p' X W c), fun W G H σ ρ E k h => q W G H σ ρ _ k ?_⟩
  unfold sSeq at h
  cases e : a ρ with
  | none => rw [e] at h; exact h
  | some y =>
    rw [e] at h
    cases y with
    | nx ρ1 => exact fun σ' G' H' k' s' => q' W G' H' σ' ρ1 E k' (h.later s')
    | rt d ρ' => exact h
    | bk ρ' => exact h
    | ct ρ' => exact h
    | ex e ρ' => exact h
theorem xs_brk : XS C (.Break pos) sBrk := ⟨fun _ => tBreak, fun _ _ _ => ps_break, fun _ G H σ ρ E k h => h σ G H k Stp.refl⟩
theorem xs_cnt : XS C (.Continue pos) sCnt := ⟨fun _ => tCont, fun _ _ _ => ps_continue, fun _ G H σ ρ E k h => h σ G H k Stp.refl⟩
theorem xs_expr (h : XE C e m) (hs : ∀ env, swapsWith e none pos.line env = pure false := by intro _; rfl) : XS C (.Expr e pos) (sDrop m) := by
  obtain ⟨t, p, q⟩ := h
  exact ⟨fun W => tDrop (t W), fun X W c => ps_expr (p X W c.toCxOk) (hs _), fun W G H σ ρ E k h => q W G H σ ρ _ k (tels_sbn h fun v r ρ1 G1 H1 k1 s1 r1 h => h σ G1 H1 k1 s1)⟩
theorem xs_ret (h : XE C e m) : XS C (.Return (some e) pos) (sRet m) := by
  obtain ⟨t, p, q⟩ := h
  refine ⟨fun W => tRet (t W), fun X W c => ps_ret (p X W c.toCxOk), fun W G H σ ρ E k h => q W G H σ ρ _ k (tels_sbn h fun v r ρ1 G1 H1 k1 s1 r1 h => ?_)⟩
  cases e : fz1 r ρ1 with
  | none => simp only [e] at h; exact h.elim
  | some y =>
    obtain ⟨d, ρ2⟩ := y
    simp only [e] at h
    obtain ⟨G2, F, r2, _⟩ := fz1_ok k1 s1 r1 e
    exact h v σ G2 H1 F.ok F.st r2
theorem xs_retN (h : XE C e m) : XS C (.Return (some e) pos) (sRetN m) := by
  obtain ⟨t, p, q⟩ := h
  refine ⟨fun W => tRet (t W), fun X W c => ps_ret (p X W c.toCxOk), fun W G H σ ρ E k h => q W G H σ ρ _ k (tels_sbn h fun v r ρ1 G1 H1 k1 s1 r1 h => ?_)⟩
  cases r <;> first | exact h.elim | skip
  exact h v σ G1 H1 k1 s1 r1
theorem xs_if {c : Expr} {mc : M Bool} {s1 s2 : List Stmt} (hc : XT C c mc) (h1 : XSs C s1 a) (h2 : XSs C s2 b) : XS C (.If c s1 s2 pos) (sIf mc a b) := by
  obtain ⟨t, p, q⟩ := hc
  obtain ⟨t1, p1, q1⟩ := h1
  obtain ⟨t2, p2, q2⟩ := h2
  refine ⟨fun W => tIfS (t W) (t1 W) (t2 W), fun X W c => ps_if (p X W c.toCxOk) (p1 X W c) (p2 X W c), fun W G H σ ρ E k h => q W G H σ ρ _ k (tels_sbn h fun x r ρ1 G1 H1 k1 s1 e1 h => ?_)⟩
  obtain rfl : x = r := e1
  cases x with
  | true => exact q1 W G1 H1 σ ρ1 E k1 (h.later s1)
  | false => exact q2 W G1 H1 σ ρ1 E k1 (h.later s1)
end

/-! ### a slot is stored -/
def isPar : Option Sl → Bool
  | some (.ow true _) => true
  | _ => false
def putS (i : Nat) (r : Rv) (ρ : En) : Option En := if isPar ρ[i]? = true ∨ ρ.length ≤ i then none else match r with
  | .im d => some (ρ.set i (.im d))
  | .nw ob => some (ρ.set i (.ow false ob))
  | .al j => if j = i then some ρ else match ρ[j]? with
    | some (.im d) => some (ρ.set i (.im d))
    | some (.ow false ob) => some ((ρ.set j .un).set i (.ow false ob))
    | _ => none
section
variable {T : Tb} {Gs Hs G H : Hp} {σ : L2.St} {ρs ρ : En} {v : V} {r : Rv}
theorem own_set_not {i : Nat} {sl : Sl} (hs : ∀ par ob, sl ≠ .ow par ob) {a : Addr} (h : OwnAt (σ.set i (some v)) (ρ.set i sl) a) : OwnAt σ ρ a := by
  obtain ⟨j, par, ob, h1, h2⟩ := h
  by_cases q : j = i
  · subst q
    by_cases hl : j < ρ.length
    · rw [List.getElem?_set_self hl] at h1; cases h1; exact absurd rfl (hs par ob)
    · rw [List.getElem?_eq_none (by simpa using hl)] at h1; cases h1
  · rw [List.getElem?_set_ne (Ne.symm q)] at h1 h2; exact ⟨j, par, ob, h1, h2⟩
theorem not_par {i : Nat} (hp : isPar ρ[i]? = false) {ob : Ob} : ρ[i]? ≠ some (.ow true ob) := fun h => by rw [h] at hp; cases hp
/-- the slot gets data (or nothing known) -/
theorem set_im {σs : L2.St} (k : Ok T G H σ ρ) (s : Stp Gs Hs σs ρs G H σ ρ) {i : Nat} (hi : i < ρ.length) (hp : isPar ρ[i]? = false) {sl : Sl} (hsl : sl = .un ∨ ∃ d, sl = .im d ∧ Rp T G v d) :
    Ok T G H (σ.set i (some v)) (ρ.set i sl) ∧ Stp Gs Hs σs ρs G H (σ.set i (some v)) (ρ.set i sl) := by
  have hiσ : i < σ.length := by rw [← k.len]; exact hi
  have hno : ∀ par ob, sl ≠ .ow par ob := fun par ob z => by
    rcases hsl with h | ⟨d, h, _⟩ <;> rw [h] at z <;> cases z
  have nots : ∀ j, j ≠ i → (ρ.set i sl)[j]? = ρ[j]? ∧ (σ.set i (some v))[j]? = σ[j]? := fun j h => ⟨List.getElem?_set_ne (Ne.symm h), List.getElem?_set_ne (Ne.symm h)⟩
  refine ⟨⟨k.ex, k.tb, by simpa using k.len, fun j d h => ?_, fun j par ob h => ?_, fun a b p x1 y1 x2 y2 hab h1 h2 h3 h4 => ?_⟩, ⟨s.keep, fun a h => s.own a (own_set_not hno h), s.dom, fun j ob h => ?_, s.tbl⟩⟩
  · by_cases q : j = i
    · subst q
      rw [List.getElem?_set_self hi] at h
      rcases hsl with e | ⟨d', e, r⟩
      · rw [e] at h; cases h
      · rw [e] at h; cases h
        exact ⟨v, List.getElem?_set_self hiσ, r⟩
    · rw [(nots j q).1] at h; rw [(nots j q).2]; exact k.im j d h
  · by_cases q : j = i
    · subst q
      rw [List.getElem?_set_self hi] at h; cases h; exact absurd rfl (hno par ob)
    · rw [(nots j q).1] at h; rw [(nots j q).2]; exact k.ow j par ob h
  · have ha : a ≠ i := fun z => by subst z; rw [List.getElem?_set_self hi] at h1; cases h1; exact absurd rfl (hno _ _)
    have hb : b ≠ i := fun z => by subst z; rw [List.getElem?_set_self hi] at h2; cases h2; exact absurd rfl (hno _ _)
    rw [(nots a ha).1] at h1; rw [(nots b hb).1] at h2; rw [(nots a ha).2] at h3; rw [(nots b hb).2] at h4
    exact k.ds a b p _ _ _ _ hab h1 h2 h3 h4
  · obtain ⟨⟨ob', e⟩, e'⟩ := s.par j ob h
    have q : j ≠ i := fun z => by subst z; exact not_par hp e
    rw [(nots j q).1, (nots j q).2]; exact ⟨⟨ob', e⟩, e'⟩
/-- the slot gets an object that no slot has -/
theorem set_ow {σs : L2.St} (k : Ok T G H σ ρ) (s : Stp Gs Hs σs ρs G H σ ρ) {i : Nat} (hi : i < ρ.length) (hp : isPar ρ[i]? = false) {p : Addr} {o : HO} {ob : Ob} (hs : OwnAt σs ρs p ∨ Hs p = none) (hg : G p = none) (hh : H p = some o) (ho : ObOk T G o ob) (no : ¬ OwnAt σ ρ p) :
    Ok T G H (σ.set i (some (.ref p))) (ρ.set i (.ow false ob)) ∧ Stp Gs Hs σs ρs G H (σ.set i (some (.ref p))) (ρ.set i (.ow false ob)) := by
  have hiσ : i < σ.length := by rw [← k.len]; exact hi
  have nots : ∀ j, j ≠ i → (ρ.set i (.ow false ob))[j]? = ρ[j]? ∧ (σ.set i (some (.ref p)))[j]? = σ[j]? := fun j h => ⟨List.getElem?_set_ne (Ne.symm h), List.getElem?_set_ne (Ne.symm h)⟩
  refine ⟨⟨k.ex, k.tb, by simpa using k.len, fun j d h => ?_, fun j par ob' h => ?_, fun a b q x1 y1 x2 y2 hab h1 h2 h3 h4 => ?_⟩, ⟨s.keep, fun a ⟨j, par, ob', h1, h2⟩ => ?_, s.dom, fun j ob' h => ?_, s.tbl⟩⟩
  · by_cases q : j = i
    · subst q; rw [List.getElem?_set_self hi] at h; cases h
    · rw [(nots j q).1] at h; rw [(nots j q).2]; exact k.im j d h
  · by_cases q : j = i
    · subst q
      rw [List.getElem?_set_self hi] at h; cases h
      exact ⟨p, o, List.getElem?_set_self hiσ, hg, hh, ho⟩
    · rw [(nots j q).1] at h; rw [(nots j q).2]; exact k.ow j par ob' h
  · by_cases ha : a = i
    · subst ha
      have hb : b ≠ a := Ne.symm hab
      rw [List.getElem?_set_self hiσ] at h3; cases h3
      rw [(nots b hb).1] at h2; rw [(nots b hb).2] at h4
      exact no ⟨b, _, _, h2, h4⟩
    · rw [(nots a ha).1] at h1; rw [(nots a ha).2] at h3
      by_cases hb : b = i
      · subst hb
        rw [List.getElem?_set_self hiσ] at h4; cases h4
        exact no ⟨a, _, _, h1, h3⟩
      · rw [(nots b hb).1] at h2; rw [(nots b hb).2] at h4
        exact k.ds a b q _ _ _ _ hab h1 h2 h3 h4
  · by_cases q : j = i
    · subst q
      rw [List.getElem?_set_self hiσ] at h2; cases h2; exact hs
    · rw [(nots j q).1] at h1; rw [(nots j q).2] at h2; exact s.own a ⟨j, par, ob', h1, h2⟩
  · obtain ⟨⟨ob2, e⟩, e'⟩ := s.par j ob' h
    have q : j ≠ i := fun z => by subst z; exact not_par hp e
    rw [(nots j q).1, (nots j q).2]; exact ⟨⟨ob2, e⟩, e'⟩
/-- a slot is forgotten -/
theorem drop_slot (k : Ok T G H σ ρ) (s : Stp Gs Hs σ ρs G H σ ρ) {j : Nat} (hp : isPar ρ[j]? = false) : Ok T G H σ (ρ.set j .un) ∧ Stp Gs Hs σ ρs G H σ (ρ.set j .un) ∧ ∀ a, OwnAt σ (ρ.set j .un) a → OwnAt σ ρ a := by
  have sub : ∀ (i : Nat) sl, (ρ.set j .un)[i]? = some sl → sl ≠ .un → ρ[i]? = some sl ∧ i ≠ j := fun i sl h hn => by
    by_cases q : i = j
    · subst q
      by_cases hl : i < ρ.length
      · rw [List.getElem?_set_self hl] at h; cases h; exact absurd rfl hn
      · rw [List.getElem?_eq_none (by simpa using hl)] at h; cases h
    · rw [List.getElem?_set_ne (Ne.symm q)] at h; exact ⟨h, q⟩
  have so : ∀ a, OwnAt σ (ρ.set j .un) a → OwnAt σ ρ a := fun a ⟨i, par, ob, h1, h2⟩ => ⟨i, par, ob, (sub i _ h1 (fun z => by cases z)).1, h2⟩
  refine ⟨⟨k.ex, k.tb, by simpa using k.len, fun i d h => k.im i d (sub i _ h (fun z => by cases z)).1, fun i par ob h => k.ow i par ob (sub i _ h (fun z => by cases z)).1, fun a b p x1 y1 x2 y2 hab h1 h2 => k.ds a b p _ _ _ _ hab (sub a _ h1 (fun z => by cases z)).1 (sub b _ h2 (fun z => by cases z)).1⟩,
    ⟨s.keep, fun a h => s.own a (so a h), s.dom, fun i ob h => ?_, s.tbl⟩, so⟩
  obtain ⟨⟨ob', e⟩, e'⟩ := s.par i ob h
  have q : i ≠ j := fun z => by subst z; exact not_par hp e
  exact ⟨⟨ob', by rw [List.getElem?_set_ne (Ne.symm q)]; exact e⟩, e'⟩
theorem putS_ok (k : Ok T G H σ ρ) (s : Stp Gs Hs σ ρs G H σ ρ) (h : RvOk T Hs G H σ ρ v r) {i : Nat} {ρ2 : En} (e : putS i r ρ = some ρ2) :
    ∃ G2, Ok T G2 H (σ.set i (some v)) ρ2 ∧ Stp Gs Hs σ ρs G2 H (σ.set i (some v)) ρ2 := by
  unfold putS at e
  split at e
  · cases e
  · rename_i hc
    have hp : isPar ρ[i]? = false := by
      cases q : isPar ρ[i]? with
      | false => rfl
      | true => exact absurd (.inl q) hc
    have hi : i < ρ.length := by
      apply Nat.lt_of_not_le
      exact fun q => hc (.inr q)
    cases r with
    | im d =>
      cases e
      exact ⟨G, set_im k s hi hp (.inr ⟨d, rfl, h⟩)⟩
    | nw ob =>
      cases e
      obtain ⟨p, o, rfl, e1, e2, e3, e4, e5⟩ := h
      exact ⟨G, set_ow k s hi hp (.inr e1) e2 e3 e4 e5⟩
    | al j =>
      have h : σ[j]? = some (some v) := h
      simp only at e
      split at e
      · rename_i hj
        cases e
        subst hj
        have hs : σ.set j (some v) = σ := by
          apply List.ext_getElem?
          intro n
          by_cases q : n = j
          · subst q
            rw [List.getElem?_set_self (List.getElem?_eq_some_iff.mp h).1]; exact h.symm
          · rw [List.getElem?_set_ne (Ne.symm q)]
        rw [hs]; exact ⟨G, k, s⟩
      · rename_i hj
        split at e
        · rename_i d hd
          cases e
          obtain ⟨v', e1, e2⟩ := k.im j d hd
          rw [h] at e1; cases e1
          exact ⟨G, set_im k s hi hp (.inr ⟨d, rfl, e2⟩)⟩
        · rename_i ob hd
          cases e
          obtain ⟨p, o, e1, e2, e3, e4⟩ := k.ow j _ _ hd
          rw [h] at e1; cases e1
          have hpj : isPar ρ[j]? = false := by rw [hd]; rfl
          obtain ⟨k', s', so⟩ := drop_slot k s hpj
          have ho : OwnAt σ ρ p := ⟨j, _, _, hd, h⟩
          have no : ¬ OwnAt σ (ρ.set j .un) p := fun ⟨n, par, ob', h1, h2⟩ => by
            by_cases q : n = j
            · subst q
              rw [List.getElem?_set_self (List.getElem?_eq_some_iff.mp hd).1] at h1; cases h1
            · rw [List.getElem?_set_ne (Ne.symm q)] at h1
              exact k.ds n j p _ _ _ _ q h1 hd h2 h
          refine ⟨G, set_ow k' s' (by simpa using hi) ?_ (s.own p ho) e2 e3 e4 no⟩
          rw [List.getElem?_set_ne (fun z => hj z)]; exact hp
        · cases e
end
def sSet (i : Nat) (e : M Rv) : MS := fun ρ => sbn (e ρ) fun r ρ1 => match putS i r ρ1 with
  | some ρ2 => some (.nx ρ2)
  | none => none
/-- .. frozen -/
def sSetZ (i : Nat) (e : M Rv) : MS := fun ρ => sbn (e ρ) fun r ρ1 => match fz1 r ρ1 with
  | some (d, ρ2) => match putS i (.im d) ρ2 with
    | some ρ3 => some (.nx ρ3)
    | none => none
  | none => none
section
variable {C : Cf} {pos : Pos} {e : Expr} {m : M Rv}
theorem xs_set (i : Nat) {x : Str} {p' : Pos} (h : XE C e m) (hi : C.N[i]? = some x := by rfl) (hx : Loc C.sc x := by first | exact .inl rfl | exact .inr rfl) (hs : ∀ env, swapsWith e (some (.Name x p')) pos.line env = pure false := by intro _; rfl)
    (hf : C.fn x = true ∨ C.sc.names.lookup x = some .local := by first | exact .inl rfl | exact .inr rfl) : XS C (.Assign [.Name x p'] e pos) (sSet i m) := by
  obtain ⟨t, p, q⟩ := h
  refine ⟨fun W => tAsg (t W) (gName i), fun X W c => ps_set (by rw [c.n]; exact c.nd) (by rw [c.n]; exact hi) (by rw [c.s]; exact hx) (p X W c.toCxOk) (hs _) (by rw [c.hf, c.s]; exact hf), fun W G H σ ρ E k h => q W G H σ ρ _ k (tels_sbn h fun v r ρ1 G1 H1 k1 s1 r1 h => ?_)⟩
  cases e : putS i r ρ1 with
  | none => simp only [e] at h; exact h.elim
  | some ρ2 =>
    simp only [e] at h
    obtain ⟨G2, k2, s2⟩ := putS_ok k1 s1 r1 e
    exact h _ G2 H1 k2 s2
theorem xs_setZ (i : Nat) {x : Str} {p' : Pos} (h : XE C e m) (hi : C.N[i]? = some x := by rfl) (hx : Loc C.sc x := by first | exact .inl rfl | exact .inr rfl) (hs : ∀ env, swapsWith e (some (.Name x p')) pos.line env = pure false := by intro _; rfl)
    (hf : C.fn x = true ∨ C.sc.names.lookup x = some .local := by first | exact .inl rfl | exact .inr rfl) : XS C (.Assign [.Name x p'] e pos) (sSetZ i m) := by
  obtain ⟨t, p, q⟩ := h
  refine ⟨fun W => tAsg (t W) (gName i), fun X W c => ps_set (by rw [c.n]; exact c.nd) (by rw [c.n]; exact hi) (by rw [c.s]; exact hx) (p X W c.toCxOk) (hs _) (by rw [c.hf, c.s]; exact hf), fun W G H σ ρ E k h => q W G H σ ρ _ k (tels_sbn h fun v r ρ1 G1 H1 k1 s1 r1 h => ?_)⟩
  cases e : fz1 r ρ1 with
  | none => simp only [e] at h; exact h.elim
  | some y =>
    obtain ⟨d, ρ2⟩ := y
    simp only [e] at h
    obtain ⟨G2, F, r2, _⟩ := fz1_ok k1 s1 r1 e
    cases e2 : putS i (.im d) ρ2 with
    | none => simp only [e2] at h; exact h.elim
    | some ρ3 =>
      simp only [e2] at h
      have r2 : RvOk C.T H G2 H1 σ ρ2 v (.im d) := r2
      obtain ⟨G3, k3, s3⟩ := putS_ok F.ok F.st r2 e2
      exact h _ G3 H1 k3 s3
end
end L2.DL
namespace L2.DL
open PySem PySem.Spec PyProof.Rows

/-! ### targets -/
inductive Tg where
  | nm (i : Nat)
  | tp (l : List Tg)
mutual
def bindT : Tg → D → En → Option En
  | .nm i, d, ρ => putS i (.im d) ρ
  | .tp l, .tup ds, ρ => bindTs l ds ρ
  | .tp _, _, _ => none
def bindTs : List Tg → List D → En → Option En
  | [], [], ρ => some ρ
  | t :: ts, d :: ds, ρ => match bindT t d ρ with
    | some ρ1 => bindTs ts ds ρ1
    | none => none
  | _, _, _ => none
end
mutual
def tgIx : Tg → List Nat
  | .nm i => [i]
  | .tp l => tgIxs l
def tgIxs : List Tg → List Nat
  | [] => []
  | t :: ts => tgIx t ++ tgIxs ts
end
/-- only these slots have changed -/
def Outs (l : List Nat) (σ σ' : L2.St) : Prop := σ'.length = σ.length ∧ ∀ j, j ∉ l → σ'[j]? = σ[j]?
def XG (C : Cf) (e : Expr) (tg : Tg) : Prop := ∃ g : TG, (∀ X W, CxOk C X W → PG X e g) ∧
  ∀ Gs Hs ρs σs G H σ ρ v d ρ' Q, Ok C.T G H σ ρ → Stp Gs Hs σs ρs G H σ ρ → Rp C.T G v d → bindT tg d ρ = some ρ' → (∀ σ', Ok C.T G H σ' ρ' → Stp Gs Hs σs ρs G H σ' ρ' → Outs (tgIx tg) σ σ' → Q σ' H) → g v σ H Q
def XGs (C : Cf) (es : List Expr) (l : List Tg) : Prop := es.length = l.length ∧ ∃ g : TGs, (∀ X W, CxOk C X W → PGs X es g) ∧
  ∀ Gs Hs ρs σs G H σ ρ vs ds ρ' Q, Ok C.T G H σ ρ → Stp Gs Hs σs ρs G H σ ρ → RpL C.T G vs ds → bindTs l ds ρ = some ρ' → (∀ σ', Ok C.T G H σ' ρ' → Stp Gs Hs σs ρs G H σ' ρ' → Outs (tgIxs l) σ σ' → Q σ' H) → g vs σ H Q
theorem putS_im_ok {T : Tb} {Gs Hs G H : Hp} {σs σ : L2.St} {ρs ρ ρ2 : En} {v : V} {d : D} {i : Nat} (k : Ok T G H σ ρ) (s : Stp Gs Hs σs ρs G H σ ρ) (r : Rp T G v d) (e : putS i (.im d) ρ = some ρ2) :
    Ok T G H (σ.set i (some v)) ρ2 ∧ Stp Gs Hs σs ρs G H (σ.set i (some v)) ρ2 := by
  unfold putS at e
  split at e
  · cases e
  · rename_i hc
    have hp : isPar ρ[i]? = false := by
      cases q : isPar ρ[i]? with
      | false => rfl
      | true => exact absurd (.inl q) hc
    have hi : i < ρ.length := by
      apply Nat.lt_of_not_le
      exact fun q => hc (.inr q)
    cases e
    obtain ⟨a, b⟩ := set_im (v := v) (sl := .im d) k Stp.refl hi hp (.inr ⟨d, rfl, r⟩)
    exact ⟨a, s.trans b⟩
section
variable {C : Cf}
theorem xg_nm (i : Nat) {x : Str} {pos : Pos} (hi : C.N[i]? = some x := by rfl) (hx : Loc C.sc x := by first | exact .inl rfl | exact .inr rfl)
    (hf : C.fn x = true ∨ C.sc.names.lookup x = some .local := by first | exact .inr rfl | exact .inl rfl) : XG C (.Name x pos) (.nm i) := by
  refine ⟨gName i, fun X W c => pg_name (by rw [c.n]; exact c.nd) (by rw [c.n]; exact hi) (by rw [c.s]; exact hx) (by rw [c.hf, c.s]; exact hf), fun Gs Hs ρs σs G H σ ρ v d ρ' Q k s r e h => ?_⟩
  obtain ⟨k2, s2⟩ := putS_im_ok k s r e
  exact h _ k2 s2 ⟨by simp, fun j hj => List.getElem?_set_ne (fun z => hj (by simp [tgIx, z]))⟩
theorem xgs_nil : XGs C [] [] := by
  refine ⟨rfl, gNil, fun X W c => pgs_nil, fun Gs Hs ρs σs G H σ ρ vs ds ρ' Q k s r e h => ?_⟩
  cases r with
  | nil =>
    simp only [bindTs, Option.some.injEq] at e
    subst e
    exact ⟨rfl, h σ k s ⟨rfl, fun _ _ => rfl⟩⟩
  | cons a b => simp [bindTs] at e
theorem xgs_cons {e : Expr} {es : List Expr} {t : Tg} {ts : List Tg} (h1 : XG C e t) (h2 : XGs C es ts) (hs : ∀ env, (assignEach (e :: es) env).map (·.2) = assign e env :: (assignEach es env).map (·.2) := by intro _; rfl) : XGs C (e :: es) (t :: ts) := by
  obtain ⟨g, p, q⟩ := h1
  obtain ⟨hl, g2, p2, q2⟩ := h2
  refine ⟨by simp [hl], gCons g g2, fun X W c => pgs_cons (p X W c) (p2 X W c) (hs _), fun Gs Hs ρs σs G H σ ρ vs ds ρ' Q k s r e h => ?_⟩
  cases r with
  | nil => simp [bindTs] at e
  | cons a b =>
    simp only [bindTs] at e
    split at e
    · rename_i ρ1 e1
      refine ⟨_, _, rfl, q Gs Hs ρs σs G H σ ρ _ _ ρ1 _ k s a e1 fun σ1 k1 s1 o1 => q2 Gs Hs ρs σs G H σ1 ρ1 _ _ ρ' _ k1 s1 b e fun σ2 k2 s2 o2 => h σ2 k2 s2 ⟨o2.1.trans o1.1, fun j hj => ?_⟩⟩
      simp only [tgIxs, List.mem_append, not_or] at hj
      rw [o2.2 j hj.2, o1.2 j hj.1]
    · cases e
theorem xg_tp {es : List Expr} {n : Nat} {l : List Tg} {pos : Pos} (h : XGs C es l) (hn : ∀ env, (assignEach es env).length = es.length := by intro _; rfl) (hst : ∀ env, (assignEach es env).findIdx? (·.1) = none := by intro _; rfl) : XG C (.Tuple es n pos) (.tp l) := by
  obtain ⟨hl, g, p, q⟩ := h
  refine ⟨gTup C.T.K es.length g, fun X W c => by rw [← cx_K c]; exact pg_tup c.calm (p X W c) (hn _) (hst _), fun Gs Hs ρs σs G H σ ρ v d ρ' Q k s r e h => ?_⟩
  cases d <;> simp only [bindT] at e <;> try cases e
  rename_i ds
  cases r with
  | tup h1 r1 =>
    refine ⟨_, _, rfl, k.ex.sqT h1, ?_, q Gs Hs ρs σs G H σ ρ _ _ ρ' _ k s r1 e h⟩
    rw [r1.length, hl]
    clear q p h k s r1 h1 hn hst
    have : ∀ (l : List Tg) (ds : List D) (ρ : En), bindTs l ds ρ = some ρ' → ds.length = l.length := by
      intro l
      induction l with
      | nil => intro ds ρ e; cases ds with
        | nil => rfl
        | cons a b => simp [bindTs] at e
      | cons t ts ih => intro ds ρ e; cases ds with
        | nil => simp [bindTs] at e
        | cons a b =>
          simp only [bindTs] at e
          split at e
          · simp [ih _ _ e]
          · cases e
    exact this l ds ρ e
end
def sUnp (tg : Tg) (e : M Rv) : MS := fun ρ => sbn (e ρ) fun r ρ1 => match fz1 r ρ1 with
  | some (d, ρ2) => match bindT tg d ρ2 with
    | some ρ3 => some (.nx ρ3)
    | none => none
  | none => none
section
variable {C : Cf} {pos : Pos} {e : Expr} {m : M Rv}
/-- target = e, by data -/
theorem xs_unp {t : Expr} {tg : Tg} (hg : XG C t tg) (h : XE C e m) (hs : ∀ env, swapsWithSole [t] e pos.line env = pure false := by intro _; rfl) (hw : ∀ env, swappedStores [t] e env = pure none := by intro _; rfl)
    (h1 : ∀ env, (assignEach [t] env).map (·.2) = [assign t env] := by intro _; rfl) : XS C (.Assign [t] e pos) (sUnp tg m) := by
  obtain ⟨u, p, q⟩ := h
  obtain ⟨g, pg, qg⟩ := hg
  refine ⟨fun W => tAsg (u W) g, fun X W c => ps_asg (p X W c.toCxOk) (pg X W c.toCxOk) (hs _) (hw _) (h1 _), fun W G H σ ρ E k h => q W G H σ ρ _ k (tels_sbn h fun v r ρ1 G1 H1 k1 s1 r1 h => ?_)⟩
  cases e : fz1 r ρ1 with
  | none => simp only [e] at h; exact h.elim
  | some y =>
    obtain ⟨d, ρ2⟩ := y
    simp only [e] at h
    obtain ⟨G2, F, r2, _⟩ := fz1_ok k1 s1 r1 e
    cases e2 : bindT tg d ρ2 with
    | none => simp only [e2] at h; exact h.elim
    | some ρ3 =>
      simp only [e2] at h
      exact qg G H ρ σ G2 H1 σ ρ2 v d ρ3 _ F.ok F.st r2 e2 fun σ' k' s' _ => h σ' G2 H1 k' s'
end

/-! ### what is walked -/
def ItOk (T : Tb) (J : It) (G0 : Hp) (ds : List D) : Prop := ∀ (i : Nat) (G H : Hp), Ext G0 G → Ext G H →
  (∀ d, ds[i]? = some d → J.go i H ∧ ∀ x H', J.yld i H x H' → Ext H H' ∧ Rp T (Grow G H H') x d) ∧ (i = ds.length → J.stop i H)
def TelI (T : Tb) (G H : Hp) (σ : L2.St) (ρ : En) (W : WX) (R : It → Hp → Prop) : Option (Res (List D)) → Prop
  | none => False
  | some (.ok ds ρ') => ∀ (J : It) (G' H' : Hp), Ok T G' H' σ ρ' → Stp G H σ ρ G' H' σ ρ' → ItOk T J G' ds → R J H'
  | some (.ex e ρ') => ∀ (cls : Value) (d : Option Addr) (G' H' : Hp), Ok T G' H' σ ρ' → Stp G H σ ρ G' H' σ ρ' → ExOk T G' H' e cls d → W cls d σ H'
def XI (C : Cf) (tg e : Expr) (m : M (List D)) : Prop := ∃ t : WX → TI, (∀ X W, CxOk C X W → PI X tg e (t W)) ∧
  ∀ W G H σ ρ R, Ok C.T G H σ ρ → TelI C.T G H σ ρ W R (m ρ) → t W σ H R
theorem teli_bnd {T : Tb} {G H : Hp} {σ : L2.St} {ρ : En} {W : WX} {R : It → Hp → Prop} {α β : Type} {RO : Hp → Hp → Hp → L2.St → En → β → α → Prop} {Q : β → Hp → Prop} {x : Option (Res α)} {k : α → M (List D)} (h : TelI T G H σ ρ W R (bnd x k))
    (hk : ∀ (b : β) (a : α) (ρ2 : En) (G2 H2 : Hp), Ok T G2 H2 σ ρ2 → Stp G H σ ρ G2 H2 σ ρ2 → RO H G2 H2 σ ρ2 b a → TelI T G H σ ρ W R (k a ρ2) → Q b H2) : Tel T RO G H σ ρ W Q x := by
  cases x with
  | none => exact h
  | some y =>
    cases y with
    | ok a ρ' => exact fun b G' H' o s r => hk b a ρ' G' H' o s r h
    | ex e ρ' => exact fun cls d G' H' k s r => h cls d G' H' k s r
def signs (z : Str) : List D := z.cps.toList.map fun c => .str ⟨#[c]⟩
/-- the items of data -/
def itemsD : D → Option (List D)
  | .lst ds => some ds
  | .tup ds => some ds
  | .str z => some (signs z)
  | _ => none
def iAny (m : M Rv) : M (List D) := fun ρ => bnd (m ρ) fun r ρ1 => match fz1 r ρ1 with
  | some (d, ρ2) => match itemsD d with
    | some ds => some (.ok ds ρ2)
    | none => none
  | none => none
section
variable {T : Tb} {G : Hp} {ds : List D} {vs : List V} {a : Addr}
theorem itok_list (h : G a = some (.lst vs)) (r : RpL T G vs ds) : ItOk T (Itl T.K a) G ds := fun i G1 H1 x1 x2 => by
  have q : SqL T.K H1 a vs := SqL.of (x2 _ _ (x1 _ _ h))
  refine ⟨fun d hd => ?_, fun hi => ⟨vs, q, by rw [r.length, hi]; exact Nat.le_refl _⟩⟩
  obtain ⟨v, e, rv⟩ := r.getD hd
  refine ⟨⟨vs, v, q, e⟩, fun x H' y => ?_⟩
  obtain ⟨rfl, y⟩ := y
  have := y vs q
  rw [e] at this; cases this
  exact ⟨Ext.rfl', (rv.mono x1).mono (grow_ext x2)⟩
theorem itok_tup (h : SqT T.K G a vs) (r : RpL T G vs ds) : ItOk T (Itt T.K a) G ds := fun i G1 H1 x1 x2 => by
  have q : SqT T.K H1 a vs := (Ext.trans x1 x2).sqT h
  refine ⟨fun d hd => ?_, fun hi => ⟨vs, q, by rw [r.length, hi]; exact Nat.le_refl _⟩⟩
  obtain ⟨v, e, rv⟩ := r.getD hd
  refine ⟨⟨vs, v, q, e⟩, fun x H' y => ?_⟩
  obtain ⟨rfl, y⟩ := y
  have := y vs q
  rw [e] at this; cases this
  exact ⟨Ext.rfl', (rv.mono x1).mono (grow_ext x2)⟩
theorem itok_str {z : Str} : ItOk T (Its z) G (signs z) := fun i G1 H1 x1 x2 => by
  refine ⟨fun d hd => ?_, fun hi => ?_⟩
  · unfold signs at hd
    rw [List.getElem?_map] at hd
    cases e : z.cps.toList[i]? with
    | none => rw [e] at hd; cases hd
    | some c =>
      rw [e] at hd; cases hd
      have e' : z.cps[i]? = some c := by simpa using e
      refine ⟨(Array.getElem?_eq_some_iff.mp e').1, fun x H' y => ?_⟩
      obtain ⟨rfl, c', e2, rfl⟩ := y
      rw [e'] at e2; cases e2
      exact ⟨Ext.rfl', .str _⟩
  · show z.cps.size ≤ i
    rw [hi]; simp [signs]
theorem itok_ite (h : G a = some (.lst vs)) (r : RpL T G vs ds) : ItOk T (Ite T.K a) G (ds.mapIdx fun i d => .tup [.int i, d]) := fun i G1 H1 x1 x2 => by
  have q : SqL T.K H1 a vs := SqL.of (x2 _ _ (x1 _ _ h))
  refine ⟨fun d hd => ?_, fun hi => ⟨vs, q, by rw [r.length, hi]; simp⟩⟩
  rw [List.getElem?_mapIdx] at hd
  cases e0 : ds[i]? with
  | none => rw [e0] at hd; cases hd
  | some d0 =>
    rw [e0] at hd; cases hd
    obtain ⟨v, e, rv⟩ := r.getD e0
    refine ⟨⟨vs, v, q, e⟩, fun x H' y => ?_⟩
    obtain ⟨p, w, rfl, hp, rfl, y⟩ := y
    have := y vs q
    rw [e] at this; cases this
    exact ⟨Ext.new hp, .tup (SqT.of (by rw [grow_new hp, upd_same])) (.cons (.int _) (.cons ((rv.mono x1).mono (grow_ext x2)) .nil))⟩
theorem itok_itz {b : Addr} {ws : List V} {es : List D} (h : G a = some (.lst vs)) (r : RpL T G vs ds) (h' : G b = some (.lst ws)) (r' : RpL T G ws es) : ItOk T (Itz T.K a b) G ((ds.zip es).map fun p => .tup [p.1, p.2]) := fun i G1 H1 x1 x2 => by
  have q : SqL T.K H1 a vs := SqL.of (x2 _ _ (x1 _ _ h))
  have q' : SqL T.K H1 b ws := SqL.of (x2 _ _ (x1 _ _ h'))
  refine ⟨fun d hd => ?_, fun hi => ⟨vs, ws, q, q', ?_⟩⟩
  · rw [List.getElem?_map] at hd
    cases e0 : (ds.zip es)[i]? with
    | none => rw [e0] at hd; cases hd
    | some z =>
      rw [e0] at hd; cases hd
      obtain ⟨z1, z2⟩ := List.getElem?_zip_eq_some.mp e0
      obtain ⟨v, e, rv⟩ := r.getD z1
      obtain ⟨w, e', rw'⟩ := r'.getD z2
      refine ⟨⟨vs, ws, v, w, q, q', e, e'⟩, fun x H' y => ?_⟩
      obtain ⟨p, v', w', rfl, hp, rfl, y1, y2⟩ := y
      have e1 := y1 vs q
      have e2 := y2 ws q'
      rw [e] at e1; cases e1
      rw [e'] at e2; cases e2
      exact ⟨Ext.new hp, .tup (SqT.of (by rw [grow_new hp, upd_same])) (.cons ((rv.mono x1).mono (grow_ext x2)) (.cons ((rw'.mono x1).mono (grow_ext x2)) .nil))⟩
  · rw [r.length, r'.length, hi, List.length_map, List.length_zip]; omega
theorem itok_itzT {b : Addr} {ws : List V} {es : List D} (h : SqT T.K G a vs) (r : RpL T G vs ds) (h' : SqT T.K G b ws) (r' : RpL T G ws es) : ItOk T (RZ.ItzT T.K a b) G ((ds.zip es).map fun p => .tup [p.1, p.2]) := fun i G1 H1 x1 x2 => by
  have q : SqT T.K H1 a vs := (Ext.trans x1 x2).sqT h
  have q' : SqT T.K H1 b ws := (Ext.trans x1 x2).sqT h'
  refine ⟨fun d hd => ?_, fun hi => ⟨vs, ws, q, q', ?_⟩⟩
  · rw [List.getElem?_map] at hd
    cases e0 : (ds.zip es)[i]? with
    | none => rw [e0] at hd; cases hd
    | some z =>
      rw [e0] at hd; cases hd
      obtain ⟨z1, z2⟩ := List.getElem?_zip_eq_some.mp e0
      obtain ⟨v, e, rv⟩ := r.getD z1
      obtain ⟨w, e', rw'⟩ := r'.getD z2
      refine ⟨⟨vs, ws, v, w, q, q', e, e'⟩, fun x H' y => ?_⟩
      obtain ⟨p, v', w', rfl, hp, rfl, y1, y2⟩ := y
      have e1 := y1 vs q
      have e2 := y2 ws q'
      rw [e] at e1; cases e1
      rw [e'] at e2; cases e2
      exact ⟨Ext.new hp, .tup (SqT.of (by rw [grow_new hp, upd_same])) (.cons ((rv.mono x1).mono (grow_ext x2)) (.cons ((rw'.mono x1).mono (grow_ext x2)) .nil))⟩
  · rw [r.length, r'.length, hi, List.length_map, List.length_zip]; omega
def rngD (lo hi : Int) : List D := (List.range (hi - lo).toNat).map fun (i : Nat) => D.int (lo + (i : Int))
theorem itok_rng {lo hi : Int} : ItOk T (Itr lo (hi - lo).toNat) G (rngD lo hi) := fun i G1 H1 x1 x2 => by
  refine ⟨fun d hd => ?_, fun hi => ?_⟩
  · unfold rngD at hd
    rw [List.getElem?_map] at hd
    by_cases hlt : i < (hi - lo).toNat
    · rw [List.getElem?_range hlt] at hd; cases hd
      refine ⟨hlt, fun x H' y => ?_⟩
      obtain ⟨rfl, rfl⟩ := y
      exact ⟨Ext.rfl', .int _⟩
    · rw [List.getElem?_eq_none (by simpa using hlt)] at hd; cases hd
  · show (_ : Nat) ≤ i
    rw [hi]; simp [rngD]
end
section
variable {C : Cf} {pos : Pos} {tg e e2 : Expr} {m m2 : M Rv}
theorem pi_or {X : Cx} {w1 w2 : TI} (h1 : PI X tg e w1) (h2 : PI X tg e w2) : PI X tg e (fun σ H R => w1 σ H R ∨ w2 σ H R) :=
  ⟨fun pins s σ H R I h => h.elim (h1.run pins s σ H R I) (h2.run pins s σ H R I)⟩
theorem teli_ex {T : Tb} {G H : Hp} {σ : L2.St} {ρ : En} {W : WX} {R : It → Hp → Prop} {α β : Type} {RO : Hp → Hp → Hp → L2.St → En → β → α → Prop} {Q : β → Hp → Prop} {ee : Exc} {ρ' : En} (h : TelI T G H σ ρ W R (some (.ex ee ρ'))) : Tel T RO G H σ ρ W Q (some (.ex ee ρ')) :=
  fun cls d G' H' k s r => h cls d G' H' k s r
theorem xi_any (h : XE C e m) : XI C tg e (iAny m) := by
  obtain ⟨t, p, q⟩ := h
  refine ⟨fun W σ H R => iList C.T.K (t W) σ H R ∨ (iTup C.T.K (t W) σ H R ∨ iStr (t W) σ H R), fun X W c => pi_or (by rw [← cx_K c]; exact pi_list (p X W c)) (pi_or (by rw [← cx_K c]; exact pi_tup (p X W c)) (pi_str (p X W c))), fun W G H σ ρ R k h => ?_⟩
  unfold iAny at h
  cases em : m ρ with
  | none => rw [em] at h; exact h.elim
  | some y =>
    cases y with
    | ex ee ρ' => rw [em] at h; exact .inl (q W G H σ ρ _ k (by rw [em]; exact teli_ex h))
    | ok r ρ1 =>
      rw [em] at h
      simp only [bnd_ok] at h
      cases e1 : fz1 r ρ1 with
      | none => simp only [e1] at h; exact h.elim
      | some y =>
        obtain ⟨d, ρ2⟩ := y
        simp only [e1] at h
        cases d <;> simp only [itemsD] at h <;> try exact h.elim
        · refine .inr (.inr (q W G H σ ρ _ k ?_))
          rw [em]
          intro v G1 H1 k1 s1 r1
          obtain ⟨G2, F, r2, _⟩ := fz1_ok k1 s1 r1 e1
          cases r2
          exact ⟨_, rfl, h _ G2 H1 F.ok F.st itok_str⟩
        · refine .inr (.inl (q W G H σ ρ _ k ?_))
          rw [em]
          intro v G1 H1 k1 s1 r1
          obtain ⟨G2, F, r2, _⟩ := fz1_ok k1 s1 r1 e1
          cases r2 with
          | tup h1 r3 => exact ⟨_, rfl, ⟨_, F.ok.ex.sqT h1⟩, h _ G2 H1 F.ok F.st (itok_tup h1 r3)⟩
        · refine .inl (q W G H σ ρ _ k ?_)
          rw [em]
          intro v G1 H1 k1 s1 r1
          obtain ⟨G2, F, r2, _⟩ := fz1_ok k1 s1 r1 e1
          cases r2 with
          | lst h1 r3 => exact ⟨_, rfl, ⟨_, SqL.of (F.ok.ex _ _ h1)⟩, h _ G2 H1 F.ok F.st (itok_list h1 r3)⟩
def smallR (i : Int) : Bool := decide (-1000000000000 ≤ i) && decide (i ≤ 1000000000000)
def iRg1 (a : M (List Rv)) : M (List D) := fun ρ => bnd (a ρ) fun rs ρ1 => match derefs ρ1 rs with
  | some [.int j] => if smallR j then some (.ok (rngD 0 j) ρ1) else none
  | _ => none
def iRg2 (a : M (List Rv)) : M (List D) := fun ρ => bnd (a ρ) fun rs ρ1 => match derefs ρ1 rs with
  | some [.int i, .int j] => if smallR i && smallR j then some (.ok (rngD i j) ρ1) else none
  | _ => none
theorem derefs_ok {T : Tb} {Hs G H : Hp} {σ : L2.St} {ρ : En} (k : Ok T G H σ ρ) : ∀ {vs : List V} {rs : List Rv} {ds : List D}, RvsOk T Hs G H σ ρ vs rs → derefs ρ rs = some ds → vs.length = ds.length ∧ ∀ (j : Nat) v d, vs[j]? = some v → ds[j]? = some d → Vw T G H v d
  | _, _, _, .nil, e => by cases e; exact ⟨rfl, fun j v d h _ => by simp at h⟩
  | _, _, _, .cons a n c, e => by
    simp only [derefs] at e
    split at e
    · rename_i d' ds' e4 e5
      cases e
      obtain ⟨z1, z2⟩ := derefs_ok k c e5
      refine ⟨by simp [z1], fun j v d hv hd => ?_⟩
      cases j with
      | zero => simp at hv hd; subst hv hd; exact vw_of k a e4
      | succ j => exact z2 j v d (by simpa using hv) (by simpa using hd)
    · cases e
theorem len1 {vs : List V} (h : vs.length = 1) : ∃ a, vs = [a] := List.length_eq_one_iff.mp h
theorem len2 {vs : List V} (h : vs.length = 2) : ∃ a b, vs = [a, b] := by
  match vs, h with
  | [a, b], _ => exact ⟨a, b, rfl⟩
theorem xi_rg1 {a : M (List Rv)} {p : Pos} (hm : C.T.mg "range" = none) (ha : XA C [e] a) (hg : C.sc.names.lookup ("range" : Str) = some .globalImplicit := by rfl) (hs : ∀ env, starEach [e] env = [(false, eval e env)] := by intro _; rfl) : XI C tg (.Call (.Name "range" p) [e] [] pos) (iRg1 a) := by
  obtain ⟨_, t, p', q⟩ := ha
  refine ⟨fun W => iRng1 (t W), fun X W c => pi_range1 (cx_gl c hg) (by rw [cx_mg c]; exact hm) (p' X W c) (hs _), fun W G H σ ρ R k h => q W G H σ ρ _ k (teli_bnd h fun vs rs ρ1 G1 H1 k1 s1 r1 h => ?_)⟩
  split at h
  · rename_i j ed
    split at h
    · rename_i hz
      obtain ⟨z1, z2⟩ := derefs_ok k1 r1 ed
      obtain ⟨v, rfl⟩ := len1 z1
      have := vw_int (z2 0 v _ rfl rfl); subst v
      simp only [smallR, Bool.and_eq_true, decide_eq_true_eq] at hz
      have e0 : j.toNat = (j - 0).toNat := by omega
      refine ⟨j, rfl, by omega, by omega, ?_⟩
      rw [e0]
      exact h _ G1 H1 k1 s1 itok_rng
    · exact h.elim
  · exact h.elim
theorem xi_rg2 {a : M (List Rv)} {p : Pos} (hm : C.T.mg "range" = none) (ha : XA C [e, e2] a) (hg : C.sc.names.lookup ("range" : Str) = some .globalImplicit := by rfl) (hs : ∀ env, starEach [e, e2] env = [(false, eval e env), (false, eval e2 env)] := by intro _; rfl) (hs2 : ∀ env, starEach [e2] env = [(false, eval e2 env)] := by intro _; rfl) : XI C tg (.Call (.Name "range" p) [e, e2] [] pos) (iRg2 a) := by
  obtain ⟨_, t, p', q⟩ := ha
  refine ⟨fun W => iRng2 (t W), fun X W c => pi_range2 (cx_gl c hg) (by rw [cx_mg c]; exact hm) (p' X W c) (hs _) (hs2 _), fun W G H σ ρ R k h => q W G H σ ρ _ k (teli_bnd h fun vs rs ρ1 G1 H1 k1 s1 r1 h => ?_)⟩
  split at h
  · rename_i i j ed
    split at h
    · rename_i hz
      obtain ⟨z1, z2⟩ := derefs_ok k1 r1 ed
      obtain ⟨v, w, rfl⟩ := len2 z1
      have := vw_int (z2 0 v _ rfl rfl); subst v
      have := vw_int (z2 1 w _ rfl rfl); subst w
      simp only [smallR, Bool.and_eq_true, decide_eq_true_eq] at hz
      exact ⟨i, j, rfl, by omega, h _ G1 H1 k1 s1 itok_rng⟩
    · exact h.elim
  · exact h.elim
/-- enumerate of a list -/
def iEn (a : M (List Rv)) : M (List D) := fun ρ => bnd (a ρ) fun rs ρ1 => match fzs rs ρ1 with
  | some ([.lst ds], ρ2) => some (.ok (ds.mapIdx fun i d => .tup [.int i, d]) ρ2)
  | _ => none
theorem rpl_one {T : Tb} {G : Hp} {vs : List V} {d : D} (r : RpL T G vs [d]) : ∃ v, vs = [v] ∧ Rp T G v d := by
  cases r with
  | cons a b => cases b; exact ⟨_, rfl, a⟩
theorem rpl_two {T : Tb} {G : Hp} {vs : List V} {d d' : D} (r : RpL T G vs [d, d']) : ∃ v w, vs = [v, w] ∧ Rp T G v d ∧ Rp T G w d' := by
  cases r with
  | cons a b =>
    obtain ⟨w, rfl, h⟩ := rpl_one b
    exact ⟨_, _, rfl, a, h⟩
theorem xi_en {a : M (List Rv)} {p tpos : Pos} {elts : List Expr} {kk : Nat} (hm : C.T.mg "enumerate" = none) (ha : XA C [e] a) (hg : C.sc.names.lookup ("enumerate" : Str) = some .globalImplicit := by rfl) (hs : ∀ env, starEach [e] env = [(false, eval e env)] := by intro _; rfl) :
    XI C (.Tuple elts kk tpos) (.Call (.Name "enumerate" p) [e] [] pos) (iEn a) := by
  obtain ⟨_, t, p', q⟩ := ha
  refine ⟨fun W => iEnum C.T.K (t W), fun X W c => by rw [← cx_K c]; exact pi_enum (cx_gl c hg) (by rw [cx_mg c]; exact hm) (p' X W c) (hs _), fun W G H σ ρ R k h => q W G H σ ρ _ k (teli_bnd h fun vs rs ρ1 G1 H1 k1 s1 r1 h => ?_)⟩
  split at h
  · rename_i ds ρ2 ed
    obtain ⟨G2, F, r2⟩ := fzs_ok k1 s1 r1 ed
    obtain ⟨v, rfl, r3⟩ := rpl_one r2
    cases r3 with
    | lst h1 r4 => exact ⟨_, _, rfl, SqL.of (F.ok.ex _ _ h1), h _ G2 H1 F.ok F.st (itok_ite h1 r4)⟩
  · exact h.elim
/-- zip of two lists, of two tuples -/
def iZp (a : M (List Rv)) : M (List D) := fun ρ => bnd (a ρ) fun rs ρ1 => match fzs rs ρ1 with
  | some ([.lst ds, .lst es], ρ2) => some (.ok ((ds.zip es).map fun p => .tup [p.1, p.2]) ρ2)
  | some ([.tup ds, .tup es], ρ2) => some (.ok ((ds.zip es).map fun p => .tup [p.1, p.2]) ρ2)
  | _ => none
theorem xi_zp {a : M (List Rv)} {p tpos : Pos} {elts : List Expr} {kk : Nat} (hm : C.T.mg "zip" = none) (ha : XA C [e, e2] a) (hg : C.sc.names.lookup ("zip" : Str) = some .globalImplicit := by rfl) (hs : ∀ env, starEach [e, e2] env = (false, eval e env) :: starEach [e2] env := by intro _; rfl)
    (hpl : ∀ env, (backTo pos (starEach [e2] env)).any (·.1) = false := by intro _; rfl) : XI C (.Tuple elts kk tpos) (.Call (.Name "zip" p) [e, e2] [] pos) (iZp a) := by
  obtain ⟨_, t, p', q⟩ := ha
  refine ⟨fun W => RZ.iZipA C.T.K (t W), fun X W c => by rw [← cx_K c]; exact RZ.pi_zipA (cx_gl c hg) (by rw [cx_mg c]; exact hm) (p' X W c) (hs _) (hpl _), fun W G H σ ρ R k h => q W G H σ ρ _ k (teli_bnd h fun vs rs ρ1 G1 H1 k1 s1 r1 h => ?_)⟩
  split at h
  · rename_i ds es ρ2 ed
    obtain ⟨G2, F, r2⟩ := fzs_ok k1 s1 r1 ed
    obtain ⟨v, w, rfl, r3, r4⟩ := rpl_two r2
    cases r3 with
    | lst h1 r5 =>
      cases r4 with
      | lst h2 r6 => exact ⟨_, _, _, _, rfl, .inl ⟨SqL.of (F.ok.ex _ _ h1), SqL.of (F.ok.ex _ _ h2), h _ G2 H1 F.ok F.st (itok_itz h1 r5 h2 r6)⟩⟩
  · rename_i ds es ρ2 ed
    obtain ⟨G2, F, r2⟩ := fzs_ok k1 s1 r1 ed
    obtain ⟨v, w, rfl, r3, r4⟩ := rpl_two r2
    cases r3 with
    | tup h1 r5 =>
      cases r4 with
      | tup h2 r6 => exact ⟨_, _, _, _, rfl, .inr ⟨F.ok.ex.sqT h1, F.ok.ex.sqT h2, h _ G2 H1 F.ok F.st (itok_itzT h1 r5 h2 r6)⟩⟩
  · exact h.elim
end
end L2.DL
namespace L2.DL
open PySem PySem.Spec PyProof.Rows

/-! ### loops -/
def forD (tg : Tg) (b : MS) : List D → MS
  | [], ρ => some (.nx ρ)
  | d :: ds, ρ => match bindT tg d ρ with
    | none => none
    | some ρ1 => match b ρ1 with
      | some (.nx ρ2) => forD tg b ds ρ2
      | some (.ct ρ2) => forD tg b ds ρ2
      | some (.bk ρ2) => some (.nx ρ2)
      | r => r
def sFor (tg : Tg) (mi : M (List D)) (b : MS) : MS := fun ρ => sbn (mi ρ) fun ds ρ1 => forD tg b ds ρ1
def whileD (c : M Bool) (b : MS) : Nat → MS
  | 0, _ => none
  | n + 1, ρ => sbn (c ρ) fun k ρ1 => if k = true then match b ρ1 with
      | some (.nx ρ2) => whileD c b n ρ2
      | some (.ct ρ2) => whileD c b n ρ2
      | some (.bk ρ2) => some (.nx ρ2)
      | r => r
    else some (.nx ρ1)
def FU : Nat := 1000000000000
def sWhile (c : M Bool) (b : MS) : MS := whileD c b FU
section
variable {C : Cf} {pos : Pos}
theorem tels_teli {T : Tb} {G H : Hp} {σ : L2.St} {ρ : En} {W : WX} {E : Ends} {R : It → Hp → Prop} {x : Option (Res (List D))} {k : List D → MS} (h : TelS T G H σ ρ W E (sbn x k))
    (hk : ∀ ds ρ2 J G2 H2, Ok T G2 H2 σ ρ2 → Stp G H σ ρ G2 H2 σ ρ2 → ItOk T J G2 ds → TelS T G H σ ρ W E (k ds ρ2) → R J H2) : TelI T G H σ ρ W R x := by
  cases x with
  | none => exact h
  | some y =>
    cases y with
    | ok a ρ' => exact fun J G' H' o s r => hk a ρ' J G' H' o s r h
    | ex e ρ' => exact fun cls d G' H' k s r => h cls d σ G' H' k s r
theorem xs_for {t iter : Expr} {tg : Tg} {mi : M (List D)} {body : List Stmt} {b : MS} (hi : XI C t iter mi) (hg : XG C t tg) (hb : XSs C body b) (hs : ∀ env x, foldedSetIterable iter env x = pure x := by intro _ _; rfl) : XS C (.For t iter body [] pos) (sFor tg mi b) := by
  obtain ⟨wi, pi, qi⟩ := hi
  obtain ⟨g, pg, qg⟩ := hg
  obtain ⟨tb, pb, qb⟩ := hb
  refine ⟨fun W => tFor (wi W) g (tb W), fun X W c => ps_for c.po c.calm (pi X W c.toCxOk) (pg X W c.toCxOk) (pb X W c) (hs _), fun W G H σ ρ E k h => qi W G H σ ρ _ k (tels_teli h fun ds ρ1 J G1 H1 k1 s1 it h => ?_)⟩
  let Wv : Nat → Nat → L2.St → Hp → Prop := fun i m σ' H' => m = ds.length - i ∧ i ≤ ds.length ∧ ∃ G' ρ', Ok C.T G' H' σ' ρ' ∧ Ext G1 G' ∧ TelS C.T G' H' σ' ρ' W E (forD tg b (ds.drop i) ρ')
  refine ⟨Wv, ⟨ds.length, by simp, Nat.zero_le _, G1, ρ1, k1, Ext.rfl', by rw [List.drop_zero]; exact h.later s1⟩, ?_⟩
  rintro i m σ' H' ⟨rfl, hil, G', ρ', k', x', h'⟩
  by_cases hlt : i < ds.length
  · have e0 : ds[i]? = some ds[i] := List.getElem?_eq_getElem hlt
    rw [List.drop_eq_getElem_cons hlt] at h'
    simp only [forD] at h'
    obtain ⟨go, yl⟩ := (it i G' H' x' k'.ex).1 _ e0
    refine .inr ⟨go, Wv (i + 1) (ds.length - (i + 1)), fun σ3 H3 w => ⟨_, by omega, w⟩, fun x H2 y => ?_⟩
    obtain ⟨xe, rx⟩ := yl x H2 y
    have k2 := k'.grow xe
    cases e1 : bindT tg ds[i] ρ' with
    | none => rw [e1] at h'; exact h'.elim
    | some ρ2 =>
      rw [e1] at h'
      dsimp only at h'
      refine qg G' H' ρ' σ' _ H2 σ' ρ' x ds[i] ρ2 _ k2 (Stp.grow xe) rx e1 fun σ3 k3 s3 _ => ?_
      refine qb W _ H2 σ3 ρ2 _ k3 ?_
      have h3 := h'.later s3
      have nx : ∀ ρ4, TelS C.T (Grow G' H' H2) H2 σ3 ρ2 W E (forD tg b (ds.drop (i + 1)) ρ4) → ∀ σ4 G4 H4, Ok C.T G4 H4 σ4 ρ4 → Stp (Grow G' H' H2) H2 σ3 ρ2 G4 H4 σ4 ρ4 → Wv (i + 1) (ds.length - (i + 1)) σ4 H4 :=
        fun ρ4 t σ4 G4 H4 k4 s4 => ⟨rfl, hlt, G4, ρ4, k4, x'.trans ((grow_ext k'.ex).trans (s4.ext k3)), t.later s4⟩
      cases e2 : b ρ2 with
      | none => rw [e2] at h3; exact h3
      | some y =>
        rw [e2] at h3
        cases y with
        | nx ρ4 => exact nx ρ4 h3
        | ct ρ4 => exact nx ρ4 h3
        | bk ρ4 => exact h3
        | rt d ρ4 => exact h3
        | ex e ρ4 => exact h3
  · have e : i = ds.length := by omega
    subst e
    rw [List.drop_length] at h'
    exact .inl ⟨(it _ G' H' x' k'.ex).2 rfl, h' σ' G' H' k' Stp.refl⟩
theorem xs_while {c : Expr} {mc : M Bool} {body : List Stmt} {b : MS} (hc : XT C c mc) (hb : XSs C body b) : XS C (.While c body [] pos) (sWhile mc b) := by
  obtain ⟨t, p, q⟩ := hc
  obtain ⟨tb, pb, qb⟩ := hb
  refine ⟨fun W => tWhile (t W) (tb W), fun X W c => ps_while c.po (p X W c.toCxOk) (pb X W c), fun W G H σ ρ E k h => ?_⟩
  refine ⟨fun m σ' H' => ∃ G' ρ', Ok C.T G' H' σ' ρ' ∧ TelS C.T G' H' σ' ρ' W E (whileD mc b m ρ'), ⟨FU, G, ρ, k, h⟩, ?_⟩
  rintro m σ' H' ⟨G', ρ', k', h'⟩
  cases m with
  | zero => exact h'.elim
  | succ n =>
    simp only [whileD] at h'
    refine q W G' H' σ' ρ' _ k' (tels_sbn h' fun x r ρ1 G1 H1 k1 s1 e1 h1 => ?_)
    obtain rfl : x = r := e1
    cases x with
    | false => exact h1 σ' G1 H1 k1 s1
    | true =>
      rw [if_pos rfl]
      rw [if_pos rfl] at h1
      refine ⟨fun σ3 H3 => ∃ G3 ρ3, Ok C.T G3 H3 σ3 ρ3 ∧ TelS C.T G3 H3 σ3 ρ3 W E (whileD mc b n ρ3), fun σ3 H3 w => ⟨n, Nat.lt_succ_self n, w⟩, ?_⟩
      refine qb W G1 H1 σ' ρ1 _ k1 ?_
      have h2 := h1.later s1
      cases e2 : b ρ1 with
      | none => rw [e2] at h2; exact h2
      | some y =>
        rw [e2] at h2
        cases y with
        | nx ρ4 => exact fun σ4 G4 H4 k4 s4 => ⟨G4, ρ4, k4, h2.later s4⟩
        | ct ρ4 => exact fun σ4 G4 H4 k4 s4 => ⟨G4, ρ4, k4, h2.later s4⟩
        | bk ρ4 => exact h2
        | rt d ρ4 => exact h2
        | ex e ρ4 => exact h2
end

/-! ### an own object is changed -/
theorem ObOk.ne {T : Tb} {H : Hp} {o : HO} {ob : Ob} (h : ObOk T H o ob) (φ : Heap → Prop) : o ≠ .ext φ := by
  rintro rfl; cases ob <;> exact h.elim
theorem tabs_upd {l : List (Addr × Str)} {H : Hp} {p : Addr} {o o' : HO} (t : LamX.Tabs l H) (h : H p = some o) (nt : ∀ ps, o ≠ .tbl ps) (ne : ∀ φ, o ≠ .ext φ) : LamX.Tabs l (upd H p o') := fun z hz => by
  obtain ⟨ps, h1, h2, h3⟩ := t z hz
  refine ⟨ps, ?_, h2, fun pos cv hc => ?_⟩
  · rw [upd_ne (fun w => by rw [w, h] at h1; cases h1; exact nt ps rfl)]; exact h1
  · obtain ⟨c, e1, e2⟩ := h3 pos cv hc
    refine ⟨c, e1, ?_⟩
    rw [upd_ne (fun w => by
      rw [w, h] at e2
      unfold LamX.CodeO at e2
      cases e2
      exact ne _ rfl)]
    exact e2
theorem own_upd {T : Tb} {Gs Hs G H : Hp} {σs σ : L2.St} {ρs ρ : En} (k : Ok T G H σ ρ) (s : Stp Gs Hs σs ρs G H σ ρ) {j : Nat} {par : Bool} {ob ob' : Ob} {p : Addr} {o o' : HO} (hj : ρ[j]? = some (.ow par ob)) (hp : σ[j]? = some (some (.ref p))) (hh : H p = some o) (ho : ObOk T G o ob) (ho' : ObOk T G o' ob') :
    Ok T G (upd H p o') σ (ρ.set j (.ow par ob')) ∧ Stp Gs Hs σs ρs G (upd H p o') σ (ρ.set j (.ow par ob')) := by
  have hlt : j < ρ.length := (List.getElem?_eq_some_iff.mp hj).1
  have hown : OwnAt σ ρ p := ⟨j, par, ob, hj, hp⟩
  have hg : G p = none := by
    obtain ⟨_, _, _, g, _⟩ := k.owned hown; exact g
  have nots : ∀ i, i ≠ j → (ρ.set j (.ow par ob'))[i]? = ρ[i]? := fun i h => List.getElem?_set_ne (Ne.symm h)
  have so : ∀ a, OwnAt σ (ρ.set j (.ow par ob')) a → OwnAt σ ρ a := fun a ⟨i, pr, x, h1, h2⟩ => by
    by_cases q : i = j
    · subst q; rw [hp] at h2; cases h2; exact hown
    · rw [nots i q] at h1; exact ⟨i, pr, x, h1, h2⟩
  have notp : ∀ a u, Hs a = some u → ¬ OwnAt σs ρs a → a ≠ p := fun a u h hn z => by
    subst z
    rcases s.own a hown with w | w
    · exact hn w
    · rw [h] at w; cases w
  refine ⟨⟨fun a u e => ?_, tabs_upd k.tb hh ho.nt ho.ne, by simpa using k.len, fun i d h => ?_, fun i pr x h => ?_, fun a b q x1 y1 x2 y2 hab h1 h2 h3 h4 => ?_⟩, ⟨fun a u h nt hn => ?_, fun a h => s.own a (so a h), fun a h => ?_, fun i x h => ?_, fun a ps h => ?_⟩⟩
  · rw [upd_ne (fun z => by rw [z, hg] at e; cases e)]; exact k.ex a u e
  · by_cases q : i = j
    · subst q; rw [List.getElem?_set_self hlt] at h; cases h
    · rw [nots i q] at h; exact k.im i d h
  · by_cases q : i = j
    · subst q; rw [List.getElem?_set_self hlt] at h; cases h
      exact ⟨p, o', hp, hg, upd_same, ho'⟩
    · rw [nots i q] at h
      obtain ⟨p', u, e1, e2, e3, e4⟩ := k.ow i pr x h
      exact ⟨p', u, e1, e2, by rw [upd_ne (fun z => k.ds i j p _ _ _ _ q h hj (by rw [← z]; exact e1) hp)]; exact e3, e4⟩
  · have f : ∀ (i : Nat) pr x, (ρ.set j (.ow par ob'))[i]? = some (.ow pr x) → ∃ pr' x', ρ[i]? = some (.ow pr' x') := fun i pr x h => by
      by_cases z : i = j
      · subst z; exact ⟨_, _, hj⟩
      · rw [nots i z] at h; exact ⟨_, _, h⟩
    obtain ⟨_, _, g1⟩ := f a _ _ h1
    obtain ⟨_, _, g2⟩ := f b _ _ h2
    exact k.ds a b q _ _ _ _ hab g1 g2 h3 h4
  · obtain ⟨q1, q2⟩ := s.keep a u h nt hn
    exact ⟨by rw [upd_ne (notp a u h hn)]; exact q1, q2⟩
  · refine s.dom a ?_
    by_cases q : a = p
    · subst q; rw [upd_same] at h; cases h
    · rw [upd_ne q] at h; exact h
  · obtain ⟨⟨x', e⟩, e'⟩ := s.par i x h
    by_cases q : i = j
    · subst q; rw [hj] at e; cases e
      exact ⟨⟨ob', List.getElem?_set_self hlt⟩, e'⟩
    · exact ⟨⟨x', by rw [nots i q]; exact e⟩, e'⟩
  · obtain ⟨⟨ps', e⟩, e'⟩ := s.tbl a ps h
    refine ⟨⟨ps', ?_⟩, e'⟩
    rw [upd_ne (fun z => by rw [z, hh] at e; cases e; exact ho.nt ps' rfl)]; exact e

/-! ### methods of an own list -/
/-- what a method makes of the items, and what it hands back -/
def LmD (T : Tb) (r : V → List V → Hp → VK → Prop) (f : List D → List D → Option (D × List D)) : Prop := ∀ (G H : Hp) (p : Addr) (vs xs : List V) (ds as : List D) (d : D) (ds' : List D) (Q : VK), Ext G H → G p = none → H p = some (.lst vs) → RpL T G vs ds → RpL T G xs as → f ds as = some (d, ds') →
  (∀ v vs', Rp T G v d → RpL T G vs' ds' → Q v (upd H p (.lst vs'))) → r (.ref p) xs H Q
def xLm (j : Nat) (f : List D → List D → Option (D × List D)) (a : M (List Rv)) : M Rv := fun ρ => match ρ[j]? with
  | some (.ow _ (.lst _)) => bnd (a ρ) fun rs ρ1 => bnd (fzM rs ρ1) fun as ρ2 => match ρ2[j]? with
    | some (.ow par (.lst ds)) => match f ds as with
      | some (d, ds') => some (.ok (.im d) (ρ2.set j (.ow par (.lst ds'))))
      | none => none
    | _ => none
  | _ => none
section
variable {C : Cf} {pos : Pos}
theorem lm_core {T : Tb} {r : V → List V → Hp → VK → Prop} {f : List D → List D → Option (D × List D)} (hf : LmD T r f) {j : Nat} {t : TA} {m : M (List Rv)} {W : WX} {G H : Hp} {σ : L2.St} {ρ : En} {Q : VK}
    (h1 : ∀ G H ρ Q, Ok T G H σ ρ → Tel T (RvsOk T) G H σ ρ W Q (m ρ) → t σ H Q) (k : Ok T G H σ ρ) (h : Tel T (RvOk T) G H σ ρ W Q (xLm j f m ρ)) : tBM T.K "list" r (tVar j) t σ H Q := by
  unfold xLm at h
  split at h
  · rename_i par0 ds0 hj
    obtain ⟨p, o, e1, e2, e3, e4⟩ := k.ow j _ _ hj
    obtain ⟨vs0, rfl, e5⟩ := e4.lst
    refine ⟨_, e1, .inl ⟨rfl, vs0, SqL.of e3⟩, h1 G H ρ _ k (tel_first h fun xs rs ρ1 G1 H1 k1 s1 r1 h => ?_)⟩
    simp only [fzM] at h
    cases e : fzs rs ρ1 with
    | none => rw [e] at h; exact h.elim
    | some y =>
      obtain ⟨as, ρ2⟩ := y
      rw [e] at h
      simp only [bnd_ok] at h
      obtain ⟨G2, F, ra⟩ := fzs_ok k1 s1 r1 e
      split at h
      · rename_i par ds hj2
        obtain ⟨p', o', f1, f2, f3, f4⟩ := F.ok.ow j _ _ hj2
        rw [e1] at f1; cases f1
        obtain ⟨vs, rfl, f5⟩ := f4.lst
        split at h
        · rename_i d ds' ef
          refine hf G2 H1 p vs xs ds as d ds' Q F.ok.ex f2 f3 f5 ra ef fun v vs' rv rvs => ?_
          obtain ⟨k3, s3⟩ := own_upd (o' := .lst vs') (ob' := .lst ds') F.ok F.st hj2 e1 f3 f4 rvs
          exact h v G2 _ k3 s3 rv
        · exact h.elim
      · exact h.elim
  · exact h.elim
structure Lm (T : Tb) (name : Str) (f : List D → List D → Option (D × List D)) : Prop where
  ex : ∃ (id : String) (r : V → List V → Hp → VK → Prop), Slot "list" name id ∧ typeOf (.builtin id) = pure (.type "method_descriptor") ∧ (∀ X : Cx, X.K = T.K → X.calm = true → (X.A.units + 65 < cLine) → MtR X id r) ∧ LmD T r f
/-- x.append(e), x.extend(e), x.pop(i) -/
theorem xe_lm {f : List D → List D → Option (D × List D)} {name : Str} (L : Lm C.T name f) (j : Nat) {x : Str} {p1 apos : Pos} {e : Expr} {es : List Expr} {a : M (List Rv)} (ha : XA C (e :: es) a) (hi : C.N[j]? = some x := by rfl) (hv : Vis C.sc x := by first | exact Or.inl rfl | exact Or.inr (Or.inl rfl) | exact Or.inr (Or.inr rfl)) (hd : (x == ("__debug__" : Str)) = false := by decide) (hcd : (x == ("__classdict__" : Str)) = false := by decide)
    (hbase : ∀ env, attributeBase (.Name x p1) name env (eval (.Name x p1) env) = eval (.Name x p1) env := by intro _; rfl)
    (hfew : ∀ env, ((backTo pos (starEach (e :: es) env)).all (fun x => !x.1) && (backToKw pos (keywordEach [] env)).all (fun x => x.1.isSome) && decide ((e :: es).length + ([] : List Keyword).length + (if ([] : List Keyword).isEmpty then 0 else 1) < 30)) = true := by intro _; rfl)
    (hline : (apos.endLine == pos.line) = true := by rfl) (hs : ∀ env, starEach (e :: es) env = (false, eval e env) :: starEach es env := by intro _; rfl) (hpl : ∀ env, (backTo pos (starEach es env)).any (·.1) = false := by intro _; rfl) : XE C (.Call (.Attribute (.Name x p1) name apos) (e :: es) [] pos) (xLm j f a) := by
  obtain ⟨_, t, p, q⟩ := ha
  obtain ⟨id, r, slot, hty, hm, hf⟩ := L
  refine ⟨fun W => tBM C.T.K "list" r (tVar j) (t W), fun X W c => ?_, fun W G H σ ρ Q k h => lm_core hf (fun G H ρ Q => q W G H σ ρ Q) k h⟩
  have hm' := hm X (cx_K c) c.calm (room65 c.room)
  rw [← cx_K c]
  exact pe_bm PySem.F.plainAttrs_list slot hty hm' (pe_var (i := j) (by rw [c.n]; exact hi) (by rw [c.s]; exact hv) hd hcd) (p X W c) (hbase _) (hfew _) hline (hs _) (hpl _)
def fAppend (ds as : List D) : Option (D × List D) := match as with
  | [d] => if ds.length < sizeLine then some (.non, ds ++ [d]) else none
  | _ => none
def fExtend (ds as : List D) : Option (D × List D) := match as with
  | [.lst es] => if ds.length + es.length ≤ sizeLine then some (.non, ds ++ es) else none
  | _ => none
def fPopAt (ds as : List D) : Option (D × List D) := match as with
  | [.int i] => if -(2 ^ 63) ≤ i ∧ i < 2 ^ 63 then match seqIndex? i ds.length with
    | some k => match ds[k]? with
      | some d => some (d, ds.eraseIdx k)
      | none => none
    | none => none
    else none
  | _ => none
theorem ok_append {T : Tb} : LmD T rAppend fAppend := by
  intro G H p vs xs ds as d ds' Q e hg h r ra hf q
  unfold fAppend at hf
  split at hf
  · split at hf
    · rename_i hz
      cases hf
      obtain ⟨v, rfl, rv⟩ := rpl_one ra
      exact ⟨p, vs, v, rfl, rfl, h, by rw [r.length]; exact hz, q _ _ .non (r.append (.cons rv .nil))⟩
    · cases hf
  · cases hf
theorem ok_extend {T : Tb} : LmD T rExtend fExtend := by
  intro G H p vs xs ds as d ds' Q e hg h r ra hf q
  unfold fExtend at hf
  split at hf
  · split at hf
    · rename_i hz
      cases hf
      obtain ⟨v, rfl, rv⟩ := rpl_one ra
      cases rv with
      | lst h2 r2 => exact ⟨p, _, vs, _, rfl, rfl, h, e _ _ h2, by rw [r.length, r2.length]; exact hz, q _ _ .non (r.append r2)⟩
    · cases hf
  · cases hf
theorem ok_popAt {T : Tb} : LmD T rPopAt fPopAt := by
  intro G H p vs xs ds as d ds' Q e hg h r ra hf q
  unfold fPopAt at hf
  split at hf
  · split at hf
    · rename_i hz
      split at hf
      · rename_i kk hk
        split at hf
        · rename_i d' hd
          cases hf
          obtain ⟨v, rfl, rv⟩ := rpl_one ra
          cases rv
          obtain ⟨w, hw, rw'⟩ := r.getD hd
          exact ⟨p, vs, _, kk, w, rfl, rfl, h, hz.1, hz.2, by rw [r.length]; exact hk, hw, q _ _ rw' (r.eraseIdx kk)⟩
        · cases hf
      · cases hf
    · cases hf
  · cases hf
theorem lm_append {T : Tb} : Lm T "append" fAppend := ⟨_, _, PySem.F.slot_list_append, PySem.F.type_list_append, fun _ _ _ _ => mt_append, ok_append⟩
theorem lm_extend {T : Tb} : Lm T "extend" fExtend := ⟨_, _, PySem.F.slot_list_extend, PySem.F.type_list_extend, fun _ _ _ _ => mt_extend, ok_extend⟩
theorem lm_popAt {T : Tb} : Lm T "pop" fPopAt := ⟨_, _, PySem.F.slot_list_pop, PySem.F.type_list_pop, fun _ _ _ _ => mt_popAt, ok_popAt⟩
/-- x[i] = e -/
def sSetI (j : Nat) (i e : M Rv) : MS := fun ρ => sbn (e ρ) fun r ρ1 => match ρ1[j]? with
  | some (.ow _ (.lst _)) => sbn (i ρ1) fun ri ρ2 => match deref ρ2 ri with
    | some (.int n) => match fz1 r ρ2 with
      | some (d, ρ3) => match ρ3[j]? with
        | some (.ow par (.lst ds)) => match ixN ds.length n with
          | some m => some (.nx (ρ3.set j (.ow par (.lst (ds.set m d)))))
          | none => none
        | _ => none
      | none => none
    | _ => none
  | _ => none
theorem tels_next {T : Tb} {G H G1 H1 : Hp} {σ : L2.St} {ρ ρ1 : En} {W : WX} {E : Ends} {α β : Type} {RO : Hp → Hp → Hp → L2.St → En → β → α → Prop} {Q : β → Hp → Prop} {x : Option (Res α)} {k : α → MS} (h : TelS T G H σ ρ W E (sbn x k)) (s1 : Stp G H σ ρ G1 H1 σ ρ1)
    (hk : ∀ (b : β) (a : α) (ρ2 : En) (G2 H2 : Hp), Ok T G2 H2 σ ρ2 → Stp G1 H1 σ ρ1 G2 H2 σ ρ2 → RO H1 G2 H2 σ ρ2 b a → TelS T G H σ ρ W E (k a ρ2) → Q b H2) : Tel T RO G1 H1 σ ρ1 W Q x := by
  cases x with
  | none => exact h
  | some y =>
    cases y with
    | ok a ρ' => exact fun b G' H' o s r => hk b a ρ' G' H' o s r h
    | ex e ρ' => exact fun cls d G' H' k s r => h cls d σ G' H' k (s1.trans s) r
theorem xs_setI (j : Nat) {x : Str} {p1 spos : Pos} {i e : Expr} {mi m : M Rv} (he : XE C e m) (hii : XE C i mi) (hi : C.N[j]? = some x := by rfl) (hv : Vis C.sc x := by first | exact Or.inl rfl | exact Or.inr (Or.inl rfl) | exact Or.inr (Or.inr rfl)) (hd : (x == ("__debug__" : Str)) = false := by decide) (hcd : (x == ("__classdict__" : Str)) = false := by decide)
    (ha : ∀ env v, assign (.Subscript (.Name x p1) i spos) env v = (do
      let ov ← holding [v] (eval (.Name x p1) env)
      let iv ← holding [v, ov] (eval i env)
      standAt spos
      holding [v, ov, iv] (setItem ov iv v)
      release [v, ov, iv] []) := by intro _ _; rfl)
    (hs : ∀ env, swapsWithSole [.Subscript (.Name x p1) i spos] e pos.line env = pure false := by intro _; rfl) (hw : ∀ env, swappedStores [.Subscript (.Name x p1) i spos] e env = pure none := by intro _; rfl)
    (h1 : ∀ env, (assignEach [.Subscript (.Name x p1) i spos] env).map (·.2) = [assign (.Subscript (.Name x p1) i spos) env] := by intro _; rfl) : XS C (.Assign [.Subscript (.Name x p1) i spos] e pos) (sSetI j mi m) := by
  obtain ⟨t, p, q⟩ := he
  obtain ⟨u, p', q'⟩ := hii
  refine ⟨fun W => tAsg (t W) (gSub (tVar j) (u W) rSetL), fun X W c => ps_asg (p X W c.toCxOk) (pg_sub (pe_var (i := j) (by rw [c.n]; exact hi) (by rw [c.s]; exact hv) hd hcd) (p' X W c.toCxOk) set_list (ha _)) (hs _) (hw _) (h1 _), fun W G H σ ρ E k h => q W G H σ ρ _ k (tels_sbn h fun v r ρ1 G1 H1 k1 s1 r1 h => ?_)⟩
  split at h
  · rename_i par0 ds0 hj
    obtain ⟨pp, o, e1, e2, e3, e4⟩ := k1.ow j _ _ hj
    refine ⟨_, e1, q' W G1 H1 σ ρ1 _ k1 (tels_next h s1 fun w ri ρ2 G2 H2 k2 s2 r2 h => ?_)⟩
    split at h
    · rename_i n en
      split at h
      · rename_i d ρ3 ef
        obtain ⟨G3, F, rd, _⟩ := fz1_ok k2 (s1.trans s2) ((r1.step s2 k1)) ef
        split at h
        · rename_i par ds hj2
          obtain ⟨p', o', f1, f2, f3, f4⟩ := F.ok.ow j _ _ hj2
          rw [e1] at f1; cases f1
          obtain ⟨vs, rfl, f5⟩ := f4.lst
          split at h
          · rename_i mm em
            have hw := vw_int (vw_of k2 r2 en)
            subst hw
            obtain ⟨k4, s4⟩ := own_upd (o' := .lst (vs.set mm v)) (ob' := .lst (ds.set mm d)) F.ok F.st hj2 e1 f3 f4 (RpL.set rd mm f5)
            exact ⟨pp, vs, n, mm, rfl, rfl, f3, by rw [f5.length]; exact em, h σ G3 _ k4 s4⟩
          · exact h.elim
        · exact h.elim
      · exact h.elim
    · exact h.elim
  · exact h.elim
end
end L2.DL
namespace L2.DL
open PySem PySem.Spec PyProof.Rows

/-! ### comprehensions -/
def wipeE (ρ : En) : List Nat → En
  | [] => ρ
  | v :: vs => (wipeE ρ vs).set v .un
def backE (ρ1 : En) (ρ : En) : List Nat → En
  | [] => ρ
  | v :: vs => (backE ρ1 ρ vs).set v (ρ1.getD v .un)
theorem wipeE_length (ρ : En) : ∀ vs : List Nat, (wipeE ρ vs).length = ρ.length
  | [] => rfl
  | v :: vs => by simp [wipeE, wipeE_length ρ vs]
theorem backE_length (ρ1 ρ : En) : ∀ vs : List Nat, (backE ρ1 ρ vs).length = ρ.length
  | [] => rfl
  | v :: vs => by simp [backE, backE_length ρ1 ρ vs]
theorem wipeE_out {ρ : En} {j : Nat} : ∀ {vs : List Nat}, j ∉ vs → (wipeE ρ vs)[j]? = ρ[j]?
  | [], _ => rfl
  | v :: vs, h => by
    simp only [List.mem_cons, not_or] at h
    rw [wipeE, List.getElem?_set_ne (Ne.symm h.1), wipeE_out h.2]
theorem wipeE_in {ρ : En} {j : Nat} {s : Sl} : ∀ {vs : List Nat}, j ∈ vs → (wipeE ρ vs)[j]? = some s → s = .un
  | v :: vs, h, e => by
    by_cases q : j = v
    · subst q
      have hl : j < (wipeE ρ vs).length := by
        have := (List.getElem?_eq_some_iff.mp e).1
        simpa [wipeE] using this
      rw [wipeE, List.getElem?_set_self hl] at e; cases e; rfl
    · rw [wipeE, List.getElem?_set_ne (Ne.symm q)] at e
      exact wipeE_in ((List.mem_cons.mp h).resolve_left q) e
theorem backE_out {ρ1 ρ : En} {j : Nat} : ∀ {vs : List Nat}, j ∉ vs → (backE ρ1 ρ vs)[j]? = ρ[j]?
  | [], _ => rfl
  | v :: vs, h => by
    simp only [List.mem_cons, not_or] at h
    rw [backE, List.getElem?_set_ne (Ne.symm h.1), backE_out h.2]
theorem backE_in {ρ1 ρ : En} {j : Nat} (hl : ρ1.length = ρ.length) : ∀ {vs : List Nat}, j ∈ vs → (backE ρ1 ρ vs)[j]? = ρ1[j]?
  | v :: vs, h => by
    by_cases q : j = v
    · subst q
      by_cases hj : j < ρ.length
      · rw [backE, List.getElem?_set_self (by rw [backE_length]; exact hj)]
        rw [List.getD_eq_getElem?_getD, List.getElem?_eq_getElem (by rw [hl]; exact hj)]; rfl
      · rw [List.getElem?_eq_none (by simpa [backE, backE_length] using hj), List.getElem?_eq_none (by rw [hl]; simpa using hj)]
    · rw [backE, List.getElem?_set_ne (Ne.symm q)]
      exact backE_in hl ((List.mem_cons.mp h).resolve_left q)
theorem wipe_in {σ : L2.St} {j : Nat} {s : Option V} : ∀ {vs : List Nat}, j ∈ vs → (wipe σ vs)[j]? = some s → s = none
  | v :: vs, h, e => by
    by_cases q : j = v
    · subst q
      have hl : j < (wipe σ vs).length := by
        have := (List.getElem?_eq_some_iff.mp e).1
        simpa [wipe] using this
      rw [wipe, List.getElem?_set_self hl] at e; cases e; rfl
    · rw [wipe, List.getElem?_set_ne (Ne.symm q)] at e
      exact wipe_in ((List.mem_cons.mp h).resolve_left q) e
theorem wipe_eq {σ σ' : L2.St} {vs : List Nat} (hl : σ'.length = σ.length) (h : ∀ j, j ∉ vs → σ'[j]? = σ[j]?) : wipe σ' vs = wipe σ vs := by
  apply List.ext_getElem?
  intro j
  by_cases q : j ∈ vs
  · by_cases hj : j < σ.length
    · have e1 : (wipe σ' vs)[j]? = some ((wipe σ' vs)[j]'(by rw [wipe_length, hl]; exact hj)) := List.getElem?_eq_getElem _
      have e2 : (wipe σ vs)[j]? = some ((wipe σ vs)[j]'(by rw [wipe_length]; exact hj)) := List.getElem?_eq_getElem _
      rw [e1, e2, wipe_in q e1, wipe_in q e2]
    · rw [List.getElem?_eq_none (by rw [wipe_length, hl]; omega), List.getElem?_eq_none (by rw [wipe_length]; omega)]
  · rw [wipe_out q, wipe_out q]; exact h j q
theorem wipe_wipe {σ : L2.St} {vs : List Nat} : wipe (wipe σ vs) vs = wipe σ vs := wipe_eq (wipe_length σ vs) fun j h => wipe_out h
def lcD (vs : List Nat) (tg : Tg) (tt : M Bool) (el : M Rv) : List D → List D → M (List D)
  | [], acc, ρ => some (.ok acc ρ)
  | d :: ds, acc, ρ => match bindT tg d (wipeE ρ vs) with
    | none => none
    | some ρ1 => bnd (tt ρ1) fun b ρ2 => if b = true then bnd (el ρ2) fun r ρ3 => bnd (fzM1 r ρ3) fun x ρ4 => if acc.length < sizeLine then lcD vs tg tt el ds (acc ++ [x]) ρ4 else none else lcD vs tg tt el ds acc ρ2
def lcEnd (vs : List Nat) (ρ1 : En) (x : Option (Res (List D))) : Option (Res Rv) := match x with
  | some (.ok acc ρ2) => some (.ok (.nw (.lst acc)) (backE ρ1 ρ2 vs))
  | _ => none
def xLc (vs : List Nat) (tg : Tg) (mi : M (List D)) (tt : M Bool) (el : M Rv) : M Rv := fun ρ => bnd (mi ρ) fun ds ρ1 => if vs.all (fun j => !isPar ρ1[j]?) = true then lcEnd vs ρ1 (lcD vs tg tt el ds [] ρ1) else none
def tYesM : M Bool := ret true
section
variable {T : Tb} {Gs Hs G H G1 H1 : Hp} {σs σ : L2.St} {ρs ρ ρ1 : En} {vs : List Nat}
/-- the block's own names are unknown -/
theorem wipe_ok (k : Ok T G H σ ρ) {σ0 : L2.St} (hl : σ.length = σ0.length) (ho : ∀ j, j ∉ vs → σ[j]? = σ0[j]?) : Ok T G H (wipe σ0 vs) (wipeE ρ vs) ∧ ∀ a, OwnAt (wipe σ0 vs) (wipeE ρ vs) a → OwnAt σ ρ a := by
  have sub : ∀ (i : Nat) sl, (wipeE ρ vs)[i]? = some sl → sl ≠ .un → i ∉ vs ∧ ρ[i]? = some sl := fun i sl h hn => by
    by_cases q : i ∈ vs
    · exact absurd (wipeE_in q h) hn
    · rw [wipeE_out q] at h; exact ⟨q, h⟩
  have sg : ∀ i, i ∉ vs → (wipe σ0 vs)[i]? = σ[i]? := fun i h => by rw [wipe_out h, ho i h]
  refine ⟨⟨k.ex, k.tb, by rw [wipeE_length, wipe_length, k.len, hl], fun i d h => ?_, fun i par ob h => ?_, fun a b p x1 y1 x2 y2 hab h1 h2 h3 h4 => ?_⟩, fun a ⟨i, par, ob, h1, h2⟩ => ?_⟩
  · obtain ⟨q, e⟩ := sub i _ h (fun z => by cases z)
    rw [sg i q]; exact k.im i d e
  · obtain ⟨q, e⟩ := sub i _ h (fun z => by cases z)
    rw [sg i q]; exact k.ow i par ob e
  · obtain ⟨q1, e1⟩ := sub a _ h1 (fun z => by cases z)
    obtain ⟨q2, e2⟩ := sub b _ h2 (fun z => by cases z)
    rw [sg a q1] at h3; rw [sg b q2] at h4
    exact k.ds a b p _ _ _ _ hab e1 e2 h3 h4
  · obtain ⟨q, e⟩ := sub i _ h1 (fun z => by cases z)
    rw [sg i q] at h2; exact ⟨i, par, ob, e, h2⟩
/-- the block is left -/
theorem back_ok (k1 : Ok T G1 H1 σ ρ1) (k : Ok T G H (wipe σ vs) (wipeE ρ vs)) (s : Stp G1 H1 (wipe σ vs) (wipeE ρ1 vs) G H (wipe σ vs) (wipeE ρ vs)) (hlen : ρ1.length = ρ.length) (hp : ∀ j ∈ vs, isPar ρ1[j]? = false) :
    Ok T G H σ (backE ρ1 ρ vs) ∧ Stp G1 H1 σ ρ1 G H σ (backE ρ1 ρ vs) ∧ ∀ a, OwnAt σ (backE ρ1 ρ vs) a → OwnAt (wipe σ vs) (wipeE ρ vs) a ∨ OwnAt σ ρ1 a := by
  obtain ⟨kw, so⟩ := wipe_ok (vs := vs) k1 (σ0 := σ) rfl (fun _ _ => rfl)
  have x : Ext G1 G := s.ext kw
  have sub : ∀ (i : Nat), i ∉ vs → (backE ρ1 ρ vs)[i]? = (wipeE ρ vs)[i]? ∧ (wipe σ vs)[i]? = σ[i]? := fun i q => ⟨by rw [backE_out q, wipeE_out q], wipe_out q⟩
  have keepOwn : ∀ (i : Nat) par ob p, i ∈ vs → ρ1[i]? = some (.ow par ob) → σ[i]? = some (some (.ref p)) → ¬ OwnAt (wipe σ vs) (wipeE ρ1 vs) p := fun i par ob p q e1 e2 ⟨j, par', ob', h1, h2⟩ => by
    have hj : j ∉ vs := fun z => by have := wipeE_in z h1; cases this
    rw [wipeE_out hj] at h1; rw [wipe_out hj] at h2
    exact k1.ds i j p _ _ _ _ (fun z => hj (z ▸ q)) e1 h1 e2 h2
  refine ⟨⟨k.ex, k.tb, by rw [backE_length, ← hlen]; exact k1.len, fun i d h => ?_, fun i par ob h => ?_, fun a b p x1 y1 x2 y2 hab h1 h2 h3 h4 => ?_⟩, ⟨fun a o h nt hn => s.keep a o h nt fun w => hn (so a w), fun a ⟨i, par, ob, h1, h2⟩ => ?_, s.dom, fun i ob h => ?_, s.tbl⟩, fun a ⟨i, par, ob, h1, h2⟩ => ?_⟩
  · by_cases q : i ∈ vs
    · rw [backE_in hlen q] at h
      obtain ⟨v, e, r⟩ := k1.im i d h
      exact ⟨v, e, r.mono x⟩
    · rw [(sub i q).1] at h; rw [← (sub i q).2]; exact k.im i d h
  · by_cases q : i ∈ vs
    · rw [backE_in hlen q] at h
      obtain ⟨p, o, e1, e2, e3, e4⟩ := k1.ow i par ob h
      obtain ⟨f1, f2⟩ := s.keep p o e3 e4.nt (keepOwn i _ _ p q h e1)
      exact ⟨p, o, e1, f2.trans e2, f1, e4.mono x⟩
    · rw [(sub i q).1] at h; rw [← (sub i q).2]; exact k.ow i par ob h
  · have mixed : ∀ (a b : Nat) a' x a'' y, a ∈ vs → b ∉ vs → (backE ρ1 ρ vs)[a]? = some (.ow a' x) → (backE ρ1 ρ vs)[b]? = some (.ow a'' y) → σ[a]? = some (some (.ref p)) → σ[b]? = some (some (.ref p)) → False := fun a b a' x a'' y qa qb h1 h2 h3 h4 => by
      rw [backE_in hlen qa] at h1
      rw [(sub b qb).1] at h2
      have hw : OwnAt (wipe σ vs) (wipeE ρ vs) p := ⟨b, _, _, h2, by rw [(sub b qb).2]; exact h4⟩
      obtain ⟨p', o, e1, _, e3, _⟩ := k1.ow a _ _ h1
      rw [h3] at e1; cases e1
      rcases s.own p hw with w | w
      · exact keepOwn a _ _ p qa h1 h3 w
      · rw [e3] at w; cases w
    by_cases qa : a ∈ vs
    · by_cases qb : b ∈ vs
      · rw [backE_in hlen qa] at h1; rw [backE_in hlen qb] at h2
        exact k1.ds a b p _ _ _ _ hab h1 h2 h3 h4
      · exact mixed a b _ _ _ _ qa qb h1 h2 h3 h4
    · by_cases qb : b ∈ vs
      · exact mixed b a _ _ _ _ qb qa h2 h1 h4 h3
      · rw [(sub a qa).1] at h1; rw [(sub b qb).1] at h2; rw [← (sub a qa).2] at h3; rw [← (sub b qb).2] at h4
        exact k.ds a b p _ _ _ _ hab h1 h2 h3 h4
  · by_cases q : i ∈ vs
    · rw [backE_in hlen q] at h1; exact .inl ⟨i, par, ob, h1, h2⟩
    · rw [(sub i q).1] at h1; rw [← (sub i q).2] at h2
      exact (s.own a ⟨i, par, ob, h1, h2⟩).imp (so a) id
  · have q : i ∉ vs := fun z => by have := hp i z; rw [h] at this; cases this
    obtain ⟨⟨ob', e⟩, _⟩ := s.par i ob (by rw [wipeE_out q]; exact h)
    exact ⟨⟨ob', by rw [(sub i q).1]; exact e⟩, rfl⟩
  · by_cases q : i ∈ vs
    · rw [backE_in hlen q] at h1; exact .inr ⟨i, par, ob, h1, h2⟩
    · rw [(sub i q).1] at h1; rw [← (sub i q).2] at h2; exact .inl ⟨i, par, ob, h1, h2⟩
/-- a list that no slot and no data has is changed -/
theorem free_upd {Gs Hs : Hp} {σs : L2.St} {ρs : En} (k : Ok T G H σ ρ) (s : Stp Gs Hs σs ρs G H σ ρ) {D : Addr} {xs : List V} {o' : HO} (hs : Hs D = none) (hg : G D = none) (hh : H D = some (.lst xs)) (nD : ¬ OwnAt σ ρ D) : Ok T G (upd H D o') σ ρ ∧ Stp Gs Hs σs ρs G (upd H D o') σ ρ := by
  have ne : ∀ a u, Hs a = some u → a ≠ D := fun a u h => ne_of_none h hs
  refine ⟨⟨fun a u e => by rw [upd_ne (fun z => by rw [z, hg] at e; cases e)]; exact k.ex a u e, tabs_upd k.tb hh (fun _ z => by cases z) (fun _ z => by cases z), k.len, k.im, fun i par ob h => ?_, k.ds⟩,
    ⟨fun a u h nt hn => ?_, s.own, fun a h => s.dom a ?_, s.par, fun a ps h => ?_⟩⟩
  · obtain ⟨p, o, e1, e2, e3, e4⟩ := k.ow i par ob h
    exact ⟨p, o, e1, e2, by rw [upd_ne (fun z => nD ⟨i, par, ob, h, by rw [← z]; exact e1⟩)]; exact e3, e4⟩
  · obtain ⟨q1, q2⟩ := s.keep a u h nt hn
    exact ⟨by rw [upd_ne (ne a u h)]; exact q1, q2⟩
  · by_cases q : a = D
    · subst q; rw [upd_same] at h; cases h
    · rw [upd_ne q] at h; exact h
  · obtain ⟨⟨ps', e⟩, e'⟩ := s.tbl a ps h
    exact ⟨⟨ps', by rw [upd_ne (ne a _ h)]; exact e⟩, e'⟩
end
theorem PySem_takes0 {X : Cx} : Takes X (fun _ _ _ _ => False) := fun _ _ x => by
  obtain ⟨_, _, _, _, _, _, _, _, _, _, _, _, _, _, _, _, z⟩ := x
  exact z.elim
/-- the block's context -/
abbrev Cf.blk (C : Cf) (scope : Scope) : Cf := ⟨C.T, C.N, relS scope C.sc, C.k, fun x => scope.names.lookup x == some .cell⟩
section
variable {C : Cf} {pos : Pos}
theorem cx_blk {X : Cx} {W : WX} (c : CxOk C X W) {scope : Scope} (s : Shared) (H : Hp) (D : Addr) (cl : List (Str × Addr)) (fp : List Addr) : CxOk (C.blk scope) (X.blk s H scope (compEnvC scope cl D X.env) fp) (fun _ _ _ _ => False) where
  tb := c.tb
  n := c.n
  nd := c.nd
  s := by
    show relS scope X.env.scope = relS scope C.sc
    rw [c.s]
  calm := c.calm
  room := c.room
  tk := PySem_takes0
  po := PassesOwn.never
  hf := rfl
  gd := c.gd
abbrev WF : WX := fun _ _ _ _ => False
/-- tests of a comprehension: none, one -/
def XTs (C : Cf) (es : List Expr) (m : M Bool) : Prop := ∃ t : WX → TT, (∀ X W, CxOk C X W → PTs X es (t W)) ∧
  ∀ W G H σ ρ Q, Ok C.T G H σ ρ → Tel C.T ROb G H σ ρ W Q (m ρ) → t W σ H Q
theorem xts_nil : XTs C [] tYesM := ⟨fun _ => tYes, fun _ _ _ => pts_nil, fun _ G H _ _ _ k h => h true G H k Stp.refl rfl⟩
theorem xts_one {e : Expr} {m : M Bool} (h : XT C e m) : XTs C [e] m := by
  obtain ⟨t, p, q⟩ := h
  exact ⟨t, fun X W c => pts_one (p X W c), q⟩
theorem lc_told {T : Tb} {wi : TI} {g : TG} {tt : TT} {te : TE} {vs : List Nat} {tg : Tg} {mi : M (List D)} {mt : M Bool} {el : M Rv} {W : WX} {G H : Hp} {σ : L2.St} {ρ : En} {Q : VK}
    (hv : ∀ j ∈ tgIx tg, j ∈ vs)
    (q1 : ∀ R, TelI T G H σ ρ W R (mi ρ) → wi σ H R)
    (qg : ∀ Gs Hs ρs σs G H σ ρ v d ρ' Q, Ok T G H σ ρ → Stp Gs Hs σs ρs G H σ ρ → Rp T G v d → bindT tg d ρ = some ρ' → (∀ σ', Ok T G H σ' ρ' → Stp Gs Hs σs ρs G H σ' ρ' → Outs (tgIx tg) σ σ' → Q σ' H) → g v σ H Q)
    (qt : ∀ G H σ ρ Q, Ok T G H σ ρ → Tel T ROb G H σ ρ WF Q (mt ρ) → tt σ H Q)
    (qe : ∀ G H σ ρ Q, Ok T G H σ ρ → Tel T (RvOk T) G H σ ρ WF Q (el ρ) → te σ H Q)
    (h : Tel T (RvOk T) G H σ ρ W Q (xLc vs tg mi mt el ρ)) : tLc wi g tt te vs σ H Q := by
  refine q1 _ ?_
  unfold xLc at h
  cases em : mi ρ with
  | none => rw [em] at h; exact h
  | some y =>
    cases y with
    | ex ee ρ' => rw [em] at h; exact h
    | ok ds ρ1 =>
      rw [em] at h
      simp only [bnd_ok] at h
      by_cases hpa : vs.all (fun j => !isPar ρ1[j]?) = true
      case neg => rw [if_neg hpa] at h; exact h.elim
      rw [if_pos hpa] at h
      have hp : ∀ j ∈ vs, isPar ρ1[j]? = false := fun j hj => by
        have := List.all_eq_true.mp hpa j hj
        simpa using this
      intro J G1 H1 k1 s1 it D hD
      let Wv : Nat → Nat → Hp → Prop := fun i m H' => m = ds.length - i ∧ i ≤ ds.length ∧ ∃ G' ρ' acc as, Ok T G' H' (wipe σ vs) (wipeE ρ' vs) ∧ Stp G1 H1 (wipe σ vs) (wipeE ρ1 vs) G' H' (wipe σ vs) (wipeE ρ' vs) ∧ ρ1.length = ρ'.length ∧
        H' D = some (.lst acc) ∧ G' D = none ∧ RpL T G' acc as ∧ ¬ OwnAt (wipe σ vs) (wipeE ρ' vs) D ∧ Tel T (RvOk T) G H σ ρ W Q (lcEnd vs ρ1 (lcD vs tg mt el (ds.drop i) as ρ'))
      obtain ⟨kw, sow⟩ := wipe_ok (vs := vs) k1 (σ0 := σ) rfl (fun _ _ => rfl)
      refine ⟨Wv, ⟨ds.length, by simp, Nat.zero_le _, G1, ρ1, [], [], kw.lay hD, Stp.lay hD, rfl, upd_same, kw.fresh_view hD, .nil, kw.fresh_own hD, by rw [List.drop_zero]; exact h⟩, ?_⟩
      rintro i m H' ⟨rfl, hil, G', ρ', acc, as, k', s', hlen, hD', gD, racc, nD, h'⟩
      have x' : Ext G1 G' := s'.ext kw
      by_cases hlt : i < ds.length
      · have e0 : ds[i]? = some ds[i] := List.getElem?_eq_getElem hlt
        rw [List.drop_eq_getElem_cons hlt] at h'
        obtain ⟨go, yl⟩ := (it i G' H' x' k'.ex).1 _ e0
        refine .inr ⟨go, Wv (i + 1) (ds.length - (i + 1)), fun H3 w => ⟨_, by omega, w⟩, fun x H2 y => ?_⟩
        obtain ⟨xe, rx⟩ := yl x H2 y
        have k2 := k'.grow xe
        simp only [lcD] at h'
        cases e1 : bindT tg ds[i] (wipeE ρ' vs) with
        | none => rw [e1] at h'; exact h'.elim
        | some ρ2 =>
          rw [e1] at h'
          dsimp only at h'
          have hD2 : H2 D = some (.lst acc) := xe D _ hD'
          have gD2 : Grow G' H' H2 D = none := by rw [grow_old hD']; exact gD
          refine qg (Grow G' H' H2) H2 (wipeE ρ' vs) (wipe σ vs) _ H2 (wipe σ vs) (wipeE ρ' vs) x ds[i] ρ2 _ k2 Stp.refl rx e1 fun σ3 k3 s3 o3 => ?_
          have outs : σ3.length = (wipe σ vs).length ∧ ∀ j, j ∉ vs → σ3[j]? = (wipe σ vs)[j]? := ⟨o3.1, fun j hj => o3.2 j fun z => hj (hv j z)⟩
          have hwipe : wipe σ3 vs = wipe σ vs := (wipe_eq outs.1 outs.2).trans wipe_wipe
          refine ⟨hwipe, ?_⟩
          have nD3 : ¬ OwnAt σ3 ρ2 D := fun w => (s3.own D w).elim nD fun z => by rw [hD2] at z; cases z
          have late : ∀ {G4 H4 : Hp} {ρ4 : En}, Ok T G4 H4 σ3 ρ4 → Stp (Grow G' H' H2) H2 σ3 ρ2 G4 H4 σ3 ρ4 → ρ1.length = ρ4.length ∧ Ok T G4 H4 (wipe σ vs) (wipeE ρ4 vs) ∧ Stp G1 H1 (wipe σ vs) (wipeE ρ1 vs) G4 H4 (wipe σ vs) (wipeE ρ4 vs) ∧ H4 D = some (.lst acc) ∧ G4 D = none ∧ RpL T G4 acc as ∧ ¬ OwnAt (wipe σ vs) (wipeE ρ4 vs) D := fun {G4 H4 ρ4} k4 s4 => by
            have hl4 : ρ1.length = ρ4.length := by
              have h1 := k4.len; have h2 := k1.len; have h3 := outs.1
              rw [wipe_length] at h3; omega
            obtain ⟨kw4, so4⟩ := wipe_ok (vs := vs) k4 (σ0 := σ) (by rw [outs.1, wipe_length]) (fun j hj => by rw [outs.2 j hj, wipe_out hj])
            obtain ⟨d1, d2⟩ := s4.keep D _ hD2 (fun _ z => by cases z) nD3
            have sAll : Stp G1 H1 (wipe σ vs) (wipeE ρ1 vs) G4 H4 σ3 ρ4 := (s'.trans (Stp.grow xe)).trans (s3.trans s4)
            have x4 : Ext G' G4 := (grow_ext k'.ex).trans ((s3.ext k2).trans (s4.ext k3))
            refine ⟨hl4, kw4, ⟨sAll.keep, fun a w => sAll.own a (so4 a w), sAll.dom, fun j ob h => ?_, sAll.tbl⟩, d1, d2.trans gD2, racc.mono x4, fun w => ?_⟩
            · have hj : j ∉ vs := fun z => by have := wipeE_in z h; cases this
              obtain ⟨⟨ob', e⟩, _⟩ := sAll.par j ob h
              exact ⟨⟨ob', by rw [wipeE_out hj]; exact e⟩, rfl⟩
            · rcases s4.own D (so4 D w) with z | z
              · exact nD3 z
              · rw [hD2] at z; cases z
          refine qt _ H2 σ3 ρ2 _ k3 ?_
          cases et : mt ρ2 with
          | none => rw [et] at h'; exact h'
          | some y =>
            cases y with
            | ex ee ρ4 => rw [et] at h'; exact h'.elim
            | ok b ρ3 =>
              rw [et] at h'
              simp only [bnd_ok] at h'
              intro b' G3 H3 k4 s4 eb
              obtain rfl : b' = b := eb
              cases b' with
              | false =>
                obtain ⟨l1, l2, l3, l4, l5, l6, l7⟩ := late k4 s4
                exact ⟨rfl, hlt, G3, ρ3, acc, as, l2, l3, l1, l4, l5, l6, l7, h'⟩
              | true =>
                rw [if_pos rfl] at h' ⊢
                refine qe G3 H3 σ3 ρ3 _ k4 ?_
                cases ee : el ρ3 with
                | none => rw [ee] at h'; exact h'
                | some y =>
                  cases y with
                  | ex _ _ => rw [ee] at h'; exact h'.elim
                  | ok r ρ4 =>
                    rw [ee] at h'
                    simp only [bnd_ok, fzM1] at h'
                    intro v G4 H4 k5 s5 r5
                    cases ef : fz1 r ρ4 with
                    | none => rw [ef] at h'; exact h'.elim
                    | some y =>
                      obtain ⟨xd, ρ5⟩ := y
                      rw [ef] at h'
                      simp only [bnd_ok] at h'
                      obtain ⟨G5, F, rv, _⟩ := fz1_ok k5 s5 r5 ef
                      obtain ⟨l1, l2, l3, l4, l5, l6, l7⟩ := late F.ok (s4.trans F.st)
                      split at h'
                      · rename_i hz
                        obtain ⟨k6, s6⟩ := free_upd (o' := .lst (acc ++ [v])) l2 l3 hD l5 l4 l7
                        exact ⟨acc, l4, by rw [racc.length]; exact hz, rfl, hlt, G5, ρ5, acc ++ [v], as ++ [xd], k6, s6, l1, upd_same, l5, l6.append (.cons rv .nil), l7, h'⟩
                      · exact h'.elim
      · have e : i = ds.length := by omega
        subst e
        rw [List.drop_length] at h'
        simp only [lcD, lcEnd] at h'
        obtain ⟨kb, sb, so⟩ := back_ok (σ := σ) (ρ := ρ') k1 k' s' hlen hp
        refine .inl ⟨(it _ G' H' x' k'.ex).2 rfl, h' (.ref D) G' H' kb (s1.trans sb) ⟨D, .lst acc, rfl, s1.dom D hD, gD, hD', racc, fun w => ?_⟩⟩
        exact (so D w).elim nD (k1.fresh_own hD)
theorem xe_lc {elt t iter : Expr} {ifs : List Expr} {scope : Scope} (own : List (Str × Nat)) {tg : Tg} {mi : M (List D)} {mt : M Bool} {el : M Rv} (hi : XI C t iter mi) (hg : XG (C.blk scope) t tg) (ht : XTs (C.blk scope) ifs mt) (he : XE (C.blk scope) elt el)
    (ok : blkC C.N C.sc scope own = true := by kernel_rfl) (hv : ∀ j ∈ tgIx tg, j ∈ own.map (·.2) := by decide) (hs : ∀ env x, foldedSetIterable iter env x = pure x := by intro _ _; rfl) : XE C (.ListComp elt [⟨t, iter, ifs, 0⟩] scope pos) (xLc (own.map (·.2)) tg mi mt el) := by
  obtain ⟨wi, pi, qi⟩ := hi
  obtain ⟨g, pg, qg⟩ := hg
  obtain ⟨tt, pt, qt⟩ := ht
  obtain ⟨te, pe, qe⟩ := he
  refine ⟨fun W => tLc (wi W) g (tt WF) (te WF) (own.map (·.2)), fun X W c => pe_lc c.calm (by rw [c.n]; exact c.nd) (pi X W c) (by rw [c.n, c.s]; exact blkOk_by ok) (fun s H D cl fp => pg _ _ (cx_blk c s H D cl fp)) (fun s H D cl fp => pt _ _ (cx_blk c s H D cl fp)) (fun s H D cl fp => pe _ _ (cx_blk c s H D cl fp)) (hs _), fun W G H σ ρ Q k h => ?_⟩
  exact lc_told hv (fun R => qi W G H σ ρ R k) qg (fun G H σ ρ Q => qt WF G H σ ρ Q) (fun G H σ ρ Q => qe WF G H σ ρ Q) h
theorem xs_setLc (i : Nat) {y : Str} {py spos : Pos} {elt t iter : Expr} {ifs : List Expr} {scope : Scope} (own : List (Str × Nat)) {tg : Tg} {mi : M (List D)} {mt : M Bool} {el : M Rv} (hi : XI C t iter mi) (hg : XG (C.blk scope) t tg) (ht : XTs (C.blk scope) ifs mt) (he : XE (C.blk scope) elt el)
    (hy : C.N[i]? = some y := by rfl) (hyl : C.sc.names.lookup y = some .local := by rfl) (hk : C.sc.kind = .function := by rfl) (hl : (py.line == pos.line) = true := by rfl) (hsp : spos.line = py.line := by rfl) (ha : (scope.names.any fun (n, k) => n == y && (k == .local || k == .cell)) = false := by decide +kernel)
    (ok : blkC C.N C.sc scope own = true := by kernel_rfl) (hv : ∀ j ∈ tgIx tg, j ∈ own.map (·.2) := by decide) (hs : ∀ env x, foldedSetIterable iter env x = pure x := by intro _ _; rfl) : XS C (.Assign [.Name y py] (.ListComp elt [⟨t, iter, ifs, 0⟩] scope pos) spos) (sSet i (xLc (own.map (·.2)) tg mi mt el)) := by
  obtain ⟨wi, pi, qi⟩ := hi
  obtain ⟨g, pg, qg⟩ := hg
  obtain ⟨tt, pt, qt⟩ := ht
  obtain ⟨te, pe, qe⟩ := he
  refine ⟨fun W => tAsg (tLc (wi W) g (tt WF) (te WF) (own.map (·.2))) (gName i), fun X W c => ps_setLc c.calm (by rw [c.n]; exact c.nd) (by rw [c.n]; exact hy) (by rw [c.s]; exact hyl) (sw_true (by rw [c.s]; exact hk) (by rw [c.s]; exact hyl) hl ha) (pi X W c.toCxOk) (by rw [c.n, c.s]; exact blkOk_by ok) (fun s H D cl fp => pg _ _ (cx_blk c.toCxOk s H D cl fp)) (fun s H D cl fp => pt _ _ (cx_blk c.toCxOk s H D cl fp)) (fun s H D cl fp => pe _ _ (cx_blk c.toCxOk s H D cl fp)) (hs _), fun W G H σ ρ E k h => ?_⟩
  refine lc_told hv (fun R => qi W G H σ ρ R k) qg (fun G H σ ρ Q => qt WF G H σ ρ Q) (fun G H σ ρ Q => qe WF G H σ ρ Q) (tels_sbn h fun v r ρ1 G1 H1 k1 s1 r1 h => ?_)
  cases e : putS i r ρ1 with
  | none => simp only [e] at h; exact h.elim
  | some ρ2 =>
    simp only [e] at h
    obtain ⟨G2, k2, s2⟩ := putS_ok k1 s1 r1 e
    exact h _ G2 H1 k2 s2
end
end L2.DL
namespace L2.DL
open PySem PySem.Spec PyProof.Rows

/-! ### defs -/
abbrev Fm := En → Option (Res Rv)
def AllPar (ρ : En) : Prop := ∀ (i : Nat) par ob, ρ[i]? = some (.ow par ob) → par = true
def spM (T : Tb) (n : Nat) (m : Fm) : Sp := fun vs H Q E => vs.length = n ∧ ∃ G ρ, AllPar ρ ∧ Ok T G H (vs.map some) ρ ∧ Tel T (RvOk T) G H (vs.map some) ρ (fun cls d _ H => E cls d H) Q (m ρ)
/-! ### defs that are called with no repr under way -/
structure FnG (T : Tb) (k : Nat) (f : Addr) (fd : FuncData) (ps : List Str) (sp : Sp) : Prop where
  len : ∀ vs H Q E, sp vs H Q E → vs.length = ps.length
  run : ∀ (A : Around) (outer : List Env) (s : Shared) (H : Hp) (args : Args) (us : List Value) (vs : List V) (Q : VK) (E : XK), Room k A → A.guards = some [] → Env0 T.P T.w T.K T.mg T.base A outer s H → BindsTo s fd args (ps.zip us) → Vals vs us → sp vs H Q E →
    codeAny (model T.P T.w) A (.call (.ref f) args) (CR (L2.CX T.P T.w) outer T.P T.w H s Q E) s
theorem fnG_mk {T : Tb} {x qual : Str} {st : Stmt} {f : Addr} {fd : FuncData} {N ps : List Str} {k : Nat} {sp : Sp} (F : Fun T.K x qual st f fd) (S : FnScope N ps (defScope st)) (hlen : ∀ vs H Q E, sp vs H Q E → vs.length = ps.length)
    (hb : ∀ (cdv : Value) (A : Around) (outer : List Env) (s : Shared) (H : Hp) (vs : List V) (Q : VK) (E : XK), Room k (A.deeper (envOfC qual (defScope st) s.heap.objs.size f cdv)) → A.guards = some [] → sp vs H Q E →
      ∃ t, PSs (cxOf (L2.CX T.P T.w) T.P T.w T.K T.mg T.base N qual (defScope st) f cdv A outer s H E) (defBody st) t ∧ t { nx := fun _ H' => Q .non H', rt := Q } (L2.start N vs) H) : FnG T (k + 1) f fd ps sp := by
  obtain ⟨oc, od, kV, doc, pm, an, cdv, ct, osl, rfl, lk, hcd⟩ := F.ex
  constructor
  · exact hlen
  · intro A outer s H args us vs Q E room hg e0 bind vu told
    have kin : T.K.In s.heap := e0.mod.kin.keeps (fun b o e => And.left (e0.bs b o e))
    have free : s.heap.NoLimit := e0.mod.nolimit.keeps (fun b o e => And.left (e0.bs b o e))
    have kinds : ∀ y ∈ ps.zip us, (defScope st).names.lookup y.1 = some .local ∨ ((defScope st).names.lookup y.1 = some .cell ∧ ((cellsFrom (s.heap.objs.size + 1) (defScope st).names []).lookup y.1).isSome = true) := by
      intro y hy
      obtain ⟨n, v⟩ := y
      cases S.par n (And.left (List.of_mem_zip hy)) with
      | inl loc => exact Or.inl loc
      | inr cell => exact Or.inr (And.intro cell (PySem.W.cellsFrom_some _ _ _ (Or.inl cell)))
    refine codeAny_call_function room.depth (kin _ _ lk) rfl S.co S.gen rfl
      (PySem.W.codeRec_of kin hcd) (bind _ _ _ _ ?_)
    refine wpAny_newFunctionEnv_cells S.kind kinds (fun env ee s1 ic => ?_)
    subst ee
    refine And.intro (free.keeps ic.toInCall.keep) (codeAny_func ?_)
    obtain ⟨t, walk, goal⟩ := hb cdv A outer s H vs Q E (room.deeper _) hg told
    have inv0 := inv_start (CX := L2.CX T.P T.w) (P := T.P) (w := T.w) (qual := qual) (E := E) S room.hd e0 (hlen _ _ _ _ told) vu ic
    refine wpAny_mono (walk.run [] s1 _ H _ inv0 goal) (fun fl s' told' => ?_) (fun _ _ told' => told')
    cases fl with
    | ret u =>
      obtain ⟨v, _, H', J, rv, q⟩ := told'
      exact ⟨v, H', J.os, J.bare, J.base, J.hok, rv, q⟩
    | next =>
      obtain ⟨_, H', J, q⟩ := told'
      exact ⟨V.non, H', J.os, J.bare, J.base, J.hok, rfl, q⟩
    | brk => exact (told'.elim fun _ z => z.elim fun _ z => z.2.elim)
    | cont => exact (told'.elim fun _ z => z.elim fun _ z => z.2.elim)
section
variable {X : Cx} {T : Tb} {k : Nat} {f : Addr} {fd : FuncData} {ps : List Str} {sp : Sp} {E : St → XK} {t : TA}
theorem run_G {pins : List (Addr × Obj)} {σ : L2.St} {H : Hp} {s : Shared} {Q : VK} {us : List Value} {vs : List V} (hT : tbOf X T.tabs = T) (F : FnG T k f fd ps sp) (hr : Room k X.A) (hg : X.A.guards = some []) (hb : Binds X.K fd ps []) (hx : PassesAt (L2.CX X.prog X.w) X σ (E σ))
    (I : Inv X pins σ H s) (r : Vals vs us) (h : sp vs H Q (E σ)) : wpAny (model X.prog X.w) X.A (call (.ref f) us) (EP X pins σ Q) X.xe s := by
  have ln : us.length = ps.length := r.length ▸ F.len _ _ _ _ h
  have bd := hb s us I.kIn ((congrArg List.length (List.append_nil us)).trans ln)
  rw [List.append_nil] at bd
  rw [← hT] at F
  have go := F.run X.A X.stack s H ⟨us, []⟩ us vs Q (E σ) hr hg I.env0 bd r h
  refine wpAny_call (codeAny_mono go ?_)
  intro res s' told
  match res, told with
  | .error e, told => exact hx pins H s e s' I told
  | .ok (.ret u), told => exact I.after told
  | .ok .next, told => exact told.elim
  | .ok .brk, told => exact told.elim
  | .ok .cont, told => exact told.elim
theorem pe_callG {x : Str} {p pos : Pos} {e : Expr} {es : List Expr} (hT : tbOf X T.tabs = T) (F : FnG T k f fd ps sp) (hr : Room k X.A) (hgd : X.A.guards = some []) (hg : Gl X x) (hm : X.mg x = some (.ref f)) (hk : PySem.W.keepIn X.K (.ref f) = true) (hb : Binds X.K fd ps []) (hx : ∀ σ, PassesAt (L2.CX X.prog X.w) X σ (E σ))
    (ha : PA X (e :: es) t) (hdb : (x == ("__debug__" : Str)) = false) (he : starEach (e :: es) X.env = (false, eval e X.env) :: starEach es X.env) (hpl : (backTo pos (starEach es X.env)).any (·.1) = false) : PE X (.Call (.Name x p) (e :: es) [] pos) (tCallS sp E t) := by
  constructor
  intro pins s σ H Q I h
  apply wpAny_Call_Name_kw
  refine ld_glob I hg hm ?_ hdb
  refine PySem.W.callWith_K (h₀ := X.base) I.ok.mod.kin hk ?_ he hpl
  refine thn (ha.run pos pins s σ H _ I h) ?_
  rintro us s1 ⟨vs, H1, I1, r, q⟩
  exact ⟨I1.kIn, run_G hT F hr hgd hb (hx σ) I1 r q⟩
end
structure Df (T : Tb) (x : Str) (m : Fm) (n k : Nat) : Prop where
  ex : ∃ (f : Addr) (fd : FuncData) (ps : List Str), T.mg x = some (.ref f) ∧ PySem.W.keepIn T.K (.ref f) = true ∧ Binds T.K fd ps [] ∧ ps.length = n ∧ FnG T k f fd ps (spM T n m)
def xCall (m : Fm) (a : M (List Rv)) : M Rv := fun ρ => bnd (a ρ) fun rs ρ1 => bnd (fzM rs ρ1) fun ds ρ2 => match m (ds.map .im) with
  | none => none
  | some (.ok (.im d) _) => some (.ok (.im d) ρ2)
  | some (.ok (.nw ob) _) => some (.ok (.nw ob) ρ2)
  | some (.ok (.al _) _) => none
  | some (.ex e _) => some (.ex e ρ2)
/-- the first argument is a slot's own object, which the def may change -/
def xCallO (m : Fm) (a : M (List Rv)) : M Rv := fun ρ => bnd (a ρ) fun rs ρ1 => match rs with
  | .al i :: rs' => bnd (fzM rs' ρ1) fun ds ρ2 => match ρ2[i]? with
    | some (.ow par ob) => match m (.ow true ob :: ds.map .im) with
      | some (.ok (.im d) (.ow true ob' :: _)) => some (.ok (.im d) (ρ2.set i (.ow par ob')))
      | some (.ex e (.ow true ob' :: _)) => some (.ex e (ρ2.set i (.ow par ob')))
      | _ => none
    | _ => none
  | _ => none
section
variable {T : Tb} {Gs Hs G H G' H' : Hp} {σs σ σc : L2.St} {ρs ρ ρc ρc' : En}
theorem im_map {ds : List D} {i : Nat} {s : Sl} (h : (ds.map Sl.im)[i]? = some s) : ∃ d, s = .im d ∧ ds[i]? = some d := by
  rw [List.getElem?_map] at h
  cases e : ds[i]? with
  | none => rw [e] at h; cases h
  | some d => rw [e] at h; cases h; exact ⟨d, rfl, rfl⟩
theorem ok_params (k : Ok T G H σ ρ) {vs : List V} {ds : List D} (r : RpL T G vs ds) : Ok T G H (vs.map some) (ds.map .im) where
  ex := k.ex
  tb := k.tb
  len := by simp [r.length]
  im := fun i d h => by
    obtain ⟨d', e, h'⟩ := im_map h
    cases e
    obtain ⟨v, e, rv⟩ := r.getD h'
    exact ⟨v, by rw [List.getElem?_map, e]; rfl, rv⟩
  ow := fun i par ob h => by obtain ⟨_, e, _⟩ := im_map h; cases e
  ds := fun i j p a x b y _ h => by obtain ⟨_, e, _⟩ := im_map h; cases e
theorem no_own_map {ds : List D} {a : Addr} : ¬ OwnAt σ (ds.map Sl.im) a := fun ⟨i, par, ob, h, _⟩ => by obtain ⟨_, e, _⟩ := im_map h; cases e
/-- a def that got data has run -/
theorem frame_pure (k : Ok T G H σ ρ) (kc : Ok T G H σc ρc) (kc' : Ok T G' H' σc ρc') (s : Stp G H σc ρc G' H' σc ρc') (hno : ∀ a, ¬ OwnAt σc ρc a) : Ok T G' H' σ ρ ∧ Stp G H σ ρ G' H' σ ρ := by
  have x := s.ext kc
  refine ⟨⟨kc'.ex, kc'.tb, k.len, fun i d h => ?_, fun i par ob h => ?_, k.ds⟩, ⟨fun a o h nt _ => s.keep a o h nt (hno a), fun a h => .inl h, s.dom, fun i ob h => ⟨⟨ob, h⟩, rfl⟩, s.tbl⟩⟩
  · obtain ⟨v, e, r⟩ := k.im i d h
    exact ⟨v, e, r.mono x⟩
  · obtain ⟨p, o, e1, e2, e3, e4⟩ := k.ow i par ob h
    obtain ⟨q1, q2⟩ := s.keep p o e3 e4.nt (hno p)
    exact ⟨p, o, e1, q2.trans e2, q1, e4.mono x⟩
/-- a def that got one own object has run -/
theorem frame_own (k : Ok T G H σ ρ) (kc : Ok T G H σc ρc) (kc' : Ok T G' H' σc ρc') (s : Stp G H σc ρc G' H' σc ρc') {i : Nat} {par : Bool} {ob ob' : Ob} {p : Addr} (hi : ρ[i]? = some (.ow par ob)) (hp : σ[i]? = some (some (.ref p))) (hown : ∀ a, OwnAt σc ρc a → a = p)
    {o' : HO} (h1 : H' p = some o') (h2 : G' p = none) (h3 : ObOk T G' o' ob') : Ok T G' H' σ (ρ.set i (.ow par ob')) ∧ Stp G H σ ρ G' H' σ (ρ.set i (.ow par ob')) := by
  have x := s.ext kc
  have hlt : i < ρ.length := (List.getElem?_eq_some_iff.mp hi).1
  have nots : ∀ j, j ≠ i → (ρ.set i (.ow par ob'))[j]? = ρ[j]? := fun j h => List.getElem?_set_ne (Ne.symm h)
  have hop : OwnAt σ ρ p := ⟨i, par, ob, hi, hp⟩
  have so : ∀ a, OwnAt σ (ρ.set i (.ow par ob')) a → OwnAt σ ρ a := fun a ⟨j, pr, x, e1, e2⟩ => by
    by_cases q : j = i
    · subst q; rw [hp] at e2; cases e2; exact hop
    · rw [nots j q] at e1; exact ⟨j, pr, x, e1, e2⟩
  refine ⟨⟨kc'.ex, kc'.tb, by simpa using k.len, fun j d h => ?_, fun j pr y h => ?_, fun a b q x1 y1 x2 y2 hab e1 e2 e3 e4 => ?_⟩, ⟨fun a o h nt hn => s.keep a o h nt fun w => hn (by rw [hown a w]; exact hop), fun a h => .inl (so a h), s.dom, fun j y h => ?_, s.tbl⟩⟩
  · by_cases q : j = i
    · subst q; rw [List.getElem?_set_self hlt] at h; cases h
    · rw [nots j q] at h
      obtain ⟨v, e, r⟩ := k.im j d h
      exact ⟨v, e, r.mono x⟩
  · by_cases q : j = i
    · subst q; rw [List.getElem?_set_self hlt] at h; cases h
      exact ⟨p, o', hp, h2, h1, h3⟩
    · rw [nots j q] at h
      obtain ⟨p2, o, e1, e2, e3, e4⟩ := k.ow j pr y h
      have hne : ¬ OwnAt σc ρc p2 := fun w => k.ds j i p _ _ _ _ q h hi (by rw [← hown p2 w]; exact e1) hp
      obtain ⟨q1, q2⟩ := s.keep p2 o e3 e4.nt hne
      exact ⟨p2, o, e1, q2.trans e2, q1, e4.mono x⟩
  · have f : ∀ (j : Nat) pr y, (ρ.set i (.ow par ob'))[j]? = some (.ow pr y) → ∃ pr' y', ρ[j]? = some (.ow pr' y') := fun j pr y h => by
      by_cases z : j = i
      · subst z; exact ⟨_, _, hi⟩
      · rw [nots j z] at h; exact ⟨_, _, h⟩
    obtain ⟨_, _, g1⟩ := f a _ _ e1
    obtain ⟨_, _, g2⟩ := f b _ _ e2
    exact k.ds a b q _ _ _ _ hab g1 g2 e3 e4
  · by_cases q : j = i
    · subst q; rw [hi] at h; cases h
      exact ⟨⟨ob', List.getElem?_set_self hlt⟩, rfl⟩
    · exact ⟨⟨y, by rw [nots j q]; exact h⟩, rfl⟩
end
section
variable {C : Cf} {pos : Pos}
theorem cx_P {X : Cx} {W : WX} (c : CxOk C X W) : X.prog = C.T.P := congrArg Tb.P c.tb
theorem cx_w {X : Cx} {W : WX} (c : CxOk C X W) : X.w = C.T.w := congrArg Tb.w c.tb
theorem cx_base {X : Cx} {W : WX} (c : CxOk C X W) : X.base = C.T.base := congrArg Tb.base c.tb
theorem xe_call {x : Str} {m : Fm} {n k : Nat} {p : Pos} {e : Expr} {es : List Expr} {a : M (List Rv)} (F : Df C.T x m n k) (ha : XA C (e :: es) a) (hn : (e :: es).length = n := by rfl) (hk : k ≤ C.k := by exact Nat.le_of_ble_eq_true rfl) (hg : C.sc.names.lookup x = some .globalImplicit := by rfl) (hdb : (x == ("__debug__" : Str)) = false := by decide)
    (he : ∀ env, starEach (e :: es) env = (false, eval e env) :: starEach es env := by intro _; rfl) (hpl : ∀ env, (backTo pos (starEach es env)).any (·.1) = false := by intro _; rfl) : XE C (.Call (.Name x p) (e :: es) [] pos) (xCall m a) := by
  obtain ⟨hl, t, pp, q⟩ := ha
  obtain ⟨f, fd, ps, h1, h2, h3, h4, h5⟩ := F
  refine ⟨fun W => tCallS (spM C.T n m) (WE W) (t W), fun X W c => pe_callG c.tb h5 (c.room.mono hk) c.gd (cx_gl c hg) (by rw [cx_mg c]; exact h1) (by rw [cx_K c]; exact h2) (by rw [cx_K c]; exact h3) (fun σ => passAt c.tk σ) (pp X W c) hdb (he _) (hpl _), fun W G H σ ρ Q k h => ?_⟩
  unfold xCall at h
  cases ea : a ρ with
  | none => rw [ea] at h; exact h.elim
  | some y =>
    cases y with
    | ex ee ρ' => rw [ea] at h; exact q W G H σ ρ _ k (by rw [ea]; exact h)
    | ok rs ρ1 =>
      have hlr := hl _ _ _ ea
      rw [ea] at h
      refine q W G H σ ρ _ k ?_
      rw [ea]
      intro vs G1 H1 k1 s1 r1
      simp only [bnd_ok, fzM] at h
      cases e2 : fzs rs ρ1 with
      | none => rw [e2] at h; exact h.elim
      | some y =>
        obtain ⟨ds, ρ2⟩ := y
        rw [e2] at h
        simp only [bnd_ok] at h
        obtain ⟨G2, F2, rl⟩ := fzs_ok k1 s1 r1 e2
        have kc := ok_params F2.ok rl
        refine ⟨by rw [r1.length, hlr]; exact hn, G2, ds.map .im, (fun i par ob h => by obtain ⟨_, e, _⟩ := im_map h; cases e), kc, ?_⟩
        cases em : m (ds.map .im) with
        | none => rw [em] at h; exact h
        | some y =>
          rw [em] at h
          cases y with
          | ok d ρ' =>
            intro v G' H' k' s' r'
            obtain ⟨k3, s3⟩ := frame_pure F2.ok kc k' s' (fun a => no_own_map)
            cases d with
            | im d => exact h v G' H' k3 (F2.st.trans s3) r'
            | al i => exact h.elim
            | nw ob =>
              obtain ⟨p, o, rfl, f1, f2, f3, f4, f5⟩ := r'
              refine h (.ref p) G' H' k3 (F2.st.trans s3) ⟨p, o, rfl, F2.st.dom p f1, f2, f3, f4, fun w => ?_⟩
              exact F2.ok.fresh_own f1 w
          | ex ee ρ' =>
            intro cls dd G' H' k' s' r'
            obtain ⟨k3, s3⟩ := frame_pure F2.ok kc k' s' (fun a => no_own_map)
            exact h cls dd G' H' k3 (F2.st.trans s3) r'
theorem xe_callO {x : Str} {m : Fm} {n k : Nat} {p : Pos} {e : Expr} {es : List Expr} {a : M (List Rv)} (F : Df C.T x m n k) (ha : XA C (e :: es) a) (hn : (e :: es).length = n := by rfl) (hk : k ≤ C.k := by exact Nat.le_of_ble_eq_true rfl) (hg : C.sc.names.lookup x = some .globalImplicit := by rfl) (hdb : (x == ("__debug__" : Str)) = false := by decide)
    (he : ∀ env, starEach (e :: es) env = (false, eval e env) :: starEach es env := by intro _; rfl) (hpl : ∀ env, (backTo pos (starEach es env)).any (·.1) = false := by intro _; rfl) : XE C (.Call (.Name x p) (e :: es) [] pos) (xCallO m a) := by
  obtain ⟨hl, t, pp, q⟩ := ha
  obtain ⟨f, fd, ps, h1, h2, h3, h4, h5⟩ := F
  refine ⟨fun W => tCallS (spM C.T n m) (WE W) (t W), fun X W c => pe_callG c.tb h5 (c.room.mono hk) c.gd (cx_gl c hg) (by rw [cx_mg c]; exact h1) (by rw [cx_K c]; exact h2) (by rw [cx_K c]; exact h3) (fun σ => passAt c.tk σ) (pp X W c) hdb (he _) (hpl _), fun W G H σ ρ Q k h => ?_⟩
  unfold xCallO at h
  cases ea : a ρ with
  | none => rw [ea] at h; exact h.elim
  | some y =>
    cases y with
    | ex ee ρ' => rw [ea] at h; exact q W G H σ ρ _ k (by rw [ea]; exact h)
    | ok rs ρ1 =>
      have hlr := hl _ _ _ ea
      rw [ea] at h
      refine q W G H σ ρ _ k ?_
      rw [ea]
      intro vs G1 H1 k1 s1 r1
      simp only [bnd_ok] at h
      split at h
      · rename_i i rs'
        cases r1 with
        | cons ra nd rr =>
          rename_i v0 vs'
          simp only [fzM] at h
          cases e2 : fzs rs' ρ1 with
          | none => rw [e2] at h; exact h.elim
          | some y =>
            obtain ⟨ds, ρ2⟩ := y
            rw [e2] at h
            simp only [bnd_ok] at h
            obtain ⟨G2, F2, rl⟩ := fzs_ok k1 s1 rr e2
            split at h
            · rename_i par ob hi
              obtain ⟨pp, o, e1, g2, e3, e4⟩ := F2.ok.ow i _ _ hi
              have ra : σ[i]? = some (some v0) := ra
              rw [e1] at ra; cases ra
              have kp := ok_params F2.ok rl
              -- the def's parameters
              have kc : Ok C.T G2 H1 ((V.ref pp :: vs').map some) (.ow true ob :: ds.map .im) := by
                refine ⟨F2.ok.ex, F2.ok.tb, by simp [rl.length], fun j d h => ?_, fun j pr y h => ?_, fun a b z x1 y1 x2 y2 hab f1 f2 f3 f4 => ?_⟩
                · cases j with
                  | zero => cases h
                  | succ j => exact kp.im j d h
                · cases j with
                  | zero => cases h; exact ⟨pp, o, rfl, g2, e3, e4⟩
                  | succ j => exact kp.ow j pr y h
                · cases a with
                  | zero =>
                    cases b with
                    | zero => exact hab rfl
                    | succ b => obtain ⟨_, w, _⟩ := im_map (show (ds.map Sl.im)[b]? = _ from f2); cases w
                  | succ a => obtain ⟨_, w, _⟩ := im_map (show (ds.map Sl.im)[a]? = _ from f1); cases w
              have hown : ∀ a, OwnAt ((V.ref pp :: vs').map some) (.ow true ob :: ds.map .im) a → a = pp := fun a ⟨j, pr, y, w1, w2⟩ => by
                cases j with
                | zero => cases w2; rfl
                | succ j => obtain ⟨_, w, _⟩ := im_map (show (ds.map Sl.im)[j]? = _ from w1); cases w
              refine ⟨by rw [← hn, ← hlr]; simp [rr.length], G2, .ow true ob :: ds.map .im, fun j pr y h => ?_, kc, ?_⟩
              · cases j with
                | zero => cases h; rfl
                | succ j => obtain ⟨_, w, _⟩ := im_map (show (ds.map Sl.im)[j]? = _ from h); cases w
              split at h
              · rename_i d ob' tl em
                rw [em]
                intro v G' H' k' s' r'
                obtain ⟨p', o', w1, w2, w3, w4⟩ := k'.ow 0 true ob' rfl
                cases w1
                obtain ⟨k3, s3⟩ := frame_own F2.ok kc k' s' hi e1 hown w3 w2 w4
                exact h v G' H' k3 (F2.st.trans s3) r'
              · rename_i ee ob' tl em
                rw [em]
                intro cls dd G' H' k' s' r'
                obtain ⟨p', o', w1, w2, w3, w4⟩ := k'.ow 0 true ob' rfl
                cases w1
                obtain ⟨k3, s3⟩ := frame_own F2.ok kc k' s' hi e1 hown w3 w2 w4
                exact h cls dd G' H' k3 (F2.st.trans s3) r'
              · exact h.elim
            · exact h.elim
      · exact h.elim
end

/-! ### a def by its body -/
def finP : En → En → En
  | [], _ => []
  | .ow true _ :: ρ, s :: ρ' => s :: finP ρ ρ'
  | s :: ρ, _ :: ρ' => s :: finP ρ ρ'
  | s :: ρ, [] => s :: finP ρ []
def fnM (n tot : Nat) (b : MS) : Fm := fun ρ => match b (ρ ++ List.replicate (tot - n) .un) with
  | some (.rt (.im d) ρ') => some (.ok (.im d) (finP ρ ρ'))
  | some (.rt (.nw ob) ρ') => some (.ok (.nw ob) (finP ρ ρ'))
  | some (.nx ρ') => some (.ok (.im .non) (finP ρ ρ'))
  | some (.ex e ρ') => some (.ex e (finP ρ ρ'))
  | _ => none
theorem finP_at : ∀ (ρ ρ' : En) (i : Nat), i < ρ'.length → (finP ρ ρ')[i]? = if isPar ρ[i]? = true then ρ'[i]? else ρ[i]?
  | [], _, i, _ => by simp [finP, isPar]
  | s :: ρ, [], i, h => by simp at h
  | s :: ρ, s' :: ρ', i, h => by
    have ih := finP_at ρ ρ'
    cases i with
    | zero =>
      cases s with
      | un => simp [finP, isPar]
      | im d => simp [finP, isPar]
      | ow par ob => cases par <;> simp [finP, isPar]
    | succ i =>
      have h' : i < ρ'.length := by simpa using h
      cases s with
      | un => simpa [finP] using ih i h'
      | im d => simpa [finP] using ih i h'
      | ow par ob => cases par <;> simpa [finP] using ih i h'
theorem finP_nil : ∀ (ρ : En), finP ρ [] = ρ
  | [] => rfl
  | s :: ρ => by cases s <;> simp [finP, finP_nil ρ]
theorem finP_no : ∀ (ρ ρ' : En) (i : Nat), isPar ρ[i]? = false → (finP ρ ρ')[i]? = ρ[i]?
  | [], _, i, _ => by simp [finP]
  | s :: ρ, [], i, h => by rw [finP_nil]
  | s :: ρ, s' :: ρ', i, h => by
    have ih := finP_no ρ ρ'
    cases i with
    | zero =>
      cases s with
      | un => simp [finP]
      | im d => simp [finP]
      | ow par ob => cases par <;> simp [finP, isPar] at h ⊢
    | succ i =>
      have h' : isPar ρ[i]? = false := by simpa using h
      cases s with
      | un => simpa [finP] using ih i h'
      | im d => simpa [finP] using ih i h'
      | ow par ob => cases par <;> simpa [finP] using ih i h'
theorem finP_length : ∀ (ρ ρ' : En), (finP ρ ρ').length = ρ.length
  | [], _ => rfl
  | s :: ρ, [] => by simp [finP, finP_length ρ []]
  | s :: ρ, s' :: ρ' => by
    cases s with
    | un => simp [finP, finP_length ρ ρ']
    | im d => simp [finP, finP_length ρ ρ']
    | ow par ob => cases par <;> simp [finP, finP_length ρ ρ']
section
variable {T : Tb} {G H G' H' : Hp} {σ' : L2.St} {ρ ρ' : En} {vs : List V}
theorem isPar_iff {o : Option Sl} : isPar o = true ↔ ∃ ob, o = some (.ow true ob) := by
  cases o with
  | none => simp [isPar]
  | some s =>
    cases s with
    | un => simp [isPar]
    | im d => simp [isPar]
    | ow par ob => cases par <;> simp [isPar]
theorem start_ok (k : Ok T G H (vs.map some) ρ) (N : List Str) : Ok T G H (L2.start N vs) (ρ ++ List.replicate (N.length - ρ.length) .un) := by
  have hl : ρ.length = vs.length := by simpa using k.len
  have low : ∀ (i : Nat) s, (ρ ++ List.replicate (N.length - ρ.length) Sl.un)[i]? = some s → s ≠ .un → ρ[i]? = some s ∧ (L2.start N vs)[i]? = (vs.map some)[i]? := fun i s h hn => by
    by_cases q : i < ρ.length
    · rw [List.getElem?_append_left q] at h
      exact ⟨h, by unfold L2.start; rw [List.getElem?_append_left (by simpa [hl] using q)]⟩
    · rw [List.getElem?_append_right (by omega)] at h
      obtain ⟨_, e⟩ := List.getElem?_eq_some_iff.mp h
      simp at e; exact absurd e.symm hn
  refine ⟨k.ex, k.tb, by simp [L2.start, hl], fun i d h => ?_, fun i par ob h => ?_, fun a b p x1 y1 x2 y2 hab h1 h2 h3 h4 => ?_⟩
  · obtain ⟨e1, e2⟩ := low i _ h (fun z => by cases z)
    rw [e2]; exact k.im i d e1
  · obtain ⟨e1, e2⟩ := low i _ h (fun z => by cases z)
    rw [e2]; exact k.ow i par ob e1
  · obtain ⟨e1, e2⟩ := low a _ h1 (fun z => by cases z)
    obtain ⟨f1, f2⟩ := low b _ h2 (fun z => by cases z)
    rw [e2] at h3; rw [f2] at h4
    exact k.ds a b p _ _ _ _ hab e1 f1 h3 h4
theorem end_ok (ap : AllPar ρ) (k : Ok T G H (vs.map some) ρ) (N : List Str) (hN : ρ.length ≤ N.length) (k' : Ok T G' H' σ' ρ') (s : Stp G H (L2.start N vs) (ρ ++ List.replicate (N.length - ρ.length) .un) G' H' σ' ρ') :
    Ok T G' H' (vs.map some) (finP ρ ρ') ∧ Stp G H (vs.map some) ρ G' H' (vs.map some) (finP ρ ρ') ∧ (∀ a, OwnAt (vs.map some) (finP ρ ρ') a → OwnAt σ' ρ' a) := by
  have hl : ρ.length = vs.length := by simpa using k.len
  have k0 := start_ok k N
  have x := s.ext k0
  have lt_ : ∀ (i : Nat) s, (finP ρ ρ')[i]? = some s → i < ρ.length := fun i s h => by
    have := (List.getElem?_eq_some_iff.mp h).1
    rwa [finP_length] at this
  have ap_at : ∀ (i : Nat), i < ρ.length → (ρ ++ List.replicate (N.length - ρ.length) Sl.un)[i]? = ρ[i]? := fun i h => List.getElem?_append_left h
  have st_at : ∀ (i : Nat), i < ρ.length → (L2.start N vs)[i]? = (vs.map some)[i]? := fun i h => by unfold L2.start; rw [List.getElem?_append_left (by simpa [hl] using h)]
  have at_ : ∀ i, i < ρ.length → (finP ρ ρ')[i]? = if isPar ρ[i]? = true then ρ'[i]? else ρ[i]? := fun i h => by
    by_cases q : isPar ρ[i]? = true
    · obtain ⟨ob0, e0⟩ := isPar_iff.mp q
      obtain ⟨⟨ob', e⟩, _⟩ := s.par i ob0 (by rw [ap_at i h]; exact e0)
      exact finP_at ρ ρ' i (List.getElem?_eq_some_iff.mp e).1
    · rw [if_neg q]; exact finP_no ρ ρ' i (by simpa using q)
  have par_ : ∀ (i : Nat) par ob, (finP ρ ρ')[i]? = some (.ow par ob) → (∃ ob0, ρ[i]? = some (.ow true ob0)) ∧ ρ'[i]? = some (.ow par ob) ∧ σ'[i]? = (vs.map some)[i]? := fun i par ob h => by
    have hi := lt_ i _ h
    rw [at_ i hi] at h
    split at h
    · rename_i q
      obtain ⟨ob0, e0⟩ := isPar_iff.mp q
      obtain ⟨_, e⟩ := s.par i ob0 (by rw [ap_at i hi]; exact e0)
      exact ⟨⟨ob0, e0⟩, h, e.trans (st_at i hi)⟩
    · rename_i q
      have := ap i par ob h
      subst this
      exact absurd (isPar_iff.mpr ⟨ob, h⟩) q
  refine ⟨⟨k'.ex, k'.tb, by rw [finP_length]; exact k.len, fun i d h => ?_, fun i par ob h => ?_, fun a b p x1 y1 x2 y2 hab h1 h2 h3 h4 => ?_⟩, ⟨fun a o h nt hn => s.keep a o h nt fun ⟨i, par, ob, w1, w2⟩ => ?_, fun a ⟨i, par, ob, w1, w2⟩ => ?_, s.dom, fun i ob h => ?_, s.tbl⟩, fun a ⟨i, par, ob, w1, w2⟩ => ?_⟩
  · have hi := lt_ i _ h
    rw [at_ i hi] at h
    split at h
    · rename_i q
      obtain ⟨ob0, e0⟩ := isPar_iff.mp q
      obtain ⟨⟨ob', e⟩, _⟩ := s.par i ob0 (by rw [ap_at i hi]; exact e0)
      rw [h] at e; cases e
    · obtain ⟨v, e, r⟩ := k.im i d h
      exact ⟨v, e, r.mono x⟩
  · obtain ⟨_, e1, e2⟩ := par_ i par ob h
    rw [← e2]; exact k'.ow i par ob e1
  · obtain ⟨_, e1, e2⟩ := par_ a _ _ h1
    obtain ⟨_, f1, f2⟩ := par_ b _ _ h2
    rw [← e2] at h3; rw [← f2] at h4
    exact k'.ds a b p _ _ _ _ hab e1 f1 h3 h4
  · have hi : i < ρ.length := by
      apply Nat.lt_of_not_le
      intro q
      rw [List.getElem?_append_right q] at w1
      obtain ⟨_, e⟩ := List.getElem?_eq_some_iff.mp w1
      simp at e
    rw [ap_at i hi] at w1; rw [st_at i hi] at w2
    exact hn ⟨i, par, ob, w1, w2⟩
  · obtain ⟨⟨ob0, e0⟩, _, _⟩ := par_ i par ob w1
    exact .inl ⟨i, true, ob0, e0, w2⟩
  · have hi : i < ρ.length := (List.getElem?_eq_some_iff.mp h).1
    obtain ⟨⟨ob', e⟩, _⟩ := s.par i ob (by rw [ap_at i hi]; exact h)
    exact ⟨⟨ob', by rw [at_ i hi, if_pos (isPar_iff.mpr ⟨ob, h⟩)]; exact e⟩, rfl⟩
  · obtain ⟨_, e1, e2⟩ := par_ i par ob w1
    exact ⟨i, par, ob, e1, e2.trans w2⟩
end
theorem df_mk {T : Tb} {x qual : Str} {st : Stmt} {f : Addr} {fd : FuncData} {N ps : List Str} {k : Nat} {b : MS} (F : Fun T.K x qual st f fd) (hx : T.mg x = some (.ref f)) (S : FnScope N ps (defScope st)) (hps : ps.length ≤ N.length)
    (hb : XSs ⟨T, N, defScope st, k, fun _ => true⟩ (defBody st) b)
    (hbd : ∀ (kV doc pm : Value) (an : Option Addr) (cdv ct : Value) (us : List Value), us.length = ps.length → bindArgs (PySem.W.fnOf x qual (defArgs st) (defBody st) (defScope st) .none kV doc pm an cdv ct) ⟨us, []⟩ = pure (ps.zip us)) : Df T x (fnM ps.length N.length b) ps.length (k + 1) := by
  obtain ⟨t, pb, qb⟩ := hb
  refine ⟨f, fd, ps, hx, F.kp, F.binds hbd, rfl, fnG_mk F S (fun vs H Q E h => h.1) fun cdv A outer s H vs Q E hr hgd h => ?_⟩
  obtain ⟨hv, G, ρ, ap, k0, h⟩ := h
  have hl : ρ.length = vs.length := by simpa using k0.len
  have hlp : ρ.length = ps.length := hl.trans hv
  refine ⟨t (fun cls d _ H => E cls d H), pb _ _ ⟨⟨rfl, rfl, S.nd, rfl, rfl, hr, takes_of rfl rfl rfl rfl, passes_of rfl, rfl, hgd⟩, rfl, rfl⟩, qb _ G H _ (ρ ++ List.replicate (N.length - ρ.length) .un) _ (start_ok k0 N) ?_⟩
  unfold fnM at h
  rw [hlp]
  cases e : b (ρ ++ List.replicate (N.length - ps.length) .un) with
  | none => rw [e] at h; exact h
  | some y =>
    rw [e] at h
    rw [← hlp] at e ⊢
    have fin : ∀ {σ' : L2.St} {G' H' : Hp} {ρ' : En}, Ok T G' H' σ' ρ' → Stp G H (L2.start N vs) (ρ ++ List.replicate (N.length - ρ.length) .un) G' H' σ' ρ' → Ok T G' H' (vs.map some) (finP ρ ρ') ∧ Stp G H (vs.map some) ρ G' H' (vs.map some) (finP ρ ρ') ∧ (∀ a, OwnAt (vs.map some) (finP ρ ρ') a → OwnAt σ' ρ' a) :=
      fun k' s' => end_ok ap k0 N (by omega) k' s'
    cases y with
    | nx ρ' => exact fun σ' G' H' k' s' => let ⟨a, b, _⟩ := fin k' s'; h V.non G' H' a b .non
    | rt d ρ' =>
      intro v σ' G' H' k' s' r
      obtain ⟨a, b, c⟩ := fin k' s'
      cases d with
      | im d => exact h v G' H' a b r
      | al i => exact h.elim
      | nw ob =>
        obtain ⟨p, o, rfl, f1, f2, f3, f4, f5⟩ := r
        exact h (.ref p) G' H' a b ⟨p, o, rfl, f1, f2, f3, f4, fun w => f5 (c p w)⟩
    | bk ρ' => exact h.elim
    | ct ρ' => exact h.elim
    | ex ee ρ' => exact fun cls d σ' G' H' k' s' r => let ⟨a, b, _⟩ := fin k' s'; h cls d G' H' a b r
end L2.DL
namespace L2.DL
open PySem PySem.Spec PyProof.Rows

/-! ### what is never reached -/
def sNever : MS := fun _ => none
def xNever : M Rv := fun _ => none
theorem xs_never {C : Cf} {st : Stmt} : XS C st sNever := ⟨fun _ => tNever, fun _ _ _ => ps_never, fun _ _ _ _ _ _ _ h => h.elim⟩
theorem xss_never {C : Cf} {st : List Stmt} : XSs C st sNever := ⟨fun _ => tNever, fun _ _ _ => pss_never, fun _ _ _ _ _ _ _ h => h.elim⟩

/-! ### functions of values -/
section
variable {T : Tb} {G H : Hp} {xs : List V}
theorem one_vw {d : D} (hl : xs.length = ([d] : List D).length) (h : ∀ (j : Nat) v e, xs[j]? = some v → ([d] : List D)[j]? = some e → Vw T G H v e) : ∃ v, xs = [v] ∧ Vw T G H v d := by
  match xs, hl with
  | [v], _ => exact ⟨v, rfl, h 0 v d rfl rfl⟩
theorem two_vw {d e : D} (hl : xs.length = ([d, e] : List D).length) (h : ∀ (j : Nat) v z, xs[j]? = some v → ([d, e] : List D)[j]? = some z → Vw T G H v z) : ∃ v w, xs = [v, w] ∧ Vw T G H v d ∧ Vw T G H w e := by
  match xs, hl with
  | [v, w], _ => exact ⟨v, w, rfl, h 0 v d rfl rfl, h 1 w e rfl rfl⟩
end
def fLen : List D → Option Dr
  | [.lst ds] => some (.pd (.int ds.length))
  | [.tup ds] => some (.pd (.int ds.length))
  | [.scr ns] => some (.pd (.int ns.length))
  | [.str z] => if z.length ≤ sizeLine then some (.pd (.int z.length)) else none
  | _ => none
def rLenA (K : PySem.W.Frag) : List V → Hp → VK → Prop := fun xs H Q => ∃ x n, xs = [x] ∧ LenV K x H n ∧ Q (.int n) H
theorem ok_len {T : Tb} : FnD T (rLenA T.K) fLen := by
  intro G H xs ds res Q e hl hv hf q
  unfold fLen at hf
  split at hf
  · cases hf
    obtain ⟨v, rfl, h⟩ := one_vw hl hv
    obtain ⟨p, vs, rfl, h1, r1⟩ := vw_lst e h
    refine ⟨_, _, rfl, .inl ⟨vs, SqL.of h1, rfl⟩, ?_⟩
    rw [r1.length]; exact por_pd q e (.int _)
  · cases hf
    obtain ⟨v, rfl, h⟩ := one_vw hl hv
    obtain ⟨p, vs, rfl, h1, r1, _⟩ := vw_tup e h
    refine ⟨_, _, rfl, .inr ⟨vs, h1, rfl⟩, ?_⟩
    rw [r1.length]; exact por_pd q e (.int _)
  · cases hf
    obtain ⟨v, rfl, h⟩ := one_vw hl hv
    obtain ⟨p, rfl, h1⟩ := vw_scr e h
    refine ⟨_, _, rfl, .inl ⟨_, h1, rfl⟩, ?_⟩
    rw [List.length_map]; exact por_pd q e (.int _)
  · split at hf
    · rename_i hz
      cases hf
      obtain ⟨v, rfl, h⟩ := one_vw hl hv
      have := vw_str h; subst v
      exact ⟨_, _, rfl, ⟨hz, rfl⟩, por_pd q e (.int _)⟩
    · cases hf
  · cases hf
def fAbs : List D → Option Dr
  | [.int i] => some (.pd (.int (if i < 0 then -i else i)))
  | _ => none
def rAbsA : List V → Hp → VK → Prop := fun xs H Q => ∃ i, xs = [.int i] ∧ Q (.int (if i < 0 then -i else i)) H
theorem ok_abs {T : Tb} : FnD T rAbsA fAbs := by
  intro G H xs ds res Q e hl hv hf q
  unfold fAbs at hf
  split at hf
  · cases hf
    obtain ⟨v, rfl, h⟩ := one_vw hl hv
    have := vw_int h; subst v
    exact ⟨_, rfl, por_pd q e (.int _)⟩
  · cases hf
def fMax2 : List D → Option Dr
  | [.int i, .int j] => some (.pd (.int (if j > i then j else i)))
  | _ => none
def rMax2A : List V → Hp → VK → Prop := fun xs H Q => ∃ i j, xs = [.int i, .int j] ∧ Q (.int (if j > i then j else i)) H
theorem ok_max2 {T : Tb} : FnD T rMax2A fMax2 := by
  intro G H xs ds res Q e hl hv hf q
  unfold fMax2 at hf
  split at hf
  · cases hf
    obtain ⟨v, w, rfl, h, h'⟩ := two_vw hl hv
    have := vw_int h; have := vw_int h'; subst v w
    exact ⟨_, _, rfl, por_pd q e (.int _)⟩
  · cases hf
def fMin2 : List D → Option Dr
  | [.int i, .int j] => some (.pd (.int (if j < i then j else i)))
  | _ => none
def rMin2A : List V → Hp → VK → Prop := fun xs H Q => ∃ i j, xs = [.int i, .int j] ∧ Q (.int (if j < i then j else i)) H
theorem ok_min2 {T : Tb} : FnD T rMin2A fMin2 := by
  intro G H xs ds res Q e hl hv hf q
  unfold fMin2 at hf
  split at hf
  · cases hf
    obtain ⟨v, w, rfl, h, h'⟩ := two_vw hl hv
    have := vw_int h; have := vw_int h'; subst v w
    exact ⟨_, _, rfl, por_pd q e (.int _)⟩
  · cases hf
def fInt : List D → Option Dr
  | [.int i] => some (.pd (.int i))
  | [.bl k] => some (.pd (.int (if k then 1 else 0)))
  | _ => none
def rIntA : List V → Hp → VK → Prop := fun xs H Q => (∃ i, xs = [.int i] ∧ Q (.int i) H) ∨ ∃ k, xs = [.bl k] ∧ Q (.int (if k then 1 else 0)) H
theorem ok_int {T : Tb} : FnD T rIntA fInt := by
  intro G H xs ds res Q e hl hv hf q
  unfold fInt at hf
  split at hf
  · cases hf
    obtain ⟨v, rfl, h⟩ := one_vw hl hv
    have := vw_int h; subst v
    exact .inl ⟨_, rfl, por_pd q e (.int _)⟩
  · cases hf
    obtain ⟨v, rfl, h⟩ := one_vw hl hv
    have := vw_bl h; subst v
    exact .inr ⟨_, rfl, por_pd q e (.int _)⟩
  · cases hf
def fList : List D → Option Dr
  | [.lst ds] => some (.nl ds)
  | [.tup ds] => some (.nl ds)
  | [.scr ns] => some (.nl (ns.map .int))
  | _ => none
def rListA (K : PySem.W.Frag) : List V → Hp → VK → Prop := fun xs H Q => ∃ p ys, xs = [.ref p] ∧ (SqL K H p ys ∨ SqT K H p ys) ∧ ∀ l, H l = none → Q (.ref l) (upd H l (.lst ys))
theorem ok_list {T : Tb} : FnD T (rListA T.K) fList := by
  intro G H xs ds res Q e hl hv hf q
  unfold fList at hf
  split at hf
  · cases hf
    obtain ⟨v, rfl, h⟩ := one_vw hl hv
    obtain ⟨p, vs, rfl, h1, r1⟩ := vw_lst e h
    exact ⟨_, _, rfl, .inl (SqL.of h1), fun l hp => q l _ hp r1⟩
  · cases hf
    obtain ⟨v, rfl, h⟩ := one_vw hl hv
    obtain ⟨p, vs, rfl, h1, r1, _⟩ := vw_tup e h
    exact ⟨_, _, rfl, .inr h1, fun l hp => q l _ hp r1⟩
  · cases hf
    obtain ⟨v, rfl, h⟩ := one_vw hl hv
    obtain ⟨p, rfl, h1⟩ := vw_scr e h
    exact ⟨_, _, rfl, .inl h1, fun l hp => q l _ hp (rpl_ints _)⟩
  · cases hf
def fTuple : List D → Option Dr
  | [.lst ds] => some (.pd (.tup ds))
  | [.tup ds] => some (.pd (.tup ds))
  | _ => none
def rTupleA (K : PySem.W.Frag) : List V → Hp → VK → Prop := fun xs H Q => ∃ p ys, xs = [.ref p] ∧ ((SqL K H p ys ∧ ∀ l, H l = none → Q (.ref l) (upd H l (.tup ys))) ∨ (SqT K H p ys ∧ Q (.ref p) H))
theorem ok_tuple {T : Tb} : FnD T (rTupleA T.K) fTuple := by
  intro G H xs ds res Q e hl hv hf q
  unfold fTuple at hf
  split at hf
  · cases hf
    obtain ⟨v, rfl, h⟩ := one_vw hl hv
    obtain ⟨p, vs, rfl, h1, r1⟩ := vw_lst e h
    exact ⟨_, _, rfl, .inl ⟨SqL.of h1, fun l hp => por_tup q e hp r1⟩⟩
  · cases hf
    obtain ⟨v, rfl, h⟩ := one_vw hl hv
    obtain ⟨p, vs, rfl, h1, r1, r2⟩ := vw_tup e h
    exact ⟨_, _, rfl, .inr ⟨h1, por_pd q e r2⟩⟩
  · cases hf
def bls : List D → Option (List Bool)
  | [] => some []
  | .bl b :: ds => (bls ds).map (b :: ·)
  | _ :: _ => none
theorem rpl_bls {T : Tb} {G : Hp} : ∀ {ds : List D} {vs : List V} {bs : List Bool}, RpL T G vs ds → bls ds = some bs → vs = bs.map V.bl
  | [], _, _, .nil, e => by cases e; rfl
  | d :: ds, _, _, .cons a r, e => by
    cases d <;> simp only [bls] at e <;> try cases e
    rename_i b
    cases e2 : bls ds with
    | none => rw [e2] at e; cases e
    | some bs =>
      rw [e2] at e; cases e
      cases a
      rw [rpl_bls r e2]; rfl
def fAll (any : Bool) : List D → Option Dr
  | [.lst ds] => (bls ds).map fun bs => .pd (.bl (if any then bs.any id else bs.all id))
  | _ => none
theorem ok_all {T : Tb} : FnD T (rAll T.K) (fAll false) := by
  intro G H xs ds res Q e hl hv hf q
  unfold fAll at hf
  split at hf
  · rename_i ds
    cases e2 : bls ds with
    | none => rw [e2] at hf; cases hf
    | some bs =>
      rw [e2] at hf; cases hf
      obtain ⟨v, rfl, h⟩ := one_vw hl hv
      obtain ⟨p, vs, rfl, h1, r1⟩ := vw_lst e h
      have := rpl_bls r1 e2; subst vs
      exact ⟨_, bs, rfl, SqL.of h1, por_pd q e (.bl _)⟩
  · cases hf
theorem ok_any {T : Tb} : FnD T (rAny T.K) (fAll true) := by
  intro G H xs ds res Q e hl hv hf q
  unfold fAll at hf
  split at hf
  · rename_i ds
    cases e2 : bls ds with
    | none => rw [e2] at hf; cases hf
    | some bs =>
      rw [e2] at hf; cases hf
      obtain ⟨v, rfl, h⟩ := one_vw hl hv
      obtain ⟨p, vs, rfl, h1, r1⟩ := vw_lst e h
      have := rpl_bls r1 e2; subst vs
      exact ⟨_, bs, rfl, SqL.of h1, por_pd q e (.bl _)⟩
  · cases hf
section
variable {C : Cf} {pos p : Pos} {e e2 : Expr} {a : M (List Rv)}
theorem xe_len (hm : C.T.mg "len" = none) (ha : XA C [e] a) (hg : C.sc.names.lookup ("len" : Str) = some .globalImplicit := by rfl)
    (he : ∀ env, starEach [e] env = (false, eval e env) :: starEach [] env := by intro _; rfl) : XE C (.Call (.Name "len" p) [e] [] pos) (xFn fLen a) :=
  xe_callB (id := "len") (r := fun C => rLenA C.T.K) (fun X W c => by rw [← cx_K c]; exact call_len) ok_len hm ha (hg := hg) (he := he) (hpl := fun _ => rfl)
theorem xe_abs (hm : C.T.mg "abs" = none) (ha : XA C [e] a) (hg : C.sc.names.lookup ("abs" : Str) = some .globalImplicit := by rfl)
    (he : ∀ env, starEach [e] env = (false, eval e env) :: starEach [] env := by intro _; rfl) : XE C (.Call (.Name "abs" p) [e] [] pos) (xFn fAbs a) :=
  xe_callB (id := "abs") (r := fun C => rAbsA) (fun X W c => call_abs) ok_abs hm ha (hg := hg) (he := he) (hpl := fun _ => rfl)
theorem xe_max2 (hm : C.T.mg "max" = none) (ha : XA C [e, e2] a) (hg : C.sc.names.lookup ("max" : Str) = some .globalImplicit := by rfl)
    (he : ∀ env, starEach [e, e2] env = (false, eval e env) :: starEach [e2] env := by intro _; rfl) (hpl : ∀ env, (backTo pos (starEach [e2] env)).any (·.1) = false := by intro _; rfl) : XE C (.Call (.Name "max" p) [e, e2] [] pos) (xFn fMax2 a) :=
  xe_callB (id := "max") (r := fun C => rMax2A) (fun X W c => call_max2 c.calm) ok_max2 hm ha (hg := hg) (he := he) (hpl := hpl)
theorem xe_min2 (hm : C.T.mg "min" = none) (ha : XA C [e, e2] a) (hg : C.sc.names.lookup ("min" : Str) = some .globalImplicit := by rfl)
    (he : ∀ env, starEach [e, e2] env = (false, eval e env) :: starEach [e2] env := by intro _; rfl) (hpl : ∀ env, (backTo pos (starEach [e2] env)).any (·.1) = false := by intro _; rfl) : XE C (.Call (.Name "min" p) [e, e2] [] pos) (xFn fMin2 a) :=
  xe_callB (id := "min") (r := fun C => rMin2A) (fun X W c => call_min2 c.calm) ok_min2 hm ha (hg := hg) (he := he) (hpl := hpl)
theorem xe_toInt (hm : C.T.mg "int" = none) (ha : XA C [e] a) (hg : C.sc.names.lookup ("int" : Str) = some .globalImplicit := by rfl)
    (he : ∀ env, starEach [e] env = (false, eval e env) :: starEach [] env := by intro _; rfl) : XE C (.Call (.Name "int" p) [e] [] pos) (xFn fInt a) :=
  xe_callT (id := "int") (r := fun C => rIntA) (fun X W c => call_int1) ok_int hm ha (hg := hg) (he := he) (hpl := fun _ => rfl)
theorem xe_toList (hm : C.T.mg "list" = none) (ha : XA C [e] a) (hg : C.sc.names.lookup ("list" : Str) = some .globalImplicit := by rfl)
    (he : ∀ env, starEach [e] env = (false, eval e env) :: starEach [] env := by intro _; rfl) : XE C (.Call (.Name "list" p) [e] [] pos) (xFn fList a) :=
  xe_callT (id := "list") (r := fun C => rListA C.T.K) (fun X W c => by rw [← cx_K c]; exact call_list_of) ok_list hm ha (hg := hg) (he := he) (hpl := fun _ => rfl)
theorem xe_toTup (hm : C.T.mg "tuple" = none) (ha : XA C [e] a) (hg : C.sc.names.lookup ("tuple" : Str) = some .globalImplicit := by rfl)
    (he : ∀ env, starEach [e] env = (false, eval e env) :: starEach [] env := by intro _; rfl) : XE C (.Call (.Name "tuple" p) [e] [] pos) (xFn fTuple a) :=
  xe_callT (id := "tuple") (r := fun C => rTupleA C.T.K) (fun X W c => by rw [← cx_K c]; exact call_tuple_of) ok_tuple hm ha (hg := hg) (he := he) (hpl := fun _ => rfl)
theorem xe_all (hm : C.T.mg "all" = none) (ha : XA C [e] a) (hg : C.sc.names.lookup ("all" : Str) = some .globalImplicit := by rfl)
    (he : ∀ env, starEach [e] env = (false, eval e env) :: starEach [] env := by intro _; rfl) : XE C (.Call (.Name "all" p) [e] [] pos) (xFn (fAll false) a) :=
  xe_callB (id := "all") (r := fun C => rAll C.T.K) (fun X W c => by rw [← cx_K c]; exact cr_all c.calm) ok_all hm ha (hg := hg) (he := he) (hpl := fun _ => rfl)
theorem xe_any (hm : C.T.mg "any" = none) (ha : XA C [e] a) (hg : C.sc.names.lookup ("any" : Str) = some .globalImplicit := by rfl)
    (he : ∀ env, starEach [e] env = (false, eval e env) :: starEach [] env := by intro _; rfl) : XE C (.Call (.Name "any" p) [e] [] pos) (xFn (fAll true) a) :=
  xe_callB (id := "any") (r := fun C => rAny C.T.K) (fun X W c => by rw [← cx_K c]; exact cr_any c.calm) ok_any hm ha (hg := hg) (he := he) (hpl := fun _ => rfl)
end

/-! ### isinstance(x, T) -/
def dTy : D → Option String
  | .non => some "NoneType"
  | .bl _ => some "bool"
  | .int _ => some "int"
  | .str _ => some "str"
  | .tup _ => some "tuple"
  | .lst _ => some "list"
  | _ => none
theorem vw_ty {T : Tb} {G H : Hp} {v : V} {d : D} {t : String} (x : Ext G H) (h : Vw T G H v d) (e : dTy d = some t) : TyX T.K H v (.type t) := by
  cases d <;> simp only [dTy] at e <;> cases e
  · have := vw_non h; subst v; exact .base .non
  · have := vw_bl h; subst v; exact .base (.bl _)
  · have := vw_int h; subst v; exact .base (.int _)
  · have := vw_str h; subst v; exact .base (.str _)
  · obtain ⟨p, vs, rfl, h1, _, _⟩ := vw_tup x h
    rcases h with h | ⟨_, _, _, _, e, _⟩
    · cases h with
      | tup h r =>
        rcases x.sqT h with (h | ⟨o, h⟩) | ⟨o, its, n, h, hc, _⟩
        · exact .base (.tup h)
        · exact .fTuple h
        · exact .kTuple h hc
    · cases e
  · obtain ⟨p, vs, rfl, h1, r1⟩ := vw_lst x h
    exact .base (.lst h1)
def xIsi (b : String) (m : M Rv) : M Rv := fun ρ => bnd (m ρ) fun r ρ1 => match deref ρ1 r with
  | some d => match dTy d with
    | some a => match kitB a b with
      | some k => some (.ok (.im (.bl k)) ρ1)
      | none => none
    | none => none
  | none => none
theorem isi_core {T : Tb} {b : String} {t : TE} {m : M Rv} {W : WX} {G H : Hp} {σ : L2.St} {ρ : En} {Q : VK} (h1 : ∀ G H ρ Q, Ok T G H σ ρ → Tel T (RvOk T) G H σ ρ W Q (m ρ) → t σ H Q)
    (k : Ok T G H σ ρ) (h : Tel T (RvOk T) G H σ ρ W Q (xIsi b m ρ)) : tCB (rIsi T.K) (tCons t (tCons (tC (.ty b)) tNil)) σ H Q := by
  refine h1 G H ρ _ k (tel_first h fun v r ρ1 G1 H1 k1 s1 q1 h => ?_)
  cases e1 : deref ρ1 r with
  | none => simp only [e1] at h; exact h.elim
  | some d =>
    simp only [e1] at h
    cases e2 : dTy d with
    | none => simp only [e2] at h; exact h.elim
    | some a =>
      simp only [e2] at h
      cases e3 : kitB a b with
      | none => simp only [e3] at h; exact h.elim
      | some kk =>
        simp only [e3] at h
        exact ⟨v, .ty b, _, .type b, kk, rfl, .ty b, vw_ty k1.ex (vw_of k1 q1 e1) e2, kit_ty e3, h (.bl kk) G1 H1 k1 s1 (.bl kk)⟩
section
variable {C : Cf} {pos p p2 : Pos} {e : Expr} {m : M Rv}
theorem xe_isi {x : Str} (b : String) (hm : C.T.mg "isinstance" = none) (hmx : C.T.mg x = none) (h : XE C e m) (hv : bootBuiltins x = some (.type b) := by decide +kernel) (hg : C.sc.names.lookup ("isinstance" : Str) = some .globalImplicit := by rfl) (hgx : C.sc.names.lookup x = some .globalImplicit := by rfl)
    (hn : x ≠ "__name__" := by decide) (hd : (x == ("__debug__" : Str)) = false := by decide)
    (he : ∀ env, starEach [e, .Name x p2] env = (false, eval e env) :: starEach [.Name x p2] env := by intro _; rfl)
    (he2 : ∀ env, starEach [.Name x p2] env = (false, eval (.Name x p2) env) :: starEach [] env := by intro _; rfl)
    (hpl : ∀ env, (backTo pos (starEach [.Name x p2] env)).any (·.1) = false := by intro _; rfl) : XE C (.Call (.Name "isinstance" p) [e, .Name x p2] [] pos) (xIsi b m) := by
  obtain ⟨t, pp, q⟩ := h
  refine ⟨fun W => tCB (rIsi C.T.K) (tCons (t W) (tCons (tC (.ty b)) tNil)), fun X W c => ?_, fun W G H σ ρ Q k h => isi_core (fun G H ρ Q => q W G H σ ρ Q) k h⟩
  exact pe_callB (by rw [← cx_K c]; exact call_isi) (cx_gl c hg) (by rw [cx_mg c]; exact hm) (by decide +kernel) (pa_cons (pp X W c) (pa_cons (pe_bltn (v := .ty b) (cx_gl c hgx) (by rw [cx_mg c]; exact hmx) hv rfl hn hd) pa_nil (he2 _)) (he _)) (by decide) (by decide) (he _) (hpl _)
end

/-! ### repr -/
def fRepr : List D → Option Dr
  | [d] => match d.py with
    | some p => if p.showable && !p.hasDict && decide (p.depth ≤ 64) && decide (p.shown.length ≤ sizeLine) then some (.pd (.str p.shown)) else none
    | none => none
  | _ => none
def rReprA (K : PySem.W.Frag) : List V → Hp → VK → Prop := fun xs H Q => ∃ v p, xs = [v] ∧ Dp K H v p ∧ p.showable = true ∧ p.hasDict = false ∧ p.depth ≤ 64 ∧ p.shown.length ≤ sizeLine ∧ Q (.str p.shown) H
theorem call_reprA {X : Cx} (hu : X.A.units + 65 < cLine) (hg : X.A.guards = some []) : CallR X (.builtin "repr") (rReprA X.K) := by
  intro pins s σ H xs us Q I r h
  obtain ⟨v, p, rfl, hp, h1, h2, h3, h4, q⟩ := h
  obtain ⟨u, rfl, ru⟩ := vals1 r
  obtain ⟨as, r1⟩ := Dp.reads I p v u hp ru
  cases p with
  | none =>
    cases hp; cases ru
    exact PySem.P.repr_of_none ⟨.str _, H, I.tok _, ⟨_, rfl⟩, q⟩
  | bool b =>
    cases hp; cases ru
    refine PySem.P.repr_of_bool ⟨.str _, H, I.tok _, ⟨s.toks, ?_⟩, q⟩
    cases b <;> rfl
  | int i =>
    cases hp; obtain ⟨t, rfl⟩ := ru
    exact PySem.P.repr_of_int (by simpa [PyData.showable] using h1) ⟨.str _, H, I.tok _, ⟨_, rfl⟩, q⟩
  | str x =>
    cases hp; obtain ⟨t, rfl⟩ := ru
    exact PySem.P.repr_of_str ⟨.str _, H, I.tok _, ⟨_, rfl⟩, q⟩ h4
  | list xs =>
    cases hp; cases ru
    exact PySem.repr_of_reads' r1 h1 (PyData.noDict_hsm h2) hg (by omega) (fun _ _ e => e) (fun h' u tk hk => ⟨.str _, H, I.kept hk, ⟨_, rfl⟩, q⟩) h4
  | tuple xs =>
    cases hp; cases ru
    exact PySem.repr_of_reads' r1 h1 (PyData.noDict_hsm h2) hg (by omega) (fun _ _ e => e) (fun h' u tk hk => ⟨.str _, H, I.kept hk, ⟨_, rfl⟩, q⟩) h4
  | dict kv => cases hp
theorem ok_repr {T : Tb} : FnD T (rReprA T.K) fRepr := by
  intro G H xs ds res Q e hl hv hf q
  unfold fRepr at hf
  split at hf
  · rename_i d
    split at hf
    · rename_i p ep
      split at hf
      · rename_i hz
        cases hf
        simp only [Bool.and_eq_true, Bool.not_eq_true', decide_eq_true_eq] at hz
        obtain ⟨v, rfl, h⟩ := one_vw hl hv
        exact ⟨v, p, rfl, vw_dp e h ep, hz.1.1.1, hz.1.1.2, hz.1.2, hz.2, por_pd q e (.str _)⟩
      · cases hf
    · cases hf
  · cases hf
section
variable {C : Cf} {pos p : Pos} {e : Expr} {a : M (List Rv)}
theorem xe_repr (hm : C.T.mg "repr" = none) (ha : XA C [e] a) (hg : C.sc.names.lookup ("repr" : Str) = some .globalImplicit := by rfl)
    (he : ∀ env, starEach [e] env = (false, eval e env) :: starEach [] env := by intro _; rfl) : XE C (.Call (.Name "repr" p) [e] [] pos) (xFn fRepr a) :=
  xe_callB (id := "repr") (r := fun C => rReprA C.T.K) (fun X W c => by rw [← cx_K c]; exact call_reprA (room65 c.room) c.gd) ok_repr hm ha (hg := hg) (he := he) (hpl := fun _ => rfl)
end

/-! ### a or b, by truth -/
def truD : D → Option Bool
  | .non => some false
  | .bl b => some b
  | .int i => some (i != 0)
  | .str z => if z.length ≤ sizeLine then some ((z.length : Int) != 0) else none
  | .lst ds => some !ds.isEmpty
  | .tup ds => some !ds.isEmpty
  | _ => none
theorem rpl_empty {T : Tb} {G : Hp} {vs : List V} {ds : List D} (r : RpL T G vs ds) : vs.isEmpty = ds.isEmpty := by cases r <;> rfl
theorem vw_tru {T : Tb} {G H : Hp} {v : V} {d : D} {k : Bool} (x : Ext G H) (h : Vw T G H v d) (e : truD d = some k) : TruV T.K v H k := by
  cases d <;> simp only [truD] at e
  · have := vw_non h; subst v; cases e; rfl
  · have := vw_bl h; subst v; cases e; rfl
  · have := vw_int h; subst v; cases e; rfl
  · have := vw_str h; subst v
    split at e
    · rename_i hz; cases e; exact ⟨hz, rfl⟩
    · cases e
  · obtain ⟨p, vs, rfl, h1, r1, _⟩ := vw_tup x h
    cases e
    exact .inr (.inl ⟨vs, h1, by rw [rpl_empty r1]⟩)
  · obtain ⟨p, vs, rfl, h1, r1⟩ := vw_lst x h
    cases e
    exact .inl ⟨vs, SqL.of h1, by rw [rpl_empty r1]⟩
  all_goals cases e
def xOrT (a b : M Rv) : M Rv := fun ρ => bnd (a ρ) fun r ρ1 => match deref ρ1 r with
  | some d => match truD d with
    | some true => some (.ok r ρ1)
    | some false => b ρ1
    | none => none
  | none => none
section
variable {C : Cf} {pos : Pos} {a b : Expr} {rest : List Expr} {va vb : M Rv}
theorem xe_orT (ha : XE C a va) (hb : XE C (.BoolOp .Or (b :: rest) pos) vb) : XE C (.BoolOp .Or (a :: b :: rest) pos) (xOrT va vb) := by
  obtain ⟨t, p, q⟩ := ha
  obtain ⟨u, p', q'⟩ := hb
  refine ⟨fun W => tOrT C.T.K (t W) (u W), fun X W c => by rw [← cx_K c]; exact pe_orT (p X W c) (p' X W c), fun W G H σ ρ Q k h => q W G H σ ρ _ k (tel_first h fun x r ρ1 G1 H1 k1 s1 q1 h => ?_)⟩
  cases e1 : deref ρ1 r with
  | none => simp only [e1] at h; exact h.elim
  | some d =>
    simp only [e1] at h
    cases e2 : truD d with
    | none => simp only [e2] at h; exact h.elim
    | some kk =>
      refine ⟨kk, vw_tru k1.ex (vw_of k1 q1 e1) e2, ?_⟩
      cases kk with
      | true => simp only [e2] at h; exact h x G1 H1 k1 s1 q1
      | false => simp only [e2] at h; exact q' W G1 H1 σ ρ1 Q k1 (tel_last sh_v h s1)
end

/-! ### xs[::-1] -/
def xRev (m : M Rv) : M Rv := fun ρ => bnd (m ρ) fun r ρ1 => match deref ρ1 r with
  | some (.lst ds) => some (.ok (.nw (.lst ds.reverse)) ρ1)
  | _ => none
section
variable {C : Cf} {pos p1 p2 p3 : Pos} {e : Expr} {m : M Rv}
theorem xe_rev {k : Nat} (h : XE C e m) : XE C (.Subscript e (.Slice none none (some (.UnaryOp .USub (.Constant (.int 1) k p1) p2)) p3) pos) (xRev m) := by
  obtain ⟨t, p, q⟩ := h
  refine ⟨fun W => tRevL C.T.K (t W), fun X W c => by rw [← cx_K c]; exact pe_revL (p X W c), fun W G H σ ρ Q k h => q W G H σ ρ _ k (tel_first h fun x r ρ1 G1 H1 k1 s1 q1 h => ?_)⟩
  cases e1 : deref ρ1 r with
  | none => simp only [e1] at h; exact h.elim
  | some d =>
    cases d <;> simp only [e1] at h <;> first | exact h.elim | skip
    rename_i ds
    obtain ⟨a, vs, rfl, h1, r1⟩ := vw_lst k1.ex (vw_of k1 q1 e1)
    refine ⟨a, vs, rfl, SqL.of h1, fun p2 hp => ?_⟩
    have h' : Tel C.T (RvOk C.T) G H σ ρ W Q (some (.ok (Dr.nl ds.reverse).rv ρ1)) := h
    exact por_tel h' k1 s1 p2 _ hp r1.reverse
end

/-! ### a, b = x, y ; a, b, c = x, y, z -/
/-- an own object of a slot becomes data -/
def nrm (r : Rv) (ρ : En) : Option (Rv × En) := match r with
  | .al _ => match fz1 r ρ with
    | some (d, ρ') => some (.im d, ρ')
    | none => none
  | r => some (r, ρ)
def storeL : List Nat → List Rv → En → Option En
  | [], [], ρ => some ρ
  | i :: is, r :: rs, ρ => match r with
    | .al _ => none
    | r => match putS i r ρ with
      | some ρ1 => storeL is rs ρ1
      | none => none
  | _, _, _ => none
def setL : L2.St → List Nat → List V → L2.St
  | σ, i :: is, v :: vs => setL (σ.set i (some v)) is vs
  | σ, _, _ => σ
section
variable {T : Tb} {Gs Hs G H : Hp} {σs σ : L2.St} {ρs ρ : En}
theorem rvs_kept {i : Nat} {r : Rv} {v : V} {ρ1 : En} (hr : ∀ j, r ≠ .al j) (h : RvOk T Hs G H σ ρ v r) (e : putS i r ρ = some ρ1) : ∀ {vs : List V} {rs : List Rv}, (∀ r' ∈ rs, ∀ j, r' ≠ .al j) → RvsOk T Hs G H σ ρ vs rs →
    (∀ ob, r = .nw ob → ∀ (j : Nat) (v' : V) (ob' : Ob), vs[j]? = some v' → rs[j]? = some (.nw ob') → v' ≠ v) → RvsOk T Hs G H (σ.set i (some v)) ρ1 vs rs
  | _, _, _, .nil, _ => .nil
  | w :: ws, r' :: rs', hal, .cons a b c, hd => by
    refine .cons ?_ b (rvs_kept hr h e (fun r2 hm => hal r2 (List.mem_cons_of_mem _ hm)) c fun ob ee j v' ob' x y => hd ob ee (j + 1) v' ob' (by simpa using x) (by simpa using y))
    cases r' with
    | im d => exact a
    | al j => exact absurd rfl (hal _ List.mem_cons_self j)
    | nw ob' =>
      obtain ⟨p, o, rfl, f1, f2, f3, f4, f5⟩ := a
      refine ⟨p, o, rfl, f1, f2, f3, f4, fun w => ?_⟩
      unfold putS at e
      split at e
      · cases e
      · rename_i hc
        have hi : i < ρ.length := by apply Nat.lt_of_not_le; exact fun q => hc (.inr q)
        cases r with
        | al j => exact hr j rfl
        | im d => cases e; exact f5 (own_set_not (fun _ _ z => by cases z) w)
        | nw ob =>
          cases e
          obtain ⟨j, par, o2, w1, w2⟩ := w
          by_cases q : j = i
          · subst q
            have hiσ : j < σ.length := (by
              have := (List.getElem?_eq_some_iff.mp w2).1
              simpa using this)
            rw [List.getElem?_set_self hiσ] at w2
            cases w2
            exact hd ob rfl 0 _ ob' rfl rfl rfl
          · rw [List.getElem?_set_ne (Ne.symm q)] at w1 w2
            exact f5 ⟨j, par, o2, w1, w2⟩
theorem storeL_ok : ∀ {is : List Nat} {rs : List Rv} {vs : List V} {σ : L2.St} {ρ ρ2 : En}, Ok T G H σ ρ → Stp Gs Hs σs ρs G H σ ρ → RvsOk T Hs G H σ ρ vs rs → storeL is rs ρ = some ρ2 →
    Ok T G H (setL σ is vs) ρ2 ∧ Stp Gs Hs σs ρs G H (setL σ is vs) ρ2
  | [], [], _, σ, ρ, _, k, s, .nil, e => by cases e; exact ⟨k, s⟩
  | i :: is, r :: rs, v :: vs, σ, ρ, ρ2, k, s, .cons h n hs, e => by
    simp only [storeL] at e
    split at e
    · cases e
    · rename_i hal
      split at e
      · rename_i ρ1 e1
        have hals : ∀ (is : List Nat) (rs : List Rv) (ρ ρ2 : En), storeL is rs ρ = some ρ2 → ∀ r' ∈ rs, ∀ j, r' ≠ .al j := by
          intro is rs
          induction rs generalizing is with
          | nil => intro _ _ _ r' hm; cases hm
          | cons x xs ih =>
            intro ρ ρ2 e r' hm j z
            cases is with
            | nil => simp [storeL] at e
            | cons i' is' =>
              simp only [storeL] at e
              split at e
              · cases e
              · rename_i hx
                split at e
                · rcases List.mem_cons.mp hm with q | q
                  · subst q; exact hx j z
                  · exact ih _ _ _ e r' q j z
                · cases e
        have kept := rvs_kept (fun j z => hal j z) h e1 (hals _ _ _ _ e) hs n
        unfold putS at e1
        split at e1
        · cases e1
        · rename_i hc
          have hp : isPar ρ[i]? = false := by
            cases q : isPar ρ[i]? with
            | false => rfl
            | true => exact absurd (.inl q) hc
          have hi : i < ρ.length := by apply Nat.lt_of_not_le; exact fun q => hc (.inr q)
          cases r with
          | al j => exact (hal j rfl).elim
          | im d =>
            cases e1
            obtain ⟨k1, s1⟩ := set_im (v := v) (sl := .im d) k s hi hp (.inr ⟨d, rfl, h⟩)
            have fin := storeL_ok k1 s1 kept e
            exact fin
          | nw ob =>
            cases e1
            obtain ⟨p, o, rfl, f1, f2, f3, f4, f5⟩ := h
            obtain ⟨k1, s1⟩ := set_ow k s hi hp (.inr f1) f2 f3 f4 f5
            have fin := storeL_ok k1 s1 kept e
            exact fin
      · cases e
end
def sPar (is : List Nat) (a : M (List Rv)) : MS := fun ρ => sbn (a ρ) fun rs ρ1 => match storeL is rs ρ1 with
  | some ρ2 => some (.nx ρ2)
  | none => none
section
variable {C : Cf} {pos : Pos}
theorem xs_par2 (i j : Nat) {x y : Str} {a b : Expr} {px py pt : Pos} {kt k2 : Nat} {pt2 : Pos} {m : M (List Rv)} (ha : XA C [a, b] m) (hi : C.N[i]? = some x := by rfl) (hj : C.N[j]? = some y := by rfl) (hij : i ≠ j := by decide)
    (hx : C.sc.names.lookup x = some .local := by rfl) (hy : C.sc.names.lookup y = some .local := by rfl)
    (hw : ∀ env : Env, env.scope = C.sc → swappedStores [.Tuple [.Name x px, .Name y py] kt pt] (.Tuple [a, b] k2 pt2) env = pure (some [x, y]) := by intro env h; simp only [swappedStores, Env.blockKind, Env.kindOf, h]; kernel_rfl)
    (hs : ∀ env, swapsWithSole [.Tuple [.Name x px, .Name y py] kt pt] (.Tuple [a, b] k2 pt2) pos.line env = pure false := by intro _; rfl) : XS C (.Assign [.Tuple [.Name x px, .Name y py] kt pt] (.Tuple [a, b] k2 pt2) pos) (sPar [i, j] m) := by
  obtain ⟨hl, t, p, q⟩ := ha
  refine ⟨fun W => tPar i j (t W), fun X W c => ps_par c.calm (by rw [c.n]; exact c.nd) (by rw [c.n]; exact hi) (by rw [c.n]; exact hj) hij (by rw [c.s]; exact hx) (by rw [c.s]; exact hy) (p X W c.toCxOk) (hw _ c.s) (hs _), fun W G H σ ρ E k h => q W G H σ ρ _ k (tels_sbn h fun vs rs ρ1 G1 H1 k1 s1 r1 h => ?_)⟩
  cases e : storeL [i, j] rs ρ1 with
  | none => simp only [e] at h; exact h.elim
  | some ρ2 =>
    simp only [e] at h
    obtain ⟨k2, s2⟩ := storeL_ok k1 s1 r1 e
    match rs, vs, r1, e with
    | [_, _], [v, w], _, e => exact ⟨v, w, rfl, h _ G1 H1 k2 s2⟩
    | [], _, _, e => cases e
    | [_], _, _, e => simp only [storeL] at e; split at e <;> (first | cases e | (split at e <;> cases e))
    | _ :: _ :: _ :: _, _, _, e => simp only [storeL] at e; split at e <;> (first | cases e | (split at e <;> (first | cases e | (split at e <;> (first | cases e | (split at e <;> cases e))))))
theorem xs_par3 (i j l : Nat) {x y z : Str} {a b c : Expr} {px py pz pt : Pos} {kt k2 : Nat} {pt2 : Pos} {m : M (List Rv)} (ha : XA C [a, b, c] m) (hi : C.N[i]? = some x := by rfl) (hj : C.N[j]? = some y := by rfl) (hl' : C.N[l]? = some z := by rfl) (hij : i ≠ j := by decide) (hil : i ≠ l := by decide) (hjl : j ≠ l := by decide)
    (hx : C.sc.names.lookup x = some .local := by rfl) (hy : C.sc.names.lookup y = some .local := by rfl) (hz : C.sc.names.lookup z = some .local := by rfl)
    (hw : ∀ env : Env, env.scope = C.sc → swappedStores [.Tuple [.Name x px, .Name y py, .Name z pz] kt pt] (.Tuple [a, b, c] k2 pt2) env = pure (some [x, y, z]) := by intro env h; simp only [swappedStores, Env.blockKind, Env.kindOf, h]; kernel_rfl)
    (hs : ∀ env, swapsWithSole [.Tuple [.Name x px, .Name y py, .Name z pz] kt pt] (.Tuple [a, b, c] k2 pt2) pos.line env = pure false := by intro _; rfl) : XS C (.Assign [.Tuple [.Name x px, .Name y py, .Name z pz] kt pt] (.Tuple [a, b, c] k2 pt2) pos) (sPar [i, j, l] m) := by
  obtain ⟨hl, t, p, q⟩ := ha
  refine ⟨fun W => tPar3 i j l (t W), fun X W c => ps_par3 c.calm (by rw [c.n]; exact c.nd) (by rw [c.n]; exact hi) (by rw [c.n]; exact hj) (by rw [c.n]; exact hl') hij hil hjl (by rw [c.s]; exact hx) (by rw [c.s]; exact hy) (by rw [c.s]; exact hz) (p X W c.toCxOk) (hw _ c.s) (hs _), fun W G H σ ρ E k h => q W G H σ ρ _ k ?_⟩
  unfold sPar at h
  cases e0 : m ρ with
  | none => rw [e0] at h; exact h
  | some y0 =>
    cases y0 with
    | ex ee ρ' => rw [e0] at h; exact fun cls d G' H' k s r => h cls d σ G' H' k s r
    | ok rs ρ1 =>
      have hlr := hl _ _ _ e0
      rw [e0] at h
      intro vs G1 H1 k1 s1 r1
      simp only [sbn_ok] at h
      cases e : storeL [i, j, l] rs ρ1 with
      | none => simp only [e] at h; exact h.elim
      | some ρ2 =>
        simp only [e] at h
        obtain ⟨k2, s2⟩ := storeL_ok k1 s1 r1 e
        have hlv : vs.length = 3 := r1.length.trans hlr
        match vs, hlv with
        | [u, v, w], _ => exact ⟨u, v, w, rfl, h _ G1 H1 k2 s2⟩
end
end L2.DL
namespace L2.DL
open PySem PySem.Spec PyProof.Rows
section
variable {C : Cf} {x : Str} {pos : Pos}
theorem xe_v (i : Nat) (hN : C.N[i]? = some x := by rfl) (hv : Vis C.sc x := by first | exact Or.inl rfl | exact Or.inr (Or.inl rfl) | exact Or.inr (Or.inr rfl)) (hd : (x == ("__debug__" : Str)) = false := by decide) (hcd : (x == ("__classdict__" : Str)) = false := by decide) : XE C (.Name x pos) (xVar i) := xe_var i hN hv hd hcd
theorem xe_gl {v : V} {d : D} (hm : ∃ u, C.T.mg x = some u ∧ RelV v u) (hr : ∀ H, Rp C.T H v d) (hg : C.sc.names.lookup x = some .globalImplicit := by rfl) (hd : (x == ("__debug__" : Str)) = false := by decide) : XE C (.Name x pos) (xC d) := by
  obtain ⟨u, h, r⟩ := hm
  exact xe_glob h r hr hg hd
end
end L2.DL
namespace L2.DL
open PySem PySem.Spec PyProof.Rows

/-! ### the law's own end -/
def TOK (s s' : Shared) (r : Result) : Prop := r = .ok (.ret (.bool true)) ∧ OldK s.heap s'.heap ∧ s'.os = s.os ∧ AllBare s'.gens
section
variable {P : Program} {w : World} {K : PySem.W.Frag} {mg mb : Str → Option Value} {m : Fm} {k : Nat} {fa a : Addr} {s : Shared} {vs : List Value} {ns : List Int}
/-- from one view of the script -/
theorem law_at (kin : K.In s.heap) (nsg : s.heap.Ns mainGlobals mg) (nsb : s.heap.Ns builtinsNs mb) (hbb : ∀ x : Str, x ≠ "__name__" → mb x = bootBuiltins x) (free : s.heap.NoLimit) (hg : s.gens = #[]) (hr : Room k callerA) (hfa : mg "law" = some (.ref fa))
    (df : ∀ base : Heap, K.In base → base.Ns mainGlobals mg → Df ⟨P, w, K, mg, base, []⟩ "law" m 1 k) (told : ∃ ρ', m [.im (.scr ns)] = some (.ok (.im (.bl true)) ρ'))
    {H : Hp} (only : ∀ b, H b = none ∨ (b = a ∧ ∃ o xs, H b = some (.frz o (.lst xs)))) (seq : SqL K H a (ns.map V.int)) (hok : HOk P w H s.heap) (nk : H a ≠ none → K.lookup a = none) (nd : ∀ o es ep, s.heap.get? a = some o → o.data ≠ .dict es ep) :
    codeAny (model P w) callerA (.call (.ref fa) ⟨[.ref a], []⟩) (fun r s' => TOK s s' r) s := by
  have isA : ∀ {b : Addr}, H b ≠ none → b = a := fun {b} q => (only b).elim (fun z => absurd z q) And.left
  have there : ∀ {b : Addr} {o : Obj}, s.heap.get? b = some o → H b = none → (hidT s.heap H).get? b = some o := fun e z => hidT_get e z
  have noDict : ∀ {b : Addr} {o : Obj} {es : Array DictEntry} {ep : Nat}, s.heap.get? b = some o → o.data = .dict es ep → H b = none := by
    intro b o es ep e d
    apply Classical.byContradiction
    intro q
    have z := isA q
    subst z
    exact nd o es ep e d
  have space : ∀ {b : Addr} {g : Str → Option Value}, s.heap.Ns b g → (hidT s.heap H).Ns b g := by
    rintro b g ⟨o, es, ep, e, d, r⟩
    exact ⟨o, es, ep, there e (noDict e d), d, r⟩
  have kinB : K.In (hidT s.heap H) := by
    intro b o e
    refine there (kin b o e) (Classical.byContradiction fun q => ?_)
    have z := isA q
    subst z
    exact absurd (nk q) (by rw [e]; simp)
  obtain ⟨mc, l1, l2⟩ := free
  have md : Mod K mg (hidT s.heap H) := ⟨kinB, space nsg, ⟨mb, space nsb, hbb⟩, ⟨mc, space l1, l2⟩⟩
  have env : Env0 P w K mg (hidT s.heap H) callerA [] s H := by
    refine ⟨rfl, md, fun b o e => of_hidT e, Nat.le_of_eq (hidT_size _ _), trivial, ?_, hok, .of_eq hg⟩
    intro b z
    exact absurd z (List.not_mem_nil)
  obtain ⟨f, fd, ps, e1, _, bd, ln, fn⟩ := (df _ kinB (space nsg)).ex
  have e1 : mg "law" = some (.ref f) := e1
  rw [hfa] at e1; cases e1
  have bt : BindsTo s fd ⟨[.ref a], []⟩ (ps.zip [.ref a]) := bd s [.ref a] kin (by simp [ln])
  have ok0 : Ok ⟨P, w, K, mg, hidT s.heap H, []⟩ H H ([V.ref a].map some) [.im (.scr ns)] := by
    refine ⟨fun _ _ h => h, ?tb, rfl, ?im, ?ow, ?ds⟩
    case tb => intro x hx; cases hx
    case im =>
      intro i d h
      match i, h with
      | 0, h => cases h; exact ⟨_, rfl, .scr seq⟩
    case ow => intro i par ob h; match i, h with | 0, h => cases h
    case ds => intro i j p _ _ _ _ _ h; match i, h with | 0, h => cases h
  obtain ⟨ρ', told⟩ := told
  have goal : spM ⟨P, w, K, mg, hidT s.heap H, []⟩ 1 m [.ref a] H (fun v _ => v = .bl true) (fun _ _ _ => False) := by
    refine ⟨rfl, H, _, ?_, ok0, ?_⟩
    · intro i par ob h
      match i, h with
      | 0, h => cases h
    · rw [told]
      intro v G' H' _ _ r
      cases r
      rfl
  refine codeAny_mono (fn.run callerA [] s H ⟨[.ref a], []⟩ [.ref a] [.ref a] _ _ hr rfl env bt (.cons rfl .nil) goal) ?_
  intro r s' h
  match r, h with
  | .error e, h =>
    obtain ⟨_, _, _, _, _, _, _, _, _, _, _, _, z⟩ := h
    exact z.elim
  | .ok .next, h => exact h.elim
  | .ok .brk, h => exact h.elim
  | .ok .cont, h => exact h.elim
  | .ok (.ret u), h =>
    obtain ⟨v, H', os, bare, un, hok', rv, q⟩ := h
    have q : v = .bl true := q
    subst q
    have rv : u = Value.bool true := rv
    subst rv
    refine ⟨rfl, OldK.of_keep ?_, os, bare⟩
    intro b o e
    rcases only b with z | ⟨_, ob, xs, z⟩
    · exact un.keep b o e z (fun x => absurd x List.not_mem_nil) (fun x => by simp at x)
    · have f1 := (hok b _ z).1
      have f2 := (hok' b _ (un.frzs b ob _ z)).1
      exact f2.trans (f1.symm.trans e)
theorem law_G (kin : K.In s.heap) (nsg : s.heap.Ns mainGlobals mg) (nsb : s.heap.Ns builtinsNs mb) (hbb : ∀ x : Str, x ≠ "__name__" → mb x = bootBuiltins x) (free : s.heap.NoLimit) (hg : s.gens = #[])
    (ha : s.heap.get? a = some { cls := .type "list", data := .seq vs.toArray }) (hi : PyProof.Rows.IntsAre vs ns) (hl : ns.length ≤ sizeLine) (hr : Room k callerA) (hfa : mg "law" = some (.ref fa))
    (df : ∀ base : Heap, K.In base → base.Ns mainGlobals mg → Df ⟨P, w, K, mg, base, []⟩ "law" m 1 k) (told : ∃ ρ', m [.im (.scr ns)] = some (.ok (.im (.bl true)) ρ')) :
    codeAny (model P w) callerA (.call (.ref fa) ⟨[.ref a], []⟩) (fun r s' => TOK s s' r) s := by
  have rv := vals_ints hi
  have nd : ∀ o es ep, s.heap.get? a = some o → o.data ≠ .dict es ep := by
    intro o es ep e d
    rw [ha] at e; cases e; cases d
  by_cases hk : K.lookup a = none
  · refine law_at (H := fun b => if b = a then some (.frz { cls := .type "list", data := .seq vs.toArray } (.lst (ns.map V.int))) else none) kin nsg nsb hbb free hg hr hfa df told ?_ ?_ ?_ (fun _ => hk) nd
    · intro b
      by_cases q : b = a
      · exact .inr ⟨q, _, _, if_pos q⟩
      · exact .inl (if_neg q)
    · exact .inl (.inr ⟨_, if_pos rfl⟩)
    · intro b u z
      by_cases q : b = a
      · subst q
        have z := (if_pos rfl).symm.trans z
        cases z
        exact ⟨ha, by rw [List.length_map]; exact hl, vs, _, rv, ha⟩
      · have z := (if_neg q).symm.trans z
        cases z
  · obtain ⟨o, ho⟩ := Option.ne_none_iff_exists'.mp hk
    have e := kin a o ho
    rw [ha] at e; cases e
    refine law_at (H := fun _ => none) kin nsg nsb hbb free hg hr hfa df told (fun _ => .inl rfl) ?_ (fun b u z => by cases z) (fun z => absurd rfl z) nd
    exact .inr ⟨_, vs.toArray, _, ho, rfl, rfl, rfl, by rw [List.size_toArray, hi.length]; exact hl, by simpa using rv⟩
end
/-- the goal that k_head leaves -/
theorem walk_G {l : PySem.W.OpenLaw} {n k : Nat} {q : Program} {loose : List Str} {XP : (Str → Option Value) → Heap → Prop} {YP : World → Heap → Prop} {d : DefRec} {K : Params → PySem.W.Frag} {m : Fm}
    (hn : l.most = some n) (hn2 : n ≤ sizeLine) (hdf : d.params.defaults = []) (hd : d.name = "law") (hr : Room k callerA) (hY : ∀ (w : World) (h : Heap), YP w h → (K w.params).In h)
    (df : ∀ (w : World) (mg : Str → Option Value) (h : Heap), (K w.params).In h → h.Ns mainGlobals mg → ∀ base : Heap, (K w.params).In base → base.Ns mainGlobals mg → Df ⟨l.prog, w, K w.params, mg, base, []⟩ "law" m 1 k)
    (told : ∀ ns : List Int, ns.length ≤ n → ∃ ρ', m [.im (.scr ns)] = some (.ok (.im (.bl true)) ρ')) : PySem.W.WalkO q loose XP YP l.row.toRowW d [] (fun f vs => PySem.call f vs) := by
  refine Att.attach_call hn hdf ?_
  intro w s₀ s₁ mg mb fa o pm cd doc a vs ns G Y ho hdt hcd hmg hobj hints hlen hg
  have kin := hY w _ Y
  rw [hd] at hmg
  exact law_G kin G.T.g G.T.b G.T.builtins G.T.nolimit hg hobj hints (Nat.le_trans hlen hn2) hr hmg (df w mg _ kin G.T.g) (told ns hlen)
end L2.DL
namespace L2.DL
open PySem PySem.Spec PyProof.Rows

/-! ### how the mirrors compute -/
def seqK (x : Option SR) (b : MS) : Option SR := match x with
  | some (.nx ρ1) => b ρ1
  | r => r
def fnK (ρ : En) (x : Option SR) : Option (Res Rv) := match x with
  | some (.rt (.im d) ρ') => some (.ok (.im d) (finP ρ ρ'))
  | some (.rt (.nw ob) ρ') => some (.ok (.nw ob) (finP ρ ρ'))
  | some (.nx ρ') => some (.ok (.im .non) (finP ρ ρ'))
  | some (.ex e ρ') => some (.ex e (finP ρ ρ'))
  | _ => none
theorem fnM_at (n tot : Nat) (b : MS) (ρ : En) : fnM n tot b ρ = fnK ρ (b (ρ ++ List.replicate (tot - n) .un)) := by
  unfold fnM fnK
  split <;> simp_all
section
variable {α β : Type} {a b : MS} {ρ ρ' : En} {e : Exc} {r : Rv} {d : D} {ob : Ob} {i : Nat}
@[simp] theorem fnK_im : fnK ρ (some (.rt (.im d) ρ')) = some (.ok (.im d) (finP ρ ρ')) := rfl
@[simp] theorem fnK_nw : fnK ρ (some (.rt (.nw ob) ρ')) = some (.ok (.nw ob) (finP ρ ρ')) := rfl
@[simp] theorem fnK_nx : fnK ρ (some (.nx ρ')) = some (.ok (.im .non) (finP ρ ρ')) := rfl
@[simp] theorem seqK_nx : seqK (some (.nx ρ)) b = b ρ := rfl
@[simp] theorem seqK_rt : seqK (some (.rt r ρ)) b = some (.rt r ρ) := rfl
@[simp] theorem seqK_bk : seqK (some (.bk ρ)) b = some (.bk ρ) := rfl
@[simp] theorem seqK_ct : seqK (some (.ct ρ)) b = some (.ct ρ) := rfl
@[simp] theorem seqK_ex : seqK (some (.ex e ρ)) b = some (.ex e ρ) := rfl
@[simp] theorem sSkip_at : sSkip ρ = some (.nx ρ) := rfl
@[simp] theorem sBrk_at : sBrk ρ = some (.bk ρ) := rfl
@[simp] theorem sCnt_at : sCnt ρ = some (.ct ρ) := rfl
@[simp] theorem sSeq_at : sSeq a b ρ = seqK (a ρ) b := by
  unfold sSeq seqK
  split <;> simp_all
@[simp] theorem sIf_at {c : M Bool} : sIf c a b ρ = sbn (c ρ) fun k ρ1 => if k = true then a ρ1 else b ρ1 := rfl
@[simp] theorem sDrop_at {m : M Rv} : sDrop m ρ = sbn (m ρ) fun _ ρ1 => some (.nx ρ1) := rfl
def fzK (x : Option (D × En)) (k : D → MS) : Option SR := match x with
  | some (d, ρ2) => k d ρ2
  | none => none
@[simp] theorem fzK_some {k : D → MS} : fzK (some (d, ρ)) k = k d ρ := rfl
def opK (x : Option En) (k : MS) : Option SR := match x with
  | some ρ => k ρ
  | none => none
@[simp] theorem opK_some : opK (some ρ) a = a ρ := rfl
@[simp] theorem sRet_at {m : M Rv} : sRet m ρ = sbn (m ρ) fun r ρ1 => fzK (fz1 r ρ1) fun d ρ2 => some (.rt (.im d) ρ2) := rfl
@[simp] theorem sRetN_at {m : M Rv} : sRetN m ρ = sbn (m ρ) fun r ρ1 => match r with
  | .nw ob => some (.rt (.nw ob) ρ1)
  | _ => none := rfl
@[simp] theorem sSet_at {m : M Rv} : sSet i m ρ = sbn (m ρ) fun r ρ1 => opK (putS i r ρ1) fun ρ2 => some (.nx ρ2) := rfl
@[simp] theorem sPar_at {is : List Nat} {m : M (List Rv)} : sPar is m ρ = sbn (m ρ) fun rs ρ1 => opK (storeL is rs ρ1) fun ρ2 => some (.nx ρ2) := rfl
@[simp] theorem sUnp_at {tg : Tg} {m : M Rv} : sUnp tg m ρ = sbn (m ρ) fun r ρ1 => fzK (fz1 r ρ1) fun d ρ2 => opK (bindT tg d ρ2) fun ρ3 => some (.nx ρ3) := rfl
@[simp] theorem sFor_at {tg : Tg} {mi : M (List D)} : sFor tg mi b ρ = sbn (mi ρ) fun ds ρ1 => forD tg b ds ρ1 := rfl
@[simp] theorem sWhile_at {c : M Bool} : sWhile c b ρ = whileD c b FU ρ := rfl
/-- x[i] = e, at a slot that is an own list -/
theorem sSetI_at {j : Nat} {mi m : M Rv} {ρ1 ρ2 : En} {d : D} {r : Rv} {n : Int} {par : Bool} {ds : List D} {kk : Nat} (h1 : m ρ = some (.ok (.im d) ρ1)) (h2 : mi ρ1 = some (.ok (.im (.int n)) ρ2)) (h0 : ∃ p l, ρ1[j]? = some (.ow p (.lst l))) (h3 : ρ2[j]? = some (.ow par (.lst ds))) (h4 : ixN ds.length n = some kk) :
    sSetI j mi m ρ = some (.nx (ρ2.set j (.ow par (.lst (ds.set kk d))))) := by
  obtain ⟨p, l, h0⟩ := h0
  simp [sSetI, h1, h0, h2, deref, fz1, h3, h4]
@[simp] theorem xVar_at : xVar i ρ = match ρ[i]? with
  | some (.im d) => some (.ok (.im d) ρ)
  | some (.ow _ _) => some (.ok (.al i) ρ)
  | _ => none := rfl
@[simp] theorem xC_at : xC d ρ = some (.ok (.im d) ρ) := rfl
@[simp] theorem xANil_at : xANil ρ = some (.ok [] ρ) := rfl
@[simp] theorem xACons_at {m : M Rv} {ms : M (List Rv)} : xACons m ms ρ = bnd (m ρ) fun x ρ1 => bnd (ms ρ1) fun xs => ret (x :: xs) := rfl
@[simp] theorem fzM_at {rs : List Rv} : fzM rs ρ = match fzs rs ρ with
  | none => none
  | some (ds, ρ2) => some (.ok ds ρ2) := rfl
@[simp] theorem xTup_at {m : M (List Rv)} : xTup m ρ = bnd (m ρ) fun rs ρ1 => bnd (fzM rs ρ1) fun ds => ret (.im (.tup ds)) := rfl
@[simp] theorem xLst_at {m : M (List Rv)} : xLst m ρ = bnd (m ρ) fun rs ρ1 => bnd (fzM rs ρ1) fun ds => ret (.nw (.lst ds)) := rfl
def drK (x : Option Dr) (ρ : En) : Option (Res Rv) := match x with
  | some r => some (.ok r.rv ρ)
  | none => none
@[simp] theorem drK_pd : drK (some (.pd d)) ρ = some (.ok (.im d) ρ) := rfl
@[simp] theorem drK_nl {ds : List D} : drK (some (.nl ds)) ρ = some (.ok (.nw (.lst ds)) ρ) := rfl
@[simp] theorem xOp_at {f : D → D → Option Dr} {m1 m2 : M Rv} : xOp f m1 m2 ρ = bnd (m1 ρ) fun r1 ρ1 => bnd (m2 ρ1) fun r2 ρ2 => match deref ρ2 r1, deref ρ2 r2 with
  | some d1, some d2 => drK (f d1 d2) ρ2
  | _, _ => none := rfl
@[simp] theorem xFn_at {f : List D → Option Dr} {m : M (List Rv)} : xFn f m ρ = bnd (m ρ) fun rs ρ1 => match derefs ρ1 rs with
  | some ds => drK (f ds) ρ1
  | none => none := rfl
@[simp] theorem xB_at {m : M Rv} : xB m ρ = bnd (m ρ) fun r ρ1 => match deref ρ1 r with
  | some (.bl b) => some (.ok b ρ1)
  | _ => none := rfl
@[simp] theorem xIsN_at {n : Bool} {m : M Rv} : xIsN n m ρ = bnd (m ρ) fun r ρ1 => match deref ρ1 r with
  | some d => some (.ok (.im (.bl (if n then !isN d else isN d))) ρ1)
  | none => none := rfl
@[simp] theorem isN_non : isN .non = true := rfl
@[simp] theorem isN_int {k : Int} : isN (.int k) = false := rfl
@[simp] theorem isN_tup {ds : List D} : isN (.tup ds) = false := rfl
@[simp] theorem xAnd_at {m1 m2 : M Bool} : xAnd m1 m2 ρ = bnd (m1 ρ) fun c ρ1 => if c = true then m2 ρ1 else some (.ok false ρ1) := rfl
@[simp] theorem xOr_at {m1 m2 : M Bool} : xOr m1 m2 ρ = bnd (m1 ρ) fun c ρ1 => if c = true then some (.ok true ρ1) else m2 ρ1 := rfl
@[simp] theorem xNot_at {m1 : M Bool} : xNot m1 ρ = bnd (m1 ρ) fun c ρ1 => some (.ok (!c) ρ1) := rfl
@[simp] theorem xAndV_at {m1 m2 : M Rv} : xAndV m1 m2 ρ = bnd (xB m1 ρ) fun c ρ1 => if c = true then m2 ρ1 else some (.ok (.im (.bl false)) ρ1) := rfl
@[simp] theorem xOrV_at {m1 m2 : M Rv} : xOrV m1 m2 ρ = bnd (xB m1 ρ) fun c ρ1 => if c = true then some (.ok (.im (.bl true)) ρ1) else m2 ρ1 := rfl
@[simp] theorem xNotV_at {m1 : M Rv} : xNotV m1 ρ = bnd (xB m1 ρ) fun c ρ1 => some (.ok (.im (.bl (!c))) ρ1) := rfl
@[simp] theorem xNeg_at {m1 : M Rv} : xNeg m1 ρ = bnd (m1 ρ) fun r ρ1 => match deref ρ1 r with
  | some (.int i) => some (.ok (.im (.int (-i))) ρ1)
  | _ => none := rfl
@[simp] theorem xIf_at {c : M Bool} {m1 m2 : M Rv} : xIf c m1 m2 ρ = bnd (c ρ) fun k ρ1 => if k = true then m1 ρ1 else m2 ρ1 := rfl
@[simp] theorem xOrT_at {m1 m2 : M Rv} : xOrT m1 m2 ρ = bnd (m1 ρ) fun r ρ1 => match deref ρ1 r with
  | some d => match truD d with
    | some true => some (.ok r ρ1)
    | some false => m2 ρ1
    | none => none
  | none => none := rfl
@[simp] theorem oNo_at : oNo ρ = some (.ok none ρ) := rfl
@[simp] theorem oYes_at {m : M Rv} : oYes m ρ = bnd (m ρ) fun r ρ1 => match deref ρ1 r with
  | some (.int i) => some (.ok (some i) ρ1)
  | _ => none := rfl
@[simp] theorem xSl_at {m : M Rv} {lo hi : M (Option Int)} : xSl m lo hi ρ = bnd (m ρ) fun r ρ1 => bnd (lo ρ1) fun l ρ2 => bnd (hi ρ2) fun h ρ3 => match deref ρ3 r with
  | some d => drK (dSl l h d) ρ3
  | none => none := rfl
@[simp] theorem xRev_at {m : M Rv} : xRev m ρ = bnd (m ρ) fun r ρ1 => match deref ρ1 r with
  | some (.lst ds) => some (.ok (.nw (.lst ds.reverse)) ρ1)
  | _ => none := rfl
@[simp] theorem xIsi_at {s : String} {m : M Rv} : xIsi s m ρ = bnd (m ρ) fun r ρ1 => match deref ρ1 r with
  | some d => match dTy d with
    | some a => match kitB a s with
      | some k => some (.ok (.im (.bl k)) ρ1)
      | none => none
    | none => none
  | none => none := rfl
@[simp] theorem xChain_at {f g : D → D → Option Dr} {m1 m2 m3 : M Rv} : xChain f g m1 m2 m3 ρ = bnd (m1 ρ) fun r1 ρ1 => bnd (m2 ρ1) fun r2 ρ2 => match deref ρ2 r1, deref ρ2 r2 with
  | some d1, some d2 => match f d1 d2 with
    | some (.pd (.bl true)) => bnd (m3 ρ2) fun r3 ρ3 => match deref ρ3 r2, deref ρ3 r3 with
      | some d2', some d3 => drK (g d2' d3) ρ3
      | _, _ => none
    | some (.pd (.bl false)) => some (.ok (.im (.bl false)) ρ2)
    | _ => none
  | _, _ => none := rfl
@[simp] theorem iAny_at {m : M Rv} : iAny m ρ = bnd (m ρ) fun r ρ1 => match fz1 r ρ1 with
  | some (d, ρ2) => match itemsD d with
    | some ds => some (.ok ds ρ2)
    | none => none
  | none => none := rfl
@[simp] theorem items_lst {ds : List D} : itemsD (.lst ds) = some ds := rfl
@[simp] theorem items_tup {ds : List D} : itemsD (.tup ds) = some ds := rfl
@[simp] theorem iEn_at {m : M (List Rv)} : iEn m ρ = bnd (m ρ) fun rs ρ1 => match fzs rs ρ1 with
  | some ([.lst ds], ρ2) => some (.ok (ds.mapIdx fun i d => .tup [.int i, d]) ρ2)
  | _ => none := rfl
@[simp] theorem deref_im : deref ρ (.im d) = some d := rfl
@[simp] theorem deref_nw : deref ρ (.nw ob) = ob.toD := rfl
@[simp] theorem deref_al : deref ρ (.al i) = match ρ[i]? with
  | some (.im d) => some d
  | some (.ow _ ob) => ob.toD
  | _ => none := rfl
@[simp] theorem toD_lst {ds : List D} : (Ob.lst ds).toD = some (.lst ds) := rfl
@[simp] theorem derefs_nil : derefs ρ [] = some [] := rfl
@[simp] theorem derefs_cons {rs : List Rv} : derefs ρ (r :: rs) = match deref ρ r, derefs ρ rs with
  | some d, some ds => some (d :: ds)
  | _, _ => none := rfl
@[simp] theorem fz1_im : fz1 (.im d) ρ = some (d, ρ) := rfl
@[simp] theorem fz1_nl {ds : List D} : fz1 (.nw (.lst ds)) ρ = some (.lst ds, ρ) := rfl
@[simp] theorem fz1_al : fz1 (.al i) ρ = match ρ[i]? with
  | some (.im d) => some (d, ρ)
  | some (.ow false (.lst ds)) => some (.lst ds, ρ.set i (.im (.lst ds)))
  | _ => none := rfl
@[simp] theorem fzs_nil : fzs [] ρ = some ([], ρ) := rfl
@[simp] theorem fzs_cons {rs : List Rv} : fzs (r :: rs) ρ = match fz1 r ρ with
  | none => none
  | some (d, ρ1) => match fzs rs ρ1 with
    | none => none
    | some (ds, ρ2) => some (d :: ds, ρ2) := rfl
@[simp] theorem putS_im : putS i (.im d) ρ = if isPar ρ[i]? = true ∨ ρ.length ≤ i then none else some (ρ.set i (.im d)) := rfl
@[simp] theorem putS_nw : putS i (.nw ob) ρ = if isPar ρ[i]? = true ∨ ρ.length ≤ i then none else some (ρ.set i (.ow false ob)) := rfl
@[simp] theorem isPar_none : isPar none = false := rfl
@[simp] theorem isPar_un : isPar (some .un) = false := rfl
@[simp] theorem isPar_im : isPar (some (.im d)) = false := rfl
@[simp] theorem isPar_owF : isPar (some (.ow false ob)) = false := rfl
@[simp] theorem isPar_owT : isPar (some (.ow true ob)) = true := rfl
@[simp] theorem bindT_nm : bindT (.nm i) d ρ = putS i (.im d) ρ := by simp [bindT]
@[simp] theorem bindT_tp {l : List Tg} {ds : List D} : bindT (.tp l) (.tup ds) ρ = bindTs l ds ρ := by simp [bindT]
@[simp] theorem bindTs_nil : bindTs [] [] ρ = some ρ := by simp [bindTs]
@[simp] theorem bindTs_cons {t : Tg} {ts : List Tg} {ds : List D} : bindTs (t :: ts) (d :: ds) ρ = match bindT t d ρ with
  | some ρ1 => bindTs ts ds ρ1
  | none => none := by
  simp only [bindTs] <;> (cases bindT t d ρ <;> rfl)
@[simp] theorem storeL_nil : storeL [] [] ρ = some ρ := rfl
@[simp] theorem storeL_im {is : List Nat} {rs : List Rv} : storeL (i :: is) (.im d :: rs) ρ = match putS i (.im d) ρ with
  | some ρ1 => storeL is rs ρ1
  | none => none := rfl
@[simp] theorem storeL_nw {is : List Nat} {rs : List Rv} : storeL (i :: is) (.nw ob :: rs) ρ = match putS i (.nw ob) ρ with
  | some ρ1 => storeL is rs ρ1
  | none => none := rfl
@[simp] theorem finP_nil' : finP [] ρ' = [] := rfl
@[simp] theorem finP_par {s : Sl} : finP (.ow true ob :: ρ) (s :: ρ') = s :: finP ρ ρ' := by simp [finP]
@[simp] theorem finP_im {s : Sl} : finP (.im d :: ρ) (s :: ρ') = .im d :: finP ρ ρ' := by simp [finP]
@[simp] theorem dAdd_int {x y : Int} : dAdd (.int x) (.int y) = some (.pd (.int (x + y))) := rfl
@[simp] theorem dSub_int {x y : Int} : dSub (.int x) (.int y) = some (.pd (.int (x - y))) := rfl
@[simp] theorem dLt_int {x y : Int} : dLt (.int x) (.int y) = some (.pd (.bl (decide (x < y)))) := rfl
@[simp] theorem dLe_int {x y : Int} : dLe (.int x) (.int y) = some (.pd (.bl (decide (x ≤ y)))) := rfl
@[simp] theorem dI_int {p : Int → Int → Bool} {x y : Int} : dI p (.int x) (.int y) = some (.pd (.bl (p x y))) := rfl
theorem dMul_int {x y : Int} (h : smallF x y = true) : dMul (.int x) (.int y) = some (.pd (.int (x * y))) := by simp [dMul, h]
theorem dDiv_int {x y : Int} (h : 0 < y ∧ y < 1073741824) : dDiv (.int x) (.int y) = some (.pd (.int (x / y))) := by simp [dDiv, h]
theorem dMod_int {x y : Int} (h : 0 < y) : dMod (.int x) (.int y) = some (.pd (.int (x % y))) := by simp [dMod, h]
theorem smallL {x y : Int} (h1 : -18446744073709551616 < x) (h2 : x < 18446744073709551616) : smallF x y = true := by
  have : (2 : Int) ^ 64 = 18446744073709551616 := by decide
  simp [smallF, this, h1, h2]
theorem smallR' {x y : Int} (h1 : -18446744073709551616 < y) (h2 : y < 18446744073709551616) : smallF x y = true := by
  have : (2 : Int) ^ 64 = 18446744073709551616 := by decide
  simp [smallF, this, h1, h2]
end
end L2.DL
namespace L2.DL
open PySem PySem.Spec PyProof.Rows

/-! ### data of dints, comparisons -/
def dints (l : List Int) : List D := l.map D.int
@[simp] theorem dints_nil : dints [] = [] := rfl
@[simp] theorem dints_cons {x : Int} {l : List Int} : dints (x :: l) = .int x :: dints l := rfl
@[simp] theorem dints_length {l : List Int} : (dints l).length = l.length := by simp [dints]
theorem dints_get {l : List Int} {i : Nat} : (dints l)[i]? = l[i]?.map D.int := by simp [dints]
theorem dints_set {l : List Int} {i : Nat} {x : Int} : (dints l).set i (.int x) = dints (l.set i x) := by simp [dints, List.map_set]
def pints (l : List Int) : List PyData := l.map PyData.int
theorem pys_ints : ∀ l : List Int, pys (dints l) = some (pints l)
  | [] => rfl
  | x :: l => by simp [pys, D.py, pys_ints l, pints]
theorem canLay_ints : ∀ l : List Int, PyData.canLayAll0 (pints l) = true
  | [] => by simp [pints, PyData.canLayAll0]
  | x :: l => by
    have := canLay_ints l
    simp only [pints, List.map_cons] at this ⊢
    simp [PyData.canLayAll0, PyData.canLay0, this]
theorem depth_ints : ∀ l : List Int, PyData.depthAll (pints l) = 0
  | [] => by simp [pints, PyData.depthAll]
  | x :: l => by
    have := depth_ints l
    simp only [pints, List.map_cons] at this ⊢
    simp [PyData.depthAll, PyData.depth, this]
theorem eqv_ints : ∀ l m : List Int, PyData.eqvAll (pints l) (pints m) = decide (l = m)
  | [], [] => by simp [pints, PyData.eqvAll]
  | [], _ :: _ => by simp [pints, PyData.eqvAll]
  | _ :: _, [] => by simp [pints, PyData.eqvAll]
  | x :: l, y :: m => by
    have := eqv_ints l m
    simp only [pints, List.map_cons] at this ⊢
    simp only [PyData.eqvAll, PyData.eqv, this]
    by_cases h : x = y <;> by_cases h' : l = m <;> simp [h, h']
theorem shaped_int (x : Int) : SeqAt.shaped (.int x) = true := by simp [SeqAt.shaped, PyData.canLay0, PyData.depth]
theorem shaped_bool (x : Bool) : SeqAt.shaped (.bool x) = true := by simp [SeqAt.shaped, PyData.canLay0, PyData.depth]
theorem shaped_list (l : List Int) : SeqAt.shaped (.list (pints l)) = true := by simp [SeqAt.shaped, PyData.canLay0, PyData.depth, canLay_ints, depth_ints]
theorem shaped_tuple (l : List Int) : SeqAt.shaped (.tuple (pints l)) = true := by simp [SeqAt.shaped, PyData.canLay0, PyData.depth, canLay_ints, depth_ints]
@[simp] theorem dEq_int {x y : Int} : dEq (.int x) (.int y) = some (.pd (.bl (decide (x = y)))) := by
  simp only [dEq, two, D.py, eqF, shaped_int, PyData.eqv]
  by_cases h : x = y <;> simp [h]
@[simp] theorem dNe_int {x y : Int} : dNe (.int x) (.int y) = some (.pd (.bl (!decide (x = y)))) := by
  simp only [dNe, two, D.py, eqF, shaped_int, PyData.eqv]
  by_cases h : x = y <;> simp [h]
@[simp] theorem dNe_bl {x y : Bool} : dNe (.bl x) (.bl y) = some (.pd (.bl (!decide (x = y)))) := by
  simp only [dNe, two, D.py, eqF, shaped_bool, PyData.eqv]
  cases x <;> cases y <;> simp
@[simp] theorem dEq_ints {x y : List Int} : dEq (.lst (dints x)) (.lst (dints y)) = some (.pd (.bl (decide (x = y)))) := by
  simp only [dEq, two, D.py, pys_ints, eqF, shaped_list, PyData.eqv, eqv_ints]
  simp
@[simp] theorem dIs_bl {n : Bool} {x y : Bool} : dIs n (.bl x) (.bl y) = some (.pd (.bl (if n then !decide (x = y) else decide (x = y)))) := rfl
/-- texts that are written -/
theorem dEq_str {x y : Str} (hx : SeqAt.shaped (.str x) = true) (hy : SeqAt.shaped (.str y) = true) : dEq (.str x) (.str y) = some (.pd (.bl (x == y))) := by
  simp [dEq, two, D.py, eqF, hx, hy, PyData.eqv]
theorem dNe_str {x y : Str} (hx : SeqAt.shaped (.str x) = true) (hy : SeqAt.shaped (.str y) = true) : dNe (.str x) (.str y) = some (.pd (.bl (!(x == y)))) := by
  simp [dNe, two, D.py, eqF, hx, hy, PyData.eqv]
theorem ixN_nat {n k : Nat} (h : k < n) : ixN n (k : Int) = some k := by
  unfold ixN
  rw [if_pos (by omega), if_pos (by omega)]
  simp
theorem dIx_lst {xs : List D} {k : Nat} {d : D} (h : xs[k]? = some d) : dIx (.lst xs) (.int k) = some (.pd d) := by
  have hk := (List.getElem?_eq_some_iff.mp h).1
  simp [dIx, atI, ixN_nat hk, h]
theorem dIx_tup {xs : List D} {k : Nat} {d : D} (h : xs[k]? = some d) : dIx (.tup xs) (.int k) = some (.pd d) := by
  have hk := (List.getElem?_eq_some_iff.mp h).1
  simp [dIx, atI, ixN_nat hk, h]
@[simp] theorem fLen_lst {ds : List D} : fLen [.lst ds] = some (.pd (.int ds.length)) := rfl
@[simp] theorem fLen_tup {ds : List D} : fLen [.tup ds] = some (.pd (.int ds.length)) := rfl
@[simp] theorem fInt_int {i : Int} : fInt [.int i] = some (.pd (.int i)) := rfl
@[simp] theorem fAbs_int {i : Int} : fAbs [.int i] = some (.pd (.int (if i < 0 then -i else i))) := rfl
@[simp] theorem fMax2_int {i j : Int} : fMax2 [.int i, .int j] = some (.pd (.int (if j > i then j else i))) := rfl
@[simp] theorem fList_tup {ds : List D} : fList [.tup ds] = some (.nl ds) := rfl
@[simp] theorem fList_lst {ds : List D} : fList [.lst ds] = some (.nl ds) := rfl
@[simp] theorem fTuple_lst {ds : List D} : fTuple [.lst ds] = some (.pd (.tup ds)) := rfl
@[simp] theorem fTuple_tup {ds : List D} : fTuple [.tup ds] = some (.pd (.tup ds)) := rfl
/-- indices of a written list -/
@[simp] theorem dIx_l0 {a : D} {l : List D} : dIx (.lst (a :: l)) (.int 0) = some (.pd a) := dIx_lst (k := 0) rfl
@[simp] theorem dIx_l1 {a b : D} {l : List D} : dIx (.lst (a :: b :: l)) (.int 1) = some (.pd b) := dIx_lst (k := 1) rfl
@[simp] theorem dIx_l2 {a b c : D} {l : List D} : dIx (.lst (a :: b :: c :: l)) (.int 2) = some (.pd c) := dIx_lst (k := 2) rfl
@[simp] theorem dIx_l3 {a b c d : D} {l : List D} : dIx (.lst (a :: b :: c :: d :: l)) (.int 3) = some (.pd d) := dIx_lst (k := 3) rfl
@[simp] theorem dIx_l4 {a b c d e : D} {l : List D} : dIx (.lst (a :: b :: c :: d :: e :: l)) (.int 4) = some (.pd e) := dIx_lst (k := 4) rfl
@[simp] theorem dIx_t0 {a : D} {l : List D} : dIx (.tup (a :: l)) (.int 0) = some (.pd a) := dIx_tup (k := 0) rfl
@[simp] theorem dIx_t1 {a b : D} {l : List D} : dIx (.tup (a :: b :: l)) (.int 1) = some (.pd b) := dIx_tup (k := 1) rfl
@[simp] theorem dIx_t2 {a b c : D} {l : List D} : dIx (.tup (a :: b :: c :: l)) (.int 2) = some (.pd c) := dIx_tup (k := 2) rfl
end L2.DL
namespace L2.DL
open PySem PySem.Spec PyProof.Rows

/-! ### the hand and its draws -/
def bDrawA : MS := (sIf (xAnd (xB (xOp dEq (xOp dIx (xVar 0) (xC (.int 2))) (xC (.int 0)))) (xB (xOp dLt (xOp dIx (xVar 0) (xC (.int 1))) (xFn fLen (xACons (xOp dIx (xVar 0) (xC (.int 0))) xANil))))) (sSeq (sSet 2 (xOp dIx (xOp dIx (xVar 0) (xC (.int 0))) (xOp dIx (xVar 0) (xC (.int 1))))) (sSeq (sSetI 0 (xC (.int 1)) (xOp dAdd (xOp dIx (xVar 0) (xC (.int 1))) (xC (.int 1)))) (sSeq (sSetI 0 (xC (.int 3)) (xOp dMod (xFn fInt (xACons (xOp dAdd (xOp dAdd (xOp dMul (xOp dIx (xVar 0) (xC (.int 3))) (xC (.int 69621))) (xOp dMul (xVar 2) (xC (.int 40692)))) (xC (.int 31))) xANil)) (xC (.int 2147483629)))) (sIf (xB (xOp (dI fun i j => decide (j ≤ i)) (xVar 2) (xOp dPow (xC (.int 10)) (xC (.int 18))))) (sSetI 0 (xC (.int 2)) (xVar 2)) sSkip)))) sSkip)
def bDrawT : MS := (sSeq (sIf (xB (xOp (dI fun i j => decide (j < i)) (xOp dIx (xVar 0) (xC (.int 2))) (xC (.int 0)))) (sSeq (sSet 3 (xOp dMod (xFn fInt (xACons (xOp dIx (xVar 0) (xC (.int 2))) xANil)) (xVar 1))) (sSeq (sSetI 0 (xC (.int 2)) (xOp dDiv (xOp dIx (xVar 0) (xC (.int 2))) (xVar 1))) (sRet (xVar 3)))) sSkip) (sSeq (sSetI 0 (xC (.int 4)) (xOp dAdd (xOp dIx (xVar 0) (xC (.int 4))) (xC (.int 1)))) (sSeq (sSet 4 (xOp dMod (xFn fInt (xACons (xOp dMul (xFn fInt (xACons (xOp dAdd (xOp dIx (xVar 0) (xC (.int 3))) (xOp dMul (xC (.int 7919)) (xOp dIx (xVar 0) (xC (.int 4))))) xANil)) (xC (.int 48271))) xANil)) (xC (.int 2147483647)))) (sSeq (sSet 4 (xOp dMod (xFn fInt (xACons (xOp dMul (xVar 4) (xOp dAdd (xOp dDiv (xVar 4) (xC (.int 1009))) (xC (.int 69621)))) xANil)) (xC (.int 2147483647)))) (sSeq (sSet 4 (xOp dMod (xFn fInt (xACons (xOp dMul (xVar 4) (xOp dAdd (xOp dDiv (xVar 4) (xC (.int 2003))) (xC (.int 40014)))) xANil)) (xC (.int 2147483563)))) (sRet (xOp dMod (xFn fInt (xACons (xOp dDiv (xVar 4) (xC (.int 16))) xANil)) (xVar 1))))))))
def bDraw : MS := sSeq bDrawA bDrawT
def handL (cs : List Int) (p s q c : Int) : Ob := .lst [.lst (dints cs), .int p, .int s, .int q, .int c]
structure HandOk (h : Ob) : Prop where
  ex : ∃ cs p s q c, h = handL cs p s q c ∧ 0 ≤ p ∧ (∀ x ∈ cs, 0 ≤ x) ∧ 0 ≤ s
@[simp] theorem ixN_5_0 : ixN 5 0 = some 0 := by decide
@[simp] theorem ixN_5_1 : ixN 5 1 = some 1 := by decide
@[simp] theorem ixN_5_2 : ixN 5 2 = some 2 := by decide
@[simp] theorem ixN_5_3 : ixN 5 3 = some 3 := by decide
@[simp] theorem ixN_5_4 : ixN 5 4 = some 4 := by decide
theorem sSetI_own {j : Nat} {mi m : M Rv} {ρ : En} {par : Bool} {ds : List D} (h0 : ρ[j]? = some (.ow par (.lst ds))) : sSetI j mi m ρ = sbn (m ρ) fun r ρ1 => match ρ1[j]? with
  | some (.ow _ (.lst _)) => sbn (mi ρ1) fun ri ρ2 => match deref ρ2 ri with
    | some (.int n) => match fz1 r ρ2 with
      | some (d, ρ3) => match ρ3[j]? with
        | some (.ow par (.lst ds)) => match ixN ds.length n with
          | some m => some (.nx (ρ3.set j (.ow par (.lst (ds.set m d)))))
          | none => none
        | _ => none
      | none => none
    | _ => none
  | _ => none := rfl
@[simp] theorem xSetI_at {j : Nat} {mi m : M Rv} {ρ : En} : sSetI j mi m ρ = sbn (m ρ) fun r ρ1 => match ρ1[j]? with
  | some (.ow _ (.lst _)) => sbn (mi ρ1) fun ri ρ2 => match deref ρ2 ri with
    | some (.int n) => match fz1 r ρ2 with
      | some (d, ρ3) => match ρ3[j]? with
        | some (.ow par (.lst ds)) => match ixN ds.length n with
          | some m => some (.nx (ρ3.set j (.ow par (.lst (ds.set m d)))))
          | none => none
        | _ => none
      | none => none
    | _ => none
  | _ => none := rfl
theorem draw_tail {cs : List Int} {p s q c b : Int} {x : Sl} (h0 : 0 < b) (h1 : b < 1073741824) (hx : x = .un ∨ ∃ d, x = .im d) (hp : 0 ≤ p) (hcs : ∀ x ∈ cs, 0 ≤ x) (hs : 0 ≤ s) :
    ∃ r h' l, bDrawT [.ow true (handL cs p s q c), .im (.int b), x, .un, .un] = some (.rt (.im (.int r)) (.ow true h' :: .im (.int b) :: l)) ∧ 0 ≤ r ∧ r < b ∧ HandOk h' := by
  by_cases h2 : 0 < s
  · refine ⟨s % b, handL cs p (s / b) q c, [x, .im (.int (s % b)), .un], ?_, Int.emod_nonneg _ (by omega), Int.emod_lt_of_pos _ h0, ⟨_, _, _, _, _, rfl, hp, hcs, Int.ediv_nonneg hs (by omega)⟩⟩
    rcases hx with rfl | ⟨d, rfl⟩ <;> simp [bDrawT, handL, h2, dMod_int h0, dDiv_int ⟨h0, h1⟩]
  · have e : s = 0 := by omega
    subst e
    let n1 : Int := (q + 7919 * (c + 1)) * 48271 % 2147483647
    let n2 : Int := n1 * (n1 / 1009 + 69621) % 2147483647
    refine ⟨(n2 * (n2 / 2003 + 40014) % 2147483563) / 16 % b, handL cs p 0 q (c + 1), [x, .un, .im (.int (n2 * (n2 / 2003 + 40014) % 2147483563))], ?_, Int.emod_nonneg _ (by omega), Int.emod_lt_of_pos _ h0, ⟨_, _, _, _, _, rfl, hp, hcs, Int.le_refl _⟩⟩
    have m1 : ∀ y : Int, smallF 7919 y = true := fun y => smallL (by decide) (by decide)
    have m2 : ∀ y : Int, smallF y 48271 = true := fun y => smallR' (by decide) (by decide)
    have m3 : ∀ x y : Int, smallF (x % 2147483647) y = true := fun x y => smallL (by have := Int.emod_nonneg x (show (2147483647 : Int) ≠ 0 by decide); omega) (by have := Int.emod_lt_of_pos x (show (0 : Int) < 2147483647 by decide); omega)
    rcases hx with rfl | ⟨d, rfl⟩ <;> simp [bDrawT, handL, dMul_int, m1, m2, m3, dMod_int, dDiv_int, dMod_int h0, n1, n2]
theorem draw_ok {h : Ob} (H : HandOk h) {b : Int} (h0 : 0 < b) (h1 : b < 1073741824) : ∃ r h', fnM 2 5 bDraw [.ow true h, .im (.int b)] = some (.ok (.im (.int r)) [.ow true h', .im (.int b)]) ∧ 0 ≤ r ∧ r < b ∧ HandOk h' := by
  obtain ⟨cs, p, s, q, c, rfl, hp, hcs, hs⟩ := H.ex
  rw [fnM_at]
  by_cases hc : s = 0 ∧ p < cs.length
  · obtain ⟨e, hl⟩ := hc
    subst e
    obtain ⟨k, rfl⟩ := Int.eq_ofNat_of_zero_le hp
    have hk : k < cs.length := by omega
    have e1 : dIx (.lst (dints cs)) (.int k) = some (.pd (.int cs[k])) := dIx_lst (by rw [dints_get, List.getElem?_eq_getElem hk]; rfl)
    have p0 : 0 ≤ cs[k] := hcs _ (List.getElem_mem hk)
    have m1 : ∀ y : Int, smallF y 69621 = true := fun y => smallR' (by decide) (by decide)
    have m2 : ∀ y : Int, smallF y 40692 = true := fun y => smallR' (by decide) (by decide)
    have ew : dPow (.int 10) (.int 18) = some (.pd (.int 1000000000000000000)) := by simp [dPow]
    by_cases hb : 1000000000000000000 ≤ cs[k]
    · obtain ⟨r, h', l, t1, t2⟩ := draw_tail (cs := cs) (p := k + 1) (s := cs[k]) (q := (q * 69621 + cs[k] * 40692 + 31) % 2147483629) (c := c) (x := .im (.int cs[k])) h0 h1 (.inr ⟨_, rfl⟩) (by omega) hcs p0
      refine ⟨r, h', ?_, t2⟩
      unfold handL at t1
      simp [bDraw, bDrawA, handL, hl, e1, dMul_int, m1, m2, dMod_int, ew, hb, t1]
    · obtain ⟨r, h', l, t1, t2⟩ := draw_tail (cs := cs) (p := k + 1) (s := 0) (q := (q * 69621 + cs[k] * 40692 + 31) % 2147483629) (c := c) (x := .im (.int cs[k])) h0 h1 (.inr ⟨_, rfl⟩) (by omega) hcs (Int.le_refl _)
      refine ⟨r, h', ?_, t2⟩
      unfold handL at t1
      simp [bDraw, bDrawA, handL, hl, e1, dMul_int, m1, m2, dMod_int, ew, hb, t1]
  · obtain ⟨r, h', l, t1, t2⟩ := draw_tail (cs := cs) (p := p) (s := s) (q := q) (c := c) (x := .un) h0 h1 (.inl rfl) hp hcs hs
    refine ⟨r, h', ?_, t2⟩
    unfold handL at t1
    by_cases e : s = 0
    · have hl : ¬ p < cs.length := fun z => hc ⟨e, z⟩
      simp [bDraw, bDrawA, handL, e, hl, e ▸ t1]
    · simp [bDraw, bDrawA, handL, e, t1]
end L2.DL
namespace L2.DL
open PySem PySem.Spec PyProof.Rows

/-! ### loops by what stands between the turns -/
theorem forD_by {tg : Tg} {b : MS} {ds : List D} (P : Nat → En → Prop) (R : SR → Prop) (hs : ∀ i d ρ, ds[i]? = some d → P i ρ → ∃ ρ1, bindT tg d ρ = some ρ1 ∧ ∃ s, b ρ1 = some s ∧
    ((∃ ρ2, (s = .nx ρ2 ∨ s = .ct ρ2) ∧ P (i + 1) ρ2) ∨ (∃ ρ2, s = .bk ρ2 ∧ R (.nx ρ2)) ∨ (∃ r ρ2, s = .rt r ρ2 ∧ R s))) {ρ : En} (h0 : P 0 ρ) :
    ∃ s, forD tg b ds ρ = some s ∧ ((∃ ρ', s = .nx ρ' ∧ P ds.length ρ') ∨ R s) := by
  have key : ∀ (k : Nat) (ρ : En), k ≤ ds.length → P k ρ → ∃ s, forD tg b (ds.drop k) ρ = some s ∧ ((∃ ρ', s = .nx ρ' ∧ P ds.length ρ') ∨ R s) := by
    intro k
    generalize hm : ds.length - k = m
    induction m generalizing k with
    | zero =>
      intro ρ hk h
      have e : k = ds.length := by omega
      subst e
      rw [List.drop_length]
      exact ⟨_, rfl, .inl ⟨ρ, rfl, h⟩⟩
    | succ m ih =>
      intro ρ hk h
      have hlt : k < ds.length := by omega
      rw [List.drop_eq_getElem_cons hlt]
      obtain ⟨ρ1, e1, s, e2, c⟩ := hs k ds[k] ρ (List.getElem?_eq_getElem hlt) h
      simp only [forD, e1, e2]
      rcases c with ⟨ρ2, e3, h2⟩ | ⟨ρ2, e3, h2⟩ | ⟨r, ρ2, e3, h2⟩
      · rcases e3 with e3 | e3 <;> subst e3 <;> exact ih (k + 1) (by omega) ρ2 (by omega) h2
      · subst e3; exact ⟨_, rfl, .inr h2⟩
      · subst e3; exact ⟨_, rfl, .inr h2⟩
  have := key 0 ρ (Nat.zero_le _) h0
  rwa [List.drop_zero] at this
/-- .. that goes through -/
theorem forD_all {tg : Tg} {b : MS} {ds : List D} (P : Nat → En → Prop) (hs : ∀ i d ρ, ds[i]? = some d → P i ρ → ∃ ρ1, bindT tg d ρ = some ρ1 ∧ ∃ ρ2, (b ρ1 = some (.nx ρ2) ∨ b ρ1 = some (.ct ρ2)) ∧ P (i + 1) ρ2) {ρ : En} (h0 : P 0 ρ) :
    ∃ ρ', forD tg b ds ρ = some (.nx ρ') ∧ P ds.length ρ' := by
  obtain ⟨s, h1, h2⟩ := forD_by (ds := ds) (b := b) (tg := tg) P (fun _ => False) (fun i d ρ hd h => by
    obtain ⟨ρ1, e1, ρ2, e2, h2⟩ := hs i d ρ hd h
    rcases e2 with e2 | e2
    · exact ⟨ρ1, e1, _, e2, .inl ⟨ρ2, .inl rfl, h2⟩⟩
    · exact ⟨ρ1, e1, _, e2, .inl ⟨ρ2, .inr rfl, h2⟩⟩) h0
  rcases h2 with ⟨ρ', e, h⟩ | h
  · subst e; exact ⟨ρ', h1, h⟩
  · exact h.elim
theorem lcD_by {vs : List Nat} {tg : Tg} {tt : M Bool} {el : M Rv} {ds : List D} (P : Nat → List D → En → Prop) (hz : ds.length ≤ sizeLine)
    (hs : ∀ i d acc ρ, ds[i]? = some d → P i acc ρ → ∃ ρ1, bindT tg d (wipeE ρ vs) = some ρ1 ∧ ((∃ ρ2 r ρ3 x ρ4, tt ρ1 = some (.ok true ρ2) ∧ el ρ2 = some (.ok r ρ3) ∧ fz1 r ρ3 = some (x, ρ4) ∧ P (i + 1) (acc ++ [x]) ρ4) ∨ (∃ ρ2, tt ρ1 = some (.ok false ρ2) ∧ P (i + 1) acc ρ2))) {ρ : En} (h0 : P 0 [] ρ) :
    ∃ acc ρ', lcD vs tg tt el ds [] ρ = some (.ok acc ρ') ∧ P ds.length acc ρ' ∧ acc.length ≤ ds.length := by
  have key : ∀ (k : Nat) (acc : List D) (ρ : En), k ≤ ds.length → acc.length ≤ k → P k acc ρ → ∃ acc' ρ', lcD vs tg tt el (ds.drop k) acc ρ = some (.ok acc' ρ') ∧ P ds.length acc' ρ' ∧ acc'.length ≤ ds.length := by
    intro k
    generalize hm : ds.length - k = m
    induction m generalizing k with
    | zero =>
      intro acc ρ hk ha h
      have e : k = ds.length := by omega
      subst e
      rw [List.drop_length]
      exact ⟨acc, ρ, rfl, h, ha⟩
    | succ m ih =>
      intro acc ρ hk ha h
      have hlt : k < ds.length := by omega
      rw [List.drop_eq_getElem_cons hlt]
      obtain ⟨ρ1, e1, c⟩ := hs k ds[k] acc ρ (List.getElem?_eq_getElem hlt) h
      rcases c with ⟨ρ2, r, ρ3, x, ρ4, e2, e3, e4, h2⟩ | ⟨ρ2, e2, h2⟩
      · have hl : acc.length < sizeLine := by omega
        simp only [lcD, e1, e2, bnd_ok, e3, fzM1, e4, hl, if_true]
        exact ih (k + 1) (by omega) _ ρ4 (by omega) (by simp; omega) h2
      · simp only [lcD, e1, e2, bnd_ok, if_neg Bool.false_ne_true]
        exact ih (k + 1) (by omega) acc ρ2 (by omega) (by omega) h2
  have := key 0 [] ρ (Nat.zero_le _) (Nat.le_refl _) h0
  rwa [List.drop_zero] at this
section
variable {ρ : En} {d : D} {i : Nat} {r : Rv} {b : MS} {m : M Rv}
@[simp] theorem xLc_at {vs : List Nat} {tg : Tg} {mi : M (List D)} {tt : M Bool} {el : M Rv} : xLc vs tg mi tt el ρ = bnd (mi ρ) fun ds ρ1 => if vs.all (fun j => !isPar ρ1[j]?) = true then lcEnd vs ρ1 (lcD vs tg tt el ds [] ρ1) else none := rfl
@[simp] theorem lcEnd_ok {vs : List Nat} {ρ1 : En} {acc : List D} : lcEnd vs ρ1 (some (.ok acc ρ)) = some (.ok (.nw (.lst acc)) (backE ρ1 ρ vs)) := rfl
@[simp] theorem tYesM_at : tYesM ρ = some (.ok true ρ) := rfl
@[simp] theorem wipeE_nil : wipeE ρ [] = ρ := rfl
@[simp] theorem wipeE_cons {v : Nat} {vs : List Nat} : wipeE ρ (v :: vs) = (wipeE ρ vs).set v .un := rfl
@[simp] theorem backE_nil {ρ1 : En} : backE ρ1 ρ [] = ρ := rfl
@[simp] theorem backE_cons {ρ1 : En} {v : Nat} {vs : List Nat} : backE ρ1 ρ (v :: vs) = (backE ρ1 ρ vs).set v (ρ1.getD v .un) := rfl
@[simp] theorem iRg1_at {a : M (List Rv)} : iRg1 a ρ = bnd (a ρ) fun rs ρ1 => match derefs ρ1 rs with
  | some [.int j] => if smallR j then some (.ok (rngD 0 j) ρ1) else none
  | _ => none := rfl
@[simp] theorem iRg2_at {a : M (List Rv)} : iRg2 a ρ = bnd (a ρ) fun rs ρ1 => match derefs ρ1 rs with
  | some [.int i, .int j] => if smallR i && smallR j then some (.ok (rngD i j) ρ1) else none
  | _ => none := rfl
def nats (n : Nat) : List D := (List.range n).map fun i => .int (i : Nat)
@[simp] theorem nats_length {n : Nat} : (nats n).length = n := by simp [nats]
theorem nats_get {n : Nat} (h : (nats n)[i]? = some d) : d = .int (i : Nat) ∧ i < n := by
  have hl := (List.getElem?_eq_some_iff.mp h).1
  rw [nats_length] at hl
  refine ⟨?_, hl⟩
  simp [nats, List.getElem?_map, List.getElem?_range hl] at h
  exact h.symm
theorem rngD_nat (n : Nat) : rngD 0 (n : Int) = nats n := by
  unfold rngD nats
  simp
theorem smallR_nat {n : Nat} (h : n ≤ 1000000) : smallR (n : Int) = true := by
  simp only [smallR, Bool.and_eq_true, decide_eq_true_eq]
  omega
/-- a call of a def, by what it gives -/
theorem xCall_im {f : Fm} {a : M (List Rv)} {rs : List Rv} {ds : List D} {ρ1 ρ2 ρ' : En} {e : D} (h1 : a ρ = some (.ok rs ρ1)) (h2 : fzs rs ρ1 = some (ds, ρ2)) (h3 : f (ds.map .im) = some (.ok (.im e) ρ')) : xCall f a ρ = some (.ok (.im e) ρ2) := by
  simp [xCall, h1, h2, h3]
@[simp] theorem xCall_at {f : Fm} {a : M (List Rv)} : xCall f a ρ = bnd (a ρ) fun rs ρ1 => bnd (fzM rs ρ1) fun ds ρ2 => match f (ds.map .im) with
  | none => none
  | some (.ok (.im d) _) => some (.ok (.im d) ρ2)
  | some (.ok (.nw ob) _) => some (.ok (.nw ob) ρ2)
  | some (.ok (.al _) _) => none
  | some (.ex e _) => some (.ex e ρ2) := rfl
@[simp] theorem xCallO_at {f : Fm} {a : M (List Rv)} : xCallO f a ρ = bnd (a ρ) fun rs ρ1 => match rs with
  | .al i :: rs' => bnd (fzM rs' ρ1) fun ds ρ2 => match ρ2[i]? with
    | some (.ow par ob) => match f (.ow true ob :: ds.map .im) with
      | some (.ok (.im d) (.ow true ob' :: _)) => some (.ok (.im d) (ρ2.set i (.ow par ob')))
      | some (.ex e (.ow true ob' :: _)) => some (.ex e (ρ2.set i (.ow par ob')))
      | _ => none
    | _ => none
  | _ => none := rfl
@[simp] theorem xLm_at {j : Nat} {f : List D → List D → Option (D × List D)} {a : M (List Rv)} : xLm j f a ρ = match ρ[j]? with
  | some (.ow _ (.lst _)) => bnd (a ρ) fun rs ρ1 => bnd (fzM rs ρ1) fun as ρ2 => match ρ2[j]? with
    | some (.ow par (.lst ds)) => match f ds as with
      | some (d, ds') => some (.ok (.im d) (ρ2.set j (.ow par (.lst ds'))))
      | none => none
    | _ => none
  | _ => none := rfl
theorem fAppend_at {ds : List D} (h : ds.length < sizeLine) : fAppend ds [d] = some (.non, ds ++ [d]) := by simp [fAppend, h]
theorem cutD_take {ds : List D} {k : Nat} : cutD ds none (some (k : Int)) = ds.take k := by
  unfold cutD
  rw [HT.sIx_nat, HT.sIx_none, List.drop_zero, Nat.sub_zero]
  by_cases h : k ≤ ds.length
  · rw [Nat.min_eq_left h]
  · rw [Nat.min_eq_right (by omega), List.take_length, List.take_of_length_le (by omega)]
end
def bHand (c : Int) : MS := (sSeq (sSet 1 (xLc [2] (.nm 2) (iAny (xSl (xVar 0) oNo (oYes (xC (.int 63))))) tYesM (xFn fAbs (xACons (xFn fInt (xACons (xVar 2) xANil)) xANil)))) (sRetN (xLst (xACons (xVar 1) (xACons (xC (.int 0)) (xACons (xC (.int 0)) (xACons (xOp dAdd (xC (.int c)) (xOp dMul (xC (.int 7)) (xFn fLen (xACons (xVar 1) xANil)))) (xACons (xC (.int 0)) xANil))))))))
def negs (ns : List Int) : List Int := (ns.take 63).map fun z => if z < 0 then -z else z
theorem hand_ok (c : Int) {ns : List Int} : ∃ h, HandOk h ∧ fnM 1 3 (bHand c) [.im (.scr ns)] = some (.ok (.nw h) [.im (.scr ns)]) := by
  have step : ∀ i d acc ρ, ((ns.map D.int).take 63)[i]? = some d → (∃ x, ρ = [Sl.im (.scr ns), .un, x] ∧ acc = dints ((negs ns).take i)) → ∃ ρ1, bindT (.nm 2) d (wipeE ρ [2]) = some ρ1 ∧
      ((∃ ρ2 r ρ3 x ρ4, tYesM ρ1 = some (.ok true ρ2) ∧ (xFn fAbs (xACons (xFn fInt (xACons (xVar 2) xANil)) xANil)) ρ2 = some (.ok r ρ3) ∧ fz1 r ρ3 = some (x, ρ4) ∧ (∃ y, ρ4 = [Sl.im (.scr ns), .un, y] ∧ acc ++ [x] = dints ((negs ns).take (i + 1)))) ∨ (∃ ρ2, tYesM ρ1 = some (.ok false ρ2) ∧ (∃ y, ρ2 = [Sl.im (.scr ns), .un, y] ∧ acc = dints ((negs ns).take (i + 1))))) := by
    rintro i d acc ρ hd ⟨x, rfl, rfl⟩
    have : ∃ z, (ns.take 63)[i]? = some z ∧ d = .int z := by
      rw [← List.map_take, List.getElem?_map] at hd
      cases e : (ns.take 63)[i]? with
      | none => rw [e] at hd; cases hd
      | some z => rw [e] at hd; cases hd; exact ⟨z, rfl, rfl⟩
    obtain ⟨z, e, rfl⟩ := this
    refine ⟨[.im (.scr ns), .un, .im (.int z)], by simp, .inl ⟨_, .im (.int (if z < 0 then -z else z)), [.im (.scr ns), .un, .im (.int z)], _, _, rfl, by simp, rfl, _, rfl, ?_⟩⟩
    have e2 : (negs ns)[i]? = some (if z < 0 then -z else z) := by unfold negs; rw [List.getElem?_map, e]; rfl
    rw [List.take_succ, e2]
    simp [dints]
  obtain ⟨acc, ρ', h1, ⟨x, h2, h3⟩, _⟩ := lcD_by (vs := [2]) (tg := .nm 2) (tt := tYesM) (el := (xFn fAbs (xACons (xFn fInt (xACons (xVar 2) xANil)) xANil))) (ds := (ns.map D.int).take 63) (ρ := [.im (.scr ns), .un, .un])
    (fun i acc ρ => ∃ x, ρ = [.im (.scr ns), .un, x] ∧ acc = dints ((negs ns).take i)) (by simp; exact Nat.le_trans (Nat.min_le_left _ _) (by decide)) step ⟨.un, rfl, by simp⟩
  subst h2
  refine ⟨handL (negs ns) 0 0 (c + 7 * ((negs ns).length : Int)) 0, ⟨_, _, _, _, _, rfl, Int.le_refl _, fun z hz => ?_, Int.le_refl _⟩, ?_⟩
  · obtain ⟨y, _, rfl⟩ := List.mem_map.mp hz
    split <;> omega
  · rw [fnM_at]
    have e63 : dSl none (some 63) (.scr ns) = some (.nl ((ns.map D.int).take 63)) := by
      show some (Dr.nl (cutD _ none (some ((63 : Nat) : Int)))) = _
      rw [cutD_take]
    have s7 : ∀ y : Int, smallF 7 y = true := fun y => smallL (by decide) (by decide)
    rw [List.take_of_length_le (by simp [negs])] at h3
    simp only [bHand, sSeq_at, sSet_at, xLc_at, iAny_at, xSl_at, xVar_at, oNo_at, oYes_at, xC_at]
    simp [e63, h1, h3, handL, dMul_int, s7]
end L2.DL
namespace L2.BF
/-! ### bounds between places: passes, fixed points -/
structure Ed where
  a : Nat
  b : Nat
  w : Int
abbrev Vc := Nat → Option Int
def ole : Option Int → Option Int → Prop
  | none, _ => True
  | some _, none => False
  | some x, some y => x ≤ y
def oad (x : Option Int) (w : Int) : Option Int := x.map (· + w)
def olt : Option Int → Option Int → Bool
  | _, none => false
  | none, some _ => true
  | some x, some y => decide (x < y)
theorem ole_refl (x : Option Int) : ole x x := by cases x <;> simp [ole]
theorem ole_trans {x y z : Option Int} (h : ole x y) (h' : ole y z) : ole x z := by
  cases x <;> cases y <;> cases z <;> simp_all [ole]; omega
theorem ole_anti {x y : Option Int} (h : ole x y) (h' : ole y x) : x = y := by
  cases x <;> cases y <;> simp_all [ole]; omega
theorem olt_false {x y : Option Int} : olt x y = false ↔ ole y x := by
  cases x <;> cases y <;> simp [olt, ole]
theorem olt_ole {x y : Option Int} (h : olt x y = true) : ole x y := by
  cases x <;> cases y <;> simp_all [olt, ole]; omega
theorem oad_mono {x y : Option Int} (w : Int) (h : ole x y) : ole (oad x w) (oad y w) := by
  cases x <;> cases y <;> simp_all [ole, oad]
def le (x y : Vc) : Prop := ∀ v, ole (x v) (y v)
theorem le_refl (x : Vc) : le x x := fun v => ole_refl _
theorem le_trans {x y z : Vc} (h : le x y) (h' : le y z) : le x z := fun v => ole_trans (h v) (h' v)
theorem le_anti {x y : Vc} (h : le x y) (h' : le y x) : x = y := funext fun v => ole_anti (h v) (h' v)
def rx (e : Ed) (x : Vc) : Vc := if olt (x e.b) (oad (x e.a) e.w) = true then fun v => if v = e.b then oad (x e.a) e.w else x v else x
theorem rx_le (e : Ed) (x : Vc) : le x (rx e x) := fun v => by
  unfold rx
  split
  · rename_i h
    show ole (x v) (if v = e.b then _ else _)
    split
    · rename_i q; subst q; exact olt_ole h
    · exact ole_refl _
  · exact ole_refl _
theorem rx_b (e : Ed) (x : Vc) : ole (oad (x e.a) e.w) (rx e x e.b) := by
  unfold rx
  split
  · show ole _ (if e.b = e.b then _ else _)
    rw [if_pos rfl]; exact ole_refl _
  · rename_i h; exact olt_false.mp (by simpa using h)
theorem rx_ub {e : Ed} {x z : Vc} (h : le x z) (hz : ole (oad (z e.a) e.w) (z e.b)) : le (rx e x) z := fun v => by
  unfold rx
  split
  · show ole (if v = e.b then _ else _) _
    split
    · rename_i q; subst q; exact ole_trans (oad_mono _ (h _)) hz
    · exact h v
  · exact h v
theorem rx_fix {e : Ed} {x : Vc} (h : ole (oad (x e.a) e.w) (x e.b)) : rx e x = x := by
  unfold rx
  rw [if_neg (by rw [olt_false.mpr h]; simp)]
theorem rx_out {e : Ed} {x : Vc} {v : Nat} (h : v ≠ e.b) : rx e x v = x v := by
  unfold rx
  split
  · exact if_neg h
  · rfl
def Fe (E : List Ed) (x : Vc) : Prop := ∀ e ∈ E, ole (oad (x e.a) e.w) (x e.b)
def pass (E : List Ed) (x : Vc) : Vc := E.foldl (fun x e => rx e x) x
theorem pass_cons (e : Ed) (E : List Ed) (x : Vc) : pass (e :: E) x = pass E (rx e x) := rfl
theorem pass_le : ∀ (E : List Ed) (x : Vc), le x (pass E x)
  | [], x => le_refl x
  | e :: E, x => le_trans (rx_le e x) (pass_le E _)
theorem pass_ub {z : Vc} : ∀ (E : List Ed) (x : Vc), Fe E z → le x z → le (pass E x) z
  | [], _, _, h => h
  | e :: E, x, f, h => pass_ub E _ (fun e' h' => f e' (List.mem_cons_of_mem _ h')) (rx_ub h (f e List.mem_cons_self))
theorem pass_edge {e : Ed} : ∀ (E : List Ed) (x : Vc), e ∈ E → ole (oad (x e.a) e.w) (pass E x e.b)
  | d :: E, x, h => by
    rcases List.mem_cons.mp h with q | q
    · subst q; exact ole_trans (rx_b e x) (pass_le E _ _)
    · exact ole_trans (oad_mono _ (rx_le d x _)) (pass_edge E _ q)
theorem pass_fix : ∀ (E : List Ed) {x : Vc}, Fe E x → pass E x = x
  | [], _, _ => rfl
  | e :: E, x, f => by
    rw [pass_cons, rx_fix (f e List.mem_cons_self)]
    exact pass_fix E fun e' h' => f e' (List.mem_cons_of_mem _ h')
theorem fe_of_fix {E : List Ed} {x : Vc} (h : pass E x = x) : Fe E x := fun e he => by
  have := pass_edge E x he
  rwa [h] at this
theorem pass_out {n : Nat} {v : Nat} (hv : n ≤ v) : ∀ (E : List Ed) (x : Vc), (∀ e ∈ E, e.b < n) → pass E x v = x v
  | [], _, _ => rfl
  | e :: E, x, h => by
    rw [pass_cons, pass_out hv E _ fun e' h' => h e' (List.mem_cons_of_mem _ h')]
    exact rx_out (by have := h e List.mem_cons_self; omega)
def it (E : List Ed) (x : Vc) : Nat → Vc
  | 0 => x
  | k + 1 => pass E (it E x k)
theorem it_mono {E : List Ed} {x : Vc} {j : Nat} : ∀ k, le (it E x j) (it E x (j + k))
  | 0 => le_refl _
  | k + 1 => le_trans (it_mono k) (pass_le E _)
theorem it_ub {E : List Ed} {x z : Vc} (f : Fe E z) (h : le x z) : ∀ k, le (it E x k) z
  | 0 => h
  | k + 1 => pass_ub E _ f (it_ub f h k)
theorem it_out {n : Nat} {E : List Ed} {x : Vc} (hE : ∀ e ∈ E, e.b < n) {v : Nat} (hv : n ≤ v) : ∀ k, it E x k v = x v
  | 0 => rfl
  | k + 1 => (pass_out hv E _ hE).trans (it_out hE hv k)
theorem it_fix {E : List Ed} {x : Vc} {j : Nat} (h : Fe E (it E x j)) : ∀ k, it E x (j + k) = it E x j
  | 0 => rfl
  | k + 1 => by
    show pass E (it E x (j + k)) = _
    rw [it_fix h k]; exact pass_fix E h
/-- a bounded rising row of numbers has a highest -/
theorem top_of {f : Nat → Option Int} {B : Option Int} (hB : ∀ k, ole (f k) B) (hm : ∀ j k, ole (f j) (f (j + k))) : ∃ K, ∀ k, ole (f k) (f K) := by
  have key : ∀ (m : Nat) (K : Nat) (s : Int), f K = some s → (∀ b, B = some b → (b - s).toNat ≤ m) → ∃ K, ∀ k, ole (f k) (f K) := by
    intro m
    induction m with
    | zero =>
      intro K s hs hb
      refine ⟨K, fun k => ?_⟩
      have h1 := hB k; have h2 := hB K
      rw [hs] at h2 ⊢
      cases hk : f k with
      | none => trivial
      | some t =>
        rw [hk] at h1
        cases B with
        | none => exact h1.elim
        | some b =>
          have := hb b rfl
          have h1 : t ≤ b := h1
          show t ≤ s
          omega
    | succ m ih =>
      intro K s hs hb
      by_cases q : ∀ k, ole (f k) (f K)
      · exact ⟨K, q⟩
      · obtain ⟨k, hk⟩ := Classical.not_forall.mp q
        cases e : f k with
        | none => rw [e] at hk; exact absurd trivial hk
        | some t =>
          rw [e, hs] at hk
          have hk : ¬ t ≤ s := hk
          refine ih k t e fun b hb' => ?_
          have := hb b hb'
          have h3 := hB k
          rw [e, hb'] at h3
          have h3 : t ≤ b := h3
          omega
  by_cases q : ∀ k, f k = none
  · exact ⟨0, fun k => by rw [q k]; trivial⟩
  · obtain ⟨k, hk⟩ := Classical.not_forall.mp q
    obtain ⟨s, hs⟩ := Option.ne_none_iff_exists'.mp hk
    cases B with
    | none => have := hB k; rw [hs] at this; exact this.elim
    | some b => exact key (b - s).toNat k s hs fun b' e => by cases e; exact Nat.le_refl _
theorem tops {E : List Ed} {x u : Vc} (f : Fe E u) (h : le x u) : ∀ n, ∃ K, ∀ v, v < n → ∀ k, ole (it E x k v) (it E x K v)
  | 0 => ⟨0, fun v hv => absurd hv (Nat.not_lt_zero _)⟩
  | n + 1 => by
    obtain ⟨K, hK⟩ := tops f h n
    obtain ⟨L, hL⟩ := top_of (f := fun k => it E x k n) (B := u n) (fun k => it_ub f h k n) (fun j k => it_mono k n)
    refine ⟨K + L, fun v hv k => ?_⟩
    by_cases q : v = n
    · subst q
      refine ole_trans (hL k) ?_
      have := it_mono (E := E) (x := x) (j := L) K v
      rwa [Nat.add_comm] at this
    · exact ole_trans (hK v (by omega) k) (it_mono L v)
theorem flt {p q : Nat → Bool} : ∀ (l : List Nat), (∀ v ∈ l, p v = true → q v = true) → (l.filter p).length ≤ (l.filter q).length ∧ ((∃ v ∈ l, q v = true ∧ p v = false) → (l.filter p).length < (l.filter q).length)
  | [], _ => ⟨Nat.le_refl _, fun ⟨v, h, _⟩ => by cases h⟩
  | a :: l, h => by
    obtain ⟨h1, h2⟩ := flt l fun v hv => h v (List.mem_cons_of_mem _ hv)
    have ha := h a List.mem_cons_self
    refine ⟨?_, fun ⟨v, hv, e1, e2⟩ => ?_⟩
    · cases e : p a with
      | true => simp [List.filter_cons, e, ha e]; exact h1
      | false => cases e' : q a <;> simp [List.filter_cons, e, e'] <;> omega
    · rcases List.mem_cons.mp hv with z | z
      · subst z; simp [List.filter_cons, e1, e2]; omega
      · have := h2 ⟨v, z, e1, e2⟩
        cases e : p a with
        | true => simp [List.filter_cons, e, ha e]; exact this
        | false => cases e' : q a <;> simp [List.filter_cons, e, e'] <;> omega
def same (x y : Vc) (v : Nat) : Bool := decide (x v = y v)
def cnt (n : Nat) (x y : Vc) : Nat := ((List.range n).filter (same x y)).length
theorem cnt_step {n : Nat} {E : List Ed} {x0 x y : Vc} (hE : ∀ e ∈ E, e.b < n) (hy : Fe E y) (h0 : le x0 x) (hx : le x y) (hout : ∀ v, n ≤ v → x v = y v) (least : ∀ z, Fe E z → le x0 z → le y z) (hne : ∃ v, v < n ∧ x v ≠ y v) :
    cnt n x y < cnt n (pass E x) y := by
  have up : le (pass E x) y := pass_ub E _ hy hx
  have sub : ∀ v, x v = y v → pass E x v = y v := fun v h => ole_anti (up v) (by rw [← h]; exact pass_le E x v)
  apply Classical.byContradiction
  intro hc
  have same' : ∀ v, v < n → x v ≠ y v → pass E x v ≠ y v := fun v hv hn he => hc ((flt _ fun v _ h => by
    simp only [same, decide_eq_true_eq] at h ⊢; exact sub v h).2 ⟨v, List.mem_range.mpr hv, by simp [same, he], by simp [same, hn]⟩)
  have z := least (fun v => if x v = y v then y v else (y v).map (· - 1)) (fun e he => ?_) (fun v => ?_)
  · obtain ⟨v, hv, hn⟩ := hne
    have z : ole (y v) (if x v = y v then y v else (y v).map (· - 1)) := z v
    rw [if_neg hn] at z
    have hv := hx v
    cases e : y v with
    | none =>
      rw [e] at hv hn
      cases e' : x v with
      | none => exact hn e'
      | some t => rw [e'] at hv; exact hv
    | some t =>
      rw [e] at z
      have z : t ≤ t - 1 := z
      omega
  · show ole (oad (if x e.a = y e.a then _ else _) e.w) (if x e.b = y e.b then _ else _)
    have f := hy e he
    by_cases qa : x e.a = y e.a <;> by_cases qb : x e.b = y e.b
    · rw [if_pos qa, if_pos qb]; exact f
    · rw [if_pos qa, if_neg qb]
      have h1 := pass_edge E x he
      rw [qa] at h1
      have h2 := up e.b
      have h3 := same' e.b (hE e he) qb
      cases ea : y e.a with
      | none => simp [oad, ole]
      | some s =>
        rw [ea] at h1
        cases ep : pass E x e.b with
        | none => rw [ep] at h1; exact h1.elim
        | some t =>
          rw [ep] at h1 h2 h3
          cases eb : y e.b with
          | none => rw [eb] at h2; exact h2.elim
          | some r =>
            rw [eb] at h2 h3
            have h1 : s + e.w ≤ t := h1
            have h2 : t ≤ r := h2
            have h3 : t ≠ r := fun z => h3 (by rw [z])
            show s + e.w ≤ r - 1
            omega
    · rw [if_neg qa, if_pos qb]
      cases ea : y e.a with
      | none => simp [oad, ole]
      | some s =>
        rw [ea] at f
        cases eb : y e.b with
        | none => rw [eb] at f; exact f.elim
        | some r =>
          rw [eb] at f
          have f : s + e.w ≤ r := f
          show s - 1 + e.w ≤ r
          omega
    · rw [if_neg qa, if_neg qb]
      cases ea : y e.a with
      | none => simp [oad, ole]
      | some s =>
        rw [ea] at f
        cases eb : y e.b with
        | none => rw [eb] at f; exact f.elim
        | some r =>
          rw [eb] at f
          have f : s + e.w ≤ r := f
          show s - 1 + e.w ≤ r - 1
          omega
  · show ole _ (if x v = y v then _ else _)
    by_cases q : x v = y v
    · rw [if_pos q]; exact le_trans h0 hx v
    · rw [if_neg q]
      have h1 := h0 v
      have h2 := hx v
      cases e0 : x0 v with
      | none => trivial
      | some s =>
        rw [e0] at h1
        cases e1 : x v with
        | none => rw [e1] at h1; exact h1.elim
        | some t =>
          rw [e1] at h1 h2 q
          cases e2 : y v with
          | none => rw [e2] at h2; exact h2.elim
          | some r =>
            rw [e2] at h2 q
            have h1 : s ≤ t := h1
            have h2 : t ≤ r := h2
            have q : t ≠ r := fun z => q (by rw [z])
            show s ≤ r - 1
            omega
/-- n passes are enough where there is a bound at all -/
theorem conv {n : Nat} {E : List Ed} {x u : Vc} (hE : ∀ e ∈ E, e.b < n) (f : Fe E u) (h : le x u) : Fe E (it E x n) := by
  obtain ⟨K, hK⟩ := tops f h n
  have top : ∀ k, le (it E x k) (it E x K) := fun k v => by
    by_cases q : v < n
    · exact hK v q k
    · rw [it_out hE (by omega), it_out hE (by omega)]; exact ole_refl _
  have hy : Fe E (it E x K) := fe_of_fix (le_anti (top (K + 1)) (pass_le E _))
  have least : ∀ z, Fe E z → le x z → le (it E x K) z := fun z fz hz => it_ub fz hz K
  have grow : ∀ k, k ≤ n → k ≤ cnt n (it E x k) (it E x K) := by
    intro k
    induction k with
    | zero => exact fun _ => Nat.zero_le _
    | succ k ih =>
      intro hk
      have i := ih (by omega)
      by_cases q : ∃ v, v < n ∧ it E x k v ≠ it E x K v
      · have := cnt_step hE hy (it_mono (j := 0) k |> fun z => by rw [Nat.zero_add] at z; exact z) (top k) (fun v hv => by rw [it_out hE hv, it_out hE hv]) least q
        show k + 1 ≤ cnt n (pass E (it E x k)) _
        omega
      · have all : it E x k = it E x K := funext fun v => by
          by_cases hv : v < n
          · exact Classical.byContradiction fun z => q ⟨v, hv, z⟩
          · rw [it_out hE (by omega), it_out hE (by omega)]
        have e : it E x (k + 1) = it E x K := by
          show pass E (it E x k) = _
          rw [all]; exact pass_fix E hy
        rw [e]
        have : cnt n (it E x K) (it E x K) = n := by
          unfold cnt
          rw [List.filter_eq_self.mpr fun v _ => by simp [same], List.length_range]
        omega
  have full := grow n (Nat.le_refl _)
  have all : it E x n = it E x K := funext fun v => by
    by_cases hv : v < n
    · apply Classical.byContradiction
      intro z
      have := (flt (p := same (it E x n) (it E x K)) (q := fun _ => true) (List.range n) (fun _ _ _ => rfl)).2 ⟨v, List.mem_range.mpr hv, rfl, by simp [same, z]⟩
      rw [List.filter_eq_self.mpr (fun _ _ => rfl), List.length_range] at this
      have : cnt n (it E x n) (it E x K) < n := this
      omega
    · rw [it_out hE (by omega), it_out hE (by omega)]
  rw [all]; exact hy
end L2.BF
namespace L2.BF
/-! ### what was raised last, and from where -/
structure BInv (E : List Ed) (k i : Nat) (x : Vc) (g : Nat → Option Nat) (r : Nat → Nat) : Prop where
  viol : ∀ j e, E[j]? = some e → olt (x e.b) (oad (x e.a) e.w) = true → (if j < i then k else k - 1) ≤ r e.a
  ptr : ∀ v j, g v = some j → ∃ e, E[j]? = some e ∧ e.b = v ∧ 1 ≤ r v ∧ r v ≤ r e.a + 1
  nop : ∀ v, g v = none → r v = 0
  top : ∀ v, r v ≤ k
def sw {α : Type} (c : Bool) (b : Nat) (v : α) (f : Nat → α) : Nat → α := if c = true then fun u => if u = b then v else f u else f
def hit (e : Ed) (x : Vc) : Bool := olt (x e.b) (oad (x e.a) e.w)
theorem rx_hit {e : Ed} {x : Vc} (h : hit e x = true) : rx e x = fun v => if v = e.b then oad (x e.a) e.w else x v := by
  unfold rx; exact if_pos h
theorem rx_miss {e : Ed} {x : Vc} (h : hit e x = false) : rx e x = x := by
  unfold rx; exact if_neg (by unfold hit at h; rw [h]; simp)
theorem inv_start {E : List Ed} {x : Vc} : BInv E 1 0 x (fun _ => none) (fun _ => 0) :=
  ⟨(fun j e _ _ => by simp), (fun v j h => by cases h), fun _ _ => rfl, fun _ => Nat.zero_le _⟩
theorem inv_step {E : List Ed} {k i : Nat} {x : Vc} {g : Nat → Option Nat} {r : Nat → Nat} {e : Ed} (hk : 1 ≤ k) (I : BInv E k i x g r) (he : E[i]? = some e) (hne : e.a ≠ e.b) :
    BInv E k (i + 1) (rx e x) (sw (hit e x) e.b (some i) g) (sw (hit e x) e.b k r) := by
  cases h : hit e x with
  | false =>
    rw [rx_miss h]
    have s1 : ∀ {α : Type} (v : α) f, sw false e.b v f = f := fun v f => rfl
    rw [s1, s1]
    refine ⟨fun j e' hj hv => ?_, I.ptr, I.nop, I.top⟩
    by_cases q : j = i
    · subst q; rw [he] at hj; cases hj; unfold hit at h; rw [h] at hv; cases hv
    · have := I.viol j e' hj hv
      by_cases z : j < i
      · rw [if_pos z] at this; rw [if_pos (by omega)]; exact this
      · rw [if_neg z] at this; rw [if_neg (by omega)]; exact this
  | true =>
    have s1 : ∀ {α : Type} (v : α) f, sw true e.b v f = fun u => if u = e.b then v else f u := fun v f => rfl
    have old := I.viol i e he h
    rw [if_neg (by omega)] at old
    have rge : ∀ v, r v ≤ (if v = e.b then k else r v) := fun v => by
      split
      · exact I.top v
      · exact Nat.le_refl _
    rw [s1, s1]
    refine ⟨fun j e' hj hv => ?_, fun v j hv => ?_, fun v hv => ?_, fun v => ?_⟩
    · show (if j < i + 1 then k else k - 1) ≤ (if e'.a = e.b then k else r e'.a)
      by_cases qa : e'.a = e.b
      · rw [if_pos qa]; split <;> omega
      · rw [if_neg qa]
        have ea : rx e x e'.a = x e'.a := rx_out qa
        have low := rx_le e x e'.b
        rw [ea] at hv
        have hv0 : olt (x e'.b) (oad (x e'.a) e'.w) = true := by
          cases q : olt (x e'.b) (oad (x e'.a) e'.w) with
          | true => rfl
          | false =>
            have := ole_trans (olt_false.mp q) low
            rw [olt_false.mpr this] at hv; cases hv
        have o := I.viol j e' hj hv0
        by_cases q : j = i
        · subst q; rw [he] at hj; cases hj
          rw [rx_hit h] at hv
          have hv : olt (if e.b = e.b then oad (x e.a) e.w else x e.b) (oad (x e.a) e.w) = true := hv
          rw [if_pos rfl, olt_false.mpr (ole_refl _)] at hv; cases hv
        · by_cases z : j < i
          · rw [if_pos z] at o; rw [if_pos (by omega)]; exact o
          · rw [if_neg z] at o; rw [if_neg (by omega)]; exact o
    · have hv : (if v = e.b then some i else g v) = some j := hv
      show ∃ e', E[j]? = some e' ∧ e'.b = v ∧ 1 ≤ (if v = e.b then k else r v) ∧ (if v = e.b then k else r v) ≤ (if e'.a = e.b then k else r e'.a) + 1
      by_cases q : v = e.b
      · rw [if_pos q] at hv; cases hv
        refine ⟨e, he, q.symm, ?_, ?_⟩
        · rw [if_pos q]; exact hk
        · rw [if_pos q]; have := rge e.a; omega
      · rw [if_neg q] at hv
        obtain ⟨e', h1, h2, h3, h4⟩ := I.ptr v j hv
        refine ⟨e', h1, h2, ?_, ?_⟩
        · rw [if_neg q]; exact h3
        · rw [if_neg q]; have := rge e'.a; omega
    · have hv : (if v = e.b then some i else g v) = none := hv
      show (if v = e.b then k else r v) = 0
      by_cases q : v = e.b
      · rw [if_pos q] at hv; cases hv
      · rw [if_neg q] at hv ⊢; exact I.nop v hv
    · show (if v = e.b then k else r v) ≤ k
      split
      · exact Nat.le_refl _
      · exact I.top v
theorem inv_next {E : List Ed} {k : Nat} {x : Vc} {g : Nat → Option Nat} {r : Nat → Nat} (I : BInv E k E.length x g r) : BInv E (k + 1) 0 x g r :=
  ⟨fun j e hj hv => by
    have := I.viol j e hj hv
    rw [if_pos (List.getElem?_eq_some_iff.mp hj).1] at this
    simpa using this, I.ptr, I.nop, fun v => Nat.le_succ_of_le (I.top v)⟩
def nxt (E : List Ed) (g : Nat → Option Nat) (v : Nat) : Nat := match g v with
  | some j => match E[j]? with
    | some e => e.a
    | none => v
  | none => v
def itn (f : Nat → Nat) : Nat → Nat → Nat
  | 0, v => v
  | t + 1, v => f (itn f t v)
theorem itn_add (f : Nat → Nat) (v : Nat) (s : Nat) : ∀ t, itn f (s + t) v = itn f t (itn f s v)
  | 0 => rfl
  | t + 1 => by show f (itn f (s + t) v) = f (itn f t _); rw [itn_add f v s t]
theorem pig : ∀ (n : Nat) (f : Nat → Nat), (∀ t, t ≤ n → f t < n) → ∃ i j, i < j ∧ j ≤ n ∧ f i = f j
  | 0, f, h => absurd (h 0 (Nat.le_refl _)) (Nat.not_lt_zero _)
  | n + 1, f, h => by
    apply Classical.byContradiction
    intro no
    have inj : ∀ i j, i < j → j ≤ n + 1 → f i ≠ f j := fun i j a b c => no ⟨i, j, a, b, c⟩
    obtain ⟨i, j, h1, h2, h3⟩ := pig n (fun t => if f t = n then f (n + 1) else f t) (fun t ht => by
      show (if f t = n then f (n + 1) else f t) < n
      have a := h t (by omega)
      have b := h (n + 1) (Nat.le_refl _)
      have c := inj t (n + 1) (by omega) (Nat.le_refl _)
      split <;> omega)
    have h3 : (if f i = n then f (n + 1) else f i) = (if f j = n then f (n + 1) else f j) := h3
    have c1 := inj i (n + 1) (by omega) (Nat.le_refl _)
    have c2 := inj j (n + 1) (by omega) (Nat.le_refl _)
    have c3 := inj i j h1 (by omega)
    split at h3 <;> split at h3 <;> omega
section
variable {E : List Ed} {n k i : Nat} {x : Vc} {g : Nat → Option Nat} {r : Nat → Nat} {v : Nat}
theorem nxt_r (I : BInv E k i x g r) (h : 1 ≤ r v) : r v ≤ r (nxt E g v) + 1 ∧ ∃ j e, g v = some j ∧ E[j]? = some e ∧ nxt E g v = e.a := by
  unfold nxt
  cases e : g v with
  | none => have := I.nop v e; omega
  | some j =>
    obtain ⟨e', h1, h2, h3, h4⟩ := I.ptr v j e
    simp only [h1]
    exact ⟨h4, j, e', rfl, h1, rfl⟩
/-- from what was raised in the last pass the way back never ends, and comes into a ring -/
theorem ring (I : BInv E k i x g r) (hE : ∀ e ∈ E, e.a < n) (hv : v < n) (hr : n + 1 ≤ r v) :
    (∀ t, 1 ≤ r (itn (nxt E g) t v)) ∧ ∃ d, 1 ≤ d ∧ d ≤ n ∧ itn (nxt E g) (n + d) v = itn (nxt E g) n v := by
  have low : ∀ t, t ≤ n → n + 1 - t ≤ r (itn (nxt E g) t v) ∧ itn (nxt E g) t v < n := by
    intro t
    induction t with
    | zero => exact fun _ => ⟨hr, hv⟩
    | succ t ih =>
      intro ht
      obtain ⟨a, b⟩ := ih (by omega)
      obtain ⟨c, j, e, e1, e2, e3⟩ := nxt_r I (show 1 ≤ r (itn (nxt E g) t v) by omega)
      refine ⟨?_, ?_⟩
      · show _ ≤ r (nxt E g (itn (nxt E g) t v)); omega
      · show nxt E g (itn (nxt E g) t v) < n
        rw [e3]; exact hE e (List.mem_of_getElem? e2)
  obtain ⟨a, b, h1, h2, h3⟩ := pig n (fun t => itn (nxt E g) t v) fun t ht => (low t ht).2
  have h3 : itn (nxt E g) a v = itn (nxt E g) b v := h3
  have per : ∀ m, itn (nxt E g) (a + m) v = itn (nxt E g) (b + m) v := fun m => by rw [itn_add, itn_add, h3]
  refine ⟨fun t => ?_, b - a, by omega, by omega, ?_⟩
  · induction t using Nat.strongRecOn with
    | _ t ih =>
      by_cases q : t ≤ n
      · have := (low t q).1; omega
      · have e := per (t - b)
        rw [show b + (t - b) = t by omega] at e
        rw [← e]
        exact ih _ (by omega)
  · have e := per (n - a)
    rw [show a + (n - a) = n by omega, show b + (n - a) = n + (b - a) by omega] at e
    exact e.symm
end
/-! ### one bound more -/
def omax : Option Int → Option Int → Option Int
  | none, y => y
  | some x, none => some x
  | some x, some y => some (if x ≤ y then y else x)
theorem omax_l (x y : Option Int) : ole x (omax x y) := by
  cases x <;> cases y <;> simp [omax, ole]
  split <;> omega
theorem omax_r (x y : Option Int) : ole y (omax x y) := by
  cases x <;> cases y <;> simp [omax, ole]
  split <;> omega
theorem omax_le {x y z : Option Int} (h : ole x z) (h' : ole y z) : ole (omax x y) z := by
  cases x <;> cases y <;> simp_all [omax]
  split <;> assumption
theorem oad_omax (x y : Option Int) (w : Int) : oad (omax x y) w = omax (oad x w) (oad y w) := by
  cases x <;> cases y <;> simp only [omax, oad, Option.map_none, Option.map_some]
  rename_i a b
  by_cases h : a ≤ b
  · rw [if_pos h, if_pos (by omega)]
  · rw [if_neg h, if_neg (by omega)]
theorem oad_oad (x : Option Int) (w w' : Int) : oad (oad x w) w' = oad x (w + w') := by
  cases x <;> simp [oad]; omega
theorem fe_max {E : List Ed} {x y : Vc} (hx : Fe E x) (hy : Fe E y) : Fe E fun v => omax (x v) (y v) := fun e he => by
  show ole (oad (omax _ _) e.w) (omax _ _)
  rw [oad_omax]
  exact omax_le (ole_trans (hx e he) (omax_l _ _)) (ole_trans (hy e he) (omax_r _ _))
theorem fe_add {E : List Ed} {x : Vc} (hx : Fe E x) (c : Int) : Fe E fun v => oad (x v) c := fun e he => by
  show ole (oad (oad _ c) e.w) (oad _ c)
  have := oad_mono c (hx e he)
  rw [oad_oad] at this ⊢
  rwa [Int.add_comm c e.w]
def one0 (s : Nat) : Vc := fun v => if v = s then some 0 else none
/-- the way from s to t is at most d long, or there is none: then one bound more may stand -/
theorem more_ok {E : List Ed} {u : Vc} {n s t : Nat} {d : Int} (hE : ∀ e ∈ E, e.b < n) (f : Fe E u) (hs : u s ≠ none) (hd : ole (it E (one0 s) n t) (some d)) :
    ∃ z, Fe E z ∧ le u z ∧ ole (oad (z t) (-d)) (z s) := by
  obtain ⟨us, hus⟩ := Option.ne_none_iff_exists'.mp hs
  have hy : Fe E (it E (one0 s) n) := by
    refine conv (u := fun v => oad (u v) (-us)) hE (fe_add f _) fun v => ?_
    show ole (if v = s then some 0 else none) _
    split
    · rename_i q; subst q; show ole (some 0) (oad (u v) (-us)); rw [hus]; show (0 : Int) ≤ us + -us; omega
    · trivial
  have h0 : ole (some 0) (it E (one0 s) n s) := by
    have := it_mono (E := E) (x := one0 s) (j := 0) n s
    rw [Nat.zero_add] at this
    have e : it E (one0 s) 0 s = some 0 := if_pos rfl
    rwa [e] at this
  obtain ⟨c, hc⟩ : ∃ c : Int, ole (oad (u t) (-d)) (some c) := by
    cases u t with
    | none => exact ⟨0, trivial⟩
    | some q => exact ⟨q + -d, Int.le_refl _⟩
  refine ⟨fun v => omax (u v) (oad (it E (one0 s) n v) c), fe_max f (fe_add hy c), fun v => omax_l _ _, ?_⟩
  show ole (oad (omax _ _) (-d)) (omax _ _)
  rw [oad_omax]
  have hC : ole (some c) (omax (u s) (oad (it E (one0 s) n s) c)) := by
    refine ole_trans ?_ (omax_r _ _)
    have := oad_mono c h0
    simpa [oad] using this
  refine omax_le (ole_trans hc hC) (ole_trans ?_ hC)
  rw [oad_oad]
  have := oad_mono (c + -d) hd
  refine ole_trans this ?_
  show d + (c + -d) ≤ c
  omega
theorem more_only {E : List Ed} {z : Vc} {n s t : Nat} {d : Int} (f : Fe E z) (hs : z s ≠ none) (hz : ole (oad (z t) (-d)) (z s)) : ole (it E (one0 s) n t) (some d) := by
  obtain ⟨us, hus⟩ := Option.ne_none_iff_exists'.mp hs
  have h := it_ub (E := E) (x := one0 s) (z := fun v => oad (z v) (-us)) (fe_add f _) (fun v => by
    show ole (if v = s then some 0 else none) _
    split
    · rename_i q; subst q; show ole (some 0) (oad (z v) (-us)); rw [hus]; show (0 : Int) ≤ us + -us; omega
    · trivial) n t
  refine ole_trans h ?_
  show ole (oad (z t) (-us)) _
  rw [hus] at hz
  cases e : z t with
  | none => trivial
  | some q =>
    rw [e] at hz
    have hz : q + -d ≤ us := hz
    show q + -us ≤ d
    omega
/-! ### how high -/
def bd (m : Int) (x : Vc) : Prop := ∀ v s, x v = some s → -m ≤ s ∧ s ≤ m
theorem rx_bd {e : Ed} {x : Vc} {m w : Int} (h : bd m x) (hw : -w ≤ e.w ∧ e.w ≤ w) : bd (m + w) (rx e x) := fun v s hs => by
  unfold rx at hs
  split at hs
  · have hs : (if v = e.b then oad (x e.a) e.w else x v) = some s := hs
    split at hs
    · cases q : x e.a with
      | none => rw [q] at hs; cases hs
      | some t =>
        rw [q] at hs
        have hs : t + e.w = s := Option.some.inj hs
        have := h _ _ q
        omega
    · have := h _ _ hs; omega
  · have := h _ _ hs; omega
theorem pass_bd {w : Int} : ∀ (E : List Ed) {x : Vc} {m : Int}, bd m x → (∀ e ∈ E, -w ≤ e.w ∧ e.w ≤ w) → bd (m + E.length * w) (pass E x)
  | [], x, m, h, _ => by
    show bd _ x
    simpa using h
  | e :: E, x, m, h, hw => by
    have := pass_bd E (rx_bd h (hw e List.mem_cons_self)) fun e' h' => hw e' (List.mem_cons_of_mem _ h')
    rw [pass_cons]
    have q : m + ((e :: E).length : Int) * w = m + w + (E.length : Int) * w := by
      rw [List.length_cons]; push_cast; rw [Int.add_mul]; omega
    rw [q]; exact this
theorem it_bd {w m : Int} {E : List Ed} {x : Vc} (h : bd m x) (hw : ∀ e ∈ E, -w ≤ e.w ∧ e.w ≤ w) : ∀ k : Nat, bd (m + k * (E.length * w)) (it E x k)
  | 0 => by
    show bd _ x
    simpa using h
  | k + 1 => by
    have := pass_bd E (it_bd h hw k) hw
    have q : m + ((k + 1 : Nat) : Int) * (E.length * w) = m + k * (E.length * w) + E.length * w := by
      push_cast; rw [Int.add_mul]; omega
    rw [q]; exact this
end L2.BF
namespace L2.K55
open PySem PySem.Spec PyProof.Rows L2.DL
def top (i : Nat) : Stmt := PySem.Challenge.pw_stretchwebs_k55_whole_what_is_sure_of_pl.main.body.getD i (.Pass ⟨0, 0, 0, 0⟩)
abbrev s_law_hand : Stmt := top 29
abbrev s_is_integer : Stmt := top 8
abbrev s_is_within : Stmt := top 9
abbrev s_is_bound : Stmt := top 16
abbrev s_check_bounds : Stmt := top 17
abbrev s_all_bounds : Stmt := top 18
abbrev s_settled_places : Stmt := top 19
abbrev s_round_behind : Stmt := top 20
abbrev s_raw_places : Stmt := top 21
abbrev s_least_places : Stmt := top 23
abbrev s_check_ends : Stmt := top 24
abbrev s_farthest_from : Stmt := top 25
abbrev s_surely : Stmt := top 26
abbrev s_can_be_near : Stmt := top 27
abbrev s_law_draw : Stmt := top 30
abbrev s_law_any : Stmt := top 31
abbrev s_law_bounds : Stmt := top 35
abbrev s_law_all_bounds : Stmt := top 32
abbrev s_law_least : Stmt := top 33
abbrev s_law_far : Stmt := top 34
abbrev s_places_shown : Stmt := top 22
abbrev s_law_is_pair_right : Stmt := top 36
abbrev s_law : Stmt := top 37
structure Bi (T : Tb) : Prop where
  n_abs : T.mg "abs" = none
  n_all : T.mg "all" = none
  n_bool : T.mg "bool" = none
  n_enumerate : T.mg "enumerate" = none
  n_int : T.mg "int" = none
  n_isinstance : T.mg "isinstance" = none
  n_len : T.mg "len" = none
  n_list : T.mg "list" = none
  n_max : T.mg "max" = none
  n_range : T.mg "range" = none
  n_repr : T.mg "repr" = none
  n_tuple : T.mg "tuple" = none
  c_MOST_BOUNDS : ∃ u, T.mg "MOST_BOUNDS" = some u ∧ RelV (.int 40) u
  c_MOST_LEAST : ∃ u, T.mg "MOST_LEAST" = some u ∧ RelV (.int 10000) u
  c_MOST_STRETCHES : ∃ u, T.mg "MOST_STRETCHES" = some u ∧ RelV (.int 9) u
  c_PLACES : ∃ u, T.mg "PLACES" = some u ∧ RelV (.str "places") u
  c_ROUND : ∃ u, T.mg "ROUND" = some u ∧ RelV (.str "round") u
/-! _law_hand -/
abbrev N_law_hand : List Str := ["script", "cells", "cell"]
def b_law_hand : MS := (sSeq (sSet 1 (xLc [2] (.nm 2) (iAny (xSl (xVar 0) oNo (oYes (xC (.int 63))))) tYesM (xFn fAbs (xACons (xFn fInt (xACons (xVar 2) xANil)) xANil)))) (sRetN (xLst (xACons (xVar 1) (xACons (xC (.int 0)) (xACons (xC (.int 0)) (xACons (xOp dAdd (xC (.int 4119)) (xOp dMul (xC (.int 7)) (xFn fLen (xACons (xVar 1) xANil)))) (xACons (xC (.int 0)) xANil))))))))
def F_law_hand : Fm := fnM 1 3 b_law_hand
theorem d_law_hand {T : Tb} {f : Addr} {fd : FuncData} (B : Bi T) (F : Fun T.K "_law_hand" "_law_hand" s_law_hand f fd) (hx : T.mg "_law_hand" = some (.ref f)) : Df T "_law_hand" F_law_hand 1 1 :=
  df_mk (N := N_law_hand) (ps := ["script"]) (b := b_law_hand) (k := 0) F hx ⟨rfl, rfl, rfl, by decide +kernel, rfl, by decide +kernel, by decide +kernel⟩ (by decide)
    (xs_cons (xs_setLc 1 [("cell", 2)] (xi_any (xe_sl (xe_v 0) xo_no (xo_yes xe_int))) (xg_nm 2) xts_nil (xe_abs B.n_abs (xa_cons (xe_toInt B.n_int (xa_cons (xe_v 2) xa_nil)) xa_nil))) (xs_one (xs_retN (xe_lst (xa_cons (xe_v 1) (xa_cons xe_int (xa_cons xe_int (xa_cons (xe_add xe_int (xe_mul xe_int (xe_len B.n_len (xa_cons (xe_v 1) xa_nil)))) (xa_cons xe_int xa_nil))))) (by decide)))))
    (fun _ _ _ _ _ _ us hl => match us, hl with | [_], _ => rfl)
/-! is_integer -/
abbrev N_is_integer : List Str := ["thing"]
def b_is_integer : MS := (sRet (xAndV (xIsi "int" (xVar 0)) (xNotV (xIsi "bool" (xVar 0)))))
def F_is_integer : Fm := fnM 1 1 b_is_integer
theorem d_is_integer {T : Tb} {f : Addr} {fd : FuncData} (B : Bi T) (F : Fun T.K "is_integer" "is_integer" s_is_integer f fd) (hx : T.mg "is_integer" = some (.ref f)) : Df T "is_integer" F_is_integer 1 1 :=
  df_mk (N := N_is_integer) (ps := ["thing"]) (b := b_is_integer) (k := 0) F hx ⟨rfl, rfl, rfl, by decide +kernel, rfl, by decide +kernel, by decide +kernel⟩ (by decide)
    (xs_one (xs_ret (xe_and (xe_isi "int" B.n_isinstance B.n_int (xe_v 0)) (xe_one (xe_not (xe_isi "bool" B.n_isinstance B.n_bool (xe_v 0)))))))
    (fun _ _ _ _ _ _ us hl => match us, hl with | [_], _ => rfl)
/-! is_within -/
abbrev N_is_within : List Str := ["thing", "low", "high"]
def b_is_within : MS := (sRet (xAndV (xCall F_is_integer (xACons (xVar 0) xANil)) (xChain dLe dLe (xVar 1) (xVar 0) (xVar 2))))
def F_is_within : Fm := fnM 3 3 b_is_within
theorem d_is_within {T : Tb} {f : Addr} {fd : FuncData} (B : Bi T) (D_is_integer : Df T "is_integer" F_is_integer 1 1) (F : Fun T.K "is_within" "is_within" s_is_within f fd) (hx : T.mg "is_within" = some (.ref f)) : Df T "is_within" F_is_within 3 2 :=
  df_mk (N := N_is_within) (ps := ["thing", "low", "high"]) (b := b_is_within) (k := 1) F hx ⟨rfl, rfl, rfl, by decide +kernel, rfl, by decide +kernel, by decide +kernel⟩ (by decide)
    (xs_one (xs_ret (xe_and (xe_call D_is_integer (xa_cons (xe_v 0) xa_nil)) (xe_one (xe_ch c_le c_le (xe_v 1) (xe_v 0) (xe_v 2))))))
    (fun _ _ _ _ _ _ us hl => match us, hl with | [_, _, _], _ => rfl)
/-! is_bound -/
abbrev N_is_bound : List Str := ["many", "thing", "end"]
def b_is_bound : MS := (sSeq (sIf (xOr (xNot (xB (xIsi "tuple" (xVar 1)))) (xB (xOp dNe (xFn fLen (xACons (xVar 1) xANil)) (xC (.int 3))))) (sRet (xC (.bl false))) sSkip) (sSeq (sIf (xOr (xNot (xB (xFn (fAll false) (xACons (xLc [2] (.nm 2) (iAny (xSl (xVar 1) oNo (oYes (xC (.int 2))))) tYesM (xCall F_is_within (xACons (xVar 2) (xACons (xC (.int 0)) (xACons (xOp dSub (xOp dMul (xC (.int 2)) (xVar 0)) (xC (.int 1))) xANil))))) xANil)))) (xB (xOp dEq (xOp dIx (xVar 1) (xC (.int 0))) (xOp dIx (xVar 1) (xC (.int 1)))))) (sRet (xC (.bl false))) sSkip) (sRet (xCall F_is_within (xACons (xOp dIx (xVar 1) (xC (.int 2))) (xACons (xNeg (xC (.int 10000))) (xACons (xC (.int 10000)) xANil)))))))
def F_is_bound : Fm := fnM 2 3 b_is_bound
theorem d_is_bound {T : Tb} {f : Addr} {fd : FuncData} (B : Bi T) (D_is_within : Df T "is_within" F_is_within 3 2) (F : Fun T.K "is_bound" "is_bound" s_is_bound f fd) (hx : T.mg "is_bound" = some (.ref f)) : Df T "is_bound" F_is_bound 2 3 :=
  df_mk (N := N_is_bound) (ps := ["many", "thing"]) (b := b_is_bound) (k := 2) F hx ⟨rfl, rfl, rfl, by decide +kernel, rfl, by decide +kernel, by decide +kernel⟩ (by decide)
    (xs_cons (xs_if (xt_w (xw_or (xt_not (xt_val (xe_isi "tuple" B.n_isinstance B.n_tuple (xe_v 1)))) (xw_or1 (xt_cp c_ne (xe_len B.n_len (xa_cons (xe_v 1) xa_nil)) xe_int)))) (xs_one (xs_ret xe_bl)) xs_nil) (xs_cons (xs_if (xt_w (xw_or (xt_not (xt_val (xe_all B.n_all (xa_cons (xe_lc [("end", 2)] (xi_any (xe_sl (xe_v 1) xo_no (xo_yes xe_int))) (xg_nm 2) xts_nil (xe_call D_is_within (xa_cons (xe_v 2) (xa_cons xe_int (xa_cons (xe_sub (xe_mul xe_int (xe_v 0)) xe_int) xa_nil))))) xa_nil)))) (xw_or1 (xt_cp c_eq (xe_ix (xe_v 1) xe_int) (xe_ix (xe_v 1) xe_int))))) (xs_one (xs_ret xe_bl)) xs_nil) (xs_one (xs_ret (xe_call D_is_within (xa_cons (xe_ix (xe_v 1) xe_int) (xa_cons (xe_neg (xe_gl B.c_MOST_LEAST (fun _ => .int _))) (xa_cons (xe_gl B.c_MOST_LEAST (fun _ => .int _)) xa_nil))))))))
    (fun _ _ _ _ _ _ us hl => match us, hl with | [_, _], _ => rfl)
/-! check_bounds -/
abbrev N_check_bounds : List Str := ["many", "bounds", "one"]
def b_check_bounds : MS := (sSeq (sIf (xNot (xB (xCall F_is_within (xACons (xVar 0) (xACons (xC (.int 1)) (xACons (xC (.int 9)) xANil)))))) sNever sSkip) (sSeq (sIf (xOr (xNot (xB (xIsi "tuple" (xVar 1)))) (xB (xOp (dI fun i j => decide (j < i)) (xFn fLen (xACons (xVar 1) xANil)) (xC (.int 40))))) sNever sSkip) (sIf (xNot (xB (xFn (fAll false) (xACons (xLc [2] (.nm 2) (iAny (xVar 1)) tYesM (xCall F_is_bound (xACons (xVar 0) (xACons (xVar 2) xANil)))) xANil)))) sNever sSkip)))
def F_check_bounds : Fm := fnM 2 3 b_check_bounds
theorem d_check_bounds {T : Tb} {f : Addr} {fd : FuncData} (B : Bi T) (D_is_within : Df T "is_within" F_is_within 3 2) (D_is_bound : Df T "is_bound" F_is_bound 2 3) (F : Fun T.K "check_bounds" "check_bounds" s_check_bounds f fd) (hx : T.mg "check_bounds" = some (.ref f)) : Df T "check_bounds" F_check_bounds 2 4 :=
  df_mk (N := N_check_bounds) (ps := ["many", "bounds"]) (b := b_check_bounds) (k := 3) F hx ⟨rfl, rfl, rfl, by decide +kernel, rfl, by decide +kernel, by decide +kernel⟩ (by decide)
    (xs_cons (xs_if (xt_not (xt_val (xe_call D_is_within (xa_cons (xe_v 0) (xa_cons xe_int (xa_cons (xe_gl B.c_MOST_STRETCHES (fun _ => .int _)) xa_nil)))))) (xs_one xs_never) xs_nil) (xs_cons (xs_if (xt_w (xw_or (xt_not (xt_val (xe_isi "tuple" B.n_isinstance B.n_tuple (xe_v 1)))) (xw_or1 (xt_cp c_gt (xe_len B.n_len (xa_cons (xe_v 1) xa_nil)) (xe_gl B.c_MOST_BOUNDS (fun _ => .int _)))))) (xs_one xs_never) xs_nil) (xs_one (xs_if (xt_not (xt_val (xe_all B.n_all (xa_cons (xe_lc [("one", 2)] (xi_any (xe_v 1)) (xg_nm 2) xts_nil (xe_call D_is_bound (xa_cons (xe_v 0) (xa_cons (xe_v 2) xa_nil)))) xa_nil)))) (xs_one xs_never) xs_nil))))
    (fun _ _ _ _ _ _ us hl => match us, hl with | [_, _], _ => rfl)
/-! all_bounds -/
abbrev N_all_bounds : List Str := ["many", "bounds", "one"]
def b_all_bounds : MS := (sRet (xOp dAdd (xFn fList (xACons (xVar 1) xANil)) (xLc [2] (.nm 2) (iRg1 (xACons (xVar 0) xANil)) tYesM (xTup (xACons (xOp dMul (xC (.int 2)) (xVar 2)) (xACons (xOp dAdd (xOp dMul (xC (.int 2)) (xVar 2)) (xC (.int 1))) (xACons (xC (.int 0)) xANil)))))))
def F_all_bounds : Fm := fnM 2 3 b_all_bounds
theorem d_all_bounds {T : Tb} {f : Addr} {fd : FuncData} (B : Bi T) (F : Fun T.K "all_bounds" "all_bounds" s_all_bounds f fd) (hx : T.mg "all_bounds" = some (.ref f)) : Df T "all_bounds" F_all_bounds 2 1 :=
  df_mk (N := N_all_bounds) (ps := ["many", "bounds"]) (b := b_all_bounds) (k := 0) F hx ⟨rfl, rfl, rfl, by decide +kernel, rfl, by decide +kernel, by decide +kernel⟩ (by decide)
    (xs_one (xs_ret (xe_add (xe_toList B.n_list (xa_cons (xe_v 1) xa_nil)) (xe_lc [("one", 2)] (xi_rg1 B.n_range (xa_cons (xe_v 0) xa_nil)) (xg_nm 2) xts_nil (xe_tup (xa_cons (xe_mul xe_int (xe_v 2)) (xa_cons (xe_add (xe_mul xe_int (xe_v 2)) xe_int) (xa_cons xe_int xa_nil))) (by decide))))))
    (fun _ _ _ _ _ _ us hl => match us, hl with | [_, _], _ => rfl)
/-! settled_places -/
abbrev N_settled_places : List Str := ["many", "every", "places", "raised", "last", "turn", "number", "one", "other", "least"]
def b_settled_places : MS := (sSeq (sPar [2, 3, 4] (xACons (xOp dMul (xLst (xACons (xC (.int 0)) xANil)) (xOp dMul (xC (.int 2)) (xVar 0))) (xACons (xOp dMul (xLst (xACons (xC .non) xANil)) (xOp dMul (xC (.int 2)) (xVar 0))) (xACons (xC .non) xANil)))) (sSeq (sFor (.nm 5) (iRg1 (xACons (xOp dAdd (xOp dMul (xC (.int 2)) (xVar 0)) (xC (.int 1))) xANil)) (sSeq (sSet 4 (xC .non)) (sSeq (sFor (.tp [(.nm 6), (.tp [(.nm 7), (.nm 8), (.nm 9)])]) (iEn (xACons (xVar 1) xANil)) (sIf (xB (xOp dLt (xOp dIx (xVar 2) (xVar 8)) (xOp dAdd (xOp dIx (xVar 2) (xVar 7)) (xVar 9)))) (sSeq (sSetI 2 (xVar 8) (xOp dAdd (xOp dIx (xVar 2) (xVar 7)) (xVar 9))) (sSeq (sSetI 3 (xVar 8) (xVar 6)) (sSet 4 (xVar 8)))) sSkip)) (sIf (xB (xIsN false (xVar 4))) sBrk sSkip)))) (sRet (xTup (xACons (xVar 2) (xACons (xVar 3) (xACons (xVar 4) xANil)))))))
def F_settled_places : Fm := fnM 2 10 b_settled_places
theorem d_settled_places {T : Tb} {f : Addr} {fd : FuncData} (B : Bi T) (F : Fun T.K "settled_places" "settled_places" s_settled_places f fd) (hx : T.mg "settled_places" = some (.ref f)) : Df T "settled_places" F_settled_places 2 1 :=
  df_mk (N := N_settled_places) (ps := ["many", "every"]) (b := b_settled_places) (k := 0) F hx ⟨rfl, rfl, rfl, by decide +kernel, rfl, by decide +kernel, by decide +kernel⟩ (by decide)
    (xs_cons (xs_par3 2 3 4 (xa_cons (xe_mul (xe_lst (xa_cons xe_int xa_nil) (by decide)) (xe_mul xe_int (xe_v 0))) (xa_cons (xe_mul (xe_lst (xa_cons xe_non xa_nil) (by decide)) (xe_mul xe_int (xe_v 0))) (xa_cons xe_non xa_nil)))) (xs_cons (xs_for (xi_rg1 B.n_range (xa_cons (xe_add (xe_mul xe_int (xe_v 0)) xe_int) xa_nil)) (xg_nm 5) (xs_cons (xs_set 4 xe_non) (xs_cons (xs_for (xi_en B.n_enumerate (xa_cons (xe_v 1) xa_nil)) (xg_tp (xgs_cons (xg_nm 6) (xgs_cons (xg_tp (xgs_cons (xg_nm 7) (xgs_cons (xg_nm 8) (xgs_cons (xg_nm 9) xgs_nil)))) xgs_nil))) (xs_one (xs_if (xt_cp c_lt (xe_ix (xe_v 2) (xe_v 8)) (xe_add (xe_ix (xe_v 2) (xe_v 7)) (xe_v 9))) (xs_cons (xs_setI 2 (xe_add (xe_ix (xe_v 2) (xe_v 7)) (xe_v 9)) (xe_v 8)) (xs_cons (xs_setI 3 (xe_v 6) (xe_v 8)) (xs_one (xs_set 4 (xe_v 8))))) xs_nil))) (xs_one (xs_if (xt_isN (xe_v 4)) (xs_one xs_brk) xs_nil))))) (xs_one (xs_ret (xe_tup (xa_cons (xe_v 2) (xa_cons (xe_v 3) (xa_cons (xe_v 4) xa_nil))) (by decide))))))
    (fun _ _ _ _ _ _ us hl => match us, hl with | [_, _], _ => rfl)
/-! round_behind -/
abbrev N_round_behind : List Str := ["every", "raised", "end", "turn", "found", "here"]
def b_round_behind : MS := (sSeq (sFor (.nm 3) (iRg1 (xACons (xFn fLen (xACons (xVar 1) xANil)) xANil)) (sSet 2 (xOp dIx (xOp dIx (xVar 0) (xOp dIx (xVar 1) (xVar 2))) (xC (.int 0))))) (sSeq (sPar [4, 5] (xACons (xLst xANil) (xACons (xVar 2) xANil))) (sSeq (sWhile (xOr (xB (xOp dEq (xFn fLen (xACons (xVar 4) xANil)) (xC (.int 0)))) (xB (xOp dNe (xVar 5) (xVar 2)))) (sSeq (sDrop (xLm 4 fAppend (xACons (xOp dIx (xVar 1) (xVar 5)) xANil))) (sSet 5 (xOp dIx (xOp dIx (xVar 0) (xOp dIx (xVar 1) (xVar 5))) (xC (.int 0)))))) (sRet (xFn fTuple (xACons (xRev (xVar 4)) xANil))))))
def F_round_behind : Fm := fnM 3 6 b_round_behind
theorem d_round_behind {T : Tb} {f : Addr} {fd : FuncData} (B : Bi T) (F : Fun T.K "round_behind" "round_behind" s_round_behind f fd) (hx : T.mg "round_behind" = some (.ref f)) : Df T "round_behind" F_round_behind 3 1 :=
  df_mk (N := N_round_behind) (ps := ["every", "raised", "end"]) (b := b_round_behind) (k := 0) F hx ⟨rfl, rfl, rfl, by decide +kernel, rfl, by decide +kernel, by decide +kernel⟩ (by decide)
    (xs_cons (xs_for (xi_rg1 B.n_range (xa_cons (xe_len B.n_len (xa_cons (xe_v 1) xa_nil)) xa_nil)) (xg_nm 3) (xs_one (xs_set 2 (xe_ix (xe_ix (xe_v 0) (xe_ix (xe_v 1) (xe_v 2))) xe_int)))) (xs_cons (xs_par2 4 5 (xa_cons (xe_lst xa_nil (by decide)) (xa_cons (xe_v 2) xa_nil))) (xs_cons (xs_while (xt_w (xw_or (xt_cp c_eq (xe_len B.n_len (xa_cons (xe_v 4) xa_nil)) xe_int) (xw_or1 (xt_cp c_ne (xe_v 5) (xe_v 2))))) (xs_cons (xs_expr (xe_lm lm_append 4 (xa_cons (xe_ix (xe_v 1) (xe_v 5)) xa_nil))) (xs_one (xs_set 5 (xe_ix (xe_ix (xe_v 0) (xe_ix (xe_v 1) (xe_v 5))) xe_int))))) (xs_one (xs_ret (xe_toTup B.n_tuple (xa_cons (xe_rev (xe_v 4)) xa_nil)))))))
    (fun _ _ _ _ _ _ us hl => match us, hl with | [_, _, _], _ => rfl)
/-! raw_places -/
abbrev N_raw_places : List Str := ["many", "bounds", "every", "places", "raised", "last"]
def b_raw_places : MS := (sSeq (sSet 2 (xCall F_all_bounds (xACons (xVar 0) (xACons (xVar 1) xANil)))) (sSeq (sUnp (.tp [(.nm 3), (.nm 4), (.nm 5)]) (xCall F_settled_places (xACons (xVar 0) (xACons (xVar 2) xANil)))) (sSeq (sIf (xB (xIsN false (xVar 5))) (sRet (xTup (xACons (xC (.str "places")) (xACons (xFn fTuple (xACons (xVar 3) xANil)) xANil)))) sSkip) (sRet (xTup (xACons (xC (.str "round")) (xACons (xCall F_round_behind (xACons (xVar 2) (xACons (xVar 4) (xACons (xVar 5) xANil)))) xANil)))))))
def F_raw_places : Fm := fnM 2 6 b_raw_places
theorem d_raw_places {T : Tb} {f : Addr} {fd : FuncData} (B : Bi T) (D_all_bounds : Df T "all_bounds" F_all_bounds 2 1) (D_settled_places : Df T "settled_places" F_settled_places 2 1) (D_round_behind : Df T "round_behind" F_round_behind 3 1) (F : Fun T.K "raw_places" "raw_places" s_raw_places f fd) (hx : T.mg "raw_places" = some (.ref f)) : Df T "raw_places" F_raw_places 2 2 :=
  df_mk (N := N_raw_places) (ps := ["many", "bounds"]) (b := b_raw_places) (k := 1) F hx ⟨rfl, rfl, rfl, by decide +kernel, rfl, by decide +kernel, by decide +kernel⟩ (by decide)
    (xs_cons (xs_set 2 (xe_call D_all_bounds (xa_cons (xe_v 0) (xa_cons (xe_v 1) xa_nil)))) (xs_cons (xs_unp (xg_tp (xgs_cons (xg_nm 3) (xgs_cons (xg_nm 4) (xgs_cons (xg_nm 5) xgs_nil)))) (xe_call D_settled_places (xa_cons (xe_v 0) (xa_cons (xe_v 2) xa_nil)))) (xs_cons (xs_if (xt_isN (xe_v 5)) (xs_one (xs_ret (xe_tup (xa_cons (xe_gl B.c_PLACES (fun _ => .str _)) (xa_cons (xe_toTup B.n_tuple (xa_cons (xe_v 3) xa_nil)) xa_nil)) (by decide)))) xs_nil) (xs_one (xs_ret (xe_tup (xa_cons (xe_gl B.c_ROUND (fun _ => .str _)) (xa_cons (xe_call D_round_behind (xa_cons (xe_v 2) (xa_cons (xe_v 4) (xa_cons (xe_v 5) xa_nil)))) xa_nil)) (by decide)))))))
    (fun _ _ _ _ _ _ us hl => match us, hl with | [_, _], _ => rfl)
/-! least_places -/
abbrev N_least_places : List Str := ["many", "bounds", "word", "found"]
def b_least_places : MS := (sSeq (sDrop (xCall F_check_bounds (xACons (xVar 0) (xACons (xVar 1) xANil)))) (sSeq (sUnp (.tp [(.nm 2), (.nm 3)]) (xCall F_raw_places (xACons (xVar 0) (xACons (xVar 1) xANil)))) (sSeq (sIf (xB (xOp dNe (xVar 2) (xC (.str "places")))) sNever sSkip) (sRet (xVar 3)))))
def F_least_places : Fm := fnM 2 4 b_least_places
theorem d_least_places {T : Tb} {f : Addr} {fd : FuncData} (B : Bi T) (D_check_bounds : Df T "check_bounds" F_check_bounds 2 4) (D_raw_places : Df T "raw_places" F_raw_places 2 2) (F : Fun T.K "least_places" "least_places" s_least_places f fd) (hx : T.mg "least_places" = some (.ref f)) : Df T "least_places" F_least_places 2 5 :=
  df_mk (N := N_least_places) (ps := ["many", "bounds"]) (b := b_least_places) (k := 4) F hx ⟨rfl, rfl, rfl, by decide +kernel, rfl, by decide +kernel, by decide +kernel⟩ (by decide)
    (xs_cons (xs_expr (xe_call D_check_bounds (xa_cons (xe_v 0) (xa_cons (xe_v 1) xa_nil)))) (xs_cons (xs_unp (xg_tp (xgs_cons (xg_nm 2) (xgs_cons (xg_nm 3) xgs_nil))) (xe_call D_raw_places (xa_cons (xe_v 0) (xa_cons (xe_v 1) xa_nil)))) (xs_cons (xs_if (xt_cp c_ne (xe_v 2) (xe_gl B.c_PLACES (fun _ => .str _))) (xs_one xs_never) xs_nil) (xs_one (xs_ret (xe_v 3))))))
    (fun _ _ _ _ _ _ us hl => match us, hl with | [_, _], _ => rfl)
/-! check_ends -/
abbrev N_check_ends : List Str := ["many", "one", "other", "end"]
def b_check_ends : MS := (sFor (.nm 3) (iAny (xTup (xACons (xVar 1) (xACons (xVar 2) xANil)))) (sIf (xNot (xB (xCall F_is_within (xACons (xVar 3) (xACons (xC (.int 0)) (xACons (xOp dSub (xOp dMul (xC (.int 2)) (xVar 0)) (xC (.int 1))) xANil)))))) sNever sSkip))
def F_check_ends : Fm := fnM 3 4 b_check_ends
theorem d_check_ends {T : Tb} {f : Addr} {fd : FuncData} (B : Bi T) (D_is_within : Df T "is_within" F_is_within 3 2) (F : Fun T.K "check_ends" "check_ends" s_check_ends f fd) (hx : T.mg "check_ends" = some (.ref f)) : Df T "check_ends" F_check_ends 3 3 :=
  df_mk (N := N_check_ends) (ps := ["many", "one", "other"]) (b := b_check_ends) (k := 2) F hx ⟨rfl, rfl, rfl, by decide +kernel, rfl, by decide +kernel, by decide +kernel⟩ (by decide)
    (xs_one (xs_for (xi_any (xe_tup (xa_cons (xe_v 1) (xa_cons (xe_v 2) xa_nil)) (by decide))) (xg_nm 3) (xs_one (xs_if (xt_not (xt_val (xe_call D_is_within (xa_cons (xe_v 3) (xa_cons xe_int (xa_cons (xe_sub (xe_mul xe_int (xe_v 0)) xe_int) xa_nil)))))) (xs_one xs_never) xs_nil))))
    (fun _ _ _ _ _ _ us hl => match us, hl with | [_, _, _], _ => rfl)
/-! farthest_from -/
abbrev N_farthest_from : List Str := ["many", "bounds", "one", "found", "turn", "begin", "end", "least"]
def b_farthest_from : MS := (sSeq (sSet 3 (xOp dMul (xLst (xACons (xC .non) xANil)) (xOp dMul (xC (.int 2)) (xVar 0)))) (sSeq (sSetI 3 (xVar 2) (xC (.int 0))) (sSeq (sFor (.nm 4) (iRg1 (xACons (xOp dMul (xC (.int 2)) (xVar 0)) xANil)) (sFor (.tp [(.nm 5), (.nm 6), (.nm 7)]) (iAny (xCall F_all_bounds (xACons (xVar 0) (xACons (xVar 1) xANil)))) (sIf (xAnd (xB (xIsN true (xOp dIx (xVar 3) (xVar 5)))) (xOr (xB (xIsN false (xOp dIx (xVar 3) (xVar 6)))) (xB (xOp dLt (xOp dIx (xVar 3) (xVar 6)) (xOp dAdd (xOp dIx (xVar 3) (xVar 5)) (xVar 7)))))) (sSetI 3 (xVar 6) (xOp dAdd (xOp dIx (xVar 3) (xVar 5)) (xVar 7))) sSkip))) (sRet (xVar 3)))))
def F_farthest_from : Fm := fnM 3 8 b_farthest_from
theorem d_farthest_from {T : Tb} {f : Addr} {fd : FuncData} (B : Bi T) (D_all_bounds : Df T "all_bounds" F_all_bounds 2 1) (F : Fun T.K "farthest_from" "farthest_from" s_farthest_from f fd) (hx : T.mg "farthest_from" = some (.ref f)) : Df T "farthest_from" F_farthest_from 3 2 :=
  df_mk (N := N_farthest_from) (ps := ["many", "bounds", "one"]) (b := b_farthest_from) (k := 1) F hx ⟨rfl, rfl, rfl, by decide +kernel, rfl, by decide +kernel, by decide +kernel⟩ (by decide)
    (xs_cons (xs_set 3 (xe_mul (xe_lst (xa_cons xe_non xa_nil) (by decide)) (xe_mul xe_int (xe_v 0)))) (xs_cons (xs_setI 3 xe_int (xe_v 2)) (xs_cons (xs_for (xi_rg1 B.n_range (xa_cons (xe_mul xe_int (xe_v 0)) xa_nil)) (xg_nm 4) (xs_one (xs_for (xi_any (xe_call D_all_bounds (xa_cons (xe_v 0) (xa_cons (xe_v 1) xa_nil)))) (xg_tp (xgs_cons (xg_nm 5) (xgs_cons (xg_nm 6) (xgs_cons (xg_nm 7) xgs_nil)))) (xs_one (xs_if (xt_w (xw_and (xt_notN (xe_ix (xe_v 3) (xe_v 5))) (xw_and1 (xt_w (xw_or (xt_isN (xe_ix (xe_v 3) (xe_v 6))) (xw_or1 (xt_cp c_lt (xe_ix (xe_v 3) (xe_v 6)) (xe_add (xe_ix (xe_v 3) (xe_v 5)) (xe_v 7))))))))) (xs_one (xs_setI 3 (xe_add (xe_ix (xe_v 3) (xe_v 5)) (xe_v 7)) (xe_v 6))) xs_nil))))) (xs_one (xs_ret (xe_v 3))))))
    (fun _ _ _ _ _ _ us hl => match us, hl with | [_, _, _], _ => rfl)
/-! surely -/
abbrev N_surely : List Str := ["many", "bounds", "one", "other"]
def b_surely : MS := (sSeq (sDrop (xCall F_least_places (xACons (xVar 0) (xACons (xVar 1) xANil)))) (sSeq (sDrop (xCall F_check_ends (xACons (xVar 0) (xACons (xVar 2) (xACons (xVar 3) xANil))))) (sRet (xOp dIx (xCall F_farthest_from (xACons (xVar 0) (xACons (xVar 1) (xACons (xVar 2) xANil)))) (xVar 3)))))
def F_surely : Fm := fnM 4 4 b_surely
theorem d_surely {T : Tb} {f : Addr} {fd : FuncData} (B : Bi T) (D_least_places : Df T "least_places" F_least_places 2 5) (D_check_ends : Df T "check_ends" F_check_ends 3 3) (D_farthest_from : Df T "farthest_from" F_farthest_from 3 2) (F : Fun T.K "surely" "surely" s_surely f fd) (hx : T.mg "surely" = some (.ref f)) : Df T "surely" F_surely 4 6 :=
  df_mk (N := N_surely) (ps := ["many", "bounds", "one", "other"]) (b := b_surely) (k := 5) F hx ⟨rfl, rfl, rfl, by decide +kernel, rfl, by decide +kernel, by decide +kernel⟩ (by decide)
    (xs_cons (xs_expr (xe_call D_least_places (xa_cons (xe_v 0) (xa_cons (xe_v 1) xa_nil)))) (xs_cons (xs_expr (xe_call D_check_ends (xa_cons (xe_v 0) (xa_cons (xe_v 2) (xa_cons (xe_v 3) xa_nil))))) (xs_one (xs_ret (xe_ix (xe_call D_farthest_from (xa_cons (xe_v 0) (xa_cons (xe_v 1) (xa_cons (xe_v 2) xa_nil)))) (xe_v 3))))))
    (fun _ _ _ _ _ _ us hl => match us, hl with | [_, _, _, _], _ => rfl)
/-! can_be_near -/
abbrev N_can_be_near : List Str := ["many", "bounds", "one", "other", "far", "sure"]
def b_can_be_near : MS := (sSeq (sDrop (xCall F_least_places (xACons (xVar 0) (xACons (xVar 1) xANil)))) (sSeq (sDrop (xCall F_check_ends (xACons (xVar 0) (xACons (xVar 2) (xACons (xVar 3) xANil))))) (sSeq (sIf (xNot (xB (xCall F_is_integer (xACons (xVar 4) xANil)))) sNever sSkip) (sSeq (sSet 5 (xOp dIx (xCall F_farthest_from (xACons (xVar 0) (xACons (xVar 1) (xACons (xVar 2) xANil)))) (xVar 3))) (sRet (xOrV (xIsN false (xVar 5)) (xOp dLe (xVar 5) (xVar 4))))))))
def F_can_be_near : Fm := fnM 5 6 b_can_be_near
theorem d_can_be_near {T : Tb} {f : Addr} {fd : FuncData} (B : Bi T) (D_least_places : Df T "least_places" F_least_places 2 5) (D_check_ends : Df T "check_ends" F_check_ends 3 3) (D_is_integer : Df T "is_integer" F_is_integer 1 1) (D_farthest_from : Df T "farthest_from" F_farthest_from 3 2) (F : Fun T.K "can_be_near" "can_be_near" s_can_be_near f fd) (hx : T.mg "can_be_near" = some (.ref f)) : Df T "can_be_near" F_can_be_near 5 6 :=
  df_mk (N := N_can_be_near) (ps := ["many", "bounds", "one", "other", "far"]) (b := b_can_be_near) (k := 5) F hx ⟨rfl, rfl, rfl, by decide +kernel, rfl, by decide +kernel, by decide +kernel⟩ (by decide)
    (xs_cons (xs_expr (xe_call D_least_places (xa_cons (xe_v 0) (xa_cons (xe_v 1) xa_nil)))) (xs_cons (xs_expr (xe_call D_check_ends (xa_cons (xe_v 0) (xa_cons (xe_v 2) (xa_cons (xe_v 3) xa_nil))))) (xs_cons (xs_if (xt_not (xt_val (xe_call D_is_integer (xa_cons (xe_v 4) xa_nil)))) (xs_one xs_never) xs_nil) (xs_cons (xs_set 5 (xe_ix (xe_call D_farthest_from (xa_cons (xe_v 0) (xa_cons (xe_v 1) (xa_cons (xe_v 2) xa_nil)))) (xe_v 3))) (xs_one (xs_ret (xe_or (xe_isN (xe_v 5)) (xe_one (xe_cp c_le (xe_v 5) (xe_v 4))))))))))
    (fun _ _ _ _ _ _ us hl => match us, hl with | [_, _, _, _, _], _ => rfl)
/-! _law_draw -/
abbrev N_law_draw : List Str := ["hand", "below", "cell", "digit", "number"]
def b_law_draw : MS := (sSeq (sIf (xAnd (xB (xOp dEq (xOp dIx (xVar 0) (xC (.int 2))) (xC (.int 0)))) (xB (xOp dLt (xOp dIx (xVar 0) (xC (.int 1))) (xFn fLen (xACons (xOp dIx (xVar 0) (xC (.int 0))) xANil))))) (sSeq (sSet 2 (xOp dIx (xOp dIx (xVar 0) (xC (.int 0))) (xOp dIx (xVar 0) (xC (.int 1))))) (sSeq (sSetI 0 (xC (.int 1)) (xOp dAdd (xOp dIx (xVar 0) (xC (.int 1))) (xC (.int 1)))) (sSeq (sSetI 0 (xC (.int 3)) (xOp dMod (xFn fInt (xACons (xOp dAdd (xOp dAdd (xOp dMul (xOp dIx (xVar 0) (xC (.int 3))) (xC (.int 69621))) (xOp dMul (xVar 2) (xC (.int 40692)))) (xC (.int 31))) xANil)) (xC (.int 2147483629)))) (sIf (xB (xOp (dI fun i j => decide (j ≤ i)) (xVar 2) (xOp dPow (xC (.int 10)) (xC (.int 18))))) (sSetI 0 (xC (.int 2)) (xVar 2)) sSkip)))) sSkip) (sSeq (sIf (xB (xOp (dI fun i j => decide (j < i)) (xOp dIx (xVar 0) (xC (.int 2))) (xC (.int 0)))) (sSeq (sSet 3 (xOp dMod (xFn fInt (xACons (xOp dIx (xVar 0) (xC (.int 2))) xANil)) (xVar 1))) (sSeq (sSetI 0 (xC (.int 2)) (xOp dDiv (xOp dIx (xVar 0) (xC (.int 2))) (xVar 1))) (sRet (xVar 3)))) sSkip) (sSeq (sSetI 0 (xC (.int 4)) (xOp dAdd (xOp dIx (xVar 0) (xC (.int 4))) (xC (.int 1)))) (sSeq (sSet 4 (xOp dMod (xFn fInt (xACons (xOp dMul (xFn fInt (xACons (xOp dAdd (xOp dIx (xVar 0) (xC (.int 3))) (xOp dMul (xC (.int 7919)) (xOp dIx (xVar 0) (xC (.int 4))))) xANil)) (xC (.int 48271))) xANil)) (xC (.int 2147483647)))) (sSeq (sSet 4 (xOp dMod (xFn fInt (xACons (xOp dMul (xVar 4) (xOp dAdd (xOp dDiv (xVar 4) (xC (.int 1009))) (xC (.int 69621)))) xANil)) (xC (.int 2147483647)))) (sSeq (sSet 4 (xOp dMod (xFn fInt (xACons (xOp dMul (xVar 4) (xOp dAdd (xOp dDiv (xVar 4) (xC (.int 2003))) (xC (.int 40014)))) xANil)) (xC (.int 2147483563)))) (sRet (xOp dMod (xFn fInt (xACons (xOp dDiv (xVar 4) (xC (.int 16))) xANil)) (xVar 1)))))))))
def F_law_draw : Fm := fnM 2 5 b_law_draw
theorem d_law_draw {T : Tb} {f : Addr} {fd : FuncData} (B : Bi T) (F : Fun T.K "_law_draw" "_law_draw" s_law_draw f fd) (hx : T.mg "_law_draw" = some (.ref f)) : Df T "_law_draw" F_law_draw 2 1 :=
  df_mk (N := N_law_draw) (ps := ["hand", "below"]) (b := b_law_draw) (k := 0) F hx ⟨rfl, rfl, rfl, by decide +kernel, rfl, by decide +kernel, by decide +kernel⟩ (by decide)
    (xs_cons (xs_if (xt_w (xw_and (xt_cp c_eq (xe_ix (xe_v 0) xe_int) xe_int) (xw_and1 (xt_cp c_lt (xe_ix (xe_v 0) xe_int) (xe_len B.n_len (xa_cons (xe_ix (xe_v 0) xe_int) xa_nil)))))) (xs_cons (xs_set 2 (xe_ix (xe_ix (xe_v 0) xe_int) (xe_ix (xe_v 0) xe_int))) (xs_cons (xs_setI 0 (xe_add (xe_ix (xe_v 0) xe_int) xe_int) xe_int) (xs_cons (xs_setI 0 (xe_mod (xe_toInt B.n_int (xa_cons (xe_add (xe_add (xe_mul (xe_ix (xe_v 0) xe_int) xe_int) (xe_mul (xe_v 2) xe_int)) xe_int) xa_nil)) xe_int) xe_int) (xs_one (xs_if (xt_cp c_ge (xe_v 2) (xe_pow xe_int xe_int)) (xs_one (xs_setI 0 (xe_v 2) xe_int)) xs_nil))))) xs_nil) (xs_cons (xs_if (xt_cp c_gt (xe_ix (xe_v 0) xe_int) xe_int) (xs_cons (xs_set 3 (xe_mod (xe_toInt B.n_int (xa_cons (xe_ix (xe_v 0) xe_int) xa_nil)) (xe_v 1))) (xs_cons (xs_setI 0 (xe_div (xe_ix (xe_v 0) xe_int) (xe_v 1)) xe_int) (xs_one (xs_ret (xe_v 3))))) xs_nil) (xs_cons (xs_setI 0 (xe_add (xe_ix (xe_v 0) xe_int) xe_int) xe_int) (xs_cons (xs_set 4 (xe_mod (xe_toInt B.n_int (xa_cons (xe_mul (xe_toInt B.n_int (xa_cons (xe_add (xe_ix (xe_v 0) xe_int) (xe_mul xe_int (xe_ix (xe_v 0) xe_int))) xa_nil)) xe_int) xa_nil)) xe_int)) (xs_cons (xs_set 4 (xe_mod (xe_toInt B.n_int (xa_cons (xe_mul (xe_v 4) (xe_add (xe_div (xe_v 4) xe_int) xe_int)) xa_nil)) xe_int)) (xs_cons (xs_set 4 (xe_mod (xe_toInt B.n_int (xa_cons (xe_mul (xe_v 4) (xe_add (xe_div (xe_v 4) xe_int) xe_int)) xa_nil)) xe_int)) (xs_one (xs_ret (xe_mod (xe_toInt B.n_int (xa_cons (xe_div (xe_v 4) xe_int) xa_nil)) (xe_v 1))))))))))
    (fun _ _ _ _ _ _ us hl => match us, hl with | [_, _], _ => rfl)
/-! _law_any -/
abbrev N_law_any : List Str := ["hand", "some"]
def b_law_any : MS := (sRet (xOp dIx (xVar 1) (xCallO F_law_draw (xACons (xVar 0) (xACons (xFn fLen (xACons (xVar 1) xANil)) xANil)))))
def F_law_any : Fm := fnM 2 2 b_law_any
theorem d_law_any {T : Tb} {f : Addr} {fd : FuncData} (B : Bi T) (D_law_draw : Df T "_law_draw" F_law_draw 2 1) (F : Fun T.K "_law_any" "_law_any" s_law_any f fd) (hx : T.mg "_law_any" = some (.ref f)) : Df T "_law_any" F_law_any 2 2 :=
  df_mk (N := N_law_any) (ps := ["hand", "some"]) (b := b_law_any) (k := 1) F hx ⟨rfl, rfl, rfl, by decide +kernel, rfl, by decide +kernel, by decide +kernel⟩ (by decide)
    (xs_one (xs_ret (xe_ix (xe_v 1) (xe_callO D_law_draw (xa_cons (xe_v 0) (xa_cons (xe_len B.n_len (xa_cons (xe_v 1) xa_nil)) xa_nil))))))
    (fun _ _ _ _ _ _ us hl => match us, hl with | [_, _], _ => rfl)
/-! _law_bounds -/
abbrev N_law_bounds : List Str := ["hand", "many", "place", "found", "lap", "one", "other", "end"]
def b_law_bounds : MS := (sSeq (sSet 2 (xLc [7] (.nm 7) (iRg1 (xACons (xOp dMul (xC (.int 2)) (xVar 1)) xANil)) tYesM (xCallO F_law_draw (xACons (xVar 0) (xACons (xC (.int 12)) xANil))))) (sSeq (sSet 3 (xLst xANil)) (sSeq (sFor (.nm 4) (iRg1 (xACons (xCallO F_law_draw (xACons (xVar 0) (xACons (xC (.int 7)) xANil))) xANil)) (sSeq (sPar [5, 6] (xACons (xCallO F_law_draw (xACons (xVar 0) (xACons (xOp dMul (xC (.int 2)) (xVar 1)) xANil))) (xACons (xCallO F_law_draw (xACons (xVar 0) (xACons (xOp dMul (xC (.int 2)) (xVar 1)) xANil))) xANil))) (sIf (xB (xOp dNe (xVar 5) (xVar 6))) (sDrop (xLm 3 fAppend (xACons (xTup (xACons (xVar 5) (xACons (xVar 6) (xACons (xOp dSub (xOp dSub (xOp dIx (xVar 2) (xVar 6)) (xOp dIx (xVar 2) (xVar 5))) (xCallO F_law_any (xACons (xVar 0) (xACons (xLst (xACons (xC (.int 0)) (xACons (xC (.int 0)) (xACons (xC (.int 1)) (xACons (xC (.int 3)) (xACons (xC (.int 0)) (xACons (xNeg (xC (.int 1))) xANil))))))) xANil)))) xANil)))) xANil))) sSkip))) (sRet (xFn fTuple (xACons (xVar 3) xANil))))))
def F_law_bounds : Fm := fnM 2 8 b_law_bounds
theorem d_law_bounds {T : Tb} {f : Addr} {fd : FuncData} (B : Bi T) (D_law_draw : Df T "_law_draw" F_law_draw 2 1) (D_law_any : Df T "_law_any" F_law_any 2 2) (F : Fun T.K "_law_bounds" "_law_bounds" s_law_bounds f fd) (hx : T.mg "_law_bounds" = some (.ref f)) : Df T "_law_bounds" F_law_bounds 2 3 :=
  df_mk (N := N_law_bounds) (ps := ["hand", "many"]) (b := b_law_bounds) (k := 2) F hx ⟨rfl, rfl, rfl, by decide +kernel, rfl, by decide +kernel, by decide +kernel⟩ (by decide)
    (xs_cons (xs_setLc 2 [("end", 7)] (xi_rg1 B.n_range (xa_cons (xe_mul xe_int (xe_v 1)) xa_nil)) (xg_nm 7) xts_nil (xe_callO D_law_draw (xa_cons (xe_v 0) (xa_cons xe_int xa_nil)))) (xs_cons (xs_set 3 (xe_lst xa_nil (by decide))) (xs_cons (xs_for (xi_rg1 B.n_range (xa_cons (xe_callO D_law_draw (xa_cons (xe_v 0) (xa_cons xe_int xa_nil))) xa_nil)) (xg_nm 4) (xs_cons (xs_par2 5 6 (xa_cons (xe_callO D_law_draw (xa_cons (xe_v 0) (xa_cons (xe_mul xe_int (xe_v 1)) xa_nil))) (xa_cons (xe_callO D_law_draw (xa_cons (xe_v 0) (xa_cons (xe_mul xe_int (xe_v 1)) xa_nil))) xa_nil))) (xs_one (xs_if (xt_cp c_ne (xe_v 5) (xe_v 6)) (xs_one (xs_expr (xe_lm lm_append 3 (xa_cons (xe_tup (xa_cons (xe_v 5) (xa_cons (xe_v 6) (xa_cons (xe_sub (xe_sub (xe_ix (xe_v 2) (xe_v 6)) (xe_ix (xe_v 2) (xe_v 5))) (xe_callO D_law_any (xa_cons (xe_v 0) (xa_cons (xe_lst (xa_cons xe_int (xa_cons xe_int (xa_cons xe_int (xa_cons xe_int (xa_cons xe_int (xa_cons (xe_neg xe_int) xa_nil)))))) (by decide)) xa_nil)))) xa_nil))) (by decide)) xa_nil)))) xs_nil)))) (xs_one (xs_ret (xe_toTup B.n_tuple (xa_cons (xe_v 3) xa_nil)))))))
    (fun _ _ _ _ _ _ us hl => match us, hl with | [_, _], _ => rfl)
/-! _law_all_bounds -/
abbrev N_law_all_bounds : List Str := ["many", "bounds", "one"]
def b_law_all_bounds : MS := (sRet (xOp dAdd (xFn fList (xACons (xVar 1) xANil)) (xLc [2] (.nm 2) (iRg1 (xACons (xVar 0) xANil)) tYesM (xTup (xACons (xOp dMul (xC (.int 2)) (xVar 2)) (xACons (xOp dAdd (xOp dMul (xC (.int 2)) (xVar 2)) (xC (.int 1))) (xACons (xC (.int 0)) xANil)))))))
def F_law_all_bounds : Fm := fnM 2 3 b_law_all_bounds
theorem d_law_all_bounds {T : Tb} {f : Addr} {fd : FuncData} (B : Bi T) (F : Fun T.K "_law_all_bounds" "_law_all_bounds" s_law_all_bounds f fd) (hx : T.mg "_law_all_bounds" = some (.ref f)) : Df T "_law_all_bounds" F_law_all_bounds 2 1 :=
  df_mk (N := N_law_all_bounds) (ps := ["many", "bounds"]) (b := b_law_all_bounds) (k := 0) F hx ⟨rfl, rfl, rfl, by decide +kernel, rfl, by decide +kernel, by decide +kernel⟩ (by decide)
    (xs_one (xs_ret (xe_add (xe_toList B.n_list (xa_cons (xe_v 1) xa_nil)) (xe_lc [("one", 2)] (xi_rg1 B.n_range (xa_cons (xe_v 0) xa_nil)) (xg_nm 2) xts_nil (xe_tup (xa_cons (xe_mul xe_int (xe_v 2)) (xa_cons (xe_add (xe_mul xe_int (xe_v 2)) xe_int) (xa_cons xe_int xa_nil))) (by decide))))))
    (fun _ _ _ _ _ _ us hl => match us, hl with | [_, _], _ => rfl)
/-! _law_least -/
abbrev N_law_least : List Str := ["many", "bounds", "every", "places", "turn", "later", "one", "other", "least"]
def b_law_least : MS := (sSeq (sPar [2, 3] (xACons (xCall F_law_all_bounds (xACons (xVar 0) (xACons (xVar 1) xANil))) (xACons (xOp dMul (xLst (xACons (xC (.int 0)) xANil)) (xOp dMul (xC (.int 2)) (xVar 0))) xANil))) (sSeq (sFor (.nm 4) (iRg1 (xACons (xOp dAdd (xOp dMul (xC (.int 2)) (xVar 0)) (xC (.int 1))) xANil)) (sSeq (sSet 5 (xFn fList (xACons (xVar 3) xANil))) (sSeq (sFor (.tp [(.nm 6), (.nm 7), (.nm 8)]) (iAny (xVar 2)) (sSetI 5 (xVar 7) (xFn fMax2 (xACons (xOp dIx (xVar 5) (xVar 7)) (xACons (xOp dAdd (xOp dIx (xVar 5) (xVar 6)) (xVar 8)) xANil))))) (sSeq (sIf (xB (xOp dEq (xVar 5) (xVar 3))) (sRet (xFn fTuple (xACons (xVar 3) xANil))) sSkip) (sSet 3 (xVar 5)))))) (sRet (xC .non))))
def F_law_least : Fm := fnM 2 9 b_law_least
theorem d_law_least {T : Tb} {f : Addr} {fd : FuncData} (B : Bi T) (D_law_all_bounds : Df T "_law_all_bounds" F_law_all_bounds 2 1) (F : Fun T.K "_law_least" "_law_least" s_law_least f fd) (hx : T.mg "_law_least" = some (.ref f)) : Df T "_law_least" F_law_least 2 2 :=
  df_mk (N := N_law_least) (ps := ["many", "bounds"]) (b := b_law_least) (k := 1) F hx ⟨rfl, rfl, rfl, by decide +kernel, rfl, by decide +kernel, by decide +kernel⟩ (by decide)
    (xs_cons (xs_par2 2 3 (xa_cons (xe_call D_law_all_bounds (xa_cons (xe_v 0) (xa_cons (xe_v 1) xa_nil))) (xa_cons (xe_mul (xe_lst (xa_cons xe_int xa_nil) (by decide)) (xe_mul xe_int (xe_v 0))) xa_nil))) (xs_cons (xs_for (xi_rg1 B.n_range (xa_cons (xe_add (xe_mul xe_int (xe_v 0)) xe_int) xa_nil)) (xg_nm 4) (xs_cons (xs_set 5 (xe_toList B.n_list (xa_cons (xe_v 3) xa_nil))) (xs_cons (xs_for (xi_any (xe_v 2)) (xg_tp (xgs_cons (xg_nm 6) (xgs_cons (xg_nm 7) (xgs_cons (xg_nm 8) xgs_nil)))) (xs_one (xs_setI 5 (xe_max2 B.n_max (xa_cons (xe_ix (xe_v 5) (xe_v 7)) (xa_cons (xe_add (xe_ix (xe_v 5) (xe_v 6)) (xe_v 8)) xa_nil))) (xe_v 7)))) (xs_cons (xs_if (xt_cp c_eq (xe_v 5) (xe_v 3)) (xs_one (xs_ret (xe_toTup B.n_tuple (xa_cons (xe_v 3) xa_nil)))) xs_nil) (xs_one (xs_set 3 (xe_v 5))))))) (xs_one (xs_ret xe_non))))
    (fun _ _ _ _ _ _ us hl => match us, hl with | [_, _], _ => rfl)
/-! _law_far -/
abbrev N_law_far : List Str := ["many", "bounds", "one", "every", "found", "turn", "first", "other", "least"]
def b_law_far : MS := (sSeq (sPar [3, 4] (xACons (xCall F_law_all_bounds (xACons (xVar 0) (xACons (xVar 1) xANil))) (xACons (xOp dMul (xLst (xACons (xC .non) xANil)) (xOp dMul (xC (.int 2)) (xVar 0))) xANil))) (sSeq (sSetI 4 (xVar 2) (xC (.int 0))) (sSeq (sFor (.nm 5) (iRg1 (xACons (xOp dAdd (xOp dMul (xC (.int 2)) (xVar 0)) (xC (.int 1))) xANil)) (sFor (.tp [(.nm 6), (.nm 7), (.nm 8)]) (iAny (xVar 3)) (sIf (xAnd (xB (xIsN true (xOp dIx (xVar 4) (xVar 6)))) (xOr (xB (xIsN false (xOp dIx (xVar 4) (xVar 7)))) (xB (xOp dLt (xOp dIx (xVar 4) (xVar 7)) (xOp dAdd (xOp dIx (xVar 4) (xVar 6)) (xVar 8)))))) (sSetI 4 (xVar 7) (xOp dAdd (xOp dIx (xVar 4) (xVar 6)) (xVar 8))) sSkip))) (sRet (xVar 4)))))
def F_law_far : Fm := fnM 3 9 b_law_far
theorem d_law_far {T : Tb} {f : Addr} {fd : FuncData} (B : Bi T) (D_law_all_bounds : Df T "_law_all_bounds" F_law_all_bounds 2 1) (F : Fun T.K "_law_far" "_law_far" s_law_far f fd) (hx : T.mg "_law_far" = some (.ref f)) : Df T "_law_far" F_law_far 3 2 :=
  df_mk (N := N_law_far) (ps := ["many", "bounds", "one"]) (b := b_law_far) (k := 1) F hx ⟨rfl, rfl, rfl, by decide +kernel, rfl, by decide +kernel, by decide +kernel⟩ (by decide)
    (xs_cons (xs_par2 3 4 (xa_cons (xe_call D_law_all_bounds (xa_cons (xe_v 0) (xa_cons (xe_v 1) xa_nil))) (xa_cons (xe_mul (xe_lst (xa_cons xe_non xa_nil) (by decide)) (xe_mul xe_int (xe_v 0))) xa_nil))) (xs_cons (xs_setI 4 xe_int (xe_v 2)) (xs_cons (xs_for (xi_rg1 B.n_range (xa_cons (xe_add (xe_mul xe_int (xe_v 0)) xe_int) xa_nil)) (xg_nm 5) (xs_one (xs_for (xi_any (xe_v 3)) (xg_tp (xgs_cons (xg_nm 6) (xgs_cons (xg_nm 7) (xgs_cons (xg_nm 8) xgs_nil)))) (xs_one (xs_if (xt_w (xw_and (xt_notN (xe_ix (xe_v 4) (xe_v 6))) (xw_and1 (xt_w (xw_or (xt_isN (xe_ix (xe_v 4) (xe_v 7))) (xw_or1 (xt_cp c_lt (xe_ix (xe_v 4) (xe_v 7)) (xe_add (xe_ix (xe_v 4) (xe_v 6)) (xe_v 8))))))))) (xs_one (xs_setI 4 (xe_add (xe_ix (xe_v 4) (xe_v 6)) (xe_v 8)) (xe_v 7))) xs_nil))))) (xs_one (xs_ret (xe_v 4))))))
    (fun _ _ _ _ _ _ us hl => match us, hl with | [_, _, _], _ => rfl)
/-! places_shown -/
abbrev N_places_shown : List Str := ["many", "bounds"]
def b_places_shown : MS := (sSeq (sDrop (xCall F_check_bounds (xACons (xVar 0) (xACons (xVar 1) xANil)))) (sRet (xCall F_raw_places (xACons (xVar 0) (xACons (xVar 1) xANil)))))
def F_places_shown : Fm := fnM 2 2 b_places_shown
theorem d_places_shown {T : Tb} {f : Addr} {fd : FuncData} (B : Bi T) (D_check_bounds : Df T "check_bounds" F_check_bounds 2 4) (D_raw_places : Df T "raw_places" F_raw_places 2 2) (F : Fun T.K "places_shown" "places_shown" s_places_shown f fd) (hx : T.mg "places_shown" = some (.ref f)) : Df T "places_shown" F_places_shown 2 5 :=
  df_mk (N := N_places_shown) (ps := ["many", "bounds"]) (b := b_places_shown) (k := 4) F hx ⟨rfl, rfl, rfl, by decide +kernel, rfl, by decide +kernel, by decide +kernel⟩ (by decide)
    (xs_cons (xs_expr (xe_call D_check_bounds (xa_cons (xe_v 0) (xa_cons (xe_v 1) xa_nil)))) (xs_one (xs_ret (xe_call D_raw_places (xa_cons (xe_v 0) (xa_cons (xe_v 1) xa_nil))))))
    (fun _ _ _ _ _ _ us hl => match us, hl with | [_, _], _ => rfl)
/-! _law_is_pair_right -/
abbrev N_law_is_pair_right : List Str := ["hand", "many", "bounds", "one", "other", "due", "far", "near_by", "number", "flag"]
def b_law_is_pair_right : MS := (sSeq (sIf (xB (xOp dNe (xFn fRepr (xACons (xCall F_surely (xACons (xVar 1) (xACons (xVar 2) (xACons (xVar 3) (xACons (xVar 4) xANil))))) xANil)) (xFn fRepr (xACons (xVar 5) xANil)))) (sRet (xC (.bl false))) sSkip) (sSeq (sSet 6 (xOp dSub (xCallO F_law_draw (xACons (xVar 0) (xACons (xC (.int 9)) xANil))) (xC (.int 4)))) (sSeq (sSet 7 (xOp dAdd (xOrT (xVar 5) (xC (.int 0))) (xCallO F_law_any (xACons (xVar 0) (xACons (xLst (xACons (xNeg (xC (.int 1))) (xACons (xC (.int 0)) (xACons (xC (.int 1)) xANil)))) xANil))))) (sSeq (sFor (.nm 8) (iAny (xTup (xACons (xVar 6) (xACons (xVar 7) xANil)))) (sSeq (sSet 9 (xOrV (xIsN false (xVar 5)) (xOp dLe (xVar 5) (xVar 8)))) (sSeq (sIf (xB (xOp dNe (xFn fRepr (xACons (xCall F_can_be_near (xACons (xVar 1) (xACons (xVar 2) (xACons (xVar 3) (xACons (xVar 4) (xACons (xVar 8) xANil)))))) xANil)) (xFn fRepr (xACons (xVar 9) xANil)))) (sRet (xC (.bl false))) sSkip) (sIf (xAnd (xB (xOp dNe (xVar 3) (xVar 4))) (xB (xOp dNe (xOp dEq (xOp dIx (xCall F_places_shown (xACons (xVar 1) (xACons (xOp dAdd (xVar 2) (xTup (xACons (xTup (xACons (xVar 4) (xACons (xVar 3) (xACons (xOp dSub (xC (.int 0)) (xVar 8)) xANil)))) xANil))) xANil))) (xC (.int 0))) (xC (.str "places"))) (xVar 9)))) (sRet (xC (.bl false))) sSkip)))) (sRet (xC (.bl true)))))))
def F_law_is_pair_right : Fm := fnM 6 10 b_law_is_pair_right
theorem d_law_is_pair_right {T : Tb} {f : Addr} {fd : FuncData} (B : Bi T) (D_surely : Df T "surely" F_surely 4 6) (D_law_draw : Df T "_law_draw" F_law_draw 2 1) (D_law_any : Df T "_law_any" F_law_any 2 2) (D_can_be_near : Df T "can_be_near" F_can_be_near 5 6) (D_places_shown : Df T "places_shown" F_places_shown 2 5) (F : Fun T.K "_law_is_pair_right" "_law_is_pair_right" s_law_is_pair_right f fd) (hx : T.mg "_law_is_pair_right" = some (.ref f)) : Df T "_law_is_pair_right" F_law_is_pair_right 6 7 :=
  df_mk (N := N_law_is_pair_right) (ps := ["hand", "many", "bounds", "one", "other", "due"]) (b := b_law_is_pair_right) (k := 6) F hx ⟨rfl, rfl, rfl, by decide +kernel, rfl, by decide +kernel, by decide +kernel⟩ (by decide)
    (xs_cons (xs_if (xt_cp c_ne (xe_repr B.n_repr (xa_cons (xe_call D_surely (xa_cons (xe_v 1) (xa_cons (xe_v 2) (xa_cons (xe_v 3) (xa_cons (xe_v 4) xa_nil))))) xa_nil)) (xe_repr B.n_repr (xa_cons (xe_v 5) xa_nil))) (xs_one (xs_ret xe_bl)) xs_nil) (xs_cons (xs_set 6 (xe_sub (xe_callO D_law_draw (xa_cons (xe_v 0) (xa_cons xe_int xa_nil))) xe_int)) (xs_cons (xs_set 7 (xe_add (xe_orT (xe_v 5) (xe_one xe_int)) (xe_callO D_law_any (xa_cons (xe_v 0) (xa_cons (xe_lst (xa_cons (xe_neg xe_int) (xa_cons xe_int (xa_cons xe_int xa_nil))) (by decide)) xa_nil))))) (xs_cons (xs_for (xi_any (xe_tup (xa_cons (xe_v 6) (xa_cons (xe_v 7) xa_nil)) (by decide))) (xg_nm 8) (xs_cons (xs_set 9 (xe_or (xe_isN (xe_v 5)) (xe_one (xe_cp c_le (xe_v 5) (xe_v 8))))) (xs_cons (xs_if (xt_cp c_ne (xe_repr B.n_repr (xa_cons (xe_call D_can_be_near (xa_cons (xe_v 1) (xa_cons (xe_v 2) (xa_cons (xe_v 3) (xa_cons (xe_v 4) (xa_cons (xe_v 8) xa_nil)))))) xa_nil)) (xe_repr B.n_repr (xa_cons (xe_v 9) xa_nil))) (xs_one (xs_ret xe_bl)) xs_nil) (xs_one (xs_if (xt_w (xw_and (xt_cp c_ne (xe_v 3) (xe_v 4)) (xw_and1 (xt_cp c_ne (xe_cp c_eq (xe_ix (xe_call D_places_shown (xa_cons (xe_v 1) (xa_cons (xe_add (xe_v 2) (xe_tup (xa_cons (xe_tup (xa_cons (xe_v 4) (xa_cons (xe_v 3) (xa_cons (xe_sub xe_int (xe_v 8)) xa_nil))) (by decide)) xa_nil) (by decide))) xa_nil))) xe_int) xe_str) (xe_v 9))))) (xs_one (xs_ret xe_bl)) xs_nil))))) (xs_one (xs_ret xe_bl))))))
    (fun _ _ _ _ _ _ us hl => match us, hl with | [_, _, _, _, _, _], _ => rfl)
/-! law -/
abbrev N_law : List Str := ["script", "hand", "lap", "many", "bounds", "one", "found", "other", "turn"]
def b_law : MS := (sSeq (sSet 1 (xCall F_law_hand (xACons (xVar 0) xANil))) (sSeq (sIf (xOr (xB (xOp dNe (xCall F_surely (xACons (xC (.int 2)) (xACons (xTup (xACons (xTup (xACons (xC (.int 1)) (xACons (xC (.int 2)) (xACons (xC (.int 3)) xANil)))) xANil)) (xACons (xC (.int 0)) (xACons (xC (.int 3)) xANil))))) (xC (.int 3)))) (xOr (xB (xIsN true (xCall F_surely (xACons (xC (.int 2)) (xACons (xTup (xACons (xTup (xACons (xC (.int 1)) (xACons (xC (.int 2)) (xACons (xC (.int 3)) xANil)))) xANil)) (xACons (xC (.int 3)) (xACons (xC (.int 0)) xANil))))))) (xB (xOp dNe (xCall F_surely (xACons (xC (.int 1)) (xACons (xTup xANil) (xACons (xC (.int 0)) (xACons (xC (.int 1)) xANil))))) (xC (.int 0)))))) (sRet (xC (.bl false))) sSkip) (sSeq (sIf (xB (xOp (dIs true) (xCall F_can_be_near (xACons (xC (.int 2)) (xACons (xTup (xACons (xTup (xACons (xC (.int 1)) (xACons (xC (.int 2)) (xACons (xC (.int 3)) xANil)))) xANil)) (xACons (xC (.int 0)) (xACons (xC (.int 3)) (xACons (xC (.int 2)) xANil)))))) (xC (.bl false)))) (sRet (xC (.bl false))) sSkip) (sSeq (sFor (.nm 2) (iRg1 (xACons (xC (.int 4)) xANil)) (sSeq (sSet 3 (xOp dAdd (xC (.int 1)) (xCallO F_law_draw (xACons (xVar 1) (xACons (xC (.int 4)) xANil))))) (sSeq (sSet 4 (xCallO F_law_bounds (xACons (xVar 1) (xACons (xVar 3) xANil)))) (sIf (xB (xIsN true (xCall F_law_least (xACons (xVar 3) (xACons (xVar 4) xANil))))) (sSeq (sSet 5 (xCallO F_law_draw (xACons (xVar 1) (xACons (xOp dMul (xC (.int 2)) (xVar 3)) xANil)))) (sSeq (sSet 6 (xCall F_law_far (xACons (xVar 3) (xACons (xVar 4) (xACons (xVar 5) xANil))))) (sFor (.nm 7) (iAny (xLc [8] (.nm 8) (iRg1 (xACons (xC (.int 4)) xANil)) tYesM (xCallO F_law_draw (xACons (xVar 1) (xACons (xOp dMul (xC (.int 2)) (xVar 3)) xANil))))) (sIf (xNot (xB (xCallO F_law_is_pair_right (xACons (xVar 1) (xACons (xVar 3) (xACons (xVar 4) (xACons (xVar 5) (xACons (xVar 7) (xACons (xOp dIx (xVar 6) (xVar 7)) xANil))))))))) (sRet (xC (.bl false))) sSkip)))) sSkip)))) (sRet (xC (.bl true)))))))
def F_law : Fm := fnM 1 9 b_law
theorem d_law {T : Tb} {f : Addr} {fd : FuncData} (B : Bi T) (D_law_hand : Df T "_law_hand" F_law_hand 1 1) (D_surely : Df T "surely" F_surely 4 6) (D_can_be_near : Df T "can_be_near" F_can_be_near 5 6) (D_law_draw : Df T "_law_draw" F_law_draw 2 1) (D_law_bounds : Df T "_law_bounds" F_law_bounds 2 3) (D_law_least : Df T "_law_least" F_law_least 2 2) (D_law_far : Df T "_law_far" F_law_far 3 2) (D_law_is_pair_right : Df T "_law_is_pair_right" F_law_is_pair_right 6 7) (F : Fun T.K "law" "law" s_law f fd) (hx : T.mg "law" = some (.ref f)) : Df T "law" F_law 1 8 :=
  df_mk (N := N_law) (ps := ["script"]) (b := b_law) (k := 7) F hx ⟨rfl, rfl, rfl, by decide +kernel, rfl, by decide +kernel, by decide +kernel⟩ (by decide)
    (xs_cons (xs_set 1 (xe_call D_law_hand (xa_cons (xe_v 0) xa_nil))) (xs_cons (xs_if (xt_w (xw_or (xt_cp c_ne (xe_call D_surely (xa_cons xe_int (xa_cons (xe_tup (xa_cons (xe_tup (xa_cons xe_int (xa_cons xe_int (xa_cons xe_int xa_nil))) (by decide)) xa_nil) (by decide)) (xa_cons xe_int (xa_cons xe_int xa_nil))))) xe_int) (xw_or (xt_notN (xe_call D_surely (xa_cons xe_int (xa_cons (xe_tup (xa_cons (xe_tup (xa_cons xe_int (xa_cons xe_int (xa_cons xe_int xa_nil))) (by decide)) xa_nil) (by decide)) (xa_cons xe_int (xa_cons xe_int xa_nil)))))) (xw_or1 (xt_cp c_ne (xe_call D_surely (xa_cons xe_int (xa_cons (xe_tup xa_nil (by decide)) (xa_cons xe_int (xa_cons xe_int xa_nil))))) xe_int))))) (xs_one (xs_ret xe_bl)) xs_nil) (xs_cons (xs_if (xt_cp c_isnt (xe_call D_can_be_near (xa_cons xe_int (xa_cons (xe_tup (xa_cons (xe_tup (xa_cons xe_int (xa_cons xe_int (xa_cons xe_int xa_nil))) (by decide)) xa_nil) (by decide)) (xa_cons xe_int (xa_cons xe_int (xa_cons xe_int xa_nil)))))) xe_bl) (xs_one (xs_ret xe_bl)) xs_nil) (xs_cons (xs_for (xi_rg1 B.n_range (xa_cons xe_int xa_nil)) (xg_nm 2) (xs_cons (xs_set 3 (xe_add xe_int (xe_callO D_law_draw (xa_cons (xe_v 1) (xa_cons xe_int xa_nil))))) (xs_cons (xs_set 4 (xe_callO D_law_bounds (xa_cons (xe_v 1) (xa_cons (xe_v 3) xa_nil)))) (xs_one (xs_if (xt_notN (xe_call D_law_least (xa_cons (xe_v 3) (xa_cons (xe_v 4) xa_nil)))) (xs_cons (xs_set 5 (xe_callO D_law_draw (xa_cons (xe_v 1) (xa_cons (xe_mul xe_int (xe_v 3)) xa_nil)))) (xs_cons (xs_set 6 (xe_call D_law_far (xa_cons (xe_v 3) (xa_cons (xe_v 4) (xa_cons (xe_v 5) xa_nil))))) (xs_one (xs_for (xi_any (xe_lc [("turn", 8)] (xi_rg1 B.n_range (xa_cons xe_int xa_nil)) (xg_nm 8) xts_nil (xe_callO D_law_draw (xa_cons (xe_v 1) (xa_cons (xe_mul xe_int (xe_v 3)) xa_nil))))) (xg_nm 7) (xs_one (xs_if (xt_not (xt_val (xe_callO D_law_is_pair_right (xa_cons (xe_v 1) (xa_cons (xe_v 3) (xa_cons (xe_v 4) (xa_cons (xe_v 5) (xa_cons (xe_v 7) (xa_cons (xe_ix (xe_v 6) (xe_v 7)) xa_nil))))))))) (xs_one (xs_ret xe_bl)) xs_nil)))))) xs_nil))))) (xs_one (xs_ret xe_bl))))))
    (fun _ _ _ _ _ _ us hl => match us, hl with | [_], _ => rfl)
theorem all_mk {P : Program} {w : World} {K : PySem.W.Frag} {h base : Heap} {mg : Str → Option Value} (X : K.In h) (G : h.Ns mainGlobals mg)
    {f_law_hand : Addr} {od_law_hand an_law_hand : Option Addr} {sl_law_hand : Array (Option Value)} {oc_law_hand kV_law_hand dc_law_hand pm_law_hand cd_law_hand ct_law_hand : Value}
    {f_is_integer : Addr} {od_is_integer an_is_integer : Option Addr} {sl_is_integer : Array (Option Value)} {oc_is_integer kV_is_integer dc_is_integer pm_is_integer cd_is_integer ct_is_integer : Value}
    {f_is_within : Addr} {od_is_within an_is_within : Option Addr} {sl_is_within : Array (Option Value)} {oc_is_within kV_is_within dc_is_within pm_is_within cd_is_within ct_is_within : Value}
    {f_is_bound : Addr} {od_is_bound an_is_bound : Option Addr} {sl_is_bound : Array (Option Value)} {oc_is_bound kV_is_bound dc_is_bound pm_is_bound cd_is_bound ct_is_bound : Value}
    {f_check_bounds : Addr} {od_check_bounds an_check_bounds : Option Addr} {sl_check_bounds : Array (Option Value)} {oc_check_bounds kV_check_bounds dc_check_bounds pm_check_bounds cd_check_bounds ct_check_bounds : Value}
    {f_all_bounds : Addr} {od_all_bounds an_all_bounds : Option Addr} {sl_all_bounds : Array (Option Value)} {oc_all_bounds kV_all_bounds dc_all_bounds pm_all_bounds cd_all_bounds ct_all_bounds : Value}
    {f_settled_places : Addr} {od_settled_places an_settled_places : Option Addr} {sl_settled_places : Array (Option Value)} {oc_settled_places kV_settled_places dc_settled_places pm_settled_places cd_settled_places ct_settled_places : Value}
    {f_round_behind : Addr} {od_round_behind an_round_behind : Option Addr} {sl_round_behind : Array (Option Value)} {oc_round_behind kV_round_behind dc_round_behind pm_round_behind cd_round_behind ct_round_behind : Value}
    {f_raw_places : Addr} {od_raw_places an_raw_places : Option Addr} {sl_raw_places : Array (Option Value)} {oc_raw_places kV_raw_places dc_raw_places pm_raw_places cd_raw_places ct_raw_places : Value}
    {f_least_places : Addr} {od_least_places an_least_places : Option Addr} {sl_least_places : Array (Option Value)} {oc_least_places kV_least_places dc_least_places pm_least_places cd_least_places ct_least_places : Value}
    {f_check_ends : Addr} {od_check_ends an_check_ends : Option Addr} {sl_check_ends : Array (Option Value)} {oc_check_ends kV_check_ends dc_check_ends pm_check_ends cd_check_ends ct_check_ends : Value}
    {f_farthest_from : Addr} {od_farthest_from an_farthest_from : Option Addr} {sl_farthest_from : Array (Option Value)} {oc_farthest_from kV_farthest_from dc_farthest_from pm_farthest_from cd_farthest_from ct_farthest_from : Value}
    {f_surely : Addr} {od_surely an_surely : Option Addr} {sl_surely : Array (Option Value)} {oc_surely kV_surely dc_surely pm_surely cd_surely ct_surely : Value}
    {f_can_be_near : Addr} {od_can_be_near an_can_be_near : Option Addr} {sl_can_be_near : Array (Option Value)} {oc_can_be_near kV_can_be_near dc_can_be_near pm_can_be_near cd_can_be_near ct_can_be_near : Value}
    {f_law_draw : Addr} {od_law_draw an_law_draw : Option Addr} {sl_law_draw : Array (Option Value)} {oc_law_draw kV_law_draw dc_law_draw pm_law_draw cd_law_draw ct_law_draw : Value}
    {f_law_any : Addr} {od_law_any an_law_any : Option Addr} {sl_law_any : Array (Option Value)} {oc_law_any kV_law_any dc_law_any pm_law_any cd_law_any ct_law_any : Value}
    {f_law_bounds : Addr} {od_law_bounds an_law_bounds : Option Addr} {sl_law_bounds : Array (Option Value)} {oc_law_bounds kV_law_bounds dc_law_bounds pm_law_bounds cd_law_bounds ct_law_bounds : Value}
    {f_law_all_bounds : Addr} {od_law_all_bounds an_law_all_bounds : Option Addr} {sl_law_all_bounds : Array (Option Value)} {oc_law_all_bounds kV_law_all_bounds dc_law_all_bounds pm_law_all_bounds cd_law_all_bounds ct_law_all_bounds : Value}
    {f_law_least : Addr} {od_law_least an_law_least : Option Addr} {sl_law_least : Array (Option Value)} {oc_law_least kV_law_least dc_law_least pm_law_least cd_law_least ct_law_least : Value}
    {f_law_far : Addr} {od_law_far an_law_far : Option Addr} {sl_law_far : Array (Option Value)} {oc_law_far kV_law_far dc_law_far pm_law_far cd_law_far ct_law_far : Value}
    {f_places_shown : Addr} {od_places_shown an_places_shown : Option Addr} {sl_places_shown : Array (Option Value)} {oc_places_shown kV_places_shown dc_places_shown pm_places_shown cd_places_shown ct_places_shown : Value}
    {f_law_is_pair_right : Addr} {od_law_is_pair_right an_law_is_pair_right : Option Addr} {sl_law_is_pair_right : Array (Option Value)} {oc_law_is_pair_right kV_law_is_pair_right dc_law_is_pair_right pm_law_is_pair_right cd_law_is_pair_right ct_law_is_pair_right : Value}
    {f_law : Addr} {od_law an_law : Option Addr} {sl_law : Array (Option Value)} {oc_law kV_law dc_law pm_law cd_law ct_law : Value}
    {t_MOST_BOUNDS : Tok}
    {t_MOST_LEAST : Tok}
    {t_MOST_STRETCHES : Tok}
    {t_PLACES : Tok}
    {t_ROUND : Tok}
    (a_law_hand : PySem.W.nsIn K mainGlobals "_law_hand" = some (some (.ref f_law_hand)))
    (l_law_hand : K.lookup f_law_hand = some ⟨oc_law_hand, od_law_hand, .func (PySem.W.fnOf "_law_hand" "_law_hand" (defArgs s_law_hand) (defBody s_law_hand) (defScope s_law_hand) .none kV_law_hand dc_law_hand pm_law_hand an_law_hand cd_law_hand ct_law_hand), sl_law_hand⟩)
    (c_law_hand : PySem.W.codeIn K cd_law_hand "_law_hand" = true)
    (k_law_hand : PySem.W.keepIn K (.ref f_law_hand) = true)
    (a_is_integer : PySem.W.nsIn K mainGlobals "is_integer" = some (some (.ref f_is_integer)))
    (l_is_integer : K.lookup f_is_integer = some ⟨oc_is_integer, od_is_integer, .func (PySem.W.fnOf "is_integer" "is_integer" (defArgs s_is_integer) (defBody s_is_integer) (defScope s_is_integer) .none kV_is_integer dc_is_integer pm_is_integer an_is_integer cd_is_integer ct_is_integer), sl_is_integer⟩)
    (c_is_integer : PySem.W.codeIn K cd_is_integer "is_integer" = true)
    (k_is_integer : PySem.W.keepIn K (.ref f_is_integer) = true)
    (a_is_within : PySem.W.nsIn K mainGlobals "is_within" = some (some (.ref f_is_within)))
    (l_is_within : K.lookup f_is_within = some ⟨oc_is_within, od_is_within, .func (PySem.W.fnOf "is_within" "is_within" (defArgs s_is_within) (defBody s_is_within) (defScope s_is_within) .none kV_is_within dc_is_within pm_is_within an_is_within cd_is_within ct_is_within), sl_is_within⟩)
    (c_is_within : PySem.W.codeIn K cd_is_within "is_within" = true)
    (k_is_within : PySem.W.keepIn K (.ref f_is_within) = true)
    (a_is_bound : PySem.W.nsIn K mainGlobals "is_bound" = some (some (.ref f_is_bound)))
    (l_is_bound : K.lookup f_is_bound = some ⟨oc_is_bound, od_is_bound, .func (PySem.W.fnOf "is_bound" "is_bound" (defArgs s_is_bound) (defBody s_is_bound) (defScope s_is_bound) .none kV_is_bound dc_is_bound pm_is_bound an_is_bound cd_is_bound ct_is_bound), sl_is_bound⟩)
    (c_is_bound : PySem.W.codeIn K cd_is_bound "is_bound" = true)
    (k_is_bound : PySem.W.keepIn K (.ref f_is_bound) = true)
    (a_check_bounds : PySem.W.nsIn K mainGlobals "check_bounds" = some (some (.ref f_check_bounds)))
    (l_check_bounds : K.lookup f_check_bounds = some ⟨oc_check_bounds, od_check_bounds, .func (PySem.W.fnOf "check_bounds" "check_bounds" (defArgs s_check_bounds) (defBody s_check_bounds) (defScope s_check_bounds) .none kV_check_bounds dc_check_bounds pm_check_bounds an_check_bounds cd_check_bounds ct_check_bounds), sl_check_bounds⟩)
    (c_check_bounds : PySem.W.codeIn K cd_check_bounds "check_bounds" = true)
    (k_check_bounds : PySem.W.keepIn K (.ref f_check_bounds) = true)
    (a_all_bounds : PySem.W.nsIn K mainGlobals "all_bounds" = some (some (.ref f_all_bounds)))
    (l_all_bounds : K.lookup f_all_bounds = some ⟨oc_all_bounds, od_all_bounds, .func (PySem.W.fnOf "all_bounds" "all_bounds" (defArgs s_all_bounds) (defBody s_all_bounds) (defScope s_all_bounds) .none kV_all_bounds dc_all_bounds pm_all_bounds an_all_bounds cd_all_bounds ct_all_bounds), sl_all_bounds⟩)
    (c_all_bounds : PySem.W.codeIn K cd_all_bounds "all_bounds" = true)
    (k_all_bounds : PySem.W.keepIn K (.ref f_all_bounds) = true)
    (a_settled_places : PySem.W.nsIn K mainGlobals "settled_places" = some (some (.ref f_settled_places)))
    (l_settled_places : K.lookup f_settled_places = some ⟨oc_settled_places, od_settled_places, .func (PySem.W.fnOf "settled_places" "settled_places" (defArgs s_settled_places) (defBody s_settled_places) (defScope s_settled_places) .none kV_settled_places dc_settled_places pm_settled_places an_settled_places cd_settled_places ct_settled_places), sl_settled_places⟩)
    (c_settled_places : PySem.W.codeIn K cd_settled_places "settled_places" = true)
    (k_settled_places : PySem.W.keepIn K (.ref f_settled_places) = true)
    (a_round_behind : PySem.W.nsIn K mainGlobals "round_behind" = some (some (.ref f_round_behind)))
    (l_round_behind : K.lookup f_round_behind = some ⟨oc_round_behind, od_round_behind, .func (PySem.W.fnOf "round_behind" "round_behind" (defArgs s_round_behind) (defBody s_round_behind) (defScope s_round_behind) .none kV_round_behind dc_round_behind pm_round_behind an_round_behind cd_round_behind ct_round_behind), sl_round_behind⟩)
    (c_round_behind : PySem.W.codeIn K cd_round_behind "round_behind" = true)
    (k_round_behind : PySem.W.keepIn K (.ref f_round_behind) = true)
    (a_raw_places : PySem.W.nsIn K mainGlobals "raw_places" = some (some (.ref f_raw_places)))
    (l_raw_places : K.lookup f_raw_places = some ⟨oc_raw_places, od_raw_places, .func (PySem.W.fnOf "raw_places" "raw_places" (defArgs s_raw_places) (defBody s_raw_places) (defScope s_raw_places) .none kV_raw_places dc_raw_places pm_raw_places an_raw_places cd_raw_places ct_raw_places), sl_raw_places⟩)
    (c_raw_places : PySem.W.codeIn K cd_raw_places "raw_places" = true)
    (k_raw_places : PySem.W.keepIn K (.ref f_raw_places) = true)
    (a_least_places : PySem.W.nsIn K mainGlobals "least_places" = some (some (.ref f_least_places)))
    (l_least_places : K.lookup f_least_places = some ⟨oc_least_places, od_least_places, .func (PySem.W.fnOf "least_places" "least_places" (defArgs s_least_places) (defBody s_least_places) (defScope s_least_places) .none kV_least_places dc_least_places pm_least_places an_least_places cd_least_places ct_least_places), sl_least_places⟩)
    (c_least_places : PySem.W.codeIn K cd_least_places "least_places" = true)
    (k_least_places : PySem.W.keepIn K (.ref f_least_places) = true)
    (a_check_ends : PySem.W.nsIn K mainGlobals "check_ends" = some (some (.ref f_check_ends)))
    (l_check_ends : K.lookup f_check_ends = some ⟨oc_check_ends, od_check_ends, .func (PySem.W.fnOf "check_ends" "check_ends" (defArgs s_check_ends) (defBody s_check_ends) (defScope s_check_ends) .none kV_check_ends dc_check_ends pm_check_ends an_check_ends cd_check_ends ct_check_ends), sl_check_ends⟩)
    (c_check_ends : PySem.W.codeIn K cd_check_ends "check_ends" = true)
    (k_check_ends : PySem.W.keepIn K (.ref f_check_ends) = true)
    (a_farthest_from : PySem.W.nsIn K mainGlobals "farthest_from" = some (some (.ref f_farthest_from)))
    (l_farthest_from : K.lookup f_farthest_from = some ⟨oc_farthest_from, od_farthest_from, .func (PySem.W.fnOf "farthest_from" "farthest_from" (defArgs s_farthest_from) (defBody s_farthest_from) (defScope s_farthest_from) .none kV_farthest_from dc_farthest_from pm_farthest_from an_farthest_from cd_farthest_from ct_farthest_from), sl_farthest_from⟩)
    (c_farthest_from : PySem.W.codeIn K cd_farthest_from "farthest_from" = true)
    (k_farthest_from : PySem.W.keepIn K (.ref f_farthest_from) = true)
    (a_surely : PySem.W.nsIn K mainGlobals "surely" = some (some (.ref f_surely)))
    (l_surely : K.lookup f_surely = some ⟨oc_surely, od_surely, .func (PySem.W.fnOf "surely" "surely" (defArgs s_surely) (defBody s_surely) (defScope s_surely) .none kV_surely dc_surely pm_surely an_surely cd_surely ct_surely), sl_surely⟩)
    (c_surely : PySem.W.codeIn K cd_surely "surely" = true)
    (k_surely : PySem.W.keepIn K (.ref f_surely) = true)
    (a_can_be_near : PySem.W.nsIn K mainGlobals "can_be_near" = some (some (.ref f_can_be_near)))
    (l_can_be_near : K.lookup f_can_be_near = some ⟨oc_can_be_near, od_can_be_near, .func (PySem.W.fnOf "can_be_near" "can_be_near" (defArgs s_can_be_near) (defBody s_can_be_near) (defScope s_can_be_near) .none kV_can_be_near dc_can_be_near pm_can_be_near an_can_be_near cd_can_be_near ct_can_be_near), sl_can_be_near⟩)
    (c_can_be_near : PySem.W.codeIn K cd_can_be_near "can_be_near" = true)
    (k_can_be_near : PySem.W.keepIn K (.ref f_can_be_near) = true)
    (a_law_draw : PySem.W.nsIn K mainGlobals "_law_draw" = some (some (.ref f_law_draw)))
    (l_law_draw : K.lookup f_law_draw = some ⟨oc_law_draw, od_law_draw, .func (PySem.W.fnOf "_law_draw" "_law_draw" (defArgs s_law_draw) (defBody s_law_draw) (defScope s_law_draw) .none kV_law_draw dc_law_draw pm_law_draw an_law_draw cd_law_draw ct_law_draw), sl_law_draw⟩)
    (c_law_draw : PySem.W.codeIn K cd_law_draw "_law_draw" = true)
    (k_law_draw : PySem.W.keepIn K (.ref f_law_draw) = true)
    (a_law_any : PySem.W.nsIn K mainGlobals "_law_any" = some (some (.ref f_law_any)))
    (l_law_any : K.lookup f_law_any = some ⟨oc_law_any, od_law_any, .func (PySem.W.fnOf "_law_any" "_law_any" (defArgs s_law_any) (defBody s_law_any) (defScope s_law_any) .none kV_law_any dc_law_any pm_law_any an_law_any cd_law_any ct_law_any), sl_law_any⟩)
    (c_law_any : PySem.W.codeIn K cd_law_any "_law_any" = true)
    (k_law_any : PySem.W.keepIn K (.ref f_law_any) = true)
    (a_law_bounds : PySem.W.nsIn K mainGlobals "_law_bounds" = some (some (.ref f_law_bounds)))
    (l_law_bounds : K.lookup f_law_bounds = some ⟨oc_law_bounds, od_law_bounds, .func (PySem.W.fnOf "_law_bounds" "_law_bounds" (defArgs s_law_bounds) (defBody s_law_bounds) (defScope s_law_bounds) .none kV_law_bounds dc_law_bounds pm_law_bounds an_law_bounds cd_law_bounds ct_law_bounds), sl_law_bounds⟩)
    (c_law_bounds : PySem.W.codeIn K cd_law_bounds "_law_bounds" = true)
    (k_law_bounds : PySem.W.keepIn K (.ref f_law_bounds) = true)
    (a_law_all_bounds : PySem.W.nsIn K mainGlobals "_law_all_bounds" = some (some (.ref f_law_all_bounds)))
    (l_law_all_bounds : K.lookup f_law_all_bounds = some ⟨oc_law_all_bounds, od_law_all_bounds, .func (PySem.W.fnOf "_law_all_bounds" "_law_all_bounds" (defArgs s_law_all_bounds) (defBody s_law_all_bounds) (defScope s_law_all_bounds) .none kV_law_all_bounds dc_law_all_bounds pm_law_all_bounds an_law_all_bounds cd_law_all_bounds ct_law_all_bounds), sl_law_all_bounds⟩)
    (c_law_all_bounds : PySem.W.codeIn K cd_law_all_bounds "_law_all_bounds" = true)
    (k_law_all_bounds : PySem.W.keepIn K (.ref f_law_all_bounds) = true)
    (a_law_least : PySem.W.nsIn K mainGlobals "_law_least" = some (some (.ref f_law_least)))
    (l_law_least : K.lookup f_law_least = some ⟨oc_law_least, od_law_least, .func (PySem.W.fnOf "_law_least" "_law_least" (defArgs s_law_least) (defBody s_law_least) (defScope s_law_least) .none kV_law_least dc_law_least pm_law_least an_law_least cd_law_least ct_law_least), sl_law_least⟩)
    (c_law_least : PySem.W.codeIn K cd_law_least "_law_least" = true)
    (k_law_least : PySem.W.keepIn K (.ref f_law_least) = true)
    (a_law_far : PySem.W.nsIn K mainGlobals "_law_far" = some (some (.ref f_law_far)))
    (l_law_far : K.lookup f_law_far = some ⟨oc_law_far, od_law_far, .func (PySem.W.fnOf "_law_far" "_law_far" (defArgs s_law_far) (defBody s_law_far) (defScope s_law_far) .none kV_law_far dc_law_far pm_law_far an_law_far cd_law_far ct_law_far), sl_law_far⟩)
    (c_law_far : PySem.W.codeIn K cd_law_far "_law_far" = true)
    (k_law_far : PySem.W.keepIn K (.ref f_law_far) = true)
    (a_places_shown : PySem.W.nsIn K mainGlobals "places_shown" = some (some (.ref f_places_shown)))
    (l_places_shown : K.lookup f_places_shown = some ⟨oc_places_shown, od_places_shown, .func (PySem.W.fnOf "places_shown" "places_shown" (defArgs s_places_shown) (defBody s_places_shown) (defScope s_places_shown) .none kV_places_shown dc_places_shown pm_places_shown an_places_shown cd_places_shown ct_places_shown), sl_places_shown⟩)
    (c_places_shown : PySem.W.codeIn K cd_places_shown "places_shown" = true)
    (k_places_shown : PySem.W.keepIn K (.ref f_places_shown) = true)
    (a_law_is_pair_right : PySem.W.nsIn K mainGlobals "_law_is_pair_right" = some (some (.ref f_law_is_pair_right)))
    (l_law_is_pair_right : K.lookup f_law_is_pair_right = some ⟨oc_law_is_pair_right, od_law_is_pair_right, .func (PySem.W.fnOf "_law_is_pair_right" "_law_is_pair_right" (defArgs s_law_is_pair_right) (defBody s_law_is_pair_right) (defScope s_law_is_pair_right) .none kV_law_is_pair_right dc_law_is_pair_right pm_law_is_pair_right an_law_is_pair_right cd_law_is_pair_right ct_law_is_pair_right), sl_law_is_pair_right⟩)
    (c_law_is_pair_right : PySem.W.codeIn K cd_law_is_pair_right "_law_is_pair_right" = true)
    (k_law_is_pair_right : PySem.W.keepIn K (.ref f_law_is_pair_right) = true)
    (a_law : PySem.W.nsIn K mainGlobals "law" = some (some (.ref f_law)))
    (l_law : K.lookup f_law = some ⟨oc_law, od_law, .func (PySem.W.fnOf "law" "law" (defArgs s_law) (defBody s_law) (defScope s_law) .none kV_law dc_law pm_law an_law cd_law ct_law), sl_law⟩)
    (c_law : PySem.W.codeIn K cd_law "law" = true)
    (k_law : PySem.W.keepIn K (.ref f_law) = true)
    (z_abs : PySem.W.nsIn K mainGlobals "abs" = some none)
    (z_all : PySem.W.nsIn K mainGlobals "all" = some none)
    (z_bool : PySem.W.nsIn K mainGlobals "bool" = some none)
    (z_enumerate : PySem.W.nsIn K mainGlobals "enumerate" = some none)
    (z_int : PySem.W.nsIn K mainGlobals "int" = some none)
    (z_isinstance : PySem.W.nsIn K mainGlobals "isinstance" = some none)
    (z_len : PySem.W.nsIn K mainGlobals "len" = some none)
    (z_list : PySem.W.nsIn K mainGlobals "list" = some none)
    (z_max : PySem.W.nsIn K mainGlobals "max" = some none)
    (z_range : PySem.W.nsIn K mainGlobals "range" = some none)
    (z_repr : PySem.W.nsIn K mainGlobals "repr" = some none)
    (z_tuple : PySem.W.nsIn K mainGlobals "tuple" = some none)
    (q_MOST_BOUNDS : PySem.W.nsIn K mainGlobals "MOST_BOUNDS" = some (some (.int 40 t_MOST_BOUNDS)))
    (q_MOST_LEAST : PySem.W.nsIn K mainGlobals "MOST_LEAST" = some (some (.int 10000 t_MOST_LEAST)))
    (q_MOST_STRETCHES : PySem.W.nsIn K mainGlobals "MOST_STRETCHES" = some (some (.int 9 t_MOST_STRETCHES)))
    (q_PLACES : PySem.W.nsIn K mainGlobals "PLACES" = some (some (.str "places" t_PLACES)))
    (q_ROUND : PySem.W.nsIn K mainGlobals "ROUND" = some (some (.str "round" t_ROUND)))
    : Df ⟨P, w, K, mg, base, []⟩ "law" F_law 1 8 := by
  have B : Bi ⟨P, w, K, mg, base, []⟩ := ⟨PySem.W.mg_none_of X G z_abs, PySem.W.mg_none_of X G z_all, PySem.W.mg_none_of X G z_bool, PySem.W.mg_none_of X G z_enumerate, PySem.W.mg_none_of X G z_int, PySem.W.mg_none_of X G z_isinstance, PySem.W.mg_none_of X G z_len, PySem.W.mg_none_of X G z_list, PySem.W.mg_none_of X G z_max, PySem.W.mg_none_of X G z_range, PySem.W.mg_none_of X G z_repr, PySem.W.mg_none_of X G z_tuple, ⟨_, PySem.W.mg_of X G q_MOST_BOUNDS, _, rfl⟩, ⟨_, PySem.W.mg_of X G q_MOST_LEAST, _, rfl⟩, ⟨_, PySem.W.mg_of X G q_MOST_STRETCHES, _, rfl⟩, ⟨_, PySem.W.mg_of X G q_PLACES, _, rfl⟩, ⟨_, PySem.W.mg_of X G q_ROUND, _, rfl⟩⟩
  have D_law_hand := d_law_hand B (fun_mk (st := s_law_hand) l_law_hand c_law_hand k_law_hand) (PySem.W.mg_of X G a_law_hand)
  have D_is_integer := d_is_integer B (fun_mk (st := s_is_integer) l_is_integer c_is_integer k_is_integer) (PySem.W.mg_of X G a_is_integer)
  have D_is_within := d_is_within B D_is_integer (fun_mk (st := s_is_within) l_is_within c_is_within k_is_within) (PySem.W.mg_of X G a_is_within)
  have D_is_bound := d_is_bound B D_is_within (fun_mk (st := s_is_bound) l_is_bound c_is_bound k_is_bound) (PySem.W.mg_of X G a_is_bound)
  have D_check_bounds := d_check_bounds B D_is_within D_is_bound (fun_mk (st := s_check_bounds) l_check_bounds c_check_bounds k_check_bounds) (PySem.W.mg_of X G a_check_bounds)
  have D_all_bounds := d_all_bounds B (fun_mk (st := s_all_bounds) l_all_bounds c_all_bounds k_all_bounds) (PySem.W.mg_of X G a_all_bounds)
  have D_settled_places := d_settled_places B (fun_mk (st := s_settled_places) l_settled_places c_settled_places k_settled_places) (PySem.W.mg_of X G a_settled_places)
  have D_round_behind := d_round_behind B (fun_mk (st := s_round_behind) l_round_behind c_round_behind k_round_behind) (PySem.W.mg_of X G a_round_behind)
  have D_raw_places := d_raw_places B D_all_bounds D_settled_places D_round_behind (fun_mk (st := s_raw_places) l_raw_places c_raw_places k_raw_places) (PySem.W.mg_of X G a_raw_places)
  have D_least_places := d_least_places B D_check_bounds D_raw_places (fun_mk (st := s_least_places) l_least_places c_least_places k_least_places) (PySem.W.mg_of X G a_least_places)
  have D_check_ends := d_check_ends B D_is_within (fun_mk (st := s_check_ends) l_check_ends c_check_ends k_check_ends) (PySem.W.mg_of X G a_check_ends)
  have D_farthest_from := d_farthest_from B D_all_bounds (fun_mk (st := s_farthest_from) l_farthest_from c_farthest_from k_farthest_from) (PySem.W.mg_of X G a_farthest_from)
  have D_surely := d_surely B D_least_places D_check_ends D_farthest_from (fun_mk (st := s_surely) l_surely c_surely k_surely) (PySem.W.mg_of X G a_surely)
  have D_can_be_near := d_can_be_near B D_least_places D_check_ends D_is_integer D_farthest_from (fun_mk (st := s_can_be_near) l_can_be_near c_can_be_near k_can_be_near) (PySem.W.mg_of X G a_can_be_near)
  have D_law_draw := d_law_draw B (fun_mk (st := s_law_draw) l_law_draw c_law_draw k_law_draw) (PySem.W.mg_of X G a_law_draw)
  have D_law_any := d_law_any B D_law_draw (fun_mk (st := s_law_any) l_law_any c_law_any k_law_any) (PySem.W.mg_of X G a_law_any)
  have D_law_bounds := d_law_bounds B D_law_draw D_law_any (fun_mk (st := s_law_bounds) l_law_bounds c_law_bounds k_law_bounds) (PySem.W.mg_of X G a_law_bounds)
  have D_law_all_bounds := d_law_all_bounds B (fun_mk (st := s_law_all_bounds) l_law_all_bounds c_law_all_bounds k_law_all_bounds) (PySem.W.mg_of X G a_law_all_bounds)
  have D_law_least := d_law_least B D_law_all_bounds (fun_mk (st := s_law_least) l_law_least c_law_least k_law_least) (PySem.W.mg_of X G a_law_least)
  have D_law_far := d_law_far B D_law_all_bounds (fun_mk (st := s_law_far) l_law_far c_law_far k_law_far) (PySem.W.mg_of X G a_law_far)
  have D_places_shown := d_places_shown B D_check_bounds D_raw_places (fun_mk (st := s_places_shown) l_places_shown c_places_shown k_places_shown) (PySem.W.mg_of X G a_places_shown)
  have D_law_is_pair_right := d_law_is_pair_right B D_surely D_law_draw D_law_any D_can_be_near D_places_shown (fun_mk (st := s_law_is_pair_right) l_law_is_pair_right c_law_is_pair_right k_law_is_pair_right) (PySem.W.mg_of X G a_law_is_pair_right)
  have D_law := d_law B D_law_hand D_surely D_can_be_near D_law_draw D_law_bounds D_law_least D_law_far D_law_is_pair_right (fun_mk (st := s_law) l_law c_law k_law) (PySem.W.mg_of X G a_law)
  exact D_law
end L2.K55
namespace L2.K55
open PySem PySem.Spec PyProof.Rows L2.DL L2.BF

theorem lcD_map {vs : List Nat} {tg : Tg} {el : M Rv} {ds : List D} (f : D → D) (Q : En → Prop) (hz : ds.length ≤ sizeLine) (hs : ∀ d ∈ ds, ∀ ρ, Q ρ → ∃ ρ1, bindT tg d (wipeE ρ vs) = some ρ1 ∧ ∃ r ρ3 ρ4, el ρ1 = some (.ok r ρ3) ∧ fz1 r ρ3 = some (f d, ρ4) ∧ Q ρ4) {ρ : En} (h0 : Q ρ) :
    ∃ ρ', lcD vs tg tYesM el ds [] ρ = some (.ok (ds.map f) ρ') ∧ Q ρ' := by
  have step : ∀ i d acc ρ, ds[i]? = some d → (Q ρ ∧ acc = (ds.take i).map f) → ∃ ρ1, bindT tg d (wipeE ρ vs) = some ρ1 ∧ ((∃ ρ2 r ρ3 x ρ4, tYesM ρ1 = some (.ok true ρ2) ∧ el ρ2 = some (.ok r ρ3) ∧ fz1 r ρ3 = some (x, ρ4) ∧ (Q ρ4 ∧ acc ++ [x] = (ds.take (i + 1)).map f)) ∨ (∃ ρ2, tYesM ρ1 = some (.ok false ρ2) ∧ (Q ρ2 ∧ acc = (ds.take (i + 1)).map f))) := by
    rintro i d acc ρ hd ⟨hq, rfl⟩
    obtain ⟨ρ1, e1, r, ρ3, ρ4, e2, e3, h⟩ := hs d (List.mem_of_getElem? hd) ρ hq
    refine ⟨ρ1, e1, .inl ⟨ρ1, r, ρ3, f d, ρ4, rfl, e2, e3, h, ?_⟩⟩
    rw [List.take_succ, hd]; simp
  obtain ⟨acc, ρ', h1, ⟨h2, h3⟩, _⟩ := lcD_by (fun i acc ρ => Q ρ ∧ acc = (ds.take i).map f) hz step ⟨h0, by simp⟩
  rw [List.take_length] at h3
  subst h3
  exact ⟨ρ', h1, h2⟩
theorem mul2 (y : Int) : smallF 2 y = true := smallL (by decide) (by decide)

/-! ### bounds as data -/
def edD (e : Ed) : D := .tup [.int e.a, .int e.b, .int e.w]
def eds (E : List Ed) : List D := E.map edD
def triv (m : Nat) : List Ed := (List.range m).map fun i => ⟨2 * i, 2 * i + 1, 0⟩
@[simp] theorem eds_length {E : List Ed} : (eds E).length = E.length := by simp [eds]
theorem eds_get {E : List Ed} {i : Nat} {d : D} (h : (eds E)[i]? = some d) : ∃ e, E[i]? = some e ∧ d = edD e := by
  unfold eds at h
  rw [List.getElem?_map] at h
  cases e : E[i]? with
  | none => rw [e] at h; cases h
  | some x => rw [e] at h; cases h; exact ⟨x, rfl, rfl⟩
theorem mul_cast (m : Nat) : (2 : Int) * (m : Int) = ((2 * m : Nat) : Int) := by push_cast; rfl
theorem all_bounds_ok {m : Nat} {E : List Ed} (hm : m ≤ 9) (hE : E.length ≤ 41) : F_all_bounds [.im (.int m), .im (.tup (eds E))] = some (.ok (.im (.lst (eds (E ++ triv m)))) [.im (.int m), .im (.tup (eds E))]) := by
  obtain ⟨ρ', h1, x, h2⟩ := lcD_map (vs := [2]) (tg := .nm 2) (ds := nats m) (el := (xTup (xACons (xOp dMul (xC (.int 2)) (xVar 2)) (xACons (xOp dAdd (xOp dMul (xC (.int 2)) (xVar 2)) (xC (.int 1))) (xACons (xC (.int 0)) xANil)))))
    (fun d => match d with
      | .int i => .tup [.int (2 * i), .int (2 * i + 1), .int 0]
      | _ => .non) (fun ρ => ∃ x, ρ = [.im (.int m), .im (.tup (eds E)), x]) (by simp; exact Nat.le_trans hm (by decide)) (fun d hd ρ ⟨x, hx⟩ => by
      subst hx
      obtain ⟨i, _, rfl⟩ := List.mem_map.mp hd
      exact ⟨[.im (.int m), .im (.tup (eds E)), .im (.int i)], by simp, .im (.tup [.int (2 * i), .int (2 * i + 1), .int 0]), [.im (.int m), .im (.tup (eds E)), .im (.int i)], _, by simp [dMul_int, mul2], rfl, _, rfl⟩) (ρ := [.im (.int m), .im (.tup (eds E)), .un]) ⟨_, rfl⟩
  subst h2
  have e : (nats m).map (fun d => match d with
      | .int i => D.tup [.int (2 * i), .int (2 * i + 1), .int 0]
      | _ => .non) = eds (triv m) := by
    simp [nats, eds, triv, edD, Function.comp_def]
  rw [e] at h1
  have hz : E.length + m ≤ sizeLine := Nat.le_trans (show E.length + m ≤ 50 by omega) (by decide)
  have hz' : (eds E).length + (eds (triv m)).length ≤ sizeLine := by simp [triv]; exact hz
  have ea : dAdd (.lst (eds E)) (.lst (eds (triv m))) = some (.nl (eds (E ++ triv m))) := by
    simp only [dAdd, if_pos hz']
    simp [eds]
  unfold F_all_bounds
  rw [fnM_at]
  simp [b_all_bounds, rngD_nat, smallR_nat (show m ≤ 1000000 by omega), h1, ea]
theorem law_all : F_law_all_bounds = F_all_bounds := rfl

/-! ### checks -/
@[simp] theorem kit_ii : kitB "int" "int" = some true := by decide +kernel
@[simp] theorem kit_ib : kitB "int" "bool" = some false := by decide +kernel
@[simp] theorem kit_tt : kitB "tuple" "tuple" = some true := by decide +kernel
@[simp] theorem dTy_int {i : Int} : dTy (.int i) = some "int" := rfl
@[simp] theorem dTy_tup {i : List D} : dTy (.tup i) = some "tuple" := rfl
@[simp] theorem isint_ok {x : Int} : F_is_integer [.im (.int x)] = some (.ok (.im (.bl true)) [.im (.int x)]) := by
  unfold F_is_integer
  rw [fnM_at]
  simp [b_is_integer]
@[simp] theorem within_ok {x l h : Int} : F_is_within [.im (.int x), .im (.int l), .im (.int h)] = some (.ok (.im (.bl (decide (l ≤ x ∧ x ≤ h)))) [.im (.int x), .im (.int l), .im (.int h)]) := by
  unfold F_is_within
  rw [fnM_at]
  by_cases h1 : l ≤ x
  · simp [b_is_within, h1]
  · simp [b_is_within, h1]

structure Good (m : Nat) (W : Int) (e : Ed) : Prop where
  a : e.a < 2 * m
  b : e.b < 2 * m
  ne : e.a ≠ e.b
  lo : -W ≤ e.w
  hi : e.w ≤ W
theorem bls_all : ∀ (k : Nat), bls (List.replicate k (.bl true)) = some (List.replicate k true)
  | 0 => rfl
  | k + 1 => by
    rw [List.replicate_succ, List.replicate_succ]
    show (bls (List.replicate k (.bl true))).map (true :: ·) = _
    rw [bls_all k]; rfl
theorem fAll_rep {k : Nat} : fAll false [.lst (List.replicate k (.bl true))] = some (.pd (.bl true)) := by
  simp [fAll, bls_all]
theorem is_bound_ok {m : Nat} {e : Ed} (g : Good m 10000 e) : F_is_bound [.im (.int m), .im (edD e)] = some (.ok (.im (.bl true)) [.im (.int m), .im (edD e)]) := by
  obtain ⟨g1, g2, g3, g4, g5⟩ := g
  obtain ⟨ρ', h1, x, h2⟩ := lcD_map (vs := [2]) (tg := .nm 2) (ds := [D.int e.a, .int e.b]) (el := (xCall F_is_within (xACons (xVar 2) (xACons (xC (.int 0)) (xACons (xOp dSub (xOp dMul (xC (.int 2)) (xVar 0)) (xC (.int 1))) xANil)))))
    (fun d => .bl true) (fun ρ => ∃ x, ρ = [.im (.int m), .im (edD e), x]) (show 2 ≤ sizeLine by decide) (fun d hd ρ ⟨x, hx⟩ => by
      subst hx
      obtain ⟨k, rfl, hk⟩ : ∃ k : Nat, d = .int k ∧ k < 2 * m := by
        rcases List.mem_cons.mp hd with z | z
        · exact ⟨_, z, g1⟩
        · rcases List.mem_cons.mp z with z | z
          · exact ⟨_, z, g2⟩
          · cases z
      have hk' : (k : Int) ≤ 2 * (m : Int) - 1 := by omega
      exact ⟨[.im (.int m), .im (edD e), .im (.int k)], by simp, .im (.bl true), [.im (.int m), .im (edD e), .im (.int k)], _, by simp [dMul_int, mul2, hk'], rfl, _, rfl⟩) (ρ := [.im (.int m), .im (edD e), .un]) ⟨_, rfl⟩
  subst h2
  have es : dSl none (some 2) (edD e) = some (.pd (.tup [.int e.a, .int e.b])) := by
    show some (Dr.pd (.tup (cutD _ none (some ((2 : Nat) : Int))))) = _
    rw [cutD_take]; rfl
  have ea : fAll false [.lst [.bl true, .bl true]] = some (.pd (.bl true)) := fAll_rep (k := 2)
  have hne : ¬ ((e.a : Int) = (e.b : Int)) := by omega
  unfold F_is_bound
  rw [fnM_at]
  have t1 : dTy (edD e) = some "tuple" := rfl
  have t2 : fLen [edD e] = some (.pd (.int 3)) := rfl
  have t3 : dIx (edD e) (.int 0) = some (.pd (.int e.a)) := dIx_t0
  have t4 : dIx (edD e) (.int 1) = some (.pd (.int e.b)) := dIx_t1
  have t5 : dIx (edD e) (.int 2) = some (.pd (.int e.w)) := dIx_t2
  have c1 : -10000 ≤ e.w := g4
  have c2 : e.w ≤ 10000 := g5
  simp [b_is_bound, t1, t2, t3, t4, t5, es, h1, ea, hne, c1, c2]
theorem check_bounds_ok {m : Nat} {E : List Ed} (h0 : 1 ≤ m) (hm : m ≤ 9) (hE : E.length ≤ 40) (hg : ∀ e ∈ E, Good m 10000 e) : F_check_bounds [.im (.int m), .im (.tup (eds E))] = some (.ok (.im .non) [.im (.int m), .im (.tup (eds E))]) := by
  obtain ⟨ρ', h1, x, h2⟩ := lcD_map (vs := [2]) (tg := .nm 2) (ds := eds E) (el := (xCall F_is_bound (xACons (xVar 0) (xACons (xVar 2) xANil))))
    (fun d => .bl true) (fun ρ => ∃ x, ρ = [.im (.int m), .im (.tup (eds E)), x]) (by simp; exact Nat.le_trans hE (by decide)) (fun d hd ρ ⟨x, hx⟩ => by
      subst hx
      obtain ⟨e, he, rfl⟩ := List.mem_map.mp hd
      exact ⟨[.im (.int m), .im (.tup (eds E)), .im (edD e)], by simp, .im (.bl true), [.im (.int m), .im (.tup (eds E)), .im (edD e)], _, by simp [is_bound_ok (hg e he)], rfl, _, rfl⟩) (ρ := [.im (.int m), .im (.tup (eds E)), .un]) ⟨_, rfl⟩
  subst h2
  have er : (eds E).map (fun _ => D.bl true) = List.replicate E.length (.bl true) := by
    rw [List.map_const']; simp
  rw [er] at h1
  have c1 : (1 : Int) ≤ m := by omega
  have c2 : (m : Int) ≤ 9 := by omega
  have c3 : ¬ (40 : Int) < (E.length : Int) := by omega
  unfold F_check_bounds
  rw [fnM_at]
  simp [b_check_bounds, c1, c2, c3, h1, fAll_rep]
end L2.K55
namespace L2.K55
open PySem PySem.Spec PyProof.Rows L2.DL L2.BF

/-! ### rows of numbers as vectors -/
def vI (p : List Int) : Vc := fun v => p[v]?
theorem vI_hit {p : List Int} {e : Ed} {pa pb : Int} (ha : p[e.a]? = some pa) (hb : p[e.b]? = some pb) : hit e (vI p) = decide (pb < pa + e.w) := by
  unfold hit vI
  rw [ha, hb]; rfl
theorem vI_set {p : List Int} {e : Ed} {pa : Int} (ha : p[e.a]? = some pa) (hb : e.b < p.length) (h : hit e (vI p) = true) : rx e (vI p) = vI (p.set e.b (pa + e.w)) := by
  rw [rx_hit h]
  funext v
  unfold vI
  rw [ha]
  by_cases q : v = e.b
  · subst q; rw [if_pos rfl, List.getElem?_set_self hb]; rfl
  · rw [if_neg q, List.getElem?_set_ne (Ne.symm q)]
theorem pass_snoc (e : Ed) : ∀ (E : List Ed) (x : Vc), pass (E ++ [e]) x = rx e (pass E x)
  | [], x => rfl
  | d :: E, x => pass_snoc e E (rx d x)
theorem pass_take {E : List Ed} {i : Nat} {e : Ed} {x : Vc} (h : E[i]? = some e) : pass (E.take (i + 1)) x = rx e (pass (E.take i) x) := by
  rw [List.take_succ, h]; exact pass_snoc e _ _
/-- the number of the bound, or None -/
def nD : Option Nat → D
  | none => .non
  | some j => .int j
def nds (l : List (Option Nat)) : List D := l.map nD
@[simp] theorem nds_length {l : List (Option Nat)} : (nds l).length = l.length := by simp [nds]
theorem nds_set {l : List (Option Nat)} {i j : Nat} : (nds l).set i (.int j) = nds (l.set i (some j)) := by simp [nds, List.map_set, nD]
def gR (l : List (Option Nat)) : Nat → Option Nat := fun v => (l[v]?).getD none
theorem gR_set {l : List (Option Nat)} {b j : Nat} (hb : b < l.length) : gR (l.set b (some j)) = fun u => if u = b then some j else gR l u := by
  funext v
  unfold gR
  by_cases q : v = b
  · subst q; rw [if_pos rfl, List.getElem?_set_self hb]; rfl
  · rw [if_neg q, List.getElem?_set_ne (Ne.symm q)]
/-- what stands between two bounds of a pass -/
structure Mid (E : List Ed) (n k i : Nat) (x0 : Vc) (p : List Int) (rs : List (Option Nat)) (r : Nat → Nat) (last : Option Nat) : Prop where
  lp : p.length = n
  lr : rs.length = n
  cur : vI p = pass (E.take i) x0
  inv : BInv E k i (vI p) (gR rs) r
  last : (last = none ∧ vI p = x0) ∨ ∃ v, last = some v ∧ v < n ∧ k ≤ r v ∧ ¬ le (vI p) x0
theorem mid_step {E : List Ed} {n k i : Nat} {x0 : Vc} {p : List Int} {rs : List (Option Nat)} {r : Nat → Nat} {last : Option Nat} {e : Ed} {pa pb : Int} (M : Mid E n k i x0 p rs r last) (hk : 1 ≤ k) (he : E[i]? = some e) (hb : e.b < n) (hne : e.a ≠ e.b) (ha : p[e.a]? = some pa) (hb' : p[e.b]? = some pb) :
    if pb < pa + e.w then ∃ r', Mid E n k (i + 1) x0 (p.set e.b (pa + e.w)) (rs.set e.b (some i)) r' (some e.b) else Mid E n k (i + 1) x0 p rs r last := by
  have hh := vI_hit ha hb'
  have st := inv_step hk M.inv he hne
  have base : le x0 (vI p) := by rw [M.cur]; exact pass_le _ _
  by_cases q : pb < pa + e.w
  · rw [if_pos q]
    have h1 : hit e (vI p) = true := by rw [hh]; simpa using q
    have lb : e.b < p.length := by rw [M.lp]; exact hb
    rw [h1, vI_set ha lb h1] at st
    have g2 : sw true e.b (some i) (gR rs) = gR (rs.set e.b (some i)) := by
      rw [gR_set (by rw [M.lr]; exact hb)]; rfl
    rw [g2] at st
    refine ⟨sw true e.b k r, by simp [M.lp], by simp [M.lr], ?_, st, .inr ⟨e.b, rfl, hb, ?_, fun z => ?_⟩⟩
    · rw [pass_take he, ← M.cur, vI_set ha lb h1]
    · show k ≤ (if e.b = e.b then k else r e.b)
      rw [if_pos rfl]; exact Nat.le_refl _
    · have z1 := z e.b
      have z2 := base e.b
      have z3 : vI (p.set e.b (pa + e.w)) e.b = some (pa + e.w) := List.getElem?_set_self lb
      rw [z3] at z1
      have z4 := ole_trans z1 z2
      have z5 : vI p e.b = some pb := hb'
      rw [z5] at z4
      have z4 : pa + e.w ≤ pb := z4
      omega
  · rw [if_neg q]
    have h1 : hit e (vI p) = false := by rw [hh]; simpa using q
    rw [h1, rx_miss h1] at st
    refine ⟨M.lp, M.lr, ?_, st, M.last⟩
    rw [pass_take he, ← M.cur, rx_miss h1]
def lD : Option Nat → D
  | none => .non
  | some j => .int j
/-- one pass of the program -/
theorem settle_pass {E : List Ed} {n k : Nat} {W : Int} {x0 : Vc} {m : Nat} (hn : n = 2 * m) (hg : ∀ e ∈ E, Good m W e) (hk : 1 ≤ k) {p : List Int} {rs : List (Option Nat)} {r : Nat → Nat} (M : Mid E n k 0 x0 p rs r none) (s5 : Sl) (s6 s7 s8 s9 : Sl) (h5 : isPar (some s5) = false ∧ isPar (some s6) = false ∧ isPar (some s7) = false ∧ isPar (some s8) = false ∧ isPar (some s9) = false) :
    ∃ p' rs' r' last t6 t7 t8 t9, forD (.tp [(.nm 6), (.tp [(.nm 7), (.nm 8), (.nm 9)])]) (sIf (xB (xOp dLt (xOp dIx (xVar 2) (xVar 8)) (xOp dAdd (xOp dIx (xVar 2) (xVar 7)) (xVar 9)))) (sSeq (sSetI 2 (xVar 8) (xOp dAdd (xOp dIx (xVar 2) (xVar 7)) (xVar 9))) (sSeq (sSetI 3 (xVar 8) (xVar 6)) (sSet 4 (xVar 8)))) sSkip)
      ((eds E).mapIdx fun i d => .tup [.int i, d]) [.im (.int m), .im (.lst (eds E)), .ow false (.lst (dints p)), .ow false (.lst (nds rs)), .im .non, s5, s6, s7, s8, s9] = some (.nx [.im (.int m), .im (.lst (eds E)), .ow false (.lst (dints p')), .ow false (.lst (nds rs')), .im (lD last), s5, t6, t7, t8, t9]) ∧
      Mid E n k E.length x0 p' rs' r' last ∧ isPar (some t6) = false ∧ isPar (some t7) = false ∧ isPar (some t8) = false ∧ isPar (some t9) = false := by
  obtain ⟨ρ', h1, h2⟩ := forD_all (tg := .tp [(.nm 6), (.tp [(.nm 7), (.nm 8), (.nm 9)])]) (b := (sIf (xB (xOp dLt (xOp dIx (xVar 2) (xVar 8)) (xOp dAdd (xOp dIx (xVar 2) (xVar 7)) (xVar 9)))) (sSeq (sSetI 2 (xVar 8) (xOp dAdd (xOp dIx (xVar 2) (xVar 7)) (xVar 9))) (sSeq (sSetI 3 (xVar 8) (xVar 6)) (sSet 4 (xVar 8)))) sSkip)) (ds := ((eds E).mapIdx fun i d => D.tup [.int i, d]))
    (fun i ρ => ∃ p' rs' r' last t6 t7 t8 t9, ρ = [.im (.int m), .im (.lst (eds E)), .ow false (.lst (dints p')), .ow false (.lst (nds rs')), .im (lD last), s5, t6, t7, t8, t9] ∧ Mid E n k i x0 p' rs' r' last ∧ isPar (some t6) = false ∧ isPar (some t7) = false ∧ isPar (some t8) = false ∧ isPar (some t9) = false) (by
    rintro i d ρ hd ⟨p', rs', r', last, t6, t7, t8, t9, rfl, M', q6, q7, q8, q9⟩
    rw [List.getElem?_mapIdx] at hd
    cases e0 : (eds E)[i]? with
    | none => rw [e0] at hd; cases hd
    | some d0 =>
      rw [e0] at hd; cases hd
      obtain ⟨e, he, rfl⟩ := eds_get e0
      have g := hg e (List.mem_of_getElem? he)
      have ha : e.a < p'.length := by rw [M'.lp, hn]; exact g.a
      have hb : e.b < p'.length := by rw [M'.lp, hn]; exact g.b
      have hb2 : e.b < rs'.length := by rw [M'.lr, hn]; exact g.b
      have ea : p'[e.a]? = some p'[e.a] := List.getElem?_eq_getElem ha
      have eb : p'[e.b]? = some p'[e.b] := List.getElem?_eq_getElem hb
      have da : dIx (.lst (dints p')) (.int e.a) = some (.pd (.int p'[e.a])) := dIx_lst (by rw [dints_get, ea]; rfl)
      have db : dIx (.lst (dints p')) (.int e.b) = some (.pd (.int p'[e.b])) := dIx_lst (by rw [dints_get, eb]; rfl)
      have x1 : ixN p'.length (e.b : Int) = some e.b := ixN_nat hb
      have x2 : ixN rs'.length (e.b : Int) = some e.b := ixN_nat hb2
      have st := mid_step M' hk he (by rw [hn]; exact g.b) g.ne ea eb
      refine ⟨[.im (.int m), .im (.lst (eds E)), .ow false (.lst (dints p')), .ow false (.lst (nds rs')), .im (lD last), s5, .im (.int i), .im (.int e.a), .im (.int e.b), .im (.int e.w)], by simp [edD, q6, q7, q8, q9], ?_⟩
      by_cases q : p'[e.b] < p'[e.a] + e.w
      · rw [if_pos q] at st
        obtain ⟨r2, st⟩ := st
        refine ⟨_, .inl (by simp [da, db, q, x1, x2]; rfl), p'.set e.b (p'[e.a] + e.w), rs'.set e.b (some i), r2, some e.b, .im (.int i), .im (.int e.a), .im (.int e.b), .im (.int e.w), ?_, st, rfl, rfl, rfl, rfl⟩
        simp [dints_set, nds_set, lD]
      · rw [if_neg q] at st
        exact ⟨_, .inl (by simp [da, db, q]), p', rs', r', last, .im (.int i), .im (.int e.a), .im (.int e.b), .im (.int e.w), rfl, st, rfl, rfl, rfl, rfl⟩)
    (ρ := [.im (.int m), .im (.lst (eds E)), .ow false (.lst (dints p)), .ow false (.lst (nds rs)), .im .non, s5, s6, s7, s8, s9]) ⟨p, rs, r, none, s6, s7, s8, s9, rfl, M, h5.2.1, h5.2.2.1, h5.2.2.2.1, h5.2.2.2.2⟩
  obtain ⟨p', rs', r', last, t6, t7, t8, t9, rfl, M', q⟩ := h2
  rw [List.length_mapIdx, eds_length] at M'
  exact ⟨p', rs', r', last, t6, t7, t8, t9, h1, M', q⟩
end L2.K55
namespace L2.K55
open PySem PySem.Spec PyProof.Rows L2.DL L2.BF

def z0 (n : Nat) : Vc := vI (List.replicate n 0)
def Plain (s : Sl) : Prop := isPar (some s) = false
@[simp] theorem lD_isN {l : Option Nat} : isN (lD l) = l.isNone := by cases l <;> rfl
theorem rep_lst {d : D} {n : Nat} (hn : n ≤ 1000000) : dMul (.lst [d]) (.int (n : Nat)) = some (.nl (List.replicate n d)) := by
  have h1 : (n : Int) ≤ 1000000 ∧ [d].length * ((n : Int)).toNat ≤ sizeLine ∧ -(2 ^ 63 : Int) ≤ (n : Int) := by
    refine ⟨by omega, ?_, by omega⟩
    simp
    exact Nat.le_trans hn (by decide)
  simp only [dMul, if_pos h1]
  simp
theorem iRg1_ok {a : M (List Rv)} {ρ ρ1 : En} {k : Nat} (h : a ρ = some (.ok [.im (.int (k : Int))] ρ1)) (hk : k ≤ 1000000) : iRg1 a ρ = some (.ok (nats k) ρ1) := by
  rw [iRg1_at, h, bnd_ok, derefs_cons, derefs_nil, deref_im]
  show (if smallR (k : Int) = true then _ else _) = _
  rw [if_pos (smallR_nat hk), rngD_nat]
structure Ends (E : List Ed) (n : Nat) (p : List Int) (rs : List (Option Nat)) (last : Option Nat) : Prop where
  lp : p.length = n
  lr : rs.length = n
  fit : last = none → Fe E (vI p) ∧ le (z0 n) (vI p)
  bad : ∀ v, last = some v → v < n ∧ (∃ k i r, BInv E k i (vI p) (gR rs) r ∧ n + 1 ≤ r v) ∧ ∀ u, Fe E u → ¬ le (z0 n) u
theorem settled_ok {m : Nat} {W : Int} {E : List Ed} (hm : m ≤ 9) (hg : ∀ e ∈ E, Good m W e) :
    ∃ p rs last, F_settled_places [.im (.int m), .im (.lst (eds E))] = some (.ok (.im (.tup [.lst (dints p), .lst (nds rs), lD last])) [.im (.int m), .im (.lst (eds E))]) ∧ Ends E (2 * m) p rs last := by
  generalize hn : 2 * m = n
  have hEb : ∀ e ∈ E, e.b < n := fun e he => by have := (hg e he).b; omega
  have hn' : n = 2 * m := hn.symm
  have zl : (List.replicate n (0 : Int)).length = n := List.length_replicate
  have pl : ∀ {s : Sl}, Plain s → isPar (some s) = false := fun h => h
  obtain ⟨s, h1, h2⟩ := forD_by (tg := .nm 5) (ds := nats (n + 1)) (b := (sSeq (sSet 4 (xC .non)) (sSeq (sFor (.tp [(.nm 6), (.tp [(.nm 7), (.nm 8), (.nm 9)])]) (iEn (xACons (xVar 1) xANil)) (sIf (xB (xOp dLt (xOp dIx (xVar 2) (xVar 8)) (xOp dAdd (xOp dIx (xVar 2) (xVar 7)) (xVar 9)))) (sSeq (sSetI 2 (xVar 8) (xOp dAdd (xOp dIx (xVar 2) (xVar 7)) (xVar 9))) (sSeq (sSetI 3 (xVar 8) (xVar 6)) (sSet 4 (xVar 8)))) sSkip)) (sIf (xB (xIsN false (xVar 4))) sBrk sSkip))))
    (fun t ρ => ∃ p rs r last t5 t6 t7 t8 t9, ρ = [.im (.int m), .im (.lst (eds E)), .ow false (.lst (dints p)), .ow false (.lst (nds rs)), .im (lD last), t5, t6, t7, t8, t9] ∧ (Plain t5 ∧ Plain t6 ∧ Plain t7 ∧ Plain t8 ∧ Plain t9) ∧ p.length = n ∧ rs.length = n ∧ vI p = it E (z0 n) t ∧ BInv E (t + 1) 0 (vI p) (gR rs) r ∧ (t = 0 ∨ ∃ v, last = some v ∧ v < n ∧ t ≤ r v ∧ ¬ le (it E (z0 n) t) (it E (z0 n) (t - 1))))
    (fun s => ∃ p rs t5 t6 t7 t8 t9, s = .nx [.im (.int m), .im (.lst (eds E)), .ow false (.lst (dints p)), .ow false (.lst (nds rs)), .im (lD none), t5, t6, t7, t8, t9] ∧ p.length = n ∧ rs.length = n ∧ Fe E (vI p) ∧ le (z0 n) (vI p))
    (by
      rintro t d ρ hd ⟨p, rs, r, last, t5, t6, t7, t8, t9, rfl, ⟨q5, q6, q7, q8, q9⟩, lp, lr, hc, hi, _⟩
      obtain ⟨rfl, ht⟩ := nats_get hd
      have M : Mid E n (t + 1) 0 (it E (z0 n) t) p rs r none := ⟨lp, lr, hc, hi, .inl ⟨rfl, hc⟩⟩
      obtain ⟨p', rs', r', last', u6, u7, u8, u9, f1, M', u⟩ := settle_pass (W := W) hn' hg (Nat.succ_pos t) M (.im (.int t)) t6 t7 t8 t9 ⟨rfl, q6, q7, q8, q9⟩
      refine ⟨[.im (.int m), .im (.lst (eds E)), .ow false (.lst (dints p)), .ow false (.lst (nds rs)), .im (lD last), .im (.int t), t6, t7, t8, t9], by simp [pl q5], ?_⟩
      have full : vI p' = it E (z0 n) (t + 1) := by
        have := M'.cur
        rwa [List.take_length] at this
      cases last' with
      | none =>
        have fix : vI p' = it E (z0 n) t := by
          rcases M'.last with ⟨_, z⟩ | ⟨v, z, _⟩
          · exact z
          · cases z
        refine ⟨.bk [.im (.int m), .im (.lst (eds E)), .ow false (.lst (dints p')), .ow false (.lst (nds rs')), .im (lD none), .im (.int t), u6, u7, u8, u9], by simp [f1, lD, isN], .inr (.inl ⟨_, rfl, p', rs', .im (.int t), u6, u7, u8, u9, rfl, M'.lp, M'.lr, ?_, ?_⟩)⟩
        · rw [fix]
          exact fe_of_fix (full.symm.trans fix)
        · rw [fix]
          have := it_mono (E := E) (x := z0 n) (j := 0) t
          rwa [Nat.zero_add] at this
      | some v =>
        refine ⟨.nx [.im (.int m), .im (.lst (eds E)), .ow false (.lst (dints p')), .ow false (.lst (nds rs')), .im (lD (some v)), .im (.int t), u6, u7, u8, u9], by simp [f1, lD, isN], .inl ⟨_, .inl rfl, p', rs', r', some v, .im (.int t), u6, u7, u8, u9, rfl, ⟨rfl, u⟩, M'.lp, M'.lr, full, inv_next M'.inv, .inr ⟨v, rfl, ?_⟩⟩⟩
        rcases M'.last with ⟨z, _⟩ | ⟨w, z, w1, w2, w3⟩
        · cases z
        · cases z
          rw [full] at w3
          exact ⟨w1, w2, w3⟩)
    (ρ := [.im (.int m), .im (.lst (eds E)), .ow false (.lst (dints (List.replicate n 0))), .ow false (.lst (nds (List.replicate n none))), .im (lD none), .un, .un, .un, .un, .un])
    ⟨List.replicate n 0, List.replicate n none, fun _ => 0, none, .un, .un, .un, .un, .un, rfl, ⟨rfl, rfl, rfl, rfl, rfl⟩, zl, List.length_replicate, rfl, by
      have : gR (List.replicate n none) = fun _ => none := by
        funext v; unfold gR
        rw [List.getElem?_replicate]; split <;> rfl
      rw [this]; exact L2.BF.inv_start, .inl rfl⟩
  have e0 : (2 : Int) * (m : Int) = (n : Nat) := by omega
  have e1 : (n : Int) + 1 = ((n + 1 : Nat) : Int) := by omega
  have r0 : dMul (.lst [.int 0]) (.int (n : Nat)) = some (.nl (dints (List.replicate n 0))) := by
    rw [rep_lst (by omega)]; simp [dints]
  have r1 : dMul (.lst [.non]) (.int (n : Nat)) = some (.nl (nds (List.replicate n none))) := by
    rw [rep_lst (by omega)]; simp [nds, nD]
  have run : ∀ p rs last t5 t6 t7 t8 t9, s = .nx [.im (.int m), .im (.lst (eds E)), .ow false (.lst (dints p)), .ow false (.lst (nds rs)), .im (lD last), t5, t6, t7, t8, t9] → F_settled_places [.im (.int m), .im (.lst (eds E))] = some (.ok (.im (.tup [.lst (dints p), .lst (nds rs), lD last])) [.im (.int m), .im (.lst (eds E))]) := by
    rintro p rs last t5 t6 t7 t8 t9 rfl
    unfold F_settled_places
    rw [fnM_at]
    have h1' := h1
    rw [show lD none = D.non from rfl] at h1'
    have hz : n + 1 ≤ 1000000 := by omega
    have ha : (xACons (xOp dAdd (xOp dMul (xC (.int 2)) (xVar 0)) (xC (.int 1))) xANil) [.im (.int m), .im (.lst (eds E)), .ow false (.lst (dints (List.replicate n 0))), .ow false (.lst (nds (List.replicate n none))), .im .non, .un, .un, .un, .un, .un] = some (.ok [.im (.int ((n + 1 : Nat) : Int))] [.im (.int m), .im (.lst (eds E)), .ow false (.lst (dints (List.replicate n 0))), .ow false (.lst (nds (List.replicate n none))), .im .non, .un, .un, .un, .un, .un]) := by
      rw [← e1]
      simp [dMul_int, mul2, e0]
    have hr := iRg1_ok ha hz
    simp -implicitDefEqProofs [b_settled_places, -iRg1_at, dMul_int, mul2, e0, r0, r1, hr, h1']
  rcases h2 with ⟨ρ', rfl, p, rs, r, last, t5, t6, t7, t8, t9, rfl, _, lp, lr, hc, hi, hl⟩ | ⟨p, rs, t5, t6, t7, t8, t9, rfl, lp, lr, f1, f2⟩
  · rw [nats_length] at hl hc hi
    refine ⟨p, rs, last, run _ _ _ _ _ _ _ _ rfl, lp, lr, fun z => ?_, fun v z => ?_⟩
    · rcases hl with q | ⟨v, q, _⟩
      · omega
      · rw [z] at q; cases q
    · rcases hl with q | ⟨w, q, w1, w2, w3⟩
      · omega
      · rw [z] at q; cases q
        refine ⟨w1, ⟨_, _, r, hi, w2⟩, fun u fu lu => w3 ?_⟩
        have := conv hEb fu lu
        have := it_fix this 1
        rw [this]; exact le_refl _
  · exact ⟨p, rs, none, run _ _ _ _ _ _ _ _ rfl, lp, lr, fun _ => ⟨f1, f2⟩, fun v z => by cases z⟩
end L2.K55
namespace L2.K55
open PySem PySem.Spec PyProof.Rows L2.DL L2.BF

theorem nds_get {rs : List (Option Nat)} {v : Nat} {o : Option Nat} (h : rs[v]? = some o) : (nds rs)[v]? = some (nD o) := by simp [nds, h]
theorem nx_eval {E : List Ed} {n k i : Nat} {x : Vc} {rs : List (Option Nat)} {r : Nat → Nat} {v : Nat} (I : BInv E k i x (gR rs) r) (h : 1 ≤ r v) :
    ∃ (j : Nat) (e : Ed), dIx (.lst (nds rs)) (.int v) = some (.pd (.int j)) ∧ dIx (.lst (eds E)) (.int j) = some (.pd (edD e)) ∧ nxt E (gR rs) v = e.a := by
  obtain ⟨_, j, e, e1, e2, e3⟩ := nxt_r I h
  refine ⟨j, e, ?_, ?_, e3⟩
  · unfold gR at e1
    cases q : rs[v]? with
    | none => rw [q] at e1; cases e1
    | some o =>
      rw [q] at e1
      have e1 : o = some j := e1
      subst e1
      exact dIx_lst (nds_get q)
  · exact dIx_lst (by simp [eds, e2])
theorem edD0 {e : Ed} : dIx (edD e) (.int 0) = some (.pd (.int e.a)) := dIx_t0
def cW : M Bool := (xOr (xB (xOp dEq (xFn fLen (xACons (xVar 4) xANil)) (xC (.int 0)))) (xB (xOp dNe (xVar 5) (xVar 2))))
def bW : MS := (sSeq (sDrop (xLm 4 fAppend (xACons (xOp dIx (xVar 1) (xVar 5)) xANil))) (sSet 5 (xOp dIx (xOp dIx (xVar 0) (xOp dIx (xVar 1) (xVar 5))) (xC (.int 0)))))
theorem round_ok {E : List Ed} {m n k i : Nat} {x : Vc} {rs : List (Option Nat)} {r : Nat → Nat} {v : Nat} (hn : n = 2 * m) (hm : m ≤ 9) (lr : rs.length = n) (I : BInv E k i x (gR rs) r) (hE : ∀ e ∈ E, e.a < n) (hv : v < n) (hr : n + 1 ≤ r v) :
    ∃ fs, F_round_behind [.im (.lst (eds E)), .im (.lst (nds rs)), .im (.int v)] = some (.ok (.im (.tup fs)) [.im (.lst (eds E)), .im (.lst (nds rs)), .im (.int v)]) := by
  obtain ⟨pos, dd, d1, d2, d3⟩ := ring I hE hv hr
  generalize hf : nxt E (gR rs) = f at pos d3
  obtain ⟨ρ1, h1, t3, h2⟩ := forD_all (tg := .nm 3) (ds := nats n) (b := (sSet 2 (xOp dIx (xOp dIx (xVar 0) (xOp dIx (xVar 1) (xVar 2))) (xC (.int 0)))))
    (fun t ρ => ∃ t3, ρ = [.im (.lst (eds E)), .im (.lst (nds rs)), .im (.int (itn f t v : Nat)), t3, .un, .un] ∧ isPar (some t3) = false) (by
      rintro t d ρ hd ⟨t3, rfl, q⟩
      obtain ⟨rfl, ht⟩ := nats_get hd
      obtain ⟨j, e, a1, a2, a3⟩ := nx_eval (n := n) I (pos t)
      refine ⟨[.im (.lst (eds E)), .im (.lst (nds rs)), .im (.int (itn f t v : Nat)), .im (.int t), .un, .un], by simp [q], [.im (.lst (eds E)), .im (.lst (nds rs)), .im (.int e.a), .im (.int t), .un, .un], .inl (by simp -implicitDefEqProofs [a1, a2, edD0]), .im (.int t), ?_, rfl⟩
      have : itn f (t + 1) v = e.a := by
        show f (itn f t v) = _
        rw [← hf]; rw [← hf] at a3; exact a3
      rw [this])
    (ρ := [.im (.lst (eds E)), .im (.lst (nds rs)), .im (.int v), .un, .un, .un]) ⟨.un, rfl, rfl⟩
  obtain ⟨h2, q3⟩ := h2
  rw [nats_length] at h2
  subst h2
  generalize he0 : itn f n v = e0 at h1
  have pos' : ∀ t, 1 ≤ r (itn f t e0) := fun t => by rw [← he0, ← itn_add]; exact pos _
  have per : itn f dd e0 = e0 := by rw [← he0, ← itn_add]; exact d3
  have loop : ∀ (fuel : Nat) (a : Nat) (fs : List D), a ≤ dd → dd - a + 1 ≤ fuel → fs.length = a → ∃ fs' hr, whileD cW bW fuel [.im (.lst (eds E)), .im (.lst (nds rs)), .im (.int e0), t3, .ow false (.lst fs), .im (.int (itn f a e0 : Nat))] = some (.nx [.im (.lst (eds E)), .im (.lst (nds rs)), .im (.int e0), t3, .ow false (.lst fs'), .im (.int hr)]) := by
    intro fuel
    induction fuel with
    | zero => intro a fs _ h; omega
    | succ fuel ih =>
      intro a fs ha hfu hl
      obtain ⟨j, e, a1, a2, a3⟩ := nx_eval (n := n) I (pos' a)
      have a3' : itn f (a + 1) e0 = e.a := by
        show f (itn f a e0) = _
        rw [← hf]; rw [← hf] at a3; exact a3
      have hz : fs.length < sizeLine := Nat.lt_of_le_of_lt (show fs.length ≤ 18 by omega) (by decide)
      have body : bW [.im (.lst (eds E)), .im (.lst (nds rs)), .im (.int e0), t3, .ow false (.lst fs), .im (.int (itn f a e0 : Nat))] = some (.nx [.im (.lst (eds E)), .im (.lst (nds rs)), .im (.int e0), t3, .ow false (.lst (fs ++ [.int j])), .im (.int e.a)]) := by
        simp -implicitDefEqProofs [bW, a1, a2, edD0, fAppend_at hz]
      by_cases go : a = 0 ∨ itn f a e0 ≠ e0
      · have cond : cW [.im (.lst (eds E)), .im (.lst (nds rs)), .im (.int e0), t3, .ow false (.lst fs), .im (.int (itn f a e0 : Nat))] = some (.ok true [.im (.lst (eds E)), .im (.lst (nds rs)), .im (.int e0), t3, .ow false (.lst fs), .im (.int (itn f a e0 : Nat))]) := by
          by_cases z : a = 0
          · have : fs = [] := List.length_eq_zero_iff.mp (by omega)
            subst this
            simp -implicitDefEqProofs [cW]
          · have nz : ¬ ((fs.length : Int) = 0) := by omega
            have ne : ¬ ((itn f a e0 : Nat) : Int) = (e0 : Int) := by
              rcases go with g | g
              · exact absurd g z
              · omega
            simp -implicitDefEqProofs [cW, ne, hl, z]
        have lt : a < dd := by
          rcases go with g | g
          · omega
          · rcases Nat.lt_or_ge a dd with q | q
            · exact q
            · have : a = dd := by omega
              subst this; exact absurd per g
        obtain ⟨fs', hr', w⟩ := ih (a + 1) (fs ++ [.int j]) lt (by omega) (by simp [hl])
        refine ⟨fs', hr', ?_⟩
        rw [a3'] at w
        simp only [whileD, cond, sbn_ok, body, if_true]
        exact w
      · have g1 : a ≠ 0 := fun z => go (.inl z)
        have g2 : itn f a e0 = e0 := Classical.byContradiction fun z => go (.inr z)
        have nz : ¬ ((fs.length : Int) = 0) := by omega
        refine ⟨fs, (itn f a e0 : Nat), ?_⟩
        have cond : cW [.im (.lst (eds E)), .im (.lst (nds rs)), .im (.int e0), t3, .ow false (.lst fs), .im (.int (itn f a e0 : Nat))] = some (.ok false [.im (.lst (eds E)), .im (.lst (nds rs)), .im (.int e0), t3, .ow false (.lst fs), .im (.int (itn f a e0 : Nat))]) := by
          simp -implicitDefEqProofs [cW, g2, hl, g1]
        simp only [whileD, cond, sbn_ok, if_neg Bool.false_ne_true]
  obtain ⟨fs', hr', w⟩ := loop FU 0 [] (Nat.zero_le _) (Nat.le_trans (show dd - 0 + 1 ≤ 19 by omega) (by decide)) rfl
  refine ⟨fs'.reverse, ?_⟩
  unfold F_round_behind
  rw [fnM_at]
  have ha : (xACons (xFn fLen (xACons (xVar 1) xANil)) xANil) [.im (.lst (eds E)), .im (.lst (nds rs)), .im (.int v), .un, .un, .un] = some (.ok [.im (.int (n : Nat))] [.im (.lst (eds E)), .im (.lst (nds rs)), .im (.int v), .un, .un, .un]) := by
    simp -implicitDefEqProofs [lr]
  have hz : n ≤ 1000000 := by omega
  have hr2 := iRg1_ok ha hz
  have w' : whileD cW bW FU [.im (.lst (eds E)), .im (.lst (nds rs)), .im (.int e0), t3, .ow false (.lst []), .im (.int e0)] = _ := w
  unfold cW bW at w'
  simp -implicitDefEqProofs [b_round_behind, -iRg1_at, hr2, h1, w', he0]
end L2.K55
namespace L2.K55
open PySem PySem.Spec PyProof.Rows L2.DL L2.BF

theorem good_all {m : Nat} {W : Int} {E : List Ed} (hW : 0 ≤ W) (hg : ∀ e ∈ E, Good m W e) : ∀ e ∈ E ++ triv m, Good m W e := fun e he => by
  rcases List.mem_append.mp he with h | h
  · exact hg e h
  · obtain ⟨i, hi, rfl⟩ := List.mem_map.mp h
    have := List.mem_range.mp hi
    exact ⟨by show 2 * i < 2 * m; omega, by show 2 * i + 1 < 2 * m; omega, by show 2 * i ≠ 2 * i + 1; omega, by show -W ≤ 0; omega, hW⟩
def feas (m : Nat) (E : List Ed) : Prop := ∃ z, Fe (E ++ triv m) z ∧ le (z0 (2 * m)) z
theorem raw_ok {m : Nat} {W : Int} {E : List Ed} (hm : m ≤ 9) (hE : E.length ≤ 41) (hW : 0 ≤ W) (hg : ∀ e ∈ E, Good m W e) :
    ∃ w x, F_raw_places [.im (.int m), .im (.tup (eds E))] = some (.ok (.im (.tup [.str w, x])) [.im (.int m), .im (.tup (eds E))]) ∧ ((w = "places" ∧ feas m E) ∨ (w = "round" ∧ ¬ feas m E)) := by
  obtain ⟨p, rs, last, h1, en⟩ := settled_ok hm (good_all hW hg)
  have ab := all_bounds_ok hm hE
  cases last with
  | none =>
    refine ⟨"places", .tup (dints p), ?_, .inl ⟨rfl, vI p, en.fit rfl⟩⟩
    unfold F_raw_places
    rw [fnM_at]
    simp -implicitDefEqProofs [b_raw_places, ab, h1, lD]
  | some v =>
    obtain ⟨b1, ⟨k, i, r, I, hr⟩, b3⟩ := en.bad v rfl
    obtain ⟨fs, h2⟩ := round_ok rfl hm en.lr I (fun e he => (good_all hW hg e he).a) b1 hr
    refine ⟨"round", .tup fs, ?_, .inr ⟨rfl, fun ⟨z, fz, lz⟩ => b3 z fz lz⟩⟩
    unfold F_raw_places
    rw [fnM_at]
    simp -implicitDefEqProofs [b_raw_places, ab, h1, lD, h2]
theorem shown_ok {m : Nat} {E : List Ed} (h0 : 1 ≤ m) (hm : m ≤ 9) (hE : E.length ≤ 40) (hg : ∀ e ∈ E, Good m 10000 e) :
    ∃ w x, F_places_shown [.im (.int m), .im (.tup (eds E))] = some (.ok (.im (.tup [.str w, x])) [.im (.int m), .im (.tup (eds E))]) ∧ ((w = "places" ∧ feas m E) ∨ (w = "round" ∧ ¬ feas m E)) := by
  obtain ⟨w, x, h, q⟩ := raw_ok hm (by omega) (by decide) hg
  refine ⟨w, x, ?_, q⟩
  unfold F_places_shown
  rw [fnM_at]
  simp -implicitDefEqProofs [b_places_shown, check_bounds_ok h0 hm hE hg, h]
theorem sh_pl : SeqAt.shaped (.str (PySem.Str.ofString "places")) = true := by decide +kernel
theorem sh_ro : SeqAt.shaped (.str (PySem.Str.ofString "round")) = true := by decide +kernel
theorem q_pl : ((PySem.Str.ofString "places") == (PySem.Str.ofString "places")) = true := by decide +kernel
theorem q_ro : ((PySem.Str.ofString "round") == (PySem.Str.ofString "places")) = false := by decide +kernel
theorem ne_pl : dNe (.str "places") (.str "places") = some (.pd (.bl false)) := by rw [dNe_str sh_pl sh_pl, q_pl]; rfl
theorem eq_pl : dEq (.str "places") (.str "places") = some (.pd (.bl true)) := by rw [dEq_str sh_pl sh_pl, q_pl]
theorem eq_ro : dEq (.str "round") (.str "places") = some (.pd (.bl false)) := by rw [dEq_str sh_ro sh_pl, q_ro]
theorem least_ok {m : Nat} {E : List Ed} (h0 : 1 ≤ m) (hm : m ≤ 9) (hE : E.length ≤ 40) (hg : ∀ e ∈ E, Good m 10000 e) (hf : feas m E) :
    ∃ x, F_least_places [.im (.int m), .im (.tup (eds E))] = some (.ok (.im x) [.im (.int m), .im (.tup (eds E))]) := by
  obtain ⟨w, x, h, q⟩ := raw_ok hm (by omega) (by decide) hg
  rcases q with ⟨rfl, _⟩ | ⟨_, q⟩
  · refine ⟨x, ?_⟩
    unfold F_least_places
    rw [fnM_at]
    simp -implicitDefEqProofs [b_least_places, check_bounds_ok h0 hm hE hg, h, ne_pl]
  · exact absurd hf q
theorem ends_ok {m s t : Nat} (hs : s < 2 * m) (ht : t < 2 * m) : F_check_ends [.im (.int m), .im (.int s), .im (.int t)] = some (.ok (.im .non) [.im (.int m), .im (.int s), .im (.int t)]) := by
  unfold F_check_ends
  rw [fnM_at]
  have c1 : (s : Int) ≤ 2 * (m : Int) - 1 := by omega
  have c2 : (t : Int) ≤ 2 * (m : Int) - 1 := by omega
  simp -implicitDefEqProofs [b_check_ends, forD, dMul_int, mul2, c1, c2]
@[simp] theorem putS_al {i j : Nat} {ρ : En} : putS i (.al j) ρ = if isPar ρ[i]? = true ∨ ρ.length ≤ i then none else if j = i then some ρ else match ρ[j]? with
    | some (.im d) => some (ρ.set i (.im d))
    | some (.ow false ob) => some ((ρ.set j .un).set i (.ow false ob))
    | _ => none := rfl

/-! ### rows with None -/
def oD : Option Int → D
  | none => .non
  | some i => .int i
def ods (l : List (Option Int)) : List D := l.map oD
@[simp] theorem ods_length {l : List (Option Int)} : (ods l).length = l.length := by simp [ods]
theorem ods_get {l : List (Option Int)} {v : Nat} {o : Option Int} (h : l[v]? = some o) : (ods l)[v]? = some (oD o) := by simp [ods, h]
theorem ods_set {l : List (Option Int)} {i : Nat} {x : Int} : (ods l).set i (.int x) = ods (l.set i (some x)) := by simp [ods, List.map_set, oD]
def vO (l : List (Option Int)) : Vc := fun v => (l[v]?).getD none
theorem vO_at {l : List (Option Int)} {v : Nat} {o : Option Int} (h : l[v]? = some o) : vO l v = o := by unfold vO; rw [h]; rfl
theorem vO_set {l : List (Option Int)} {e : Ed} {s : Int} (ha : l[e.a]? = some (some s)) (hb : e.b < l.length) (h : hit e (vO l) = true) : rx e (vO l) = vO (l.set e.b (some (s + e.w))) := by
  rw [rx_hit h]
  funext v
  rw [vO_at ha]
  by_cases q : v = e.b
  · subst q; rw [if_pos rfl, vO_at (List.getElem?_set_self hb)]; rfl
  · rw [if_neg q]; unfold vO; rw [List.getElem?_set_ne (Ne.symm q)]
end L2.K55
namespace L2.K55
open PySem PySem.Spec PyProof.Rows L2.DL L2.BF

/-- what one bound does to a row: the program's test is hit -/
theorem far_cases {l : List (Option Int)} {e : Ed} (ha : e.a < l.length) (hb : e.b < l.length) :
    (l[e.a] = none ∧ hit e (vO l) = false) ∨ (∃ s, l[e.a] = some s ∧ ((l[e.b] = none ∧ hit e (vO l) = true) ∨ (∃ t, l[e.b] = some t ∧ hit e (vO l) = decide (t < s + e.w)))) := by
  have ea := vO_at (List.getElem?_eq_getElem ha)
  have eb := vO_at (List.getElem?_eq_getElem hb)
  unfold hit
  rw [ea, eb]
  cases h : l[e.a] with
  | none =>
    refine .inl ⟨rfl, ?_⟩
    cases l[e.b] <;> rfl
  | some s =>
    refine .inr ⟨s, rfl, ?_⟩
    cases h' : l[e.b] with
    | none => exact .inl ⟨rfl, rfl⟩
    | some t => exact .inr ⟨t, rfl, rfl⟩
theorem far_pass {E : List Ed} {m n : Nat} {W : Int} (hn : n = 2 * m) (hg : ∀ e ∈ E, Good m W e) {x0 : Vc} {l : List (Option Int)} (hl : l.length = n) (hx : vO l = x0) (a0 a1 a2 t4 t5 t6 t7 : Sl) (h5 : isPar (some t5) = false ∧ isPar (some t6) = false ∧ isPar (some t7) = false) :
    ∃ l' u5 u6 u7, forD (.tp [(.nm 5), (.nm 6), (.nm 7)]) (sIf (xAnd (xB (xIsN true (xOp dIx (xVar 3) (xVar 5)))) (xOr (xB (xIsN false (xOp dIx (xVar 3) (xVar 6)))) (xB (xOp dLt (xOp dIx (xVar 3) (xVar 6)) (xOp dAdd (xOp dIx (xVar 3) (xVar 5)) (xVar 7)))))) (sSetI 3 (xVar 6) (xOp dAdd (xOp dIx (xVar 3) (xVar 5)) (xVar 7))) sSkip)
      (eds E) [a0, a1, a2, .ow false (.lst (ods l)), t4, t5, t6, t7] = some (.nx [a0, a1, a2, .ow false (.lst (ods l')), t4, u5, u6, u7]) ∧ l'.length = n ∧ vO l' = pass E x0 ∧ isPar (some u5) = false ∧ isPar (some u6) = false ∧ isPar (some u7) = false := by
  obtain ⟨ρ', h1, l', u5, u6, u7, rfl, h2, h3, h4⟩ := forD_all (tg := .tp [(.nm 5), (.nm 6), (.nm 7)]) (ds := eds E) (b := (sIf (xAnd (xB (xIsN true (xOp dIx (xVar 3) (xVar 5)))) (xOr (xB (xIsN false (xOp dIx (xVar 3) (xVar 6)))) (xB (xOp dLt (xOp dIx (xVar 3) (xVar 6)) (xOp dAdd (xOp dIx (xVar 3) (xVar 5)) (xVar 7)))))) (sSetI 3 (xVar 6) (xOp dAdd (xOp dIx (xVar 3) (xVar 5)) (xVar 7))) sSkip))
    (fun i ρ => ∃ l' u5 u6 u7, ρ = [a0, a1, a2, .ow false (.lst (ods l')), t4, u5, u6, u7] ∧ l'.length = n ∧ vO l' = pass (E.take i) x0 ∧ isPar (some u5) = false ∧ isPar (some u6) = false ∧ isPar (some u7) = false) (by
      rintro i d ρ hd ⟨l', u5, u6, u7, rfl, hl', hx', q5, q6, q7⟩
      obtain ⟨e, he, rfl⟩ := eds_get hd
      have g := hg e (List.mem_of_getElem? he)
      have ha : e.a < l'.length := by rw [hl', hn]; exact g.a
      have hb : e.b < l'.length := by rw [hl', hn]; exact g.b
      have da : dIx (.lst (ods l')) (.int e.a) = some (.pd (oD l'[e.a])) := dIx_lst (ods_get (List.getElem?_eq_getElem ha))
      have db : dIx (.lst (ods l')) (.int e.b) = some (.pd (oD l'[e.b])) := dIx_lst (ods_get (List.getElem?_eq_getElem hb))
      have x1 : ixN l'.length (e.b : Int) = some e.b := ixN_nat hb
      refine ⟨[a0, a1, a2, .ow false (.lst (ods l')), t4, .im (.int e.a), .im (.int e.b), .im (.int e.w)], by simp [edD, q5, q6, q7], ?_⟩
      rw [pass_take he, ← hx']
      rcases far_cases ha hb with ⟨c1, c2⟩ | ⟨s, c1, ⟨c2, c3⟩ | ⟨t, c2, c3⟩⟩
      · rw [c1] at da
        refine ⟨_, .inl ?_, l', .im (.int e.a), .im (.int e.b), .im (.int e.w), rfl, hl', (rx_miss c2).symm, rfl, rfl, rfl⟩
        simp -implicitDefEqProofs [da, oD]
      · rw [c1] at da; rw [c2] at db
        refine ⟨_, .inl ?_, l'.set e.b (some (s + e.w)), .im (.int e.a), .im (.int e.b), .im (.int e.w), rfl, by simp [hl'], (vO_set (by rw [List.getElem?_eq_getElem ha, c1]) hb c3).symm, rfl, rfl, rfl⟩
        simp -implicitDefEqProofs [da, db, oD, x1, ods_set]
      · rw [c1] at da; rw [c2] at db
        by_cases q : t < s + e.w
        · refine ⟨_, .inl ?_, l'.set e.b (some (s + e.w)), .im (.int e.a), .im (.int e.b), .im (.int e.w), rfl, by simp [hl'], (vO_set (by rw [List.getElem?_eq_getElem ha, c1]) hb (by rw [c3]; simpa using q)).symm, rfl, rfl, rfl⟩
          simp -implicitDefEqProofs [da, db, oD, x1, ods_set, q]
        · refine ⟨_, .inl ?_, l', .im (.int e.a), .im (.int e.b), .im (.int e.w), rfl, hl', (rx_miss (by rw [c3]; simpa using q)).symm, rfl, rfl, rfl⟩
          simp -implicitDefEqProofs [da, db, oD, q])
    (ρ := [a0, a1, a2, .ow false (.lst (ods l)), t4, t5, t6, t7]) ⟨l, t5, t6, t7, rfl, hl, hx, h5.1, h5.2.1, h5.2.2⟩
  rw [eds_length, List.take_length] at h3
  exact ⟨l', u5, u6, u7, h1, h2, h3, h4⟩
theorem one0_row {n s : Nat} (h : s < n) : vO ((List.replicate n (none : Option Int)).set s (some 0)) = one0 s := by
  funext v
  unfold vO one0
  by_cases q : v = s
  · subst q; rw [if_pos rfl, List.getElem?_set_self (by simpa using h)]; rfl
  · rw [if_neg q, List.getElem?_set_ne (Ne.symm q), List.getElem?_replicate]
    split <;> rfl
theorem far_ok {m s : Nat} {W : Int} {E : List Ed} (hm : m ≤ 9) (hE : E.length ≤ 41) (hW : 0 ≤ W) (hg : ∀ e ∈ E, Good m W e) (hs : s < 2 * m) :
    ∃ l, F_farthest_from [.im (.int m), .im (.tup (eds E)), .im (.int s)] = some (.ok (.im (.lst (ods l))) [.im (.int m), .im (.tup (eds E)), .im (.int s)]) ∧ l.length = 2 * m ∧ vO l = it (E ++ triv m) (one0 s) (2 * m) := by
  generalize hn : 2 * m = n at hs
  have hn' : n = 2 * m := hn.symm
  have ab := all_bounds_ok hm hE
  obtain ⟨ρ', h1, l, t4, t5, t6, t7, h2, h3, h4, _⟩ := forD_all (tg := .nm 4) (ds := nats n) (b := (sFor (.tp [(.nm 5), (.nm 6), (.nm 7)]) (iAny (xCall F_all_bounds (xACons (xVar 0) (xACons (xVar 1) xANil)))) (sIf (xAnd (xB (xIsN true (xOp dIx (xVar 3) (xVar 5)))) (xOr (xB (xIsN false (xOp dIx (xVar 3) (xVar 6)))) (xB (xOp dLt (xOp dIx (xVar 3) (xVar 6)) (xOp dAdd (xOp dIx (xVar 3) (xVar 5)) (xVar 7)))))) (sSetI 3 (xVar 6) (xOp dAdd (xOp dIx (xVar 3) (xVar 5)) (xVar 7))) sSkip)))
    (fun t ρ => ∃ l t4 t5 t6 t7, ρ = [.im (.int m), .im (.tup (eds E)), .im (.int s), .ow false (.lst (ods l)), t4, t5, t6, t7] ∧ l.length = n ∧ vO l = it (E ++ triv m) (one0 s) t ∧ Plain t4 ∧ Plain t5 ∧ Plain t6 ∧ Plain t7) (by
      rintro t d ρ hd ⟨l, t4, t5, t6, t7, rfl, hl, hx, q4, q5, q6, q7⟩
      obtain ⟨rfl, ht⟩ := nats_get hd
      have q4' : isPar (some t4) = false := q4
      obtain ⟨l', u5, u6, u7, f1, f2, f3, f4⟩ := far_pass hn' (good_all hW hg) hl hx (.im (.int m)) (.im (.tup (eds E))) (.im (.int s)) (.im (.int t)) t5 t6 t7 ⟨q5, q6, q7⟩
      refine ⟨[.im (.int m), .im (.tup (eds E)), .im (.int s), .ow false (.lst (ods l)), .im (.int t), t5, t6, t7], by simp [q4'], _, .inl ?_, l', .im (.int t), u5, u6, u7, rfl, f2, f3, rfl, f4.1, f4.2.1, f4.2.2⟩
      simp -implicitDefEqProofs [ab, f1])
    (ρ := [.im (.int m), .im (.tup (eds E)), .im (.int s), .ow false (.lst (ods ((List.replicate n none).set s (some 0)))), .un, .un, .un, .un]) ⟨_, .un, .un, .un, .un, rfl, by simp, one0_row hs, rfl, rfl, rfl, rfl⟩
  subst h2
  rw [nats_length] at h4
  refine ⟨l, ?_, h3, h4⟩
  have e0 : (2 : Int) * (m : Int) = (n : Nat) := by omega
  have r1 : dMul (.lst [.non]) (.int (n : Nat)) = some (.nl (ods (List.replicate n none))) := by
    rw [rep_lst (by omega)]; simp [ods, oD]
  have x1 : ixN n (s : Int) = some s := ixN_nat hs
  have ha : (xACons (xOp dMul (xC (.int 2)) (xVar 0)) xANil) [.im (.int m), .im (.tup (eds E)), .im (.int s), .ow false (.lst (ods ((List.replicate n none).set s (some 0)))), .un, .un, .un, .un] = some (.ok [.im (.int (n : Nat))] [.im (.int m), .im (.tup (eds E)), .im (.int s), .ow false (.lst (ods ((List.replicate n none).set s (some 0)))), .un, .un, .un, .un]) := by
    simp -implicitDefEqProofs [dMul_int, mul2, e0]
  have hz : n ≤ 1000000 := by omega
  have hr := iRg1_ok ha hz
  unfold F_farthest_from
  rw [fnM_at]
  simp -implicitDefEqProofs [b_farthest_from, -iRg1_at, dMul_int, mul2, e0, r1, x1, ods_set, hr, h1]
end L2.K55
namespace L2.K55
open PySem PySem.Spec PyProof.Rows L2.DL L2.BF

theorem lfar_pass {E : List Ed} {m n : Nat} {W : Int} (hn : n = 2 * m) (hg : ∀ e ∈ E, Good m W e) {x0 : Vc} {l : List (Option Int)} (hl : l.length = n) (hx : vO l = x0) (a0 a1 a2 a3 t4 t5 t6 t7 : Sl) (h5 : isPar (some t5) = false ∧ isPar (some t6) = false ∧ isPar (some t7) = false) :
    ∃ l' u5 u6 u7, forD (.tp [(.nm 6), (.nm 7), (.nm 8)]) (sIf (xAnd (xB (xIsN true (xOp dIx (xVar 4) (xVar 6)))) (xOr (xB (xIsN false (xOp dIx (xVar 4) (xVar 7)))) (xB (xOp dLt (xOp dIx (xVar 4) (xVar 7)) (xOp dAdd (xOp dIx (xVar 4) (xVar 6)) (xVar 8)))))) (sSetI 4 (xVar 7) (xOp dAdd (xOp dIx (xVar 4) (xVar 6)) (xVar 8))) sSkip)
      (eds E) [a0, a1, a2, a3, .ow false (.lst (ods l)), t4, t5, t6, t7] = some (.nx [a0, a1, a2, a3, .ow false (.lst (ods l')), t4, u5, u6, u7]) ∧ l'.length = n ∧ vO l' = pass E x0 ∧ isPar (some u5) = false ∧ isPar (some u6) = false ∧ isPar (some u7) = false := by
  obtain ⟨ρ', h1, l', u5, u6, u7, rfl, h2, h3, h4⟩ := forD_all (tg := .tp [(.nm 6), (.nm 7), (.nm 8)]) (ds := eds E) (b := (sIf (xAnd (xB (xIsN true (xOp dIx (xVar 4) (xVar 6)))) (xOr (xB (xIsN false (xOp dIx (xVar 4) (xVar 7)))) (xB (xOp dLt (xOp dIx (xVar 4) (xVar 7)) (xOp dAdd (xOp dIx (xVar 4) (xVar 6)) (xVar 8)))))) (sSetI 4 (xVar 7) (xOp dAdd (xOp dIx (xVar 4) (xVar 6)) (xVar 8))) sSkip))
    (fun i ρ => ∃ l' u5 u6 u7, ρ = [a0, a1, a2, a3, .ow false (.lst (ods l')), t4, u5, u6, u7] ∧ l'.length = n ∧ vO l' = pass (E.take i) x0 ∧ isPar (some u5) = false ∧ isPar (some u6) = false ∧ isPar (some u7) = false) (by
      rintro i d ρ hd ⟨l', u5, u6, u7, rfl, hl', hx', q5, q6, q7⟩
      obtain ⟨e, he, rfl⟩ := eds_get hd
      have g := hg e (List.mem_of_getElem? he)
      have ha : e.a < l'.length := by rw [hl', hn]; exact g.a
      have hb : e.b < l'.length := by rw [hl', hn]; exact g.b
      have da : dIx (.lst (ods l')) (.int e.a) = some (.pd (oD l'[e.a])) := dIx_lst (ods_get (List.getElem?_eq_getElem ha))
      have db : dIx (.lst (ods l')) (.int e.b) = some (.pd (oD l'[e.b])) := dIx_lst (ods_get (List.getElem?_eq_getElem hb))
      have x1 : ixN l'.length (e.b : Int) = some e.b := ixN_nat hb
      refine ⟨[a0, a1, a2, a3, .ow false (.lst (ods l')), t4, .im (.int e.a), .im (.int e.b), .im (.int e.w)], by simp [edD, q5, q6, q7], ?_⟩
      rw [pass_take he, ← hx']
      rcases far_cases ha hb with ⟨c1, c2⟩ | ⟨s, c1, ⟨c2, c3⟩ | ⟨t, c2, c3⟩⟩
      · rw [c1] at da
        refine ⟨_, .inl ?_, l', .im (.int e.a), .im (.int e.b), .im (.int e.w), rfl, hl', (rx_miss c2).symm, rfl, rfl, rfl⟩
        simp -implicitDefEqProofs [da, oD]
      · rw [c1] at da; rw [c2] at db
        refine ⟨_, .inl ?_, l'.set e.b (some (s + e.w)), .im (.int e.a), .im (.int e.b), .im (.int e.w), rfl, by simp [hl'], (vO_set (by rw [List.getElem?_eq_getElem ha, c1]) hb c3).symm, rfl, rfl, rfl⟩
        simp -implicitDefEqProofs [da, db, oD, x1, ods_set]
      · rw [c1] at da; rw [c2] at db
        by_cases q : t < s + e.w
        · refine ⟨_, .inl ?_, l'.set e.b (some (s + e.w)), .im (.int e.a), .im (.int e.b), .im (.int e.w), rfl, by simp [hl'], (vO_set (by rw [List.getElem?_eq_getElem ha, c1]) hb (by rw [c3]; simpa using q)).symm, rfl, rfl, rfl⟩
          simp -implicitDefEqProofs [da, db, oD, x1, ods_set, q]
        · refine ⟨_, .inl ?_, l', .im (.int e.a), .im (.int e.b), .im (.int e.w), rfl, hl', (rx_miss (by rw [c3]; simpa using q)).symm, rfl, rfl, rfl⟩
          simp -implicitDefEqProofs [da, db, oD, q])
    (ρ := [a0, a1, a2, a3, .ow false (.lst (ods l)), t4, t5, t6, t7]) ⟨l, t5, t6, t7, rfl, hl, hx, h5.1, h5.2.1, h5.2.2⟩
  rw [eds_length, List.take_length] at h3
  exact ⟨l', u5, u6, u7, h1, h2, h3, h4⟩
theorem lfar_ok {m s : Nat} {W : Int} {E : List Ed} (hm : m ≤ 9) (hE : E.length ≤ 41) (hW : 0 ≤ W) (hg : ∀ e ∈ E, Good m W e) (hs : s < 2 * m) :
    ∃ l, F_law_far [.im (.int m), .im (.tup (eds E)), .im (.int s)] = some (.ok (.im (.lst (ods l))) [.im (.int m), .im (.tup (eds E)), .im (.int s)]) ∧ l.length = 2 * m ∧ vO l = it (E ++ triv m) (one0 s) (2 * m + 1) := by
  generalize hn : 2 * m = n at hs
  have hn' : n = 2 * m := hn.symm
  have ab : F_law_all_bounds [.im (.int m), .im (.tup (eds E))] = _ := all_bounds_ok hm hE
  obtain ⟨ρ', h1, l, t4, t5, t6, t7, h2, h3, h4, _⟩ := forD_all (tg := .nm 5) (ds := nats (n + 1)) (b := (sFor (.tp [(.nm 6), (.nm 7), (.nm 8)]) (iAny (xVar 3)) (sIf (xAnd (xB (xIsN true (xOp dIx (xVar 4) (xVar 6)))) (xOr (xB (xIsN false (xOp dIx (xVar 4) (xVar 7)))) (xB (xOp dLt (xOp dIx (xVar 4) (xVar 7)) (xOp dAdd (xOp dIx (xVar 4) (xVar 6)) (xVar 8)))))) (sSetI 4 (xVar 7) (xOp dAdd (xOp dIx (xVar 4) (xVar 6)) (xVar 8))) sSkip)))
    (fun t ρ => ∃ l t4 t5 t6 t7, ρ = [.im (.int m), .im (.tup (eds E)), .im (.int s), .im (.lst (eds (E ++ triv m))), .ow false (.lst (ods l)), t4, t5, t6, t7] ∧ l.length = n ∧ vO l = it (E ++ triv m) (one0 s) t ∧ Plain t4 ∧ Plain t5 ∧ Plain t6 ∧ Plain t7) (by
      rintro t d ρ hd ⟨l, t4, t5, t6, t7, rfl, hl, hx, q4, q5, q6, q7⟩
      obtain ⟨rfl, ht⟩ := nats_get hd
      have q4' : isPar (some t4) = false := q4
      obtain ⟨l', u5, u6, u7, f1, f2, f3, f4⟩ := lfar_pass hn' (good_all hW hg) hl hx (.im (.int m)) (.im (.tup (eds E))) (.im (.int s)) (.im (.lst (eds (E ++ triv m)))) (.im (.int t)) t5 t6 t7 ⟨q5, q6, q7⟩
      refine ⟨[.im (.int m), .im (.tup (eds E)), .im (.int s), .im (.lst (eds (E ++ triv m))), .ow false (.lst (ods l)), .im (.int t), t5, t6, t7], by simp [q4'], _, .inl ?_, l', .im (.int t), u5, u6, u7, rfl, f2, f3, rfl, f4.1, f4.2.1, f4.2.2⟩
      simp -implicitDefEqProofs [f1])
    (ρ := [.im (.int m), .im (.tup (eds E)), .im (.int s), .im (.lst (eds (E ++ triv m))), .ow false (.lst (ods ((List.replicate n none).set s (some 0)))), .un, .un, .un, .un]) ⟨_, .un, .un, .un, .un, rfl, by simp, one0_row hs, rfl, rfl, rfl, rfl⟩
  subst h2
  rw [nats_length] at h4
  refine ⟨l, ?_, h3, h4⟩
  have e0 : (2 : Int) * (m : Int) = (n : Nat) := by omega
  have e1 : (n : Int) + 1 = ((n + 1 : Nat) : Int) := by omega
  have r1 : dMul (.lst [.non]) (.int (n : Nat)) = some (.nl (ods (List.replicate n none))) := by
    rw [rep_lst (by omega)]; simp [ods, oD]
  have x1 : ixN n (s : Int) = some s := ixN_nat hs
  have ha : (xACons (xOp dAdd (xOp dMul (xC (.int 2)) (xVar 0)) (xC (.int 1))) xANil) [.im (.int m), .im (.tup (eds E)), .im (.int s), .im (.lst (eds (E ++ triv m))), .ow false (.lst (ods ((List.replicate n none).set s (some 0)))), .un, .un, .un, .un] = some (.ok [.im (.int ((n + 1 : Nat) : Int))] [.im (.int m), .im (.tup (eds E)), .im (.int s), .im (.lst (eds (E ++ triv m))), .ow false (.lst (ods ((List.replicate n none).set s (some 0)))), .un, .un, .un, .un]) := by
    rw [← e1]
    simp -implicitDefEqProofs [dMul_int, mul2, e0]
  have hz : n + 1 ≤ 1000000 := by omega
  have hr := iRg1_ok ha hz
  unfold F_law_far
  rw [fnM_at]
  simp -implicitDefEqProofs [b_law_far, -iRg1_at, dMul_int, mul2, e0, r1, x1, ods_set, hr, h1, ab]

/-! ### the law's least places -/
theorem max_set {p : List Int} {e : Ed} {pa pb : Int} (ha : p[e.a]? = some pa) (hb : p[e.b]? = some pb) : vI (p.set e.b (if pa + e.w > pb then pa + e.w else pb)) = rx e (vI p) := by
  have lb : e.b < p.length := (List.getElem?_eq_some_iff.mp hb).1
  have hh := vI_hit ha hb
  by_cases q : pb < pa + e.w
  · rw [if_pos (show pa + e.w > pb from q), vI_set ha lb (by rw [hh]; simpa using q)]
  · rw [if_neg (show ¬ pa + e.w > pb from q), rx_miss (by rw [hh]; simpa using q)]
    congr 1
    apply List.ext_getElem?
    intro v
    by_cases z : v = e.b
    · subst z; rw [List.getElem?_set_self lb, hb]
    · rw [List.getElem?_set_ne (Ne.symm z)]
theorem least_pass {E : List Ed} {m n : Nat} {W : Int} (hn : n = 2 * m) (hg : ∀ e ∈ E, Good m W e) {x0 : Vc} {p : List Int} (hl : p.length = n) (hx : vI p = x0) (a0 a1 a2 a3 a4 t5 t6 t7 : Sl) (h5 : isPar (some t5) = false ∧ isPar (some t6) = false ∧ isPar (some t7) = false) :
    ∃ p' u5 u6 u7, forD (.tp [(.nm 6), (.nm 7), (.nm 8)]) (sSetI 5 (xVar 7) (xFn fMax2 (xACons (xOp dIx (xVar 5) (xVar 7)) (xACons (xOp dAdd (xOp dIx (xVar 5) (xVar 6)) (xVar 8)) xANil))))
      (eds E) [a0, a1, a2, a3, a4, .ow false (.lst (dints p)), t5, t6, t7] = some (.nx [a0, a1, a2, a3, a4, .ow false (.lst (dints p')), u5, u6, u7]) ∧ p'.length = n ∧ vI p' = pass E x0 ∧ isPar (some u5) = false ∧ isPar (some u6) = false ∧ isPar (some u7) = false := by
  obtain ⟨ρ', h1, p', u5, u6, u7, rfl, h2, h3, h4⟩ := forD_all (tg := .tp [(.nm 6), (.nm 7), (.nm 8)]) (ds := eds E) (b := (sSetI 5 (xVar 7) (xFn fMax2 (xACons (xOp dIx (xVar 5) (xVar 7)) (xACons (xOp dAdd (xOp dIx (xVar 5) (xVar 6)) (xVar 8)) xANil)))))
    (fun i ρ => ∃ p' u5 u6 u7, ρ = [a0, a1, a2, a3, a4, .ow false (.lst (dints p')), u5, u6, u7] ∧ p'.length = n ∧ vI p' = pass (E.take i) x0 ∧ isPar (some u5) = false ∧ isPar (some u6) = false ∧ isPar (some u7) = false) (by
      rintro i d ρ hd ⟨p', u5, u6, u7, rfl, hl', hx', q5, q6, q7⟩
      obtain ⟨e, he, rfl⟩ := eds_get hd
      have g := hg e (List.mem_of_getElem? he)
      have ha : e.a < p'.length := by rw [hl', hn]; exact g.a
      have hb : e.b < p'.length := by rw [hl', hn]; exact g.b
      have ea : p'[e.a]? = some p'[e.a] := List.getElem?_eq_getElem ha
      have eb : p'[e.b]? = some p'[e.b] := List.getElem?_eq_getElem hb
      have da : dIx (.lst (dints p')) (.int e.a) = some (.pd (.int p'[e.a])) := dIx_lst (by rw [dints_get, ea]; rfl)
      have db : dIx (.lst (dints p')) (.int e.b) = some (.pd (.int p'[e.b])) := dIx_lst (by rw [dints_get, eb]; rfl)
      have x1 : ixN p'.length (e.b : Int) = some e.b := ixN_nat hb
      refine ⟨[a0, a1, a2, a3, a4, .ow false (.lst (dints p')), .im (.int e.a), .im (.int e.b), .im (.int e.w)], by simp [edD, q5, q6, q7], _, .inl ?_, p'.set e.b (if p'[e.a] + e.w > p'[e.b] then p'[e.a] + e.w else p'[e.b]), .im (.int e.a), .im (.int e.b), .im (.int e.w), rfl, by simp [hl'], ?_, rfl, rfl, rfl⟩
      · simp -implicitDefEqProofs [da, db, x1, ← dints_set]
      · rw [max_set ea eb, pass_take he, hx'])
    (ρ := [a0, a1, a2, a3, a4, .ow false (.lst (dints p)), t5, t6, t7]) ⟨p, t5, t6, t7, rfl, hl, hx, h5.1, h5.2.1, h5.2.2⟩
  rw [eds_length, List.take_length] at h3
  exact ⟨p', u5, u6, u7, h1, h2, h3, h4⟩
theorem lleast_ok {m : Nat} {W : Int} {E : List Ed} (hm : m ≤ 9) (hE : E.length ≤ 41) (hW : 0 ≤ W) (hg : ∀ e ∈ E, Good m W e) :
    ∃ r, F_law_least [.im (.int m), .im (.tup (eds E))] = some (.ok (.im r) [.im (.int m), .im (.tup (eds E))]) ∧ (r = .non ∨ (isN r = false ∧ feas m E)) := by
  generalize hn : 2 * m = n
  have hn' : n = 2 * m := hn.symm
  have ab : F_law_all_bounds [.im (.int m), .im (.tup (eds E))] = _ := all_bounds_ok hm hE
  obtain ⟨s, h1, h2⟩ := forD_by (tg := .nm 4) (ds := nats (n + 1)) (b := (sSeq (sSet 5 (xFn fList (xACons (xVar 3) xANil))) (sSeq (sFor (.tp [(.nm 6), (.nm 7), (.nm 8)]) (iAny (xVar 2)) (sSetI 5 (xVar 7) (xFn fMax2 (xACons (xOp dIx (xVar 5) (xVar 7)) (xACons (xOp dAdd (xOp dIx (xVar 5) (xVar 6)) (xVar 8)) xANil))))) (sSeq (sIf (xB (xOp dEq (xVar 5) (xVar 3))) (sRet (xFn fTuple (xACons (xVar 3) xANil))) sSkip) (sSet 3 (xVar 5))))))
    (fun t ρ => ∃ p t4 t5 t6 t7 t8, ρ = [.im (.int m), .im (.tup (eds E)), .im (.lst (eds (E ++ triv m))), .ow false (.lst (dints p)), t4, t5, t6, t7, t8] ∧ p.length = n ∧ vI p = it (E ++ triv m) (z0 n) t ∧ Plain t4 ∧ Plain t5 ∧ Plain t6 ∧ Plain t7 ∧ Plain t8)
    (fun s => ∃ p l, s = .rt (.im (.tup (dints p))) (.im (.int m) :: .im (.tup (eds E)) :: l) ∧ Fe (E ++ triv m) (vI p) ∧ le (z0 n) (vI p)) (by
      rintro t d ρ hd ⟨p, t4, t5, t6, t7, t8, rfl, hl, hx, q4, q5, q6, q7, q8⟩
      obtain ⟨rfl, ht⟩ := nats_get hd
      have q4' : isPar (some t4) = false := q4
      have q5' : isPar (some t5) = false := q5
      obtain ⟨p', u5, u6, u7, f1, f2, f3, f4⟩ := least_pass hn' (good_all hW hg) hl hx (.im (.int m)) (.im (.tup (eds E))) (.im (.lst (eds (E ++ triv m)))) (.ow false (.lst (dints p))) (.im (.int t)) t6 t7 t8 ⟨q6, q7, q8⟩
      refine ⟨[.im (.int m), .im (.tup (eds E)), .im (.lst (eds (E ++ triv m))), .ow false (.lst (dints p)), .im (.int t), t5, t6, t7, t8], by simp [q4'], ?_⟩
      by_cases q : p' = p
      · subst q
        refine ⟨.rt (.im (.tup (dints p'))) [.im (.int m), .im (.tup (eds E)), .im (.lst (eds (E ++ triv m))), .ow false (.lst (dints p')), .im (.int t), .ow false (.lst (dints p')), u5, u6, u7], ?_, .inr (.inr ⟨_, _, rfl, p', _, rfl, ?_, ?_⟩)⟩
        · simp -implicitDefEqProofs [q5', f1]
        · rw [hx]; exact fe_of_fix (f3.symm.trans hx)
        · rw [hx]
          have := it_mono (E := E ++ triv m) (x := z0 n) (j := 0) t
          rwa [Nat.zero_add] at this
      · refine ⟨.nx [.im (.int m), .im (.tup (eds E)), .im (.lst (eds (E ++ triv m))), .ow false (.lst (dints p')), .im (.int t), .un, u5, u6, u7], ?_, .inl ⟨_, .inl rfl, p', .im (.int t), .un, u5, u6, u7, rfl, f2, f3, rfl, rfl, f4.1, f4.2.1, f4.2.2⟩⟩
        simp -implicitDefEqProofs [q5', f1, q])
    (ρ := [.im (.int m), .im (.tup (eds E)), .im (.lst (eds (E ++ triv m))), .ow false (.lst (dints (List.replicate n 0))), .un, .un, .un, .un, .un]) ⟨_, .un, .un, .un, .un, .un, rfl, by simp, rfl, rfl, rfl, rfl, rfl, rfl⟩
  have e0 : (2 : Int) * (m : Int) = (n : Nat) := by omega
  have e1 : (n : Int) + 1 = ((n + 1 : Nat) : Int) := by omega
  have r0 : dMul (.lst [.int 0]) (.int (n : Nat)) = some (.nl (dints (List.replicate n 0))) := by
    rw [rep_lst (by omega)]; simp [dints]
  have ha : (xACons (xOp dAdd (xOp dMul (xC (.int 2)) (xVar 0)) (xC (.int 1))) xANil) [.im (.int m), .im (.tup (eds E)), .im (.lst (eds (E ++ triv m))), .ow false (.lst (dints (List.replicate n 0))), .un, .un, .un, .un, .un] = some (.ok [.im (.int ((n + 1 : Nat) : Int))] [.im (.int m), .im (.tup (eds E)), .im (.lst (eds (E ++ triv m))), .ow false (.lst (dints (List.replicate n 0))), .un, .un, .un, .un, .un]) := by
    rw [← e1]
    simp -implicitDefEqProofs [dMul_int, mul2, e0]
  have hz : n + 1 ≤ 1000000 := by omega
  have hr := iRg1_ok ha hz
  rcases h2 with ⟨ρ', rfl, p, t4, t5, t6, t7, t8, rfl, _⟩ | ⟨p, l, rfl, f1, f2⟩
  · refine ⟨.non, ?_, .inl rfl⟩
    unfold F_law_least
    rw [fnM_at]
    simp -implicitDefEqProofs [b_law_least, -iRg1_at, dMul_int, mul2, e0, r0, hr, h1, ab]
  · refine ⟨.tup (dints p), ?_, .inr ⟨rfl, vI p, f1, by rw [hn]; exact f2⟩⟩
    unfold F_law_least
    rw [fnM_at]
    simp -implicitDefEqProofs [b_law_least, -iRg1_at, dMul_int, mul2, e0, r0, hr, h1, ab]
end L2.K55
namespace L2.K55
open PySem PySem.Spec PyProof.Rows L2.DL L2.BF

/-! ### texts of numbers, alike where the numbers are -/
theorem str_refl (x : Str) : (x == x) = true := by simp
theorem strOk_of (s : String) : PyData.strOk (Str.ofString s) = true := by
  rw [Str.ofString_eq_toList]
  simp only [PyData.strOk]
  rw [Array.all_eq_true_iff_forall_mem]
  intro n hn
  simp at hn
  obtain ⟨c, _, rfl⟩ := hn
  have := c.valid
  simp [UInt32.isValidChar, Nat.isValidChar] at this
  have h : c.toNat < 1114112 := by
    rcases this with h | h <;> omega
  exact decide_eq_true h
theorem shaped_of (s : String) : SeqAt.shaped (.str (Str.ofString s)) = true := by
  simp [SeqAt.shaped, PyData.canLay0, PyData.depth, strOk_of]
def shD : D → Str
  | .non => "None"
  | .bl b => if b then "True" else "False"
  | .int i => (Str.ofString (toString i))
  | _ => ""
theorem fits_w (s : String) (h : (Str.ofString s).length ≤ 10) : (Str.ofString s).length ≤ sizeLine := Nat.le_trans h (by decide)
theorem repr_non : fRepr [.non] = some (.pd (.str (shD .non))) := by
  have hf : PyData.none.shown.length ≤ sizeLine := by simp only [PyData.shown]; exact fits_w "None" (by decide +kernel)
  have e : fRepr [.non] = (if PyData.none.showable && !PyData.none.hasDict && decide (PyData.none.depth ≤ 64) && decide (PyData.none.shown.length ≤ sizeLine) then some (.pd (.str PyData.none.shown)) else none) := rfl
  rw [e, decide_eq_true hf]
  simp [PyData.showable, PyData.hasDict, PyData.depth, PyData.shown, shD]
theorem repr_bl (b : Bool) : fRepr [.bl b] = some (.pd (.str (shD (.bl b)))) := by
  have hf : (PyData.bool b).shown.length ≤ sizeLine := by
    simp only [PyData.shown]
    cases b
    · exact fits_w "False" (by decide +kernel)
    · exact fits_w "True" (by decide +kernel)
  show (if (PyData.bool b).showable && !(PyData.bool b).hasDict && decide ((PyData.bool b).depth ≤ 64) && decide ((PyData.bool b).shown.length ≤ sizeLine) then _ else _) = _
  rw [decide_eq_true hf]
  simp [PyData.showable, PyData.hasDict, PyData.depth, PyData.shown, shD]
theorem repr_int {i : Int} (h : i.natAbs.log2 < 1920) : fRepr [.int i] = some (.pd (.str (shD (.int i)))) := by
  have hf : (PyData.int i).shown.length ≤ sizeLine := int_text_fits h
  have h2 : (PyData.int i).showable = true := by simp [PyData.showable, h]
  have h3 : (PyData.int i).hasDict = false := by simp [PyData.hasDict]
  have h4 : (PyData.int i).depth ≤ 64 := by simp [PyData.depth]
  show (if (PyData.int i).showable && !(PyData.int i).hasDict && decide ((PyData.int i).depth ≤ 64) && decide ((PyData.int i).shown.length ≤ sizeLine) then _ else _) = _
  rw [h2, h3, decide_eq_true h4, decide_eq_true hf]
  rfl
theorem ne_same {s : String} : dNe (.str (Str.ofString s)) (.str (Str.ofString s)) = some (.pd (.bl false)) := by
  rw [dNe_str (shaped_of s) (shaped_of s), str_refl]; rfl
theorem ne_bl (b : Bool) : dNe (.str (shD (.bl b))) (.str (shD (.bl b))) = some (.pd (.bl false)) := by
  cases b <;> exact ne_same
theorem log_small {i : Int} (h : i.natAbs ≤ 100000) : i.natAbs.log2 < 1920 := by
  have h1 : i.natAbs.log2 ≤ i.natAbs := Nat.log2_le_self _
  by_cases q : i.natAbs = 0
  · rw [q]; decide
  · have h2 := Nat.log2_self_le q
    apply Nat.lt_of_not_le
    intro z
    have : 2 ^ 1920 ≤ 2 ^ i.natAbs.log2 := Nat.pow_le_pow_right (by decide) z
    have h3 : 2 ^ 17 ≤ 2 ^ 1920 := Nat.pow_le_pow_right (by decide) (by decide)
    have h4 : (2 : Nat) ^ 17 = 131072 := by decide
    rw [h4] at h3
    exact absurd (Nat.le_trans h3 (Nat.le_trans this h2)) (by omega)
theorem repr_o {y : Option Int} (h : ∀ d, y = some d → d.natAbs ≤ 100000) : ∃ s, fRepr [oD y] = some (.pd (.str (Str.ofString s))) := by
  cases y with
  | none => exact ⟨"None", repr_non⟩
  | some d => exact ⟨toString d, repr_int (log_small (h d rfl))⟩

/-! ### surely, can_be_near -/
theorem row_at {l : List (Option Int)} {n t : Nat} {x : Vc} (hl : l.length = n) (hx : vO l = x) (ht : t < n) : dIx (.lst (ods l)) (.int t) = some (.pd (oD (x t))) := by
  have h : t < l.length := by omega
  have e := List.getElem?_eq_getElem h
  have := vO_at e
  rw [hx] at this
  rw [this]
  exact dIx_lst (ods_get e)
theorem surely_ok {m s t : Nat} {E : List Ed} (h0 : 1 ≤ m) (hm : m ≤ 9) (hE : E.length ≤ 40) (hg : ∀ e ∈ E, Good m 10000 e) (hf : feas m E) (hs : s < 2 * m) (ht : t < 2 * m) :
    F_surely [.im (.int m), .im (.tup (eds E)), .im (.int s), .im (.int t)] = some (.ok (.im (oD (it (E ++ triv m) (one0 s) (2 * m) t))) [.im (.int m), .im (.tup (eds E)), .im (.int s), .im (.int t)]) := by
  obtain ⟨x, h1⟩ := least_ok h0 hm hE hg hf
  obtain ⟨l, h2, h3, h4⟩ := far_ok (W := 10000) hm (by omega) (by decide) hg hs
  have h5 := row_at h3 h4 ht
  unfold F_surely
  rw [fnM_at]
  simp -implicitDefEqProofs [b_surely, h1, ends_ok hs ht, h2, h5]
def flag (y : Option Int) (far : Int) : Bool := match y with
  | none => true
  | some d => decide (d ≤ far)
theorem near_ok {m s t : Nat} {E : List Ed} {far : Int} (h0 : 1 ≤ m) (hm : m ≤ 9) (hE : E.length ≤ 40) (hg : ∀ e ∈ E, Good m 10000 e) (hf : feas m E) (hs : s < 2 * m) (ht : t < 2 * m) :
    F_can_be_near [.im (.int m), .im (.tup (eds E)), .im (.int s), .im (.int t), .im (.int far)] = some (.ok (.im (.bl (flag (it (E ++ triv m) (one0 s) (2 * m) t) far))) [.im (.int m), .im (.tup (eds E)), .im (.int s), .im (.int t), .im (.int far)]) := by
  obtain ⟨x, h1⟩ := least_ok h0 hm hE hg hf
  obtain ⟨l, h2, h3, h4⟩ := far_ok (W := 10000) hm (by omega) (by decide) hg hs
  have h5 := row_at h3 h4 ht
  unfold F_can_be_near
  rw [fnM_at]
  cases e : it (E ++ triv m) (one0 s) (2 * m) t with
  | none =>
    rw [e] at h5
    simp -implicitDefEqProofs [b_can_be_near, h1, ends_ok hs ht, h2, h5, oD, flag]
  | some d =>
    rw [e] at h5
    simp -implicitDefEqProofs [b_can_be_near, h1, ends_ok hs ht, h2, h5, oD, flag]
/-! ### draws -/
theorem ldraw_eq : F_law_draw = fnM 2 5 bDraw := rfl
theorem ldraw {h : Ob} (H : HandOk h) {b : Int} (h0 : 0 < b) (h1 : b < 1073741824) : ∃ (k : Nat) (h' : Ob), F_law_draw [.ow true h, .im (.int b)] = some (.ok (.im (.int k)) [.ow true h', .im (.int b)]) ∧ (k : Int) < b ∧ HandOk h' := by
  rw [ldraw_eq]
  obtain ⟨r, h', e, r0, r1, H'⟩ := draw_ok H h0 h1
  obtain ⟨k, rfl⟩ := Int.eq_ofNat_of_zero_le r0
  exact ⟨k, h', e, r1, H'⟩
theorem lany {h : Ob} (H : HandOk h) {ds : List D} (h0 : 0 < ds.length) (h1 : ds.length < 1000000) : ∃ (d : D) (h' : Ob), d ∈ ds ∧ F_law_any [.ow true h, .im (.lst ds)] = some (.ok (.im d) [.ow true h', .im (.lst ds)]) ∧ HandOk h' := by
  obtain ⟨k, h', e, r1, H'⟩ := ldraw H (b := (ds.length : Int)) (by omega) (by omega)
  have hk : k < ds.length := by omega
  have ei : dIx (.lst ds) (.int k) = some (.pd ds[k]) := dIx_lst (List.getElem?_eq_getElem hk)
  refine ⟨ds[k], h', List.getElem_mem hk, ?_, H'⟩
  unfold F_law_any
  rw [fnM_at]
  simp -implicitDefEqProofs [b_law_any, e, ei]
end L2.K55
namespace L2.K55
open PySem PySem.Spec PyProof.Rows L2.DL L2.BF

/-! ### the bounds drawn -/
theorem places_drawn {m : Nat} {h : Ob} (H : HandOk h) (hm : m ≤ 4) :
    ∃ (ps : List Int) (h' : Ob) (x : Sl), lcD [7] (.nm 7) tYesM (xCallO F_law_draw (xACons (xVar 0) (xACons (xC (.int 12)) xANil))) (nats (2 * m)) [] [.ow true h, .im (.int m), .un, .un, .un, .un, .un, .un] = some (.ok (dints ps) [.ow true h', .im (.int m), .un, .un, .un, .un, .un, x]) ∧
      HandOk h' ∧ ps.length = 2 * m ∧ ∀ v ∈ ps, 0 ≤ v ∧ v < 12 := by
  have step : ∀ i d acc ρ, (nats (2 * m))[i]? = some d → (∃ (ps : List Int) (h' : Ob) (x : Sl), ρ = [Sl.ow true h', .im (.int m), .un, .un, .un, .un, .un, x] ∧ acc = dints ps ∧ HandOk h' ∧ ps.length = i ∧ ∀ v ∈ ps, 0 ≤ v ∧ v < 12) → ∃ ρ1, bindT (.nm 7) d (wipeE ρ [7]) = some ρ1 ∧
      ((∃ ρ2 r ρ3 x ρ4, tYesM ρ1 = some (.ok true ρ2) ∧ (xCallO F_law_draw (xACons (xVar 0) (xACons (xC (.int 12)) xANil))) ρ2 = some (.ok r ρ3) ∧ fz1 r ρ3 = some (x, ρ4) ∧ (∃ (ps : List Int) (h' : Ob) (y : Sl), ρ4 = [Sl.ow true h', .im (.int m), .un, .un, .un, .un, .un, y] ∧ acc ++ [x] = dints ps ∧ HandOk h' ∧ ps.length = i + 1 ∧ ∀ v ∈ ps, 0 ≤ v ∧ v < 12)) ∨
        (∃ ρ2, tYesM ρ1 = some (.ok false ρ2) ∧ (∃ (ps : List Int) (h' : Ob) (y : Sl), ρ2 = [Sl.ow true h', .im (.int m), .un, .un, .un, .un, .un, y] ∧ acc = dints ps ∧ HandOk h' ∧ ps.length = i + 1 ∧ ∀ v ∈ ps, 0 ≤ v ∧ v < 12))) := by
    rintro i d acc ρ hd ⟨ps, h', x, rfl, rfl, H', hl, hp⟩
    obtain ⟨k, h2, e, hk, H2⟩ := ldraw H' (b := 12) (by decide) (by decide)
    refine ⟨[Sl.ow true h', .im (.int m), .un, .un, .un, .un, .un, .im d], by simp, .inl ⟨_, .im (.int k), [Sl.ow true h2, .im (.int m), .un, .un, .un, .un, .un, .im d], _, _, rfl, by simp -implicitDefEqProofs [e], rfl, ps ++ [(k : Int)], h2, .im d, rfl, by simp [dints], H2, by simp [hl], fun v hv => ?_⟩⟩
    rcases List.mem_append.mp hv with z | z
    · exact hp v z
    · rw [List.mem_singleton.mp z]; omega
  obtain ⟨acc, ρ', h1, ⟨ps, h', x, h2, h3, h4, h5, h6⟩, _⟩ := lcD_by (vs := [7]) (tg := .nm 7) (tt := tYesM) (el := (xCallO F_law_draw (xACons (xVar 0) (xACons (xC (.int 12)) xANil)))) (ds := nats (2 * m)) (ρ := [.ow true h, .im (.int m), .un, .un, .un, .un, .un, .un])
    (fun i acc ρ => ∃ (ps : List Int) (h' : Ob) (x : Sl), ρ = [Sl.ow true h', .im (.int m), .un, .un, .un, .un, .un, x] ∧ acc = dints ps ∧ HandOk h' ∧ ps.length = i ∧ ∀ v ∈ ps, 0 ≤ v ∧ v < 12) (by rw [nats_length]; exact Nat.le_trans (show 2 * m ≤ 8 by omega) (by decide)) step ⟨[], h, .un, rfl, rfl, H, rfl, fun v hv => by cases hv⟩
  subst h2 h3
  rw [nats_length] at h5
  exact ⟨ps, h', x, h1, h4, h5, h6⟩
def bB : MS := (sSeq (sPar [5, 6] (xACons (xCallO F_law_draw (xACons (xVar 0) (xACons (xOp dMul (xC (.int 2)) (xVar 1)) xANil))) (xACons (xCallO F_law_draw (xACons (xVar 0) (xACons (xOp dMul (xC (.int 2)) (xVar 1)) xANil))) xANil))) (sIf (xB (xOp dNe (xVar 5) (xVar 6))) (sDrop (xLm 3 fAppend (xACons (xTup (xACons (xVar 5) (xACons (xVar 6) (xACons (xOp dSub (xOp dSub (xOp dIx (xVar 2) (xVar 6)) (xOp dIx (xVar 2) (xVar 5))) (xCallO F_law_any (xACons (xVar 0) (xACons (xLst (xACons (xC (.int 0)) (xACons (xC (.int 0)) (xACons (xC (.int 1)) (xACons (xC (.int 3)) (xACons (xC (.int 0)) (xACons (xNeg (xC (.int 1))) xANil))))))) xANil)))) xANil)))) xANil))) sSkip))
theorem law_bounds_ok {m : Nat} {h : Ob} (H : HandOk h) (h0 : 1 ≤ m) (hm : m ≤ 4) :
    ∃ (E : List Ed) (h' : Ob), F_law_bounds [.ow true h, .im (.int m)] = some (.ok (.im (.tup (eds E))) [.ow true h', .im (.int m)]) ∧ HandOk h' ∧ E.length ≤ 6 ∧ ∀ e ∈ E, Good m 14 e := by
  obtain ⟨ps, h1, x, e1, H1, pl, pb⟩ := places_drawn (m := m) H hm
  obtain ⟨k, h2, e2, hk, H2⟩ := ldraw H1 (b := 7) (by decide) (by decide)
  have e0 : (2 : Int) * (m : Int) = ((2 * m : Nat) : Int) := by push_cast; rfl
  obtain ⟨ρ', f1, h3, E, t4, t5, t6, rfl, H3, el, eg, _⟩ := forD_all (tg := .nm 4) (ds := nats k) (b := bB)
    (fun i ρ => ∃ (h' : Ob) (E : List Ed) (t4 t5 t6 : Sl), ρ = [.ow true h', .im (.int m), .ow false (.lst (dints ps)), .ow false (.lst (eds E)), t4, t5, t6, .un] ∧ HandOk h' ∧ E.length ≤ i ∧ (∀ e ∈ E, Good m 14 e) ∧ Plain t4 ∧ Plain t5 ∧ Plain t6) (by
      rintro i d ρ hd ⟨h', E, t4, t5, t6, rfl, H', el, eg, q4, q5, q6⟩
      have q4' : isPar (some t4) = false := q4
      have q5' : isPar (some t5) = false := q5
      have q6' : isPar (some t6) = false := q6
      obtain ⟨rfl, hi⟩ := nats_get hd
      obtain ⟨u, h4, d1, hu, H4⟩ := ldraw H' (b := ((2 * m : Nat) : Int)) (by omega) (by omega)
      obtain ⟨v, h5, d2, hv, H5⟩ := ldraw H4 (b := ((2 * m : Nat) : Int)) (by omega) (by omega)
      have d1' := d1
      have d2' := d2
      rw [← e0] at d1' d2'
      refine ⟨[.ow true h', .im (.int m), .ow false (.lst (dints ps)), .ow false (.lst (eds E)), .im (.int i), t5, t6, .un], by simp [q4'], ?_⟩
      by_cases q : (u : Int) = (v : Int)
      · refine ⟨_, .inl ?_, h5, E, .im (.int i), .im (.int u), .im (.int v), rfl, H5, by omega, eg, rfl, rfl, rfl⟩
        simp -implicitDefEqProofs [bB, dMul_int, mul2, d1', d2', q5', q6', q]
      · have lu : u < ps.length := by omega
        have lv : v < ps.length := by omega
        have du : dIx (.lst (dints ps)) (.int u) = some (.pd (.int ps[u])) := dIx_lst (by rw [dints_get, List.getElem?_eq_getElem lu]; rfl)
        have dv : dIx (.lst (dints ps)) (.int v) = some (.pd (.int ps[v])) := dIx_lst (by rw [dints_get, List.getElem?_eq_getElem lv]; rfl)
        obtain ⟨w, h6, mem, d3, H6⟩ := lany H5 (ds := [.int 0, .int 0, .int 1, .int 3, .int 0, .int (-1)]) (by decide) (by decide)
        obtain ⟨w', rfl, wl, wh⟩ : ∃ w' : Int, w = .int w' ∧ -1 ≤ w' ∧ w' ≤ 3 := by
          simp at mem
          rcases mem with rfl | rfl | rfl | rfl | rfl <;> exact ⟨_, rfl, by decide, by decide⟩
        have hz : (eds E).length < sizeLine := by
          rw [eds_length]; exact Nat.lt_of_le_of_lt (show E.length ≤ 7 by omega) (by decide)
        have ed : eds (E ++ [⟨u, v, ps[v] - ps[u] - w'⟩]) = eds E ++ [.tup [.int u, .int v, .int (ps[v] - ps[u] - w')]] := by simp [eds, edD]
        have b1 := pb _ (List.getElem_mem lu)
        have b2 := pb _ (List.getElem_mem lv)
        refine ⟨_, .inl ?_, h6, E ++ [⟨u, v, ps[v] - ps[u] - w'⟩], .im (.int i), .im (.int u), .im (.int v), rfl, H6, by simp; omega, fun e he => ?_, rfl, rfl, rfl⟩
        · simp -implicitDefEqProofs [bB, dMul_int, mul2, d1', d2', q5', q6', q, du, dv, d3, fAppend_at hz, ed]
        · rcases List.mem_append.mp he with z | z
          · exact eg e z
          · rw [List.mem_singleton.mp z]
            exact ⟨by show u < 2 * m; omega, by show v < 2 * m; omega, by show u ≠ v; omega, by show (-14 : Int) ≤ ps[v] - ps[u] - w'; omega, by show ps[v] - ps[u] - w' ≤ (14 : Int); omega⟩)
    (ρ := [.ow true h2, .im (.int m), .ow false (.lst (dints ps)), .ow false (.lst (eds [])), .un, .un, .un, .un]) ⟨h2, [], .un, .un, .un, rfl, H2, by simp, fun e he => (by cases he), rfl, rfl, rfl⟩
  rw [nats_length] at el
  refine ⟨E, h3, ?_, H3, by omega, eg⟩
  have ha : (xACons (xOp dMul (xC (.int 2)) (xVar 1)) xANil) [.ow true h, .im (.int m), .un, .un, .un, .un, .un, .un] = some (.ok [.im (.int ((2 * m : Nat) : Int))] [.ow true h, .im (.int m), .un, .un, .un, .un, .un, .un]) := by
    rw [← e0]
    simp -implicitDefEqProofs [dMul_int, mul2]
  have hr := iRg1_ok ha (show 2 * m ≤ 1000000 by omega)
  have ha2 : (xACons (xCallO F_law_draw (xACons (xVar 0) (xACons (xC (.int 7)) xANil))) xANil) [.ow true h1, .im (.int m), .ow false (.lst (dints ps)), .ow false (.lst (eds [])), .un, .un, .un, .un] = some (.ok [.im (.int (k : Nat))] [.ow true h2, .im (.int m), .ow false (.lst (dints ps)), .ow false (.lst (eds [])), .un, .un, .un, .un]) := by
    simp -implicitDefEqProofs [e2]
  have hr2 := iRg1_ok ha2 (show k ≤ 1000000 by omega)
  unfold bB at f1
  have en : eds [] = [] := rfl
  rw [en] at hr2 f1
  unfold F_law_bounds
  rw [fnM_at]
  simp -implicitDefEqProofs [b_law_bounds, -iRg1_at, hr, e1, hr2, f1]
end L2.K55
namespace L2.K55
open PySem PySem.Spec PyProof.Rows L2.DL L2.BF

theorem Good.mono {m : Nat} {W W' : Int} {e : Ed} (g : Good m W e) (h : W ≤ W') : Good m W' e := ⟨g.a, g.b, g.ne, by have := g.lo; omega, by have := g.hi; omega⟩
theorem z0_at {n s : Nat} (h : s < n) : z0 n s = some 0 := by
  show (List.replicate n (0 : Int))[s]? = some 0
  rw [List.getElem?_replicate, if_pos h]
/-- with one bound more -/
theorem more {m s t : Nat} {E : List Ed} {W d : Int} (hW : 0 ≤ W) (hg : ∀ e ∈ E, Good m W e) (hf : feas m E) (hs : s < 2 * m) : feas m (E ++ [⟨t, s, -d⟩]) ↔ flag (it (E ++ triv m) (one0 s) (2 * m) t) d = true := by
  have fl : ∀ y : Option Int, flag y d = true ↔ ole y (some d) := fun y => by
    cases y <;> simp [flag, ole]
  rw [fl]
  have mem : ∀ e, e ∈ (E ++ [(⟨t, s, -d⟩ : Ed)]) ++ triv m ↔ (e ∈ E ++ triv m ∨ e = ⟨t, s, -d⟩) := fun e => by
    simp only [List.mem_append, List.mem_singleton]
    constructor
    · rintro ((h | h) | h)
      · exact .inl (.inl h)
      · exact .inr h
      · exact .inl (.inr h)
    · rintro ((h | h) | h)
      · exact .inl (.inl h)
      · exact .inr h
      · exact .inl (.inr h)
  have nn : ∀ z : Vc, le (z0 (2 * m)) z → z s ≠ none := fun z hz e => by
    have := hz s
    rw [z0_at hs, e] at this
    exact this
  constructor
  · rintro ⟨z, fz, lz⟩
    exact more_only (fun e he => fz e ((mem e).mpr (.inl he))) (nn z lz) (fz _ ((mem _).mpr (.inr rfl)))
  · intro h
    obtain ⟨u, fu, lu⟩ := hf
    obtain ⟨z, fz, uz, hz⟩ := more_ok (fun e he => (good_all hW hg e he).b) fu (nn u lu) h
    refine ⟨z, fun e he => ?_, le_trans lu uz⟩
    rcases (mem e).mp he with q | q
    · exact fz e q
    · subst q; exact hz
theorem far_small {m s t : Nat} {E : List Ed} (hm : m ≤ 4) (hE : E.length ≤ 6) (hg : ∀ e ∈ E, Good m 14 e) : ∀ d, it (E ++ triv m) (one0 s) (2 * m) t = some d → -1120 ≤ d ∧ d ≤ 1120 := fun d hd => by
  have b0 : bd 0 (one0 s) := fun v x hx => by
    unfold one0 at hx
    split at hx
    · cases hx; omega
    · cases hx
  have := it_bd (w := 14) b0 (fun e he => ⟨(good_all (by decide) hg e he).lo, (good_all (by decide) hg e he).hi⟩) (2 * m) t d hd
  have hl : (E ++ triv m).length ≤ 10 := by simp [triv]; omega
  generalize (E ++ triv m).length = l at this hl
  have h1 : (((2 * m : Nat) : Int)) * ((l : Int) * 14) ≤ 8 * 140 := by
    refine Int.mul_le_mul (by omega) (by omega) (by omega) (by omega)
  omega
def bP : MS := (sSeq (sSet 9 (xOrV (xIsN false (xVar 5)) (xOp dLe (xVar 5) (xVar 8)))) (sSeq (sIf (xB (xOp dNe (xFn fRepr (xACons (xCall F_can_be_near (xACons (xVar 1) (xACons (xVar 2) (xACons (xVar 3) (xACons (xVar 4) (xACons (xVar 8) xANil)))))) xANil)) (xFn fRepr (xACons (xVar 9) xANil)))) (sRet (xC (.bl false))) sSkip) (sIf (xAnd (xB (xOp dNe (xVar 3) (xVar 4))) (xB (xOp dNe (xOp dEq (xOp dIx (xCall F_places_shown (xACons (xVar 1) (xACons (xOp dAdd (xVar 2) (xTup (xACons (xTup (xACons (xVar 4) (xACons (xVar 3) (xACons (xOp dSub (xC (.int 0)) (xVar 8)) xANil)))) xANil))) xANil))) (xC (.int 0))) (xC (.str "places"))) (xVar 9)))) (sRet (xC (.bl false))) sSkip)))
theorem pair_turn {m s t : Nat} {E : List Ed} {number : Int} (h0 : 1 ≤ m) (hm : m ≤ 4) (hE : E.length ≤ 6) (hg : ∀ e ∈ E, Good m 14 e) (hf : feas m E) (hs : s < 2 * m) (ht : t < 2 * m) (hn : -10000 ≤ number ∧ number ≤ 10000) (a0 a6 a7 t9 : Sl) (q9 : isPar (some t9) = false) :
    bP [a0, .im (.int m), .im (.tup (eds E)), .im (.int s), .im (.int t), .im (oD (it (E ++ triv m) (one0 s) (2 * m) t)), a6, a7, .im (.int number), t9] =
      some (.nx [a0, .im (.int m), .im (.tup (eds E)), .im (.int s), .im (.int t), .im (oD (it (E ++ triv m) (one0 s) (2 * m) t)), a6, a7, .im (.int number), .im (.bl (flag (it (E ++ triv m) (one0 s) (2 * m) t) number))]) := by
  have hg' : ∀ e ∈ E, Good m 10000 e := fun e he => (hg e he).mono (by decide)
  have near := near_ok (far := number) h0 (by omega) (by omega) hg' hf hs ht
  have mo := more (t := t) (d := number) (by decide) hg hf hs
  generalize hy : it (E ++ triv m) (one0 s) (2 * m) t = y at near mo
  have fval : (xOrV (xIsN false (xVar 5)) (xOp dLe (xVar 5) (xVar 8))) [a0, .im (.int m), .im (.tup (eds E)), .im (.int s), .im (.int t), .im (oD y), a6, a7, .im (.int number), t9] = some (.ok (.im (.bl (flag y number))) [a0, .im (.int m), .im (.tup (eds E)), .im (.int s), .im (.int t), .im (oD y), a6, a7, .im (.int number), t9]) := by
    cases y <;> simp -implicitDefEqProofs [oD, flag]
  by_cases q : s = t
  · subst q
    simp -implicitDefEqProofs only [bP, sSeq_at, sSet_at, fval, sbn_ok]
    simp -implicitDefEqProofs [q9, near, repr_bl, ne_bl]
  · have hl : (E ++ [(⟨t, s, -number⟩ : Ed)]).length ≤ 40 := by simp; omega
    have hg2 : ∀ e ∈ E ++ [(⟨t, s, -number⟩ : Ed)], Good m 10000 e := fun e he => by
      rcases List.mem_append.mp he with z | z
      · exact hg' e z
      · rw [List.mem_singleton.mp z]
        exact ⟨ht, hs, fun z => q z.symm, by show (-10000 : Int) ≤ -number; omega, by show -number ≤ (10000 : Int); omega⟩
    obtain ⟨w, x, sh, al⟩ := shown_ok h0 (by omega) hl hg2
    have ed : eds (E ++ [⟨t, s, -number⟩]) = eds E ++ [.tup [.int t, .int s, .int (-number)]] := by simp [eds, edD]
    have ad : dAdd (.tup (eds E)) (.tup [.tup [.int t, .int s, .int (-number)]]) = some (.pd (.tup (eds E ++ [.tup [.int t, .int s, .int (-number)]]))) := by
      have hz : (eds E).length + [D.tup [D.int t, .int s, .int (-number)]].length ≤ sizeLine := by
        simp; exact Nat.le_trans (show E.length + 1 ≤ 7 by omega) (by decide)
      simp only [dAdd, if_pos hz]
    rw [ed] at sh
    have qq : ¬ ((s : Int) = (t : Int)) := by omega
    rcases al with ⟨rfl, ff⟩ | ⟨rfl, ff⟩
    · have fe := mo.mp ff
      rw [fe] at fval near
      rw [fe]
      simp -implicitDefEqProofs only [bP, sSeq_at, sSet_at, fval, sbn_ok]
      simp -implicitDefEqProofs [q9, near, repr_bl, ne_bl, qq, ad, sh, eq_pl]
    · have fe : flag y number = false := by
        cases e : flag y number with
        | false => rfl
        | true => exact absurd (mo.mpr e) ff
      rw [fe] at fval near
      rw [fe]
      simp -implicitDefEqProofs only [bP, sSeq_at, sSet_at, fval, sbn_ok]
      simp -implicitDefEqProofs [q9, near, repr_bl, ne_bl, qq, ad, sh, eq_ro]
def xN7 : M Rv := (xOp dAdd (xOrT (xVar 5) (xC (.int 0))) (xCallO F_law_any (xACons (xVar 0) (xACons (xLst (xACons (xNeg (xC (.int 1))) (xACons (xC (.int 0)) (xACons (xC (.int 1)) xANil)))) xANil))))
def bPR : MS := (sSeq (sIf (xB (xOp dNe (xFn fRepr (xACons (xCall F_surely (xACons (xVar 1) (xACons (xVar 2) (xACons (xVar 3) (xACons (xVar 4) xANil))))) xANil)) (xFn fRepr (xACons (xVar 5) xANil)))) (sRet (xC (.bl false))) sSkip) (sSeq (sSet 6 (xOp dSub (xCallO F_law_draw (xACons (xVar 0) (xACons (xC (.int 9)) xANil))) (xC (.int 4)))) (sSeq (sSet 7 xN7) (sSeq (sFor (.nm 8) (iAny (xTup (xACons (xVar 6) (xACons (xVar 7) xANil)))) (sSeq (sSet 9 (xOrV (xIsN false (xVar 5)) (xOp dLe (xVar 5) (xVar 8)))) (sSeq (sIf (xB (xOp dNe (xFn fRepr (xACons (xCall F_can_be_near (xACons (xVar 1) (xACons (xVar 2) (xACons (xVar 3) (xACons (xVar 4) (xACons (xVar 8) xANil)))))) xANil)) (xFn fRepr (xACons (xVar 9) xANil)))) (sRet (xC (.bl false))) sSkip) (sIf (xAnd (xB (xOp dNe (xVar 3) (xVar 4))) (xB (xOp dNe (xOp dEq (xOp dIx (xCall F_places_shown (xACons (xVar 1) (xACons (xOp dAdd (xVar 2) (xTup (xACons (xTup (xACons (xVar 4) (xACons (xVar 3) (xACons (xOp dSub (xC (.int 0)) (xVar 8)) xANil)))) xANil))) xANil))) (xC (.int 0))) (xC (.str "places"))) (xVar 9)))) (sRet (xC (.bl false))) sSkip)))) (sRet (xC (.bl true)))))))
theorem bPR_eq : b_law_is_pair_right = bPR := rfl
theorem pair_ok {m s t : Nat} {E : List Ed} {h : Ob} (H : HandOk h) (h0 : 1 ≤ m) (hm : m ≤ 4) (hE : E.length ≤ 6) (hg : ∀ e ∈ E, Good m 14 e) (hf : feas m E) (hs : s < 2 * m) (ht : t < 2 * m) :
    ∃ h', F_law_is_pair_right [.ow true h, .im (.int m), .im (.tup (eds E)), .im (.int s), .im (.int t), .im (oD (it (E ++ triv m) (one0 s) (2 * m) t))] = some (.ok (.im (.bl true)) [.ow true h', .im (.int m), .im (.tup (eds E)), .im (.int s), .im (.int t), .im (oD (it (E ++ triv m) (one0 s) (2 * m) t))]) ∧ HandOk h' := by
  have hg' : ∀ e ∈ E, Good m 10000 e := fun e he => (hg e he).mono (by decide)
  have su := surely_ok h0 (by omega) (by omega) hg' hf hs ht
  have sm := far_small (s := s) (t := t) hm hE hg
  have turn : ∀ (number : Int), -10000 ≤ number ∧ number ≤ 10000 → ∀ (a0 a6 a7 t9 : Sl), isPar (some t9) = false → _ := fun number hn a0 a6 a7 t9 q9 => pair_turn h0 hm hE hg hf hs ht hn a0 a6 a7 t9 q9
  generalize hy : it (E ++ triv m) (one0 s) (2 * m) t = y at su sm turn
  obtain ⟨sh, rp⟩ := repr_o (y := y) fun d hd => by have := sm d hd; omega
  obtain ⟨k, h1, e1, hk, H1⟩ := ldraw H (b := 9) (by decide) (by decide)
  obtain ⟨w, h2, mem, e2, H2⟩ := lany H1 (ds := [.int (-1), .int 0, .int 1]) (by decide) (by decide)
  obtain ⟨w', rfl, wl, wh⟩ : ∃ w' : Int, w = .int w' ∧ -1 ≤ w' ∧ w' ≤ 1 := by
    simp at mem
    rcases mem with rfl | rfl | rfl <;> exact ⟨_, rfl, by decide, by decide⟩
  obtain ⟨near, hnear, enear⟩ : ∃ near : Int, (-10000 ≤ near ∧ near ≤ 10000) ∧ ∀ t8 t9 : Sl, xN7 [.ow true h1, .im (.int m), .im (.tup (eds E)), .im (.int s), .im (.int t), .im (oD y), .im (.int ((k : Int) - 4)), .un, t8, t9] = some (.ok (.im (.int near)) [.ow true h2, .im (.int m), .im (.tup (eds E)), .im (.int s), .im (.int t), .im (oD y), .im (.int ((k : Int) - 4)), .un, t8, t9]) := by
    cases y with
    | none =>
      refine ⟨0 + w', by omega, fun t8 t9 => ?_⟩
      simp -implicitDefEqProofs [xN7, oD, truD, e2]
    | some d =>
      have := sm d rfl
      by_cases z : d = 0
      · subst z
        refine ⟨0 + w', by omega, fun t8 t9 => ?_⟩
        simp -implicitDefEqProofs [xN7, oD, truD, e2]
      · refine ⟨d + w', by omega, fun t8 t9 => ?_⟩
        have z' : (d != 0) = true := by simpa using z
        simp -implicitDefEqProofs [xN7, oD, truD, e2, z, z']
  obtain ⟨ρ', f1, t8, t9, f2, _⟩ := forD_all (tg := .nm 8) (ds := [.int ((k : Int) - 4), .int near]) (b := bP)
    (fun i ρ => ∃ t8 t9, ρ = [.ow true h2, .im (.int m), .im (.tup (eds E)), .im (.int s), .im (.int t), .im (oD y), .im (.int ((k : Int) - 4)), .im (.int near), t8, t9] ∧ Plain t8 ∧ Plain t9) (by
      rintro i d ρ hd ⟨t8, t9, rfl, q8, q9⟩
      have q8' : isPar (some t8) = false := q8
      obtain ⟨number, rfl, hn⟩ : ∃ number : Int, d = .int number ∧ -10000 ≤ number ∧ number ≤ 10000 := by
        have := List.mem_of_getElem? hd
        rcases List.mem_cons.mp this with z | z
        · exact ⟨_, z, by omega, by omega⟩
        · rw [List.mem_singleton.mp z]; exact ⟨_, rfl, hnear⟩
      exact ⟨[.ow true h2, .im (.int m), .im (.tup (eds E)), .im (.int s), .im (.int t), .im (oD y), .im (.int ((k : Int) - 4)), .im (.int near), .im (.int number), t9], by simp [q8'], _, .inl (turn number hn _ _ _ t9 q9), _, _, rfl, rfl, rfl⟩)
    (ρ := [.ow true h2, .im (.int m), .im (.tup (eds E)), .im (.int s), .im (.int t), .im (oD y), .im (.int ((k : Int) - 4)), .im (.int near), .un, .un]) ⟨.un, .un, rfl, rfl, rfl⟩
  subst f2
  refine ⟨h2, ?_, H2⟩
  unfold bP at f1
  unfold F_law_is_pair_right
  rw [fnM_at, bPR_eq]
  simp -implicitDefEqProofs [bPR, su, rp, ne_same, e1, enear, f1]
end L2.K55
namespace L2.K55
open PySem PySem.Spec PyProof.Rows L2.DL L2.BF

theorem lhand_eq : F_law_hand = fnM 1 3 (bHand 4119) := rfl
theorem v1 : it ([⟨1, 2, 3⟩] ++ triv 2) (one0 0) 4 3 = some 3 := by decide
theorem v2 : it ([⟨1, 2, 3⟩] ++ triv 2) (one0 3) 4 0 = none := by decide
theorem v3 : it ([] ++ triv 1) (one0 0) 2 1 = some 0 := by decide
theorem feas2 : feas 2 [⟨1, 2, 3⟩] := by
  refine ⟨vI [0, 0, 3, 3], fun e he => ?_, fun v => ?_⟩
  · have he : e ∈ [(⟨1, 2, 3⟩ : Ed), ⟨0, 1, 0⟩, ⟨2, 3, 0⟩] := he
    simp at he
    rcases he with rfl | rfl | rfl
    · show (0 : Int) + 3 ≤ 3; decide
    · show (0 : Int) + 0 ≤ 0; decide
    · show (3 : Int) + 0 ≤ 3; decide
  · match v with
    | 0 => show (0 : Int) ≤ 0; decide
    | 1 => show (0 : Int) ≤ 0; decide
    | 2 => show (0 : Int) ≤ 3; decide
    | 3 => show (0 : Int) ≤ 3; decide
    | n + 4 => exact trivial
theorem feas1 : feas 1 [] := by
  refine ⟨vI [0, 0], fun e he => ?_, fun v => ?_⟩
  · have he : e ∈ [(⟨0, 1, 0⟩ : Ed)] := he
    simp at he
    subst he
    show (0 : Int) + 0 ≤ 0; decide
  · match v with
    | 0 => show (0 : Int) ≤ 0; decide
    | 1 => show (0 : Int) ≤ 0; decide
    | n + 2 => exact trivial
theorem g2 : ∀ e ∈ [(⟨1, 2, 3⟩ : Ed)], Good 2 10000 e := fun e he => by
  rw [List.mem_singleton.mp he]
  exact ⟨by decide, by decide, by decide, by decide, by decide⟩
abbrev T3 : D := .tup [.tup [.int 1, .int 2, .int 3]]
theorem s1 : F_surely [.im (.int 2), .im T3, .im (.int 0), .im (.int 3)] = some (.ok (.im (.int 3)) [.im (.int 2), .im T3, .im (.int 0), .im (.int 3)]) := by
  have := surely_ok (m := 2) (s := 0) (t := 3) (by decide) (by decide) (by decide) g2 feas2 (by decide) (by decide)
  rw [v1] at this
  exact this
theorem s2 : F_surely [.im (.int 2), .im T3, .im (.int 3), .im (.int 0)] = some (.ok (.im .non) [.im (.int 2), .im T3, .im (.int 3), .im (.int 0)]) := by
  have := surely_ok (m := 2) (s := 3) (t := 0) (by decide) (by decide) (by decide) g2 feas2 (by decide) (by decide)
  rw [v2] at this
  exact this
theorem s3 : F_surely [.im (.int 1), .im (.tup []), .im (.int 0), .im (.int 1)] = some (.ok (.im (.int 0)) [.im (.int 1), .im (.tup []), .im (.int 0), .im (.int 1)]) := by
  have := surely_ok (m := 1) (s := 0) (t := 1) (E := []) (by decide) (by decide) (by decide) (fun e he => by cases he) feas1 (by decide) (by decide)
  rw [v3] at this
  exact this
theorem s4 : F_can_be_near [.im (.int 2), .im T3, .im (.int 0), .im (.int 3), .im (.int 2)] = some (.ok (.im (.bl false)) [.im (.int 2), .im T3, .im (.int 0), .im (.int 3), .im (.int 2)]) := by
  have := near_ok (m := 2) (s := 0) (t := 3) (far := 2) (by decide) (by decide) (by decide) g2 feas2 (by decide) (by decide)
  rw [v1] at this
  exact this
/-- the ends drawn -/
theorem ends_drawn {m : Nat} {h : Ob} (H : HandOk h) (h0 : 1 ≤ m) (hm : m ≤ 4) (a0 a2 a4 a5 a6 a7 : Sl) :
    ∃ (ks : List Nat) (h' : Ob) (x : Sl), lcD [8] (.nm 8) tYesM (xCallO F_law_draw (xACons (xVar 1) (xACons (xOp dMul (xC (.int 2)) (xVar 3)) xANil))) (nats 4) [] [a0, .ow false h, a2, .im (.int m), a4, a5, a6, a7, .un] = some (.ok (ks.map fun (k : Nat) => D.int (k : Int)) [a0, .ow false h', a2, .im (.int m), a4, a5, a6, a7, x]) ∧
      HandOk h' ∧ ∀ k ∈ ks, k < 2 * m := by
  have e0 : (2 : Int) * (m : Int) = ((2 * m : Nat) : Int) := by push_cast; rfl
  have step : ∀ (i : Nat) (d : D) (acc : List D) (ρ : En), (nats 4)[i]? = some d → (∃ (ks : List Nat) (h' : Ob) (x : Sl), ρ = [a0, .ow false h', a2, .im (.int m), a4, a5, a6, a7, x] ∧ acc = (ks.map fun (k : Nat) => D.int (k : Int)) ∧ HandOk h' ∧ ∀ k ∈ ks, k < 2 * m) → ∃ ρ1, bindT (.nm 8) d (wipeE ρ [8]) = some ρ1 ∧
      ((∃ ρ2 r ρ3 x ρ4, tYesM ρ1 = some (.ok true ρ2) ∧ (xCallO F_law_draw (xACons (xVar 1) (xACons (xOp dMul (xC (.int 2)) (xVar 3)) xANil))) ρ2 = some (.ok r ρ3) ∧ fz1 r ρ3 = some (x, ρ4) ∧ (∃ (ks : List Nat) (h' : Ob) (y : Sl), ρ4 = [a0, .ow false h', a2, .im (.int m), a4, a5, a6, a7, y] ∧ acc ++ [x] = (ks.map fun (k : Nat) => D.int (k : Int)) ∧ HandOk h' ∧ ∀ k ∈ ks, k < 2 * m)) ∨
        (∃ ρ2, tYesM ρ1 = some (.ok false ρ2) ∧ (∃ (ks : List Nat) (h' : Ob) (y : Sl), ρ2 = [a0, .ow false h', a2, .im (.int m), a4, a5, a6, a7, y] ∧ acc = (ks.map fun (k : Nat) => D.int (k : Int)) ∧ HandOk h' ∧ ∀ k ∈ ks, k < 2 * m))) := by
    rintro i d acc ρ hd ⟨ks, h', x, rfl, rfl, H', hp⟩
    obtain ⟨k, h2, e, hk, H2⟩ := ldraw H' (b := ((2 * m : Nat) : Int)) (by omega) (by omega)
    rw [← e0] at e
    refine ⟨[a0, .ow false h', a2, .im (.int m), a4, a5, a6, a7, .im d], by simp, .inl ⟨_, .im (.int k), [a0, .ow false h2, a2, .im (.int m), a4, a5, a6, a7, .im d], _, _, rfl, by simp -implicitDefEqProofs [dMul_int, mul2, e], rfl, ks ++ [k], h2, .im d, rfl, by simp, H2, fun v hv => ?_⟩⟩
    rcases List.mem_append.mp hv with z | z
    · exact hp v z
    · rw [List.mem_singleton.mp z]; omega
  obtain ⟨acc, ρ', h1, ⟨ks, h', x, h2, h3, h4, h5⟩, _⟩ := lcD_by (vs := [8]) (tg := .nm 8) (tt := tYesM) (el := (xCallO F_law_draw (xACons (xVar 1) (xACons (xOp dMul (xC (.int 2)) (xVar 3)) xANil)))) (ds := nats 4) (ρ := [a0, .ow false h, a2, .im (.int m), a4, a5, a6, a7, .un])
    (fun i acc ρ => ∃ (ks : List Nat) (h' : Ob) (x : Sl), ρ = [a0, .ow false h', a2, .im (.int m), a4, a5, a6, a7, x] ∧ acc = (ks.map fun (k : Nat) => D.int (k : Int)) ∧ HandOk h' ∧ ∀ k ∈ ks, k < 2 * m) (by rw [nats_length]; decide) step ⟨[], h, .un, rfl, rfl, H, fun v hv => by cases hv⟩
  subst h2 h3
  exact ⟨ks, h', x, h1, h4, h5⟩
def bQ : MS := (sIf (xNot (xB (xCallO F_law_is_pair_right (xACons (xVar 1) (xACons (xVar 3) (xACons (xVar 4) (xACons (xVar 5) (xACons (xVar 7) (xACons (xOp dIx (xVar 6) (xVar 7)) xANil))))))))) (sRet (xC (.bl false))) sSkip)
theorem pairs_ok {m s : Nat} {E : List Ed} {h : Ob} {l : List (Option Int)} {ks : List Nat} (H : HandOk h) (h0 : 1 ≤ m) (hm : m ≤ 4) (hE : E.length ≤ 6) (hg : ∀ e ∈ E, Good m 14 e) (hf : feas m E) (hs : s < 2 * m) (hk : ∀ k ∈ ks, k < 2 * m) (ll : l.length = 2 * m) (lx : vO l = it (E ++ triv m) (one0 s) (2 * m)) (a0 a2 a7 a8 : Sl) (q7 : isPar (some a7) = false) :
    ∃ (h' : Ob) (t7 : Sl), forD (.nm 7) bQ (ks.map fun (k : Nat) => D.int (k : Int)) [a0, .ow false h, a2, .im (.int m), .im (.tup (eds E)), .im (.int s), .im (.lst (ods l)), a7, a8] = some (.nx [a0, .ow false h', a2, .im (.int m), .im (.tup (eds E)), .im (.int s), .im (.lst (ods l)), t7, a8]) ∧ HandOk h' ∧ Plain t7 := by
  obtain ⟨ρ', f1, h', t7, rfl, H', q⟩ := forD_all (tg := .nm 7) (ds := ks.map fun (k : Nat) => D.int (k : Int)) (b := bQ)
    (fun i ρ => ∃ (h' : Ob) (t7 : Sl), ρ = [a0, .ow false h', a2, .im (.int m), .im (.tup (eds E)), .im (.int s), .im (.lst (ods l)), t7, a8] ∧ HandOk h' ∧ Plain t7) (by
      rintro i d ρ hd ⟨h', t7, rfl, H', q⟩
      have q' : isPar (some t7) = false := q
      obtain ⟨t, ht, rfl⟩ := List.mem_map.mp (List.mem_of_getElem? hd)
      obtain ⟨h2, e, H2⟩ := pair_ok H' h0 hm hE hg hf hs (hk t ht)
      have di := row_at ll lx (hk t ht)
      refine ⟨[a0, .ow false h', a2, .im (.int m), .im (.tup (eds E)), .im (.int s), .im (.lst (ods l)), .im (.int t), a8], by simp [q'], [a0, .ow false h2, a2, .im (.int m), .im (.tup (eds E)), .im (.int s), .im (.lst (ods l)), .im (.int t), a8], .inl ?_, h2, .im (.int t), rfl, H2, rfl⟩
      simp -implicitDefEqProofs [bQ, di, e])
    (ρ := [a0, .ow false h, a2, .im (.int m), .im (.tup (eds E)), .im (.int s), .im (.lst (ods l)), a7, a8]) ⟨h, a7, rfl, H, q7⟩
  exact ⟨h', t7, f1, H', q⟩
end L2.K55
namespace L2.K55
open PySem PySem.Spec PyProof.Rows L2.DL L2.BF

theorem four (ρ : En) : iRg1 (xACons (xC (.int 4)) xANil) ρ = some (.ok (nats 4) ρ) := iRg1_ok (k := 4) (by simp -implicitDefEqProofs) (by decide)
def bL : MS := (sSeq (sSet 3 (xOp dAdd (xC (.int 1)) (xCallO F_law_draw (xACons (xVar 1) (xACons (xC (.int 4)) xANil))))) (sSeq (sSet 4 (xCallO F_law_bounds (xACons (xVar 1) (xACons (xVar 3) xANil)))) (sIf (xB (xIsN true (xCall F_law_least (xACons (xVar 3) (xACons (xVar 4) xANil))))) (sSeq (sSet 5 (xCallO F_law_draw (xACons (xVar 1) (xACons (xOp dMul (xC (.int 2)) (xVar 3)) xANil)))) (sSeq (sSet 6 (xCall F_law_far (xACons (xVar 3) (xACons (xVar 4) (xACons (xVar 5) xANil))))) (sFor (.nm 7) (iAny (xLc [8] (.nm 8) (iRg1 (xACons (xC (.int 4)) xANil)) tYesM (xCallO F_law_draw (xACons (xVar 1) (xACons (xOp dMul (xC (.int 2)) (xVar 3)) xANil))))) (sIf (xNot (xB (xCallO F_law_is_pair_right (xACons (xVar 1) (xACons (xVar 3) (xACons (xVar 4) (xACons (xVar 5) (xACons (xVar 7) (xACons (xOp dIx (xVar 6) (xVar 7)) xANil))))))))) (sRet (xC (.bl false))) sSkip)))) sSkip)))
theorem lap_ok {h : Ob} (H : HandOk h) (a0 a2 t3 t4 t5 t6 t7 : Sl) (q : isPar (some t3) = false ∧ isPar (some t4) = false ∧ isPar (some t5) = false ∧ isPar (some t6) = false ∧ isPar (some t7) = false) :
    ∃ (h' : Ob) (u3 u4 u5 u6 u7 : Sl), bL [a0, .ow false h, a2, t3, t4, t5, t6, t7, .un] = some (.nx [a0, .ow false h', a2, u3, u4, u5, u6, u7, .un]) ∧ HandOk h' ∧ (Plain u3 ∧ Plain u4 ∧ Plain u5 ∧ Plain u6 ∧ Plain u7) := by
  obtain ⟨q3, q4, q5, q6, q7⟩ := q
  obtain ⟨k, h1, e1, hk, H1⟩ := ldraw H (b := 4) (by decide) (by decide)
  obtain ⟨m, hm⟩ : ∃ m : Nat, m = 1 + k := ⟨_, rfl⟩
  have em : (1 : Int) + (k : Int) = (m : Int) := by omega
  have m0 : 1 ≤ m := by omega
  have m4 : m ≤ 4 := by omega
  obtain ⟨E, h2, e2, H2, el, eg⟩ := law_bounds_ok H1 m0 m4
  obtain ⟨r, e3, al⟩ := lleast_ok (W := 14) (E := E) (m := m) (by omega) (by omega) (by decide) eg
  rcases al with rfl | ⟨nr, hf⟩
  · refine ⟨h2, .im (.int m), .im (.tup (eds E)), t5, t6, t7, ?_, H2, rfl, rfl, q5, q6, q7⟩
    simp -implicitDefEqProofs [bL, e1, em, q3, q4, e2, e3]
  · have e0 : (2 : Int) * (m : Int) = ((2 * m : Nat) : Int) := by push_cast; rfl
    obtain ⟨s, h3, e4, hs, H3⟩ := ldraw H2 (b := ((2 * m : Nat) : Int)) (by omega) (by omega)
    have hs' : s < 2 * m := by omega
    rw [← e0] at e4
    obtain ⟨l, e5, ll, lx⟩ := lfar_ok (W := 14) (E := E) (m := m) (by omega) (by omega) (by decide) eg hs'
    have lx' : vO l = it (E ++ triv m) (one0 s) (2 * m) := by
      rw [lx]
      obtain ⟨u, fu, lu⟩ := hf
      have fin : Fe (E ++ triv m) (it (E ++ triv m) (one0 s) (2 * m)) := by
        have nn : u s ≠ none := fun e => by
          have := lu s
          rw [z0_at hs', e] at this
          exact this
        obtain ⟨us, hus⟩ := Option.ne_none_iff_exists'.mp nn
        refine conv (u := fun v => oad (u v) (-us)) (fun e he => (good_all (by decide) eg e he).b) (fe_add fu _) fun v => ?_
        show ole (if v = s then some 0 else none) (oad (u v) (-us))
        split
        · rename_i q; subst q; rw [hus]; show (0 : Int) ≤ us + -us; omega
        · trivial
      exact it_fix fin 1
    obtain ⟨ks, h4, x, e6, H4, hks⟩ := ends_drawn H3 m0 m4 a0 a2 (.im (.tup (eds E))) (.im (.int s)) (.im (.lst (ods l))) t7
    obtain ⟨h5, u7, e7, H5, qq⟩ := pairs_ok H4 m0 m4 el eg hf hs' hks ll lx' a0 a2 t7 .un q7
    refine ⟨h5, .im (.int m), .im (.tup (eds E)), .im (.int s), .im (.lst (ods l)), u7, ?_, H5, rfl, rfl, rfl, rfl, qq⟩
    unfold bQ at e7
    simp -implicitDefEqProofs [bL, -iRg1_at, e1, em, q3, q4, q5, q6, e2, e3, nr, dMul_int, mul2, e4, e5, four, e6, e7]
theorem told (ns : List Int) (_ : ns.length ≤ 63) : ∃ ρ', F_law [.im (.scr ns)] = some (.ok (.im (.bl true)) ρ') := by
  obtain ⟨h, H, e1⟩ := hand_ok 4119 (ns := ns)
  have e1 : F_law_hand [.im (.scr ns)] = _ := e1
  obtain ⟨ρ', f1, h', t2, t3, t4, t5, t6, t7, rfl, _⟩ := forD_all (tg := .nm 2) (ds := nats 4) (b := bL)
    (fun i ρ => ∃ (h' : Ob) (t2 t3 t4 t5 t6 t7 : Sl), ρ = [.im (.scr ns), .ow false h', t2, t3, t4, t5, t6, t7, .un] ∧ HandOk h' ∧ Plain t2 ∧ Plain t3 ∧ Plain t4 ∧ Plain t5 ∧ Plain t6 ∧ Plain t7) (by
      rintro i d ρ hd ⟨h', t2, t3, t4, t5, t6, t7, rfl, H', q2, q3, q4, q5, q6, q7⟩
      have q2' : isPar (some t2) = false := q2
      obtain ⟨h2, u3, u4, u5, u6, u7, e, H2, qq⟩ := lap_ok H' (.im (.scr ns)) (.im d) t3 t4 t5 t6 t7 ⟨q3, q4, q5, q6, q7⟩
      exact ⟨[.im (.scr ns), .ow false h', .im d, t3, t4, t5, t6, t7, .un], by simp [q2'], _, .inl e, h2, .im d, u3, u4, u5, u6, u7, rfl, H2, rfl, qq⟩)
    (ρ := [.im (.scr ns), .ow false h, .un, .un, .un, .un, .un, .un, .un]) ⟨h, .un, .un, .un, .un, .un, .un, rfl, H, rfl, rfl, rfl, rfl, rfl, rfl⟩
  refine ⟨[.im (.scr ns)], ?_⟩
  unfold bL at f1
  unfold F_law
  rw [fnM_at]
  have s1' := s1
  have s2' := s2
  have s4' := s4
  unfold T3 at s1' s2' s4'
  simp -implicitDefEqProofs [b_law, -iRg1_at, e1, s1', s2', s3, s4', four, f1]
end L2.K55
open PySem PySem.W PyProof.Rows
set_option maxRecDepth 100000 in
set_option maxHeartbeats 0 in
theorem PySem.Challenge.cw_stretchwebs_k55_whole_what_is_sure_of_pl_holds : PySem.Challenge.rw_stretchwebs_k55_whole_what_is_sure_of_pl.Holds := by
  w_on; o_law; k_head; (case hw => w_witness2)
  k_fill
  refine L2.DL.walk_G (l := PySem.Challenge.rw_stretchwebs_k55_whole_what_is_sure_of_pl) (n := 63) (k := 8) (m := L2.K55.F_law) rfl (by decide) rfl rfl ⟨rfl, by decide, by decide⟩ (fun w h Y => PySem.W.kIn_of Y) ?F L2.K55.told
  case F =>
    intro w mg h KX G base _ _
    refine' L2.K55.all_mk KX G ?a_law_hand ?l_law_hand ?c_law_hand ?k_law_hand ?a_is_integer ?l_is_integer ?c_is_integer ?k_is_integer ?a_is_within ?l_is_within ?c_is_within ?k_is_within ?a_is_bound ?l_is_bound ?c_is_bound ?k_is_bound ?a_check_bounds ?l_check_bounds ?c_check_bounds ?k_check_bounds ?a_all_bounds ?l_all_bounds ?c_all_bounds ?k_all_bounds ?a_settled_places ?l_settled_places ?c_settled_places ?k_settled_places ?a_round_behind ?l_round_behind ?c_round_behind ?k_round_behind ?a_raw_places ?l_raw_places ?c_raw_places ?k_raw_places ?a_least_places ?l_least_places ?c_least_places ?k_least_places ?a_check_ends ?l_check_ends ?c_check_ends ?k_check_ends ?a_farthest_from ?l_farthest_from ?c_farthest_from ?k_farthest_from ?a_surely ?l_surely ?c_surely ?k_surely ?a_can_be_near ?l_can_be_near ?c_can_be_near ?k_can_be_near ?a_law_draw ?l_law_draw ?c_law_draw ?k_law_draw ?a_law_any ?l_law_any ?c_law_any ?k_law_any ?a_law_bounds ?l_law_bounds ?c_law_bounds ?k_law_bounds ?a_law_all_bounds ?l_law_all_bounds ?c_law_all_bounds ?k_law_all_bounds ?a_law_least ?l_law_least ?c_law_least ?k_law_least ?a_law_far ?l_law_far ?c_law_far ?k_law_far ?a_places_shown ?l_places_shown ?c_places_shown ?k_places_shown ?a_law_is_pair_right ?l_law_is_pair_right ?c_law_is_pair_right ?k_law_is_pair_right ?a_law ?l_law ?c_law ?k_law ?z_abs ?z_all ?z_bool ?z_enumerate ?z_int ?z_isinstance ?z_len ?z_list ?z_max ?z_range ?z_repr ?z_tuple ?q_MOST_BOUNDS ?q_MOST_LEAST ?q_MOST_STRETCHES ?q_PLACES ?q_ROUND
    (case a_law_hand => k_is); (case l_law_hand => k_is); (case c_law_hand => k_is); (case k_law_hand => k_is); (case a_is_integer => k_is); (case l_is_integer => k_is); (case c_is_integer => k_is); (case k_is_integer => k_is); (case a_is_within => k_is); (case l_is_within => k_is); (case c_is_within => k_is); (case k_is_within => k_is); (case a_is_bound => k_is); (case l_is_bound => k_is); (case c_is_bound => k_is); (case k_is_bound => k_is); (case a_check_bounds => k_is); (case l_check_bounds => k_is); (case c_check_bounds => k_is); (case k_check_bounds => k_is); (case a_all_bounds => k_is); (case l_all_bounds => k_is); (case c_all_bounds => k_is); (case k_all_bounds => k_is); (case a_settled_places => k_is); (case l_settled_places => k_is); (case c_settled_places => k_is); (case k_settled_places => k_is); (case a_round_behind => k_is); (case l_round_behind => k_is); (case c_round_behind => k_is); (case k_round_behind => k_is); (case a_raw_places => k_is); (case l_raw_places => k_is); (case c_raw_places => k_is); (case k_raw_places => k_is); (case a_least_places => k_is); (case l_least_places => k_is); (case c_least_places => k_is); (case k_least_places => k_is); (case a_check_ends => k_is); (case l_check_ends => k_is); (case c_check_ends => k_is); (case k_check_ends => k_is); (case a_farthest_from => k_is); (case l_farthest_from => k_is); (case c_farthest_from => k_is); (case k_farthest_from => k_is); (case a_surely => k_is); (case l_surely => k_is); (case c_surely => k_is); (case k_surely => k_is); (case a_can_be_near => k_is); (case l_can_be_near => k_is); (case c_can_be_near => k_is); (case k_can_be_near => k_is); (case a_law_draw => k_is); (case l_law_draw => k_is); (case c_law_draw => k_is); (case k_law_draw => k_is); (case a_law_any => k_is); (case l_law_any => k_is); (case c_law_any => k_is); (case k_law_any => k_is); (case a_law_bounds => k_is); (case l_law_bounds => k_is); (case c_law_bounds => k_is); (case k_law_bounds => k_is); (case a_law_all_bounds => k_is); (case l_law_all_bounds => k_is); (case c_law_all_bounds => k_is); (case k_law_all_bounds => k_is); (case a_law_least => k_is); (case l_law_least => k_is); (case c_law_least => k_is); (case k_law_least => k_is); (case a_law_far => k_is); (case l_law_far => k_is); (case c_law_far => k_is); (case k_law_far => k_is); (case a_places_shown => k_is); (case l_places_shown => k_is); (case c_places_shown => k_is); (case k_places_shown => k_is); (case a_law_is_pair_right => k_is); (case l_law_is_pair_right => k_is); (case c_law_is_pair_right => k_is); (case k_law_is_pair_right => k_is); (case a_law => k_is); (case l_law => k_is); (case c_law => k_is); (case k_law => k_is); (case z_abs => k_is); (case z_all => k_is); (case z_bool => k_is); (case z_enumerate => k_is); (case z_int => k_is); (case z_isinstance => k_is); (case z_len => k_is); (case z_list => k_is); (case z_max => k_is); (case z_range => k_is); (case z_repr => k_is); (case z_tuple => k_is); (case q_MOST_BOUNDS => k_is); (case q_MOST_LEAST => k_is); (case q_MOST_STRETCHES => k_is); (case q_PLACES => k_is); (case q_ROUND => k_is)
