import PyProof.Rows.All
import Wide.All
import OpenK.AllK
import Wide.FinOn
import HandS.ForMost
import HandS.ForExc
import HandS.Wide
import HandS.TupAny
import HandS.Deep
import HandS.Flow
import HandS.Style
import HandS.Conv
import HandS.Small
import HandS.SortInts
import HandS.IsInst
import HandS.WordsExc
import HandS.More
import HandS.Zip
import HandS.Rev
import HandS.Comp
import KE.GoesMore
import KE.KStateDown
import HandS.Defaults
import HandS.Head0
import HandS.Head1
import HandS.Head2
import HandS.HeadEnd
import HandS.HeadHook1
import HandS.HeadHook2
import HandS.HeadHook3
import HandS.HeadHook4
import HandS.ExcOwn
import HandS.ExcInit
import HandS.ExcField
import HandS.ExcIs
import HandS.TryOnly
import HandS.TryMany
import PySem.Challenge.RW_pacehall_k15_great_spans
set_option Elab.async false
set_option linter.all false
set_option maxRecDepth 100000
set_option maxHeartbeats 4000000
namespace DL
open PySem PySem.Spec PyProof.Rows L2
abbrev St := L2.St

/-! ### data -/
inductive D where
  | non | bl (b : Bool) | int (i : Int) | str (x : Str)
  | tup (xs : List D) | lst (xs : List D)
  | dic (ks : List Key) (xs : List D)
  | obj (c : Str) (ks : List Str) (xs : List D)
  | cls (c : Str) | typ (n : String)
  | scr (ns : List Int)
  deriving Inhabited

inductive Tg where | h | r | s | o
  deriving DecidableEq
inductive EV where
  | val (t : Tg) (d : D) | own (xs : List D) | ownd (ks : List Key) (xs : List D) | exn (c : Str) (ks : List Str) (vs : List D)
inductive Res (α : Type) where
  | ok (a : α) | exc (c : Str) (ks : List Str) (vs : List D) | bad
abbrev TV := Tg × D
abbrev Env := List (Option EV)
def Res.bind {α β : Type} (r : Res α) (k : α → Res β) : Res β := match r with
  | .ok a => k a | .exc c ks vs => .exc c ks vs | .bad => .bad
def Res.map {α β : Type} (g : α → β) (r : Res α) : Res β := match r with
  | .ok a => .ok (g a) | .exc c ks vs => .exc c ks vs | .bad => .bad
@[simp] theorem Res.bind_ok {α β : Type} (a : α) (k : α → Res β) : (Res.ok a).bind k = k a := (rfl)
@[simp] theorem Res.bind_exc {α β : Type} (c : Str) (ks : List Str) (vs : List D) (k : α → Res β) : (Res.exc c ks vs : Res α).bind k = .exc c ks vs := (rfl)
@[simp] theorem Res.bind_bad {α β : Type} (k : α → Res β) : (Res.bad : Res α).bind k = .bad := (rfl)
@[simp] theorem Res.map_ok {α β : Type} (a : α) (k : α → β) : (Res.ok a).map k = .ok (k a) := (rfl)
@[simp] theorem Res.map_exc {α β : Type} (c : Str) (ks : List Str) (vs : List D) (k : α → β) : (Res.exc c ks vs : Res α).map k = .exc c ks vs := (rfl)
@[simp] theorem Res.map_bad {α β : Type} (k : α → β) : (Res.bad : Res α).map k = .bad := (rfl)

mutual
def imm : D → Bool
  | .non => true | .bl _ => true | .int _ => true | .str _ => true
  | .tup xs => imms xs
  | .lst _ => false | .dic _ _ => false | .obj _ _ _ => false
  | .cls _ => true | .typ _ => true | .scr _ => false
def imms : List D → Bool
  | [] => true
  | d :: r => imm d && imms r
end

structure Gx where
  K : PySem.W.Frag
  cl : Str → Option Addr

mutual
inductive Rep (G : Gx) (H : Hp) : V → D → Prop
  | non : Rep G H .non .non
  | bl (b : Bool) : Rep G H (.bl b) (.bl b)
  | int (i : Int) : Rep G H (.int i) (.int i)
  | str (x : Str) : Rep G H (.str x) (.str x)
  | tup {a : Addr} {vs : List V} {xs : List D} : H a = some (.tup vs) → Reps G H vs xs → Rep G H (.ref a) (.tup xs)
  | lst {a : Addr} {vs : List V} {xs : List D} : H a = some (.lst vs) → Reps G H vs xs → Rep G H (.ref a) (.lst xs)
  | dic {a : Addr} {kvs : List (Key × V)} {xs : List D} : H a = some (.dK kvs) → Reps G H (kvs.map (·.2)) xs → Rep G H (.ref a) (.dic (kvs.map (·.1)) xs)
  | obj {a C dx : Addr} {c : Str} {fs : List (Str × V)} {xs : List D} : G.cl c = some C → H a = some (.ins C dx fs) → Reps G H (fs.map (·.2)) xs → Rep G H (.ref a) (.obj c (fs.map (·.1)) xs)
  | cls {c : Str} {C : Addr} : G.cl c = some C → Rep G H (.ref C) (.cls c)
  | typ (n : String) : Rep G H (.ty n) (.typ n)
  | scr {a : Addr} {ns : List Int} : SqL G.K H a (ns.map V.int) → Rep G H (.ref a) (.scr ns)
inductive Reps (G : Gx) (H : Hp) : List V → List D → Prop
  | nil : Reps G H [] []
  | cons {v : V} {vs : List V} {d : D} {ds : List D} : Rep G H v d → Reps G H vs ds → Reps G H (v :: vs) (d :: ds)
end

mutual
theorem Rep.mono {G : Gx} {H H' : Hp} (e : Same H H') : ∀ {v : V} {d : D}, Rep G H v d → Rep G H' v d
  | _, _, .non => .non
  | _, _, .bl b => .bl b
  | _, _, .int i => .int i
  | _, _, .str x => .str x
  | _, _, .tup h r => .tup (e _ _ h) (r.mono e)
  | _, _, .lst h r => .lst (e _ _ h) (r.mono e)
  | _, _, .dic h r => .dic (e _ _ h) (r.mono e)
  | _, _, .obj c h r => .obj c (e _ _ h) (r.mono e)
  | _, _, .cls c => .cls c
  | _, _, .typ n => .typ n
  | _, _, .scr h => .scr (e.seq h)
theorem Reps.mono {G : Gx} {H H' : Hp} (e : Same H H') : ∀ {v : List V} {d : List D}, Reps G H v d → Reps G H' v d
  | _, _, .nil => .nil
  | _, _, .cons h r => .cons (h.mono e) (r.mono e)
end

def Imm : HO → Prop
  | .tup _ => True
  | _ => False
mutual
theorem Rep.imm {G : Gx} {H H' : Hp} (e : ∀ a xs, H a = some (.tup xs) → H' a = some (.tup xs)) : ∀ {v : V} {d : D}, Rep G H v d → DL.imm d = true → Rep G H' v d
  | _, _, .non, _ => .non
  | _, _, .bl b, _ => .bl b
  | _, _, .int i, _ => .int i
  | _, _, .str x, _ => .str x
  | _, _, .tup h r, i => .tup (e _ _ h) (r.imms e i)
  | _, _, .lst h r, i => nomatch i
  | _, _, .dic h r, i => nomatch i
  | _, _, .obj c h r, i => nomatch i
  | _, _, .cls c, _ => .cls c
  | _, _, .typ n, _ => .typ n
  | _, _, .scr h, i => nomatch i
theorem Reps.imms {G : Gx} {H H' : Hp} (e : ∀ a xs, H a = some (.tup xs) → H' a = some (.tup xs)) : ∀ {v : List V} {d : List D}, Reps G H v d → DL.imms d = true → Reps G H' v d
  | _, _, .nil, _ => .nil
  | _, _, .cons h r, i => by
    have i' : (DL.imm _ && DL.imms _) = true := i
    rw [Bool.and_eq_true] at i'
    exact .cons (h.imm e i'.1) (r.imms e i'.2)
end
theorem Reps.length {G : Gx} {H : Hp} : ∀ {v : List V} {d : List D}, Reps G H v d → v.length = d.length
  | _, _, .nil => rfl
  | _, _, .cons _ r => congrArg (· + 1) r.length
theorem Reps.append {G : Gx} {H : Hp} : ∀ {v w : List V} {d e : List D}, Reps G H v d → Reps G H w e → Reps G H (v ++ w) (d ++ e)
  | _, _, _, _, .nil, s => s
  | _, _, _, _, .cons h r, s => .cons h (r.append s)
theorem Reps.get {G : Gx} {H : Hp} : ∀ {v : List V} {d : List D} {i : Nat} {x : D}, Reps G H v d → d[i]? = some x → ∃ u, v[i]? = some u ∧ Rep G H u x
  | _, _, _, _, .nil, e => by simp at e
  | _, _, 0, _, .cons h r, e => by simp at e; subst e; exact ⟨_, rfl, h⟩
  | _, _, i + 1, _, .cons h r, e => by
    obtain ⟨u, h1, h2⟩ := r.get (i := i) (by simpa using e)
    exact ⟨u, by simpa using h1, h2⟩
theorem Reps.get' {G : Gx} {H : Hp} : ∀ {v : List V} {d : List D} {i : Nat} {u : V}, Reps G H v d → v[i]? = some u → ∃ x, d[i]? = some x ∧ Rep G H u x
  | _, _, _, _, .nil, e => by simp at e
  | _, _, 0, _, .cons h r, e => by simp at e; subst e; exact ⟨_, rfl, h⟩
  | _, _, i + 1, _, .cons h r, e => by
    obtain ⟨u, h1, h2⟩ := r.get' (i := i) (by simpa using e)
    exact ⟨u, by simpa using h1, h2⟩
theorem Reps.take {G : Gx} {H : Hp} : ∀ {v : List V} {d : List D} (n : Nat), Reps G H v d → Reps G H (v.take n) (d.take n)
  | _, _, 0, _ => .nil
  | _, _, _ + 1, .nil => .nil
  | _, _, n + 1, .cons h r => .cons h (r.take n)
theorem Reps.drop {G : Gx} {H : Hp} : ∀ {v : List V} {d : List D} (n : Nat), Reps G H v d → Reps G H (v.drop n) (d.drop n)
  | _, _, 0, r => r
  | _, _, _ + 1, .nil => .nil
  | _, _, n + 1, .cons h r => r.drop n
theorem Reps.reverse {G : Gx} {H : Hp} : ∀ {v : List V} {d : List D}, Reps G H v d → Reps G H v.reverse d.reverse
  | _, _, .nil => .nil
  | _, _, .cons h r => by
    rw [List.reverse_cons, List.reverse_cons]
    exact r.reverse.append (.cons h .nil)
theorem Reps.set {G : Gx} {H : Hp} {u : V} {x : D} (h : Rep G H u x) : ∀ {v : List V} {d : List D} (n : Nat), Reps G H v d → Reps G H (v.set n u) (d.set n x)
  | _, _, _, .nil => .nil
  | _, _, 0, .cons _ r => .cons h r
  | _, _, n + 1, .cons g r => .cons g (Reps.set h n r)
theorem Reps.dropLast {G : Gx} {H : Hp} {v : List V} {d : List D} (h : Reps G H v d) : Reps G H v.dropLast d.dropLast := by
  rw [List.dropLast_eq_take, List.dropLast_eq_take, h.length]
  exact h.take _
theorem Reps.eraseIdx {G : Gx} {H : Hp} : ∀ {v : List V} {d : List D} (n : Nat), Reps G H v d → Reps G H (v.eraseIdx n) (d.eraseIdx n)
  | _, _, _, .nil => .nil
  | _, _, 0, .cons _ r => r
  | _, _, n + 1, .cons g r => .cons g (Reps.eraseIdx n r)
theorem Reps.insertIdx {G : Gx} {H : Hp} {u : V} {x : D} (h : Rep G H u x) : ∀ {v : List V} {d : List D} (n : Nat), Reps G H v d → Reps G H (v.take n ++ u :: v.drop n) (d.take n ++ x :: d.drop n) :=
  fun n r => (r.take n).append (.cons h (r.drop n))

/-! ### heaps -/
structure HpOk (Hs Hr H : Hp) : Prop where
  sr : Same Hs Hr
  rh : Same Hr H
  ti : ∀ a xs, H a = some (.tup xs) → Hs a = some (.tup xs)
structure Ext (Hs Hr H Hs' Hr' H' : Hp) : Prop where
  s : Same Hs Hs'
  r : Same Hr Hr'
  h : Same H H'
  ok : HpOk Hs' Hr' H'
  ns : ∀ a o, Hs' a = some o → Hs a = some o ∨ H a = none
  nr : ∀ a o, Hr' a = some o → Hr a = some o ∨ H a = none
theorem Ext.refl {Hs Hr H : Hp} (k : HpOk Hs Hr H) : Ext Hs Hr H Hs Hr H := ⟨Same.refl _, Same.refl _, Same.refl _, k, fun _ _ e => .inl e, fun _ _ e => .inl e⟩
theorem Ext.trans {Hs Hr H Hs1 Hr1 H1 Hs2 Hr2 H2 : Hp} (a : Ext Hs Hr H Hs1 Hr1 H1) (b : Ext Hs1 Hr1 H1 Hs2 Hr2 H2) : Ext Hs Hr H Hs2 Hr2 H2 where
  s := a.s.trans b.s
  r := a.r.trans b.r
  h := a.h.trans b.h
  ok := b.ok
  ns := fun x o e => by
    rcases b.ns x o e with h | h
    · exact a.ns x o h
    · exact .inr (a.h.free h)
  nr := fun x o e => by
    rcases b.nr x o e with h | h
    · exact a.nr x o h
    · exact .inr (a.h.free h)
theorem Same.upd {H H' : Hp} {p : Addr} {o : HO} (e : Same H H') (h : H p = none) : Same H (L2.upd H' p o) := fun a u ha => by
  rw [upd_ne (ne_of_none ha h)]
  exact e a u ha
theorem Same.upd2 {H H' : Hp} {p : Addr} {o : HO} (e : Same H H') : Same (L2.upd H p o) (L2.upd H' p o) := fun a u ha => by
  unfold L2.upd at ha ⊢
  split at ha
  · rename_i h; rw [if_pos h]; exact ha
  · rename_i h; rw [if_neg h]; exact e a u ha
theorem HpOk.none_r {Hs Hr H : Hp} (k : HpOk Hs Hr H) {p : Addr} (h : H p = none) : Hr p = none := k.rh.free h
theorem HpOk.none_s {Hs Hr H : Hp} (k : HpOk Hs Hr H) {p : Addr} (h : H p = none) : Hs p = none := k.sr.free (k.none_r h)
theorem HpOk.sh {Hs Hr H : Hp} (k : HpOk Hs Hr H) : Same Hs H := k.sr.trans k.rh
/-- a new object goes into all -/
theorem Ext.new {Hs Hr H : Hp} (k : HpOk Hs Hr H) {p : Addr} {o : HO} (h : H p = none) : Ext Hs Hr H (upd Hs p o) (upd Hr p o) (upd H p o) where
  s := Same.upd (Same.refl _) (k.none_s h)
  r := Same.upd (Same.refl _) (k.none_r h)
  h := Same.upd (Same.refl _) h
  ok := ⟨Same.upd2 k.sr, Same.upd2 k.rh, fun a xs e => by
    unfold upd at e ⊢
    split at e
    · rename_i q; rw [if_pos q]; exact e
    · rename_i q; rw [if_neg q]; exact k.ti a xs e⟩
  ns := fun a u e => by
    unfold upd at e
    split at e
    · rename_i q; subst q; exact .inr h
    · exact .inl e
  nr := fun a u e => by
    unfold upd at e
    split at e
    · rename_i q; subst q; exact .inr h
    · exact .inl e
/-- a new object that is no tuple goes into H alone -/
theorem Ext.new0 {Hs Hr H : Hp} (k : HpOk Hs Hr H) {p : Addr} {o : HO} (h : H p = none) (no : ∀ xs, o ≠ .tup xs) : Ext Hs Hr H Hs Hr (upd H p o) where
  s := Same.refl _
  r := Same.refl _
  h := Same.upd (Same.refl _) h
  ok := ⟨k.sr, Same.upd k.rh (k.none_r h), fun a xs e => by
    unfold upd at e
    split at e
    · exact absurd (Option.some.inj e) (no xs)
    · exact k.ti a xs e⟩
  ns := fun a u e => .inl e
  nr := fun a u e => .inl e
/-- an object that stands in H alone is shared from now on -/
theorem HpOk.share {Hs Hr H : Hp} (k : HpOk Hs Hr H) {p : Addr} {o : HO} (h : H p = some o) (hr : Hr p = none) : HpOk (upd Hs p o) (upd Hr p o) H where
  sr := Same.upd2 k.sr
  rh := fun a u e => by
    unfold upd at e
    split at e
    · rename_i q; subst q; rw [h]; exact e
    · exact k.rh a u e
  ti := fun a xs e => by
    by_cases q : a = p
    · subst q
      rw [upd_same]
      exact h.symm.trans e
    · rw [upd_ne q]; exact k.ti a xs e
theorem Ext.share {Hs0 Hr0 H0 Hs Hr H : Hp} (x : Ext Hs0 Hr0 H0 Hs Hr H) {p : Addr} {o : HO} (h : H p = some o) (hr : Hr p = none) (h0 : H0 p = none) : Ext Hs0 Hr0 H0 (upd Hs p o) (upd Hr p o) H where
  s := Same.upd x.s (x.s.free (x.ok.sr.free hr))
  r := Same.upd x.r (x.r.free hr)
  h := x.h
  ok := x.ok.share h hr
  ns := fun a u e => by
    by_cases q : a = p
    · subst q; exact .inr h0
    · rw [upd_ne q] at e; exact x.ns a u e
  nr := fun a u e => by
    by_cases q : a = p
    · subst q; exact .inr h0
    · rw [upd_ne q] at e; exact x.nr a u e

/-! ### the relation -/
structure Jx extends Gx where
  W : WX
  xa : Option (Addr × Value × Option Addr)
def ExcOk (G : Gx) (Hs : Hp) (c : Str) (ks : List Str) (vs : List D) (cv : Value) (d : Option Addr) : Prop :=
  ∃ C, G.cl c = some C ∧ cv = .ref C ∧ ((ks = [] ∧ vs = [] ∧ d = none) ∨
    ∃ dd fs, d = some dd ∧ Hs dd = some (.xd fs) ∧ fs.map (·.1) = ks ∧ ks ≠ [] ∧ Reps G Hs (fs.map (·.2)) vs)
theorem ExcOk.mono {G : Gx} {Hs Hs' : Hp} {c : Str} {ks : List Str} {vs : List D} {cv : Value} {d : Option Addr} (e : Same Hs Hs') (h : ExcOk G Hs c ks vs cv d) : ExcOk G Hs' c ks vs cv d := by
  obtain ⟨C, h1, h2, h3⟩ := h
  refine ⟨C, h1, h2, ?_⟩
  rcases h3 with h3 | ⟨dd, fs, a, b, q, n, r⟩
  · exact .inl h3
  · exact .inr ⟨dd, fs, a, e _ _ b, q, n, r.mono e⟩
def SlotOk (J : Jx) (Hs Hr H : Hp) (sv : Option (Option V)) : EV → Prop
  | .val .s d => ∃ v, sv = some (some v) ∧ Rep J.toGx Hs v d
  | .val .r d => ∃ v, sv = some (some v) ∧ Rep J.toGx Hr v d
  | .val .h _ => False
  | .val .o _ => False
  | .own xs => ∃ p vs, sv = some (some (.ref p)) ∧ H p = some (.lst vs) ∧ Hr p = none ∧ Reps J.toGx Hs vs xs
  | .ownd ks xs => ∃ p kvs, sv = some (some (.ref p)) ∧ H p = some (.dK kvs) ∧ Hr p = none ∧ kvs.map (·.1) = ks ∧ Reps J.toGx Hs (kvs.map (·.2)) xs
  | .exn c ks vs => ∃ a cv d, J.xa = some (a, cv, d) ∧ sv = some (some (.ref a)) ∧ ExcOk J.toGx Hs c ks vs cv d
def isOwn : EV → Bool
  | .own _ => true | .ownd _ _ => true | _ => false
def OwnAt (env : Env) (σ : St) (i : Nat) (p : Addr) : Prop := ∃ e, env[i]? = some (some e) ∧ isOwn e = true ∧ σ[i]? = some (some (.ref p))
structure Rel (J : Jx) (Hse He : Hp) (env : Env) (σ : St) (Hs Hr H : Hp) : Prop where
  ok : HpOk Hs Hr H
  len : env.length = σ.length
  slot : ∀ (i : Nat) (e : EV), env[i]? = some (some e) → SlotOk J Hs Hr H σ[i]? e
  dis : ∀ (i j : Nat) (p : Addr), i ≠ j → OwnAt env σ i p → OwnAt env σ j p → False
  se : Same Hse Hs
  he : Same He Hr
  ns : ∀ a o, Hs a = some o → Hse a = some o ∨ He a = none
theorem Ext.still {Hs Hr H Hs' Hr' H' : Hp} (x : Ext Hs Hr H Hs' Hr' H') {p : Addr} {o : HO} (b : H p = some o) (c : Hr p = none) : Hr' p = none := by
  cases q : Hr' p with
  | none => rfl
  | some u =>
    rcases x.nr p u q with z | z
    · rw [c] at z; cases z
    · rw [b] at z; cases z
theorem SlotOk.mono {J : Jx} {Hs Hr H Hs' Hr' H' : Hp} {sv : Option (Option V)} (x : Ext Hs Hr H Hs' Hr' H') : ∀ {e : EV}, SlotOk J Hs Hr H sv e → SlotOk J Hs' Hr' H' sv e
  | .val .s d, ⟨v, a, b⟩ => ⟨v, a, b.mono x.s⟩
  | .val .r d, ⟨v, a, b⟩ => ⟨v, a, b.mono x.r⟩
  | .val .h d, h => h
  | .val .o d, h => h
  | .own xs, ⟨p, vs, a, b, c, r⟩ => ⟨p, vs, a, x.h _ _ b, x.still b c, r.mono x.s⟩
  | .ownd ks xs, ⟨p, vs, a, b, c, k, r⟩ => ⟨p, vs, a, x.h _ _ b, x.still b c, k, r.mono x.s⟩
  | .exn c ks vs, ⟨a, cv, d, h1, h2, h3⟩ => ⟨a, cv, d, h1, h2, h3.mono x.s⟩
theorem Rel.ext {J : Jx} {Hse He : Hp} {env : Env} {σ : St} {Hs Hr H Hs' Hr' H' : Hp} (R : Rel J Hse He env σ Hs Hr H) (x : Ext Hs Hr H Hs' Hr' H') : Rel J Hse He env σ Hs' Hr' H' where
  ok := x.ok
  len := R.len
  slot := fun i e h => (R.slot i e h).mono x
  dis := R.dis
  se := R.se.trans x.s
  he := R.he.trans x.r
  ns := fun a o e => by
    rcases x.ns a o e with h | h
    · exact R.ns a o h
    · exact .inr (R.he.free (R.ok.none_r h))

/-! ### what is wanted of a result -/
/-- v stands for d: in what is shared (s), in what may be read (r), in the heap as it is (h); a list whose items alone are shared (o) -/
def RepT (G : Gx) (t : Tg) (Hs Hr H : Hp) (v : V) (d : D) : Prop := match t with
  | .s => Rep G Hs v d
  | .r => Rep G Hr v d
  | .h => Rep G H v d
  | .o => match d with
    | .lst xs => ∃ a vs, v = .ref a ∧ H a = some (.lst vs) ∧ Reps G Hs vs xs
    | .dic ks xs => ∃ a kvs, v = .ref a ∧ H a = some (.dK kvs) ∧ kvs.map (·.1) = ks ∧ Reps G Hs (kvs.map (·.2)) xs
    | _ => False
theorem RepT.h {G : Gx} {t : Tg} {Hs Hr H : Hp} {v : V} {d : D} (k : HpOk Hs Hr H) (r : RepT G t Hs Hr H v d) : Rep G H v d := by
  cases t with
  | s => exact Rep.mono k.sh r
  | r => exact Rep.mono k.rh r
  | h => exact r
  | o =>
    cases d with
    | lst xs =>
      obtain ⟨a, vs, rfl, h1, h2⟩ := r
      exact .lst h1 (h2.mono k.sh)
    | dic ks xs =>
      obtain ⟨a, kvs, rfl, h1, rfl, h2⟩ := r
      exact .dic h1 (h2.mono k.sh)
    | _ => exact r.elim
theorem RepT.ext {G : Gx} {t : Tg} {Hs Hr H Hs' Hr' H' : Hp} {v : V} {d : D} (x : Ext Hs Hr H Hs' Hr' H') (r : RepT G t Hs Hr H v d) : RepT G t Hs' Hr' H' v d := by
  cases t with
  | s => exact Rep.mono x.s r
  | r => exact Rep.mono x.r r
  | h => exact Rep.mono x.h r
  | o =>
    cases d with
    | lst xs =>
      obtain ⟨a, vs, e, h1, h2⟩ := r
      exact ⟨a, vs, e, x.h _ _ h1, h2.mono x.s⟩
    | dic ks xs =>
      obtain ⟨a, kvs, e, h1, h3, h2⟩ := r
      exact ⟨a, kvs, e, x.h _ _ h1, h3, h2.mono x.s⟩
    | _ => exact r.elim
theorem RepT.imm {G : Gx} {t : Tg} {Hs Hr H : Hp} {v : V} {d : D} (k : HpOk Hs Hr H) (r : RepT G t Hs Hr H v d) (i : DL.imm d = true) : Rep G Hs v d := (r.h k).imm k.ti i
/-- the tag by which it may stand in a tuple -/
def ef (x : TV) : Tg := if imm x.2 then .s else match x.1 with | .s => .s | .r => .r | _ => .h
theorem RepT.ef {G : Gx} {Hs Hr H : Hp} {v : V} {x : TV} (k : HpOk Hs Hr H) (r : RepT G x.1 Hs Hr H v x.2) : RepT G (DL.ef x) Hs Hr H v x.2 := by
  unfold DL.ef
  split
  · rename_i i; exact r.imm k i
  · obtain ⟨t, d⟩ := x
    cases t with
    | s => exact r
    | r => exact r
    | h => exact r
    | o => exact RepT.h k r
def jn : Tg → Tg → Tg
  | .s, .s => .s
  | .s, .r => .r
  | .r, .s => .r
  | .r, .r => .r
  | _, _ => .h
def hpT (t : Tg) (Hs Hr H : Hp) : Hp := match t with | .s => Hs | .r => Hr | _ => H

/-- S: what is wanted of a value and the heaps behind -/
def Post {α : Type} (J : Jx) (σ : St) (Hs Hr H : Hp) (r : Res α) (S : α → Hp → Hp → Hp → Prop) : Prop := match r with
  | .ok a => ∀ Hs' Hr' H', Ext Hs Hr H Hs' Hr' H' → S a Hs' Hr' H'
  | .exc c ks vs => ∀ cv d Hs' Hr' H', Ext Hs Hr H Hs' Hr' H' → ExcOk J.toGx Hs' c ks vs cv d → J.W cv d σ H'
  | .bad => False
theorem Post.ext {α : Type} {J : Jx} {σ : St} {Hs Hr H Hs1 Hr1 H1 : Hp} {r : Res α} {S S' : α → Hp → Hp → Hp → Prop} (p : Post J σ Hs Hr H r S) (x : Ext Hs Hr H Hs1 Hr1 H1)
    (m : ∀ a Hs' Hr' H', S a Hs' Hr' H' → S' a Hs' Hr' H') : Post J σ Hs1 Hr1 H1 r S' := by
  cases r with
  | ok a => exact fun Hs' Hr' H' y => m _ _ _ _ (p Hs' Hr' H' (x.trans y))
  | exc c ks vs => exact fun cv d Hs' Hr' H' y e => p cv d Hs' Hr' H' (x.trans y) e
  | bad => exact p
theorem Post.bind {α β : Type} {J : Jx} {σ : St} {Hs Hr H : Hp} {r : Res α} {k : α → Res β} {S : β → Hp → Hp → Hp → Prop} (p : Post J σ Hs Hr H (r.bind k) S) :
    Post J σ Hs Hr H r (fun a Hs1 Hr1 H1 => Post J σ Hs1 Hr1 H1 (k a) S) := by
  cases r with
  | ok a => exact fun Hs' Hr' H' y => Post.ext (r := k a) p y fun _ _ _ _ z => z
  | exc c ks vs => exact p
  | bad => exact p
theorem Post.imp {α : Type} {J : Jx} {σ : St} {Hs Hr H : Hp} {r : Res α} {S S' : α → Hp → Hp → Hp → Prop} (p : Post J σ Hs Hr H r S)
    (m : ∀ a Hs' Hr' H', Ext Hs Hr H Hs' Hr' H' → S a Hs' Hr' H' → S' a Hs' Hr' H') : Post J σ Hs Hr H r S' := by
  cases r with
  | ok a => exact fun Hs' Hr' H' y => m _ _ _ _ y (p Hs' Hr' H' y)
  | exc c ks vs => exact p
  | bad => exact p
theorem Post.now {α : Type} {J : Jx} {σ : St} {Hs Hr H : Hp} {a : α} {S : α → Hp → Hp → Hp → Prop} (k : HpOk Hs Hr H) (p : Post J σ Hs Hr H (.ok a) S) : S a Hs Hr H := p _ _ _ (Ext.refl k)
def SV (J : Jx) (Q : VK) : TV → Hp → Hp → Hp → Prop := fun x Hs' Hr' H' => ∀ v, RepT J.toGx x.1 Hs' Hr' H' v x.2 → Q v H'
def SE (J : Jx) (H0 : Hp) (Q : VK) : EV → Hp → Hp → Hp → Prop := fun e Hs' Hr' H' => match e with
  | .val t d => ∀ v, RepT J.toGx t Hs' Hr' H' v d → Q v H'
  | .own xs => ∀ p vs, H' p = some (.lst vs) → Hr' p = none → H0 p = none → Reps J.toGx Hs' vs xs → Q (.ref p) H'
  | .ownd ks xs => ∀ p kvs, H' p = some (.dK kvs) → Hr' p = none → H0 p = none → kvs.map (·.1) = ks → Reps J.toGx Hs' (kvs.map (·.2)) xs → Q (.ref p) H'
  | .exn _ _ _ => False
def SB (Q : Bool → Hp → Prop) : Bool → Hp → Hp → Hp → Prop := fun b _ _ H' => Q b H'
theorem SE.mono {J : Jx} {H0 H1 : Hp} {Q : VK} (s : Same H0 H1) : ∀ (e : EV) (Hs' Hr' H' : Hp), SE J H0 Q e Hs' Hr' H' → SE J H1 Q e Hs' Hr' H'
  | .val t d, _, _, _, h => h
  | .own xs, _, _, _, h => fun p vs a b c r => h p vs a b (s.free c) r
  | .ownd ks xs, _, _, _, h => fun p vs a b c k r => h p vs a b (s.free c) k r
  | .exn _ _ _, _, _, _, h => h
def tV (J : Jx) (f : Env → Res TV) : TE := fun σ H Q => ∃ Hse He env Hs Hr, Rel J Hse He env σ Hs Hr H ∧ Post J σ Hs Hr H (f env) (SV J Q)
def tE (J : Jx) (f : Env → Res EV) : TE := fun σ H Q => ∃ Hse He env Hs Hr, Rel J Hse He env σ Hs Hr H ∧ Post J σ Hs Hr H (f env) (SE J H Q)
def tT (J : Jx) (f : Env → Res Bool) : TT := fun σ H Q => ∃ Hse He env Hs Hr, Rel J Hse He env σ Hs Hr H ∧ Post J σ Hs Hr H (f env) (SB Q)
structure MV (X : Cx) (J : Jx) (e : Expr) (f : Env → Res TV) : Prop where
  pe : PE X e (tV J f)
structure ME (X : Cx) (J : Jx) (e : Expr) (f : Env → Res EV) : Prop where
  pe : PE X e (tE J f)
structure MT (X : Cx) (J : Jx) (e : Expr) (f : Env → Res Bool) : Prop where
  pt : PT X e (tT J f)
/-- the same whatever the whole is -/
structure MW (X : Cx) (J : Jx) (e : Expr) (f : Env → Res Bool) : Prop where
  pw : PW X e (tT J f)
theorem pe_imp {X : Cx} {e : Expr} {t t' : TE} (h : PE X e t) (i : ∀ σ H Q, t' σ H Q → t σ H Q) : PE X e t' := ⟨fun pins s σ H Q I q => h.run pins s σ H Q I (i σ H Q q)⟩
theorem pt_imp {X : Cx} {e : Expr} {t t' : TT} (h : PT X e t) (i : ∀ σ H Q, t' σ H Q → t σ H Q) : PT X e t' := ⟨fun pins s σ H Q I q => h.run pins s σ H Q I (i σ H Q q)⟩
theorem pw_imp {X : Cx} {e : Expr} {t t' : TT} (h : PW X e t) (i : ∀ σ H Q, t' σ H Q → t σ H Q) : PW X e t' := ⟨fun w pins s σ H Q I q => h.run w pins s σ H Q I (i σ H Q q)⟩
theorem pa_imp {X : Cx} {e : List Expr} {t t' : TA} (h : PA X e t) (i : ∀ σ H Q, t' σ H Q → t σ H Q) : PA X e t' := ⟨fun p pins s σ H Q I q => h.run p pins s σ H Q I (i σ H Q q)⟩
theorem ps_imp {X : Cx} {e : Stmt} {t t' : TS} (h : PS X e t) (i : ∀ D σ H, t' D σ H → t D σ H) : PS X e t' := ⟨fun pins s σ H D I q => h.run pins s σ H D I (i D σ H q)⟩
theorem pss_imp {X : Cx} {e : List Stmt} {t t' : TS} (h : PSs X e t) (i : ∀ D σ H, t' D σ H → t D σ H) : PSs X e t' := ⟨fun pins s σ H D I q => h.run pins s σ H D I (i D σ H q)⟩

/-! ### from a fresh list to a shared one -/
def asV : EV → Res TV
  | .val t d => .ok (t, d)
  | .own xs => .ok (.s, .lst xs)
  | .ownd ks xs => .ok (.s, .dic ks xs)
  | .exn _ _ _ => .bad
theorem post_asV {J : Jx} {σ : St} {Hs Hr H : Hp} {r : Res EV} {Q : VK} (p : Post J σ Hs Hr H (r.bind asV) (SV J Q)) : Post J σ Hs Hr H r (SE J H Q) := by
  cases r with
  | ok e =>
    cases e with
    | val t d => exact fun Hs' Hr' H' x v rv => p Hs' Hr' H' x v rv
    | own xs => exact fun Hs' Hr' H' x q vs a b c r => p _ _ _ (x.share a b c) (.ref q) (.lst upd_same (r.mono (Same.upd (Same.refl _) (x.ok.sr.free b))))
    | ownd ks xs => exact fun Hs' Hr' H' x q vs a b c k r => p _ _ _ (x.share a b c) (.ref q) (by
        subst k
        exact .dic upd_same (r.mono (Same.upd (Same.refl _) (x.ok.sr.free b))))
    | exn c ks vs => exact (show False from p).elim
  | exc c ks vs => exact p
  | bad => exact p
def asE (x : TV) : EV := .val x.1 x.2
def mvD (f : Env → Res EV) : Env → Res TV := fun env => (f env).bind asV
def meD (f : Env → Res TV) : Env → Res EV := fun env => (f env).map asE
section
variable {X : Cx} {J : Jx} {e : Expr}
theorem mv {f : Env → Res EV} (h : ME X J e f) : MV X J e (mvD f) := ⟨pe_imp h.pe fun σ H Q ⟨Hse, He, env, Hs, Hr, R, p⟩ => ⟨Hse, He, env, Hs, Hr, R, post_asV p⟩⟩
theorem post_asE {J : Jx} {σ : St} {Hs Hr H : Hp} {r : Res TV} {Q : VK} (p : Post J σ Hs Hr H (r.map asE) (SE J H Q)) : Post J σ Hs Hr H r (SV J Q) := by
  cases r with
  | ok a => exact p
  | exc c ks vs => exact p
  | bad => exact p
theorem me {f : Env → Res TV} (h : MV X J e f) : ME X J e (meD f) := ⟨pe_imp h.pe fun σ H Q ⟨Hse, He, env, Hs, Hr, R, p⟩ => ⟨Hse, He, env, Hs, Hr, R, post_asE p⟩⟩
end
end DL

namespace DL
open PySem PySem.Spec PyProof.Rows L2

def bin1 {α : Type} (f : Env → Res TV) (k : TV → Res α) : Env → Res α := fun env => (f env).bind k
def bin2 {α : Type} (f g : Env → Res TV) (k : TV → TV → Res α) : Env → Res α := fun env => (f env).bind fun x => (g env).bind fun y => k x y
def bin3 {α : Type} (f g h : Env → Res TV) (k : TV → TV → TV → Res α) : Env → Res α := fun env => (f env).bind fun x => (g env).bind fun y => (h env).bind fun z => k x y z
/-- wishes that lean on the heap ahead, weaker there -/
def Wish {α : Type} (S : Hp → α → Hp → Hp → Hp → Prop) : Prop := ∀ H H', Same H H' → ∀ a x y z, S H a x y z → S H' a x y z
theorem wishE {J : Jx} {Q : VK} : Wish (fun H => SE J H Q) := fun H H' s a x y z h => SE.mono s a x y z h
theorem wishV {J : Jx} {Q : VK} : Wish (fun _ => SV J Q) := fun _ _ _ _ _ _ _ h => h
theorem wishB {Q : Bool → Hp → Prop} : Wish (fun _ => SB Q) := fun _ _ _ _ _ _ _ h => h
section
variable {X : Cx} {J : Jx} {f g h : Env → Res TV} {σ : St} {H : Hp}
def Now {α : Type} (J : Jx) (σ : St) (H : Hp) (F : Env → Res α) (S : α → Hp → Hp → Hp → Prop) : Prop := ∃ Hse He env Hs Hr, Rel J Hse He env σ Hs Hr H ∧ Post J σ Hs Hr H (F env) S
theorem run1 {α : Type} {S : Hp → α → Hp → Hp → Hp → Prop} (m : Wish S) {k : TV → Res α} {R : V → Hp → Prop} (n : Now J σ H (bin1 f k) (S H))
    (hk : ∀ v H1 Hse He env Hs Hr x, Same H H1 → Rel J Hse He env σ Hs Hr H1 → RepT J.toGx x.1 Hs Hr H1 v x.2 → Post J σ Hs Hr H1 (k x) (S H1) → R v H1) : tV J f σ H R := by
  obtain ⟨Hse, He, env, Hs, Hr, r, p⟩ := n
  exact ⟨Hse, He, env, Hs, Hr, r, (Post.bind p).imp fun x Hs1 Hr1 H1 e1 p1 v rv => hk v H1 Hse He env Hs1 Hr1 x e1.h (r.ext e1) rv (p1.imp fun a _ _ _ _ z => m _ _ e1.h _ _ _ _ z)⟩
theorem run2 {α : Type} {S : Hp → α → Hp → Hp → Hp → Prop} (m : Wish S) {k : TV → TV → Res α} {R : V → V → Hp → Prop} (n : Now J σ H (bin2 f g k) (S H))
    (hk : ∀ v w H1 Hse He env Hs Hr x y, Same H H1 → Rel J Hse He env σ Hs Hr H1 → RepT J.toGx x.1 Hs Hr H1 v x.2 → RepT J.toGx y.1 Hs Hr H1 w y.2 → Post J σ Hs Hr H1 (k x y) (S H1) → R v w H1) :
    tV J f σ H fun v H1 => tV J g σ H1 fun w H2 => R v w H2 := by
  obtain ⟨Hse, He, env, Hs, Hr, r, p⟩ := n
  refine ⟨Hse, He, env, Hs, Hr, r, (Post.bind p).imp fun x Hs1 Hr1 H1 e1 p1 v rv => ?_⟩
  refine ⟨Hse, He, env, Hs1, Hr1, r.ext e1, (Post.bind p1).imp fun y Hs2 Hr2 H2 e2 p2 w rw => ?_⟩
  exact hk v w H2 Hse He env Hs2 Hr2 x y (e1.h.trans e2.h) (r.ext (e1.trans e2)) (rv.ext e2) rw (p2.imp fun a _ _ _ _ z => m _ _ (e1.h.trans e2.h) _ _ _ _ z)
theorem run3 {α : Type} {S : Hp → α → Hp → Hp → Hp → Prop} (m : Wish S) {k : TV → TV → TV → Res α} {R : V → V → V → Hp → Prop} (n : Now J σ H (bin3 f g h k) (S H))
    (hk : ∀ u v w H1 Hse He env Hs Hr x y z, Same H H1 → Rel J Hse He env σ Hs Hr H1 → RepT J.toGx x.1 Hs Hr H1 u x.2 → RepT J.toGx y.1 Hs Hr H1 v y.2 → RepT J.toGx z.1 Hs Hr H1 w z.2 → Post J σ Hs Hr H1 (k x y z) (S H1) → R u v w H1) :
    tV J f σ H fun u H1 => tV J g σ H1 fun v H2 => tV J h σ H2 fun w H3 => R u v w H3 := by
  obtain ⟨Hse, He, env, Hs, Hr, r, p⟩ := n
  refine ⟨Hse, He, env, Hs, Hr, r, (Post.bind p).imp fun x Hs1 Hr1 H1 e1 p1 v rv => ?_⟩
  refine ⟨Hse, He, env, Hs1, Hr1, r.ext e1, (Post.bind p1).imp fun y Hs2 Hr2 H2 e2 p2 w rw => ?_⟩
  refine ⟨Hse, He, env, Hs2, Hr2, r.ext (e1.trans e2), (Post.bind p2).imp fun z Hs3 Hr3 H3 e3 p3 u ru => ?_⟩
  exact hk v w u H3 Hse He env Hs3 Hr3 x y z ((e1.h.trans e2.h).trans e3.h) (r.ext ((e1.trans e2).trans e3)) (rv.ext (e2.trans e3)) (rw.ext e3) ru (p3.imp fun a _ _ _ _ z => m _ _ ((e1.h.trans e2.h).trans e3.h) _ _ _ _ z)
end

/-! ### what may be told of a value -/
theorem RepT.isInt {G : Gx} {t : Tg} {Hs Hr H : Hp} {v : V} {i : Int} (k : HpOk Hs Hr H) (r : RepT G t Hs Hr H v (.int i)) : v = .int i := by
  cases r.h k
  rfl
theorem RepT.isBl {G : Gx} {t : Tg} {Hs Hr H : Hp} {v : V} {i : Bool} (k : HpOk Hs Hr H) (r : RepT G t Hs Hr H v (.bl i)) : v = .bl i := by
  cases r.h k
  rfl
theorem RepT.isStr {G : Gx} {t : Tg} {Hs Hr H : Hp} {v : V} {i : Str} (k : HpOk Hs Hr H) (r : RepT G t Hs Hr H v (.str i)) : v = .str i := by
  cases r.h k
  rfl
theorem RepT.isNon {G : Gx} {t : Tg} {Hs Hr H : Hp} {v : V} (k : HpOk Hs Hr H) (r : RepT G t Hs Hr H v .non) : v = .non := by
  cases r.h k
  rfl
theorem RepT.isLst {G : Gx} {t : Tg} {Hs Hr H : Hp} {v : V} {xs : List D} (k : HpOk Hs Hr H) (r : RepT G t Hs Hr H v (.lst xs)) : ∃ a vs, v = .ref a ∧ H a = some (.lst vs) ∧ Reps G H vs xs := by
  cases r.h k with
  | lst h r => exact ⟨_, _, rfl, h, r⟩
theorem RepT.isTup {G : Gx} {t : Tg} {Hs Hr H : Hp} {v : V} {xs : List D} (k : HpOk Hs Hr H) (r : RepT G t Hs Hr H v (.tup xs)) : ∃ a vs, v = .ref a ∧ H a = some (.tup vs) ∧ Reps G H vs xs := by
  cases r.h k with
  | tup h r => exact ⟨_, _, rfl, h, r⟩
/-- the items' tag -/
def itT : Tg → Tg
  | .s => .s | .r => .r | .h => .h | .o => .s
def RepsT (G : Gx) (t : Tg) (Hs Hr H : Hp) (vs : List V) (ds : List D) : Prop := match t with
  | .s => Reps G Hs vs ds
  | .r => Reps G Hr vs ds
  | _ => Reps G H vs ds
theorem RepsT.ext {G : Gx} {t : Tg} {Hs Hr H Hs' Hr' H' : Hp} {v : List V} {d : List D} (x : Ext Hs Hr H Hs' Hr' H') (r : RepsT G t Hs Hr H v d) : RepsT G t Hs' Hr' H' v d := by
  cases t with
  | s => exact Reps.mono x.s r
  | r => exact Reps.mono x.r r
  | h => exact Reps.mono x.h r
  | o => exact Reps.mono x.h r
theorem RepsT.h {G : Gx} {t : Tg} {Hs Hr H : Hp} {v : List V} {d : List D} (k : HpOk Hs Hr H) (r : RepsT G t Hs Hr H v d) : Reps G H v d := by
  cases t with
  | s => exact Reps.mono k.sh r
  | r => exact Reps.mono k.rh r
  | h => exact r
  | o => exact r
theorem RepsT.get {G : Gx} {t : Tg} {Hs Hr H : Hp} {vs : List V} {ds : List D} {i : Nat} {x : D} (r : RepsT G (itT t) Hs Hr H vs ds) (e : ds[i]? = some x) : ∃ u, vs[i]? = some u ∧ RepT G (itT t) Hs Hr H u x := by
  cases t with
  | s => exact Reps.get r e
  | r => exact Reps.get r e
  | h => exact Reps.get r e
  | o => exact Reps.get r e
theorem RepsT.get' {G : Gx} {t : Tg} {Hs Hr H : Hp} {vs : List V} {ds : List D} {i : Nat} {u : V} (r : RepsT G (itT t) Hs Hr H vs ds) (e : vs[i]? = some u) : ∃ x, ds[i]? = some x ∧ RepT G (itT t) Hs Hr H u x := by
  cases t with
  | s => exact Reps.get' r e
  | r => exact Reps.get' r e
  | h => exact Reps.get' r e
  | o => exact Reps.get' r e
theorem RepT.lstT {G : Gx} {t : Tg} {Hs Hr H : Hp} {v : V} {xs : List D} (k : HpOk Hs Hr H) (r : RepT G t Hs Hr H v (.lst xs)) : ∃ a vs, v = .ref a ∧ H a = some (.lst vs) ∧ RepsT G (itT t) Hs Hr H vs xs := by
  cases t with
  | s => cases r with
    | lst h r => exact ⟨_, _, rfl, k.sh _ _ h, r⟩
  | r => cases r with
    | lst h r => exact ⟨_, _, rfl, k.rh _ _ h, r⟩
  | h => cases r with
    | lst h r => exact ⟨_, _, rfl, h, r⟩
  | o =>
    obtain ⟨a, vs, rfl, h1, h2⟩ := r
    exact ⟨a, vs, rfl, h1, h2⟩
theorem RepT.tupT {G : Gx} {t : Tg} {Hs Hr H : Hp} {v : V} {xs : List D} (k : HpOk Hs Hr H) (r : RepT G t Hs Hr H v (.tup xs)) : ∃ a vs, v = .ref a ∧ H a = some (.tup vs) ∧ RepsT G (itT t) Hs Hr H vs xs := by
  cases t with
  | s => cases r with
    | tup h r => exact ⟨_, _, rfl, k.sh _ _ h, r⟩
  | r => cases r with
    | tup h r => exact ⟨_, _, rfl, k.rh _ _ h, r⟩
  | h => cases r with
    | tup h r => exact ⟨_, _, rfl, h, r⟩
  | o => exact r.elim
/-- a list whose items may be shared -/
def shI (x : TV) : Bool := match x.1, x.2 with
  | .s, _ => true
  | .o, _ => true
  | _, .lst xs => imms xs
  | _, .tup xs => imms xs
  | _, _ => false
/-- a value that may be shared -/
def shV (x : TV) : Bool := match x.1 with
  | .s => true
  | _ => imm x.2
theorem RepT.shV {G : Gx} {Hs Hr H : Hp} {v : V} {x : TV} (k : HpOk Hs Hr H) (r : RepT G x.1 Hs Hr H v x.2) (i : DL.shV x = true) : Rep G Hs v x.2 := by
  obtain ⟨t, d⟩ := x
  cases t with
  | s => exact r
  | _ => exact r.imm k i
theorem RepT.shI {G : Gx} {t : Tg} {Hs Hr H : Hp} {v : V} {xs : List D} (k : HpOk Hs Hr H) (r : RepT G t Hs Hr H v (.lst xs)) (i : DL.shI (t, .lst xs) = true) : ∃ a vs, v = .ref a ∧ H a = some (.lst vs) ∧ Reps G Hs vs xs := by
  obtain ⟨a, vs, e, h1, h2⟩ := r.lstT k
  refine ⟨a, vs, e, h1, ?_⟩
  cases t with
  | s => exact h2
  | o => exact h2
  | r => exact (h2.h k).imms k.ti i
  | h => exact (h2.h k).imms k.ti i
theorem RepT.shIT {G : Gx} {t : Tg} {Hs Hr H : Hp} {v : V} {xs : List D} (k : HpOk Hs Hr H) (r : RepT G t Hs Hr H v (.tup xs)) (i : DL.shI (t, .tup xs) = true) : ∃ a vs, v = .ref a ∧ H a = some (.tup vs) ∧ Reps G Hs vs xs := by
  obtain ⟨a, vs, e, h1, h2⟩ := r.tupT k
  refine ⟨a, vs, e, h1, ?_⟩
  cases t with
  | s => exact h2
  | o => exact r.elim
  | r => exact (h2.h k).imms k.ti i
  | h => exact (h2.h k).imms k.ti i
theorem Reps.toT {G : Gx} {t u : Tg} {Hs Hr H : Hp} {vs : List V} {ds : List D} (k : HpOk Hs Hr H) (r : RepsT G t Hs Hr H vs ds) : RepsT G (jn t u) Hs Hr H vs ds := by
  cases t with
  | s => cases u with
    | s => exact r
    | r => exact Reps.mono k.sr r
    | h => exact Reps.mono k.sh r
    | o => exact Reps.mono k.sh r
  | r => cases u with
    | s => exact r
    | r => exact r
    | h => exact Reps.mono k.rh r
    | o => exact Reps.mono k.rh r
  | h => exact r
  | o => exact r
theorem jn_comm (t u : Tg) : jn t u = jn u t := by cases t <;> cases u <;> rfl
theorem jn_cases (t u : Tg) : jn t u = .s ∨ jn t u = .r ∨ jn t u = .h := by cases t <;> cases u <;> first | exact .inl rfl | exact .inr (.inl rfl) | exact .inr (.inr rfl)
/-- a tuple of such items -/
theorem RepT.mkTup {G : Gx} {t : Tg} {Hs Hr H : Hp} {p : Addr} {vs : List V} {ds : List D} (ht : t ≠ .o) (k : HpOk Hs Hr H) (hp : Hs p = some (.tup vs)) (r : RepsT G t Hs Hr H vs ds) : RepT G t Hs Hr H (.ref p) (.tup ds) := by
  cases t with
  | s => exact .tup hp r
  | r => exact .tup (k.sr _ _ hp) r
  | h => exact .tup (k.sh _ _ hp) r
  | o => exact absurd rfl ht

/-! ### constants, names -/
def cst (d : D) : Env → Res TV := fun _ => .ok (.s, d)
def getV (i : Nat) : Env → Res TV := fun env => match env[i]? with
  | some (some (.val t d)) => .ok (t, d)
  | some (some (.own xs)) => .ok (.o, .lst xs)
  | some (some (.ownd ks xs)) => .ok (.o, .dic ks xs)
  | _ => .bad
section
variable {X : Cx} {J : Jx} {a b c e : Expr} {pos : Pos} {f g h : Env → Res TV}
theorem mv_int {i j} : MV X J (.Constant (.int i) j pos) (cst (.int i)) := ⟨pe_imp pe_int fun _ _ _ ⟨_, _, _, _, _, R, p⟩ => p.now R.ok _ (.int i)⟩
theorem mv_bl {i j} : MV X J (.Constant (.bool i) j pos) (cst (.bl i)) := ⟨pe_imp pe_bl fun _ _ _ ⟨_, _, _, _, _, R, p⟩ => p.now R.ok _ (.bl i)⟩
theorem mv_non {j} : MV X J (.Constant .none j pos) (cst .non) := ⟨pe_imp pe_non fun _ _ _ ⟨_, _, _, _, _, R, p⟩ => p.now R.ok _ .non⟩
theorem mv_str {i j} : MV X J (.Constant (.str i) j pos) (cst (.str i)) := ⟨pe_imp pe_str fun _ _ _ ⟨_, _, _, _, _, R, p⟩ => p.now R.ok _ (.str i)⟩
theorem mv_gint {x : Str} {i : Int} (hm : ∃ t, X.mg x = some (.int i t)) (hg : Gl X x := by rfl) (hd : (x == ("__debug__" : Str)) = false := by decide) : MV X J (.Name x pos) (cst (.int i)) :=
  let ⟨t, hm⟩ := hm; ⟨pe_imp (pe_glob (v := .int i) hg hm ⟨t, rfl⟩ hd) fun _ _ _ ⟨_, _, _, _, _, R, p⟩ => p.now R.ok _ (.int i)⟩
theorem mv_gstr {x : Str} {i : Str} (hm : ∃ t, X.mg x = some (.str i t)) (hg : Gl X x := by rfl) (hd : (x == ("__debug__" : Str)) = false := by decide) : MV X J (.Name x pos) (cst (.str i)) :=
  let ⟨t, hm⟩ := hm; ⟨pe_imp (pe_glob (v := .str i) hg hm ⟨t, rfl⟩ hd) fun _ _ _ ⟨_, _, _, _, _, R, p⟩ => p.now R.ok _ (.str i)⟩
theorem mv_gcls {x : Str} {C : Addr} (hm : X.mg x = some (.ref C)) (hc : J.cl x = some C) (hg : Gl X x := by rfl) (hd : (x == ("__debug__" : Str)) = false := by decide) : MV X J (.Name x pos) (cst (.cls x)) :=
  ⟨pe_imp (pe_glob (v := .ref C) hg hm rfl hd) fun _ _ _ ⟨_, _, _, _, _, R, p⟩ => p.now R.ok _ (.cls hc)⟩
theorem mv_var (i : Nat) {x : Str} (hN : X.N[i]? = some x := by rfl) (hv : Vis X.env.scope x := by first | exact Or.inl rfl | exact Or.inr (Or.inl rfl) | exact Or.inr (Or.inr rfl)) (hd : (x == ("__debug__" : Str)) = false := by decide)
    (hcd : (x == ("__classdict__" : Str)) = false := by decide) : MV X J (.Name x pos) (getV i) := ⟨pe_imp (pv i hN hv hd hcd) fun σ H Q ⟨Hse, He, env, Hs, Hr, R, p⟩ => by
  unfold getV at p
  split at p
  · rename_i t d q
    have so := R.slot i _ q
    cases t with
    | s => obtain ⟨v, e, r⟩ := so; exact ⟨v, e, p.now R.ok _ r⟩
    | r => obtain ⟨v, e, r⟩ := so; exact ⟨v, e, p.now R.ok _ r⟩
    | h => exact so.elim
    | o => exact so.elim
  · rename_i xs q
    obtain ⟨a, vs, e, h1, h2, r⟩ := R.slot i _ q
    exact ⟨_, e, p.now R.ok _ ⟨a, vs, rfl, h1, r⟩⟩
  · rename_i ks xs q
    obtain ⟨a, vs, e, h1, h2, h3, r⟩ := R.slot i _ q
    exact ⟨_, e, p.now R.ok _ ⟨a, vs, rfl, h1, h3, r⟩⟩
  · exact (show False from p).elim⟩

/-! ### two-place operations -/
theorem me_op {op : Operator} {r : R2} (ho : OpR X (binaryOp op) r) (k : TV → TV → Res EV)
    (hk : ∀ σ Hs Hr H x y v w Q, HpOk Hs Hr H → RepT J.toGx x.1 Hs Hr H v x.2 → RepT J.toGx y.1 Hs Hr H w y.2 → Post J σ Hs Hr H (k x y) (SE J H Q) → r v w H Q)
    (ha : MV X J a f) (hb : MV X J b g) : ME X J (.BinOp a op b pos) (bin2 f g k) :=
  ⟨pe_imp (pe_op ho ha.pe hb.pe) fun σ H Q n => run2 (wishE (J := J) (Q := Q)) n fun v w H1 _ _ _ Hs Hr x y _ R rv rw p => hk σ Hs Hr H1 x y v w Q R.ok rv rw p⟩
theorem mv_op {op : Operator} {r : R2} (ho : OpR X (binaryOp op) r) (k : TV → TV → Res TV)
    (hk : ∀ σ Hs Hr H x y v w Q, HpOk Hs Hr H → RepT J.toGx x.1 Hs Hr H v x.2 → RepT J.toGx y.1 Hs Hr H w y.2 → Post J σ Hs Hr H (k x y) (SV J Q) → r v w H Q)
    (ha : MV X J a f) (hb : MV X J b g) : MV X J (.BinOp a op b pos) (bin2 f g k) :=
  ⟨pe_imp (pe_op ho ha.pe hb.pe) fun σ H Q n => run2 (wishV (J := J) (Q := Q)) n fun v w H1 _ _ _ Hs Hr x y _ R rv rw p => hk σ Hs Hr H1 x y v w Q R.ok rv rw p⟩
theorem mv_cmpO {op : CmpOp} {r : R2} (ho : OpR X (compareOp op) r) (k : TV → TV → Res TV)
    (hk : ∀ σ Hs Hr H x y v w Q, HpOk Hs Hr H → RepT J.toGx x.1 Hs Hr H v x.2 → RepT J.toGx y.1 Hs Hr H w y.2 → Post J σ Hs Hr H (k x y) (SV J Q) → r v w H Q)
    (ha : MV X J a f) (hb : MV X J b g) (hm : behindInMarks op b = false) : MV X J (.Compare a [op] [b] pos) (bin2 f g k) :=
  ⟨pe_imp (pe_cmpR ho ha.pe hb.pe hm) fun σ H Q n => run2 (wishV (J := J) (Q := Q)) n fun v w H1 _ _ _ Hs Hr x y _ R rv rw p => hk σ Hs Hr H1 x y v w Q R.ok rv rw p⟩

def asI2 {α : Type} (k : Int → Int → Res α) (x y : TV) : Res α := match x.2, y.2 with
  | .int i, .int j => k i j
  | _, _ => .bad
def oki (i : Int) : Res TV := .ok (.s, .int i)
def okb (b : Bool) : Res TV := .ok (.s, .bl b)
theorem hk_I {C : Int → Int → Prop} {gi : Int → Int → Int} {kk : Int → Int → Res TV} (hc : ∀ i j, kk i j = .bad ∨ (C i j ∧ kk i j = oki (gi i j))) :
    ∀ σ Hs Hr H (x y : TV) v w Q, HpOk Hs Hr H → RepT J.toGx x.1 Hs Hr H v x.2 → RepT J.toGx y.1 Hs Hr H w y.2 → Post J σ Hs Hr H (asI2 kk x y) (SV J Q) → rI C (fun i j => V.int (gi i j)) v w H Q := by
  intro σ Hs Hr H x y v w Q k rx ry p
  obtain ⟨t, d⟩ := x
  obtain ⟨u, e⟩ := y
  unfold asI2 at p
  split at p
  · rename_i i j q1 q2
    dsimp only at q1 q2
    subst q1 q2
    rcases hc i j with z | ⟨c, z⟩
    · rw [z] at p; exact (show False from p).elim
    · rw [z] at p
      exact ⟨i, j, rx.isInt k, ry.isInt k, c, p.now k _ (.int _)⟩
  · exact (show False from p).elim
theorem hk_I0 {gi : Int → Int → Int} : ∀ σ Hs Hr H (x y : TV) v w Q, HpOk Hs Hr H → RepT J.toGx x.1 Hs Hr H v x.2 → RepT J.toGx y.1 Hs Hr H w y.2 → Post J σ Hs Hr H (asI2 (fun i j => oki (gi i j)) x y) (SV J Q) → rI0 (fun i j => V.int (gi i j)) v w H Q := by
  intro σ Hs Hr H x y v w Q k rx ry p
  obtain ⟨t, d⟩ := x
  obtain ⟨u, e⟩ := y
  unfold asI2 at p
  split at p
  · rename_i i j q1 q2
    dsimp only at q1 q2
    subst q1 q2
    exact ⟨i, j, rx.isInt k, ry.isInt k, p.now k _ (.int _)⟩
  · exact (show False from p).elim
theorem hk_B0 {gi : Int → Int → Bool} : ∀ σ Hs Hr H (x y : TV) v w Q, HpOk Hs Hr H → RepT J.toGx x.1 Hs Hr H v x.2 → RepT J.toGx y.1 Hs Hr H w y.2 → Post J σ Hs Hr H (asI2 (fun i j => okb (gi i j)) x y) (SV J Q) → rI0 (fun i j => V.bl (gi i j)) v w H Q := by
  intro σ Hs Hr H x y v w Q k rx ry p
  obtain ⟨t, d⟩ := x
  obtain ⟨u, e⟩ := y
  unfold asI2 at p
  split at p
  · rename_i i j q1 q2
    dsimp only at q1 q2
    subst q1 q2
    exact ⟨i, j, rx.isInt k, ry.isInt k, p.now k _ (.bl _)⟩
  · exact (show False from p).elim
/-- // by whatever but 0 -/
def CFd (i j : Int) : Prop := j ≠ 0 ∧ j.natAbs.log2 < 9000
theorem op_fdivA : OpR X (binaryOp .FloorDiv) (rI CFd fun i j => .int (i.fdiv j)) := opI fun _ _ _ _ _ _ _ hc q => floordiv_int hc.1 q (.inl (PyProof.noPylong_of_log2 hc.2))
def kSub (i j : Int) : Res TV := oki (i - j)
def kLt (i j : Int) : Res TV := okb (decide (i < j))
def kLe (i j : Int) : Res TV := okb (decide (i ≤ j))
def kGt (i j : Int) : Res TV := okb (decide (j < i))
def kGe (i j : Int) : Res TV := okb (decide (j ≤ i))
/-- of no more than 150 figures -/
def Sm (i : Int) : Prop := -(10 ^ 150) < i ∧ i < 10 ^ 150
instance (i : Int) : Decidable (Sm i) := inferInstanceAs (Decidable (_ ∧ _))
theorem Sm.log {i : Int} (h : Sm i) : i.natAbs.log2 < 1000 := by
  have h1 := h.1
  have h2 := h.2
  have h3 : i.natAbs < 10 ^ 150 := by omega
  have h4 : (10 : Nat) ^ 150 ≤ 2 ^ 500 := by decide
  exact Nat.lt_of_lt_of_le (PySem.Flt.log2_lt_of (by decide) (Nat.lt_of_lt_of_le h3 h4)) (by decide)
def kFdiv (i j : Int) : Res TV := if j ≠ 0 ∧ Sm j then oki (i.fdiv j) else .bad
def kMod (i j : Int) : Res TV := if j ≠ 0 then oki (i.fmod j) else .bad
def kPow (i j : Int) : Res TV := if 0 ≤ j ∧ j ≤ 1000000 ∧ i.natAbs < 2 ^ 64 then oki (i ^ j.toNat) else .bad
theorem mv_sub (ha : MV X J a f) (hb : MV X J b g) : MV X J (.BinOp a .Sub b pos) (bin2 f g (asI2 kSub)) := mv_op op_sub _ (hk_I0 (gi := fun i j => i - j)) ha hb
theorem mv_fdiv (ha : MV X J a f) (hb : MV X J b g) : MV X J (.BinOp a .FloorDiv b pos) (bin2 f g (asI2 kFdiv)) := mv_op op_fdivA _ (hk_I fun i j => by
  unfold kFdiv
  split
  · rename_i h; exact .inr ⟨⟨h.1, Nat.lt_of_lt_of_le h.2.log (by decide)⟩, rfl⟩
  · exact .inl rfl) ha hb
theorem mv_mod (ha : MV X J a f) (hb : MV X J b g) : MV X J (.BinOp a .Mod b pos) (bin2 f g (asI2 kMod)) := mv_op op_modN _ (hk_I fun i j => by
  unfold kMod
  split
  · rename_i h; exact .inr ⟨h, rfl⟩
  · exact .inl rfl) ha hb
theorem mv_pow (ha : MV X J a f) (hb : MV X J b g) : MV X J (.BinOp a .Pow b pos) (bin2 f g (asI2 kPow)) := mv_op op_pow _ (hk_I fun i j => by
  unfold kPow
  split
  · rename_i h; exact .inr ⟨h, rfl⟩
  · exact .inl rfl) ha hb

/-- + -/
def kAdd (x y : TV) : Res EV := match x.2, y.2 with
  | .int i, .int j => .ok (.val .s (.int (i + j)))
  | .str u, .str v => if u.length + v.length ≤ 16777216 then .ok (.val .s (.str (u ++ v))) else .bad
  | .lst xs, .lst ys => if shI x = true ∧ shI y = true ∧ xs.length + ys.length ≤ 16777216 then .ok (.own (xs ++ ys)) else .bad
  | .tup xs, .tup ys => if shI x = true ∧ shI y = true ∧ xs.length + ys.length ≤ 16777216 then .ok (.val .s (.tup (xs ++ ys))) else .bad
  | _, _ => .bad
theorem rep_of_tup {G : Gx} {Hs Hr H : Hp} (k : HpOk Hs Hr H) {p : Addr} {vs : List V} {ds : List D} (h : H p = some (.tup vs)) (r : Reps G Hs vs ds) : Rep G Hs (.ref p) (.tup ds) := .tup (k.ti _ _ h) r
theorem me_add (ha : MV X J a f) (hb : MV X J b g) (hK : X.K = J.K) : ME X J (.BinOp a .Add b pos) (bin2 f g kAdd) := by
  refine me_op (op_add.or (op_add_str.or (op_cat.or op_catA))) _ ?_ ha hb
  intro σ Hs Hr H x y v w Q k rx ry p
  obtain ⟨t, d⟩ := x
  obtain ⟨u, e⟩ := y
  unfold kAdd at p
  split at p
  · rename_i i j q1 q2
    dsimp only at q1 q2
    subst q1 q2
    exact .inl ⟨i, j, rx.isInt k, ry.isInt k, p.now k _ (.int _)⟩
  · rename_i i j q1 q2
    dsimp only at q1 q2
    subst q1 q2
    split at p
    · rename_i hl
      exact .inr (.inl ⟨i, j, rx.isStr k, ry.isStr k, by rw [sizeLine_eq]; exact hl, p.now k _ (.str _)⟩)
    · exact (show False from p).elim
  · rename_i i j q1 q2
    dsimp only at q1 q2
    subst q1 q2
    split at p
    · rename_i hl
      obtain ⟨l1, l2, l3⟩ := hl
      obtain ⟨p1, vs, rfl, h1, r1⟩ := rx.shI k l1
      obtain ⟨p2, ws, rfl, h2, r2⟩ := ry.shI k l2
      refine .inr (.inr (.inl ⟨p1, p2, vs, ws, rfl, rfl, h1, h2, by rw [sizeLine_eq, r1.length, r2.length]; exact l3, fun q hq => ?_⟩))
      exact p _ _ _ (Ext.new0 k hq fun xs z => by cases z) q _ upd_same (k.none_r hq) hq (r1.append r2)
    · exact (show False from p).elim
  · rename_i i j q1 q2
    dsimp only at q1 q2
    subst q1 q2
    split at p
    · rename_i hl
      obtain ⟨l1, l2, l3⟩ := hl
      obtain ⟨p1, vs, rfl, h1, r1⟩ := rx.shIT k l1
      obtain ⟨p2, ws, rfl, h2, r2⟩ := ry.shIT k l2
      refine .inr (.inr (.inr ⟨p1, p2, vs, ws, rfl, rfl, .inl (.inl h1), .inl (.inl h2), by rw [sizeLine_eq, r1.length, r2.length]; exact l3, fun e0 => ?_, fun _ e0 => ?_, fun _ _ q hq => ?_⟩))
      · subst e0
        cases r1
        exact p.now k _ (rep_of_tup k h2 r2)
      · subst e0
        cases r2
        rw [List.append_nil] at p
        exact p.now k _ (rep_of_tup k h1 r1)
      · have x := Ext.new (o := .tup (vs ++ ws)) k hq
        exact p _ _ _ x _ (.tup upd_same ((r1.append r2).mono x.s))
    · exact (show False from p).elim
  · exact (show False from p).elim
/-- * -/
def kMul (x y : TV) : Res EV := match x.2, y.2 with
  | .int i, .int j => if Sm i ∧ Sm j then .ok (.val .s (.int (i * j))) else .bad
  | .lst xs, .int j => if shI x = true ∧ j < 2 ^ 40 ∧ -(2 ^ 40) < j ∧ xs.length * j.toNat ≤ 16777216 then .ok (.own (List.replicate j.toNat xs).flatten) else .bad
  | _, _ => .bad
theorem Reps.rep {G : Gx} {H : Hp} {vs : List V} {ds : List D} (h : Reps G H vs ds) : ∀ n : Nat, Reps G H (List.replicate n vs).flatten (List.replicate n ds).flatten
  | 0 => .nil
  | n + 1 => by
    rw [List.replicate_succ, List.replicate_succ, List.flatten_cons, List.flatten_cons]
    exact h.append (Reps.rep h n)
theorem me_mul (ha : MV X J a f) (hb : MV X J b g) : ME X J (.BinOp a .Mult b pos) (bin2 f g kMul) := by
  refine me_op (op_mulW.or op_rep) _ ?_ ha hb
  intro σ Hs Hr H x y v w Q k rx ry p
  obtain ⟨t, d⟩ := x
  obtain ⟨u, e⟩ := y
  unfold kMul at p
  split at p
  · rename_i i j q1 q2
    dsimp only at q1 q2
    subst q1 q2
    split at p
    · rename_i hl
      exact .inl ⟨i, j, rx.isInt k, ry.isInt k, (by have h1 := hl.1.log; have h2 := hl.2.log; show _ + _ < 1000000; omega), p.now k _ (.int _)⟩
    · exact (show False from p).elim
  · rename_i i j q1 q2
    dsimp only at q1 q2
    subst q1 q2
    split at p
    · rename_i hl
      obtain ⟨l1, l2, l3, l4⟩ := hl
      obtain ⟨p1, vs, rfl, h1, r1⟩ := rx.shI k l1
      refine .inr ⟨p1, j, vs, rfl, ry.isInt k, h1, by omega, by omega, by rw [sizeLine_eq, r1.length]; exact l4, fun q hq => ?_⟩
      exact p _ _ _ (Ext.new0 k hq fun xs z => by cases z) q _ upd_same (k.none_r hq) hq (Reps.rep r1 _)
    · exact (show False from p).elim
  · exact (show False from p).elim
/-- - -/
def kNeg (x : TV) : Res TV := match x.2 with
  | .int i => oki (-i)
  | _ => .bad
theorem mv_neg (ha : MV X J a f) : MV X J (.UnaryOp .USub a pos) (bin1 f kNeg) := ⟨pe_imp (pe_un un_neg ha.pe) fun σ H Q n => run1 (wishV (J := J) (Q := Q)) n fun v H1 _ _ _ Hs Hr x _ R rv p => by
  obtain ⟨t, d⟩ := x
  unfold kNeg at p
  split at p
  · rename_i i q
    dsimp only at q
    subst q
    exact ⟨i, rv.isInt R.ok, p.now R.ok _ (.int _)⟩
  · exact (show False from p).elim⟩

/-! ### comparisons -/
theorem mv_lt (ha : MV X J a f) (hb : MV X J b g) : MV X J (.Compare a [.Lt] [b] pos) (bin2 f g (asI2 kLt)) := mv_cmpO op_lt _ hk_B0 ha hb (nomark _)
theorem mv_le (ha : MV X J a f) (hb : MV X J b g) : MV X J (.Compare a [.LtE] [b] pos) (bin2 f g (asI2 kLe)) := mv_cmpO op_le _ hk_B0 ha hb (nomark _)
theorem mv_gt (ha : MV X J a f) (hb : MV X J b g) : MV X J (.Compare a [.Gt] [b] pos) (bin2 f g (asI2 kGt)) := mv_cmpO op_gt _ hk_B0 ha hb (nomark _)
theorem mv_ge (ha : MV X J a f) (hb : MV X J b g) : MV X J (.Compare a [.GtE] [b] pos) (bin2 f g (asI2 kGe)) := mv_cmpO op_ge _ hk_B0 ha hb (nomark _)
end
end DL

namespace DL
open PySem PySem.Spec PyProof.Rows L2

/-- what nearly every rule asks of the place -/
structure Bas (X : Cx) (J : Jx) : Prop where
  K : X.K = J.K
  nd : X.N.Nodup
  hu : X.A.units + 65 < cLine
structure Good (X : Cx) (J : Jx) (n : Nat) : Prop extends Bas X J where
  tk : Takes X J.W
  room : Room n X.A
  calm : X.calm = true
  po : PassesOwn (model X.prog X.w) X.A X.env X.xe

/-! ### == -/
mutual
def toP : D → PyData
  | .non => .none | .bl b => .bool b | .int i => .int i | .str x => .str x
  | .tup xs => .tuple (toPs xs) | .lst xs => .list (toPs xs)
  | _ => .none
def toPs : List D → List PyData
  | [] => []
  | d :: r => toP d :: toPs r
end
mutual
/-- plain data, not deeper than so much -/
def dOk : Nat → D → Bool
  | _, .non => true | _, .bl _ => true | _, .int _ => true | _, .str x => PyData.canLay0 (.str x)
  | 0, .tup _ => false | n + 1, .tup xs => dOks n xs
  | 0, .lst _ => false | n + 1, .lst xs => dOks n xs
  | _, _ => false
def dOks : Nat → List D → Bool
  | _, [] => true
  | n, d :: r => dOk n d && dOks n r
end
mutual
theorem dp_of {G : Gx} {H : Hp} : ∀ {v : V} {d : D} {n : Nat}, Rep G H v d → dOk n d = true → Dp G.K H v (toP d)
  | _, _, _, .non, _ => .non
  | _, _, _, .bl b, _ => .bl b
  | _, _, _, .int i, _ => .int i
  | _, _, _, .str x, _ => .str x
  | _, _, 0, .tup h r, k => by simp [dOk] at k
  | _, _, n + 1, .tup h r, k => .tup (.inl (.inl h)) (dps_of r (n := n) (by simpa [dOk] using k))
  | _, _, 0, .lst h r, k => by simp [dOk] at k
  | _, _, n + 1, .lst h r, k => .lst (.inl (.inl h)) (dps_of r (n := n) (by simpa [dOk] using k))
  | _, _, _, .dic h r, k => by simp [dOk] at k
  | _, _, _, .obj c h r, k => by simp [dOk] at k
  | _, _, _, .cls c, k => by simp [dOk] at k
  | _, _, _, .typ n, k => by simp [dOk] at k
  | _, _, _, .scr h, k => by simp [dOk] at k
theorem dps_of {G : Gx} {H : Hp} : ∀ {v : List V} {d : List D} {n : Nat}, Reps G H v d → dOks n d = true → DpAll G.K H v (toPs d)
  | _, _, _, .nil, _ => .nil
  | _, _, n, .cons h r, k => by
    simp only [dOks, Bool.and_eq_true] at k
    exact .cons (dp_of h k.1) (dps_of r k.2)
end
mutual
theorem dOk_mono : ∀ (d : D) (m n : Nat), m ≤ n → dOk m d = true → dOk n d = true
  | .non, m, n, l, k => by simp [dOk]
  | .bl b, m, n, l, k => by simp [dOk]
  | .int i, m, n, l, k => by simp [dOk]
  | .str x, m, n, l, k => by simpa [dOk] using k
  | .tup xs, 0, n, l, k => by simp [dOk] at k
  | .tup xs, m + 1, 0, l, k => by omega
  | .tup xs, m + 1, n + 1, l, k => by
    simp only [dOk] at k ⊢
    exact dOks_mono xs m n (by omega) k
  | .lst xs, 0, n, l, k => by simp [dOk] at k
  | .lst xs, m + 1, 0, l, k => by omega
  | .lst xs, m + 1, n + 1, l, k => by
    simp only [dOk] at k ⊢
    exact dOks_mono xs m n (by omega) k
  | .dic _ _, m, n, l, k => by simp [dOk] at k
  | .obj _ _ _, m, n, l, k => by simp [dOk] at k
  | .cls _, m, n, l, k => by simp [dOk] at k
  | .typ _, m, n, l, k => by simp [dOk] at k
  | .scr _, m, n, l, k => by simp [dOk] at k
theorem dOks_mono : ∀ (d : List D) (m n : Nat), m ≤ n → dOks m d = true → dOks n d = true
  | [], m, n, l, k => by simp [dOks]
  | d :: r, m, n, l, k => by
    simp only [dOks, Bool.and_eq_true] at k ⊢
    exact ⟨dOk_mono d m n l k.1, dOks_mono r m n l k.2⟩
end
mutual
theorem dOk_shaped : ∀ (d : D) (n : Nat), dOk n d = true → (toP d).canLay0 = true ∧ (toP d).depth ≤ n
  | .non, n, k => ⟨rfl, Nat.zero_le _⟩
  | .bl b, n, k => ⟨rfl, Nat.zero_le _⟩
  | .int i, n, k => ⟨rfl, Nat.zero_le _⟩
  | .str x, n, k => ⟨by simpa [dOk, toP] using k, by simp [toP, PyData.depth]⟩
  | .tup xs, 0, k => by simp [dOk] at k
  | .tup xs, n + 1, k => by
    have q := dOks_shaped xs n (by simpa [dOk] using k)
    exact ⟨by simpa [toP, PyData.canLay0] using q.1, by simpa [toP, PyData.depth] using q.2⟩
  | .lst xs, 0, k => by simp [dOk] at k
  | .lst xs, n + 1, k => by
    have q := dOks_shaped xs n (by simpa [dOk] using k)
    exact ⟨by simpa [toP, PyData.canLay0] using q.1, by simpa [toP, PyData.depth] using q.2⟩
  | .dic _ _, n, k => by simp [dOk] at k
  | .obj _ _ _, n, k => by simp [dOk] at k
  | .cls _, n, k => by simp [dOk] at k
  | .typ _, n, k => by simp [dOk] at k
  | .scr _, n, k => by simp [dOk] at k
theorem dOks_shaped : ∀ (d : List D) (n : Nat), dOks n d = true → PyData.canLayAll0 (toPs d) = true ∧ PyData.depthAll (toPs d) ≤ n
  | [], n, k => ⟨rfl, Nat.zero_le _⟩
  | d :: r, n, k => by
    have k' : dOk n d = true ∧ dOks n r = true := by simpa [dOks] using k
    have q := dOk_shaped d n k'.1
    have q2 := dOks_shaped r n k'.2
    refine ⟨by simpa [toPs, PyData.canLayAll0] using ⟨q.1, q2.1⟩, ?_⟩
    simp only [toPs, PyData.depthAll]
    exact Nat.max_le.mpr ⟨q.2, q2.2⟩
end
theorem shaped_of {d : D} (k : dOk 60 d = true) : SeqAt.shaped (toP d) = true := by
  have q := dOk_shaped d 60 k
  unfold SeqAt.shaped
  rw [Bool.and_eq_true]
  exact ⟨q.1, decide_eq_true (by have := q.2; omega)⟩
def deq (x y : D) : Bool := PyData.eqv (toP x) (toP y)
def deqs (x y : List D) : Bool := PyData.eqvAll (toPs x) (toPs y)
theorem Post.nowB {J : Jx} {σ : St} {Hs Hr H : Hp} {b : Bool} {Q : VK} (k : HpOk Hs Hr H) (p : Post J σ Hs Hr H (okb b) (SV J Q)) : Q (.bl b) H := Post.now (a := ((.s, .bl b) : TV)) k p _ (.bl _)
theorem Post.nowI {J : Jx} {σ : St} {Hs Hr H : Hp} {i : Int} {Q : VK} (k : HpOk Hs Hr H) (p : Post J σ Hs Hr H (oki i) (SV J Q)) : Q (.int i) H := Post.now (a := ((.s, .int i) : TV)) k p _ (.int _)
theorem Post.nowT {J : Jx} {σ : St} {Hs Hr H : Hp} {b : Bool} {Q : Bool → Hp → Prop} (k : HpOk Hs Hr H) (p : Post J σ Hs Hr H (.ok b) (SB Q)) : Q b H := Post.now (a := b) k p
def kEq (x y : TV) : Res TV := if dOk 60 x.2 = true ∧ dOk 60 y.2 = true then okb (deq x.2 y.2) else .bad
def kNe (x y : TV) : Res TV := if dOk 60 x.2 = true ∧ dOk 60 y.2 = true then okb (!deq x.2 y.2) else .bad
def flatD : D → Bool
  | .non => true | .bl _ => true | .int _ => true | .str _ => true | _ => false
def eqD : D → D → Bool
  | .non, .non => true
  | .bl a, .bl b => a == b
  | .bl a, .int b => (if a then 1 else 0) == b
  | .int a, .bl b => a == (if b then 1 else 0)
  | .int a, .int b => a == b
  | .str a, .str b => a == b
  | _, _ => false
theorem flat_of {G : Gx} {H : Hp} {v : V} {d : D} (r : Rep G H v d) (f : flatD d = true) : flatV v = true := by
  cases r <;> first | rfl | (simp [flatD] at f)
theorem eq_of {G : Gx} {H : Hp} {v w : V} {d e : D} (r : Rep G H v d) (q : Rep G H w e) (f : flatD d = true) (g : flatD e = true) : eqV v w = eqD d e := by
  cases r <;> cases q <;> first | rfl | (simp [flatD] at f; done) | (simp [flatD] at g; done)
theorem flats_of {G : Gx} {H : Hp} : ∀ {v : List V} {d : List D}, Reps G H v d → d.all flatD = true → v.all flatV = true
  | _, _, .nil, _ => rfl
  | _, _, .cons h r, f => by
    rw [List.all_cons, Bool.and_eq_true] at f
    rw [List.all_cons, flat_of h f.1, flats_of r f.2] <;> rfl
theorem any_of {G : Gx} {H : Hp} {w : V} {e : D} (q : Rep G H w e) (g : flatD e = true) : ∀ {v : List V} {d : List D}, Reps G H v d → d.all flatD = true → inV w v = d.any fun z => eqD z e
  | _, _, .nil, _ => rfl
  | _, _, .cons h r, f => by
    rw [List.all_cons, Bool.and_eq_true] at f
    show (eqV _ w || inV w _) = (eqD _ e || _)
    rw [eq_of h q f.1 g, any_of q g r f.2] <;> rfl
/-- in -/
def kInB (x y : TV) : Option Bool := match y.2 with
  | .lst ys => if dOk 60 x.2 = true ∧ dOks 50 ys = true then some (ys.any fun z => deq z x.2) else none
  | .tup ys => if flatD x.2 = true ∧ ys.all flatD = true then some (ys.any fun z => eqD z x.2) else none
  | _ => none
def kIn (x y : TV) : Res TV := match kInB x y with | some b => okb b | none => .bad
def kNin (x y : TV) : Res TV := match kInB x y with | some b => okb (!b) | none => .bad
theorem any_toPs (x : PyData) : ∀ ys : List D, ((toPs ys).any fun z => PyData.eqv z x) = ys.any fun z => PyData.eqv (toP z) x
  | [] => rfl
  | y :: r => by
    show (PyData.eqv (toP y) x || _) = (PyData.eqv (toP y) x || _)
    rw [any_toPs x r]
section
variable {X : Cx} {J : Jx} {a b c e : Expr} {pos : Pos} {f g h : Env → Res TV}
theorem hk_eq (B : Bas X J) : ∀ σ Hs Hr H (x y : TV) v w Q, HpOk Hs Hr H → RepT J.toGx x.1 Hs Hr H v x.2 → RepT J.toGx y.1 Hs Hr H w y.2 → Post J σ Hs Hr H (kEq x y) (SV J Q) → rEqD X.K v w H Q := by
  intro σ Hs Hr H x y v w Q k rx ry p
  unfold kEq at p
  split at p
  · rename_i z
    rw [B.K]
    exact ⟨_, _, dp_of (rx.h k) z.1, dp_of (ry.h k) z.2, shaped_of z.1, shaped_of z.2, p.now k _ (.bl _)⟩
  · exact (show False from p).elim
theorem hk_ne (B : Bas X J) : ∀ σ Hs Hr H (x y : TV) v w Q, HpOk Hs Hr H → RepT J.toGx x.1 Hs Hr H v x.2 → RepT J.toGx y.1 Hs Hr H w y.2 → Post J σ Hs Hr H (kNe x y) (SV J Q) → rNeD X.K v w H Q := by
  intro σ Hs Hr H x y v w Q k rx ry p
  unfold kNe at p
  split at p
  · rename_i z
    rw [B.K]
    exact ⟨_, _, dp_of (rx.h k) z.1, dp_of (ry.h k) z.2, shaped_of z.1, shaped_of z.2, p.now k _ (.bl _)⟩
  · exact (show False from p).elim
theorem hk_in (B : Bas X J) : ∀ σ Hs Hr H (x y : TV) v w Q, HpOk Hs Hr H → RepT J.toGx x.1 Hs Hr H v x.2 → RepT J.toGx y.1 Hs Hr H w y.2 → Post J σ Hs Hr H (kIn x y) (SV J Q) → rInD X.K v w H Q ∨ rIn X.K false v w H Q := by
  intro σ Hs Hr H x y v w Q k rx ry p
  obtain ⟨t, d⟩ := x
  obtain ⟨u, e⟩ := y
  unfold kIn kInB at p
  rw [B.K]
  dsimp only at p rx ry
  cases e with
  | lst ys =>
    dsimp only at p
    by_cases z : dOk 60 d = true ∧ dOks 50 ys = true
    · rw [if_pos z] at p
      refine .inl ⟨toP d, toPs ys, dp_of (rx.h k) z.1, ?_, shaped_of z.1, shaped_of (d := .lst ys) ?_, ?_⟩
      · have q : dOk 51 (.lst ys) = true := by simpa [dOk] using z.2
        have := dp_of (ry.h k) q
        simpa [toP] using this
      · simp only [dOk]
        exact dOks_mono ys 50 59 (by omega) z.2
      · rw [any_toPs]
        exact p.now k _ (.bl _)
    · rw [if_neg z] at p; exact (show False from p).elim
  | tup ys =>
    dsimp only at p
    by_cases z : flatD d = true ∧ ys.all flatD = true
    · rw [if_pos z] at p
      obtain ⟨a, vs, rfl, h1, r1⟩ := ry.isTup k
      refine .inr ⟨a, vs, rfl, .inr (.inl (.inl h1)), flat_of (rx.h k) z.1, flats_of r1 z.2, ?_⟩
      rw [if_neg Bool.false_ne_true, any_of (rx.h k) z.1 r1 z.2]
      exact p.now k _ (.bl _)
    · rw [if_neg z] at p; exact (show False from p).elim
  | _ => exact (show False from p).elim
theorem hk_nin (B : Bas X J) : ∀ σ Hs Hr H (x y : TV) v w Q, HpOk Hs Hr H → RepT J.toGx x.1 Hs Hr H v x.2 → RepT J.toGx y.1 Hs Hr H w y.2 → Post J σ Hs Hr H (kNin x y) (SV J Q) → rNotInD X.K v w H Q ∨ rIn X.K true v w H Q := by
  intro σ Hs Hr H x y v w Q k rx ry p
  have q := hk_in B (σ := σ) Hs Hr H x y v w (fun z H' => ∀ b, z = .bl b → Q (.bl (!b)) H') k rx ry (by
    unfold kNin at p
    unfold kIn
    cases hb : kInB x y with
    | none => rw [hb] at p; exact (show False from p).elim
    | some b =>
      rw [hb] at p
      exact fun Hs' Hr' H' e v r c hc => by
        cases (r.isBl e.ok).symm.trans hc
        exact p _ _ _ e _ (.bl _))
  rcases q with ⟨d, ds, h1, h2, h3, h4, h5⟩ | ⟨p', xs, h1, h2, h3, h4, h5⟩
  · exact .inl ⟨d, ds, h1, h2, h3, h4, h5 _ rfl⟩
  · refine .inr ⟨p', xs, h1, h2, h3, h4, ?_⟩
    rw [if_pos rfl]
    rw [if_neg Bool.false_ne_true] at h5
    exact h5 _ rfl
theorem op_eqA (B : Bas X J) : OpR X (compareOp .Eq) (rEqD X.K) := op_eqD (by have := B.hu; omega)
theorem op_neA (B : Bas X J) : OpR X (compareOp .NotEq) (rNeD X.K) := op_neD (by have := B.hu; omega)
theorem op_inA (B : Bas X J) : OpR X (compareOp .In) (fun x y H Q => rInD X.K x y H Q ∨ rIn X.K false x y H Q) := (op_inD B.hu).or op_in_seq
theorem op_ninA (B : Bas X J) : OpR X (compareOp .NotIn) (fun x y H Q => rNotInD X.K x y H Q ∨ rIn X.K true x y H Q) := (op_notInD B.hu).or op_notIn_seq
theorem mv_eq (B : Bas X J) (ha : MV X J a f) (hb : MV X J b g) : MV X J (.Compare a [.Eq] [b] pos) (bin2 f g kEq) := mv_cmpO (op_eqA B) _ (hk_eq B) ha hb (nomark _)
theorem mv_ne (B : Bas X J) (ha : MV X J a f) (hb : MV X J b g) : MV X J (.Compare a [.NotEq] [b] pos) (bin2 f g kNe) := mv_cmpO (op_neA B) _ (hk_ne B) ha hb (nomark _)
theorem mv_in (B : Bas X J) (ha : MV X J a f) (hb : MV X J b g) (hm : behindInMarks .In b = false := by rfl) : MV X J (.Compare a [.In] [b] pos) (bin2 f g kIn) := mv_cmpO (op_inA B) _ (hk_in B) ha hb hm
theorem mv_nin (B : Bas X J) (ha : MV X J a f) (hb : MV X J b g) (hm : behindInMarks .NotIn b = false := by rfl) : MV X J (.Compare a [.NotIn] [b] pos) (bin2 f g kNin) := mv_cmpO (op_ninA B) _ (hk_nin B) ha hb hm
def isNonD : D → Bool
  | .non => true | _ => false
theorem isNon_of {G : Gx} {H : Hp} {v : V} {d : D} (r : Rep G H v d) : decide (v = .non) = isNonD d := by
  cases r <;> first | rfl | exact decide_eq_false (by intro h; cases h)
def kIsN (x : TV) : Res TV := okb (isNonD x.2)
def kNotN (x : TV) : Res TV := okb (!isNonD x.2)
def kIsN2 (x y : TV) : Res TV := match y.2 with | .non => okb (isNonD x.2) | _ => .bad
def kNotN2 (x y : TV) : Res TV := match y.2 with | .non => okb (!isNonD x.2) | _ => .bad
theorem hk_isN : ∀ σ Hs Hr H (x y : TV) v w Q, HpOk Hs Hr H → RepT J.toGx x.1 Hs Hr H v x.2 → RepT J.toGx y.1 Hs Hr H w y.2 → Post J σ Hs Hr H (kIsN2 x y) (SV J Q) → w = .non ∧ Q (.bl (decide (v = .non))) H := by
  intro σ Hs Hr H x y v w Q k rx ry p
  obtain ⟨t, d⟩ := x
  obtain ⟨u, e⟩ := y
  unfold kIsN2 at p
  split at p
  · rename_i q
    dsimp only at q
    subst q
    rw [isNon_of (rx.h k)]
    exact ⟨ry.isNon k, p.now k _ (.bl _)⟩
  · exact (show False from p).elim
theorem hk_notN : ∀ σ Hs Hr H (x y : TV) v w Q, HpOk Hs Hr H → RepT J.toGx x.1 Hs Hr H v x.2 → RepT J.toGx y.1 Hs Hr H w y.2 → Post J σ Hs Hr H (kNotN2 x y) (SV J Q) → w = .non ∧ Q (.bl (!decide (v = .non))) H := by
  intro σ Hs Hr H x y v w Q k rx ry p
  obtain ⟨t, d⟩ := x
  obtain ⟨u, e⟩ := y
  unfold kNotN2 at p
  split at p
  · rename_i q
    dsimp only at q
    subst q
    rw [isNon_of (rx.h k)]
    exact ⟨ry.isNon k, p.now k _ (.bl _)⟩
  · exact (show False from p).elim
theorem mv_isN (ha : MV X J a f) (hb : MV X J b g) : MV X J (.Compare a [.Is] [b] pos) (bin2 f g kIsN2) := mv_cmpO op_isN _ hk_isN ha hb (nomark _)
theorem mv_notN (ha : MV X J a f) (hb : MV X J b g) : MV X J (.Compare a [.IsNot] [b] pos) (bin2 f g kNotN2) := mv_cmpO op_notN _ hk_notN ha hb (nomark _)

/-! ### chains -/
/-- the operators of a chain: rule and data -/
structure OpK (X : Cx) (J : Jx) (op : CmpOp) (k : TV → TV → Res TV) : Prop where
  ok : ∃ r, OpR X (compareOp op) r ∧ ∀ σ Hs Hr H (x y : TV) v w Q, HpOk Hs Hr H → RepT J.toGx x.1 Hs Hr H v x.2 → RepT J.toGx y.1 Hs Hr H w y.2 → Post J σ Hs Hr H (k x y) (SV J Q) → r v w H Q
theorem ok_lt : OpK X J .Lt (asI2 kLt) := ⟨_, op_lt, hk_B0⟩
theorem ok_le : OpK X J .LtE (asI2 kLe) := ⟨_, op_le, hk_B0⟩
theorem ok_gt : OpK X J .Gt (asI2 kGt) := ⟨_, op_gt, hk_B0⟩
theorem ok_ge : OpK X J .GtE (asI2 kGe) := ⟨_, op_ge, hk_B0⟩
theorem ok_eq (B : Bas X J) : OpK X J .Eq kEq := ⟨_, op_eqA B, hk_eq B⟩
theorem ok_ne (B : Bas X J) : OpK X J .NotEq kNe := ⟨_, op_neA B, hk_ne B⟩
theorem ok_in (B : Bas X J) : OpK X J .In kIn := ⟨_, op_inA B, hk_in B⟩
theorem ok_nin (B : Bas X J) : OpK X J .NotIn kNin := ⟨_, op_ninA B, hk_nin B⟩
theorem ok_isN : OpK X J .Is kIsN2 := ⟨_, op_isN, hk_isN⟩
theorem ok_notN : OpK X J .IsNot kNotN2 := ⟨_, op_notN, hk_notN⟩
theorem mv_cmp {op : CmpOp} {k : TV → TV → Res TV} (o : OpK X J op k) (ha : MV X J a f) (hb : MV X J b g) (hm : behindInMarks op b = false := by rfl) : MV X J (.Compare a [op] [b] pos) (bin2 f g k) := by
  obtain ⟨r, ho, hk⟩ := o.ok
  exact mv_cmpO ho k hk ha hb hm
def thenB (k : Res TV) (z : Res TV) : Res TV := k.bind fun x => match x.2 with | .bl true => z | .bl false => okb false | _ => .bad
def chain2 (f g h : Env → Res TV) (k k' : TV → TV → Res TV) : Env → Res TV := fun env => (f env).bind fun x => (g env).bind fun y => (k x y).bind fun z => match z.2 with
  | .bl true => (h env).bind fun w => k' y w
  | .bl false => okb false
  | _ => .bad
theorem run_chain {op op' : CmpOp} {r r' : R2} {k k' : TV → TV → Res TV} (hk : ∀ σ Hs Hr H (x y : TV) v w Q, HpOk Hs Hr H → RepT J.toGx x.1 Hs Hr H v x.2 → RepT J.toGx y.1 Hs Hr H w y.2 → Post J σ Hs Hr H (k x y) (SV J Q) → r v w H Q)
    (hk' : ∀ σ Hs Hr H (x y : TV) v w Q, HpOk Hs Hr H → RepT J.toGx x.1 Hs Hr H v x.2 → RepT J.toGx y.1 Hs Hr H w y.2 → Post J σ Hs Hr H (k' x y) (SV J Q) → r' v w H Q) {σ : St} {H : Hp} {Q : VK} (n : tV J (chain2 f g h k k') σ H Q) :
    tChain r r' (tV J f) (tV J g) (tV J h) σ H Q := by
  obtain ⟨Hse, He, env, Hs, Hr, R, p⟩ := n
  refine ⟨Hse, He, env, Hs, Hr, R, (Post.bind p).imp fun x Hs1 Hr1 H1 e1 p1 v rv => ?_⟩
  refine ⟨Hse, He, env, Hs1, Hr1, R.ext e1, (Post.bind p1).imp fun y Hs2 Hr2 H2 e2 p2 w rw => ?_⟩
  refine hk σ Hs2 Hr2 H2 x y v w _ e2.ok (rv.ext e2) rw ((Post.bind p2).imp fun z Hs3 Hr3 H3 e3 p3 zv rz => ?_)
  obtain ⟨t, d⟩ := z
  dsimp only at p3 rz
  cases d with
  | bl b =>
    cases rz.isBl e3.ok
    refine ⟨b, rfl, ?_⟩
    cases b with
    | true =>
      rw [if_pos rfl]
      refine ⟨Hse, He, env, Hs3, Hr3, R.ext ((e1.trans e2).trans e3), (Post.bind p3).imp fun u Hs4 Hr4 H4 e4 p4 uv ru => ?_⟩
      exact hk' σ Hs4 Hr4 H4 y u w uv Q e4.ok (rw.ext (e3.trans e4)) ru p4
    | false =>
      rw [if_neg Bool.false_ne_true]
      exact Post.nowB e3.ok p3
  | _ => exact (show False from p3).elim
theorem mv_chain {op op' : CmpOp} {k k' : TV → TV → Res TV} (o : OpK X J op k) (o' : OpK X J op' k') (ha : MV X J a f) (hb : MV X J b g) (hc : MV X J c h) (hm : lastMarks [op, op'] [b, c] = false := by with_unfolding_all rfl) :
    MV X J (.Compare a [op, op'] [b, c] pos) (chain2 f g h k k') := by
  obtain ⟨r, ho, hk⟩ := o.ok
  obtain ⟨r', ho', hk'⟩ := o'.ok
  exact ⟨pe_imp (pe_chain ho ho' ha.pe hb.pe hc.pe hm) fun σ H Q n => run_chain (op := op) (op' := op') hk hk' n⟩

/-! ### tests -/
def bOf (x : TV) : Res Bool := match x.2 with | .bl b => .ok b | _ => .bad
/-- truth of a value -/
def truK (x : TV) : Res Bool := match x.2 with
  | .bl b => .ok b
  | .non => .ok false
  | .int i => .ok (i != 0)
  | .str y => if y.length ≤ 16777216 then .ok ((y.length : Int) != 0) else .bad
  | .lst xs => .ok (!xs.isEmpty)
  | .tup xs => .ok (!xs.isEmpty)
  | .dic ks _ => .ok (!ks.isEmpty)
  | _ => .bad
theorem post_bl {σ : St} {Hs Hr H : Hp} {r : Res TV} {Q : Bool → Hp → Prop} (p : Post J σ Hs Hr H (r.bind bOf) (SB Q)) : Post J σ Hs Hr H r (SV J fun v H' => ∃ k, v = .bl k ∧ Q k H') := by
  refine (Post.bind p).imp fun x Hs1 Hr1 H1 e1 p1 v rv => ?_
  obtain ⟨t, d⟩ := x
  cases d with
  | bl b =>
    cases rv.isBl e1.ok
    exact ⟨b, rfl, Post.now e1.ok p1⟩
  | _ => exact (show False from p1).elim
def tstB (f : Env → Res TV) : Env → Res Bool := fun env => (f env).bind bOf
theorem mt_cmp {op : CmpOp} {k : TV → TV → Res TV} (o : OpK X J op k) (ha : MV X J a f) (hb : MV X J b g) (hm : behindInMarks op b = false := by rfl) : MT X J (.Compare a [op] [b] pos) (tstB (bin2 f g k)) := by
  obtain ⟨r, ho, hk⟩ := o.ok
  refine ⟨pt_imp (pt_cmpR ho ha.pe hb.pe hm) fun σ H Q ⟨Hse, He, env, Hs, Hr, R, p⟩ => ?_⟩
  exact run2 (wishV (J := J) (Q := fun v H' => ∃ k, v = .bl k ∧ Q k H')) ⟨Hse, He, env, Hs, Hr, R, post_bl p⟩ fun v w H1 _ _ _ Hs Hr x y _ R rv rw p => hk σ Hs Hr H1 x y v w _ R.ok rv rw p
theorem mt_chain {op op' : CmpOp} {k k' : TV → TV → Res TV} (o : OpK X J op k) (o' : OpK X J op' k') (ha : MV X J a f) (hb : MV X J b g) (hc : MV X J c h) (hm : lastMarks [op, op'] [b, c] = false := by with_unfolding_all rfl) :
    MT X J (.Compare a [op, op'] [b, c] pos) (tstB (chain2 f g h k k')) := by
  obtain ⟨r, ho, hk⟩ := o.ok
  obtain ⟨r', ho', hk'⟩ := o'.ok
  exact ⟨pt_imp (pt_chain ho ho' ha.pe hb.pe hc.pe hm) fun σ H Q ⟨Hse, He, env, Hs, Hr, R, p⟩ => run_chain (op := op) (op' := op') hk hk' ⟨Hse, He, env, Hs, Hr, R, post_bl p⟩⟩
theorem mt_val (B : Bas X J) (ha : MV X J a f) (he : ∀ whole, isTrue a X.env whole = (do let v ← whole; standAt a.pos; holding [v] (truthy v)) := by intro _; rfl) : MT X J a (bin1 f truK) := by
  refine ⟨pt_imp (pt_truth ha.pe he) fun σ H Q ⟨Hse, He, env, Hs, Hr, R, p⟩ => ⟨Hse, He, env, Hs, Hr, R, (Post.bind p).imp fun x Hs1 Hr1 H1 e1 p1 v rv => ?_⟩⟩
  obtain ⟨t, d⟩ := x
  cases d with
  | bl b =>
    cases rv.isBl e1.ok
    exact ⟨b, rfl, Post.now e1.ok p1⟩
  | non =>
    cases rv.isNon e1.ok
    exact ⟨false, rfl, Post.now e1.ok p1⟩
  | int i =>
    cases rv.isInt e1.ok
    exact ⟨i != 0, rfl, Post.now e1.ok p1⟩
  | str y =>
    cases rv.isStr e1.ok
    unfold truK at p1
    dsimp only at p1
    split at p1
    · rename_i z
      exact ⟨_, ⟨by rw [sizeLine_eq]; exact z, rfl⟩, Post.now e1.ok p1⟩
    · exact (show False from p1).elim
  | lst xs =>
    obtain ⟨q, vs, rfl, h1, r1⟩ := rv.isLst e1.ok
    refine ⟨_, .inl ⟨vs, .inl (.inl h1), rfl⟩, ?_⟩
    have : vs.isEmpty = xs.isEmpty := by cases r1 <;> rfl
    rw [this]
    exact Post.now e1.ok p1
  | tup xs =>
    obtain ⟨q, vs, rfl, h1, r1⟩ := rv.isTup e1.ok
    refine ⟨_, .inr (.inl ⟨vs, .inl (.inl h1), rfl⟩), ?_⟩
    have : vs.isEmpty = xs.isEmpty := by cases r1 <;> rfl
    rw [this]
    exact Post.now e1.ok p1
  | dic ks xs =>
    cases rv.h e1.ok with
    | @dic a kvs _ h1 r1 =>
      refine ⟨_, .inr (.inr ⟨kvs, h1, rfl⟩), ?_⟩
      have : kvs.isEmpty = (kvs.map (·.1)).isEmpty := by cases kvs <;> rfl
      rw [this]
      exact Post.now e1.ok p1
  | _ => exact (show False from p1).elim
def andB (f g : Env → Res Bool) : Env → Res Bool := fun env => (f env).bind fun b => if b = true then g env else .ok false
def orB (f g : Env → Res Bool) : Env → Res Bool := fun env => (f env).bind fun b => if b = true then .ok true else g env
def notB (f : Env → Res Bool) : Env → Res Bool := fun env => (f env).bind fun b => .ok (!b)
variable {fa fb : Env → Res Bool}
theorem mw_and1 (ha : MT X J a fa) : MW X J (.BoolOp .And [a] pos) fa := ⟨pw_and1 ha.pt⟩
theorem mw_or1 (ha : MT X J a fa) : MW X J (.BoolOp .Or [a] pos) fa := ⟨pw_or1 ha.pt⟩
theorem mw_and {rest : List Expr} (ha : MT X J a fa) (hb : MW X J (.BoolOp .And (b :: rest) pos) fb) : MW X J (.BoolOp .And (a :: b :: rest) pos) (andB fa fb) :=
  ⟨pw_imp (pw_and ha.pt hb.pw) fun σ H Q ⟨Hse, He, env, Hs, Hr, R, p⟩ => ⟨Hse, He, env, Hs, Hr, R, (Post.bind p).imp fun x Hs1 Hr1 H1 e1 p1 => by
    show if x = true then _ else _
    cases x with
    | true => exact ⟨Hse, He, env, Hs1, Hr1, R.ext e1, p1⟩
    | false => exact Post.now e1.ok p1⟩⟩
theorem mw_or {rest : List Expr} (ha : MT X J a fa) (hb : MW X J (.BoolOp .Or (b :: rest) pos) fb) : MW X J (.BoolOp .Or (a :: b :: rest) pos) (orB fa fb) :=
  ⟨pw_imp (pw_or ha.pt hb.pw) fun σ H Q ⟨Hse, He, env, Hs, Hr, R, p⟩ => ⟨Hse, He, env, Hs, Hr, R, (Post.bind p).imp fun x Hs1 Hr1 H1 e1 p1 => by
    show if x = true then _ else _
    cases x with
    | false => exact ⟨Hse, He, env, Hs1, Hr1, R.ext e1, p1⟩
    | true => exact Post.now e1.ok p1⟩⟩
theorem mt_w (ha : MW X J a fa) : MT X J a fa := ⟨ha.pw.pt⟩
theorem mt_not (ha : MT X J a fa) : MT X J (.UnaryOp .Not a pos) (notB fa) :=
  ⟨pt_imp (pt_not ha.pt) fun σ H Q ⟨Hse, He, env, Hs, Hr, R, p⟩ => ⟨Hse, He, env, Hs, Hr, R, (Post.bind p).imp fun x Hs1 Hr1 H1 e1 p1 => Post.nowT (J := J) (σ := σ) e1.ok p1⟩⟩

/-! ### and, or, not as values -/
def andV (f g : Env → Res TV) : Env → Res TV := fun env => (f env).bind fun x => match x.2 with | .bl true => g env | .bl false => okb false | _ => .bad
def orV (f g : Env → Res TV) : Env → Res TV := fun env => (f env).bind fun x => match x.2 with | .bl true => okb true | .bl false => g env | _ => .bad
def kNot (x : TV) : Res TV := (truK x).bind fun b => okb (!b)
theorem mv_one {op} (ha : MV X J a f) : MV X J (.BoolOp op [a] pos) f := ⟨pe_one ha.pe⟩
theorem mv_and {rest : List Expr} (ha : MV X J a f) (hb : MV X J (.BoolOp .And (b :: rest) pos) g) : MV X J (.BoolOp .And (a :: b :: rest) pos) (andV f g) :=
  ⟨pe_imp (pe_and ha.pe hb.pe) fun σ H Q ⟨Hse, He, env, Hs, Hr, R, p⟩ => ⟨Hse, He, env, Hs, Hr, R, (Post.bind p).imp fun x Hs1 Hr1 H1 e1 p1 v rv => by
    obtain ⟨t, d⟩ := x
    cases d with
    | bl b =>
      cases rv.isBl e1.ok
      refine ⟨b, rfl, ?_⟩
      cases b with
      | true => exact ⟨Hse, He, env, Hs1, Hr1, R.ext e1, p1⟩
      | false => exact Post.nowB e1.ok p1
    | _ => exact (show False from p1).elim⟩⟩
theorem mv_or {rest : List Expr} (ha : MV X J a f) (hb : MV X J (.BoolOp .Or (b :: rest) pos) g) : MV X J (.BoolOp .Or (a :: b :: rest) pos) (orV f g) :=
  ⟨pe_imp (pe_or ha.pe hb.pe) fun σ H Q ⟨Hse, He, env, Hs, Hr, R, p⟩ => ⟨Hse, He, env, Hs, Hr, R, (Post.bind p).imp fun x Hs1 Hr1 H1 e1 p1 v rv => by
    obtain ⟨t, d⟩ := x
    cases d with
    | bl b =>
      cases rv.isBl e1.ok
      refine ⟨b, rfl, ?_⟩
      cases b with
      | false => exact ⟨Hse, He, env, Hs1, Hr1, R.ext e1, p1⟩
      | true => exact Post.nowB e1.ok p1
    | _ => exact (show False from p1).elim⟩⟩
def kNotB (x : TV) : Res TV := match x.2 with | .bl b => okb (!b) | _ => .bad
theorem mv_not (ha : MV X J a f) : MV X J (.UnaryOp .Not a pos) (bin1 f kNotB) :=
  ⟨pe_imp (pe_not ha.pe) fun σ H Q n => run1 (wishV (J := J) (Q := Q)) n fun v H1 _ _ _ Hs Hr x _ R rv p => by
    obtain ⟨t, d⟩ := x
    cases d with
    | bl b =>
      cases rv.isBl R.ok
      exact ⟨b, rfl, Post.now R.ok p _ (.bl _)⟩
    | _ => exact (show False from p).elim⟩
def ifV {α : Type} (c : Env → Res Bool) (f g : Env → Res α) : Env → Res α := fun env => (c env).bind fun b => if b = true then f env else g env
theorem mv_if (hc : MT X J c fa) (ha : MV X J a f) (hb : MV X J b g) : MV X J (.IfExp c a b pos) (ifV fa f g) :=
  ⟨pe_imp (pe_ifExp hc.pt ha.pe hb.pe) fun σ H Q ⟨Hse, He, env, Hs, Hr, R, p⟩ => ⟨Hse, He, env, Hs, Hr, R, (Post.bind p).imp fun x Hs1 Hr1 H1 e1 p1 => by
    show if x = true then _ else _
    cases x with
    | true => exact ⟨Hse, He, env, Hs1, Hr1, R.ext e1, p1⟩
    | false => exact ⟨Hse, He, env, Hs1, Hr1, R.ext e1, p1⟩⟩⟩
end
end DL

namespace DL
open PySem PySem.Spec PyProof.Rows L2

/-! ### argument lists -/
def RepTs (G : Gx) (Hs Hr H : Hp) : List TV → List V → Prop
  | [], vs => vs = []
  | x :: r, vs => ∃ v w, vs = v :: w ∧ RepT G x.1 Hs Hr H v x.2 ∧ RepTs G Hs Hr H r w
theorem RepTs.ext {G : Gx} {Hs Hr H Hs' Hr' H' : Hp} (x : Ext Hs Hr H Hs' Hr' H') : ∀ {xs : List TV} {vs : List V}, RepTs G Hs Hr H xs vs → RepTs G Hs' Hr' H' xs vs
  | [], _, h => h
  | _ :: _, _, ⟨v, w, e, a, b⟩ => ⟨v, w, e, a.ext x, RepTs.ext x b⟩
def SA (J : Jx) (Q : List V → Hp → Prop) : List TV → Hp → Hp → Hp → Prop := fun xs Hs' Hr' H' => ∀ vs, RepTs J.toGx Hs' Hr' H' xs vs → Q vs H'
structure MA (X : Cx) (J : Jx) (es : List Expr) (F : Env → Res (List TV)) : Prop where
  pa : PA X es (fun σ H Q => Now J σ H F (SA J Q))
  len : ∀ env xs, F env = .ok xs → xs.length = es.length
def thenK {α β : Type} (F : Env → Res α) (k : α → Res β) : Env → Res β := fun env => (F env).bind k
def argN : Env → Res (List TV) := fun _ => .ok []
def argC (f : Env → Res TV) (F : Env → Res (List TV)) : Env → Res (List TV) := fun env => (f env).bind fun x => (F env).bind fun xs => .ok (x :: xs)
theorem argN_len {env : Env} {xs : List TV} (h : argN env = .ok xs) : xs.length = 0 := by cases h; rfl
theorem argC_len {f : Env → Res TV} {F : Env → Res (List TV)} {n : Nat} (hF : ∀ env xs, F env = .ok xs → xs.length = n) : ∀ env xs, argC f F env = .ok xs → xs.length = n + 1 := fun env xs h => by
  unfold argC at h
  cases q : f env with
  | ok x =>
    rw [q] at h
    cases q2 : F env with
    | ok ys =>
      rw [show ((Res.ok x).bind fun x => (F env).bind fun xs => Res.ok (x :: xs)) = (F env).bind fun xs => Res.ok (x :: xs) from rfl, q2] at h
      cases h
      rw [List.length_cons, hF env ys q2]
    | _ => rw [show ((Res.ok x).bind fun x => (F env).bind fun xs => Res.ok (x :: xs)) = (F env).bind fun xs => Res.ok (x :: xs) from rfl, q2] at h; cases h
  | _ => rw [q] at h; cases h
section
variable {X : Cx} {J : Jx} {a b c e : Expr} {es : List Expr} {pos p : Pos} {f g h : Env → Res TV} {F : Env → Res (List TV)}
theorem ma_nil : MA X J [] argN := ⟨pa_imp pa_nil fun σ H Q ⟨_, _, _, _, _, R, p⟩ => Post.now R.ok p [] rfl, fun _ _ h => argN_len h⟩
theorem ma_cons (ha : MV X J e f) (hr : MA X J es F) (hs : starEach (e :: es) X.env = (false, eval e X.env) :: starEach es X.env := by rfl) : MA X J (e :: es) (argC f F) :=
  ⟨pa_imp (pa_cons ha.pe hr.pa hs) fun σ H Q ⟨Hse, He, env, Hs, Hr, R, p⟩ => ⟨Hse, He, env, Hs, Hr, R, (Post.bind p).imp fun x Hs1 Hr1 H1 e1 p1 v rv =>
    ⟨Hse, He, env, Hs1, Hr1, R.ext e1, (Post.bind p1).imp fun xs Hs2 Hr2 H2 e2 p2 vs rvs => Post.now e2.ok p2 _ ⟨v, vs, rfl, rv.ext e2, rvs⟩⟩⟩, argC_len hr.len⟩
/-- one after the other, then the value -/
theorem runA {α : Type} {S : Hp → α → Hp → Hp → Hp → Prop} (m : Wish S) {k : List TV → Res α} {R : List V → Hp → Prop} {σ : St} {H : Hp} (n : Now J σ H (fun env => (F env).bind k) (S H))
    (hk : ∀ vs H1 Hse He env Hs Hr xs, Same H H1 → Rel J Hse He env σ Hs Hr H1 → RepTs J.toGx Hs Hr H1 xs vs → Post J σ Hs Hr H1 (k xs) (S H1) → R vs H1) : Now J σ H F (SA J R) := by
  obtain ⟨Hse, He, env, Hs, Hr, r, p⟩ := n
  exact ⟨Hse, He, env, Hs, Hr, r, (Post.bind p).imp fun x Hs1 Hr1 H1 e1 p1 v rv => hk v H1 Hse He env Hs1 Hr1 x e1.h (r.ext e1) rv (p1.imp fun a _ _ _ _ z => m _ _ e1.h _ _ _ _ z)⟩

/-! ### displays -/
theorem shVs_reps {G : Gx} {Hs Hr H : Hp} (k : HpOk Hs Hr H) : ∀ {xs : List TV} {vs : List V}, RepTs G Hs Hr H xs vs → xs.all shV = true → Reps G Hs vs (xs.map (·.2))
  | [], _, h, _ => by cases (show _ = [] from h); exact .nil
  | x :: r, _, ⟨v, w, e, a, b⟩, i => by
    rw [List.all_cons, Bool.and_eq_true] at i
    subst e
    exact .cons (a.shV k i.1) (shVs_reps k b i.2)
theorem repTs_len {G : Gx} {Hs Hr H : Hp} : ∀ {xs : List TV} {vs : List V}, RepTs G Hs Hr H xs vs → vs.length = xs.length
  | [], _, h => by cases (show _ = [] from h); rfl
  | x :: r, _, ⟨v, w, e, a, b⟩ => by subst e; exact congrArg (· + 1) (repTs_len b)
theorem repTs_h {G : Gx} {Hs Hr H : Hp} (k : HpOk Hs Hr H) : ∀ {xs : List TV} {vs : List V}, RepTs G Hs Hr H xs vs → Reps G H vs (xs.map (·.2))
  | [], _, h => by cases (show _ = [] from h); exact .nil
  | x :: r, _, ⟨v, w, e, a, b⟩ => by subst e; exact .cons (a.h k) (repTs_h k b)
def shR (x : TV) : Bool := shV x || (match x.1 with | .r => true | _ => false)
theorem repTs_r {G : Gx} {Hs Hr H : Hp} (k : HpOk Hs Hr H) : ∀ {xs : List TV} {vs : List V}, RepTs G Hs Hr H xs vs → xs.all shR = true → Reps G Hr vs (xs.map (·.2))
  | [], _, h, _ => by cases (show _ = [] from h); exact .nil
  | x :: r, _, ⟨v, w, e, a, b⟩, i => by
    rw [List.all_cons, Bool.and_eq_true] at i
    subst e
    refine .cons ?_ (repTs_r k b i.2)
    have i1 := i.1
    unfold shR at i1
    rw [Bool.or_eq_true] at i1
    rcases i1 with i1 | i1
    · exact (a.shV k i1).mono k.sr
    · obtain ⟨t, d⟩ := x
      cases t <;> first | exact a | (simp at i1)
def tagA (xs : List TV) : Tg := if xs.all shV = true then .s else if xs.all shR = true then .r else .h
def kLst (xs : List TV) : Res EV := if xs.all shV = true ∧ xs.length ≤ 16777216 then .ok (.own (xs.map (·.2))) else .bad
def kTup (xs : List TV) : Res TV := if xs.length ≤ 16777216 then .ok (tagA xs, .tup (xs.map (·.2))) else .bad
theorem me_lst (ha : MA X J es F) : ME X J (.List es pos) (thenK F kLst) := ⟨pe_imp (pe_lst ha.pa) fun σ H Q n => runA (wishE (J := J) (Q := Q)) n fun vs H1 _ _ _ Hs Hr xs _ R rv p => by
  unfold kLst at p
  split at p
  · rename_i h
    refine ⟨by rw [sizeLine_eq, repTs_len rv]; exact h.2, fun q hq => ?_⟩
    exact p _ _ _ (Ext.new0 R.ok hq fun xs z => by cases z) q _ upd_same (R.ok.none_r hq) hq (shVs_reps R.ok rv h.1)
  · exact (show False from p).elim⟩
theorem tup_new {σ : St} {Hs Hr H : Hp} {Q : VK} {xs : List TV} {vs : List V} (k : HpOk Hs Hr H) (rv : RepTs J.toGx Hs Hr H xs vs) (p : Post J σ Hs Hr H (kTup xs) (SV J Q)) {q : Addr} (hq : H q = none) : vs.length ≤ sizeLine ∧ Q (.ref q) (upd H q (.tup vs)) := by
  unfold kTup at p
  split at p
  · rename_i h
    refine ⟨by rw [sizeLine_eq, repTs_len rv]; exact h, ?_⟩
    have x := Ext.new (o := .tup vs) k hq
    refine p _ _ _ x _ ?_
    show RepT J.toGx (tagA xs) _ _ _ _ (.tup _)
    unfold tagA
    split
    · rename_i i
      exact .tup upd_same ((shVs_reps k rv i).mono x.s)
    · split
      · rename_i i
        exact .tup upd_same ((repTs_r k rv i).mono x.r)
      · exact .tup upd_same ((repTs_h k rv).mono x.h)
  · exact (show False from p).elim
theorem mv_tup {x1} (ha : MA X J es F) : MV X J (.Tuple es x1 pos) (thenK F kTup) := ⟨pe_imp (pe_tup ha.pa) fun σ H Q n => runA (wishV (J := J) (Q := Q)) n fun vs H1 _ _ _ Hs Hr xs _ R rv p => by
  refine ⟨?_, fun q hq => (tup_new R.ok rv p hq).2⟩
  unfold kTup at p
  split at p
  · rename_i h
    rw [sizeLine_eq, repTs_len rv]; exact h
  · exact (show False from p).elim⟩

/-! ### subscripts -/
theorem atI_reps {G : Gx} {t : Tg} {Hs Hr H : Hp} {vs : List V} {ds : List D} (k : HpOk Hs Hr H) (r : RepsT G (itT t) Hs Hr H vs ds) {i : Int} {d : D} (h : atI ds i = some d) : ∃ v, atI vs i = some v ∧ RepT G (itT t) Hs Hr H v d := by
  have hl : vs.length = ds.length := (r.h k).length
  unfold atI at h ⊢
  rw [hl]
  cases q : ixN ds.length i with
  | none => rw [q] at h; cases h
  | some j =>
    rw [q] at h
    obtain ⟨u, h1, h2⟩ := r.get (show ds[j]? = some d from h)
    exact ⟨u, h1, h2⟩
theorem atI_map {α β : Type} (g : α → β) (xs : List α) (i : Int) : atI (xs.map g) i = (atI xs i).map g := by
  unfold atI
  rw [List.length_map]
  cases ixN xs.length i with
  | none => rfl
  | some j => simp
def kIx (x y : TV) : Res TV := match x.2, y.2 with
  | .lst xs, .int i => match atI xs i with | some d => .ok (itT x.1, d) | none => .bad
  | .tup xs, .int i => match atI xs i with | some d => .ok (itT x.1, d) | none => .bad
  | .scr ns, .int i => match atI ns i with | some n => oki n | none => .bad
  | .str z, .int i => if z.length ≤ 16777216 then (match atI z.cps.toList i with | some c => .ok (.s, .str ⟨#[c]⟩) | none => .bad) else .bad
  | _, _ => .bad
theorem mv_ix (B : Bas X J) (ha : MV X J a f) (hb : MV X J b g) (hs : PlainIx b := by exact fun _ _ => rfl) : MV X J (.Subscript a b pos) (bin2 f g kIx) := ⟨pe_imp (pe_ix ix_seq ha.pe hb.pe hs) fun σ H Q n => run2 (wishV (J := J) (Q := Q)) n fun v w H1 _ _ _ Hs Hr x y _ R rv rw p => by
  obtain ⟨t, d⟩ := x
  obtain ⟨u, e⟩ := y
  have k := R.ok
  unfold kIx at p
  split at p
  · rename_i xs i q1 q2
    dsimp only at q1 q2
    subst q1 q2
    obtain ⟨q, vs, rfl, h1, r1⟩ := rv.lstT k
    cases hi : atI xs i with
    | none => rw [hi] at p; exact (show False from p).elim
    | some d =>
      rw [hi] at p
      obtain ⟨z, h2, r2⟩ := atI_reps k r1 hi
      exact .inl ⟨q, vs, i, z, rfl, rw.isInt k, .inl (.inl h1), h2, Post.now k p _ r2⟩
  · rename_i xs i q1 q2
    dsimp only at q1 q2
    subst q1 q2
    obtain ⟨q, vs, rfl, h1, r1⟩ := rv.tupT k
    cases hi : atI xs i with
    | none => rw [hi] at p; exact (show False from p).elim
    | some d =>
      rw [hi] at p
      obtain ⟨z, h2, r2⟩ := atI_reps k r1 hi
      exact .inr (.inl ⟨q, vs, i, z, rfl, rw.isInt k, .inl (.inl h1), h2, Post.now k p _ r2⟩)
  · rename_i ns i q1 q2
    dsimp only at q1 q2
    subst q1 q2
    cases hi : atI ns i with
    | none => rw [hi] at p; exact (show False from p).elim
    | some n =>
      rw [hi] at p
      cases rv.h k with
      | @scr a _ h1 =>
        refine .inl ⟨a, _, i, .int n, rfl, rw.isInt k, by rw [B.K]; exact h1, ?_, Post.nowI k p⟩
        rw [atI_map, hi] <;> rfl
  · rename_i z i q1 q2
    dsimp only at q1 q2
    subst q1 q2
    split at p
    · rename_i hz
      cases hi : atI z.cps.toList i with
      | none => rw [hi] at p; exact (show False from p).elim
      | some c =>
        rw [hi] at p
        exact .inr (.inr ⟨z, i, c, rv.isStr k, rw.isInt k, by rw [sizeLine_eq]; exact hz, hi, Post.now k p _ (.str _)⟩)
    · exact (show False from p).elim
  · exact (show False from p).elim⟩
def cutL {α : Type} (xs : List α) (lo hi : Option Int) : List α := (xs.drop (HT.sIx xs.length 0 lo)).take (HT.sIx xs.length xs.length hi - HT.sIx xs.length 0 lo)
theorem cutV_eq (xs : List V) (lo hi : Option Int) : cutV xs lo hi = cutL xs lo hi := rfl
theorem cutL_len {α : Type} (xs : List α) (lo hi : Option Int) : (cutL xs lo hi).length ≤ xs.length := by
  unfold cutL
  rw [List.length_take, List.length_drop]
  omega
theorem Reps.cut {G : Gx} {H : Hp} {vs : List V} {ds : List D} (r : Reps G H vs ds) (lo hi : Option Int) : Reps G H (cutL vs lo hi) (cutL ds lo hi) := by
  unfold cutL
  rw [r.length]
  exact (r.drop _).take _
theorem cutL_map {α β : Type} (g : α → β) (xs : List α) (lo hi : Option Int) : cutL (xs.map g) lo hi = (cutL xs lo hi).map g := by
  unfold cutL
  rw [List.length_map, ← List.map_drop, ← List.map_take]
def SO (J : Jx) (Q : Option Int → Hp → Prop) : Option Int → Hp → Hp → Hp → Prop := fun o _ _ H' => Q o H'
structure MO (X : Cx) (J : Jx) (e : Option Expr) (F : Env → Res (Option Int)) : Prop where
  po : PO X e (fun σ H Q => Now J σ H F (SO J Q))
theorem po_imp {e : Option Expr} {t t' : TO} (h : PO X e t) (i : ∀ σ H Q, t' σ H Q → t σ H Q) : PO X e t' := ⟨fun pins s σ H Q I q => h.run pins s σ H Q I (i σ H Q q)⟩
def partN : Env → Res (Option Int) := fun _ => .ok none
def asPart (x : TV) : Res (Option Int) := match x.2 with | .int i => .ok (some i) | _ => .bad
theorem mo_none : MO X J none partN := ⟨po_imp po_none fun σ H Q ⟨_, _, _, _, _, R, p⟩ => Post.now (a := none) R.ok p⟩
theorem mo_some (ha : MV X J e f) : MO X J (some e) (bin1 f asPart) := ⟨po_imp (po_some ha.pe) fun σ H Q ⟨Hse, He, env, Hs, Hr, R, p⟩ => ⟨Hse, He, env, Hs, Hr, R, (Post.bind p).imp fun x Hs1 Hr1 H1 e1 p1 v rv => by
  obtain ⟨t, d⟩ := x
  unfold asPart at p1
  split at p1
  · rename_i i q
    dsimp only at q
    subst q
    exact ⟨i, rv.isInt e1.ok, Post.now (a := some i) e1.ok p1⟩
  · exact (show False from p1).elim⟩⟩
def kSl (x : TV) (lo hi : Option Int) : Res EV := match x.2 with
  | .lst xs => if shI x = true then .ok (.own (cutL xs lo hi)) else .bad
  | .scr ns => .ok (.own ((cutL ns lo hi).map D.int))
  | .tup xs => .ok (.val (itT x.1) (.tup (cutL xs lo hi)))
  | _ => .bad
def slice (f : Env → Res TV) (l u : Env → Res (Option Int)) : Env → Res EV := fun env => (f env).bind fun x => (l env).bind fun lo => (u env).bind fun hi => kSl x lo hi
theorem reps_ints {G : Gx} {H : Hp} : ∀ (ns : List Int), Reps G H (ns.map V.int) (ns.map D.int)
  | [] => .nil
  | n :: r => .cons (.int n) (reps_ints r)
theorem cut_whole {α : Type} {xs : List α} {lo hi : Option Int} (h : HT.sIx xs.length 0 lo = 0 ∧ HT.sIx xs.length xs.length hi = xs.length) : cutL xs lo hi = xs := by
  unfold cutL
  rw [h.1, h.2, List.drop_zero, Nat.sub_zero, List.take_length]
theorem me_slice {lo hi : Option Expr} {L U : Env → Res (Option Int)} {p2 : Pos} (B : Bas X J) (ha : MV X J e f) (hl : MO X J lo L) (hu : MO X J hi U) : ME X J (.Subscript e (.Slice lo hi none p2) pos) (slice f L U) :=
  ⟨pe_imp (pe_slice (sl_list.or sl_tupA) ha.pe hl.po hu.po) fun σ H Q ⟨Hse, He, env, Hs, Hr, R, p⟩ => ⟨Hse, He, env, Hs, Hr, R, (Post.bind p).imp fun x Hs1 Hr1 H1 e1 p1 v rv =>
    ⟨Hse, He, env, Hs1, Hr1, R.ext e1, (Post.bind p1).imp fun l Hs2 Hr2 H2 e2 p2 => ⟨Hse, He, env, Hs2, Hr2, R.ext (e1.trans e2), (Post.bind p2).imp fun u Hs3 Hr3 H3 e3 p3 => by
      have k := e3.ok
      have rv := rv.ext (e2.trans e3)
      have sm := (e1.h.trans e2.h).trans e3.h
      obtain ⟨t, d⟩ := x
      unfold kSl at p3
      split at p3
      · rename_i xs q
        dsimp only at q
        subst q
        split at p3
        · rename_i hsh
          obtain ⟨q, vs, rfl, h1, r1⟩ := rv.shI k hsh
          refine .inl ⟨q, vs, rfl, .inl (.inl h1), fun r hr => ?_⟩
          exact p3 _ _ _ (Ext.new0 k hr fun xs z => by cases z) r _ upd_same (k.none_r hr) (sm.free hr) (r1.cut _ _)
        · exact (show False from p3).elim
      · rename_i ns q
        dsimp only at q
        subst q
        cases rv.h k with
        | @scr a _ h1 =>
          refine .inl ⟨a, _, rfl, by rw [B.K]; exact h1, fun r hr => ?_⟩
          refine p3 _ _ _ (Ext.new0 k hr fun xs z => by cases z) r _ upd_same (k.none_r hr) (sm.free hr) ?_
          rw [cutV_eq, cutL_map]
          exact reps_ints _
      · rename_i xs q
        dsimp only at q
        subst q
        obtain ⟨q, vs, rfl, h1, r1⟩ := rv.tupT k
        have hlen := (r1.h k).length
        refine .inr ⟨q, vs, rfl, .inl (.inl h1), fun hw => ?_, fun hw r hr => ?_⟩
        · rw [hlen] at hw
          rw [cut_whole hw] at p3
          refine Post.now k p3 _ ?_
          cases t with
          | s => exact rv
          | r => exact rv
          | h => exact rv
          | o => exact rv.elim
        · have x := Ext.new (o := .tup (cutV vs l u)) k hr
          refine p3 _ _ _ x _ ?_
          cases t with
          | s => exact .tup upd_same ((Reps.cut (H := Hs3) r1 _ _).mono x.s)
          | r => exact .tup upd_same ((Reps.cut (H := Hr3) r1 _ _).mono x.r)
          | h => exact .tup upd_same ((Reps.cut (H := H3) r1 _ _).mono x.h)
          | o => exact rv.elim
      · exact (show False from p3).elim⟩⟩⟩⟩
def kRev (x : TV) : Res EV := match x.2 with
  | .lst xs => if shI x = true then .ok (.own xs.reverse) else .bad
  | _ => .bad
theorem me_revL {k : Nat} {p1 p2 p3 : Pos} (ha : MV X J e f) : ME X J (.Subscript e (.Slice none none (some (.UnaryOp .USub (.Constant (.int 1) k p1) p2)) p3) pos) (bin1 f kRev) :=
  ⟨pe_imp (pe_revL ha.pe) fun σ H Q n => run1 (wishE (J := J) (Q := Q)) n fun v H1 _ _ _ Hs Hr x _ R rv p => by
    obtain ⟨t, d⟩ := x
    unfold kRev at p
    split at p
    · rename_i xs q
      dsimp only at q
      subst q
      split at p
      · rename_i hsh
        obtain ⟨q, vs, rfl, h1, r1⟩ := rv.shI R.ok hsh
        exact ⟨q, vs, rfl, .inl (.inl h1), fun r hr => p _ _ _ (Ext.new0 R.ok hr fun xs z => by cases z) r _ upd_same (R.ok.none_r hr) hr r1.reverse⟩
      · exact (show False from p).elim
    · exact (show False from p).elim⟩

/-! ### built-ins -/
theorem mv_bi {x : Str} {id : String} {r : List V → Hp → VK → Prop} {k : List TV → Res TV} (hc : CallR X (.builtin id) r)
    (hk : ∀ σ Hs Hr H xs vs Q, HpOk Hs Hr H → RepTs J.toGx Hs Hr H xs vs → Post J σ Hs Hr H (k xs) (SV J Q) → r vs H Q) (hm : X.mg x = none) (ha : MA X J (e :: es) F) (hg : Gl X x) (hv : bootBuiltins x = some (.builtin id)) (hn : x ≠ "__name__" := by decide)
    (hdb : (x == ("__debug__" : Str)) = false := by decide) (he : starEach (e :: es) X.env = (false, eval e X.env) :: starEach es X.env := by rfl) (hpl : (backTo pos (starEach es X.env)).any (·.1) = false := by rfl) :
    MV X J (.Call (.Name x p) (e :: es) [] pos) (thenK F k) :=
  ⟨pe_imp (pe_callB hc hg hm hv ha.pa hn hdb he hpl) fun σ H Q n => runA (wishV (J := J) (Q := Q)) n fun vs H1 _ _ _ Hs Hr xs _ R rv p => hk σ Hs Hr H1 xs vs Q R.ok rv p⟩
theorem me_bi {x : Str} {id : String} {r : List V → Hp → VK → Prop} {k : List TV → Res EV} (hc : CallR X (.builtin id) r)
    (hk : ∀ σ Hs Hr H xs vs Q, HpOk Hs Hr H → RepTs J.toGx Hs Hr H xs vs → Post J σ Hs Hr H (k xs) (SE J H Q) → r vs H Q) (hm : X.mg x = none) (ha : MA X J (e :: es) F) (hg : Gl X x) (hv : bootBuiltins x = some (.builtin id)) (hn : x ≠ "__name__" := by decide)
    (hdb : (x == ("__debug__" : Str)) = false := by decide) (he : starEach (e :: es) X.env = (false, eval e X.env) :: starEach es X.env := by rfl) (hpl : (backTo pos (starEach es X.env)).any (·.1) = false := by rfl) :
    ME X J (.Call (.Name x p) (e :: es) [] pos) (thenK F k) :=
  ⟨pe_imp (pe_callB hc hg hm hv ha.pa hn hdb he hpl) fun σ H Q n => runA (wishE (J := J) (Q := Q)) n fun vs H1 _ _ _ Hs Hr xs _ R rv p => hk σ Hs Hr H1 xs vs Q R.ok rv p⟩
theorem mv_ty {x : Str} {id : String} {r : List V → Hp → VK → Prop} {k : List TV → Res TV} (hc : CallR X (.type id) r)
    (hk : ∀ σ Hs Hr H xs vs Q, HpOk Hs Hr H → RepTs J.toGx Hs Hr H xs vs → Post J σ Hs Hr H (k xs) (SV J Q) → r vs H Q) (hm : X.mg x = none) (ha : MA X J (e :: es) F) (hg : Gl X x) (hv : bootBuiltins x = some (.type id)) (hn : x ≠ "__name__" := by decide)
    (hdb : (x == ("__debug__" : Str)) = false := by decide) (he : starEach (e :: es) X.env = (false, eval e X.env) :: starEach es X.env := by rfl) (hpl : (backTo pos (starEach es X.env)).any (·.1) = false := by rfl) :
    MV X J (.Call (.Name x p) (e :: es) [] pos) (thenK F k) :=
  ⟨pe_imp (pe_callTy hc hg hm hv ha.pa hn hdb he hpl) fun σ H Q n => runA (wishV (J := J) (Q := Q)) n fun vs H1 _ _ _ Hs Hr xs _ R rv p => hk σ Hs Hr H1 xs vs Q R.ok rv p⟩
theorem me_ty {x : Str} {id : String} {r : List V → Hp → VK → Prop} {k : List TV → Res EV} (hc : CallR X (.type id) r)
    (hk : ∀ σ Hs Hr H xs vs Q, HpOk Hs Hr H → RepTs J.toGx Hs Hr H xs vs → Post J σ Hs Hr H (k xs) (SE J H Q) → r vs H Q) (hm : X.mg x = none) (ha : MA X J (e :: es) F) (hg : Gl X x) (hv : bootBuiltins x = some (.type id)) (hn : x ≠ "__name__" := by decide)
    (hdb : (x == ("__debug__" : Str)) = false := by decide) (he : starEach (e :: es) X.env = (false, eval e X.env) :: starEach es X.env := by rfl) (hpl : (backTo pos (starEach es X.env)).any (·.1) = false := by rfl) :
    ME X J (.Call (.Name x p) (e :: es) [] pos) (thenK F k) :=
  ⟨pe_imp (pe_callTy hc hg hm hv ha.pa hn hdb he hpl) fun σ H Q n => runA (wishE (J := J) (Q := Q)) n fun vs H1 _ _ _ Hs Hr xs _ R rv p => hk σ Hs Hr H1 xs vs Q R.ok rv p⟩
theorem RepTs.one {G : Gx} {Hs Hr H : Hp} {x : TV} {vs : List V} (r : RepTs G Hs Hr H [x] vs) : ∃ v, vs = [v] ∧ RepT G x.1 Hs Hr H v x.2 := by
  obtain ⟨v, w, e, a, b⟩ := r
  cases (show w = [] from b)
  exact ⟨v, e, a⟩
theorem RepTs.two {G : Gx} {Hs Hr H : Hp} {x y : TV} {vs : List V} (r : RepTs G Hs Hr H [x, y] vs) : ∃ v w, vs = [v, w] ∧ RepT G x.1 Hs Hr H v x.2 ∧ RepT G y.1 Hs Hr H w y.2 := by
  obtain ⟨v, w, e, a, b⟩ := r
  obtain ⟨u, rfl, q⟩ := RepTs.one b
  exact ⟨v, u, e, a, q⟩
/-! len -/
def kLen (xs : List TV) : Res TV := match xs with
  | [(_, .lst ys)] => oki ys.length
  | [(_, .tup ys)] => oki ys.length
  | [(_, .scr ns)] => oki ns.length
  | [(_, .str z)] => if z.length ≤ 16777216 then oki z.length else .bad
  | _ => .bad
theorem mv_len (B : Bas X J) (hm : X.mg "len" = none) (ha : MA X J (e :: es) F) (hg : Gl X "len" := by rfl) (he : starEach (e :: es) X.env = (false, eval e X.env) :: starEach es X.env := by rfl) (hpl : (backTo pos (starEach es X.env)).any (·.1) = false := by rfl) :
    MV X J (.Call (.Name "len" p) (e :: es) [] pos) (thenK F kLen) := by
  refine mv_bi call_len (fun σ Hs Hr H xs vs Q k rv p => ?_) hm ha hg PySem.boot_len (by decide) (by decide) he hpl
  unfold kLen at p
  split at p
  · obtain ⟨v, rfl, r⟩ := rv.one
    obtain ⟨q, ws, rfl, h1, r1⟩ := r.isLst k
    rw [← r1.length] at p
    exact ⟨_, ws.length, rfl, .inl ⟨ws, .inl (.inl h1), rfl⟩, Post.nowI k p⟩
  · obtain ⟨v, rfl, r⟩ := rv.one
    obtain ⟨q, ws, rfl, h1, r1⟩ := r.isTup k
    rw [← r1.length] at p
    exact ⟨_, ws.length, rfl, .inr ⟨ws, .inl (.inl h1), rfl⟩, Post.nowI k p⟩
  · obtain ⟨v, rfl, r⟩ := rv.one
    cases r.h k with
    | @scr a _ h1 => exact ⟨_, _, rfl, .inl ⟨_, by rw [B.K]; exact h1, by rw [List.length_map]⟩, Post.nowI k p⟩
  · rename_i z
    obtain ⟨v, rfl, r⟩ := rv.one
    split at p
    · rename_i hz
      cases r.isStr k
      exact ⟨_, _, rfl, ⟨by rw [sizeLine_eq]; exact hz, rfl⟩, Post.nowI k p⟩
    · exact (show False from p).elim
  · exact (show False from p).elim
def kAbs (xs : List TV) : Res TV := match xs with
  | [(_, .int i)] => oki (if i < 0 then -i else i)
  | _ => .bad
theorem mv_abs (hm : X.mg "abs" = none) (ha : MA X J (e :: es) F) (hg : Gl X "abs" := by rfl) (he : starEach (e :: es) X.env = (false, eval e X.env) :: starEach es X.env := by rfl) (hpl : (backTo pos (starEach es X.env)).any (·.1) = false := by rfl) :
    MV X J (.Call (.Name "abs" p) (e :: es) [] pos) (thenK F kAbs) := by
  refine mv_bi call_abs (fun σ Hs Hr H xs vs Q k rv p => ?_) hm ha hg PyProof.Rows.boot_abs (by decide) (by decide) he hpl
  unfold kAbs at p
  split at p
  · obtain ⟨v, rfl, r⟩ := rv.one
    cases r.isInt k
    exact ⟨_, rfl, Post.nowI k p⟩
  · exact (show False from p).elim
def intsOf : List D → Option (List Int)
  | [] => some []
  | .int i :: r => (intsOf r).map (i :: ·)
  | _ :: _ => none
theorem ints_reps {G : Gx} {H : Hp} : ∀ {vs : List V} {ds : List D} {ns : List Int}, Reps G H vs ds → intsOf ds = some ns → vs = ns.map V.int
  | _, _, _, .nil, h => by cases h; rfl
  | _, _, _, .cons a r, h => by
    cases a with
    | int i =>
      rename_i ds
      rw [intsOf] at h
      cases q : intsOf ds with
      | none => rw [q] at h; cases h
      | some ms =>
        rw [q] at h
        cases h
        rw [ints_reps r q] <;> rfl
    | _ => cases h
theorem intsOf_map : ∀ (ns : List Int), intsOf (ns.map D.int) = some ns
  | [] => rfl
  | n :: r => by
    show (intsOf (r.map D.int)).map (n :: ·) = _
    rw [intsOf_map r] <;> rfl
def kSum (xs : List TV) : Res TV := match xs with
  | [(_, .lst ys)] => match intsOf ys with | some ns => oki ns.sum | none => .bad
  | _ => .bad
theorem mv_sum {n : Nat} (g : Good X J n) (hm : X.mg "sum" = none) (ha : MA X J (e :: es) F) (hg : Gl X "sum" := by rfl) (he : starEach (e :: es) X.env = (false, eval e X.env) :: starEach es X.env := by rfl) (hpl : (backTo pos (starEach es X.env)).any (·.1) = false := by rfl) :
    MV X J (.Call (.Name "sum" p) (e :: es) [] pos) (thenK F kSum) := by
  refine mv_bi (cr_sum g.calm) (fun σ Hs Hr H xs vs Q k rv p => ?_) hm ha hg PyProof.Rows.boot_sum (by decide) (by decide) he hpl
  unfold kSum at p
  split at p
  · rename_i ys
    obtain ⟨v, rfl, r⟩ := rv.one
    obtain ⟨q, ws, rfl, h1, r1⟩ := r.isLst k
    cases hn : intsOf ys with
    | none => rw [hn] at p; exact (show False from p).elim
    | some ns =>
      rw [hn] at p
      rw [ints_reps r1 hn] at h1
      exact ⟨q, ns, rfl, .inl (.inl h1), Post.nowI k p⟩
  · exact (show False from p).elim
def maxI : List Int → Int
  | [] => 0
  | [n] => n
  | n :: r => max n (maxI r)
def minI : List Int → Int
  | [] => 0
  | [n] => n
  | n :: r => min n (minI r)
theorem maxI_mem : ∀ {ns : List Int}, ns ≠ [] → maxI ns ∈ ns ∧ ∀ y ∈ ns, y ≤ maxI ns
  | [], h => absurd rfl h
  | [n], _ => by simp [maxI]
  | n :: m :: r, _ => by
    have q := maxI_mem (ns := m :: r) (by simp)
    show max n (maxI (m :: r)) ∈ _ ∧ _
    refine ⟨?_, fun y hy => ?_⟩
    · by_cases c : n ≤ maxI (m :: r)
      · rw [Int.max_eq_right c]; exact List.mem_cons_of_mem _ q.1
      · rw [Int.max_eq_left (by omega)]; exact List.mem_cons_self
    · show y ≤ max n (maxI (m :: r))
      rcases List.mem_cons.mp hy with rfl | hy
      · exact Int.le_max_left _ _
      · exact Int.le_trans (q.2 y hy) (Int.le_max_right _ _)
theorem minI_mem : ∀ {ns : List Int}, ns ≠ [] → minI ns ∈ ns ∧ ∀ y ∈ ns, minI ns ≤ y
  | [], h => absurd rfl h
  | [n], _ => by simp [minI]
  | n :: m :: r, _ => by
    have q := minI_mem (ns := m :: r) (by simp)
    show min n (minI (m :: r)) ∈ _ ∧ _
    refine ⟨?_, fun y hy => ?_⟩
    · by_cases c : n ≤ minI (m :: r)
      · rw [Int.min_eq_left c]; exact List.mem_cons_self
      · rw [Int.min_eq_right (by omega)]; exact List.mem_cons_of_mem _ q.1
    · show min n (minI (m :: r)) ≤ y
      rcases List.mem_cons.mp hy with rfl | hy
      · exact Int.min_le_left _ _
      · exact Int.le_trans (Int.min_le_right _ _) (q.2 y hy)
theorem max_one {ns : List Int} {m : Int} (h : m ∈ ns) (h2 : ∀ y ∈ ns, y ≤ m) : m = maxI ns := by
  have q := maxI_mem (ns := ns) (fun z => by subst z; cases h)
  have a := h2 _ q.1
  have b := q.2 _ h
  omega
theorem min_one {ns : List Int} {m : Int} (h : m ∈ ns) (h2 : ∀ y ∈ ns, m ≤ y) : m = minI ns := by
  have q := minI_mem (ns := ns) (fun z => by subst z; cases h)
  have a := h2 _ q.1
  have b := q.2 _ h
  omega
def kMax (xs : List TV) : Res TV := match xs with
  | [(_, .lst ys)] => match intsOf ys with | some ns => if ns = [] then .bad else oki (maxI ns) | none => .bad
  | [(_, .int i), (_, .int j)] => oki (max i j)
  | _ => .bad
def kMin (xs : List TV) : Res TV := match xs with
  | [(_, .lst ys)] => match intsOf ys with | some ns => if ns = [] then .bad else oki (minI ns) | none => .bad
  | [(_, .int i), (_, .int j)] => oki (min i j)
  | _ => .bad
theorem mv_max {n : Nat} (g : Good X J n) (hm : X.mg "max" = none) (ha : MA X J (e :: es) F) (hg : Gl X "max" := by rfl) (he : starEach (e :: es) X.env = (false, eval e X.env) :: starEach es X.env := by rfl) (hpl : (backTo pos (starEach es X.env)).any (·.1) = false := by rfl) :
    MV X J (.Call (.Name "max" p) (e :: es) [] pos) (thenK F kMax) := by
  refine mv_bi ((cr_max g.calm).or (call_max2 g.calm)) (fun σ Hs Hr H xs vs Q k rv p => ?_) hm ha hg PyProof.Rows.boot_max (by decide) (by decide) he hpl
  unfold kMax at p
  split at p
  · rename_i ys
    obtain ⟨v, rfl, r⟩ := rv.one
    obtain ⟨q, ws, rfl, h1, r1⟩ := r.isLst k
    cases hn : intsOf ys with
    | none => rw [hn] at p; exact (show False from p).elim
    | some ns =>
      rw [hn] at p
      dsimp only at p
      split at p
      · exact (show False from p).elim
      · rename_i hne
        rw [ints_reps r1 hn] at h1
        exact .inl ⟨q, ns, rfl, .inl (.inl h1), List.length_pos_iff.mpr hne, fun m h1 h2 => by rw [max_one h1 h2]; exact Post.nowI k p⟩
  · rename_i _ i _ j
    obtain ⟨v, w, rfl, r, r'⟩ := rv.two
    cases r.isInt k
    cases r'.isInt k
    refine .inr ⟨i, j, rfl, ?_⟩
    have : (if j > i then j else i) = max i j := by split <;> omega
    rw [this]
    exact Post.nowI k p
  · exact (show False from p).elim
theorem mv_min {n : Nat} (g : Good X J n) (hm : X.mg "min" = none) (ha : MA X J (e :: es) F) (hg : Gl X "min" := by rfl) (he : starEach (e :: es) X.env = (false, eval e X.env) :: starEach es X.env := by rfl) (hpl : (backTo pos (starEach es X.env)).any (·.1) = false := by rfl) :
    MV X J (.Call (.Name "min" p) (e :: es) [] pos) (thenK F kMin) := by
  refine mv_bi ((cr_min g.calm).or (call_min2 g.calm)) (fun σ Hs Hr H xs vs Q k rv p => ?_) hm ha hg PyProof.Rows.boot_min (by decide) (by decide) he hpl
  unfold kMin at p
  split at p
  · rename_i ys
    obtain ⟨v, rfl, r⟩ := rv.one
    obtain ⟨q, ws, rfl, h1, r1⟩ := r.isLst k
    cases hn : intsOf ys with
    | none => rw [hn] at p; exact (show False from p).elim
    | some ns =>
      rw [hn] at p
      dsimp only at p
      split at p
      · exact (show False from p).elim
      · rename_i hne
        rw [ints_reps r1 hn] at h1
        exact .inl ⟨q, ns, rfl, .inl (.inl h1), List.length_pos_iff.mpr hne, fun m h1 h2 => by rw [min_one h1 h2]; exact Post.nowI k p⟩
  · rename_i _ i _ j
    obtain ⟨v, w, rfl, r, r'⟩ := rv.two
    cases r.isInt k
    cases r'.isInt k
    refine .inr ⟨i, j, rfl, ?_⟩
    have : (if j < i then j else i) = min i j := by split <;> omega
    rw [this]
    exact Post.nowI k p
  · exact (show False from p).elim
def kInt (xs : List TV) : Res TV := match xs with
  | [(_, .int i)] => oki i
  | [(_, .bl b)] => oki (if b then 1 else 0)
  | _ => .bad
theorem mv_toInt (hm : X.mg "int" = none) (ha : MA X J (e :: es) F) (hg : Gl X "int" := by rfl) (he : starEach (e :: es) X.env = (false, eval e X.env) :: starEach es X.env := by rfl) (hpl : (backTo pos (starEach es X.env)).any (·.1) = false := by rfl) :
    MV X J (.Call (.Name "int" p) (e :: es) [] pos) (thenK F kInt) := by
  refine mv_ty call_int1 (fun σ Hs Hr H xs vs Q k rv p => ?_) hm ha hg PyProof.Rows.boot_int (by decide) (by decide) he hpl
  unfold kInt at p
  split at p
  · obtain ⟨v, rfl, r⟩ := rv.one
    cases r.isInt k
    exact .inl ⟨_, rfl, Post.nowI k p⟩
  · obtain ⟨v, rfl, r⟩ := rv.one
    cases r.isBl k
    exact .inr ⟨_, rfl, Post.nowI k p⟩
  · exact (show False from p).elim
def kStr (xs : List TV) : Res TV := match xs with
  | [(_, .int i)] => if i.natAbs.log2 < 1920 then .ok (.s, .str (toString i)) else .bad
  | _ => .bad
theorem mv_toStr (hm : X.mg "str" = none) (ha : MA X J (e :: es) F) (hg : Gl X "str" := by rfl) (he : starEach (e :: es) X.env = (false, eval e X.env) :: starEach es X.env := by rfl) (hpl : (backTo pos (starEach es X.env)).any (·.1) = false := by rfl) :
    MV X J (.Call (.Name "str" p) (e :: es) [] pos) (thenK F kStr) := by
  refine mv_ty call_str_int (fun σ Hs Hr H xs vs Q k rv p => ?_) hm ha hg PyProof.Rows.boot_str (by decide) (by decide) he hpl
  unfold kStr at p
  split at p
  · obtain ⟨v, rfl, r⟩ := rv.one
    cases r.isInt k
    split at p
    · rename_i h
      exact ⟨_, rfl, h, Post.now k p _ (.str _)⟩
    · exact (show False from p).elim
  · exact (show False from p).elim
def kList (xs : List TV) : Res EV := match xs with
  | [(t, .lst ys)] => if shI (t, .lst ys) = true then .ok (.own ys) else .bad
  | [(t, .tup ys)] => if shI (t, .tup ys) = true then .ok (.own ys) else .bad
  | [(_, .scr ns)] => .ok (.own (ns.map D.int))
  | _ => .bad
theorem me_list (B : Bas X J) (hm : X.mg "list" = none) (ha : MA X J (e :: es) F) (hg : Gl X "list" := by rfl) (he : starEach (e :: es) X.env = (false, eval e X.env) :: starEach es X.env := by rfl) (hpl : (backTo pos (starEach es X.env)).any (·.1) = false := by rfl) :
    ME X J (.Call (.Name "list" p) (e :: es) [] pos) (thenK F kList) := by
  refine me_ty call_list_of (fun σ Hs Hr H xs vs Q k rv p => ?_) hm ha hg PyProof.Rows.boot_list (by decide) (by decide) he hpl
  unfold kList at p
  split at p
  · obtain ⟨v, rfl, r⟩ := rv.one
    split at p
    · rename_i hsh
      obtain ⟨q, ws, rfl, h1, r1⟩ := r.shI k hsh
      exact ⟨q, ws, rfl, .inl (.inl (.inl h1)), fun r hr => p _ _ _ (Ext.new0 k hr fun xs z => by cases z) r _ upd_same (k.none_r hr) hr r1⟩
    · exact (show False from p).elim
  · obtain ⟨v, rfl, r⟩ := rv.one
    split at p
    · rename_i hsh
      obtain ⟨q, ws, rfl, h1, r1⟩ := r.shIT k hsh
      exact ⟨q, ws, rfl, .inr (.inl (.inl h1)), fun r hr => p _ _ _ (Ext.new0 k hr fun xs z => by cases z) r _ upd_same (k.none_r hr) hr r1⟩
    · exact (show False from p).elim
  · obtain ⟨v, rfl, r⟩ := rv.one
    cases r.h k with
    | @scr a _ h1 => exact ⟨a, _, rfl, .inl (by rw [B.K]; exact h1), fun r hr => p _ _ _ (Ext.new0 k hr fun xs z => by cases z) r _ upd_same (k.none_r hr) hr (reps_ints _)⟩
  · exact (show False from p).elim
def kTuple (xs : List TV) : Res TV := match xs with
  | [(t, .lst ys)] => .ok (itT t, .tup ys)
  | [(t, .tup ys)] => .ok (t, .tup ys)
  | _ => .bad
theorem mv_tuple (hm : X.mg "tuple" = none) (ha : MA X J (e :: es) F) (hg : Gl X "tuple" := by rfl) (he : starEach (e :: es) X.env = (false, eval e X.env) :: starEach es X.env := by rfl) (hpl : (backTo pos (starEach es X.env)).any (·.1) = false := by rfl) :
    MV X J (.Call (.Name "tuple" p) (e :: es) [] pos) (thenK F kTuple) := by
  refine mv_ty call_tuple_of (fun σ Hs Hr H xs vs Q k rv p => ?_) hm ha hg PyProof.Rows.boot_tuple (by decide) (by decide) he hpl
  unfold kTuple at p
  split at p
  · rename_i t ys
    obtain ⟨v, rfl, r⟩ := rv.one
    obtain ⟨q, ws, rfl, h1, r1⟩ := r.lstT k
    refine ⟨q, ws, rfl, .inl ⟨.inl (.inl h1), fun r hr => ?_⟩⟩
    have x := Ext.new (o := .tup ws) k hr
    refine p _ _ _ x _ (RepT.mkTup (by cases t <;> (intro z; cases z)) x.ok upd_same (r1.ext x))
  · obtain ⟨v, rfl, r⟩ := rv.one
    obtain ⟨q, ws, rfl, h1, r1⟩ := r.tupT k
    exact ⟨q, ws, rfl, .inr ⟨.inl (.inl h1), Post.now k p _ r⟩⟩
  · exact (show False from p).elim
def CDvW (i j : Int) : Prop := 0 < j ∧ j.natAbs.log2 < 9000
theorem call_divmodW : CallR X (.builtin "divmod") (fun xs H Q => ∃ i j, xs = [.int i, .int j] ∧ CDvW i j ∧ ∀ p, H p = none → Q (.ref p) (upd H p (.tup [.int (i / j), .int (i % j)]))) := by
  intro pins s σ H xs us Q I r h
  obtain ⟨i, j, rfl, ⟨h1, h2⟩, q⟩ := h
  obtain ⟨u, w', rfl, ⟨t, rfl⟩, ⟨t', rfl⟩⟩ := vals2 r
  refine divmod_int (by omega) ?_ (.inl (PyProof.noPylong_of_log2 h2))
  rw [Int.fdiv_eq_ediv_of_nonneg i (by omega), Int.fmod_eq_emod_of_nonneg i (by omega)]
  have hn : H s.heap.objs.size = none := I.hok.fresh (Nat.le_refl _)
  refine ⟨.ref s.heap.objs.size, _, ?_, rfl, q _ hn⟩
  refine I.laid (fun b o e => Heap.get?_push_of_some _ e) (Nat.le_refl _) ⟨by simp only [List.length_cons, List.length_nil]; rw [sizeLine_eq]; decide, [.int (i / j) s.toks, .int (i % j) (s.toks + 1)], .cons ⟨_, rfl⟩ (.cons ⟨_, rfl⟩ .nil), ?_⟩
  exact ⟨_, Heap.get?_push_size s.heap rfl, rfl, 0, rfl⟩
def kDivmod (xs : List TV) : Res TV := match xs with
  | [(_, .int i), (_, .int j)] => if 0 < j ∧ Sm j then .ok (.s, .tup [.int (i / j), .int (i % j)]) else .bad
  | _ => .bad
theorem mv_divmod (hm : X.mg "divmod" = none) (ha : MA X J (e :: es) F) (hg : Gl X "divmod" := by rfl) (he : starEach (e :: es) X.env = (false, eval e X.env) :: starEach es X.env := by rfl) (hpl : (backTo pos (starEach es X.env)).any (·.1) = false := by rfl) :
    MV X J (.Call (.Name "divmod" p) (e :: es) [] pos) (thenK F kDivmod) := by
  refine mv_bi call_divmodW (fun σ Hs Hr H xs vs Q k rv p => ?_) hm ha hg PyProof.Rows.boot_divmod (by decide) (by decide) he hpl
  unfold kDivmod at p
  split at p
  · obtain ⟨v, w, rfl, r, r'⟩ := rv.two
    cases r.isInt k
    cases r'.isInt k
    split at p
    · rename_i h
      refine ⟨_, _, rfl, ⟨h.1, Nat.lt_of_lt_of_le h.2.log (by decide)⟩, fun r hr => ?_⟩
      exact p _ _ _ (Ext.new k hr) _ (.tup upd_same (.cons (.int _) (.cons (.int _) .nil)))
    · exact (show False from p).elim
  · exact (show False from p).elim
def blsOf : List D → Option (List Bool)
  | [] => some []
  | .bl i :: r => (blsOf r).map (i :: ·)
  | _ :: _ => none
theorem bls_reps {G : Gx} {H : Hp} : ∀ {vs : List V} {ds : List D} {ns : List Bool}, Reps G H vs ds → blsOf ds = some ns → vs = ns.map V.bl
  | _, _, _, .nil, h => by cases h; rfl
  | _, _, _, .cons a r, h => by
    cases a with
    | bl i =>
      rename_i ds
      rw [blsOf] at h
      cases q : blsOf ds with
      | none => rw [q] at h; cases h
      | some ms =>
        rw [q] at h
        cases h
        rw [bls_reps r q] <;> rfl
    | _ => cases h
def kAll (xs : List TV) : Res TV := match xs with
  | [(_, .lst ys)] => match blsOf ys with | some ns => okb (ns.all id) | none => .bad
  | _ => .bad
theorem mv_all {n : Nat} (g : Good X J n) (hm : X.mg "all" = none) (ha : MA X J (e :: es) F) (hg : Gl X "all" := by rfl) (he : starEach (e :: es) X.env = (false, eval e X.env) :: starEach es X.env := by rfl) (hpl : (backTo pos (starEach es X.env)).any (·.1) = false := by rfl) :
    MV X J (.Call (.Name "all" p) (e :: es) [] pos) (thenK F kAll) := by
  refine mv_bi (cr_all g.calm) (fun σ Hs Hr H xs vs Q k rv p => ?_) hm ha hg PyProof.Rows.boot_all (by decide) (by decide) he hpl
  unfold kAll at p
  split at p
  · rename_i ys
    obtain ⟨v, rfl, r⟩ := rv.one
    obtain ⟨q, ws, rfl, h1, r1⟩ := r.isLst k
    cases hn : blsOf ys with
    | none => rw [hn] at p; exact (show False from p).elim
    | some ns =>
      rw [hn] at p
      rw [bls_reps r1 hn] at h1
      exact ⟨q, ns, rfl, .inl (.inl h1), Post.nowB k p⟩
  · exact (show False from p).elim
/-- insertion into a sorted list -/
def sins (n : Int) : List Int → List Int
  | [] => [n]
  | m :: r => if n ≤ m then n :: m :: r else m :: sins n r
def isort : List Int → List Int
  | [] => []
  | n :: r => sins n (isort r)
theorem sins_perm (n : Int) : ∀ l : List Int, (sins n l).Perm (n :: l)
  | [] => .refl _
  | m :: r => by
    unfold sins
    split
    · exact .refl _
    · exact ((sins_perm n r).cons m).trans (.swap n m r)
theorem isort_perm : ∀ l : List Int, (isort l).Perm l
  | [] => .refl _
  | n :: r => (sins_perm n _).trans ((isort_perm r).cons n)
theorem sins_sorted (n : Int) : ∀ {l : List Int}, l.Pairwise (· ≤ ·) → (sins n l).Pairwise (· ≤ ·)
  | [], _ => by simp [sins]
  | m :: r, h => by
    rw [List.pairwise_cons] at h
    unfold sins
    split
    · rename_i c
      rw [List.pairwise_cons, List.pairwise_cons]
      exact ⟨fun y hy => by
        rcases List.mem_cons.mp hy with rfl | hy
        · exact c
        · exact Int.le_trans c (h.1 y hy), h⟩
    · rename_i c
      rw [List.pairwise_cons]
      exact ⟨fun y hy => by
        rcases List.mem_cons.mp ((sins_perm n r).subset hy) with rfl | hy
        · omega
        · exact h.1 y hy, sins_sorted n h.2⟩
theorem isort_sorted : ∀ l : List Int, (isort l).Pairwise (· ≤ ·)
  | [] => .nil
  | n :: r => sins_sorted n (isort_sorted r)
theorem sorted_one {l m : List Int} (p : l.Perm m) (hl : l.Pairwise (· ≤ ·)) (hm : m.Pairwise (· ≤ ·)) : l = m := p.eq_of_pairwise (fun a b _ _ h1 h2 => Int.le_antisymm h1 h2) hl hm
def kSorted (xs : List TV) : Res EV := match xs with
  | [(_, .lst ys)] => match intsOf ys with | some ns => .ok (.own ((isort ns).map D.int)) | none => .bad
  | _ => .bad
theorem me_sorted (hm : X.mg "sorted" = none) (ha : MA X J (e :: es) F) (hg : Gl X "sorted" := by rfl) (he : starEach (e :: es) X.env = (false, eval e X.env) :: starEach es X.env := by rfl) (hpl : (backTo pos (starEach es X.env)).any (·.1) = false := by rfl) :
    ME X J (.Call (.Name "sorted" p) (e :: es) [] pos) (thenK F kSorted) := by
  refine me_bi cr_sortedI (fun σ Hs Hr H xs vs Q k rv p => ?_) hm ha hg PyProof.Rows.boot_sorted (by decide) (by decide) he hpl
  unfold kSorted at p
  split at p
  · rename_i ys
    obtain ⟨v, rfl, r⟩ := rv.one
    obtain ⟨q, ws, rfl, h1, r1⟩ := r.isLst k
    cases hn : intsOf ys with
    | none => rw [hn] at p; exact (show False from p).elim
    | some ns =>
      rw [hn] at p
      rw [ints_reps r1 hn] at h1
      refine ⟨q, ns, rfl, .inl (.inl h1), fun ns' r hp hs hr => ?_⟩
      cases sorted_one (hp.trans (isort_perm ns).symm) hs (isort_sorted ns)
      exact p _ _ _ (Ext.new0 k hr fun xs z => by cases z) r _ upd_same (k.none_r hr) hr (reps_ints _)
  · exact (show False from p).elim

/-! ### isinstance of built-in classes -/
def isiT (n : String) : D → Option Bool
  | .non => kitB "NoneType" n | .bl _ => kitB "bool" n | .int _ => kitB "int" n | .str _ => kitB "str" n
  | .tup _ => kitB "tuple" n | .lst _ => kitB "list" n | .dic _ _ => kitB "dict" n
  | _ => none
def kIsi (n : String) (x : TV) : Res TV := match isiT n x.2 with | some b => okb b | none => .bad
theorem ty_of {G : Gx} {H : Hp} {v : V} {d : D} {n : String} {b : Bool} (r : Rep G H v d) (h : isiT n d = some b) : ∃ t, TyX G.K H v t ∧ PySem.W.kitOne G.K t (.type n) = some b := by
  cases r with
  | non => exact ⟨_, .base .non, kit_ty h⟩
  | bl b => exact ⟨_, .base (.bl b), kit_ty h⟩
  | int i => exact ⟨_, .base (.int i), kit_ty h⟩
  | str i => exact ⟨_, .base (.str i), kit_ty h⟩
  | tup e r => exact ⟨_, .base (.tup e), kit_ty h⟩
  | lst e r => exact ⟨_, .base (.lst e), kit_ty h⟩
  | dic e r => exact ⟨_, .base (.dK e), kit_ty h⟩
  | _ => cases h
theorem mv_isi {x2 : Str} {n : String} {p2 : Pos} (B : Bas X J) (hm : X.mg "isinstance" = none) (hm2 : X.mg x2 = none) (hv2 : bootBuiltins x2 = some (.type n)) (ha : MV X J a f) (hg : Gl X "isinstance" := by rfl) (hg2 : Gl X x2 := by rfl)
    (hn2 : x2 ≠ "__name__" := by decide) (hdb : (x2 == ("__debug__" : Str)) = false := by decide)
    (h1 : starEach [a, .Name x2 p2] X.env = (false, eval a X.env) :: starEach [.Name x2 p2] X.env := by rfl) (h2 : starEach [.Name x2 p2] X.env = (false, eval (.Name x2 p2) X.env) :: starEach [] X.env := by rfl) (hpl : (backTo pos (starEach [.Name x2 p2] X.env)).any (·.1) = false := by rfl) :
    MV X J (.Call (.Name "isinstance" p) [a, .Name x2 p2] [] pos) (bin1 f (kIsi n)) := by
  refine ⟨pe_imp (pe_callB call_isi hg hm PyProof.Rows.boot_isinstance (pa_cons ha.pe (pa_cons (pe_bltn (v := .ty n) hg2 hm2 hv2 rfl hn2 hdb) pa_nil h2) h1) (by decide) (by decide) h1 hpl) fun σ H Q nn => run1 (wishV (J := J) (Q := Q)) nn fun v H1 _ _ _ Hs Hr x _ R rv p => ?_⟩
  unfold kIsi at p
  cases hi : isiT n x.2 with
  | none => rw [hi] at p; exact (show False from p).elim
  | some b =>
    rw [hi] at p
    obtain ⟨t, ty, ke⟩ := ty_of (rv.h R.ok) hi
    exact ⟨v, .ty n, t, .type n, b, rfl, .ty n, by rw [B.K]; exact ty, by rw [B.K]; exact ke, Post.nowB R.ok p⟩

/-! ### defs -/
def toArg (x : TV) : EV := if imm x.2 = true then .val .s x.2 else match x.1 with
  | .s => .val .s x.2
  | _ => .val .r x.2
/-- an argument as the callee gets it: H is all that may be read -/
def ArgOk (G : Gx) (Hs H : Hp) (v : V) : EV → Prop
  | .val .s d => Rep G Hs v d
  | .val .r d => Rep G H v d
  | _ => False
def ArgsOk (G : Gx) (Hs H : Hp) : List V → List EV → Prop
  | vs, [] => vs = []
  | vs, x :: r => ∃ v w, vs = v :: w ∧ ArgOk G Hs H v x ∧ ArgsOk G Hs H w r
/-- what a def hands back: Hs' what is shared then -/
structure Ret (Hs H Hs' H' : Hp) : Prop where
  s : Same Hs Hs'
  h : Same H H'
  sh : Same Hs' H'
  ti : ∀ a xs, H' a = some (.tup xs) → Hs' a = some (.tup xs)
  ns : ∀ a o, Hs' a = some o → Hs a = some o ∨ H a = none
def PostR (G : Gx) (Hs H : Hp) (r : Res EV) (Q : VK) (E : XK) : Prop := match r with
  | .ok (.val .s d) => ∀ v Hs' H', Ret Hs H Hs' H' → Rep G Hs' v d → Q v H'
  | .ok (.val _ d) => ∀ v Hs' H', Ret Hs H Hs' H' → Rep G H' v d → Q v H'
  | .ok (.own xs) => ∀ p vs Hs' H', Ret Hs H Hs' H' → H' p = some (.lst vs) → Hs' p = none → H p = none → Reps G Hs' vs xs → Q (.ref p) H'
  | .ok (.ownd ks xs) => ∀ p kvs Hs' H', Ret Hs H Hs' H' → H' p = some (.dK kvs) → Hs' p = none → H p = none → kvs.map (·.1) = ks → Reps G Hs' (kvs.map (·.2)) xs → Q (.ref p) H'
  | .ok (.exn _ _ _) => False
  | .exc c ks vs => ∀ cv d Hs' H', Ret Hs H Hs' H' → ExcOk G Hs' c ks vs cv d → E cv d H'
  | .bad => False
def SpD (G : Gx) (ar : Nat) (F : List EV → Res EV) : Sp := fun vs H Q E => ∃ args Hs, HpOk Hs H H ∧ args.length = ar ∧ ArgsOk G Hs H vs args ∧ PostR G Hs H (F args) Q E
theorem argsOk_len {G : Gx} {Hs H : Hp} : ∀ {args : List EV} {vs : List V}, ArgsOk G Hs H vs args → vs.length = args.length
  | [], _, h => by cases (show _ = [] from h); rfl
  | x :: r, _, ⟨v, w, e, a, b⟩ => by subst e; exact congrArg (· + 1) (argsOk_len b)
/-- a def of the text as a function of data -/
structure FnD (P : Program) (w : World) (G : Gx) (mg : Str → Option Value) (base : Heap) (x : Str) (n ar : Nat) (F : List EV → Res EV) : Prop where
  ok : ∃ f fd ps, mg x = some (.ref f) ∧ PySem.W.keepIn G.K (.ref f) = true ∧ Binds G.K fd ps [] ∧ FnOk P w G.K mg base (L2.CX P w) n f fd ps (SpD G ar F)
theorem args_of {G : Gx} {Hs Hr H : Hp} (k : HpOk Hs Hr H) : ∀ {xs : List TV} {vs : List V}, RepTs G Hs Hr H xs vs → ArgsOk G Hs H vs (xs.map toArg)
  | [], _, h => h
  | (t, d) :: r, _, ⟨v, w, e, a, b⟩ => ⟨v, w, e, by
      unfold toArg
      split
      · rename_i i; exact RepT.imm k a i
      cases t with
      | s => exact a
      | r => exact Rep.mono k.rh a
      | h => exact a
      | o => exact RepT.h k a, args_of k b⟩
/-- what may be read further on: what there was, and what was handed back -/
def joinH (Hr Hs' : Hp) : Hp := fun a => match Hr a with | some o => some o | none => Hs' a
theorem Ret.ext {Hs Hr H Hs' H' : Hp} (k : HpOk Hs Hr H) (r : Ret Hs H Hs' H') : Ext Hs Hr H Hs' (joinH Hr Hs') H' where
  s := r.s
  r := fun a o e => by unfold joinH; rw [e]
  h := r.h
  ok := ⟨fun a o e => by
      unfold joinH
      cases q : Hr a with
      | none => exact e
      | some u =>
        have h1 := r.h a u (k.rh a u q)
        have h2 := r.sh a o e
        rw [h1] at h2
        exact h2, fun a o e => by
      unfold joinH at e
      cases q : Hr a with
      | none => rw [q] at e; exact r.sh a o e
      | some u => rw [q] at e; cases e; exact r.h a _ (k.rh a _ q), r.ti⟩
  ns := r.ns
  nr := fun a o e => by
    unfold joinH at e
    cases q : Hr a with
    | some u => rw [q] at e; exact .inl e
    | none =>
      rw [q] at e
      rcases r.ns a o e with z | z
      · rw [k.sr a o z] at q; cases q
      · exact .inr z
/-- the result as the caller has it -/
def fromRet : EV → EV
  | .val t d => if imm d = true then .val .s d else match t with
    | .s => .val .s d
    | _ => .val .h d
  | e => e
theorem joinH_none {Hr Hs' : Hp} {p : Addr} (a : Hr p = none) (b : Hs' p = none) : joinH Hr Hs' p = none := by
  unfold joinH
  rw [a]
  exact b
theorem postR_of {σ : St} {Hs Hr H : Hp} {r : Res EV} {Q : VK} (k : HpOk Hs Hr H) (p : Post J σ Hs Hr H (r.map fromRet) (SE J H Q)) : PostR J.toGx Hs H r Q (WE J.W σ) := by
  cases r with
  | bad => exact p
  | exc c ks vs => exact fun cv d Hs' H' x e => p cv d Hs' _ H' (x.ext k) e
  | ok v =>
    cases v with
    | val t d =>
      by_cases hi : imm d = true
      · have p2 : Post J σ Hs Hr H (.ok (.val .s d)) (SE J H Q) := by
          have e : fromRet (.val t d) = .val .s d := if_pos hi
          rw [← e]
          exact p
        cases t with
        | s => exact fun v Hs' H' x r => p2 Hs' _ H' (x.ext k) v r
        | _ => exact fun v Hs' H' x r => p2 Hs' _ H' (x.ext k) v (r.imm x.ti hi)
      · cases t with
        | s =>
          have p2 : Post J σ Hs Hr H (.ok (.val .s d)) (SE J H Q) := by
            have e : fromRet (.val .s d) = .val .s d := if_neg hi
            rw [← e]
            exact p
          exact fun v Hs' H' x r => p2 Hs' _ H' (x.ext k) v r
        | h =>
          have p2 : Post J σ Hs Hr H (.ok (.val .h d)) (SE J H Q) := by
            have e : fromRet (.val .h d) = .val .h d := if_neg hi
            rw [← e]
            exact p
          exact fun v Hs' H' x r => p2 Hs' _ H' (x.ext k) v r
        | r =>
          have p2 : Post J σ Hs Hr H (.ok (.val .h d)) (SE J H Q) := by
            have e : fromRet (.val .r d) = .val .h d := if_neg hi
            rw [← e]
            exact p
          exact fun v Hs' H' x r => p2 Hs' _ H' (x.ext k) v r
        | o =>
          have p2 : Post J σ Hs Hr H (.ok (.val .h d)) (SE J H Q) := by
            have e : fromRet (.val .o d) = .val .h d := if_neg hi
            rw [← e]
            exact p
          exact fun v Hs' H' x r => p2 Hs' _ H' (x.ext k) v r
    | own xs => exact fun q vs Hs' H' x a b c r => p Hs' _ H' (x.ext k) q vs a (joinH_none (k.none_r c) b) c r
    | ownd ks xs => exact fun q vs Hs' H' x a b c e r => p Hs' _ H' (x.ext k) q vs a (joinH_none (k.none_r c) b) c e r
    | exn c ks vs => exact p _ _ _ (Ext.refl k)
def callD (F : List EV → Res EV) (xs : List TV) : Res EV := (F (xs.map toArg)).map fromRet
theorem me_call {x : Str} {n m ar : Nat} {G : List EV → Res EV} (g : Good X J m) (fn : FnD X.prog X.w J.toGx X.mg X.base x n ar G) (hnm : n ≤ m) (ha : MA X J (e :: es) F) (har : (e :: es).length = ar := by rfl) (hg : Gl X x := by rfl) (hdb : (x == ("__debug__" : Str)) = false := by decide) (he : starEach (e :: es) X.env = (false, eval e X.env) :: starEach es X.env := by rfl) (hpl : (backTo pos (starEach es X.env)).any (·.1) = false := by rfl) :
    ME X J (.Call (.Name x p) (e :: es) [] pos) (thenK F (callD G)) := by
  obtain ⟨fa, fd, ps, h1, h2, h3, h4⟩ := fn.ok
  rw [← g.K] at h2 h3 h4
  refine ⟨pe_imp (pe_callS h4 (g.room.mono hnm) hg h1 h2 h3 (fun σ => passAt g.tk σ) ha.pa hdb he hpl) fun σ H Q nn => ?_⟩
  have hF' : ∀ env, (F env).bind (callD G) = (F env).bind fun xs => if xs.length = ar then callD G xs else .bad := fun env => by
    cases q : F env with
    | ok xs => show callD G xs = if xs.length = ar then callD G xs else .bad; rw [if_pos ((ha.len env xs q).trans har)]
    | _ => rfl
  obtain ⟨Hse, He, env, Hs, Hr, R, p⟩ := nn
  have p : Post J σ Hs Hr H ((F env).bind (callD G)) (SE J H Q) := p
  rw [hF'] at p
  refine runA (J := J) (S := fun H => SE J H Q) wishE (k := fun xs => if xs.length = ar then callD G xs else .bad) ⟨Hse, He, env, Hs, Hr, R, p⟩ fun vs H1 _ _ _ Hs Hr xs _ R rv p => ?_
  split at p
  · rename_i hl
    exact ⟨xs.map toArg, Hs, ⟨R.ok.sh, Same.refl _, R.ok.ti⟩, by rw [List.length_map]; exact hl, args_of R.ok rv, postR_of R.ok p⟩
  · exact (show False from p).elim
end
end DL

namespace DL
open PySem PySem.Spec PyProof.Rows L2

/-! ### statements -/
inductive SR where
  | nx (env : Env) | rt (e : EV) | bk (env : Env) | ct (env : Env) | exc (c : Str) (ks : List Str) (vs : List D) (env : Env) | bad
/-- what a def hands back, of a result -/
def RtOk (G : Gx) (Hse He : Hp) (Q : VK) : EV → Prop
  | .val .s d => ∀ v Hs' H', Ret Hse He Hs' H' → Rep G Hs' v d → Q v H'
  | .val _ d => ∀ v Hs' H', Ret Hse He Hs' H' → Rep G H' v d → Q v H'
  | .own xs => ∀ p vs Hs' H', Ret Hse He Hs' H' → H' p = some (.lst vs) → Hs' p = none → He p = none → Reps G Hs' vs xs → Q (.ref p) H'
  | .ownd ks xs => ∀ p kvs Hs' H', Ret Hse He Hs' H' → H' p = some (.dK kvs) → Hs' p = none → He p = none → kvs.map (·.1) = ks → Reps G Hs' (kvs.map (·.2)) xs → Q (.ref p) H'
  | .exn _ _ _ => False
def PostS (J : Jx) (Hse He : Hp) (D : Ends) : SR → Prop
  | .nx env => ∀ σ Hs Hr H, Rel J Hse He env σ Hs Hr H → D.nx σ H
  | .bk env => ∀ σ Hs Hr H, Rel J Hse He env σ Hs Hr H → D.bk σ H
  | .ct env => ∀ σ Hs Hr H, Rel J Hse He env σ Hs Hr H → D.ct σ H
  | .rt e => RtOk J.toGx Hse He D.rt e
  | .exc c ks vs env => ∀ cv d σ Hs Hr H, Rel J Hse He env σ Hs Hr H → ExcOk J.toGx Hs c ks vs cv d → J.W cv d σ H
  | .bad => False
def tS (J : Jx) (F : Env → SR) : TS := fun D σ H => ∃ Hse He env Hs Hr, Rel J Hse He env σ Hs Hr H ∧ PostS J Hse He D (F env)
structure MS (X : Cx) (J : Jx) (st : Stmt) (F : Env → SR) : Prop where
  ps : PS X st (tS J F)
structure MSs (X : Cx) (J : Jx) (sts : List Stmt) (F : Env → SR) : Prop where
  ps : PSs X sts (tS J F)
def SR.then (r : SR) (k : Env → SR) : SR := match r with
  | .nx env => k env
  | r => r
@[simp] theorem SR.then_nx (env : Env) (k : Env → SR) : (SR.nx env).then k = k env := (rfl)
@[simp] theorem SR.then_rt (e : EV) (k : Env → SR) : (SR.rt e).then k = .rt e := (rfl)
@[simp] theorem SR.then_bk (env : Env) (k : Env → SR) : (SR.bk env).then k = .bk env := (rfl)
@[simp] theorem SR.then_ct (env : Env) (k : Env → SR) : (SR.ct env).then k = .ct env := (rfl)
@[simp] theorem SR.then_exc (c : Str) (ks : List Str) (vs : List D) (env : Env) (k : Env → SR) : (SR.exc c ks vs env).then k = .exc c ks vs env := (rfl)
@[simp] theorem SR.then_bad (k : Env → SR) : SR.bad.then k = .bad := (rfl)
/-- from an expression to a statement -/
def Res.st {α : Type} (r : Res α) (env : Env) (k : α → SR) : SR := match r with
  | .ok a => k a
  | .exc c ks vs => .exc c ks vs env
  | .bad => .bad
@[simp] theorem Res.st_ok {α : Type} (a : α) (env : Env) (k : α → SR) : (Res.ok a).st env k = k a := (rfl)
@[simp] theorem Res.st_exc {α : Type} (c : Str) (ks : List Str) (vs : List D) (env : Env) (k : α → SR) : (Res.exc c ks vs : Res α).st env k = .exc c ks vs env := (rfl)
@[simp] theorem Res.st_bad {α : Type} (env : Env) (k : α → SR) : (Res.bad : Res α).st env k = .bad := (rfl)
theorem Rel.ret {J : Jx} {Hse He : Hp} {env : Env} {σ : St} {Hs Hr H : Hp} (R : Rel J Hse He env σ Hs Hr H) : Ret Hse He Hs H := ⟨R.se, R.he.trans R.ok.rh, R.ok.sh, R.ok.ti, R.ns⟩
theorem post_st {α : Type} {J : Jx} {Hse He : Hp} {env : Env} {σ : St} {Hs Hr H : Hp} {D : Ends} {r : Res α} {k : α → SR} {S : α → Hp → Hp → Hp → Prop} (R : Rel J Hse He env σ Hs Hr H) (p : PostS J Hse He D (r.st env k))
    (h : ∀ a Hs' Hr' H', Ext Hs Hr H Hs' Hr' H' → Rel J Hse He env σ Hs' Hr' H' → PostS J Hse He D (k a) → S a Hs' Hr' H') : Post J σ Hs Hr H r S := by
  cases r with
  | ok a => exact fun Hs' Hr' H' x => h a Hs' Hr' H' x (R.ext x) p
  | exc c ks vs => exact fun cv d Hs' Hr' H' x e => p cv d σ Hs' Hr' H' (R.ext x) e
  | bad => exact p
def seqS (F K : Env → SR) : Env → SR := fun env => (F env).then K
def retN : Env → SR := fun _ => .rt (.val .s .non)
section
variable {X : Cx} {J : Jx} {st : Stmt} {sts : List Stmt} {e o : Expr} {pos : Pos} {F K : Env → SR} {f g : Env → Res TV} {fe : Env → Res EV} {ft : Env → Res Bool}
theorem mss_nil : MSs X J [] SR.nx := ⟨pss_imp pss_nil fun D σ H ⟨Hse, He, env, Hs, Hr, R, p⟩ => p σ Hs Hr H R⟩
theorem mss_cons (h : MS X J st F) (hr : MSs X J sts K) : MSs X J (st :: sts) (seqS F K) := ⟨pss_imp (pss_cons h.ps hr.ps) fun D σ H ⟨Hse, He, env, Hs, Hr, R, p⟩ => by
  refine ⟨Hse, He, env, Hs, Hr, R, ?_⟩
  have p : PostS J Hse He D ((F env).then K) := p
  cases q : F env with
  | nx env' =>
    rw [q] at p
    exact fun σ' Hs' Hr' H' R' => ⟨Hse, He, env', Hs', Hr', R', p⟩
  | _ => rw [q] at p; exact p⟩
theorem mss_one (h : MS X J st F) : MSs X J [st] F := ⟨pss_one h.ps⟩
theorem ms_pass : MS X J (.Pass pos) SR.nx := ⟨ps_imp ps_pass fun D σ H ⟨Hse, He, env, Hs, Hr, R, p⟩ => p σ Hs Hr H R⟩
theorem ms_cont : MS X J (.Continue pos) SR.ct := ⟨ps_imp ps_continue fun D σ H ⟨Hse, He, env, Hs, Hr, R, p⟩ => p σ Hs Hr H R⟩
theorem ms_brk : MS X J (.Break pos) SR.bk := ⟨ps_imp ps_break fun D σ H ⟨Hse, He, env, Hs, Hr, R, p⟩ => p σ Hs Hr H R⟩
theorem ms_doc {x j pos'} : MS X J (.Expr (.Constant (.str x) j pos) pos') SR.nx := ⟨ps_imp ps_doc fun D σ H ⟨Hse, He, env, Hs, Hr, R, p⟩ => p σ Hs Hr H R⟩
def dropE (env : Env) : EV → SR
  | .exn _ _ _ => .bad
  | _ => .nx env
def exprS (f : Env → Res EV) : Env → SR := fun env => (f env).st env (dropE env)
theorem ms_expr (h : ME X J e fe) (hs : swapsWith e none pos.line X.env = pure false := by rfl) : MS X J (.Expr e pos) (exprS fe) := ⟨ps_imp (ps_expr h.pe hs) fun D σ H ⟨Hse, He, env, Hs, Hr, R, p⟩ => ⟨Hse, He, env, Hs, Hr, R, post_st R p fun a Hs' Hr' H' x R' p' => by
  cases a with
  | val t d => exact fun v r => p' σ Hs' Hr' H' R'
  | own xs => exact fun q vs a b c r => p' σ Hs' Hr' H' R'
  | ownd ks xs => exact fun q vs a b c k r => p' σ Hs' Hr' H' R'
  | exn c ks vs => exact (show False from p').elim⟩⟩
def ifS (c : Env → Res Bool) (F G : Env → SR) : Env → SR := fun env => (c env).st env fun b => if b = true then F env else G env
theorem ms_if {c : Expr} {a b : List Stmt} (hc : MT X J c ft) (ha : MSs X J a F) (hb : MSs X J b K) : MS X J (.If c a b pos) (ifS ft F K) := ⟨ps_imp (ps_if hc.pt ha.ps hb.ps) fun D σ H ⟨Hse, He, env, Hs, Hr, R, p⟩ =>
  ⟨Hse, He, env, Hs, Hr, R, post_st R p fun z Hs' Hr' H' x R' p' => by
    show if z = true then _ else _
    cases z with
    | true => exact ⟨Hse, He, env, Hs', Hr', R', p'⟩
    | false => exact ⟨Hse, He, env, Hs', Hr', R', p'⟩⟩⟩
/-! return -/
def retS (fe : Env → Res EV) : Env → SR := fun env => (fe env).st env fun v => .rt v
theorem ms_ret (h : ME X J e fe) : MS X J (.Return (some e) pos) (retS fe) := ⟨ps_imp (ps_ret h.pe) fun D σ H ⟨Hse, He, env, Hs, Hr, R, p⟩ => ⟨Hse, He, env, Hs, Hr, R, post_st R p fun a Hs' Hr' H' x R' p' => by
  cases a with
  | val t d =>
    cases t with
    | s => exact fun v r => p' v Hs' H' R'.ret r
    | r => exact fun v r => p' v Hs' H' R'.ret (RepT.h R'.ok r)
    | h => exact fun v r => p' v Hs' H' R'.ret r
    | o => exact fun v r => p' v Hs' H' R'.ret (RepT.h R'.ok r)
  | own xs => exact fun q vs a b c r => p' q vs Hs' H' R'.ret a (R'.ok.sr.free b) (R.he.free (R.ok.none_r c)) r
  | ownd ks xs => exact fun q vs a b c k r => p' q vs Hs' H' R'.ret a (R'.ok.sr.free b) (R.he.free (R.ok.none_r c)) k r
  | exn c ks vs => exact (show False from p').elim⟩⟩
theorem ms_retN : MS X J (.Return none pos) retN := ⟨ps_imp ps_retN fun D σ H ⟨Hse, He, env, Hs, Hr, R, p⟩ => p _ Hs H R.ret .non⟩
/-- return x, x a name: a list of the def's own goes along -/
def retV (i : Nat) : Env → SR := fun env => match env[i]? with
  | some (some (.val t d)) => .rt (.val t d)
  | some (some (.own xs)) => .rt (.own xs)
  | some (some (.ownd ks xs)) => .rt (.ownd ks xs)
  | _ => .bad
theorem ms_retV (i : Nat) {x : Str} {p2 : Pos} (hN : X.N[i]? = some x := by rfl) (hv : Vis X.env.scope x := by first | exact Or.inl rfl | exact Or.inr (Or.inl rfl) | exact Or.inr (Or.inr rfl)) (hd : (x == ("__debug__" : Str)) = false := by decide)
    (hcd : (x == ("__classdict__" : Str)) = false := by decide) : MS X J (.Return (some (.Name x p2)) pos) (retV i) := ⟨ps_imp (ps_ret (pv i hN hv hd hcd)) fun D σ H ⟨Hse, He, env, Hs, Hr, R, p⟩ => by
  unfold retV at p
  split at p
  · rename_i t d q
    have so := R.slot i _ q
    cases t with
    | s => obtain ⟨v, e, r⟩ := so; exact ⟨v, e, p v Hs H R.ret r⟩
    | r => obtain ⟨v, e, r⟩ := so; exact ⟨v, e, p v Hs H R.ret (r.mono R.ok.rh)⟩
    | h => exact so.elim
    | o => exact so.elim
  · rename_i xs q
    obtain ⟨a, vs, e, h1, h2, r⟩ := R.slot i _ q
    exact ⟨_, e, p a vs Hs H R.ret h1 (R.ok.sr.free h2) (R.he.free h2) r⟩
  · rename_i ks xs q
    obtain ⟨a, vs, e, h1, h2, h3, r⟩ := R.slot i _ q
    exact ⟨_, e, p a vs Hs H R.ret h1 (R.ok.sr.free h2) (R.he.free h2) h3 r⟩
  · exact (show False from p).elim⟩

/-! ### stores to names -/
def toSlot : EV → Option EV
  | .val t d => if imm d = true then some (.val .s d) else match t with
    | .s => some (.val .s d)
    | .r => some (.val .r d)
    | _ => none
  | .own xs => some (.own xs)
  | .ownd ks xs => some (.ownd ks xs)
  | .exn _ _ _ => none
theorem getElem?_set_some {α : Type} {l : List (Option α)} {i j : Nat} {x : α} {y : Option α} (h : (l.set i y)[j]? = some (some x)) : (j = i ∧ y = some x ∧ i < l.length) ∨ (j ≠ i ∧ l[j]? = some (some x)) := by
  by_cases e : i = j
  · subst e
    by_cases hl : i < l.length
    · rw [List.getElem?_set_self hl] at h
      exact .inl ⟨rfl, Option.some.inj h, hl⟩
    · rw [List.getElem?_eq_none (by rw [List.length_set]; omega)] at h
      cases h
  · rw [List.getElem?_set_ne e] at h
    exact .inr ⟨fun z => e z.symm, h⟩
theorem Rel.set {Hse He : Hp} {env : Env} {σ : St} {Hs Hr H : Hp} (R : Rel J Hse He env σ Hs Hr H) {i : Nat} {v : V} {e : EV} (so : SlotOk J Hs Hr H (some (some v)) e)
    (fr : isOwn e = true → ∀ p j, j ≠ i → v = .ref p → ¬ OwnAt env σ j p) : Rel J Hse He (env.set i (some e)) (σ.set i (some v)) Hs Hr H where
  ok := R.ok
  len := by rw [List.length_set, List.length_set]; exact R.len
  slot := fun j e' h => by
    rcases getElem?_set_some h with ⟨rfl, h1, h2⟩ | ⟨h1, h2⟩
    · cases h1
      rw [List.getElem?_set_self (by rw [← R.len]; exact h2)]
      exact so
    · rw [List.getElem?_set_ne (Ne.symm h1)]
      exact R.slot j e' h2
  dis := fun a b p n ha hb => by
    obtain ⟨ea, ha1, ha2, ha3⟩ := ha
    obtain ⟨eb, hb1, hb2, hb3⟩ := hb
    rcases getElem?_set_some ha1 with ⟨rfl, h1, h2⟩ | ⟨h1, h2⟩
    · rcases getElem?_set_some hb1 with ⟨rfl, g1, g2⟩ | ⟨g1, g2⟩
      · exact n rfl
      · cases h1
        rw [List.getElem?_set_self (by rw [← R.len]; exact h2)] at ha3
        rw [List.getElem?_set_ne (Ne.symm g1)] at hb3
        cases ha3
        exact fr ha2 p b (Ne.symm n) rfl ⟨eb, g2, hb2, hb3⟩
    · rcases getElem?_set_some hb1 with ⟨rfl, g1, g2⟩ | ⟨g1, g2⟩
      · cases g1
        rw [List.getElem?_set_self (by rw [← R.len]; exact g2)] at hb3
        rw [List.getElem?_set_ne (Ne.symm h1)] at ha3
        cases hb3
        exact fr hb2 p a n rfl ⟨ea, h2, ha2, ha3⟩
      · rw [List.getElem?_set_ne (Ne.symm h1)] at ha3
        rw [List.getElem?_set_ne (Ne.symm g1)] at hb3
        exact R.dis a b p n ⟨ea, h2, ha2, ha3⟩ ⟨eb, g2, hb2, hb3⟩
  se := R.se
  he := R.he
  ns := R.ns
/-- an own object stands in H, outside of what may be read -/
theorem Rel.own {Hse He : Hp} {env : Env} {σ : St} {Hs Hr H : Hp} (R : Rel J Hse He env σ Hs Hr H) {j : Nat} {p : Addr} (h : OwnAt env σ j p) : (∃ o, H p = some o) ∧ Hr p = none := by
  obtain ⟨e, h1, h2, h3⟩ := h
  have so := R.slot j e h1
  cases e with
  | own xs =>
    obtain ⟨q, vs, e, a, b, c⟩ := so
    rw [e] at h3
    cases h3
    exact ⟨⟨_, a⟩, b⟩
  | ownd ks xs =>
    obtain ⟨q, vs, e, a, b, c⟩ := so
    rw [e] at h3
    cases h3
    exact ⟨⟨_, a⟩, b⟩
  | _ => cases h2
/-- a value comes into a slot -/
theorem Rel.put {Hse He : Hp} {env : Env} {σ : St} {Hs Hr H H0 : Hp} (R : Rel J Hse He env σ Hs Hr H) (R0 : ∀ j p, OwnAt env σ j p → ∃ o, H0 p = some o) {D : Env → Prop} {Q : St → Hp → Prop} {i : Nat} {e : EV}
    (q : match toSlot e with | some e' => ∀ σ', Rel J Hse He (env.set i (some e')) σ' Hs Hr H → Q σ' H | none => False) : SE J H0 (fun v H' => Q (σ.set i (some v)) H') e Hs Hr H := by
  cases e with
  | val t d =>
    intro v r
    by_cases hi : imm d = true
    · have : toSlot (.val t d) = some (.val .s d) := if_pos hi
      rw [this] at q
      exact q _ (R.set (e := .val .s d) ⟨v, rfl, RepT.imm R.ok r hi⟩ fun z => nomatch z)
    · cases t with
      | s =>
        have : toSlot (.val .s d) = some (.val .s d) := if_neg hi
        rw [this] at q
        exact q _ (R.set (e := .val .s d) ⟨v, rfl, r⟩ fun z => nomatch z)
      | r =>
        have : toSlot (.val .r d) = some (.val .r d) := if_neg hi
        rw [this] at q
        exact q _ (R.set (e := .val .r d) ⟨v, rfl, r⟩ fun z => nomatch z)
      | h =>
        have : toSlot (.val .h d) = none := if_neg hi
        rw [this] at q
        exact q.elim
      | o =>
        have : toSlot (.val .o d) = none := if_neg hi
        rw [this] at q
        exact q.elim
  | own xs =>
    intro p vs a b c r
    exact q _ (R.set (e := .own xs) ⟨p, vs, rfl, a, b, r⟩ fun _ p' j _ z h => by
      cases z
      obtain ⟨o, ho⟩ := R0 j p h
      rw [ho] at c; cases c)
  | ownd ks xs =>
    intro p vs a b c k r
    exact q _ (R.set (e := .ownd ks xs) ⟨p, vs, rfl, a, b, k, r⟩ fun _ p' j _ z h => by
      cases z
      obtain ⟨o, ho⟩ := R0 j p h
      rw [ho] at c; cases c)
  | exn c ks vs => exact q.elim
def putE (i : Nat) (env : Env) (v : EV) : SR := match toSlot v with
  | some e => .nx (env.set i (some e))
  | none => .bad
def setS (i : Nat) (fe : Env → Res EV) : Env → SR := fun env => (fe env).st env (putE i env)
theorem post_put {Hse He : Hp} {env : Env} {σ : St} {Hs Hr H : Hp} {D : Ends} {i : Nat} {r : Res EV} (R : Rel J Hse He env σ Hs Hr H) (p : PostS J Hse He D (r.st env (putE i env))) : Post J σ Hs Hr H r (SE J H fun v H' => D.nx (σ.set i (some v)) H') :=
  post_st R p fun a Hs' Hr' H' x R' p' => R'.put (D := fun _ => True) (fun j p h => (R.own h).1) (by
    unfold putE at p'
    split at p'
    · exact fun σ' R2 => p' σ' Hs' Hr' H' R2
    · exact p')
theorem ms_set (i : Nat) {x : Str} {pos' : Pos} (nd : X.N.Nodup) (h : ME X J e fe) (hi : X.N[i]? = some x := by rfl) (hx : Loc X.env.scope x := by first | exact Or.inl rfl | exact Or.inr rfl)
    (hs : swapsWith e (some (.Name x pos')) pos.line X.env = pure false := by rfl) (hf : X.fn x = true ∨ X.env.scope.names.lookup x = some .local := by first | exact .inl rfl | exact .inr rfl) :
    MS X J (.Assign [.Name x pos'] e pos) (setS i fe) := ⟨ps_imp (ps_set nd hi hx h.pe hs hf) fun D σ H ⟨Hse, He, env, Hs, Hr, R, p⟩ => ⟨Hse, He, env, Hs, Hr, R, post_put R p⟩⟩
end
end DL

namespace DL
open PySem PySem.Spec PyProof.Rows L2

/-! ### targets -/
/-- the slots beside sl are as they were -/
def Beside (sl : List Nat) (σ σ' : St) : Prop := σ'.length = σ.length ∧ ∀ j, j ∉ sl → σ'[j]? = σ[j]?
def tG (J : Jx) (sl : List Nat) (gd : TV → Env → Option Env) : TG := fun v σ H Q => ∃ Hse He env Hs Hr x, Rel J Hse He env σ Hs Hr H ∧ RepT J.toGx x.1 Hs Hr H v x.2 ∧ match gd x env with
  | some env' => ∀ σ', Rel J Hse He env' σ' Hs Hr H → Beside sl σ σ' → Q σ' H
  | none => False
def tGs (J : Jx) (sl : List Nat) (gd : List TV → Env → Option Env) : TGs := fun vs σ H Q => ∃ Hse He env Hs Hr xs, Rel J Hse He env σ Hs Hr H ∧ RepTs J.toGx Hs Hr H xs vs ∧ match gd xs env with
  | some env' => ∀ σ', Rel J Hse He env' σ' Hs Hr H → Beside sl σ σ' → Q σ' H
  | none => False
structure MG (X : Cx) (J : Jx) (tg : Expr) (sl : List Nat) (gd : TV → Env → Option Env) : Prop where
  pg : PG X tg (tG J sl gd)
structure MGs (X : Cx) (J : Jx) (tgs : List Expr) (sl : List Nat) (gd : List TV → Env → Option Env) : Prop where
  pg : PGs X tgs (tGs J sl gd)
theorem pg_imp {X : Cx} {e : Expr} {t t' : TG} (h : PG X e t) (i : ∀ v σ H Q, t' v σ H Q → t v σ H Q) : PG X e t' := ⟨fun pins s σ H v u Q I r q => h.run pins s σ H v u Q I r (i v σ H Q q)⟩
theorem pgs_imp {X : Cx} {e : List Expr} {t t' : TGs} (h : PGs X e t) (i : ∀ v σ H Q, t' v σ H Q → t v σ H Q) : PGs X e t' := ⟨fun pins s σ H v u Q I r q => h.run pins s σ H v u Q I r (i v σ H Q q)⟩
theorem pg_or {X : Cx} {e : Expr} {t t' : TG} (h : PG X e t) (h' : PG X e t') : PG X e (fun v σ H Q => t v σ H Q ∨ t' v σ H Q) := ⟨fun pins s σ H v u Q I r q => q.elim (h.run pins s σ H v u Q I r) (h'.run pins s σ H v u Q I r)⟩
def gdN (i : Nat) (x : TV) (env : Env) : Option Env := match toSlot (.val x.1 x.2) with
  | some e => some (env.set i (some e))
  | none => none
def gdNil : List TV → Env → Option Env
  | [], env => some env
  | _ :: _, _ => none
def gdC (g : TV → Env → Option Env) (gs : List TV → Env → Option Env) : List TV → Env → Option Env
  | [], _ => none
  | x :: r, env => match g x env with
    | some env' => gs r env'
    | none => none
def gdT (n : Nat) (gs : List TV → Env → Option Env) (x : TV) (env : Env) : Option Env := match x.2 with
  | .tup ds => if ds.length = n then gs (ds.map fun d => (itT x.1, d)) env else none
  | .lst ds => if ds.length = n then gs (ds.map fun d => (itT x.1, d)) env else none
  | _ => none
theorem repsT_ts {G : Gx} {t : Tg} {Hs Hr H : Hp} : ∀ {vs : List V} {ds : List D}, RepsT G (itT t) Hs Hr H vs ds → RepTs G Hs Hr H (ds.map fun d => (itT t, d)) vs
  | vs, [], r => by cases t <;> (cases r; rfl)
  | vs, d :: ds, r => by
    cases t with
    | s => cases r with | cons a b => exact ⟨_, _, rfl, a, repsT_ts (t := .s) b⟩
    | r => cases r with | cons a b => exact ⟨_, _, rfl, a, repsT_ts (t := .r) b⟩
    | h => cases r with | cons a b => exact ⟨_, _, rfl, a, repsT_ts (t := .h) b⟩
    | o => cases r with | cons a b => exact ⟨_, _, rfl, a, repsT_ts (t := .o) b⟩
section
variable {X : Cx} {J : Jx} {e o : Expr} {es : List Expr} {pos p2 : Pos} {g : TV → Env → Option Env} {gs : List TV → Env → Option Env} {f f2 : Env → Res TV}
theorem mg_name (i : Nat) {x : Str} (nd : X.N.Nodup) (hi : X.N[i]? = some x := by rfl) (hx : Loc X.env.scope x := by first | exact Or.inl rfl | exact Or.inr rfl) (hf : X.fn x = true ∨ X.env.scope.names.lookup x = some .local := by first | exact .inl rfl | exact .inr rfl) :
    MG X J (.Name x pos) [i] (gdN i) := ⟨pg_imp (pg_name nd hi hx hf) fun v σ H Q ⟨Hse, He, env, Hs, Hr, x, R, r, q⟩ => by
  unfold gdN at q
  cases he : toSlot (.val x.1 x.2) with
  | none => rw [he] at q; exact q.elim
  | some e' =>
    rw [he] at q
    exact R.put (D := fun _ => True) (Q := fun σ' H' => Beside [i] σ σ' → Q σ' H') (i := i) (e := .val x.1 x.2) (H0 := H) (fun j p h => (R.own h).1) (by rw [he]; exact q) v r
      ⟨by rw [List.length_set], fun j hj => List.getElem?_set_ne (fun z => hj (by rw [z]; exact List.mem_singleton.mpr rfl))⟩⟩
theorem mgs_nil : MGs X J [] [] gdNil := ⟨pgs_imp pgs_nil fun v σ H Q ⟨Hse, He, env, Hs, Hr, xs, R, r, q⟩ => by
  cases xs with
  | nil => exact ⟨r, q σ R ⟨rfl, fun _ _ => rfl⟩⟩
  | cons x xs => exact (show False from q).elim⟩
theorem mgs_cons {s1 s2 : List Nat} (h1 : MG X J e s1 g) (h2 : MGs X J es s2 gs) (hs : (assignEach (e :: es) X.env).map (·.2) = assign e X.env :: (assignEach es X.env).map (·.2) := by rfl) : MGs X J (e :: es) (s1 ++ s2) (gdC g gs) :=
  ⟨pgs_imp (pgs_cons h1.pg h2.pg hs) fun v σ H Q ⟨Hse, He, env, Hs, Hr, xs, R, r, q⟩ => by
    cases xs with
    | nil => exact (show False from q).elim
    | cons x xs =>
      obtain ⟨v, w, rfl, a, b⟩ := r
      refine ⟨v, w, rfl, Hse, He, env, Hs, Hr, x, R, a, ?_⟩
      unfold gdC at q
      dsimp only at q
      cases hg : g x env with
      | none => rw [hg] at q; exact (show False from q).elim
      | some env' =>
        rw [hg] at q
        dsimp only at q ⊢
        refine fun σ' R' bs => ⟨Hse, He, env', Hs, Hr, xs, R', b, ?_⟩
        revert q
        cases hq : gs xs env' with
        | none => exact fun q => q.elim
        | some env2 =>
          exact fun q σ2 R2 bs2 => q σ2 R2 ⟨bs2.1.trans bs.1, fun j hj => (bs2.2 j fun z => hj (List.mem_append_right _ z)).trans (bs.2 j fun z => hj (List.mem_append_left _ z))⟩⟩
theorem mg_tup {k n : Nat} {sl : List Nat} (hc : X.calm = true) (h : MGs X J es sl gs) (hn : (assignEach es X.env).length = n := by rfl) (hst : (assignEach es X.env).findIdx? (·.1) = none := by rfl) : MG X J (.Tuple es k pos) sl (gdT n gs) :=
  ⟨pg_imp (pg_or (pg_tup hc h.pg hn hst) (pg_lst hc h.pg hn hst)) fun v σ H Q ⟨Hse, He, env, Hs, Hr, x, R, r, q⟩ => by
    obtain ⟨t, d⟩ := x
    unfold gdT at q
    dsimp only at q r
    cases d with
    | tup ds =>
      dsimp only at q
      by_cases hl : ds.length = n
      · rw [if_pos hl] at q
        obtain ⟨a, vs, rfl, h1, r1⟩ := r.tupT R.ok
        exact .inl ⟨a, vs, rfl, .inl (.inl h1), by rw [(r1.h R.ok).length]; exact hl, Hse, He, env, Hs, Hr, _, R, repsT_ts r1, q⟩
      · rw [if_neg hl] at q; exact q.elim
    | lst ds =>
      dsimp only at q
      by_cases hl : ds.length = n
      · rw [if_pos hl] at q
        obtain ⟨a, vs, rfl, h1, r1⟩ := r.lstT R.ok
        exact .inr ⟨a, vs, rfl, .inl (.inl h1), by rw [(r1.h R.ok).length]; exact hl, Hse, He, env, Hs, Hr, _, R, repsT_ts r1, q⟩
      · rw [if_neg hl] at q; exact q.elim
    | _ => exact (show False from q).elim⟩
def asgS (f : Env → Res TV) (g : TV → Env → Option Env) : Env → SR := fun env => (f env).st env fun x => match g x env with | some e => .nx e | none => .bad
theorem ms_asg {tg : Expr} {sl : List Nat} (h : MV X J e f) (hg : MG X J tg sl g) (hs : swapsWithSole [tg] e pos.line X.env = pure false := by rfl) (hw : swappedStores [tg] e X.env = pure none := by rfl)
    (h1 : (assignEach [tg] X.env).map (·.2) = [assign tg X.env] := by rfl) : MS X J (.Assign [tg] e pos) (asgS f g) := ⟨ps_imp (ps_asg h.pe hg.pg hs hw h1) fun D σ H ⟨Hse, He, env, Hs, Hr, R, p⟩ =>
  ⟨Hse, He, env, Hs, Hr, R, post_st R p fun a Hs' Hr' H' x R' p' v rv => ⟨Hse, He, env, Hs', Hr', a, R', rv, by
    cases q : g a env with
    | none => rw [q] at p'; exact (show False from p').elim
    | some env' =>
      rw [q] at p'
      exact fun σ' R2 _ => p' σ' Hs' Hr' H' R2⟩⟩⟩
def parS (i j : Nat) (f f2 : Env → Res TV) : Env → SR := fun env => (f env).st env fun x => (f2 env).st env fun y => match toSlot (.val x.1 x.2), toSlot (.val y.1 y.2) with
  | some a, some b => .nx ((env.set i (some a)).set j (some b))
  | _, _ => .bad
theorem toSlot_val {Hse He : Hp} {env : Env} {σ : St} {Hs Hr H : Hp} (R : Rel J Hse He env σ Hs Hr H) {x : TV} {v : V} {e : EV} (r : RepT J.toGx x.1 Hs Hr H v x.2) (h : toSlot (.val x.1 x.2) = some e) : SlotOk J Hs Hr H (some (some v)) e ∧ isOwn e = false := by
  obtain ⟨t, d⟩ := x
  by_cases hi : imm d = true
  · have : toSlot (.val t d) = some (.val .s d) := if_pos hi
    rw [this] at h
    cases h
    exact ⟨⟨v, rfl, RepT.imm R.ok r hi⟩, rfl⟩
  · cases t with
    | s =>
      have : toSlot (.val .s d) = some (.val .s d) := if_neg hi
      rw [this] at h
      cases h
      exact ⟨⟨v, rfl, r⟩, rfl⟩
    | r =>
      have : toSlot (.val .r d) = some (.val .r d) := if_neg hi
      rw [this] at h
      cases h
      exact ⟨⟨v, rfl, r⟩, rfl⟩
    | h =>
      have : toSlot (.val .h d) = none := if_neg hi
      rw [this] at h
      cases h
    | o =>
      have : toSlot (.val .o d) = none := if_neg hi
      rw [this] at h
      cases h
theorem ms_par (i j : Nat) {x y : Str} {a b : Expr} {px py pt : Pos} {kt k2 pt2} (hc : X.calm = true) (nd : X.N.Nodup) (ha : MV X J a f) (hb : MV X J b f2) (hi : X.N[i]? = some x := by rfl) (hj : X.N[j]? = some y := by rfl) (hij : i ≠ j := by decide)
    (hx : X.env.scope.names.lookup x = some .local := by rfl) (hy : X.env.scope.names.lookup y = some .local := by rfl)
    (hw : swappedStores [.Tuple [.Name x px, .Name y py] kt pt] (.Tuple [a, b] k2 pt2) X.env = pure (some [x, y]) := by rfl)
    (hs : swapsWithSole [.Tuple [.Name x px, .Name y py] kt pt] (.Tuple [a, b] k2 pt2) pos.line X.env = pure false := by rfl)
    (h1 : starEach [a, b] X.env = (false, eval a X.env) :: starEach [b] X.env := by rfl) (h2 : starEach [b] X.env = (false, eval b X.env) :: starEach [] X.env := by rfl) :
    MS X J (.Assign [.Tuple [.Name x px, .Name y py] kt pt] (.Tuple [a, b] k2 pt2) pos) (parS i j f f2) := ⟨ps_imp (ps_par hc nd hi hj hij hx hy (pa_cons ha.pe (pa_cons hb.pe pa_nil h2) h1) hw hs) fun D σ H ⟨Hse, He, env, Hs, Hr, R, p⟩ =>
  ⟨Hse, He, env, Hs, Hr, R, post_st R p fun a Hs' Hr' H' x R' p' v rv => ⟨Hse, He, env, Hs', Hr', R', post_st R' p' fun b Hs2 Hr2 H2 x2 R2 p2 w rw => ⟨v, w, rfl, by
    cases q1 : toSlot (.val a.1 a.2) with
    | none => rw [q1] at p2; exact (show False from p2).elim
    | some ea =>
      cases q2 : toSlot (.val b.1 b.2) with
      | none => rw [q1, q2] at p2; exact (show False from p2).elim
      | some eb =>
        rw [q1, q2] at p2
        have s1 := toSlot_val R2 (rv.ext x2) q1
        have s2 := toSlot_val R2 rw q2
        have R3 := R2.set (i := i) s1.1 fun z => by rw [s1.2] at z; cases z
        exact p2 _ _ _ _ (R3.set (i := j) s2.1 fun z => by rw [s2.2] at z; cases z)⟩⟩⟩⟩

/-! ### freezing -/
def frzE (i : Nat) (env : Env) : Env := match env[i]? with
  | some (some (.own xs)) => env.set i (some (.val .s (.lst xs)))
  | some (some (.ownd ks xs)) => env.set i (some (.val .s (.dic ks xs)))
  | _ => env
theorem Rel.share {Hse He : Hp} {env : Env} {σ : St} {Hs Hr H : Hp} (R : Rel J Hse He env σ Hs Hr H) {i : Nat} {p : Addr} {u : HO} {e : EV} (oa : OwnAt env σ i p) (hp : H p = some u) (hr : Hr p = none) (he : isOwn e = false)
    (so : SlotOk J (upd Hs p u) (upd Hr p u) H (some (some (.ref p))) e) : Rel J Hse He (env.set i (some e)) σ (upd Hs p u) (upd Hr p u) H where
  ok := R.ok.share hp hr
  len := by rw [List.length_set]; exact R.len
  slot := fun j e' h => by
    have sm : Same Hs (upd Hs p u) := Same.upd (Same.refl _) (R.ok.sr.free hr)
    have sr : Same Hr (upd Hr p u) := Same.upd (Same.refl _) hr
    rcases getElem?_set_some h with ⟨rfl, h1, h2⟩ | ⟨h1, h2⟩
    · cases h1
      obtain ⟨e0, a, b, c⟩ := oa
      rw [c]
      exact so
    · have q := R.slot j e' h2
      cases e' with
      | val t d =>
        cases t with
        | s => obtain ⟨v, a, b⟩ := q; exact ⟨v, a, b.mono sm⟩
        | r => obtain ⟨v, a, b⟩ := q; exact ⟨v, a, b.mono sr⟩
        | h => exact q
        | o => exact q
      | own xs =>
        obtain ⟨q', vs, a, b, c, r⟩ := q
        have ne : q' ≠ p := fun z => by subst z; exact R.dis i j q' (Ne.symm h1) oa ⟨_, h2, rfl, a⟩
        exact ⟨q', vs, a, b, by rw [upd_ne ne]; exact c, r.mono sm⟩
      | ownd ks xs =>
        obtain ⟨q', vs, a, b, c, k, r⟩ := q
        have ne : q' ≠ p := fun z => by subst z; exact R.dis i j q' (Ne.symm h1) oa ⟨_, h2, rfl, a⟩
        exact ⟨q', vs, a, b, by rw [upd_ne ne]; exact c, k, r.mono sm⟩
      | exn c ks vs =>
        obtain ⟨a, cv, d, h1, h2, h3⟩ := q
        exact ⟨a, cv, d, h1, h2, h3.mono sm⟩
  dis := fun a b q n ha hb => by
    have f : ∀ a, OwnAt (env.set i (some e)) σ a q → OwnAt env σ a q := fun a ⟨ea, h1, h2, h3⟩ => by
      rcases getElem?_set_some h1 with ⟨rfl, g1, g2⟩ | ⟨g1, g2⟩
      · cases g1; rw [he] at h2; cases h2
      · exact ⟨ea, g2, h2, h3⟩
    exact R.dis a b q n (f a ha) (f b hb)
  se := Same.upd R.se (R.se.free (R.ok.sr.free hr))
  he := Same.upd R.he (R.he.free hr)
  ns := fun a o e => by
    by_cases q : a = p
    · subst q; exact .inr (R.he.free hr)
    · rw [upd_ne q] at e; exact R.ns a o e
theorem Rel.frz {Hse He : Hp} {env : Env} {σ : St} {Hs Hr H : Hp} (R : Rel J Hse He env σ Hs Hr H) (i : Nat) : ∃ Hs' Hr', Rel J Hse He (frzE i env) σ Hs' Hr' H := by
  unfold frzE
  split
  · rename_i xs q
    obtain ⟨p, vs, a, b, c, r⟩ := R.slot i _ q
    exact ⟨_, _, R.share ⟨_, q, rfl, a⟩ b c rfl ⟨_, rfl, .lst upd_same (r.mono (Same.upd (Same.refl _) (R.ok.sr.free c)))⟩⟩
  · rename_i ks xs q
    obtain ⟨p, kvs, a, b, c, k, r⟩ := R.slot i _ q
    refine ⟨_, _, R.share ⟨_, q, rfl, a⟩ b c rfl ⟨_, rfl, ?_⟩⟩
    subst k
    exact .dic upd_same (r.mono (Same.upd (Same.refl _) (R.ok.sr.free c)))
  · exact ⟨_, _, R⟩
def frzD (i : Nat) (F : Env → SR) : Env → SR := fun env => F (frzE i env)
theorem ms_frz (i : Nat) {st : Stmt} {F : Env → SR} (h : MS X J st F) : MS X J st (frzD i F) := ⟨ps_imp h.ps fun D σ H ⟨Hse, He, env, Hs, Hr, R, p⟩ =>
  let ⟨Hs', Hr', R'⟩ := R.frz i
  ⟨Hse, He, _, Hs', Hr', R', p⟩⟩

/-! ### a def's own list is changed -/
theorem Rel.mut {Hse He : Hp} {env : Env} {σ : St} {Hs Hr H : Hp} (R : Rel J Hse He env σ Hs Hr H) {i : Nat} {p : Addr} {u' : HO} {e : EV} (oa : OwnAt env σ i p) (hr : Hr p = none) (hu : ∀ xs, u' ≠ .tup xs) (he : isOwn e = true)
    (so : SlotOk J Hs Hr (upd H p u') (some (some (.ref p))) e) : Rel J Hse He (env.set i (some e)) σ Hs Hr (upd H p u') where
  ok := ⟨R.ok.sr, Same.upd R.ok.rh hr, fun a xs h => by
    by_cases q : a = p
    · subst q; rw [upd_same] at h; exact absurd (Option.some.inj h) (hu xs)
    · rw [upd_ne q] at h; exact R.ok.ti a xs h⟩
  len := by rw [List.length_set]; exact R.len
  slot := fun j e' h => by
    rcases getElem?_set_some h with ⟨rfl, h1, h2⟩ | ⟨h1, h2⟩
    · cases h1
      obtain ⟨e0, a, b, c⟩ := oa
      rw [c]
      exact so
    · have q := R.slot j e' h2
      cases e' with
      | val t d => cases t <;> exact q
      | own xs =>
        obtain ⟨q', vs, a, b, c, r⟩ := q
        have ne : q' ≠ p := fun z => by subst z; exact R.dis i j q' (Ne.symm h1) oa ⟨_, h2, rfl, a⟩
        exact ⟨q', vs, a, by rw [upd_ne ne]; exact b, c, r⟩
      | ownd ks xs =>
        obtain ⟨q', vs, a, b, c, k, r⟩ := q
        have ne : q' ≠ p := fun z => by subst z; exact R.dis i j q' (Ne.symm h1) oa ⟨_, h2, rfl, a⟩
        exact ⟨q', vs, a, by rw [upd_ne ne]; exact b, c, k, r⟩
      | exn c ks vs => exact q
  dis := fun a b q n ha hb => by
    have f : ∀ a, OwnAt (env.set i (some e)) σ a q → OwnAt env σ a q := fun a ⟨ea, h1, h2, h3⟩ => by
      rcases getElem?_set_some h1 with ⟨rfl, g1, g2⟩ | ⟨g1, g2⟩
      · obtain ⟨e0, a0, b0, c0⟩ := oa
        exact ⟨e0, a0, b0, h3⟩
      · exact ⟨ea, g2, h2, h3⟩
    exact R.dis a b q n (f a ha) (f b hb)
  se := R.se
  he := R.he
  ns := R.ns
def ownL (i : Nat) (env : Env) (k : List D → SR) : SR := match env[i]? with
  | some (some (.own xs)) => k xs
  | _ => .bad
/-- x.append(e) -/
def appS (i : Nat) (f : Env → Res TV) : Env → SR := fun env => ownL i env fun _ => (f env).st env fun x => ownL i env fun xs => if shV x = true ∧ xs.length < 16777216 then .nx (env.set i (some (.own (xs ++ [x.2])))) else .bad
theorem Rel.lstAt {Hse He : Hp} {env : Env} {σ : St} {Hs Hr H : Hp} (R : Rel J Hse He env σ Hs Hr H) {i : Nat} {M : Ends} {k : List D → SR} (p : PostS J Hse He M (ownL i env k)) :
    ∃ xs q vs, env[i]? = some (some (.own xs)) ∧ OwnAt env σ i q ∧ σ[i]? = some (some (.ref q)) ∧ H q = some (.lst vs) ∧ Hr q = none ∧ Reps J.toGx Hs vs xs ∧ PostS J Hse He M (k xs) := by
  unfold ownL at p
  split at p
  · rename_i xs q
    obtain ⟨a, vs, h1, h2, h3, r⟩ := R.slot i _ q
    exact ⟨xs, a, vs, q, ⟨_, q, rfl, h1⟩, h1, h2, h3, r, p⟩
  · exact p.elim
theorem ms_append (i : Nat) {x : Str} {px apos cpos : Pos} (h : MV X J e f) (hN : X.N[i]? = some x := by rfl) (hv : Vis X.env.scope x := by first | exact Or.inl rfl | exact Or.inr (Or.inl rfl) | exact Or.inr (Or.inr rfl)) (hd : (x == ("__debug__" : Str)) = false := by decide)
    (hcd : (x == ("__classdict__" : Str)) = false := by decide) (hs0 : starEach [e] X.env = (false, eval e X.env) :: starEach [] X.env := by rfl)
    (hbase : attributeBase (.Name x px) "append" X.env (eval (.Name x px) X.env) = eval (.Name x px) X.env := by rfl)
    (hfew : ((backTo cpos (starEach [e] X.env)).all (fun x => !x.1) && (backToKw cpos (keywordEach [] X.env)).all (fun x => x.1.isSome) && decide ([e].length + ([] : List Keyword).length + (if ([] : List Keyword).isEmpty then 0 else 1) < 30)) = true := by rfl)
    (hline : (apos.endLine == cpos.line) = true := by rfl) (hplain : (backTo cpos (starEach [] X.env)).any (·.1) = false := by rfl)
    (hs : swapsWith (.Call (.Attribute (.Name x px) "append" apos) [e] [] cpos) none pos.line X.env = pure false := by rfl) :
    MS X J (.Expr (.Call (.Attribute (.Name x px) "append" apos) [e] [] cpos) pos) (appS i f) :=
  ⟨ps_imp (ps_expr (pe_bm PySem.F.plainAttrs_list PySem.F.slot_list_append PySem.F.type_list_append mt_append (pv i hN hv hd hcd) (pa_cons h.pe pa_nil hs0) hbase hfew hline hs0 hplain) hs) fun D σ H ⟨Hse, He, env, Hs, Hr, R, p⟩ => by
    obtain ⟨xs, q, vs, h1, h2, h3, h4, h5, h6, p⟩ := R.lstAt (M := D) p
    refine ⟨_, h3, .inl ⟨rfl, vs, .inl (.inl h4)⟩, Hse, He, env, Hs, Hr, R, post_st R p fun a Hs' Hr' H' x R' p' v rv => ?_⟩
    obtain ⟨xs', q', vs', g1, g2, g3, g4, g5, g6, p'⟩ := R'.lstAt (M := D) p'
    rw [h3] at g3
    cases g3
    split at p'
    · rename_i c
      refine ⟨q, vs', v, rfl, rfl, g4, by rw [sizeLine_eq, g6.length]; exact c.2, ?_⟩
      exact p' σ _ _ _ (R'.mut g2 g5 (fun xs z => by cases z) rfl ⟨q, _, rfl, upd_same, g5, g6.append (.cons (rv.shV R'.ok c.1) .nil)⟩)
    · exact p'.elim⟩
/-- x.extend(e) -/
def extS (i : Nat) (f : Env → Res TV) : Env → SR := fun env => ownL i env fun _ => (f env).st env fun x => ownL i env fun xs => match x.2 with
  | .lst ys => if shI x = true ∧ xs.length + ys.length ≤ 16777216 then .nx (env.set i (some (.own (xs ++ ys)))) else .bad
  | _ => .bad
theorem ms_extend (i : Nat) {x : Str} {px apos cpos : Pos} (h : MV X J e f) (hN : X.N[i]? = some x := by rfl) (hv : Vis X.env.scope x := by first | exact Or.inl rfl | exact Or.inr (Or.inl rfl) | exact Or.inr (Or.inr rfl)) (hd : (x == ("__debug__" : Str)) = false := by decide)
    (hcd : (x == ("__classdict__" : Str)) = false := by decide) (hs0 : starEach [e] X.env = (false, eval e X.env) :: starEach [] X.env := by rfl)
    (hbase : attributeBase (.Name x px) "extend" X.env (eval (.Name x px) X.env) = eval (.Name x px) X.env := by rfl)
    (hfew : ((backTo cpos (starEach [e] X.env)).all (fun x => !x.1) && (backToKw cpos (keywordEach [] X.env)).all (fun x => x.1.isSome) && decide ([e].length + ([] : List Keyword).length + (if ([] : List Keyword).isEmpty then 0 else 1) < 30)) = true := by rfl)
    (hline : (apos.endLine == cpos.line) = true := by rfl) (hplain : (backTo cpos (starEach [] X.env)).any (·.1) = false := by rfl)
    (hs : swapsWith (.Call (.Attribute (.Name x px) "extend" apos) [e] [] cpos) none pos.line X.env = pure false := by rfl) :
    MS X J (.Expr (.Call (.Attribute (.Name x px) "extend" apos) [e] [] cpos) pos) (extS i f) :=
  ⟨ps_imp (ps_expr (pe_bm PySem.F.plainAttrs_list PySem.F.slot_list_extend PySem.F.type_list_extend mt_extend (pv i hN hv hd hcd) (pa_cons h.pe pa_nil hs0) hbase hfew hline hs0 hplain) hs) fun D σ H ⟨Hse, He, env, Hs, Hr, R, p⟩ => by
    obtain ⟨xs, q, vs, h1, h2, h3, h4, h5, h6, p⟩ := R.lstAt (M := D) p
    refine ⟨_, h3, .inl ⟨rfl, vs, .inl (.inl h4)⟩, Hse, He, env, Hs, Hr, R, post_st R p fun a Hs' Hr' H' x R' p' v rv => ?_⟩
    obtain ⟨xs', q', vs', g1, g2, g3, g4, g5, g6, p'⟩ := R'.lstAt (M := D) p'
    rw [h3] at g3
    cases g3
    obtain ⟨t, d⟩ := a
    dsimp only at p'
    cases d with
    | lst ys =>
      dsimp only at p'
      split at p'
      · rename_i c
        obtain ⟨b, ws, rfl, hb, rb⟩ := rv.shI R'.ok c.1
        refine ⟨q, b, vs', ws, rfl, rfl, g4, hb, by rw [sizeLine_eq, g6.length, rb.length]; exact c.2, ?_⟩
        exact p' σ _ _ _ (R'.mut g2 g5 (fun xs z => by cases z) rfl ⟨q, _, rfl, upd_same, g5, g6.append rb⟩)
      · exact p'.elim
    | _ => exact (show False from p').elim⟩
/-- x.reverse(), x.clear(), x.pop() -/
def revS (i : Nat) : Env → SR := fun env => ownL i env fun xs => .nx (env.set i (some (.own xs.reverse)))
def clrS (i : Nat) : Env → SR := fun env => ownL i env fun xs => .nx (env.set i (some (.own [])))
theorem ms_reverse (i : Nat) {x : Str} {px apos cpos : Pos} (hN : X.N[i]? = some x := by rfl) (hv : Vis X.env.scope x := by first | exact Or.inl rfl | exact Or.inr (Or.inl rfl) | exact Or.inr (Or.inr rfl)) (hd : (x == ("__debug__" : Str)) = false := by decide)
    (hcd : (x == ("__classdict__" : Str)) = false := by decide)
    (hbase : attributeBase (.Name x px) "reverse" X.env (eval (.Name x px) X.env) = eval (.Name x px) X.env := by rfl) (hline : (apos.endLine == cpos.line) = true := by rfl)
    (hs : swapsWith (.Call (.Attribute (.Name x px) "reverse" apos) [] [] cpos) none pos.line X.env = pure false := by rfl) :
    MS X J (.Expr (.Call (.Attribute (.Name x px) "reverse" apos) [] [] cpos) pos) (revS i) :=
  ⟨ps_imp (ps_expr (pe_bm0 PySem.F.plainAttrs_list PySem.F.slot_list_reverse PySem.F.type_list_reverse mt_reverse (pv i hN hv hd hcd) hbase hline) hs) fun D σ H ⟨Hse, He, env, Hs, Hr, R, p⟩ => by
    obtain ⟨xs, q, vs, h1, h2, h3, h4, h5, h6, p⟩ := R.lstAt (M := D) p
    refine ⟨_, h3, .inl ⟨rfl, vs, .inl (.inl h4)⟩, q, vs, rfl, rfl, h4, ?_⟩
    exact p σ _ _ _ (R.mut h2 h5 (fun xs z => by cases z) rfl ⟨q, _, rfl, upd_same, h5, h6.reverse⟩)⟩
theorem ms_clear (i : Nat) {x : Str} {px apos cpos : Pos} (hN : X.N[i]? = some x := by rfl) (hv : Vis X.env.scope x := by first | exact Or.inl rfl | exact Or.inr (Or.inl rfl) | exact Or.inr (Or.inr rfl)) (hd : (x == ("__debug__" : Str)) = false := by decide)
    (hcd : (x == ("__classdict__" : Str)) = false := by decide)
    (hbase : attributeBase (.Name x px) "clear" X.env (eval (.Name x px) X.env) = eval (.Name x px) X.env := by rfl) (hline : (apos.endLine == cpos.line) = true := by rfl)
    (hs : swapsWith (.Call (.Attribute (.Name x px) "clear" apos) [] [] cpos) none pos.line X.env = pure false := by rfl) :
    MS X J (.Expr (.Call (.Attribute (.Name x px) "clear" apos) [] [] cpos) pos) (clrS i) :=
  ⟨ps_imp (ps_expr (pe_bm0 PySem.F.plainAttrs_list PySem.F.slot_list_clear PySem.F.type_list_clear mt_clear (pv i hN hv hd hcd) hbase hline) hs) fun D σ H ⟨Hse, He, env, Hs, Hr, R, p⟩ => by
    obtain ⟨xs, q, vs, h1, h2, h3, h4, h5, h6, p⟩ := R.lstAt (M := D) p
    refine ⟨_, h3, .inl ⟨rfl, vs, .inl (.inl h4)⟩, q, vs, rfl, rfl, h4, ?_⟩
    exact p σ _ _ _ (R.mut h2 h5 (fun xs z => by cases z) rfl ⟨q, _, rfl, upd_same, h5, .nil⟩)⟩
/-- x[k] = e -/
def sixS (i : Nat) (f fi : Env → Res TV) : Env → SR := fun env => ownL i env fun _ => (f env).st env fun x => (fi env).st env fun k => ownL i env fun xs => match k.2 with
  | .int n => match ixN xs.length n with
    | some j => if shV x = true then .nx (env.set i (some (.own (xs.set j x.2)))) else .bad
    | none => .bad
  | _ => .bad
theorem ms_setIx (i : Nat) {x : Str} {ix : Expr} {px tpos : Pos} (h : MV X J e f) (hi : MV X J ix f2) (hN : X.N[i]? = some x := by rfl) (hv : Vis X.env.scope x := by first | exact Or.inl rfl | exact Or.inr (Or.inl rfl) | exact Or.inr (Or.inr rfl)) (hd : (x == ("__debug__" : Str)) = false := by decide)
    (hcd : (x == ("__classdict__" : Str)) = false := by decide)
    (ha : ∀ v, assign (.Subscript (.Name x px) ix tpos) X.env v = (do
      let ov ← holding [v] (eval (.Name x px) X.env)
      let iv ← holding [v, ov] (eval ix X.env)
      standAt tpos
      holding [v, ov, iv] (setItem ov iv v)
      release [v, ov, iv] []) := by intro _; rfl)
    (hs : swapsWithSole [.Subscript (.Name x px) ix tpos] e pos.line X.env = pure false := by rfl) (hw : swappedStores [.Subscript (.Name x px) ix tpos] e X.env = pure none := by rfl)
    (h1 : (assignEach [.Subscript (.Name x px) ix tpos] X.env).map (·.2) = [assign (.Subscript (.Name x px) ix tpos) X.env] := by rfl) :
    MS X J (.Assign [.Subscript (.Name x px) ix tpos] e pos) (sixS i f f2) :=
  ⟨ps_imp (ps_asg h.pe (pg_sub (pv i hN hv hd hcd) hi.pe set_list ha) hs hw h1) fun D σ H ⟨Hse, He, env, Hs, Hr, R, p⟩ => by
    obtain ⟨xs, q, vs, e0, e1, e2, _, _, _, p⟩ := R.lstAt (M := D) p
    refine ⟨Hse, He, env, Hs, Hr, R, post_st R p fun a Hs1 Hr1 H1 x1 R1 p1 v rv => ?_⟩
    refine ⟨_, e2, Hse, He, env, Hs1, Hr1, R1, post_st R1 p1 fun k Hs2 Hr2 H2 x2 R2 p2 w rw => ?_⟩
    obtain ⟨xs', q', vs', g1, g2, g3, g4, g5, g6, p2⟩ := R2.lstAt (M := D) p2
    rw [e2] at g3
    cases g3
    obtain ⟨tk, dk⟩ := k
    dsimp only at p2
    cases dk with
    | int n =>
      dsimp only at p2
      cases hj : ixN xs'.length n with
      | none => rw [hj] at p2; exact (show False from p2).elim
      | some j =>
        rw [hj] at p2
        dsimp only at p2
        split at p2
        · rename_i c
          refine ⟨q, vs', n, j, rfl, rw.isInt R2.ok, g4, by rw [g6.length]; exact hj, ?_⟩
          exact p2 σ _ _ _ (R2.mut g2 g5 (fun xs z => by cases z) rfl ⟨q, _, rfl, upd_same, g5, Reps.set ((rv.ext x2).shV R2.ok c) j g6⟩)
        · exact p2.elim
    | _ => exact (show False from p2).elim⟩
end
end DL

namespace DL
open PySem PySem.Spec PyProof.Rows L2

/-! ### what is walked -/
abbrev TVs := Tg × List D
structure Enum (G : Gx) (t : Tg) (Hs0 Hr0 : Hp) (Jt : It) (ds : List D) : Prop where
  tg : t = .s ∨ t = .r
  go : ∀ Hs Hr H i, HpOk Hs Hr H → Same Hs0 Hs → Same Hr0 Hr → i < ds.length → Jt.go i H
  stop : ∀ Hs Hr H, HpOk Hs Hr H → Same Hs0 Hs → Same Hr0 Hr → Jt.stop ds.length H
  yld : ∀ Hs Hr H i x H', HpOk Hs Hr H → Same Hs0 Hs → Same Hr0 Hr → i < ds.length → Jt.yld i H x H' →
    ∃ d, ds[i]? = some d ∧ ((H' = H ∧ RepT G t Hs Hr H x d) ∨ ∃ p vs es, x = .ref p ∧ H p = none ∧ H' = upd H p (.tup vs) ∧ d = .tup es ∧ RepsT G t Hs Hr H vs es)
def iI (J : Jx) (it : Env → Res TVs) : TI := fun σ H R => ∃ Hse He env Hs Hr, Rel J Hse He env σ Hs Hr H ∧ Post J σ Hs Hr H (it env) (fun x Hs' Hr' H' => ∀ Jt, Enum J.toGx x.1 Hs' Hr' Jt x.2 → R Jt H')
structure MI (X : Cx) (J : Jx) (tg iter : Expr) (it : Env → Res TVs) : Prop where
  pi : PI X tg iter (iI J it)
theorem pi_imp {X : Cx} {tg e : Expr} {t t' : TI} (h : PI X tg e t) (i : ∀ σ H R, t' σ H R → t σ H R) : PI X tg e t' := ⟨fun pins s σ H R I q => h.run pins s σ H R I (i σ H R q)⟩
theorem pi_or {X : Cx} {tg e : Expr} {t t' : TI} (h : PI X tg e t) (h' : PI X tg e t') : PI X tg e (fun σ H R => t σ H R ∨ t' σ H R) := ⟨fun pins s σ H R I q => q.elim (h.run pins s σ H R I) (h'.run pins s σ H R I)⟩
theorem RepsT.mono' {G : Gx} {t : Tg} {Hs Hr H Hs' Hr' H' : Hp} (ht : t = .s ∨ t = .r) (a : Same Hs Hs') (b : Same Hr Hr') {vs : List V} {ds : List D} (r : RepsT G t Hs Hr H vs ds) : RepsT G t Hs' Hr' H' vs ds := by
  rcases ht with rfl | rfl
  · exact Reps.mono a r
  · exact Reps.mono b r
def nodeH (t : Tg) (Hs Hr : Hp) : Hp := match t with | .s => Hs | _ => Hr
theorem nodeH_mono {t : Tg} {Hs Hr Hs' Hr' : Hp} (a : Same Hs Hs') (b : Same Hr Hr') : Same (nodeH t Hs Hr) (nodeH t Hs' Hr') := by cases t <;> first | exact a | exact b
theorem nodeH_le {t : Tg} {Hs Hr H : Hp} (k : HpOk Hs Hr H) : Same (nodeH t Hs Hr) H := by cases t <;> first | exact k.sh | exact k.rh
theorem itT_sr {t : Tg} (h : t = .s ∨ t = .r) : itT t = t := by rcases h with rfl | rfl <;> rfl
theorem enum_seq {G : Gx} {K : PySem.W.Frag} {t : Tg} {Hs0 Hr0 : Hp} {a : Addr} {vs : List V} {ds : List D} (ht : t = .s ∨ t = .r) (h : nodeH t Hs0 Hr0 a = some (.lst vs)) (r : RepsT G t Hs0 Hr0 Hr0 vs ds) : Enum G t Hs0 Hr0 (Itl K a) ds where
  tg := ht
  go := fun Hs Hr H i k s1 s2 hi => by
    have l := (RepsT.mono' (H' := H) ht s1 s2 r).h k |>.length
    have n := nodeH_le (t := t) k _ _ (nodeH_mono s1 s2 _ _ h)
    exact ⟨vs, vs[i], .inl (.inl n), by simp [l, hi]⟩
  stop := fun Hs Hr H k s1 s2 => by
    have l := (RepsT.mono' (H' := H) ht s1 s2 r).h k |>.length
    have n := nodeH_le (t := t) k _ _ (nodeH_mono s1 s2 _ _ h)
    exact ⟨vs, .inl (.inl n), by omega⟩
  yld := fun Hs Hr H i x H' k s1 s2 hi y => by
    have n := nodeH_le (t := t) k _ _ (nodeH_mono s1 s2 _ _ h)
    obtain ⟨e, y⟩ := y
    have z := y vs (.inl (.inl n))
    have r' := RepsT.mono' (H' := H) ht s1 s2 r
    rw [← itT_sr ht] at r'
    obtain ⟨d, h1, h2⟩ := r'.get' z
    rw [itT_sr ht] at h2
    exact ⟨d, h1, .inl ⟨e, h2⟩⟩
theorem enum_tup {G : Gx} {K : PySem.W.Frag} {t : Tg} {Hs0 Hr0 : Hp} {a : Addr} {vs : List V} {ds : List D} (ht : t = .s ∨ t = .r) (h : nodeH t Hs0 Hr0 a = some (.tup vs)) (r : RepsT G t Hs0 Hr0 Hr0 vs ds) : Enum G t Hs0 Hr0 (Itt K a) ds where
  tg := ht
  go := fun Hs Hr H i k s1 s2 hi => by
    have l := (RepsT.mono' (H' := H) ht s1 s2 r).h k |>.length
    have n := nodeH_le (t := t) k _ _ (nodeH_mono s1 s2 _ _ h)
    exact ⟨vs, vs[i], .inl (.inl n), by simp [l, hi]⟩
  stop := fun Hs Hr H k s1 s2 => by
    have l := (RepsT.mono' (H' := H) ht s1 s2 r).h k |>.length
    have n := nodeH_le (t := t) k _ _ (nodeH_mono s1 s2 _ _ h)
    exact ⟨vs, .inl (.inl n), by omega⟩
  yld := fun Hs Hr H i x H' k s1 s2 hi y => by
    have n := nodeH_le (t := t) k _ _ (nodeH_mono s1 s2 _ _ h)
    obtain ⟨e, y⟩ := y
    have z := y vs (.inl (.inl n))
    have r' := RepsT.mono' (H' := H) ht s1 s2 r
    rw [← itT_sr ht] at r'
    obtain ⟨d, h1, h2⟩ := r'.get' z
    rw [itT_sr ht] at h2
    exact ⟨d, h1, .inl ⟨e, h2⟩⟩
/-- what may be walked: shared, or readable -/
def kSeq (x : TV) : Res TVs := match x.1, x.2 with
  | .s, .lst xs => .ok (.s, xs)
  | .r, .lst xs => .ok (.r, xs)
  | .s, .tup xs => .ok (.s, xs)
  | .r, .tup xs => .ok (.r, xs)
  | .h, .tup xs => if imms xs = true then .ok (.s, xs) else .bad
  | _, _ => .bad
theorem kSeq_cases {x : TV} {y : TVs} (h : kSeq x = .ok y) : (y.1 = .s ∨ y.1 = .r) ∧ ((x.2 = .lst y.2 ∧ x.1 = y.1) ∨ (x.2 = .tup y.2 ∧ (x.1 = y.1 ∨ (imms y.2 = true ∧ y.1 = .s)))) := by
  obtain ⟨t, d⟩ := x
  unfold kSeq at h
  split at h
  · rename_i q1 q2; dsimp only at q1 q2; subst q1 q2; cases h; exact ⟨.inl rfl, .inl ⟨rfl, rfl⟩⟩
  · rename_i q1 q2; dsimp only at q1 q2; subst q1 q2; cases h; exact ⟨.inr rfl, .inl ⟨rfl, rfl⟩⟩
  · rename_i q1 q2; dsimp only at q1 q2; subst q1 q2; cases h; exact ⟨.inl rfl, .inr ⟨rfl, .inl rfl⟩⟩
  · rename_i q1 q2; dsimp only at q1 q2; subst q1 q2; cases h; exact ⟨.inr rfl, .inr ⟨rfl, .inl rfl⟩⟩
  · rename_i q1 q2
    dsimp only at q1 q2
    subst q1 q2
    split at h
    · rename_i i; cases h; exact ⟨.inl rfl, .inr ⟨rfl, .inr ⟨i, rfl⟩⟩⟩
    · cases h
  · cases h
theorem seq_node {G : Gx} {Hs Hr H : Hp} {v : V} {x : TV} {y : TVs} (k : HpOk Hs Hr H) (r : RepT G x.1 Hs Hr H v x.2) (h : kSeq x = .ok y) : (y.1 = .s ∨ y.1 = .r) ∧
    ∃ a vs, v = .ref a ∧ ((x.2 = .lst y.2 ∧ nodeH y.1 Hs Hr a = some (.lst vs)) ∨ (x.2 = .tup y.2 ∧ nodeH y.1 Hs Hr a = some (.tup vs))) ∧ RepsT G y.1 Hs Hr Hr vs y.2 := by
  obtain ⟨ht, c⟩ := kSeq_cases h
  refine ⟨ht, ?_⟩
  obtain ⟨t, d⟩ := x
  obtain ⟨u, ds⟩ := y
  dsimp only at *
  rcases c with ⟨rfl, rfl⟩ | ⟨rfl, c⟩
  · rcases ht with rfl | rfl
    · cases r with | lst a b => exact ⟨_, _, rfl, .inl ⟨rfl, a⟩, b⟩
    · cases r with | lst a b => exact ⟨_, _, rfl, .inl ⟨rfl, a⟩, b⟩
  · rcases c with rfl | ⟨i, rfl⟩
    · rcases ht with rfl | rfl
      · cases r with | tup a b => exact ⟨_, _, rfl, .inr ⟨rfl, a⟩, b⟩
      · cases r with | tup a b => exact ⟨_, _, rfl, .inr ⟨rfl, a⟩, b⟩
    · have r' := RepT.imm k r (by show imms ds = true; exact i)
      cases r' with | tup a b => exact ⟨_, _, rfl, .inr ⟨rfl, a⟩, b⟩
section
variable {X : Cx} {J : Jx} {a b c e o tg iter : Expr} {es : List Expr} {pos p2 p : Pos} {f f2 : Env → Res TV} {it : Env → Res TVs}
theorem mi_seq (h : MV X J e f) : MI X J tg e (bin1 f kSeq) := ⟨pi_imp (pi_or (pi_list h.pe) (pi_tup h.pe)) fun σ H R ⟨Hse, He, env, Hs, Hr, r, q⟩ => by
  have q : Post J σ Hs Hr H ((f env).bind kSeq) _ := q
  cases hf : f env with
  | bad => rw [hf] at q; exact (show False from q).elim
  | exc c ks vs => exact .inl ⟨Hse, He, env, Hs, Hr, r, by rw [hf] at q ⊢; exact q⟩
  | ok x =>
    rw [hf] at q
    cases hk : kSeq x with
    | bad => rw [Res.bind_ok, hk] at q; exact (show False from q).elim
    | exc c ks vs => exfalso; unfold kSeq at hk; split at hk <;> first | cases hk | (split at hk <;> cases hk)
    | ok y =>
      rw [Res.bind_ok, hk] at q
      obtain ⟨ht, c⟩ := kSeq_cases hk
      rcases c with c | c
      · refine .inl ⟨Hse, He, env, Hs, Hr, r, ?_⟩
        rw [hf]
        intro Hs' Hr' H' x' v rv
        obtain ⟨_, a, vs, rfl, c', rr⟩ := seq_node x'.ok rv hk
        rcases c' with ⟨_, hn⟩ | ⟨c'', _⟩
        · exact ⟨a, rfl, ⟨vs, .inl (.inl (nodeH_le x'.ok _ _ hn))⟩, q Hs' Hr' H' x' _ (enum_seq ht hn rr)⟩
        · rw [c.1] at c''; cases c''
      · refine .inr ⟨Hse, He, env, Hs, Hr, r, ?_⟩
        rw [hf]
        intro Hs' Hr' H' x' v rv
        obtain ⟨_, a, vs, rfl, c', rr⟩ := seq_node x'.ok rv hk
        rcases c' with ⟨c'', _⟩ | ⟨_, hn⟩
        · rw [c.1] at c''; cases c''
        · exact ⟨a, rfl, ⟨vs, .inl (.inl (nodeH_le x'.ok _ _ hn))⟩, q Hs' Hr' H' x' _ (enum_tup ht hn rr)⟩⟩
def rngD (lo : Int) (n : Nat) : List D := (List.range n).map fun i => D.int (lo + (i : Nat))
theorem enum_rng {G : Gx} {Hs0 Hr0 : Hp} {lo : Int} {n : Nat} : Enum G .s Hs0 Hr0 (Itr lo n) (rngD lo n) where
  tg := .inl rfl
  go := fun Hs Hr H i k s1 s2 hi => by
    have : (rngD lo n).length = n := by simp [rngD]
    show i < n
    omega
  stop := fun Hs Hr H k s1 s2 => by
    have : (rngD lo n).length = n := by simp [rngD]
    show n ≤ _
    omega
  yld := fun Hs Hr H i x H' k s1 s2 hi y => by
    have l : (rngD lo n).length = n := by simp [rngD]
    obtain ⟨e, y⟩ := y
    subst y
    refine ⟨.int (lo + i), ?_, .inl ⟨e, .int _⟩⟩
    unfold rngD
    rw [List.getElem?_map, List.getElem?_range (by omega)]
    rfl
def kRng1 (xs : List TV) : Res TVs := match xs with
  | [(_, .int j)] => if -(2 ^ 60) ≤ j ∧ j < 2 ^ 60 then .ok (.s, rngD 0 j.toNat) else .bad
  | _ => .bad
def kRng2 (xs : List TV) : Res TVs := match xs with
  | [(_, .int i), (_, .int j)] => if -(2 ^ 60) ≤ i ∧ i < 2 ^ 60 ∧ -(2 ^ 60) ≤ j ∧ j < 2 ^ 60 then .ok (.s, rngD i (j - i).toNat) else .bad
  | _ => .bad
variable {F : Env → Res (List TV)}
theorem wishI {R : It → Hp → Prop} : Wish (fun (_ : Hp) (x : TVs) (Hs' Hr' H' : Hp) => ∀ Jt, Enum J.toGx x.1 Hs' Hr' Jt x.2 → R Jt H') := fun _ _ _ _ _ _ _ h => h
theorem mi_rng1 (hm : X.mg "range" = none) (ha : MA X J [a] F) (hg : Gl X "range" := by rfl) (hs : starEach [a] X.env = [(false, eval a X.env)] := by rfl) : MI X J tg (.Call (.Name "range" p) [a] [] pos) (thenK F kRng1) :=
  ⟨pi_imp (pi_range1 hg hm ha.pa hs) fun σ H R n => runA (J := J) wishI n fun vs H1 _ _ _ Hs Hr xs _ r rv q => by
    unfold kRng1 at q
    split at q
    · rename_i t j
      obtain ⟨v, rfl, rr⟩ := rv.one
      cases rr.isInt r.ok
      split at q
      · rename_i hj
        exact ⟨j, rfl, by omega, by omega, Post.now r.ok q _ enum_rng⟩
      · exact (show False from q).elim
    · exact (show False from q).elim⟩
theorem mi_rng2 (hm : X.mg "range" = none) (ha : MA X J [a, b] F) (hg : Gl X "range" := by rfl) (hs : starEach [a, b] X.env = [(false, eval a X.env), (false, eval b X.env)] := by rfl) (hs2 : starEach [b] X.env = [(false, eval b X.env)] := by rfl) :
    MI X J tg (.Call (.Name "range" p) [a, b] [] pos) (thenK F kRng2) :=
  ⟨pi_imp (pi_range2 hg hm ha.pa hs hs2) fun σ H R n => runA (J := J) wishI n fun vs H1 _ _ _ Hs Hr xs _ r rv q => by
    unfold kRng2 at q
    split at q
    · rename_i t i u j
      obtain ⟨v, w, rfl, r1, r2⟩ := rv.two
      cases r1.isInt r.ok
      cases r2.isInt r.ok
      split at q
      · rename_i hj
        exact ⟨i, j, rfl, by omega, Post.now r.ok q _ enum_rng⟩
      · exact (show False from q).elim
    · exact (show False from q).elim⟩
/-! reversed -/
def kRevI (x : TV) : Res TVs := (kSeq x).bind fun y => .ok (y.1, y.2.reverse)
theorem getElem?_rev {α : Type} {l : List α} {i : Nat} (h : i < l.length) : l.reverse[i]? = l[l.length - 1 - i]? := by
  rw [List.getElem?_reverse h]
theorem enum_rev {G : Gx} {K : PySem.W.Frag} {t : Tg} {Hs0 Hr0 : Hp} {a : Addr} {vs : List V} {ds : List D} (ht : t = .s ∨ t = .r) (h : nodeH t Hs0 Hr0 a = some (.lst vs)) (r : RepsT G t Hs0 Hr0 Hr0 vs ds) : Enum G t Hs0 Hr0 (Itv K a vs.length) ds.reverse where
  tg := ht
  go := fun Hs Hr H i k s1 s2 hi => by
    have l := (RepsT.mono' (H' := H) ht s1 s2 r).h k |>.length
    have n := nodeH_le (t := t) k _ _ (nodeH_mono s1 s2 _ _ h)
    rw [List.length_reverse] at hi
    have h0 : vs.length - 1 - i < vs.length := by omega
    exact ⟨by omega, vs, vs[vs.length - 1 - i], .inl (.inl n), by simp [h0]⟩
  stop := fun Hs Hr H k s1 s2 => by
    have l := (RepsT.mono' (H' := H) ht s1 s2 r).h k |>.length
    show vs.length ≤ _
    rw [List.length_reverse]
    omega
  yld := fun Hs Hr H i x H' k s1 s2 hi y => by
    have l := (RepsT.mono' (H' := H) ht s1 s2 r).h k |>.length
    have n := nodeH_le (t := t) k _ _ (nodeH_mono s1 s2 _ _ h)
    obtain ⟨e, y⟩ := y
    have z := y vs (.inl (.inl n))
    have r' := RepsT.mono' (H' := H) ht s1 s2 r
    rw [← itT_sr ht] at r'
    obtain ⟨d, h1, h2⟩ := r'.get' z
    rw [itT_sr ht] at h2
    rw [List.length_reverse] at hi
    exact ⟨d, by rw [getElem?_rev hi, ← l]; exact h1, .inl ⟨e, h2⟩⟩
theorem enum_revT {G : Gx} {K : PySem.W.Frag} {t : Tg} {Hs0 Hr0 : Hp} {a : Addr} {vs : List V} {ds : List D} (ht : t = .s ∨ t = .r) (h : nodeH t Hs0 Hr0 a = some (.tup vs)) (r : RepsT G t Hs0 Hr0 Hr0 vs ds) : Enum G t Hs0 Hr0 (RT.ItvT K a vs.length) ds.reverse where
  tg := ht
  go := fun Hs Hr H i k s1 s2 hi => by
    have l := (RepsT.mono' (H' := H) ht s1 s2 r).h k |>.length
    have n := nodeH_le (t := t) k _ _ (nodeH_mono s1 s2 _ _ h)
    rw [List.length_reverse] at hi
    have h0 : vs.length - 1 - i < vs.length := by omega
    exact ⟨by omega, vs, vs[vs.length - 1 - i], .inl (.inl n), by simp [h0]⟩
  stop := fun Hs Hr H k s1 s2 => by
    have l := (RepsT.mono' (H' := H) ht s1 s2 r).h k |>.length
    show vs.length ≤ _
    rw [List.length_reverse]
    omega
  yld := fun Hs Hr H i x H' k s1 s2 hi y => by
    have l := (RepsT.mono' (H' := H) ht s1 s2 r).h k |>.length
    have n := nodeH_le (t := t) k _ _ (nodeH_mono s1 s2 _ _ h)
    obtain ⟨e, y⟩ := y
    have z := y vs (.inl (.inl n))
    have r' := RepsT.mono' (H' := H) ht s1 s2 r
    rw [← itT_sr ht] at r'
    obtain ⟨d, h1, h2⟩ := r'.get' z
    rw [itT_sr ht] at h2
    rw [List.length_reverse] at hi
    exact ⟨d, by rw [getElem?_rev hi, ← l]; exact h1, .inl ⟨e, h2⟩⟩
theorem mi_rev (hm : X.mg "reversed" = none) (h : MV X J e f) (hg : Gl X "reversed" := by rfl) (hs : starEach [e] X.env = (false, eval e X.env) :: starEach [] X.env := by rfl) : MI X J tg (.Call (.Name "reversed" p) [e] [] pos) (bin1 f kRevI) :=
  ⟨pi_imp (RT.pi_revA hg hm h.pe hs) fun σ H R n => run1 (J := J) wishI n fun v H1 _ _ _ Hs Hr x _ r rv q => by
    unfold kRevI at q
    cases hk : kSeq x with
    | bad => rw [hk] at q; exact (show False from q).elim
    | exc c ks vs => exfalso; unfold kSeq at hk; split at hk <;> first | cases hk | (split at hk <;> cases hk)
    | ok y =>
      rw [hk] at q
      obtain ⟨ht, a, vs, rfl, c', rr⟩ := seq_node r.ok rv hk
      rcases c' with ⟨_, hn⟩ | ⟨_, hn⟩
      · exact ⟨a, vs, rfl, .inl ⟨.inl (.inl (nodeH_le r.ok _ _ hn)), Post.now r.ok q _ (enum_rev ht hn rr)⟩⟩
      · exact ⟨a, vs, rfl, .inr ⟨.inl (.inl (nodeH_le r.ok _ _ hn)), Post.now r.ok q _ (enum_revT ht hn rr)⟩⟩⟩

/-! ### for -/
theorem Rel.rebase {Hse He : Hp} {env0 env : Env} {σ0 σ : St} {Hs0 Hr0 H0 Hs Hr H : Hp} (R0 : Rel J Hse He env0 σ0 Hs0 Hr0 H0) (R : Rel J Hs0 Hr0 env σ Hs Hr H) : Rel J Hse He env σ Hs Hr H where
  ok := R.ok
  len := R.len
  slot := R.slot
  dis := R.dis
  se := R0.se.trans R.se
  he := R0.he.trans R.he
  ns := fun a o e => by
    rcases R.ns a o e with h | h
    · exact R0.ns a o h
    · exact .inr (R0.he.free h)
theorem Rel.base {Hse He : Hp} {env : Env} {σ : St} {Hs Hr H : Hp} (R : Rel J Hse He env σ Hs Hr H) : Rel J Hs Hr env σ Hs Hr H := ⟨R.ok, R.len, R.slot, R.dis, Same.refl _, Same.refl _, fun _ _ e => .inl e⟩
theorem Ret.rebase {Hse He Hs0 Hr0 Hs' H' : Hp} (se : Same Hse Hs0) (he : Same He Hr0) (ns : ∀ a o, Hs0 a = some o → Hse a = some o ∨ He a = none) (r : Ret Hs0 Hr0 Hs' H') : Ret Hse He Hs' H' :=
  ⟨se.trans r.s, he.trans r.h, r.sh, r.ti, fun a o e => by
    rcases r.ns a o e with h | h
    · exact ns a o h
    · exact .inr (he.free h)⟩
theorem PostS.rebase {Hse He : Hp} {env0 : Env} {σ0 : St} {Hs0 Hr0 H0 : Hp} {D : Ends} (R0 : Rel J Hse He env0 σ0 Hs0 Hr0 H0) : ∀ {r : SR}, PostS J Hse He D r → PostS J Hs0 Hr0 D r
  | .nx env, p => fun σ Hs Hr H R => p σ Hs Hr H (R0.rebase R)
  | .bk env, p => fun σ Hs Hr H R => p σ Hs Hr H (R0.rebase R)
  | .ct env, p => fun σ Hs Hr H R => p σ Hs Hr H (R0.rebase R)
  | .exc c ks vs env, p => fun cv d σ Hs Hr H R e => p cv d σ Hs Hr H (R0.rebase R) e
  | .bad, p => p
  | .rt e, p => by
    cases e with
    | val t d => cases t <;> exact fun v Hs' H' x r => p v Hs' H' (x.rebase R0.se R0.he R0.ns) r
    | own xs => exact fun q vs Hs' H' x a b c r => p q vs Hs' H' (x.rebase R0.se R0.he R0.ns) a b (R0.he.free c) r
    | ownd ks xs => exact fun q vs Hs' H' x a b c k r => p q vs Hs' H' (x.rebase R0.se R0.he R0.ns) a b (R0.he.free c) k r
    | exn c ks vs => exact p
def forD (g : TV → Env → Option Env) (b : Env → SR) (t : Tg) : List D → Env → SR
  | [], env => .nx env
  | d :: r, env => match g (t, d) env with
    | none => .bad
    | some e1 => match b e1 with
      | .nx e => forD g b t r e
      | .ct e => forD g b t r e
      | .bk e => .nx e
      | x => x
def forS (it : Env → Res TVs) (g : TV → Env → Option Env) (b : Env → SR) : Env → SR := fun env => (it env).st env fun x => forD g b x.1 x.2 env
variable {g : TV → Env → Option Env} {B : Env → SR} {body : List Stmt}
/-- the item, the tuple that is made on the way -/
theorem item_ext {Hse He : Hp} {env : Env} {σ : St} {Hs Hr H H' : Hp} {t : Tg} {x : V} {d : D} (ht : t = .s ∨ t = .r) (R : Rel J Hse He env σ Hs Hr H) (h : (H' = H ∧ RepT J.toGx t Hs Hr H x d) ∨ ∃ p vs es, x = .ref p ∧ H p = none ∧ H' = upd H p (.tup vs) ∧ d = .tup es ∧ RepsT J.toGx t Hs Hr H vs es) :
    ∃ Hs' Hr', Ext Hs Hr H Hs' Hr' H' ∧ RepT J.toGx t Hs' Hr' H' x d := by
  rcases h with ⟨rfl, r⟩ | ⟨p, vs, es, rfl, hp, rfl, rfl, r⟩
  · exact ⟨Hs, Hr, Ext.refl R.ok, r⟩
  · have x := Ext.new (o := .tup vs) R.ok hp
    exact ⟨_, _, x, RepT.mkTup (by rcases ht with rfl | rfl <;> (intro z; cases z)) x.ok upd_same (r.ext x)⟩
theorem ms_for {sl : List Nat} (po : PassesOwn (model X.prog X.w) X.A X.env X.xe) (hc : X.calm = true) (hi : MI X J tg iter it) (hg : MG X J tg sl g) (hb : MSs X J body B) (hs : ∀ x, foldedSetIterable iter X.env x = pure x := by intro _; rfl) :
    MS X J (.For tg iter body [] pos) (forS it g B) := ⟨ps_imp (ps_for po hc hi.pi hg.pg hb.ps hs) fun D σ H ⟨Hse, He, env, Hs, Hr, R, p⟩ => by
  refine ⟨Hse, He, env, Hs, Hr, R, post_st R p fun x Hs0 Hr0 H0 x0 R0 p0 Jt En => ?_⟩
  have p0 := p0.rebase R0
  refine ⟨fun i m σ H => ∃ env Hs Hr, Rel J Hs0 Hr0 env σ Hs Hr H ∧ m = x.2.length - i ∧ i ≤ x.2.length ∧ PostS J Hs0 Hr0 D (forD g B x.1 (x.2.drop i) env), ⟨x.2.length, env, Hs0, Hr0, R0.base, by simp, Nat.zero_le _, p0⟩, ?_⟩
  rintro i m σ1 H1 ⟨env1, Hs1, Hr1, R1, rfl, hi, p1⟩
  by_cases hlt : i < x.2.length
  · refine .inr ⟨En.go Hs1 Hr1 H1 i R1.ok R1.se R1.he hlt, fun σ' H' => ∃ m', m' < x.2.length - i ∧ ∃ env Hs Hr, Rel J Hs0 Hr0 env σ' Hs Hr H' ∧ m' = x.2.length - (i + 1) ∧ i + 1 ≤ x.2.length ∧ PostS J Hs0 Hr0 D (forD g B x.1 (x.2.drop (i + 1)) env), fun σ' H' h => h, fun v H2 y => ?_⟩
    obtain ⟨d, hd, yy⟩ := En.yld Hs1 Hr1 H1 i v H2 R1.ok R1.se R1.he hlt y
    obtain ⟨Hs2, Hr2, x2, rv⟩ := item_ext En.tg R1 yy
    have R2 := R1.ext x2
    refine ⟨Hs0, Hr0, env1, Hs2, Hr2, (x.1, d), R2, rv, ?_⟩
    have ed : x.2.drop i = d :: x.2.drop (i + 1) := by
      have e1 := List.drop_eq_getElem_cons hlt
      rw [e1]
      congr 1
      have := (List.getElem?_eq_some_iff.mp hd).2
      exact this
    rw [ed] at p1
    unfold forD at p1
    cases hg1 : g (x.1, d) env1 with
    | none => rw [hg1] at p1; exact (show False from p1).elim
    | some e1 =>
      rw [hg1] at p1
      dsimp only at p1
      refine fun σ3 R3 _ => ⟨Hs0, Hr0, e1, Hs2, Hr2, R3, ?_⟩
      cases hB : B e1 with
      | nx e => rw [hB] at p1; exact fun σ' Hs Hr H R => ⟨x.2.length - (i + 1), by omega, e, Hs, Hr, R, rfl, by omega, p1⟩
      | ct e => rw [hB] at p1; exact fun σ' Hs Hr H R => ⟨x.2.length - (i + 1), by omega, e, Hs, Hr, R, rfl, by omega, p1⟩
      | bk e => rw [hB] at p1; exact p1
      | rt e => rw [hB] at p1; exact p1
      | exc c ks vs e => rw [hB] at p1; exact p1
      | bad => rw [hB] at p1; exact p1
  · have e : i = x.2.length := by omega
    subst e
    refine .inl ⟨En.stop Hs1 Hr1 H1 R1.ok R1.se R1.he, ?_⟩
    rw [List.drop_length] at p1
    exact p1 σ1 Hs1 Hr1 H1 R1⟩

/-! ### while -/
def whileN (c : Env → Res Bool) (b : Env → SR) : Nat → Env → SR
  | 0, _ => .bad
  | n + 1, env => (c env).st env fun z => if z = true then (match b env with
      | .nx e => whileN c b n e
      | .ct e => whileN c b n e
      | .bk e => .nx e
      | x => x) else .nx env
def SR.isBad : SR → Bool
  | .bad => true
  | _ => false
theorem whileN_more (c : Env → Res Bool) (b : Env → SR) : ∀ (n : Nat) (env : Env), (whileN c b n env).isBad = false → whileN c b (n + 1) env = whileN c b n env
  | 0, env, h => by cases h
  | n + 1, env, h => by
    rw [whileN] at h
    rw [whileN.eq_2 c b env (n + 1), whileN.eq_2 c b env n]
    cases hc : c env with
    | ok z =>
      rw [hc] at h
      cases z with
      | false => rfl
      | true =>
        simp only [Res.st_ok, if_true] at h ⊢
        cases hb : b env with
        | nx e => rw [hb] at h; exact whileN_more c b n e h
        | ct e => rw [hb] at h; exact whileN_more c b n e h
        | _ => rfl
    | _ => rfl
theorem whileN_le (c : Env → Res Bool) (b : Env → SR) {n m : Nat} {env : Env} (h : (whileN c b n env).isBad = false) (l : n ≤ m) : whileN c b m env = whileN c b n env := by
  induction m with
  | zero => rw [Nat.le_zero.mp l]
  | succ m ih =>
    rcases Nat.lt_or_ge n (m + 1) with q | q
    · have e := ih (by omega)
      rw [whileN_more c b m env (by rw [e]; exact h), e]
    · rw [Nat.le_antisymm l q]
open Classical in
noncomputable def whileS (c : Env → Res Bool) (b : Env → SR) : Env → SR := fun env => if h : ∃ n, (whileN c b n env).isBad = false then whileN c b (Classical.choose h) env else .bad
theorem whileS_of {c : Env → Res Bool} {b : Env → SR} {env : Env} {r : SR} (n : Nat) (h : whileN c b n env = r) (hb : r.isBad = false) : whileS c b env = r := by
  have ex : ∃ n, (whileN c b n env).isBad = false := ⟨n, by rw [h]; exact hb⟩
  unfold whileS
  rw [dif_pos ex]
  have q := Classical.choose_spec ex
  rcases Nat.le_total n (Classical.choose ex) with l | l
  · rw [whileN_le c b (by rw [h]; exact hb) l, h]
  · rw [← h, whileN_le c b q l]
theorem whileS_get {c : Env → Res Bool} {b : Env → SR} {env : Env} (h : (whileS c b env).isBad = false) : ∃ n, whileN c b n env = whileS c b env := by
  unfold whileS at h ⊢
  split at h
  · rename_i ex
    rw [dif_pos ex]
    exact ⟨_, rfl⟩
  · cases h
theorem ms_while {ft : Env → Res Bool} (po : PassesOwn (model X.prog X.w) X.A X.env X.xe) (hc : MT X J c ft) (hb : MSs X J body B) : MS X J (.While c body [] pos) (whileS ft B) := ⟨ps_imp (ps_while po hc.pt hb.ps) fun D σ H ⟨Hse, He, env, Hs, Hr, R, p⟩ => by
  have nb : (whileS ft B env).isBad = false := by
    cases q : whileS ft B env with
    | bad => rw [q] at p; exact (show False from p).elim
    | _ => rfl
  obtain ⟨n, hn⟩ := whileS_get nb
  rw [← hn] at p
  refine ⟨fun m σ H => ∃ env Hs Hr, Rel J Hse He env σ Hs Hr H ∧ PostS J Hse He D (whileN ft B m env), ⟨n, env, Hs, Hr, R, p⟩, ?_⟩
  rintro m σ1 H1 ⟨env1, Hs1, Hr1, R1, p1⟩
  cases m with
  | zero => exact (show False from p1).elim
  | succ m =>
    rw [whileN] at p1
    refine ⟨Hse, He, env1, Hs1, Hr1, R1, post_st R1 p1 fun z Hs2 Hr2 H2 x2 R2 p2 => ?_⟩
    show if z = true then _ else _
    cases z with
    | false => exact p2 σ1 Hs2 Hr2 H2 R2
    | true =>
      rw [if_pos rfl] at p2
      rw [if_pos rfl]
      refine ⟨fun σ' H' => ∃ m', m' < m + 1 ∧ ∃ env Hs Hr, Rel J Hse He env σ' Hs Hr H' ∧ PostS J Hse He D (whileN ft B m' env), fun σ' H' h => h, Hse, He, env1, Hs2, Hr2, R2, ?_⟩
      cases hB : B env1 with
      | nx e => rw [hB] at p2; exact fun σ' Hs Hr H R => ⟨m, by omega, e, Hs, Hr, R, p2⟩
      | ct e => rw [hB] at p2; exact fun σ' Hs Hr H R => ⟨m, by omega, e, Hs, Hr, R, p2⟩
      | bk e => rw [hB] at p2; exact p2
      | rt e => rw [hB] at p2; exact p2
      | exc c ks vs e => rw [hB] at p2; exact p2
      | bad => rw [hB] at p2; exact p2⟩
end
end DL

namespace DL
open PySem PySem.Spec PyProof.Rows L2

/-! ### comprehensions -/
/-- within: nothing is let out -/
abbrev Jx.in0 (J : Jx) : Jx := { J with W := fun _ _ _ _ => False }
def wipeE (env : Env) : List Nat → Env
  | [] => env
  | v :: vs => (wipeE env vs).set v none
def lcD (g : TV → Env → Option Env) (c : Env → Res Bool) (el : Env → Res TV) (t : Tg) (env0 : Env) : List D → Res (List D)
  | [] => .ok []
  | d :: r => match g (t, d) env0 with
    | none => .bad
    | some e1 => match c e1 with
      | .ok true => match el e1 with
        | .ok x => if shV x = true then (match lcD g c el t env0 r with | .ok l => .ok (x.2 :: l) | _ => .bad) else .bad
        | _ => .bad
      | .ok false => lcD g c el t env0 r
      | _ => .bad
def lcK (g : TV → Env → Option Env) (c : Env → Res Bool) (el : Env → Res TV) (env0 : Env) (x : TVs) : Res EV := match lcD g c el x.1 env0 x.2 with
  | .ok l => if l.length ≤ 16777216 then .ok (.own l) else .bad
  | _ => .bad
def lcS (it : Env → Res TVs) (own : List Nat) (g : TV → Env → Option Env) (c : Env → Res Bool) (el : Env → Res TV) : Env → Res EV := fun env => (it env).bind (lcK g c el (wipeE env own))
def yes : Env → Res Bool := fun _ => .ok true
structure MTs (X : Cx) (J : Jx) (ifs : List Expr) (c : Env → Res Bool) : Prop where
  pt : PTs X ifs (tT J c)
theorem pts_imp {X : Cx} {e : List Expr} {t t' : TT} (h : PTs X e t) (i : ∀ σ H Q, t' σ H Q → t σ H Q) : PTs X e t' := ⟨fun pins s σ H Q I q => h.run pins s σ H Q I (i σ H Q q)⟩
section
variable {X : Cx} {J : Jx} {tg iter elt : Expr} {it : Env → Res TVs} {g : TV → Env → Option Env} {c : Env → Res Bool} {el : Env → Res TV}
theorem mts_nil : MTs X J [] yes := ⟨pts_imp pts_nil fun σ H Q ⟨_, _, _, _, _, R, p⟩ => Post.now (a := true) R.ok p⟩
theorem mts_one {e : Expr} (h : MT X J e c) : MTs X J [e] c := ⟨pts_one h.pt⟩
theorem wipeE_len (env : Env) : ∀ vs : List Nat, (wipeE env vs).length = env.length
  | [] => rfl
  | v :: vs => by unfold wipeE; rw [List.length_set, wipeE_len env vs]
theorem wipeE_some {env : Env} {i : Nat} {x : EV} : ∀ {vs : List Nat}, (wipeE env vs)[i]? = some (some x) → env[i]? = some (some x) ∧ i ∉ vs
  | [], h => ⟨h, by simp⟩
  | v :: vs, h => by
    unfold wipeE at h
    rcases getElem?_set_some h with ⟨rfl, h1, _⟩ | ⟨h1, h2⟩
    · cases h1
    · obtain ⟨a, b⟩ := wipeE_some h2
      exact ⟨a, by simp only [List.mem_cons, not_or]; exact ⟨h1, b⟩⟩
theorem wipe_get {σ : St} {i : Nat} : ∀ {vs : List Nat}, i ∉ vs → (wipe σ vs)[i]? = σ[i]?
  | [], _ => rfl
  | v :: vs, h => by
    simp only [List.mem_cons, not_or] at h
    unfold wipe
    rw [List.getElem?_set_ne (Ne.symm h.1)]
    exact wipe_get h.2
theorem SlotOk.in0 {Hs Hr H : Hp} {sv : Option (Option V)} : ∀ {e : EV}, SlotOk J Hs Hr H sv e → SlotOk J.in0 Hs Hr H sv e
  | .val .s d, h => h
  | .val .r d, h => h
  | .val .h d, h => h
  | .val .o d, h => h
  | .own xs, h => h
  | .ownd ks xs, h => h
  | .exn c ks vs, h => h
theorem Rel.wipe {Hse He : Hp} {env : Env} {σ : St} {Hs Hr H : Hp} (R : Rel J Hse He env σ Hs Hr H) (vs : List Nat) : Rel J.in0 Hs Hr (wipeE env vs) (wipe σ vs) Hs Hr H where
  ok := R.ok
  len := by rw [wipeE_len, wipe_length]; exact R.len
  slot := fun i e h => by
    obtain ⟨a, b⟩ := wipeE_some h
    rw [wipe_get b]
    exact (R.slot i e a).in0
  dis := fun i j p n ha hb => by
    obtain ⟨ea, a1, a2, a3⟩ := ha
    obtain ⟨eb, b1, b2, b3⟩ := hb
    obtain ⟨x1, y1⟩ := wipeE_some a1
    obtain ⟨x2, y2⟩ := wipeE_some b1
    rw [wipe_get y1] at a3
    rw [wipe_get y2] at b3
    exact R.dis i j p n ⟨ea, x1, a2, a3⟩ ⟨eb, x2, b2, b3⟩
  se := Same.refl _
  he := Same.refl _
  ns := fun _ _ e => .inl e
theorem beside_wipe {σ σ' : St} {sl vs : List Nat} (b : Beside sl (L2.wipe σ vs) σ') (h : ∀ j ∈ sl, j ∈ vs) : L2.wipe σ' vs = L2.wipe σ vs := by
  apply List.ext_getElem?
  intro i
  by_cases hi : i ∈ vs
  · have f : ∀ (ρ : St) (ws : List Nat), i ∈ ws → i < ρ.length → (L2.wipe ρ ws)[i]? = some none := by
      intro ρ ws
      induction ws with
      | nil => exact fun h => absurd h (by simp)
      | cons v ws ih =>
        intro hm hl
        show ((L2.wipe ρ ws).set v none)[i]? = _
        by_cases e : v = i
        · subst e; rw [List.getElem?_set_self (by rw [wipe_length]; exact hl)]
        · rw [List.getElem?_set_ne e]
          exact ih ((List.mem_cons.mp hm).resolve_left fun z => e z.symm) hl
    by_cases hl : i < σ.length
    · rw [f σ vs hi hl, f σ' vs hi (by rw [b.1, wipe_length]; exact hl)]
    · rw [List.getElem?_eq_none (by rw [wipe_length, b.1, wipe_length]; omega), List.getElem?_eq_none (by rw [wipe_length]; omega)]
  · rw [wipe_get hi, b.2 i fun z => hi (h i z), wipe_get hi]
/-- the reading of a comprehension -/
theorem run_lc {sl own : List Nat} (hsl : ∀ j ∈ sl, j ∈ own) {σ : St} {H : Hp} {Q : VK} (n : tE J (lcS it own g c el) σ H Q) :
    tLc (iI J it) (tG J.in0 sl g) (tT J.in0 c) (tV J.in0 el) own σ H Q := by
  obtain ⟨Hse, He, env, Hs, Hr, R, p⟩ := n
  refine ⟨Hse, He, env, Hs, Hr, R, (Post.bind p).imp fun x Hs1 Hr1 H1 e1 p1 Jt En D hD => ?_⟩
  have R1 := (R.ext e1).wipe own
  unfold lcK at p1
  cases hl : lcD g c el x.1 (wipeE env own) x.2 with
  | bad => rw [hl] at p1; exact (show False from p1).elim
  | exc _ _ _ => rw [hl] at p1; exact (show False from p1).elim
  | ok whole =>
    rw [hl] at p1
    dsimp only at p1
    split at p1
    · rename_i hlim
      have x0 := Ext.new0 (o := .lst []) e1.ok hD fun xs z => by cases z
      refine ⟨fun i m H2 => ∃ Hs2 Hr2 acc accV rest, Ext Hs1 Hr1 H1 Hs2 Hr2 H2 ∧ H2 D = some (.lst accV) ∧ Hr2 D = none ∧ Reps J.toGx Hs2 accV acc ∧ m = x.2.length - i ∧ i ≤ x.2.length ∧ lcD g c el x.1 (wipeE env own) (x.2.drop i) = .ok rest ∧ whole = acc ++ rest,
        ⟨x.2.length, Hs1, Hr1, [], [], whole, x0, upd_same, e1.ok.none_r hD, .nil, by simp, Nat.zero_le _, hl, rfl⟩, ?_⟩
      rintro i m H2 ⟨Hs2, Hr2, acc, accV, rest, e2, hD2, hDr, racc, rfl, hi, hr, hw⟩
      have R2 : Rel J.in0 Hs1 Hr1 (wipeE env own) (wipe σ own) Hs2 Hr2 H2 := R1.ext e2
      by_cases hlt : i < x.2.length
      · refine .inr ⟨En.go Hs2 Hr2 H2 i e2.ok e2.s e2.r hlt, fun H' => ∃ m', m' < x.2.length - i ∧ ∃ Hs2 Hr2 acc accV rest, Ext Hs1 Hr1 H1 Hs2 Hr2 H' ∧ H' D = some (.lst accV) ∧ Hr2 D = none ∧ Reps J.toGx Hs2 accV acc ∧ m' = x.2.length - (i + 1) ∧ i + 1 ≤ x.2.length ∧ lcD g c el x.1 (wipeE env own) (x.2.drop (i + 1)) = .ok rest ∧ whole = acc ++ rest, fun H' h => h, fun v H3 y => ?_⟩
        obtain ⟨d, hd, yy⟩ := En.yld Hs2 Hr2 H2 i v H3 e2.ok e2.s e2.r hlt y
        obtain ⟨Hs3, Hr3, e3, rv⟩ := item_ext (J := J.in0) En.tg R2 yy
        have R3 := R2.ext e3
        have ed : x.2.drop i = d :: x.2.drop (i + 1) := by
          have e1 := List.drop_eq_getElem_cons hlt
          rw [e1]
          congr 1
          exact (List.getElem?_eq_some_iff.mp hd).2
        rw [ed, lcD] at hr
        refine ⟨Hs1, Hr1, wipeE env own, Hs3, Hr3, (x.1, d), R3, rv, ?_⟩
        cases hg : g (x.1, d) (wipeE env own) with
        | none => rw [hg] at hr; cases hr
        | some en =>
          rw [hg] at hr
          dsimp only at hr ⊢
          refine fun σ4 R4 bs => ⟨beside_wipe bs hsl, Hs1, Hr1, en, Hs3, Hr3, R4, ?_⟩
          cases hc : c en with
          | exc _ _ _ => rw [hc] at hr; cases hr
          | bad => rw [hc] at hr; cases hr
          | ok b =>
            rw [hc] at hr
            intro Hs5 Hr5 H5 e5
            have e25 := (e2.trans e3).trans e5
            have hD5 : H5 D = some (.lst accV) := e5.h _ _ (e3.h _ _ hD2)
            have hDr3 : Hr3 D = none := e3.still hD2 hDr
            have hDr5 : Hr5 D = none := e5.still (e3.h _ _ hD2) hDr3
            show if b = true then _ else _
            cases b with
            | false =>
              dsimp only at hr
              exact ⟨x.2.length - (i + 1), by omega, Hs5, Hr5, acc, accV, rest, e25, hD5, hDr5, racc.mono (e3.s.trans e5.s), rfl, by omega, hr, hw⟩
            | true =>
              dsimp only at hr
              rw [if_pos rfl]
              refine ⟨Hs1, Hr1, en, Hs5, Hr5, R4.ext e5, ?_⟩
              cases he : el en with
              | exc _ _ _ => rw [he] at hr; cases hr
              | bad => rw [he] at hr; cases hr
              | ok z =>
                rw [he] at hr
                intro Hs6 Hr6 H6 e6 w rw'
                dsimp only at hr
                split at hr
                · rename_i hsh
                  have hD6 : H6 D = some (.lst accV) := e6.h _ _ hD5
                  have hDr6 : Hr6 D = none := e6.still hD5 hDr5
                  cases hr2 : lcD g c el x.1 (wipeE env own) (x.2.drop (i + 1)) with
                  | exc _ _ _ => rw [hr2] at hr; cases hr
                  | bad => rw [hr2] at hr; cases hr
                  | ok l =>
                    rw [hr2] at hr
                    cases hr
                    have lw : whole.length = acc.length + (l.length + 1) := by rw [hw, List.length_append, List.length_cons]
                    have e16 := e25.trans e6
                    refine ⟨accV, hD6, by rw [sizeLine_eq, racc.length]; omega, x.2.length - (i + 1), by omega, Hs6, Hr6, acc ++ [z.2], accV ++ [w], l, ?_, upd_same, hDr6, ?_, rfl, by omega, rfl, by rw [hw]; simp⟩
                    · refine ⟨e16.s, e16.r, Same.upd e16.h hD, ⟨e16.ok.sr, Same.upd e16.ok.rh hDr6, fun a xs h => ?_⟩, e16.ns, e16.nr⟩
                      by_cases q : a = D
                      · subst q; rw [upd_same] at h; cases h
                      · rw [upd_ne q] at h; exact e16.ok.ti a xs h
                    · exact ((racc.mono (e3.s.trans e5.s)).mono e6.s).append (.cons (rw'.shV e6.ok hsh) .nil)
                · cases hr
      · have e : i = x.2.length := by omega
        subst e
        refine .inl ⟨En.stop Hs2 Hr2 H2 e2.ok e2.s e2.r, ?_⟩
        rw [List.drop_length, lcD] at hr
        cases hr
        rw [List.append_nil] at hw
        subst hw
        exact p1 Hs2 Hr2 H2 e2 D accV hD2 hDr (e1.h.free hD) racc
    · exact (show False from p1).elim
theorem me_lc {scope : Scope} {own : List (Str × Nat)} {ifs : List Expr} {pos : Pos} {sl : List Nat} (hc : X.calm = true) (nd : X.N.Nodup) (hi : MI X J tg iter it) (ok : BlkOk X.N X.env.scope scope own) (hsl : ∀ j ∈ sl, j ∈ own.map (·.2))
    (hg : ∀ (s : Shared) (H : Hp) (C : Addr) (cl : List (Str × Addr)) (fp : List Addr), MG (X.blk s H scope (compEnvC scope cl C X.env) fp) J.in0 tg sl g)
    (ht : ∀ (s : Shared) (H : Hp) (C : Addr) (cl : List (Str × Addr)) (fp : List Addr), MTs (X.blk s H scope (compEnvC scope cl C X.env) fp) J.in0 ifs c)
    (he : ∀ (s : Shared) (H : Hp) (C : Addr) (cl : List (Str × Addr)) (fp : List Addr), MV (X.blk s H scope (compEnvC scope cl C X.env) fp) J.in0 elt el) (hs : ∀ x, foldedSetIterable iter X.env x = pure x := by intro _; rfl) :
    ME X J (.ListComp elt [⟨tg, iter, ifs, 0⟩] scope pos) (lcS it (own.map (·.2)) g c el) :=
  ⟨pe_imp (pe_lc hc nd hi.pi ok (fun s H C cl fp => (hg s H C cl fp).pg) (fun s H C cl fp => (ht s H C cl fp).pt) (fun s H C cl fp => (he s H C cl fp).pe) hs) fun σ H Q n => run_lc hsl n⟩
theorem ms_setLc (i : Nat) {y : Str} {py : Pos} {scope : Scope} {own : List (Str × Nat)} {ifs : List Expr} {pos spos : Pos} {sl : List Nat} (hc : X.calm = true) (nd : X.N.Nodup) (hi : MI X J tg iter it) (ok : BlkOk X.N X.env.scope scope own) (hsl : ∀ j ∈ sl, j ∈ own.map (·.2))
    (hg : ∀ (s : Shared) (H : Hp) (C : Addr) (cl : List (Str × Addr)) (fp : List Addr), MG (X.blk s H scope (compEnvC scope cl C X.env) fp) J.in0 tg sl g)
    (ht : ∀ (s : Shared) (H : Hp) (C : Addr) (cl : List (Str × Addr)) (fp : List Addr), MTs (X.blk s H scope (compEnvC scope cl C X.env) fp) J.in0 ifs c)
    (he : ∀ (s : Shared) (H : Hp) (C : Addr) (cl : List (Str × Addr)) (fp : List Addr), MV (X.blk s H scope (compEnvC scope cl C X.env) fp) J.in0 elt el)
    (hy : X.N[i]? = some y := by rfl) (hyl : X.env.scope.names.lookup y = some .local := by rfl)
    (hsw : swapsWith (.ListComp elt [⟨tg, iter, ifs, 0⟩] scope pos) (some (.Name y py)) spos.line X.env = pure true := by exact sw_true rfl rfl rfl (by decide +kernel)) (hs : ∀ x, foldedSetIterable iter X.env x = pure x := by intro _; rfl) :
    MS X J (.Assign [.Name y py] (.ListComp elt [⟨tg, iter, ifs, 0⟩] scope pos) spos) (setS i (lcS it (own.map (·.2)) g c el)) :=
  ⟨ps_imp (ps_setLc hc nd hy hyl hsw hi.pi ok (fun s H C cl fp => (hg s H C cl fp).pg) (fun s H C cl fp => (ht s H C cl fp).pt) (fun s H C cl fp => (he s H C cl fp).pe) hs) fun D σ H ⟨Hse, He, env, Hs, Hr, R, p⟩ => run_lc hsl ⟨Hse, He, env, Hs, Hr, R, post_put R p⟩⟩
theorem good_blk {n : Nat} (gd : Good X J n) {s : Shared} {H : Hp} {scope : Scope} {fp : List Addr} {cenv' : PySem.Env} : Good (X.blk s H scope cenv' fp) J.in0 n where
  K := gd.K
  nd := gd.nd
  hu := gd.hu
  tk := takes0
  room := gd.room
  calm := gd.calm
  po := PassesOwn.never
end

/-! ### dicts as they are written -/
section
variable {X : Cx} {J : Jx} {a b : Expr} {pos : Pos} {f f2 : Env → Res TV}
def dict0 : Env → Res EV := fun _ => .ok (.ownd [] [])
theorem me_dict0 : ME X J (.Dict [] [] pos) dict0 := ⟨pe_imp pe_dnewK fun σ H Q ⟨Hse, He, env, Hs, Hr, R, p⟩ q hq =>
  p _ _ _ (Ext.new0 (o := .dK []) R.ok hq fun xs z => by cases z) q [] upd_same (R.ok.none_r hq) hq rfl .nil⟩
def keyOf : D → Option Key
  | .int i => some (.inl i)
  | .str x => some (.inr x)
  | _ => none
theorem key_rep {G : Gx} {H : Hp} {v : V} {d : D} {k : Key} (r : Rep G H v d) (h : keyOf d = some k) : v = kV k := by
  cases r <;> first | (cases h; done) | (cases h; rfl)
def kDict1 (x y : TV) : Res EV := match keyOf x.2 with
  | some k => if shV y = true then .ok (.ownd [k] [y.2]) else .bad
  | none => .bad
theorem me_dict1 (ha : MV X J a f) (hb : MV X J b f2) : ME X J (.Dict [some a] [b] pos) (bin2 f f2 kDict1) := ⟨pe_imp (pe_disp (pps_cons ha.pe hb.pe pps_nil) (by rfl) (by rfl) (fun z => by cases z) (by simp)) fun σ H Q ⟨Hse, He, env, Hs, Hr, R, p⟩ q hq => by
  have x0 := Ext.new0 (o := .dK []) R.ok hq fun xs z => by cases z
  have R0 := R.ext x0
  have p : Post J σ Hs Hr H ((f env).bind fun x => (f2 env).bind fun y => kDict1 x y) (SE J H Q) := p
  refine ⟨Hse, He, env, Hs, Hr, R0, ?_⟩
  cases hf : f env with
  | bad => rw [hf] at p; exact p
  | exc c ks vs => rw [hf] at p; exact fun cv d Hs' Hr' H' x e => p cv d Hs' Hr' H' (x0.trans x) e
  | ok x =>
    rw [hf, Res.bind_ok] at p
    refine fun Hs1 Hr1 H1 e1 v rv => ⟨Hse, He, env, Hs1, Hr1, R0.ext e1, ?_⟩
    cases hf2 : f2 env with
    | bad => rw [hf2] at p; exact p
    | exc c ks vs => rw [hf2] at p; exact fun cv d Hs' Hr' H' x e => p cv d Hs' Hr' H' ((x0.trans e1).trans x) e
    | ok y =>
      rw [hf2, Res.bind_ok] at p
      refine fun Hs2 Hr2 H2 e2 w rw' => ?_
      have hq2 : H2 q = some (.dK []) := e2.h _ _ (e1.h _ _ upd_same)
      have hr2 : Hr2 q = none := e2.still (e1.h _ _ upd_same) (e1.still upd_same (R.ok.none_r hq))
      show H2 q = some (.dK []) ∧ _
      refine ⟨hq2, ?_⟩
      unfold kDict1 at p
      cases hk : keyOf x.2 with
      | none => rw [hk] at p; exact (show False from p).elim
      | some k =>
        rw [hk] at p
        dsimp only at p
        split at p
        · rename_i hsh
          have ev := key_rep ((rv.ext e2).h e2.ok) hk
          subst ev
          refine ⟨[(k, w)], rfl, by simp, ?_⟩
          have e02 := (x0.trans e1).trans e2
          refine p Hs2 Hr2 (upd H2 q (.dK (mergeK [] [(k, w)]))) ?_ q _ upd_same hr2 hq rfl (.cons (rw'.shV e2.ok hsh) .nil)
          refine ⟨e02.s, e02.r, Same.upd e02.h hq, ⟨e02.ok.sr, Same.upd e02.ok.rh hr2, fun a xs h => ?_⟩, e02.ns, e02.nr⟩
          by_cases z : a = q
          · subst z; rw [upd_same] at h; cases h
          · rw [upd_ne z] at h; exact e02.ok.ti a xs h
        · exact (show False from p).elim⟩
end

/-! ### defs -/
/-- a def at an address as a function of data -/
structure FnA (P : Program) (w : World) (G : Gx) (mg : Str → Option Value) (base : Heap) (f : Addr) (n ar : Nat) (F : List EV → Res EV) : Prop where
  ok : ∃ fd ps, Binds G.K fd ps [] ∧ FnOk P w G.K mg base (L2.CX P w) n f fd ps (SpD G ar F)
theorem FnA.d {P : Program} {w : World} {G : Gx} {mg : Str → Option Value} {base : Heap} {f : Addr} {n ar : Nat} {F : List EV → Res EV} (h : FnA P w G mg base f n ar F) {x : Str} (hm : mg x = some (.ref f)) (hk : PySem.W.keepIn G.K (.ref f) = true) : FnD P w G mg base x n ar F := by
  obtain ⟨fd, ps, b, k⟩ := h.ok
  exact ⟨f, fd, ps, hm, hk, b, k⟩
def outD : SR → Res EV
  | .nx _ => .ok (.val .s .non)
  | .rt e => .ok e
  | .exc c ks vs _ => .exc c ks vs
  | _ => .bad
def runD (nN : Nat) (FB : Env → SR) (args : List EV) : Res EV := outD (FB (args.map some ++ List.replicate (nN - args.length) none))
abbrev Gx.j (G : Gx) (E : XK) : Jx := { G with W := fun cls d _ H => E cls d H, xa := none }
theorem argsOk_get {G : Gx} {Hs H : Hp} : ∀ {args : List EV} {vs : List V} {i : Nat} {e : EV}, ArgsOk G Hs H vs args → args[i]? = some e → ∃ v, vs[i]? = some v ∧ ArgOk G Hs H v e
  | [], _, i, e, _, h => by simp at h
  | x :: r, _, 0, e, ⟨v, w, q, a, b⟩, h => by subst q; simp at h; subst h; exact ⟨v, rfl, a⟩
  | x :: r, _, i + 1, e, ⟨v, w, q, a, b⟩, h => by
    subst q
    obtain ⟨u, h1, h2⟩ := argsOk_get b (i := i) (by simpa using h)
    exact ⟨u, by simpa using h1, h2⟩
theorem start_get {α : Type} {xs : List α} {n i : Nat} {e : α} (h : (xs.map some ++ List.replicate n none)[i]? = some (some e)) : xs[i]? = some e := by
  by_cases hi : i < xs.length
  · rw [List.getElem?_append_left (by simpa using hi)] at h
    simpa using h
  · rw [List.getElem?_append_right (by simpa using hi)] at h
    rw [List.getElem?_replicate] at h
    split at h <;> cases h
theorem post_out {J : Jx} {Hs H : Hp} {Q : VK} {E : XK} (hW : J.W = fun cls d _ H => E cls d H) : ∀ {r : SR}, PostR J.toGx Hs H (outD r) Q E → PostS J Hs H { nx := fun _ H' => Q .non H', rt := Q } r
  | .nx env, p => fun σ Hs' Hr' H' R => p _ Hs' H' R.ret .non
  | .rt e, p => by
    cases e with
    | val t d => cases t <;> exact p
    | own xs => exact p
    | ownd ks xs => exact p
    | exn c ks vs => exact p
  | .exc c ks vs env, p => fun cv d σ Hs' Hr' H' R e => by rw [hW]; exact p cv d Hs' H' R.ret e
  | .bk env, p => p.elim
  | .ct env, p => p.elim
  | .bad, p => p.elim
theorem start_rel {G : Gx} {N ps : List Str} {FB : Env → SR} {Hs H : Hp} {vs : List V} {args : List EV} {Q : VK} {E : XK} (k : HpOk Hs H H) (l : args.length = ps.length) (a : ArgsOk G Hs H vs args) (p : PostR G Hs H (runD N.length FB args) Q E) :
    tS (G.j E) FB { nx := fun _ H' => Q .non H', rt := Q } (L2.start N vs) H := by
  refine ⟨Hs, H, args.map some ++ List.replicate (N.length - args.length) none, Hs, H, ⟨k, ?_, fun i e he => ?_, fun i j q ne ha hb => ?_, Same.refl _, Same.refl _, fun _ _ e => .inl e⟩, post_out rfl p⟩
  · unfold L2.start
    simp [argsOk_len a]
  · obtain ⟨v, h1, h2⟩ := argsOk_get a (start_get he)
    have hs : (L2.start N vs)[i]? = some (some v) := by
      unfold L2.start
      have hi : i < vs.length := (List.getElem?_eq_some_iff.mp h1).1
      rw [List.getElem?_append_left (by simpa using hi)]
      simp [h1]
    rw [hs]
    cases e with
    | val t d => cases t <;> first | exact ⟨v, rfl, h2⟩ | exact h2.elim
    | _ => exact h2.elim
  · obtain ⟨e, h1, h2, h3⟩ := ha
    obtain ⟨v, g1, g2⟩ := argsOk_get a (start_get h1)
    cases e with
    | val t d => cases h2
    | _ => exact g2.elim
/-- THE RULE for a def: its body as a function of the data environment -/
theorem fn_ok {P : Program} {w : World} {G : Gx} {mg : Str → Option Value} {base : Heap} {x qual : Str} {st : Stmt} {f : Addr} {fd : FuncData} {N ps : List Str} {n : Nat} {FB : Env → SR} (F : L2.Fun G.K x qual st f fd) (S : FnScope N ps (defScope st))
    (hb : ∀ (cdv : Value) (A : Around) (outer : List PySem.Env) (s : Shared) (H : Hp) (E : XK), Good (cxOf (L2.CX P w) P w G.K mg base N qual (defScope st) f cdv A outer s H E) (G.j E) n →
      MSs (cxOf (L2.CX P w) P w G.K mg base N qual (defScope st) f cdv A outer s H E) (G.j E) (defBody st) FB) : FnOk P w G.K mg base (L2.CX P w) (n + 1) f fd ps (SpD G ps.length (runD N.length FB)) := by
  refine F.okX S (fun vs H Q E h => ?_) (fun cdv A outer s H vs Q E hr h => ⟨tS (G.j E) FB, (hb cdv A outer s H E ?_).ps, ?_⟩)
  · obtain ⟨args, Hs, k, l, a, p⟩ := h
    rw [argsOk_len a, l]
  · exact { K := rfl, nd := S.nd, hu := by have := hr.un; show A.units + 3 + 65 < _; (have h2 : (A.deeper (envOfC qual (defScope st) s.heap.objs.size f cdv)).units = A.units + 3 := rfl); omega, tk := takes_of rfl rfl rfl rfl, room := hr, calm := rfl, po := passes_of rfl }
  · obtain ⟨args, Hs, k, l, a, p⟩ := h
    exact start_rel k l a p
theorem fn_def {P : Program} {w : World} {G : Gx} {mg : Str → Option Value} {base : Heap} {x qual : Str} {st : Stmt} {f : Addr} {fd : FuncData} {N ps : List Str} {n : Nat} {FB : Env → SR} (F : L2.Fun G.K x qual st f fd) (S : FnScope N ps (defScope st)) (b : Binds G.K fd ps [])
    (hb : ∀ (cdv : Value) (A : Around) (outer : List PySem.Env) (s : Shared) (H : Hp) (E : XK), Good (cxOf (L2.CX P w) P w G.K mg base N qual (defScope st) f cdv A outer s H E) (G.j E) n →
      MSs (cxOf (L2.CX P w) P w G.K mg base N qual (defScope st) f cdv A outer s H E) (G.j E) (defBody st) FB) : FnA P w G mg base f (n + 1) ps.length (runD N.length FB) :=
  ⟨fd, ps, b, fn_ok F S hb⟩
/-- the law's own promise -/
def SpLaw (K : PySem.W.Frag) : Sp := fun vs H Q _ => ∃ (a : Addr) (ns : List Int), vs = [.ref a] ∧ SqL K H a (ns.map V.int) ∧ ns.length ≤ 63 ∧ ∀ H', Q (.bl true) H'
theorem law_ok {P : Program} {w : World} {G : Gx} {mg : Str → Option Value} {base : Heap} {f : Addr} {fd : FuncData} {ps : List Str} {n : Nat} {F : List EV → Res EV} (h : FnOk P w G.K mg base (L2.CX P w) n f fd ps (SpD G 1 F))
    (hF : ∀ ns : List Int, ns.length ≤ 63 → ∃ t, F [.val .s (.scr ns)] = .ok (.val t (.bl true))) : FnOk P w G.K mg base (L2.CX P w) n f fd ps (SpLaw G.K) :=
  h.imp fun vs H Q E ⟨a, ns, e, hs, hl, q⟩ => by
    subst e
    -- tuples that stand are none but those tracked: all of H is shared
    refine ⟨[.val .s (.scr ns)], H, ⟨Same.refl _, Same.refl _, fun _ _ e => e⟩, rfl, ⟨_, _, rfl, .scr hs, rfl⟩, ?_⟩
    obtain ⟨t, ht⟩ := hF ns hl
    rw [ht]
    cases t with
    | s => exact fun v Hs' H' x r => by cases r; exact q H'
    | _ => exact fun v Hs' H' x r => by cases r; exact q H'
theorem cx_no {P : Program} {w : World} (H : Hp) (s : Shared) (e : Value) (s' : Shared) (h : L2.CX P w [] H s (fun _ _ _ => False) e s') : False := by
  obtain ⟨_, _, _, _, _, _, _, _, _, _, _, _, z⟩ := h
  exact z
theorem walk_law {l : PySem.W.OpenLaw} {k : Nat} {q : Program} {loose : List Str} {XP : (Str → Option Value) → Heap → Prop} {YP : World → Heap → Prop} {d : DefRec} {K : Params → PySem.W.Frag} {x : Str}
    (hn : l.most = some 63) (hdf : d.params.defaults = []) (hr : Room k callerA) (hY : ∀ (w : World) (h : Heap), YP w h → (K w.params).In h)
    (F : ∀ (w : World) (mg : Str → Option Value) (fa : Addr) (h : Heap), (K w.params).In h → h.Ns mainGlobals mg → mg d.name = some (.ref fa) →
      ∃ fd : FuncData, (∀ (s : Shared) (u : Value), BindsTo s fd ⟨[u], []⟩ [(x, u)]) ∧
        ∀ base : Heap, (K w.params).In base → base.Ns mainGlobals mg → FnOk l.prog w (K w.params) mg base (L2.CX l.prog w) k fa fd [x] (SpLaw (K w.params))) :
    PySem.W.WalkO q loose XP YP l.row.toRowW d [] (fun f vs => PySem.call f vs) :=
  L2.walk_of (n := 63) (K := K) (CX := fun w => L2.CX l.prog w) (sp := fun w => SpLaw (K w.params)) hn (by decide) hdf hr hY F (fun _ _ a ns hl _ hS => ⟨a, ns, rfl, hS, hl, fun _ => rfl⟩) fun w H s e s' => cx_no H s e s'
end DL

namespace DL
open PySem PySem.Spec PyProof.Rows L2

/-! ### zip of two, each a list or a tuple -/
def SqK (k : Bool) (K : PySem.W.Frag) (H : Hp) (a : Addr) (xs : List V) : Prop := match k with
  | true => SqT K H a xs
  | false => SqL K H a xs
def AtK (k : Bool) (h : Heap) (i a : Addr) (n : Nat) : Prop := match k with
  | true => h.IsTupleIter i a n
  | false => h.IsListIter i a n
def IsK (k : Bool) (h : Heap) (a : Addr) (its : Array Value) : Prop := match k with
  | true => h.IsTuple a its
  | false => h.IsList a its
theorem AtK.obj {k : Bool} {h : Heap} {i a : Addr} {n : Nat} (q : AtK k h i a n) : ∃ o, h.get? i = some o ∧ ∀ v, o.data ≠ .cell v := by
  cases k with
  | true => obtain ⟨o, e, _, d⟩ := q; exact ⟨o, e, fun v z => by rw [d] at z; cases z⟩
  | false => obtain ⟨o, e, _, d⟩ := q; exact ⟨o, e, fun v z => by rw [d] at z; cases z⟩
theorem AtK.at {k : Bool} {h h' : Heap} {i a : Addr} {n : Nat} (q : AtK k h i a n) (e : ∀ o, h.get? i = some o → h'.get? i = some o) : AtK k h' i a n := by
  cases k with
  | true => exact Heap.IsTupleIter.at q e
  | false => exact Heap.IsListIter.at q e
theorem drawsK {prog : Program} {w : World} {A : Around} (hh : A.handled = none) (k : Bool) (i a : Addr) (ne : a ≠ i) (its : Array Value) :
    Draws prog w A i [i, a] its.size (fun j v => its[j]? = some v) (fun j h => AtK k h i a j ∧ IsK k h a its) := by
  cases k with
  | true => exact Draws.tuple hh i a ne its
  | false => exact Draws.list hh i a ne its
section
variable {X : Cx} {pins : List (Addr × Obj)} {σ : L2.St} {H : Hp} {s : Shared} {a : Addr} {xs ys : List V}
theorem inv_sq {k : Bool} (I : Inv X pins σ H s) (q : SqK k X.K H a xs) : ∃ its : List Value, Vals xs its ∧ IsK k s.heap a its.toArray ∧ a < s.heap.objs.size := by
  cases k with
  | true =>
    obtain ⟨its, r, p, _⟩ := I.tuple q
    obtain ⟨o, e, _⟩ := id p
    exact ⟨its, r, p, Heap.lt_size e⟩
  | false =>
    obtain ⟨its, r, p, _⟩ := I.list q
    exact ⟨its, r, p.isList, p.lt⟩
theorem sq_inj {k : Bool} (I : Inv X pins σ H s) (q : SqK k X.K H a xs) (q' : SqK k X.K H a ys) : xs = ys := by
  cases k with
  | true => exact I.tuple_inj q q'
  | false => exact I.list_inj q q'
end
/-- what a round of it yields -/
def ItZ (k l : Bool) (K : PySem.W.Frag) (a b : Addr) : It :=
  ⟨fun i H => ∃ (xs ys : List V) (x y : V), SqK k K H a xs ∧ SqK l K H b ys ∧ xs[i]? = some x ∧ ys[i]? = some y,
   fun i H v H' => ∃ p x y, v = .ref p ∧ H p = none ∧ H' = upd H p (.tup [x, y]) ∧ (∀ xs, SqK k K H a xs → xs[i]? = some x) ∧ (∀ ys, SqK l K H b ys → ys[i]? = some y),
   fun i H => ∃ xs ys : List V, SqK k K H a xs ∧ SqK l K H b ys ∧ i ≤ xs.length ∧ i ≤ ys.length ∧ (i = xs.length ∨ i = ys.length)⟩
/-- the zip's five cells -/
structure ZCells (h : Heap) (k l : Bool) (z ti tt p q a b : Addr) (i : Nat) : Prop where
  zip : IsZip h z ti tt .none
  ins : IsTupOf2 h ti (.ref p) (.ref q)
  out : ∃ u v, IsTupOf2 h tt u v
  one : AtK k h p a i
  two : AtK l h q b i
theorem turnZ {P : Program} {w : World} {K : PySem.W.Frag} {k l : Bool} {es : List Expr} {kk : Nat} {tp : Pos} {a b z ti tt p q : Addr} (S : ZipSep2 z ti tt p q [p, a] [q, b]) (na : a ≠ p) (nb : b ≠ q) :
    Turn P w K (.Tuple es kk tp) (ItZ k l K a b) [z, ti, tt, p, q] z (fun i h => ZCells h k l z ti tt p q a b i) where
  mem := List.mem_cons_self
  obj := fun i h c m hm => by
    obtain ⟨u, v, ho⟩ := c.out
    simp only [List.mem_cons, List.not_mem_nil, or_false] at hm
    rcases hm with rfl | rfl | rfl | rfl | rfl
    · exact ⟨_, c.zip, fun _ e => nomatch e⟩
    · exact ⟨_, c.ins, fun _ e => nomatch e⟩
    · exact ⟨_, ho, fun _ e => nomatch e⟩
    · exact c.one.obj
    · exact c.two.obj
  keep := fun i h h' c kp => by
    obtain ⟨u, v, ho⟩ := c.out
    exact ⟨kp _ (by simp) _ c.zip, kp _ (by simp) _ c.ins, ⟨u, v, kp _ (by simp) _ ho⟩, c.one.at (kp _ (by simp)), c.two.at (kp _ (by simp))⟩
  item := by
    intro X e1 e2 e3 hc i pins s σ H E I fr c g
    subst e1 e2 e3
    obtain ⟨xs, ys, x, y, qx, qy, hx, hy⟩ := g
    obtain ⟨vs, rx, ix, lx⟩ := inv_sq I qx
    obtain ⟨ws, ry, iy, ly⟩ := inv_sq I qy
    obtain ⟨u, hu, ru⟩ := rx.get hx
    obtain ⟨v, hv, rv⟩ := ry.get hy
    obtain ⟨o1, o2, ho⟩ := c.out
    have hd : X.A.in1.handled = none := I.ok.hd hc
    have zl := Heap.lt_size c.zip
    have i1 : i < vs.toArray.size := by have := (List.getElem?_eq_some_iff.mp hu).1; simpa using this
    have i2 : i < ws.toArray.size := by have := (List.getElem?_eq_some_iff.mp hv).1; simpa using this
    refine wpAny_pyNext_zipD2_item S (drawsK hd k p a na vs.toArray) (drawsK hd l q b nb ws.toArray) c.zip c.ins ho ⟨c.one, ix⟩ ⟨c.two, iy⟩ i1 i2 fun u' v' h1 tk eu ev z1 t1 s1 s2 t2 sz ke => ?_
    have eu' : u = u' := by have : vs.toArray[i]? = some u := by simpa using hu
                            exact Option.some.inj (this.symm.trans eu)
    have ev' : v = v' := by have : ws.toArray[i]? = some v := by simpa using hv
                            exact Option.some.inj (this.symm.trans ev)
    subst eu' ev'
    refine ⟨_, rfl, wpAny_letOwnedTupleGo_zip (s := ⟨h1, s.gens, s.drawn, tk, s.os⟩) z1 fun h2 z2 sb => ?_⟩
    have nz : s.heap.objs.size ≠ z := Nat.ne_of_gt zl
    have t3 : h2.get? s.heap.objs.size = some { cls := .type "tuple", data := .seq #[u, v] } := (sb.2 _ nz).trans t2
    have J := I.turnedNew (t' := tk) (ch := [z, ti, tt, p, q]) (T := s.heap.objs.size) (ob := .tup [x, y]) (h' := h2)
      (fun m o hm e => (sb.2 m fun h => hm (by simp [h])).trans (ke m o (fun h => hm (by simp [h])) (fun h => hm (by simp [h])) (fun h => hm (by simp [h])) (fun h => hm (by simp [h])) e)) fr (Nat.le_refl _)
      ⟨by show 2 ≤ sizeLine; decide, [u, v], .cons ru (.cons rv .nil), _, t3, rfl, _, rfl⟩
    refine ⟨.ref s.heap.objs.size, _, J, rfl, ⟨_, x, y, rfl, I.hok.fresh (Nat.le_refl _), rfl, fun l hl => ?_, fun l hl => ?_⟩, ⟨z2, ?_, ⟨u, v, ?_⟩, ?_, ?_⟩, fun m hm => ?_⟩
    · rw [sq_inj I hl qx]; exact hx
    · rw [sq_inj I hl qy]; exact hy
    · exact (sb.2 _ S.TIz).trans (ke _ _ S.TIz S.TITO S.TIi1 S.TIi2 c.ins)
    · exact (sb.2 _ S.TOz).trans t1
    · exact s1.1.at fun o e => (sb.2 _ S.zi1.symm).trans e
    · exact s2.1.at fun o e => (sb.2 _ S.zi2.symm).trans e
    · obtain ⟨o, e, _⟩ : ∃ o, s.heap.get? m = some o ∧ ∀ v, o.data ≠ .cell v := by
        simp only [List.mem_cons, List.not_mem_nil, or_false] at hm
        rcases hm with rfl | rfl | rfl | rfl | rfl
        · exact ⟨_, c.zip, fun _ e => nomatch e⟩
        · exact ⟨_, c.ins, fun _ e => nomatch e⟩
        · exact ⟨_, ho, fun _ e => nomatch e⟩
        · exact c.one.obj
        · exact c.two.obj
      rw [upd_ne (Nat.ne_of_lt (Heap.lt_size e))]
      exact (fr m hm).1
  done := by
    intro X e1 e2 e3 hc i pins s σ H E I fr c g
    subst e1 e2 e3
    obtain ⟨xs, ys, qx, qy, g1, g2, g3⟩ := g
    obtain ⟨vs, rx, ix, lx⟩ := inv_sq I qx
    obtain ⟨ws, ry, iy, ly⟩ := inv_sq I qy
    obtain ⟨o1, o2, ho⟩ := c.out
    have hd : X.A.in1.handled = none := I.ok.hd hc
    have n1 := rx.length
    have n2 := ry.length
    have m1 : vs.toArray.size = vs.length := by simp
    have m2 : ws.toArray.size = ws.length := by simp
    exact wpAny_pyNext_zipD2_end S (drawsK hd k p a na vs.toArray) (drawsK hd l q b nb ws.toArray) c.zip c.ins ho ⟨c.one, ix⟩ ⟨c.two, iy⟩ (by omega) (by omega) (by omega)
      fun h1 tk ke => ⟨rfl, I.turnedL (t' := tk) (ch := [z, ti, tt, p, q]) (fun m o hm e => ke m o (fun h => hm (by simp [h])) (fun h => hm (by simp [h])) (fun h => hm (by simp [h])) (fun h => hm (by simp [h])) e) fr⟩
  self := fun A i s Q E c h => wpAny_pyIter_zip c.zip h
def BegK (k : Bool) (a : Addr) : Obj := match k with
  | true => { cls := .type "tuple_iterator", data := .fields #[.ref a, .int 0 0] }
  | false => { cls := .type "list_iterator", data := .fields #[.ref a, .int 0 0] }
theorem begK (k : Bool) (a : Addr) (its : Array Value) : Begins (.ref a) (BegK k a) fun h => IsK k h a its := by
  cases k with
  | true => exact begins_tuple a its
  | false => exact begins_list a its
theorem begK_at {k : Bool} {a i : Addr} {h : Heap} (e : h.get? i = some (BegK k a)) : AtK k h i a 0 := by
  cases k with
  | true => exact ⟨_, e, rfl, rfl⟩
  | false => exact ⟨_, e, rfl, rfl⟩
theorem zsep (n a b : Nat) (ha : a < n) (hb : b < n) : ZipSep2 (n + 4) (n + 2) (n + 3) n (n + 1) [n, a] [n + 1, b] := by
  have two : ∀ x y z : Nat, x ≠ y → x ≠ z → x ∉ ([y, z] : List Nat) := fun x y z h k => by simp [h, k]
  exact ⟨(by omega : (n + 2 : Nat) ≠ n + 4), (by omega : (n + 3 : Nat) ≠ n + 4), (by omega : (n + 2 : Nat) ≠ n + 3), (by omega : (n + 2 : Nat) ≠ n), List.mem_cons_self, two _ _ _ (by omega) (by omega), two _ _ _ (by omega) (by omega),
    (by omega : (n + 2 : Nat) ≠ n + 1), List.mem_cons_self, two _ _ _ (by omega) (by omega), two _ _ _ (by omega) (by omega), two _ _ _ (by omega) (by omega), two _ _ _ (by omega) (by omega)⟩
def iZK (K : PySem.W.Frag) (ta : TA) : TI := fun σ H R => ta σ H fun vs H1 => ∃ k l a b xs ys, vs = [.ref a, .ref b] ∧ SqK k K H1 a xs ∧ SqK l K H1 b ys ∧ R (ItZ k l K a b) H1
theorem pi_zK {X : Cx} {e e2 : Expr} {ta : TA} {p pos tpos : Pos} {elts : List Expr} {kk : Nat} (hg : Gl X "zip") (hm : X.mg "zip" = none) (ha : PA X [e, e2] ta)
    (hs : starEach [e, e2] X.env = (false, eval e X.env) :: starEach [e2] X.env) (hpl : (backTo pos (starEach [e2] X.env)).any (·.1) = false) :
    PI X (.Tuple elts kk tpos) (.Call (.Name "zip" p) [e, e2] [] pos) (iZK X.K ta) := by
  refine ⟨fun pins s σ H R I h => ?_⟩
  refine Call_ (ld_blt I hg hm PyProof.Rows.boot_zip (PyProof.Rows.callWith_type1 (thn (ha.run pos pins s σ H _ I h) fun us s1 hh => ?_) hs hpl))
  obtain ⟨vs, H1, I1, r1, k, l, a, b, xs, ys, ev, qx, qy, q⟩ := hh
  subst ev
  cases r1 with
  | cons r rr =>
  cases rr with
  | cons r' rr =>
  cases rr
  cases r
  cases r'
  obtain ⟨us, ru, iu, lu⟩ := inv_sq I1 qx
  obtain ⟨ws, rw', iw, lw⟩ := inv_sq I1 qy
  refine zip_begins2 (begK k a us.toArray) (begK l b ws.toArray) iu iw fun h' hz hi ho h1 h2 sz ke => wpAny_pyIter_zip hz ?_
  have J : Inv X pins σ H1 { s1 with heap := h' } := I1.kept (t' := s1.toks) ke
  have last : ∀ c, c ∈ [s1.heap.objs.size + 4, s1.heap.objs.size + 2, s1.heap.objs.size + 3, s1.heap.objs.size, s1.heap.objs.size + 1] → FpOk X pins H1 c := fun c hc => by
    have hle : s1.heap.objs.size ≤ c := by
      simp only [List.mem_cons, List.not_mem_nil, or_false] at hc
      omega
    exact I1.fpOk hle (I1.hok.fresh hle)
  exact ⟨s1.heap.objs.size + 4, [s1.heap.objs.size + 4, s1.heap.objs.size + 2, s1.heap.objs.size + 3, s1.heap.objs.size, s1.heap.objs.size + 1], _, _, H1, rfl, J,
    turnZ (k := k) (l := l) (a := a) (b := b) (zsep s1.heap.objs.size a b lu lw) (Nat.ne_of_lt lu) (Nat.ne_of_lt (Nat.lt_succ_of_lt lw)), ⟨hz, hi, ⟨_, _, ho⟩, begK_at h1, begK_at h2⟩, last, q⟩

/-! as a function of data -/
theorem enum_zip {G : Gx} {K : PySem.W.Frag} {t : Tg} {Hs0 Hr0 : Hp} {k l : Bool} {a b : Addr} {vs ws : List V} {ds es : List D} (ht : t = .s ∨ t = .r)
    (h : nodeH t Hs0 Hr0 a = some (if k then .tup vs else .lst vs)) (h2 : nodeH t Hs0 Hr0 b = some (if l then .tup ws else .lst ws)) (r : RepsT G t Hs0 Hr0 Hr0 vs ds) (r2 : RepsT G t Hs0 Hr0 Hr0 ws es) :
    Enum G t Hs0 Hr0 (ItZ k l K a b) ((ds.zip es).map fun x => .tup [x.1, x.2]) := by
  have sq : ∀ {H : Hp} {c : Addr} {k : Bool} {us : List V}, H c = some (if k then .tup us else .lst us) → SqK k K H c us := fun {H c k us} e => by
    cases k with
    | true => exact .inl (.inl e)
    | false => exact .inl (.inl e)
  have ln : ((ds.zip es).map fun x => D.tup [x.1, x.2]).length = min ds.length es.length := by simp
  refine ⟨ht, fun Hs Hr H i hk s1 s2 hi => ?_, fun Hs Hr H hk s1 s2 => ?_, fun Hs Hr H i x H' hk s1 s2 hi y => ?_⟩
  all_goals
    have l1 := ((RepsT.mono' (H' := H) ht s1 s2 r).h hk).length
    have l2 := ((RepsT.mono' (H' := H) ht s1 s2 r2).h hk).length
    have n1 := nodeH_le (t := t) hk _ _ (nodeH_mono s1 s2 _ _ h)
    have n2 := nodeH_le (t := t) hk _ _ (nodeH_mono s1 s2 _ _ h2)
  · have i1 : i < vs.length := by omega
    have i2 : i < ws.length := by omega
    exact ⟨vs, ws, vs[i], ws[i], sq n1, sq n2, by simp [i1], by simp [i2]⟩
  · exact ⟨vs, ws, sq n1, sq n2, by omega, by omega, by omega⟩
  · obtain ⟨p, u, v, ex, hp, eh, y1, y2⟩ := y
    have z1 := y1 vs (sq n1)
    have z2 := y2 ws (sq n2)
    have m1 := RepsT.mono' (H' := H) ht s1 s2 r
    have m2 := RepsT.mono' (H' := H) ht s1 s2 r2
    rw [← itT_sr ht] at m1 m2
    obtain ⟨d, g1, g2⟩ := m1.get' z1
    obtain ⟨e, g3, g4⟩ := m2.get' z2
    rw [itT_sr ht] at g2 g4
    refine ⟨.tup [d, e], ?_, .inr ⟨p, [u, v], [d, e], ex, hp, eh, rfl, ?_⟩⟩
    · rw [List.getElem?_map, List.getElem?_zip_eq_some (z := (d, e)) |>.mpr ⟨g1, g3⟩] <;> rfl
    · rcases ht with rfl | rfl
      · exact .cons g2 (.cons g4 .nil)
      · exact .cons g2 (.cons g4 .nil)
section
variable {X : Cx} {J : Jx} {a b : Expr} {pos p tpos : Pos} {elts : List Expr} {kk : Nat} {F : Env → Res (List TV)}
def jnT (t u : Tg) : Tg := match t, u with
  | .s, .s => .s
  | _, _ => .r
def kZip (xs : List TV) : Res TVs := match xs with
  | [x, y] => (kSeq x).bind fun u => (kSeq y).bind fun v => .ok (jnT u.1 v.1, (u.2.zip v.2).map fun z => .tup [z.1, z.2])
  | _ => .bad
theorem nodeH_jn {t u : Tg} {Hs Hr H : Hp} (k : HpOk Hs Hr H) (ht : t = .s ∨ t = .r) (hu : u = .s ∨ u = .r) : Same (nodeH t Hs Hr) (nodeH (jnT t u) Hs Hr) ∧ Same (nodeH u Hs Hr) (nodeH (jnT t u) Hs Hr) ∧ (jnT t u = .s ∨ jnT t u = .r) := by
  rcases ht with rfl | rfl <;> rcases hu with rfl | rfl
  · exact ⟨Same.refl _, Same.refl _, .inl rfl⟩
  · exact ⟨k.sr, Same.refl _, .inr rfl⟩
  · exact ⟨Same.refl _, k.sr, .inr rfl⟩
  · exact ⟨Same.refl _, Same.refl _, .inr rfl⟩
theorem RepsT.node {G : Gx} {t : Tg} {Hs Hr : Hp} (ht : t = .s ∨ t = .r) {vs : List V} {ds : List D} : RepsT G t Hs Hr Hr vs ds ↔ Reps G (nodeH t Hs Hr) vs ds := by
  rcases ht with rfl | rfl <;> exact Iff.rfl
theorem mi_zip (hm : X.mg "zip" = none) (ha : MA X J [a, b] F) (hg : Gl X "zip" := by rfl) (hs : starEach [a, b] X.env = (false, eval a X.env) :: starEach [b] X.env := by rfl) (hpl : (backTo pos (starEach [b] X.env)).any (·.1) = false := by rfl) :
    MI X J (.Tuple elts kk tpos) (.Call (.Name "zip" p) [a, b] [] pos) (thenK F kZip) :=
  ⟨pi_imp (pi_zK hg hm ha.pa hs hpl) fun σ H R n => runA (J := J) wishI n fun vs H1 _ _ _ Hs Hr xs _ r rv q => by
    unfold kZip at q
    split at q
    · rename_i x y
      obtain ⟨v, w, rfl, r1, r2⟩ := rv.two
      cases h1 : kSeq x with
      | bad => rw [h1] at q; exact (show False from q).elim
      | exc c ks vs => exfalso; unfold kSeq at h1; split at h1 <;> first | cases h1 | (split at h1 <;> cases h1)
      | ok u =>
      cases h2 : kSeq y with
      | bad => rw [h1, h2] at q; exact (show False from q).elim
      | exc c ks vs => exfalso; unfold kSeq at h2; split at h2 <;> first | cases h2 | (split at h2 <;> cases h2)
      | ok u2 =>
      rw [h1, h2] at q
      obtain ⟨t1, a1, v1, rfl, c1, z1⟩ := seq_node r.ok r1 h1
      obtain ⟨t2, a2, v2, rfl, c2, z2⟩ := seq_node r.ok r2 h2
      obtain ⟨m1, m2, m3⟩ := nodeH_jn r.ok t1 t2
      have e1 : ∃ k : Bool, nodeH u.1 Hs Hr a1 = some (if k then .tup v1 else .lst v1) := by
        rcases c1 with ⟨_, h⟩ | ⟨_, h⟩
        · exact ⟨false, h⟩
        · exact ⟨true, h⟩
      have e2 : ∃ k : Bool, nodeH u2.1 Hs Hr a2 = some (if k then .tup v2 else .lst v2) := by
        rcases c2 with ⟨_, h⟩ | ⟨_, h⟩
        · exact ⟨false, h⟩
        · exact ⟨true, h⟩
      obtain ⟨k, e1⟩ := e1
      obtain ⟨l, e2⟩ := e2
      have sq : ∀ {c : Addr} {k : Bool} {us : List V}, H1 c = some (if k then .tup us else .lst us) → SqK k X.K H1 c us := fun {c k us} e => by
        cases k with
        | true => exact .inl (.inl e)
        | false => exact .inl (.inl e)
      refine ⟨k, l, a1, a2, v1, v2, rfl, sq (nodeH_le r.ok _ _ e1), sq (nodeH_le r.ok _ _ e2), Post.now r.ok q _ (enum_zip m3 (m1 _ _ e1) (m2 _ _ e2) ((RepsT.node m3).mpr (((RepsT.node t1).mp z1).mono m1)) ((RepsT.node m3).mpr (((RepsT.node t2).mp z2).mono m2)))⟩
    · exact (show False from q).elim⟩
end
end DL

namespace DL
open PySem PySem.Spec PyProof.Rows L2
/-! ### what is never come to -/
def badS : Env → SR := fun _ => .bad
theorem ms_bad {X : Cx} {J : Jx} {st : Stmt} : MS X J st badS := ⟨⟨fun pins s σ H D I ⟨_, _, _, _, _, _, p⟩ => (show False from p).elim⟩⟩
end DL

namespace DL
open PySem PySem.Spec PyProof.Rows L2
/-! ### defs by the head's facts -/
abbrev FnT (K : PySem.W.Frag) (x qual : Str) (st : Stmt) (dvs : List V) (f : Addr) (fd : FuncData) : Prop := FunD K x qual (defArgs st) (defBody st) (defScope st) dvs [] f fd
theorem fn_okD {P : Program} {w : World} {G : Gx} {mg : Str → Option Value} {base : Heap} {x qual : Str} {st : Stmt} {dvs : List V} {f : Addr} {fd : FuncData} {N ps : List Str} {n : Nat} {FB : Env → SR} (F : FnT G.K x qual st dvs f fd) (S : FnScope N ps (defScope st))
    (hb : ∀ (cdv : Value) (A : Around) (outer : List PySem.Env) (s : Shared) (H : Hp) (E : XK), Good (cxOf (L2.CX P w) P w G.K mg base N qual (defScope st) f cdv A outer s H E) (G.j E) n →
      MSs (cxOf (L2.CX P w) P w G.K mg base N qual (defScope st) f cdv A outer s H E) (G.j E) (defBody st) FB) : FnOk P w G.K mg base (L2.CX P w) (n + 1) f fd ps (SpD G ps.length (runD N.length FB)) := by
  refine FunD.ok F S (fun vs H Q E h => ?_) (fun cdv A outer s H vs Q E hr h => ⟨tS (G.j E) FB, (hb cdv A outer s H E ?_).ps, ?_⟩)
  · obtain ⟨args, Hs, k, l, a, p⟩ := h
    rw [argsOk_len a, l]
  · exact { K := rfl, nd := S.nd, hu := by have := hr.un; show A.units + 3 + 65 < _; (have h2 : (A.deeper (envOfC qual (defScope st) s.heap.objs.size f cdv)).units = A.units + 3 := rfl); omega, tk := takes_of rfl rfl rfl rfl, room := hr, calm := rfl, po := passes_of rfl }
  · obtain ⟨args, Hs, k, l, a, p⟩ := h
    exact start_rel k l a p
theorem fn_defD {P : Program} {w : World} {G : Gx} {mg : Str → Option Value} {base : Heap} {x qual : Str} {st : Stmt} {dvs : List V} {f : Addr} {fd : FuncData} {N ps : List Str} {n : Nat} {FB : Env → SR} (F : FnT G.K x qual st dvs f fd) (S : FnScope N ps (defScope st)) (b : Binds G.K fd ps [])
    (hb : ∀ (cdv : Value) (A : Around) (outer : List PySem.Env) (s : Shared) (H : Hp) (E : XK), Good (cxOf (L2.CX P w) P w G.K mg base N qual (defScope st) f cdv A outer s H E) (G.j E) n →
      MSs (cxOf (L2.CX P w) P w G.K mg base N qual (defScope st) f cdv A outer s H E) (G.j E) (defBody st) FB) : FnA P w G mg base f (n + 1) ps.length (runD N.length FB) :=
  ⟨fd, ps, b, fn_okD F S hb⟩
/-- every parameter of a def with defaults is given -/
theorem bindsAll {K : PySem.W.Frag} {x qual : Str} {st : Stmt} {dvs : List V} {f : Addr} {fd : FuncData} {ps : List Str} (F : FnT K x qual st dvs f fd) (hd : dvs ≠ [])
    (h : ∀ (T : Addr) (kV doc pm : Value) (an : Option Addr) (cdv ct : Value) (us its : List Value), us.length = ps.length → its.length = dvs.length →
      ∃ k, bindArgs (PySem.W.fnOf x qual (defArgs st) (defBody st) (defScope st) (.ref T) kV doc pm an cdv ct) ⟨us, []⟩ = seqItems? (.ref T) >>= k ∧ k (some its.toArray) = pure (ps.zip us)) : Binds K fd ps [] := by
  obtain ⟨ds, v, b⟩ := FunD.binds1 (ps := ps) F ps.length dvs.length hd (by omega) (fun T kV doc pm an cdv ct us its h1 h2 => by
    obtain ⟨k, e1, e2⟩ := h T kV doc pm an cdv ct us its h1 h2
    exact ⟨k, e1, by rw [← h2, List.drop_length, List.append_nil]; exact e2⟩)
  rw [List.drop_length] at v
  cases v
  exact b
/-- the law's end over a head by facts -/
theorem walk_E {l : PySem.W.OpenLaw} {k : Nat} {q : Program} {loose : List Str} {XP : (Str → Option Value) → Heap → Prop} {YP : World → Heap → Prop} {d : DefRec} {x : Str}
    (hn : l.most = some 63) (hdf : d.params.defaults = []) (hr : Room k callerA)
    (F : ∀ (w : World) (mg : Str → Option Value) (fa : Addr) (h : Heap), YP w h → h.Ns mainGlobals mg → mg d.name = some (.ref fa) →
      ∃ (K : PySem.W.Frag) (fd : FuncData), K.In h ∧ (∀ (s : Shared) (u : Value), BindsTo s fd ⟨[u], []⟩ [(x, u)]) ∧
        ∀ base : Heap, K.In base → base.Ns mainGlobals mg → FnOk l.prog w K mg base (L2.CX l.prog w) k fa fd [x] (SpLaw K)) :
    PySem.W.WalkO q loose XP YP l.row.toRowW d [] (fun f vs => PySem.call f vs) := by
  refine Att.attach_call hn hdf fun w u0 u1 mg mb fa o pm cd doc a vs ns A Y h1 h2 h3 hmg h4 h5 hl hg => ?_
  obtain ⟨K, fd, KX, hb, hF⟩ := F w mg fa _ Y A.T.g hmg
  have le : ns.length ≤ sizeLine := Nat.le_trans hl (by decide)
  exact law_call KX A.T.g A.T.b A.T.builtins A.T.nolimit hg h4 h5 le hr hF hb (fun H _ hS => ⟨a, ns, rfl, hS, hl, fun _ => rfl⟩) fun H e t => cx_no H u1 e t
/-! ### own exceptions -/
/-- what the text says of an exception class without an own __init__ -/
structure Xc (G : Gx) (mg : Str → Option Value) (c : Str) : Prop where
  gC : mg c = some (.ref (He.ga G.K c))
  cl : G.cl c = some (He.ga G.K c)
  ex : PySem.W.excIn G.K (He.ga G.K c) He.veBase "ValueError.__new__" = true
  kp : PySem.W.keepIn G.K (.ref (He.ga G.K c)) = true
  sb : PySem.W.subIn G.K (.ref (He.ga G.K c)) (.type "BaseException") = some true
  ty : PySem.W.typeIn G.K (.ref (He.ga G.K c)) = some (.type "type")
def raiseS (c : Str) : Env → SR := fun env => .exc c [] [] env
section
variable {X : Cx} {J : Jx} {n : Nat}
theorem ms_raise0 (g : Good X J n) {c m : Str} {j : Nat} {p p2 pos pos2 : Pos} (x : Xc J.toGx X.mg c) (hg : Gl X c := by rfl) (hdb : (c == ("__debug__" : Str)) = false := by decide) :
    MS X J (.Raise (some (.Call (.Name c p) [.Constant (.str m) j p2] [] pos)) none pos2) (raiseS c) := by
  obtain ⟨gC, cl, ex, kp, sb, ty⟩ := x
  have eK := g.K
  generalize hC : He.ga J.K c = C at *
  rw [← eK] at ex kp sb ty
  exact ⟨ps_imp (ps_raise g.calm g.tk (pmk_own PySem.F.excBase_ValueError ex gC kp (raises_own sb ty) hg hdb)) fun D σ H ⟨Hse, He, env, Hs, Hr, R, p⟩ => p (.ref C) none σ Hs Hr H R ⟨C, cl, rfl, .inl ⟨rfl, rfl, rfl⟩⟩⟩
end
/-- which clause takes which class -/
def catD (c h : Str) : Bool := c == h || h == ("PaceError" : Str)
def catB (names : List Str) (h : Str) (K : PySem.W.Frag) : Bool := names.all fun c => decide (PySem.W.exmOne K (.ref (He.ga K c)) (.ref (He.ga K h)) = some (catD c h))
structure Catch (G : Gx) (mg : Str → Option Value) (h : Str) : Prop where
  gC : mg h = some (.ref (He.ga G.K h))
  ex : ∀ c C, G.cl c = some C → PySem.W.exmOne G.K (.ref C) (.ref (He.ga G.K h)) = some (catD c h)
def clOf (names : List Str) (K : PySem.W.Frag) (x : Str) : Option Addr := if names.contains x then some (He.ga K x) else none
theorem catch_of {names : List Str} {h : Str} {K : PySem.W.Frag} {mg : Str → Option Value} (gC : mg h = some (.ref (He.ga K h))) (b : catB names h K = true) : Catch ⟨K, clOf names K⟩ mg h := ⟨gC, fun c C e => by
  have e : (if names.contains c then some (He.ga K c) else none) = some C := e
  by_cases q : names.contains c = true
  · rw [if_pos q] at e
    cases e
    exact of_decide_eq_true (List.all_eq_true.mp b c (List.contains_iff_mem.mp q))
  · rw [if_neg q] at e
    cases e⟩
/-- a caught exception's slots are let go -/
def dropX : Env → Env := List.map fun x => match x with
  | some (.exn _ _ _) => none
  | x => x
theorem dropX_get {env : Env} {i : Nat} {e : EV} (h : (dropX env)[i]? = some (some e)) : env[i]? = some (some e) ∧ ∀ c ks vs, e ≠ .exn c ks vs := by
  unfold dropX at h
  rw [List.getElem?_map, Option.map_eq_some_iff] at h
  obtain ⟨x, h1, h2⟩ := h
  cases x with
  | none => cases h2
  | some y =>
    cases y with
    | exn c ks vs => cases h2
    | val t d => cases h2; exact ⟨h1, fun _ _ _ z => by cases z⟩
    | own xs => cases h2; exact ⟨h1, fun _ _ _ z => by cases z⟩
    | ownd ks xs => cases h2; exact ⟨h1, fun _ _ _ z => by cases z⟩
theorem SlotOk.cg {J J' : Jx} (e : J.toGx = J'.toGx) {Hs Hr H : Hp} {sv : Option (Option V)} : ∀ {x : EV}, (∀ c ks vs, x ≠ .exn c ks vs) → SlotOk J Hs Hr H sv x → SlotOk J' Hs Hr H sv x
  | .val .s d, _, ⟨v, a, b⟩ => ⟨v, a, e ▸ b⟩
  | .val .r d, _, ⟨v, a, b⟩ => ⟨v, a, e ▸ b⟩
  | .val .h d, _, h => h
  | .val .o d, _, h => h
  | .own xs, _, ⟨p, vs, a, b, c, r⟩ => ⟨p, vs, a, b, c, e ▸ r⟩
  | .ownd ks xs, _, ⟨p, vs, a, b, c, k, r⟩ => ⟨p, vs, a, b, c, k, e ▸ r⟩
  | .exn c ks vs, n, _ => absurd rfl (n c ks vs)
theorem SlotOk.no {J : Jx} (hx : J.xa = none) {Hs Hr H : Hp} {sv : Option (Option V)} {c : Str} {ks : List Str} {vs : List D} (h : SlotOk J Hs Hr H sv (.exn c ks vs)) : False := by
  obtain ⟨a, cv, d, h1, _⟩ := h
  rw [hx] at h1
  cases h1
theorem Rel.cg {J J' : Jx} (e : J.toGx = J'.toGx) (hx : J.xa = none) {Hse He : Hp} {env : Env} {σ : St} {Hs Hr H : Hp} (R : Rel J Hse He env σ Hs Hr H) : Rel J' Hse He env σ Hs Hr H :=
  ⟨R.ok, R.len, fun i x h => (R.slot i x h).cg e fun c ks vs z => by subst z; exact SlotOk.no hx (R.slot i _ h), R.dis, R.se, R.he, R.ns⟩
theorem Rel.drop {J J' : Jx} (e : J.toGx = J'.toGx) {Hse He : Hp} {env : Env} {σ : St} {Hs Hr H : Hp} (R : Rel J Hse He env σ Hs Hr H) : Rel J' Hse He (dropX env) σ Hs Hr H where
  ok := R.ok
  len := by unfold dropX; rw [List.length_map]; exact R.len
  slot := fun i x h => (R.slot i x (dropX_get h).1).cg e (dropX_get h).2
  dis := fun i j p ne ⟨x, h1, h2, h3⟩ ⟨y, k1, k2, k3⟩ => R.dis i j p ne ⟨x, (dropX_get h1).1, h2, h3⟩ ⟨y, (dropX_get k1).1, k2, k3⟩
  se := R.se
  he := R.he
  ns := R.ns
/-- the end of an except suite: what it raises is not covered -/
def endX : SR → SR
  | .nx env => .nx (dropX env)
  | .bk env => .bk (dropX env)
  | .ct env => .ct (dropX env)
  | .rt e => .rt e
  | _ => .bad
def pickH (c : Str) : List (Str × (Env → SR)) → Option (Env → SR)
  | [] => none
  | (h, S) :: r => if catD c h = true then some S else pickH c r
/-- try .. except A: .. except B: .. -/
def tryS (F : Env → SR) (hs : List (Str × (Env → SR))) : Env → SR := fun env => match F env with
  | .exc c ks vs e => match pickH c hs with
    | some S => endX (S e)
    | none => .exc c ks vs e
  | r => r
abbrev Jx.w (J : Jx) (W : WX) : Jx := { J with W := W }
abbrev Jx.su (J : Jx) (a : Addr) (cls : Value) (d : Option Addr) : Jx := { J with W := fun _ _ _ _ => False, xa := some (a, cls, d) }
section
variable {X : Cx} {J : Jx} {n : Nat}
theorem suite_bas (g : Bas X J) {a : Addr} {cls : Value} {d : Option Addr} {pn : List (Addr × Obj)} : Bas (X.suite a pn) (J.su a cls d) := ⟨g.K, g.nd, g.hu⟩
inductive Hds (X : Cx) (J : Jx) : List ExceptHandler → List (Str × (Env → SR)) → Prop
  | nil : Hds X J [] []
  | cons {x : Str} {S : Env → SR} {b₀ : Stmt} {suite : List Stmt} {np pos' : Pos} {hds : List ExceptHandler} {l : List (Str × (Env → SR))} (hc : Catch J.toGx X.mg x) (hg : Gl X x) (hd : (x == ("__debug__" : Str)) = false)
      (hs : ∀ (a : Addr) (oe : Obj) (cls : Value) (d : Option Addr) (pn : List (Addr × Obj)), Zc cls d oe → (∃ vs, oe.data = .fields vs) → Bas (X.suite a ((a, oe) :: pn)) (J.su a cls d) → MSs (X.suite a ((a, oe) :: pn)) (J.su a cls d) (b₀ :: suite) S) (r : Hds X J hds l) :
      Hds X J (.ExceptHandler (some (.Name x np)) none (b₀ :: suite) pos' :: hds) ((x, S) :: l)
theorem PostS.suite {J J' : Jx} (e : J'.toGx = J.toGx) {Hse He : Hp} {D : Ends} : ∀ {r : SR}, PostS J Hse He D (endX r) → PostS J' Hse He D r
  | .nx env, p => fun σ Hs Hr H R => p σ Hs Hr H (R.drop e)
  | .bk env, p => fun σ Hs Hr H R => p σ Hs Hr H (R.drop e)
  | .ct env, p => fun σ Hs Hr H R => p σ Hs Hr H (R.drop e)
  | .rt v, p => by
    show RtOk J'.toGx Hse He D.rt v
    rw [e]
    exact p
  | .exc _ _ _ _, p => p.elim
  | .bad, p => p.elim
theorem ExcOk.cls {G : Gx} {Hs : Hp} {c : Str} {ks : List Str} {vs : List D} {cv : Value} {d : Option Addr} (h : ExcOk G Hs c ks vs cv d) : ∃ C, G.cl c = some C ∧ cv = .ref C := let ⟨C, a, b, _⟩ := h; ⟨C, a, b⟩
/-- what the clauses wish -/
def hdsT (X : Cx) (J : Jx) (l : List (Str × (Env → SR))) : List (Value × (Addr → Value → Option Addr → TS)) := l.map fun q => (.ref (He.ga J.K q.1), fun a cls d => tS (J.su a cls d) q.2)
theorem Hds.ok (g : Bas X J) {hds : List ExceptHandler} {l : List (Str × (Env → SR))} (h : Hds X J hds l) : HdsOk X hds (hdsT X J l) := by
  induction h with
  | nil => exact .nil
  | cons hc hg hd hs r ih => exact .cons ⟨hg, hd, .inl hc.gC⟩ (fun a oe cls d pn z f => (hs a oe cls d pn z f (suite_bas g)).ps) ih
theorem Hds.post (hx : J.xa = none) (eK : X.K = J.K) {hds : List ExceptHandler} {l : List (Str × (Env → SR))} (h : Hds X J hds l) {Hse He : Hp} {M : Ends} {c : Str} {ks : List Str} {vs : List D} {cv : Value} {d : Option Addr} {env : Env} {σ : St} {Hs Hr H : Hp}
    (R : Rel J Hse He env σ Hs Hr H) (e : ExcOk J.toGx Hs c ks vs cv d) (p : PostS J Hse He M (match pickH c l with | some S => endX (S env) | none => .exc c ks vs env)) : wMany X.K J.W M (hdsT X J l) cv d σ H := by
  induction h with
  | nil => exact p cv d σ Hs Hr H R e
  | @cons x S b₀ suite np pos' hds l hc hg hd hs r ih =>
    obtain ⟨C, h1, rfl⟩ := e.cls
    refine ⟨catD c x, by rw [eK]; exact hc.ex c C h1, fun q a na => ?_, fun q => ?_⟩
    · unfold pickH at p
      rw [if_pos q] at p
      exact ⟨Hse, He, env, Hs, Hr, Rel.cg (J := J) (J' := J.su a (.ref C) d) rfl hx R, PostS.suite (J := J) (J' := J.su a (.ref C) d) rfl p⟩
    · unfold pickH at p
      rw [if_neg (by rw [q]; simp)] at p
      exact ih p
theorem ms_try {body : List Stmt} {h₀ : ExceptHandler} {hds : List ExceptHandler} {l : List (Str × (Env → SR))} {F : Env → SR} {pos : Pos} (g : Good X J n) (hs : X.stack = X.env :: X.outer) (hf : X.env.frame = some X.env.locals) (hx : J.xa = none)
    (hb : ∀ (W : WX) (pn : List (Addr × Obj)) (xe : Value → Shared → Prop), Good (X.tr pn xe) (J.w W) n → MSs (X.tr pn xe) (J.w W) body F) (hh : Hds X J (h₀ :: hds) l) : MS X J (.Try body (h₀ :: hds) [] [] pos) (tryS F l) := by
  refine ⟨ps_imp (ps_try_many (tb := fun W => tS (J.w W) F) hs hf g.tk (fun W pn xe tk po => (hb W pn xe ⟨⟨g.K, g.nd, g.hu⟩, tk, g.room, g.calm, po⟩).ps) (hh.ok g.toBas)) fun D σ H ⟨Hse, He, env, Hs, Hr, R, p⟩ => ?_⟩
  refine ⟨Hse, He, env, Hs, Hr, Rel.cg (J := J) (J' := J.w (wMany X.K J.W D (hdsT X J l))) rfl hx R, ?_⟩
  have p : PostS J Hse He D (match F env with
    | .exc c ks vs e => match pickH c l with
      | some S => endX (S e)
      | none => .exc c ks vs e
    | r => r) := p
  cases hF : F env with
  | nx e => rw [hF] at p; exact fun σ Hs Hr H R => p σ Hs Hr H (Rel.cg (J := J.w (wMany X.K J.W D (hdsT X J l))) (J' := J) rfl hx R)
  | bk e => rw [hF] at p; exact fun σ Hs Hr H R => p σ Hs Hr H (Rel.cg (J := J.w (wMany X.K J.W D (hdsT X J l))) (J' := J) rfl hx R)
  | ct e => rw [hF] at p; exact fun σ Hs Hr H R => p σ Hs Hr H (Rel.cg (J := J.w (wMany X.K J.W D (hdsT X J l))) (J' := J) rfl hx R)
  | rt v => rw [hF] at p; exact p
  | bad => rw [hF] at p; exact p
  | exc c ks vs e =>
    rw [hF] at p
    exact fun cv d σ Hs Hr H R x => Hds.post hx g.K hh (Rel.cg (J := J.w (wMany X.K J.W D (hdsT X J l))) (J' := J) rfl hx R) x p
end
theorem Bas.toBas {X : Cx} {J : Jx} (g : Bas X J) : Bas X J := g
/-! ### except A as e; isinstance(e, C) -/
def endA (i : Nat) : SR → SR
  | .nx env => .nx ((dropX env).set i none)
  | .bk env => .bk ((dropX env).set i none)
  | .ct env => .ct ((dropX env).set i none)
  | .rt e => .rt e
  | _ => .bad
def tryA (F : Env → SR) (h : Str) (i : Nat) (S : Env → SR) : Env → SR := fun env => match F env with
  | .exc c ks vs e => if catD c h = true then endA i (S (e.set i (some (.exn c ks vs)))) else .exc c ks vs e
  | r => r
theorem Rel.unset {J : Jx} {Hse He : Hp} {env : Env} {σ : St} {Hs Hr H : Hp} (R : Rel J Hse He env σ Hs Hr H) (i : Nat) : Rel J Hse He (env.set i none) (σ.set i none) Hs Hr H where
  ok := R.ok
  len := by rw [List.length_set, List.length_set]; exact R.len
  slot := fun j e h => by
    rcases getElem?_set_some h with ⟨_, h1, _⟩ | ⟨h1, h2⟩
    · cases h1
    · rw [List.getElem?_set_ne (Ne.symm h1)]; exact R.slot j e h2
  dis := fun j k p ne ⟨e, h1, h2, h3⟩ ⟨e', k1, k2, k3⟩ => by
    rcases getElem?_set_some h1 with ⟨_, z, _⟩ | ⟨g1, g2⟩
    · cases z
    · rcases getElem?_set_some k1 with ⟨_, z, _⟩ | ⟨g3, g4⟩
      · cases z
      · rw [List.getElem?_set_ne (Ne.symm g1)] at h3
        rw [List.getElem?_set_ne (Ne.symm g3)] at k3
        exact R.dis j k p ne ⟨e, g2, h2, h3⟩ ⟨e', g4, k2, k3⟩
  se := R.se
  he := R.he
  ns := R.ns
theorem Rel.caught {J : Jx} {Hse He : Hp} {env : Env} {σ : St} {Hs Hr H : Hp} (R : Rel J Hse He env σ Hs Hr H) (hx : J.xa = none) (i : Nat) {c : Str} {ks : List Str} {vs : List D} {cv : Value} {d : Option Addr} (x : ExcOk J.toGx Hs c ks vs cv d) (a : Addr) :
    Rel (J.su a cv d) Hse He (env.set i (some (.exn c ks vs))) (σ.set i (some (.ref a))) Hs Hr H where
  ok := R.ok
  len := by rw [List.length_set, List.length_set]; exact R.len
  slot := fun j e h => by
    rcases getElem?_set_some h with ⟨rfl, h1, h2⟩ | ⟨h1, h2⟩
    · cases h1
      exact ⟨a, cv, d, rfl, by rw [List.getElem?_set_self (by rw [← R.len]; exact h2)], x⟩
    · rw [List.getElem?_set_ne (Ne.symm h1)]
      exact SlotOk.cg (J := J) (J' := J.su a cv d) rfl (fun c ks vs z => by subst z; exact SlotOk.no hx (R.slot j _ h2)) (R.slot j e h2)
  dis := fun j k p ne ⟨e, h1, h2, h3⟩ ⟨e', k1, k2, k3⟩ => by
    rcases getElem?_set_some h1 with ⟨_, z, _⟩ | ⟨g1, g2⟩
    · cases z; cases h2
    · rcases getElem?_set_some k1 with ⟨_, z, _⟩ | ⟨g3, g4⟩
      · cases z; cases k2
      · rw [List.getElem?_set_ne (Ne.symm g1)] at h3
        rw [List.getElem?_set_ne (Ne.symm g3)] at k3
        exact R.dis j k p ne ⟨e, g2, h2, h3⟩ ⟨e', g4, k2, k3⟩
  se := R.se
  he := R.he
  ns := R.ns
theorem PostS.suiteA {J J' : Jx} (e : J'.toGx = J.toGx) {Hse He : Hp} {M : Ends} (i : Nat) : ∀ {r : SR}, PostS J Hse He M (endA i r) →
    PostS J' Hse He { nx := fun σ' H' => M.nx (σ'.set i none) H', rt := M.rt, bk := fun σ' H' => M.bk (σ'.set i none) H', ct := fun σ' H' => M.ct (σ'.set i none) H' } r
  | .nx env, p => fun σ Hs Hr H R => p _ Hs Hr H ((R.drop e).unset i)
  | .bk env, p => fun σ Hs Hr H R => p _ Hs Hr H ((R.drop e).unset i)
  | .ct env, p => fun σ Hs Hr H R => p _ Hs Hr H ((R.drop e).unset i)
  | .rt v, p => by
    show RtOk J'.toGx Hse He M.rt v
    rw [e]
    exact p
  | .exc _ _ _ _, p => p.elim
  | .bad, p => p.elim
section
variable {X : Cx} {J : Jx} {n : Nat}
theorem ms_tryA (i : Nat) {body suite : List Stmt} {b₀ : Stmt} {x y : Str} {F S : Env → SR} {np pos pos' : Pos} (g : Good X J n) (hs : X.stack = X.env :: X.outer) (hf : X.env.frame = some X.env.locals) (hx : J.xa = none) (hi : X.N[i]? = some y) (hln : X.env.kindOf y = some .local)
    (hc : Catch J.toGx X.mg x) (hg : Gl X x) (hd : (x == ("__debug__" : Str)) = false)
    (hb : ∀ (W : WX) (pn : List (Addr × Obj)) (xe : Value → Shared → Prop), Good (X.tr pn xe) (J.w W) n → MSs (X.tr pn xe) (J.w W) body F)
    (hsu : ∀ (a : Addr) (oe : Obj) (cls : Value) (d : Option Addr) (pn : List (Addr × Obj)), Zc cls d oe → (∃ vs, oe.data = .fields vs) → Bas (X.suite a ((a, oe) :: pn)) (J.su a cls d) → MSs (X.suite a ((a, oe) :: pn)) (J.su a cls d) (b₀ :: suite) S) :
    MS X J (.Try body [.ExceptHandler (some (.Name x np)) (some y) (b₀ :: suite) pos'] [] [] pos) (tryA F x i S) := by
  refine ⟨ps_imp (ps_try_as (tb := fun W => tS (J.w W) F) (ts := fun a cls d => tS (J.su a cls d) S) hs hf g.nd hi hln ⟨hg, hd, .inl hc.gC⟩ g.tk (fun W pn xe tk po => (hb W pn xe ⟨⟨g.K, g.nd, g.hu⟩, tk, g.room, g.calm, po⟩).ps)
    (fun a oe cls d pn z f => (hsu a oe cls d pn z f (suite_bas g.toBas)).ps)) fun M σ H ⟨Hse, He, env, Hs, Hr, R, p⟩ => ?_⟩
  generalize hW : wAs X.K (.ref (_root_.He.ga J.K x)) i (fun a cls d => tS (J.su a cls d) S) J.W M = W
  refine ⟨Hse, He, env, Hs, Hr, Rel.cg (J := J) (J' := J.w W) rfl hx R, ?_⟩
  have p : PostS J Hse He M (match F env with
    | .exc c ks vs e => if catD c x = true then endA i (S (e.set i (some (.exn c ks vs)))) else .exc c ks vs e
    | r => r) := p
  cases hF : F env with
  | nx e => rw [hF] at p; exact fun σ Hs Hr H R => p σ Hs Hr H (Rel.cg (J := J.w W) (J' := J) rfl hx R)
  | bk e => rw [hF] at p; exact fun σ Hs Hr H R => p σ Hs Hr H (Rel.cg (J := J.w W) (J' := J) rfl hx R)
  | ct e => rw [hF] at p; exact fun σ Hs Hr H R => p σ Hs Hr H (Rel.cg (J := J.w W) (J' := J) rfl hx R)
  | rt v => rw [hF] at p; exact p
  | bad => rw [hF] at p; exact p
  | exc c ks vs e =>
    rw [hF] at p
    intro cv d σ Hs Hr H R xo
    show W cv d σ H
    rw [← hW]
    have R' := Rel.cg (J := J.w W) (J' := J) rfl hx R
    obtain ⟨C, h1, rfl⟩ := xo.cls
    refine ⟨catD c x, by rw [g.K]; exact hc.ex c C h1, fun q a na => ?_, fun q => ?_⟩
    · dsimp only at p
      rw [if_pos q] at p
      exact ⟨Hse, He, _, Hs, Hr, R'.caught hx i xo a, PostS.suiteA (J := J) (J' := J.su a (.ref C) d) rfl i p⟩
    · dsimp only at p
      rw [if_neg (by rw [q]; simp)] at p
      exact p (.ref C) d σ Hs Hr H R' xo
end
/-- of which class an own error is -/
def catX (c h : Str) : Bool := catD c h || h == ("ValueError" : Str)
def isX (i : Nat) (C : Str) : Env → Res TV := fun env => match env[i]? with
  | some (some (.exn c [] [])) => okb (catX c C)
  | _ => .bad
def xcB (K : PySem.W.Frag) (D : Addr) : Bool := [decide (PySem.W.findIn K (.ref D) "__getattribute__" = some (some (.builtin "BaseException.__getattribute__"))), decide (PySem.W.findIn K (.ref D) "__getattr__" = some none), decide (PySem.W.subIn K (.ref D) (.type "BaseException") = some true),
  PySem.W.hasDictIn K D, decide (PySem.W.findIn K (.ref D) "__class__" = some (some (.builtin "object.__class__"))), decide (PySem.W.specialIn K (.builtin "object.__class__") "__get__" = some (some (.builtin "getset_descriptor.__get__"))),
  decide (PySem.W.takesIn K (.builtin "object.__class__") = some true), decide (PySem.W.mroIn K D (.type "object") = some true)].all id
theorem xcB_ok {K : PySem.W.Frag} {D : Addr} (h : xcB K D = true) : ExcC K D := by
  unfold xcB at h
  simp only [List.all_cons, List.all_nil, id, Bool.and_eq_true, decide_eq_true_eq, and_true] at h
  obtain ⟨h1, h2, h3, h4, h5, h6, h7, h8⟩ := h
  exact ⟨h1, h2, h3, h4, h5, h6, h7, h8⟩
def isB (names : List Str) (cv : PySem.W.Frag → Value) (h : Str) (K : PySem.W.Frag) : Bool := names.all fun c => xcB K (He.ga K c) && decide (PySem.W.kitOne K (.ref (He.ga K c)) (cv K) = some (catX c h))
structure IsC (G : Gx) (cv : Value) (h : Str) : Prop where
  xc : ∀ c D, G.cl c = some D → ExcC G.K D
  ex : ∀ c D, G.cl c = some D → PySem.W.kitOne G.K (.ref D) cv = some (catX c h)
theorem isC_of {names : List Str} {cv : PySem.W.Frag → Value} {h : Str} {K : PySem.W.Frag} (b : isB names cv h K = true) : IsC ⟨K, clOf names K⟩ (cv K) h := by
  have key : ∀ c D, clOf names K c = some D → ExcC K D ∧ PySem.W.kitOne K (.ref D) (cv K) = some (catX c h) := fun c D e => by
    unfold clOf at e
    by_cases q : names.contains c = true
    · rw [if_pos q] at e
      cases e
      obtain ⟨h1, h2⟩ := Bool.and_eq_true_iff.mp (List.all_eq_true.mp b c (List.contains_iff_mem.mp q))
      exact ⟨xcB_ok h1, of_decide_eq_true h2⟩
    · rw [if_neg q] at e; cases e
  exact ⟨fun c D e => (key c D e).1, fun c D e => (key c D e).2⟩
def rIsX (K : PySem.W.Frag) (cls : Value) (d : Option Addr) (a : Addr) : List V → Hp → VK → Prop := fun xs H Q => ∃ D, cls = .ref D ∧ d = none ∧ ExcC K D ∧ rIsE K D a xs H Q
section
variable {X : Cx} {J : Jx} {a : Addr} {oe : Obj} {cls : Value} {d : Option Addr} {pn : List (Addr × Obj)}
theorem call_isX (hz : Zc cls d oe) (hf : ∃ vs, oe.data = .fields vs) : CallR (X.suite a ((a, oe) :: pn)) (.builtin "isinstance") (rIsX X.K cls d a) := by
  intro pins s σ H xs us Q I r h
  obtain ⟨D, rfl, rfl, C, h⟩ := h
  exact call_isE C hz hf pins s σ H xs us Q I r h
theorem mv_isX (i : Nat) {nm x2 : Str} {cv : Value} {c : V} {p p1 p2 pos : Pos} (b : Bas (X.suite a ((a, oe) :: pn)) (J.su a cls d)) (hz : Zc cls d oe) (hf : ∃ vs, oe.data = .fields vs) (I : IsC J.toGx cv x2) (hcv : ∀ u, RelV c u → u = cv)
    (hc2 : PE (X.suite a ((a, oe) :: pn)) (.Name x2 p2) (tC c)) (hm : X.mg "isinstance" = none) (hN : X.N[i]? = some nm := by rfl) (hv : Vis X.env.scope nm := by first | exact Or.inl rfl | exact Or.inr (Or.inl rfl) | exact Or.inr (Or.inr rfl)) (hd : (nm == ("__debug__" : Str)) = false := by decide)
    (hcd : (nm == ("__classdict__" : Str)) = false := by decide) (hg : Gl X "isinstance" := by rfl)
    (h1 : starEach [.Name nm p1, .Name x2 p2] X.env = (false, eval (.Name nm p1) X.env) :: starEach [.Name x2 p2] X.env := by rfl) (h2 : starEach [.Name x2 p2] X.env = (false, eval (.Name x2 p2) X.env) :: starEach [] X.env := by rfl) (hpl : (backTo pos (starEach [.Name x2 p2] X.env)).any (·.1) = false := by rfl) :
    MV (X.suite a ((a, oe) :: pn)) (J.su a cls d) (.Call (.Name "isinstance" p) [.Name nm p1, .Name x2 p2] [] pos) (isX i x2) := by
  refine ⟨pe_imp (pe_callB (X := X.suite a ((a, oe) :: pn)) (call_isX hz hf) hg hm PyProof.Rows.boot_isinstance (pa_cons (pv (X := X.suite a ((a, oe) :: pn)) i hN hv hd hcd) (pa_cons hc2 pa_nil h2) h1) (by decide) (by decide) h1 hpl) fun σ H Q ⟨Hse, He, env, Hs, Hr, R, p⟩ => ?_⟩
  unfold isX at p
  split at p
  · rename_i c' q
    obtain ⟨a', cv', d', g1, g2, g3⟩ := R.slot i _ q
    cases g1
    obtain ⟨D, k1, rfl, k3⟩ := g3
    have kd : d = none := by
      rcases k3 with ⟨_, _, k⟩ | ⟨_, _, _, _, _, k, _⟩
      · exact k
      · exact absurd rfl k
    subst kd
    have eK : X.K = J.K := b.K
    refine ⟨_, g2, D, rfl, rfl, by rw [eK]; exact I.xc _ D k1, c, cv, catX c' x2, rfl, hcv, by rw [eK]; exact I.ex _ D k1, Post.nowB R.ok p⟩
  · exact (show False from p).elim
end
end DL

namespace DL
open PySem PySem.Spec PyProof.Rows L2

theorem whileS_stop {c : Env → Res Bool} {b : Env → SR} {env : Env} (h : c env = .ok false) : whileS c b env = .nx env :=
  whileS_of 1 (by rw [whileN, h] <;> rfl) rfl
theorem whileS_step {c : Env → Res Bool} {b : Env → SR} {env e : Env} {r : SR} (h : c env = .ok true) (hb : b env = .nx e) (hr : whileS c b e = r) (nb : r.isBad = false) : whileS c b env = r := by
  obtain ⟨n, hn⟩ := whileS_get (c := c) (b := b) (env := e) (by rw [hr]; exact nb)
  refine whileS_of (n + 1) ?_ nb
  rw [whileN, h]
  simp only [Res.st_ok, if_true, hb]
  exact hn.trans hr
theorem whileS_ret {c : Env → Res Bool} {b : Env → SR} {env : Env} {r : SR} (h : c env = .ok true) (hb : b env = r) (hr : match r with | .rt _ => True | .exc _ _ _ _ => True | _ => False) : whileS c b env = r := by
  refine whileS_of 1 ?_ (by cases r <;> first | rfl | exact hr.elim)
  rw [whileN, h]
  simp only [Res.st_ok, if_true, hb]
  cases r <;> first | rfl | exact hr.elim
/-! ### evaluation -/
@[simp] theorem bin1_ {α : Type} (f : Env → Res TV) (k : TV → Res α) (env : Env) : bin1 f k env = (f env).bind k := (rfl)
@[simp] theorem bin2_ {α : Type} (f g : Env → Res TV) (k : TV → TV → Res α) (env : Env) : bin2 f g k env = (f env).bind fun x => (g env).bind fun y => k x y := (rfl)
@[simp] theorem cst_ (d : D) (env : Env) : cst d env = .ok (.s, d) := (rfl)
@[simp] theorem argN_ (env : Env) : argN env = .ok [] := (rfl)
@[simp] theorem argC_ (f : Env → Res TV) (F : Env → Res (List TV)) (env : Env) : argC f F env = (f env).bind fun x => (F env).bind fun xs => .ok (x :: xs) := (rfl)
@[simp] theorem thenK_ {α β : Type} (F : Env → Res α) (k : α → Res β) (env : Env) : thenK F k env = (F env).bind k := (rfl)
@[simp] theorem mvD_ (f : Env → Res EV) (env : Env) : mvD f env = (f env).bind asV := (rfl)
@[simp] theorem meD_ (f : Env → Res TV) (env : Env) : meD f env = (f env).map asE := (rfl)
@[simp] theorem tstB_ (f : Env → Res TV) (env : Env) : tstB f env = (f env).bind bOf := (rfl)
@[simp] theorem seqS_ (F K : Env → SR) (env : Env) : seqS F K env = (F env).then K := (rfl)
@[simp] theorem setS_ (i : Nat) (fe : Env → Res EV) (env : Env) : setS i fe env = (fe env).st env (putE i env) := (rfl)
@[simp] theorem retS_ (fe : Env → Res EV) (env : Env) : retS fe env = (fe env).st env fun v => .rt v := (rfl)
@[simp] theorem exprS_ (fe : Env → Res EV) (env : Env) : exprS fe env = (fe env).st env (dropE env) := (rfl)
@[simp] theorem retN_ (env : Env) : retN env = .rt (.val .s .non) := (rfl)
@[simp] theorem ifS_ (c : Env → Res Bool) (F G : Env → SR) (env : Env) : ifS c F G env = (c env).st env fun b => if b = true then F env else G env := (rfl)
@[simp] theorem asgS_ (f : Env → Res TV) (g : TV → Env → Option Env) (env : Env) : asgS f g env = (f env).st env fun x => match g x env with | some e => .nx e | none => .bad := (rfl)
@[simp] theorem frzD_ (i : Nat) (F : Env → SR) (env : Env) : frzD i F env = F (frzE i env) := (rfl)
@[simp] theorem forS_ (it : Env → Res TVs) (g : TV → Env → Option Env) (b : Env → SR) (env : Env) : forS it g b env = (it env).st env fun x => forD g b x.1 x.2 env := (rfl)
@[simp] theorem lcS_ (it : Env → Res TVs) (own : List Nat) (g : TV → Env → Option Env) (c : Env → Res Bool) (el : Env → Res TV) (env : Env) : lcS it own g c el env = (it env).bind (lcK g c el (wipeE env own)) := (rfl)
@[simp] theorem andB_ (f g : Env → Res Bool) (env : Env) : andB f g env = (f env).bind fun b => if b = true then g env else .ok false := (rfl)
@[simp] theorem orB_ (f g : Env → Res Bool) (env : Env) : orB f g env = (f env).bind fun b => if b = true then .ok true else g env := (rfl)
@[simp] theorem notB_ (f : Env → Res Bool) (env : Env) : notB f env = (f env).bind fun b => .ok (!b) := (rfl)
@[simp] theorem andV_ (f g : Env → Res TV) (env : Env) : andV f g env = (f env).bind fun x => match x.2 with | .bl true => g env | .bl false => okb false | _ => .bad := (rfl)
@[simp] theorem orV_ (f g : Env → Res TV) (env : Env) : orV f g env = (f env).bind fun x => match x.2 with | .bl true => okb true | .bl false => g env | _ => .bad := (rfl)
@[simp] theorem ifV_ {α : Type} (c : Env → Res Bool) (f g : Env → Res α) (env : Env) : ifV c f g env = (c env).bind fun b => if b = true then f env else g env := (rfl)
@[simp] theorem chain2_ (f g h : Env → Res TV) (k k' : TV → TV → Res TV) (env : Env) : chain2 f g h k k' env = (f env).bind fun x => (g env).bind fun y => (k x y).bind fun z => match z.2 with
  | .bl true => (h env).bind fun w => k' y w
  | .bl false => okb false
  | _ => .bad := rfl
@[simp] theorem slice_ (f : Env → Res TV) (l u : Env → Res (Option Int)) (env : Env) : slice f l u env = (f env).bind fun x => (l env).bind fun lo => (u env).bind fun hi => kSl x lo hi := (rfl)
@[simp] theorem partN_ (env : Env) : partN env = .ok none := (rfl)
@[simp] theorem yes_ (env : Env) : yes env = .ok true := (rfl)
@[simp] theorem dict0_ (env : Env) : dict0 env = .ok (.ownd [] []) := (rfl)
@[simp] theorem parS_ (i j : Nat) (f f2 : Env → Res TV) (env : Env) : parS i j f f2 env = (f env).st env fun x => (f2 env).st env fun y => match toSlot (.val x.1 x.2), toSlot (.val y.1 y.2) with
  | some a, some b => .nx ((env.set i (some a)).set j (some b))
  | _, _ => .bad := rfl
theorem getV_def (i : Nat) (env : Env) : getV i env = match env[i]? with
  | some (some (.val t d)) => .ok (t, d)
  | some (some (.own xs)) => .ok (.o, .lst xs)
  | some (some (.ownd ks xs)) => .ok (.o, .dic ks xs)
  | _ => .bad := rfl
/-- by places -/
@[simp] theorem getV_0v (t : Tg) (d : D) (r : Env) : getV 0 (some (.val t d) :: r) = .ok (t, d) := (rfl)
@[simp] theorem getV_0o (xs : List D) (r : Env) : getV 0 (some (.own xs) :: r) = .ok (.o, .lst xs) := (rfl)
@[simp] theorem getV_0d (ks : List Key) (xs : List D) (r : Env) : getV 0 (some (.ownd ks xs) :: r) = .ok (.o, .dic ks xs) := (rfl)
@[simp] theorem getV_s (i : Nat) (x : Option EV) (r : Env) : getV (i + 1) (x :: r) = getV i r := by
  unfold getV
  rw [List.getElem?_cons_succ]
@[simp] theorem retV_0 (e : EV) (r : Env) : retV 0 (some e :: r) = (match e with | .val t d => .rt (.val t d) | .own xs => .rt (.own xs) | .ownd ks xs => .rt (.ownd ks xs) | .exn _ _ _ => .bad) := by
  cases e <;> rfl
@[simp] theorem retV_s (i : Nat) (x : Option EV) (r : Env) : retV (i + 1) (x :: r) = retV i r := by
  unfold retV
  rw [List.getElem?_cons_succ]
@[simp] theorem asV_v (t : Tg) (d : D) : asV (.val t d) = .ok (t, d) := (rfl)
@[simp] theorem asV_o (xs : List D) : asV (.own xs) = .ok (.s, .lst xs) := (rfl)
@[simp] theorem asV_d (ks : List Key) (xs : List D) : asV (.ownd ks xs) = .ok (.s, .dic ks xs) := (rfl)
@[simp] theorem asE_ (x : TV) : asE x = .val x.1 x.2 := (rfl)
@[simp] theorem bOf_ (t : Tg) (b : Bool) : bOf (t, .bl b) = .ok b := (rfl)
@[simp] theorem oki_ (i : Int) : oki i = .ok (.s, .int i) := (rfl)
@[simp] theorem okb_ (b : Bool) : okb b = .ok (.s, .bl b) := (rfl)
@[simp] theorem asI2_ {α : Type} (k : Int → Int → Res α) (t u : Tg) (i j : Int) : asI2 k (t, .int i) (u, .int j) = k i j := (rfl)
@[simp] theorem kSub_ (i j : Int) : kSub i j = .ok (.s, .int (i - j)) := (rfl)
@[simp] theorem kLt_ (i j : Int) : kLt i j = .ok (.s, .bl (decide (i < j))) := (rfl)
@[simp] theorem kLe_ (i j : Int) : kLe i j = .ok (.s, .bl (decide (i ≤ j))) := (rfl)
@[simp] theorem kGt_ (i j : Int) : kGt i j = .ok (.s, .bl (decide (j < i))) := (rfl)
@[simp] theorem kGe_ (i j : Int) : kGe i j = .ok (.s, .bl (decide (j ≤ i))) := (rfl)
theorem kFdiv_ {i j : Int} (h : 0 < j) (h2 : Sm j) : kFdiv i j = .ok (.s, .int (i / j)) := by
  unfold kFdiv
  rw [if_pos ⟨by omega, h2⟩, Int.fdiv_eq_ediv_of_nonneg i (by omega)] <;> rfl
theorem kMod_ {i j : Int} (h : 0 < j) : kMod i j = .ok (.s, .int (i % j)) := by
  unfold kMod
  rw [if_pos (by omega), Int.fmod_eq_emod_of_nonneg i (by omega)] <;> rfl
@[simp] theorem kAdd_i (t u : Tg) (i j : Int) : kAdd (t, .int i) (u, .int j) = .ok (.val .s (.int (i + j))) := (rfl)
theorem kMul_i {t u : Tg} {i j : Int} (h : Sm i) (h2 : Sm j) : kMul (t, .int i) (u, .int j) = .ok (.val .s (.int (i * j))) := by
  unfold kMul
  dsimp only
  rw [if_pos ⟨h, h2⟩]
@[simp] theorem imm_int (i : Int) : imm (.int i) = true := by simp [imm]
@[simp] theorem imm_bl (i : Bool) : imm (.bl i) = true := by simp [imm]
@[simp] theorem imm_non : imm .non = true := by simp [imm]
@[simp] theorem imm_str (i : Str) : imm (.str i) = true := by simp [imm]
@[simp] theorem imm_lst (xs : List D) : imm (.lst xs) = false := by simp [imm]
@[simp] theorem imm_dic (ks : List Key) (xs : List D) : imm (.dic ks xs) = false := by simp [imm]
@[simp] theorem imm_scr (xs : List Int) : imm (.scr xs) = false := by simp [imm]
@[simp] theorem imm_tup (xs : List D) : imm (.tup xs) = imms xs := by simp [imm]
@[simp] theorem imms_nil : imms [] = true := by simp [imms]
@[simp] theorem imms_cons (d : D) (r : List D) : imms (d :: r) = (imm d && imms r) := by simp [imms]
@[simp] theorem imms_ints : ∀ ns : List Int, imms (ns.map D.int) = true
  | [] => by simp
  | n :: r => by rw [List.map_cons, imms_cons, imms_ints r] <;> simp
theorem imms_append : ∀ (a b : List D), imms (a ++ b) = (imms a && imms b)
  | [], b => by simp
  | d :: r, b => by rw [List.cons_append, imms_cons, imms_cons, imms_append r b, Bool.and_assoc]
theorem imms_all (xs : List D) : imms xs = xs.all imm := by
  induction xs with
  | nil => simp
  | cons d r ih => simp [ih]
theorem toSlot_v (t : Tg) (d : D) : toSlot (.val t d) = if imm d = true then some (.val .s d) else match t with
    | .s => some (.val .s d)
    | .r => some (.val .r d)
    | _ => none := rfl
@[simp] theorem toSlot_s (d : D) : toSlot (.val .s d) = some (.val .s d) := by rw [toSlot_v]; split <;> rfl
@[simp] theorem toSlot_r (d : D) : toSlot (.val .r d) = some (.val (if imm d = true then .s else .r) d) := by rw [toSlot_v]; split <;> rfl
@[simp] theorem toSlot_h (d : D) (h : imm d = true) : toSlot (.val .h d) = some (.val .s d) := by rw [toSlot_v, if_pos h]
@[simp] theorem toSlot_o (xs : List D) : toSlot (.own xs) = some (.own xs) := (rfl)
@[simp] theorem toSlot_d (ks : List Key) (xs : List D) : toSlot (.ownd ks xs) = some (.ownd ks xs) := (rfl)
theorem putE_def (i : Nat) (env : Env) (v : EV) : putE i env v = match toSlot v with
  | some e => .nx (env.set i (some e))
  | none => .bad := rfl
@[simp] theorem putE_s (i : Nat) (env : Env) (d : D) : putE i env (.val .s d) = .nx (env.set i (some (.val .s d))) := by rw [putE_def, toSlot_s]
@[simp] theorem putE_r (i : Nat) (env : Env) (d : D) : putE i env (.val .r d) = .nx (env.set i (some (.val (if imm d = true then .s else .r) d))) := by rw [putE_def, toSlot_r]
@[simp] theorem putE_h (i : Nat) (env : Env) (d : D) (h : imm d = true) : putE i env (.val .h d) = .nx (env.set i (some (.val .s d))) := by rw [putE_def, toSlot_h d h]
@[simp] theorem putE_i (i : Nat) (env : Env) (t : Tg) (n : Int) : putE i env (.val t (.int n)) = .nx (env.set i (some (.val .s (.int n)))) := by cases t <;> simp [putE_def, toSlot_v]
@[simp] theorem putE_b (i : Nat) (env : Env) (t : Tg) (n : Bool) : putE i env (.val t (.bl n)) = .nx (env.set i (some (.val .s (.bl n)))) := by cases t <;> simp [putE_def, toSlot_v]
@[simp] theorem putE_own (i : Nat) (env : Env) (xs : List D) : putE i env (.own xs) = .nx (env.set i (some (.own xs))) := (rfl)
@[simp] theorem putE_ownd (i : Nat) (env : Env) (ks : List Key) (xs : List D) : putE i env (.ownd ks xs) = .nx (env.set i (some (.ownd ks xs))) := (rfl)
theorem gdN_def (i : Nat) (x : TV) (env : Env) : gdN i x env = match toSlot (.val x.1 x.2) with
  | some e => some (env.set i (some e))
  | none => none := rfl
@[simp] theorem gdN_s (i : Nat) (d : D) (env : Env) : gdN i (.s, d) env = some (env.set i (some (.val .s d))) := by simp [gdN_def]
@[simp] theorem gdN_r (i : Nat) (d : D) (env : Env) : gdN i (.r, d) env = some (env.set i (some (.val (if imm d = true then .s else .r) d))) := by simp [gdN_def]
@[simp] theorem gdN_i (i : Nat) (t : Tg) (n : Int) (env : Env) : gdN i (t, .int n) env = some (env.set i (some (.val .s (.int n)))) := by cases t <;> simp [gdN_def, toSlot_v]
@[simp] theorem gdNil_ (env : Env) : gdNil [] env = some env := (rfl)
@[simp] theorem gdC_ (g : TV → Env → Option Env) (gs : List TV → Env → Option Env) (x : TV) (r : List TV) (env : Env) : gdC g gs (x :: r) env = match g x env with
    | some env' => gs r env'
    | none => none := rfl
@[simp] theorem gdT_t (n : Nat) (gs : List TV → Env → Option Env) (t : Tg) (ds : List D) (env : Env) : gdT n gs (t, .tup ds) env = if ds.length = n then gs (ds.map fun d => (itT t, d)) env else none := (rfl)
@[simp] theorem gdT_l (n : Nat) (gs : List TV → Env → Option Env) (t : Tg) (ds : List D) (env : Env) : gdT n gs (t, .lst ds) env = if ds.length = n then gs (ds.map fun d => (itT t, d)) env else none := (rfl)
@[simp] theorem itT_s : itT .s = .s := (rfl)
@[simp] theorem itT_r : itT .r = .r := (rfl)
@[simp] theorem itT_h : itT .h = .h := (rfl)
@[simp] theorem itT_o : itT .o = .s := (rfl)
theorem toArg_def (x : TV) : toArg x = if imm x.2 = true then .val .s x.2 else match x.1 with
  | .s => .val .s x.2
  | _ => .val .r x.2 := rfl
@[simp] theorem toArg_s (d : D) : toArg (.s, d) = .val .s d := by rw [toArg_def]; split <;> rfl
@[simp] theorem toArg_i (t : Tg) (n : Int) : toArg (t, .int n) = .val .s (.int n) := by simp [toArg_def]
@[simp] theorem toArg_r (d : D) : toArg (.r, d) = .val (if imm d = true then .s else .r) d := by rw [toArg_def]; dsimp only; split <;> rfl
@[simp] theorem toArg_h (d : D) : toArg (.h, d) = .val (if imm d = true then .s else .r) d := by rw [toArg_def]; dsimp only; split <;> rfl
@[simp] theorem toArg_o (d : D) : toArg (.o, d) = .val (if imm d = true then .s else .r) d := by rw [toArg_def]; dsimp only; split <;> rfl
@[simp] theorem fromRet_s (d : D) : fromRet (.val .s d) = .val .s d := by
  show (if imm d = true then _ else _) = _
  split <;> rfl
@[simp] theorem fromRet_o (xs : List D) : fromRet (.own xs) = .own xs := (rfl)
@[simp] theorem fromRet_d (ks : List Key) (xs : List D) : fromRet (.ownd ks xs) = .ownd ks xs := (rfl)
theorem fromRet_v (t : Tg) (d : D) (h : imm d = true) : fromRet (.val t d) = .val .s d := if_pos h
@[simp] theorem fromRet_i (t : Tg) (d : Int) : fromRet (.val t (.int d)) = .val .s (.int d) := fromRet_v _ _ (by simp)
@[simp] theorem fromRet_b (t : Tg) (d : Bool) : fromRet (.val t (.bl d)) = .val .s (.bl d) := fromRet_v _ _ (by simp)
@[simp] theorem fromRet_n (t : Tg) : fromRet (.val t .non) = .val .s .non := fromRet_v _ _ (by simp)
@[simp] theorem callD_ (F : List EV → Res EV) (xs : List TV) : callD F xs = (F (xs.map toArg)).map fromRet := (rfl)
@[simp] theorem outD_rt (e : EV) : outD (.rt e) = .ok e := (rfl)
@[simp] theorem outD_nx (e : Env) : outD (.nx e) = .ok (.val .s .non) := (rfl)
@[simp] theorem outD_exc (c : Str) (ks : List Str) (vs : List D) (env : Env) : outD (.exc c ks vs env) = .exc c ks vs := (rfl)
@[simp] theorem runD_ (n : Nat) (B : Env → SR) (args : List EV) : runD n B args = outD (B (args.map some ++ List.replicate (n - args.length) none)) := (rfl)
@[simp] theorem kNeg_ (t : Tg) (i : Int) : kNeg (t, .int i) = .ok (.s, .int (-i)) := (rfl)
@[simp] theorem kNotB_ (t : Tg) (i : Bool) : kNotB (t, .bl i) = .ok (.s, .bl (!i)) := (rfl)
@[simp] theorem kAbs_ (t : Tg) (i : Int) : kAbs [(t, .int i)] = .ok (.s, .int (i.natAbs : Nat)) := by
  have : (if i < 0 then -i else i) = ((i.natAbs : Nat) : Int) := by split <;> omega
  show oki _ = _
  rw [this] <;> rfl
@[simp] theorem kLen_l (t : Tg) (xs : List D) : kLen [(t, .lst xs)] = .ok (.s, .int xs.length) := (rfl)
@[simp] theorem kLen_t (t : Tg) (xs : List D) : kLen [(t, .tup xs)] = .ok (.s, .int xs.length) := (rfl)
@[simp] theorem kLen_s (t : Tg) (xs : List Int) : kLen [(t, .scr xs)] = .ok (.s, .int xs.length) := (rfl)
@[simp] theorem kInt_i (t : Tg) (i : Int) : kInt [(t, .int i)] = .ok (.s, .int i) := (rfl)
@[simp] theorem kInt_b (t : Tg) (i : Bool) : kInt [(t, .bl i)] = .ok (.s, .int (if i then 1 else 0)) := (rfl)
@[simp] theorem truK_b (t : Tg) (b : Bool) : truK (t, .bl b) = .ok b := (rfl)
@[simp] theorem truK_i (t : Tg) (b : Int) : truK (t, .int b) = .ok (b != 0) := (rfl)
@[simp] theorem kIx_l (t u : Tg) (xs : List D) (i : Int) : kIx (t, .lst xs) (u, .int i) = match atI xs i with | some d => .ok (itT t, d) | none => .bad := (rfl)
@[simp] theorem kIx_t (t u : Tg) (xs : List D) (i : Int) : kIx (t, .tup xs) (u, .int i) = match atI xs i with | some d => .ok (itT t, d) | none => .bad := (rfl)
@[simp] theorem kIx_s (t u : Tg) (xs : List Int) (i : Int) : kIx (t, .scr xs) (u, .int i) = match atI xs i with | some d => .ok (.s, .int d) | none => .bad := (rfl)
@[simp] theorem kSeq_sl (xs : List D) : kSeq (.s, .lst xs) = .ok (.s, xs) := (rfl)
@[simp] theorem kSeq_rl (xs : List D) : kSeq (.r, .lst xs) = .ok (.r, xs) := (rfl)
@[simp] theorem kSeq_st (xs : List D) : kSeq (.s, .tup xs) = .ok (.s, xs) := (rfl)
@[simp] theorem kSeq_rt (xs : List D) : kSeq (.r, .tup xs) = .ok (.r, xs) := (rfl)
@[simp] theorem kRng1_ (t : Tg) (j : Int) : kRng1 [(t, .int j)] = if -(2 ^ 60) ≤ j ∧ j < 2 ^ 60 then .ok (.s, rngD 0 j.toNat) else .bad := (rfl)
@[simp] theorem isNonD_ : isNonD .non = true := (rfl)
@[simp] theorem isNonD_i (i : Int) : isNonD (.int i) = false := (rfl)
@[simp] theorem kIsN2_ (x : TV) (t : Tg) : kIsN2 x (t, .non) = .ok (.s, .bl (isNonD x.2)) := (rfl)
@[simp] theorem kNotN2_ (x : TV) (t : Tg) : kNotN2 x (t, .non) = .ok (.s, .bl (!isNonD x.2)) := (rfl)
@[simp] theorem shV_s (d : D) : shV (.s, d) = true := (rfl)
@[simp] theorem shV_i (t : Tg) (d : Int) : shV (t, .int d) = true := by cases t <;> simp [shV]
theorem shV_imm (t : Tg) (d : D) (h : imm d = true) : shV (t, d) = true := by cases t <;> simp [shV, h]
theorem tagA_s {xs : List TV} (h : xs.all shV = true) : tagA xs = .s := if_pos h
@[simp] theorem forD_nil (g : TV → Env → Option Env) (b : Env → SR) (t : Tg) (env : Env) : forD g b t [] env = .nx env := (rfl)
@[simp] theorem ownL_0 (xs : List D) (r : Env) (k : List D → SR) : ownL 0 (some (.own xs) :: r) k = k xs := (rfl)
theorem ownL_s (i : Nat) (x : Option EV) (r : Env) (k : List D → SR) : ownL (i + 1) (x :: r) k = ownL i r k := by
  unfold ownL
  rw [List.getElem?_cons_succ]
/-! booleans and numbers compared -/
theorem deq_ii (i j : Int) : deq (.int i) (.int j) = decide (i = j) := by
  show (i == j) = _
  exact Bool.beq_eq_decide_eq i j
@[simp] theorem kEq_ii (t u : Tg) (i j : Int) : kEq (t, .int i) (u, .int j) = .ok (.s, .bl (decide (i = j))) := by
  unfold kEq
  rw [if_pos ⟨by simp [dOk], by simp [dOk]⟩, deq_ii] <;> rfl
@[simp] theorem kNe_ii (t u : Tg) (i j : Int) : kNe (t, .int i) (u, .int j) = .ok (.s, .bl (!decide (i = j))) := by
  unfold kNe
  rw [if_pos ⟨by simp [dOk], by simp [dOk]⟩, deq_ii] <;> rfl
theorem deq_bb (i j : Bool) : deq (.bl i) (.bl j) = (i == j) := rfl
@[simp] theorem kEq_bb (t u : Tg) (i j : Bool) : kEq (t, .bl i) (u, .bl j) = .ok (.s, .bl (i == j)) := by
  unfold kEq
  rw [if_pos ⟨by simp [dOk], by simp [dOk]⟩, deq_bb] <;> rfl
theorem kIsi_def (n : String) (t : Tg) (d : D) : kIsi n (t, d) = match isiT n d with | some b => okb b | none => .bad := rfl
@[simp] theorem isi_ii (t : Tg) (i : Int) : kIsi "int" (t, .int i) = .ok (.s, .bl true) := by
  rw [kIsi_def, show isiT "int" (.int i) = some true from by show kitB "int" "int" = _; decide +kernel] <;> rfl
@[simp] theorem isi_ib (t : Tg) (i : Bool) : kIsi "int" (t, .bl i) = .ok (.s, .bl true) := by
  rw [kIsi_def, show isiT "int" (.bl i) = some true from by show kitB "bool" "int" = _; decide +kernel] <;> rfl
@[simp] theorem isi_in (t : Tg) : kIsi "int" (t, .non) = .ok (.s, .bl false) := by
  rw [kIsi_def, show isiT "int" .non = some false from by show kitB "NoneType" "int" = _; decide +kernel] <;> rfl
@[simp] theorem isi_is (t : Tg) (i : Str) : kIsi "int" (t, .str i) = .ok (.s, .bl false) := by
  rw [kIsi_def, show isiT "int" (.str i) = some false from by show kitB "str" "int" = _; decide +kernel] <;> rfl
@[simp] theorem isi_it (t : Tg) (i : List D) : kIsi "int" (t, .tup i) = .ok (.s, .bl false) := by
  rw [kIsi_def, show isiT "int" (.tup i) = some false from by show kitB "tuple" "int" = _; decide +kernel] <;> rfl
@[simp] theorem isi_il (t : Tg) (i : List D) : kIsi "int" (t, .lst i) = .ok (.s, .bl false) := by
  rw [kIsi_def, show isiT "int" (.lst i) = some false from by show kitB "list" "int" = _; decide +kernel] <;> rfl
@[simp] theorem isi_id (t : Tg) (k : List Key) (i : List D) : kIsi "int" (t, .dic k i) = .ok (.s, .bl false) := by
  rw [kIsi_def, show isiT "int" (.dic k i) = some false from by show kitB "dict" "int" = _; decide +kernel] <;> rfl
@[simp] theorem isi_bi (t : Tg) (i : Int) : kIsi "bool" (t, .int i) = .ok (.s, .bl false) := by
  rw [kIsi_def, show isiT "bool" (.int i) = some false from by show kitB "int" "bool" = _; decide +kernel] <;> rfl
@[simp] theorem isi_bb (t : Tg) (i : Bool) : kIsi "bool" (t, .bl i) = .ok (.s, .bl true) := by
  rw [kIsi_def, show isiT "bool" (.bl i) = some true from by show kitB "bool" "bool" = _; decide +kernel] <;> rfl
end DL

namespace DL
open PySem PySem.Spec PyProof.Rows L2
/-! ### bounds by figures -/
def Bd (n : Nat) (i : Int) : Prop := i.natAbs ≤ 10 ^ n
theorem Bd.sm {n : Nat} {i : Int} (h : Bd n i) (hn : n < 150 := by decide) : Sm i := by
  have h1 : (10 : Nat) ^ n < 10 ^ 150 := Nat.pow_lt_pow_right (by decide) hn
  have h2 : i.natAbs < 10 ^ 150 := Nat.lt_of_le_of_lt h h1
  unfold Sm
  omega
theorem Bd.mul {a b : Nat} {i j : Int} (h : Bd a i) (k : Bd b j) : Bd (a + b) (i * j) := by
  unfold Bd at *
  rw [Int.natAbs_mul, Nat.pow_add]
  exact Nat.mul_le_mul h k
theorem Bd.up {a b : Nat} {i : Int} (h : Bd a i) (k : a ≤ b := by decide) : Bd b i := Nat.le_trans h (Nat.pow_le_pow_right (by decide) k)
theorem Bd.add {a : Nat} {i j : Int} (h : Bd a i) (k : Bd a j) : Bd (a + 1) (i + j) := by
  unfold Bd at *
  rw [Nat.pow_succ]
  omega
theorem Bd.add' {a b : Nat} {i j : Int} (h : Bd a i) (k : Bd b j) : Bd (max a b + 1) (i + j) := (Bd.up h (Nat.le_max_left _ _)).add (Bd.up k (Nat.le_max_right _ _))
theorem Bd.neg {a : Nat} {i : Int} (h : Bd a i) : Bd a (-i) := by unfold Bd at *; omega
theorem Bd.sub' {a b : Nat} {i j : Int} (h : Bd a i) (k : Bd b j) : Bd (max a b + 1) (i - j) := by rw [Int.sub_eq_add_neg]; exact h.add' k.neg
theorem Bd.of {n : Nat} {i : Int} (h : -(10 ^ n) ≤ i) (k : i ≤ 10 ^ n) : Bd n i := by
  unfold Bd
  have e : ((10 ^ n : Nat) : Int) = 10 ^ n := by simp
  omega
theorem Bd.r {n : Nat} {i m : Int} (h : 0 ≤ i) (k : i < m) (hm : m ≤ 10 ^ n) : Bd n i := .of (by have : (0 : Int) ≤ 10 ^ n := Int.le_of_lt (Int.pow_pos (by decide)); omega) (by omega)
theorem Bd.emod {n : Nat} {i m : Int} (k : 0 < m) (hm : m ≤ 10 ^ n) : Bd n (i % m) := .r (Int.emod_nonneg _ (by omega)) (Int.emod_lt_of_pos _ k) hm
/-! ### freezing -/
theorem frzE_def (i : Nat) (env : Env) : frzE i env = match env[i]? with
  | some (some (.own xs)) => env.set i (some (.val .s (.lst xs)))
  | some (some (.ownd ks xs)) => env.set i (some (.val .s (.dic ks xs)))
  | _ => env := rfl
@[simp] theorem frzE_0v (t : Tg) (d : D) (r : Env) : frzE 0 (some (.val t d) :: r) = some (.val t d) :: r := (rfl)
@[simp] theorem frzE_0o (xs : List D) (r : Env) : frzE 0 (some (.own xs) :: r) = some (.val .s (.lst xs)) :: r := (rfl)
@[simp] theorem frzE_0d (ks : List Key) (xs : List D) (r : Env) : frzE 0 (some (.ownd ks xs) :: r) = some (.val .s (.dic ks xs)) :: r := (rfl)
@[simp] theorem frzE_0n (r : Env) : frzE 0 (none :: r) = none :: r := (rfl)
@[simp] theorem frzE_s (i : Nat) (x : Option EV) (r : Env) : frzE (i + 1) (x :: r) = x :: frzE i r := by
  rw [frzE_def, frzE_def, List.getElem?_cons_succ]
  generalize r[i]? = z
  rcases z with _ | _ | e
  · rfl
  · rfl
  · cases e <;> rfl
/-! ### loops -/
theorem forD_nx {g : TV → Env → Option Env} {b : Env → SR} {t : Tg} {d : D} {r : List D} {env e1 e2 : Env} (h : g (t, d) env = some e1) (h2 : b e1 = .nx e2) : forD g b t (d :: r) env = forD g b t r e2 := by
  rw [forD, h]
  dsimp only
  rw [h2]
theorem forD_rt {g : TV → Env → Option Env} {b : Env → SR} {t : Tg} {d : D} {r : List D} {env e1 : Env} {v : EV} (h : g (t, d) env = some e1) (h2 : b e1 = .rt v) : forD g b t (d :: r) env = .rt v := by
  rw [forD, h]
  dsimp only
  rw [h2]
/-- one round of a loop: on, or handing back -/
@[irreducible] def Rd (g : TV → Env → Option Env) (b : Env → SR) (x : TV) (env : Env) (I : Env → Prop) (R : EV → Prop) : Prop := match g x env with
  | none => False
  | some e1 => match b e1 with
    | .nx e => I e
    | .ct e => I e
    | .rt v => R v
    | _ => False
theorem Rd_def (g : TV → Env → Option Env) (b : Env → SR) (x : TV) (env : Env) (I : Env → Prop) (R : EV → Prop) : Rd g b x env I R = match g x env with
  | none => False
  | some e1 => match b e1 with
    | .nx e => I e
    | .ct e => I e
    | .rt v => R v
    | _ => False := by unfold Rd; rfl
theorem Rd.nx {g : TV → Env → Option Env} {b : Env → SR} {x : TV} {env : Env} {I : Env → Prop} {R : EV → Prop} {e1 e : Env} (h : g x env = some e1) (h2 : b e1 = .nx e) (h3 : I e) : Rd g b x env I R := by
  rw [Rd_def, h]; dsimp only; rw [h2]; exact h3
theorem Rd.ct {g : TV → Env → Option Env} {b : Env → SR} {x : TV} {env : Env} {I : Env → Prop} {R : EV → Prop} {e1 e : Env} (h : g x env = some e1) (h2 : b e1 = .ct e) (h3 : I e) : Rd g b x env I R := by
  rw [Rd_def, h]; dsimp only; rw [h2]; exact h3
theorem Rd.rt {g : TV → Env → Option Env} {b : Env → SR} {x : TV} {env : Env} {I : Env → Prop} {R : EV → Prop} {e1 : Env} {v : EV} (h : g x env = some e1) (h2 : b e1 = .rt v) (h3 : R v) : Rd g b x env I R := by
  rw [Rd_def, h]; dsimp only; rw [h2]; exact h3
/-- a loop by what holds ahead of each round -/
theorem forD_inv {g : TV → Env → Option Env} {b : Env → SR} {t : Tg} (I : Nat → Env → Prop) (R : EV → Prop) : ∀ (ds : List D) (k : Nat) (env : Env), I k env →
    (∀ (i : Nat) (d : D), ds[i]? = some d → ∀ env, I (k + i) env → Rd g b (t, d) env (I (k + i + 1)) R) →
    (∃ e, forD g b t ds env = .nx e ∧ I (k + ds.length) e) ∨ ∃ v, forD g b t ds env = .rt v ∧ R v
  | [], k, env, h, _ => .inl ⟨env, rfl, h⟩
  | d :: r, k, env, h, st => by
    have s0 := st 0 d rfl env h
    rw [Rd_def] at s0
    rw [forD]
    have go : ∀ e2, I (k + 1) e2 → (∃ e, forD g b t r e2 = .nx e ∧ I (k + (d :: r).length) e) ∨ ∃ v, forD g b t r e2 = .rt v ∧ R v := fun e2 h3 => by
      have := forD_inv (g := g) (b := b) (t := t) I R r (k + 1) e2 h3 (fun i d hd env hi => by
        have e0 : k + 1 + i = k + (i + 1) := by omega
        rw [e0] at hi ⊢
        exact st (i + 1) d (by simpa using hd) env hi)
      have e0 : k + (d :: r).length = k + 1 + r.length := by rw [List.length_cons]; omega
      rw [e0]; exact this
    generalize g (t, d) env = z at s0 ⊢
    cases z with
    | none => exact s0.elim
    | some e1 =>
      dsimp only at s0 ⊢
      generalize b e1 = y at s0 ⊢
      cases y with
      | nx e => exact go e s0
      | ct e => exact go e s0
      | rt v => exact .inr ⟨v, rfl, s0⟩
      | _ => exact s0.elim
theorem forD_go {g : TV → Env → Option Env} {b : Env → SR} {t : Tg} (I : Nat → Env → Prop) (ds : List D) (env : Env) (h : I 0 env)
    (st : ∀ (i : Nat) (d : D), ds[i]? = some d → ∀ env, I i env → Rd g b (t, d) env (I (i + 1)) fun _ => False) :
    ∃ e, forD g b t ds env = .nx e ∧ I ds.length e := by
  rcases forD_inv I (fun _ => False) ds 0 env h (fun i d hd env hi => by rw [Nat.zero_add] at hi ⊢; exact st i d hd env hi) with h | ⟨v, _, h⟩
  · rwa [Nat.zero_add] at h
  · exact h.elim
/-- over a range -/
theorem rngD_get {lo : Int} {n i : Nat} {d : D} (h : (rngD lo n)[i]? = some d) : d = .int (lo + i) ∧ i < n := by
  unfold rngD at h
  rw [List.getElem?_map, Option.map_eq_some_iff] at h
  obtain ⟨j, h1, h2⟩ := h
  have hi : i < n := by
    have := (List.getElem?_eq_some_iff.mp h1).1
    simpa using this
  rw [List.getElem?_range hi] at h1
  cases h1
  exact ⟨h2.symm, hi⟩
theorem rngD_len (lo : Int) (n : Nat) : (rngD lo n).length = n := by simp [rngD]
/-! ### powers -/
theorem kPow_10 {j : Int} (h : 0 ≤ j) (h2 : j ≤ 1000000) : kPow 10 j = .ok (.s, .int (10 ^ j.toNat)) := by
  unfold kPow
  rw [if_pos ⟨h, h2, by decide⟩] <;> rfl
/-! ### items -/
theorem ixN_nat {n i : Nat} (h : i < n) : ixN n (i : Int) = some i := by
  unfold ixN
  simp [h]
theorem atI_nat {α : Type} {xs : List α} {i : Nat} (h : i < xs.length) : atI xs (i : Int) = some xs[i] := by
  unfold atI
  rw [ixN_nat h]
  simp [h]
theorem atI_int {α : Type} {xs : List α} {i : Int} (h : 0 ≤ i) (k : i < xs.length) : atI xs i = some (xs[i.toNat]'(by omega)) := by
  have := atI_nat (xs := xs) (i := i.toNat) (by omega)
  rwa [Int.toNat_of_nonneg h] at this
theorem atI_ex {α : Type} {xs : List α} {i : Int} (h : 0 ≤ i) (k : i < xs.length) : ∃ x, x ∈ xs ∧ atI xs i = some x := ⟨_, List.getElem_mem _, atI_int h k⟩
@[simp] theorem asPart_i (t : Tg) (i : Int) : asPart (t, .int i) = .ok (some i) := (rfl)
theorem kPow_any {i j : Int} (h : 0 ≤ j) (h2 : j ≤ 1000000) (h3 : i.natAbs < 2 ^ 64) : kPow i j = .ok (.s, .int (i ^ j.toNat)) := by
  unfold kPow
  rw [if_pos ⟨h, h2, h3⟩] <;> rfl
theorem kStr_i {t : Tg} {i : Int} (h : Sm i) : kStr [(t, .int i)] = .ok (.s, .str (toString i)) := by
  unfold kStr
  dsimp only
  rw [if_pos (Nat.lt_of_lt_of_le h.log (by decide))]
/-! ### data compared -/
theorem deq_self {d : D} {n : Nat} (h : dOk n d = true) : deq d d = true := PySem.SeqAt.eqv_refl _ (dOk_shaped d n h).1
theorem dOks_ints (n : Nat) : ∀ a : List Int, dOks n (a.map D.int) = true
  | [] => by simp [dOks]
  | i :: r => by rw [List.map_cons, dOks, dOks_ints n r]; simp [dOk]
theorem deqs_ints : ∀ a b : List Int, deqs (a.map D.int) (b.map D.int) = decide (a = b)
  | [], [] => by simp [deqs, toPs, PyData.eqvAll]
  | i :: r, [] => by simp [deqs, toPs, PyData.eqvAll]
  | [], i :: r => by simp [deqs, toPs, PyData.eqvAll]
  | i :: r, j :: t => by
    have h := deqs_ints r t
    unfold deqs at h ⊢
    rw [List.map_cons, List.map_cons, toPs, toPs, PyData.eqvAll, h]
    have : PyData.eqv (toP (.int i)) (toP (.int j)) = decide (i = j) := deq_ii i j
    rw [this, Bool.eq_iff_iff]
    simp
theorem deq_ll (a b : List D) : deq (.lst a) (.lst b) = deqs a b := by simp [deq, deqs, toP, PyData.eqv]
theorem deq_tt (a b : List D) : deq (.tup a) (.tup b) = deqs a b := by simp [deq, deqs, toP, PyData.eqv]
@[simp] theorem kEq_ll (t u : Tg) (a b : List Int) : kEq (t, .lst (a.map D.int)) (u, .lst (b.map D.int)) = .ok (.s, .bl (decide (a = b))) := by
  unfold kEq
  rw [if_pos ⟨by rw [dOk]; exact dOks_ints _ _, by rw [dOk]; exact dOks_ints _ _⟩, deq_ll, deqs_ints] <;> rfl
@[simp] theorem kNe_ll (t u : Tg) (a b : List Int) : kNe (t, .lst (a.map D.int)) (u, .lst (b.map D.int)) = .ok (.s, .bl (!decide (a = b))) := by
  unfold kNe
  rw [if_pos ⟨by rw [dOk]; exact dOks_ints _ _, by rw [dOk]; exact dOks_ints _ _⟩, deq_ll, deqs_ints] <;> rfl
@[simp] theorem kEq_tt (t u : Tg) (a b : List Int) : kEq (t, .tup (a.map D.int)) (u, .tup (b.map D.int)) = .ok (.s, .bl (decide (a = b))) := by
  unfold kEq
  rw [if_pos ⟨by rw [dOk]; exact dOks_ints _ _, by rw [dOk]; exact dOks_ints _ _⟩, deq_tt, deqs_ints] <;> rfl
@[simp] theorem kNe_tt (t u : Tg) (a b : List Int) : kNe (t, .tup (a.map D.int)) (u, .tup (b.map D.int)) = .ok (.s, .bl (!decide (a = b))) := by
  unfold kNe
  rw [if_pos ⟨by rw [dOk]; exact dOks_ints _ _, by rw [dOk]; exact dOks_ints _ _⟩, deq_tt, deqs_ints] <;> rfl
/-! ### own lists, built-ins -/
@[simp] theorem kLst_nil : kLst [] = .ok (.own []) := (rfl)
@[simp] theorem ownL_ss (i : Nat) (x : Option EV) (r : Env) (k : List D → SR) : ownL (i + 1) (x :: r) k = ownL i r k := ownL_s i x r k
@[simp] theorem appS_ (i : Nat) (f : Env → Res TV) (env : Env) : appS i f env = ownL i env fun _ => (f env).st env fun x => ownL i env fun xs => if shV x = true ∧ xs.length < 16777216 then .nx (env.set i (some (.own (xs ++ [x.2])))) else .bad := (rfl)
@[simp] theorem revS_ (i : Nat) (env : Env) : revS i env = ownL i env fun xs => .nx (env.set i (some (.own xs.reverse))) := (rfl)
@[simp] theorem badS_ (env : Env) : badS env = .bad := (rfl)
@[simp] theorem kSum_i (t : Tg) (ns : List Int) : kSum [(t, .lst (ns.map D.int))] = .ok (.s, .int ns.sum) := by
  unfold kSum
  dsimp only
  rw [intsOf_map] <;> rfl
@[simp] theorem kTuple_l (t : Tg) (ys : List D) : kTuple [(t, .lst ys)] = .ok (itT t, .tup ys) := (rfl)
@[simp] theorem kTuple_t (t : Tg) (ys : List D) : kTuple [(t, .tup ys)] = .ok (t, .tup ys) := (rfl)
theorem kRevI_sr {t : Tg} (h : t = .s ∨ t = .r) (ys : List D) : kRevI (t, .lst ys) = .ok (t, ys.reverse) := by rcases h with rfl | rfl <;> rfl
theorem kSeq_sr {t : Tg} (h : t = .s ∨ t = .r) (ys : List D) : kSeq (t, .lst ys) = .ok (t, ys) := by rcases h with rfl | rfl <;> rfl
theorem kSeq_srT {t : Tg} (h : t = .s ∨ t = .r) (ys : List D) : kSeq (t, .tup ys) = .ok (t, ys) := by rcases h with rfl | rfl <;> rfl
theorem kDivmod_i {t u : Tg} {i j : Int} (h : 0 < j) (h2 : Sm j) : kDivmod [(t, .int i), (u, .int j)] = .ok (.s, .tup [.int (i / j), .int (i % j)]) := by
  unfold kDivmod
  dsimp only
  rw [if_pos ⟨h, h2⟩]
def zipD (a b : List Int) : List D := (a.zip b).map fun x => .tup [.int x.1, .int x.2]
theorem zip_map_int : ∀ (a b : List Int), ((a.map D.int).zip (b.map D.int)).map (fun z => D.tup [z.1, z.2]) = zipD a b
  | [], _ => by simp [zipD]
  | _ :: _, [] => by simp [zipD]
  | x :: a, y :: b => by
    have := zip_map_int a b
    simp [zipD] at this ⊢
    exact this
theorem kZip_ {x y : TV} {u v : TVs} (h : kSeq x = .ok u) (k : kSeq y = .ok v) : kZip [x, y] = .ok (jnT u.1 v.1, (u.2.zip v.2).map fun z => .tup [z.1, z.2]) := by
  unfold kZip
  dsimp only
  rw [h, k] <;> rfl
theorem jnT_sr (t u : Tg) : jnT t u = .s ∨ jnT t u = .r := by cases t <;> cases u <;> first | exact .inl rfl | exact .inr rfl
/-! ### comprehensions -/
theorem lcD_all {g : TV → Env → Option Env} {c : Env → Res Bool} {el : Env → Res TV} {t : Tg} {env0 : Env} (f : D → D) : ∀ ds : List D,
    (∀ d ∈ ds, ∃ e1 u, g (t, d) env0 = some e1 ∧ c e1 = .ok true ∧ el e1 = .ok (u, f d) ∧ shV (u, f d) = true) → lcD g c el t env0 ds = .ok (ds.map f)
  | [], _ => rfl
  | d :: r, h => by
    obtain ⟨e1, u, h1, h2, h3, h4⟩ := h d List.mem_cons_self
    rw [lcD, h1]
    dsimp only
    rw [h2]
    dsimp only
    rw [h3]
    dsimp only
    rw [if_pos h4, lcD_all f r fun x hx => h x (List.mem_cons_of_mem _ hx)] <;> rfl
theorem lcD_none {g : TV → Env → Option Env} {c : Env → Res Bool} {el : Env → Res TV} {t : Tg} {env0 : Env} : ∀ ds : List D,
    (∀ d ∈ ds, ∃ e1, g (t, d) env0 = some e1 ∧ c e1 = .ok false) → lcD g c el t env0 ds = .ok []
  | [], _ => rfl
  | d :: r, h => by
    obtain ⟨e1, h1, h2⟩ := h d List.mem_cons_self
    rw [lcD, h1]
    dsimp only
    rw [h2]
    dsimp only
    exact lcD_none r fun x hx => h x (List.mem_cons_of_mem _ hx)
/-- two rows alike -/
inductive All2 {α β : Type} (P : α → β → Prop) : List α → List β → Prop
  | nil : All2 P [] []
  | cons {a : α} {b : β} {l : List α} {m : List β} : P a b → All2 P l m → All2 P (a :: l) (b :: m)
theorem All2.len {α β : Type} {P : α → β → Prop} : ∀ {l : List α} {m : List β}, All2 P l m → l.length = m.length
  | _, _, .nil => rfl
  | _, _, .cons _ r => by rw [List.length_cons, List.length_cons, r.len]
theorem lcD_ex {g : TV → Env → Option Env} {c : Env → Res Bool} {el : Env → Res TV} {t : Tg} {env0 : Env} (P : D → D → Prop) : ∀ ds : List D,
    (∀ d ∈ ds, ∃ e1 u x, g (t, d) env0 = some e1 ∧ c e1 = .ok true ∧ el e1 = .ok (u, x) ∧ shV (u, x) = true ∧ P d x) → ∃ l, lcD g c el t env0 ds = .ok l ∧ All2 P ds l
  | [], _ => ⟨[], rfl, .nil⟩
  | d :: r, h => by
    obtain ⟨e1, u, x, h1, h2, h3, h4, h5⟩ := h d List.mem_cons_self
    obtain ⟨l, h6, h7⟩ := lcD_ex P r fun x hx => h x (List.mem_cons_of_mem _ hx)
    refine ⟨x :: l, ?_, .cons h5 h7⟩
    rw [lcD, h1]
    dsimp only
    rw [h2]
    dsimp only
    rw [h3]
    dsimp only
    rw [if_pos h4, h6] <;> rfl
theorem lcK_ok {g : TV → Env → Option Env} {c : Env → Res Bool} {el : Env → Res TV} {env0 : Env} {x : TVs} {l : List D} (h : lcD g c el x.1 env0 x.2 = .ok l) (hl : l.length ≤ 16777216) : lcK g c el env0 x = .ok (.own l) := by
  unfold lcK
  rw [h]
  dsimp only
  rw [if_pos hl]
@[simp] theorem wipeE_nil (env : Env) : wipeE env [] = env := (rfl)
@[simp] theorem wipeE_cons (env : Env) (v : Nat) (vs : List Nat) : wipeE env (v :: vs) = (wipeE env vs).set v none := (rfl)
@[simp] theorem sixS_ (i : Nat) (f fi : Env → Res TV) (env : Env) : sixS i f fi env = ownL i env fun _ => (f env).st env fun x => (fi env).st env fun k => ownL i env fun xs => match k.2 with
  | .int n => match ixN xs.length n with
    | some j => if shV x = true then .nx (env.set i (some (.own (xs.set j x.2)))) else .bad
    | none => .bad
  | _ => .bad := (rfl)
theorem atI_ints {l : List Int} {i : Nat} {v : Int} (h : l[i]? = some v) : atI (l.map D.int) (i : Int) = some (.int v) := by
  obtain ⟨h1, h2⟩ := List.getElem?_eq_some_iff.mp h
  rw [atI_map, atI_nat h1, h2] <;> rfl
theorem rng_map {f : D → D} (g : Nat → Int) (n : Nat) (h : ∀ i < n, f (.int (0 + (i : Nat))) = .int (g i)) : (rngD 0 n).map f = ((List.range n).map g).map D.int := by
  unfold rngD
  rw [List.map_map, List.map_map]
  refine List.map_congr_left fun i hi => ?_
  exact h i (List.mem_range.mp hi)
theorem All2.right {α β : Type} {P : α → β → Prop} {R : β → Prop} (h : ∀ a b, P a b → R b) : ∀ {l : List α} {m : List β}, All2 P l m → ∀ x ∈ m, R x
  | _, _, .nil, x, hx => by cases hx
  | _, _, .cons p r, x, hx => by
    rcases List.mem_cons.mp hx with rfl | hx
    · exact h _ _ p
    · exact r.right h x hx
@[simp] theorem kMin_2 (t u : Tg) (i j : Int) : kMin [(t, .int i), (u, .int j)] = .ok (.s, .int (min i j)) := (rfl)
@[simp] theorem kMax_2 (t u : Tg) (i j : Int) : kMax [(t, .int i), (u, .int j)] = .ok (.s, .int (max i j)) := (rfl)
theorem kFdiv_any {i j : Int} (h : j ≠ 0) (h2 : Sm j) : kFdiv i j = .ok (.s, .int (i.fdiv j)) := by
  unfold kFdiv
  rw [if_pos ⟨h, h2⟩] <;> rfl
theorem kMod_any {i j : Int} (h : j ≠ 0) : kMod i j = .ok (.s, .int (i.fmod j)) := by
  unfold kMod
  rw [if_pos h] <;> rfl
/-! ### exceptions -/
@[simp] theorem raiseS_ (c : Str) (env : Env) : raiseS c env = .exc c [] [] env := (rfl)
@[simp] theorem tryS_ (F : Env → SR) (hs : List (Str × (Env → SR))) (env : Env) : tryS F hs env = match F env with
  | .exc c ks vs e => match pickH c hs with
    | some S => endX (S e)
    | none => .exc c ks vs e
  | r => r := (rfl)
@[simp] theorem pickH_nil (c : Str) : pickH c [] = none := (rfl)
@[simp] theorem pickH_cons (c h : Str) (S : Env → SR) (r : List (Str × (Env → SR))) : pickH c ((h, S) :: r) = if catD c h = true then some S else pickH c r := (rfl)
@[simp] theorem endX_nx (env : Env) : endX (.nx env) = .nx (dropX env) := (rfl)
@[simp] theorem endX_rt (e : EV) : endX (.rt e) = .rt e := (rfl)
@[simp] theorem endX_ct (env : Env) : endX (.ct env) = .ct (dropX env) := (rfl)
@[simp] theorem endX_bk (env : Env) : endX (.bk env) = .bk (dropX env) := (rfl)
@[simp] theorem dropX_nil : dropX [] = [] := (rfl)
@[simp] theorem dropX_v (t : Tg) (d : D) (r : Env) : dropX (some (.val t d) :: r) = some (.val t d) :: dropX r := (rfl)
@[simp] theorem dropX_o (xs : List D) (r : Env) : dropX (some (.own xs) :: r) = some (.own xs) :: dropX r := (rfl)
@[simp] theorem dropX_d (ks : List Key) (xs : List D) (r : Env) : dropX (some (.ownd ks xs) :: r) = some (.ownd ks xs) :: dropX r := (rfl)
@[simp] theorem dropX_n (r : Env) : dropX (none :: r) = none :: dropX r := (rfl)
@[simp] theorem dropX_x (c : Str) (ks : List Str) (vs : List D) (r : Env) : dropX (some (.exn c ks vs) :: r) = none :: dropX r := (rfl)
/-! ### whole numbers, or None -/
def optD : Option Int → D
  | none => .non
  | some i => .int i
@[simp] theorem optD_none : optD none = .non := (rfl)
@[simp] theorem optD_some (i : Int) : optD (some i) = .int i := (rfl)
@[simp] theorem isNonD_o (o : Option Int) : isNonD (optD o) = o.isNone := by cases o <;> rfl
@[simp] theorem imm_o (o : Option Int) : imm (optD o) = true := by cases o <;> simp [optD]
@[simp] theorem isNonD_t (xs : List D) : isNonD (.tup xs) = false := (rfl)
@[simp] theorem isNonD_l (xs : List D) : isNonD (.lst xs) = false := (rfl)
@[simp] theorem tryA_ (F : Env → SR) (h : Str) (i : Nat) (S : Env → SR) (env : Env) : tryA F h i S env = match F env with
  | .exc c ks vs e => if catD c h = true then endA i (S (e.set i (some (.exn c ks vs)))) else .exc c ks vs e
  | r => r := (rfl)
@[simp] theorem endA_nx (i : Nat) (env : Env) : endA i (.nx env) = .nx ((dropX env).set i none) := (rfl)
@[simp] theorem endA_rt (i : Nat) (e : EV) : endA i (.rt e) = .rt e := (rfl)
@[simp] theorem isX_0 (C c : Str) (r : Env) : isX 0 C (some (.exn c [] []) :: r) = .ok (.s, .bl (catX c C)) := (rfl)
@[simp] theorem isX_s (i : Nat) (C : Str) (x : Option EV) (r : Env) : isX (i + 1) C (x :: r) = isX i C r := by
  unfold isX
  rw [List.getElem?_cons_succ]
end DL

namespace DL
/-! ### places: plain numbers -/
def prodL : List Int → Int
  | [] => 1
  | s :: r => s * prodL r
def pcs : List Int → List Int
  | [] => []
  | _ :: r => prodL r :: pcs r
/-- a place of these sizes -/
def InL : List Int → List Int → Prop
  | [], [] => True
  | s :: r, a :: p => 0 ≤ a ∧ a < s ∧ InL r p
  | _, _ => False
def numL : List Int → List Int → Int
  | _ :: r, a :: p => a * prodL r + numL r p
  | _, _ => 0
def plcL : List Int → Int → List Int
  | [], _ => []
  | _ :: r, n => n / prodL r :: plcL r (n % prodL r)
def PosL (l : List Int) : Prop := ∀ s ∈ l, 1 ≤ s
theorem PosL.tail {s : Int} {r : List Int} (h : PosL (s :: r)) : PosL r := fun x hx => h x (List.mem_cons_of_mem _ hx)
theorem PosL.head {s : Int} {r : List Int} (h : PosL (s :: r)) : 1 ≤ s := h s List.mem_cons_self
theorem prod_pos : ∀ {l : List Int}, PosL l → 0 < prodL l
  | [], _ => by decide
  | s :: r, h => Int.mul_pos (by have := h.head; omega) (prod_pos h.tail)
theorem InL.len : ∀ {l p : List Int}, InL l p → l.length = p.length
  | [], [], _ => rfl
  | _ :: _, _ :: _, h => by rw [List.length_cons, List.length_cons, h.2.2.len]
  | [], _ :: _, h => h.elim
  | _ :: _, [], h => h.elim
theorem num_range : ∀ {l p : List Int}, PosL l → InL l p → 0 ≤ numL l p ∧ numL l p < prodL l
  | [], [], _, _ => by simp [numL, prodL]
  | s :: r, a :: p, h, k => by
    obtain ⟨k1, k2, k3⟩ := k
    obtain ⟨h1, h2⟩ := num_range h.tail k3
    have hp := prod_pos h.tail
    have e1 : 0 ≤ a * prodL r := Int.mul_nonneg k1 (by omega)
    have e2 : (a + 1) * prodL r ≤ s * prodL r := Int.mul_le_mul_of_nonneg_right (by omega) (by omega)
    rw [Int.add_mul, Int.one_mul] at e2
    simp only [numL, prodL]
    omega
  | [], _ :: _, _, h => h.elim
  | _ :: _, [], _, h => h.elim
theorem plc_num : ∀ {l p : List Int}, PosL l → InL l p → plcL l (numL l p) = p
  | [], [], _, _ => rfl
  | s :: r, a :: p, h, k => by
    obtain ⟨k1, k2, k3⟩ := k
    obtain ⟨h1, h2⟩ := num_range h.tail k3
    have hp := prod_pos h.tail
    simp only [numL, plcL]
    have e1 : (a * prodL r + numL r p) / prodL r = a := by
      rw [Int.mul_comm, Int.add_comm, Int.add_mul_ediv_left _ _ (by omega), Int.ediv_eq_zero_of_lt h1 h2, Int.zero_add]
    have e2 : (a * prodL r + numL r p) % prodL r = numL r p := by
      rw [Int.mul_comm, Int.add_comm, Int.add_mul_emod_self_left, Int.emod_eq_of_lt h1 h2]
    rw [e1, e2, plc_num h.tail k3]
  | [], _ :: _, _, h => h.elim
  | _ :: _, [], _, h => h.elim
theorem pcs_len : ∀ l : List Int, (pcs l).length = l.length
  | [] => rfl
  | _ :: r => by rw [pcs, List.length_cons, List.length_cons, pcs_len r]
theorem num_sum : ∀ {l p : List Int}, InL l p → (List.zipWith (· * ·) p (pcs l)).sum = numL l p
  | [], [], _ => rfl
  | s :: r, a :: p, k => by simp [pcs, numL, num_sum k.2.2]
  | [], _ :: _, h => h.elim
  | _ :: _, [], h => h.elim
theorem prod_append : ∀ a b : List Int, prodL (a ++ b) = prodL a * prodL b
  | [], b => by simp [prodL]
  | s :: r, b => by rw [List.cons_append, prodL, prodL, prod_append r b, Int.mul_assoc]
theorem plc_in : ∀ {l : List Int} {n : Int}, PosL l → 0 ≤ n → n < prodL l → InL l (plcL l n) ∧ numL l (plcL l n) = n
  | [], n, _, h, k => by
    simp only [prodL] at k
    exact ⟨trivial, by show (0 : Int) = n; omega⟩
  | s :: r, n, hp, h, k => by
    have hr := prod_pos hp.tail
    obtain ⟨h1, h2⟩ := plc_in (l := r) (n := n % prodL r) hp.tail (Int.emod_nonneg _ (by omega)) (Int.emod_lt_of_pos _ hr)
    have hd : n / prodL r < s := by
      refine Int.ediv_lt_of_lt_mul hr ?_
      exact k
    refine ⟨⟨Int.ediv_nonneg h (by omega), hd, h1⟩, ?_⟩
    simp only [plcL, numL, h2]
    rw [Int.mul_comm]
    exact Int.mul_ediv_add_emod n (prodL r)
/-- bounds: sizes to so many figures -/
theorem prod_bd {k : Nat} : ∀ {l : List Int}, (∀ s ∈ l, Bd k s) → Bd (k * l.length) (prodL l)
  | [], _ => by show (1 : Nat) ≤ 10 ^ (k * 0); simp
  | s :: r, h => by
    have h1 := (h s List.mem_cons_self).mul (prod_bd (l := r) fun x hx => h x (List.mem_cons_of_mem _ hx))
    have e : k + k * r.length = k * (s :: r).length := by rw [List.length_cons, Nat.mul_add]; omega
    rw [e] at h1
    exact h1
/-- the place behind -/
def nextL : List Int → List Int → Option (List Int)
  | s :: r, a :: p => match nextL r p with
    | some q => some (a :: q)
    | none => if a + 1 < s then some ((a + 1) :: List.replicate p.length 0) else none
  | _, _ => none
theorem inL_zero : ∀ {l : List Int} (n : Nat), PosL l → l.length = n → InL l (List.replicate n 0)
  | [], 0, _, _ => trivial
  | s :: r, n + 1, h, e => ⟨by omega, by have := h.head; omega, inL_zero n h.tail (by simpa using e)⟩
theorem num_zero : ∀ (l : List Int) (n : Nat), numL l (List.replicate n 0) = 0
  | [], 0 => rfl
  | [], n + 1 => rfl
  | s :: r, 0 => rfl
  | s :: r, n + 1 => by rw [List.replicate_succ, numL, num_zero r n]; omega
theorem next_spec : ∀ {l p : List Int}, PosL l → InL l p → (∀ q, nextL l p = some q → InL l q ∧ numL l q = numL l p + 1) ∧ (nextL l p = none → numL l p = prodL l - 1)
  | [], [], _, _ => ⟨fun q h => (by cases h), fun _ => rfl⟩
  | s :: r, a :: p, h, k => by
    obtain ⟨k1, k2, k3⟩ := k
    obtain ⟨h1, h2⟩ := next_spec h.tail k3
    simp only [nextL]
    cases hn : nextL r p with
    | some q =>
      obtain ⟨g1, g2⟩ := h1 q hn
      refine ⟨fun z e => ?_, fun e => by cases e⟩
      cases e
      exact ⟨⟨k1, k2, g1⟩, by simp only [numL, g2]; omega⟩
    | none =>
      have g := h2 hn
      by_cases c : a + 1 < s
      · simp only [c, if_true]
        refine ⟨fun z e => ?_, fun e => by cases e⟩
        cases e
        refine ⟨⟨by omega, c, inL_zero _ h.tail k3.len⟩, ?_⟩
        simp only [numL, num_zero, g, Int.add_mul, Int.one_mul]
        omega
      · simp only [c, if_false]
        refine ⟨fun z e => (by cases e), fun _ => ?_⟩
        have : s = a + 1 := by omega
        subst this
        simp only [numL, prodL, g, Int.add_mul, Int.one_mul]
        omega
  | [], _ :: _, _, h => h.elim
  | _ :: _, [], _, h => h.elim
theorem next_drop : ∀ {l p : List Int} (m : Nat) {q : List Int}, l.length = p.length → nextL (l.drop m) (p.drop m) = some q → nextL l p = some (p.take m ++ q)
  | l, p, 0, q, _, h => by simpa using h
  | [], [], m + 1, q, _, h => by simp [nextL] at h
  | s :: r, a :: p, m + 1, q, e, h => by
    have := next_drop (l := r) (p := p) m (by simpa using e) (by simpa using h)
    simp [nextL, this]
/-- drawn places -/
def drP (g : Int → Int → Int) (k : Int) : List Int → List Int
  | [] => []
  | s :: r => g k s :: drP g (k + 1) r
theorem drP_get (g : Int → Int → Int) : ∀ (l : List Int) (k : Int) (i : Nat), (drP g k l)[i]? = (l[i]?).map fun s => g (k + (i : Nat)) s
  | [], k, i => by simp [drP]
  | s :: r, k, 0 => by simp [drP]
  | s :: r, k, i + 1 => by
    simp only [drP, List.getElem?_cons_succ, drP_get g r (k + 1) i]
    have e : k + 1 + (i : Nat) = k + ((i + 1 : Nat) : Int) := by omega
    rw [e]
theorem drP_len (g : Int → Int → Int) : ∀ (l : List Int) (k : Int), (drP g k l).length = l.length
  | [], k => rfl
  | s :: r, k => by rw [drP, List.length_cons, List.length_cons, drP_len g r]
theorem drP_in (g : Int → Int → Int) (hg : ∀ k m, 0 < m → 0 ≤ g k m ∧ g k m < m) : ∀ {l : List Int} (k : Int), PosL l → InL l (drP g k l)
  | [], k, _ => trivial
  | s :: r, k, h => ⟨(hg k s (by have := h.head; omega)).1, (hg k s (by have := h.head; omega)).2, drP_in g hg (k + 1) h.tail⟩
theorem range_get {α : Type} (l : List α) (f : Nat → α) (h : ∀ i, l[i]? = if i < l.length then some (f i) else none) : (List.range l.length).map f = l := by
  apply List.ext_getElem?
  intro i
  rw [h i, List.getElem?_map]
  by_cases hi : i < l.length
  · rw [List.getElem?_range hi, if_pos hi] <;> rfl
  · rw [if_neg hi, List.getElem?_eq_none (by simpa using hi)] <;> rfl
end DL

namespace DL.Law
open PySem PySem.Spec PyProof.Rows L2
noncomputable section
/-! ### the mirrors: each def as a function of data -/
def B_brought : Env → SR :=
  (seqS (ifS (tstB (bin2 (getV 0) (cst (.int 0)) (asI2 kLt)))
    (setS 0 (bin2 (getV 0) (getV 1) kAdd))
    SR.nx)
    (retS (meD (thenK (argC (getV 2) (argC (thenK (argC (getV 3) (argC (getV 0) argN)) kMin) argN)) kMax))))
def F_brought : List EV → Res EV := runD 4 B_brought
def B_edges : Env → SR :=
  (seqS (setS 4 (meD (cst (.int 0))))
    (seqS (frzD 0 (setS 5 (meD (getV 0))))
    (seqS (ifS (tstB (bin2 (getV 3) (cst (.int 0)) (asI2 kLt)))
    (seqS (setS 4 (meD (bin1 (cst (.int 1)) kNeg)))
    (setS 5 (meD (bin2 (getV 0) (cst (.int 1)) (asI2 kSub)))))
    SR.nx)
    (seqS (frzD 4 (setS 6 (meD (getV 4))))
    (seqS (frzD 5 (setS 7 (meD (getV 5))))
    (seqS (ifS (tstB (bin2 (getV 3) (cst (.int 0)) (asI2 kLt)))
    (seqS (frzD 5 (setS 6 (meD (getV 5))))
    (frzD 4 (setS 7 (meD (getV 4)))))
    SR.nx)
    (seqS (ifS (tstB (bin2 (getV 1) (cst .non) kNotN2))
    (setS 6 (thenK (argC (getV 1) (argC (getV 0) (argC (getV 4) (argC (getV 5) argN)))) (callD F_brought)))
    SR.nx)
    (seqS (ifS (tstB (bin2 (getV 2) (cst .non) kNotN2))
    (setS 7 (thenK (argC (getV 2) (argC (getV 0) (argC (getV 4) (argC (getV 5) argN)))) (callD F_brought)))
    SR.nx)
    (frzD 7 (frzD 6 (retS (meD (thenK (argC (getV 6) (argC (getV 7) argN)) kTup)))))))))))))
def F_edges : List EV → Res EV := runD 8 B_edges
def B_span : Env → SR :=
  (seqS (ifS (tstB (bin2 (getV 3) (cst .non) kIsN2))
    (setS 3 (meD (cst (.int 1))))
    SR.nx)
    (seqS (ifS (tstB (bin2 (getV 3) (cst (.int 0)) kEq))
    (raiseS "NoStep")
    SR.nx)
    (seqS (asgS (mvD (thenK (argC (getV 0) (argC (getV 1) (argC (getV 2) (argC (getV 3) argN)))) (callD F_edges))) (gdT 2 (gdC (gdN 5) (gdC (gdN 6) gdNil))))
    (seqS (setS 4 (meD (bin2 (bin2 (mvD (bin2 (bin2 (getV 6) (getV 5) (asI2 kSub)) (getV 3) kAdd)) (cst (.int 1)) (asI2 kSub)) (getV 3) (asI2 kFdiv))))
    (seqS (ifS (tstB (bin2 (getV 3) (cst (.int 0)) (asI2 kLt)))
    (setS 4 (meD (bin2 (bin2 (bin2 (bin2 (getV 5) (getV 6) (asI2 kSub)) (getV 3) (asI2 kSub)) (cst (.int 1)) (asI2 kSub)) (bin2 (cst (.int 0)) (getV 3) (asI2 kSub)) (asI2 kFdiv))))
    SR.nx)
    (seqS (ifS (tstB (bin2 (getV 4) (cst (.int 1)) (asI2 kLt)))
    (raiseS "NoCells")
    SR.nx)
    (frzD 3 (frzD 4 (frzD 5 (retS (meD (thenK (argC (getV 5) (argC (getV 4) (argC (getV 3) argN))) kTup))))))))))))
def F_span : List EV → Res EV := runD 7 B_span
def B__law_draw : Env → SR :=
  (seqS (ifS (tstB (bin2 (getV 1) (thenK (argC (getV 0) argN) kLen) (asI2 kLt)))
    (retS (meD (bin2 (bin2 (getV 0) (getV 1) kIx) (getV 2) (asI2 kMod))))
    SR.nx)
    (seqS (setS 3 (bin2 (mvD (bin2 (mvD (bin2 (getV 1) (getV 1) kMul)) (cst (.int 7919)) kMul)) (cst (.int 104729)) kAdd))
    (seqS (ifS (tstB (bin2 (thenK (argC (getV 0) argN) kLen) (cst (.int 0)) (asI2 kGt)))
    (seqS (setS 3 (meD (bin2 (bin2 (getV 0) (bin2 (getV 1) (thenK (argC (getV 0) argN) kLen) (asI2 kMod)) kIx) (cst (.int 999999937)) (asI2 kMod))))
    (setS 3 (bin2 (mvD (bin2 (getV 3) (mvD (bin2 (cst (.int 48271)) (mvD (bin2 (mvD (bin2 (cst (.int 2)) (getV 1) kMul)) (getV 1) kMul)) kAdd)) kMul)) (mvD (bin2 (getV 1) (cst (.int 69621)) kMul)) kAdd)))
    SR.nx)
    (retS (meD (bin2 (bin2 (mvD (bin2 (bin2 (getV 3) (cst (.int 2147483647)) (asI2 kMod)) (cst (.int 16807)) kMul)) (cst (.int 2147483629)) (asI2 kMod)) (getV 2) (asI2 kMod)))))))
def F__law_draw : List EV → Res EV := runD 4 B__law_draw
def B__law_whole : Env → SR :=
  (retS (meD (andV (bin1 (getV 0) (kIsi "int")) (bin1 (bin1 (getV 0) (kIsi "bool")) kNotB))))
def F__law_whole : List EV → Res EV := runD 1 B__law_whole
def B__law_end : Env → SR :=
  (seqS (setS 3 (thenK (argC (getV 0) (argC (getV 1) (argC (bin2 (cst (.int 10)) (cst (.int 62)) (asI2 kPow)) argN))) (callD F__law_draw)))
    (seqS (setS 4 (meD (bin2 (bin2 (getV 3) (cst (.int 12)) (asI2 kFdiv)) (bin2 (cst (.int 10)) (cst (.int 60)) (asI2 kPow)) (asI2 kMod))))
    (seqS (setS 5 (meD (bin2 (bin2 (bin2 (getV 3) (cst (.int 12)) (asI2 kFdiv)) (cst (.int 9)) (asI2 kMod)) (cst (.int 4)) (asI2 kSub))))
    (seqS (frzD 5 (frzD 4 (setS 6 (thenK (argC (cst .non) (argC (getV 5) (argC (mvD (bin2 (getV 2) (getV 5) kAdd)) (argC (mvD (bin2 (bin2 (cst (.int 0)) (getV 2) (asI2 kSub)) (getV 5) kAdd)) (argC (bin2 (getV 4) (getV 2) (asI2 kMod)) (argC (bin2 (cst (.int 0)) (bin2 (getV 4) (getV 2) (asI2 kMod)) (asI2 kSub)) (argC (getV 4) (argC (bin2 (cst (.int 0)) (getV 4) (asI2 kSub)) (argC (cst .non) (argC (getV 5) (argC (bin2 (getV 4) (getV 2) (asI2 kMod)) argN))))))))))) kLst))))
    (retS (meD (bin2 (mvD (bin2 (getV 6) (mvD (thenK (argC (bin2 (bin2 (getV 2) (cst (.int 1)) (asI2 kSub)) (bin2 (bin2 (getV 4) (getV 2) (asI2 kMod)) (cst (.int 2)) (asI2 kFdiv)) (asI2 kSub)) argN) kLst)) kAdd)) (bin2 (getV 3) (cst (.int 12)) (asI2 kMod)) kIx)))))))
def F__law_end : List EV → Res EV := runD 7 B__law_end
def B__law_step : Env → SR :=
  (seqS (setS 2 (thenK (argC (getV 0) (argC (getV 1) (argC (bin2 (cst (.int 10)) (cst (.int 62)) (asI2 kPow)) argN))) (callD F__law_draw)))
    (seqS (setS 3 (bin2 (bin2 (bin2 (getV 2) (cst (.int 10)) (asI2 kFdiv)) (bin2 (bin2 (cst (.int 10)) (cst (.int 60)) (asI2 kPow)) (cst (.int 1)) (asI2 kSub)) (asI2 kMod)) (cst (.int 1)) kAdd))
    (seqS (frzD 3 (setS 4 (thenK (argC (cst .non) (argC (mvD (bin2 (cst (.int 1)) (bin2 (getV 3) (cst (.int 9)) (asI2 kMod)) kAdd)) (argC (bin2 (bin2 (cst (.int 0)) (cst (.int 1)) (asI2 kSub)) (bin2 (getV 3) (cst (.int 9)) (asI2 kMod)) (asI2 kSub)) (argC (cst (.int 1)) (argC (bin1 (cst (.int 1)) kNeg) (argC (mvD (bin2 (bin2 (getV 3) (bin2 (cst (.int 10)) (cst (.int 9)) (asI2 kPow)) (asI2 kMod)) (cst (.int 1)) kAdd)) (argC (bin2 (bin2 (cst (.int 0)) (bin2 (getV 3) (bin2 (cst (.int 10)) (cst (.int 9)) (asI2 kPow)) (asI2 kMod)) (asI2 kSub)) (cst (.int 1)) (asI2 kSub)) (argC (getV 3) (argC (bin2 (cst (.int 0)) (getV 3) (asI2 kSub)) argN))))))))) kLst)))
    (retS (meD (bin2 (mvD (bin2 (getV 4) (mvD (thenK (argC (mvD (bin2 (cst (.int 1)) (bin2 (getV 3) (cst (.int 30000)) (asI2 kMod)) kAdd)) argN) kLst)) kAdd)) (bin2 (getV 2) (cst (.int 10)) (asI2 kMod)) kIx))))))
def F__law_step : List EV → Res EV := runD 5 B__law_step
def B__law_size : Env → SR :=
  (seqS (setS 2 (thenK (argC (getV 0) (argC (getV 1) (argC (bin2 (cst (.int 10)) (cst (.int 12)) (asI2 kPow)) argN))) (callD F__law_draw)))
    (retS (meD (bin2 (mvD (thenK (argC (bin2 (cst (.int 10)) (cst (.int 9)) (asI2 kPow)) (argC (mvD (bin2 (cst (.int 1)) (bin2 (bin2 (getV 2) (cst (.int 6)) (asI2 kFdiv)) (bin2 (cst (.int 10)) (cst (.int 9)) (asI2 kPow)) (asI2 kMod)) kAdd)) (argC (mvD (bin2 (cst (.int 1)) (bin2 (bin2 (getV 2) (cst (.int 6)) (asI2 kFdiv)) (cst (.int 1000)) (asI2 kMod)) kAdd)) (argC (bin2 (bin2 (cst (.int 10)) (cst (.int 9)) (asI2 kPow)) (bin2 (bin2 (getV 2) (cst (.int 6)) (asI2 kFdiv)) (cst (.int 5)) (asI2 kMod)) (asI2 kSub)) (argC (cst (.int 1)) (argC (bin2 (cst (.int 10)) (cst (.int 9)) (asI2 kPow)) argN)))))) kLst)) (bin2 (getV 2) (cst (.int 6)) (asI2 kMod)) kIx))))
def F__law_size : List EV → Res EV := runD 3 B__law_size
def B__law_brought : Env → SR :=
  (seqS (ifS (tstB (bin2 (getV 0) (cst .non) kIsN2))
    (retV 4)
    SR.nx)
    (seqS (ifS (tstB (bin2 (getV 0) (cst (.int 0)) (asI2 kLt)))
    (setS 0 (bin2 (getV 0) (getV 1) kAdd))
    SR.nx)
    (retS (meD (thenK (argC (thenK (argC (getV 0) (argC (getV 2) argN)) kMax) (argC (getV 3) argN)) kMin)))))
def F__law_brought : List EV → Res EV := runD 5 B__law_brought
def T1__law_told : Env → SR :=
  (setS 2 (thenK (argC (getV 0) (argC (bin2 (getV 1) (cst (.int 0)) kIx) (argC (bin2 (getV 1) (cst (.int 1)) kIx) (argC (bin2 (getV 1) (cst (.int 2)) kIx) argN)))) (callD F_span)))
def H2__law_told : List (Str × (Env → SR)) :=
  (("NoCells", (setS 3 (meD (cst (.str "cells"))))) :: [])
def B__law_told : Env → SR :=
  (seqS (setS 2 (meD (cst .non)))
    (seqS (setS 3 (meD (cst (.str "told"))))
    (seqS (tryS
    T1__law_told
    H2__law_told)
    (frzD 3 (frzD 2 (retS (meD (thenK (argC (getV 3) (argC (getV 2) argN)) kTup))))))))
def F__law_told : List EV → Res EV := runD 4 B__law_told
def T1__law_base : Env → SR :=
  (exprS (thenK (argC (getV 0) (argC (bin2 (getV 1) (cst (.int 0)) kIx) (argC (bin2 (getV 1) (cst (.int 1)) kIx) (argC (bin2 (getV 1) (cst (.int 2)) kIx) argN)))) (callD F_span)))
def H2__law_base : Env → SR :=
  (seqS (setS 2 (meD (cst (.str "other"))))
    (ifS (andB (bin1 (isX 3 "ValueError") truK) (andB (notB (bin1 (isX 3 "NoStep") truK)) (notB (bin1 (isX 3 "NoPlace") truK))))
    (setS 2 (meD (cst (.str "base"))))
    SR.nx))
def B__law_base : Env → SR :=
  (seqS (setS 2 (meD (cst (.str "told"))))
    (seqS (tryA
    T1__law_base "PaceError" 3
    H2__law_base)
    (retS (meD (bin2 (getV 2) (cst (.str "base")) kEq)))))
def F__law_base : List EV → Res EV := runD 4 B__law_base
def B__law_right : Env → SR :=
  (seqS (ifS (orB (notB (bin1 (bin1 (getV 0) (kIsi "tuple")) truK)) (tstB (bin2 (thenK (argC (getV 0) argN) kLen) (cst (.int 3)) kNe)))
    (retS (meD (cst (.bl false))))
    SR.nx)
    (seqS (frzD 0 (asgS (getV 0) (gdT 3 (gdC (gdN 5) (gdC (gdN 6) (gdC (gdN 7) gdNil))))))
    (seqS (ifS (orB (notB (bin1 (mvD (thenK (argC (getV 5) argN) (callD F__law_whole))) truK)) (orB (notB (bin1 (mvD (thenK (argC (getV 6) argN) (callD F__law_whole))) truK)) (notB (bin1 (mvD (thenK (argC (getV 7) argN) (callD F__law_whole))) truK))))
    (retS (meD (cst (.bl false))))
    SR.nx)
    (seqS (ifS (orB (tstB (bin2 (getV 5) (getV 1) kNe)) (orB (tstB (bin2 (getV 7) (getV 3) kNe)) (tstB (bin2 (getV 6) (cst (.int 1)) (asI2 kLt)))))
    (retS (meD (cst (.bl false))))
    SR.nx)
    (seqS (setS 4 (bin2 (getV 5) (mvD (bin2 (bin2 (getV 6) (cst (.int 1)) (asI2 kSub)) (getV 3) kMul)) kAdd))
    (seqS (ifS (tstB (bin2 (getV 3) (cst (.int 0)) (asI2 kGt)))
    (retS (meD (andV (bin2 (getV 4) (getV 2) (asI2 kLt)) (bin2 (mvD (bin2 (getV 4) (getV 3) kAdd)) (getV 2) (asI2 kGe)))))
    SR.nx)
    (retS (meD (andV (bin2 (getV 4) (getV 2) (asI2 kGt)) (bin2 (mvD (bin2 (getV 4) (getV 3) kAdd)) (getV 2) (asI2 kLe)))))))))))
def F__law_right : List EV → Res EV := runD 8 B__law_right
def L1_law : Env → SR :=
  (seqS (setS 2 (thenK (argC (getV 0) (argC (mvD (bin2 (cst (.int 4)) (getV 1) kMul)) argN)) (callD F__law_size)))
    (seqS (setS 3 (meD (thenK (argC (mvD (thenK (argC (getV 0) (argC (mvD (bin2 (mvD (bin2 (cst (.int 4)) (getV 1) kMul)) (cst (.int 1)) kAdd)) (argC (getV 2) argN))) (callD F__law_end))) (argC (mvD (thenK (argC (getV 0) (argC (mvD (bin2 (mvD (bin2 (cst (.int 4)) (getV 1) kMul)) (cst (.int 2)) kAdd)) (argC (getV 2) argN))) (callD F__law_end))) (argC (mvD (thenK (argC (getV 0) (argC (mvD (bin2 (mvD (bin2 (cst (.int 4)) (getV 1) kMul)) (cst (.int 3)) kAdd)) argN)) (callD F__law_step))) argN))) kTup)))
    (seqS (setS 4 (meD (bin2 (getV 3) (cst (.int 2)) kIx)))
    (seqS (ifS (tstB (bin2 (getV 4) (cst .non) kIsN2))
    (setS 4 (meD (cst (.int 1))))
    SR.nx)
    (seqS (setS 5 (thenK (argC (bin2 (getV 3) (cst (.int 0)) kIx) (argC (getV 2) (argC (cst (.int 0)) (argC (getV 2) (argC (cst (.int 0)) argN))))) (callD F__law_brought)))
    (seqS (setS 6 (thenK (argC (bin2 (getV 3) (cst (.int 1)) kIx) (argC (getV 2) (argC (cst (.int 0)) (argC (getV 2) (argC (getV 2) argN))))) (callD F__law_brought)))
    (seqS (ifS (tstB (bin2 (getV 4) (cst (.int 0)) (asI2 kLt)))
    (seqS (setS 5 (thenK (argC (bin2 (getV 3) (cst (.int 0)) kIx) (argC (getV 2) (argC (bin1 (cst (.int 1)) kNeg) (argC (bin2 (getV 2) (cst (.int 1)) (asI2 kSub)) (argC (bin2 (getV 2) (cst (.int 1)) (asI2 kSub)) argN))))) (callD F__law_brought)))
    (setS 6 (thenK (argC (bin2 (getV 3) (cst (.int 1)) kIx) (argC (getV 2) (argC (bin1 (cst (.int 1)) kNeg) (argC (bin2 (getV 2) (cst (.int 1)) (asI2 kSub)) (argC (bin1 (cst (.int 1)) kNeg) argN))))) (callD F__law_brought))))
    SR.nx)
    (seqS (asgS (mvD (thenK (argC (getV 2) (argC (getV 3) argN)) (callD F__law_told))) (gdT 2 (gdC (gdN 7) (gdC (gdN 8) gdNil))))
    (ifS (orB (andB (tstB (bin2 (getV 4) (cst (.int 0)) (asI2 kGt))) (tstB (bin2 (getV 5) (getV 6) (asI2 kGe)))) (andB (tstB (bin2 (getV 4) (cst (.int 0)) (asI2 kLt))) (tstB (bin2 (getV 5) (getV 6) (asI2 kLe)))))
    (ifS (orB (tstB (bin2 (getV 7) (cst (.str "cells")) kNe)) (notB (bin1 (mvD (thenK (argC (getV 2) (argC (getV 3) argN)) (callD F__law_base))) truK)))
    (retS (meD (cst (.bl false))))
    SR.nx)
    (ifS (orB (tstB (bin2 (getV 7) (cst (.str "told")) kNe)) (notB (bin1 (mvD (thenK (argC (getV 8) (argC (getV 5) (argC (getV 6) (argC (getV 4) argN)))) (callD F__law_right))) truK)))
    (retS (meD (cst (.bl false))))
    SR.nx))))))))))
def B_law : Env → SR :=
  (seqS (forS (thenK (argC (cst (.int 15)) argN) kRng1) (gdN 1) L1_law)
    (retS (meD (cst (.bl true)))))
def F_law : List EV → Res EV := runD 9 B_law
end
end DL.Law

namespace DL.Law
open PySem PySem.Spec PyProof.Rows L2
/-- the drawn number ahead of its last remainder -/
def drw (ns : List Int) (k : Int) : Int :=
  if k < ns.length then (atI ns k).getD 0
  else (if 0 < (ns.length : Int) then ((atI ns (k % ns.length)).getD 0 % 999999937) * (48271 + 2 * k * k) + k * 69621 else k * k * 7919 + 104729) % 2147483647 * 16807 % 2147483629
theorem F_draw (t : Tg) (ns : List Int) (k m : Int) (hk : 0 ≤ k) (hk2 : k ≤ 1000000) (hm : 0 < m) : F__law_draw [.val t (.scr ns), .val .s (.int k), .val .s (.int m)] = .ok (.val .s (.int (drw ns k % m))) := by
  unfold F__law_draw B__law_draw drw
  have bk : Bd 6 k := .of (by omega) (by omega)
  have bkk := bk.mul bk
  have b5 : Bd 5 69621 := .of (by decide) (by decide)
  have b1 : Bd 1 2 := .of (by decide) (by decide)
  have b4 : Bd 4 7919 := .of (by decide) (by decide)
  have b48 : Bd 5 48271 := .of (by decide) (by decide)
  have b16 : Bd 5 16807 := .of (by decide) (by decide)
  have b104 : Bd 6 104729 := .of (by decide) (by decide)
  have bq : ∀ z : Int, Bd 10 (z % 2147483647) := fun z => .emod (by decide) (by decide)
  have e1 := kMul_i (t := .s) (u := .s) bk.sm bk.sm
  have e2 := kMul_i (t := .s) (u := .s) bkk.sm b4.sm
  by_cases h : k < ns.length
  · obtain ⟨x, _, hx⟩ := atI_ex hk h
    simp [h, hx, kMod_ hm]
  · by_cases h0 : 0 < ns.length
    · have h0' : (0 : Int) < ns.length := by omega
      obtain ⟨x, _, hx⟩ := atI_ex (xs := ns) (i := k % ns.length) (Int.emod_nonneg _ (by omega)) (Int.emod_lt_of_pos _ h0')
      have bx : Bd 9 (x % 999999937) := .emod (by decide) (by decide)
      have e3 := kMul_i (t := .s) (u := .s) b1.sm bk.sm
      have e4 := kMul_i (t := .s) (u := .s) (b1.mul bk).sm bk.sm
      have b5' := b48.add' ((b1.mul bk).mul bk)
      have e5 := kMul_i (t := .s) (u := .s) bx.sm b5'.sm
      have e6 := kMul_i (t := .s) (u := .s) bk.sm b5.sm
      have e7 := kMul_i (t := .s) (u := .s) (bq (x % 999999937 * (48271 + 2 * k * k) + k * 69621)).sm b16.sm
      simp [h, h0, hx, kMod_ h0', e1, e2, e3, e4, e5, e6, e7, kMod_ (show (0 : Int) < 999999937 by decide), kMod_ (show (0 : Int) < 2147483647 by decide), kMod_ (show (0 : Int) < 2147483629 by decide), kMod_ hm]
    · have e7 := kMul_i (t := .s) (u := .s) (bq (k * k * 7919 + 104729)).sm b16.sm
      simp [h, h0, e1, e2, e7, kMod_ (show (0 : Int) < 999999937 by decide), kMod_ (show (0 : Int) < 2147483647 by decide), kMod_ (show (0 : Int) < 2147483629 by decide), kMod_ hm]
/-- a drawn number -/
def dr (ns : List Int) (k m : Int) : Int := drw ns k % m
theorem dr_lo (ns : List Int) (k : Int) {m : Int} (h : 0 < m) : 0 ≤ dr ns k m := Int.emod_nonneg _ (by omega)
theorem dr_hi (ns : List Int) (k : Int) {m : Int} (h : 0 < m) : dr ns k m < m := Int.emod_lt_of_pos _ h
def brt (e size low high : Int) : Int := max low (min high (if e < 0 then e + size else e))
def lowS (step : Int) : Int := if step < 0 then -1 else 0
def highS (size step : Int) : Int := if step < 0 then size - 1 else size
def begS (size step : Int) : Option Int → Int
  | none => if step < 0 then highS size step else lowS step
  | some a => brt a size (lowS step) (highS size step)
def endS (size step : Int) : Option Int → Int
  | none => if step < 0 then lowS step else highS size step
  | some a => brt a size (lowS step) (highS size step)
def manyS (step b e : Int) : Int := if step < 0 then (b - e - step - 1) / (0 - step) else (e - b + step - 1) / step
theorem F_brt (e size low high : Int) : F_brought [.val .s (.int e), .val .s (.int size), .val .s (.int low), .val .s (.int high)] = .ok (.val .s (.int (brt e size low high))) := by
  unfold F_brought B_brought brt
  by_cases h : e < 0 <;> simp [h]
theorem F_edg (size step : Int) (o p : Option Int) : F_edges [.val .s (.int size), .val .s (optD o), .val .s (optD p), .val .s (.int step)] = .ok (.val .s (.tup [.int (begS size step o), .int (endS size step p)])) := by
  unfold F_edges B_edges
  by_cases h : step < 0 <;> cases o <;> cases p <;> simp [h, optD, F_brt, begS, endS, lowS, highS, kTup, tagA, shV]
def stpS : Option Int → Int
  | none => 1
  | some s => s
def spanR (size : Int) (o p st : Option Int) : Res EV :=
  if manyS (stpS st) (begS size (stpS st) o) (endS size (stpS st) p) < 1 then .exc "NoCells" [] []
  else .ok (.val .s (.tup [.int (begS size (stpS st) o), .int (manyS (stpS st) (begS size (stpS st) o) (endS size (stpS st) p)), .int (stpS st)]))
theorem kEq_n0 (t u : Tg) (i : Int) (h : i ≠ 0) : kEq (t, .int i) (u, .int 0) = .ok (.s, .bl false) := by simp [h]
theorem F_spn (size : Int) (o p st : Option Int) (h : stpS st ≠ 0) (hb : Sm (stpS st)) : F_span [.val .s (.int size), .val .s (optD o), .val .s (optD p), .val .s (optD st)] = spanR size o p st := by
  unfold F_span B_span
  have h1 := F_edg size (stpS st) o p
  have d1 : ∀ i, kFdiv i (stpS st) = .ok (.s, .int (i.fdiv (stpS st))) := fun i => kFdiv_any h hb
  have d2 : ∀ i, kFdiv i (0 - stpS st) = .ok (.s, .int (i.fdiv (0 - stpS st))) := fun i => kFdiv_any (by omega) (by unfold Sm at *; omega)
  unfold spanR manyS
  generalize begS size (stpS st) o = b at *
  generalize endS size (stpS st) p = e at *
  have g : ∀ s, stpS st = s → (if (decide (s < 0)) = true then (b - e - s - 1).fdiv (0 - s) else (e - b + s - 1).fdiv s) = if s < 0 then (b - e - s - 1) / (0 - s) else (e - b + s - 1) / s := fun s hs => by
    by_cases c : s < 0
    · simp only [c, decide_true, if_true]; exact Int.fdiv_eq_ediv_of_nonneg _ (by omega)
    · simp only [c, decide_false, if_false, Bool.false_eq_true]; exact Int.fdiv_eq_ediv_of_nonneg _ (by omega)
  cases st with
  | none =>
    have q := g 1 rfl
    simp only [stpS] at h1 d1 d2 ⊢
    have q2 : (e - b + 1 - 1).fdiv 1 = (e - b + 1 - 1) / 1 := by simpa using q
    have k : ¬ (1 : Int) < 0 := by decide
    simp only [k, if_false]
    generalize hm : (e - b + 1 - 1) / 1 = m at *
    have d3 : kFdiv (e - b + 1 - 1) 1 = .ok (.s, .int m) := by rw [d1, q2]
    rw [show e - b + 1 - 1 = e - b from by omega] at d3
    by_cases c : m < 1 <;> simp [h1, d3, c, kTup, tagA, shV]
  | some s =>
    simp only [stpS] at h h1 d1 d2 g ⊢
    have q := g s rfl
    by_cases c0 : s < 0
    · simp only [c0, decide_true, if_true] at q ⊢
      generalize hm : (b - e - s - 1) / (0 - s) = m at *
      have d3 : kFdiv (b - e - s - 1) (0 - s) = .ok (.s, .int m) := by rw [d2, q]
      rw [Int.zero_sub] at d3
      by_cases c : m < 1 <;> simp [h, h1, d1, d3, c0, c, kTup, tagA, shV]
    · simp only [c0, decide_false, if_false, Bool.false_eq_true] at q ⊢
      generalize hm : (e - b + s - 1) / s = m at *
      have d3 : kFdiv (e - b + s - 1) s = .ok (.s, .int m) := by rw [d1, q]
      by_cases c : m < 1 <;> simp [h, h1, d3, c0, c, kTup, tagA, shV]
theorem brt_rng (e size low high : Int) (h : low ≤ high) : low ≤ brt e size low high ∧ brt e size low high ≤ high := by
  unfold brt
  generalize (if e < 0 then e + size else e) = z
  omega
theorem beg_rng (size step : Int) (hs : 1 ≤ size) (o : Option Int) : lowS step ≤ begS size step o ∧ begS size step o ≤ highS size step := by
  have hl : lowS step ≤ highS size step := by unfold lowS highS; split <;> omega
  cases o with
  | none => show _ ≤ (if step < 0 then highS size step else lowS step) ∧ (if step < 0 then highS size step else lowS step) ≤ _; split <;> omega
  | some a => exact brt_rng a size _ _ hl
theorem end_rng (size step : Int) (hs : 1 ≤ size) (o : Option Int) : lowS step ≤ endS size step o ∧ endS size step o ≤ highS size step := by
  have hl : lowS step ≤ highS size step := by unfold lowS highS; split <;> omega
  cases o with
  | none => show _ ≤ (if step < 0 then lowS step else highS size step) ∧ (if step < 0 then lowS step else highS size step) ≤ _; split <;> omega
  | some a => exact brt_rng a size _ _ hl
/-- a row: its first, how many, its step; all within the size -/
structure Row (size b m s : Int) : Prop where
  s0 : s ≠ 0
  m1 : 1 ≤ m
  b0 : 0 ≤ b
  b1 : b < size
  l0 : 0 ≤ b + s * (m - 1)
  l1 : b + s * (m - 1) < size
theorem span_row (size : Int) (o p st : Option Int) (hs : 1 ≤ size) (h : stpS st ≠ 0) : spanR size o p st = .exc "NoCells" [] [] ∨ ∃ b m, Row size b m (stpS st) ∧ spanR size o p st = .ok (.val .s (.tup [.int b, .int m, .int (stpS st)])) := by
  unfold spanR
  obtain ⟨b1, b2⟩ := beg_rng size (stpS st) hs o
  obtain ⟨e1, e2⟩ := end_rng size (stpS st) hs p
  generalize stpS st = s at *
  generalize begS size s o = b at *
  generalize endS size s p = e at *
  by_cases c : manyS s b e < 1
  · exact .inl (if_pos c)
  · refine .inr ⟨b, manyS s b e, ?_, if_neg c⟩
    by_cases k : s < 0
    · have eM : manyS s b e = (b - e - s - 1) / (0 - s) := if_pos k
      have eL : lowS s = -1 := if_pos k
      have eH : highS size s = size - 1 := if_pos k
      rw [eM] at c ⊢
      rw [eL] at b1 e1
      rw [eH] at b2 e2
      generalize hm : (b - e - s - 1) / (0 - s) = m at c ⊢
      have h1 : (0 - s) * m ≤ b - e - s - 1 := by rw [← hm]; exact Int.mul_ediv_self_le (by omega)
      have h2 : (0 - s) * m = 0 - s * m := by rw [Int.sub_mul, Int.zero_mul]
      have h3 : s * (m - 1) = s * m - s := by rw [Int.mul_sub, Int.mul_one]
      have h4 : (0 - s) * 1 ≤ (0 - s) * m := Int.mul_le_mul_of_nonneg_left (by omega) (by omega)
      rw [h2, Int.mul_one] at h4
      rw [h2] at h1
      clear hm eM eL eH
      exact ⟨h, by omega, by omega, by omega, by omega, by omega⟩
    · have eM : manyS s b e = (e - b + s - 1) / s := if_neg k
      have eL : lowS s = 0 := if_neg k
      have eH : highS size s = size := if_neg k
      rw [eM] at c ⊢
      rw [eL] at b1 e1
      rw [eH] at b2 e2
      generalize hm : (e - b + s - 1) / s = m at c ⊢
      have h1 : s * m ≤ e - b + s - 1 := by rw [← hm]; exact Int.mul_ediv_self_le (by omega)
      have h3 : s * (m - 1) = s * m - s := by rw [Int.mul_sub, Int.mul_one]
      have h4 : s * 1 ≤ s * m := Int.mul_le_mul_of_nonneg_left (by omega) (by omega)
      rw [Int.mul_one] at h4
      clear hm eM eL eH
      exact ⟨h, by omega, by omega, by omega, by omega, by omega⟩

theorem kDraw (t : Tg) (ns : List Int) (k m : Int) (hk : 0 ≤ k) (hk2 : k ≤ 1000000) (hm : 0 < m) : F__law_draw [.val t (.scr ns), .val .s (.int k), .val .s (.int m)] = .ok (.val .s (.int (dr ns k m))) := F_draw _ ns k m hk hk2 hm
theorem six {z : Int} (h : 0 ≤ z) (h2 : z < 6) : z = 0 ∨ z = 1 ∨ z = 2 ∨ z = 3 ∨ z = 4 ∨ z = 5 := by omega
theorem ten {z : Int} (h : 0 ≤ z) (h2 : z < 10) : z = 0 ∨ z = 1 ∨ z = 2 ∨ z = 3 ∨ z = 4 ∨ z = 5 ∨ z = 6 ∨ z = 7 ∨ z = 8 ∨ z = 9 := by omega
theorem fd_ (j : Int) (h : 0 < j) (h2 : Sm j) : ∀ i : Int, kFdiv i j = .ok (.s, .int (i / j)) := fun i => kFdiv_ h h2
theorem md_ (j : Int) (h : 0 < j) : ∀ i : Int, kMod i j = .ok (.s, .int (i % j)) := fun i => kMod_ h

theorem row_le {size b m s : Int} (r : Row size b m s) : m ≤ size := by
  obtain ⟨s0, m1, b0, b1, l0, l1⟩ := r
  by_cases k : s < 0
  · have h : (0 - s) * (m - 1) ≥ 1 * (m - 1) := Int.mul_le_mul_of_nonneg_right (by omega) (by omega)
    rw [Int.sub_mul, Int.zero_mul] at h
    omega
  · have h : s * (m - 1) ≥ 1 * (m - 1) := Int.mul_le_mul_of_nonneg_right (by omega) (by omega)
    omega

theorem kNe_ss (t u : Tg) {x y : Str} (h : PyData.canLay0 (.str x) = true) (k : PyData.canLay0 (.str y) = true) : kNe (t, .str x) (u, .str y) = .ok (.s, .bl (!(x == y))) := by
  unfold kNe
  rw [if_pos ⟨by rw [dOk]; exact h, by rw [dOk]; exact k⟩] <;> rfl
theorem kEq_ss (t u : Tg) {x y : Str} (h : PyData.canLay0 (.str x) = true) (k : PyData.canLay0 (.str y) = true) : kEq (t, .str x) (u, .str y) = .ok (.s, .bl (x == y)) := by
  unfold kEq
  rw [if_pos ⟨by rw [dOk]; exact h, by rw [dOk]; exact k⟩] <;> rfl
theorem twelve {z : Int} (h : 0 ≤ z) (h2 : z < 12) : z = 0 ∨ z = 1 ∨ z = 2 ∨ z = 3 ∨ z = 4 ∨ z = 5 ∨ z = 6 ∨ z = 7 ∨ z = 8 ∨ z = 9 ∨ z = 10 ∨ z = 11 := by omega
@[simp] theorem isi_tt (t : Tg) (i : List D) : kIsi "tuple" (t, .tup i) = .ok (.s, .bl true) := by
  rw [kIsi_def, show isiT "tuple" (.tup i) = some true from by show kitB "tuple" "tuple" = _; decide +kernel] <;> rfl
@[simp] theorem F_whole (t : Tg) (i : Int) : F__law_whole [.val t (.int i)] = .ok (.val .s (.bl true)) := by
  unfold F__law_whole B__law_whole
  simp
theorem F_end (ns : List Int) (k size : Int) (hk : 0 ≤ k) (hk2 : k ≤ 1000) (hs : 1 ≤ size) : ∃ o, F__law_end [.val .s (.scr ns), .val .s (.int k), .val .s (.int size)] = .ok (.val .s (optD o)) := by
  unfold F__law_end B__law_end
  have d12 := fd_ 12 (by decide) (by decide)
  have d2 := fd_ 2 (by decide) (by decide)
  have m9 := md_ 9 (by decide)
  have m12 := md_ 12 (by decide)
  have m60 := md_ 1000000000000000000000000000000000000000000000000000000000000 (by decide)
  have ms := md_ size (by omega)
  have p1 : kPow 10 62 = .ok (.s, .int (10 ^ 62)) := kPow_10 (by decide) (by decide)
  have p2 : kPow 10 60 = .ok (.s, .int (10 ^ 60)) := kPow_10 (by decide) (by decide)
  have q := kDraw .s ns k 100000000000000000000000000000000000000000000000000000000000000 hk (by omega) (by decide)
  generalize dr ns k 100000000000000000000000000000000000000000000000000000000000000 = c at q
  rcases twelve (Int.emod_nonneg c (by decide : (12 : Int) ≠ 0)) (Int.emod_lt_of_pos c (by decide)) with h | h | h | h | h | h | h | h | h | h | h | h
  · exact ⟨none, by simp [q, p1, p2, d12, d2, m9, m12, m60, ms, h, kLst, shV, kAdd, shI, atI, ixN]⟩
  · exact ⟨some _, by simp [q, p1, p2, d12, d2, m9, m12, m60, ms, h, kLst, shV, kAdd, shI, atI, ixN]; rfl⟩
  · exact ⟨some _, by simp [q, p1, p2, d12, d2, m9, m12, m60, ms, h, kLst, shV, kAdd, shI, atI, ixN]; rfl⟩
  · exact ⟨some _, by simp [q, p1, p2, d12, d2, m9, m12, m60, ms, h, kLst, shV, kAdd, shI, atI, ixN]; rfl⟩
  · exact ⟨some _, by simp [q, p1, p2, d12, d2, m9, m12, m60, ms, h, kLst, shV, kAdd, shI, atI, ixN]; rfl⟩
  · exact ⟨some _, by simp [q, p1, p2, d12, d2, m9, m12, m60, ms, h, kLst, shV, kAdd, shI, atI, ixN]; rfl⟩
  · exact ⟨some _, by simp [q, p1, p2, d12, d2, m9, m12, m60, ms, h, kLst, shV, kAdd, shI, atI, ixN]; rfl⟩
  · exact ⟨some _, by simp [q, p1, p2, d12, d2, m9, m12, m60, ms, h, kLst, shV, kAdd, shI, atI, ixN]; rfl⟩
  · exact ⟨none, by simp [q, p1, p2, d12, d2, m9, m12, m60, ms, h, kLst, shV, kAdd, shI, atI, ixN]⟩
  · exact ⟨some _, by simp [q, p1, p2, d12, d2, m9, m12, m60, ms, h, kLst, shV, kAdd, shI, atI, ixN]; rfl⟩
  · exact ⟨some _, by simp [q, p1, p2, d12, d2, m9, m12, m60, ms, h, kLst, shV, kAdd, shI, atI, ixN]; rfl⟩
  · exact ⟨some _, by simp [q, p1, p2, d12, d2, m9, m12, m60, ms, h, kLst, shV, kAdd, shI, atI, ixN]; rfl⟩
theorem F_step (ns : List Int) (k : Int) (hk : 0 ≤ k) (hk2 : k ≤ 1000) : ∃ st, stpS st ≠ 0 ∧ Bd 61 (stpS st) ∧ F__law_step [.val .s (.scr ns), .val .s (.int k)] = .ok (.val .s (optD st)) := by
  unfold F__law_step B__law_step
  have d10 := fd_ 10 (by decide) (by decide)
  have m9 := md_ 9 (by decide)
  have m10 := md_ 10 (by decide)
  have mb := md_ 1000000000 (by decide)
  have m3 := md_ 30000 (by decide)
  have m60 := md_ 999999999999999999999999999999999999999999999999999999999999 (by decide)
  have p1 : kPow 10 62 = .ok (.s, .int (10 ^ 62)) := kPow_10 (by decide) (by decide)
  have p2 : kPow 10 60 = .ok (.s, .int (10 ^ 60)) := kPow_10 (by decide) (by decide)
  have p3 : kPow 10 9 = .ok (.s, .int (10 ^ 9)) := kPow_10 (by decide) (by decide)
  have q := kDraw .s ns k 100000000000000000000000000000000000000000000000000000000000000 hk (by omega) (by decide)
  generalize dr ns k 100000000000000000000000000000000000000000000000000000000000000 = c at q
  have q1 := Int.emod_nonneg (c / 10) (by decide : (999999999999999999999999999999999999999999999999999999999999 : Int) ≠ 0)
  have r1 := Int.emod_lt_of_pos (c / 10) (by decide : (0 : Int) < 999999999999999999999999999999999999999999999999999999999999)
  generalize hv : c / 10 % 999999999999999999999999999999999999999999999999999999999999 + 1 = v
  have v1 : 1 ≤ v := by omega
  have v2 : v ≤ 1000000000000000000000000000000000000000000000000000000000000 := by omega
  have a1 := Int.emod_nonneg v (by decide : (9 : Int) ≠ 0)
  have a2 := Int.emod_lt_of_pos v (by decide : (0 : Int) < 9)
  have b1 := Int.emod_nonneg v (by decide : (1000000000 : Int) ≠ 0)
  have b2 := Int.emod_lt_of_pos v (by decide : (0 : Int) < 1000000000)
  have c1 := Int.emod_nonneg v (by decide : (30000 : Int) ≠ 0)
  have c2 := Int.emod_lt_of_pos v (by decide : (0 : Int) < 30000)
  rcases ten (Int.emod_nonneg c (by decide : (10 : Int) ≠ 0)) (Int.emod_lt_of_pos c (by decide)) with h | h | h | h | h | h | h | h | h | h
  · exact ⟨none, by decide, .of (by decide) (by decide), by simp [q, p1, p2, p3, d10, m9, m10, mb, m3, m60, hv, h, kLst, shV, kAdd, shI, atI, ixN]⟩
  · exact ⟨some (1 + v % 9), by simp only [stpS]; omega, by simp only [stpS]; exact .of (by omega) (by omega), by simp [q, p1, p2, p3, d10, m9, m10, mb, m3, m60, hv, h, kLst, shV, kAdd, shI, atI, ixN]⟩
  · exact ⟨some (-1 - v % 9), by simp only [stpS]; omega, by simp only [stpS]; exact .of (by omega) (by omega), by simp [q, p1, p2, p3, d10, m9, m10, mb, m3, m60, hv, h, kLst, shV, kAdd, shI, atI, ixN]⟩
  · exact ⟨some 1, by decide, .of (by decide) (by decide), by simp [q, p1, p2, p3, d10, m9, m10, mb, m3, m60, hv, h, kLst, shV, kAdd, shI, atI, ixN]⟩
  · exact ⟨some (-1), by decide, .of (by decide) (by decide), by simp [q, p1, p2, p3, d10, m9, m10, mb, m3, m60, hv, h, kLst, shV, kAdd, shI, atI, ixN]⟩
  · exact ⟨some (v % 1000000000 + 1), by simp only [stpS]; omega, by simp only [stpS]; exact .of (by omega) (by omega), by simp [q, p1, p2, p3, d10, m9, m10, mb, m3, m60, hv, h, kLst, shV, kAdd, shI, atI, ixN]⟩
  · exact ⟨some (0 - v % 1000000000 - 1), by simp only [stpS]; omega, by simp only [stpS]; exact .of (by omega) (by omega), by simp [q, p1, p2, p3, d10, m9, m10, mb, m3, m60, hv, h, kLst, shV, kAdd, shI, atI, ixN]⟩
  · exact ⟨some v, by simp only [stpS]; omega, by simp only [stpS]; exact .of (by omega) (by omega), by simp [q, p1, p2, p3, d10, m9, m10, mb, m3, m60, hv, h, kLst, shV, kAdd, shI, atI, ixN]⟩
  · exact ⟨some (0 - v), by simp only [stpS]; omega, by simp only [stpS]; exact .of (by omega) (by omega), by simp [q, p1, p2, p3, d10, m9, m10, mb, m3, m60, hv, h, kLst, shV, kAdd, shI, atI, ixN]⟩
  · exact ⟨some (1 + v % 30000), by simp only [stpS]; omega, by simp only [stpS]; exact .of (by omega) (by omega), by simp [q, p1, p2, p3, d10, m9, m10, mb, m3, m60, hv, h, kLst, shV, kAdd, shI, atI, ixN]⟩
theorem F_size (ns : List Int) (k : Int) (hk : 0 ≤ k) (hk2 : k ≤ 1000) : ∃ z, 1 ≤ z ∧ z ≤ 1000000000 ∧ F__law_size [.val .s (.scr ns), .val .s (.int k)] = .ok (.val .s (.int z)) := by
  unfold F__law_size B__law_size
  have d6 := fd_ 6 (by decide) (by decide)
  have m6 := md_ 6 (by decide)
  have mb := md_ 1000000000 (by decide)
  have mk := md_ 1000 (by decide)
  have m5 := md_ 5 (by decide)
  have p1 : kPow 10 12 = .ok (.s, .int (10 ^ 12)) := kPow_10 (by decide) (by decide)
  have p3 : kPow 10 9 = .ok (.s, .int (10 ^ 9)) := kPow_10 (by decide) (by decide)
  have q := kDraw .s ns k 1000000000000 hk (by omega) (by decide)
  generalize dr ns k 1000000000000 = c at q
  have b1 := Int.emod_nonneg (c / 6) (by decide : (1000000000 : Int) ≠ 0)
  have b2 := Int.emod_lt_of_pos (c / 6) (by decide : (0 : Int) < 1000000000)
  have c1 := Int.emod_nonneg (c / 6) (by decide : (1000 : Int) ≠ 0)
  have c2 := Int.emod_lt_of_pos (c / 6) (by decide : (0 : Int) < 1000)
  have e1 := Int.emod_nonneg (c / 6) (by decide : (5 : Int) ≠ 0)
  have e2 := Int.emod_lt_of_pos (c / 6) (by decide : (0 : Int) < 5)
  rcases six (Int.emod_nonneg c (by decide : (6 : Int) ≠ 0)) (Int.emod_lt_of_pos c (by decide)) with h | h | h | h | h | h
  · exact ⟨1000000000, by decide, by decide, by simp [q, p1, p3, d6, m6, mb, mk, m5, h, kLst, shV, atI, ixN]⟩
  · exact ⟨1 + c / 6 % 1000000000, by omega, by omega, by simp [q, p1, p3, d6, m6, mb, mk, m5, h, kLst, shV, atI, ixN]⟩
  · exact ⟨1 + c / 6 % 1000, by omega, by omega, by simp [q, p1, p3, d6, m6, mb, mk, m5, h, kLst, shV, atI, ixN]⟩
  · exact ⟨1000000000 - c / 6 % 5, by omega, by omega, by simp [q, p1, p3, d6, m6, mb, mk, m5, h, kLst, shV, atI, ixN]⟩
  · exact ⟨1, by decide, by decide, by simp [q, p1, p3, d6, m6, mb, mk, m5, h, kLst, shV, atI, ixN]⟩
  · exact ⟨1000000000, by decide, by decide, by simp [q, p1, p3, d6, m6, mb, mk, m5, h, kLst, shV, atI, ixN]⟩
/-- the law's own bringing is the program's -/
def lbS (o : Option Int) (size low high other : Int) : Int := match o with
  | none => other
  | some a => brt a size low high
theorem F_lbrt (o : Option Int) (size low high other : Int) (h : low ≤ high) : F__law_brought [.val .s (optD o), .val .s (.int size), .val .s (.int low), .val .s (.int high), .val .s (.int other)] = .ok (.val .s (.int (lbS o size low high other))) := by
  unfold F__law_brought B__law_brought
  cases o with
  | none => simp [lbS]
  | some a =>
    have e : ∀ z : Int, min (max z low) high = max low (min high z) := fun z => by omega
    by_cases c : a < 0 <;> simp [c, brt, e, lbS]
theorem lb1 {s : Int} (o : Option Int) (size : Int) (k : s < 0) : lbS o size (-1) (size - 1) (size - 1) = begS size s o := by cases o <;> simp [lbS, begS, lowS, highS, k]
theorem lb2 {s : Int} (o : Option Int) (size : Int) (k : s < 0) : lbS o size (-1) (size - 1) (-1) = endS size s o := by cases o <;> simp [lbS, endS, lowS, highS, k]
theorem lb3 {s : Int} (o : Option Int) (size : Int) (k : ¬ s < 0) : lbS o size 0 size 0 = begS size s o := by cases o <;> simp [lbS, begS, lowS, highS, k]
theorem lb4 {s : Int} (o : Option Int) (size : Int) (k : ¬ s < 0) : lbS o size 0 size size = endS size s o := by cases o <;> simp [lbS, endS, lowS, highS, k]
theorem many_lt {s b e : Int} (h : s ≠ 0) : manyS s b e < 1 ↔ (0 < s ∧ e ≤ b) ∨ (s < 0 ∧ b ≤ e) := by
  unfold manyS
  by_cases k : s < 0
  · rw [if_pos k, Int.ediv_lt_iff_lt_mul (by omega)]; omega
  · rw [if_neg k, Int.ediv_lt_iff_lt_mul (by omega)]; omega
@[simp] theorem cat1 : catD ("NoCells" : Str) ("NoCells" : Str) = true := by decide
@[simp] theorem cat2 : catD ("NoCells" : Str) ("PaceError" : Str) = true := by decide
@[simp] theorem cat3 : catX ("NoCells" : Str) ("ValueError" : Str) = true := by decide
@[simp] theorem cat4 : catX ("NoCells" : Str) ("NoStep" : Str) = false := by decide
@[simp] theorem cat5 : catX ("NoCells" : Str) ("NoPlace" : Str) = false := by decide
theorem itT_o3 (t : Tg) (o : Option Int) : toArg (itT t, optD o) = .val .s (optD o) := by rw [toArg_def, if_pos (imm_o o)]
@[simp] theorem imm_pp (o p st : Option Int) : imm (.tup [optD o, optD p, optD st]) = true := by simp
theorem F_told (size : Int) (o p st : Option Int) (s0 : stpS st ≠ 0) (sb : Sm (stpS st)) : F__law_told [.val .s (.int size), .val .s (.tup [optD o, optD p, optD st])] =
    if manyS (stpS st) (begS size (stpS st) o) (endS size (stpS st) p) < 1 then .ok (.val .s (.tup [.str "cells", .non]))
    else .ok (.val .s (.tup [.str "told", .tup [.int (begS size (stpS st) o), .int (manyS (stpS st) (begS size (stpS st) o) (endS size (stpS st) p)), .int (stpS st)]])) := by
  unfold F__law_told B__law_told
  have hsp := F_spn size o p st s0 sb
  unfold spanR at hsp
  generalize manyS (stpS st) (begS size (stpS st) o) (endS size (stpS st) p) = m at *
  by_cases c : m < 1
  · rw [if_pos c] at hsp ⊢
    simp [T1__law_told, H2__law_told, atI, ixN, hsp, kTup, tagA, shV]
  · rw [if_neg c] at hsp ⊢
    simp [T1__law_told, H2__law_told, atI, ixN, hsp, kTup, tagA, shV]
theorem F_base (size : Int) (o p st : Option Int) (s0 : stpS st ≠ 0) (sb : Sm (stpS st)) (c : manyS (stpS st) (begS size (stpS st) o) (endS size (stpS st) p) < 1) :
    F__law_base [.val .s (.int size), .val .s (.tup [optD o, optD p, optD st])] = .ok (.val .s (.bl true)) := by
  unfold F__law_base B__law_base
  have hsp := F_spn size o p st s0 sb
  unfold spanR at hsp
  rw [if_pos c] at hsp
  have hk := kEq_ss .s .s (x := "base") (y := "base") (by decide +kernel) (by decide +kernel)
  simp at hk
  simp [T1__law_base, H2__law_base, atI, ixN, hsp, hk]
theorem F_right (size b e s : Int) (s0 : s ≠ 0) (sb : Bd 61 s) (m1 : ¬ manyS s b e < 1) (mb : manyS s b e ≤ 1000000000) :
    F__law_right [.val .s (.tup [.int b, .int (manyS s b e), .int s]), .val .s (.int b), .val .s (.int e), .val .s (.int s)] = .ok (.val .s (.bl true)) := by
  unfold F__law_right B__law_right
  have fact : (s < 0 → b + (manyS s b e - 1) * s > e ∧ b + (manyS s b e - 1) * s + s ≤ e) ∧ (0 < s → b + (manyS s b e - 1) * s < e ∧ b + (manyS s b e - 1) * s + s ≥ e) := by
    refine ⟨fun k => ?_, fun k => ?_⟩
    · have eM : manyS s b e = (b - e - s - 1) / (0 - s) := if_pos k
      generalize hm : manyS s b e = m at *
      have h1 : (0 - s) * m ≤ b - e - s - 1 := by rw [eM]; exact Int.mul_ediv_self_le (by omega)
      have h2 : b - e - s - 1 < (0 - s) * (m + 1) := by
        have := Int.lt_mul_ediv_self_add (x := b - e - s - 1) (k := 0 - s) (by omega)
        rw [← eM] at this
        rw [Int.mul_add, Int.mul_one]; exact this
      rw [Int.mul_add, Int.mul_one, Int.sub_mul, Int.zero_mul] at h2
      rw [Int.sub_mul, Int.zero_mul] at h1
      rw [Int.sub_mul, Int.one_mul, Int.mul_comm m s]
      omega
    · have eM : manyS s b e = (e - b + s - 1) / s := if_neg (by omega)
      generalize hm : manyS s b e = m at *
      have h1 : s * m ≤ e - b + s - 1 := by rw [eM]; exact Int.mul_ediv_self_le (by omega)
      have h2 : e - b + s - 1 < s * (m + 1) := by
        have := Int.lt_mul_ediv_self_add (x := e - b + s - 1) (k := s) (by omega)
        rw [← eM] at this
        rw [Int.mul_add, Int.mul_one]; exact this
      rw [Int.mul_add, Int.mul_one] at h2
      rw [Int.sub_mul, Int.one_mul, Int.mul_comm m s]
      omega
  generalize manyS s b e = m at *
  have km : kMul (.s, .int (m - 1)) (.s, .int s) = .ok (.val .s (.int ((m - 1) * s))) := kMul_i (Bd.sm (n := 10) (.of (by omega) (by omega))) sb.sm
  by_cases k : s < 0
  · have g : ¬ 0 < s := by omega
    obtain ⟨f1, f2⟩ := fact.1 k
    simp [km, m1, g, f1, f2]
  · have g : 0 < s := by omega
    obtain ⟨f1, f2⟩ := fact.2 g
    simp [km, m1, g, f1, f2]
def LI (ns : List Int) (_ : Nat) (e : Env) : Prop := ∃ a b c d f g h i : Option EV, e = [some (.val .s (.scr ns)), a, b, c, d, f, g, h, i]
theorem law_st (ns : List Int) (i : Nat) (d : D) (hd : (rngD 0 15)[i]? = some d) (e : Env) (he : LI ns i e) : Rd (gdN 1) L1_law (.s, d) e (LI ns (i + 1)) fun _ => False := by
  obtain ⟨a1, a2, a3, a4, a5, a6, a7, a8, rfl⟩ := he
  obtain ⟨rfl, hi⟩ := rngD_get hd
  have k4 : kMul (.s, .int 4) (.s, .int i) = .ok (.val .s (.int (4 * i))) := kMul_i (by decide) (Bd.sm (n := 2) (.of (by omega) (by omega)))
  obtain ⟨size, z1, z2, hz⟩ := F_size ns (4 * (i : Int)) (by omega) (by omega)
  obtain ⟨o, ho⟩ := F_end ns (4 * (i : Int) + 1) size (by omega) (by omega) z1
  obtain ⟨p, hp⟩ := F_end ns (4 * (i : Int) + 2) size (by omega) (by omega) z1
  obtain ⟨st, s0, sb, hst⟩ := F_step ns (4 * (i : Int) + 3) (by omega) (by omega)
  have b1 := F_lbrt o size 0 size 0 (by omega)
  have b2 := F_lbrt p size 0 size size (by omega)
  have b3 := F_lbrt o size (-1) (size - 1) (size - 1) (by omega)
  have b4 := F_lbrt p size (-1) (size - 1) (-1) (by omega)
  have ht := F_told size o p st s0 sb.sm
  have hb := F_base size o p st s0 sb.sm
  have hr := F_right size (begS size (stpS st) o) (endS size (stpS st) p) (stpS st) s0 sb
  have hm := many_lt (b := begS size (stpS st) o) (e := endS size (stpS st) p) s0
  have row := span_row size o p st z1 s0
  have hmb : ¬ manyS (stpS st) (begS size (stpS st) o) (endS size (stpS st) p) < 1 → manyS (stpS st) (begS size (stpS st) o) (endS size (stpS st) p) ≤ 1000000000 := fun c => by
    rcases row with h | ⟨b, m, r, h⟩
    · unfold spanR at h; rw [if_neg c] at h; cases h
    · unfold spanR at h
      rw [if_neg c] at h
      simp only [Res.ok.injEq, EV.val.injEq, D.tup.injEq, List.cons.injEq, D.int.injEq, true_and, and_true] at h
      have := row_le r
      omega
  have c1 := kNe_ss .s .s (x := "cells") (y := "cells") (by decide +kernel) (by decide +kernel)
  have c2 := kNe_ss .s .s (x := "told") (y := "told") (by decide +kernel) (by decide +kernel)
  simp at c1 c2
  have eb := lb1 (s := stpS st) o size
  have ee := lb2 (s := stpS st) p size
  have eb' := lb3 (s := stpS st) o size
  have ee' := lb4 (s := stpS st) p size
  generalize hB : begS size (stpS st) o = B at *
  generalize hE : endS size (stpS st) p = E at *
  generalize hM : manyS (stpS st) B E = m at *
  have hgo : ∃ b1 b2 b3 b4 b5 b6 b7 b8 : Option EV, L1_law [some (.val .s (.scr ns)), some (.val .s (.int i)), a2, a3, a4, a5, a6, a7, a8] = .nx [some (.val .s (.scr ns)), b1, b2, b3, b4, b5, b6, b7, b8] := by
    by_cases k : stpS st < 0
    · rw [eb k] at b3
      rw [ee k] at b4
      have k2 : ¬ 0 < stpS st := by omega
      cases st with
      | none => exact absurd k (by decide)
      | some s =>
        simp only [stpS] at *
        simp only [optD_some] at *
        by_cases c : m < 1
        · have c3 : B ≤ E := by have := hm.mp c; omega
          have hb' := hb c
          rw [if_pos c] at ht
          simp [L1_law, k4, hz, ho, hp, hst, b1, b2, b3, b4, ht, hb', c1, c2, k, k2, c3, kTup, tagA, shV, atI, ixN]
        · have c3 : ¬ B ≤ E := fun z => c (hm.mpr (.inr ⟨k, z⟩))
          have hr' := hr c (hmb c)
          rw [if_neg c] at ht
          simp [L1_law, k4, hz, ho, hp, hst, b1, b2, b3, b4, ht, hr', c1, c2, k, k2, c3, kTup, tagA, shV, atI, ixN]
    · rw [eb' k] at b1
      rw [ee' k] at b2
      have k2 : 0 < stpS st := by omega
      cases st with
      | none =>
        simp only [stpS] at *
        simp only [optD_none] at *
        by_cases c : m < 1
        · have c3 : E ≤ B := by have := hm.mp c; omega
          have hb' := hb c
          rw [if_pos c] at ht
          simp [L1_law, k4, hz, ho, hp, hst, b1, b2, ht, hb', c1, c2, c3, kTup, tagA, shV, atI, ixN]
        · have c3 : ¬ E ≤ B := fun z => c (hm.mpr (.inl ⟨k2, z⟩))
          have hr' := hr c (hmb c)
          rw [if_neg c] at ht
          simp [L1_law, k4, hz, ho, hp, hst, b1, b2, ht, hr', c1, c2, c3, kTup, tagA, shV, atI, ixN]
      | some s =>
        simp only [stpS] at *
        simp only [optD_some] at *
        by_cases c : m < 1
        · have c3 : E ≤ B := by have := hm.mp c; omega
          have hb' := hb c
          rw [if_pos c] at ht
          simp [L1_law, k4, hz, ho, hp, hst, b1, b2, ht, hb', c1, c2, k, k2, c3, kTup, tagA, shV, atI, ixN]
        · have c3 : ¬ E ≤ B := fun z => c (hm.mpr (.inl ⟨k2, z⟩))
          have hr' := hr c (hmb c)
          rw [if_neg c] at ht
          simp [L1_law, k4, hz, ho, hp, hst, b1, b2, ht, hr', c1, c2, k, k2, c3, kTup, tagA, shV, atI, ixN]
  obtain ⟨_, _, _, _, _, _, _, _, hgo⟩ := hgo
  exact .nx (by simp) hgo ⟨_, _, _, _, _, _, _, _, rfl⟩
theorem law_true (ns : List Int) (hl : ns.length ≤ 63) : ∃ t, F_law [.val .s (.scr ns)] = .ok (.val t (.bl true)) := by
  unfold F_law B_law
  have i0 : LI ns 0 [some (.val .s (.scr ns)), none, none, none, none, none, none, none, none] := ⟨none, none, none, none, none, none, none, none, rfl⟩
  obtain ⟨e, h1, a1, a2, a3, a4, a5, a6, a7, a8, rfl⟩ := forD_go (LI ns) (rngD 0 15) _ i0 (law_st ns)
  simp [h1]
end DL.Law

namespace DL.Law
open PySem PySem.Spec PyProof.Rows L2
/-! ### the text by places -/
def topS (i : Nat) : Stmt := PySem.Challenge.pw_pacehall_k15_great_spans.main.body.getD i (.Pass ⟨0, 0, 0, 0⟩)
abbrev s_brought : Stmt := topS 6
abbrev s_edges : Stmt := topS 7
abbrev s_span : Stmt := topS 8
abbrev s__law_draw : Stmt := topS 10
abbrev s__law_whole : Stmt := topS 11
abbrev s__law_end : Stmt := topS 12
abbrev s__law_step : Stmt := topS 13
abbrev s__law_size : Stmt := topS 14
abbrev s__law_brought : Stmt := topS 15
abbrev s__law_told : Stmt := topS 16
abbrev s__law_base : Stmt := topS 17
abbrev s__law_right : Stmt := topS 18
abbrev s_law : Stmt := topS 19
/-! ### what the top has written -/
def xnames : List Str := ["NoCells", "NoStep"]
def GG (K : PySem.W.Frag) : Gx := ⟨K, clOf xnames K⟩
structure Tx (K : PySem.W.Frag) (mg : Str → Option Value) : Prop where
  z_ValueError : mg "ValueError" = none
  z_bool : mg "bool" = none
  z_int : mg "int" = none
  z_isinstance : mg "isinstance" = none
  z_len : mg "len" = none
  z_max : mg "max" = none
  z_min : mg "min" = none
  z_range : mg "range" = none
  z_tuple : mg "tuple" = none
  x_NoCells : Xc (GG K) mg "NoCells"
  x_NoStep : Xc (GG K) mg "NoStep"
  c_NoCells : Catch (GG K) mg "NoCells"
  c_PaceError : Catch (GG K) mg "PaceError"
  i_NoPlace : mg "NoPlace" = some (.ref (He.ga K "NoPlace")) ∧ IsC (GG K) (.ref (He.ga K "NoPlace")) "NoPlace"
  i_NoStep : mg "NoStep" = some (.ref (He.ga K "NoStep")) ∧ IsC (GG K) (.ref (He.ga K "NoStep")) "NoStep"
  i_ValueError : IsC (GG K) (.type "ValueError") "ValueError"
  z : True
section
variable {P : Program} {w : World} {K : PySem.W.Frag} {mg : Str → Option Value} {base : Heap}
theorem sc_brought : FnScope ["edge", "size", "low", "high"] ["edge", "size", "low", "high"] (defScope s_brought) := ⟨rfl, rfl, rfl, by decide +kernel, rfl, by decide +kernel, by decide +kernel⟩
theorem ok_brought {f : Addr} {fd : FuncData} (F : FnT (GG K).K "brought" "brought" s_brought [] f fd) (T : Tx K mg)  : FnA P w (GG K) mg base f 1 4 F_brought :=
  fn_defD (N := ["edge", "size", "low", "high"]) (ps := ["edge", "size", "low", "high"]) (n := 0) (FB := B_brought) F sc_brought (F.bindsN (ps := ["edge", "size", "low", "high"]) fun _ _ _ _ _ _ us hl => match us, hl with | [_, _, _, _], _ => rfl) fun cdv A outer s H E g => by
  exact (mss_cons (ms_if (mt_cmp ok_lt (mv_var 0) mv_int (nomark _))
    (mss_one (ms_set 0 g.nd (me_add (mv_var 0) (mv_var 1) g.K)))
    mss_nil) (mss_one (ms_ret (me (mv_max g T.z_max (ma_cons (mv_var 2) (ma_cons (mv_min g T.z_min (ma_cons (mv_var 3) (ma_cons (mv_var 0) ma_nil))) ma_nil)))))))
theorem sc_edges : FnScope ["size", "start", "stop", "step", "low", "high", "begin", "end"] ["size", "start", "stop", "step"] (defScope s_edges) := ⟨rfl, rfl, rfl, by decide +kernel, rfl, by decide +kernel, by decide +kernel⟩
theorem ok_edges {f : Addr} {fd : FuncData} (F : FnT (GG K).K "edges" "edges" s_edges [] f fd) (T : Tx K mg) (h_brought : FnD P w (GG K) mg base "brought" 1 4 F_brought) : FnA P w (GG K) mg base f 2 4 F_edges :=
  fn_defD (N := ["size", "start", "stop", "step", "low", "high", "begin", "end"]) (ps := ["size", "start", "stop", "step"]) (n := 1) (FB := B_edges) F sc_edges (F.bindsN (ps := ["size", "start", "stop", "step"]) fun _ _ _ _ _ _ us hl => match us, hl with | [_, _, _, _], _ => rfl) fun cdv A outer s H E g => by
  exact (mss_cons (ms_set 4 g.nd (me mv_int)) (mss_cons (ms_frz 0 (ms_set 5 g.nd (me (mv_var 0)))) (mss_cons (ms_if (mt_cmp ok_lt (mv_var 3) mv_int (nomark _))
    (mss_cons (ms_set 4 g.nd (me (mv_neg mv_int))) (mss_one (ms_set 5 g.nd (me (mv_sub (mv_var 0) mv_int)))))
    mss_nil) (mss_cons (ms_frz 4 (ms_set 6 g.nd (me (mv_var 4)))) (mss_cons (ms_frz 5 (ms_set 7 g.nd (me (mv_var 5)))) (mss_cons (ms_if (mt_cmp ok_lt (mv_var 3) mv_int (nomark _))
    (mss_cons (ms_frz 5 (ms_set 6 g.nd (me (mv_var 5)))) (mss_one (ms_frz 4 (ms_set 7 g.nd (me (mv_var 4))))))
    mss_nil) (mss_cons (ms_if (mt_cmp ok_notN (mv_var 1) mv_non (nomark _))
    (mss_one (ms_set 6 g.nd (me_call g h_brought (by decide) (ma_cons (mv_var 1) (ma_cons (mv_var 0) (ma_cons (mv_var 4) (ma_cons (mv_var 5) ma_nil)))))))
    mss_nil) (mss_cons (ms_if (mt_cmp ok_notN (mv_var 2) mv_non (nomark _))
    (mss_one (ms_set 7 g.nd (me_call g h_brought (by decide) (ma_cons (mv_var 2) (ma_cons (mv_var 0) (ma_cons (mv_var 4) (ma_cons (mv_var 5) ma_nil)))))))
    mss_nil) (mss_one (ms_frz 7 (ms_frz 6 (ms_ret (me (mv_tup (ma_cons (mv_var 6) (ma_cons (mv_var 7) ma_nil))))))))))))))))
theorem sc_span : FnScope ["size", "start", "stop", "step", "many", "begin", "end"] ["size", "start", "stop", "step"] (defScope s_span) := ⟨rfl, rfl, rfl, by decide +kernel, rfl, by decide +kernel, by decide +kernel⟩
theorem ok_span {f : Addr} {fd : FuncData} (F : FnT (GG K).K "span" "span" s_span [.non, .non, .non] f fd) (T : Tx K mg) (h_edges : FnD P w (GG K) mg base "edges" 2 4 F_edges) : FnA P w (GG K) mg base f 3 4 F_span :=
  fn_defD (N := ["size", "start", "stop", "step", "many", "begin", "end"]) (ps := ["size", "start", "stop", "step"]) (n := 2) (FB := B_span) F sc_span (bindsAll (ps := ["size", "start", "stop", "step"]) F (fun z => by cases z) fun _ _ _ _ _ _ _ us its h1 h2 => match us, its, h1, h2 with | [_, _, _, _], [_, _, _], _, _ => ⟨_, rfl, rfl⟩) fun cdv A outer s H E g => by
  exact (mss_cons (ms_if (mt_cmp ok_isN (mv_var 3) mv_non (nomark _))
    (mss_one (ms_set 3 g.nd (me mv_int)))
    mss_nil) (mss_cons (ms_if (mt_cmp (ok_eq g.toBas) (mv_var 3) mv_int (nomark _))
    (mss_one (ms_raise0 g T.x_NoStep))
    mss_nil) (mss_cons (ms_asg (mv (me_call g h_edges (by decide) (ma_cons (mv_var 0) (ma_cons (mv_var 1) (ma_cons (mv_var 2) (ma_cons (mv_var 3) ma_nil)))))) (mg_tup g.calm (mgs_cons (mg_name 5 g.nd) (mgs_cons (mg_name 6 g.nd) mgs_nil)))) (mss_cons (ms_set 4 g.nd (me (mv_fdiv (mv_sub (mv (me_add (mv_sub (mv_var 6) (mv_var 5)) (mv_var 3) g.K)) mv_int) (mv_var 3)))) (mss_cons (ms_if (mt_cmp ok_lt (mv_var 3) mv_int (nomark _))
    (mss_one (ms_set 4 g.nd (me (mv_fdiv (mv_sub (mv_sub (mv_sub (mv_var 5) (mv_var 6)) (mv_var 3)) mv_int) (mv_sub mv_int (mv_var 3))))))
    mss_nil) (mss_cons (ms_if (mt_cmp ok_lt (mv_var 4) mv_int (nomark _))
    (mss_one (ms_raise0 g T.x_NoCells))
    mss_nil) (mss_one (ms_frz 3 (ms_frz 4 (ms_frz 5 (ms_ret (me (mv_tup (ma_cons (mv_var 5) (ma_cons (mv_var 4) (ma_cons (mv_var 3) ma_nil))))))))))))))))
theorem sc__law_draw : FnScope ["_law_script", "_law_k", "_law_many", "_law_number"] ["_law_script", "_law_k", "_law_many"] (defScope s__law_draw) := ⟨rfl, rfl, rfl, by decide +kernel, rfl, by decide +kernel, by decide +kernel⟩
theorem ok__law_draw {f : Addr} {fd : FuncData} (F : FnT (GG K).K "_law_draw" "_law_draw" s__law_draw [] f fd) (T : Tx K mg)  : FnA P w (GG K) mg base f 1 3 F__law_draw :=
  fn_defD (N := ["_law_script", "_law_k", "_law_many", "_law_number"]) (ps := ["_law_script", "_law_k", "_law_many"]) (n := 0) (FB := B__law_draw) F sc__law_draw (F.bindsN (ps := ["_law_script", "_law_k", "_law_many"]) fun _ _ _ _ _ _ us hl => match us, hl with | [_, _, _], _ => rfl) fun cdv A outer s H E g => by
  exact (mss_cons (ms_if (mt_cmp ok_lt (mv_var 1) (mv_len g.toBas T.z_len (ma_cons (mv_var 0) ma_nil)) (nomark _))
    (mss_one (ms_ret (me (mv_mod (mv_ix g.toBas (mv_var 0) (mv_var 1)) (mv_var 2)))))
    mss_nil) (mss_cons (ms_set 3 g.nd (me_add (mv (me_mul (mv (me_mul (mv_var 1) (mv_var 1))) mv_int)) mv_int g.K)) (mss_cons (ms_if (mt_cmp ok_gt (mv_len g.toBas T.z_len (ma_cons (mv_var 0) ma_nil)) mv_int (nomark _))
    (mss_cons (ms_set 3 g.nd (me (mv_mod (mv_ix g.toBas (mv_var 0) (mv_mod (mv_var 1) (mv_len g.toBas T.z_len (ma_cons (mv_var 0) ma_nil)))) mv_int))) (mss_one (ms_set 3 g.nd (me_add (mv (me_mul (mv_var 3) (mv (me_add mv_int (mv (me_mul (mv (me_mul mv_int (mv_var 1))) (mv_var 1))) g.K)))) (mv (me_mul (mv_var 1) mv_int)) g.K))))
    mss_nil) (mss_one (ms_ret (me (mv_mod (mv_mod (mv (me_mul (mv_mod (mv_var 3) mv_int) mv_int)) mv_int) (mv_var 2))))))))
theorem sc__law_whole : FnScope ["_law_found"] ["_law_found"] (defScope s__law_whole) := ⟨rfl, rfl, rfl, by decide +kernel, rfl, by decide +kernel, by decide +kernel⟩
theorem ok__law_whole {f : Addr} {fd : FuncData} (F : FnT (GG K).K "_law_whole" "_law_whole" s__law_whole [] f fd) (T : Tx K mg)  : FnA P w (GG K) mg base f 1 1 F__law_whole :=
  fn_defD (N := ["_law_found"]) (ps := ["_law_found"]) (n := 0) (FB := B__law_whole) F sc__law_whole (F.bindsN (ps := ["_law_found"]) fun _ _ _ _ _ _ us hl => match us, hl with | [_], _ => rfl) fun cdv A outer s H E g => by
  exact (mss_one (ms_ret (me (mv_and (mv_isi g.toBas T.z_isinstance T.z_int PyProof.Rows.boot_int (mv_var 0)) (mv_one (mv_not (mv_isi g.toBas T.z_isinstance T.z_bool PyProof.Rows.boot_bool (mv_var 0))))))))
theorem sc__law_end : FnScope ["_law_script", "_law_k", "_law_size_here", "_law_cell", "_law_far", "_law_near", "_law_some"] ["_law_script", "_law_k", "_law_size_here"] (defScope s__law_end) := ⟨rfl, rfl, rfl, by decide +kernel, rfl, by decide +kernel, by decide +kernel⟩
theorem ok__law_end {f : Addr} {fd : FuncData} (F : FnT (GG K).K "_law_end" "_law_end" s__law_end [] f fd) (T : Tx K mg) (h__law_draw : FnD P w (GG K) mg base "_law_draw" 1 3 F__law_draw) : FnA P w (GG K) mg base f 2 3 F__law_end :=
  fn_defD (N := ["_law_script", "_law_k", "_law_size_here", "_law_cell", "_law_far", "_law_near", "_law_some"]) (ps := ["_law_script", "_law_k", "_law_size_here"]) (n := 1) (FB := B__law_end) F sc__law_end (F.bindsN (ps := ["_law_script", "_law_k", "_law_size_here"]) fun _ _ _ _ _ _ us hl => match us, hl with | [_, _, _], _ => rfl) fun cdv A outer s H E g => by
  exact (mss_cons (ms_set 3 g.nd (me_call g h__law_draw (by decide) (ma_cons (mv_var 0) (ma_cons (mv_var 1) (ma_cons (mv_pow mv_int mv_int) ma_nil))))) (mss_cons (ms_set 4 g.nd (me (mv_mod (mv_fdiv (mv_var 3) mv_int) (mv_pow mv_int mv_int)))) (mss_cons (ms_set 5 g.nd (me (mv_sub (mv_mod (mv_fdiv (mv_var 3) mv_int) mv_int) mv_int))) (mss_cons (ms_frz 5 (ms_frz 4 (ms_set 6 g.nd (me_lst (ma_cons mv_non (ma_cons (mv_var 5) (ma_cons (mv (me_add (mv_var 2) (mv_var 5) g.K)) (ma_cons (mv (me_add (mv_sub mv_int (mv_var 2)) (mv_var 5) g.K)) (ma_cons (mv_mod (mv_var 4) (mv_var 2)) (ma_cons (mv_sub mv_int (mv_mod (mv_var 4) (mv_var 2))) (ma_cons (mv_var 4) (ma_cons (mv_sub mv_int (mv_var 4)) (ma_cons mv_non (ma_cons (mv_var 5) (ma_cons (mv_mod (mv_var 4) (mv_var 2)) ma_nil))))))))))))))) (mss_one (ms_ret (me (mv_ix g.toBas (mv (me_add (mv_var 6) (mv (me_lst (ma_cons (mv_sub (mv_sub (mv_var 2) mv_int) (mv_fdiv (mv_mod (mv_var 4) (mv_var 2)) mv_int)) ma_nil))) g.K)) (mv_mod (mv_var 3) mv_int)))))))))
theorem sc__law_step : FnScope ["_law_script", "_law_k", "_law_cell", "_law_many", "_law_some"] ["_law_script", "_law_k"] (defScope s__law_step) := ⟨rfl, rfl, rfl, by decide +kernel, rfl, by decide +kernel, by decide +kernel⟩
theorem ok__law_step {f : Addr} {fd : FuncData} (F : FnT (GG K).K "_law_step" "_law_step" s__law_step [] f fd) (T : Tx K mg) (h__law_draw : FnD P w (GG K) mg base "_law_draw" 1 3 F__law_draw) : FnA P w (GG K) mg base f 2 2 F__law_step :=
  fn_defD (N := ["_law_script", "_law_k", "_law_cell", "_law_many", "_law_some"]) (ps := ["_law_script", "_law_k"]) (n := 1) (FB := B__law_step) F sc__law_step (F.bindsN (ps := ["_law_script", "_law_k"]) fun _ _ _ _ _ _ us hl => match us, hl with | [_, _], _ => rfl) fun cdv A outer s H E g => by
  exact (mss_cons (ms_set 2 g.nd (me_call g h__law_draw (by decide) (ma_cons (mv_var 0) (ma_cons (mv_var 1) (ma_cons (mv_pow mv_int mv_int) ma_nil))))) (mss_cons (ms_set 3 g.nd (me_add (mv_mod (mv_fdiv (mv_var 2) mv_int) (mv_sub (mv_pow mv_int mv_int) mv_int)) mv_int g.K)) (mss_cons (ms_frz 3 (ms_set 4 g.nd (me_lst (ma_cons mv_non (ma_cons (mv (me_add mv_int (mv_mod (mv_var 3) mv_int) g.K)) (ma_cons (mv_sub (mv_sub mv_int mv_int) (mv_mod (mv_var 3) mv_int)) (ma_cons mv_int (ma_cons (mv_neg mv_int) (ma_cons (mv (me_add (mv_mod (mv_var 3) (mv_pow mv_int mv_int)) mv_int g.K)) (ma_cons (mv_sub (mv_sub mv_int (mv_mod (mv_var 3) (mv_pow mv_int mv_int))) mv_int) (ma_cons (mv_var 3) (ma_cons (mv_sub mv_int (mv_var 3)) ma_nil)))))))))))) (mss_one (ms_ret (me (mv_ix g.toBas (mv (me_add (mv_var 4) (mv (me_lst (ma_cons (mv (me_add mv_int (mv_mod (mv_var 3) mv_int) g.K)) ma_nil))) g.K)) (mv_mod (mv_var 2) mv_int))))))))
theorem sc__law_size : FnScope ["_law_script", "_law_k", "_law_cell"] ["_law_script", "_law_k"] (defScope s__law_size) := ⟨rfl, rfl, rfl, by decide +kernel, rfl, by decide +kernel, by decide +kernel⟩
theorem ok__law_size {f : Addr} {fd : FuncData} (F : FnT (GG K).K "_law_size" "_law_size" s__law_size [] f fd) (T : Tx K mg) (h__law_draw : FnD P w (GG K) mg base "_law_draw" 1 3 F__law_draw) : FnA P w (GG K) mg base f 2 2 F__law_size :=
  fn_defD (N := ["_law_script", "_law_k", "_law_cell"]) (ps := ["_law_script", "_law_k"]) (n := 1) (FB := B__law_size) F sc__law_size (F.bindsN (ps := ["_law_script", "_law_k"]) fun _ _ _ _ _ _ us hl => match us, hl with | [_, _], _ => rfl) fun cdv A outer s H E g => by
  exact (mss_cons (ms_set 2 g.nd (me_call g h__law_draw (by decide) (ma_cons (mv_var 0) (ma_cons (mv_var 1) (ma_cons (mv_pow mv_int mv_int) ma_nil))))) (mss_one (ms_ret (me (mv_ix g.toBas (mv (me_lst (ma_cons (mv_pow mv_int mv_int) (ma_cons (mv (me_add mv_int (mv_mod (mv_fdiv (mv_var 2) mv_int) (mv_pow mv_int mv_int)) g.K)) (ma_cons (mv (me_add mv_int (mv_mod (mv_fdiv (mv_var 2) mv_int) mv_int) g.K)) (ma_cons (mv_sub (mv_pow mv_int mv_int) (mv_mod (mv_fdiv (mv_var 2) mv_int) mv_int)) (ma_cons mv_int (ma_cons (mv_pow mv_int mv_int) ma_nil)))))))) (mv_mod (mv_var 2) mv_int))))))
theorem sc__law_brought : FnScope ["_law_part", "_law_size_here", "_law_least", "_law_most", "_law_other"] ["_law_part", "_law_size_here", "_law_least", "_law_most", "_law_other"] (defScope s__law_brought) := ⟨rfl, rfl, rfl, by decide +kernel, rfl, by decide +kernel, by decide +kernel⟩
theorem ok__law_brought {f : Addr} {fd : FuncData} (F : FnT (GG K).K "_law_brought" "_law_brought" s__law_brought [] f fd) (T : Tx K mg)  : FnA P w (GG K) mg base f 1 5 F__law_brought :=
  fn_defD (N := ["_law_part", "_law_size_here", "_law_least", "_law_most", "_law_other"]) (ps := ["_law_part", "_law_size_here", "_law_least", "_law_most", "_law_other"]) (n := 0) (FB := B__law_brought) F sc__law_brought (F.bindsN (ps := ["_law_part", "_law_size_here", "_law_least", "_law_most", "_law_other"]) fun _ _ _ _ _ _ us hl => match us, hl with | [_, _, _, _, _], _ => rfl) fun cdv A outer s H E g => by
  exact (mss_cons (ms_if (mt_cmp ok_isN (mv_var 0) mv_non (nomark _))
    (mss_one (ms_retV 4))
    mss_nil) (mss_cons (ms_if (mt_cmp ok_lt (mv_var 0) mv_int (nomark _))
    (mss_one (ms_set 0 g.nd (me_add (mv_var 0) (mv_var 1) g.K)))
    mss_nil) (mss_one (ms_ret (me (mv_min g T.z_min (ma_cons (mv_max g T.z_max (ma_cons (mv_var 0) (ma_cons (mv_var 2) ma_nil))) (ma_cons (mv_var 3) ma_nil))))))))
theorem sc__law_told : FnScope ["_law_size_here", "_law_parts", "_law_found", "_law_word"] ["_law_size_here", "_law_parts"] (defScope s__law_told) := ⟨rfl, rfl, rfl, by decide +kernel, rfl, by decide +kernel, by decide +kernel⟩
theorem ok__law_told {f : Addr} {fd : FuncData} (F : FnT (GG K).K "_law_told" "_law_told" s__law_told [] f fd) (T : Tx K mg) (h_span : FnD P w (GG K) mg base "span" 3 4 F_span) : FnA P w (GG K) mg base f 4 2 F__law_told :=
  fn_defD (N := ["_law_size_here", "_law_parts", "_law_found", "_law_word"]) (ps := ["_law_size_here", "_law_parts"]) (n := 3) (FB := B__law_told) F sc__law_told (F.bindsN (ps := ["_law_size_here", "_law_parts"]) fun _ _ _ _ _ _ us hl => match us, hl with | [_, _], _ => rfl) fun cdv A outer s H E g => by
  exact (mss_cons (ms_set 2 g.nd (me mv_non)) (mss_cons (ms_set 3 g.nd (me mv_str)) (mss_cons (ms_try g rfl rfl rfl (fun _ _ _ gt =>
      (mss_one (ms_set 2 gt.nd (me_call gt h_span (by decide) (ma_cons (mv_var 0) (ma_cons (mv_ix gt.toBas (mv_var 1) mv_int) (ma_cons (mv_ix gt.toBas (mv_var 1) mv_int) (ma_cons (mv_ix gt.toBas (mv_var 1) mv_int) ma_nil))))))))
      (Hds.cons T.c_NoCells rfl (by decide) (fun _ _ _ _ _ hz hf hs =>
      (mss_one (ms_set 3 hs.nd (me mv_str))))
      Hds.nil)) (mss_one (ms_frz 3 (ms_frz 2 (ms_ret (me (mv_tup (ma_cons (mv_var 3) (ma_cons (mv_var 2) ma_nil)))))))))))
theorem sc__law_base : FnScope ["_law_size_here", "_law_parts", "_law_word", "e"] ["_law_size_here", "_law_parts"] (defScope s__law_base) := ⟨rfl, rfl, rfl, by decide +kernel, rfl, by decide +kernel, by decide +kernel⟩
theorem ok__law_base {f : Addr} {fd : FuncData} (F : FnT (GG K).K "_law_base" "_law_base" s__law_base [] f fd) (T : Tx K mg) (h_span : FnD P w (GG K) mg base "span" 3 4 F_span) : FnA P w (GG K) mg base f 4 2 F__law_base :=
  fn_defD (N := ["_law_size_here", "_law_parts", "_law_word", "e"]) (ps := ["_law_size_here", "_law_parts"]) (n := 3) (FB := B__law_base) F sc__law_base (F.bindsN (ps := ["_law_size_here", "_law_parts"]) fun _ _ _ _ _ _ us hl => match us, hl with | [_, _], _ => rfl) fun cdv A outer s H E g => by
  exact (mss_cons (ms_set 2 g.nd (me mv_str)) (mss_cons (ms_tryA 3 g rfl rfl rfl rfl rfl T.c_PaceError rfl (by decide) (fun _ _ _ gt =>
      (mss_one (ms_expr (me_call gt h_span (by decide) (ma_cons (mv_var 0) (ma_cons (mv_ix gt.toBas (mv_var 1) mv_int) (ma_cons (mv_ix gt.toBas (mv_var 1) mv_int) (ma_cons (mv_ix gt.toBas (mv_var 1) mv_int) ma_nil))))))))
      (fun _ _ _ _ _ hz hf hs =>
      (mss_cons (ms_set 2 hs.nd (me mv_str)) (mss_one (ms_if (mt_w (mw_and (mt_val hs.toBas (mv_isX (c := .ty "ValueError") 3 hs hz hf T.i_ValueError (fun u h => h) (pe_bltn (v := .ty "ValueError") rfl T.z_ValueError PyProof.Rows.Boot.«ValueError» rfl (by decide) (by decide)) T.z_isinstance)) (mw_and (mt_not (mt_val hs.toBas (mv_isX (c := .ref (He.ga K "NoStep")) 3 hs hz hf T.i_NoStep.2 (fun u h => h) (pe_glob (v := .ref _) rfl T.i_NoStep.1 rfl (by decide)) T.z_isinstance))) (mw_and1 (mt_not (mt_val hs.toBas (mv_isX (c := .ref (He.ga K "NoPlace")) 3 hs hz hf T.i_NoPlace.2 (fun u h => h) (pe_glob (v := .ref _) rfl T.i_NoPlace.1 rfl (by decide)) T.z_isinstance)))))))
    (mss_one (ms_set 2 hs.nd (me mv_str)))
    mss_nil))))) (mss_one (ms_ret (me (mv_cmp (ok_eq g.toBas) (mv_var 2) mv_str (nomark _)))))))
theorem sc__law_right : FnScope ["_law_found", "_law_start", "_law_stop", "_law_step_here", "_law_last", "_law_first", "_law_many", "_law_told_here"] ["_law_found", "_law_start", "_law_stop", "_law_step_here"] (defScope s__law_right) := ⟨rfl, rfl, rfl, by decide +kernel, rfl, by decide +kernel, by decide +kernel⟩
theorem ok__law_right {f : Addr} {fd : FuncData} (F : FnT (GG K).K "_law_right" "_law_right" s__law_right [] f fd) (T : Tx K mg) (h__law_whole : FnD P w (GG K) mg base "_law_whole" 1 1 F__law_whole) : FnA P w (GG K) mg base f 2 4 F__law_right :=
  fn_defD (N := ["_law_found", "_law_start", "_law_stop", "_law_step_here", "_law_last", "_law_first", "_law_many", "_law_told_here"]) (ps := ["_law_found", "_law_start", "_law_stop", "_law_step_here"]) (n := 1) (FB := B__law_right) F sc__law_right (F.bindsN (ps := ["_law_found", "_law_start", "_law_stop", "_law_step_here"]) fun _ _ _ _ _ _ us hl => match us, hl with | [_, _, _, _], _ => rfl) fun cdv A outer s H E g => by
  exact (mss_cons (ms_if (mt_w (mw_or (mt_not (mt_val g.toBas (mv_isi g.toBas T.z_isinstance T.z_tuple PyProof.Rows.boot_tuple (mv_var 0)))) (mw_or1 (mt_cmp (ok_ne g.toBas) (mv_len g.toBas T.z_len (ma_cons (mv_var 0) ma_nil)) mv_int (nomark _)))))
    (mss_one (ms_ret (me mv_bl)))
    mss_nil) (mss_cons (ms_frz 0 (ms_asg (mv_var 0) (mg_tup g.calm (mgs_cons (mg_name 5 g.nd) (mgs_cons (mg_name 6 g.nd) (mgs_cons (mg_name 7 g.nd) mgs_nil)))))) (mss_cons (ms_if (mt_w (mw_or (mt_not (mt_val g.toBas (mv (me_call g h__law_whole (by decide) (ma_cons (mv_var 5) ma_nil))))) (mw_or (mt_not (mt_val g.toBas (mv (me_call g h__law_whole (by decide) (ma_cons (mv_var 6) ma_nil))))) (mw_or1 (mt_not (mt_val g.toBas (mv (me_call g h__law_whole (by decide) (ma_cons (mv_var 7) ma_nil)))))))))
    (mss_one (ms_ret (me mv_bl)))
    mss_nil) (mss_cons (ms_if (mt_w (mw_or (mt_cmp (ok_ne g.toBas) (mv_var 5) (mv_var 1) (nomark _)) (mw_or (mt_cmp (ok_ne g.toBas) (mv_var 7) (mv_var 3) (nomark _)) (mw_or1 (mt_cmp ok_lt (mv_var 6) mv_int (nomark _))))))
    (mss_one (ms_ret (me mv_bl)))
    mss_nil) (mss_cons (ms_set 4 g.nd (me_add (mv_var 5) (mv (me_mul (mv_sub (mv_var 6) mv_int) (mv_var 3))) g.K)) (mss_cons (ms_if (mt_cmp ok_gt (mv_var 3) mv_int (nomark _))
    (mss_one (ms_ret (me (mv_and (mv_cmp ok_lt (mv_var 4) (mv_var 2) (nomark _)) (mv_one (mv_cmp ok_ge (mv (me_add (mv_var 4) (mv_var 3) g.K)) (mv_var 2) (nomark _)))))))
    mss_nil) (mss_one (ms_ret (me (mv_and (mv_cmp ok_gt (mv_var 4) (mv_var 2) (nomark _)) (mv_one (mv_cmp ok_le (mv (me_add (mv_var 4) (mv_var 3) g.K)) (mv_var 2) (nomark _)))))))))))))
theorem sc_law : FnScope ["_law_script", "_law_k", "_law_size_here", "_law_parts", "_law_step_here", "_law_start", "_law_stop", "_law_word", "_law_found"] ["_law_script"] (defScope s_law) := ⟨rfl, rfl, rfl, by decide +kernel, rfl, by decide +kernel, by decide +kernel⟩
theorem ok_law {f : Addr} {fd : FuncData} (F : FnT (GG K).K "law" "law" s_law [] f fd) (T : Tx K mg) (h__law_base : FnD P w (GG K) mg base "_law_base" 4 2 F__law_base) (h__law_brought : FnD P w (GG K) mg base "_law_brought" 1 5 F__law_brought) (h__law_end : FnD P w (GG K) mg base "_law_end" 2 3 F__law_end) (h__law_right : FnD P w (GG K) mg base "_law_right" 2 4 F__law_right) (h__law_size : FnD P w (GG K) mg base "_law_size" 2 2 F__law_size) (h__law_step : FnD P w (GG K) mg base "_law_step" 2 2 F__law_step) (h__law_told : FnD P w (GG K) mg base "_law_told" 4 2 F__law_told) : FnOk P w (GG K).K mg base (L2.CX P w) 5 f fd ["_law_script"] (SpD (GG K) 1 F_law) :=
  fn_okD (N := ["_law_script", "_law_k", "_law_size_here", "_law_parts", "_law_step_here", "_law_start", "_law_stop", "_law_word", "_law_found"]) (ps := ["_law_script"]) (n := 4) (FB := B_law) F sc_law fun cdv A outer s H E g => by
  exact (mss_cons (ms_for g.po g.calm (mi_rng1 T.z_range (ma_cons mv_int ma_nil)) (mg_name 1 g.nd)
    (mss_cons (ms_set 2 g.nd (me_call g h__law_size (by decide) (ma_cons (mv_var 0) (ma_cons (mv (me_mul mv_int (mv_var 1))) ma_nil)))) (mss_cons (ms_set 3 g.nd (me (mv_tup (ma_cons (mv (me_call g h__law_end (by decide) (ma_cons (mv_var 0) (ma_cons (mv (me_add (mv (me_mul mv_int (mv_var 1))) mv_int g.K)) (ma_cons (mv_var 2) ma_nil))))) (ma_cons (mv (me_call g h__law_end (by decide) (ma_cons (mv_var 0) (ma_cons (mv (me_add (mv (me_mul mv_int (mv_var 1))) mv_int g.K)) (ma_cons (mv_var 2) ma_nil))))) (ma_cons (mv (me_call g h__law_step (by decide) (ma_cons (mv_var 0) (ma_cons (mv (me_add (mv (me_mul mv_int (mv_var 1))) mv_int g.K)) ma_nil)))) ma_nil)))))) (mss_cons (ms_set 4 g.nd (me (mv_ix g.toBas (mv_var 3) mv_int))) (mss_cons (ms_if (mt_cmp ok_isN (mv_var 4) mv_non (nomark _))
    (mss_one (ms_set 4 g.nd (me mv_int)))
    mss_nil) (mss_cons (ms_set 5 g.nd (me_call g h__law_brought (by decide) (ma_cons (mv_ix g.toBas (mv_var 3) mv_int) (ma_cons (mv_var 2) (ma_cons mv_int (ma_cons (mv_var 2) (ma_cons mv_int ma_nil))))))) (mss_cons (ms_set 6 g.nd (me_call g h__law_brought (by decide) (ma_cons (mv_ix g.toBas (mv_var 3) mv_int) (ma_cons (mv_var 2) (ma_cons mv_int (ma_cons (mv_var 2) (ma_cons (mv_var 2) ma_nil))))))) (mss_cons (ms_if (mt_cmp ok_lt (mv_var 4) mv_int (nomark _))
    (mss_cons (ms_set 5 g.nd (me_call g h__law_brought (by decide) (ma_cons (mv_ix g.toBas (mv_var 3) mv_int) (ma_cons (mv_var 2) (ma_cons (mv_neg mv_int) (ma_cons (mv_sub (mv_var 2) mv_int) (ma_cons (mv_sub (mv_var 2) mv_int) ma_nil))))))) (mss_one (ms_set 6 g.nd (me_call g h__law_brought (by decide) (ma_cons (mv_ix g.toBas (mv_var 3) mv_int) (ma_cons (mv_var 2) (ma_cons (mv_neg mv_int) (ma_cons (mv_sub (mv_var 2) mv_int) (ma_cons (mv_neg mv_int) ma_nil)))))))))
    mss_nil) (mss_cons (ms_asg (mv (me_call g h__law_told (by decide) (ma_cons (mv_var 2) (ma_cons (mv_var 3) ma_nil)))) (mg_tup g.calm (mgs_cons (mg_name 7 g.nd) (mgs_cons (mg_name 8 g.nd) mgs_nil)))) (mss_one (ms_if (mt_w (mw_or (mt_w (mw_and (mt_cmp ok_gt (mv_var 4) mv_int (nomark _)) (mw_and1 (mt_cmp ok_ge (mv_var 5) (mv_var 6) (nomark _))))) (mw_or1 (mt_w (mw_and (mt_cmp ok_lt (mv_var 4) mv_int (nomark _)) (mw_and1 (mt_cmp ok_le (mv_var 5) (mv_var 6) (nomark _))))))))
    (mss_one (ms_if (mt_w (mw_or (mt_cmp (ok_ne g.toBas) (mv_var 7) mv_str (nomark _)) (mw_or1 (mt_not (mt_val g.toBas (mv (me_call g h__law_base (by decide) (ma_cons (mv_var 2) (ma_cons (mv_var 3) ma_nil)))))))))
    (mss_one (ms_ret (me mv_bl)))
    mss_nil))
    (mss_one (ms_if (mt_w (mw_or (mt_cmp (ok_ne g.toBas) (mv_var 7) mv_str (nomark _)) (mw_or1 (mt_not (mt_val g.toBas (mv (me_call g h__law_right (by decide) (ma_cons (mv_var 8) (ma_cons (mv_var 5) (ma_cons (mv_var 6) (ma_cons (mv_var 4) ma_nil)))))))))))
    (mss_one (ms_ret (me mv_bl)))
    mss_nil))))))))))))) (mss_one (ms_ret (me mv_bl))))
end
/-! ### the head: facts by names, the run -/
def d_brought : He.DefD := ⟨("brought", none), "brought", "brought", defArgs s_brought, defBody s_brought, defScope s_brought, [], []⟩
def d_edges : He.DefD := ⟨("edges", none), "edges", "edges", defArgs s_edges, defBody s_edges, defScope s_edges, [], []⟩
def d_span : He.DefD := ⟨("span", none), "span", "span", defArgs s_span, defBody s_span, defScope s_span, [.non, .non, .non], []⟩
def d__law_draw : He.DefD := ⟨("_law_draw", none), "_law_draw", "_law_draw", defArgs s__law_draw, defBody s__law_draw, defScope s__law_draw, [], []⟩
def d__law_whole : He.DefD := ⟨("_law_whole", none), "_law_whole", "_law_whole", defArgs s__law_whole, defBody s__law_whole, defScope s__law_whole, [], []⟩
def d__law_end : He.DefD := ⟨("_law_end", none), "_law_end", "_law_end", defArgs s__law_end, defBody s__law_end, defScope s__law_end, [], []⟩
def d__law_step : He.DefD := ⟨("_law_step", none), "_law_step", "_law_step", defArgs s__law_step, defBody s__law_step, defScope s__law_step, [], []⟩
def d__law_size : He.DefD := ⟨("_law_size", none), "_law_size", "_law_size", defArgs s__law_size, defBody s__law_size, defScope s__law_size, [], []⟩
def d__law_brought : He.DefD := ⟨("_law_brought", none), "_law_brought", "_law_brought", defArgs s__law_brought, defBody s__law_brought, defScope s__law_brought, [], []⟩
def d__law_told : He.DefD := ⟨("_law_told", none), "_law_told", "_law_told", defArgs s__law_told, defBody s__law_told, defScope s__law_told, [], []⟩
def d__law_base : He.DefD := ⟨("_law_base", none), "_law_base", "_law_base", defArgs s__law_base, defBody s__law_base, defScope s__law_base, [], []⟩
def d__law_right : He.DefD := ⟨("_law_right", none), "_law_right", "_law_right", defArgs s__law_right, defBody s__law_right, defScope s__law_right, [], []⟩
def d_law : He.DefD := ⟨("law", none), "law", "law", defArgs s_law, defBody s_law, defScope s_law, [], []⟩
def fn : List He.DefD := [d_brought, d_edges, d_span, d__law_draw, d__law_whole, d__law_end, d__law_step, d__law_size, d__law_brought, d__law_told, d__law_base, d__law_right, d_law]
def fa : List He.Fa := [.glo "brought", .glo "edges", .glo "span", .glo "_law_draw", .glo "_law_whole", .glo "_law_end", .glo "_law_step", .glo "_law_size", .glo "_law_brought", .glo "_law_told", .glo "_law_base", .glo "_law_right", .glo "law", .free "ValueError", .free "bool", .free "int", .free "isinstance", .free "len", .free "max", .free "min", .free "range", .free "tuple", .glo "NoCells", .glo "NoPlace", .glo "NoStep", .glo "PaceError", .exc "NoCells", .exc "NoStep"]
def ex : PySem.W.Frag → Bool := fun K => catB xnames "NoCells" K && catB xnames "PaceError" K && isB xnames (fun K => .ref (He.ga K "NoPlace")) "NoPlace" K && isB xnames (fun K => .ref (He.ga K "NoStep")) "NoStep" K && isB xnames (fun K => .type "ValueError") "ValueError" K && true
abbrev R : PySem.W.OpenRow := PySem.W.OpenLaw.row PySem.Challenge.rw_pacehall_k15_great_spans
abbrev hk : PySem.W.Hook := He.hookX 4 fa fn [] [] ex
def ob (s : PySem.W.SharedT) : He.AlX := He.obsX 4 fa fn [] [] ex (HandSHeadRun.getT s)
theorem ob_eq (s : PySem.W.SharedT) : ob s = hk.obs s.abs := He.obsX_eq (HandSHeadRun.getT_eq s)
def loose : List Str := (["PaceError", "NoPlace", "NoStep", "NoCells", "brought", "edges", "span", "_law_draw", "_law_whole", "_law_end", "_law_step", "_law_size", "_law_brought", "_law_told", "_law_base", "_law_right"] : List Str)
theorem run (w : World) : HandSHeadRun.RunEq R (PySem.W.view R.prog [19]) hk ob 4000 loose w := by
  intro os
  kernel_rfl
theorem exAt0 {K : PySem.W.Frag} (h : ex K = true) : catB xnames "NoCells" K = true := (He.ba (He.ba (He.ba (He.ba (He.ba h).1).1).1).1).1
theorem exAt1 {K : PySem.W.Frag} (h : ex K = true) : catB xnames "PaceError" K = true := (He.ba (He.ba (He.ba (He.ba (He.ba h).1).1).1).1).2
theorem exAt2 {K : PySem.W.Frag} (h : ex K = true) : isB xnames (fun K => .ref (He.ga K "NoPlace")) "NoPlace" K = true := (He.ba (He.ba (He.ba (He.ba h).1).1).1).2
theorem exAt3 {K : PySem.W.Frag} (h : ex K = true) : isB xnames (fun K => .ref (He.ga K "NoStep")) "NoStep" K = true := (He.ba (He.ba (He.ba h).1).1).2
theorem exAt4 {K : PySem.W.Frag} (h : ex K = true) : isB xnames (fun K => .type "ValueError") "ValueError" K = true := (He.ba (He.ba h).1).2
theorem facts {P : Program} {w : World} {K : PySem.W.Frag} {h : Heap} {mg : Str → Option Value} {f : Addr} (X : K.In h) (G : h.Ns mainGlobals mg) (hfa : mg ("law" : Str) = some (.ref f)) (c : He.SaysX fa fn [] [] ex w h K) (law_true : ∀ ns : List Int, ns.length ≤ 63 → ∃ t, F_law [.val .s (.scr ns)] = .ok (.val t (.bl true))) :
    ∃ fd : FuncData, (∀ (s : Shared) (v : Value), BindsTo s fd ⟨[v], []⟩ [("_law_script", v)]) ∧ ∀ base : Heap, K.In base → base.Ns mainGlobals mg → FnOk P w K mg base (L2.CX P w) 5 f fd ["_law_script"] (SpLaw K) := by
  obtain ⟨fd0, F0⟩ := c.t.d.def_ 0 (d := d_brought) rfl
  obtain ⟨fd1, F1⟩ := c.t.d.def_ 1 (d := d_edges) rfl
  obtain ⟨fd2, F2⟩ := c.t.d.def_ 2 (d := d_span) rfl
  obtain ⟨fd3, F3⟩ := c.t.d.def_ 3 (d := d__law_draw) rfl
  obtain ⟨fd4, F4⟩ := c.t.d.def_ 4 (d := d__law_whole) rfl
  obtain ⟨fd5, F5⟩ := c.t.d.def_ 5 (d := d__law_end) rfl
  obtain ⟨fd6, F6⟩ := c.t.d.def_ 6 (d := d__law_step) rfl
  obtain ⟨fd7, F7⟩ := c.t.d.def_ 7 (d := d__law_size) rfl
  obtain ⟨fd8, F8⟩ := c.t.d.def_ 8 (d := d__law_brought) rfl
  obtain ⟨fd9, F9⟩ := c.t.d.def_ 9 (d := d__law_told) rfl
  obtain ⟨fd10, F10⟩ := c.t.d.def_ 10 (d := d__law_base) rfl
  obtain ⟨fd11, F11⟩ := c.t.d.def_ 11 (d := d__law_right) rfl
  obtain ⟨fd12, F12⟩ := c.t.d.def_ 12 (d := d_law) rfl
  have e := hfa.symm.trans (He.glo_ok X G (c.t.d.fact 12 (f := .glo "law") rfl))
  cases e
  have T : Tx K mg := ⟨He.free_ok X G (c.t.d.fact 13 (f := .free "ValueError") rfl), He.free_ok X G (c.t.d.fact 14 (f := .free "bool") rfl), He.free_ok X G (c.t.d.fact 15 (f := .free "int") rfl), He.free_ok X G (c.t.d.fact 16 (f := .free "isinstance") rfl), He.free_ok X G (c.t.d.fact 17 (f := .free "len") rfl), He.free_ok X G (c.t.d.fact 18 (f := .free "max") rfl), He.free_ok X G (c.t.d.fact 19 (f := .free "min") rfl), He.free_ok X G (c.t.d.fact 20 (f := .free "range") rfl), He.free_ok X G (c.t.d.fact 21 (f := .free "tuple") rfl), (have q := He.exc_ok (c.t.d.fact 26 (f := .exc "NoCells") rfl); ⟨He.glo_ok X G (c.t.d.fact 22 (f := .glo "NoCells") rfl), by rfl, q.1, q.2.1, q.2.2.1, q.2.2.2⟩), (have q := He.exc_ok (c.t.d.fact 27 (f := .exc "NoStep") rfl); ⟨He.glo_ok X G (c.t.d.fact 24 (f := .glo "NoStep") rfl), by rfl, q.1, q.2.1, q.2.2.1, q.2.2.2⟩), catch_of (He.glo_ok X G (c.t.d.fact 22 (f := .glo "NoCells") rfl)) (exAt0 c.more), catch_of (He.glo_ok X G (c.t.d.fact 25 (f := .glo "PaceError") rfl)) (exAt1 c.more), ⟨He.glo_ok X G (c.t.d.fact 23 (f := .glo "NoPlace") rfl), isC_of (cv := fun K => .ref (He.ga K "NoPlace")) (h := "NoPlace") (exAt2 c.more)⟩, ⟨He.glo_ok X G (c.t.d.fact 24 (f := .glo "NoStep") rfl), isC_of (cv := fun K => .ref (He.ga K "NoStep")) (h := "NoStep") (exAt3 c.more)⟩, isC_of (cv := fun K => .type "ValueError") (h := "ValueError") (exAt4 c.more), trivial⟩
  have b := FunD.bindsA (ps := ["_law_script"]) F12 fun _ _ _ _ _ _ us hl => match us, hl with | [_], _ => rfl
  refine ⟨fd12, fun s v => b s [v] rfl, fun base _ _ => ?_⟩
  have h_brought : FnD P w (GG K) mg base "brought" 1 4 F_brought := (ok_brought F0 T).d (He.glo_ok X G (c.t.d.fact 0 (f := .glo "brought") rfl)) F0.kp
  have h_edges : FnD P w (GG K) mg base "edges" 2 4 F_edges := (ok_edges F1 T h_brought).d (He.glo_ok X G (c.t.d.fact 1 (f := .glo "edges") rfl)) F1.kp
  have h_span : FnD P w (GG K) mg base "span" 3 4 F_span := (ok_span F2 T h_edges).d (He.glo_ok X G (c.t.d.fact 2 (f := .glo "span") rfl)) F2.kp
  have h__law_draw : FnD P w (GG K) mg base "_law_draw" 1 3 F__law_draw := (ok__law_draw F3 T).d (He.glo_ok X G (c.t.d.fact 3 (f := .glo "_law_draw") rfl)) F3.kp
  have h__law_whole : FnD P w (GG K) mg base "_law_whole" 1 1 F__law_whole := (ok__law_whole F4 T).d (He.glo_ok X G (c.t.d.fact 4 (f := .glo "_law_whole") rfl)) F4.kp
  have h__law_end : FnD P w (GG K) mg base "_law_end" 2 3 F__law_end := (ok__law_end F5 T h__law_draw).d (He.glo_ok X G (c.t.d.fact 5 (f := .glo "_law_end") rfl)) F5.kp
  have h__law_step : FnD P w (GG K) mg base "_law_step" 2 2 F__law_step := (ok__law_step F6 T h__law_draw).d (He.glo_ok X G (c.t.d.fact 6 (f := .glo "_law_step") rfl)) F6.kp
  have h__law_size : FnD P w (GG K) mg base "_law_size" 2 2 F__law_size := (ok__law_size F7 T h__law_draw).d (He.glo_ok X G (c.t.d.fact 7 (f := .glo "_law_size") rfl)) F7.kp
  have h__law_brought : FnD P w (GG K) mg base "_law_brought" 1 5 F__law_brought := (ok__law_brought F8 T).d (He.glo_ok X G (c.t.d.fact 8 (f := .glo "_law_brought") rfl)) F8.kp
  have h__law_told : FnD P w (GG K) mg base "_law_told" 4 2 F__law_told := (ok__law_told F9 T h_span).d (He.glo_ok X G (c.t.d.fact 9 (f := .glo "_law_told") rfl)) F9.kp
  have h__law_base : FnD P w (GG K) mg base "_law_base" 4 2 F__law_base := (ok__law_base F10 T h_span).d (He.glo_ok X G (c.t.d.fact 10 (f := .glo "_law_base") rfl)) F10.kp
  have h__law_right : FnD P w (GG K) mg base "_law_right" 2 4 F__law_right := (ok__law_right F11 T h__law_whole).d (He.glo_ok X G (c.t.d.fact 11 (f := .glo "_law_right") rfl)) F11.kp
  exact law_ok (ok_law F12 T h__law_base h__law_brought h__law_end h__law_right h__law_size h__law_step h__law_told) law_true
end DL.Law

open PySem PySem.W PySem.Calls PyProof.Rows in
set_option maxRecDepth 100000 in
set_option maxHeartbeats 0 in
theorem PySem.Challenge.cw_pacehall_k15_great_spans_holds : PySem.Challenge.rw_pacehall_k15_great_spans.Holds := by
  w_on; o_law
  refine HandSHeadRun.head_any (r := OpenLaw.row PySem.Challenge.rw_pacehall_k15_great_spans) (q := view (OpenLaw.row PySem.Challenge.rw_pacehall_k15_great_spans).prog [19]) (H := DL.Law.hk) (ob := DL.Law.ob) (M := 4000) (loose := DL.Law.loose) (d := HandSHeadRun.topDef (OpenLaw.row PySem.Challenge.rw_pacehall_k15_great_spans).prog 19) (kwd := []) DL.Law.ob_eq
    (by kernel_rfl) (fun s => by kernel_rfl) DL.Law.run (by kernel_rfl) (by kernel_rfl) (by kernel_rfl) (by rfl) (by first | assumption | decide +kernel) (by decide +kernel) ⟨rfl, rfl, rfl, rfl, rfl, by decide +kernel⟩ ?hw ?hc
  case hw => w_witness2
  case hc =>
    refine DL.walk_E (l := PySem.Challenge.rw_pacehall_k15_great_spans) (k := 5) (x := "_law_script") rfl (by kernel_rfl) ⟨rfl, by decide, by decide⟩ ?F
    intro w mg fa h Y G hmg0
    obtain ⟨K, KX, c⟩ := Y
    have hmg : mg ("law" : PySem.Str) = some (.ref fa) := by
      have e : (HandSHeadRun.topDef (OpenLaw.row PySem.Challenge.rw_pacehall_k15_great_spans).prog 19).name = ("law" : PySem.Str) := by kernel_rfl
      rw [← e]
      exact hmg0
    obtain ⟨fd, hb, hF⟩ := DL.Law.facts (P := (PySem.Challenge.rw_pacehall_k15_great_spans).prog) (w := w) KX G hmg c DL.Law.law_true
    exact ⟨K, fd, KX, hb, hF⟩

