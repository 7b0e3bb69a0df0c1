import PyProof.Rows.All
import Wide.All
import OpenK.AllK
import Wide.FinOn
import HandS.ForMost
import HandS.ForExc
import HandS.Wide
import HandS.TupAny
import HandS.Deep
import HandS.Flow
import HandS.Style
import HandS.Conv
import HandS.Small
import HandS.SortInts
import HandS.IsInst
import HandS.WordsExc
import HandS.More
import HandS.Zip
import HandS.Rev
import HandS.Comp
import KE.GoesMore
import KE.KExcIs
import KE.KStateDown
import HandS.Defaults
import HandS.Head0
import HandS.Head1
import HandS.Head2
import HandS.HeadEnd
import HandS.HeadHook1
import HandS.HeadHook2
import HandS.HeadHook3
import HandS.HeadHook4
import HandS.ExcOwn
import HandS.ExcInit
import HandS.ExcField
import HandS.ExcIs
import HandS.TryOnly
import HandS.TryMany
import HandS.CallSlots
import HandS.New0
import KE.KDictZip
import HandS.ListItems
import HandS.Iter
import KE.GoesEnum
import HandS.RevTup
import KE.GoesZip
import HandS.ExcCtx
import HandS.SuiteRaise
import HandS.RaiseFrom
import HandS.TryElse
import HandS.SortKw
import HandS.DictComp
import KE.KEqDict
import HandS.Finally
import PySem.Challenge.RW_pacehall_k63_sources_told
set_option Elab.async false
set_option linter.all false
set_option maxRecDepth 100000
set_option maxHeartbeats 4000000
namespace DL
open PySem PySem.Spec PyProof.Rows L2
abbrev St := L2.St

/-! ### data -/
inductive D where
  | non | bl (b : Bool) | int (i : Int) | str (x : Str)
  | tup (xs : List D) | lst (xs : List D)
  | dic (ks : List Key) (xs : List D)
  | obj (c : Str) (ks : List Str) (xs : List D)
  | cls (c : Str) | typ (n : String)
  | scr (ns : List Int)
  deriving Inhabited

/-- what a def owns: a tree of lists, tuples, dicts, objects; sh: shared from there on -/
inductive OD where
  | sh (d : D) | lst (xs : List OD) | tup (xs : List OD) | dic (ks : List Key) (xs : List OD) | obj (c : Str) (ks : List Str) (xs : List OD)
  deriving Inhabited
mutual
def OD.d : OD → D
  | .sh d => d | .lst xs => .lst (OD.ds xs) | .tup xs => .tup (OD.ds xs) | .dic ks xs => .dic ks (OD.ds xs) | .obj c ks xs => .obj c ks (OD.ds xs)
def OD.ds : List OD → List D
  | [] => []
  | x :: r => x.d :: OD.ds r
end
inductive Tg where | h | r | s | o | n (t : OD)
inductive EV where
  | val (t : Tg) (d : D) | own (xs : List D) | ownd (ks : List Key) (xs : List D) | ownt (t : OD) | exn (c : Str) (ks : List Str) (vs : List D)
inductive Res (α : Type) where
  | ok (a : α) | exc (c : Str) (ks : List Str) (vs : List D) | bad
abbrev TV := Tg × D
abbrev Env := List (Option EV)
def Res.bind {α β : Type} (r : Res α) (k : α → Res β) : Res β := match r with
  | .ok a => k a | .exc c ks vs => .exc c ks vs | .bad => .bad
def Res.map {α β : Type} (g : α → β) (r : Res α) : Res β := match r with
  | .ok a => .ok (g a) | .exc c ks vs => .exc c ks vs | .bad => .bad
@[simp] theorem Res.bind_ok {α β : Type} (a : α) (k : α → Res β) : (Res.ok a).bind k = k a := (rfl)
@[simp] theorem Res.bind_exc {α β : Type} (c : Str) (ks : List Str) (vs : List D) (k : α → Res β) : (Res.exc c ks vs : Res α).bind k = .exc c ks vs := (rfl)
@[simp] theorem Res.bind_bad {α β : Type} (k : α → Res β) : (Res.bad : Res α).bind k = .bad := (rfl)
@[simp] theorem Res.map_ok {α β : Type} (a : α) (k : α → β) : (Res.ok a).map k = .ok (k a) := (rfl)
@[simp] theorem Res.map_exc {α β : Type} (c : Str) (ks : List Str) (vs : List D) (k : α → β) : (Res.exc c ks vs : Res α).map k = .exc c ks vs := (rfl)
@[simp] theorem Res.map_bad {α β : Type} (k : α → β) : (Res.bad : Res α).map k = .bad := (rfl)

mutual
def imm : D → Bool
  | .non => true | .bl _ => true | .int _ => true | .str _ => true
  | .tup xs => imms xs
  | .lst _ => false | .dic _ _ => false | .obj _ _ _ => false
  | .cls _ => true | .typ _ => true | .scr _ => false
def imms : List D → Bool
  | [] => true
  | d :: r => imm d && imms r
end

structure Gx where
  K : PySem.W.Frag
  cl : Str → Option Addr
  co : Str → Option Addr

mutual
inductive Rep (G : Gx) (H : Hp) : V → D → Prop
  | non : Rep G H .non .non
  | bl (b : Bool) : Rep G H (.bl b) (.bl b)
  | int (i : Int) : Rep G H (.int i) (.int i)
  | str (x : Str) : Rep G H (.str x) (.str x)
  | tup {a : Addr} {vs : List V} {xs : List D} : H a = some (.tup vs) → Reps G H vs xs → Rep G H (.ref a) (.tup xs)
  | lst {a : Addr} {vs : List V} {xs : List D} : H a = some (.lst vs) → Reps G H vs xs → Rep G H (.ref a) (.lst xs)
  | dic {a : Addr} {kvs : List (Key × V)} {xs : List D} : Rd H a (.dK kvs) → Reps G H (kvs.map (·.2)) xs → Rep G H (.ref a) (.dic (kvs.map (·.1)) xs)
  | obj {a C dx : Addr} {c : Str} {fs : List (Str × V)} {xs : List D} : G.co c = some C → H a = some (.ins C dx fs) → Reps G H (fs.map (·.2)) xs → Rep G H (.ref a) (.obj c (fs.map (·.1)) xs)
  | cls {c : Str} {C : Addr} : G.cl c = some C → Rep G H (.ref C) (.cls c)
  | typ (n : String) : Rep G H (.ty n) (.typ n)
  | scr {a : Addr} {ns : List Int} : SqL G.K H a (ns.map V.int) → Rep G H (.ref a) (.scr ns)
inductive Reps (G : Gx) (H : Hp) : List V → List D → Prop
  | nil : Reps G H [] []
  | cons {v : V} {vs : List V} {d : D} {ds : List D} : Rep G H v d → Reps G H vs ds → Reps G H (v :: vs) (d :: ds)
end

theorem Same.rd {H H' : Hp} (e : Same H H') {a : Addr} {u : HO} (h : Rd H a u) : Rd H' a u := h.imp (e _ _) fun ⟨o, h⟩ => ⟨o, e _ _ h⟩
mutual
theorem Rep.mono {G : Gx} {H H' : Hp} (e : Same H H') : ∀ {v : V} {d : D}, Rep G H v d → Rep G H' v d
  | _, _, .non => .non
  | _, _, .bl b => .bl b
  | _, _, .int i => .int i
  | _, _, .str x => .str x
  | _, _, .tup h r => .tup (e _ _ h) (r.mono e)
  | _, _, .lst h r => .lst (e _ _ h) (r.mono e)
  | _, _, .dic h r => .dic (Same.rd e h) (r.mono e)
  | _, _, .obj c h r => .obj c (e _ _ h) (r.mono e)
  | _, _, .cls c => .cls c
  | _, _, .typ n => .typ n
  | _, _, .scr h => .scr (e.seq h)
theorem Reps.mono {G : Gx} {H H' : Hp} (e : Same H H') : ∀ {v : List V} {d : List D}, Reps G H v d → Reps G H' v d
  | _, _, .nil => .nil
  | _, _, .cons h r => .cons (h.mono e) (r.mono e)
end

def Imm : HO → Prop
  | .tup _ => True
  | _ => False
mutual
theorem Rep.imm {G : Gx} {H H' : Hp} (e : ∀ a xs, H a = some (.tup xs) → H' a = some (.tup xs)) : ∀ {v : V} {d : D}, Rep G H v d → DL.imm d = true → Rep G H' v d
  | _, _, .non, _ => .non
  | _, _, .bl b, _ => .bl b
  | _, _, .int i, _ => .int i
  | _, _, .str x, _ => .str x
  | _, _, .tup h r, i => .tup (e _ _ h) (r.imms e i)
  | _, _, .lst h r, i => nomatch i
  | _, _, .dic h r, i => nomatch i
  | _, _, .obj c h r, i => nomatch i
  | _, _, .cls c, _ => .cls c
  | _, _, .typ n, _ => .typ n
  | _, _, .scr h, i => nomatch i
theorem Reps.imms {G : Gx} {H H' : Hp} (e : ∀ a xs, H a = some (.tup xs) → H' a = some (.tup xs)) : ∀ {v : List V} {d : List D}, Reps G H v d → DL.imms d = true → Reps G H' v d
  | _, _, .nil, _ => .nil
  | _, _, .cons h r, i => by
    have i' : (DL.imm _ && DL.imms _) = true := i
    rw [Bool.and_eq_true] at i'
    exact .cons (h.imm e i'.1) (r.imms e i'.2)
end
theorem Reps.length {G : Gx} {H : Hp} : ∀ {v : List V} {d : List D}, Reps G H v d → v.length = d.length
  | _, _, .nil => rfl
  | _, _, .cons _ r => congrArg (· + 1) r.length
theorem Reps.append {G : Gx} {H : Hp} : ∀ {v w : List V} {d e : List D}, Reps G H v d → Reps G H w e → Reps G H (v ++ w) (d ++ e)
  | _, _, _, _, .nil, s => s
  | _, _, _, _, .cons h r, s => .cons h (r.append s)
theorem Reps.get {G : Gx} {H : Hp} : ∀ {v : List V} {d : List D} {i : Nat} {x : D}, Reps G H v d → d[i]? = some x → ∃ u, v[i]? = some u ∧ Rep G H u x
  | _, _, _, _, .nil, e => by simp at e
  | _, _, 0, _, .cons h r, e => by simp at e; subst e; exact ⟨_, rfl, h⟩
  | _, _, i + 1, _, .cons h r, e => by
    obtain ⟨u, h1, h2⟩ := r.get (i := i) (by simpa using e)
    exact ⟨u, by simpa using h1, h2⟩
theorem Reps.get' {G : Gx} {H : Hp} : ∀ {v : List V} {d : List D} {i : Nat} {u : V}, Reps G H v d → v[i]? = some u → ∃ x, d[i]? = some x ∧ Rep G H u x
  | _, _, _, _, .nil, e => by simp at e
  | _, _, 0, _, .cons h r, e => by simp at e; subst e; exact ⟨_, rfl, h⟩
  | _, _, i + 1, _, .cons h r, e => by
    obtain ⟨u, h1, h2⟩ := r.get' (i := i) (by simpa using e)
    exact ⟨u, by simpa using h1, h2⟩
theorem Reps.take {G : Gx} {H : Hp} : ∀ {v : List V} {d : List D} (n : Nat), Reps G H v d → Reps G H (v.take n) (d.take n)
  | _, _, 0, _ => .nil
  | _, _, _ + 1, .nil => .nil
  | _, _, n + 1, .cons h r => .cons h (r.take n)
theorem Reps.drop {G : Gx} {H : Hp} : ∀ {v : List V} {d : List D} (n : Nat), Reps G H v d → Reps G H (v.drop n) (d.drop n)
  | _, _, 0, r => r
  | _, _, _ + 1, .nil => .nil
  | _, _, n + 1, .cons h r => r.drop n
theorem Reps.reverse {G : Gx} {H : Hp} : ∀ {v : List V} {d : List D}, Reps G H v d → Reps G H v.reverse d.reverse
  | _, _, .nil => .nil
  | _, _, .cons h r => by
    rw [List.reverse_cons, List.reverse_cons]
    exact r.reverse.append (.cons h .nil)
theorem Reps.set {G : Gx} {H : Hp} {u : V} {x : D} (h : Rep G H u x) : ∀ {v : List V} {d : List D} (n : Nat), Reps G H v d → Reps G H (v.set n u) (d.set n x)
  | _, _, _, .nil => .nil
  | _, _, 0, .cons _ r => .cons h r
  | _, _, n + 1, .cons g r => .cons g (Reps.set h n r)
theorem Reps.dropLast {G : Gx} {H : Hp} {v : List V} {d : List D} (h : Reps G H v d) : Reps G H v.dropLast d.dropLast := by
  rw [List.dropLast_eq_take, List.dropLast_eq_take, h.length]
  exact h.take _
theorem Reps.eraseIdx {G : Gx} {H : Hp} : ∀ {v : List V} {d : List D} (n : Nat), Reps G H v d → Reps G H (v.eraseIdx n) (d.eraseIdx n)
  | _, _, _, .nil => .nil
  | _, _, 0, .cons _ r => r
  | _, _, n + 1, .cons g r => .cons g (Reps.eraseIdx n r)
theorem Reps.insertIdx {G : Gx} {H : Hp} {u : V} {x : D} (h : Rep G H u x) : ∀ {v : List V} {d : List D} (n : Nat), Reps G H v d → Reps G H (v.take n ++ u :: v.drop n) (d.take n ++ x :: d.drop n) :=
  fun n r => (r.take n).append (.cons h (r.drop n))

theorem OD.ds_map : ∀ xs : List OD, OD.ds xs = xs.map OD.d
  | [] => by simp [OD.ds]
  | x :: r => by rw [OD.ds, OD.ds_map r] <;> rfl

/-! ### heaps -/
structure HpOk (Hs Hr H : Hp) : Prop where
  sr : Same Hs Hr
  rh : Same Hr H
  ti : ∀ a xs, H a = some (.tup xs) → Hs a = some (.tup xs)
structure Ext (Hs Hr H Hs' Hr' H' : Hp) : Prop where
  s : Same Hs Hs'
  r : Same Hr Hr'
  h : Same H H'
  ok : HpOk Hs' Hr' H'
  ns : ∀ a o, Hs' a = some o → Hs a = some o ∨ H a = none
  nr : ∀ a o, Hr' a = some o → Hr a = some o ∨ H a = none
theorem Ext.refl {Hs Hr H : Hp} (k : HpOk Hs Hr H) : Ext Hs Hr H Hs Hr H := ⟨Same.refl _, Same.refl _, Same.refl _, k, fun _ _ e => .inl e, fun _ _ e => .inl e⟩
theorem Ext.trans {Hs Hr H Hs1 Hr1 H1 Hs2 Hr2 H2 : Hp} (a : Ext Hs Hr H Hs1 Hr1 H1) (b : Ext Hs1 Hr1 H1 Hs2 Hr2 H2) : Ext Hs Hr H Hs2 Hr2 H2 where
  s := a.s.trans b.s
  r := a.r.trans b.r
  h := a.h.trans b.h
  ok := b.ok
  ns := fun x o e => by
    rcases b.ns x o e with h | h
    · exact a.ns x o h
    · exact .inr (a.h.free h)
  nr := fun x o e => by
    rcases b.nr x o e with h | h
    · exact a.nr x o h
    · exact .inr (a.h.free h)
theorem Same.upd {H H' : Hp} {p : Addr} {o : HO} (e : Same H H') (h : H p = none) : Same H (L2.upd H' p o) := fun a u ha => by
  rw [upd_ne (ne_of_none ha h)]
  exact e a u ha
theorem Same.upd2 {H H' : Hp} {p : Addr} {o : HO} (e : Same H H') : Same (L2.upd H p o) (L2.upd H' p o) := fun a u ha => by
  unfold L2.upd at ha ⊢
  split at ha
  · rename_i h; rw [if_pos h]; exact ha
  · rename_i h; rw [if_neg h]; exact e a u ha
theorem HpOk.none_r {Hs Hr H : Hp} (k : HpOk Hs Hr H) {p : Addr} (h : H p = none) : Hr p = none := k.rh.free h
theorem HpOk.none_s {Hs Hr H : Hp} (k : HpOk Hs Hr H) {p : Addr} (h : H p = none) : Hs p = none := k.sr.free (k.none_r h)
theorem HpOk.sh {Hs Hr H : Hp} (k : HpOk Hs Hr H) : Same Hs H := k.sr.trans k.rh
/-- a new object goes into all -/
theorem Ext.new {Hs Hr H : Hp} (k : HpOk Hs Hr H) {p : Addr} {o : HO} (h : H p = none) : Ext Hs Hr H (upd Hs p o) (upd Hr p o) (upd H p o) where
  s := Same.upd (Same.refl _) (k.none_s h)
  r := Same.upd (Same.refl _) (k.none_r h)
  h := Same.upd (Same.refl _) h
  ok := ⟨Same.upd2 k.sr, Same.upd2 k.rh, fun a xs e => by
    unfold upd at e ⊢
    split at e
    · rename_i q; rw [if_pos q]; exact e
    · rename_i q; rw [if_neg q]; exact k.ti a xs e⟩
  ns := fun a u e => by
    unfold upd at e
    split at e
    · rename_i q; subst q; exact .inr h
    · exact .inl e
  nr := fun a u e => by
    unfold upd at e
    split at e
    · rename_i q; subst q; exact .inr h
    · exact .inl e
/-- a new object that is no tuple goes into H alone -/
theorem Ext.new0 {Hs Hr H : Hp} (k : HpOk Hs Hr H) {p : Addr} {o : HO} (h : H p = none) (no : ∀ xs, o ≠ .tup xs) : Ext Hs Hr H Hs Hr (upd H p o) where
  s := Same.refl _
  r := Same.refl _
  h := Same.upd (Same.refl _) h
  ok := ⟨k.sr, Same.upd k.rh (k.none_r h), fun a xs e => by
    unfold upd at e
    split at e
    · exact absurd (Option.some.inj e) (no xs)
    · exact k.ti a xs e⟩
  ns := fun a u e => .inl e
  nr := fun a u e => .inl e
/-- an object that stands in H alone is shared from now on -/
theorem HpOk.share {Hs Hr H : Hp} (k : HpOk Hs Hr H) {p : Addr} {o : HO} (h : H p = some o) (hr : Hr p = none) : HpOk (upd Hs p o) (upd Hr p o) H where
  sr := Same.upd2 k.sr
  rh := fun a u e => by
    unfold upd at e
    split at e
    · rename_i q; subst q; rw [h]; exact e
    · exact k.rh a u e
  ti := fun a xs e => by
    by_cases q : a = p
    · subst q
      rw [upd_same]
      exact h.symm.trans e
    · rw [upd_ne q]; exact k.ti a xs e
theorem Ext.share {Hs0 Hr0 H0 Hs Hr H : Hp} (x : Ext Hs0 Hr0 H0 Hs Hr H) {p : Addr} {o : HO} (h : H p = some o) (hr : Hr p = none) (h0 : H0 p = none) : Ext Hs0 Hr0 H0 (upd Hs p o) (upd Hr p o) H where
  s := Same.upd x.s (x.s.free (x.ok.sr.free hr))
  r := Same.upd x.r (x.r.free hr)
  h := x.h
  ok := x.ok.share h hr
  ns := fun a u e => by
    by_cases q : a = p
    · subst q; exact .inr h0
    · rw [upd_ne q] at e; exact x.ns a u e
  nr := fun a u e => by
    by_cases q : a = p
    · subst q; exact .inr h0
    · rw [upd_ne q] at e; exact x.nr a u e

/-! ### trees -/
mutual
/-- v stands for the tree t; fp: the places of its own nodes -/
inductive ORep (G : Gx) (Hs H : Hp) : V → OD → List Addr → Prop
  | sh {v : V} {d : D} : Rep G Hs v d → ORep G Hs H v (.sh d) []
  | lst {a : Addr} {vs : List V} {xs : List OD} {fp : List Addr} : H a = some (.lst vs) → OReps G Hs H vs xs fp → ORep G Hs H (.ref a) (.lst xs) (a :: fp)
  | tup {a : Addr} {vs : List V} {xs : List OD} {fp : List Addr} : Hs a = some (.tup vs) → OReps G Hs H vs xs fp → ORep G Hs H (.ref a) (.tup xs) fp
  | dic {a : Addr} {kvs : List (Key × V)} {xs : List OD} {fp : List Addr} : H a = some (.dK kvs) → OReps G Hs H (kvs.map (·.2)) xs fp → ORep G Hs H (.ref a) (.dic (kvs.map (·.1)) xs) (a :: fp)
  | obj {a C dx : Addr} {c : Str} {fs : List (Str × V)} {xs : List OD} {fp : List Addr} : G.co c = some C → H a = some (.ins C dx fs) → OReps G Hs H (fs.map (·.2)) xs fp → ORep G Hs H (.ref a) (.obj c (fs.map (·.1)) xs) (a :: fp)
inductive OReps (G : Gx) (Hs H : Hp) : List V → List OD → List Addr → Prop
  | nil : OReps G Hs H [] [] []
  | cons {v : V} {vs : List V} {x : OD} {xs : List OD} {f g : List Addr} : ORep G Hs H v x f → OReps G Hs H vs xs g → OReps G Hs H (v :: vs) (x :: xs) (f ++ g)
end
mutual
theorem ORep.frame {G : Gx} {Hs H Hs' H' : Hp} (e : Same Hs Hs') : ∀ {v : V} {t : OD} {fp : List Addr}, ORep G Hs H v t fp → (∀ a ∈ fp, ∀ o, H a = some o → H' a = some o) → ORep G Hs' H' v t fp
  | _, _, _, .sh r, _ => .sh (r.mono e)
  | _, _, _, .lst h r, k => .lst (k _ List.mem_cons_self _ h) (r.frame e fun a ha => k a (List.mem_cons_of_mem _ ha))
  | _, _, _, .tup h r, k => .tup (e _ _ h) (r.frame e k)
  | _, _, _, .dic h r, k => .dic (k _ List.mem_cons_self _ h) (r.frame e fun a ha => k a (List.mem_cons_of_mem _ ha))
  | _, _, _, .obj c h r, k => .obj c (k _ List.mem_cons_self _ h) (r.frame e fun a ha => k a (List.mem_cons_of_mem _ ha))
theorem OReps.frame {G : Gx} {Hs H Hs' H' : Hp} (e : Same Hs Hs') : ∀ {v : List V} {t : List OD} {fp : List Addr}, OReps G Hs H v t fp → (∀ a ∈ fp, ∀ o, H a = some o → H' a = some o) → OReps G Hs' H' v t fp
  | _, _, _, .nil, _ => .nil
  | _, _, _, .cons h r, k => .cons (h.frame e fun a ha => k a (List.mem_append_left _ ha)) (r.frame e fun a ha => k a (List.mem_append_right _ ha))
end
theorem ORep.mono {G : Gx} {Hs H Hs' H' : Hp} (e : Same Hs Hs') (e2 : Same H H') {v : V} {t : OD} {fp : List Addr} (r : ORep G Hs H v t fp) : ORep G Hs' H' v t fp := r.frame e fun a _ o h => e2 a o h
theorem OReps.mono {G : Gx} {Hs H Hs' H' : Hp} (e : Same Hs Hs') (e2 : Same H H') {v : List V} {t : List OD} {fp : List Addr} (r : OReps G Hs H v t fp) : OReps G Hs' H' v t fp := r.frame e fun a _ o h => e2 a o h
mutual
theorem ORep.rep {G : Gx} {Hs H : Hp} (k : Same Hs H) : ∀ {v : V} {t : OD} {fp : List Addr}, ORep G Hs H v t fp → Rep G H v t.d
  | _, _, _, .sh r => by rw [OD.d]; exact r.mono k
  | _, _, _, .lst h r => by rw [OD.d]; exact .lst h (r.rep k)
  | _, _, _, .tup h r => by rw [OD.d]; exact .tup (k _ _ h) (r.rep k)
  | _, _, _, .dic h r => by rw [OD.d]; exact .dic (.inl h) (r.rep k)
  | _, _, _, .obj c h r => by rw [OD.d]; exact .obj c h (r.rep k)
theorem OReps.rep {G : Gx} {Hs H : Hp} (k : Same Hs H) : ∀ {v : List V} {t : List OD} {fp : List Addr}, OReps G Hs H v t fp → Reps G H v (OD.ds t)
  | _, _, _, .nil => by rw [OD.ds]; exact .nil
  | _, _, _, .cons h r => by rw [OD.ds]; exact .cons (h.rep k) (r.rep k)
end
mutual
theorem ORep.det {G : Gx} {Hs H : Hp} : ∀ {v : V} {t : OD} {f g : List Addr}, ORep G Hs H v t f → ORep G Hs H v t g → f = g
  | _, _, _, _, .sh _, .sh _ => rfl
  | _, _, _, _, .lst h r, .lst h' r' => by rw [h] at h'; cases h'; rw [r.det r']
  | _, _, _, _, .tup h r, .tup h' r' => by rw [h] at h'; cases h'; rw [r.det r']
  | _, .dic _ _, _, _, .dic h r, b => by
    generalize hk : List.map (fun x : Key × V => x.1) _ = ks at b
    cases b with
    | dic h' r' => rw [h] at h'; cases h'; rw [r.det r']
  | _, .obj _ _ _, _, _, .obj c h r, b => by
    generalize hk : List.map (fun x : Str × V => x.1) _ = ks at b
    cases b with
    | obj c' h' r' => rw [h] at h'; cases h'; rw [r.det r']
theorem OReps.det {G : Gx} {Hs H : Hp} : ∀ {v : List V} {t : List OD} {f g : List Addr}, OReps G Hs H v t f → OReps G Hs H v t g → f = g
  | _, _, _, _, .nil, .nil => rfl
  | _, _, _, _, .cons h r, .cons h' r' => by rw [h.det h', r.det r']
end
mutual
theorem ORep.at {G : Gx} {Hs H : Hp} : ∀ {v : V} {t : OD} {f : List Addr}, ORep G Hs H v t f → ∀ p ∈ f, ∃ o, H p = some o ∧ ∀ xs, o ≠ .tup xs
  | _, _, _, .sh _, p, hp => by cases hp
  | _, _, _, .lst h r, p, hp => by
    rcases List.mem_cons.mp hp with rfl | hp
    · exact ⟨_, h, fun xs z => by cases z⟩
    · exact r.at p hp
  | _, _, _, .tup h r, p, hp => r.at p hp
  | _, _, _, .dic h r, p, hp => by
    rcases List.mem_cons.mp hp with rfl | hp
    · exact ⟨_, h, fun xs z => by cases z⟩
    · exact r.at p hp
  | _, _, _, .obj c h r, p, hp => by
    rcases List.mem_cons.mp hp with rfl | hp
    · exact ⟨_, h, fun xs z => by cases z⟩
    · exact r.at p hp
theorem OReps.at {G : Gx} {Hs H : Hp} : ∀ {v : List V} {t : List OD} {f : List Addr}, OReps G Hs H v t f → ∀ p ∈ f, ∃ o, H p = some o ∧ ∀ xs, o ≠ .tup xs
  | _, _, _, .nil, p, hp => by cases hp
  | _, _, _, .cons h r, p, hp => by
    rcases List.mem_append.mp hp with hp | hp
    · exact h.at p hp
    · exact r.at p hp
end
/-- the nodes of a tree are shared from now on -/
def joinF (Hs H : Hp) (fp : List Addr) : Hp := fun a => if a ∈ fp then H a else Hs a
theorem joinF_in {Hs H : Hp} {fp : List Addr} {a : Addr} (h : a ∈ fp) : joinF Hs H fp a = H a := if_pos h
theorem joinF_out {Hs H : Hp} {fp : List Addr} {a : Addr} (h : a ∉ fp) : joinF Hs H fp a = Hs a := if_neg h
theorem joinF_same {Hs H : Hp} {fp : List Addr} (h : ∀ p ∈ fp, Hs p = none) : Same Hs (joinF Hs H fp) := fun a o e => by
  rw [joinF_out fun z => by rw [h a z] at e; cases e]; exact e
mutual
theorem ORep.shared {G : Gx} {Hs H Hs' : Hp} (e : Same Hs Hs') : ∀ {v : V} {t : OD} {fp : List Addr}, ORep G Hs H v t fp → (∀ a ∈ fp, Hs' a = H a) → Rep G Hs' v t.d
  | _, _, _, .sh r, _ => by rw [OD.d]; exact r.mono e
  | _, _, _, .lst h r, k => by rw [OD.d]; exact .lst ((k _ List.mem_cons_self).trans h) (r.shared e fun a ha => k a (List.mem_cons_of_mem _ ha))
  | _, _, _, .tup h r, k => by rw [OD.d]; exact .tup (e _ _ h) (r.shared e k)
  | _, _, _, .dic h r, k => by rw [OD.d]; exact .dic (.inl ((k _ List.mem_cons_self).trans h)) (r.shared e fun a ha => k a (List.mem_cons_of_mem _ ha))
  | _, _, _, .obj c h r, k => by rw [OD.d]; exact .obj c ((k _ List.mem_cons_self).trans h) (r.shared e fun a ha => k a (List.mem_cons_of_mem _ ha))
theorem OReps.shared {G : Gx} {Hs H Hs' : Hp} (e : Same Hs Hs') : ∀ {v : List V} {t : List OD} {fp : List Addr}, OReps G Hs H v t fp → (∀ a ∈ fp, Hs' a = H a) → Reps G Hs' v (OD.ds t)
  | _, _, _, .nil, _ => by rw [OD.ds]; exact .nil
  | _, _, _, .cons h r, k => by rw [OD.ds]; exact .cons (h.shared e fun a ha => k a (List.mem_append_left _ ha)) (r.shared e fun a ha => k a (List.mem_append_right _ ha))
end
theorem HpOk.shareF {Hs Hr H : Hp} (k : HpOk Hs Hr H) {fp : List Addr} (hr : ∀ p ∈ fp, Hr p = none) : HpOk (joinF Hs H fp) (joinF Hr H fp) H where
  sr := fun a o e => by
    by_cases q : a ∈ fp
    · rw [joinF_in q] at e ⊢; exact e
    · rw [joinF_out q] at e ⊢; exact k.sr a o e
  rh := fun a o e => by
    by_cases q : a ∈ fp
    · rw [joinF_in q] at e; exact e
    · rw [joinF_out q] at e; exact k.rh a o e
  ti := fun a xs e => by
    by_cases q : a ∈ fp
    · rw [joinF_in q]; exact e
    · rw [joinF_out q]; exact k.ti a xs e
theorem Ext.shareF {Hs0 Hr0 H0 Hs Hr H : Hp} (x : Ext Hs0 Hr0 H0 Hs Hr H) {fp : List Addr} (hr : ∀ p ∈ fp, Hr p = none) (h0 : ∀ p ∈ fp, H0 p = none) : Ext Hs0 Hr0 H0 (joinF Hs H fp) (joinF Hr H fp) H where
  s := x.s.trans (joinF_same fun p hp => x.ok.sr.free (hr p hp))
  r := x.r.trans (joinF_same hr)
  h := x.h
  ok := x.ok.shareF hr
  ns := fun a u e => by
    by_cases q : a ∈ fp
    · exact .inr (h0 a q)
    · rw [joinF_out q] at e; exact x.ns a u e
  nr := fun a u e => by
    by_cases q : a ∈ fp
    · exact .inr (h0 a q)
    · rw [joinF_out q] at e; exact x.nr a u e

/-! ### the relation -/
structure Jx extends Gx where
  W : WX
  xa : Option (Addr × Value × Option Addr)
  pin : List (Nat × V) := []
/-- a slot that may be set: it is none of those that hold fast -/
def Unp (J : Jx) (i : Nat) : Prop := ∀ v, (i, v) ∉ J.pin
theorem Unp.nil {J : Jx} {i : Nat} (h : J.pin = []) : Unp J i := fun v z => by rw [h] at z; cases z
theorem Unp.one {J : Jx} {i k : Nat} {v : V} (h : J.pin = [(k, v)]) (n : i ≠ k) : Unp J i := fun v' z => by
  rw [h] at z
  cases List.mem_singleton.mp z
  exact n rfl
def ExcOk (G : Gx) (Hs : Hp) (c : Str) (ks : List Str) (vs : List D) (cv : Value) (d : Option Addr) : Prop :=
  ∃ C, G.cl c = some C ∧ cv = .ref C ∧ ((ks = [] ∧ vs = [] ∧ d = none) ∨
    ∃ dd fs, d = some dd ∧ Hs dd = some (.xd fs) ∧ fs.map (·.1) = ks ∧ ks ≠ [] ∧ Reps G Hs (fs.map (·.2)) vs)
theorem ExcOk.mono {G : Gx} {Hs Hs' : Hp} {c : Str} {ks : List Str} {vs : List D} {cv : Value} {d : Option Addr} (e : Same Hs Hs') (h : ExcOk G Hs c ks vs cv d) : ExcOk G Hs' c ks vs cv d := by
  obtain ⟨C, h1, h2, h3⟩ := h
  refine ⟨C, h1, h2, ?_⟩
  rcases h3 with h3 | ⟨dd, fs, a, b, q, n, r⟩
  · exact .inl h3
  · exact .inr ⟨dd, fs, a, e _ _ b, q, n, r.mono e⟩
def SlotOk (J : Jx) (Hs Hr H : Hp) (sv : Option (Option V)) : EV → Prop
  | .val .s d => ∃ v, sv = some (some v) ∧ Rep J.toGx Hs v d
  | .val .r d => ∃ v, sv = some (some v) ∧ Rep J.toGx Hr v d
  | .val .h _ => False
  | .val .o _ => False
  | .val (.n _) _ => False
  | .own xs => ∃ p vs, sv = some (some (.ref p)) ∧ H p = some (.lst vs) ∧ Hr p = none ∧ Reps J.toGx Hs vs xs
  | .ownd ks xs => ∃ p kvs, sv = some (some (.ref p)) ∧ H p = some (.dK kvs) ∧ Hr p = none ∧ kvs.map (·.1) = ks ∧ Reps J.toGx Hs (kvs.map (·.2)) xs
  | .ownt t => ∃ v fp, sv = some (some v) ∧ ORep J.toGx Hs H v t fp ∧ fp.Nodup ∧ ∀ p ∈ fp, Hr p = none
  | .exn c ks vs => ∃ a cv d, J.xa = some (a, cv, d) ∧ sv = some (some (.ref a)) ∧ ExcOk J.toGx Hs c ks vs cv d
def isOwn : EV → Bool
  | .own _ => true | .ownd _ _ => true | .ownt _ => true | _ => false
/-- the places that a slot owns -/
def OwFp (G : Gx) (Hs H : Hp) (sv : Option (Option V)) (fp : List Addr) : EV → Prop
  | .own _ => ∃ p, sv = some (some (.ref p)) ∧ fp = [p]
  | .ownd _ _ => ∃ p, sv = some (some (.ref p)) ∧ fp = [p]
  | .ownt t => ∃ v, sv = some (some v) ∧ ORep G Hs H v t fp
  | _ => fp = []
def OwnAt (G : Gx) (Hs H : Hp) (env : Env) (σ : St) (i : Nat) (p : Addr) : Prop := ∃ e fp, env[i]? = some (some e) ∧ OwFp G Hs H σ[i]? fp e ∧ p ∈ fp
theorem OwFp.own {G : Gx} {Hs H : Hp} {sv : Option (Option V)} {fp : List Addr} {p : Addr} : ∀ {e : EV}, OwFp G Hs H sv fp e → p ∈ fp → isOwn e = true
  | .own _, _, _ => rfl
  | .ownd _ _, _, _ => rfl
  | .ownt _, _, _ => rfl
  | .val _ _, h, k => by cases (show fp = [] from h); cases k
  | .exn _ _ _, h, k => by cases (show fp = [] from h); cases k
/-- the places are the same behind as ahead -/
theorem OwFp.back {J : Jx} {Hs Hr H Hs' H' : Hp} {sv : Option (Option V)} {fp : List Addr} (s : Same Hs Hs') : ∀ {e : EV}, SlotOk J Hs Hr H sv e → (∀ f, OwFp J.toGx Hs H sv f e → ∀ a ∈ f, ∀ o, H a = some o → H' a = some o) → OwFp J.toGx Hs' H' sv fp e → OwFp J.toGx Hs H sv fp e
  | .own _, _, _, h => h
  | .ownd _ _, _, _, h => h
  | .ownt t, so, k, ⟨v, e, r⟩ => by
    obtain ⟨v', f', e', r', _⟩ := so
    rw [e] at e'
    cases e'
    have k' := k f' ⟨v, e, r'⟩
    cases (r'.frame s k').det r
    exact ⟨v, e, r'⟩
  | .val _ _, _, _, h => h
  | .exn _ _ _, _, _, h => h
theorem OwFp.mono {G : Gx} {Hs H Hs' H' : Hp} {sv : Option (Option V)} {fp : List Addr} (s : Same Hs Hs') (s2 : Same H H') : ∀ {e : EV}, OwFp G Hs H sv fp e → OwFp G Hs' H' sv fp e
  | .own _, h => h
  | .ownd _ _, h => h
  | .ownt t, ⟨v, e, r⟩ => ⟨v, e, r.mono s s2⟩
  | .val _ _, h => h
  | .exn _ _ _, h => h
structure Rel (J : Jx) (Hse He : Hp) (env : Env) (σ : St) (Hs Hr H : Hp) : Prop where
  ok : HpOk Hs Hr H
  len : env.length = σ.length
  slot : ∀ (i : Nat) (e : EV), env[i]? = some (some e) → SlotOk J Hs Hr H σ[i]? e
  dis : ∀ (i j : Nat) (p : Addr), i ≠ j → OwnAt J.toGx Hs H env σ i p → OwnAt J.toGx Hs H env σ j p → False
  se : Same Hse Hs
  he : Same He Hr
  ns : ∀ a o, Hs a = some o → Hse a = some o ∨ He a = none
  pin : ∀ q ∈ J.pin, σ[q.1]? = some (some q.2)
theorem Ext.still {Hs Hr H Hs' Hr' H' : Hp} (x : Ext Hs Hr H Hs' Hr' H') {p : Addr} {o : HO} (b : H p = some o) (c : Hr p = none) : Hr' p = none := by
  cases q : Hr' p with
  | none => rfl
  | some u =>
    rcases x.nr p u q with z | z
    · rw [c] at z; cases z
    · rw [b] at z; cases z
theorem SlotOk.mono {J : Jx} {Hs Hr H Hs' Hr' H' : Hp} {sv : Option (Option V)} (x : Ext Hs Hr H Hs' Hr' H') : ∀ {e : EV}, SlotOk J Hs Hr H sv e → SlotOk J Hs' Hr' H' sv e
  | .val .s d, ⟨v, a, b⟩ => ⟨v, a, b.mono x.s⟩
  | .val .r d, ⟨v, a, b⟩ => ⟨v, a, b.mono x.r⟩
  | .val .h d, h => h
  | .val .o d, h => h
  | .own xs, ⟨p, vs, a, b, c, r⟩ => ⟨p, vs, a, x.h _ _ b, x.still b c, r.mono x.s⟩
  | .ownd ks xs, ⟨p, vs, a, b, c, k, r⟩ => ⟨p, vs, a, x.h _ _ b, x.still b c, k, r.mono x.s⟩
  | .ownt t, ⟨v, fp, a, r, n, c⟩ => ⟨v, fp, a, r.mono x.s x.h, n, fun p hp => let ⟨_, b, _⟩ := r.at p hp; x.still b (c p hp)⟩
  | .exn c ks vs, ⟨a, cv, d, h1, h2, h3⟩ => ⟨a, cv, d, h1, h2, h3.mono x.s⟩
  | .val (.n _) d, h => h
theorem OwnAt.back {J : Jx} {Hse He : Hp} {env : Env} {σ : St} {Hs Hr H Hs' H' : Hp} {i : Nat} {p : Addr} (R : Rel J Hse He env σ Hs Hr H) (s : Same Hs Hs') (k : ∀ a, OwnAt J.toGx Hs H env σ i a → ∀ o, H a = some o → H' a = some o) (h : OwnAt J.toGx Hs' H' env σ i p) : OwnAt J.toGx Hs H env σ i p := by
  obtain ⟨e, fp, h1, h2, h3⟩ := h
  exact ⟨e, fp, h1, OwFp.back s (R.slot i e h1) (fun f hf a ha => k a ⟨e, f, h1, hf, ha⟩) h2, h3⟩
theorem Rel.ext {J : Jx} {Hse He : Hp} {env : Env} {σ : St} {Hs Hr H Hs' Hr' H' : Hp} (R : Rel J Hse He env σ Hs Hr H) (x : Ext Hs Hr H Hs' Hr' H') : Rel J Hse He env σ Hs' Hr' H' where
  ok := x.ok
  len := R.len
  slot := fun i e h => (R.slot i e h).mono x
  dis := fun i j p n a b => R.dis i j p n (a.back R x.s fun _ _ o h => x.h _ o h) (b.back R x.s fun _ _ o h => x.h _ o h)
  se := R.se.trans x.s
  he := R.he.trans x.r
  ns := fun a o e => by
    rcases x.ns a o e with h | h
    · exact R.ns a o h
    · exact .inr (R.he.free (R.ok.none_r h))
  pin := R.pin

/-! ### what is wanted of a result -/
/-- v stands for d: in what is shared (s), in what may be read (r), in the heap as it is (h); a list whose items alone are shared (o) -/
def RepT (G : Gx) (t : Tg) (Hs Hr H : Hp) (v : V) (d : D) : Prop := match t with
  | .s => Rep G Hs v d
  | .r => Rep G Hr v d
  | .h => Rep G H v d
  | .o => match d with
    | .lst xs => ∃ a vs, v = .ref a ∧ H a = some (.lst vs) ∧ Reps G Hs vs xs
    | .dic ks xs => ∃ a kvs, v = .ref a ∧ H a = some (.dK kvs) ∧ kvs.map (·.1) = ks ∧ Reps G Hs (kvs.map (·.2)) xs
    | _ => False
  | .n t => d = t.d ∧ ∃ fp, ORep G Hs H v t fp
theorem RepT.h {G : Gx} {t : Tg} {Hs Hr H : Hp} {v : V} {d : D} (k : HpOk Hs Hr H) (r : RepT G t Hs Hr H v d) : Rep G H v d := by
  cases t with
  | s => exact Rep.mono k.sh r
  | r => exact Rep.mono k.rh r
  | h => exact r
  | o =>
    cases d with
    | lst xs =>
      obtain ⟨a, vs, rfl, h1, h2⟩ := r
      exact .lst h1 (h2.mono k.sh)
    | dic ks xs =>
      obtain ⟨a, kvs, rfl, h1, rfl, h2⟩ := r
      exact .dic (.inl h1) (h2.mono k.sh)
    | _ => exact r.elim
  | n t =>
    obtain ⟨rfl, fp, h⟩ := r
    exact h.rep k.sh
theorem RepT.ext {G : Gx} {t : Tg} {Hs Hr H Hs' Hr' H' : Hp} {v : V} {d : D} (x : Ext Hs Hr H Hs' Hr' H') (r : RepT G t Hs Hr H v d) : RepT G t Hs' Hr' H' v d := by
  cases t with
  | s => exact Rep.mono x.s r
  | r => exact Rep.mono x.r r
  | h => exact Rep.mono x.h r
  | o =>
    cases d with
    | lst xs =>
      obtain ⟨a, vs, e, h1, h2⟩ := r
      exact ⟨a, vs, e, x.h _ _ h1, h2.mono x.s⟩
    | dic ks xs =>
      obtain ⟨a, kvs, e, h1, h3, h2⟩ := r
      exact ⟨a, kvs, e, x.h _ _ h1, h3, h2.mono x.s⟩
    | _ => exact r.elim
  | n t =>
    obtain ⟨e, fp, h⟩ := r
    exact ⟨e, fp, h.mono x.s x.h⟩
theorem RepT.imm {G : Gx} {t : Tg} {Hs Hr H : Hp} {v : V} {d : D} (k : HpOk Hs Hr H) (r : RepT G t Hs Hr H v d) (i : DL.imm d = true) : Rep G Hs v d := (r.h k).imm k.ti i
/-- the tag by which it may stand in a tuple -/
def ef (x : TV) : Tg := if imm x.2 then .s else match x.1 with | .s => .s | .r => .r | _ => .h
theorem RepT.ef {G : Gx} {Hs Hr H : Hp} {v : V} {x : TV} (k : HpOk Hs Hr H) (r : RepT G x.1 Hs Hr H v x.2) : RepT G (DL.ef x) Hs Hr H v x.2 := by
  unfold DL.ef
  split
  · rename_i i; exact r.imm k i
  · obtain ⟨t, d⟩ := x
    cases t with
    | s => exact r
    | r => exact r
    | h => exact r
    | o => exact RepT.h k r
    | n t => exact RepT.h k r
def jn : Tg → Tg → Tg
  | .s, .s => .s
  | .s, .r => .r
  | .r, .s => .r
  | .r, .r => .r
  | _, _ => .h
def hpT (t : Tg) (Hs Hr H : Hp) : Hp := match t with | .s => Hs | .r => Hr | _ => H

/-- S: what is wanted of a value and the heaps behind -/
def Post {α : Type} (J : Jx) (σ : St) (Hs Hr H : Hp) (r : Res α) (S : α → Hp → Hp → Hp → Prop) : Prop := match r with
  | .ok a => ∀ Hs' Hr' H', Ext Hs Hr H Hs' Hr' H' → S a Hs' Hr' H'
  | .exc c ks vs => ∀ cv d Hs' Hr' H', Ext Hs Hr H Hs' Hr' H' → ExcOk J.toGx Hs' c ks vs cv d → J.W cv d σ H'
  | .bad => False
theorem Post.ext {α : Type} {J : Jx} {σ : St} {Hs Hr H Hs1 Hr1 H1 : Hp} {r : Res α} {S S' : α → Hp → Hp → Hp → Prop} (p : Post J σ Hs Hr H r S) (x : Ext Hs Hr H Hs1 Hr1 H1)
    (m : ∀ a Hs' Hr' H', S a Hs' Hr' H' → S' a Hs' Hr' H') : Post J σ Hs1 Hr1 H1 r S' := by
  cases r with
  | ok a => exact fun Hs' Hr' H' y => m _ _ _ _ (p Hs' Hr' H' (x.trans y))
  | exc c ks vs => exact fun cv d Hs' Hr' H' y e => p cv d Hs' Hr' H' (x.trans y) e
  | bad => exact p
theorem Post.bind {α β : Type} {J : Jx} {σ : St} {Hs Hr H : Hp} {r : Res α} {k : α → Res β} {S : β → Hp → Hp → Hp → Prop} (p : Post J σ Hs Hr H (r.bind k) S) :
    Post J σ Hs Hr H r (fun a Hs1 Hr1 H1 => Post J σ Hs1 Hr1 H1 (k a) S) := by
  cases r with
  | ok a => exact fun Hs' Hr' H' y => Post.ext (r := k a) p y fun _ _ _ _ z => z
  | exc c ks vs => exact p
  | bad => exact p
theorem Post.imp {α : Type} {J : Jx} {σ : St} {Hs Hr H : Hp} {r : Res α} {S S' : α → Hp → Hp → Hp → Prop} (p : Post J σ Hs Hr H r S)
    (m : ∀ a Hs' Hr' H', Ext Hs Hr H Hs' Hr' H' → S a Hs' Hr' H' → S' a Hs' Hr' H') : Post J σ Hs Hr H r S' := by
  cases r with
  | ok a => exact fun Hs' Hr' H' y => m _ _ _ _ y (p Hs' Hr' H' y)
  | exc c ks vs => exact p
  | bad => exact p
theorem Post.now {α : Type} {J : Jx} {σ : St} {Hs Hr H : Hp} {a : α} {S : α → Hp → Hp → Hp → Prop} (k : HpOk Hs Hr H) (p : Post J σ Hs Hr H (.ok a) S) : S a Hs Hr H := p _ _ _ (Ext.refl k)
def SV (J : Jx) (Q : VK) : TV → Hp → Hp → Hp → Prop := fun x Hs' Hr' H' => ∀ v, RepT J.toGx x.1 Hs' Hr' H' v x.2 → Q v H'
def SE (J : Jx) (H0 : Hp) (Q : VK) : EV → Hp → Hp → Hp → Prop := fun e Hs' Hr' H' => match e with
  | .val t d => ∀ v, RepT J.toGx t Hs' Hr' H' v d → Q v H'
  | .own xs => ∀ p vs, H' p = some (.lst vs) → Hr' p = none → H0 p = none → Reps J.toGx Hs' vs xs → Q (.ref p) H'
  | .ownd ks xs => ∀ p kvs, H' p = some (.dK kvs) → Hr' p = none → H0 p = none → kvs.map (·.1) = ks → Reps J.toGx Hs' (kvs.map (·.2)) xs → Q (.ref p) H'
  | .ownt t => ∀ v fp, ORep J.toGx Hs' H' v t fp → fp.Nodup → (∀ p ∈ fp, Hr' p = none) → (∀ p ∈ fp, H0 p = none) → Q v H'
  | .exn _ _ _ => False
def SB (Q : Bool → Hp → Prop) : Bool → Hp → Hp → Hp → Prop := fun b _ _ H' => Q b H'
theorem SE.mono {J : Jx} {H0 H1 : Hp} {Q : VK} (s : Same H0 H1) : ∀ (e : EV) (Hs' Hr' H' : Hp), SE J H0 Q e Hs' Hr' H' → SE J H1 Q e Hs' Hr' H'
  | .val t d, _, _, _, h => h
  | .own xs, _, _, _, h => fun p vs a b c r => h p vs a b (s.free c) r
  | .ownd ks xs, _, _, _, h => fun p vs a b c k r => h p vs a b (s.free c) k r
  | .ownt t, _, _, _, h => fun v fp a b c d => h v fp a b c fun p hp => s.free (d p hp)
  | .exn _ _ _, _, _, _, h => h
def tV (J : Jx) (f : Env → Res TV) : TE := fun σ H Q => ∃ Hse He env Hs Hr, Rel J Hse He env σ Hs Hr H ∧ Post J σ Hs Hr H (f env) (SV J Q)
def tE (J : Jx) (f : Env → Res EV) : TE := fun σ H Q => ∃ Hse He env Hs Hr, Rel J Hse He env σ Hs Hr H ∧ Post J σ Hs Hr H (f env) (SE J H Q)
def tT (J : Jx) (f : Env → Res Bool) : TT := fun σ H Q => ∃ Hse He env Hs Hr, Rel J Hse He env σ Hs Hr H ∧ Post J σ Hs Hr H (f env) (SB Q)
structure MV (X : Cx) (J : Jx) (e : Expr) (f : Env → Res TV) : Prop where
  pe : PE X e (tV J f)
structure ME (X : Cx) (J : Jx) (e : Expr) (f : Env → Res EV) : Prop where
  pe : PE X e (tE J f)
structure MT (X : Cx) (J : Jx) (e : Expr) (f : Env → Res Bool) : Prop where
  pt : PT X e (tT J f)
/-- the same whatever the whole is -/
structure MW (X : Cx) (J : Jx) (e : Expr) (f : Env → Res Bool) : Prop where
  pw : PW X e (tT J f)
theorem pe_imp {X : Cx} {e : Expr} {t t' : TE} (h : PE X e t) (i : ∀ σ H Q, t' σ H Q → t σ H Q) : PE X e t' := ⟨fun pins s σ H Q I q => h.run pins s σ H Q I (i σ H Q q)⟩
theorem pt_imp {X : Cx} {e : Expr} {t t' : TT} (h : PT X e t) (i : ∀ σ H Q, t' σ H Q → t σ H Q) : PT X e t' := ⟨fun pins s σ H Q I q => h.run pins s σ H Q I (i σ H Q q)⟩
theorem pw_imp {X : Cx} {e : Expr} {t t' : TT} (h : PW X e t) (i : ∀ σ H Q, t' σ H Q → t σ H Q) : PW X e t' := ⟨fun w pins s σ H Q I q => h.run w pins s σ H Q I (i σ H Q q)⟩
theorem pa_imp {X : Cx} {e : List Expr} {t t' : TA} (h : PA X e t) (i : ∀ σ H Q, t' σ H Q → t σ H Q) : PA X e t' := ⟨fun p pins s σ H Q I q => h.run p pins s σ H Q I (i σ H Q q)⟩
theorem ps_imp {X : Cx} {e : Stmt} {t t' : TS} (h : PS X e t) (i : ∀ D σ H, t' D σ H → t D σ H) : PS X e t' := ⟨fun pins s σ H D I q => h.run pins s σ H D I (i D σ H q)⟩
theorem pss_imp {X : Cx} {e : List Stmt} {t t' : TS} (h : PSs X e t) (i : ∀ D σ H, t' D σ H → t D σ H) : PSs X e t' := ⟨fun pins s σ H D I q => h.run pins s σ H D I (i D σ H q)⟩

/-! ### from a fresh list to a shared one -/
def asV : EV → Res TV
  | .val t d => .ok (t, d)
  | .own xs => .ok (.s, .lst xs)
  | .ownd ks xs => .ok (.s, .dic ks xs)
  | .ownt t => .ok (.s, t.d)
  | .exn _ _ _ => .bad
theorem post_asV {J : Jx} {σ : St} {Hs Hr H : Hp} {r : Res EV} {Q : VK} (p : Post J σ Hs Hr H (r.bind asV) (SV J Q)) : Post J σ Hs Hr H r (SE J H Q) := by
  cases r with
  | ok e =>
    cases e with
    | val t d => exact fun Hs' Hr' H' x v rv => p Hs' Hr' H' x v rv
    | own xs => exact fun Hs' Hr' H' x q vs a b c r => p _ _ _ (x.share a b c) (.ref q) (.lst upd_same (r.mono (Same.upd (Same.refl _) (x.ok.sr.free b))))
    | ownd ks xs => exact fun Hs' Hr' H' x q vs a b c k r => p _ _ _ (x.share a b c) (.ref q) (by
        subst k
        exact .dic (.inl upd_same) (r.mono (Same.upd (Same.refl _) (x.ok.sr.free b))))
    | ownt t => exact fun Hs' Hr' H' x v fp a b c d => p _ _ _ (x.shareF c d) v (a.shared (joinF_same fun q hq => x.ok.sr.free (c q hq)) fun q hq => joinF_in hq)
    | exn c ks vs => exact (show False from p).elim
  | exc c ks vs => exact p
  | bad => exact p
def asE (x : TV) : EV := .val x.1 x.2
def mvD (f : Env → Res EV) : Env → Res TV := fun env => (f env).bind asV
def meD (f : Env → Res TV) : Env → Res EV := fun env => (f env).map asE
section
variable {X : Cx} {J : Jx} {e : Expr}
theorem mv {f : Env → Res EV} (h : ME X J e f) : MV X J e (mvD f) := ⟨pe_imp h.pe fun σ H Q ⟨Hse, He, env, Hs, Hr, R, p⟩ => ⟨Hse, He, env, Hs, Hr, R, post_asV p⟩⟩
theorem post_asE {J : Jx} {σ : St} {Hs Hr H : Hp} {r : Res TV} {Q : VK} (p : Post J σ Hs Hr H (r.map asE) (SE J H Q)) : Post J σ Hs Hr H r (SV J Q) := by
  cases r with
  | ok a => exact p
  | exc c ks vs => exact p
  | bad => exact p
theorem me {f : Env → Res TV} (h : MV X J e f) : ME X J e (meD f) := ⟨pe_imp h.pe fun σ H Q ⟨Hse, He, env, Hs, Hr, R, p⟩ => ⟨Hse, He, env, Hs, Hr, R, post_asE p⟩⟩
end
end DL

namespace DL
open PySem PySem.Spec PyProof.Rows L2

def bin1 {α : Type} (f : Env → Res TV) (k : TV → Res α) : Env → Res α := fun env => (f env).bind k
def bin2 {α : Type} (f g : Env → Res TV) (k : TV → TV → Res α) : Env → Res α := fun env => (f env).bind fun x => (g env).bind fun y => k x y
def bin3 {α : Type} (f g h : Env → Res TV) (k : TV → TV → TV → Res α) : Env → Res α := fun env => (f env).bind fun x => (g env).bind fun y => (h env).bind fun z => k x y z
/-- wishes that lean on the heap ahead, weaker there -/
def Wish {α : Type} (S : Hp → α → Hp → Hp → Hp → Prop) : Prop := ∀ H H', Same H H' → ∀ a x y z, S H a x y z → S H' a x y z
theorem wishE {J : Jx} {Q : VK} : Wish (fun H => SE J H Q) := fun H H' s a x y z h => SE.mono s a x y z h
theorem wishV {J : Jx} {Q : VK} : Wish (fun _ => SV J Q) := fun _ _ _ _ _ _ _ h => h
theorem wishB {Q : Bool → Hp → Prop} : Wish (fun _ => SB Q) := fun _ _ _ _ _ _ _ h => h
section
variable {X : Cx} {J : Jx} {f g h : Env → Res TV} {σ : St} {H : Hp}
def Now {α : Type} (J : Jx) (σ : St) (H : Hp) (F : Env → Res α) (S : α → Hp → Hp → Hp → Prop) : Prop := ∃ Hse He env Hs Hr, Rel J Hse He env σ Hs Hr H ∧ Post J σ Hs Hr H (F env) S
theorem run1 {α : Type} {S : Hp → α → Hp → Hp → Hp → Prop} (m : Wish S) {k : TV → Res α} {R : V → Hp → Prop} (n : Now J σ H (bin1 f k) (S H))
    (hk : ∀ v H1 Hse He env Hs Hr x, Same H H1 → Rel J Hse He env σ Hs Hr H1 → RepT J.toGx x.1 Hs Hr H1 v x.2 → Post J σ Hs Hr H1 (k x) (S H1) → R v H1) : tV J f σ H R := by
  obtain ⟨Hse, He, env, Hs, Hr, r, p⟩ := n
  exact ⟨Hse, He, env, Hs, Hr, r, (Post.bind p).imp fun x Hs1 Hr1 H1 e1 p1 v rv => hk v H1 Hse He env Hs1 Hr1 x e1.h (r.ext e1) rv (p1.imp fun a _ _ _ _ z => m _ _ e1.h _ _ _ _ z)⟩
theorem run2 {α : Type} {S : Hp → α → Hp → Hp → Hp → Prop} (m : Wish S) {k : TV → TV → Res α} {R : V → V → Hp → Prop} (n : Now J σ H (bin2 f g k) (S H))
    (hk : ∀ v w H1 Hse He env Hs Hr x y, Same H H1 → Rel J Hse He env σ Hs Hr H1 → RepT J.toGx x.1 Hs Hr H1 v x.2 → RepT J.toGx y.1 Hs Hr H1 w y.2 → Post J σ Hs Hr H1 (k x y) (S H1) → R v w H1) :
    tV J f σ H fun v H1 => tV J g σ H1 fun w H2 => R v w H2 := by
  obtain ⟨Hse, He, env, Hs, Hr, r, p⟩ := n
  refine ⟨Hse, He, env, Hs, Hr, r, (Post.bind p).imp fun x Hs1 Hr1 H1 e1 p1 v rv => ?_⟩
  refine ⟨Hse, He, env, Hs1, Hr1, r.ext e1, (Post.bind p1).imp fun y Hs2 Hr2 H2 e2 p2 w rw => ?_⟩
  exact hk v w H2 Hse He env Hs2 Hr2 x y (e1.h.trans e2.h) (r.ext (e1.trans e2)) (rv.ext e2) rw (p2.imp fun a _ _ _ _ z => m _ _ (e1.h.trans e2.h) _ _ _ _ z)
theorem run3 {α : Type} {S : Hp → α → Hp → Hp → Hp → Prop} (m : Wish S) {k : TV → TV → TV → Res α} {R : V → V → V → Hp → Prop} (n : Now J σ H (bin3 f g h k) (S H))
    (hk : ∀ u v w H1 Hse He env Hs Hr x y z, Same H H1 → Rel J Hse He env σ Hs Hr H1 → RepT J.toGx x.1 Hs Hr H1 u x.2 → RepT J.toGx y.1 Hs Hr H1 v y.2 → RepT J.toGx z.1 Hs Hr H1 w z.2 → Post J σ Hs Hr H1 (k x y z) (S H1) → R u v w H1) :
    tV J f σ H fun u H1 => tV J g σ H1 fun v H2 => tV J h σ H2 fun w H3 => R u v w H3 := by
  obtain ⟨Hse, He, env, Hs, Hr, r, p⟩ := n
  refine ⟨Hse, He, env, Hs, Hr, r, (Post.bind p).imp fun x Hs1 Hr1 H1 e1 p1 v rv => ?_⟩
  refine ⟨Hse, He, env, Hs1, Hr1, r.ext e1, (Post.bind p1).imp fun y Hs2 Hr2 H2 e2 p2 w rw => ?_⟩
  refine ⟨Hse, He, env, Hs2, Hr2, r.ext (e1.trans e2), (Post.bind p2).imp fun z Hs3 Hr3 H3 e3 p3 u ru => ?_⟩
  exact hk v w u H3 Hse He env Hs3 Hr3 x y z ((e1.h.trans e2.h).trans e3.h) (r.ext ((e1.trans e2).trans e3)) (rv.ext (e2.trans e3)) (rw.ext e3) ru (p3.imp fun a _ _ _ _ z => m _ _ ((e1.h.trans e2.h).trans e3.h) _ _ _ _ z)
end

/-! ### what may be told of a value -/
theorem RepT.isInt {G : Gx} {t : Tg} {Hs Hr H : Hp} {v : V} {i : Int} (k : HpOk Hs Hr H) (r : RepT G t Hs Hr H v (.int i)) : v = .int i := by
  cases r.h k
  rfl
theorem RepT.isBl {G : Gx} {t : Tg} {Hs Hr H : Hp} {v : V} {i : Bool} (k : HpOk Hs Hr H) (r : RepT G t Hs Hr H v (.bl i)) : v = .bl i := by
  cases r.h k
  rfl
theorem RepT.isStr {G : Gx} {t : Tg} {Hs Hr H : Hp} {v : V} {i : Str} (k : HpOk Hs Hr H) (r : RepT G t Hs Hr H v (.str i)) : v = .str i := by
  cases r.h k
  rfl
theorem RepT.isNon {G : Gx} {t : Tg} {Hs Hr H : Hp} {v : V} (k : HpOk Hs Hr H) (r : RepT G t Hs Hr H v .non) : v = .non := by
  cases r.h k
  rfl
theorem RepT.isLst {G : Gx} {t : Tg} {Hs Hr H : Hp} {v : V} {xs : List D} (k : HpOk Hs Hr H) (r : RepT G t Hs Hr H v (.lst xs)) : ∃ a vs, v = .ref a ∧ H a = some (.lst vs) ∧ Reps G H vs xs := by
  cases r.h k with
  | lst h r => exact ⟨_, _, rfl, h, r⟩
theorem RepT.isTup {G : Gx} {t : Tg} {Hs Hr H : Hp} {v : V} {xs : List D} (k : HpOk Hs Hr H) (r : RepT G t Hs Hr H v (.tup xs)) : ∃ a vs, v = .ref a ∧ H a = some (.tup vs) ∧ Reps G H vs xs := by
  cases r.h k with
  | tup h r => exact ⟨_, _, rfl, h, r⟩
/-- the items' tag -/
def itT : Tg → Tg
  | .s => .s | .r => .r | .h => .h | .o => .s | .n _ => .h
def RepsT (G : Gx) (t : Tg) (Hs Hr H : Hp) (vs : List V) (ds : List D) : Prop := match t with
  | .s => Reps G Hs vs ds
  | .r => Reps G Hr vs ds
  | _ => Reps G H vs ds
theorem RepsT.ext {G : Gx} {t : Tg} {Hs Hr H Hs' Hr' H' : Hp} {v : List V} {d : List D} (x : Ext Hs Hr H Hs' Hr' H') (r : RepsT G t Hs Hr H v d) : RepsT G t Hs' Hr' H' v d := by
  cases t with
  | s => exact Reps.mono x.s r
  | r => exact Reps.mono x.r r
  | h => exact Reps.mono x.h r
  | o => exact Reps.mono x.h r
  | n t => exact Reps.mono x.h r
theorem RepsT.h {G : Gx} {t : Tg} {Hs Hr H : Hp} {v : List V} {d : List D} (k : HpOk Hs Hr H) (r : RepsT G t Hs Hr H v d) : Reps G H v d := by
  cases t with
  | s => exact Reps.mono k.sh r
  | r => exact Reps.mono k.rh r
  | h => exact r
  | o => exact r
  | n t => exact r
theorem RepsT.get {G : Gx} {t : Tg} {Hs Hr H : Hp} {vs : List V} {ds : List D} {i : Nat} {x : D} (r : RepsT G (itT t) Hs Hr H vs ds) (e : ds[i]? = some x) : ∃ u, vs[i]? = some u ∧ RepT G (itT t) Hs Hr H u x := by
  cases t with
  | s => exact Reps.get r e
  | r => exact Reps.get r e
  | h => exact Reps.get r e
  | o => exact Reps.get r e
  | n t => exact Reps.get r e
theorem RepsT.get' {G : Gx} {t : Tg} {Hs Hr H : Hp} {vs : List V} {ds : List D} {i : Nat} {u : V} (r : RepsT G (itT t) Hs Hr H vs ds) (e : vs[i]? = some u) : ∃ x, ds[i]? = some x ∧ RepT G (itT t) Hs Hr H u x := by
  cases t with
  | s => exact Reps.get' r e
  | r => exact Reps.get' r e
  | h => exact Reps.get' r e
  | o => exact Reps.get' r e
  | n t => exact Reps.get' r e
theorem RepT.lstT {G : Gx} {t : Tg} {Hs Hr H : Hp} {v : V} {xs : List D} (k : HpOk Hs Hr H) (r : RepT G t Hs Hr H v (.lst xs)) : ∃ a vs, v = .ref a ∧ H a = some (.lst vs) ∧ RepsT G (itT t) Hs Hr H vs xs := by
  cases t with
  | s => cases r with
    | lst h r => exact ⟨_, _, rfl, k.sh _ _ h, r⟩
  | r => cases r with
    | lst h r => exact ⟨_, _, rfl, k.rh _ _ h, r⟩
  | h => cases r with
    | lst h r => exact ⟨_, _, rfl, h, r⟩
  | o =>
    obtain ⟨a, vs, rfl, h1, h2⟩ := r
    exact ⟨a, vs, rfl, h1, h2⟩
  | n t => cases RepT.h k r with
    | lst h r => exact ⟨_, _, rfl, h, r⟩
theorem RepT.tupT {G : Gx} {t : Tg} {Hs Hr H : Hp} {v : V} {xs : List D} (k : HpOk Hs Hr H) (r : RepT G t Hs Hr H v (.tup xs)) : ∃ a vs, v = .ref a ∧ H a = some (.tup vs) ∧ RepsT G (itT t) Hs Hr H vs xs := by
  cases t with
  | s => cases r with
    | tup h r => exact ⟨_, _, rfl, k.sh _ _ h, r⟩
  | r => cases r with
    | tup h r => exact ⟨_, _, rfl, k.rh _ _ h, r⟩
  | h => cases r with
    | tup h r => exact ⟨_, _, rfl, h, r⟩
  | o => exact r.elim
  | n t => cases RepT.h k r with
    | tup h r => exact ⟨_, _, rfl, h, r⟩
/-- a list whose items may be shared -/
def shI (x : TV) : Bool := match x.1, x.2 with
  | .s, _ => true
  | .o, _ => true
  | _, .lst xs => imms xs
  | _, .tup xs => imms xs
  | _, _ => false
/-- a value that may be shared -/
def shV (x : TV) : Bool := match x.1 with
  | .s => true
  | _ => imm x.2
theorem RepT.shV {G : Gx} {Hs Hr H : Hp} {v : V} {x : TV} (k : HpOk Hs Hr H) (r : RepT G x.1 Hs Hr H v x.2) (i : DL.shV x = true) : Rep G Hs v x.2 := by
  obtain ⟨t, d⟩ := x
  cases t with
  | s => exact r
  | _ => exact r.imm k i
theorem RepT.shI {G : Gx} {t : Tg} {Hs Hr H : Hp} {v : V} {xs : List D} (k : HpOk Hs Hr H) (r : RepT G t Hs Hr H v (.lst xs)) (i : DL.shI (t, .lst xs) = true) : ∃ a vs, v = .ref a ∧ H a = some (.lst vs) ∧ Reps G Hs vs xs := by
  obtain ⟨a, vs, e, h1, h2⟩ := r.lstT k
  refine ⟨a, vs, e, h1, ?_⟩
  cases t with
  | s => exact h2
  | o => exact h2
  | r => exact (h2.h k).imms k.ti i
  | h => exact (h2.h k).imms k.ti i
  | n t => exact (h2.h k).imms k.ti i
theorem RepT.shIT {G : Gx} {t : Tg} {Hs Hr H : Hp} {v : V} {xs : List D} (k : HpOk Hs Hr H) (r : RepT G t Hs Hr H v (.tup xs)) (i : DL.shI (t, .tup xs) = true) : ∃ a vs, v = .ref a ∧ H a = some (.tup vs) ∧ Reps G Hs vs xs := by
  obtain ⟨a, vs, e, h1, h2⟩ := r.tupT k
  refine ⟨a, vs, e, h1, ?_⟩
  cases t with
  | s => exact h2
  | o => exact r.elim
  | r => exact (h2.h k).imms k.ti i
  | h => exact (h2.h k).imms k.ti i
  | n t => exact (h2.h k).imms k.ti i
theorem Reps.toT {G : Gx} {t u : Tg} {Hs Hr H : Hp} {vs : List V} {ds : List D} (k : HpOk Hs Hr H) (r : RepsT G t Hs Hr H vs ds) : RepsT G (jn t u) Hs Hr H vs ds := by
  cases t with
  | s => cases u with
    | s => exact r
    | r => exact Reps.mono k.sr r
    | h => exact Reps.mono k.sh r
    | o => exact Reps.mono k.sh r
    | n t => exact Reps.mono k.sh r
  | r => cases u with
    | s => exact r
    | r => exact r
    | h => exact Reps.mono k.rh r
    | o => exact Reps.mono k.rh r
    | n t => exact Reps.mono k.rh r
  | h => exact r
  | o => exact r
  | n t => exact r
theorem jn_comm (t u : Tg) : jn t u = jn u t := by cases t <;> cases u <;> rfl
theorem jn_cases (t u : Tg) : jn t u = .s ∨ jn t u = .r ∨ jn t u = .h := by cases t <;> cases u <;> first | exact .inl rfl | exact .inr (.inl rfl) | exact .inr (.inr rfl)
/-- a tuple of such items -/
theorem RepT.mkTup {G : Gx} {t : Tg} {Hs Hr H : Hp} {p : Addr} {vs : List V} {ds : List D} (ht : t = .s ∨ t = .r ∨ t = .h) (k : HpOk Hs Hr H) (hp : Hs p = some (.tup vs)) (r : RepsT G t Hs Hr H vs ds) : RepT G t Hs Hr H (.ref p) (.tup ds) := by
  rcases ht with rfl | rfl | rfl
  · exact .tup hp r
  · exact .tup (k.sr _ _ hp) r
  · exact .tup (k.sh _ _ hp) r

/-! ### constants, names -/
def cst (d : D) : Env → Res TV := fun _ => .ok (.s, d)
def getV (i : Nat) : Env → Res TV := fun env => match env[i]? with
  | some (some (.val t d)) => .ok (t, d)
  | some (some (.own xs)) => .ok (.o, .lst xs)
  | some (some (.ownd ks xs)) => .ok (.o, .dic ks xs)
  | some (some (.ownt t)) => .ok (.n t, t.d)
  | _ => .bad
section
variable {X : Cx} {J : Jx} {a b c e : Expr} {pos : Pos} {f g h : Env → Res TV}
theorem mv_int {i j} : MV X J (.Constant (.int i) j pos) (cst (.int i)) := ⟨pe_imp pe_int fun _ _ _ ⟨_, _, _, _, _, R, p⟩ => p.now R.ok _ (.int i)⟩
theorem mv_bl {i j} : MV X J (.Constant (.bool i) j pos) (cst (.bl i)) := ⟨pe_imp pe_bl fun _ _ _ ⟨_, _, _, _, _, R, p⟩ => p.now R.ok _ (.bl i)⟩
theorem mv_non {j} : MV X J (.Constant .none j pos) (cst .non) := ⟨pe_imp pe_non fun _ _ _ ⟨_, _, _, _, _, R, p⟩ => p.now R.ok _ .non⟩
theorem mv_str {i j} : MV X J (.Constant (.str i) j pos) (cst (.str i)) := ⟨pe_imp pe_str fun _ _ _ ⟨_, _, _, _, _, R, p⟩ => p.now R.ok _ (.str i)⟩
theorem mv_gint {x : Str} {i : Int} (hm : ∃ t, X.mg x = some (.int i t)) (hg : Gl X x := by rfl) (hd : (x == ("__debug__" : Str)) = false := by decide) : MV X J (.Name x pos) (cst (.int i)) :=
  let ⟨t, hm⟩ := hm; ⟨pe_imp (pe_glob (v := .int i) hg hm ⟨t, rfl⟩ hd) fun _ _ _ ⟨_, _, _, _, _, R, p⟩ => p.now R.ok _ (.int i)⟩
theorem mv_gstr {x : Str} {i : Str} (hm : ∃ t, X.mg x = some (.str i t)) (hg : Gl X x := by rfl) (hd : (x == ("__debug__" : Str)) = false := by decide) : MV X J (.Name x pos) (cst (.str i)) :=
  let ⟨t, hm⟩ := hm; ⟨pe_imp (pe_glob (v := .str i) hg hm ⟨t, rfl⟩ hd) fun _ _ _ ⟨_, _, _, _, _, R, p⟩ => p.now R.ok _ (.str i)⟩
theorem mv_gcls {x : Str} {C : Addr} (hm : X.mg x = some (.ref C)) (hc : J.cl x = some C) (hg : Gl X x := by rfl) (hd : (x == ("__debug__" : Str)) = false := by decide) : MV X J (.Name x pos) (cst (.cls x)) :=
  ⟨pe_imp (pe_glob (v := .ref C) hg hm rfl hd) fun _ _ _ ⟨_, _, _, _, _, R, p⟩ => p.now R.ok _ (.cls hc)⟩
theorem mv_var (i : Nat) {x : Str} (hN : X.N[i]? = some x := by rfl) (hv : Vis X.env.scope x := by first | exact Or.inl rfl | exact Or.inr (Or.inl rfl) | exact Or.inr (Or.inr rfl)) (hd : (x == ("__debug__" : Str)) = false := by decide)
    (hcd : (x == ("__classdict__" : Str)) = false := by decide) : MV X J (.Name x pos) (getV i) := ⟨pe_imp (pv i hN hv hd hcd) fun σ H Q ⟨Hse, He, env, Hs, Hr, R, p⟩ => by
  unfold getV at p
  split at p
  · rename_i t d q
    have so := R.slot i _ q
    cases t with
    | s => obtain ⟨v, e, r⟩ := so; exact ⟨v, e, p.now R.ok _ r⟩
    | r => obtain ⟨v, e, r⟩ := so; exact ⟨v, e, p.now R.ok _ r⟩
    | h => exact so.elim
    | o => exact so.elim
    | n t => exact so.elim
  · rename_i xs q
    obtain ⟨a, vs, e, h1, h2, r⟩ := R.slot i _ q
    exact ⟨_, e, p.now R.ok _ ⟨a, vs, rfl, h1, r⟩⟩
  · rename_i ks xs q
    obtain ⟨a, vs, e, h1, h2, h3, r⟩ := R.slot i _ q
    exact ⟨_, e, p.now R.ok _ ⟨a, vs, rfl, h1, h3, r⟩⟩
  · rename_i t q
    obtain ⟨v, fp, e, r, _⟩ := R.slot i _ q
    exact ⟨_, e, p.now R.ok _ ⟨rfl, fp, r⟩⟩
  · exact (show False from p).elim⟩

/-! ### two-place operations -/
theorem me_op {op : Operator} {r : R2} (ho : OpR X (binaryOp op) r) (k : TV → TV → Res EV)
    (hk : ∀ σ Hs Hr H x y v w Q, HpOk Hs Hr H → RepT J.toGx x.1 Hs Hr H v x.2 → RepT J.toGx y.1 Hs Hr H w y.2 → Post J σ Hs Hr H (k x y) (SE J H Q) → r v w H Q)
    (ha : MV X J a f) (hb : MV X J b g) : ME X J (.BinOp a op b pos) (bin2 f g k) :=
  ⟨pe_imp (pe_op ho ha.pe hb.pe) fun σ H Q n => run2 (wishE (J := J) (Q := Q)) n fun v w H1 _ _ _ Hs Hr x y _ R rv rw p => hk σ Hs Hr H1 x y v w Q R.ok rv rw p⟩
theorem mv_op {op : Operator} {r : R2} (ho : OpR X (binaryOp op) r) (k : TV → TV → Res TV)
    (hk : ∀ σ Hs Hr H x y v w Q, HpOk Hs Hr H → RepT J.toGx x.1 Hs Hr H v x.2 → RepT J.toGx y.1 Hs Hr H w y.2 → Post J σ Hs Hr H (k x y) (SV J Q) → r v w H Q)
    (ha : MV X J a f) (hb : MV X J b g) : MV X J (.BinOp a op b pos) (bin2 f g k) :=
  ⟨pe_imp (pe_op ho ha.pe hb.pe) fun σ H Q n => run2 (wishV (J := J) (Q := Q)) n fun v w H1 _ _ _ Hs Hr x y _ R rv rw p => hk σ Hs Hr H1 x y v w Q R.ok rv rw p⟩
theorem mv_cmpO {op : CmpOp} {r : R2} (ho : OpR X (compareOp op) r) (k : TV → TV → Res TV)
    (hk : ∀ σ Hs Hr H x y v w Q, HpOk Hs Hr H → RepT J.toGx x.1 Hs Hr H v x.2 → RepT J.toGx y.1 Hs Hr H w y.2 → Post J σ Hs Hr H (k x y) (SV J Q) → r v w H Q)
    (ha : MV X J a f) (hb : MV X J b g) (hm : behindInMarks op b = false) : MV X J (.Compare a [op] [b] pos) (bin2 f g k) :=
  ⟨pe_imp (pe_cmpR ho ha.pe hb.pe hm) fun σ H Q n => run2 (wishV (J := J) (Q := Q)) n fun v w H1 _ _ _ Hs Hr x y _ R rv rw p => hk σ Hs Hr H1 x y v w Q R.ok rv rw p⟩

def asI2 {α : Type} (k : Int → Int → Res α) (x y : TV) : Res α := match x.2, y.2 with
  | .int i, .int j => k i j
  | _, _ => .bad
def oki (i : Int) : Res TV := .ok (.s, .int i)
def okb (b : Bool) : Res TV := .ok (.s, .bl b)
theorem hk_I {C : Int → Int → Prop} {gi : Int → Int → Int} {kk : Int → Int → Res TV} (hc : ∀ i j, kk i j = .bad ∨ (C i j ∧ kk i j = oki (gi i j))) :
    ∀ σ Hs Hr H (x y : TV) v w Q, HpOk Hs Hr H → RepT J.toGx x.1 Hs Hr H v x.2 → RepT J.toGx y.1 Hs Hr H w y.2 → Post J σ Hs Hr H (asI2 kk x y) (SV J Q) → rI C (fun i j => V.int (gi i j)) v w H Q := by
  intro σ Hs Hr H x y v w Q k rx ry p
  obtain ⟨t, d⟩ := x
  obtain ⟨u, e⟩ := y
  unfold asI2 at p
  split at p
  · rename_i i j q1 q2
    dsimp only at q1 q2
    subst q1 q2
    rcases hc i j with z | ⟨c, z⟩
    · rw [z] at p; exact (show False from p).elim
    · rw [z] at p
      exact ⟨i, j, rx.isInt k, ry.isInt k, c, p.now k _ (.int _)⟩
  · exact (show False from p).elim
theorem hk_I0 {gi : Int → Int → Int} : ∀ σ Hs Hr H (x y : TV) v w Q, HpOk Hs Hr H → RepT J.toGx x.1 Hs Hr H v x.2 → RepT J.toGx y.1 Hs Hr H w y.2 → Post J σ Hs Hr H (asI2 (fun i j => oki (gi i j)) x y) (SV J Q) → rI0 (fun i j => V.int (gi i j)) v w H Q := by
  intro σ Hs Hr H x y v w Q k rx ry p
  obtain ⟨t, d⟩ := x
  obtain ⟨u, e⟩ := y
  unfold asI2 at p
  split at p
  · rename_i i j q1 q2
    dsimp only at q1 q2
    subst q1 q2
    exact ⟨i, j, rx.isInt k, ry.isInt k, p.now k _ (.int _)⟩
  · exact (show False from p).elim
theorem hk_B0 {gi : Int → Int → Bool} : ∀ σ Hs Hr H (x y : TV) v w Q, HpOk Hs Hr H → RepT J.toGx x.1 Hs Hr H v x.2 → RepT J.toGx y.1 Hs Hr H w y.2 → Post J σ Hs Hr H (asI2 (fun i j => okb (gi i j)) x y) (SV J Q) → rI0 (fun i j => V.bl (gi i j)) v w H Q := by
  intro σ Hs Hr H x y v w Q k rx ry p
  obtain ⟨t, d⟩ := x
  obtain ⟨u, e⟩ := y
  unfold asI2 at p
  split at p
  · rename_i i j q1 q2
    dsimp only at q1 q2
    subst q1 q2
    exact ⟨i, j, rx.isInt k, ry.isInt k, p.now k _ (.bl _)⟩
  · exact (show False from p).elim
/-- // by whatever but 0 -/
def CFd (i j : Int) : Prop := j ≠ 0 ∧ j.natAbs.log2 < 9000
theorem op_fdivA : OpR X (binaryOp .FloorDiv) (rI CFd fun i j => .int (i.fdiv j)) := opI fun _ _ _ _ _ _ _ hc q => floordiv_int hc.1 q (.inl (PyProof.noPylong_of_log2 hc.2))
def kSub (i j : Int) : Res TV := oki (i - j)
def kLt (i j : Int) : Res TV := okb (decide (i < j))
def kLe (i j : Int) : Res TV := okb (decide (i ≤ j))
def kGt (i j : Int) : Res TV := okb (decide (j < i))
def kGe (i j : Int) : Res TV := okb (decide (j ≤ i))
/-- of no more than 150 figures -/
def Sm (i : Int) : Prop := -(10 ^ 150) < i ∧ i < 10 ^ 150
instance (i : Int) : Decidable (Sm i) := inferInstanceAs (Decidable (_ ∧ _))
theorem Sm.log {i : Int} (h : Sm i) : i.natAbs.log2 < 1000 := by
  have h1 := h.1
  have h2 := h.2
  have h3 : i.natAbs < 10 ^ 150 := by omega
  have h4 : (10 : Nat) ^ 150 ≤ 2 ^ 500 := by decide
  exact Nat.lt_of_lt_of_le (PySem.Flt.log2_lt_of (by decide) (Nat.lt_of_lt_of_le h3 h4)) (by decide)
def kFdiv (i j : Int) : Res TV := if j ≠ 0 ∧ Sm j then oki (i.fdiv j) else .bad
def kMod (i j : Int) : Res TV := if j ≠ 0 then oki (i.fmod j) else .bad
def kPow (i j : Int) : Res TV := if 0 ≤ j ∧ j ≤ 1000000 ∧ i.natAbs < 2 ^ 64 then oki (i ^ j.toNat) else .bad
theorem mv_sub (ha : MV X J a f) (hb : MV X J b g) : MV X J (.BinOp a .Sub b pos) (bin2 f g (asI2 kSub)) := mv_op op_sub _ (hk_I0 (gi := fun i j => i - j)) ha hb
theorem mv_fdiv (ha : MV X J a f) (hb : MV X J b g) : MV X J (.BinOp a .FloorDiv b pos) (bin2 f g (asI2 kFdiv)) := mv_op op_fdivA _ (hk_I fun i j => by
  unfold kFdiv
  split
  · rename_i h; exact .inr ⟨⟨h.1, Nat.lt_of_lt_of_le h.2.log (by decide)⟩, rfl⟩
  · exact .inl rfl) ha hb
theorem mv_mod (ha : MV X J a f) (hb : MV X J b g) : MV X J (.BinOp a .Mod b pos) (bin2 f g (asI2 kMod)) := mv_op op_modN _ (hk_I fun i j => by
  unfold kMod
  split
  · rename_i h; exact .inr ⟨h, rfl⟩
  · exact .inl rfl) ha hb
theorem mv_pow (ha : MV X J a f) (hb : MV X J b g) : MV X J (.BinOp a .Pow b pos) (bin2 f g (asI2 kPow)) := mv_op op_pow _ (hk_I fun i j => by
  unfold kPow
  split
  · rename_i h; exact .inr ⟨h, rfl⟩
  · exact .inl rfl) ha hb

/-- + -/
def kAdd (x y : TV) : Res EV := match x.2, y.2 with
  | .int i, .int j => .ok (.val .s (.int (i + j)))
  | .str u, .str v => if u.length + v.length ≤ 16777216 then .ok (.val .s (.str (u ++ v))) else .bad
  | .lst xs, .lst ys => if shI x = true ∧ shI y = true ∧ xs.length + ys.length ≤ 16777216 then .ok (.own (xs ++ ys)) else .bad
  | .tup xs, .tup ys => if shI x = true ∧ shI y = true ∧ xs.length + ys.length ≤ 16777216 then .ok (.val .s (.tup (xs ++ ys))) else .bad
  | _, _ => .bad
theorem rep_of_tup {G : Gx} {Hs Hr H : Hp} (k : HpOk Hs Hr H) {p : Addr} {vs : List V} {ds : List D} (h : H p = some (.tup vs)) (r : Reps G Hs vs ds) : Rep G Hs (.ref p) (.tup ds) := .tup (k.ti _ _ h) r
theorem me_add (ha : MV X J a f) (hb : MV X J b g) (hK : X.K = J.K) : ME X J (.BinOp a .Add b pos) (bin2 f g kAdd) := by
  refine me_op (op_add.or (op_add_str.or (op_cat.or op_catA))) _ ?_ ha hb
  intro σ Hs Hr H x y v w Q k rx ry p
  obtain ⟨t, d⟩ := x
  obtain ⟨u, e⟩ := y
  unfold kAdd at p
  split at p
  · rename_i i j q1 q2
    dsimp only at q1 q2
    subst q1 q2
    exact .inl ⟨i, j, rx.isInt k, ry.isInt k, p.now k _ (.int _)⟩
  · rename_i i j q1 q2
    dsimp only at q1 q2
    subst q1 q2
    split at p
    · rename_i hl
      exact .inr (.inl ⟨i, j, rx.isStr k, ry.isStr k, by rw [sizeLine_eq]; exact hl, p.now k _ (.str _)⟩)
    · exact (show False from p).elim
  · rename_i i j q1 q2
    dsimp only at q1 q2
    subst q1 q2
    split at p
    · rename_i hl
      obtain ⟨l1, l2, l3⟩ := hl
      obtain ⟨p1, vs, rfl, h1, r1⟩ := rx.shI k l1
      obtain ⟨p2, ws, rfl, h2, r2⟩ := ry.shI k l2
      refine .inr (.inr (.inl ⟨p1, p2, vs, ws, rfl, rfl, h1, h2, by rw [sizeLine_eq, r1.length, r2.length]; exact l3, fun q hq => ?_⟩))
      exact p _ _ _ (Ext.new0 k hq fun xs z => by cases z) q _ upd_same (k.none_r hq) hq (r1.append r2)
    · exact (show False from p).elim
  · rename_i i j q1 q2
    dsimp only at q1 q2
    subst q1 q2
    split at p
    · rename_i hl
      obtain ⟨l1, l2, l3⟩ := hl
      obtain ⟨p1, vs, rfl, h1, r1⟩ := rx.shIT k l1
      obtain ⟨p2, ws, rfl, h2, r2⟩ := ry.shIT k l2
      refine .inr (.inr (.inr ⟨p1, p2, vs, ws, rfl, rfl, .inl (.inl h1), .inl (.inl h2), by rw [sizeLine_eq, r1.length, r2.length]; exact l3, fun e0 => ?_, fun _ e0 => ?_, fun _ _ q hq => ?_⟩))
      · subst e0
        cases r1
        exact p.now k _ (rep_of_tup k h2 r2)
      · subst e0
        cases r2
        rw [List.append_nil] at p
        exact p.now k _ (rep_of_tup k h1 r1)
      · have x := Ext.new (o := .tup (vs ++ ws)) k hq
        exact p _ _ _ x _ (.tup upd_same ((r1.append r2).mono x.s))
    · exact (show False from p).elim
  · exact (show False from p).elim
/-- * -/
def kMul (x y : TV) : Res EV := match x.2, y.2 with
  | .int i, .int j => if Sm i ∧ Sm j then .ok (.val .s (.int (i * j))) else .bad
  | .lst xs, .int j => if shI x = true ∧ j < 2 ^ 40 ∧ -(2 ^ 40) < j ∧ xs.length * j.toNat ≤ 16777216 then .ok (.own (List.replicate j.toNat xs).flatten) else .bad
  | _, _ => .bad
theorem Reps.rep {G : Gx} {H : Hp} {vs : List V} {ds : List D} (h : Reps G H vs ds) : ∀ n : Nat, Reps G H (List.replicate n vs).flatten (List.replicate n ds).flatten
  | 0 => .nil
  | n + 1 => by
    rw [List.replicate_succ, List.replicate_succ, List.flatten_cons, List.flatten_cons]
    exact h.append (Reps.rep h n)
theorem me_mul (ha : MV X J a f) (hb : MV X J b g) : ME X J (.BinOp a .Mult b pos) (bin2 f g kMul) := by
  refine me_op (op_mulW.or op_rep) _ ?_ ha hb
  intro σ Hs Hr H x y v w Q k rx ry p
  obtain ⟨t, d⟩ := x
  obtain ⟨u, e⟩ := y
  unfold kMul at p
  split at p
  · rename_i i j q1 q2
    dsimp only at q1 q2
    subst q1 q2
    split at p
    · rename_i hl
      exact .inl ⟨i, j, rx.isInt k, ry.isInt k, (by have h1 := hl.1.log; have h2 := hl.2.log; show _ + _ < 1000000; omega), p.now k _ (.int _)⟩
    · exact (show False from p).elim
  · rename_i i j q1 q2
    dsimp only at q1 q2
    subst q1 q2
    split at p
    · rename_i hl
      obtain ⟨l1, l2, l3, l4⟩ := hl
      obtain ⟨p1, vs, rfl, h1, r1⟩ := rx.shI k l1
      refine .inr ⟨p1, j, vs, rfl, ry.isInt k, h1, by omega, by omega, by rw [sizeLine_eq, r1.length]; exact l4, fun q hq => ?_⟩
      exact p _ _ _ (Ext.new0 k hq fun xs z => by cases z) q _ upd_same (k.none_r hq) hq (Reps.rep r1 _)
    · exact (show False from p).elim
  · exact (show False from p).elim
/-- - -/
def kNeg (x : TV) : Res TV := match x.2 with
  | .int i => oki (-i)
  | _ => .bad
theorem mv_neg (ha : MV X J a f) : MV X J (.UnaryOp .USub a pos) (bin1 f kNeg) := ⟨pe_imp (pe_un un_neg ha.pe) fun σ H Q n => run1 (wishV (J := J) (Q := Q)) n fun v H1 _ _ _ Hs Hr x _ R rv p => by
  obtain ⟨t, d⟩ := x
  unfold kNeg at p
  split at p
  · rename_i i q
    dsimp only at q
    subst q
    exact ⟨i, rv.isInt R.ok, p.now R.ok _ (.int _)⟩
  · exact (show False from p).elim⟩

/-! ### comparisons -/
theorem mv_lt (ha : MV X J a f) (hb : MV X J b g) : MV X J (.Compare a [.Lt] [b] pos) (bin2 f g (asI2 kLt)) := mv_cmpO op_lt _ hk_B0 ha hb (nomark _)
theorem mv_le (ha : MV X J a f) (hb : MV X J b g) : MV X J (.Compare a [.LtE] [b] pos) (bin2 f g (asI2 kLe)) := mv_cmpO op_le _ hk_B0 ha hb (nomark _)
theorem mv_gt (ha : MV X J a f) (hb : MV X J b g) : MV X J (.Compare a [.Gt] [b] pos) (bin2 f g (asI2 kGt)) := mv_cmpO op_gt _ hk_B0 ha hb (nomark _)
theorem mv_ge (ha : MV X J a f) (hb : MV X J b g) : MV X J (.Compare a [.GtE] [b] pos) (bin2 f g (asI2 kGe)) := mv_cmpO op_ge _ hk_B0 ha hb (nomark _)
end
end DL

namespace DL
open PySem PySem.Spec PyProof.Rows L2

/-- what nearly every rule asks of the place -/
structure Bas (X : Cx) (J : Jx) : Prop where
  K : X.K = J.K
  nd : X.N.Nodup
  hu : X.A.units + 65 < cLine
structure Good (X : Cx) (J : Jx) (n : Nat) : Prop extends Bas X J where
  tk : Takes X J.W
  room : Room n X.A
  calm : X.calm = true
  po : PassesOwn (model X.prog X.w) X.A X.env X.xe

/-! ### == -/
mutual
def toP : D → PyData
  | .non => .none | .bl b => .bool b | .int i => .int i | .str x => .str x
  | .tup xs => .tuple (toPs xs) | .lst xs => .list (toPs xs)
  | _ => .none
def toPs : List D → List PyData
  | [] => []
  | d :: r => toP d :: toPs r
end
mutual
/-- plain data, not deeper than so much -/
def dOk : Nat → D → Bool
  | _, .non => true | _, .bl _ => true | _, .int _ => true | _, .str x => PyData.canLay0 (.str x)
  | 0, .tup _ => false | n + 1, .tup xs => dOks n xs
  | 0, .lst _ => false | n + 1, .lst xs => dOks n xs
  | _, _ => false
def dOks : Nat → List D → Bool
  | _, [] => true
  | n, d :: r => dOk n d && dOks n r
end
mutual
theorem dp_of {G : Gx} {H : Hp} : ∀ {v : V} {d : D} {n : Nat}, Rep G H v d → dOk n d = true → Dp G.K H v (toP d)
  | _, _, _, .non, _ => .non
  | _, _, _, .bl b, _ => .bl b
  | _, _, _, .int i, _ => .int i
  | _, _, _, .str x, _ => .str x
  | _, _, 0, .tup h r, k => by simp [dOk] at k
  | _, _, n + 1, .tup h r, k => .tup (.inl (.inl h)) (dps_of r (n := n) (by simpa [dOk] using k))
  | _, _, 0, .lst h r, k => by simp [dOk] at k
  | _, _, n + 1, .lst h r, k => .lst (.inl (.inl h)) (dps_of r (n := n) (by simpa [dOk] using k))
  | _, _, _, .dic h r, k => by simp [dOk] at k
  | _, _, _, .obj c h r, k => by simp [dOk] at k
  | _, _, _, .cls c, k => by simp [dOk] at k
  | _, _, _, .typ n, k => by simp [dOk] at k
  | _, _, _, .scr h, k => by simp [dOk] at k
theorem dps_of {G : Gx} {H : Hp} : ∀ {v : List V} {d : List D} {n : Nat}, Reps G H v d → dOks n d = true → DpAll G.K H v (toPs d)
  | _, _, _, .nil, _ => .nil
  | _, _, n, .cons h r, k => by
    simp only [dOks, Bool.and_eq_true] at k
    exact .cons (dp_of h k.1) (dps_of r k.2)
end
mutual
theorem dOk_mono : ∀ (d : D) (m n : Nat), m ≤ n → dOk m d = true → dOk n d = true
  | .non, m, n, l, k => by simp [dOk]
  | .bl b, m, n, l, k => by simp [dOk]
  | .int i, m, n, l, k => by simp [dOk]
  | .str x, m, n, l, k => by simpa [dOk] using k
  | .tup xs, 0, n, l, k => by simp [dOk] at k
  | .tup xs, m + 1, 0, l, k => by omega
  | .tup xs, m + 1, n + 1, l, k => by
    simp only [dOk] at k ⊢
    exact dOks_mono xs m n (by omega) k
  | .lst xs, 0, n, l, k => by simp [dOk] at k
  | .lst xs, m + 1, 0, l, k => by omega
  | .lst xs, m + 1, n + 1, l, k => by
    simp only [dOk] at k ⊢
    exact dOks_mono xs m n (by omega) k
  | .dic _ _, m, n, l, k => by simp [dOk] at k
  | .obj _ _ _, m, n, l, k => by simp [dOk] at k
  | .cls _, m, n, l, k => by simp [dOk] at k
  | .typ _, m, n, l, k => by simp [dOk] at k
  | .scr _, m, n, l, k => by simp [dOk] at k
theorem dOks_mono : ∀ (d : List D) (m n : Nat), m ≤ n → dOks m d = true → dOks n d = true
  | [], m, n, l, k => by simp [dOks]
  | d :: r, m, n, l, k => by
    simp only [dOks, Bool.and_eq_true] at k ⊢
    exact ⟨dOk_mono d m n l k.1, dOks_mono r m n l k.2⟩
end
mutual
theorem dOk_shaped : ∀ (d : D) (n : Nat), dOk n d = true → (toP d).canLay0 = true ∧ (toP d).depth ≤ n
  | .non, n, k => ⟨rfl, Nat.zero_le _⟩
  | .bl b, n, k => ⟨rfl, Nat.zero_le _⟩
  | .int i, n, k => ⟨rfl, Nat.zero_le _⟩
  | .str x, n, k => ⟨by simpa [dOk, toP] using k, by simp [toP, PyData.depth]⟩
  | .tup xs, 0, k => by simp [dOk] at k
  | .tup xs, n + 1, k => by
    have q := dOks_shaped xs n (by simpa [dOk] using k)
    exact ⟨by simpa [toP, PyData.canLay0] using q.1, by simpa [toP, PyData.depth] using q.2⟩
  | .lst xs, 0, k => by simp [dOk] at k
  | .lst xs, n + 1, k => by
    have q := dOks_shaped xs n (by simpa [dOk] using k)
    exact ⟨by simpa [toP, PyData.canLay0] using q.1, by simpa [toP, PyData.depth] using q.2⟩
  | .dic _ _, n, k => by simp [dOk] at k
  | .obj _ _ _, n, k => by simp [dOk] at k
  | .cls _, n, k => by simp [dOk] at k
  | .typ _, n, k => by simp [dOk] at k
  | .scr _, n, k => by simp [dOk] at k
theorem dOks_shaped : ∀ (d : List D) (n : Nat), dOks n d = true → PyData.canLayAll0 (toPs d) = true ∧ PyData.depthAll (toPs d) ≤ n
  | [], n, k => ⟨rfl, Nat.zero_le _⟩
  | d :: r, n, k => by
    have k' : dOk n d = true ∧ dOks n r = true := by simpa [dOks] using k
    have q := dOk_shaped d n k'.1
    have q2 := dOks_shaped r n k'.2
    refine ⟨by simpa [toPs, PyData.canLayAll0] using ⟨q.1, q2.1⟩, ?_⟩
    simp only [toPs, PyData.depthAll]
    exact Nat.max_le.mpr ⟨q.2, q2.2⟩
end
theorem shaped_of {d : D} (k : dOk 60 d = true) : SeqAt.shaped (toP d) = true := by
  have q := dOk_shaped d 60 k
  unfold SeqAt.shaped
  rw [Bool.and_eq_true]
  exact ⟨q.1, decide_eq_true (by have := q.2; omega)⟩
def deq (x y : D) : Bool := PyData.eqv (toP x) (toP y)
def deqs (x y : List D) : Bool := PyData.eqvAll (toPs x) (toPs y)
theorem Post.nowB {J : Jx} {σ : St} {Hs Hr H : Hp} {b : Bool} {Q : VK} (k : HpOk Hs Hr H) (p : Post J σ Hs Hr H (okb b) (SV J Q)) : Q (.bl b) H := Post.now (a := ((.s, .bl b) : TV)) k p _ (.bl _)
theorem Post.nowI {J : Jx} {σ : St} {Hs Hr H : Hp} {i : Int} {Q : VK} (k : HpOk Hs Hr H) (p : Post J σ Hs Hr H (oki i) (SV J Q)) : Q (.int i) H := Post.now (a := ((.s, .int i) : TV)) k p _ (.int _)
theorem Post.nowT {J : Jx} {σ : St} {Hs Hr H : Hp} {b : Bool} {Q : Bool → Hp → Prop} (k : HpOk Hs Hr H) (p : Post J σ Hs Hr H (.ok b) (SB Q)) : Q b H := Post.now (a := b) k p
def kEq (x y : TV) : Res TV := if dOk 60 x.2 = true ∧ dOk 60 y.2 = true then okb (deq x.2 y.2) else .bad
def kNe (x y : TV) : Res TV := if dOk 60 x.2 = true ∧ dOk 60 y.2 = true then okb (!deq x.2 y.2) else .bad
def flatD : D → Bool
  | .non => true | .bl _ => true | .int _ => true | .str _ => true | _ => false
def eqD : D → D → Bool
  | .non, .non => true
  | .bl a, .bl b => a == b
  | .bl a, .int b => (if a then 1 else 0) == b
  | .int a, .bl b => a == (if b then 1 else 0)
  | .int a, .int b => a == b
  | .str a, .str b => a == b
  | _, _ => false
theorem flat_of {G : Gx} {H : Hp} {v : V} {d : D} (r : Rep G H v d) (f : flatD d = true) : flatV v = true := by
  cases r <;> first | rfl | (simp [flatD] at f)
theorem eq_of {G : Gx} {H : Hp} {v w : V} {d e : D} (r : Rep G H v d) (q : Rep G H w e) (f : flatD d = true) (g : flatD e = true) : eqV v w = eqD d e := by
  cases r <;> cases q <;> first | rfl | (simp [flatD] at f; done) | (simp [flatD] at g; done)
theorem flats_of {G : Gx} {H : Hp} : ∀ {v : List V} {d : List D}, Reps G H v d → d.all flatD = true → v.all flatV = true
  | _, _, .nil, _ => rfl
  | _, _, .cons h r, f => by
    rw [List.all_cons, Bool.and_eq_true] at f
    rw [List.all_cons, flat_of h f.1, flats_of r f.2] <;> rfl
theorem any_of {G : Gx} {H : Hp} {w : V} {e : D} (q : Rep G H w e) (g : flatD e = true) : ∀ {v : List V} {d : List D}, Reps G H v d → d.all flatD = true → inV w v = d.any fun z => eqD z e
  | _, _, .nil, _ => rfl
  | _, _, .cons h r, f => by
    rw [List.all_cons, Bool.and_eq_true] at f
    show (eqV _ w || inV w _) = (eqD _ e || _)
    rw [eq_of h q f.1 g, any_of q g r f.2] <;> rfl
/-- in -/
def kInB (x y : TV) : Option Bool := match y.2 with
  | .lst ys => if dOk 60 x.2 = true ∧ dOks 50 ys = true then some (ys.any fun z => deq z x.2) else none
  | .tup ys => if flatD x.2 = true ∧ ys.all flatD = true then some (ys.any fun z => eqD z x.2) else none
  | _ => none
def kIn (x y : TV) : Res TV := match kInB x y with | some b => okb b | none => .bad
def kNin (x y : TV) : Res TV := match kInB x y with | some b => okb (!b) | none => .bad
theorem any_toPs (x : PyData) : ∀ ys : List D, ((toPs ys).any fun z => PyData.eqv z x) = ys.any fun z => PyData.eqv (toP z) x
  | [] => rfl
  | y :: r => by
    show (PyData.eqv (toP y) x || _) = (PyData.eqv (toP y) x || _)
    rw [any_toPs x r]
section
variable {X : Cx} {J : Jx} {a b c e : Expr} {pos : Pos} {f g h : Env → Res TV}
theorem hk_eq (B : Bas X J) : ∀ σ Hs Hr H (x y : TV) v w Q, HpOk Hs Hr H → RepT J.toGx x.1 Hs Hr H v x.2 → RepT J.toGx y.1 Hs Hr H w y.2 → Post J σ Hs Hr H (kEq x y) (SV J Q) → rEqD X.K v w H Q := by
  intro σ Hs Hr H x y v w Q k rx ry p
  unfold kEq at p
  split at p
  · rename_i z
    rw [B.K]
    exact ⟨_, _, dp_of (rx.h k) z.1, dp_of (ry.h k) z.2, shaped_of z.1, shaped_of z.2, p.now k _ (.bl _)⟩
  · exact (show False from p).elim
theorem hk_ne (B : Bas X J) : ∀ σ Hs Hr H (x y : TV) v w Q, HpOk Hs Hr H → RepT J.toGx x.1 Hs Hr H v x.2 → RepT J.toGx y.1 Hs Hr H w y.2 → Post J σ Hs Hr H (kNe x y) (SV J Q) → rNeD X.K v w H Q := by
  intro σ Hs Hr H x y v w Q k rx ry p
  unfold kNe at p
  split at p
  · rename_i z
    rw [B.K]
    exact ⟨_, _, dp_of (rx.h k) z.1, dp_of (ry.h k) z.2, shaped_of z.1, shaped_of z.2, p.now k _ (.bl _)⟩
  · exact (show False from p).elim
theorem hk_in (B : Bas X J) : ∀ σ Hs Hr H (x y : TV) v w Q, HpOk Hs Hr H → RepT J.toGx x.1 Hs Hr H v x.2 → RepT J.toGx y.1 Hs Hr H w y.2 → Post J σ Hs Hr H (kIn x y) (SV J Q) → rInD X.K v w H Q ∨ rIn X.K false v w H Q := by
  intro σ Hs Hr H x y v w Q k rx ry p
  obtain ⟨t, d⟩ := x
  obtain ⟨u, e⟩ := y
  unfold kIn kInB at p
  rw [B.K]
  dsimp only at p rx ry
  cases e with
  | lst ys =>
    dsimp only at p
    by_cases z : dOk 60 d = true ∧ dOks 50 ys = true
    · rw [if_pos z] at p
      refine .inl ⟨toP d, toPs ys, dp_of (rx.h k) z.1, ?_, shaped_of z.1, shaped_of (d := .lst ys) ?_, ?_⟩
      · have q : dOk 51 (.lst ys) = true := by simpa [dOk] using z.2
        have := dp_of (ry.h k) q
        simpa [toP] using this
      · simp only [dOk]
        exact dOks_mono ys 50 59 (by omega) z.2
      · rw [any_toPs]
        exact p.now k _ (.bl _)
    · rw [if_neg z] at p; exact (show False from p).elim
  | tup ys =>
    dsimp only at p
    by_cases z : flatD d = true ∧ ys.all flatD = true
    · rw [if_pos z] at p
      obtain ⟨a, vs, rfl, h1, r1⟩ := ry.isTup k
      refine .inr ⟨a, vs, rfl, .inr (.inl (.inl h1)), flat_of (rx.h k) z.1, flats_of r1 z.2, ?_⟩
      rw [if_neg Bool.false_ne_true, any_of (rx.h k) z.1 r1 z.2]
      exact p.now k _ (.bl _)
    · rw [if_neg z] at p; exact (show False from p).elim
  | _ => exact (show False from p).elim
theorem hk_nin (B : Bas X J) : ∀ σ Hs Hr H (x y : TV) v w Q, HpOk Hs Hr H → RepT J.toGx x.1 Hs Hr H v x.2 → RepT J.toGx y.1 Hs Hr H w y.2 → Post J σ Hs Hr H (kNin x y) (SV J Q) → rNotInD X.K v w H Q ∨ rIn X.K true v w H Q := by
  intro σ Hs Hr H x y v w Q k rx ry p
  have q := hk_in B (σ := σ) Hs Hr H x y v w (fun z H' => ∀ b, z = .bl b → Q (.bl (!b)) H') k rx ry (by
    unfold kNin at p
    unfold kIn
    cases hb : kInB x y with
    | none => rw [hb] at p; exact (show False from p).elim
    | some b =>
      rw [hb] at p
      exact fun Hs' Hr' H' e v r c hc => by
        cases (r.isBl e.ok).symm.trans hc
        exact p _ _ _ e _ (.bl _))
  rcases q with ⟨d, ds, h1, h2, h3, h4, h5⟩ | ⟨p', xs, h1, h2, h3, h4, h5⟩
  · exact .inl ⟨d, ds, h1, h2, h3, h4, h5 _ rfl⟩
  · refine .inr ⟨p', xs, h1, h2, h3, h4, ?_⟩
    rw [if_pos rfl]
    rw [if_neg Bool.false_ne_true] at h5
    exact h5 _ rfl
theorem op_eqA (B : Bas X J) : OpR X (compareOp .Eq) (rEqD X.K) := op_eqD (by have := B.hu; omega)
theorem op_neA (B : Bas X J) : OpR X (compareOp .NotEq) (rNeD X.K) := op_neD (by have := B.hu; omega)
theorem op_inA (B : Bas X J) : OpR X (compareOp .In) (fun x y H Q => rInD X.K x y H Q ∨ rIn X.K false x y H Q) := (op_inD B.hu).or op_in_seq
theorem op_ninA (B : Bas X J) : OpR X (compareOp .NotIn) (fun x y H Q => rNotInD X.K x y H Q ∨ rIn X.K true x y H Q) := (op_notInD B.hu).or op_notIn_seq
theorem mv_eq (B : Bas X J) (ha : MV X J a f) (hb : MV X J b g) : MV X J (.Compare a [.Eq] [b] pos) (bin2 f g kEq) := mv_cmpO (op_eqA B) _ (hk_eq B) ha hb (nomark _)
theorem mv_ne (B : Bas X J) (ha : MV X J a f) (hb : MV X J b g) : MV X J (.Compare a [.NotEq] [b] pos) (bin2 f g kNe) := mv_cmpO (op_neA B) _ (hk_ne B) ha hb (nomark _)
theorem mv_in (B : Bas X J) (ha : MV X J a f) (hb : MV X J b g) (hm : behindInMarks .In b = false := by rfl) : MV X J (.Compare a [.In] [b] pos) (bin2 f g kIn) := mv_cmpO (op_inA B) _ (hk_in B) ha hb hm
theorem mv_nin (B : Bas X J) (ha : MV X J a f) (hb : MV X J b g) (hm : behindInMarks .NotIn b = false := by rfl) : MV X J (.Compare a [.NotIn] [b] pos) (bin2 f g kNin) := mv_cmpO (op_ninA B) _ (hk_nin B) ha hb hm
def isNonD : D → Bool
  | .non => true | _ => false
theorem isNon_of {G : Gx} {H : Hp} {v : V} {d : D} (r : Rep G H v d) : decide (v = .non) = isNonD d := by
  cases r <;> first | rfl | exact decide_eq_false (by intro h; cases h)
def kIsN (x : TV) : Res TV := okb (isNonD x.2)
def kNotN (x : TV) : Res TV := okb (!isNonD x.2)
def kIsN2 (x y : TV) : Res TV := match y.2 with | .non => okb (isNonD x.2) | _ => .bad
def kNotN2 (x y : TV) : Res TV := match y.2 with | .non => okb (!isNonD x.2) | _ => .bad
theorem hk_isN : ∀ σ Hs Hr H (x y : TV) v w Q, HpOk Hs Hr H → RepT J.toGx x.1 Hs Hr H v x.2 → RepT J.toGx y.1 Hs Hr H w y.2 → Post J σ Hs Hr H (kIsN2 x y) (SV J Q) → w = .non ∧ Q (.bl (decide (v = .non))) H := by
  intro σ Hs Hr H x y v w Q k rx ry p
  obtain ⟨t, d⟩ := x
  obtain ⟨u, e⟩ := y
  unfold kIsN2 at p
  split at p
  · rename_i q
    dsimp only at q
    subst q
    rw [isNon_of (rx.h k)]
    exact ⟨ry.isNon k, p.now k _ (.bl _)⟩
  · exact (show False from p).elim
theorem hk_notN : ∀ σ Hs Hr H (x y : TV) v w Q, HpOk Hs Hr H → RepT J.toGx x.1 Hs Hr H v x.2 → RepT J.toGx y.1 Hs Hr H w y.2 → Post J σ Hs Hr H (kNotN2 x y) (SV J Q) → w = .non ∧ Q (.bl (!decide (v = .non))) H := by
  intro σ Hs Hr H x y v w Q k rx ry p
  obtain ⟨t, d⟩ := x
  obtain ⟨u, e⟩ := y
  unfold kNotN2 at p
  split at p
  · rename_i q
    dsimp only at q
    subst q
    rw [isNon_of (rx.h k)]
    exact ⟨ry.isNon k, p.now k _ (.bl _)⟩
  · exact (show False from p).elim
theorem mv_isN (ha : MV X J a f) (hb : MV X J b g) : MV X J (.Compare a [.Is] [b] pos) (bin2 f g kIsN2) := mv_cmpO op_isN _ hk_isN ha hb (nomark _)
theorem mv_notN (ha : MV X J a f) (hb : MV X J b g) : MV X J (.Compare a [.IsNot] [b] pos) (bin2 f g kNotN2) := mv_cmpO op_notN _ hk_notN ha hb (nomark _)

/-! ### chains -/
/-- the operators of a chain: rule and data -/
structure OpK (X : Cx) (J : Jx) (op : CmpOp) (k : TV → TV → Res TV) : Prop where
  ok : ∃ r, OpR X (compareOp op) r ∧ ∀ σ Hs Hr H (x y : TV) v w Q, HpOk Hs Hr H → RepT J.toGx x.1 Hs Hr H v x.2 → RepT J.toGx y.1 Hs Hr H w y.2 → Post J σ Hs Hr H (k x y) (SV J Q) → r v w H Q
theorem ok_lt : OpK X J .Lt (asI2 kLt) := ⟨_, op_lt, hk_B0⟩
theorem ok_le : OpK X J .LtE (asI2 kLe) := ⟨_, op_le, hk_B0⟩
theorem ok_gt : OpK X J .Gt (asI2 kGt) := ⟨_, op_gt, hk_B0⟩
theorem ok_ge : OpK X J .GtE (asI2 kGe) := ⟨_, op_ge, hk_B0⟩
theorem ok_eq (B : Bas X J) : OpK X J .Eq kEq := ⟨_, op_eqA B, hk_eq B⟩
theorem ok_ne (B : Bas X J) : OpK X J .NotEq kNe := ⟨_, op_neA B, hk_ne B⟩
theorem ok_in (B : Bas X J) : OpK X J .In kIn := ⟨_, op_inA B, hk_in B⟩
theorem ok_nin (B : Bas X J) : OpK X J .NotIn kNin := ⟨_, op_ninA B, hk_nin B⟩
theorem ok_isN : OpK X J .Is kIsN2 := ⟨_, op_isN, hk_isN⟩
theorem ok_notN : OpK X J .IsNot kNotN2 := ⟨_, op_notN, hk_notN⟩
theorem mv_cmp {op : CmpOp} {k : TV → TV → Res TV} (o : OpK X J op k) (ha : MV X J a f) (hb : MV X J b g) (hm : behindInMarks op b = false := by rfl) : MV X J (.Compare a [op] [b] pos) (bin2 f g k) := by
  obtain ⟨r, ho, hk⟩ := o.ok
  exact mv_cmpO ho k hk ha hb hm
def thenB (k : Res TV) (z : Res TV) : Res TV := k.bind fun x => match x.2 with | .bl true => z | .bl false => okb false | _ => .bad
def chain2 (f g h : Env → Res TV) (k k' : TV → TV → Res TV) : Env → Res TV := fun env => (f env).bind fun x => (g env).bind fun y => (k x y).bind fun z => match z.2 with
  | .bl true => (h env).bind fun w => k' y w
  | .bl false => okb false
  | _ => .bad
theorem run_chain {op op' : CmpOp} {r r' : R2} {k k' : TV → TV → Res TV} (hk : ∀ σ Hs Hr H (x y : TV) v w Q, HpOk Hs Hr H → RepT J.toGx x.1 Hs Hr H v x.2 → RepT J.toGx y.1 Hs Hr H w y.2 → Post J σ Hs Hr H (k x y) (SV J Q) → r v w H Q)
    (hk' : ∀ σ Hs Hr H (x y : TV) v w Q, HpOk Hs Hr H → RepT J.toGx x.1 Hs Hr H v x.2 → RepT J.toGx y.1 Hs Hr H w y.2 → Post J σ Hs Hr H (k' x y) (SV J Q) → r' v w H Q) {σ : St} {H : Hp} {Q : VK} (n : tV J (chain2 f g h k k') σ H Q) :
    tChain r r' (tV J f) (tV J g) (tV J h) σ H Q := by
  obtain ⟨Hse, He, env, Hs, Hr, R, p⟩ := n
  refine ⟨Hse, He, env, Hs, Hr, R, (Post.bind p).imp fun x Hs1 Hr1 H1 e1 p1 v rv => ?_⟩
  refine ⟨Hse, He, env, Hs1, Hr1, R.ext e1, (Post.bind p1).imp fun y Hs2 Hr2 H2 e2 p2 w rw => ?_⟩
  refine hk σ Hs2 Hr2 H2 x y v w _ e2.ok (rv.ext e2) rw ((Post.bind p2).imp fun z Hs3 Hr3 H3 e3 p3 zv rz => ?_)
  obtain ⟨t, d⟩ := z
  dsimp only at p3 rz
  cases d with
  | bl b =>
    cases rz.isBl e3.ok
    refine ⟨b, rfl, ?_⟩
    cases b with
    | true =>
      rw [if_pos rfl]
      refine ⟨Hse, He, env, Hs3, Hr3, R.ext ((e1.trans e2).trans e3), (Post.bind p3).imp fun u Hs4 Hr4 H4 e4 p4 uv ru => ?_⟩
      exact hk' σ Hs4 Hr4 H4 y u w uv Q e4.ok (rw.ext (e3.trans e4)) ru p4
    | false =>
      rw [if_neg Bool.false_ne_true]
      exact Post.nowB e3.ok p3
  | _ => exact (show False from p3).elim
theorem mv_chain {op op' : CmpOp} {k k' : TV → TV → Res TV} (o : OpK X J op k) (o' : OpK X J op' k') (ha : MV X J a f) (hb : MV X J b g) (hc : MV X J c h) (hm : lastMarks [op, op'] [b, c] = false := by with_unfolding_all rfl) :
    MV X J (.Compare a [op, op'] [b, c] pos) (chain2 f g h k k') := by
  obtain ⟨r, ho, hk⟩ := o.ok
  obtain ⟨r', ho', hk'⟩ := o'.ok
  exact ⟨pe_imp (pe_chain ho ho' ha.pe hb.pe hc.pe hm) fun σ H Q n => run_chain (op := op) (op' := op') hk hk' n⟩

/-! ### tests -/
def bOf (x : TV) : Res Bool := match x.2 with | .bl b => .ok b | _ => .bad
/-- truth of a value -/
def truK (x : TV) : Res Bool := match x.2 with
  | .bl b => .ok b
  | .non => .ok false
  | .int i => .ok (i != 0)
  | .str y => if y.length ≤ 16777216 then .ok ((y.length : Int) != 0) else .bad
  | .lst xs => .ok (!xs.isEmpty)
  | .tup xs => .ok (!xs.isEmpty)
  | .dic ks _ => (match x.1 with | .o => .ok (!ks.isEmpty) | _ => .bad)
  | _ => .bad
theorem post_bl {σ : St} {Hs Hr H : Hp} {r : Res TV} {Q : Bool → Hp → Prop} (p : Post J σ Hs Hr H (r.bind bOf) (SB Q)) : Post J σ Hs Hr H r (SV J fun v H' => ∃ k, v = .bl k ∧ Q k H') := by
  refine (Post.bind p).imp fun x Hs1 Hr1 H1 e1 p1 v rv => ?_
  obtain ⟨t, d⟩ := x
  cases d with
  | bl b =>
    cases rv.isBl e1.ok
    exact ⟨b, rfl, Post.now e1.ok p1⟩
  | _ => exact (show False from p1).elim
def tstB (f : Env → Res TV) : Env → Res Bool := fun env => (f env).bind bOf
theorem mt_cmp {op : CmpOp} {k : TV → TV → Res TV} (o : OpK X J op k) (ha : MV X J a f) (hb : MV X J b g) (hm : behindInMarks op b = false := by rfl) : MT X J (.Compare a [op] [b] pos) (tstB (bin2 f g k)) := by
  obtain ⟨r, ho, hk⟩ := o.ok
  refine ⟨pt_imp (pt_cmpR ho ha.pe hb.pe hm) fun σ H Q ⟨Hse, He, env, Hs, Hr, R, p⟩ => ?_⟩
  exact run2 (wishV (J := J) (Q := fun v H' => ∃ k, v = .bl k ∧ Q k H')) ⟨Hse, He, env, Hs, Hr, R, post_bl p⟩ fun v w H1 _ _ _ Hs Hr x y _ R rv rw p => hk σ Hs Hr H1 x y v w _ R.ok rv rw p
theorem mt_chain {op op' : CmpOp} {k k' : TV → TV → Res TV} (o : OpK X J op k) (o' : OpK X J op' k') (ha : MV X J a f) (hb : MV X J b g) (hc : MV X J c h) (hm : lastMarks [op, op'] [b, c] = false := by with_unfolding_all rfl) :
    MT X J (.Compare a [op, op'] [b, c] pos) (tstB (chain2 f g h k k')) := by
  obtain ⟨r, ho, hk⟩ := o.ok
  obtain ⟨r', ho', hk'⟩ := o'.ok
  exact ⟨pt_imp (pt_chain ho ho' ha.pe hb.pe hc.pe hm) fun σ H Q ⟨Hse, He, env, Hs, Hr, R, p⟩ => run_chain (op := op) (op' := op') hk hk' ⟨Hse, He, env, Hs, Hr, R, post_bl p⟩⟩
theorem mt_val (B : Bas X J) (ha : MV X J a f) (he : ∀ whole, isTrue a X.env whole = (do let v ← whole; standAt a.pos; holding [v] (truthy v)) := by intro _; rfl) : MT X J a (bin1 f truK) := by
  refine ⟨pt_imp (pt_truth ha.pe he) fun σ H Q ⟨Hse, He, env, Hs, Hr, R, p⟩ => ⟨Hse, He, env, Hs, Hr, R, (Post.bind p).imp fun x Hs1 Hr1 H1 e1 p1 v rv => ?_⟩⟩
  obtain ⟨t, d⟩ := x
  cases d with
  | bl b =>
    cases rv.isBl e1.ok
    exact ⟨b, rfl, Post.now e1.ok p1⟩
  | non =>
    cases rv.isNon e1.ok
    exact ⟨false, rfl, Post.now e1.ok p1⟩
  | int i =>
    cases rv.isInt e1.ok
    exact ⟨i != 0, rfl, Post.now e1.ok p1⟩
  | str y =>
    cases rv.isStr e1.ok
    unfold truK at p1
    dsimp only at p1
    split at p1
    · rename_i z
      exact ⟨_, ⟨by rw [sizeLine_eq]; exact z, rfl⟩, Post.now e1.ok p1⟩
    · exact (show False from p1).elim
  | lst xs =>
    obtain ⟨q, vs, rfl, h1, r1⟩ := rv.isLst e1.ok
    refine ⟨_, .inl ⟨vs, .inl (.inl h1), rfl⟩, ?_⟩
    have : vs.isEmpty = xs.isEmpty := by cases r1 <;> rfl
    rw [this]
    exact Post.now e1.ok p1
  | tup xs =>
    obtain ⟨q, vs, rfl, h1, r1⟩ := rv.isTup e1.ok
    refine ⟨_, .inr (.inl ⟨vs, .inl (.inl h1), rfl⟩), ?_⟩
    have : vs.isEmpty = xs.isEmpty := by cases r1 <;> rfl
    rw [this]
    exact Post.now e1.ok p1
  | dic ks xs =>
    cases t with
    | o =>
      obtain ⟨a, kvs, rfl, h1, rfl, h2⟩ := rv
      refine ⟨_, .inr (.inr ⟨kvs, h1, rfl⟩), ?_⟩
      have : kvs.isEmpty = (kvs.map (·.1)).isEmpty := by cases kvs <;> rfl
      rw [this]
      exact Post.now e1.ok p1
    | _ => exact (show False from p1).elim
  | _ => exact (show False from p1).elim
def andB (f g : Env → Res Bool) : Env → Res Bool := fun env => (f env).bind fun b => if b = true then g env else .ok false
def orB (f g : Env → Res Bool) : Env → Res Bool := fun env => (f env).bind fun b => if b = true then .ok true else g env
def notB (f : Env → Res Bool) : Env → Res Bool := fun env => (f env).bind fun b => .ok (!b)
variable {fa fb : Env → Res Bool}
theorem mw_and1 (ha : MT X J a fa) : MW X J (.BoolOp .And [a] pos) fa := ⟨pw_and1 ha.pt⟩
theorem mw_or1 (ha : MT X J a fa) : MW X J (.BoolOp .Or [a] pos) fa := ⟨pw_or1 ha.pt⟩
theorem mw_and {rest : List Expr} (ha : MT X J a fa) (hb : MW X J (.BoolOp .And (b :: rest) pos) fb) : MW X J (.BoolOp .And (a :: b :: rest) pos) (andB fa fb) :=
  ⟨pw_imp (pw_and ha.pt hb.pw) fun σ H Q ⟨Hse, He, env, Hs, Hr, R, p⟩ => ⟨Hse, He, env, Hs, Hr, R, (Post.bind p).imp fun x Hs1 Hr1 H1 e1 p1 => by
    show if x = true then _ else _
    cases x with
    | true => exact ⟨Hse, He, env, Hs1, Hr1, R.ext e1, p1⟩
    | false => exact Post.now e1.ok p1⟩⟩
theorem mw_or {rest : List Expr} (ha : MT X J a fa) (hb : MW X J (.BoolOp .Or (b :: rest) pos) fb) : MW X J (.BoolOp .Or (a :: b :: rest) pos) (orB fa fb) :=
  ⟨pw_imp (pw_or ha.pt hb.pw) fun σ H Q ⟨Hse, He, env, Hs, Hr, R, p⟩ => ⟨Hse, He, env, Hs, Hr, R, (Post.bind p).imp fun x Hs1 Hr1 H1 e1 p1 => by
    show if x = true then _ else _
    cases x with
    | false => exact ⟨Hse, He, env, Hs1, Hr1, R.ext e1, p1⟩
    | true => exact Post.now e1.ok p1⟩⟩
theorem mt_w (ha : MW X J a fa) : MT X J a fa := ⟨ha.pw.pt⟩
theorem mt_not (ha : MT X J a fa) : MT X J (.UnaryOp .Not a pos) (notB fa) :=
  ⟨pt_imp (pt_not ha.pt) fun σ H Q ⟨Hse, He, env, Hs, Hr, R, p⟩ => ⟨Hse, He, env, Hs, Hr, R, (Post.bind p).imp fun x Hs1 Hr1 H1 e1 p1 => Post.nowT (J := J) (σ := σ) e1.ok p1⟩⟩

/-! ### and, or, not as values -/
def andV (f g : Env → Res TV) : Env → Res TV := fun env => (f env).bind fun x => match x.2 with | .bl true => g env | .bl false => okb false | _ => .bad
def orV (f g : Env → Res TV) : Env → Res TV := fun env => (f env).bind fun x => match x.2 with | .bl true => okb true | .bl false => g env | _ => .bad
def kNot (x : TV) : Res TV := (truK x).bind fun b => okb (!b)
theorem mv_one {op} (ha : MV X J a f) : MV X J (.BoolOp op [a] pos) f := ⟨pe_one ha.pe⟩
theorem mv_and {rest : List Expr} (ha : MV X J a f) (hb : MV X J (.BoolOp .And (b :: rest) pos) g) : MV X J (.BoolOp .And (a :: b :: rest) pos) (andV f g) :=
  ⟨pe_imp (pe_and ha.pe hb.pe) fun σ H Q ⟨Hse, He, env, Hs, Hr, R, p⟩ => ⟨Hse, He, env, Hs, Hr, R, (Post.bind p).imp fun x Hs1 Hr1 H1 e1 p1 v rv => by
    obtain ⟨t, d⟩ := x
    cases d with
    | bl b =>
      cases rv.isBl e1.ok
      refine ⟨b, rfl, ?_⟩
      cases b with
      | true => exact ⟨Hse, He, env, Hs1, Hr1, R.ext e1, p1⟩
      | false => exact Post.nowB e1.ok p1
    | _ => exact (show False from p1).elim⟩⟩
theorem mv_or {rest : List Expr} (ha : MV X J a f) (hb : MV X J (.BoolOp .Or (b :: rest) pos) g) : MV X J (.BoolOp .Or (a :: b :: rest) pos) (orV f g) :=
  ⟨pe_imp (pe_or ha.pe hb.pe) fun σ H Q ⟨Hse, He, env, Hs, Hr, R, p⟩ => ⟨Hse, He, env, Hs, Hr, R, (Post.bind p).imp fun x Hs1 Hr1 H1 e1 p1 v rv => by
    obtain ⟨t, d⟩ := x
    cases d with
    | bl b =>
      cases rv.isBl e1.ok
      refine ⟨b, rfl, ?_⟩
      cases b with
      | false => exact ⟨Hse, He, env, Hs1, Hr1, R.ext e1, p1⟩
      | true => exact Post.nowB e1.ok p1
    | _ => exact (show False from p1).elim⟩⟩
def kNotB (x : TV) : Res TV := match x.2 with | .bl b => okb (!b) | _ => .bad
theorem mv_not (ha : MV X J a f) : MV X J (.UnaryOp .Not a pos) (bin1 f kNotB) :=
  ⟨pe_imp (pe_not ha.pe) fun σ H Q n => run1 (wishV (J := J) (Q := Q)) n fun v H1 _ _ _ Hs Hr x _ R rv p => by
    obtain ⟨t, d⟩ := x
    cases d with
    | bl b =>
      cases rv.isBl R.ok
      exact ⟨b, rfl, Post.now R.ok p _ (.bl _)⟩
    | _ => exact (show False from p).elim⟩
def ifV {α : Type} (c : Env → Res Bool) (f g : Env → Res α) : Env → Res α := fun env => (c env).bind fun b => if b = true then f env else g env
theorem mv_if (hc : MT X J c fa) (ha : MV X J a f) (hb : MV X J b g) : MV X J (.IfExp c a b pos) (ifV fa f g) :=
  ⟨pe_imp (pe_ifExp hc.pt ha.pe hb.pe) fun σ H Q ⟨Hse, He, env, Hs, Hr, R, p⟩ => ⟨Hse, He, env, Hs, Hr, R, (Post.bind p).imp fun x Hs1 Hr1 H1 e1 p1 => by
    show if x = true then _ else _
    cases x with
    | true => exact ⟨Hse, He, env, Hs1, Hr1, R.ext e1, p1⟩
    | false => exact ⟨Hse, He, env, Hs1, Hr1, R.ext e1, p1⟩⟩⟩
end
end DL

namespace DL
open PySem PySem.Spec PyProof.Rows L2

/-! ### argument lists -/
def RepTs (G : Gx) (Hs Hr H : Hp) : List TV → List V → Prop
  | [], vs => vs = []
  | x :: r, vs => ∃ v w, vs = v :: w ∧ RepT G x.1 Hs Hr H v x.2 ∧ RepTs G Hs Hr H r w
theorem RepTs.ext {G : Gx} {Hs Hr H Hs' Hr' H' : Hp} (x : Ext Hs Hr H Hs' Hr' H') : ∀ {xs : List TV} {vs : List V}, RepTs G Hs Hr H xs vs → RepTs G Hs' Hr' H' xs vs
  | [], _, h => h
  | _ :: _, _, ⟨v, w, e, a, b⟩ => ⟨v, w, e, a.ext x, RepTs.ext x b⟩
def SA (J : Jx) (Q : List V → Hp → Prop) : List TV → Hp → Hp → Hp → Prop := fun xs Hs' Hr' H' => ∀ vs, RepTs J.toGx Hs' Hr' H' xs vs → Q vs H'
structure MA (X : Cx) (J : Jx) (es : List Expr) (F : Env → Res (List TV)) : Prop where
  pa : PA X es (fun σ H Q => Now J σ H F (SA J Q))
  len : ∀ env xs, F env = .ok xs → xs.length = es.length
def thenK {α β : Type} (F : Env → Res α) (k : α → Res β) : Env → Res β := fun env => (F env).bind k
def argN : Env → Res (List TV) := fun _ => .ok []
def argC (f : Env → Res TV) (F : Env → Res (List TV)) : Env → Res (List TV) := fun env => (f env).bind fun x => (F env).bind fun xs => .ok (x :: xs)
theorem argN_len {env : Env} {xs : List TV} (h : argN env = .ok xs) : xs.length = 0 := by cases h; rfl
theorem argC_len {f : Env → Res TV} {F : Env → Res (List TV)} {n : Nat} (hF : ∀ env xs, F env = .ok xs → xs.length = n) : ∀ env xs, argC f F env = .ok xs → xs.length = n + 1 := fun env xs h => by
  unfold argC at h
  cases q : f env with
  | ok x =>
    rw [q] at h
    cases q2 : F env with
    | ok ys =>
      rw [show ((Res.ok x).bind fun x => (F env).bind fun xs => Res.ok (x :: xs)) = (F env).bind fun xs => Res.ok (x :: xs) from rfl, q2] at h
      cases h
      rw [List.length_cons, hF env ys q2]
    | _ => rw [show ((Res.ok x).bind fun x => (F env).bind fun xs => Res.ok (x :: xs)) = (F env).bind fun xs => Res.ok (x :: xs) from rfl, q2] at h; cases h
  | _ => rw [q] at h; cases h
section
variable {X : Cx} {J : Jx} {a b c e : Expr} {es : List Expr} {pos p : Pos} {f g h : Env → Res TV} {F : Env → Res (List TV)}
theorem ma_nil : MA X J [] argN := ⟨pa_imp pa_nil fun σ H Q ⟨_, _, _, _, _, R, p⟩ => Post.now R.ok p [] rfl, fun _ _ h => argN_len h⟩
theorem ma_cons (ha : MV X J e f) (hr : MA X J es F) (hs : starEach (e :: es) X.env = (false, eval e X.env) :: starEach es X.env := by rfl) : MA X J (e :: es) (argC f F) :=
  ⟨pa_imp (pa_cons ha.pe hr.pa hs) fun σ H Q ⟨Hse, He, env, Hs, Hr, R, p⟩ => ⟨Hse, He, env, Hs, Hr, R, (Post.bind p).imp fun x Hs1 Hr1 H1 e1 p1 v rv =>
    ⟨Hse, He, env, Hs1, Hr1, R.ext e1, (Post.bind p1).imp fun xs Hs2 Hr2 H2 e2 p2 vs rvs => Post.now e2.ok p2 _ ⟨v, vs, rfl, rv.ext e2, rvs⟩⟩⟩, argC_len hr.len⟩
/-- one after the other, then the value -/
theorem runA {α : Type} {S : Hp → α → Hp → Hp → Hp → Prop} (m : Wish S) {k : List TV → Res α} {R : List V → Hp → Prop} {σ : St} {H : Hp} (n : Now J σ H (fun env => (F env).bind k) (S H))
    (hk : ∀ vs H1 Hse He env Hs Hr xs, Same H H1 → Rel J Hse He env σ Hs Hr H1 → RepTs J.toGx Hs Hr H1 xs vs → Post J σ Hs Hr H1 (k xs) (S H1) → R vs H1) : Now J σ H F (SA J R) := by
  obtain ⟨Hse, He, env, Hs, Hr, r, p⟩ := n
  exact ⟨Hse, He, env, Hs, Hr, r, (Post.bind p).imp fun x Hs1 Hr1 H1 e1 p1 v rv => hk v H1 Hse He env Hs1 Hr1 x e1.h (r.ext e1) rv (p1.imp fun a _ _ _ _ z => m _ _ e1.h _ _ _ _ z)⟩

/-! ### displays -/
theorem shVs_reps {G : Gx} {Hs Hr H : Hp} (k : HpOk Hs Hr H) : ∀ {xs : List TV} {vs : List V}, RepTs G Hs Hr H xs vs → xs.all shV = true → Reps G Hs vs (xs.map (·.2))
  | [], _, h, _ => by cases (show _ = [] from h); exact .nil
  | x :: r, _, ⟨v, w, e, a, b⟩, i => by
    rw [List.all_cons, Bool.and_eq_true] at i
    subst e
    exact .cons (a.shV k i.1) (shVs_reps k b i.2)
theorem repTs_len {G : Gx} {Hs Hr H : Hp} : ∀ {xs : List TV} {vs : List V}, RepTs G Hs Hr H xs vs → vs.length = xs.length
  | [], _, h => by cases (show _ = [] from h); rfl
  | x :: r, _, ⟨v, w, e, a, b⟩ => by subst e; exact congrArg (· + 1) (repTs_len b)
theorem repTs_h {G : Gx} {Hs Hr H : Hp} (k : HpOk Hs Hr H) : ∀ {xs : List TV} {vs : List V}, RepTs G Hs Hr H xs vs → Reps G H vs (xs.map (·.2))
  | [], _, h => by cases (show _ = [] from h); exact .nil
  | x :: r, _, ⟨v, w, e, a, b⟩ => by subst e; exact .cons (a.h k) (repTs_h k b)
def shR (x : TV) : Bool := shV x || (match x.1 with | .r => true | _ => false)
theorem repTs_r {G : Gx} {Hs Hr H : Hp} (k : HpOk Hs Hr H) : ∀ {xs : List TV} {vs : List V}, RepTs G Hs Hr H xs vs → xs.all shR = true → Reps G Hr vs (xs.map (·.2))
  | [], _, h, _ => by cases (show _ = [] from h); exact .nil
  | x :: r, _, ⟨v, w, e, a, b⟩, i => by
    rw [List.all_cons, Bool.and_eq_true] at i
    subst e
    refine .cons ?_ (repTs_r k b i.2)
    have i1 := i.1
    unfold shR at i1
    rw [Bool.or_eq_true] at i1
    rcases i1 with i1 | i1
    · exact (a.shV k i1).mono k.sr
    · obtain ⟨t, d⟩ := x
      cases t <;> first | exact a | (simp at i1)
def tagA (xs : List TV) : Tg := if xs.all shV = true then .s else if xs.all shR = true then .r else .h
def kLst (xs : List TV) : Res EV := if xs.all shV = true ∧ xs.length ≤ 16777216 then .ok (.own (xs.map (·.2))) else .bad
def kTup (xs : List TV) : Res TV := if xs.length ≤ 16777216 then .ok (tagA xs, .tup (xs.map (·.2))) else .bad
theorem me_lst (ha : MA X J es F) : ME X J (.List es pos) (thenK F kLst) := ⟨pe_imp (pe_lst ha.pa) fun σ H Q n => runA (wishE (J := J) (Q := Q)) n fun vs H1 _ _ _ Hs Hr xs _ R rv p => by
  unfold kLst at p
  split at p
  · rename_i h
    refine ⟨by rw [sizeLine_eq, repTs_len rv]; exact h.2, fun q hq => ?_⟩
    exact p _ _ _ (Ext.new0 R.ok hq fun xs z => by cases z) q _ upd_same (R.ok.none_r hq) hq (shVs_reps R.ok rv h.1)
  · exact (show False from p).elim⟩
theorem tup_new {σ : St} {Hs Hr H : Hp} {Q : VK} {xs : List TV} {vs : List V} (k : HpOk Hs Hr H) (rv : RepTs J.toGx Hs Hr H xs vs) (p : Post J σ Hs Hr H (kTup xs) (SV J Q)) {q : Addr} (hq : H q = none) : vs.length ≤ sizeLine ∧ Q (.ref q) (upd H q (.tup vs)) := by
  unfold kTup at p
  split at p
  · rename_i h
    refine ⟨by rw [sizeLine_eq, repTs_len rv]; exact h, ?_⟩
    have x := Ext.new (o := .tup vs) k hq
    refine p _ _ _ x _ ?_
    show RepT J.toGx (tagA xs) _ _ _ _ (.tup _)
    unfold tagA
    split
    · rename_i i
      exact .tup upd_same ((shVs_reps k rv i).mono x.s)
    · split
      · rename_i i
        exact .tup upd_same ((repTs_r k rv i).mono x.r)
      · exact .tup upd_same ((repTs_h k rv).mono x.h)
  · exact (show False from p).elim
theorem mv_tup {x1} (ha : MA X J es F) : MV X J (.Tuple es x1 pos) (thenK F kTup) := ⟨pe_imp (pe_tup ha.pa) fun σ H Q n => runA (wishV (J := J) (Q := Q)) n fun vs H1 _ _ _ Hs Hr xs _ R rv p => by
  refine ⟨?_, fun q hq => (tup_new R.ok rv p hq).2⟩
  unfold kTup at p
  split at p
  · rename_i h
    rw [sizeLine_eq, repTs_len rv]; exact h
  · exact (show False from p).elim⟩

/-! ### subscripts -/
theorem atI_reps {G : Gx} {t : Tg} {Hs Hr H : Hp} {vs : List V} {ds : List D} (k : HpOk Hs Hr H) (r : RepsT G (itT t) Hs Hr H vs ds) {i : Int} {d : D} (h : atI ds i = some d) : ∃ v, atI vs i = some v ∧ RepT G (itT t) Hs Hr H v d := by
  have hl : vs.length = ds.length := (r.h k).length
  unfold atI at h ⊢
  rw [hl]
  cases q : ixN ds.length i with
  | none => rw [q] at h; cases h
  | some j =>
    rw [q] at h
    obtain ⟨u, h1, h2⟩ := r.get (show ds[j]? = some d from h)
    exact ⟨u, h1, h2⟩
theorem atI_map {α β : Type} (g : α → β) (xs : List α) (i : Int) : atI (xs.map g) i = (atI xs i).map g := by
  unfold atI
  rw [List.length_map]
  cases ixN xs.length i with
  | none => rfl
  | some j => simp
def kIx (x y : TV) : Res TV := match x.2, y.2 with
  | .lst xs, .int i => match atI xs i with | some d => .ok (itT x.1, d) | none => .bad
  | .tup xs, .int i => match atI xs i with | some d => .ok (itT x.1, d) | none => .bad
  | .scr ns, .int i => match atI ns i with | some n => oki n | none => .bad
  | .str z, .int i => if z.length ≤ 16777216 then (match atI z.cps.toList i with | some c => .ok (.s, .str ⟨#[c]⟩) | none => .bad) else .bad
  | _, _ => .bad
theorem mv_ix (B : Bas X J) (ha : MV X J a f) (hb : MV X J b g) (hs : PlainIx b := by exact fun _ _ => rfl) : MV X J (.Subscript a b pos) (bin2 f g kIx) := ⟨pe_imp (pe_ix ix_seq ha.pe hb.pe hs) fun σ H Q n => run2 (wishV (J := J) (Q := Q)) n fun v w H1 _ _ _ Hs Hr x y _ R rv rw p => by
  obtain ⟨t, d⟩ := x
  obtain ⟨u, e⟩ := y
  have k := R.ok
  unfold kIx at p
  split at p
  · rename_i xs i q1 q2
    dsimp only at q1 q2
    subst q1 q2
    obtain ⟨q, vs, rfl, h1, r1⟩ := rv.lstT k
    cases hi : atI xs i with
    | none => rw [hi] at p; exact (show False from p).elim
    | some d =>
      rw [hi] at p
      obtain ⟨z, h2, r2⟩ := atI_reps k r1 hi
      exact .inl ⟨q, vs, i, z, rfl, rw.isInt k, .inl (.inl h1), h2, Post.now k p _ r2⟩
  · rename_i xs i q1 q2
    dsimp only at q1 q2
    subst q1 q2
    obtain ⟨q, vs, rfl, h1, r1⟩ := rv.tupT k
    cases hi : atI xs i with
    | none => rw [hi] at p; exact (show False from p).elim
    | some d =>
      rw [hi] at p
      obtain ⟨z, h2, r2⟩ := atI_reps k r1 hi
      exact .inr (.inl ⟨q, vs, i, z, rfl, rw.isInt k, .inl (.inl h1), h2, Post.now k p _ r2⟩)
  · rename_i ns i q1 q2
    dsimp only at q1 q2
    subst q1 q2
    cases hi : atI ns i with
    | none => rw [hi] at p; exact (show False from p).elim
    | some n =>
      rw [hi] at p
      cases rv.h k with
      | @scr a _ h1 =>
        refine .inl ⟨a, _, i, .int n, rfl, rw.isInt k, by rw [B.K]; exact h1, ?_, Post.nowI k p⟩
        rw [atI_map, hi] <;> rfl
  · rename_i z i q1 q2
    dsimp only at q1 q2
    subst q1 q2
    split at p
    · rename_i hz
      cases hi : atI z.cps.toList i with
      | none => rw [hi] at p; exact (show False from p).elim
      | some c =>
        rw [hi] at p
        exact .inr (.inr ⟨z, i, c, rv.isStr k, rw.isInt k, by rw [sizeLine_eq]; exact hz, hi, Post.now k p _ (.str _)⟩)
    · exact (show False from p).elim
  · exact (show False from p).elim⟩
def cutL {α : Type} (xs : List α) (lo hi : Option Int) : List α := (xs.drop (HT.sIx xs.length 0 lo)).take (HT.sIx xs.length xs.length hi - HT.sIx xs.length 0 lo)
theorem cutV_eq (xs : List V) (lo hi : Option Int) : cutV xs lo hi = cutL xs lo hi := rfl
theorem cutL_len {α : Type} (xs : List α) (lo hi : Option Int) : (cutL xs lo hi).length ≤ xs.length := by
  unfold cutL
  rw [List.length_take, List.length_drop]
  omega
theorem Reps.cut {G : Gx} {H : Hp} {vs : List V} {ds : List D} (r : Reps G H vs ds) (lo hi : Option Int) : Reps G H (cutL vs lo hi) (cutL ds lo hi) := by
  unfold cutL
  rw [r.length]
  exact (r.drop _).take _
theorem cutL_map {α β : Type} (g : α → β) (xs : List α) (lo hi : Option Int) : cutL (xs.map g) lo hi = (cutL xs lo hi).map g := by
  unfold cutL
  rw [List.length_map, ← List.map_drop, ← List.map_take]
def SO (J : Jx) (Q : Option Int → Hp → Prop) : Option Int → Hp → Hp → Hp → Prop := fun o _ _ H' => Q o H'
structure MO (X : Cx) (J : Jx) (e : Option Expr) (F : Env → Res (Option Int)) : Prop where
  po : PO X e (fun σ H Q => Now J σ H F (SO J Q))
theorem po_imp {e : Option Expr} {t t' : TO} (h : PO X e t) (i : ∀ σ H Q, t' σ H Q → t σ H Q) : PO X e t' := ⟨fun pins s σ H Q I q => h.run pins s σ H Q I (i σ H Q q)⟩
def partN : Env → Res (Option Int) := fun _ => .ok none
def asPart (x : TV) : Res (Option Int) := match x.2 with | .int i => .ok (some i) | _ => .bad
theorem mo_none : MO X J none partN := ⟨po_imp po_none fun σ H Q ⟨_, _, _, _, _, R, p⟩ => Post.now (a := none) R.ok p⟩
theorem mo_some (ha : MV X J e f) : MO X J (some e) (bin1 f asPart) := ⟨po_imp (po_some ha.pe) fun σ H Q ⟨Hse, He, env, Hs, Hr, R, p⟩ => ⟨Hse, He, env, Hs, Hr, R, (Post.bind p).imp fun x Hs1 Hr1 H1 e1 p1 v rv => by
  obtain ⟨t, d⟩ := x
  unfold asPart at p1
  split at p1
  · rename_i i q
    dsimp only at q
    subst q
    exact ⟨i, rv.isInt e1.ok, Post.now (a := some i) e1.ok p1⟩
  · exact (show False from p1).elim⟩⟩
def kSl (x : TV) (lo hi : Option Int) : Res EV := match x.2 with
  | .lst xs => if shI x = true then .ok (.own (cutL xs lo hi)) else .bad
  | .scr ns => .ok (.own ((cutL ns lo hi).map D.int))
  | .tup xs => .ok (.val (itT x.1) (.tup (cutL xs lo hi)))
  | _ => .bad
def slice (f : Env → Res TV) (l u : Env → Res (Option Int)) : Env → Res EV := fun env => (f env).bind fun x => (l env).bind fun lo => (u env).bind fun hi => kSl x lo hi
theorem reps_ints {G : Gx} {H : Hp} : ∀ (ns : List Int), Reps G H (ns.map V.int) (ns.map D.int)
  | [] => .nil
  | n :: r => .cons (.int n) (reps_ints r)
theorem cut_whole {α : Type} {xs : List α} {lo hi : Option Int} (h : HT.sIx xs.length 0 lo = 0 ∧ HT.sIx xs.length xs.length hi = xs.length) : cutL xs lo hi = xs := by
  unfold cutL
  rw [h.1, h.2, List.drop_zero, Nat.sub_zero, List.take_length]
theorem me_slice {lo hi : Option Expr} {L U : Env → Res (Option Int)} {p2 : Pos} (B : Bas X J) (ha : MV X J e f) (hl : MO X J lo L) (hu : MO X J hi U) : ME X J (.Subscript e (.Slice lo hi none p2) pos) (slice f L U) :=
  ⟨pe_imp (pe_slice (sl_list.or sl_tupA) ha.pe hl.po hu.po) fun σ H Q ⟨Hse, He, env, Hs, Hr, R, p⟩ => ⟨Hse, He, env, Hs, Hr, R, (Post.bind p).imp fun x Hs1 Hr1 H1 e1 p1 v rv =>
    ⟨Hse, He, env, Hs1, Hr1, R.ext e1, (Post.bind p1).imp fun l Hs2 Hr2 H2 e2 p2 => ⟨Hse, He, env, Hs2, Hr2, R.ext (e1.trans e2), (Post.bind p2).imp fun u Hs3 Hr3 H3 e3 p3 => by
      have k := e3.ok
      have rv := rv.ext (e2.trans e3)
      have sm := (e1.h.trans e2.h).trans e3.h
      obtain ⟨t, d⟩ := x
      unfold kSl at p3
      split at p3
      · rename_i xs q
        dsimp only at q
        subst q
        split at p3
        · rename_i hsh
          obtain ⟨q, vs, rfl, h1, r1⟩ := rv.shI k hsh
          refine .inl ⟨q, vs, rfl, .inl (.inl h1), fun r hr => ?_⟩
          exact p3 _ _ _ (Ext.new0 k hr fun xs z => by cases z) r _ upd_same (k.none_r hr) (sm.free hr) (r1.cut _ _)
        · exact (show False from p3).elim
      · rename_i ns q
        dsimp only at q
        subst q
        cases rv.h k with
        | @scr a _ h1 =>
          refine .inl ⟨a, _, rfl, by rw [B.K]; exact h1, fun r hr => ?_⟩
          refine p3 _ _ _ (Ext.new0 k hr fun xs z => by cases z) r _ upd_same (k.none_r hr) (sm.free hr) ?_
          rw [cutV_eq, cutL_map]
          exact reps_ints _
      · rename_i xs q
        dsimp only at q
        subst q
        obtain ⟨q, vs, rfl, h1, r1⟩ := rv.tupT k
        have hlen := (r1.h k).length
        refine .inr ⟨q, vs, rfl, .inl (.inl h1), fun hw => ?_, fun hw r hr => ?_⟩
        · rw [hlen] at hw
          rw [cut_whole hw] at p3
          refine Post.now k p3 _ ?_
          cases t with
          | s => exact rv
          | r => exact rv
          | h => exact rv
          | o => exact rv.elim
          | n t => exact RepT.h k rv
        · have x := Ext.new (o := .tup (cutV vs l u)) k hr
          refine p3 _ _ _ x _ ?_
          cases t with
          | s => exact .tup upd_same ((Reps.cut (H := Hs3) r1 _ _).mono x.s)
          | r => exact .tup upd_same ((Reps.cut (H := Hr3) r1 _ _).mono x.r)
          | h => exact .tup upd_same ((Reps.cut (H := H3) r1 _ _).mono x.h)
          | o => exact rv.elim
          | n t => exact .tup upd_same ((Reps.cut (H := H3) r1 _ _).mono x.h)
      · exact (show False from p3).elim⟩⟩⟩⟩
def kRev (x : TV) : Res EV := match x.2 with
  | .lst xs => if shI x = true then .ok (.own xs.reverse) else .bad
  | _ => .bad
theorem me_revL {k : Nat} {p1 p2 p3 : Pos} (ha : MV X J e f) : ME X J (.Subscript e (.Slice none none (some (.UnaryOp .USub (.Constant (.int 1) k p1) p2)) p3) pos) (bin1 f kRev) :=
  ⟨pe_imp (pe_revL ha.pe) fun σ H Q n => run1 (wishE (J := J) (Q := Q)) n fun v H1 _ _ _ Hs Hr x _ R rv p => by
    obtain ⟨t, d⟩ := x
    unfold kRev at p
    split at p
    · rename_i xs q
      dsimp only at q
      subst q
      split at p
      · rename_i hsh
        obtain ⟨q, vs, rfl, h1, r1⟩ := rv.shI R.ok hsh
        exact ⟨q, vs, rfl, .inl (.inl h1), fun r hr => p _ _ _ (Ext.new0 R.ok hr fun xs z => by cases z) r _ upd_same (R.ok.none_r hr) hr r1.reverse⟩
      · exact (show False from p).elim
    · exact (show False from p).elim⟩

/-! ### built-ins -/
theorem mv_bi {x : Str} {id : String} {r : List V → Hp → VK → Prop} {k : List TV → Res TV} (hc : CallR X (.builtin id) r)
    (hk : ∀ σ Hs Hr H xs vs Q, HpOk Hs Hr H → RepTs J.toGx Hs Hr H xs vs → Post J σ Hs Hr H (k xs) (SV J Q) → r vs H Q) (hm : X.mg x = none) (ha : MA X J (e :: es) F) (hg : Gl X x) (hv : bootBuiltins x = some (.builtin id)) (hn : x ≠ "__name__" := by decide)
    (hdb : (x == ("__debug__" : Str)) = false := by decide) (he : starEach (e :: es) X.env = (false, eval e X.env) :: starEach es X.env := by rfl) (hpl : (backTo pos (starEach es X.env)).any (·.1) = false := by rfl) :
    MV X J (.Call (.Name x p) (e :: es) [] pos) (thenK F k) :=
  ⟨pe_imp (pe_callB hc hg hm hv ha.pa hn hdb he hpl) fun σ H Q n => runA (wishV (J := J) (Q := Q)) n fun vs H1 _ _ _ Hs Hr xs _ R rv p => hk σ Hs Hr H1 xs vs Q R.ok rv p⟩
theorem me_bi {x : Str} {id : String} {r : List V → Hp → VK → Prop} {k : List TV → Res EV} (hc : CallR X (.builtin id) r)
    (hk : ∀ σ Hs Hr H xs vs Q, HpOk Hs Hr H → RepTs J.toGx Hs Hr H xs vs → Post J σ Hs Hr H (k xs) (SE J H Q) → r vs H Q) (hm : X.mg x = none) (ha : MA X J (e :: es) F) (hg : Gl X x) (hv : bootBuiltins x = some (.builtin id)) (hn : x ≠ "__name__" := by decide)
    (hdb : (x == ("__debug__" : Str)) = false := by decide) (he : starEach (e :: es) X.env = (false, eval e X.env) :: starEach es X.env := by rfl) (hpl : (backTo pos (starEach es X.env)).any (·.1) = false := by rfl) :
    ME X J (.Call (.Name x p) (e :: es) [] pos) (thenK F k) :=
  ⟨pe_imp (pe_callB hc hg hm hv ha.pa hn hdb he hpl) fun σ H Q n => runA (wishE (J := J) (Q := Q)) n fun vs H1 _ _ _ Hs Hr xs _ R rv p => hk σ Hs Hr H1 xs vs Q R.ok rv p⟩
theorem mv_ty {x : Str} {id : String} {r : List V → Hp → VK → Prop} {k : List TV → Res TV} (hc : CallR X (.type id) r)
    (hk : ∀ σ Hs Hr H xs vs Q, HpOk Hs Hr H → RepTs J.toGx Hs Hr H xs vs → Post J σ Hs Hr H (k xs) (SV J Q) → r vs H Q) (hm : X.mg x = none) (ha : MA X J (e :: es) F) (hg : Gl X x) (hv : bootBuiltins x = some (.type id)) (hn : x ≠ "__name__" := by decide)
    (hdb : (x == ("__debug__" : Str)) = false := by decide) (he : starEach (e :: es) X.env = (false, eval e X.env) :: starEach es X.env := by rfl) (hpl : (backTo pos (starEach es X.env)).any (·.1) = false := by rfl) :
    MV X J (.Call (.Name x p) (e :: es) [] pos) (thenK F k) :=
  ⟨pe_imp (pe_callTy hc hg hm hv ha.pa hn hdb he hpl) fun σ H Q n => runA (wishV (J := J) (Q := Q)) n fun vs H1 _ _ _ Hs Hr xs _ R rv p => hk σ Hs Hr H1 xs vs Q R.ok rv p⟩
theorem me_ty {x : Str} {id : String} {r : List V → Hp → VK → Prop} {k : List TV → Res EV} (hc : CallR X (.type id) r)
    (hk : ∀ σ Hs Hr H xs vs Q, HpOk Hs Hr H → RepTs J.toGx Hs Hr H xs vs → Post J σ Hs Hr H (k xs) (SE J H Q) → r vs H Q) (hm : X.mg x = none) (ha : MA X J (e :: es) F) (hg : Gl X x) (hv : bootBuiltins x = some (.type id)) (hn : x ≠ "__name__" := by decide)
    (hdb : (x == ("__debug__" : Str)) = false := by decide) (he : starEach (e :: es) X.env = (false, eval e X.env) :: starEach es X.env := by rfl) (hpl : (backTo pos (starEach es X.env)).any (·.1) = false := by rfl) :
    ME X J (.Call (.Name x p) (e :: es) [] pos) (thenK F k) :=
  ⟨pe_imp (pe_callTy hc hg hm hv ha.pa hn hdb he hpl) fun σ H Q n => runA (wishE (J := J) (Q := Q)) n fun vs H1 _ _ _ Hs Hr xs _ R rv p => hk σ Hs Hr H1 xs vs Q R.ok rv p⟩
theorem RepTs.one {G : Gx} {Hs Hr H : Hp} {x : TV} {vs : List V} (r : RepTs G Hs Hr H [x] vs) : ∃ v, vs = [v] ∧ RepT G x.1 Hs Hr H v x.2 := by
  obtain ⟨v, w, e, a, b⟩ := r
  cases (show w = [] from b)
  exact ⟨v, e, a⟩
theorem RepTs.two {G : Gx} {Hs Hr H : Hp} {x y : TV} {vs : List V} (r : RepTs G Hs Hr H [x, y] vs) : ∃ v w, vs = [v, w] ∧ RepT G x.1 Hs Hr H v x.2 ∧ RepT G y.1 Hs Hr H w y.2 := by
  obtain ⟨v, w, e, a, b⟩ := r
  obtain ⟨u, rfl, q⟩ := RepTs.one b
  exact ⟨v, u, e, a, q⟩
/-! len -/
def kLen (xs : List TV) : Res TV := match xs with
  | [(_, .lst ys)] => oki ys.length
  | [(_, .tup ys)] => oki ys.length
  | [(_, .scr ns)] => oki ns.length
  | [(_, .str z)] => if z.length ≤ 16777216 then oki z.length else .bad
  | _ => .bad
theorem mv_len (B : Bas X J) (hm : X.mg "len" = none) (ha : MA X J (e :: es) F) (hg : Gl X "len" := by rfl) (he : starEach (e :: es) X.env = (false, eval e X.env) :: starEach es X.env := by rfl) (hpl : (backTo pos (starEach es X.env)).any (·.1) = false := by rfl) :
    MV X J (.Call (.Name "len" p) (e :: es) [] pos) (thenK F kLen) := by
  refine mv_bi call_len (fun σ Hs Hr H xs vs Q k rv p => ?_) hm ha hg PySem.boot_len (by decide) (by decide) he hpl
  unfold kLen at p
  split at p
  · obtain ⟨v, rfl, r⟩ := rv.one
    obtain ⟨q, ws, rfl, h1, r1⟩ := r.isLst k
    rw [← r1.length] at p
    exact ⟨_, ws.length, rfl, .inl ⟨ws, .inl (.inl h1), rfl⟩, Post.nowI k p⟩
  · obtain ⟨v, rfl, r⟩ := rv.one
    obtain ⟨q, ws, rfl, h1, r1⟩ := r.isTup k
    rw [← r1.length] at p
    exact ⟨_, ws.length, rfl, .inr ⟨ws, .inl (.inl h1), rfl⟩, Post.nowI k p⟩
  · obtain ⟨v, rfl, r⟩ := rv.one
    cases r.h k with
    | @scr a _ h1 => exact ⟨_, _, rfl, .inl ⟨_, by rw [B.K]; exact h1, by rw [List.length_map]⟩, Post.nowI k p⟩
  · rename_i z
    obtain ⟨v, rfl, r⟩ := rv.one
    split at p
    · rename_i hz
      cases r.isStr k
      exact ⟨_, _, rfl, ⟨by rw [sizeLine_eq]; exact hz, rfl⟩, Post.nowI k p⟩
    · exact (show False from p).elim
  · exact (show False from p).elim
def kAbs (xs : List TV) : Res TV := match xs with
  | [(_, .int i)] => oki (if i < 0 then -i else i)
  | _ => .bad
theorem mv_abs (hm : X.mg "abs" = none) (ha : MA X J (e :: es) F) (hg : Gl X "abs" := by rfl) (he : starEach (e :: es) X.env = (false, eval e X.env) :: starEach es X.env := by rfl) (hpl : (backTo pos (starEach es X.env)).any (·.1) = false := by rfl) :
    MV X J (.Call (.Name "abs" p) (e :: es) [] pos) (thenK F kAbs) := by
  refine mv_bi call_abs (fun σ Hs Hr H xs vs Q k rv p => ?_) hm ha hg PyProof.Rows.boot_abs (by decide) (by decide) he hpl
  unfold kAbs at p
  split at p
  · obtain ⟨v, rfl, r⟩ := rv.one
    cases r.isInt k
    exact ⟨_, rfl, Post.nowI k p⟩
  · exact (show False from p).elim
def intsOf : List D → Option (List Int)
  | [] => some []
  | .int i :: r => (intsOf r).map (i :: ·)
  | _ :: _ => none
theorem ints_reps {G : Gx} {H : Hp} : ∀ {vs : List V} {ds : List D} {ns : List Int}, Reps G H vs ds → intsOf ds = some ns → vs = ns.map V.int
  | _, _, _, .nil, h => by cases h; rfl
  | _, _, _, .cons a r, h => by
    cases a with
    | int i =>
      rename_i ds
      rw [intsOf] at h
      cases q : intsOf ds with
      | none => rw [q] at h; cases h
      | some ms =>
        rw [q] at h
        cases h
        rw [ints_reps r q] <;> rfl
    | _ => cases h
theorem intsOf_map : ∀ (ns : List Int), intsOf (ns.map D.int) = some ns
  | [] => rfl
  | n :: r => by
    show (intsOf (r.map D.int)).map (n :: ·) = _
    rw [intsOf_map r] <;> rfl
def kSum (xs : List TV) : Res TV := match xs with
  | [(_, .lst ys)] => match intsOf ys with | some ns => oki ns.sum | none => .bad
  | _ => .bad
theorem mv_sum {n : Nat} (g : Good X J n) (hm : X.mg "sum" = none) (ha : MA X J (e :: es) F) (hg : Gl X "sum" := by rfl) (he : starEach (e :: es) X.env = (false, eval e X.env) :: starEach es X.env := by rfl) (hpl : (backTo pos (starEach es X.env)).any (·.1) = false := by rfl) :
    MV X J (.Call (.Name "sum" p) (e :: es) [] pos) (thenK F kSum) := by
  refine mv_bi (cr_sum g.calm) (fun σ Hs Hr H xs vs Q k rv p => ?_) hm ha hg PyProof.Rows.boot_sum (by decide) (by decide) he hpl
  unfold kSum at p
  split at p
  · rename_i ys
    obtain ⟨v, rfl, r⟩ := rv.one
    obtain ⟨q, ws, rfl, h1, r1⟩ := r.isLst k
    cases hn : intsOf ys with
    | none => rw [hn] at p; exact (show False from p).elim
    | some ns =>
      rw [hn] at p
      rw [ints_reps r1 hn] at h1
      exact ⟨q, ns, rfl, .inl (.inl h1), Post.nowI k p⟩
  · exact (show False from p).elim
def maxI : List Int → Int
  | [] => 0
  | [n] => n
  | n :: r => max n (maxI r)
def minI : List Int → Int
  | [] => 0
  | [n] => n
  | n :: r => min n (minI r)
theorem maxI_mem : ∀ {ns : List Int}, ns ≠ [] → maxI ns ∈ ns ∧ ∀ y ∈ ns, y ≤ maxI ns
  | [], h => absurd rfl h
  | [n], _ => by simp [maxI]
  | n :: m :: r, _ => by
    have q := maxI_mem (ns := m :: r) (by simp)
    show max n (maxI (m :: r)) ∈ _ ∧ _
    refine ⟨?_, fun y hy => ?_⟩
    · by_cases c : n ≤ maxI (m :: r)
      · rw [Int.max_eq_right c]; exact List.mem_cons_of_mem _ q.1
      · rw [Int.max_eq_left (by omega)]; exact List.mem_cons_self
    · show y ≤ max n (maxI (m :: r))
      rcases List.mem_cons.mp hy with rfl | hy
      · exact Int.le_max_left _ _
      · exact Int.le_trans (q.2 y hy) (Int.le_max_right _ _)
theorem minI_mem : ∀ {ns : List Int}, ns ≠ [] → minI ns ∈ ns ∧ ∀ y ∈ ns, minI ns ≤ y
  | [], h => absurd rfl h
  | [n], _ => by simp [minI]
  | n :: m :: r, _ => by
    have q := minI_mem (ns := m :: r) (by simp)
    show min n (minI (m :: r)) ∈ _ ∧ _
    refine ⟨?_, fun y hy => ?_⟩
    · by_cases c : n ≤ minI (m :: r)
      · rw [Int.min_eq_left c]; exact List.mem_cons_self
      · rw [Int.min_eq_right (by omega)]; exact List.mem_cons_of_mem _ q.1
    · show min n (minI (m :: r)) ≤ y
      rcases List.mem_cons.mp hy with rfl | hy
      · exact Int.min_le_left _ _
      · exact Int.le_trans (Int.min_le_right _ _) (q.2 y hy)
theorem max_one {ns : List Int} {m : Int} (h : m ∈ ns) (h2 : ∀ y ∈ ns, y ≤ m) : m = maxI ns := by
  have q := maxI_mem (ns := ns) (fun z => by subst z; cases h)
  have a := h2 _ q.1
  have b := q.2 _ h
  omega
theorem min_one {ns : List Int} {m : Int} (h : m ∈ ns) (h2 : ∀ y ∈ ns, m ≤ y) : m = minI ns := by
  have q := minI_mem (ns := ns) (fun z => by subst z; cases h)
  have a := h2 _ q.1
  have b := q.2 _ h
  omega
def kMax (xs : List TV) : Res TV := match xs with
  | [(_, .lst ys)] => match intsOf ys with | some ns => if ns = [] then .bad else oki (maxI ns) | none => .bad
  | [(_, .int i), (_, .int j)] => oki (max i j)
  | _ => .bad
def kMin (xs : List TV) : Res TV := match xs with
  | [(_, .lst ys)] => match intsOf ys with | some ns => if ns = [] then .bad else oki (minI ns) | none => .bad
  | [(_, .int i), (_, .int j)] => oki (min i j)
  | _ => .bad
theorem mv_max {n : Nat} (g : Good X J n) (hm : X.mg "max" = none) (ha : MA X J (e :: es) F) (hg : Gl X "max" := by rfl) (he : starEach (e :: es) X.env = (false, eval e X.env) :: starEach es X.env := by rfl) (hpl : (backTo pos (starEach es X.env)).any (·.1) = false := by rfl) :
    MV X J (.Call (.Name "max" p) (e :: es) [] pos) (thenK F kMax) := by
  refine mv_bi ((cr_max g.calm).or (call_max2 g.calm)) (fun σ Hs Hr H xs vs Q k rv p => ?_) hm ha hg PyProof.Rows.boot_max (by decide) (by decide) he hpl
  unfold kMax at p
  split at p
  · rename_i ys
    obtain ⟨v, rfl, r⟩ := rv.one
    obtain ⟨q, ws, rfl, h1, r1⟩ := r.isLst k
    cases hn : intsOf ys with
    | none => rw [hn] at p; exact (show False from p).elim
    | some ns =>
      rw [hn] at p
      dsimp only at p
      split at p
      · exact (show False from p).elim
      · rename_i hne
        rw [ints_reps r1 hn] at h1
        exact .inl ⟨q, ns, rfl, .inl (.inl h1), List.length_pos_iff.mpr hne, fun m h1 h2 => by rw [max_one h1 h2]; exact Post.nowI k p⟩
  · rename_i _ i _ j
    obtain ⟨v, w, rfl, r, r'⟩ := rv.two
    cases r.isInt k
    cases r'.isInt k
    refine .inr ⟨i, j, rfl, ?_⟩
    have : (if j > i then j else i) = max i j := by split <;> omega
    rw [this]
    exact Post.nowI k p
  · exact (show False from p).elim
theorem mv_min {n : Nat} (g : Good X J n) (hm : X.mg "min" = none) (ha : MA X J (e :: es) F) (hg : Gl X "min" := by rfl) (he : starEach (e :: es) X.env = (false, eval e X.env) :: starEach es X.env := by rfl) (hpl : (backTo pos (starEach es X.env)).any (·.1) = false := by rfl) :
    MV X J (.Call (.Name "min" p) (e :: es) [] pos) (thenK F kMin) := by
  refine mv_bi ((cr_min g.calm).or (call_min2 g.calm)) (fun σ Hs Hr H xs vs Q k rv p => ?_) hm ha hg PyProof.Rows.boot_min (by decide) (by decide) he hpl
  unfold kMin at p
  split at p
  · rename_i ys
    obtain ⟨v, rfl, r⟩ := rv.one
    obtain ⟨q, ws, rfl, h1, r1⟩ := r.isLst k
    cases hn : intsOf ys with
    | none => rw [hn] at p; exact (show False from p).elim
    | some ns =>
      rw [hn] at p
      dsimp only at p
      split at p
      · exact (show False from p).elim
      · rename_i hne
        rw [ints_reps r1 hn] at h1
        exact .inl ⟨q, ns, rfl, .inl (.inl h1), List.length_pos_iff.mpr hne, fun m h1 h2 => by rw [min_one h1 h2]; exact Post.nowI k p⟩
  · rename_i _ i _ j
    obtain ⟨v, w, rfl, r, r'⟩ := rv.two
    cases r.isInt k
    cases r'.isInt k
    refine .inr ⟨i, j, rfl, ?_⟩
    have : (if j < i then j else i) = min i j := by split <;> omega
    rw [this]
    exact Post.nowI k p
  · exact (show False from p).elim
def kInt (xs : List TV) : Res TV := match xs with
  | [(_, .int i)] => oki i
  | [(_, .bl b)] => oki (if b then 1 else 0)
  | _ => .bad
theorem mv_toInt (hm : X.mg "int" = none) (ha : MA X J (e :: es) F) (hg : Gl X "int" := by rfl) (he : starEach (e :: es) X.env = (false, eval e X.env) :: starEach es X.env := by rfl) (hpl : (backTo pos (starEach es X.env)).any (·.1) = false := by rfl) :
    MV X J (.Call (.Name "int" p) (e :: es) [] pos) (thenK F kInt) := by
  refine mv_ty call_int1 (fun σ Hs Hr H xs vs Q k rv p => ?_) hm ha hg PyProof.Rows.boot_int (by decide) (by decide) he hpl
  unfold kInt at p
  split at p
  · obtain ⟨v, rfl, r⟩ := rv.one
    cases r.isInt k
    exact .inl ⟨_, rfl, Post.nowI k p⟩
  · obtain ⟨v, rfl, r⟩ := rv.one
    cases r.isBl k
    exact .inr ⟨_, rfl, Post.nowI k p⟩
  · exact (show False from p).elim
def kStr (xs : List TV) : Res TV := match xs with
  | [(_, .int i)] => if i.natAbs.log2 < 1920 then .ok (.s, .str (toString i)) else .bad
  | _ => .bad
theorem mv_toStr (hm : X.mg "str" = none) (ha : MA X J (e :: es) F) (hg : Gl X "str" := by rfl) (he : starEach (e :: es) X.env = (false, eval e X.env) :: starEach es X.env := by rfl) (hpl : (backTo pos (starEach es X.env)).any (·.1) = false := by rfl) :
    MV X J (.Call (.Name "str" p) (e :: es) [] pos) (thenK F kStr) := by
  refine mv_ty call_str_int (fun σ Hs Hr H xs vs Q k rv p => ?_) hm ha hg PyProof.Rows.boot_str (by decide) (by decide) he hpl
  unfold kStr at p
  split at p
  · obtain ⟨v, rfl, r⟩ := rv.one
    cases r.isInt k
    split at p
    · rename_i h
      exact ⟨_, rfl, h, Post.now k p _ (.str _)⟩
    · exact (show False from p).elim
  · exact (show False from p).elim
def kList (xs : List TV) : Res EV := match xs with
  | [(t, .lst ys)] => if shI (t, .lst ys) = true then .ok (.own ys) else .bad
  | [(t, .tup ys)] => if shI (t, .tup ys) = true then .ok (.own ys) else .bad
  | [(_, .scr ns)] => .ok (.own (ns.map D.int))
  | _ => .bad
theorem me_list (B : Bas X J) (hm : X.mg "list" = none) (ha : MA X J (e :: es) F) (hg : Gl X "list" := by rfl) (he : starEach (e :: es) X.env = (false, eval e X.env) :: starEach es X.env := by rfl) (hpl : (backTo pos (starEach es X.env)).any (·.1) = false := by rfl) :
    ME X J (.Call (.Name "list" p) (e :: es) [] pos) (thenK F kList) := by
  refine me_ty call_list_of (fun σ Hs Hr H xs vs Q k rv p => ?_) hm ha hg PyProof.Rows.boot_list (by decide) (by decide) he hpl
  unfold kList at p
  split at p
  · obtain ⟨v, rfl, r⟩ := rv.one
    split at p
    · rename_i hsh
      obtain ⟨q, ws, rfl, h1, r1⟩ := r.shI k hsh
      exact ⟨q, ws, rfl, .inl (.inl (.inl h1)), fun r hr => p _ _ _ (Ext.new0 k hr fun xs z => by cases z) r _ upd_same (k.none_r hr) hr r1⟩
    · exact (show False from p).elim
  · obtain ⟨v, rfl, r⟩ := rv.one
    split at p
    · rename_i hsh
      obtain ⟨q, ws, rfl, h1, r1⟩ := r.shIT k hsh
      exact ⟨q, ws, rfl, .inr (.inl (.inl h1)), fun r hr => p _ _ _ (Ext.new0 k hr fun xs z => by cases z) r _ upd_same (k.none_r hr) hr r1⟩
    · exact (show False from p).elim
  · obtain ⟨v, rfl, r⟩ := rv.one
    cases r.h k with
    | @scr a _ h1 => exact ⟨a, _, rfl, .inl (by rw [B.K]; exact h1), fun r hr => p _ _ _ (Ext.new0 k hr fun xs z => by cases z) r _ upd_same (k.none_r hr) hr (reps_ints _)⟩
  · exact (show False from p).elim
theorem itT_cases (t : Tg) : itT t = .s ∨ itT t = .r ∨ itT t = .h := by cases t <;> simp [itT]
def kTuple (xs : List TV) : Res TV := match xs with
  | [(t, .lst ys)] => .ok (itT t, .tup ys)
  | [(t, .tup ys)] => .ok (t, .tup ys)
  | _ => .bad
theorem mv_tuple (hm : X.mg "tuple" = none) (ha : MA X J (e :: es) F) (hg : Gl X "tuple" := by rfl) (he : starEach (e :: es) X.env = (false, eval e X.env) :: starEach es X.env := by rfl) (hpl : (backTo pos (starEach es X.env)).any (·.1) = false := by rfl) :
    MV X J (.Call (.Name "tuple" p) (e :: es) [] pos) (thenK F kTuple) := by
  refine mv_ty call_tuple_of (fun σ Hs Hr H xs vs Q k rv p => ?_) hm ha hg PyProof.Rows.boot_tuple (by decide) (by decide) he hpl
  unfold kTuple at p
  split at p
  · rename_i t ys
    obtain ⟨v, rfl, r⟩ := rv.one
    obtain ⟨q, ws, rfl, h1, r1⟩ := r.lstT k
    refine ⟨q, ws, rfl, .inl ⟨.inl (.inl h1), fun r hr => ?_⟩⟩
    have x := Ext.new (o := .tup ws) k hr
    refine p _ _ _ x _ (RepT.mkTup (itT_cases t) x.ok upd_same (r1.ext x))
  · obtain ⟨v, rfl, r⟩ := rv.one
    obtain ⟨q, ws, rfl, h1, r1⟩ := r.tupT k
    exact ⟨q, ws, rfl, .inr ⟨.inl (.inl h1), Post.now k p _ r⟩⟩
  · exact (show False from p).elim
def CDvW (i j : Int) : Prop := 0 < j ∧ j.natAbs.log2 < 9000
theorem call_divmodW : CallR X (.builtin "divmod") (fun xs H Q => ∃ i j, xs = [.int i, .int j] ∧ CDvW i j ∧ ∀ p, H p = none → Q (.ref p) (upd H p (.tup [.int (i / j), .int (i % j)]))) := by
  intro pins s σ H xs us Q I r h
  obtain ⟨i, j, rfl, ⟨h1, h2⟩, q⟩ := h
  obtain ⟨u, w', rfl, ⟨t, rfl⟩, ⟨t', rfl⟩⟩ := vals2 r
  refine divmod_int (by omega) ?_ (.inl (PyProof.noPylong_of_log2 h2))
  rw [Int.fdiv_eq_ediv_of_nonneg i (by omega), Int.fmod_eq_emod_of_nonneg i (by omega)]
  have hn : H s.heap.objs.size = none := I.hok.fresh (Nat.le_refl _)
  refine ⟨.ref s.heap.objs.size, _, ?_, rfl, q _ hn⟩
  refine I.laid (fun b o e => Heap.get?_push_of_some _ e) (Nat.le_refl _) ⟨by simp only [List.length_cons, List.length_nil]; rw [sizeLine_eq]; decide, [.int (i / j) s.toks, .int (i % j) (s.toks + 1)], .cons ⟨_, rfl⟩ (.cons ⟨_, rfl⟩ .nil), ?_⟩
  exact ⟨_, Heap.get?_push_size s.heap rfl, rfl, 0, rfl⟩
def kDivmod (xs : List TV) : Res TV := match xs with
  | [(_, .int i), (_, .int j)] => if 0 < j ∧ Sm j then .ok (.s, .tup [.int (i / j), .int (i % j)]) else .bad
  | _ => .bad
theorem mv_divmod (hm : X.mg "divmod" = none) (ha : MA X J (e :: es) F) (hg : Gl X "divmod" := by rfl) (he : starEach (e :: es) X.env = (false, eval e X.env) :: starEach es X.env := by rfl) (hpl : (backTo pos (starEach es X.env)).any (·.1) = false := by rfl) :
    MV X J (.Call (.Name "divmod" p) (e :: es) [] pos) (thenK F kDivmod) := by
  refine mv_bi call_divmodW (fun σ Hs Hr H xs vs Q k rv p => ?_) hm ha hg PyProof.Rows.boot_divmod (by decide) (by decide) he hpl
  unfold kDivmod at p
  split at p
  · obtain ⟨v, w, rfl, r, r'⟩ := rv.two
    cases r.isInt k
    cases r'.isInt k
    split at p
    · rename_i h
      refine ⟨_, _, rfl, ⟨h.1, Nat.lt_of_lt_of_le h.2.log (by decide)⟩, fun r hr => ?_⟩
      exact p _ _ _ (Ext.new k hr) _ (.tup upd_same (.cons (.int _) (.cons (.int _) .nil)))
    · exact (show False from p).elim
  · exact (show False from p).elim
def blsOf : List D → Option (List Bool)
  | [] => some []
  | .bl i :: r => (blsOf r).map (i :: ·)
  | _ :: _ => none
theorem bls_reps {G : Gx} {H : Hp} : ∀ {vs : List V} {ds : List D} {ns : List Bool}, Reps G H vs ds → blsOf ds = some ns → vs = ns.map V.bl
  | _, _, _, .nil, h => by cases h; rfl
  | _, _, _, .cons a r, h => by
    cases a with
    | bl i =>
      rename_i ds
      rw [blsOf] at h
      cases q : blsOf ds with
      | none => rw [q] at h; cases h
      | some ms =>
        rw [q] at h
        cases h
        rw [bls_reps r q] <;> rfl
    | _ => cases h
def kAll (xs : List TV) : Res TV := match xs with
  | [(_, .lst ys)] => match blsOf ys with | some ns => okb (ns.all id) | none => .bad
  | _ => .bad
theorem mv_all {n : Nat} (g : Good X J n) (hm : X.mg "all" = none) (ha : MA X J (e :: es) F) (hg : Gl X "all" := by rfl) (he : starEach (e :: es) X.env = (false, eval e X.env) :: starEach es X.env := by rfl) (hpl : (backTo pos (starEach es X.env)).any (·.1) = false := by rfl) :
    MV X J (.Call (.Name "all" p) (e :: es) [] pos) (thenK F kAll) := by
  refine mv_bi (cr_all g.calm) (fun σ Hs Hr H xs vs Q k rv p => ?_) hm ha hg PyProof.Rows.boot_all (by decide) (by decide) he hpl
  unfold kAll at p
  split at p
  · rename_i ys
    obtain ⟨v, rfl, r⟩ := rv.one
    obtain ⟨q, ws, rfl, h1, r1⟩ := r.isLst k
    cases hn : blsOf ys with
    | none => rw [hn] at p; exact (show False from p).elim
    | some ns =>
      rw [hn] at p
      rw [bls_reps r1 hn] at h1
      exact ⟨q, ns, rfl, .inl (.inl h1), Post.nowB k p⟩
  · exact (show False from p).elim
/-- insertion into a sorted list -/
def sins (n : Int) : List Int → List Int
  | [] => [n]
  | m :: r => if n ≤ m then n :: m :: r else m :: sins n r
def isort : List Int → List Int
  | [] => []
  | n :: r => sins n (isort r)
theorem sins_perm (n : Int) : ∀ l : List Int, (sins n l).Perm (n :: l)
  | [] => .refl _
  | m :: r => by
    unfold sins
    split
    · exact .refl _
    · exact ((sins_perm n r).cons m).trans (.swap n m r)
theorem isort_perm : ∀ l : List Int, (isort l).Perm l
  | [] => .refl _
  | n :: r => (sins_perm n _).trans ((isort_perm r).cons n)
theorem sins_sorted (n : Int) : ∀ {l : List Int}, l.Pairwise (· ≤ ·) → (sins n l).Pairwise (· ≤ ·)
  | [], _ => by simp [sins]
  | m :: r, h => by
    rw [List.pairwise_cons] at h
    unfold sins
    split
    · rename_i c
      rw [List.pairwise_cons, List.pairwise_cons]
      exact ⟨fun y hy => by
        rcases List.mem_cons.mp hy with rfl | hy
        · exact c
        · exact Int.le_trans c (h.1 y hy), h⟩
    · rename_i c
      rw [List.pairwise_cons]
      exact ⟨fun y hy => by
        rcases List.mem_cons.mp ((sins_perm n r).subset hy) with rfl | hy
        · omega
        · exact h.1 y hy, sins_sorted n h.2⟩
theorem isort_sorted : ∀ l : List Int, (isort l).Pairwise (· ≤ ·)
  | [] => .nil
  | n :: r => sins_sorted n (isort_sorted r)
theorem sorted_one {l m : List Int} (p : l.Perm m) (hl : l.Pairwise (· ≤ ·)) (hm : m.Pairwise (· ≤ ·)) : l = m := p.eq_of_pairwise (fun a b _ _ h1 h2 => Int.le_antisymm h1 h2) hl hm
def kSorted (xs : List TV) : Res EV := match xs with
  | [(_, .lst ys)] => match intsOf ys with | some ns => .ok (.own ((isort ns).map D.int)) | none => .bad
  | _ => .bad
theorem me_sorted (hm : X.mg "sorted" = none) (ha : MA X J (e :: es) F) (hg : Gl X "sorted" := by rfl) (he : starEach (e :: es) X.env = (false, eval e X.env) :: starEach es X.env := by rfl) (hpl : (backTo pos (starEach es X.env)).any (·.1) = false := by rfl) :
    ME X J (.Call (.Name "sorted" p) (e :: es) [] pos) (thenK F kSorted) := by
  refine me_bi cr_sortedI (fun σ Hs Hr H xs vs Q k rv p => ?_) hm ha hg PyProof.Rows.boot_sorted (by decide) (by decide) he hpl
  unfold kSorted at p
  split at p
  · rename_i ys
    obtain ⟨v, rfl, r⟩ := rv.one
    obtain ⟨q, ws, rfl, h1, r1⟩ := r.isLst k
    cases hn : intsOf ys with
    | none => rw [hn] at p; exact (show False from p).elim
    | some ns =>
      rw [hn] at p
      rw [ints_reps r1 hn] at h1
      refine ⟨q, ns, rfl, .inl (.inl h1), fun ns' r hp hs hr => ?_⟩
      cases sorted_one (hp.trans (isort_perm ns).symm) hs (isort_sorted ns)
      exact p _ _ _ (Ext.new0 k hr fun xs z => by cases z) r _ upd_same (k.none_r hr) hr (reps_ints _)
  · exact (show False from p).elim

/-! ### isinstance of built-in classes -/
def isiT (n : String) : D → Option Bool
  | .non => kitB "NoneType" n | .bl _ => kitB "bool" n | .int _ => kitB "int" n | .str _ => kitB "str" n
  | .tup _ => kitB "tuple" n | .lst _ => kitB "list" n | .dic _ _ => kitB "dict" n
  | _ => none
def kIsi (n : String) (x : TV) : Res TV := match isiT n x.2 with | some b => okb b | none => .bad
theorem ty_of {G : Gx} {H : Hp} {v : V} {d : D} {n : String} {b : Bool} (r : Rep G H v d) (h : isiT n d = some b) : ∃ t, TyX G.K H v t ∧ PySem.W.kitOne G.K t (.type n) = some b := by
  cases r with
  | non => exact ⟨_, .base .non, kit_ty h⟩
  | bl b => exact ⟨_, .base (.bl b), kit_ty h⟩
  | int i => exact ⟨_, .base (.int i), kit_ty h⟩
  | str i => exact ⟨_, .base (.str i), kit_ty h⟩
  | tup e r => exact ⟨_, .base (.tup e), kit_ty h⟩
  | lst e r => exact ⟨_, .base (.lst e), kit_ty h⟩
  | dic e r =>
    rcases e with e | ⟨o, e⟩
    · exact ⟨_, .base (.dK e), kit_ty h⟩
    · exact ⟨_, .fDict e, kit_ty h⟩
  | _ => cases h
theorem mv_isi {x2 : Str} {n : String} {p2 : Pos} (B : Bas X J) (hm : X.mg "isinstance" = none) (hm2 : X.mg x2 = none) (hv2 : bootBuiltins x2 = some (.type n)) (ha : MV X J a f) (hg : Gl X "isinstance" := by rfl) (hg2 : Gl X x2 := by rfl)
    (hn2 : x2 ≠ "__name__" := by decide) (hdb : (x2 == ("__debug__" : Str)) = false := by decide)
    (h1 : starEach [a, .Name x2 p2] X.env = (false, eval a X.env) :: starEach [.Name x2 p2] X.env := by rfl) (h2 : starEach [.Name x2 p2] X.env = (false, eval (.Name x2 p2) X.env) :: starEach [] X.env := by rfl) (hpl : (backTo pos (starEach [.Name x2 p2] X.env)).any (·.1) = false := by rfl) :
    MV X J (.Call (.Name "isinstance" p) [a, .Name x2 p2] [] pos) (bin1 f (kIsi n)) := by
  refine ⟨pe_imp (pe_callB call_isi hg hm PyProof.Rows.boot_isinstance (pa_cons ha.pe (pa_cons (pe_bltn (v := .ty n) hg2 hm2 hv2 rfl hn2 hdb) pa_nil h2) h1) (by decide) (by decide) h1 hpl) fun σ H Q nn => run1 (wishV (J := J) (Q := Q)) nn fun v H1 _ _ _ Hs Hr x _ R rv p => ?_⟩
  unfold kIsi at p
  cases hi : isiT n x.2 with
  | none => rw [hi] at p; exact (show False from p).elim
  | some b =>
    rw [hi] at p
    obtain ⟨t, ty, ke⟩ := ty_of (rv.h R.ok) hi
    exact ⟨v, .ty n, t, .type n, b, rfl, .ty n, by rw [B.K]; exact ty, by rw [B.K]; exact ke, Post.nowB R.ok p⟩

/-! ### defs -/
def toArg (x : TV) : EV := if imm x.2 = true then .val .s x.2 else match x.1 with
  | .s => .val .s x.2
  | _ => .val .r x.2
/-- an argument as the callee gets it: H is all that may be read -/
def ArgOk (G : Gx) (Hs H : Hp) (v : V) : EV → Prop
  | .val .s d => Rep G Hs v d
  | .val .r d => Rep G H v d
  | _ => False
def ArgsOk (G : Gx) (Hs H : Hp) : List V → List EV → Prop
  | vs, [] => vs = []
  | vs, x :: r => ∃ v w, vs = v :: w ∧ ArgOk G Hs H v x ∧ ArgsOk G Hs H w r
/-- what a def hands back: Hs' what is shared then -/
structure Ret (Hs H Hs' H' : Hp) : Prop where
  s : Same Hs Hs'
  h : Same H H'
  sh : Same Hs' H'
  ti : ∀ a xs, H' a = some (.tup xs) → Hs' a = some (.tup xs)
  ns : ∀ a o, Hs' a = some o → Hs a = some o ∨ H a = none
def PostR (G : Gx) (Hs H : Hp) (r : Res EV) (Q : VK) (E : XK) : Prop := match r with
  | .ok (.val .s d) => ∀ v Hs' H', Ret Hs H Hs' H' → Rep G Hs' v d → Q v H'
  | .ok (.val _ d) => ∀ v Hs' H', Ret Hs H Hs' H' → Rep G H' v d → Q v H'
  | .ok (.own xs) => ∀ p vs Hs' H', Ret Hs H Hs' H' → H' p = some (.lst vs) → Hs' p = none → H p = none → Reps G Hs' vs xs → Q (.ref p) H'
  | .ok (.ownd ks xs) => ∀ p kvs Hs' H', Ret Hs H Hs' H' → H' p = some (.dK kvs) → Hs' p = none → H p = none → kvs.map (·.1) = ks → Reps G Hs' (kvs.map (·.2)) xs → Q (.ref p) H'
  | .ok (.ownt t) => ∀ v fp Hs' H', Ret Hs H Hs' H' → ORep G Hs' H' v t fp → fp.Nodup → (∀ p ∈ fp, Hs' p = none) → (∀ p ∈ fp, H p = none) → Q v H'
  | .ok (.exn _ _ _) => False
  | .exc c ks vs => ∀ cv d Hs' H', Ret Hs H Hs' H' → ExcOk G Hs' c ks vs cv d → E cv d H'
  | .bad => False
def SpD (G : Gx) (ar : Nat) (F : List EV → Res EV) : Sp := fun vs H Q E => ∃ args Hs, HpOk Hs H H ∧ args.length = ar ∧ ArgsOk G Hs H vs args ∧ PostR G Hs H (F args) Q E
theorem argsOk_len {G : Gx} {Hs H : Hp} : ∀ {args : List EV} {vs : List V}, ArgsOk G Hs H vs args → vs.length = args.length
  | [], _, h => by cases (show _ = [] from h); rfl
  | x :: r, _, ⟨v, w, e, a, b⟩ => by subst e; exact congrArg (· + 1) (argsOk_len b)
/-- a def of the text as a function of data -/
structure FnD (P : Program) (w : World) (G : Gx) (mg : Str → Option Value) (base : Heap) (x : Str) (n ar : Nat) (F : List EV → Res EV) : Prop where
  ok : ∃ f fd ps, mg x = some (.ref f) ∧ PySem.W.keepIn G.K (.ref f) = true ∧ Binds G.K fd ps [] ∧ FnOk P w G.K mg base (L2.CX P w) n f fd ps (SpD G ar F)
theorem args_of {G : Gx} {Hs Hr H : Hp} (k : HpOk Hs Hr H) : ∀ {xs : List TV} {vs : List V}, RepTs G Hs Hr H xs vs → ArgsOk G Hs H vs (xs.map toArg)
  | [], _, h => h
  | (t, d) :: r, _, ⟨v, w, e, a, b⟩ => ⟨v, w, e, by
      unfold toArg
      split
      · rename_i i; exact RepT.imm k a i
      cases t with
      | s => exact a
      | r => exact Rep.mono k.rh a
      | h => exact a
      | o => exact RepT.h k a
      | n t => exact RepT.h k a, args_of k b⟩
/-- what may be read further on: what there was, and what was handed back -/
def joinH (Hr Hs' : Hp) : Hp := fun a => match Hr a with | some o => some o | none => Hs' a
theorem Ret.ext {Hs Hr H Hs' H' : Hp} (k : HpOk Hs Hr H) (r : Ret Hs H Hs' H') : Ext Hs Hr H Hs' (joinH Hr Hs') H' where
  s := r.s
  r := fun a o e => by unfold joinH; rw [e]
  h := r.h
  ok := ⟨fun a o e => by
      unfold joinH
      cases q : Hr a with
      | none => exact e
      | some u =>
        have h1 := r.h a u (k.rh a u q)
        have h2 := r.sh a o e
        rw [h1] at h2
        exact h2, fun a o e => by
      unfold joinH at e
      cases q : Hr a with
      | none => rw [q] at e; exact r.sh a o e
      | some u => rw [q] at e; cases e; exact r.h a _ (k.rh a _ q), r.ti⟩
  ns := r.ns
  nr := fun a o e => by
    unfold joinH at e
    cases q : Hr a with
    | some u => rw [q] at e; exact .inl e
    | none =>
      rw [q] at e
      rcases r.ns a o e with z | z
      · rw [k.sr a o z] at q; cases q
      · exact .inr z
/-- the result as the caller has it -/
def fromRet : EV → EV
  | .val t d => if imm d = true then .val .s d else match t with
    | .s => .val .s d
    | _ => .val .h d
  | e => e
theorem joinH_none {Hr Hs' : Hp} {p : Addr} (a : Hr p = none) (b : Hs' p = none) : joinH Hr Hs' p = none := by
  unfold joinH
  rw [a]
  exact b
theorem postR_of {σ : St} {Hs Hr H : Hp} {r : Res EV} {Q : VK} (k : HpOk Hs Hr H) (p : Post J σ Hs Hr H (r.map fromRet) (SE J H Q)) : PostR J.toGx Hs H r Q (WE J.W σ) := by
  cases r with
  | bad => exact p
  | exc c ks vs => exact fun cv d Hs' H' x e => p cv d Hs' _ H' (x.ext k) e
  | ok v =>
    cases v with
    | val t d =>
      by_cases hi : imm d = true
      · have p2 : Post J σ Hs Hr H (.ok (.val .s d)) (SE J H Q) := by
          have e : fromRet (.val t d) = .val .s d := if_pos hi
          rw [← e]
          exact p
        cases t with
        | s => exact fun v Hs' H' x r => p2 Hs' _ H' (x.ext k) v r
        | _ => exact fun v Hs' H' x r => p2 Hs' _ H' (x.ext k) v (r.imm x.ti hi)
      · cases t with
        | s =>
          have p2 : Post J σ Hs Hr H (.ok (.val .s d)) (SE J H Q) := by
            have e : fromRet (.val .s d) = .val .s d := if_neg hi
            rw [← e]
            exact p
          exact fun v Hs' H' x r => p2 Hs' _ H' (x.ext k) v r
        | h =>
          have p2 : Post J σ Hs Hr H (.ok (.val .h d)) (SE J H Q) := by
            have e : fromRet (.val .h d) = .val .h d := if_neg hi
            rw [← e]
            exact p
          exact fun v Hs' H' x r => p2 Hs' _ H' (x.ext k) v r
        | r =>
          have p2 : Post J σ Hs Hr H (.ok (.val .h d)) (SE J H Q) := by
            have e : fromRet (.val .r d) = .val .h d := if_neg hi
            rw [← e]
            exact p
          exact fun v Hs' H' x r => p2 Hs' _ H' (x.ext k) v r
        | o =>
          have p2 : Post J σ Hs Hr H (.ok (.val .h d)) (SE J H Q) := by
            have e : fromRet (.val .o d) = .val .h d := if_neg hi
            rw [← e]
            exact p
          exact fun v Hs' H' x r => p2 Hs' _ H' (x.ext k) v r
        | n t =>
          have p2 : Post J σ Hs Hr H (.ok (.val .h d)) (SE J H Q) := by
            have e : fromRet (.val (.n t) d) = .val .h d := if_neg hi
            rw [← e]
            exact p
          exact fun v Hs' H' x r => p2 Hs' _ H' (x.ext k) v r
    | own xs => exact fun q vs Hs' H' x a b c r => p Hs' _ H' (x.ext k) q vs a (joinH_none (k.none_r c) b) c r
    | ownt t => exact fun v fp Hs' H' x r n b c => p Hs' _ H' (x.ext k) v fp r n (fun q hq => joinH_none (k.none_r (c q hq)) (b q hq)) c
    | ownd ks xs => exact fun q vs Hs' H' x a b c e r => p Hs' _ H' (x.ext k) q vs a (joinH_none (k.none_r c) b) c e r
    | exn c ks vs => exact p _ _ _ (Ext.refl k)
def callD (F : List EV → Res EV) (xs : List TV) : Res EV := (F (xs.map toArg)).map fromRet
theorem me_call {x : Str} {n m ar : Nat} {G : List EV → Res EV} (g : Good X J m) (fn : FnD X.prog X.w J.toGx X.mg X.base x n ar G) (hnm : n ≤ m) (ha : MA X J (e :: es) F) (har : (e :: es).length = ar := by rfl) (hg : Gl X x := by rfl) (hdb : (x == ("__debug__" : Str)) = false := by decide) (he : starEach (e :: es) X.env = (false, eval e X.env) :: starEach es X.env := by rfl) (hpl : (backTo pos (starEach es X.env)).any (·.1) = false := by rfl) :
    ME X J (.Call (.Name x p) (e :: es) [] pos) (thenK F (callD G)) := by
  obtain ⟨fa, fd, ps, h1, h2, h3, h4⟩ := fn.ok
  rw [← g.K] at h2 h3 h4
  refine ⟨pe_imp (pe_callS h4 (g.room.mono hnm) hg h1 h2 h3 (fun σ => passAt g.tk σ) ha.pa hdb he hpl) fun σ H Q nn => ?_⟩
  have hF' : ∀ env, (F env).bind (callD G) = (F env).bind fun xs => if xs.length = ar then callD G xs else .bad := fun env => by
    cases q : F env with
    | ok xs => show callD G xs = if xs.length = ar then callD G xs else .bad; rw [if_pos ((ha.len env xs q).trans har)]
    | _ => rfl
  obtain ⟨Hse, He, env, Hs, Hr, R, p⟩ := nn
  have p : Post J σ Hs Hr H ((F env).bind (callD G)) (SE J H Q) := p
  rw [hF'] at p
  refine runA (J := J) (S := fun H => SE J H Q) wishE (k := fun xs => if xs.length = ar then callD G xs else .bad) ⟨Hse, He, env, Hs, Hr, R, p⟩ fun vs H1 _ _ _ Hs Hr xs _ R rv p => ?_
  split at p
  · rename_i hl
    exact ⟨xs.map toArg, Hs, ⟨R.ok.sh, Same.refl _, R.ok.ti⟩, by rw [List.length_map]; exact hl, args_of R.ok rv, postR_of R.ok p⟩
  · exact (show False from p).elim
end
end DL

namespace DL
open PySem PySem.Spec PyProof.Rows L2

/-! ### statements -/
inductive SR where
  | nx (env : Env) | rt (e : EV) (env : Env) | bk (env : Env) | ct (env : Env) | exc (c : Str) (ks : List Str) (vs : List D) (env : Env) | bad
/-- what a def hands back, of a result, of the heaps then -/
def RtW (J : Jx) (Hs Hr He H : Hp) (Q : VK) : EV → Prop
  | .val .s d => ∀ v, Rep J.toGx Hs v d → Q v H
  | .val _ d => ∀ v, Rep J.toGx H v d → Q v H
  | .own xs => ∀ p vs, H p = some (.lst vs) → Hs p = none → He p = none → Reps J.toGx Hs vs xs → Q (.ref p) H
  | .ownd ks xs => ∀ p kvs, H p = some (.dK kvs) → Hs p = none → He p = none → kvs.map (·.1) = ks → Reps J.toGx Hs (kvs.map (·.2)) xs → Q (.ref p) H
  | .ownt t => ∀ v fp, ORep J.toGx Hs H v t fp → fp.Nodup → (∀ p ∈ fp, Hs p = none) → (∀ p ∈ fp, He p = none) → Q v H
  | .exn _ _ _ => False
def PostS (J : Jx) (Hse He : Hp) (D : Ends) : SR → Prop
  | .nx env => ∀ σ Hs Hr H, Rel J Hse He env σ Hs Hr H → D.nx σ H
  | .bk env => ∀ σ Hs Hr H, Rel J Hse He env σ Hs Hr H → D.bk σ H
  | .ct env => ∀ σ Hs Hr H, Rel J Hse He env σ Hs Hr H → D.ct σ H
  | .rt e env => ∀ σ Hs Hr H, Rel J Hse He env σ Hs Hr H → RtW J Hs Hr He H D.rt e
  | .exc c ks vs env => ∀ cv d σ Hs Hr H, Rel J Hse He env σ Hs Hr H → ExcOk J.toGx Hs c ks vs cv d → J.W cv d σ H
  | .bad => False
def tS (J : Jx) (F : Env → SR) : TS := fun D σ H => ∃ Hse He env Hs Hr, Rel J Hse He env σ Hs Hr H ∧ PostS J Hse He D (F env)
structure MS (X : Cx) (J : Jx) (st : Stmt) (F : Env → SR) : Prop where
  ps : PS X st (tS J F)
structure MSs (X : Cx) (J : Jx) (sts : List Stmt) (F : Env → SR) : Prop where
  ps : PSs X sts (tS J F)
def SR.then (r : SR) (k : Env → SR) : SR := match r with
  | .nx env => k env
  | r => r
@[simp] theorem SR.then_nx (env : Env) (k : Env → SR) : (SR.nx env).then k = k env := (rfl)
@[simp] theorem SR.then_rt (e : EV) (env : Env) (k : Env → SR) : (SR.rt e env).then k = .rt e env := (rfl)
@[simp] theorem SR.then_bk (env : Env) (k : Env → SR) : (SR.bk env).then k = .bk env := (rfl)
@[simp] theorem SR.then_ct (env : Env) (k : Env → SR) : (SR.ct env).then k = .ct env := (rfl)
@[simp] theorem SR.then_exc (c : Str) (ks : List Str) (vs : List D) (env : Env) (k : Env → SR) : (SR.exc c ks vs env).then k = .exc c ks vs env := (rfl)
@[simp] theorem SR.then_bad (k : Env → SR) : SR.bad.then k = .bad := (rfl)
/-- from an expression to a statement -/
def Res.st {α : Type} (r : Res α) (env : Env) (k : α → SR) : SR := match r with
  | .ok a => k a
  | .exc c ks vs => .exc c ks vs env
  | .bad => .bad
@[simp] theorem Res.st_ok {α : Type} (a : α) (env : Env) (k : α → SR) : (Res.ok a).st env k = k a := (rfl)
@[simp] theorem Res.st_exc {α : Type} (c : Str) (ks : List Str) (vs : List D) (env : Env) (k : α → SR) : (Res.exc c ks vs : Res α).st env k = .exc c ks vs env := (rfl)
@[simp] theorem Res.st_bad {α : Type} (env : Env) (k : α → SR) : (Res.bad : Res α).st env k = .bad := (rfl)
theorem Rel.ret {J : Jx} {Hse He : Hp} {env : Env} {σ : St} {Hs Hr H : Hp} (R : Rel J Hse He env σ Hs Hr H) : Ret Hse He Hs H := ⟨R.se, R.he.trans R.ok.rh, R.ok.sh, R.ok.ti, R.ns⟩
theorem post_st {α : Type} {J : Jx} {Hse He : Hp} {env : Env} {σ : St} {Hs Hr H : Hp} {D : Ends} {r : Res α} {k : α → SR} {S : α → Hp → Hp → Hp → Prop} (R : Rel J Hse He env σ Hs Hr H) (p : PostS J Hse He D (r.st env k))
    (h : ∀ a Hs' Hr' H', Ext Hs Hr H Hs' Hr' H' → Rel J Hse He env σ Hs' Hr' H' → PostS J Hse He D (k a) → S a Hs' Hr' H') : Post J σ Hs Hr H r S := by
  cases r with
  | ok a => exact fun Hs' Hr' H' x => h a Hs' Hr' H' x (R.ext x) p
  | exc c ks vs => exact fun cv d Hs' Hr' H' x e => p cv d σ Hs' Hr' H' (R.ext x) e
  | bad => exact p
def seqS (F K : Env → SR) : Env → SR := fun env => (F env).then K
def retN : Env → SR := fun env => .rt (.val .s .non) env
section
variable {X : Cx} {J : Jx} {st : Stmt} {sts : List Stmt} {e o : Expr} {pos : Pos} {F K : Env → SR} {f g : Env → Res TV} {fe : Env → Res EV} {ft : Env → Res Bool}
theorem mss_nil : MSs X J [] SR.nx := ⟨pss_imp pss_nil fun D σ H ⟨Hse, He, env, Hs, Hr, R, p⟩ => p σ Hs Hr H R⟩
theorem mss_cons (h : MS X J st F) (hr : MSs X J sts K) : MSs X J (st :: sts) (seqS F K) := ⟨pss_imp (pss_cons h.ps hr.ps) fun D σ H ⟨Hse, He, env, Hs, Hr, R, p⟩ => by
  refine ⟨Hse, He, env, Hs, Hr, R, ?_⟩
  have p : PostS J Hse He D ((F env).then K) := p
  cases q : F env with
  | nx env' =>
    rw [q] at p
    exact fun σ' Hs' Hr' H' R' => ⟨Hse, He, env', Hs', Hr', R', p⟩
  | _ => rw [q] at p; exact p⟩
theorem mss_one (h : MS X J st F) : MSs X J [st] F := ⟨pss_one h.ps⟩
theorem ms_pass : MS X J (.Pass pos) SR.nx := ⟨ps_imp ps_pass fun D σ H ⟨Hse, He, env, Hs, Hr, R, p⟩ => p σ Hs Hr H R⟩
theorem ms_cont : MS X J (.Continue pos) SR.ct := ⟨ps_imp ps_continue fun D σ H ⟨Hse, He, env, Hs, Hr, R, p⟩ => p σ Hs Hr H R⟩
theorem ms_brk : MS X J (.Break pos) SR.bk := ⟨ps_imp ps_break fun D σ H ⟨Hse, He, env, Hs, Hr, R, p⟩ => p σ Hs Hr H R⟩
theorem ms_doc {x j pos'} : MS X J (.Expr (.Constant (.str x) j pos) pos') SR.nx := ⟨ps_imp ps_doc fun D σ H ⟨Hse, He, env, Hs, Hr, R, p⟩ => p σ Hs Hr H R⟩
def dropE (env : Env) : EV → SR
  | .exn _ _ _ => .bad
  | _ => .nx env
def exprS (f : Env → Res EV) : Env → SR := fun env => (f env).st env (dropE env)
theorem ms_expr (h : ME X J e fe) (hs : swapsWith e none pos.line X.env = pure false := by rfl) : MS X J (.Expr e pos) (exprS fe) := ⟨ps_imp (ps_expr h.pe hs) fun D σ H ⟨Hse, He, env, Hs, Hr, R, p⟩ => ⟨Hse, He, env, Hs, Hr, R, post_st R p fun a Hs' Hr' H' x R' p' => by
  cases a with
  | val t d => exact fun v r => p' σ Hs' Hr' H' R'
  | own xs => exact fun q vs a b c r => p' σ Hs' Hr' H' R'
  | ownd ks xs => exact fun q vs a b c k r => p' σ Hs' Hr' H' R'
  | ownt t => exact fun v fp a b c d => p' σ Hs' Hr' H' R'
  | exn c ks vs => exact (show False from p').elim⟩⟩
def ifS (c : Env → Res Bool) (F G : Env → SR) : Env → SR := fun env => (c env).st env fun b => if b = true then F env else G env
theorem ms_if {c : Expr} {a b : List Stmt} (hc : MT X J c ft) (ha : MSs X J a F) (hb : MSs X J b K) : MS X J (.If c a b pos) (ifS ft F K) := ⟨ps_imp (ps_if hc.pt ha.ps hb.ps) fun D σ H ⟨Hse, He, env, Hs, Hr, R, p⟩ =>
  ⟨Hse, He, env, Hs, Hr, R, post_st R p fun z Hs' Hr' H' x R' p' => by
    show if z = true then _ else _
    cases z with
    | true => exact ⟨Hse, He, env, Hs', Hr', R', p'⟩
    | false => exact ⟨Hse, He, env, Hs', Hr', R', p'⟩⟩⟩
/-! return -/
def retS (fe : Env → Res EV) : Env → SR := fun env => (fe env).st env fun v => .rt v env
theorem ms_ret (h : ME X J e fe) : MS X J (.Return (some e) pos) (retS fe) := ⟨ps_imp (ps_ret h.pe) fun D σ H ⟨Hse, He, env, Hs, Hr, R, p⟩ => ⟨Hse, He, env, Hs, Hr, R, post_st R p fun a Hs' Hr' H' x R' p' => by
  have p' : RtW J Hs' Hr' He H' D.rt a := p' σ Hs' Hr' H' R'
  cases a with
  | val t d =>
    cases t with
    | s => exact fun v r => p' v r
    | r => exact fun v r => p' v (RepT.h R'.ok r)
    | h => exact fun v r => p' v r
    | o => exact fun v r => p' v (RepT.h R'.ok r)
    | n t => exact fun v r => p' v (RepT.h R'.ok r)
  | own xs => exact fun q vs a b c r => p' q vs a (R'.ok.sr.free b) (R.he.free (R.ok.none_r c)) r
  | ownd ks xs => exact fun q vs a b c k r => p' q vs a (R'.ok.sr.free b) (R.he.free (R.ok.none_r c)) k r
  | ownt t => exact fun v fp a b c d => p' v fp a b (fun q hq => R'.ok.sr.free (c q hq)) fun q hq => R.he.free (R.ok.none_r (d q hq))
  | exn c ks vs => exact (show False from p').elim⟩⟩
theorem ms_retN : MS X J (.Return none pos) retN := ⟨ps_imp ps_retN fun D σ H ⟨Hse, He, env, Hs, Hr, R, p⟩ => p σ Hs Hr H R _ .non⟩
/-- return x, x a name: a list of the def's own goes along -/
def retV (i : Nat) : Env → SR := fun env => match env[i]? with
  | some (some (.val t d)) => .rt (.val t d) env
  | some (some (.own xs)) => .rt (.own xs) env
  | some (some (.ownd ks xs)) => .rt (.ownd ks xs) env
  | some (some (.ownt t)) => .rt (.ownt t) env
  | _ => .bad
theorem ms_retV (i : Nat) {x : Str} {p2 : Pos} (hN : X.N[i]? = some x := by rfl) (hv : Vis X.env.scope x := by first | exact Or.inl rfl | exact Or.inr (Or.inl rfl) | exact Or.inr (Or.inr rfl)) (hd : (x == ("__debug__" : Str)) = false := by decide)
    (hcd : (x == ("__classdict__" : Str)) = false := by decide) : MS X J (.Return (some (.Name x p2)) pos) (retV i) := ⟨ps_imp (ps_ret (pv i hN hv hd hcd)) fun D σ H ⟨Hse, He, env, Hs, Hr, R, p⟩ => by
  unfold retV at p
  split at p
  · rename_i t d q
    have so := R.slot i _ q
    have p := p σ Hs Hr H R
    cases t with
    | s => obtain ⟨v, e, r⟩ := so; exact ⟨v, e, p v r⟩
    | r => obtain ⟨v, e, r⟩ := so; exact ⟨v, e, p v (r.mono R.ok.rh)⟩
    | h => exact so.elim
    | o => exact so.elim
    | n t => exact so.elim
  · rename_i xs q
    obtain ⟨a, vs, e, h1, h2, r⟩ := R.slot i _ q
    exact ⟨_, e, p σ Hs Hr H R a vs h1 (R.ok.sr.free h2) (R.he.free h2) r⟩
  · rename_i ks xs q
    obtain ⟨a, vs, e, h1, h2, h3, r⟩ := R.slot i _ q
    exact ⟨_, e, p σ Hs Hr H R a vs h1 (R.ok.sr.free h2) (R.he.free h2) h3 r⟩
  · rename_i t q
    obtain ⟨v, fp, e, h1, h2, h3⟩ := R.slot i _ q
    exact ⟨_, e, p σ Hs Hr H R v fp h1 h2 (fun x hx => R.ok.sr.free (h3 x hx)) fun x hx => R.he.free (h3 x hx)⟩
  · exact (show False from p).elim⟩

/-! ### stores to names -/
def toSlot : EV → Option EV
  | .val t d => if imm d = true then some (.val .s d) else match t with
    | .s => some (.val .s d)
    | .r => some (.val .r d)
    | _ => none
  | .own xs => some (.own xs)
  | .ownd ks xs => some (.ownd ks xs)
  | .ownt t => some (.ownt t)
  | .exn _ _ _ => none
theorem getElem?_set_some {α : Type} {l : List (Option α)} {i j : Nat} {x : α} {y : Option α} (h : (l.set i y)[j]? = some (some x)) : (j = i ∧ y = some x ∧ i < l.length) ∨ (j ≠ i ∧ l[j]? = some (some x)) := by
  by_cases e : i = j
  · subst e
    by_cases hl : i < l.length
    · rw [List.getElem?_set_self hl] at h
      exact .inl ⟨rfl, Option.some.inj h, hl⟩
    · rw [List.getElem?_eq_none (by rw [List.length_set]; omega)] at h
      cases h
  · rw [List.getElem?_set_ne e] at h
    exact .inr ⟨fun z => e z.symm, h⟩
/-- a slot is set: what the others own stays theirs -/
theorem OwnAt.set {G : Gx} {Hs H : Hp} {env : Env} {σ : St} {i j : Nat} {v : V} {e : EV} {p : Addr} (l : env.length = σ.length) (h : OwnAt G Hs H (env.set i (some e)) (σ.set i (some v)) j p) :
    (j = i ∧ ∃ fp, OwFp G Hs H (some (some v)) fp e ∧ p ∈ fp) ∨ (j ≠ i ∧ OwnAt G Hs H env σ j p) := by
  obtain ⟨e', fp, h1, h2, h3⟩ := h
  rcases getElem?_set_some h1 with ⟨rfl, g1, g2⟩ | ⟨g1, g2⟩
  · cases g1
    rw [List.getElem?_set_self (by rw [← l]; exact g2)] at h2
    exact .inl ⟨rfl, fp, h2, h3⟩
  · rw [List.getElem?_set_ne (Ne.symm g1)] at h2
    exact .inr ⟨g1, e', fp, g2, h2, h3⟩
theorem Rel.set {Hse He : Hp} {env : Env} {σ : St} {Hs Hr H : Hp} (R : Rel J Hse He env σ Hs Hr H) {i : Nat} {v : V} {e : EV} (so : SlotOk J Hs Hr H (some (some v)) e)
    (fr : ∀ fp, OwFp J.toGx Hs H (some (some v)) fp e → ∀ p ∈ fp, ∀ j, j ≠ i → ¬ OwnAt J.toGx Hs H env σ j p) (up : Unp J i) : Rel J Hse He (env.set i (some e)) (σ.set i (some v)) Hs Hr H where
  ok := R.ok
  len := by rw [List.length_set, List.length_set]; exact R.len
  slot := fun j e' h => by
    rcases getElem?_set_some h with ⟨rfl, h1, h2⟩ | ⟨h1, h2⟩
    · cases h1
      rw [List.getElem?_set_self (by rw [← R.len]; exact h2)]
      exact so
    · rw [List.getElem?_set_ne (Ne.symm h1)]
      exact R.slot j e' h2
  dis := fun a b p n ha hb => by
    rcases OwnAt.set R.len ha with ⟨rfl, fa, a1, a2⟩ | ⟨a1, a2⟩
    · rcases OwnAt.set R.len hb with ⟨rfl, _⟩ | ⟨b1, b2⟩
      · exact n rfl
      · exact fr fa a1 p a2 b b1 b2
    · rcases OwnAt.set R.len hb with ⟨rfl, fb, b1, b2⟩ | ⟨b1, b2⟩
      · exact fr fb b1 p b2 a a1 a2
      · exact R.dis a b p n a2 b2
  se := R.se
  he := R.he
  ns := R.ns
  pin := fun q hq => by rw [List.getElem?_set_ne (fun z => up q.2 (by rw [z]; exact hq))]; exact R.pin q hq
/-- an own object stands in H, outside of what may be read -/
theorem Rel.own {Hse He : Hp} {env : Env} {σ : St} {Hs Hr H : Hp} (R : Rel J Hse He env σ Hs Hr H) {j : Nat} {p : Addr} (h : OwnAt J.toGx Hs H env σ j p) : (∃ o, H p = some o) ∧ Hr p = none := by
  obtain ⟨e, fp, h1, h2, h3⟩ := h
  have so := R.slot j e h1
  cases e with
  | own xs =>
    obtain ⟨q, vs, e, a, b, c⟩ := so
    obtain ⟨q', e', rfl⟩ := h2
    rw [e] at e'
    cases e'
    cases List.mem_singleton.mp h3
    exact ⟨⟨_, a⟩, b⟩
  | ownd ks xs =>
    obtain ⟨q, vs, e, a, b, c⟩ := so
    obtain ⟨q', e', rfl⟩ := h2
    rw [e] at e'
    cases e'
    cases List.mem_singleton.mp h3
    exact ⟨⟨_, a⟩, b⟩
  | ownt t =>
    obtain ⟨v, f, e, a, b, c⟩ := so
    obtain ⟨v', e', r⟩ := h2
    rw [e] at e'
    cases e'
    cases a.det r
    obtain ⟨o, ho, _⟩ := a.at p h3
    exact ⟨⟨o, ho⟩, c p h3⟩
  | val t d => cases (show fp = [] from h2); cases h3
  | exn c ks vs => cases (show fp = [] from h2); cases h3
/-- a value comes into a slot -/
theorem Rel.put {Hse He : Hp} {env : Env} {σ : St} {Hs Hr H H0 : Hp} {i : Nat} (R : Rel J Hse He env σ Hs Hr H) (R0 : ∀ j p, OwnAt J.toGx Hs H env σ j p → ∃ o, H0 p = some o) (up : Unp J i) {D : Env → Prop} {Q : St → Hp → Prop} {e : EV}
    (q : match toSlot e with | some e' => ∀ σ', Rel J Hse He (env.set i (some e')) σ' Hs Hr H → Q σ' H | none => False) : SE J H0 (fun v H' => Q (σ.set i (some v)) H') e Hs Hr H := by
  have nof : ∀ {t d v}, ∀ fp, OwFp J.toGx Hs H (some (some v)) fp (.val t d) → ∀ p ∈ fp, ∀ j, j ≠ i → ¬ OwnAt J.toGx Hs H env σ j p := fun fp h p hp => by cases (show fp = [] from h); cases hp
  cases e with
  | val t d =>
    intro v r
    by_cases hi : imm d = true
    · have : toSlot (.val t d) = some (.val .s d) := if_pos hi
      rw [this] at q
      exact q _ (R.set (e := .val .s d) ⟨v, rfl, RepT.imm R.ok r hi⟩ nof up)
    · cases t with
      | s =>
        have : toSlot (.val .s d) = some (.val .s d) := if_neg hi
        rw [this] at q
        exact q _ (R.set (e := .val .s d) ⟨v, rfl, r⟩ nof up)
      | r =>
        have : toSlot (.val .r d) = some (.val .r d) := if_neg hi
        rw [this] at q
        exact q _ (R.set (e := .val .r d) ⟨v, rfl, r⟩ nof up)
      | h =>
        have : toSlot (.val .h d) = none := if_neg hi
        rw [this] at q
        exact q.elim
      | o =>
        have : toSlot (.val .o d) = none := if_neg hi
        rw [this] at q
        exact q.elim
      | n t =>
        have : toSlot (.val (.n t) d) = none := if_neg hi
        rw [this] at q
        exact q.elim
  | own xs =>
    intro p vs a b c r
    exact q _ (R.set (e := .own xs) ⟨p, vs, rfl, a, b, r⟩ (fun fp hf z hz j _ h => by
      obtain ⟨p', e, rfl⟩ := hf
      cases e
      cases List.mem_singleton.mp hz
      obtain ⟨o, ho⟩ := R0 j _ h
      rw [ho] at c; cases c) up)
  | ownd ks xs =>
    intro p vs a b c k r
    exact q _ (R.set (e := .ownd ks xs) ⟨p, vs, rfl, a, b, k, r⟩ (fun fp hf z hz j _ h => by
      obtain ⟨p', e, rfl⟩ := hf
      cases e
      cases List.mem_singleton.mp hz
      obtain ⟨o, ho⟩ := R0 j _ h
      rw [ho] at c; cases c) up)
  | ownt t =>
    intro v fp a b c d
    exact q _ (R.set (e := .ownt t) ⟨v, fp, rfl, a, b, c⟩ (fun fp' hf z hz j _ h => by
      obtain ⟨v', e, r⟩ := hf
      cases e
      cases a.det r
      obtain ⟨o, ho⟩ := R0 j _ h
      have d := d z hz
      rw [ho] at d; cases d) up)
  | exn c ks vs => exact q.elim
def putE (i : Nat) (env : Env) (v : EV) : SR := match toSlot v with
  | some e => .nx (env.set i (some e))
  | none => .bad
def setS (i : Nat) (fe : Env → Res EV) : Env → SR := fun env => (fe env).st env (putE i env)
theorem post_put {Hse He : Hp} {env : Env} {σ : St} {Hs Hr H : Hp} {D : Ends} {i : Nat} {r : Res EV} (R : Rel J Hse He env σ Hs Hr H) (up : Unp J i) (p : PostS J Hse He D (r.st env (putE i env))) : Post J σ Hs Hr H r (SE J H fun v H' => D.nx (σ.set i (some v)) H') :=
  post_st R p fun a Hs' Hr' H' x R' p' => R'.put (D := fun _ => True) (fun j p h => (R.own (h.back R x.s fun _ _ o h => x.h _ o h)).1) up (by
    unfold putE at p'
    split at p'
    · exact fun σ' R2 => p' σ' Hs' Hr' H' R2
    · exact p')
theorem ms_set (i : Nat) {x : Str} {pos' : Pos} (nd : X.N.Nodup) (h : ME X J e fe) (hi : X.N[i]? = some x := by rfl) (hx : Loc X.env.scope x := by first | exact Or.inl rfl | exact Or.inr rfl)
    (hs : swapsWith e (some (.Name x pos')) pos.line X.env = pure false := by rfl) (hf : X.fn x = true ∨ X.env.scope.names.lookup x = some .local := by first | exact .inl rfl | exact .inr rfl)
    (up : Unp J i := by first | exact Unp.nil rfl | exact Unp.one rfl (by decide)) : MS X J (.Assign [.Name x pos'] e pos) (setS i fe) := ⟨ps_imp (ps_set nd hi hx h.pe hs hf) fun D σ H ⟨Hse, He, env, Hs, Hr, R, p⟩ => ⟨Hse, He, env, Hs, Hr, R, post_put R up p⟩⟩
end
end DL

namespace DL
open PySem PySem.Spec PyProof.Rows L2

/-! ### targets -/
/-- the slots beside sl are as they were -/
def Beside (sl : List Nat) (σ σ' : St) : Prop := σ'.length = σ.length ∧ ∀ j, j ∉ sl → σ'[j]? = σ[j]?
def tG (J : Jx) (sl : List Nat) (gd : TV → Env → Option Env) : TG := fun v σ H Q => ∃ Hse He env Hs Hr x, Rel J Hse He env σ Hs Hr H ∧ RepT J.toGx x.1 Hs Hr H v x.2 ∧ match gd x env with
  | some env' => ∀ σ', Rel J Hse He env' σ' Hs Hr H → Beside sl σ σ' → Q σ' H
  | none => False
def tGs (J : Jx) (sl : List Nat) (gd : List TV → Env → Option Env) : TGs := fun vs σ H Q => ∃ Hse He env Hs Hr xs, Rel J Hse He env σ Hs Hr H ∧ RepTs J.toGx Hs Hr H xs vs ∧ match gd xs env with
  | some env' => ∀ σ', Rel J Hse He env' σ' Hs Hr H → Beside sl σ σ' → Q σ' H
  | none => False
structure MG (X : Cx) (J : Jx) (tg : Expr) (sl : List Nat) (gd : TV → Env → Option Env) : Prop where
  pg : PG X tg (tG J sl gd)
structure MGs (X : Cx) (J : Jx) (tgs : List Expr) (sl : List Nat) (gd : List TV → Env → Option Env) : Prop where
  pg : PGs X tgs (tGs J sl gd)
theorem pg_imp {X : Cx} {e : Expr} {t t' : TG} (h : PG X e t) (i : ∀ v σ H Q, t' v σ H Q → t v σ H Q) : PG X e t' := ⟨fun pins s σ H v u Q I r q => h.run pins s σ H v u Q I r (i v σ H Q q)⟩
theorem pgs_imp {X : Cx} {e : List Expr} {t t' : TGs} (h : PGs X e t) (i : ∀ v σ H Q, t' v σ H Q → t v σ H Q) : PGs X e t' := ⟨fun pins s σ H v u Q I r q => h.run pins s σ H v u Q I r (i v σ H Q q)⟩
theorem pg_or {X : Cx} {e : Expr} {t t' : TG} (h : PG X e t) (h' : PG X e t') : PG X e (fun v σ H Q => t v σ H Q ∨ t' v σ H Q) := ⟨fun pins s σ H v u Q I r q => q.elim (h.run pins s σ H v u Q I r) (h'.run pins s σ H v u Q I r)⟩
def gdN (i : Nat) (x : TV) (env : Env) : Option Env := match toSlot (.val x.1 x.2) with
  | some e => some (env.set i (some e))
  | none => none
def gdNil : List TV → Env → Option Env
  | [], env => some env
  | _ :: _, _ => none
def gdC (g : TV → Env → Option Env) (gs : List TV → Env → Option Env) : List TV → Env → Option Env
  | [], _ => none
  | x :: r, env => match g x env with
    | some env' => gs r env'
    | none => none
def gdT (n : Nat) (gs : List TV → Env → Option Env) (x : TV) (env : Env) : Option Env := match x.2 with
  | .tup ds => if ds.length = n then gs (ds.map fun d => (itT x.1, d)) env else none
  | .lst ds => if ds.length = n then gs (ds.map fun d => (itT x.1, d)) env else none
  | _ => none
theorem repsT_ts {G : Gx} {t : Tg} {Hs Hr H : Hp} : ∀ {vs : List V} {ds : List D}, RepsT G (itT t) Hs Hr H vs ds → RepTs G Hs Hr H (ds.map fun d => (itT t, d)) vs
  | vs, [], r => by cases t <;> (cases r; rfl)
  | vs, d :: ds, r => by
    cases t with
    | s => cases r with | cons a b => exact ⟨_, _, rfl, a, repsT_ts (t := .s) b⟩
    | r => cases r with | cons a b => exact ⟨_, _, rfl, a, repsT_ts (t := .r) b⟩
    | h => cases r with | cons a b => exact ⟨_, _, rfl, a, repsT_ts (t := .h) b⟩
    | o => cases r with | cons a b => exact ⟨_, _, rfl, a, repsT_ts (t := .o) b⟩
    | n t => cases r with | cons a b => exact ⟨_, _, rfl, a, repsT_ts (t := .n t) b⟩
section
variable {X : Cx} {J : Jx} {e o : Expr} {es : List Expr} {pos p2 : Pos} {g : TV → Env → Option Env} {gs : List TV → Env → Option Env} {f f2 : Env → Res TV}
theorem mg_name (i : Nat) {x : Str} (nd : X.N.Nodup) (hi : X.N[i]? = some x := by rfl) (hx : Loc X.env.scope x := by first | exact Or.inl rfl | exact Or.inr rfl) (hf : X.fn x = true ∨ X.env.scope.names.lookup x = some .local := by first | exact .inl rfl | exact .inr rfl)
    (up : Unp J i := by first | exact Unp.nil rfl | exact Unp.one rfl (by decide)) : MG X J (.Name x pos) [i] (gdN i) := ⟨pg_imp (pg_name nd hi hx hf) fun v σ H Q ⟨Hse, He, env, Hs, Hr, x, R, r, q⟩ => by
  unfold gdN at q
  cases he : toSlot (.val x.1 x.2) with
  | none => rw [he] at q; exact q.elim
  | some e' =>
    rw [he] at q
    exact R.put (D := fun _ => True) (Q := fun σ' H' => Beside [i] σ σ' → Q σ' H') (i := i) (e := .val x.1 x.2) (H0 := H) (fun j p h => (R.own h).1) up (by rw [he]; exact q) v r
      ⟨by rw [List.length_set], fun j hj => List.getElem?_set_ne (fun z => hj (by rw [z]; exact List.mem_singleton.mpr rfl))⟩⟩
theorem mgs_nil : MGs X J [] [] gdNil := ⟨pgs_imp pgs_nil fun v σ H Q ⟨Hse, He, env, Hs, Hr, xs, R, r, q⟩ => by
  cases xs with
  | nil => exact ⟨r, q σ R ⟨rfl, fun _ _ => rfl⟩⟩
  | cons x xs => exact (show False from q).elim⟩
theorem mgs_cons {s1 s2 : List Nat} (h1 : MG X J e s1 g) (h2 : MGs X J es s2 gs) (hs : (assignEach (e :: es) X.env).map (·.2) = assign e X.env :: (assignEach es X.env).map (·.2) := by rfl) : MGs X J (e :: es) (s1 ++ s2) (gdC g gs) :=
  ⟨pgs_imp (pgs_cons h1.pg h2.pg hs) fun v σ H Q ⟨Hse, He, env, Hs, Hr, xs, R, r, q⟩ => by
    cases xs with
    | nil => exact (show False from q).elim
    | cons x xs =>
      obtain ⟨v, w, rfl, a, b⟩ := r
      refine ⟨v, w, rfl, Hse, He, env, Hs, Hr, x, R, a, ?_⟩
      unfold gdC at q
      dsimp only at q
      cases hg : g x env with
      | none => rw [hg] at q; exact (show False from q).elim
      | some env' =>
        rw [hg] at q
        dsimp only at q ⊢
        refine fun σ' R' bs => ⟨Hse, He, env', Hs, Hr, xs, R', b, ?_⟩
        revert q
        cases hq : gs xs env' with
        | none => exact fun q => q.elim
        | some env2 =>
          exact fun q σ2 R2 bs2 => q σ2 R2 ⟨bs2.1.trans bs.1, fun j hj => (bs2.2 j fun z => hj (List.mem_append_right _ z)).trans (bs.2 j fun z => hj (List.mem_append_left _ z))⟩⟩
theorem mg_tup {k n : Nat} {sl : List Nat} (hc : X.calm = true) (h : MGs X J es sl gs) (hn : (assignEach es X.env).length = n := by rfl) (hst : (assignEach es X.env).findIdx? (·.1) = none := by rfl) : MG X J (.Tuple es k pos) sl (gdT n gs) :=
  ⟨pg_imp (pg_or (pg_tup hc h.pg hn hst) (pg_lst hc h.pg hn hst)) fun v σ H Q ⟨Hse, He, env, Hs, Hr, x, R, r, q⟩ => by
    obtain ⟨t, d⟩ := x
    unfold gdT at q
    dsimp only at q r
    cases d with
    | tup ds =>
      dsimp only at q
      by_cases hl : ds.length = n
      · rw [if_pos hl] at q
        obtain ⟨a, vs, rfl, h1, r1⟩ := r.tupT R.ok
        exact .inl ⟨a, vs, rfl, .inl (.inl h1), by rw [(r1.h R.ok).length]; exact hl, Hse, He, env, Hs, Hr, _, R, repsT_ts r1, q⟩
      · rw [if_neg hl] at q; exact q.elim
    | lst ds =>
      dsimp only at q
      by_cases hl : ds.length = n
      · rw [if_pos hl] at q
        obtain ⟨a, vs, rfl, h1, r1⟩ := r.lstT R.ok
        exact .inr ⟨a, vs, rfl, .inl (.inl h1), by rw [(r1.h R.ok).length]; exact hl, Hse, He, env, Hs, Hr, _, R, repsT_ts r1, q⟩
      · rw [if_neg hl] at q; exact q.elim
    | _ => exact (show False from q).elim⟩
def asgS (f : Env → Res TV) (g : TV → Env → Option Env) : Env → SR := fun env => (f env).st env fun x => match g x env with | some e => .nx e | none => .bad
theorem ms_asg {tg : Expr} {sl : List Nat} (h : MV X J e f) (hg : MG X J tg sl g) (hs : swapsWithSole [tg] e pos.line X.env = pure false := by rfl) (hw : swappedStores [tg] e X.env = pure none := by rfl)
    (h1 : (assignEach [tg] X.env).map (·.2) = [assign tg X.env] := by rfl) : MS X J (.Assign [tg] e pos) (asgS f g) := ⟨ps_imp (ps_asg h.pe hg.pg hs hw h1) fun D σ H ⟨Hse, He, env, Hs, Hr, R, p⟩ =>
  ⟨Hse, He, env, Hs, Hr, R, post_st R p fun a Hs' Hr' H' x R' p' v rv => ⟨Hse, He, env, Hs', Hr', a, R', rv, by
    cases q : g a env with
    | none => rw [q] at p'; exact (show False from p').elim
    | some env' =>
      rw [q] at p'
      exact fun σ' R2 _ => p' σ' Hs' Hr' H' R2⟩⟩⟩
def parS (i j : Nat) (f f2 : Env → Res TV) : Env → SR := fun env => (f env).st env fun x => (f2 env).st env fun y => match toSlot (.val x.1 x.2), toSlot (.val y.1 y.2) with
  | some a, some b => .nx ((env.set i (some a)).set j (some b))
  | _, _ => .bad
theorem toSlot_val {Hse He : Hp} {env : Env} {σ : St} {Hs Hr H : Hp} (R : Rel J Hse He env σ Hs Hr H) {x : TV} {v : V} {e : EV} (r : RepT J.toGx x.1 Hs Hr H v x.2) (h : toSlot (.val x.1 x.2) = some e) : SlotOk J Hs Hr H (some (some v)) e ∧ isOwn e = false ∧ ∀ fp, OwFp J.toGx Hs H (some (some v)) fp e → fp = [] := by
  obtain ⟨t, d⟩ := x
  by_cases hi : imm d = true
  · have : toSlot (.val t d) = some (.val .s d) := if_pos hi
    rw [this] at h
    cases h
    exact ⟨⟨v, rfl, RepT.imm R.ok r hi⟩, rfl, fun _ h => h⟩
  · cases t with
    | s =>
      have : toSlot (.val .s d) = some (.val .s d) := if_neg hi
      rw [this] at h
      cases h
      exact ⟨⟨v, rfl, r⟩, rfl, fun _ h => h⟩
    | r =>
      have : toSlot (.val .r d) = some (.val .r d) := if_neg hi
      rw [this] at h
      cases h
      exact ⟨⟨v, rfl, r⟩, rfl, fun _ h => h⟩
    | h =>
      have : toSlot (.val .h d) = none := if_neg hi
      rw [this] at h
      cases h
    | o =>
      have : toSlot (.val .o d) = none := if_neg hi
      rw [this] at h
      cases h
    | n t =>
      have : toSlot (.val (.n t) d) = none := if_neg hi
      rw [this] at h
      cases h
theorem ms_par (i j : Nat) {x y : Str} {a b : Expr} {px py pt : Pos} {kt k2 pt2} (hc : X.calm = true) (nd : X.N.Nodup) (ha : MV X J a f) (hb : MV X J b f2) (hi : X.N[i]? = some x := by rfl) (hj : X.N[j]? = some y := by rfl) (hij : i ≠ j := by decide)
    (hx : X.env.scope.names.lookup x = some .local := by rfl) (hy : X.env.scope.names.lookup y = some .local := by rfl)
    (hw : swappedStores [.Tuple [.Name x px, .Name y py] kt pt] (.Tuple [a, b] k2 pt2) X.env = pure (some [x, y]) := by rfl)
    (hs : swapsWithSole [.Tuple [.Name x px, .Name y py] kt pt] (.Tuple [a, b] k2 pt2) pos.line X.env = pure false := by rfl)
    (h1 : starEach [a, b] X.env = (false, eval a X.env) :: starEach [b] X.env := by rfl) (h2 : starEach [b] X.env = (false, eval b X.env) :: starEach [] X.env := by rfl)
    (ui : Unp J i := by first | exact Unp.nil rfl | exact Unp.one rfl (by decide)) (uj : Unp J j := by first | exact Unp.nil rfl | exact Unp.one rfl (by decide)) :
    MS X J (.Assign [.Tuple [.Name x px, .Name y py] kt pt] (.Tuple [a, b] k2 pt2) pos) (parS i j f f2) := ⟨ps_imp (ps_par hc nd hi hj hij hx hy (pa_cons ha.pe (pa_cons hb.pe pa_nil h2) h1) hw hs) fun D σ H ⟨Hse, He, env, Hs, Hr, R, p⟩ =>
  ⟨Hse, He, env, Hs, Hr, R, post_st R p fun a Hs' Hr' H' x R' p' v rv => ⟨Hse, He, env, Hs', Hr', R', post_st R' p' fun b Hs2 Hr2 H2 x2 R2 p2 w rw => ⟨v, w, rfl, by
    cases q1 : toSlot (.val a.1 a.2) with
    | none => rw [q1] at p2; exact (show False from p2).elim
    | some ea =>
      cases q2 : toSlot (.val b.1 b.2) with
      | none => rw [q1, q2] at p2; exact (show False from p2).elim
      | some eb =>
        rw [q1, q2] at p2
        have s1 := toSlot_val R2 (rv.ext x2) q1
        have s2 := toSlot_val R2 rw q2
        have R3 := R2.set (i := i) s1.1 (fun fp z p hp => by rw [s1.2.2 fp z] at hp; cases hp) ui
        exact p2 _ _ _ _ (R3.set (i := j) s2.1 (fun fp z p hp => by rw [s2.2.2 fp z] at hp; cases hp) uj)⟩⟩⟩⟩

/-! ### freezing -/
def frzE (i : Nat) (env : Env) : Env := match env[i]? with
  | some (some (.own xs)) => env.set i (some (.val .s (.lst xs)))
  | some (some (.ownd ks xs)) => env.set i (some (.val .s (.dic ks xs)))
  | some (some (.ownt t)) => env.set i (some (.val .s t.d))
  | _ => env
theorem SlotOk.shareF {Hs Hr H : Hp} {fp : List Addr} {sv : Option (Option V)} (hs : ∀ p ∈ fp, Hs p = none) (hr : ∀ p ∈ fp, Hr p = none) : ∀ {e : EV}, SlotOk J Hs Hr H sv e → (∀ f, OwFp J.toGx Hs H sv f e → ∀ p ∈ f, p ∉ fp) → SlotOk J (joinF Hs H fp) (joinF Hr H fp) H sv e
  | .val .s d, ⟨v, a, b⟩, _ => ⟨v, a, b.mono (joinF_same hs)⟩
  | .val .r d, ⟨v, a, b⟩, _ => ⟨v, a, b.mono (joinF_same hr)⟩
  | .val .h d, h, _ => h
  | .val .o d, h, _ => h
  | .val (.n _) d, h, _ => h
  | .own xs, ⟨p, vs, a, b, c, r⟩, n => ⟨p, vs, a, b, by rw [joinF_out (n [p] ⟨p, a, rfl⟩ p (List.mem_singleton.mpr rfl))]; exact c, r.mono (joinF_same hs)⟩
  | .ownd ks xs, ⟨p, vs, a, b, c, k, r⟩, n => ⟨p, vs, a, b, by rw [joinF_out (n [p] ⟨p, a, rfl⟩ p (List.mem_singleton.mpr rfl))]; exact c, k, r.mono (joinF_same hs)⟩
  | .ownt t, ⟨v, f, a, r, nd, c⟩, n => ⟨v, f, a, r.mono (joinF_same hs) (Same.refl _), nd, fun p hp => by rw [joinF_out (n f ⟨v, a, r⟩ p hp)]; exact c p hp⟩
  | .exn c ks vs, ⟨a, cv, d, h1, h2, h3⟩, _ => ⟨a, cv, d, h1, h2, h3.mono (joinF_same hs)⟩
theorem Rel.shareF {Hse He : Hp} {env : Env} {σ : St} {Hs Hr H : Hp} (R : Rel J Hse He env σ Hs Hr H) {i : Nat} {fp : List Addr} {e0 e : EV} (h0 : env[i]? = some (some e0)) (hf : OwFp J.toGx Hs H σ[i]? fp e0)
    (so : SlotOk J (joinF Hs H fp) (joinF Hr H fp) H σ[i]? e) (ne : ∀ f, OwFp J.toGx (joinF Hs H fp) H σ[i]? f e → f = []) : Rel J Hse He (env.set i (some e)) σ (joinF Hs H fp) (joinF Hr H fp) H := by
  have hr : ∀ p ∈ fp, Hr p = none := fun p hp => (R.own ⟨e0, fp, h0, hf, hp⟩).2
  have hs : ∀ p ∈ fp, Hs p = none := fun p hp => R.ok.sr.free (hr p hp)
  have ob : ∀ a q, OwnAt J.toGx (joinF Hs H fp) H (env.set i (some e)) σ a q → OwnAt J.toGx Hs H env σ a q := fun a q ⟨ea, fa, h1, h2, h3⟩ => by
    rcases getElem?_set_some h1 with ⟨rfl, g1, g2⟩ | ⟨g1, g2⟩
    · cases g1
      rw [ne fa h2] at h3
      cases h3
    · exact ⟨ea, fa, g2, OwFp.back (joinF_same hs) (R.slot a ea g2) (fun _ _ _ _ _ h => h) h2, h3⟩
  exact {
    ok := R.ok.shareF hr
    len := by rw [List.length_set]; exact R.len
    slot := fun j e' h => by
      rcases getElem?_set_some h with ⟨rfl, h1, h2⟩ | ⟨h1, h2⟩
      · cases h1; exact so
      · exact (R.slot j e' h2).shareF hs hr fun f hf2 p hp hq => R.dis i j p (Ne.symm h1) ⟨e0, fp, h0, hf, hq⟩ ⟨e', f, h2, hf2, hp⟩
    dis := fun a b q n ha hb => R.dis a b q n (ob a q ha) (ob b q hb)
    se := R.se.trans (joinF_same hs)
    he := R.he.trans (joinF_same hr)
    ns := fun a o e => by
      by_cases q : a ∈ fp
      · exact .inr (R.he.free (hr a q))
      · rw [joinF_out q] at e; exact R.ns a o e
    pin := R.pin }
theorem Rel.frz {Hse He : Hp} {env : Env} {σ : St} {Hs Hr H : Hp} (R : Rel J Hse He env σ Hs Hr H) (i : Nat) : ∃ Hs' Hr', Rel J Hse He (frzE i env) σ Hs' Hr' H := by
  unfold frzE
  split
  · rename_i xs q
    obtain ⟨p, vs, a, b, c, r⟩ := R.slot i _ q
    have hs : ∀ x ∈ [p], Hs x = none := fun x hx => by cases List.mem_singleton.mp hx; exact R.ok.sr.free c
    exact ⟨_, _, R.shareF q ⟨p, a, rfl⟩ ⟨_, a, .lst ((joinF_in (List.mem_singleton.mpr rfl)).trans b) (r.mono (joinF_same hs))⟩ fun _ h => h⟩
  · rename_i ks xs q
    obtain ⟨p, kvs, a, b, c, k, r⟩ := R.slot i _ q
    have hs : ∀ x ∈ [p], Hs x = none := fun x hx => by cases List.mem_singleton.mp hx; exact R.ok.sr.free c
    refine ⟨_, _, R.shareF q ⟨p, a, rfl⟩ ⟨_, a, ?_⟩ fun _ h => h⟩
    subst k
    exact .dic (.inl ((joinF_in (List.mem_singleton.mpr rfl)).trans b)) (r.mono (joinF_same hs))
  · rename_i t q
    obtain ⟨v, fp, a, r, n, c⟩ := R.slot i _ q
    have hs : ∀ x ∈ fp, Hs x = none := fun x hx => R.ok.sr.free (c x hx)
    exact ⟨_, _, R.shareF q ⟨v, a, r⟩ ⟨_, a, r.shared (joinF_same hs) fun x hx => joinF_in hx⟩ fun _ h => h⟩
  · exact ⟨_, _, R⟩
def frzD (i : Nat) (F : Env → SR) : Env → SR := fun env => F (frzE i env)
theorem ms_frz (i : Nat) {st : Stmt} {F : Env → SR} (h : MS X J st F) : MS X J st (frzD i F) := ⟨ps_imp h.ps fun D σ H ⟨Hse, He, env, Hs, Hr, R, p⟩ =>
  let ⟨Hs', Hr', R'⟩ := R.frz i
  ⟨Hse, He, _, Hs', Hr', R', p⟩⟩

/-! ### a def's own list is changed -/
theorem SlotOk.other {Hs Hr H H' : Hp} {sv : Option (Option V)} : ∀ {e : EV}, SlotOk J Hs Hr H sv e → (∀ f, OwFp J.toGx Hs H sv f e → ∀ p ∈ f, H' p = H p) → SlotOk J Hs Hr H' sv e
  | .val .s d, h, _ => h
  | .val .r d, h, _ => h
  | .val .h d, h, _ => h
  | .val .o d, h, _ => h
  | .val (.n _) d, h, _ => h
  | .own xs, ⟨p, vs, a, b, c, r⟩, n => ⟨p, vs, a, by rw [n [p] ⟨p, a, rfl⟩ p (List.mem_singleton.mpr rfl)]; exact b, c, r⟩
  | .ownd ks xs, ⟨p, vs, a, b, c, k, r⟩, n => ⟨p, vs, a, by rw [n [p] ⟨p, a, rfl⟩ p (List.mem_singleton.mpr rfl)]; exact b, c, k, r⟩
  | .ownt t, ⟨v, f, a, r, nd, c⟩, n => ⟨v, f, a, r.frame (Same.refl _) fun p hp o h => by rw [n f ⟨v, a, r⟩ p hp]; exact h, nd, c⟩
  | .exn c ks vs, h, _ => h
theorem Rel.mut {Hse He : Hp} {env : Env} {σ : St} {Hs Hr H H' : Hp} (R : Rel J Hse He env σ Hs Hr H) {i : Nat} {fp : List Addr} {e0 e : EV} (h0 : env[i]? = some (some e0)) (hf : OwFp J.toGx Hs H σ[i]? fp e0) (hc : ∀ a, a ∉ fp → H' a = H a)
    (ht : ∀ a ∈ fp, ∀ xs, H' a ≠ some (.tup xs)) (so : SlotOk J Hs Hr H' σ[i]? e) (nw : ∀ f, OwFp J.toGx Hs H' σ[i]? f e → ∀ p ∈ f, p ∈ fp ∨ ∀ j, j ≠ i → ¬ OwnAt J.toGx Hs H env σ j p) : Rel J Hse He (env.set i (some e)) σ Hs Hr H' := by
  have hr : ∀ p ∈ fp, Hr p = none := fun p hp => (R.own ⟨e0, fp, h0, hf, hp⟩).2
  have un : ∀ j, j ≠ i → ∀ e', env[j]? = some (some e') → ∀ f, OwFp J.toGx Hs H σ[j]? f e' → ∀ p ∈ f, p ∉ fp := fun j n e' h f hf2 p hp hq => R.dis i j p (Ne.symm n) ⟨e0, fp, h0, hf, hq⟩ ⟨e', f, h, hf2, hp⟩
  have ob : ∀ a q, OwnAt J.toGx Hs H' (env.set i (some e)) σ a q → (a = i ∧ ∃ f, OwFp J.toGx Hs H' σ[i]? f e ∧ q ∈ f) ∨ (a ≠ i ∧ OwnAt J.toGx Hs H env σ a q) := fun a q ⟨ea, fa, h1, h2, h3⟩ => by
    rcases getElem?_set_some h1 with ⟨rfl, g1, g2⟩ | ⟨g1, g2⟩
    · cases g1; exact .inl ⟨rfl, fa, h2, h3⟩
    · exact .inr ⟨g1, ea, fa, g2, OwFp.back (Same.refl _) (R.slot a ea g2) (fun f hf2 p hp o h => by rw [hc p (un a g1 ea g2 f hf2 p hp)]; exact h) h2, h3⟩
  exact {
    ok := ⟨R.ok.sr, fun a o e => by
      rw [hc a fun z => by rw [hr a z] at e; cases e]
      exact R.ok.rh a o e, fun a xs h => by
      by_cases q : a ∈ fp
      · exact absurd h (ht a q xs)
      · rw [hc a q] at h; exact R.ok.ti a xs h⟩
    len := by rw [List.length_set]; exact R.len
    slot := fun j e' h => by
      rcases getElem?_set_some h with ⟨rfl, h1, h2⟩ | ⟨h1, h2⟩
      · cases h1; exact so
      · exact (R.slot j e' h2).other fun f hf2 p hp => hc p (un j h1 e' h2 f hf2 p hp)
    dis := fun a b q n ha hb => by
      rcases ob a q ha with ⟨rfl, fa, a1, a2⟩ | ⟨a1, a2⟩
      · rcases ob b q hb with ⟨rfl, _⟩ | ⟨b1, b2⟩
        · exact n rfl
        · rcases nw fa a1 q a2 with z | z
          · exact R.dis a b q n ⟨e0, fp, h0, hf, z⟩ b2
          · exact z b b1 b2
      · rcases ob b q hb with ⟨rfl, fb, b1, b2⟩ | ⟨b1, b2⟩
        · rcases nw fb b1 q b2 with z | z
          · exact R.dis a b q n a2 ⟨e0, fp, h0, hf, z⟩
          · exact z a a1 a2
        · exact R.dis a b q n a2 b2
    se := R.se
    he := R.he
    ns := R.ns
    pin := R.pin }
/-- a list, a dict of its own at p -/
theorem Rel.mut1 {Hse He : Hp} {env : Env} {σ : St} {Hs Hr H : Hp} (R : Rel J Hse He env σ Hs Hr H) {i : Nat} {p : Addr} {u' : HO} {e0 e : EV} (h0 : env[i]? = some (some e0)) (h1 : σ[i]? = some (some (.ref p))) (hf : OwFp J.toGx Hs H σ[i]? [p] e0) (hu : ∀ xs, u' ≠ .tup xs)
    (he : ∀ H' f, OwFp J.toGx Hs H' (some (some (.ref p))) f e → f = [p]) (so : SlotOk J Hs Hr (upd H p u') (some (some (.ref p))) e) : Rel J Hse He (env.set i (some e)) σ Hs Hr (upd H p u') :=
  R.mut h0 hf (fun a ha => upd_ne fun z => ha (List.mem_singleton.mpr z)) (fun a ha xs => by cases List.mem_singleton.mp ha; rw [upd_same]; exact fun z => hu xs (Option.some.inj z)) (by rw [h1]; exact so)
    fun f hf2 q hq => .inl (by rw [h1] at hf2; rw [← he _ f hf2]; exact hq)
theorem fp_own {G : Gx} {Hs : Hp} {p : Addr} {xs : List D} : ∀ H' f, OwFp G Hs H' (some (some (.ref p))) f (.own xs) → f = [p] := fun H' f ⟨q, e, h⟩ => by cases e; exact h
theorem fp_ownd {G : Gx} {Hs : Hp} {p : Addr} {ks : List Key} {xs : List D} : ∀ H' f, OwFp G Hs H' (some (some (.ref p))) f (.ownd ks xs) → f = [p] := fun H' f ⟨q, e, h⟩ => by cases e; exact h
def ownL (i : Nat) (env : Env) (k : List D → SR) : SR := match env[i]? with
  | some (some (.own xs)) => k xs
  | _ => .bad
/-- x.append(e) -/
def appS (i : Nat) (f : Env → Res TV) : Env → SR := fun env => ownL i env fun _ => (f env).st env fun x => ownL i env fun xs => if shV x = true ∧ xs.length < 16777216 then .nx (env.set i (some (.own (xs ++ [x.2])))) else .bad
theorem Rel.lstAt {Hse He : Hp} {env : Env} {σ : St} {Hs Hr H : Hp} (R : Rel J Hse He env σ Hs Hr H) {i : Nat} {M : Ends} {k : List D → SR} (p : PostS J Hse He M (ownL i env k)) :
    ∃ xs q vs, env[i]? = some (some (.own xs)) ∧ OwFp J.toGx Hs H σ[i]? [q] (.own xs) ∧ σ[i]? = some (some (.ref q)) ∧ H q = some (.lst vs) ∧ Hr q = none ∧ Reps J.toGx Hs vs xs ∧ PostS J Hse He M (k xs) := by
  unfold ownL at p
  split at p
  · rename_i xs q
    obtain ⟨a, vs, h1, h2, h3, r⟩ := R.slot i _ q
    exact ⟨xs, a, vs, q, ⟨_, h1, rfl⟩, h1, h2, h3, r, p⟩
  · exact p.elim
theorem ms_append (i : Nat) {x : Str} {px apos cpos : Pos} (h : MV X J e f) (hN : X.N[i]? = some x := by rfl) (hv : Vis X.env.scope x := by first | exact Or.inl rfl | exact Or.inr (Or.inl rfl) | exact Or.inr (Or.inr rfl)) (hd : (x == ("__debug__" : Str)) = false := by decide)
    (hcd : (x == ("__classdict__" : Str)) = false := by decide) (hs0 : starEach [e] X.env = (false, eval e X.env) :: starEach [] X.env := by rfl)
    (hbase : attributeBase (.Name x px) "append" X.env (eval (.Name x px) X.env) = eval (.Name x px) X.env := by rfl)
    (hfew : ((backTo cpos (starEach [e] X.env)).all (fun x => !x.1) && (backToKw cpos (keywordEach [] X.env)).all (fun x => x.1.isSome) && decide ([e].length + ([] : List Keyword).length + (if ([] : List Keyword).isEmpty then 0 else 1) < 30)) = true := by rfl)
    (hline : (apos.endLine == cpos.line) = true := by rfl) (hplain : (backTo cpos (starEach [] X.env)).any (·.1) = false := by rfl)
    (hs : swapsWith (.Call (.Attribute (.Name x px) "append" apos) [e] [] cpos) none pos.line X.env = pure false := by rfl) :
    MS X J (.Expr (.Call (.Attribute (.Name x px) "append" apos) [e] [] cpos) pos) (appS i f) :=
  ⟨ps_imp (ps_expr (pe_bm PySem.F.plainAttrs_list PySem.F.slot_list_append PySem.F.type_list_append mt_append (pv i hN hv hd hcd) (pa_cons h.pe pa_nil hs0) hbase hfew hline hs0 hplain) hs) fun D σ H ⟨Hse, He, env, Hs, Hr, R, p⟩ => by
    obtain ⟨xs, q, vs, h1, h2, h3, h4, h5, h6, p⟩ := R.lstAt (M := D) p
    refine ⟨_, h3, .inl ⟨rfl, vs, .inl (.inl h4)⟩, Hse, He, env, Hs, Hr, R, post_st R p fun a Hs' Hr' H' x R' p' v rv => ?_⟩
    obtain ⟨xs', q', vs', g1, g2, g3, g4, g5, g6, p'⟩ := R'.lstAt (M := D) p'
    have g3' := g3
    rw [h3] at g3'
    cases g3'
    split at p'
    · rename_i c
      refine ⟨q, vs', v, rfl, rfl, g4, by rw [sizeLine_eq, g6.length]; exact c.2, ?_⟩
      exact p' σ _ _ _ (R'.mut1 g1 g3 g2 (fun xs z => by cases z) fp_own ⟨q, _, rfl, upd_same, g5, g6.append (.cons (rv.shV R'.ok c.1) .nil)⟩)
    · exact p'.elim⟩
/-- x.extend(e) -/
def extS (i : Nat) (f : Env → Res TV) : Env → SR := fun env => ownL i env fun _ => (f env).st env fun x => ownL i env fun xs => match x.2 with
  | .lst ys => if shI x = true ∧ xs.length + ys.length ≤ 16777216 then .nx (env.set i (some (.own (xs ++ ys)))) else .bad
  | _ => .bad
theorem ms_extend (i : Nat) {x : Str} {px apos cpos : Pos} (h : MV X J e f) (hN : X.N[i]? = some x := by rfl) (hv : Vis X.env.scope x := by first | exact Or.inl rfl | exact Or.inr (Or.inl rfl) | exact Or.inr (Or.inr rfl)) (hd : (x == ("__debug__" : Str)) = false := by decide)
    (hcd : (x == ("__classdict__" : Str)) = false := by decide) (hs0 : starEach [e] X.env = (false, eval e X.env) :: starEach [] X.env := by rfl)
    (hbase : attributeBase (.Name x px) "extend" X.env (eval (.Name x px) X.env) = eval (.Name x px) X.env := by rfl)
    (hfew : ((backTo cpos (starEach [e] X.env)).all (fun x => !x.1) && (backToKw cpos (keywordEach [] X.env)).all (fun x => x.1.isSome) && decide ([e].length + ([] : List Keyword).length + (if ([] : List Keyword).isEmpty then 0 else 1) < 30)) = true := by rfl)
    (hline : (apos.endLine == cpos.line) = true := by rfl) (hplain : (backTo cpos (starEach [] X.env)).any (·.1) = false := by rfl)
    (hs : swapsWith (.Call (.Attribute (.Name x px) "extend" apos) [e] [] cpos) none pos.line X.env = pure false := by rfl) :
    MS X J (.Expr (.Call (.Attribute (.Name x px) "extend" apos) [e] [] cpos) pos) (extS i f) :=
  ⟨ps_imp (ps_expr (pe_bm PySem.F.plainAttrs_list PySem.F.slot_list_extend PySem.F.type_list_extend mt_extend (pv i hN hv hd hcd) (pa_cons h.pe pa_nil hs0) hbase hfew hline hs0 hplain) hs) fun D σ H ⟨Hse, He, env, Hs, Hr, R, p⟩ => by
    obtain ⟨xs, q, vs, h1, h2, h3, h4, h5, h6, p⟩ := R.lstAt (M := D) p
    refine ⟨_, h3, .inl ⟨rfl, vs, .inl (.inl h4)⟩, Hse, He, env, Hs, Hr, R, post_st R p fun a Hs' Hr' H' x R' p' v rv => ?_⟩
    obtain ⟨xs', q', vs', g1, g2, g3, g4, g5, g6, p'⟩ := R'.lstAt (M := D) p'
    have g3' := g3
    rw [h3] at g3'
    cases g3'
    obtain ⟨t, d⟩ := a
    dsimp only at p'
    cases d with
    | lst ys =>
      dsimp only at p'
      split at p'
      · rename_i c
        obtain ⟨b, ws, rfl, hb, rb⟩ := rv.shI R'.ok c.1
        refine ⟨q, b, vs', ws, rfl, rfl, g4, hb, by rw [sizeLine_eq, g6.length, rb.length]; exact c.2, ?_⟩
        exact p' σ _ _ _ (R'.mut1 g1 g3 g2 (fun xs z => by cases z) fp_own ⟨q, _, rfl, upd_same, g5, g6.append rb⟩)
      · exact p'.elim
    | _ => exact (show False from p').elim⟩
/-- x.reverse(), x.clear(), x.pop() -/
def revS (i : Nat) : Env → SR := fun env => ownL i env fun xs => .nx (env.set i (some (.own xs.reverse)))
def clrS (i : Nat) : Env → SR := fun env => ownL i env fun xs => .nx (env.set i (some (.own [])))
theorem ms_reverse (i : Nat) {x : Str} {px apos cpos : Pos} (hN : X.N[i]? = some x := by rfl) (hv : Vis X.env.scope x := by first | exact Or.inl rfl | exact Or.inr (Or.inl rfl) | exact Or.inr (Or.inr rfl)) (hd : (x == ("__debug__" : Str)) = false := by decide)
    (hcd : (x == ("__classdict__" : Str)) = false := by decide)
    (hbase : attributeBase (.Name x px) "reverse" X.env (eval (.Name x px) X.env) = eval (.Name x px) X.env := by rfl) (hline : (apos.endLine == cpos.line) = true := by rfl)
    (hs : swapsWith (.Call (.Attribute (.Name x px) "reverse" apos) [] [] cpos) none pos.line X.env = pure false := by rfl) :
    MS X J (.Expr (.Call (.Attribute (.Name x px) "reverse" apos) [] [] cpos) pos) (revS i) :=
  ⟨ps_imp (ps_expr (pe_bm0 PySem.F.plainAttrs_list PySem.F.slot_list_reverse PySem.F.type_list_reverse mt_reverse (pv i hN hv hd hcd) hbase hline) hs) fun D σ H ⟨Hse, He, env, Hs, Hr, R, p⟩ => by
    obtain ⟨xs, q, vs, h1, h2, h3, h4, h5, h6, p⟩ := R.lstAt (M := D) p
    refine ⟨_, h3, .inl ⟨rfl, vs, .inl (.inl h4)⟩, q, vs, rfl, rfl, h4, ?_⟩
    exact p σ _ _ _ (R.mut1 h1 h3 h2 (fun xs z => by cases z) fp_own ⟨q, _, rfl, upd_same, h5, h6.reverse⟩)⟩
theorem ms_clear (i : Nat) {x : Str} {px apos cpos : Pos} (hN : X.N[i]? = some x := by rfl) (hv : Vis X.env.scope x := by first | exact Or.inl rfl | exact Or.inr (Or.inl rfl) | exact Or.inr (Or.inr rfl)) (hd : (x == ("__debug__" : Str)) = false := by decide)
    (hcd : (x == ("__classdict__" : Str)) = false := by decide)
    (hbase : attributeBase (.Name x px) "clear" X.env (eval (.Name x px) X.env) = eval (.Name x px) X.env := by rfl) (hline : (apos.endLine == cpos.line) = true := by rfl)
    (hs : swapsWith (.Call (.Attribute (.Name x px) "clear" apos) [] [] cpos) none pos.line X.env = pure false := by rfl) :
    MS X J (.Expr (.Call (.Attribute (.Name x px) "clear" apos) [] [] cpos) pos) (clrS i) :=
  ⟨ps_imp (ps_expr (pe_bm0 PySem.F.plainAttrs_list PySem.F.slot_list_clear PySem.F.type_list_clear mt_clear (pv i hN hv hd hcd) hbase hline) hs) fun D σ H ⟨Hse, He, env, Hs, Hr, R, p⟩ => by
    obtain ⟨xs, q, vs, h1, h2, h3, h4, h5, h6, p⟩ := R.lstAt (M := D) p
    refine ⟨_, h3, .inl ⟨rfl, vs, .inl (.inl h4)⟩, q, vs, rfl, rfl, h4, ?_⟩
    exact p σ _ _ _ (R.mut1 h1 h3 h2 (fun xs z => by cases z) fp_own ⟨q, _, rfl, upd_same, h5, .nil⟩)⟩
/-- x[k] = e -/
def sixS (i : Nat) (f fi : Env → Res TV) : Env → SR := fun env => ownL i env fun _ => (f env).st env fun x => (fi env).st env fun k => ownL i env fun xs => match k.2 with
  | .int n => match ixN xs.length n with
    | some j => if shV x = true then .nx (env.set i (some (.own (xs.set j x.2)))) else .bad
    | none => .bad
  | _ => .bad
theorem ms_setIx (i : Nat) {x : Str} {ix : Expr} {px tpos : Pos} (h : MV X J e f) (hi : MV X J ix f2) (hN : X.N[i]? = some x := by rfl) (hv : Vis X.env.scope x := by first | exact Or.inl rfl | exact Or.inr (Or.inl rfl) | exact Or.inr (Or.inr rfl)) (hd : (x == ("__debug__" : Str)) = false := by decide)
    (hcd : (x == ("__classdict__" : Str)) = false := by decide)
    (ha : ∀ v, assign (.Subscript (.Name x px) ix tpos) X.env v = (do
      let ov ← holding [v] (eval (.Name x px) X.env)
      let iv ← holding [v, ov] (eval ix X.env)
      standAt tpos
      holding [v, ov, iv] (setItem ov iv v)
      release [v, ov, iv] []) := by intro _; rfl)
    (hs : swapsWithSole [.Subscript (.Name x px) ix tpos] e pos.line X.env = pure false := by rfl) (hw : swappedStores [.Subscript (.Name x px) ix tpos] e X.env = pure none := by rfl)
    (h1 : (assignEach [.Subscript (.Name x px) ix tpos] X.env).map (·.2) = [assign (.Subscript (.Name x px) ix tpos) X.env] := by rfl) :
    MS X J (.Assign [.Subscript (.Name x px) ix tpos] e pos) (sixS i f f2) :=
  ⟨ps_imp (ps_asg h.pe (pg_sub (pv i hN hv hd hcd) hi.pe set_list ha) hs hw h1) fun D σ H ⟨Hse, He, env, Hs, Hr, R, p⟩ => by
    obtain ⟨xs, q, vs, e0, e1, e2, _, _, _, p⟩ := R.lstAt (M := D) p
    refine ⟨Hse, He, env, Hs, Hr, R, post_st R p fun a Hs1 Hr1 H1 x1 R1 p1 v rv => ?_⟩
    refine ⟨_, e2, Hse, He, env, Hs1, Hr1, R1, post_st R1 p1 fun k Hs2 Hr2 H2 x2 R2 p2 w rw => ?_⟩
    obtain ⟨xs', q', vs', g1, g2, g3, g4, g5, g6, p2⟩ := R2.lstAt (M := D) p2
    have g3' := g3
    rw [e2] at g3'
    cases g3'
    obtain ⟨tk, dk⟩ := k
    dsimp only at p2
    cases dk with
    | int n =>
      dsimp only at p2
      cases hj : ixN xs'.length n with
      | none => rw [hj] at p2; exact (show False from p2).elim
      | some j =>
        rw [hj] at p2
        dsimp only at p2
        split at p2
        · rename_i c
          refine ⟨q, vs', n, j, rfl, rw.isInt R2.ok, g4, by rw [g6.length]; exact hj, ?_⟩
          exact p2 σ _ _ _ (R2.mut1 g1 g3 g2 (fun xs z => by cases z) fp_own ⟨q, _, rfl, upd_same, g5, Reps.set ((rv.ext x2).shV R2.ok c) j g6⟩)
        · exact p2.elim
    | _ => exact (show False from p2).elim⟩
end
end DL

namespace DL
open PySem PySem.Spec PyProof.Rows L2

/-! ### what is walked -/
abbrev TVs := Tg × List D
structure Enum (G : Gx) (t : Tg) (Hs0 Hr0 : Hp) (Jt : It) (ds : List D) : Prop where
  tg : t = .s ∨ t = .r
  go : ∀ Hs Hr H i, HpOk Hs Hr H → Same Hs0 Hs → Same Hr0 Hr → i < ds.length → Jt.go i H
  stop : ∀ Hs Hr H, HpOk Hs Hr H → Same Hs0 Hs → Same Hr0 Hr → Jt.stop ds.length H
  yld : ∀ Hs Hr H i x H', HpOk Hs Hr H → Same Hs0 Hs → Same Hr0 Hr → i < ds.length → Jt.yld i H x H' →
    ∃ d, ds[i]? = some d ∧ ((H' = H ∧ RepT G t Hs Hr H x d) ∨ ∃ p vs es, x = .ref p ∧ H p = none ∧ H' = upd H p (.tup vs) ∧ d = .tup es ∧ RepsT G t Hs Hr H vs es)
def iI (J : Jx) (it : Env → Res TVs) : TI := fun σ H R => ∃ Hse He env Hs Hr, Rel J Hse He env σ Hs Hr H ∧ Post J σ Hs Hr H (it env) (fun x Hs' Hr' H' => ∀ Jt, Enum J.toGx x.1 Hs' Hr' Jt x.2 → R Jt H')
structure MI (X : Cx) (J : Jx) (tg iter : Expr) (it : Env → Res TVs) : Prop where
  pi : PI X tg iter (iI J it)
theorem pi_imp {X : Cx} {tg e : Expr} {t t' : TI} (h : PI X tg e t) (i : ∀ σ H R, t' σ H R → t σ H R) : PI X tg e t' := ⟨fun pins s σ H R I q => h.run pins s σ H R I (i σ H R q)⟩
theorem pi_or {X : Cx} {tg e : Expr} {t t' : TI} (h : PI X tg e t) (h' : PI X tg e t') : PI X tg e (fun σ H R => t σ H R ∨ t' σ H R) := ⟨fun pins s σ H R I q => q.elim (h.run pins s σ H R I) (h'.run pins s σ H R I)⟩
theorem RepsT.mono' {G : Gx} {t : Tg} {Hs Hr H Hs' Hr' H' : Hp} (ht : t = .s ∨ t = .r) (a : Same Hs Hs') (b : Same Hr Hr') {vs : List V} {ds : List D} (r : RepsT G t Hs Hr H vs ds) : RepsT G t Hs' Hr' H' vs ds := by
  rcases ht with rfl | rfl
  · exact Reps.mono a r
  · exact Reps.mono b r
def nodeH (t : Tg) (Hs Hr : Hp) : Hp := match t with | .s => Hs | _ => Hr
theorem nodeH_mono {t : Tg} {Hs Hr Hs' Hr' : Hp} (a : Same Hs Hs') (b : Same Hr Hr') : Same (nodeH t Hs Hr) (nodeH t Hs' Hr') := by cases t <;> first | exact a | exact b
theorem nodeH_le {t : Tg} {Hs Hr H : Hp} (k : HpOk Hs Hr H) : Same (nodeH t Hs Hr) H := by cases t <;> first | exact k.sh | exact k.rh
theorem itT_sr {t : Tg} (h : t = .s ∨ t = .r) : itT t = t := by rcases h with rfl | rfl <;> rfl
theorem enum_seq {G : Gx} {K : PySem.W.Frag} {t : Tg} {Hs0 Hr0 : Hp} {a : Addr} {vs : List V} {ds : List D} (ht : t = .s ∨ t = .r) (h : nodeH t Hs0 Hr0 a = some (.lst vs)) (r : RepsT G t Hs0 Hr0 Hr0 vs ds) : Enum G t Hs0 Hr0 (Itl K a) ds where
  tg := ht
  go := fun Hs Hr H i k s1 s2 hi => by
    have l := (RepsT.mono' (H' := H) ht s1 s2 r).h k |>.length
    have n := nodeH_le (t := t) k _ _ (nodeH_mono s1 s2 _ _ h)
    exact ⟨vs, vs[i], .inl (.inl n), by simp [l, hi]⟩
  stop := fun Hs Hr H k s1 s2 => by
    have l := (RepsT.mono' (H' := H) ht s1 s2 r).h k |>.length
    have n := nodeH_le (t := t) k _ _ (nodeH_mono s1 s2 _ _ h)
    exact ⟨vs, .inl (.inl n), by omega⟩
  yld := fun Hs Hr H i x H' k s1 s2 hi y => by
    have n := nodeH_le (t := t) k _ _ (nodeH_mono s1 s2 _ _ h)
    obtain ⟨e, y⟩ := y
    have z := y vs (.inl (.inl n))
    have r' := RepsT.mono' (H' := H) ht s1 s2 r
    rw [← itT_sr ht] at r'
    obtain ⟨d, h1, h2⟩ := r'.get' z
    rw [itT_sr ht] at h2
    exact ⟨d, h1, .inl ⟨e, h2⟩⟩
theorem enum_tup {G : Gx} {K : PySem.W.Frag} {t : Tg} {Hs0 Hr0 : Hp} {a : Addr} {vs : List V} {ds : List D} (ht : t = .s ∨ t = .r) (h : nodeH t Hs0 Hr0 a = some (.tup vs)) (r : RepsT G t Hs0 Hr0 Hr0 vs ds) : Enum G t Hs0 Hr0 (Itt K a) ds where
  tg := ht
  go := fun Hs Hr H i k s1 s2 hi => by
    have l := (RepsT.mono' (H' := H) ht s1 s2 r).h k |>.length
    have n := nodeH_le (t := t) k _ _ (nodeH_mono s1 s2 _ _ h)
    exact ⟨vs, vs[i], .inl (.inl n), by simp [l, hi]⟩
  stop := fun Hs Hr H k s1 s2 => by
    have l := (RepsT.mono' (H' := H) ht s1 s2 r).h k |>.length
    have n := nodeH_le (t := t) k _ _ (nodeH_mono s1 s2 _ _ h)
    exact ⟨vs, .inl (.inl n), by omega⟩
  yld := fun Hs Hr H i x H' k s1 s2 hi y => by
    have n := nodeH_le (t := t) k _ _ (nodeH_mono s1 s2 _ _ h)
    obtain ⟨e, y⟩ := y
    have z := y vs (.inl (.inl n))
    have r' := RepsT.mono' (H' := H) ht s1 s2 r
    rw [← itT_sr ht] at r'
    obtain ⟨d, h1, h2⟩ := r'.get' z
    rw [itT_sr ht] at h2
    exact ⟨d, h1, .inl ⟨e, h2⟩⟩
/-- what may be walked: shared, or readable -/
def kSeq (x : TV) : Res TVs := match x.1, x.2 with
  | .s, .lst xs => .ok (.s, xs)
  | .r, .lst xs => .ok (.r, xs)
  | .s, .tup xs => .ok (.s, xs)
  | .r, .tup xs => .ok (.r, xs)
  | .h, .tup xs => if imms xs = true then .ok (.s, xs) else .bad
  | _, _ => .bad
theorem kSeq_cases {x : TV} {y : TVs} (h : kSeq x = .ok y) : (y.1 = .s ∨ y.1 = .r) ∧ ((x.2 = .lst y.2 ∧ x.1 = y.1) ∨ (x.2 = .tup y.2 ∧ (x.1 = y.1 ∨ (imms y.2 = true ∧ y.1 = .s)))) := by
  obtain ⟨t, d⟩ := x
  unfold kSeq at h
  split at h
  · rename_i q1 q2; dsimp only at q1 q2; subst q1 q2; cases h; exact ⟨.inl rfl, .inl ⟨rfl, rfl⟩⟩
  · rename_i q1 q2; dsimp only at q1 q2; subst q1 q2; cases h; exact ⟨.inr rfl, .inl ⟨rfl, rfl⟩⟩
  · rename_i q1 q2; dsimp only at q1 q2; subst q1 q2; cases h; exact ⟨.inl rfl, .inr ⟨rfl, .inl rfl⟩⟩
  · rename_i q1 q2; dsimp only at q1 q2; subst q1 q2; cases h; exact ⟨.inr rfl, .inr ⟨rfl, .inl rfl⟩⟩
  · rename_i q1 q2
    dsimp only at q1 q2
    subst q1 q2
    split at h
    · rename_i i; cases h; exact ⟨.inl rfl, .inr ⟨rfl, .inr ⟨i, rfl⟩⟩⟩
    · cases h
  · cases h
theorem seq_node {G : Gx} {Hs Hr H : Hp} {v : V} {x : TV} {y : TVs} (k : HpOk Hs Hr H) (r : RepT G x.1 Hs Hr H v x.2) (h : kSeq x = .ok y) : (y.1 = .s ∨ y.1 = .r) ∧
    ∃ a vs, v = .ref a ∧ ((x.2 = .lst y.2 ∧ nodeH y.1 Hs Hr a = some (.lst vs)) ∨ (x.2 = .tup y.2 ∧ nodeH y.1 Hs Hr a = some (.tup vs))) ∧ RepsT G y.1 Hs Hr Hr vs y.2 := by
  obtain ⟨ht, c⟩ := kSeq_cases h
  refine ⟨ht, ?_⟩
  obtain ⟨t, d⟩ := x
  obtain ⟨u, ds⟩ := y
  dsimp only at *
  rcases c with ⟨rfl, rfl⟩ | ⟨rfl, c⟩
  · rcases ht with rfl | rfl
    · cases r with | lst a b => exact ⟨_, _, rfl, .inl ⟨rfl, a⟩, b⟩
    · cases r with | lst a b => exact ⟨_, _, rfl, .inl ⟨rfl, a⟩, b⟩
  · rcases c with rfl | ⟨i, rfl⟩
    · rcases ht with rfl | rfl
      · cases r with | tup a b => exact ⟨_, _, rfl, .inr ⟨rfl, a⟩, b⟩
      · cases r with | tup a b => exact ⟨_, _, rfl, .inr ⟨rfl, a⟩, b⟩
    · have r' := RepT.imm k r (by show imms ds = true; exact i)
      cases r' with | tup a b => exact ⟨_, _, rfl, .inr ⟨rfl, a⟩, b⟩
section
variable {X : Cx} {J : Jx} {a b c e o tg iter : Expr} {es : List Expr} {pos p2 p : Pos} {f f2 : Env → Res TV} {it : Env → Res TVs}
theorem mi_seq (h : MV X J e f) : MI X J tg e (bin1 f kSeq) := ⟨pi_imp (pi_or (pi_list h.pe) (pi_tup h.pe)) fun σ H R ⟨Hse, He, env, Hs, Hr, r, q⟩ => by
  have q : Post J σ Hs Hr H ((f env).bind kSeq) _ := q
  cases hf : f env with
  | bad => rw [hf] at q; exact (show False from q).elim
  | exc c ks vs => exact .inl ⟨Hse, He, env, Hs, Hr, r, by rw [hf] at q ⊢; exact q⟩
  | ok x =>
    rw [hf] at q
    cases hk : kSeq x with
    | bad => rw [Res.bind_ok, hk] at q; exact (show False from q).elim
    | exc c ks vs => exfalso; unfold kSeq at hk; split at hk <;> first | cases hk | (split at hk <;> cases hk)
    | ok y =>
      rw [Res.bind_ok, hk] at q
      obtain ⟨ht, c⟩ := kSeq_cases hk
      rcases c with c | c
      · refine .inl ⟨Hse, He, env, Hs, Hr, r, ?_⟩
        rw [hf]
        intro Hs' Hr' H' x' v rv
        obtain ⟨_, a, vs, rfl, c', rr⟩ := seq_node x'.ok rv hk
        rcases c' with ⟨_, hn⟩ | ⟨c'', _⟩
        · exact ⟨a, rfl, ⟨vs, .inl (.inl (nodeH_le x'.ok _ _ hn))⟩, q Hs' Hr' H' x' _ (enum_seq ht hn rr)⟩
        · rw [c.1] at c''; cases c''
      · refine .inr ⟨Hse, He, env, Hs, Hr, r, ?_⟩
        rw [hf]
        intro Hs' Hr' H' x' v rv
        obtain ⟨_, a, vs, rfl, c', rr⟩ := seq_node x'.ok rv hk
        rcases c' with ⟨c'', _⟩ | ⟨_, hn⟩
        · rw [c.1] at c''; cases c''
        · exact ⟨a, rfl, ⟨vs, .inl (.inl (nodeH_le x'.ok _ _ hn))⟩, q Hs' Hr' H' x' _ (enum_tup ht hn rr)⟩⟩
def rngD (lo : Int) (n : Nat) : List D := (List.range n).map fun i => D.int (lo + (i : Nat))
theorem enum_rng {G : Gx} {Hs0 Hr0 : Hp} {lo : Int} {n : Nat} : Enum G .s Hs0 Hr0 (Itr lo n) (rngD lo n) where
  tg := .inl rfl
  go := fun Hs Hr H i k s1 s2 hi => by
    have : (rngD lo n).length = n := by simp [rngD]
    show i < n
    omega
  stop := fun Hs Hr H k s1 s2 => by
    have : (rngD lo n).length = n := by simp [rngD]
    show n ≤ _
    omega
  yld := fun Hs Hr H i x H' k s1 s2 hi y => by
    have l : (rngD lo n).length = n := by simp [rngD]
    obtain ⟨e, y⟩ := y
    subst y
    refine ⟨.int (lo + i), ?_, .inl ⟨e, .int _⟩⟩
    unfold rngD
    rw [List.getElem?_map, List.getElem?_range (by omega)]
    rfl
def kRng1 (xs : List TV) : Res TVs := match xs with
  | [(_, .int j)] => if -(2 ^ 60) ≤ j ∧ j < 2 ^ 60 then .ok (.s, rngD 0 j.toNat) else .bad
  | _ => .bad
def kRng2 (xs : List TV) : Res TVs := match xs with
  | [(_, .int i), (_, .int j)] => if -(2 ^ 60) ≤ i ∧ i < 2 ^ 60 ∧ -(2 ^ 60) ≤ j ∧ j < 2 ^ 60 then .ok (.s, rngD i (j - i).toNat) else .bad
  | _ => .bad
variable {F : Env → Res (List TV)}
theorem wishI {R : It → Hp → Prop} : Wish (fun (_ : Hp) (x : TVs) (Hs' Hr' H' : Hp) => ∀ Jt, Enum J.toGx x.1 Hs' Hr' Jt x.2 → R Jt H') := fun _ _ _ _ _ _ _ h => h
theorem mi_rng1 (hm : X.mg "range" = none) (ha : MA X J [a] F) (hg : Gl X "range" := by rfl) (hs : starEach [a] X.env = [(false, eval a X.env)] := by rfl) : MI X J tg (.Call (.Name "range" p) [a] [] pos) (thenK F kRng1) :=
  ⟨pi_imp (pi_range1 hg hm ha.pa hs) fun σ H R n => runA (J := J) wishI n fun vs H1 _ _ _ Hs Hr xs _ r rv q => by
    unfold kRng1 at q
    split at q
    · rename_i t j
      obtain ⟨v, rfl, rr⟩ := rv.one
      cases rr.isInt r.ok
      split at q
      · rename_i hj
        exact ⟨j, rfl, by omega, by omega, Post.now r.ok q _ enum_rng⟩
      · exact (show False from q).elim
    · exact (show False from q).elim⟩
theorem mi_rng2 (hm : X.mg "range" = none) (ha : MA X J [a, b] F) (hg : Gl X "range" := by rfl) (hs : starEach [a, b] X.env = [(false, eval a X.env), (false, eval b X.env)] := by rfl) (hs2 : starEach [b] X.env = [(false, eval b X.env)] := by rfl) :
    MI X J tg (.Call (.Name "range" p) [a, b] [] pos) (thenK F kRng2) :=
  ⟨pi_imp (pi_range2 hg hm ha.pa hs hs2) fun σ H R n => runA (J := J) wishI n fun vs H1 _ _ _ Hs Hr xs _ r rv q => by
    unfold kRng2 at q
    split at q
    · rename_i t i u j
      obtain ⟨v, w, rfl, r1, r2⟩ := rv.two
      cases r1.isInt r.ok
      cases r2.isInt r.ok
      split at q
      · rename_i hj
        exact ⟨i, j, rfl, by omega, Post.now r.ok q _ enum_rng⟩
      · exact (show False from q).elim
    · exact (show False from q).elim⟩
/-! reversed -/
def kRevI (x : TV) : Res TVs := (kSeq x).bind fun y => .ok (y.1, y.2.reverse)
theorem getElem?_rev {α : Type} {l : List α} {i : Nat} (h : i < l.length) : l.reverse[i]? = l[l.length - 1 - i]? := by
  rw [List.getElem?_reverse h]
theorem enum_rev {G : Gx} {K : PySem.W.Frag} {t : Tg} {Hs0 Hr0 : Hp} {a : Addr} {vs : List V} {ds : List D} (ht : t = .s ∨ t = .r) (h : nodeH t Hs0 Hr0 a = some (.lst vs)) (r : RepsT G t Hs0 Hr0 Hr0 vs ds) : Enum G t Hs0 Hr0 (Itv K a vs.length) ds.reverse where
  tg := ht
  go := fun Hs Hr H i k s1 s2 hi => by
    have l := (RepsT.mono' (H' := H) ht s1 s2 r).h k |>.length
    have n := nodeH_le (t := t) k _ _ (nodeH_mono s1 s2 _ _ h)
    rw [List.length_reverse] at hi
    have h0 : vs.length - 1 - i < vs.length := by omega
    exact ⟨by omega, vs, vs[vs.length - 1 - i], .inl (.inl n), by simp [h0]⟩
  stop := fun Hs Hr H k s1 s2 => by
    have l := (RepsT.mono' (H' := H) ht s1 s2 r).h k |>.length
    show vs.length ≤ _
    rw [List.length_reverse]
    omega
  yld := fun Hs Hr H i x H' k s1 s2 hi y => by
    have l := (RepsT.mono' (H' := H) ht s1 s2 r).h k |>.length
    have n := nodeH_le (t := t) k _ _ (nodeH_mono s1 s2 _ _ h)
    obtain ⟨e, y⟩ := y
    have z := y vs (.inl (.inl n))
    have r' := RepsT.mono' (H' := H) ht s1 s2 r
    rw [← itT_sr ht] at r'
    obtain ⟨d, h1, h2⟩ := r'.get' z
    rw [itT_sr ht] at h2
    rw [List.length_reverse] at hi
    exact ⟨d, by rw [getElem?_rev hi, ← l]; exact h1, .inl ⟨e, h2⟩⟩
theorem enum_revT {G : Gx} {K : PySem.W.Frag} {t : Tg} {Hs0 Hr0 : Hp} {a : Addr} {vs : List V} {ds : List D} (ht : t = .s ∨ t = .r) (h : nodeH t Hs0 Hr0 a = some (.tup vs)) (r : RepsT G t Hs0 Hr0 Hr0 vs ds) : Enum G t Hs0 Hr0 (RT.ItvT K a vs.length) ds.reverse where
  tg := ht
  go := fun Hs Hr H i k s1 s2 hi => by
    have l := (RepsT.mono' (H' := H) ht s1 s2 r).h k |>.length
    have n := nodeH_le (t := t) k _ _ (nodeH_mono s1 s2 _ _ h)
    rw [List.length_reverse] at hi
    have h0 : vs.length - 1 - i < vs.length := by omega
    exact ⟨by omega, vs, vs[vs.length - 1 - i], .inl (.inl n), by simp [h0]⟩
  stop := fun Hs Hr H k s1 s2 => by
    have l := (RepsT.mono' (H' := H) ht s1 s2 r).h k |>.length
    show vs.length ≤ _
    rw [List.length_reverse]
    omega
  yld := fun Hs Hr H i x H' k s1 s2 hi y => by
    have l := (RepsT.mono' (H' := H) ht s1 s2 r).h k |>.length
    have n := nodeH_le (t := t) k _ _ (nodeH_mono s1 s2 _ _ h)
    obtain ⟨e, y⟩ := y
    have z := y vs (.inl (.inl n))
    have r' := RepsT.mono' (H' := H) ht s1 s2 r
    rw [← itT_sr ht] at r'
    obtain ⟨d, h1, h2⟩ := r'.get' z
    rw [itT_sr ht] at h2
    rw [List.length_reverse] at hi
    exact ⟨d, by rw [getElem?_rev hi, ← l]; exact h1, .inl ⟨e, h2⟩⟩
theorem mi_rev (hm : X.mg "reversed" = none) (h : MV X J e f) (hg : Gl X "reversed" := by rfl) (hs : starEach [e] X.env = (false, eval e X.env) :: starEach [] X.env := by rfl) : MI X J tg (.Call (.Name "reversed" p) [e] [] pos) (bin1 f kRevI) :=
  ⟨pi_imp (RT.pi_revA hg hm h.pe hs) fun σ H R n => run1 (J := J) wishI n fun v H1 _ _ _ Hs Hr x _ r rv q => by
    unfold kRevI at q
    cases hk : kSeq x with
    | bad => rw [hk] at q; exact (show False from q).elim
    | exc c ks vs => exfalso; unfold kSeq at hk; split at hk <;> first | cases hk | (split at hk <;> cases hk)
    | ok y =>
      rw [hk] at q
      obtain ⟨ht, a, vs, rfl, c', rr⟩ := seq_node r.ok rv hk
      rcases c' with ⟨_, hn⟩ | ⟨_, hn⟩
      · exact ⟨a, vs, rfl, .inl ⟨.inl (.inl (nodeH_le r.ok _ _ hn)), Post.now r.ok q _ (enum_rev ht hn rr)⟩⟩
      · exact ⟨a, vs, rfl, .inr ⟨.inl (.inl (nodeH_le r.ok _ _ hn)), Post.now r.ok q _ (enum_revT ht hn rr)⟩⟩⟩

/-! ### for -/
theorem Rel.rebase {Hse He : Hp} {env0 env : Env} {σ0 σ : St} {Hs0 Hr0 H0 Hs Hr H : Hp} (R0 : Rel J Hse He env0 σ0 Hs0 Hr0 H0) (R : Rel J Hs0 Hr0 env σ Hs Hr H) : Rel J Hse He env σ Hs Hr H where
  ok := R.ok
  len := R.len
  slot := R.slot
  dis := R.dis
  se := R0.se.trans R.se
  he := R0.he.trans R.he
  ns := fun a o e => by
    rcases R.ns a o e with h | h
    · exact R0.ns a o h
    · exact .inr (R0.he.free h)
  pin := R.pin
theorem Rel.base {Hse He : Hp} {env : Env} {σ : St} {Hs Hr H : Hp} (R : Rel J Hse He env σ Hs Hr H) : Rel J Hs Hr env σ Hs Hr H := ⟨R.ok, R.len, R.slot, R.dis, Same.refl _, Same.refl _, fun _ _ e => .inl e, R.pin⟩
theorem Ret.rebase {Hse He Hs0 Hr0 Hs' H' : Hp} (se : Same Hse Hs0) (he : Same He Hr0) (ns : ∀ a o, Hs0 a = some o → Hse a = some o ∨ He a = none) (r : Ret Hs0 Hr0 Hs' H') : Ret Hse He Hs' H' :=
  ⟨se.trans r.s, he.trans r.h, r.sh, r.ti, fun a o e => by
    rcases r.ns a o e with h | h
    · exact ns a o h
    · exact .inr (he.free h)⟩
theorem PostS.rebase {Hse He : Hp} {env0 : Env} {σ0 : St} {Hs0 Hr0 H0 : Hp} {D : Ends} (R0 : Rel J Hse He env0 σ0 Hs0 Hr0 H0) : ∀ {r : SR}, PostS J Hse He D r → PostS J Hs0 Hr0 D r
  | .nx env, p => fun σ Hs Hr H R => p σ Hs Hr H (R0.rebase R)
  | .bk env, p => fun σ Hs Hr H R => p σ Hs Hr H (R0.rebase R)
  | .ct env, p => fun σ Hs Hr H R => p σ Hs Hr H (R0.rebase R)
  | .exc c ks vs env, p => fun cv d σ Hs Hr H R e => p cv d σ Hs Hr H (R0.rebase R) e
  | .bad, p => p
  | .rt e env, p => fun σ Hs Hr H R => by
    have p := p σ Hs Hr H (R0.rebase R)
    cases e with
    | val t d => cases t <;> exact p
    | own xs => exact fun q vs a b c r => p q vs a b (R0.he.free c) r
    | ownd ks xs => exact fun q vs a b c k r => p q vs a b (R0.he.free c) k r
    | ownt t => exact fun v fp a b c d => p v fp a b c fun q hq => R0.he.free (d q hq)
    | exn c ks vs => exact p
def forD (g : TV → Env → Option Env) (b : Env → SR) (t : Tg) : List D → Env → SR
  | [], env => .nx env
  | d :: r, env => match g (t, d) env with
    | none => .bad
    | some e1 => match b e1 with
      | .nx e => forD g b t r e
      | .ct e => forD g b t r e
      | .bk e => .nx e
      | x => x
def forS (it : Env → Res TVs) (g : TV → Env → Option Env) (b : Env → SR) : Env → SR := fun env => (it env).st env fun x => forD g b x.1 x.2 env
variable {g : TV → Env → Option Env} {B : Env → SR} {body : List Stmt}
/-- the item, the tuple that is made on the way -/
theorem item_ext {Hse He : Hp} {env : Env} {σ : St} {Hs Hr H H' : Hp} {t : Tg} {x : V} {d : D} (ht : t = .s ∨ t = .r) (R : Rel J Hse He env σ Hs Hr H) (h : (H' = H ∧ RepT J.toGx t Hs Hr H x d) ∨ ∃ p vs es, x = .ref p ∧ H p = none ∧ H' = upd H p (.tup vs) ∧ d = .tup es ∧ RepsT J.toGx t Hs Hr H vs es) :
    ∃ Hs' Hr', Ext Hs Hr H Hs' Hr' H' ∧ RepT J.toGx t Hs' Hr' H' x d := by
  rcases h with ⟨rfl, r⟩ | ⟨p, vs, es, rfl, hp, rfl, rfl, r⟩
  · exact ⟨Hs, Hr, Ext.refl R.ok, r⟩
  · have x := Ext.new (o := .tup vs) R.ok hp
    exact ⟨_, _, x, RepT.mkTup (by rcases ht with rfl | rfl <;> simp) x.ok upd_same (r.ext x)⟩
theorem ms_for {sl : List Nat} (po : PassesOwn (model X.prog X.w) X.A X.env X.xe) (hc : X.calm = true) (hi : MI X J tg iter it) (hg : MG X J tg sl g) (hb : MSs X J body B) (hs : ∀ x, foldedSetIterable iter X.env x = pure x := by intro _; rfl) :
    MS X J (.For tg iter body [] pos) (forS it g B) := ⟨ps_imp (ps_for po hc hi.pi hg.pg hb.ps hs) fun D σ H ⟨Hse, He, env, Hs, Hr, R, p⟩ => by
  refine ⟨Hse, He, env, Hs, Hr, R, post_st R p fun x Hs0 Hr0 H0 x0 R0 p0 Jt En => ?_⟩
  have p0 := p0.rebase R0
  refine ⟨fun i m σ H => ∃ env Hs Hr, Rel J Hs0 Hr0 env σ Hs Hr H ∧ m = x.2.length - i ∧ i ≤ x.2.length ∧ PostS J Hs0 Hr0 D (forD g B x.1 (x.2.drop i) env), ⟨x.2.length, env, Hs0, Hr0, R0.base, by simp, Nat.zero_le _, p0⟩, ?_⟩
  rintro i m σ1 H1 ⟨env1, Hs1, Hr1, R1, rfl, hi, p1⟩
  by_cases hlt : i < x.2.length
  · refine .inr ⟨En.go Hs1 Hr1 H1 i R1.ok R1.se R1.he hlt, fun σ' H' => ∃ m', m' < x.2.length - i ∧ ∃ env Hs Hr, Rel J Hs0 Hr0 env σ' Hs Hr H' ∧ m' = x.2.length - (i + 1) ∧ i + 1 ≤ x.2.length ∧ PostS J Hs0 Hr0 D (forD g B x.1 (x.2.drop (i + 1)) env), fun σ' H' h => h, fun v H2 y => ?_⟩
    obtain ⟨d, hd, yy⟩ := En.yld Hs1 Hr1 H1 i v H2 R1.ok R1.se R1.he hlt y
    obtain ⟨Hs2, Hr2, x2, rv⟩ := item_ext En.tg R1 yy
    have R2 := R1.ext x2
    refine ⟨Hs0, Hr0, env1, Hs2, Hr2, (x.1, d), R2, rv, ?_⟩
    have ed : x.2.drop i = d :: x.2.drop (i + 1) := by
      have e1 := List.drop_eq_getElem_cons hlt
      rw [e1]
      congr 1
      have := (List.getElem?_eq_some_iff.mp hd).2
      exact this
    rw [ed] at p1
    unfold forD at p1
    cases hg1 : g (x.1, d) env1 with
    | none => rw [hg1] at p1; exact (show False from p1).elim
    | some e1 =>
      rw [hg1] at p1
      dsimp only at p1
      refine fun σ3 R3 _ => ⟨Hs0, Hr0, e1, Hs2, Hr2, R3, ?_⟩
      cases hB : B e1 with
      | nx e => rw [hB] at p1; exact fun σ' Hs Hr H R => ⟨x.2.length - (i + 1), by omega, e, Hs, Hr, R, rfl, by omega, p1⟩
      | ct e => rw [hB] at p1; exact fun σ' Hs Hr H R => ⟨x.2.length - (i + 1), by omega, e, Hs, Hr, R, rfl, by omega, p1⟩
      | bk e => rw [hB] at p1; exact p1
      | rt e e' => rw [hB] at p1; exact p1
      | exc c ks vs e => rw [hB] at p1; exact p1
      | bad => rw [hB] at p1; exact p1
  · have e : i = x.2.length := by omega
    subst e
    refine .inl ⟨En.stop Hs1 Hr1 H1 R1.ok R1.se R1.he, ?_⟩
    rw [List.drop_length] at p1
    exact p1 σ1 Hs1 Hr1 H1 R1⟩

/-! ### while -/
def whileN (c : Env → Res Bool) (b : Env → SR) : Nat → Env → SR
  | 0, _ => .bad
  | n + 1, env => (c env).st env fun z => if z = true then (match b env with
      | .nx e => whileN c b n e
      | .ct e => whileN c b n e
      | .bk e => .nx e
      | x => x) else .nx env
def SR.isBad : SR → Bool
  | .bad => true
  | _ => false
theorem whileN_more (c : Env → Res Bool) (b : Env → SR) : ∀ (n : Nat) (env : Env), (whileN c b n env).isBad = false → whileN c b (n + 1) env = whileN c b n env
  | 0, env, h => by cases h
  | n + 1, env, h => by
    rw [whileN] at h
    rw [whileN.eq_2 c b env (n + 1), whileN.eq_2 c b env n]
    cases hc : c env with
    | ok z =>
      rw [hc] at h
      cases z with
      | false => rfl
      | true =>
        simp only [Res.st_ok, if_true] at h ⊢
        cases hb : b env with
        | nx e => rw [hb] at h; exact whileN_more c b n e h
        | ct e => rw [hb] at h; exact whileN_more c b n e h
        | _ => rfl
    | _ => rfl
theorem whileN_le (c : Env → Res Bool) (b : Env → SR) {n m : Nat} {env : Env} (h : (whileN c b n env).isBad = false) (l : n ≤ m) : whileN c b m env = whileN c b n env := by
  induction m with
  | zero => rw [Nat.le_zero.mp l]
  | succ m ih =>
    rcases Nat.lt_or_ge n (m + 1) with q | q
    · have e := ih (by omega)
      rw [whileN_more c b m env (by rw [e]; exact h), e]
    · rw [Nat.le_antisymm l q]
open Classical in
noncomputable def whileS (c : Env → Res Bool) (b : Env → SR) : Env → SR := fun env => if h : ∃ n, (whileN c b n env).isBad = false then whileN c b (Classical.choose h) env else .bad
theorem whileS_of {c : Env → Res Bool} {b : Env → SR} {env : Env} {r : SR} (n : Nat) (h : whileN c b n env = r) (hb : r.isBad = false) : whileS c b env = r := by
  have ex : ∃ n, (whileN c b n env).isBad = false := ⟨n, by rw [h]; exact hb⟩
  unfold whileS
  rw [dif_pos ex]
  have q := Classical.choose_spec ex
  rcases Nat.le_total n (Classical.choose ex) with l | l
  · rw [whileN_le c b (by rw [h]; exact hb) l, h]
  · rw [← h, whileN_le c b q l]
theorem whileS_get {c : Env → Res Bool} {b : Env → SR} {env : Env} (h : (whileS c b env).isBad = false) : ∃ n, whileN c b n env = whileS c b env := by
  unfold whileS at h ⊢
  split at h
  · rename_i ex
    rw [dif_pos ex]
    exact ⟨_, rfl⟩
  · cases h
theorem ms_while {ft : Env → Res Bool} (po : PassesOwn (model X.prog X.w) X.A X.env X.xe) (hc : MT X J c ft) (hb : MSs X J body B) : MS X J (.While c body [] pos) (whileS ft B) := ⟨ps_imp (ps_while po hc.pt hb.ps) fun D σ H ⟨Hse, He, env, Hs, Hr, R, p⟩ => by
  have nb : (whileS ft B env).isBad = false := by
    cases q : whileS ft B env with
    | bad => rw [q] at p; exact (show False from p).elim
    | _ => rfl
  obtain ⟨n, hn⟩ := whileS_get nb
  rw [← hn] at p
  refine ⟨fun m σ H => ∃ env Hs Hr, Rel J Hse He env σ Hs Hr H ∧ PostS J Hse He D (whileN ft B m env), ⟨n, env, Hs, Hr, R, p⟩, ?_⟩
  rintro m σ1 H1 ⟨env1, Hs1, Hr1, R1, p1⟩
  cases m with
  | zero => exact (show False from p1).elim
  | succ m =>
    rw [whileN] at p1
    refine ⟨Hse, He, env1, Hs1, Hr1, R1, post_st R1 p1 fun z Hs2 Hr2 H2 x2 R2 p2 => ?_⟩
    show if z = true then _ else _
    cases z with
    | false => exact p2 σ1 Hs2 Hr2 H2 R2
    | true =>
      rw [if_pos rfl] at p2
      rw [if_pos rfl]
      refine ⟨fun σ' H' => ∃ m', m' < m + 1 ∧ ∃ env Hs Hr, Rel J Hse He env σ' Hs Hr H' ∧ PostS J Hse He D (whileN ft B m' env), fun σ' H' h => h, Hse, He, env1, Hs2, Hr2, R2, ?_⟩
      cases hB : B env1 with
      | nx e => rw [hB] at p2; exact fun σ' Hs Hr H R => ⟨m, by omega, e, Hs, Hr, R, p2⟩
      | ct e => rw [hB] at p2; exact fun σ' Hs Hr H R => ⟨m, by omega, e, Hs, Hr, R, p2⟩
      | bk e => rw [hB] at p2; exact p2
      | rt e e' => rw [hB] at p2; exact p2
      | exc c ks vs e => rw [hB] at p2; exact p2
      | bad => rw [hB] at p2; exact p2⟩
end
end DL

namespace DL
open PySem PySem.Spec PyProof.Rows L2

/-! ### comprehensions -/
/-- what is walked while the heap only grows -/
structure EnumH (G : Gx) (t : Tg) (Hs0 Hr0 H0 : Hp) (Jt : It) (ds : List D) : Prop where
  tg : t = .s ∨ t = .r
  go : ∀ Hs Hr H i, HpOk Hs Hr H → Same Hs0 Hs → Same Hr0 Hr → Same H0 H → i < ds.length → Jt.go i H
  stop : ∀ Hs Hr H, HpOk Hs Hr H → Same Hs0 Hs → Same Hr0 Hr → Same H0 H → Jt.stop ds.length H
  yld : ∀ Hs Hr H i x H', HpOk Hs Hr H → Same Hs0 Hs → Same Hr0 Hr → Same H0 H → i < ds.length → Jt.yld i H x H' →
    ∃ d, ds[i]? = some d ∧ ((H' = H ∧ RepT G t Hs Hr H x d) ∨ ∃ p vs es, x = .ref p ∧ H p = none ∧ H' = upd H p (.tup vs) ∧ d = .tup es ∧ RepsT G t Hs Hr H vs es)
theorem Enum.toH {G : Gx} {t : Tg} {Hs0 Hr0 H0 : Hp} {Jt : It} {ds : List D} (e : Enum G t Hs0 Hr0 Jt ds) : EnumH G t Hs0 Hr0 H0 Jt ds :=
  ⟨e.tg, fun Hs Hr H i k a b _ h => e.go Hs Hr H i k a b h, fun Hs Hr H k a b _ => e.stop Hs Hr H k a b, fun Hs Hr H i x H' k a b _ h y => e.yld Hs Hr H i x H' k a b h y⟩
def iO (J : Jx) (it : Env → Res TVs) : TI := fun σ H R => ∃ Hse He env Hs Hr, Rel J Hse He env σ Hs Hr H ∧ Post J σ Hs Hr H (it env) (fun x Hs' Hr' H' => ∀ Jt, EnumH J.toGx x.1 Hs' Hr' H' Jt x.2 → R Jt H')
structure MIO (X : Cx) (J : Jx) (tg iter : Expr) (it : Env → Res TVs) : Prop where
  pi : PI X tg iter (iO J it)
theorem MI.toO {X : Cx} {J : Jx} {tg iter : Expr} {it : Env → Res TVs} (h : MI X J tg iter it) : MIO X J tg iter it :=
  ⟨pi_imp h.pi fun σ H R ⟨Hse, He, env, Hs, Hr, r, q⟩ => ⟨Hse, He, env, Hs, Hr, r, q.imp fun _ _ _ _ _ p Jt e => p Jt e.toH⟩⟩
/-- an own list walked, too -/
def shs : List OD → Bool
  | [] => true
  | .sh _ :: r => shs r
  | _ => false
theorem reps_shs {G : Gx} {Hs H : Hp} : ∀ {ts : List OD} {vs : List V} {fp : List Addr}, shs ts = true → OReps G Hs H vs ts fp → Reps G Hs vs (OD.ds ts)
  | [], _, _, _, .nil => by rw [OD.ds]; exact .nil
  | .sh d :: r, _, _, h, .cons (.sh a) b => by rw [OD.ds, OD.d]; exact .cons a (reps_shs (ts := r) h b)
  | .lst _ :: _, _, _, h, _ => by cases (show false = true from h)
  | .tup _ :: _, _, _, h, _ => by cases (show false = true from h)
  | .dic _ _ :: _, _, _, h, _ => by cases (show false = true from h)
  | .obj _ _ _ :: _, _, _, h, _ => by cases (show false = true from h)
def kSeqO (x : TV) : Res TVs := match x.1, x.2 with
  | .o, .lst xs => .ok (.s, xs)
  | .n (.lst ts), .lst xs => if shs ts = true then .ok (.s, xs) else .bad
  | _, _ => kSeq x
theorem kSeqO_cases (x : TV) : kSeqO x = kSeq x ∨ (∃ xs, x = (.o, .lst xs) ∧ kSeqO x = .ok (.s, xs)) ∨ (∃ ts xs, x = (.n (.lst ts), .lst xs) ∧ shs ts = true ∧ kSeqO x = .ok (.s, xs)) ∨ kSeqO x = .bad := by
  obtain ⟨t, d⟩ := x
  cases t with
  | h => exact .inl rfl
  | r => exact .inl rfl
  | s => exact .inl rfl
  | o => cases d <;> first | exact .inl rfl | exact .inr (.inl ⟨_, rfl, rfl⟩)
  | n t =>
    cases t with
    | lst ts =>
      cases d with
      | lst xs =>
        by_cases h : shs ts = true
        · exact .inr (.inr (.inl ⟨ts, xs, rfl, h, if_pos h⟩))
        · exact .inr (.inr (.inr (if_neg h)))
      | _ => exact .inl rfl
    | _ => cases d <;> exact .inl rfl
theorem enumH_own {G : Gx} {K : PySem.W.Frag} {a : Addr} {Hs' Hr' H' : Hp} {vs : List V} {xs : List D} (hn : H' a = some (.lst vs)) (rr : Reps G Hs' vs xs) : EnumH G .s Hs' Hr' H' (Itl K a) xs where
  tg := .inl rfl
  go := fun Hs Hr H i k s1 s2 s3 hi => ⟨vs, vs[i]'(by rw [rr.length]; exact hi), .inl (.inl (s3 _ _ hn)), by simp [rr.length, hi]⟩
  stop := fun Hs Hr H k s1 s2 s3 => ⟨vs, .inl (.inl (s3 _ _ hn)), by have l := rr.length; omega⟩
  yld := fun Hs Hr H i x H' k s1 s2 s3 hi y => by
    obtain ⟨e, y⟩ := y
    obtain ⟨d, h1, h2⟩ := (rr.mono s1).get' (y vs (.inl (.inl (s3 _ _ hn))))
    exact ⟨d, h1, .inl ⟨e, h2⟩⟩
theorem mio_seq {X : Cx} {J : Jx} {tg e : Expr} {f : Env → Res TV} (h : MV X J e f) : MIO X J tg e (bin1 f kSeqO) := by
  refine ⟨pi_imp (pi_or (pi_list h.pe) (mi_seq (tg := tg) h).toO.pi) fun σ H R ⟨Hse, He, env, Hs, Hr, r, q⟩ => ?_⟩
  have q : Post J σ Hs Hr H ((f env).bind kSeqO) _ := q
  cases hf : f env with
  | bad => rw [hf] at q; exact (show False from q).elim
  | exc c ks vs => exact .inl ⟨Hse, He, env, Hs, Hr, r, by rw [hf] at q ⊢; exact q⟩
  | ok x =>
    rcases kSeqO_cases x with c | ⟨xs, rfl, c⟩ | ⟨ts, xs, rfl, sh, c⟩ | c
    · refine .inr ⟨Hse, He, env, Hs, Hr, r, ?_⟩
      have e : (bin1 f kSeq) env = (bin1 f kSeqO) env := by
        show (f env).bind kSeq = (f env).bind kSeqO
        rw [hf, Res.bind_ok, Res.bind_ok, c]
      rw [e]
      exact q
    · rw [hf, Res.bind_ok, c] at q
      refine .inl ⟨Hse, He, env, Hs, Hr, r, ?_⟩
      rw [hf]
      intro Hs' Hr' H' x' v rv
      obtain ⟨a, vs, rfl, hn, rr⟩ := rv
      exact ⟨a, rfl, ⟨vs, .inl (.inl hn)⟩, q Hs' Hr' H' x' _ (enumH_own hn rr)⟩
    · rw [hf, Res.bind_ok, c] at q
      refine .inl ⟨Hse, He, env, Hs, Hr, r, ?_⟩
      rw [hf]
      intro Hs' Hr' H' x' v rv
      obtain ⟨ed, fp, ro⟩ := rv
      rw [OD.d] at ed
      cases ed
      cases ro with
      | lst hn rr => exact ⟨_, rfl, ⟨_, .inl (.inl hn)⟩, q Hs' Hr' H' x' _ (enumH_own hn (reps_shs sh rr))⟩
    · rw [hf, Res.bind_ok, c] at q
      exact (show False from q).elim
/-- within: nothing is let out -/
abbrev Jx.in0 (J : Jx) : Jx := { J with W := fun _ _ _ _ => False }
def wipeE (env : Env) : List Nat → Env
  | [] => env
  | v :: vs => (wipeE env vs).set v none
def lcD (g : TV → Env → Option Env) (c : Env → Res Bool) (el : Env → Res TV) (t : Tg) (env0 : Env) : List D → Res (List D)
  | [] => .ok []
  | d :: r => match g (t, d) env0 with
    | none => .bad
    | some e1 => match c e1 with
      | .ok true => match el e1 with
        | .ok x => if shV x = true then (match lcD g c el t env0 r with | .ok l => .ok (x.2 :: l) | _ => .bad) else .bad
        | _ => .bad
      | .ok false => lcD g c el t env0 r
      | _ => .bad
def lcK (g : TV → Env → Option Env) (c : Env → Res Bool) (el : Env → Res TV) (env0 : Env) (x : TVs) : Res EV := match lcD g c el x.1 env0 x.2 with
  | .ok l => if l.length ≤ 16777216 then .ok (.own l) else .bad
  | _ => .bad
def lcS (it : Env → Res TVs) (own : List Nat) (g : TV → Env → Option Env) (c : Env → Res Bool) (el : Env → Res TV) : Env → Res EV := fun env => (it env).bind (lcK g c el (wipeE env own))
def yes : Env → Res Bool := fun _ => .ok true
structure MTs (X : Cx) (J : Jx) (ifs : List Expr) (c : Env → Res Bool) : Prop where
  pt : PTs X ifs (tT J c)
theorem pts_imp {X : Cx} {e : List Expr} {t t' : TT} (h : PTs X e t) (i : ∀ σ H Q, t' σ H Q → t σ H Q) : PTs X e t' := ⟨fun pins s σ H Q I q => h.run pins s σ H Q I (i σ H Q q)⟩
section
variable {X : Cx} {J : Jx} {tg iter elt : Expr} {it : Env → Res TVs} {g : TV → Env → Option Env} {c : Env → Res Bool} {el : Env → Res TV}
theorem mts_nil : MTs X J [] yes := ⟨pts_imp pts_nil fun σ H Q ⟨_, _, _, _, _, R, p⟩ => Post.now (a := true) R.ok p⟩
theorem mts_one {e : Expr} (h : MT X J e c) : MTs X J [e] c := ⟨pts_one h.pt⟩
theorem wipeE_len (env : Env) : ∀ vs : List Nat, (wipeE env vs).length = env.length
  | [] => rfl
  | v :: vs => by unfold wipeE; rw [List.length_set, wipeE_len env vs]
theorem wipeE_some {env : Env} {i : Nat} {x : EV} : ∀ {vs : List Nat}, (wipeE env vs)[i]? = some (some x) → env[i]? = some (some x) ∧ i ∉ vs
  | [], h => ⟨h, by simp⟩
  | v :: vs, h => by
    unfold wipeE at h
    rcases getElem?_set_some h with ⟨rfl, h1, _⟩ | ⟨h1, h2⟩
    · cases h1
    · obtain ⟨a, b⟩ := wipeE_some h2
      exact ⟨a, by simp only [List.mem_cons, not_or]; exact ⟨h1, b⟩⟩
theorem wipe_get {σ : St} {i : Nat} : ∀ {vs : List Nat}, i ∉ vs → (wipe σ vs)[i]? = σ[i]?
  | [], _ => rfl
  | v :: vs, h => by
    simp only [List.mem_cons, not_or] at h
    unfold wipe
    rw [List.getElem?_set_ne (Ne.symm h.1)]
    exact wipe_get h.2
theorem SlotOk.in0 {Hs Hr H : Hp} {sv : Option (Option V)} : ∀ {e : EV}, SlotOk J Hs Hr H sv e → SlotOk J.in0 Hs Hr H sv e
  | .val .s d, h => h
  | .val .r d, h => h
  | .val .h d, h => h
  | .val .o d, h => h
  | .own xs, h => h
  | .ownd ks xs, h => h
  | .ownt t, h => h
  | .val (.n _) d, h => h
  | .exn c ks vs, h => h
theorem Rel.wipe {Hse He : Hp} {env : Env} {σ : St} {Hs Hr H : Hp} (R : Rel J Hse He env σ Hs Hr H) (vs : List Nat) (up : ∀ i ∈ vs, Unp J i) : Rel J.in0 Hs Hr (wipeE env vs) (wipe σ vs) Hs Hr H where
  ok := R.ok
  len := by rw [wipeE_len, wipe_length]; exact R.len
  slot := fun i e h => by
    obtain ⟨a, b⟩ := wipeE_some h
    rw [wipe_get b]
    exact (R.slot i e a).in0
  dis := fun i j p n ha hb => by
    obtain ⟨ea, fa, a1, a2, a3⟩ := ha
    obtain ⟨eb, fb, b1, b2, b3⟩ := hb
    obtain ⟨x1, y1⟩ := wipeE_some a1
    obtain ⟨x2, y2⟩ := wipeE_some b1
    rw [wipe_get y1] at a2
    rw [wipe_get y2] at b2
    exact R.dis i j p n ⟨ea, fa, x1, a2, a3⟩ ⟨eb, fb, x2, b2, b3⟩
  se := Same.refl _
  he := Same.refl _
  ns := fun _ _ e => .inl e
  pin := fun q hq => by rw [wipe_get fun z => up q.1 z q.2 hq]; exact R.pin q hq
theorem beside_wipe {σ σ' : St} {sl vs : List Nat} (b : Beside sl (L2.wipe σ vs) σ') (h : ∀ j ∈ sl, j ∈ vs) : L2.wipe σ' vs = L2.wipe σ vs := by
  apply List.ext_getElem?
  intro i
  by_cases hi : i ∈ vs
  · have f : ∀ (ρ : St) (ws : List Nat), i ∈ ws → i < ρ.length → (L2.wipe ρ ws)[i]? = some none := by
      intro ρ ws
      induction ws with
      | nil => exact fun h => absurd h (by simp)
      | cons v ws ih =>
        intro hm hl
        show ((L2.wipe ρ ws).set v none)[i]? = _
        by_cases e : v = i
        · subst e; rw [List.getElem?_set_self (by rw [wipe_length]; exact hl)]
        · rw [List.getElem?_set_ne e]
          exact ih ((List.mem_cons.mp hm).resolve_left fun z => e z.symm) hl
    by_cases hl : i < σ.length
    · rw [f σ vs hi hl, f σ' vs hi (by rw [b.1, wipe_length]; exact hl)]
    · rw [List.getElem?_eq_none (by rw [wipe_length, b.1, wipe_length]; omega), List.getElem?_eq_none (by rw [wipe_length]; omega)]
  · rw [wipe_get hi, b.2 i fun z => hi (h i z), wipe_get hi]
/-- the reading of a comprehension -/
theorem run_lc {sl own : List Nat} (hsl : ∀ j ∈ sl, j ∈ own) (up : ∀ i ∈ own, Unp J i) {σ : St} {H : Hp} {Q : VK} (n : tE J (lcS it own g c el) σ H Q) :
    tLc (iO J it) (tG J.in0 sl g) (tT J.in0 c) (tV J.in0 el) own σ H Q := by
  obtain ⟨Hse, He, env, Hs, Hr, R, p⟩ := n
  refine ⟨Hse, He, env, Hs, Hr, R, (Post.bind p).imp fun x Hs1 Hr1 H1 e1 p1 Jt En D hD => ?_⟩
  have R1 := (R.ext e1).wipe own up
  unfold lcK at p1
  cases hl : lcD g c el x.1 (wipeE env own) x.2 with
  | bad => rw [hl] at p1; exact (show False from p1).elim
  | exc _ _ _ => rw [hl] at p1; exact (show False from p1).elim
  | ok whole =>
    rw [hl] at p1
    dsimp only at p1
    split at p1
    · rename_i hlim
      have x0 := Ext.new0 (o := .lst []) e1.ok hD fun xs z => by cases z
      refine ⟨fun i m H2 => ∃ Hs2 Hr2 acc accV rest, Ext Hs1 Hr1 H1 Hs2 Hr2 H2 ∧ H2 D = some (.lst accV) ∧ Hr2 D = none ∧ Reps J.toGx Hs2 accV acc ∧ m = x.2.length - i ∧ i ≤ x.2.length ∧ lcD g c el x.1 (wipeE env own) (x.2.drop i) = .ok rest ∧ whole = acc ++ rest,
        ⟨x.2.length, Hs1, Hr1, [], [], whole, x0, upd_same, e1.ok.none_r hD, .nil, by simp, Nat.zero_le _, hl, rfl⟩, ?_⟩
      rintro i m H2 ⟨Hs2, Hr2, acc, accV, rest, e2, hD2, hDr, racc, rfl, hi, hr, hw⟩
      have R2 : Rel J.in0 Hs1 Hr1 (wipeE env own) (wipe σ own) Hs2 Hr2 H2 := R1.ext e2
      by_cases hlt : i < x.2.length
      · refine .inr ⟨En.go Hs2 Hr2 H2 i e2.ok e2.s e2.r e2.h hlt, fun H' => ∃ m', m' < x.2.length - i ∧ ∃ Hs2 Hr2 acc accV rest, Ext Hs1 Hr1 H1 Hs2 Hr2 H' ∧ H' D = some (.lst accV) ∧ Hr2 D = none ∧ Reps J.toGx Hs2 accV acc ∧ m' = x.2.length - (i + 1) ∧ i + 1 ≤ x.2.length ∧ lcD g c el x.1 (wipeE env own) (x.2.drop (i + 1)) = .ok rest ∧ whole = acc ++ rest, fun H' h => h, fun v H3 y => ?_⟩
        obtain ⟨d, hd, yy⟩ := En.yld Hs2 Hr2 H2 i v H3 e2.ok e2.s e2.r e2.h hlt y
        obtain ⟨Hs3, Hr3, e3, rv⟩ := item_ext (J := J.in0) En.tg R2 yy
        have R3 := R2.ext e3
        have ed : x.2.drop i = d :: x.2.drop (i + 1) := by
          have e1 := List.drop_eq_getElem_cons hlt
          rw [e1]
          congr 1
          exact (List.getElem?_eq_some_iff.mp hd).2
        rw [ed, lcD] at hr
        refine ⟨Hs1, Hr1, wipeE env own, Hs3, Hr3, (x.1, d), R3, rv, ?_⟩
        cases hg : g (x.1, d) (wipeE env own) with
        | none => rw [hg] at hr; cases hr
        | some en =>
          rw [hg] at hr
          dsimp only at hr ⊢
          refine fun σ4 R4 bs => ⟨beside_wipe bs hsl, Hs1, Hr1, en, Hs3, Hr3, R4, ?_⟩
          cases hc : c en with
          | exc _ _ _ => rw [hc] at hr; cases hr
          | bad => rw [hc] at hr; cases hr
          | ok b =>
            rw [hc] at hr
            intro Hs5 Hr5 H5 e5
            have e25 := (e2.trans e3).trans e5
            have hD5 : H5 D = some (.lst accV) := e5.h _ _ (e3.h _ _ hD2)
            have hDr3 : Hr3 D = none := e3.still hD2 hDr
            have hDr5 : Hr5 D = none := e5.still (e3.h _ _ hD2) hDr3
            show if b = true then _ else _
            cases b with
            | false =>
              dsimp only at hr
              exact ⟨x.2.length - (i + 1), by omega, Hs5, Hr5, acc, accV, rest, e25, hD5, hDr5, racc.mono (e3.s.trans e5.s), rfl, by omega, hr, hw⟩
            | true =>
              dsimp only at hr
              rw [if_pos rfl]
              refine ⟨Hs1, Hr1, en, Hs5, Hr5, R4.ext e5, ?_⟩
              cases he : el en with
              | exc _ _ _ => rw [he] at hr; cases hr
              | bad => rw [he] at hr; cases hr
              | ok z =>
                rw [he] at hr
                intro Hs6 Hr6 H6 e6 w rw'
                dsimp only at hr
                split at hr
                · rename_i hsh
                  have hD6 : H6 D = some (.lst accV) := e6.h _ _ hD5
                  have hDr6 : Hr6 D = none := e6.still hD5 hDr5
                  cases hr2 : lcD g c el x.1 (wipeE env own) (x.2.drop (i + 1)) with
                  | exc _ _ _ => rw [hr2] at hr; cases hr
                  | bad => rw [hr2] at hr; cases hr
                  | ok l =>
                    rw [hr2] at hr
                    cases hr
                    have lw : whole.length = acc.length + (l.length + 1) := by rw [hw, List.length_append, List.length_cons]
                    have e16 := e25.trans e6
                    refine ⟨accV, hD6, by rw [sizeLine_eq, racc.length]; omega, x.2.length - (i + 1), by omega, Hs6, Hr6, acc ++ [z.2], accV ++ [w], l, ?_, upd_same, hDr6, ?_, rfl, by omega, rfl, by rw [hw]; simp⟩
                    · refine ⟨e16.s, e16.r, Same.upd e16.h hD, ⟨e16.ok.sr, Same.upd e16.ok.rh hDr6, fun a xs h => ?_⟩, e16.ns, e16.nr⟩
                      by_cases q : a = D
                      · subst q; rw [upd_same] at h; cases h
                      · rw [upd_ne q] at h; exact e16.ok.ti a xs h
                    · exact ((racc.mono (e3.s.trans e5.s)).mono e6.s).append (.cons (rw'.shV e6.ok hsh) .nil)
                · cases hr
      · have e : i = x.2.length := by omega
        subst e
        refine .inl ⟨En.stop Hs2 Hr2 H2 e2.ok e2.s e2.r e2.h, ?_⟩
        rw [List.drop_length, lcD] at hr
        cases hr
        rw [List.append_nil] at hw
        subst hw
        exact p1 Hs2 Hr2 H2 e2 D accV hD2 hDr (e1.h.free hD) racc
    · exact (show False from p1).elim
theorem me_lc {scope : Scope} {own : List (Str × Nat)} {ifs : List Expr} {pos : Pos} {sl : List Nat} (hc : X.calm = true) (nd : X.N.Nodup) (hi : MIO X J tg iter it) (ok : BlkOk X.N X.env.scope scope own) (hsl : ∀ j ∈ sl, j ∈ own.map (·.2))
    (hg : ∀ (s : Shared) (H : Hp) (C : Addr) (cl : List (Str × Addr)) (fp : List Addr), MG (X.blk s H scope (compEnvC scope cl C X.env) fp) J.in0 tg sl g)
    (ht : ∀ (s : Shared) (H : Hp) (C : Addr) (cl : List (Str × Addr)) (fp : List Addr), MTs (X.blk s H scope (compEnvC scope cl C X.env) fp) J.in0 ifs c)
    (he : ∀ (s : Shared) (H : Hp) (C : Addr) (cl : List (Str × Addr)) (fp : List Addr), MV (X.blk s H scope (compEnvC scope cl C X.env) fp) J.in0 elt el) (hs : ∀ x, foldedSetIterable iter X.env x = pure x := by intro _; rfl)
    (up : ∀ i ∈ own.map (·.2), Unp J i := by first | exact fun _ _ => Unp.nil rfl | exact fun i h => Unp.one rfl (by rintro rfl; revert h; decide)) :
    ME X J (.ListComp elt [⟨tg, iter, ifs, 0⟩] scope pos) (lcS it (own.map (·.2)) g c el) :=
  ⟨pe_imp (pe_lc hc nd hi.pi ok (fun s H C cl fp => (hg s H C cl fp).pg) (fun s H C cl fp => (ht s H C cl fp).pt) (fun s H C cl fp => (he s H C cl fp).pe) hs) fun σ H Q n => run_lc hsl up n⟩
theorem ms_setLc (i : Nat) {y : Str} {py : Pos} {scope : Scope} {own : List (Str × Nat)} {ifs : List Expr} {pos spos : Pos} {sl : List Nat} (hc : X.calm = true) (nd : X.N.Nodup) (hi : MIO X J tg iter it) (ok : BlkOk X.N X.env.scope scope own) (hsl : ∀ j ∈ sl, j ∈ own.map (·.2))
    (hg : ∀ (s : Shared) (H : Hp) (C : Addr) (cl : List (Str × Addr)) (fp : List Addr), MG (X.blk s H scope (compEnvC scope cl C X.env) fp) J.in0 tg sl g)
    (ht : ∀ (s : Shared) (H : Hp) (C : Addr) (cl : List (Str × Addr)) (fp : List Addr), MTs (X.blk s H scope (compEnvC scope cl C X.env) fp) J.in0 ifs c)
    (he : ∀ (s : Shared) (H : Hp) (C : Addr) (cl : List (Str × Addr)) (fp : List Addr), MV (X.blk s H scope (compEnvC scope cl C X.env) fp) J.in0 elt el)
    (hy : X.N[i]? = some y := by rfl) (hyl : X.env.scope.names.lookup y = some .local := by rfl)
    (hsw : swapsWith (.ListComp elt [⟨tg, iter, ifs, 0⟩] scope pos) (some (.Name y py)) spos.line X.env = pure true := by exact sw_true rfl rfl rfl (by decide +kernel)) (hs : ∀ x, foldedSetIterable iter X.env x = pure x := by intro _; rfl)
    (up : ∀ i ∈ own.map (·.2), Unp J i := by first | exact fun _ _ => Unp.nil rfl | exact fun i h => Unp.one rfl (by rintro rfl; revert h; decide)) (ui : Unp J i := by first | exact Unp.nil rfl | exact Unp.one rfl (by decide)) :
    MS X J (.Assign [.Name y py] (.ListComp elt [⟨tg, iter, ifs, 0⟩] scope pos) spos) (setS i (lcS it (own.map (·.2)) g c el)) :=
  ⟨ps_imp (ps_setLc hc nd hy hyl hsw hi.pi ok (fun s H C cl fp => (hg s H C cl fp).pg) (fun s H C cl fp => (ht s H C cl fp).pt) (fun s H C cl fp => (he s H C cl fp).pe) hs) fun D σ H ⟨Hse, He, env, Hs, Hr, R, p⟩ => run_lc hsl up ⟨Hse, He, env, Hs, Hr, R, post_put R ui p⟩⟩
theorem good_blk {n : Nat} (gd : Good X J n) {s : Shared} {H : Hp} {scope : Scope} {fp : List Addr} {cenv' : PySem.Env} : Good (X.blk s H scope cenv' fp) J.in0 n where
  K := gd.K
  nd := gd.nd
  hu := gd.hu
  tk := takes0
  room := gd.room
  calm := gd.calm
  po := PassesOwn.never
end

/-! ### dicts as they are written -/
section
variable {X : Cx} {J : Jx} {a b : Expr} {pos : Pos} {f f2 : Env → Res TV}
def dict0 : Env → Res EV := fun _ => .ok (.ownd [] [])
theorem me_dict0 : ME X J (.Dict [] [] pos) dict0 := ⟨pe_imp pe_dnewK fun σ H Q ⟨Hse, He, env, Hs, Hr, R, p⟩ q hq =>
  p _ _ _ (Ext.new0 (o := .dK []) R.ok hq fun xs z => by cases z) q [] upd_same (R.ok.none_r hq) hq rfl .nil⟩
def keyOf : D → Option Key
  | .int i => some (.inl i)
  | .str x => some (.inr x)
  | _ => none
theorem key_rep {G : Gx} {H : Hp} {v : V} {d : D} {k : Key} (r : Rep G H v d) (h : keyOf d = some k) : v = kV k := by
  cases r <;> first | (cases h; done) | (cases h; rfl)
def kDict1 (x y : TV) : Res EV := match keyOf x.2 with
  | some k => if shV y = true then .ok (.ownd [k] [y.2]) else .bad
  | none => .bad
theorem me_dict1 (ha : MV X J a f) (hb : MV X J b f2) : ME X J (.Dict [some a] [b] pos) (bin2 f f2 kDict1) := ⟨pe_imp (pe_disp (pps_cons ha.pe hb.pe pps_nil) (by rfl) (by rfl) (fun z => by cases z) (by simp)) fun σ H Q ⟨Hse, He, env, Hs, Hr, R, p⟩ q hq => by
  have x0 := Ext.new0 (o := .dK []) R.ok hq fun xs z => by cases z
  have R0 := R.ext x0
  have p : Post J σ Hs Hr H ((f env).bind fun x => (f2 env).bind fun y => kDict1 x y) (SE J H Q) := p
  refine ⟨Hse, He, env, Hs, Hr, R0, ?_⟩
  cases hf : f env with
  | bad => rw [hf] at p; exact p
  | exc c ks vs => rw [hf] at p; exact fun cv d Hs' Hr' H' x e => p cv d Hs' Hr' H' (x0.trans x) e
  | ok x =>
    rw [hf, Res.bind_ok] at p
    refine fun Hs1 Hr1 H1 e1 v rv => ⟨Hse, He, env, Hs1, Hr1, R0.ext e1, ?_⟩
    cases hf2 : f2 env with
    | bad => rw [hf2] at p; exact p
    | exc c ks vs => rw [hf2] at p; exact fun cv d Hs' Hr' H' x e => p cv d Hs' Hr' H' ((x0.trans e1).trans x) e
    | ok y =>
      rw [hf2, Res.bind_ok] at p
      refine fun Hs2 Hr2 H2 e2 w rw' => ?_
      have hq2 : H2 q = some (.dK []) := e2.h _ _ (e1.h _ _ upd_same)
      have hr2 : Hr2 q = none := e2.still (e1.h _ _ upd_same) (e1.still upd_same (R.ok.none_r hq))
      show H2 q = some (.dK []) ∧ _
      refine ⟨hq2, ?_⟩
      unfold kDict1 at p
      cases hk : keyOf x.2 with
      | none => rw [hk] at p; exact (show False from p).elim
      | some k =>
        rw [hk] at p
        dsimp only at p
        split at p
        · rename_i hsh
          have ev := key_rep ((rv.ext e2).h e2.ok) hk
          subst ev
          refine ⟨[(k, w)], rfl, by simp, ?_⟩
          have e02 := (x0.trans e1).trans e2
          refine p Hs2 Hr2 (upd H2 q (.dK (mergeK [] [(k, w)]))) ?_ q _ upd_same hr2 hq rfl (.cons (rw'.shV e2.ok hsh) .nil)
          refine ⟨e02.s, e02.r, Same.upd e02.h hq, ⟨e02.ok.sr, Same.upd e02.ok.rh hr2, fun a xs h => ?_⟩, e02.ns, e02.nr⟩
          by_cases z : a = q
          · subst z; rw [upd_same] at h; cases h
          · rw [upd_ne z] at h; exact e02.ok.ti a xs h
        · exact (show False from p).elim⟩
end

/-! ### defs -/
/-- a def at an address as a function of data -/
structure FnA (P : Program) (w : World) (G : Gx) (mg : Str → Option Value) (base : Heap) (f : Addr) (n ar : Nat) (F : List EV → Res EV) : Prop where
  ok : ∃ fd ps, Binds G.K fd ps [] ∧ FnOk P w G.K mg base (L2.CX P w) n f fd ps (SpD G ar F)
theorem FnA.d {P : Program} {w : World} {G : Gx} {mg : Str → Option Value} {base : Heap} {f : Addr} {n ar : Nat} {F : List EV → Res EV} (h : FnA P w G mg base f n ar F) {x : Str} (hm : mg x = some (.ref f)) (hk : PySem.W.keepIn G.K (.ref f) = true) : FnD P w G mg base x n ar F := by
  obtain ⟨fd, ps, b, k⟩ := h.ok
  exact ⟨f, fd, ps, hm, hk, b, k⟩
def outD : SR → Res EV
  | .nx _ => .ok (.val .s .non)
  | .rt e _ => .ok e
  | .exc c ks vs _ => .exc c ks vs
  | _ => .bad
def runD (nN : Nat) (FB : Env → SR) (args : List EV) : Res EV := outD (FB (args.map some ++ List.replicate (nN - args.length) none))
abbrev Gx.j (G : Gx) (E : XK) : Jx := { G with W := fun cls d _ H => E cls d H, xa := none, pin := [] }
theorem argsOk_get {G : Gx} {Hs H : Hp} : ∀ {args : List EV} {vs : List V} {i : Nat} {e : EV}, ArgsOk G Hs H vs args → args[i]? = some e → ∃ v, vs[i]? = some v ∧ ArgOk G Hs H v e
  | [], _, i, e, _, h => by simp at h
  | x :: r, _, 0, e, ⟨v, w, q, a, b⟩, h => by subst q; simp at h; subst h; exact ⟨v, rfl, a⟩
  | x :: r, _, i + 1, e, ⟨v, w, q, a, b⟩, h => by
    subst q
    obtain ⟨u, h1, h2⟩ := argsOk_get b (i := i) (by simpa using h)
    exact ⟨u, by simpa using h1, h2⟩
theorem start_get {α : Type} {xs : List α} {n i : Nat} {e : α} (h : (xs.map some ++ List.replicate n none)[i]? = some (some e)) : xs[i]? = some e := by
  by_cases hi : i < xs.length
  · rw [List.getElem?_append_left (by simpa using hi)] at h
    simpa using h
  · rw [List.getElem?_append_right (by simpa using hi)] at h
    rw [List.getElem?_replicate] at h
    split at h <;> cases h
theorem post_out {J : Jx} {Hs H : Hp} {Q : VK} {E : XK} (hW : J.W = fun cls d _ H => E cls d H) : ∀ {r : SR}, PostR J.toGx Hs H (outD r) Q E → PostS J Hs H { nx := fun _ H' => Q .non H', rt := Q } r
  | .nx env, p => fun σ Hs' Hr' H' R => p _ Hs' H' R.ret .non
  | .rt e env, p => fun σ Hs' Hr' H' R => by
    cases e with
    | val t d => cases t <;> exact fun v r => p v Hs' H' R.ret r
    | own xs => exact fun q vs a b c r => p q vs Hs' H' R.ret a b c r
    | ownd ks xs => exact fun q vs a b c k r => p q vs Hs' H' R.ret a b c k r
    | ownt t => exact fun v fp a b c d => p v fp Hs' H' R.ret a b c d
    | exn c ks vs => exact p
  | .exc c ks vs env, p => fun cv d σ Hs' Hr' H' R e => by rw [hW]; exact p cv d Hs' H' R.ret e
  | .bk env, p => p.elim
  | .ct env, p => p.elim
  | .bad, p => p.elim
theorem start_rel {G : Gx} {N ps : List Str} {FB : Env → SR} {Hs H : Hp} {vs : List V} {args : List EV} {Q : VK} {E : XK} (k : HpOk Hs H H) (l : args.length = ps.length) (a : ArgsOk G Hs H vs args) (p : PostR G Hs H (runD N.length FB args) Q E) :
    tS (G.j E) FB { nx := fun _ H' => Q .non H', rt := Q } (L2.start N vs) H := by
  refine ⟨Hs, H, args.map some ++ List.replicate (N.length - args.length) none, Hs, H, ⟨k, ?_, fun i e he => ?_, fun i j q ne ha hb => ?_, Same.refl _, Same.refl _, fun _ _ e => .inl e, fun q hq => by cases hq⟩, post_out rfl p⟩
  · unfold L2.start
    simp [argsOk_len a]
  · obtain ⟨v, h1, h2⟩ := argsOk_get a (start_get he)
    have hs : (L2.start N vs)[i]? = some (some v) := by
      unfold L2.start
      have hi : i < vs.length := (List.getElem?_eq_some_iff.mp h1).1
      rw [List.getElem?_append_left (by simpa using hi)]
      simp [h1]
    rw [hs]
    cases e with
    | val t d => cases t <;> first | exact ⟨v, rfl, h2⟩ | exact h2.elim
    | _ => exact h2.elim
  · obtain ⟨e, fp, h1, h2, h3⟩ := ha
    obtain ⟨v, g1, g2⟩ := argsOk_get a (start_get h1)
    cases e with
    | val t d => cases (show fp = [] from h2); cases h3
    | _ => exact g2.elim
/-- THE RULE for a def: its body as a function of the data environment -/
theorem fn_ok {P : Program} {w : World} {G : Gx} {mg : Str → Option Value} {base : Heap} {x qual : Str} {st : Stmt} {f : Addr} {fd : FuncData} {N ps : List Str} {n : Nat} {FB : Env → SR} (F : L2.Fun G.K x qual st f fd) (S : FnScope N ps (defScope st))
    (hb : ∀ (cdv : Value) (A : Around) (outer : List PySem.Env) (s : Shared) (H : Hp) (E : XK), Good (cxOf (L2.CX P w) P w G.K mg base N qual (defScope st) f cdv A outer s H E) (G.j E) n →
      MSs (cxOf (L2.CX P w) P w G.K mg base N qual (defScope st) f cdv A outer s H E) (G.j E) (defBody st) FB) : FnOk P w G.K mg base (L2.CX P w) (n + 1) f fd ps (SpD G ps.length (runD N.length FB)) := by
  refine F.okX S (fun vs H Q E h => ?_) (fun cdv A outer s H vs Q E hr h => ⟨tS (G.j E) FB, (hb cdv A outer s H E ?_).ps, ?_⟩)
  · obtain ⟨args, Hs, k, l, a, p⟩ := h
    rw [argsOk_len a, l]
  · exact { K := rfl, nd := S.nd, hu := by have := hr.un; show A.units + 3 + 65 < _; (have h2 : (A.deeper (envOfC qual (defScope st) s.heap.objs.size f cdv)).units = A.units + 3 := rfl); omega, tk := takes_of rfl rfl rfl rfl, room := hr, calm := rfl, po := passes_of rfl }
  · obtain ⟨args, Hs, k, l, a, p⟩ := h
    exact start_rel k l a p
theorem fn_def {P : Program} {w : World} {G : Gx} {mg : Str → Option Value} {base : Heap} {x qual : Str} {st : Stmt} {f : Addr} {fd : FuncData} {N ps : List Str} {n : Nat} {FB : Env → SR} (F : L2.Fun G.K x qual st f fd) (S : FnScope N ps (defScope st)) (b : Binds G.K fd ps [])
    (hb : ∀ (cdv : Value) (A : Around) (outer : List PySem.Env) (s : Shared) (H : Hp) (E : XK), Good (cxOf (L2.CX P w) P w G.K mg base N qual (defScope st) f cdv A outer s H E) (G.j E) n →
      MSs (cxOf (L2.CX P w) P w G.K mg base N qual (defScope st) f cdv A outer s H E) (G.j E) (defBody st) FB) : FnA P w G mg base f (n + 1) ps.length (runD N.length FB) :=
  ⟨fd, ps, b, fn_ok F S hb⟩
/-- the law's own promise -/
def SpLaw (K : PySem.W.Frag) : Sp := fun vs H Q _ => ∃ (a : Addr) (ns : List Int), vs = [.ref a] ∧ SqL K H a (ns.map V.int) ∧ ns.length ≤ 63 ∧ ∀ H', Q (.bl true) H'
theorem law_ok {P : Program} {w : World} {G : Gx} {mg : Str → Option Value} {base : Heap} {f : Addr} {fd : FuncData} {ps : List Str} {n : Nat} {F : List EV → Res EV} (h : FnOk P w G.K mg base (L2.CX P w) n f fd ps (SpD G 1 F))
    (hF : ∀ ns : List Int, ns.length ≤ 63 → ∃ t, F [.val .s (.scr ns)] = .ok (.val t (.bl true))) : FnOk P w G.K mg base (L2.CX P w) n f fd ps (SpLaw G.K) :=
  h.imp fun vs H Q E ⟨a, ns, e, hs, hl, q⟩ => by
    subst e
    -- tuples that stand are none but those tracked: all of H is shared
    refine ⟨[.val .s (.scr ns)], H, ⟨Same.refl _, Same.refl _, fun _ _ e => e⟩, rfl, ⟨_, _, rfl, .scr hs, rfl⟩, ?_⟩
    obtain ⟨t, ht⟩ := hF ns hl
    rw [ht]
    cases t with
    | s => exact fun v Hs' H' x r => by cases r; exact q H'
    | _ => exact fun v Hs' H' x r => by cases r; exact q H'
theorem cx_no {P : Program} {w : World} (H : Hp) (s : Shared) (e : Value) (s' : Shared) (h : L2.CX P w [] H s (fun _ _ _ => False) e s') : False := by
  obtain ⟨_, _, _, _, _, _, _, _, _, _, _, _, z⟩ := h
  exact z
theorem walk_law {l : PySem.W.OpenLaw} {k : Nat} {q : Program} {loose : List Str} {XP : (Str → Option Value) → Heap → Prop} {YP : World → Heap → Prop} {d : DefRec} {K : Params → PySem.W.Frag} {x : Str}
    (hn : l.most = some 63) (hdf : d.params.defaults = []) (hr : Room k callerA) (hY : ∀ (w : World) (h : Heap), YP w h → (K w.params).In h)
    (F : ∀ (w : World) (mg : Str → Option Value) (fa : Addr) (h : Heap), (K w.params).In h → h.Ns mainGlobals mg → mg d.name = some (.ref fa) →
      ∃ fd : FuncData, (∀ (s : Shared) (u : Value), BindsTo s fd ⟨[u], []⟩ [(x, u)]) ∧
        ∀ base : Heap, (K w.params).In base → base.Ns mainGlobals mg → FnOk l.prog w (K w.params) mg base (L2.CX l.prog w) k fa fd [x] (SpLaw (K w.params))) :
    PySem.W.WalkO q loose XP YP l.row.toRowW d [] (fun f vs => PySem.call f vs) :=
  L2.walk_of (n := 63) (K := K) (CX := fun w => L2.CX l.prog w) (sp := fun w => SpLaw (K w.params)) hn (by decide) hdf hr hY F (fun _ _ a ns hl _ hS => ⟨a, ns, rfl, hS, hl, fun _ => rfl⟩) fun w H s e s' => cx_no H s e s'
end DL

namespace DL
open PySem PySem.Spec PyProof.Rows L2

/-! ### zip of two, each a list or a tuple -/
def SqK (k : Bool) (K : PySem.W.Frag) (H : Hp) (a : Addr) (xs : List V) : Prop := match k with
  | true => SqT K H a xs
  | false => SqL K H a xs
def AtK (k : Bool) (h : Heap) (i a : Addr) (n : Nat) : Prop := match k with
  | true => h.IsTupleIter i a n
  | false => h.IsListIter i a n
def IsK (k : Bool) (h : Heap) (a : Addr) (its : Array Value) : Prop := match k with
  | true => h.IsTuple a its
  | false => h.IsList a its
theorem AtK.obj {k : Bool} {h : Heap} {i a : Addr} {n : Nat} (q : AtK k h i a n) : ∃ o, h.get? i = some o ∧ ∀ v, o.data ≠ .cell v := by
  cases k with
  | true => obtain ⟨o, e, _, d⟩ := q; exact ⟨o, e, fun v z => by rw [d] at z; cases z⟩
  | false => obtain ⟨o, e, _, d⟩ := q; exact ⟨o, e, fun v z => by rw [d] at z; cases z⟩
theorem AtK.at {k : Bool} {h h' : Heap} {i a : Addr} {n : Nat} (q : AtK k h i a n) (e : ∀ o, h.get? i = some o → h'.get? i = some o) : AtK k h' i a n := by
  cases k with
  | true => exact Heap.IsTupleIter.at q e
  | false => exact Heap.IsListIter.at q e
theorem drawsK {prog : Program} {w : World} {A : Around} (hh : A.handled = none) (k : Bool) (i a : Addr) (ne : a ≠ i) (its : Array Value) :
    Draws prog w A i [i, a] its.size (fun j v => its[j]? = some v) (fun j h => AtK k h i a j ∧ IsK k h a its) := by
  cases k with
  | true => exact Draws.tuple hh i a ne its
  | false => exact Draws.list hh i a ne its
section
variable {X : Cx} {pins : List (Addr × Obj)} {σ : L2.St} {H : Hp} {s : Shared} {a : Addr} {xs ys : List V}
theorem inv_sq {k : Bool} (I : Inv X pins σ H s) (q : SqK k X.K H a xs) : ∃ its : List Value, Vals xs its ∧ IsK k s.heap a its.toArray ∧ a < s.heap.objs.size := by
  cases k with
  | true =>
    obtain ⟨its, r, p, _⟩ := I.tuple q
    obtain ⟨o, e, _⟩ := id p
    exact ⟨its, r, p, Heap.lt_size e⟩
  | false =>
    obtain ⟨its, r, p, _⟩ := I.list q
    exact ⟨its, r, p.isList, p.lt⟩
theorem sq_inj {k : Bool} (I : Inv X pins σ H s) (q : SqK k X.K H a xs) (q' : SqK k X.K H a ys) : xs = ys := by
  cases k with
  | true => exact I.tuple_inj q q'
  | false => exact I.list_inj q q'
end
/-- what a round of it yields -/
def ItZ (k l : Bool) (K : PySem.W.Frag) (a b : Addr) : It :=
  ⟨fun i H => ∃ (xs ys : List V) (x y : V), SqK k K H a xs ∧ SqK l K H b ys ∧ xs[i]? = some x ∧ ys[i]? = some y,
   fun i H v H' => ∃ p x y, v = .ref p ∧ H p = none ∧ H' = upd H p (.tup [x, y]) ∧ (∀ xs, SqK k K H a xs → xs[i]? = some x) ∧ (∀ ys, SqK l K H b ys → ys[i]? = some y),
   fun i H => ∃ xs ys : List V, SqK k K H a xs ∧ SqK l K H b ys ∧ i ≤ xs.length ∧ i ≤ ys.length ∧ (i = xs.length ∨ i = ys.length)⟩
/-- the zip's five cells -/
structure ZCells (h : Heap) (k l : Bool) (z ti tt p q a b : Addr) (i : Nat) : Prop where
  zip : IsZip h z ti tt .none
  ins : IsTupOf2 h ti (.ref p) (.ref q)
  out : ∃ u v, IsTupOf2 h tt u v
  one : AtK k h p a i
  two : AtK l h q b i
theorem turnZ {P : Program} {w : World} {K : PySem.W.Frag} {k l : Bool} {es : List Expr} {kk : Nat} {tp : Pos} {a b z ti tt p q : Addr} (S : ZipSep2 z ti tt p q [p, a] [q, b]) (na : a ≠ p) (nb : b ≠ q) :
    Turn P w K (.Tuple es kk tp) (ItZ k l K a b) [z, ti, tt, p, q] z (fun i h => ZCells h k l z ti tt p q a b i) where
  mem := List.mem_cons_self
  obj := fun i h c m hm => by
    obtain ⟨u, v, ho⟩ := c.out
    simp only [List.mem_cons, List.not_mem_nil, or_false] at hm
    rcases hm with rfl | rfl | rfl | rfl | rfl
    · exact ⟨_, c.zip, fun _ e => nomatch e⟩
    · exact ⟨_, c.ins, fun _ e => nomatch e⟩
    · exact ⟨_, ho, fun _ e => nomatch e⟩
    · exact c.one.obj
    · exact c.two.obj
  keep := fun i h h' c kp => by
    obtain ⟨u, v, ho⟩ := c.out
    exact ⟨kp _ (by simp) _ c.zip, kp _ (by simp) _ c.ins, ⟨u, v, kp _ (by simp) _ ho⟩, c.one.at (kp _ (by simp)), c.two.at (kp _ (by simp))⟩
  item := by
    intro X e1 e2 e3 hc i pins s σ H E I fr c g
    subst e1 e2 e3
    obtain ⟨xs, ys, x, y, qx, qy, hx, hy⟩ := g
    obtain ⟨vs, rx, ix, lx⟩ := inv_sq I qx
    obtain ⟨ws, ry, iy, ly⟩ := inv_sq I qy
    obtain ⟨u, hu, ru⟩ := rx.get hx
    obtain ⟨v, hv, rv⟩ := ry.get hy
    obtain ⟨o1, o2, ho⟩ := c.out
    have hd : X.A.in1.handled = none := I.ok.hd hc
    have zl := Heap.lt_size c.zip
    have i1 : i < vs.toArray.size := by have := (List.getElem?_eq_some_iff.mp hu).1; simpa using this
    have i2 : i < ws.toArray.size := by have := (List.getElem?_eq_some_iff.mp hv).1; simpa using this
    refine wpAny_pyNext_zipD2_item S (drawsK hd k p a na vs.toArray) (drawsK hd l q b nb ws.toArray) c.zip c.ins ho ⟨c.one, ix⟩ ⟨c.two, iy⟩ i1 i2 fun u' v' h1 tk eu ev z1 t1 s1 s2 t2 sz ke => ?_
    have eu' : u = u' := by have : vs.toArray[i]? = some u := by simpa using hu
                            exact Option.some.inj (this.symm.trans eu)
    have ev' : v = v' := by have : ws.toArray[i]? = some v := by simpa using hv
                            exact Option.some.inj (this.symm.trans ev)
    subst eu' ev'
    refine ⟨_, rfl, wpAny_letOwnedTupleGo_zip (s := ⟨h1, s.gens, s.drawn, tk, s.os⟩) z1 fun h2 z2 sb => ?_⟩
    have nz : s.heap.objs.size ≠ z := Nat.ne_of_gt zl
    have t3 : h2.get? s.heap.objs.size = some { cls := .type "tuple", data := .seq #[u, v] } := (sb.2 _ nz).trans t2
    have J := I.turnedNew (t' := tk) (ch := [z, ti, tt, p, q]) (T := s.heap.objs.size) (ob := .tup [x, y]) (h' := h2)
      (fun m o hm e => (sb.2 m fun h => hm (by simp [h])).trans (ke m o (fun h => hm (by simp [h])) (fun h => hm (by simp [h])) (fun h => hm (by simp [h])) (fun h => hm (by simp [h])) e)) fr (Nat.le_refl _)
      ⟨by show 2 ≤ sizeLine; decide, [u, v], .cons ru (.cons rv .nil), _, t3, rfl, _, rfl⟩
    refine ⟨.ref s.heap.objs.size, _, J, rfl, ⟨_, x, y, rfl, I.hok.fresh (Nat.le_refl _), rfl, fun l hl => ?_, fun l hl => ?_⟩, ⟨z2, ?_, ⟨u, v, ?_⟩, ?_, ?_⟩, fun m hm => ?_⟩
    · rw [sq_inj I hl qx]; exact hx
    · rw [sq_inj I hl qy]; exact hy
    · exact (sb.2 _ S.TIz).trans (ke _ _ S.TIz S.TITO S.TIi1 S.TIi2 c.ins)
    · exact (sb.2 _ S.TOz).trans t1
    · exact s1.1.at fun o e => (sb.2 _ S.zi1.symm).trans e
    · exact s2.1.at fun o e => (sb.2 _ S.zi2.symm).trans e
    · obtain ⟨o, e, _⟩ : ∃ o, s.heap.get? m = some o ∧ ∀ v, o.data ≠ .cell v := by
        simp only [List.mem_cons, List.not_mem_nil, or_false] at hm
        rcases hm with rfl | rfl | rfl | rfl | rfl
        · exact ⟨_, c.zip, fun _ e => nomatch e⟩
        · exact ⟨_, c.ins, fun _ e => nomatch e⟩
        · exact ⟨_, ho, fun _ e => nomatch e⟩
        · exact c.one.obj
        · exact c.two.obj
      rw [upd_ne (Nat.ne_of_lt (Heap.lt_size e))]
      exact (fr m hm).1
  done := by
    intro X e1 e2 e3 hc i pins s σ H E I fr c g
    subst e1 e2 e3
    obtain ⟨xs, ys, qx, qy, g1, g2, g3⟩ := g
    obtain ⟨vs, rx, ix, lx⟩ := inv_sq I qx
    obtain ⟨ws, ry, iy, ly⟩ := inv_sq I qy
    obtain ⟨o1, o2, ho⟩ := c.out
    have hd : X.A.in1.handled = none := I.ok.hd hc
    have n1 := rx.length
    have n2 := ry.length
    have m1 : vs.toArray.size = vs.length := by simp
    have m2 : ws.toArray.size = ws.length := by simp
    exact wpAny_pyNext_zipD2_end S (drawsK hd k p a na vs.toArray) (drawsK hd l q b nb ws.toArray) c.zip c.ins ho ⟨c.one, ix⟩ ⟨c.two, iy⟩ (by omega) (by omega) (by omega)
      fun h1 tk ke => ⟨rfl, I.turnedL (t' := tk) (ch := [z, ti, tt, p, q]) (fun m o hm e => ke m o (fun h => hm (by simp [h])) (fun h => hm (by simp [h])) (fun h => hm (by simp [h])) (fun h => hm (by simp [h])) e) fr⟩
  self := fun A i s Q E c h => wpAny_pyIter_zip c.zip h
def BegK (k : Bool) (a : Addr) : Obj := match k with
  | true => { cls := .type "tuple_iterator", data := .fields #[.ref a, .int 0 0] }
  | false => { cls := .type "list_iterator", data := .fields #[.ref a, .int 0 0] }
theorem begK (k : Bool) (a : Addr) (its : Array Value) : Begins (.ref a) (BegK k a) fun h => IsK k h a its := by
  cases k with
  | true => exact begins_tuple a its
  | false => exact begins_list a its
theorem begK_at {k : Bool} {a i : Addr} {h : Heap} (e : h.get? i = some (BegK k a)) : AtK k h i a 0 := by
  cases k with
  | true => exact ⟨_, e, rfl, rfl⟩
  | false => exact ⟨_, e, rfl, rfl⟩
theorem zsep (n a b : Nat) (ha : a < n) (hb : b < n) : ZipSep2 (n + 4) (n + 2) (n + 3) n (n + 1) [n, a] [n + 1, b] := by
  have two : ∀ x y z : Nat, x ≠ y → x ≠ z → x ∉ ([y, z] : List Nat) := fun x y z h k => by simp [h, k]
  exact ⟨(by omega : (n + 2 : Nat) ≠ n + 4), (by omega : (n + 3 : Nat) ≠ n + 4), (by omega : (n + 2 : Nat) ≠ n + 3), (by omega : (n + 2 : Nat) ≠ n), List.mem_cons_self, two _ _ _ (by omega) (by omega), two _ _ _ (by omega) (by omega),
    (by omega : (n + 2 : Nat) ≠ n + 1), List.mem_cons_self, two _ _ _ (by omega) (by omega), two _ _ _ (by omega) (by omega), two _ _ _ (by omega) (by omega), two _ _ _ (by omega) (by omega)⟩
def iZK (K : PySem.W.Frag) (ta : TA) : TI := fun σ H R => ta σ H fun vs H1 => ∃ k l a b xs ys, vs = [.ref a, .ref b] ∧ SqK k K H1 a xs ∧ SqK l K H1 b ys ∧ R (ItZ k l K a b) H1
theorem pi_zK {X : Cx} {e e2 : Expr} {ta : TA} {p pos tpos : Pos} {elts : List Expr} {kk : Nat} (hg : Gl X "zip") (hm : X.mg "zip" = none) (ha : PA X [e, e2] ta)
    (hs : starEach [e, e2] X.env = (false, eval e X.env) :: starEach [e2] X.env) (hpl : (backTo pos (starEach [e2] X.env)).any (·.1) = false) :
    PI X (.Tuple elts kk tpos) (.Call (.Name "zip" p) [e, e2] [] pos) (iZK X.K ta) := by
  refine ⟨fun pins s σ H R I h => ?_⟩
  refine Call_ (ld_blt I hg hm PyProof.Rows.boot_zip (PyProof.Rows.callWith_type1 (thn (ha.run pos pins s σ H _ I h) fun us s1 hh => ?_) hs hpl))
  obtain ⟨vs, H1, I1, r1, k, l, a, b, xs, ys, ev, qx, qy, q⟩ := hh
  subst ev
  cases r1 with
  | cons r rr =>
  cases rr with
  | cons r' rr =>
  cases rr
  cases r
  cases r'
  obtain ⟨us, ru, iu, lu⟩ := inv_sq I1 qx
  obtain ⟨ws, rw', iw, lw⟩ := inv_sq I1 qy
  refine zip_begins2 (begK k a us.toArray) (begK l b ws.toArray) iu iw fun h' hz hi ho h1 h2 sz ke => wpAny_pyIter_zip hz ?_
  have J : Inv X pins σ H1 { s1 with heap := h' } := I1.kept (t' := s1.toks) ke
  have last : ∀ c, c ∈ [s1.heap.objs.size + 4, s1.heap.objs.size + 2, s1.heap.objs.size + 3, s1.heap.objs.size, s1.heap.objs.size + 1] → FpOk X pins H1 c := fun c hc => by
    have hle : s1.heap.objs.size ≤ c := by
      simp only [List.mem_cons, List.not_mem_nil, or_false] at hc
      omega
    exact I1.fpOk hle (I1.hok.fresh hle)
  exact ⟨s1.heap.objs.size + 4, [s1.heap.objs.size + 4, s1.heap.objs.size + 2, s1.heap.objs.size + 3, s1.heap.objs.size, s1.heap.objs.size + 1], _, _, H1, rfl, J,
    turnZ (k := k) (l := l) (a := a) (b := b) (zsep s1.heap.objs.size a b lu lw) (Nat.ne_of_lt lu) (Nat.ne_of_lt (Nat.lt_succ_of_lt lw)), ⟨hz, hi, ⟨_, _, ho⟩, begK_at h1, begK_at h2⟩, last, q⟩

/-! as a function of data -/
theorem enum_zip {G : Gx} {K : PySem.W.Frag} {t : Tg} {Hs0 Hr0 : Hp} {k l : Bool} {a b : Addr} {vs ws : List V} {ds es : List D} (ht : t = .s ∨ t = .r)
    (h : nodeH t Hs0 Hr0 a = some (if k then .tup vs else .lst vs)) (h2 : nodeH t Hs0 Hr0 b = some (if l then .tup ws else .lst ws)) (r : RepsT G t Hs0 Hr0 Hr0 vs ds) (r2 : RepsT G t Hs0 Hr0 Hr0 ws es) :
    Enum G t Hs0 Hr0 (ItZ k l K a b) ((ds.zip es).map fun x => .tup [x.1, x.2]) := by
  have sq : ∀ {H : Hp} {c : Addr} {k : Bool} {us : List V}, H c = some (if k then .tup us else .lst us) → SqK k K H c us := fun {H c k us} e => by
    cases k with
    | true => exact .inl (.inl e)
    | false => exact .inl (.inl e)
  have ln : ((ds.zip es).map fun x => D.tup [x.1, x.2]).length = min ds.length es.length := by simp
  refine ⟨ht, fun Hs Hr H i hk s1 s2 hi => ?_, fun Hs Hr H hk s1 s2 => ?_, fun Hs Hr H i x H' hk s1 s2 hi y => ?_⟩
  all_goals
    have l1 := ((RepsT.mono' (H' := H) ht s1 s2 r).h hk).length
    have l2 := ((RepsT.mono' (H' := H) ht s1 s2 r2).h hk).length
    have n1 := nodeH_le (t := t) hk _ _ (nodeH_mono s1 s2 _ _ h)
    have n2 := nodeH_le (t := t) hk _ _ (nodeH_mono s1 s2 _ _ h2)
  · have i1 : i < vs.length := by omega
    have i2 : i < ws.length := by omega
    exact ⟨vs, ws, vs[i], ws[i], sq n1, sq n2, by simp [i1], by simp [i2]⟩
  · exact ⟨vs, ws, sq n1, sq n2, by omega, by omega, by omega⟩
  · obtain ⟨p, u, v, ex, hp, eh, y1, y2⟩ := y
    have z1 := y1 vs (sq n1)
    have z2 := y2 ws (sq n2)
    have m1 := RepsT.mono' (H' := H) ht s1 s2 r
    have m2 := RepsT.mono' (H' := H) ht s1 s2 r2
    rw [← itT_sr ht] at m1 m2
    obtain ⟨d, g1, g2⟩ := m1.get' z1
    obtain ⟨e, g3, g4⟩ := m2.get' z2
    rw [itT_sr ht] at g2 g4
    refine ⟨.tup [d, e], ?_, .inr ⟨p, [u, v], [d, e], ex, hp, eh, rfl, ?_⟩⟩
    · rw [List.getElem?_map, List.getElem?_zip_eq_some (z := (d, e)) |>.mpr ⟨g1, g3⟩] <;> rfl
    · rcases ht with rfl | rfl
      · exact .cons g2 (.cons g4 .nil)
      · exact .cons g2 (.cons g4 .nil)
section
variable {X : Cx} {J : Jx} {a b : Expr} {pos p tpos : Pos} {elts : List Expr} {kk : Nat} {F : Env → Res (List TV)}
def jnT (t u : Tg) : Tg := match t, u with
  | .s, .s => .s
  | _, _ => .r
def kZip (xs : List TV) : Res TVs := match xs with
  | [x, y] => (kSeq x).bind fun u => (kSeq y).bind fun v => .ok (jnT u.1 v.1, (u.2.zip v.2).map fun z => .tup [z.1, z.2])
  | _ => .bad
theorem nodeH_jn {t u : Tg} {Hs Hr H : Hp} (k : HpOk Hs Hr H) (ht : t = .s ∨ t = .r) (hu : u = .s ∨ u = .r) : Same (nodeH t Hs Hr) (nodeH (jnT t u) Hs Hr) ∧ Same (nodeH u Hs Hr) (nodeH (jnT t u) Hs Hr) ∧ (jnT t u = .s ∨ jnT t u = .r) := by
  rcases ht with rfl | rfl <;> rcases hu with rfl | rfl
  · exact ⟨Same.refl _, Same.refl _, .inl rfl⟩
  · exact ⟨k.sr, Same.refl _, .inr rfl⟩
  · exact ⟨Same.refl _, k.sr, .inr rfl⟩
  · exact ⟨Same.refl _, Same.refl _, .inr rfl⟩
theorem RepsT.node {G : Gx} {t : Tg} {Hs Hr : Hp} (ht : t = .s ∨ t = .r) {vs : List V} {ds : List D} : RepsT G t Hs Hr Hr vs ds ↔ Reps G (nodeH t Hs Hr) vs ds := by
  rcases ht with rfl | rfl <;> exact Iff.rfl
theorem mi_zip (hm : X.mg "zip" = none) (ha : MA X J [a, b] F) (hg : Gl X "zip" := by rfl) (hs : starEach [a, b] X.env = (false, eval a X.env) :: starEach [b] X.env := by rfl) (hpl : (backTo pos (starEach [b] X.env)).any (·.1) = false := by rfl) :
    MI X J (.Tuple elts kk tpos) (.Call (.Name "zip" p) [a, b] [] pos) (thenK F kZip) :=
  ⟨pi_imp (pi_zK hg hm ha.pa hs hpl) fun σ H R n => runA (J := J) wishI n fun vs H1 _ _ _ Hs Hr xs _ r rv q => by
    unfold kZip at q
    split at q
    · rename_i x y
      obtain ⟨v, w, rfl, r1, r2⟩ := rv.two
      cases h1 : kSeq x with
      | bad => rw [h1] at q; exact (show False from q).elim
      | exc c ks vs => exfalso; unfold kSeq at h1; split at h1 <;> first | cases h1 | (split at h1 <;> cases h1)
      | ok u =>
      cases h2 : kSeq y with
      | bad => rw [h1, h2] at q; exact (show False from q).elim
      | exc c ks vs => exfalso; unfold kSeq at h2; split at h2 <;> first | cases h2 | (split at h2 <;> cases h2)
      | ok u2 =>
      rw [h1, h2] at q
      obtain ⟨t1, a1, v1, rfl, c1, z1⟩ := seq_node r.ok r1 h1
      obtain ⟨t2, a2, v2, rfl, c2, z2⟩ := seq_node r.ok r2 h2
      obtain ⟨m1, m2, m3⟩ := nodeH_jn r.ok t1 t2
      have e1 : ∃ k : Bool, nodeH u.1 Hs Hr a1 = some (if k then .tup v1 else .lst v1) := by
        rcases c1 with ⟨_, h⟩ | ⟨_, h⟩
        · exact ⟨false, h⟩
        · exact ⟨true, h⟩
      have e2 : ∃ k : Bool, nodeH u2.1 Hs Hr a2 = some (if k then .tup v2 else .lst v2) := by
        rcases c2 with ⟨_, h⟩ | ⟨_, h⟩
        · exact ⟨false, h⟩
        · exact ⟨true, h⟩
      obtain ⟨k, e1⟩ := e1
      obtain ⟨l, e2⟩ := e2
      have sq : ∀ {c : Addr} {k : Bool} {us : List V}, H1 c = some (if k then .tup us else .lst us) → SqK k X.K H1 c us := fun {c k us} e => by
        cases k with
        | true => exact .inl (.inl e)
        | false => exact .inl (.inl e)
      refine ⟨k, l, a1, a2, v1, v2, rfl, sq (nodeH_le r.ok _ _ e1), sq (nodeH_le r.ok _ _ e2), Post.now r.ok q _ (enum_zip m3 (m1 _ _ e1) (m2 _ _ e2) ((RepsT.node m3).mpr (((RepsT.node t1).mp z1).mono m1)) ((RepsT.node m3).mpr (((RepsT.node t2).mp z2).mono m2)))⟩
    · exact (show False from q).elim⟩
end
end DL

namespace DL
open PySem PySem.Spec PyProof.Rows L2
/-! ### what is never come to -/
def badS : Env → SR := fun _ => .bad
theorem ms_bad {X : Cx} {J : Jx} {st : Stmt} : MS X J st badS := ⟨⟨fun pins s σ H D I ⟨_, _, _, _, _, _, p⟩ => (show False from p).elim⟩⟩
end DL

namespace DL
open PySem PySem.Spec PyProof.Rows L2
/-! ### defs by the head's facts -/
abbrev FnT (K : PySem.W.Frag) (x qual : Str) (st : Stmt) (dvs : List V) (f : Addr) (fd : FuncData) : Prop := FunD K x qual (defArgs st) (defBody st) (defScope st) dvs [] f fd
theorem fn_okD {P : Program} {w : World} {G : Gx} {mg : Str → Option Value} {base : Heap} {x qual : Str} {st : Stmt} {dvs : List V} {f : Addr} {fd : FuncData} {N ps : List Str} {n : Nat} {FB : Env → SR} (F : FnT G.K x qual st dvs f fd) (S : FnScope N ps (defScope st))
    (hb : ∀ (cdv : Value) (A : Around) (outer : List PySem.Env) (s : Shared) (H : Hp) (E : XK), Good (cxOf (L2.CX P w) P w G.K mg base N qual (defScope st) f cdv A outer s H E) (G.j E) n →
      MSs (cxOf (L2.CX P w) P w G.K mg base N qual (defScope st) f cdv A outer s H E) (G.j E) (defBody st) FB) : FnOk P w G.K mg base (L2.CX P w) (n + 1) f fd ps (SpD G ps.length (runD N.length FB)) := by
  refine FunD.ok F S (fun vs H Q E h => ?_) (fun cdv A outer s H vs Q E hr h => ⟨tS (G.j E) FB, (hb cdv A outer s H E ?_).ps, ?_⟩)
  · obtain ⟨args, Hs, k, l, a, p⟩ := h
    rw [argsOk_len a, l]
  · exact { K := rfl, nd := S.nd, hu := by have := hr.un; show A.units + 3 + 65 < _; (have h2 : (A.deeper (envOfC qual (defScope st) s.heap.objs.size f cdv)).units = A.units + 3 := rfl); omega, tk := takes_of rfl rfl rfl rfl, room := hr, calm := rfl, po := passes_of rfl }
  · obtain ⟨args, Hs, k, l, a, p⟩ := h
    exact start_rel k l a p
theorem fn_defD {P : Program} {w : World} {G : Gx} {mg : Str → Option Value} {base : Heap} {x qual : Str} {st : Stmt} {dvs : List V} {f : Addr} {fd : FuncData} {N ps : List Str} {n : Nat} {FB : Env → SR} (F : FnT G.K x qual st dvs f fd) (S : FnScope N ps (defScope st)) (b : Binds G.K fd ps [])
    (hb : ∀ (cdv : Value) (A : Around) (outer : List PySem.Env) (s : Shared) (H : Hp) (E : XK), Good (cxOf (L2.CX P w) P w G.K mg base N qual (defScope st) f cdv A outer s H E) (G.j E) n →
      MSs (cxOf (L2.CX P w) P w G.K mg base N qual (defScope st) f cdv A outer s H E) (G.j E) (defBody st) FB) : FnA P w G mg base f (n + 1) ps.length (runD N.length FB) :=
  ⟨fd, ps, b, fn_okD F S hb⟩
/-- every parameter of a def with defaults is given -/
theorem bindsAll {K : PySem.W.Frag} {x qual : Str} {st : Stmt} {dvs : List V} {f : Addr} {fd : FuncData} {ps : List Str} (F : FnT K x qual st dvs f fd) (hd : dvs ≠ [])
    (h : ∀ (T : Addr) (kV doc pm : Value) (an : Option Addr) (cdv ct : Value) (us its : List Value), us.length = ps.length → its.length = dvs.length →
      ∃ k, bindArgs (PySem.W.fnOf x qual (defArgs st) (defBody st) (defScope st) (.ref T) kV doc pm an cdv ct) ⟨us, []⟩ = seqItems? (.ref T) >>= k ∧ k (some its.toArray) = pure (ps.zip us)) : Binds K fd ps [] := by
  obtain ⟨ds, v, b⟩ := FunD.binds1 (ps := ps) F ps.length dvs.length hd (by omega) (fun T kV doc pm an cdv ct us its h1 h2 => by
    obtain ⟨k, e1, e2⟩ := h T kV doc pm an cdv ct us its h1 h2
    exact ⟨k, e1, by rw [← h2, List.drop_length, List.append_nil]; exact e2⟩)
  rw [List.drop_length] at v
  cases v
  exact b
/-- the law's end over a head by facts -/
theorem walk_E {l : PySem.W.OpenLaw} {k : Nat} {q : Program} {loose : List Str} {XP : (Str → Option Value) → Heap → Prop} {YP : World → Heap → Prop} {d : DefRec} {x : Str}
    (hn : l.most = some 63) (hdf : d.params.defaults = []) (hr : Room k callerA)
    (F : ∀ (w : World) (mg : Str → Option Value) (fa : Addr) (h : Heap), YP w h → h.Ns mainGlobals mg → mg d.name = some (.ref fa) →
      ∃ (K : PySem.W.Frag) (fd : FuncData), K.In h ∧ (∀ (s : Shared) (u : Value), BindsTo s fd ⟨[u], []⟩ [(x, u)]) ∧
        ∀ base : Heap, K.In base → base.Ns mainGlobals mg → FnOk l.prog w K mg base (L2.CX l.prog w) k fa fd [x] (SpLaw K)) :
    PySem.W.WalkO q loose XP YP l.row.toRowW d [] (fun f vs => PySem.call f vs) := by
  refine Att.attach_call hn hdf fun w u0 u1 mg mb fa o pm cd doc a vs ns A Y h1 h2 h3 hmg h4 h5 hl hg => ?_
  obtain ⟨K, fd, KX, hb, hF⟩ := F w mg fa _ Y A.T.g hmg
  have le : ns.length ≤ sizeLine := Nat.le_trans hl (by decide)
  exact law_call KX A.T.g A.T.b A.T.builtins A.T.nolimit hg h4 h5 le hr hF hb (fun H _ hS => ⟨a, ns, rfl, hS, hl, fun _ => rfl⟩) fun H e t => cx_no H u1 e t
/-! ### own exceptions -/
/-- what the text says of an exception class without an own __init__ -/
structure Xc (G : Gx) (mg : Str → Option Value) (c : Str) : Prop where
  gC : mg c = some (.ref (He.ga G.K c))
  cl : G.cl c = some (He.ga G.K c)
  ex : PySem.W.excIn G.K (He.ga G.K c) He.veBase "ValueError.__new__" = true
  kp : PySem.W.keepIn G.K (.ref (He.ga G.K c)) = true
  sb : PySem.W.subIn G.K (.ref (He.ga G.K c)) (.type "BaseException") = some true
  ty : PySem.W.typeIn G.K (.ref (He.ga G.K c)) = some (.type "type")
def raiseS (c : Str) : Env → SR := fun env => .exc c [] [] env
section
variable {X : Cx} {J : Jx} {n : Nat}
theorem ms_raise0 (g : Good X J n) {c m : Str} {j : Nat} {p p2 pos pos2 : Pos} (x : Xc J.toGx X.mg c) (hg : Gl X c := by rfl) (hdb : (c == ("__debug__" : Str)) = false := by decide) :
    MS X J (.Raise (some (.Call (.Name c p) [.Constant (.str m) j p2] [] pos)) none pos2) (raiseS c) := by
  obtain ⟨gC, cl, ex, kp, sb, ty⟩ := x
  have eK := g.K
  generalize hC : He.ga J.K c = C at *
  rw [← eK] at ex kp sb ty
  exact ⟨ps_imp (ps_raise g.calm g.tk (pmk_own PySem.F.excBase_ValueError ex gC kp (raises_own sb ty) hg hdb)) fun D σ H ⟨Hse, He, env, Hs, Hr, R, p⟩ => p (.ref C) none σ Hs Hr H R ⟨C, cl, rfl, .inl ⟨rfl, rfl, rfl⟩⟩⟩
end
/-- which clause takes which class -/
def catD (c h : Str) : Bool := c == h || h == ("PaceError" : Str)
def catB (names : List Str) (h : Str) (K : PySem.W.Frag) : Bool := names.all fun c => decide (PySem.W.exmOne K (.ref (He.ga K c)) (.ref (He.ga K h)) = some (catD c h))
structure Catch (G : Gx) (mg : Str → Option Value) (h : Str) : Prop where
  gC : mg h = some (.ref (He.ga G.K h))
  ex : ∀ c C, G.cl c = some C → PySem.W.exmOne G.K (.ref C) (.ref (He.ga G.K h)) = some (catD c h)
def clOf (names : List Str) (K : PySem.W.Frag) (x : Str) : Option Addr := if names.contains x then some (He.ga K x) else none
theorem clOf_in {names : List Str} {x : Str} {K : PySem.W.Frag} (h : names.contains x = true) : clOf names K x = some (He.ga K x) := if_pos h
theorem catch_of {co : Str → Option Addr} {names : List Str} {h : Str} {K : PySem.W.Frag} {mg : Str → Option Value} (gC : mg h = some (.ref (He.ga K h))) (b : catB names h K = true) : Catch ⟨K, clOf names K, co⟩ mg h := ⟨gC, fun c C e => by
  have e : (if names.contains c then some (He.ga K c) else none) = some C := e
  by_cases q : names.contains c = true
  · rw [if_pos q] at e
    cases e
    exact of_decide_eq_true (List.all_eq_true.mp b c (List.contains_iff_mem.mp q))
  · rw [if_neg q] at e
    cases e⟩
/-- a caught exception's slots are let go -/
def dropX : Env → Env := List.map fun x => match x with
  | some (.exn _ _ _) => none
  | x => x
theorem dropX_get {env : Env} {i : Nat} {e : EV} (h : (dropX env)[i]? = some (some e)) : env[i]? = some (some e) ∧ ∀ c ks vs, e ≠ .exn c ks vs := by
  unfold dropX at h
  rw [List.getElem?_map, Option.map_eq_some_iff] at h
  obtain ⟨x, h1, h2⟩ := h
  cases x with
  | none => cases h2
  | some y =>
    cases y with
    | exn c ks vs => cases h2
    | val t d => cases h2; exact ⟨h1, fun _ _ _ z => by cases z⟩
    | own xs => cases h2; exact ⟨h1, fun _ _ _ z => by cases z⟩
    | ownd ks xs => cases h2; exact ⟨h1, fun _ _ _ z => by cases z⟩
    | ownt t => cases h2; exact ⟨h1, fun _ _ _ z => by cases z⟩
theorem SlotOk.cg {J J' : Jx} (e : J.toGx = J'.toGx) {Hs Hr H : Hp} {sv : Option (Option V)} : ∀ {x : EV}, (∀ c ks vs, x ≠ .exn c ks vs) → SlotOk J Hs Hr H sv x → SlotOk J' Hs Hr H sv x
  | .val .s d, _, ⟨v, a, b⟩ => ⟨v, a, e ▸ b⟩
  | .val .r d, _, ⟨v, a, b⟩ => ⟨v, a, e ▸ b⟩
  | .val .h d, _, h => h
  | .val .o d, _, h => h
  | .val (.n _) d, _, h => h
  | .ownt t, _, ⟨v, fp, a, r, n, c⟩ => ⟨v, fp, a, e ▸ r, n, c⟩
  | .own xs, _, ⟨p, vs, a, b, c, r⟩ => ⟨p, vs, a, b, c, e ▸ r⟩
  | .ownd ks xs, _, ⟨p, vs, a, b, c, k, r⟩ => ⟨p, vs, a, b, c, k, e ▸ r⟩
  | .exn c ks vs, n, _ => absurd rfl (n c ks vs)
theorem SlotOk.no {J : Jx} (hx : J.xa = none) {Hs Hr H : Hp} {sv : Option (Option V)} {c : Str} {ks : List Str} {vs : List D} (h : SlotOk J Hs Hr H sv (.exn c ks vs)) : False := by
  obtain ⟨a, cv, d, h1, _⟩ := h
  rw [hx] at h1
  cases h1
theorem Rel.cg {J J' : Jx} (e : J.toGx = J'.toGx) (ep : J'.pin = J.pin := by rfl) (hx : J.xa = none) {Hse He : Hp} {env : Env} {σ : St} {Hs Hr H : Hp} (R : Rel J Hse He env σ Hs Hr H) : Rel J' Hse He env σ Hs Hr H :=
  ⟨R.ok, R.len, fun i x h => (R.slot i x h).cg e fun c ks vs z => by subst z; exact SlotOk.no hx (R.slot i _ h), fun i j p n a b => R.dis i j p n (e ▸ a) (e ▸ b), R.se, R.he, R.ns, fun q hq => R.pin q (ep ▸ hq)⟩
theorem Rel.drop {J J' : Jx} (e : J.toGx = J'.toGx) (ep : J'.pin = J.pin) {Hse He : Hp} {env : Env} {σ : St} {Hs Hr H : Hp} (R : Rel J Hse He env σ Hs Hr H) : Rel J' Hse He (dropX env) σ Hs Hr H where
  ok := R.ok
  len := by unfold dropX; rw [List.length_map]; exact R.len
  slot := fun i x h => (R.slot i x (dropX_get h).1).cg e (dropX_get h).2
  dis := fun i j p ne ⟨x, f, h1, h2, h3⟩ ⟨y, g, k1, k2, k3⟩ => R.dis i j p ne ⟨x, f, (dropX_get h1).1, e ▸ h2, h3⟩ ⟨y, g, (dropX_get k1).1, e ▸ k2, k3⟩
  se := R.se
  he := R.he
  ns := R.ns
  pin := fun q hq => R.pin q (ep ▸ hq)
/-- the end of an except suite: what it raises is not covered -/
def endX : SR → SR
  | .nx env => .nx (dropX env)
  | .bk env => .bk (dropX env)
  | .ct env => .ct (dropX env)
  | .rt e env => .rt e (dropX env)
  | _ => .bad
def pickH (c : Str) : List (Str × (Env → SR)) → Option (Env → SR)
  | [] => none
  | (h, S) :: r => if catD c h = true then some S else pickH c r
/-- try .. except A: .. except B: .. -/
def tryS (F : Env → SR) (hs : List (Str × (Env → SR))) : Env → SR := fun env => match F env with
  | .exc c ks vs e => match pickH c hs with
    | some S => endX (S e)
    | none => .exc c ks vs e
  | r => r
abbrev Jx.w (J : Jx) (W : WX) : Jx := { J with W := W }
abbrev Jx.su (J : Jx) (a : Addr) (cls : Value) (d : Option Addr) : Jx := { J with W := fun _ _ _ _ => False, xa := some (a, cls, d) }
section
variable {X : Cx} {J : Jx} {n : Nat}
theorem suite_bas (g : Bas X J) {a : Addr} {cls : Value} {d : Option Addr} {pn : List (Addr × Obj)} : Bas (X.suite a pn) (J.su a cls d) := ⟨g.K, g.nd, g.hu⟩
inductive Hds (X : Cx) (J : Jx) : List ExceptHandler → List (Str × (Env → SR)) → Prop
  | nil : Hds X J [] []
  | cons {x : Str} {S : Env → SR} {b₀ : Stmt} {suite : List Stmt} {np pos' : Pos} {hds : List ExceptHandler} {l : List (Str × (Env → SR))} (hc : Catch J.toGx X.mg x) (hg : Gl X x) (hd : (x == ("__debug__" : Str)) = false)
      (hs : ∀ (a : Addr) (oe : Obj) (cls : Value) (d : Option Addr) (pn : List (Addr × Obj)), Zc cls d oe → (∃ vs, oe.data = .fields vs) → Bas (X.suite a ((a, oe) :: pn)) (J.su a cls d) → MSs (X.suite a ((a, oe) :: pn)) (J.su a cls d) (b₀ :: suite) S) (r : Hds X J hds l) :
      Hds X J (.ExceptHandler (some (.Name x np)) none (b₀ :: suite) pos' :: hds) ((x, S) :: l)
theorem RtW.cg {J J' : Jx} (e : J'.toGx = J.toGx) {Hs Hr He H : Hp} {Q : VK} : ∀ {v : EV}, RtW J Hs Hr He H Q v → RtW J' Hs Hr He H Q v
  | .val t d, h => by cases t <;> exact fun v r => h v (e ▸ r)
  | .own xs, h => fun q vs a b c r => h q vs a b c (e ▸ r)
  | .ownd ks xs, h => fun q vs a b c k r => h q vs a b c k (e ▸ r)
  | .ownt t, h => fun v fp a b c d => h v fp (e ▸ a) b c d
  | .exn _ _ _, h => h
theorem PostS.suite {J J' : Jx} (e : J'.toGx = J.toGx) (ep : J'.pin = J.pin := by rfl) {Hse He : Hp} {D : Ends} : ∀ {r : SR}, PostS J Hse He D (endX r) → PostS J' Hse He D r
  | .nx env, p => fun σ Hs Hr H R => p σ Hs Hr H (R.drop e ep.symm)
  | .bk env, p => fun σ Hs Hr H R => p σ Hs Hr H (R.drop e ep.symm)
  | .ct env, p => fun σ Hs Hr H R => p σ Hs Hr H (R.drop e ep.symm)
  | .rt v env, p => fun σ Hs Hr H R => RtW.cg e (p σ Hs Hr H (R.drop e ep.symm))
  | .exc _ _ _ _, p => p.elim
  | .bad, p => p.elim
theorem ExcOk.cls {G : Gx} {Hs : Hp} {c : Str} {ks : List Str} {vs : List D} {cv : Value} {d : Option Addr} (h : ExcOk G Hs c ks vs cv d) : ∃ C, G.cl c = some C ∧ cv = .ref C := let ⟨C, a, b, _⟩ := h; ⟨C, a, b⟩
/-- what the clauses wish -/
def hdsT (X : Cx) (J : Jx) (l : List (Str × (Env → SR))) : List (Value × (Addr → Value → Option Addr → TS)) := l.map fun q => (.ref (He.ga J.K q.1), fun a cls d => tS (J.su a cls d) q.2)
theorem Hds.ok (g : Bas X J) {hds : List ExceptHandler} {l : List (Str × (Env → SR))} (h : Hds X J hds l) : HdsOk X hds (hdsT X J l) := by
  induction h with
  | nil => exact .nil
  | cons hc hg hd hs r ih => exact .cons ⟨hg, hd, .inl hc.gC⟩ (fun a oe cls d pn z f => (hs a oe cls d pn z f (suite_bas g)).ps) ih
theorem Hds.post (hx : J.xa = none) (eK : X.K = J.K) {hds : List ExceptHandler} {l : List (Str × (Env → SR))} (h : Hds X J hds l) {Hse He : Hp} {M : Ends} {c : Str} {ks : List Str} {vs : List D} {cv : Value} {d : Option Addr} {env : Env} {σ : St} {Hs Hr H : Hp}
    (R : Rel J Hse He env σ Hs Hr H) (e : ExcOk J.toGx Hs c ks vs cv d) (p : PostS J Hse He M (match pickH c l with | some S => endX (S env) | none => .exc c ks vs env)) : wMany X.K J.W M (hdsT X J l) cv d σ H := by
  induction h with
  | nil => exact p cv d σ Hs Hr H R e
  | @cons x S b₀ suite np pos' hds l hc hg hd hs r ih =>
    obtain ⟨C, h1, rfl⟩ := e.cls
    refine ⟨catD c x, by rw [eK]; exact hc.ex c C h1, fun q a na => ?_, fun q => ?_⟩
    · unfold pickH at p
      rw [if_pos q] at p
      exact ⟨Hse, He, env, Hs, Hr, Rel.cg (J := J) (J' := J.su a (.ref C) d) rfl rfl hx R, PostS.suite (J := J) (J' := J.su a (.ref C) d) rfl rfl p⟩
    · unfold pickH at p
      rw [if_neg (by rw [q]; simp)] at p
      exact ih p
theorem ms_try {body : List Stmt} {h₀ : ExceptHandler} {hds : List ExceptHandler} {l : List (Str × (Env → SR))} {F : Env → SR} {pos : Pos} (g : Good X J n) (hs : X.stack = X.env :: X.outer) (hf : X.env.frame = some X.env.locals) (hx : J.xa = none)
    (hb : ∀ (W : WX) (pn : List (Addr × Obj)) (xe : Value → Shared → Prop), Good (X.tr pn xe) (J.w W) n → MSs (X.tr pn xe) (J.w W) body F) (hh : Hds X J (h₀ :: hds) l) : MS X J (.Try body (h₀ :: hds) [] [] pos) (tryS F l) := by
  refine ⟨ps_imp (ps_try_many (tb := fun W => tS (J.w W) F) hs hf g.tk (fun W pn xe tk po => (hb W pn xe ⟨⟨g.K, g.nd, g.hu⟩, tk, g.room, g.calm, po⟩).ps) (hh.ok g.toBas)) fun D σ H ⟨Hse, He, env, Hs, Hr, R, p⟩ => ?_⟩
  refine ⟨Hse, He, env, Hs, Hr, Rel.cg (J := J) (J' := J.w (wMany X.K J.W D (hdsT X J l))) rfl rfl hx R, ?_⟩
  have p : PostS J Hse He D (match F env with
    | .exc c ks vs e => match pickH c l with
      | some S => endX (S e)
      | none => .exc c ks vs e
    | r => r) := p
  cases hF : F env with
  | nx e => rw [hF] at p; exact fun σ Hs Hr H R => p σ Hs Hr H (Rel.cg (J := J.w (wMany X.K J.W D (hdsT X J l))) (J' := J) rfl rfl hx R)
  | bk e => rw [hF] at p; exact fun σ Hs Hr H R => p σ Hs Hr H (Rel.cg (J := J.w (wMany X.K J.W D (hdsT X J l))) (J' := J) rfl rfl hx R)
  | ct e => rw [hF] at p; exact fun σ Hs Hr H R => p σ Hs Hr H (Rel.cg (J := J.w (wMany X.K J.W D (hdsT X J l))) (J' := J) rfl rfl hx R)
  | rt v e => rw [hF] at p; exact fun σ Hs Hr H R => RtW.cg (J := J) (J' := J.w (wMany X.K J.W D (hdsT X J l))) rfl (p σ Hs Hr H (Rel.cg (J := J.w (wMany X.K J.W D (hdsT X J l))) (J' := J) rfl rfl hx R))
  | bad => rw [hF] at p; exact p
  | exc c ks vs e =>
    rw [hF] at p
    exact fun cv d σ Hs Hr H R x => Hds.post hx g.K hh (Rel.cg (J := J.w (wMany X.K J.W D (hdsT X J l))) (J' := J) rfl rfl hx R) x p
end
theorem Bas.toBas {X : Cx} {J : Jx} (g : Bas X J) : Bas X J := g
/-! ### except A as e; isinstance(e, C) -/
def endA (i : Nat) : SR → SR
  | .nx env => .nx ((dropX env).set i none)
  | .bk env => .bk ((dropX env).set i none)
  | .ct env => .ct ((dropX env).set i none)
  | .rt e env => .rt e ((dropX env).set i none)
  | _ => .bad
def tryA (F : Env → SR) (h : Str) (i : Nat) (S : Env → SR) : Env → SR := fun env => match F env with
  | .exc c ks vs e => if catD c h = true then endA i (S (e.set i (some (.exn c ks vs)))) else .exc c ks vs e
  | r => r
theorem Rel.unset {J : Jx} {Hse He : Hp} {env : Env} {σ : St} {Hs Hr H : Hp} (R : Rel J Hse He env σ Hs Hr H) (i : Nat) (up : Unp J i) : Rel J Hse He (env.set i none) (σ.set i none) Hs Hr H where
  ok := R.ok
  len := by rw [List.length_set, List.length_set]; exact R.len
  slot := fun j e h => by
    rcases getElem?_set_some h with ⟨_, h1, _⟩ | ⟨h1, h2⟩
    · cases h1
    · rw [List.getElem?_set_ne (Ne.symm h1)]; exact R.slot j e h2
  dis := fun j k p ne ⟨e, f, h1, h2, h3⟩ ⟨e', f', k1, k2, k3⟩ => by
    rcases getElem?_set_some h1 with ⟨_, z, _⟩ | ⟨g1, g2⟩
    · cases z
    · rcases getElem?_set_some k1 with ⟨_, z, _⟩ | ⟨g3, g4⟩
      · cases z
      · rw [List.getElem?_set_ne (Ne.symm g1)] at h2
        rw [List.getElem?_set_ne (Ne.symm g3)] at k2
        exact R.dis j k p ne ⟨e, f, g2, h2, h3⟩ ⟨e', f', g4, k2, k3⟩
  se := R.se
  he := R.he
  ns := R.ns
  pin := fun q hq => by rw [List.getElem?_set_ne (fun z => up q.2 (by rw [z]; exact hq))]; exact R.pin q hq
theorem Rel.caught {J : Jx} {Hse He : Hp} {env : Env} {σ : St} {Hs Hr H : Hp} (R : Rel J Hse He env σ Hs Hr H) (hx : J.xa = none) (i : Nat) {c : Str} {ks : List Str} {vs : List D} {cv : Value} {d : Option Addr} (x : ExcOk J.toGx Hs c ks vs cv d) (a : Addr) (up : Unp J i) :
    Rel (J.su a cv d) Hse He (env.set i (some (.exn c ks vs))) (σ.set i (some (.ref a))) Hs Hr H where
  ok := R.ok
  len := by rw [List.length_set, List.length_set]; exact R.len
  slot := fun j e h => by
    rcases getElem?_set_some h with ⟨rfl, h1, h2⟩ | ⟨h1, h2⟩
    · cases h1
      exact ⟨a, cv, d, rfl, by rw [List.getElem?_set_self (by rw [← R.len]; exact h2)], x⟩
    · rw [List.getElem?_set_ne (Ne.symm h1)]
      exact SlotOk.cg (J := J) (J' := J.su a cv d) rfl (fun c ks vs z => by subst z; exact SlotOk.no hx (R.slot j _ h2)) (R.slot j e h2)
  dis := fun j k p ne ⟨e, f, h1, h2, h3⟩ ⟨e', f', k1, k2, k3⟩ => by
    rcases getElem?_set_some h1 with ⟨_, z, _⟩ | ⟨g1, g2⟩
    · cases z; cases (show f = [] from h2); cases h3
    · rcases getElem?_set_some k1 with ⟨_, z, _⟩ | ⟨g3, g4⟩
      · cases z; cases (show f' = [] from k2); cases k3
      · rw [List.getElem?_set_ne (Ne.symm g1)] at h2
        rw [List.getElem?_set_ne (Ne.symm g3)] at k2
        exact R.dis j k p ne ⟨e, f, g2, h2, h3⟩ ⟨e', f', g4, k2, k3⟩
  se := R.se
  he := R.he
  ns := R.ns
  pin := fun q hq => by rw [List.getElem?_set_ne (fun z => up q.2 (by rw [z]; exact hq))]; exact R.pin q hq
theorem PostS.suiteA {J J' : Jx} (e : J'.toGx = J.toGx) {Hse He : Hp} {M : Ends} (i : Nat) (up : Unp J i) (ep : J'.pin = J.pin := by rfl) : ∀ {r : SR}, PostS J Hse He M (endA i r) →
    PostS J' Hse He { nx := fun σ' H' => M.nx (σ'.set i none) H', rt := M.rt, bk := fun σ' H' => M.bk (σ'.set i none) H', ct := fun σ' H' => M.ct (σ'.set i none) H' } r
  | .nx env, p => fun σ Hs Hr H R => p _ Hs Hr H ((R.drop e ep.symm).unset i up)
  | .bk env, p => fun σ Hs Hr H R => p _ Hs Hr H ((R.drop e ep.symm).unset i up)
  | .ct env, p => fun σ Hs Hr H R => p _ Hs Hr H ((R.drop e ep.symm).unset i up)
  | .rt v env, p => fun σ Hs Hr H R => RtW.cg e (p _ Hs Hr H ((R.drop e ep.symm).unset i up))
  | .exc _ _ _ _, p => p.elim
  | .bad, p => p.elim
section
variable {X : Cx} {J : Jx} {n : Nat}
theorem ms_tryA (i : Nat) {body suite : List Stmt} {b₀ : Stmt} {x y : Str} {F S : Env → SR} {np pos pos' : Pos} (g : Good X J n) (hs : X.stack = X.env :: X.outer) (hf : X.env.frame = some X.env.locals) (hx : J.xa = none) (hi : X.N[i]? = some y) (hln : X.env.kindOf y = some .local)
    (hc : Catch J.toGx X.mg x) (hg : Gl X x) (hd : (x == ("__debug__" : Str)) = false)
    (hb : ∀ (W : WX) (pn : List (Addr × Obj)) (xe : Value → Shared → Prop), Good (X.tr pn xe) (J.w W) n → MSs (X.tr pn xe) (J.w W) body F)
    (hsu : ∀ (a : Addr) (oe : Obj) (cls : Value) (d : Option Addr) (pn : List (Addr × Obj)), Zc cls d oe → (∃ vs, oe.data = .fields vs) → Bas (X.suite a ((a, oe) :: pn)) (J.su a cls d) → MSs (X.suite a ((a, oe) :: pn)) (J.su a cls d) (b₀ :: suite) S) (up : Unp J i := by first | exact Unp.nil rfl | exact Unp.one rfl (by decide)) :
    MS X J (.Try body [.ExceptHandler (some (.Name x np)) (some y) (b₀ :: suite) pos'] [] [] pos) (tryA F x i S) := by
  refine ⟨ps_imp (ps_try_as (tb := fun W => tS (J.w W) F) (ts := fun a cls d => tS (J.su a cls d) S) hs hf g.nd hi hln ⟨hg, hd, .inl hc.gC⟩ g.tk (fun W pn xe tk po => (hb W pn xe ⟨⟨g.K, g.nd, g.hu⟩, tk, g.room, g.calm, po⟩).ps)
    (fun a oe cls d pn z f => (hsu a oe cls d pn z f (suite_bas g.toBas)).ps)) fun M σ H ⟨Hse, He, env, Hs, Hr, R, p⟩ => ?_⟩
  generalize hW : wAs X.K (.ref (_root_.He.ga J.K x)) i (fun a cls d => tS (J.su a cls d) S) J.W M = W
  refine ⟨Hse, He, env, Hs, Hr, Rel.cg (J := J) (J' := J.w W) rfl rfl hx R, ?_⟩
  have p : PostS J Hse He M (match F env with
    | .exc c ks vs e => if catD c x = true then endA i (S (e.set i (some (.exn c ks vs)))) else .exc c ks vs e
    | r => r) := p
  cases hF : F env with
  | nx e => rw [hF] at p; exact fun σ Hs Hr H R => p σ Hs Hr H (Rel.cg (J := J.w W) (J' := J) rfl rfl hx R)
  | bk e => rw [hF] at p; exact fun σ Hs Hr H R => p σ Hs Hr H (Rel.cg (J := J.w W) (J' := J) rfl rfl hx R)
  | ct e => rw [hF] at p; exact fun σ Hs Hr H R => p σ Hs Hr H (Rel.cg (J := J.w W) (J' := J) rfl rfl hx R)
  | rt v e => rw [hF] at p; exact fun σ Hs Hr H R => RtW.cg (J := J) (J' := J.w W) rfl (p σ Hs Hr H (Rel.cg (J := J.w W) (J' := J) rfl rfl hx R))
  | bad => rw [hF] at p; exact p
  | exc c ks vs e =>
    rw [hF] at p
    intro cv d σ Hs Hr H R xo
    show W cv d σ H
    rw [← hW]
    have R' := Rel.cg (J := J.w W) (J' := J) rfl rfl hx R
    obtain ⟨C, h1, rfl⟩ := xo.cls
    refine ⟨catD c x, by rw [g.K]; exact hc.ex c C h1, fun q a na => ?_, fun q => ?_⟩
    · dsimp only at p
      rw [if_pos q] at p
      exact ⟨Hse, He, _, Hs, Hr, R'.caught hx i xo a up, PostS.suiteA (J := J) (J' := J.su a (.ref C) d) rfl i up rfl p⟩
    · dsimp only at p
      rw [if_neg (by rw [q]; simp)] at p
      exact p (.ref C) d σ Hs Hr H R' xo
end
/-- of which class an own error is -/
def catX (c h : Str) : Bool := catD c h || h == ("ValueError" : Str)
def isX (i : Nat) (C : Str) : Env → Res TV := fun env => match env[i]? with
  | some (some (.exn c _ _)) => okb (catX c C)
  | _ => .bad
def xcB (K : PySem.W.Frag) (D : Addr) : Bool := [decide (PySem.W.findIn K (.ref D) "__getattribute__" = some (some (.builtin "BaseException.__getattribute__"))), decide (PySem.W.findIn K (.ref D) "__getattr__" = some none), decide (PySem.W.subIn K (.ref D) (.type "BaseException") = some true),
  PySem.W.hasDictIn K D, decide (PySem.W.findIn K (.ref D) "__class__" = some (some (.builtin "object.__class__"))), decide (PySem.W.specialIn K (.builtin "object.__class__") "__get__" = some (some (.builtin "getset_descriptor.__get__"))),
  decide (PySem.W.takesIn K (.builtin "object.__class__") = some true), decide (PySem.W.mroIn K D (.type "object") = some true)].all id
theorem xcB_ok {K : PySem.W.Frag} {D : Addr} (h : xcB K D = true) : ExcC K D := by
  unfold xcB at h
  simp only [List.all_cons, List.all_nil, id, Bool.and_eq_true, decide_eq_true_eq, and_true] at h
  obtain ⟨h1, h2, h3, h4, h5, h6, h7, h8⟩ := h
  exact ⟨h1, h2, h3, h4, h5, h6, h7, h8⟩
def isB (names : List Str) (cv : PySem.W.Frag → Value) (h : Str) (K : PySem.W.Frag) : Bool := names.all fun c => xcB K (He.ga K c) && decide (PySem.W.kitOne K (.ref (He.ga K c)) (cv K) = some (catX c h))
structure IsC (G : Gx) (cv : Value) (h : Str) : Prop where
  xc : ∀ c D, G.cl c = some D → ExcC G.K D
  ex : ∀ c D, G.cl c = some D → PySem.W.kitOne G.K (.ref D) cv = some (catX c h)
theorem isC_of {co : Str → Option Addr} {names : List Str} {cv : PySem.W.Frag → Value} {h : Str} {K : PySem.W.Frag} (b : isB names cv h K = true) : IsC ⟨K, clOf names K, co⟩ (cv K) h := by
  have key : ∀ c D, clOf names K c = some D → ExcC K D ∧ PySem.W.kitOne K (.ref D) (cv K) = some (catX c h) := fun c D e => by
    unfold clOf at e
    by_cases q : names.contains c = true
    · rw [if_pos q] at e
      cases e
      obtain ⟨h1, h2⟩ := Bool.and_eq_true_iff.mp (List.all_eq_true.mp b c (List.contains_iff_mem.mp q))
      exact ⟨xcB_ok h1, of_decide_eq_true h2⟩
    · rw [if_neg q] at e; cases e
  exact ⟨fun c D e => (key c D e).1, fun c D e => (key c D e).2⟩
def rIsX (K : PySem.W.Frag) (cls : Value) (d : Option Addr) (a : Addr) : List V → Hp → VK → Prop := fun xs H Q => ∃ D, cls = .ref D ∧ (d = none ∨ ∃ dd fs, d = some dd ∧ H dd = some (.xd fs)) ∧ ExcC K D ∧ rIsE K D a xs H Q
section
variable {X : Cx} {J : Jx} {a : Addr} {oe : Obj} {cls : Value} {d : Option Addr} {pn : List (Addr × Obj)}
theorem call_isX (hz : Zc cls d oe) (hf : ∃ vs, oe.data = .fields vs) : CallR (X.suite a ((a, oe) :: pn)) (.builtin "isinstance") (rIsX X.K cls d a) := by
  intro pins s σ H xs us Q I r h
  obtain ⟨D, rfl, hd, C, h⟩ := h
  rcases hd with rfl | ⟨dd, fs, rfl, hd⟩
  · exact call_isE C hz hf pins s σ H xs us Q I r h
  · obtain ⟨c, cv, b, rfl, hcv, e, q⟩ := h
    obtain ⟨vs, hv⟩ := hf
    cases r with
    | cons rx rr =>
      cases rr with
      | cons rt rr =>
        cases rr
        cases rx
        cases hcv _ rt
        obtain ⟨ha, _⟩ := I.pin (a, oe) (List.mem_append.mpr (.inl List.mem_cons_self))
        have hx : ObjOk X.prog X.w H s.heap dd (.xd fs) := I.hok dd _ hd
        obtain ⟨mA, hns, _⟩ := hx
        obtain ⟨od, ho, _⟩ := lookIn_ns hns
        have J : PySem.W.InstAt s.heap a oe D (some od) := ⟨ha, hz.1, by unfold PySem.W.notCls; rw [hv] <;> rfl, by rw [hz.2]; exact ho⟩
        obtain ⟨cd, hc, _⟩ := PySem.W.any_some C.hd
        exact PySem.W.kia_one (PySem.W.kitx_exc (by rw [hc] <;> rfl) C.hg C.hk C.hs C.ha C.hn C.ht C.hm) I.kIn J e (fun z => nomatch z) fun tk => ⟨.bl b, H, I.kept (t' := tk) fun _ _ z => z, rfl, q⟩
theorem mv_isX (i : Nat) {nm x2 : Str} {cv : Value} {c : V} {p p1 p2 pos : Pos} (b : Bas (X.suite a ((a, oe) :: pn)) (J.su a cls d)) (hz : Zc cls d oe) (hf : ∃ vs, oe.data = .fields vs) (I : IsC J.toGx cv x2) (hcv : ∀ u, RelV c u → u = cv)
    (hc2 : PE (X.suite a ((a, oe) :: pn)) (.Name x2 p2) (tC c)) (hm : X.mg "isinstance" = none) (hN : X.N[i]? = some nm := by rfl) (hv : Vis X.env.scope nm := by first | exact Or.inl rfl | exact Or.inr (Or.inl rfl) | exact Or.inr (Or.inr rfl)) (hd : (nm == ("__debug__" : Str)) = false := by decide)
    (hcd : (nm == ("__classdict__" : Str)) = false := by decide) (hg : Gl X "isinstance" := by rfl)
    (h1 : starEach [.Name nm p1, .Name x2 p2] X.env = (false, eval (.Name nm p1) X.env) :: starEach [.Name x2 p2] X.env := by rfl) (h2 : starEach [.Name x2 p2] X.env = (false, eval (.Name x2 p2) X.env) :: starEach [] X.env := by rfl) (hpl : (backTo pos (starEach [.Name x2 p2] X.env)).any (·.1) = false := by rfl) :
    MV (X.suite a ((a, oe) :: pn)) (J.su a cls d) (.Call (.Name "isinstance" p) [.Name nm p1, .Name x2 p2] [] pos) (isX i x2) := by
  refine ⟨pe_imp (pe_callB (X := X.suite a ((a, oe) :: pn)) (call_isX hz hf) hg hm PyProof.Rows.boot_isinstance (pa_cons (pv (X := X.suite a ((a, oe) :: pn)) i hN hv hd hcd) (pa_cons hc2 pa_nil h2) h1) (by decide) (by decide) h1 hpl) fun σ H Q ⟨Hse, He, env, Hs, Hr, R, p⟩ => ?_⟩
  unfold isX at p
  split at p
  · rename_i c' ks' vs' q
    obtain ⟨a', cv', d', g1, g2, g3⟩ := R.slot i _ q
    cases g1
    obtain ⟨D, k1, rfl, k3⟩ := g3
    have kd : d = none ∨ ∃ dd fs, d = some dd ∧ H dd = some (.xd fs) := by
      rcases k3 with ⟨_, _, k⟩ | ⟨dd, fs, k4, k5, _⟩
      · exact .inl k
      · exact .inr ⟨dd, fs, k4, R.ok.sh _ _ k5⟩
    have eK : X.K = J.K := b.K
    refine ⟨_, g2, D, rfl, kd, by rw [eK]; exact I.xc _ D k1, c, cv, catX c' x2, rfl, hcv, by rw [eK]; exact I.ex _ D k1, Post.nowB R.ok p⟩
  · exact (show False from p).elim
end
end DL

namespace DL
open PySem PySem.Spec PyProof.Rows L2
/-! ### errors with fields: C(e, ..), __init__ stores its arguments -/
/-- what an __init__ that stores its arguments promises: behind it the error's dict holds them, the last stored first -/
def spIn (K : PySem.W.Frag) (C : Addr) (fs : List Str) : Sp := fun vs H Q _ => ∃ (a : Addr) (ws : List V), vs = .ref a :: ws ∧ ws.length = fs.length ∧ H a = some (exo a C none) ∧
  ∀ dx H2, H dx = none → dx ≠ a → H2 a = some (exo a C (some dx)) → H2 dx = some (exd dx (fs.zip ws).reverse) → (∀ b, b ≠ a → b ≠ dx → H2 b = H b) → Q .non H2
/-- the class's facts -/
structure XcF (G : Gx) (mg : Str → Option Value) (c : Str) (fs : List Str) : Prop where
  gC : mg c = some (.ref (He.ga G.K c))
  cl : G.cl c = some (He.ga G.K c)
  ox : OexC G.K (He.ga G.K c)
  no : ∀ f ∈ fs, PySem.W.findIn G.K (.ref (He.ga G.K c)) f = some none
  ini : PySem.W.findIn G.K (.ref (He.ga G.K c)) "__init__" = some (some (.ref (He.ma G.K (He.ga G.K c) "__init__")))
  ty : PySem.W.typeIn G.K (.ref (He.ma G.K (He.ga G.K c) "__init__")) = some (.type "function")
section
variable {P : Program} {w : World} {K : PySem.W.Frag} {mg : Str → Option Value} {base : Heap} {qual : Str} {st : Stmt} {f : Addr} {fd : FuncData} {C : Addr}
/-- def __init__(self, f): self.f = f -/
theorem in1_ok {f1 : Str} (F : FnT K "__init__" qual st [] f fd) (S : FnScope ["self", f1] ["self", f1] (defScope st)) (T : OexC K C) (no : PySem.W.findIn K (.ref C) f1 = some none)
    (hb : ∀ cdv A outer s H E, PSs (cxOf (L2.CX P w) P w K mg base ["self", f1] qual (defScope st) f cdv A outer s H E) (defBody st) (tOst K f1 (tVar 0) (tVar 1))) :
    FnOk P w K mg base (L2.CX P w) 1 f fd ["self", f1] (spIn K C [f1]) := by
  refine FunD.ok F S (fun vs H Q E h => ?_) (fun cdv A outer s H vs Q E hr h => ⟨_, hb cdv A outer s H E, ?_⟩)
  · obtain ⟨a, ws, rfl, hl, _⟩ := h
    show ws.length + 1 = 2
    simp at hl
    omega
  · obtain ⟨a, ws, rfl, hl, ha, k⟩ := h
    match ws, hl with
    | [y], _ => exact ⟨y, rfl, .ref a, rfl, a, C, rfl, T, no, .inl ⟨ha, fun dx h1 h2 => k dx _ h1 h2 upd_same (by rw [upd_ne h2, upd_same] <;> rfl) fun b b1 b2 => by rw [upd_ne b1, upd_ne b2]⟩⟩
/-- two fields -/
theorem in2_ok {f1 f2 : Str} (F : FnT K "__init__" qual st [] f fd) (S : FnScope ["self", f1, f2] ["self", f1, f2] (defScope st)) (T : OexC K C) (no : PySem.W.findIn K (.ref C) f1 = some none) (no2 : PySem.W.findIn K (.ref C) f2 = some none)
    (hb : ∀ cdv A outer s H E, PSs (cxOf (L2.CX P w) P w K mg base ["self", f1, f2] qual (defScope st) f cdv A outer s H E) (defBody st) (tSeq (tOst K f1 (tVar 0) (tVar 1)) (tOst K f2 (tVar 0) (tVar 2)))) :
    FnOk P w K mg base (L2.CX P w) 1 f fd ["self", f1, f2] (spIn K C [f1, f2]) := by
  refine FunD.ok F S (fun vs H Q E h => ?_) (fun cdv A outer s H vs Q E hr h => ⟨_, hb cdv A outer s H E, ?_⟩)
  · obtain ⟨a, ws, rfl, hl, _⟩ := h
    show ws.length + 1 = 3
    simp at hl
    omega
  · obtain ⟨a, ws, rfl, hl, ha, k⟩ := h
    match ws, hl with
    | [y, z], _ =>
      refine ⟨y, rfl, .ref a, rfl, a, C, rfl, T, no, .inl ⟨ha, fun dx h1 h2 => ?_⟩⟩
      refine ⟨z, rfl, .ref a, rfl, a, C, rfl, T, no2, .inr ⟨dx, [(f1, y)], upd_same, by rw [upd_ne h2, upd_same], (by show 1 ≤ 900; decide), ?_⟩⟩
      refine k dx _ h1 h2 (by rw [upd_ne (Ne.symm h2), upd_same]) upd_same fun b b1 b2 => by rw [upd_ne b2, upd_ne b1, upd_ne b2]
end
def raiseF (c : Str) (fs : List Str) (args : Env → Res (List TV)) : Env → SR := fun env => (args env).st env fun xs => if xs.all shV = true ∧ xs.length = fs.length ∧ fs ≠ [] ∧ fs.length ≤ 9 then .exc c fs.reverse (xs.map (·.2)).reverse env else .bad
section
variable {X : Cx} {J : Jx} {n k : Nat}
theorem Ext.xd {Hs Hr H : Hp} (hk : HpOk Hs Hr H) {d : Addr} {fs : List (Str × V)} (h : H d = none) : Ext Hs Hr H (upd Hs d (.xd fs)) (upd Hr d (.xd fs)) (upd H d (.xd fs)) := Ext.new hk h
theorem ms_raiseF (g : Good X J n) {c : Str} {fs : List Str} {e : Expr} {es : List Expr} {F : Env → Res (List TV)} {p pos pos2 : Pos} {fd : FuncData} {ps : List Str} (x : XcF J.toGx X.mg c fs) (hn : k + 1 ≤ n)
    (fn : FnOk X.prog X.w J.K X.mg X.base (L2.CX X.prog X.w) k (He.ma J.K (He.ga J.K c) "__init__") fd ps (spIn J.K (He.ga J.K c) fs)) (hb : Binds J.K fd ps []) (ha : MA X J (e :: es) F) (hg : Gl X c := by rfl) (hdb : (c == ("__debug__" : Str)) = false := by decide)
    (he : starEach (e :: es) X.env = (false, eval e X.env) :: starEach es X.env := by rfl) (hpl : (backTo pos (starEach es X.env)).any (·.1) = false := by rfl) :
    MS X J (.Raise (some (.Call (.Name c p) (e :: es) [] pos)) none pos2) (raiseF c fs F) := by
  obtain ⟨gC, cl, ox, no, ini, ty⟩ := x
  have eK := g.K
  generalize hC : He.ga J.K c = C at *
  rw [← eK] at ox ini ty fn hb
  refine ⟨ps_imp (ps_raise g.calm g.tk (pmk_oex (CX := L2.CX X.prog X.w) ox ini ty fn (g.room.mono hn) hb .nil (passes_call g.tk (fun _ _ _ _ z => z.elim)) hg gC ha.pa hdb he hpl)) fun D σ H ⟨Hse, He, env, Hs, Hr, R, p⟩ => ?_⟩
  refine ⟨Hse, He, env, Hs, Hr, R, post_st R p fun xs Hs1 Hr1 H1 x1 R1 p1 vs rv => ?_⟩
  have p1 : PostS J Hse He D (if xs.all shV = true ∧ xs.length = fs.length ∧ fs ≠ [] ∧ fs.length ≤ 9 then .exc c fs.reverse (xs.map (·.2)).reverse env else .bad) := p1
  split at p1
  · rename_i hh
    obtain ⟨hs, hl, hne, h9⟩ := hh
    have lv : vs.length = fs.length := (repTs_len rv).trans hl
    refine ⟨by omega, fun a ha0 => ⟨a, vs, by rw [List.append_nil], lv, upd_same, fun dx H2 h1 h2 h3 h4 h5 => ?_⟩⟩
    have n1 : H1 dx = none := by rw [upd_ne h2] at h1; exact h1
    refine ⟨rfl, dx, (fs.zip vs).reverse, h3, h4, n1, ?_⟩
    have eH : upd (del H2 a) dx (.xd (fs.zip vs).reverse) = upd H1 dx (.xd (fs.zip vs).reverse) := by
      funext b
      by_cases q1 : b = dx
      · subst q1; rw [upd_same, upd_same]
      · rw [upd_ne q1, upd_ne q1]
        by_cases q2 : b = a
        · subst q2; rw [del_same, ha0]
        · rw [del_ne q2, h5 b q2 q1, upd_ne q2]
    rw [eH]
    have xx := Ext.xd R1.ok (fs := (fs.zip vs).reverse) n1
    have m1 : ((fs.zip vs).reverse).map (·.1) = fs.reverse := by rw [List.map_reverse, List.map_fst_zip (by omega)]
    have m2 : ((fs.zip vs).reverse).map (·.2) = vs.reverse := by rw [List.map_reverse, List.map_snd_zip (by omega)]
    refine p1 (.ref C) (some dx) σ _ _ _ (R1.ext xx) ⟨C, cl, rfl, .inr ⟨dx, _, rfl, upd_same, m1, by simpa using hne, ?_⟩⟩
    rw [m2]
    exact ((shVs_reps R1.ok rv hs).mono xx.s).reverse
  · exact (show False from p1).elim
end
/-! the facts as one Bool -/
def oxB (K : PySem.W.Frag) (C : Addr) : Bool := match K.lookup C with
  | some ⟨.type "type", _, .cls cd, sl⟩ => (match cd.mro, sl.toList with
    | .ref D :: bm, [_, _, _, _, some (.builtin n), _] => D == C && (n == "ValueError.__new__" && (!cd.hasDel && (PySem.HandSPX.refsVE bm && cd.hasDict)))
    | _, _ => false)
  | _ => false
theorem oxB_ok {K : PySem.W.Frag} {C : Addr} (q : oxB K C = true) : ∃ nm q N bs bm sn sub ab col dd k0 k1 k2 k3 k5, K.lookup C = some (excClassObj nm q C N bs bm true sn sub ab col dd k0 k1 k2 k3 k5 "ValueError.__new__") ∧ PySem.HandSPX.refsVE bm = true := by
  unfold oxB at q
  split at q
  · rename_i dd cd sl ho
    split at q
    · rename_i D bm k0 k1 k2 k3 n k5 hm hs
      simp only [Bool.and_eq_true, beq_iff_eq, Bool.not_eq_true'] at q
      obtain ⟨rfl, rfl, h3, h4, h5⟩ := q
      obtain ⟨nm, bs, mro, ns, qn, hd, sn, sub, ab, col, del⟩ := cd
      dsimp only at hm h3 h5
      subst hm h3 h5
      obtain ⟨l⟩ := sl
      have e : l = [k0, k1, k2, k3, some (.builtin "ValueError.__new__"), k5] := hs
      subst e
      exact ⟨nm, qn, ns, bs, bm, sn, sub, ab, col, dd, k0, k1, k2, k3, k5, ho, h4⟩
    · cases q
  · cases q
def xfB (c : Str) (fs : List Str) (K : PySem.W.Frag) : Bool := oxB K (He.ga K c) && (decide (PySem.W.findIn K (.ref (He.ga K c)) "__setattr__" = some (some (.builtin "object.__setattr__"))) && (decide (PySem.W.subIn K (.ref (He.ga K c)) (.type "BaseException") = some true) &&
  (decide (PySem.W.typeIn K (.ref (He.ga K c)) = some (.type "type")) && (PySem.W.keepIn K (.ref (He.ga K c)) && ((fs.all fun f => decide (PySem.W.findIn K (.ref (He.ga K c)) f = some none)) &&
  (decide (PySem.W.findIn K (.ref (He.ga K c)) "__init__" = some (some (.ref (He.ma K (He.ga K c) "__init__")))) && decide (PySem.W.typeIn K (.ref (He.ma K (He.ga K c) "__init__")) = some (.type "function"))))))))
theorem xcF_of {co : Str → Option Addr} {names : List Str} {c : Str} {fs : List Str} {K : PySem.W.Frag} {mg : Str → Option Value} (gC : mg c = some (.ref (He.ga K c))) (hc : names.contains c = true) (b : xfB c fs K = true) : XcF ⟨K, clOf names K, co⟩ mg c fs := by
  unfold xfB at b
  simp only [Bool.and_eq_true, decide_eq_true_eq, List.all_eq_true] at b
  obtain ⟨b1, b2, b3, b4, b5, b6, b7, b8⟩ := b
  exact ⟨gC, if_pos hc, ⟨oxB_ok b1, b2, b3, b4, b5⟩, b6, b7, b8⟩
def clsB : Stmt → List Stmt
  | .ClassDef (body := b) .. => b
  | _ => []
theorem ms_raiseX {X : Cx} {J : Jx} {n : Nat} (g : Good X J n) {c : Str} {fs : List Str} {e : Expr} {es : List Expr} {F : Env → Res (List TV)} {p pos pos2 : Pos} (x : XcF J.toGx X.mg c fs) (hn : 2 ≤ n)
    (nn : ∃ fd ps, FnOk X.prog X.w J.K X.mg X.base (L2.CX X.prog X.w) 1 (He.ma J.K (He.ga J.K c) "__init__") fd ps (spIn J.K (He.ga J.K c) fs) ∧ Binds J.K fd ps []) (ha : MA X J (e :: es) F) (hg : Gl X c := by rfl) (hdb : (c == ("__debug__" : Str)) = false := by decide)
    (he : starEach (e :: es) X.env = (false, eval e X.env) :: starEach es X.env := by rfl) (hpl : (backTo pos (starEach es X.env)).any (·.1) = false := by rfl) :
    MS X J (.Raise (some (.Call (.Name c p) (e :: es) [] pos)) none pos2) (raiseF c fs F) :=
  let ⟨_, _, a, b⟩ := nn
  ms_raiseF g x hn a b ha hg hdb he hpl
/-! e.f, e the caught error -/
def fldX (i : Nat) (f : Str) : Env → Res TV := fun env => match env[i]? with
  | some (some (.exn _ ks vs)) => match ((ks.zip vs).lookup f : Option D) with
    | some d => .ok (.s, d)
    | none => .bad
  | _ => .bad
structure FldC (G : Gx) (f : Str) : Prop where
  xf : ∀ c D, G.cl c = some D → XfC G.K D
  no : ∀ c D, G.cl c = some D → PySem.W.findIn G.K (.ref D) f = some none
def fldB (names : List Str) (f : Str) (K : PySem.W.Frag) : Bool := names.all fun c => L2.xfB K (He.ga K c) && decide (PySem.W.findIn K (.ref (He.ga K c)) f = some none)
theorem fldC_of {co : Str → Option Addr} {names : List Str} {f : Str} {K : PySem.W.Frag} (b : fldB names f K = true) : FldC ⟨K, clOf names K, co⟩ f := by
  have key : ∀ c D, clOf names K c = some D → XfC K D ∧ PySem.W.findIn K (.ref D) f = some none := fun c D e => by
    unfold clOf at e
    by_cases q : names.contains c = true
    · rw [if_pos q] at e
      cases e
      obtain ⟨h1, h2⟩ := Bool.and_eq_true_iff.mp (List.all_eq_true.mp b c (List.contains_iff_mem.mp q))
      exact ⟨xfB_ok h1, of_decide_eq_true h2⟩
    · rw [if_neg q] at e; cases e
  exact ⟨fun c D e => (key c D e).1, fun c D e => (key c D e).2⟩
theorem Reps.look {G : Gx} {H : Hp} {f : Str} {d : D} : ∀ {fs : List (Str × V)} {ks : List Str} {vs : List D}, fs.map (·.1) = ks → Reps G H (fs.map (·.2)) vs → (ks.zip vs).lookup f = some d → ∃ v, fs.lookup f = some v ∧ Rep G H v d
  | [], _, _, e, r, h => by subst e; cases r; cases h
  | (k, v) :: fs, _, _, e, r, h => by
    subst e
    cases r with
    | cons r1 r2 =>
      rename_i y ys
      rw [List.map_cons, List.zip_cons_cons, List.lookup_cons] at h
      rw [List.lookup_cons]
      cases q : (f == k) with
      | true => rw [q] at h; cases h; exact ⟨v, rfl, r1⟩
      | false => rw [q] at h; exact Reps.look rfl r2 h
section
variable {X : Cx} {J : Jx} {a : Addr} {oe : Obj} {cls : Value} {d : Option Addr} {pn : List (Addr × Obj)}
theorem mv_fldX (i : Nat) {nm f : Str} {p1 pos : Pos} (b : Bas (X.suite a ((a, oe) :: pn)) (J.su a cls d)) (hz : Zc cls d oe) (hf : ∃ vs, oe.data = .fields vs) (I : FldC J.toGx f) (hN : X.N[i]? = some nm := by rfl)
    (hv : Vis X.env.scope nm := by first | exact Or.inl rfl | exact Or.inr (Or.inl rfl) | exact Or.inr (Or.inr rfl)) (hd : (nm == ("__debug__" : Str)) = false := by decide) (hcd : (nm == ("__classdict__" : Str)) = false := by decide)
    (hb : attributeBase (.Name nm p1) f X.env (eval (.Name nm p1) X.env) = eval (.Name nm p1) X.env := by rfl) : MV (X.suite a ((a, oe) :: pn)) (J.su a cls d) (.Attribute (.Name nm p1) f pos) (fldX i f) := by
  refine ⟨⟨fun pins s σ H Q I0 h => ?_⟩⟩
  obtain ⟨Hse, He', env, Hs, Hr, R, p⟩ := h
  unfold fldX at p
  split at p
  · rename_i c' ks vs q
    split at p
    · rename_i y hy
      obtain ⟨a', cv', d', g1, g2, g3⟩ := R.slot i _ q
      cases g1
      obtain ⟨D, k1, rfl, k3⟩ := g3
      have eK : X.K = J.K := b.K
      rcases k3 with ⟨rfl, rfl, _⟩ | ⟨dd, fs, rfl, k4, k5, k6, k7⟩
      · cases hy
      · obtain ⟨v, l1, l2⟩ := Reps.look k5 k7 hy
        exact (pe_xf (X := X) (by rw [eK]; exact I.xf _ D k1) (by rw [eK]; exact I.no _ D k1) hz hf (pv (X := X.suite a ((a, oe) :: pn)) i hN hv hd hcd) hb).run pins s σ H Q I0 ⟨_, g2, rfl, rfl, dd, fs, v, rfl, R.ok.sh _ _ k4, l1, Post.now R.ok p v l2⟩
    · exact (show False from p).elim
  · exact (show False from p).elim
end
end DL

namespace DL
open PySem PySem.Spec PyProof.Rows L2
/-! ### objects: fields -/
/-- what the text says of a class of its own -/
structure ClsG (G : Gx) (c : Str) : Prop where
  cl : G.co c = some (He.ga G.K c)
  cls : Cls G.K (He.ga G.K c)
/-- e.f, of these classes -/
structure FldG (G : Gx) (cs : List Str) (f : Str) : Prop where
  at_ : ∀ c ∈ cs, ClsG G c ∧ NoAttr G.K (He.ga G.K c) f
def OD.tg : OD → Tg
  | .sh _ => .s
  | t => .n t
/-- a part of a value, as it may be told of -/
def kidT (t : Tg) (i : Nat) (d : D) : TV := match t with
  | .n (.obj _ _ ts) => (match ts[i]? with | some k => (k.tg, k.d) | none => (.h, d))
  | .n (.lst ts) => (match ts[i]? with | some k => (k.tg, k.d) | none => (.h, d))
  | .n (.tup ts) => (match ts[i]? with | some k => (k.tg, k.d) | none => (.h, d))
  | .n (.dic _ ts) => (match ts[i]? with | some k => (k.tg, k.d) | none => (.h, d))
  | t => (itT t, d)
def lookI (f : Str) : List Str → Option Nat
  | [] => none
  | k :: r => if f = k then some 0 else (lookI f r).map (· + 1)
def kFld (cs : List Str) (f : Str) (x : TV) : Res TV := match x.2 with
  | .obj c ks xs => if cs.contains c = true then (match lookI f ks with
    | some i => (match xs[i]? with | some d => .ok (kidT x.1 i d) | none => .bad)
    | none => .bad) else .bad
  | _ => .bad
theorem ORep.tg {G : Gx} {Hs Hr H : Hp} {v : V} {k : OD} {fp : List Addr} (h : ORep G Hs H v k fp) : RepT G k.tg Hs Hr H v k.d := by
  cases k with
  | sh d => cases h with | sh r => rw [OD.d]; exact r
  | _ => exact ⟨rfl, fp, h⟩
theorem OReps.get {G : Gx} {Hs H : Hp} : ∀ {vs : List V} {ts : List OD} {fp : List Addr} {i : Nat} {k : OD}, OReps G Hs H vs ts fp → ts[i]? = some k → ∃ u f, vs[i]? = some u ∧ ORep G Hs H u k f
  | _, _, _, _, _, .nil, e => by simp at e
  | _, _, _, 0, _, .cons h r, e => by simp at e; subst e; exact ⟨_, _, rfl, h⟩
  | _, _, _, i + 1, _, .cons h r, e => by
    obtain ⟨u, f, h1, h2⟩ := r.get (i := i) (by simpa using e)
    exact ⟨u, f, by simpa using h1, h2⟩
theorem OReps.length {G : Gx} {Hs H : Hp} : ∀ {vs : List V} {ts : List OD} {fp : List Addr}, OReps G Hs H vs ts fp → vs.length = ts.length
  | _, _, _, .nil => rfl
  | _, _, _, .cons _ r => congrArg (· + 1) r.length
theorem ds_get {ts : List OD} {i : Nat} {d : D} (h : (OD.ds ts)[i]? = some d) : ∃ k, ts[i]? = some k ∧ k.d = d := by
  rw [OD.ds_map, List.getElem?_map, Option.map_eq_some_iff] at h
  exact h
theorem RepT.insH {G : Gx} {t : Tg} {Hs Hr H : Hp} {v : V} {c : Str} {ks : List Str} {xs : List D} (k : HpOk Hs Hr H) (r : RepT G t Hs Hr H v (.obj c ks xs)) :
    ∃ a C dx fs, v = .ref a ∧ G.co c = some C ∧ H a = some (.ins C dx fs) ∧ fs.map (·.1) = ks ∧ Reps G H (fs.map (·.2)) xs := by
  generalize hd : D.obj c ks xs = d at r
  cases r.h k <;> cases hd
  rename_i a C dx fs h2 h1 h3
  exact ⟨a, C, dx, fs, rfl, h1, h2, rfl, h3⟩
theorem RepT.kid {G : Gx} {t : Tg} {Hs Hr H : Hp} {v : V} {c : Str} {ks : List Str} {xs : List D} {i : Nat} {d : D} (k : HpOk Hs Hr H) (r : RepT G t Hs Hr H v (.obj c ks xs)) (hi : xs[i]? = some d) :
    ∃ a C dx fs u, v = .ref a ∧ G.co c = some C ∧ H a = some (.ins C dx fs) ∧ fs.map (·.1) = ks ∧ (fs.map (·.2))[i]? = some u ∧ RepT G (kidT t i d).1 Hs Hr H u (kidT t i d).2 := by
  have low : ∀ Hx : Hp, Same Hx H → ∀ w : Tg, (∀ u, Rep G Hx u d → RepT G w Hs Hr H u d) → Rep G Hx v (.obj c ks xs) → ∃ a C dx fs u, v = .ref a ∧ G.co c = some C ∧ H a = some (.ins C dx fs) ∧ fs.map (·.1) = ks ∧ (fs.map (·.2))[i]? = some u ∧ RepT G w Hs Hr H u d := fun Hx e w hw r => by
    generalize hd : D.obj c ks xs = dd at r
    cases r <;> cases hd
    rename_i a C dx fs h2 h1 h3
    obtain ⟨u, g1, g2⟩ := h3.get hi
    exact ⟨a, C, dx, fs, u, rfl, h1, e _ _ h2, rfl, g1, hw u g2⟩
  cases t with
  | s => exact low Hs k.sh .s (fun u r => r) r
  | r => exact low Hr k.rh .r (fun u r => r) r
  | h => exact low H (Same.refl _) .h (fun u r => r) r
  | o => exact (show False from r).elim
  | n t =>
    have low2 := low H (Same.refl _) .h (fun u r => r) (RepT.h k r)
    obtain ⟨e, fp, h⟩ := r
    cases t with
    | sh d0 => exact low2
    | lst ts => rw [OD.d] at e; cases e
    | tup ts => rw [OD.d] at e; cases e
    | dic ks' ts => rw [OD.d] at e; cases e
    | obj c' ks' ts =>
      rw [OD.d] at e
      injection e with e1 e2 e3
      subst e1 e2 e3
      obtain ⟨kd, hk, ek⟩ := ds_get hi
      generalize ht : OD.obj c ks ts = tt at h
      cases h <;> cases ht
      rename_i a C dx fs f h2 h1 h3
      obtain ⟨u, f', g1, g2⟩ := h3.get hk
      have ekid : kidT (.n (.obj c (fs.map (·.1)) ts)) i d = (kd.tg, kd.d) := by
        show (match ts[i]? with | some k => (k.tg, k.d) | none => (.h, d)) = _
        rw [hk]
      rw [ekid]
      exact ⟨a, C, dx, fs, u, rfl, h1, h2, rfl, g1, g2.tg⟩
theorem lookI_get {f : Str} {u : V} : ∀ {fs : List (Str × V)} {i : Nat}, lookI f (fs.map (·.1)) = some i → (fs.map (·.2))[i]? = some u → fs.lookup f = some u
  | [], _, h, _ => by cases h
  | (k, v) :: r, i, h, g => by
    rw [List.map_cons, lookI] at h
    by_cases q : f = k
    · rw [if_pos q] at h
      cases h
      simp at g
      rw [List.lookup_cons, beq_iff_eq.mpr q, g]
    · rw [if_neg q] at h
      rw [List.lookup_cons, beq_eq_false_iff_ne.mpr q]
      cases hl : lookI f (r.map (·.1)) with
      | none => rw [hl] at h; cases h
      | some j =>
        rw [hl] at h
        cases h
        exact lookI_get hl (by simpa using g)
section
variable {X : Cx} {J : Jx} {e o : Expr} {pos : Pos} {f : Str} {cs : List Str} {fx : Env → Res TV} {fe : Env → Res EV}
theorem mv_fld (B : Bas X J) (I : FldG J.toGx cs f) (ha : MV X J e fx) (hb : attributeBase e f X.env (eval e X.env) = eval e X.env := by rfl) : MV X J (.Attribute e f pos) (bin1 fx (kFld cs f)) :=
  ⟨pe_imp (pe_fld ha.pe hb) fun σ H Q n => run1 (wishV (J := J) (Q := Q)) n fun v H1 _ _ _ Hs Hr x _ R rv p => by
    obtain ⟨t, d⟩ := x
    unfold kFld at p
    cases d with
    | obj c ks xs =>
      dsimp only at p
      split at p
      · rename_i hc
        obtain ⟨cg, na⟩ := I.at_ c (List.contains_iff_mem.mp hc)
        cases hl : lookI f ks with
        | none => rw [hl] at p; exact (show False from p).elim
        | some i =>
          rw [hl] at p
          dsimp only at p
          cases hx : xs[i]? with
          | none => rw [hx] at p; exact (show False from p).elim
          | some d =>
            rw [hx] at p
            dsimp only at p
            obtain ⟨a, C, dx, fs, u, rfl, h1, h2, h3, h4, h5⟩ := rv.kid R.ok hx
            rw [cg.cl] at h1
            cases h1
            rw [← h3] at hl
            exact ⟨a, _, dx, fs, u, rfl, h2, by rw [B.K]; exact cg.cls, by rw [B.K]; exact na, lookI_get hl h4, Post.now R.ok p _ h5⟩
      · exact (show False from p).elim
    | _ => exact (show False from p).elim⟩

/-! ### what is moved into a tree -/
def evOD : EV → Option OD
  | .val t d => if shV (t, d) = true then some (.sh d) else none
  | .own xs => some (.lst (xs.map .sh))
  | .ownd ks xs => some (.dic ks (xs.map .sh))
  | .ownt t => some t
  | .exn _ _ _ => none
end
theorem OReps.shs {G : Gx} {Hs H : Hp} : ∀ {vs : List V} {xs : List D}, Reps G Hs vs xs → OReps G Hs H vs (xs.map .sh) []
  | _, _, .nil => .nil
  | _, _, .cons h r => .cons (.sh h) (OReps.shs r)
/-- a wish for a tree is one for the value -/
def SM (J : Jx) (H0 : Hp) (Q : VK) (e : EV) (Hs Hr H : Hp) : Prop := match evOD e with
  | some t => ∀ v fp, ORep J.toGx Hs H v t fp → fp.Nodup → (∀ p ∈ fp, Hr p = none) → (∀ p ∈ fp, H0 p = none) → Q v H
  | none => False
theorem SM.se {J : Jx} {H0 : Hp} {Q : VK} {e : EV} {Hs Hr H : Hp} (k : HpOk Hs Hr H) (h : SM J H0 Q e Hs Hr H) : SE J H0 Q e Hs Hr H := by
  cases e with
  | val t d =>
    intro v r
    by_cases hs : shV (t, d) = true
    · have e : evOD (.val t d) = some (.sh d) := if_pos hs
      unfold SM at h
      rw [e] at h
      exact h v [] (.sh (RepT.shV (x := (t, d)) k r hs)) List.nodup_nil (fun p hp => by cases hp) (fun p hp => by cases hp)
    · have e : evOD (.val t d) = none := if_neg hs
      unfold SM at h
      rw [e] at h
      exact h.elim
  | own xs =>
    intro p vs a b c r
    exact h (.ref p) [p] (.lst a (OReps.shs r)) (List.nodup_cons.mpr ⟨by simp, List.nodup_nil⟩) (fun q hq => by cases List.mem_singleton.mp hq; exact b) (fun q hq => by cases List.mem_singleton.mp hq; exact c)
  | ownd ks xs =>
    intro p kvs a b c k r
    subst k
    exact h (.ref p) [p] (.dic a (OReps.shs r)) (List.nodup_cons.mpr ⟨by simp, List.nodup_nil⟩) (fun q hq => by cases List.mem_singleton.mp hq; exact b) (fun q hq => by cases List.mem_singleton.mp hq; exact c)
  | ownt t => exact h
  | exn c ks vs => exact h.elim
def putK (f : Str) : List Str → List Str
  | [] => [f]
  | g :: r => if g = f then g :: r else g :: putK f r
def putX {α : Type} (f : Str) (y : α) : List Str → List α → List α
  | g :: r, x :: xs => if g = f then y :: xs else x :: putX f y r xs
  | _, _ => [y]
theorem putF_keys (f : Str) (v : V) : ∀ fs : List (Str × V), (putF f v fs).map (·.1) = putK f (fs.map (·.1))
  | [] => rfl
  | (g, x) :: r => by
    rw [putF, List.map_cons, putK]
    by_cases h : g = f
    · rw [if_pos h, if_pos h] <;> rfl
    · rw [if_neg h, if_neg h, List.map_cons, putF_keys f v r]
theorem OReps.putF {G : Gx} {Hs H : Hp} {f : Str} {y : OD} {v : V} {fy : List Addr} (hy : ORep G Hs H v y fy) : ∀ {fs : List (Str × V)} {xs : List OD} {fp : List Addr}, OReps G Hs H (fs.map (·.2)) xs fp → (fp ++ fy).Nodup →
    ∃ fp', OReps G Hs H ((L2.putF f v fs).map (·.2)) (putX f y (fs.map (·.1)) xs) fp' ∧ fp'.Nodup ∧ ∀ p ∈ fp', p ∈ fp ∨ p ∈ fy
  | [], _, _, .nil, nd => ⟨fy ++ [], .cons hy .nil, by simpa using nd, fun p hp => .inr (by simpa using hp)⟩
  | (g, x) :: r, _, _, .cons (f := f1) (g := g1) h rr, nd => by
    rw [L2.putF, List.map_cons, putX]
    have nd' := List.nodup_append.mp nd
    have nd1 := List.nodup_append.mp nd'.1
    by_cases q : g = f
    · rw [if_pos q, if_pos q, List.map_cons]
      refine ⟨fy ++ g1, .cons hy rr, ?_, fun p hp => ?_⟩
      · refine List.nodup_append.mpr ⟨nd'.2.1, nd1.2.1, fun a ha b hb e => ?_⟩
        exact nd'.2.2 b (List.mem_append_right _ hb) a ha e.symm
      · rcases List.mem_append.mp hp with hp | hp
        · exact .inr hp
        · exact .inl (List.mem_append_right _ hp)
    · rw [if_neg q, if_neg q, List.map_cons]
      obtain ⟨fp', h1, h2, h3⟩ := OReps.putF (f := f) hy rr (List.nodup_append.mpr ⟨nd1.2.1, nd'.2.1, fun a ha b hb => nd'.2.2 a (List.mem_append_right _ ha) b hb⟩)
      refine ⟨f1 ++ fp', .cons h h1, ?_, fun p hp => ?_⟩
      · refine List.nodup_append.mpr ⟨nd1.1, h2, fun a ha b hb e => ?_⟩
        rcases h3 b hb with z | z
        · exact nd1.2.2 a ha b z e
        · exact nd'.2.2 a (List.mem_append_left _ ha) b z e
      · rcases List.mem_append.mp hp with hp | hp
        · exact .inl (List.mem_append_left _ hp)
        · rcases h3 p hp with z | z
          · exact .inl (List.mem_append_right _ z)
          · exact .inr z
section
variable {X : Cx} {J : Jx} {e o : Expr} {pos : Pos} {f : Str} {cs : List Str} {fx : Env → Res TV} {fe : Env → Res EV}
/-- x.f = e, x a name of an object of the def's own -/
def setFE (i : Nat) (cs : List Str) (f : Str) (env : Env) (e : EV) : SR := match evOD e, env[i]? with
  | some y, some (some (.ownt (.obj c ks xs))) => if cs.contains c = true ∧ ks.length < 900 then .nx (env.set i (some (.ownt (.obj c (putK f ks) (putX f y ks xs))))) else .bad
  | _, _ => .bad
def setFS (i : Nat) (cs : List Str) (f : Str) (fe : Env → Res EV) : Env → SR := fun env => (fe env).st env (setFE i cs f env)
theorem ms_setF (i : Nat) {x : Str} {px pos' : Pos} (B : Bas X J) (I : FldG J.toGx cs f) (h : ME X J e fe) (hN : X.N[i]? = some x := by rfl) (hv : Vis X.env.scope x := by first | exact Or.inl rfl | exact Or.inr (Or.inl rfl) | exact Or.inr (Or.inr rfl)) (hd : (x == ("__debug__" : Str)) = false := by decide)
    (hcd : (x == ("__classdict__" : Str)) = false := by decide) (hs : swapsWith e (some (.Attribute (.Name x px) f pos')) pos.line X.env = pure false := by rfl) :
    MS X J (.Assign [.Attribute (.Name x px) f pos'] e pos) (setFS i cs f fe) :=
  ⟨ps_imp (ps_fld (pv i hN hv hd hcd) h.pe hs) fun D σ H ⟨Hse, He, env, Hs, Hr, R, p⟩ => ⟨Hse, He, env, Hs, Hr, R, post_st R p fun a Hs' Hr' H' x R' p' => by
    refine SM.se R'.ok ?_
    unfold setFE at p'
    unfold SM
    cases hy : evOD a with
    | none => rw [hy] at p'; exact (show False from p').elim
    | some y =>
      rw [hy] at p'
      dsimp only at p' ⊢
      split at p'
      · rename_i y' c ks xs q1 q2
        cases q1
        split at p'
        · rename_i hc
          intro v fy ry ndy fry h0y
          obtain ⟨u, fp, e1, r1, nd, fr⟩ := R'.slot i _ q2
          refine ⟨u, e1, ?_⟩
          have r0 := r1
          generalize ht : OD.obj c ks xs = tt at r1
          cases r1 <;> cases ht
          rename_i a C dx fs fp1 k2 k1 k3
          obtain ⟨cg, na⟩ := I.at_ c (List.contains_iff_mem.mp hc.1)
          rw [cg.cl] at k1
          cases k1
          refine ⟨a, _, dx, fs, rfl, k2, by rw [B.K]; exact cg.cls, by rw [B.K]; exact na, by have := hc.2; rw [List.length_map] at this; omega, ?_⟩
          have nd1 := List.nodup_cons.mp nd
          -- what is new is none of what is owned
          have dj : ∀ q ∈ fy, ∀ j, ¬ OwnAt J.toGx Hs' H' env σ j q := fun q hq j hj => by
            obtain ⟨o, ho⟩ := (R.own (hj.back R x.s fun _ _ o h => x.h _ o h)).1
            rw [h0y q hq] at ho
            cases ho
          have ow : OwFp J.toGx Hs' H' σ[i]? (a :: fp1) (.ownt (.obj c (fs.map (·.1)) xs)) := ⟨_, e1, r0⟩
          have dj2 : ∀ q ∈ fy, q ∉ (a :: fp1) := fun q hq hm => dj q hq i ⟨_, _, q2, ow, hm⟩
          have na1 : a ∉ fp1 := nd1.1
          have ry2 : ORep J.toGx Hs' (upd H' a (.ins (_root_.He.ga J.K c) dx (L2.putF f v fs))) v y fy := ry.frame (Same.refl _) fun b hb o ho => by
            rw [upd_ne (fun z => dj2 b hb (by rw [z]; exact List.mem_cons_self))]; exact ho
          have k3' : OReps J.toGx Hs' (upd H' a (.ins (_root_.He.ga J.K c) dx (L2.putF f v fs))) (fs.map (·.2)) xs fp1 := k3.frame (Same.refl _) fun b hb o ho => by
            rw [upd_ne (fun z => na1 (by rw [← z]; exact hb))]; exact ho
          obtain ⟨fp', g1, g2, g3⟩ := OReps.putF (f := f) ry2 k3' (List.nodup_append.mpr ⟨nd1.2, ndy, fun b hb d hd e => dj2 d hd (by rw [← e]; exact List.mem_cons_of_mem _ hb)⟩)
          have rep : ORep J.toGx Hs' (upd H' a (.ins (_root_.He.ga J.K c) dx (L2.putF f v fs))) (.ref a) (.obj c (putK f (fs.map (·.1))) (putX f y (fs.map (·.1)) xs)) (a :: fp') := by
            rw [← putF_keys f v fs]
            exact .obj cg.cl upd_same g1
          refine p' σ Hs' Hr' _ (R'.mut q2 ow (fun b hb => upd_ne fun z => hb (by rw [z]; exact List.mem_cons_self)) (fun b hb ys => ?_) ?_ fun f2 hf2 q hq => ?_)
          · rcases List.mem_cons.mp hb with rfl | hb
            · rw [upd_same]; exact fun z => by cases z
            · rw [upd_ne (fun z => na1 (by rw [← z]; exact hb))]
              obtain ⟨o, ho, hn⟩ := r0.at b (List.mem_cons_of_mem _ hb)
              rw [ho]; exact fun z => hn ys (Option.some.inj z)
          · rw [e1]
            refine ⟨_, a :: fp', rfl, rep, List.nodup_cons.mpr ⟨fun z => ?_, g2⟩, fun q hq => ?_⟩
            · rcases g3 a z with z | z
              · exact na1 z
              · exact dj2 a z List.mem_cons_self
            · rcases List.mem_cons.mp hq with rfl | hq
              · exact fr _ List.mem_cons_self
              · rcases g3 q hq with z | z
                · exact fr _ (List.mem_cons_of_mem _ z)
                · exact fry q z
          · rw [e1] at hf2
            obtain ⟨w, ew, rw'⟩ := hf2
            cases ew
            cases rep.det rw'
            rcases List.mem_cons.mp hq with rfl | hq
            · exact .inl List.mem_cons_self
            · rcases g3 q hq with z | z
              · exact .inl (List.mem_cons_of_mem _ z)
              · exact .inr fun j _ hj => dj q z j hj
        · exact (show False from p').elim
      · exact (show False from p').elim⟩⟩

/-! ### methods -/
def tMethD (X : Cx) (m : Str) (E : St → XK) (ta : TE) (t : TA) : TE := fun σ H Q => ta σ H fun x H1 => ∃ a C dx fs f fd ps ds dvs k sp, x = .ref a ∧ H1 a = some (.ins C dx fs) ∧ fs.lookup m = none ∧ Cls X.K C ∧ Meth X.K C m f ∧
  FnOk X.prog X.w X.K X.mg X.base (L2.CX X.prog X.w) k f fd ps sp ∧ Room k X.A ∧ Binds X.K fd ps ds ∧ Vals dvs ds ∧ t σ H1 fun vs H2 => sp (x :: (vs ++ dvs)) H2 Q (E σ)
theorem pe_methD {m : Str} {E : St → XK} {apos : Pos} {es : List Expr} {ta : TE} {t : TA} {pl : Sem Bool} (he : PE X o ta) (hx : ∀ σ, PassesAt (L2.CX X.prog X.w) X σ (E σ)) (ha : PA X (e :: es) t)
    (hst : starEach (e :: es) X.env = (false, eval e X.env) :: starEach es X.env := by rfl) (hpl : (backTo pos (starEach es X.env)).any (·.1) = false := by rfl)
    (ht : eval (.Call (.Attribute o m apos) (e :: es) [] pos) X.env = (do
      let ov ← eval o X.env
      standAt apos.atName
      let (f, first) ← holding [ov] (getMethod ov m pl)
      callWith pos f first (backTo pos (starEach (e :: es) X.env)) (backToKw pos (keywordEach [] X.env))) := by rfl) :
    PE X (.Call (.Attribute o m apos) (e :: es) [] pos) (tMethD X m E ta t) := by
  refine ⟨fun pins s σ H Q I h => ?_⟩
  refine PySem.W.methodCall_KW (pl := pl) (thn (he.run pins s σ H _ I h) fun u s1 ⟨x, H1, I1, rx, a, C, dx, fs, f, fd, ps, ds, dvs, k, sp, ex, ea, l, c, hm, F, hr, hb, hd, q⟩ => ?_) ht
  subst ex
  obtain rfl : u = Value.ref a := rx
  refine getmeth_ok I1 ea c hm l ?_
  refine PySem.W.callWith_K (first := [.ref a]) (h₀ := X.base) I.ok.mod.kin hm.kp (thn (ha.run pos pins s1 σ H1 _ I1 q) fun us s2 ⟨vs, H2, I2, r, q2⟩ => ⟨I2.kIn, ?_⟩) hst hpl
  exact run_fnSD (us := .ref a :: us) (vs := .ref a :: vs) F hr hb hd (hx σ) I2 (.cons rfl r) q2
theorem pe_methD0 {m : Str} {E : St → XK} {apos : Pos} {ta : TE} {pl : Sem Bool} (he : PE X o ta) (hx : ∀ σ, PassesAt (L2.CX X.prog X.w) X σ (E σ))
    (ht : eval (.Call (.Attribute o m apos) [] [] pos) X.env = (do
      let ov ← eval o X.env
      standAt apos.atName
      let (f, first) ← holding [ov] (getMethod ov m pl)
      callWith pos f first (backTo pos (starEach [] X.env)) (backToKw pos (keywordEach [] X.env))) := by rfl) :
    PE X (.Call (.Attribute o m apos) [] [] pos) (tMethD X m E ta tNil) := by
  refine ⟨fun pins s σ H Q I h => ?_⟩
  refine PySem.W.methodCall_KW (pl := pl) (thn (he.run pins s σ H _ I h) fun u s1 ⟨x, H1, I1, rx, a, C, dx, fs, f, fd, ps, ds, dvs, k, sp, ex, ea, l, c, hm, F, hr, hb, hd, q⟩ => ?_) ht
  subst ex
  obtain rfl : u = Value.ref a := rx
  refine getmeth_ok I1 ea c hm l ?_
  exact PySem.W.callWith_K0 (first := [.ref a]) I1.kIn hm.kp (run_fnSD (us := [.ref a]) (vs := [.ref a]) F hr hb hd (hx σ) I1 (.cons rfl .nil) q)
end
theorem FnA.mono {P : Program} {w : World} {G : Gx} {mg : Str → Option Value} {base : Heap} {f : Addr} {n m ar : Nat} {F : List EV → Res EV} (h : FnA P w G mg base f n ar F) (hm : n ≤ m) : FnA P w G mg base f m ar F :=
  let ⟨fd, ps, b, k⟩ := h.ok
  ⟨fd, ps, b, k.mono hm⟩
/-- the method m of the class c as a function of data -/
structure MthG (P : Program) (w : World) (G : Gx) (mg : Str → Option Value) (base : Heap) (m : Str) (n ar : Nat) (c : Str) (F : List EV → Res EV) : Prop where
  cg : ClsG G c
  mt : Meth G.K (He.ga G.K c) m (He.ma G.K (He.ga G.K c) m)
  fn : FnA P w G mg base (He.ma G.K (He.ga G.K c) m) n ar F
abbrev Tbl := List (Str × (List EV → Res EV))
def lookT (c : Str) : Tbl → Option (List EV → Res EV)
  | [] => none
  | (k, F) :: r => if c = k then some F else lookT c r
theorem lookT_mem {c : Str} {F : List EV → Res EV} : ∀ {l : Tbl}, lookT c l = some F → (c, F) ∈ l
  | [], h => by cases h
  | (k, G) :: r, h => by
    rw [lookT] at h
    by_cases q : c = k
    · rw [if_pos q] at h; cases h; rw [q]; exact List.mem_cons_self
    · rw [if_neg q] at h; exact List.mem_cons_of_mem _ (lookT_mem h)
def pickM (m : Str) (tbl : Tbl) (x : TV) : Option (List EV → Res EV) := match x.2 with
  | .obj c ks _ => if ks.contains m = true then none else lookT c tbl
  | _ => none
def methS (m : Str) (tbl : Tbl) (f : Env → Res TV) (F : Env → Res (List TV)) : Env → Res EV := fun env => (f env).bind fun x => match pickM m tbl x with
  | some G => (F env).bind fun xs => callD G (x :: xs)
  | none => .bad
theorem lookup_none {α : Type} {m : Str} : ∀ {fs : List (Str × α)}, (fs.map (·.1)).contains m = false → fs.lookup m = none
  | [], _ => rfl
  | (k, v) :: r, h => by
    rw [List.map_cons, List.contains_cons, Bool.or_eq_false_iff] at h
    rw [List.lookup_cons, h.1]
    exact lookup_none h.2
section
variable {X : Cx} {J : Jx} {e o : Expr} {es : List Expr} {pos apos : Pos} {m : Str} {n k : Nat} {fx : Env → Res TV} {F : Env → Res (List TV)} {tbl : Tbl}
theorem run_meth (g : Good X J n) {ar : Nat} (hn : k ≤ n) (T : ∀ q ∈ tbl, MthG X.prog X.w J.toGx X.mg X.base m k (ar + 1) q.1 q.2) (hl : ∀ env xs, F env = .ok xs → xs.length = ar) {σ : St} {H : Hp} {Q : VK} (nn : tE J (methS m tbl fx F) σ H Q) :
    tMethD X m (WE J.W) (tV J fx) (fun σ H Q => Now J σ H F (SA J Q)) σ H Q := by
  obtain ⟨Hse, He, env, Hs, Hr, R, p⟩ := nn
  refine ⟨Hse, He, env, Hs, Hr, R, (Post.bind p).imp fun x Hs1 Hr1 H1 e1 p1 v rv => ?_⟩
  obtain ⟨t, d⟩ := x
  cases hp : pickM m tbl (t, d) with
  | none => rw [hp] at p1; exact (show False from p1).elim
  | some G =>
    rw [hp] at p1
    unfold pickM at hp
    cases d with
    | obj c ks ys =>
      dsimp only at hp
      split at hp
      · cases hp
      · rename_i hm
        obtain ⟨a, C, dx, fs, rfl, h1, h2, h3, h4⟩ := RepT.insH e1.ok rv
        have T1 := T _ (lookT_mem hp)
        rw [T1.cg.cl] at h1
        cases h1
        obtain ⟨fd, ps, hb, hf⟩ := T1.fn.ok
        have eK := g.K
        refine ⟨a, _, dx, fs, _, fd, ps, [], [], k, _, rfl, h2, lookup_none (by rw [h3]; simpa using hm), by rw [eK]; exact T1.cg.cls, by rw [eK]; exact T1.mt, by rw [eK]; exact hf, g.room.mono hn, by rw [eK]; exact hb, .nil, ?_⟩
        have hF' : (F env).bind (fun xs => callD G ((t, .obj c ks ys) :: xs)) = (F env).bind fun xs => if xs.length = ar then callD G ((t, .obj c ks ys) :: xs) else .bad := by
          cases q : F env with
          | ok xs => show callD G _ = if xs.length = ar then callD G _ else .bad; rw [if_pos (hl env xs q)]
          | _ => rfl
        have p1 : Post J σ Hs1 Hr1 H1 ((F env).bind (fun xs => callD G ((t, .obj c ks ys) :: xs))) (SE J H Q) := p1
        rw [hF'] at p1
        refine ⟨Hse, He, env, Hs1, Hr1, R.ext e1, (Post.bind p1).imp fun xs Hs2 Hr2 H2 e2 p2 vs rvs => ?_⟩
        split at p2
        · rename_i hlen
          have q3 : Post J σ Hs2 Hr2 H2 ((G (((t, D.obj c ks ys) :: xs).map toArg)).map fromRet) (SE J H2 Q) := Post.imp (r := (G (((t, D.obj c ks ys) :: xs).map toArg)).map fromRet) p2 fun z _ _ _ _ w => wishE (J := J) (Q := Q) _ _ (e1.h.trans e2.h) _ _ _ _ w
          refine ⟨((t, .obj c ks ys) :: xs).map toArg, Hs2, ⟨e2.ok.sh, Same.refl _, e2.ok.ti⟩, by rw [List.length_map, List.length_cons, hlen], ?_, postR_of e2.ok q3⟩
          rw [List.append_nil]
          exact args_of (xs := (t, .obj c ks ys) :: xs) e2.ok ⟨_, vs, rfl, rv.ext e2, rvs⟩
        · exact (show False from p2).elim
    | _ => cases hp
theorem me_meth {pl : Sem Bool} {ar : Nat} (g : Good X J n) (hn : k ≤ n) (T : ∀ q ∈ tbl, MthG X.prog X.w J.toGx X.mg X.base m k (ar + 1) q.1 q.2) (ho : MV X J o fx) (ha : MA X J (e :: es) F) (har : (e :: es).length = ar := by rfl)
    (hst : starEach (e :: es) X.env = (false, eval e X.env) :: starEach es X.env := by rfl) (hpl : (backTo pos (starEach es X.env)).any (·.1) = false := by rfl)
    (ht : eval (.Call (.Attribute o m apos) (e :: es) [] pos) X.env = (do
      let ov ← eval o X.env
      standAt apos.atName
      let (f, first) ← holding [ov] (getMethod ov m pl)
      callWith pos f first (backTo pos (starEach (e :: es) X.env)) (backToKw pos (keywordEach [] X.env))) := by rfl) :
    ME X J (.Call (.Attribute o m apos) (e :: es) [] pos) (methS m tbl fx F) :=
  ⟨pe_imp (pe_methD (E := WE J.W) ho.pe (fun σ => passAt g.tk σ) ha.pa hst hpl ht) fun σ H Q nn => run_meth g hn T (fun env xs h => (ha.len env xs h).trans har) nn⟩
theorem me_meth0 {pl : Sem Bool} (g : Good X J n) (hn : k ≤ n) (T : ∀ q ∈ tbl, MthG X.prog X.w J.toGx X.mg X.base m k 1 q.1 q.2) (ho : MV X J o fx)
    (ht : eval (.Call (.Attribute o m apos) [] [] pos) X.env = (do
      let ov ← eval o X.env
      standAt apos.atName
      let (f, first) ← holding [ov] (getMethod ov m pl)
      callWith pos f first (backTo pos (starEach [] X.env)) (backToKw pos (keywordEach [] X.env))) := by rfl) :
    ME X J (.Call (.Attribute o m apos) [] [] pos) (methS m tbl fx argN) :=
  ⟨pe_imp (pe_methD0 (E := WE J.W) ho.pe (fun σ => passAt g.tk σ) ht) fun σ H Q nn => by
    have q := run_meth (ar := 0) g hn T (fun env xs h => argN_len h) nn
    obtain ⟨Hse, He, env, Hs, Hr, R, p⟩ := q
    exact ⟨Hse, He, env, Hs, Hr, R, p.imp fun x Hs1 Hr1 H1 e1 p1 v rv => by
      obtain ⟨a, C, dx, fs, f, fd, ps, ds, dvs, k', sp, h1, h2, h3, h4, h5, h6, h7, h8, h9, h10⟩ := p1 v rv
      obtain ⟨_, _, env', Hs', Hr', R', p'⟩ := h10
      exact ⟨a, C, dx, fs, f, fd, ps, ds, dvs, k', sp, h1, h2, h3, h4, h5, h6, h7, h8, h9, Post.now R'.ok p' [] rfl⟩⟩⟩

/-! ### making an object -/
def tMakeS (C : Addr) (sp : Sp) (dvs : List V) (E : St → XK) (t : TA) : TE := fun σ H Q => t σ H fun vs H1 => ∀ x dx, H1 x = none → H1 dx = none → dx ≠ x →
  sp (.ref x :: (vs ++ dvs)) (upd (upd H1 dx (.own x)) x (.ins C dx [])) (fun v H2 => v = .non ∧ Q (.ref x) H2) (E σ)
theorem run_makeS {C f : Addr} {fd : FuncData} {ps : List Str} {sp : Sp} {dvs : List V} {ds : List Value} {E : XK} {CX : CXT} {pins : List (Addr × Obj)} {σ : St} {H : Hp} {s : Shared} {Q : VK} {us : List Value} {vs : List V} (M : Mk X.K C f) (F : FnOk X.prog X.w X.K X.mg X.base CX k f fd ps sp) (hr : Room (k + 1) X.A)
    (hb : Binds X.K fd ps ds) (hd : Vals dvs ds) (hx : PassesAt CX X σ E) (I : Inv X pins σ H s) (r : Vals vs us)
    (h : ∀ x dx, H x = none → H dx = none → dx ≠ x → sp (.ref x :: (vs ++ dvs)) (upd (upd H dx (.own x)) x (.ins C dx [])) (fun v H2 => v = .non ∧ Q (.ref x) H2) E) :
    wpAny (model X.prog X.w) X.A (call (.ref C) us) (EP X pins σ Q) X.xe s := by
  have hq := h (s.heap.objs.size + 1) s.heap.objs.size (I.hok.fresh (Nat.le_succ _)) (I.hok.fresh (Nat.le_refl _)) (Nat.ne_of_lt (Nat.lt_succ_self _))
  have I2 := Inv.made (C := C) I
  have r2 : Vals (V.ref (s.heap.objs.size + 1) :: (vs ++ dvs)) (Value.ref (s.heap.objs.size + 1) :: (us ++ ds)) := .cons rfl (r.append hd)
  have hl : (Value.ref (s.heap.objs.size + 1) :: us ++ ds).length = ps.length := by
    have e := r2.length
    rw [F.len _ _ _ _ hq] at e
    exact e.symm
  refine wpAny_call (make_map (f := f) I.kIn M.makes M.init (beq_iff_eq.mp M.fn) (codeAny_mono (F.run _ X.stack _ _ ⟨Value.ref (s.heap.objs.size + 1) :: us, []⟩ (Value.ref (s.heap.objs.size + 1) :: (us ++ ds)) _ _ E (hr.make C us [])
    (I2.env0.make C us []) (hb _ (Value.ref (s.heap.objs.size + 1) :: us) I2.kIn hl) r2 hq) fun r s' hq' => ?_))
  cases r with
  | error e => exact hx pins _ _ e s' I2 hq'
  | ok fl =>
    cases fl with
    | ret u =>
      obtain ⟨v, H', I3, rv, ev, q3⟩ := I2.after hq'
      subst ev
      exact ⟨rv, ⟨V.ref (s.heap.objs.size + 1), H', I3, rfl, q3⟩⟩
    | next => exact False.elim hq'
    | brk => exact False.elim hq'
    | cont => exact False.elim hq'
theorem pe_makeS {C f : Addr} {fd : FuncData} {ps : List Str} {sp : Sp} {dvs : List V} {ds : List Value} {E : St → XK} {CX : CXT} {x : Str} {p : Pos} {t : TA} (M : Mk X.K C f) (F : FnOk X.prog X.w X.K X.mg X.base CX k f fd ps sp) (hr : Room (k + 1) X.A) (hg : Gl X x) (hm : X.mg x = some (.ref C)) (hb : Binds X.K fd ps ds) (hd : Vals dvs ds)
    (hx : ∀ σ, PassesAt CX X σ (E σ)) (ha : PA X (e :: es) t) (hdb : (x == ("__debug__" : Str)) = false := by decide) (he : starEach (e :: es) X.env = (false, eval e X.env) :: starEach es X.env := by rfl) (hpl : (backTo pos (starEach es X.env)).any (·.1) = false := by rfl) :
    PE X (.Call (.Name x p) (e :: es) [] pos) (tMakeS C sp dvs E t) := by
  refine ⟨fun pins s σ H Q I h => ?_⟩
  refine wpAny_Call_Name_kw (ld_glob I hg hm ?_ hdb)
  refine PySem.W.callWith_K (h₀ := X.base) I.ok.mod.kin M.kp (thn (ha.run pos pins s σ H _ I h) fun us s1 ⟨vs, H1, I1, r, q⟩ => ⟨I1.kIn, ?_⟩) he hpl
  exact run_makeS M F hr hb hd (hx σ) I1 r q
theorem pe_makeS0 {C f : Addr} {fd : FuncData} {ps : List Str} {sp : Sp} {dvs : List V} {ds : List Value} {E : St → XK} {CX : CXT} {x : Str} {p : Pos} (M : Mk X.K C f) (F : FnOk X.prog X.w X.K X.mg X.base CX k f fd ps sp) (hr : Room (k + 1) X.A) (hg : Gl X x) (hm : X.mg x = some (.ref C)) (hb : Binds X.K fd ps ds) (hd : Vals dvs ds)
    (hx : ∀ σ, PassesAt CX X σ (E σ)) (hdb : (x == ("__debug__" : Str)) = false := by decide) : PE X (.Call (.Name x p) [] [] pos) (tMakeS C sp dvs E tNil) := by
  refine ⟨fun pins s σ H Q I h => ?_⟩
  refine wpAny_Call_Name_kw (ld_glob I hg hm ?_ hdb)
  exact PySem.W.callWith_K0 I.kIn M.kp (run_makeS (us := []) M F hr hb hd (hx σ) I .nil h)
end
/-- what an __init__ leaves: the object's fields -/
abbrev InitR := Res (List Str × List OD)
def PostI (G : Gx) (c : Str) (Hs H0 : Hp) (x : Addr) (r : InitR) (Q : VK) (E : XK) : Prop := match r with
  | .ok a => ∀ fp Hs' H', Ret Hs H0 Hs' H' → ORep G Hs' H' (.ref x) (.obj c a.1 a.2) fp → fp.Nodup → (∀ p ∈ fp, Hs' p = none) → (∀ p ∈ fp, H0 p = none) → Q .non H'
  | .exc c ks vs => ∀ cv d Hs' H', Ret Hs H0 Hs' H' → ExcOk G Hs' c ks vs cv d → E cv d H'
  | .bad => False
def SpI (G : Gx) (c : Str) (ar : Nat) (F : List EV → InitR) : Sp := fun vs H Q E => ∃ x dx C rest args Hs H0, vs = .ref x :: rest ∧ G.co c = some C ∧ H = upd (upd H0 dx (.own x)) x (.ins C dx []) ∧ H0 x = none ∧ H0 dx = none ∧ dx ≠ x ∧
  HpOk Hs H0 H0 ∧ args.length = ar ∧ ArgsOk G Hs H0 rest args ∧ PostI G c Hs H0 x (F args) Q E
def outI (c : Str) : SR → InitR
  | .nx env => match (env[0]? : Option (Option EV)) with
    | some (some (.ownt (.obj c' ks ts))) => if c' = c then .ok (ks, ts) else .bad
    | _ => .bad
  | .exc c ks vs _ => .exc c ks vs
  | _ => .bad
def runI (c : Str) (nN : Nat) (FB : Env → SR) (args : List EV) : InitR := outI c (FB (some (.ownt (.obj c [] [])) :: args.map some ++ List.replicate (nN - (args.length + 1)) none))
abbrev Gx.jp (G : Gx) (E : XK) (x : Addr) : Jx := { G with W := fun cls d _ H => E cls d H, xa := none, pin := [(0, .ref x)] }
theorem post_outI {G : Gx} {c : Str} {Hs H0 : Hp} {x : Addr} {Q : VK} {E : XK} : ∀ {r : SR}, PostI G c Hs H0 x (outI c r) Q E → PostS (G.jp E x) Hs H0 { nx := fun _ H' => Q .non H', rt := Q } r
  | .nx env, p => fun σ Hs' Hr' H' R => by
    unfold outI at p
    dsimp only at p
    split at p
    · rename_i c' ks ts q
      split at p
      · rename_i hc
        subst hc
        obtain ⟨v, fp, e, r, n, fr⟩ := R.slot 0 _ q
        have hp := R.pin (0, .ref x) (List.mem_singleton.mpr rfl)
        rw [e] at hp
        cases hp
        exact p fp Hs' H' R.ret r n (fun q hq => R.ok.sr.free (fr q hq)) (fun q hq => R.he.free (fr q hq))
      · exact (show False from p).elim
    · exact (show False from p).elim
  | .exc c ks vs env, p => fun cv d σ Hs' Hr' H' R e => p cv d Hs' H' R.ret e
  | .rt e env, p => (show False from p).elim
  | .bk env, p => (show False from p).elim
  | .ct env, p => (show False from p).elim
  | .bad, p => (show False from p).elim
theorem startI {G : Gx} {N : List Str} {FB : Env → SR} {c : Str} {Hs H0 H : Hp} {x dx C : Addr} {rest : List V} {args : List EV} {Q : VK} {E : XK} (hc : G.co c = some C) (eH : H = upd (upd H0 dx (.own x)) x (.ins C dx [])) (h1 : H0 x = none) (h2 : H0 dx = none) (h3 : dx ≠ x)
    (k : HpOk Hs H0 H0) (a : ArgsOk G Hs H0 rest args) (p : PostI G c Hs H0 x (runI c N.length FB args) Q E) :
    tS (G.jp E x) FB { nx := fun _ H' => Q .non H', rt := Q } (L2.start N (.ref x :: rest)) H := by
  have lr := argsOk_len a
  have st : ∀ i e, (some (EV.ownt (.obj c [] [])) :: args.map some ++ List.replicate (N.length - (args.length + 1)) none)[i]? = some (some e) → (i = 0 ∧ e = .ownt (.obj c [] [])) ∨ ∃ j v, i = j + 1 ∧ args[j]? = some e ∧ (L2.start N (.ref x :: rest))[i]? = some (some v) ∧ ArgOk G Hs H0 v e := fun i e he => by
    cases i with
    | zero => simp at he; exact .inl ⟨rfl, he.symm⟩
    | succ j =>
      rw [List.cons_append, List.getElem?_cons_succ] at he
      obtain ⟨v, g1, g2⟩ := argsOk_get a (start_get he)
      refine .inr ⟨j, v, rfl, start_get he, ?_, g2⟩
      unfold L2.start
      have hi : j < rest.length := (List.getElem?_eq_some_iff.mp g1).1
      rw [List.getElem?_append_left (by simpa using hi)]
      simp [g1]
  have s0 : (L2.start N (.ref x :: rest))[0]? = some (some (.ref x)) := by
    unfold L2.start
    rw [List.getElem?_append_left (by simp)]
    simp
  have sm : Same H0 H := by
    rw [eH]
    refine Same.upd (Same.upd (Same.refl _) h2) h1
  have r0 : ORep G Hs H (.ref x) (.obj c [] []) [x] := by
    have : H x = some (.ins C dx []) := by rw [eH, upd_same]
    exact .obj (fs := []) hc this .nil
  refine ⟨Hs, H0, some (.ownt (.obj c [] [])) :: args.map some ++ List.replicate (N.length - (args.length + 1)) none, Hs, H0, ⟨⟨k.sr, sm, fun b xs e => ?_⟩, ?_, fun i e he => ?_, fun i j q ne ha hb => ?_, Same.refl _, Same.refl _, fun _ _ e => .inl e, fun q hq => ?_⟩, post_outI p⟩
  · rw [eH] at e
    by_cases q : b = x
    · subst q; rw [upd_same] at e; cases e
    · rw [upd_ne q] at e
      by_cases q2 : b = dx
      · subst q2; rw [upd_same] at e; cases e
      · rw [upd_ne q2] at e; exact k.ti b xs e
  · unfold L2.start
    simp [lr]
  · rcases st i e he with ⟨rfl, rfl⟩ | ⟨j, v, rfl, _, g1, g2⟩
    · rw [s0]
      exact ⟨_, [x], rfl, r0, List.nodup_cons.mpr ⟨by simp, List.nodup_nil⟩, fun q hq => by cases List.mem_singleton.mp hq; exact h1⟩
    · rw [g1]
      cases e with
      | val t d => cases t <;> first | exact ⟨v, rfl, g2⟩ | exact g2.elim
      | _ => exact g2.elim
  · have only : ∀ i, OwnAt G Hs H (some (EV.ownt (.obj c [] [])) :: args.map some ++ List.replicate (N.length - (args.length + 1)) none) (L2.start N (.ref x :: rest)) i q → i = 0 := fun i ⟨e, fp, g1, g2, g3⟩ => by
      rcases st i e g1 with ⟨rfl, _⟩ | ⟨j, v, rfl, _, _, g5⟩
      · rfl
      · cases e with
        | val t d => cases (show fp = [] from g2); cases g3
        | _ => exact g5.elim
    exact ne ((only i ha).trans (only j hb).symm)
  · cases List.mem_singleton.mp hq
    exact s0
/-- THE RULE for an __init__ -/
theorem fn_okI {P : Program} {w : World} {G : Gx} {mg : Str → Option Value} {base : Heap} {x qual c : Str} {st : Stmt} {dvs : List V} {f : Addr} {fd : FuncData} {N ps : List Str} {s0 : Str} {n : Nat} {FB : Env → SR} (F : FnT G.K x qual st dvs f fd) (S : FnScope N (s0 :: ps) (defScope st))
    (hb : ∀ (cdv : Value) (A : Around) (outer : List PySem.Env) (s : Shared) (H : Hp) (E : XK) (x : Addr), Good (cxOf (L2.CX P w) P w G.K mg base N qual (defScope st) f cdv A outer s H E) (G.jp E x) n →
      MSs (cxOf (L2.CX P w) P w G.K mg base N qual (defScope st) f cdv A outer s H E) (G.jp E x) (defBody st) FB) : FnOk P w G.K mg base (L2.CX P w) (n + 1) f fd (s0 :: ps) (SpI G c ps.length (runI c N.length FB)) := by
  refine FunD.ok F S (fun vs H Q E h => ?_) (fun cdv A outer s H vs Q E hr h => ?_)
  · obtain ⟨x, dx, C, rest, args, Hs, H0, rfl, _, _, _, _, _, _, l, a, _⟩ := h
    rw [List.length_cons, List.length_cons, argsOk_len a, l]
  · obtain ⟨x, dx, C, rest, args, Hs, H0, rfl, hc, eH, h1, h2, h3, k, l, a, p⟩ := h
    refine ⟨tS (G.jp E x) FB, (hb cdv A outer s H E x ?_).ps, startI hc eH h1 h2 h3 k a p⟩
    exact { K := rfl, nd := S.nd, hu := by have := hr.un; show A.units + 3 + 65 < _; (have h2 : (A.deeper (envOfC qual (defScope st) s.heap.objs.size f cdv)).units = A.units + 3 := rfl); omega, tk := takes_of rfl rfl rfl rfl, room := hr, calm := rfl, po := passes_of rfl }
/-- a class whose objects are made by its __init__ -/
structure MakG (P : Program) (w : World) (G : Gx) (mg : Str → Option Value) (base : Heap) (c : Str) (n ar : Nat) (F : List EV → InitR) : Prop where
  gC : mg c = some (.ref (He.ga G.K c))
  cl : G.co c = some (He.ga G.K c)
  mk_ : Mk G.K (He.ga G.K c) (He.ma G.K (He.ga G.K c) "__init__")
  fn : ∃ fd ps, Binds G.K fd ps [] ∧ FnOk P w G.K mg base (L2.CX P w) n (He.ma G.K (He.ga G.K c) "__init__") fd ps (SpI G c ar F)
def makeD (c : Str) (F : List EV → InitR) (xs : List TV) : Res EV := (F (xs.map toArg)).map fun a => .ownt (.obj c a.1 a.2)
theorem postI_of {J : Jx} {c : Str} {σ : St} {Hs Hr H Hq : Hp} {x : Addr} {r : InitR} {Q : VK} (k : HpOk Hs Hr H) (sm : Same Hq H) (p : Post J σ Hs Hr H (r.map fun a => .ownt (.obj c a.1 a.2)) (SE J Hq Q)) : PostI J.toGx c Hs H x r (fun v H2 => v = .non ∧ Q (.ref x) H2) (WE J.W σ) := by
  cases r with
  | bad => exact p
  | exc c ks vs => exact fun cv d Hs' H' x e => p cv d Hs' _ H' (x.ext k) e
  | ok a => exact fun fp Hs' H' x r n b c => ⟨rfl, p Hs' _ H' (x.ext k) _ fp r n (fun q hq => joinH_none (k.none_r (c q hq)) (b q hq)) fun q hq => sm.free (c q hq)⟩
section
variable {X : Cx} {J : Jx} {e o : Expr} {es : List Expr} {pos p : Pos} {c : Str} {n k : Nat} {F : Env → Res (List TV)} {FI : List EV → InitR}
theorem me_make {ar : Nat} (g : Good X J n) (T : MakG X.prog X.w J.toGx X.mg X.base c k ar FI) (hn : k + 1 ≤ n) (ha : MA X J (e :: es) F) (har : (e :: es).length = ar := by rfl) (hg : Gl X c := by rfl) (hdb : (c == ("__debug__" : Str)) = false := by decide)
    (he : starEach (e :: es) X.env = (false, eval e X.env) :: starEach es X.env := by rfl) (hpl : (backTo pos (starEach es X.env)).any (·.1) = false := by rfl) :
    ME X J (.Call (.Name c p) (e :: es) [] pos) (thenK F (makeD c FI)) := by
  obtain ⟨gC, cl, mk, fd, ps, hb, hf⟩ := T
  rw [← g.K] at mk hb hf gC
  refine ⟨pe_imp (pe_makeS (E := WE J.W) mk hf (g.room.mono hn) hg gC hb .nil (fun σ => passAt g.tk σ) ha.pa hdb he hpl) fun σ H Q nn => ?_⟩
  obtain ⟨Hse, He, env, Hs, Hr, R, p⟩ := nn
  have hF' : (F env).bind (makeD c FI) = (F env).bind fun xs => if xs.length = ar then makeD c FI xs else .bad := by
    cases q : F env with
    | ok xs => show makeD c FI xs = if xs.length = ar then makeD c FI xs else .bad; rw [if_pos ((ha.len env xs q).trans har)]
    | _ => rfl
  have p : Post J σ Hs Hr H ((F env).bind (makeD c FI)) (SE J H Q) := p
  rw [hF'] at p
  refine ⟨Hse, He, env, Hs, Hr, R, (Post.bind p).imp fun xs Hs1 Hr1 H1 e1 p1 vs rvs => ?_⟩
  split at p1
  · rename_i hlen
    intro x dx n1 n2 ne
    rw [List.append_nil]
    exact ⟨x, dx, _, vs, xs.map toArg, Hs1, H1, rfl, by rw [← g.K] at cl; exact cl, rfl, n1, n2, ne, ⟨e1.ok.sh, Same.refl _, e1.ok.ti⟩, by rw [List.length_map, hlen], args_of e1.ok rvs, postI_of e1.ok e1.h p1⟩
  · exact (show False from p1).elim
theorem me_make0 (g : Good X J n) (T : MakG X.prog X.w J.toGx X.mg X.base c k 0 FI) (hn : k + 1 ≤ n) (hg : Gl X c := by rfl) (hdb : (c == ("__debug__" : Str)) = false := by decide) :
    ME X J (.Call (.Name c p) [] [] pos) (thenK argN (makeD c FI)) := by
  obtain ⟨gC, cl, mk, fd, ps, hb, hf⟩ := T
  rw [← g.K] at mk hb hf gC
  refine ⟨pe_imp (pe_makeS0 (E := WE J.W) mk hf (g.room.mono hn) hg gC hb .nil (fun σ => passAt g.tk σ) hdb) fun σ H Q nn => ?_⟩
  obtain ⟨Hse, He, env, Hs, Hr, R, p⟩ := nn
  have p : Post J σ Hs Hr H (makeD c FI []) (SE J H Q) := p
  intro x dx n1 n2 ne
  exact ⟨x, dx, _, [], [], Hs, H, rfl, by rw [← g.K] at cl; exact cl, rfl, n1, n2, ne, ⟨R.ok.sh, Same.refl _, R.ok.ti⟩, rfl, rfl, postI_of R.ok (Same.refl _) p⟩
end
end DL

namespace DL
open PySem PySem.Spec PyProof.Rows L2
/-! ### list(zip(a, b)), two lists -/
/-- tuples made one after another -/
structure TupsAt (h : Heap) (xs ys : Array Value) (base n : Nat) (as : List Addr) : Prop where
  len : as.length = n
  pairs : ∀ (j : Nat) (a : Addr), as[j]? = some a → ∃ x y, xs[j]? = some x ∧ ys[j]? = some y ∧ h.get? a = some { cls := .type "tuple", data := .seq #[x, y] }
  above : ∀ a ∈ as, base < a ∧ a < h.objs.size
  rise : as.Pairwise (· < ·)
def ZSt (z TI TO i1 i2 l1 l2 S : Addr) (xs ys : Array Value) (h : Heap) (i : Nat) : Prop := IsPair h TI (.ref i1) (.ref i2) ∧ h.IsListIter i1 l1 i ∧ h.IsListIter i2 l2 i ∧ h.IsList l1 xs ∧ h.IsList l2 ys ∧
  ((IsZip h z TI TO .none ∧ ∃ a b, IsPair h TO a b) ∨ ∃ T f oT, IsZipHeld h z TI TO T f ∧ h.get? T = some oT ∧ T ≠ z ∧ T ≠ i1 ∧ T ≠ i2 ∧ @Ne Nat T S)
theorem tk_eta (s : Shared) : s = { s with heap := s.heap } := rfl
section
variable {prog : Program} {w : World} {z TI TO i1 i2 l1 l2 S : Addr} {xs ys : Array Value}
theorem TupsAt.keep {h h' : Heap} {base n : Nat} {as : List Addr} (t : TupsAt h xs ys base n as) (k : ∀ a o, a ∈ as → h.get? a = some o → h'.get? a = some o) : TupsAt h' xs ys base n as := by
  have kp : ∀ (j : Nat) (a : Addr), as[j]? = some a → ∃ x y, xs[j]? = some x ∧ ys[j]? = some y ∧ h'.get? a = some { cls := .type "tuple", data := .seq #[x, y] } := fun j a hj => by
    obtain ⟨x, y, e1, e2, e3⟩ := t.pairs j a hj
    exact ⟨x, y, e1, e2, k _ _ (List.mem_of_getElem? hj) e3⟩
  exact ⟨t.len, kp, fun a hm => by
    obtain ⟨j, hj⟩ := List.getElem?_of_mem hm
    obtain ⟨x, y, _, _, e3⟩ := kp j a hj
    exact ⟨(t.above a hm).1, Heap.lt_size e3⟩, t.rise⟩
theorem TupsAt.snoc {h : Heap} {base n a : Nat} {as : List Addr} {x y : Value} (t : TupsAt h xs ys base n as) (hx : xs[n]? = some x) (hy : ys[n]? = some y) (ha : h.get? a = some { cls := .type "tuple", data := .seq #[x, y] }) (hb : base < a) (hl : ∀ b ∈ as, b < a) : TupsAt h xs ys base (n + 1) (as ++ [a]) where
  len := by rw [List.length_append, t.len]; rfl
  pairs := fun j b hj => by
    rw [List.getElem?_append] at hj
    split at hj
    · exact t.pairs j b hj
    · rename_i hn
      rw [t.len] at hn hj
      cases q : j - n with
      | zero =>
        rw [q] at hj
        have e : j = n := by omega
        subst e
        cases hj
        exact ⟨x, y, hx, hy, ha⟩
      | succ m => rw [q] at hj; simp at hj
  above := fun b hm => by
    rcases List.mem_append.mp hm with hm | hm
    · exact t.above b hm
    · cases List.mem_singleton.mp hm; exact ⟨hb, Heap.lt_size ha⟩
  rise := List.pairwise_append.mpr ⟨t.rise, List.pairwise_singleton _ _, fun b hb c hc => by cases List.mem_singleton.mp hc; exact hl b hb⟩
theorem ext_zip {A : Around} {R : Result → Shared → Prop} (D : ZipApart z TI TO i1 i2 l1 l2) (hA : A.in1.handled = none) (hS : @LT.lt Nat _ z S ∧ @LT.lt Nat _ TI S ∧ @LT.lt Nat _ TO S ∧ @LT.lt Nat _ i1 S ∧ @LT.lt Nat _ i2 S ∧ @LT.lt Nat _ l1 S ∧ @LT.lt Nat _ l2 S) (res : Value) (hn : min xs.size ys.size ≤ sizeLine) :
    ∀ (k i : Nat) (s : Shared) (acc : Array Value) (c : Nat) (as : List Addr), min xs.size ys.size - i = k → i ≤ min xs.size ys.size → ZSt z TI TO i1 i2 l1 l2 S xs ys s.heap i → s.heap.get? S = some { cls := .type "list", dict := none, data := .seq acc c, slots := #[] } →
    acc.toList = as.map Value.ref → TupsAt s.heap xs ys S i as →
    (∀ h' acc' c' as', (∀ b o, b ≠ S → b ≠ z → b ≠ TO → b ≠ i1 → b ≠ i2 → s.heap.get? b = some o → h'.get? b = some o) → h'.get? S = some { cls := .type "list", dict := none, data := .seq acc' c', slots := #[] } → acc'.toList = as'.map Value.ref →
      TupsAt h' xs ys S (min xs.size ys.size) as' → R (.ok (.ret res)) { s with heap := h' }) →
    codeAny (model prog w) A (.builtin "list.extend.loop" ⟨[.ref S, .ref z, res], []⟩) R s := by
  obtain ⟨s1, s2, s3, s4, s5, s6, s7⟩ := hS
  intro k
  induction k with
  | zero =>
    intro i s acc c as hk hi hst hS hacc ht hR
    have hin : i = min xs.size ys.size := by omega
    subst hin
    refine codeAny_builtin F.entry_extend_loop ?_
    rw [Around.under_plainId F.plain_extend_loop _]
    show wpAny _ A.in1 (pyNext (.ref z) >>= _) _ _ s
    obtain ⟨hTI, h1, h2, hl1, hl2, hz⟩ := hst
    have hend : xs[min xs.size ys.size]? = none ∨ ys[min xs.size ys.size]? = none := by
      rcases Nat.le_total xs.size ys.size with h | h
      · exact .inl (Array.getElem?_eq_none (by rw [Nat.min_eq_left h]; exact Nat.le_refl _))
      · exact .inr (Array.getElem?_eq_none (by rw [Nat.min_eq_right h]; exact Nat.le_refl _))
    have fin : ∀ h', (∀ b o, b ≠ z → b ≠ TO → b ≠ i1 → b ≠ i2 → s.heap.get? b = some o → h'.get? b = some o) → R (.ok (.ret res)) { s with heap := h' } := fun h' hk => by
      refine hR h' acc c as (fun b o _ b1 b2 b3 b4 e => hk b o b1 b2 b3 b4 e) (hk S _ (Nat.ne_of_gt s1) (Nat.ne_of_gt s3) (Nat.ne_of_gt s4) (Nat.ne_of_gt s5) hS) hacc (ht.keep fun a o hm e => ?_)
      have := (ht.above a hm).1
      exact hk a o (Nat.ne_of_gt (Nat.lt_trans s1 this)) (Nat.ne_of_gt (Nat.lt_trans s3 this)) (Nat.ne_of_gt (Nat.lt_trans s4 this)) (Nat.ne_of_gt (Nat.lt_trans s5 this)) e
    rcases hz with ⟨hz, a, b, hTO⟩ | ⟨T, f, oT, hz, hT, r1, r2, r3, r4⟩
    · exact wpAny_bind (wpAny_pyNext_zip_end hA D hz hTI hTO h1 h2 hl1 hl2 hend fun h' hk => wpAny_pure (fin h' hk))
    · exact wpAny_bind (wpAny_pyNext_zip_end_held hA D hz hT hTI h1 h2 hl1 hl2 hend fun h' hk => wpAny_pure (fin h' fun b o b1 _ b3 b4 e => hk b o b1 b3 b4 e))
  | succ k ih =>
    intro i s acc c as hk hi hst hS hacc ht hR
    have hlt : i < min xs.size ys.size := by omega
    refine codeAny_builtin F.entry_extend_loop ?_
    rw [Around.under_plainId F.plain_extend_loop _]
    show wpAny _ A.in1 (pyNext (.ref z) >>= _) _ _ s
    obtain ⟨hTI, h1, h2, hl1, hl2, hz⟩ := hst
    have hix : i < xs.size := Nat.lt_of_lt_of_le hlt (Nat.min_le_left ..)
    have hiy : i < ys.size := Nat.lt_of_lt_of_le hlt (Nat.min_le_right ..)
    have ex := Array.getElem?_eq_getElem hix
    have ey := Array.getElem?_eq_getElem hiy
    have lS := Heap.lt_size hS
    have go : ∀ h', IsPair h' TI (.ref i1) (.ref i2) → h'.IsListIter i1 l1 (i + 1) → h'.IsListIter i2 l2 (i + 1) → h'.IsList l1 xs → h'.IsList l2 ys → (∃ T f oT, IsZipHeld h' z TI TO T f ∧ h'.get? T = some oT ∧ T ≠ z ∧ T ≠ i1 ∧ T ≠ i2 ∧ @Ne Nat T S) →
        IsPair h' s.heap.objs.size xs[i] ys[i] → (∀ b o, b ≠ z → b ≠ TO → b ≠ i1 → b ≠ i2 → s.heap.get? b = some o → h'.get? b = some o) →
        wpAny (model prog w) A.in1 (updateSeq S (·.push (.ref s.heap.objs.size)) >>= fun _ => again (.builtin "list.extend.loop" ⟨[.ref S, .ref z, res], []⟩))
          (fun fin s' => match fin with | .done f => R (.ok f) s' | .again c' => c'.quiet = true ∧ codeAny (model prog w) A c' R s') (fun e s' => R (.error e) s') { s with heap := h' } := fun h' g1 g2 g3 g4 g5 g6 g7 hk => by
      have hS' : h'.get? S = some { cls := .type "list", dict := none, data := .seq acc c, slots := #[] } := hk S _ (Nat.ne_of_gt s1) (Nat.ne_of_gt s3) (Nat.ne_of_gt s4) (Nat.ne_of_gt s5) hS
      have la : acc.size = i := by have := congrArg List.length hacc; rw [List.length_map, ht.len, Array.length_toList] at this; exact this
      refine wpAny_bind (wpAny_updateSeq (s := { s with heap := h' }) hS' rfl (wpAny_pure ⟨plainId_quiet F.plain_extend_loop _, ?_⟩) (by rw [la]; omega) (by show (acc.push _).size ≤ sizeLine + 1; rw [Array.size_push, la]; omega))
      have oth : ∀ (b : Nat) o, @Ne Nat b S → h'.get? b = some o → (h'.update S (Obj.mapSeq (·.push (Value.ref s.heap.objs.size)))).get? b = some o := fun b o hb e => (Heap.get?_update_other _ _ (Ne.symm hb)).trans e
      obtain ⟨T, f, oT, q1, q2, q3, q4, q5, q6⟩ := g6
      have t2 : TupsAt (h'.update S (Obj.mapSeq (·.push (Value.ref s.heap.objs.size)))) xs ys S (i + 1) (as ++ [s.heap.objs.size]) :=
        ((ht.keep (h' := h') fun a o hm e => by
          have := (ht.above a hm).1
          exact hk a o (Nat.ne_of_gt (Nat.lt_trans s1 this)) (Nat.ne_of_gt (Nat.lt_trans s3 this)) (Nat.ne_of_gt (Nat.lt_trans s4 this)) (Nat.ne_of_gt (Nat.lt_trans s5 this)) e).keep fun a o hm e => oth a o (Nat.ne_of_gt (ht.above a hm).1) e).snoc ex ey (oth _ _ (Nat.ne_of_gt lS) g7) lS fun b hb => (ht.above b hb).2
      refine ih (i + 1) _ (acc.push (.ref s.heap.objs.size)) _ (as ++ [s.heap.objs.size]) (by omega) hlt ⟨oth _ _ (by omega) g1, g2.at fun o e => oth _ o (by omega) e, g3.at fun o e => oth _ o (by omega) e, g4.at fun o e => oth _ o (by omega) e, g5.at fun o e => oth _ o (by omega) e,
        .inr ⟨T, f, oT, oth _ _ (by omega) q1, oth _ _ q6 q2, q3, q4, q5, q6⟩⟩ (Heap.get?_update_self _ hS' rfl) (by rw [Array.toList_push, hacc, List.map_append] <;> rfl) t2 fun h'' acc' c' as' k2 kS ka kt => ?_
      exact hR h'' acc' c' as' (fun b o b0 b1 b2 b3 b4 e => k2 b o b0 b1 b2 b3 b4 (oth b o b0 (hk b o b1 b2 b3 b4 e))) kS ka kt
    have lt : ∀ {c o}, s.heap.get? c = some o → s.heap.objs.size ≠ c := fun e => Nat.ne_of_gt (Heap.lt_size e)
    have n1 : s.heap.objs.size ≠ i1 := let ⟨_, e, _⟩ := h1; lt e
    have n2 : s.heap.objs.size ≠ i2 := let ⟨_, e, _⟩ := h2; lt e
    rcases hz with ⟨hz, a, b, hTO⟩ | ⟨T, f, oT, hz, hT, r1, r2, r3, r4⟩
    · refine wpAny_bind (wpAny_pyNext_zip_item D hz hTI hTO h1 h2 hl1 hl2 ex ey fun h' a1 a2 a3 a4 a5 a6 hk => ?_)
      exact go h' (hk _ _ D.TIz D.TITO D.TIi1 D.TIi2 hTI) a3 a4 (hl1.at fun o e => hk _ o D.l1z D.l1TO D.l1i1 D.l1i2 e) (hl2.at fun o e => hk _ o D.l2z D.l2TO D.l2i1 D.l2i2 e) ⟨s.heap.objs.size, false, _, a1, a5, lt hz, n1, n2, Nat.ne_of_gt lS⟩ a5 hk
    · refine wpAny_bind (wpAny_pyNext_zip_item_held D hz hT hTI h1 h2 hl1 hl2 ex ey fun h' a1 a3 a4 a5 a6 hk => ?_)
      exact go h' (hk _ _ D.TIz D.TIi1 D.TIi2 hTI) a3 a4 (hl1.at fun o e => hk _ o D.l1z D.l1i1 D.l1i2 e) (hl2.at fun o e => hk _ o D.l2z D.l2i1 D.l2i2 e) ⟨T, true, oT, a1, hk _ _ r1 r2 r3 hT, r1, r2, r3, r4⟩ a5 fun b o b1 _ b3 b4 e => hk b o b1 b3 b4 e
theorem zip_no_len : typeLookup (.type "zip") "__len__" = pure none := by rw [typeLookup_type, builtinLookup_eq_fast]; kernel_rfl
theorem zip_no_hint : typeLookup (.type "zip") "__length_hint__" = pure none := by rw [typeLookup_type, builtinLookup_eq_fast]; kernel_rfl
/-- list(z), z a new zip over two lists -/
theorem call_listZ {A : Around} {E : Value → Shared → Prop} {Q : Value → Shared → Prop} {s : Shared} (D : ZipApart z TI TO i1 i2 l1 l2) (hA : A.handled = none) (hz : IsZip s.heap z TI TO .none) (hTI : IsPair s.heap TI (.ref i1) (.ref i2)) (hTO : ∃ a b, IsPair s.heap TO a b)
    (h1 : s.heap.IsListIter i1 l1 0) (h2 : s.heap.IsListIter i2 l2 0) (hl1 : s.heap.IsList l1 xs) (hl2 : s.heap.IsList l2 ys) (hn : min xs.size ys.size ≤ sizeLine)
    (hQ : ∀ h' acc' c' as', (∀ b o, b ≠ z → b ≠ TO → b ≠ i1 → b ≠ i2 → s.heap.get? b = some o → h'.get? b = some o) → h'.get? s.heap.objs.size = some { cls := .type "list", dict := none, data := .seq acc' c', slots := #[] } → acc'.toList = as'.map Value.ref →
      TupsAt h' xs ys s.heap.objs.size (min xs.size ys.size) as' → Q (.ref s.heap.objs.size) { s with heap := h' }) : wpAny (model prog w) A (call (.type "list") [.ref z]) Q E s := by
  have lt : ∀ {c o}, s.heap.get? c = some o → c < s.heap.objs.size := fun e => Heap.lt_size e
  have hlt : @LT.lt Nat _ z s.heap.objs.size ∧ @LT.lt Nat _ TI s.heap.objs.size ∧ @LT.lt Nat _ TO s.heap.objs.size ∧ @LT.lt Nat _ i1 s.heap.objs.size ∧ @LT.lt Nat _ i2 s.heap.objs.size ∧ @LT.lt Nat _ l1 s.heap.objs.size ∧ @LT.lt Nat _ l2 s.heap.objs.size := by
    obtain ⟨a, b, hTO⟩ := hTO
    obtain ⟨_, e1, _⟩ := h1
    obtain ⟨_, e2, _⟩ := h2
    obtain ⟨_, e3, _⟩ := hl1
    obtain ⟨_, e4, _⟩ := hl2
    exact ⟨lt hz, lt hTI, lt hTO, lt e1, lt e2, lt e3, lt e4⟩
  obtain ⟨ha, hb, hTO⟩ := hTO
  refine callType_codes (Q₁ := fun obj s₁ => obj = .ref s.heap.objs.size ∧ s₁ = { s with heap := s.heap.push { cls := .type "list", data := .seq #[] } }) F.called_list (F.typeCall_list_1 _) F.entry_list_init
    (code_list_new _ ⟨rfl, rfl⟩) fun obj s₁ h₁ => ?_
  obtain ⟨rfl, rfl⟩ := h₁
  generalize hb : s.heap.push { cls := .type "list", data := .seq #[] } = h0
  have hS : h0.get? s.heap.objs.size = some { cls := .type "list", data := .seq #[] } := by rw [← hb]; exact Heap.get?_push_size _ rfl
  have kp : ∀ b o, s.heap.get? b = some o → h0.get? b = some o := fun b o e => by rw [← hb]; exact Heap.get?_push_of_some _ e
  refine ⟨⟨_, hS, rfl⟩, F.args_list_init_2 _ _, ?_⟩
  show wpAny _ A.in1.in1 (do let old ← Builtin.List.listItems (.ref s.heap.objs.size); Builtin.List.listUpdate (.ref s.heap.objs.size) (fun _ => #[]); letGo old.toList.reverse; Builtin.List.listExtendWith (.ref s.heap.objs.size) (.ref z) .none) _ _ _
  refine wpAny_bind ?_
  unfold Builtin.List.listItems
  refine wpAny_bind (wpAny_seqItems hS rfl (wpAny_pure ?_))
  show wpAny _ A.in1.in1 (updateSeq s.heap.objs.size (fun _ => #[]) >>= fun _ => letGo (#[] : Array Value).toList.reverse >>= fun _ => Builtin.List.listExtendWith (.ref s.heap.objs.size) (.ref z) .none) _ _ _
  refine wpAny_bind (wpAny_updateSeq (s := { s with heap := h0 }) hS rfl ?_)
  have hS₂ := Heap.get?_update_self (Obj.mapSeq (fun _ => (#[] : Array Value))) hS rfl
  have oth : ∀ (b : Nat) o, @Ne Nat b s.heap.objs.size → s.heap.get? b = some o → (h0.update s.heap.objs.size (Obj.mapSeq (fun _ => (#[] : Array Value)))).get? b = some o :=
    fun b o hb e => (Heap.get?_update_other _ _ (Ne.symm hb)).trans (kp b o e)
  refine wpAny_bind (wpAny_letGo ?_)
  generalize hh1 : h0.update s.heap.objs.size (Obj.mapSeq (fun _ => (#[] : Array Value))) = ha1 at hS₂ oth
  obtain ⟨z1, z2, z3, z4, z5, z6, z7⟩ := hlt
  have hz' : IsZip ha1 z TI TO .none := oth _ _ (by omega) hz
  have hT : (⟨ha1, s.gens, s.drawn, s.toks, s.os⟩ : Shared).TypeIs (.ref z) "zip" := ⟨_, hz', rfl⟩
  unfold Builtin.List.listExtendWith
  refine wpAny_bind (wpAny_typeOf hT ?_)
  have e1 : Builtin.List.listSameRef (.ref s.heap.objs.size) (.ref z) = false := by simp [Builtin.List.listSameRef]; exact Nat.ne_of_gt z1
  have e2 : (Value.type "zip" == Value.type "list") = false := by decide
  have e3 : (Value.type "zip" == Value.type "tuple") = false := by decide
  simp only [e1, e2, e3, Bool.or_false, Bool.false_eq_true, if_false]
  refine wpAny_bind (wpAny_pyIter_zip hz' ?_)
  refine wpAny_bind (wpAny_holding ?_)
  unfold Builtin.List.listLengthHint
  refine wpAny_bind (wpAny_specialOf hT zip_no_len ?_)
  show wpAny _ A.in1.in1 (specialOf (Value.ref z) (Str.ofString "__length_hint__") >>= _) _ _ _
  refine wpAny_bind (wpAny_specialOf hT zip_no_hint ?_)
  refine wpAny_pure ?_
  show wpAny _ A.in1.in1 (rule "list.extend.makes-room" >>= fun _ => Builtin.List.listTouch (.ref s.heap.objs.size) >>= fun _ =>
    again (.builtin "list.extend.loop" ⟨[.ref s.heap.objs.size, .ref z, .none], []⟩)) _ _ _
  refine wpAny_bind (wpAny_rule ?_)
  refine wpAny_bind ?_
  show wpAny _ A.in1.in1 (updateSeq s.heap.objs.size (·.push .none) >>= fun _ => updateSeq s.heap.objs.size (·.pop)) _ _ _
  refine wpAny_bind (wpAny_updateSeq (s := ⟨ha1, s.gens, s.drawn, s.toks, s.os⟩) hS₂ rfl ?_)
  have hS₃ := Heap.get?_update_self (Obj.mapSeq (·.push Value.none)) hS₂ rfl
  refine wpAny_updateSeq (s := ⟨ha1.update s.heap.objs.size (Obj.mapSeq (·.push Value.none)), s.gens, s.drawn, s.toks, s.os⟩) (hz := by seq_fits) hS₃ rfl ?_
  have hS₄ : ∃ c, ((ha1.update s.heap.objs.size (Obj.mapSeq (·.push Value.none))).update s.heap.objs.size (Obj.mapSeq (·.pop))).get? s.heap.objs.size = some { cls := .type "list", dict := none, data := .seq #[] c, slots := #[] } := ⟨_, Heap.get?_update_self (Obj.mapSeq (·.pop)) hS₃ rfl⟩
  obtain ⟨cc, hS₄⟩ := hS₄
  have oth2 : ∀ (b : Nat) o, @Ne Nat b s.heap.objs.size → s.heap.get? b = some o → ((ha1.update s.heap.objs.size (Obj.mapSeq (·.push Value.none))).update s.heap.objs.size (Obj.mapSeq (·.pop))).get? b = some o :=
    fun b o hb e => (Heap.get?_update_other _ _ (Ne.symm hb)).trans ((Heap.get?_update_other _ _ (Ne.symm hb)).trans (oth b o hb e))
  generalize (ha1.update s.heap.objs.size (Obj.mapSeq (·.push Value.none))).update s.heap.objs.size (Obj.mapSeq (·.pop)) = h5 at hS₄ oth2 ⊢
  refine wpAny_pure ⟨plainId_quiet F.plain_extend_loop _, ?_⟩
  refine ext_zip (A := A.in1) (S := s.heap.objs.size) D hA ⟨z1, z2, z3, z4, z5, z6, z7⟩ .none hn _ 0 ⟨h5, s.gens, s.drawn, s.toks, s.os⟩ #[] cc [] rfl (Nat.zero_le _)
    ⟨oth2 _ _ (by omega) hTI, h1.at fun o e => oth2 _ o (by omega) e, h2.at fun o e => oth2 _ o (by omega) e, hl1.at fun o e => oth2 _ o (by omega) e, hl2.at fun o e => oth2 _ o (by omega) e, .inl ⟨oth2 _ _ (by omega) hz, _, _, oth2 _ _ (by omega) hTO⟩⟩
    hS₄ rfl ⟨rfl, fun j a hj => by simp at hj, fun a ha => by simp at ha, .nil⟩ fun h' acc' c' as' k2 kS ka kt => ⟨rfl, ?_⟩
  exact hQ h' acc' c' as' (fun b o b1 b2 b3 b4 e => k2 b o (Nat.ne_of_lt (lt e)) b1 b2 b3 b4 (oth2 b o (Nat.ne_of_lt (lt e)) e)) kS ka kt
end
/-- pairs tracked at their places -/
def putP : Hp → List Addr → List (V × V) → Hp
  | H, a :: as, p :: ps => putP (upd H a (.tup [p.1, p.2])) as ps
  | H, _, _ => H
theorem putP_off {b : Addr} : ∀ (as : List Addr) (ps : List (V × V)) (H : Hp), b ∉ as → putP H as ps b = H b
  | [], _, _, _ => rfl
  | _ :: _, [], _, _ => rfl
  | a :: as, p :: ps, H, h => by
    show putP (upd H a (.tup [p.1, p.2])) as ps b = H b
    rw [putP_off as ps _ (fun z => h (List.mem_cons_of_mem _ z)), upd_ne (fun z => h (by rw [z]; exact List.mem_cons_self))]
theorem putP_at : ∀ (as : List Addr) (ps : List (V × V)) (H : Hp), as.length = ps.length → as.Nodup → ∀ (j : Nat) (a : Addr) (p : V × V), as[j]? = some a → ps[j]? = some p → putP H as ps a = some (.tup [p.1, p.2])
  | [], _, _, _, _, j, a, p, h, _ => by simp at h
  | _ :: _, [], _, h, _, _, _, _, _, _ => by cases h
  | a :: as, q :: ps, H, h, hn, 0, b, p, e1, e2 => by
    have hn' := List.nodup_cons.mp hn
    simp at e1 e2
    subst e1 e2
    show putP (upd H a (.tup [q.1, q.2])) as ps a = _
    rw [putP_off as ps _ hn'.1, upd_same]
  | a :: as, q :: ps, H, h, hn, j + 1, b, p, e1, e2 => putP_at as ps _ (Nat.succ.inj h) (List.nodup_cons.mp hn).2 j b p (by simpa using e1) (by simpa using e2)
theorem pairs_laid {X : Cx} {pins : List (Addr × Obj)} {σ : St} {H : Hp} {s : Shared} {h' : Heap} {xs ys : List V} {us ws : Array Value} {acc : Array Value} {c : Nat} {as : List Addr} {S : Addr} (I : Inv X pins σ H s) (hz : min xs.length ys.length ≤ sizeLine) (rx : Vals xs us.toList) (ry : Vals ys ws.toList)
    (hk : ∀ b o, s.heap.get? b = some o → h'.get? b = some o) (hSb : @LE.le Nat _ s.heap.objs.size S) (hS : h'.get? S = some { cls := .type "list", dict := none, data := .seq acc c, slots := #[] }) (hacc : acc.toList = as.map Value.ref) (ht : TupsAt h' us ws S (min us.size ws.size) as) :
    ∃ H' : Hp, H' = putP (upd H S (.lst (as.map V.ref))) as (xs.zip ys) ∧ as.length = (xs.zip ys).length ∧ as.Nodup ∧ H S = none ∧ (∀ t ∈ as, H t = none) ∧ S ∉ as ∧ Inv X pins σ H' { s with heap := h' } := by
  have lx : xs.length = us.size := by rw [rx.length, Array.length_toList]
  have ly : ys.length = ws.size := by rw [ry.length, Array.length_toList]
  have ll : as.length = (xs.zip ys).length := by rw [ht.len, List.length_zip, lx, ly]
  have hSn : S ∉ as := fun z => Nat.lt_irrefl _ (ht.above _ z).1
  have nd : as.Nodup := List.Pairwise.imp (fun {a b} (h : a < b) => Nat.ne_of_lt h) ht.rise
  have new : ∀ t ∈ as, H t = none := fun t h => I.hok.fresh (Nat.le_trans hSb (Nat.le_of_lt (ht.above t h).1))
  have newS : H S = none := I.hok.fresh hSb
  have atP := putP_at as (xs.zip ys) (upd H S (.lst (as.map V.ref))) ll nd
  have off : ∀ b, b ∉ as → b ≠ S → putP (upd H S (.lst (as.map V.ref))) as (xs.zip ys) b = H b := fun b h1 h2 => by rw [putP_off as _ _ h1, upd_ne h2]
  have low : ∀ b o, s.heap.get? b = some o → b ∉ as ∧ b ≠ S := fun b o e => ⟨fun z => by
    have h1 := Heap.lt_size e
    have h2 := (ht.above b z).1
    exact Nat.lt_irrefl _ (Nat.lt_of_lt_of_le h1 (Nat.le_trans hSb (Nat.le_of_lt h2))), Nat.ne_of_lt (Nat.lt_of_lt_of_le (Heap.lt_size e) hSb)⟩
  have kp : ∀ b u, H b = some u → (putP (upd H S (.lst (as.map V.ref))) as (xs.zip ys)) b = some u := fun b u e => by
    rw [off b (fun z => by rw [new b z] at e; cases e) (fun z => by rw [z, newS] at e; cases e)]
    exact e
  have eS : putP (upd H S (.lst (as.map V.ref))) as (xs.zip ys) S = some (.lst (as.map V.ref)) := by rw [putP_off as _ _ hSn, upd_same]
  refine ⟨putP (upd H S (.lst (as.map V.ref))) as (xs.zip ys), rfl, ll, nd, newS, new, hSn, ?_⟩
  refine I.call' (s' := { s with heap := h' }) (ch := []) rfl ⟨fun b o q _ _ _ => hk b o q, fun b o q _ _ _ => ⟨o.slots, hk b o q⟩, fun b o q n _ => ?_, fun b o q _ => ⟨o, hk b o q⟩, fun b xs q => kp b _ q, fun b o u q => kp b _ q, fun b ps q => ⟨#[], by rw [kp b _ q]; simp⟩⟩ (fun b u q => ?_) I.bare fun b z => by simp at z
  · obtain ⟨z1, z2⟩ := low b o q
    rw [off b z1 z2]
    exact n
  · by_cases hb : b ∈ as
    · obtain ⟨j, e1⟩ := List.getElem?_of_mem hb
      have hj : j < (xs.zip ys).length := by rw [← ll]; exact (List.getElem?_eq_some_iff.mp e1).1
      have e2 := List.getElem?_eq_getElem hj
      rw [atP j b _ e1 e2] at q
      cases q
      obtain ⟨x, y, f1, f2, f3⟩ := ht.pairs j b e1
      have g1 : j < xs.length := by rw [List.length_zip] at hj; omega
      have g2 : j < ys.length := by rw [List.length_zip] at hj; omega
      obtain ⟨u1, v1, w1⟩ := rx.get (i := j) (x := xs[j]) (by simp [g1])
      obtain ⟨u2, v2, w2⟩ := ry.get (i := j) (x := ys[j]) (by simp [g2])
      have t1 : u1 = x := by rw [Array.getElem?_toList] at v1; exact Option.some.inj (v1.symm.trans f1)
      have t2 : u2 = y := by rw [Array.getElem?_toList] at v2; exact Option.some.inj (v2.symm.trans f2)
      subst t1 t2
      refine ⟨by show 2 ≤ sizeLine; decide, [u1, u2], .cons (by rw [List.getElem_zip]; exact w1) (.cons (by rw [List.getElem_zip]; exact w2) .nil), ⟨_, f3, rfl, _, rfl⟩⟩
    · by_cases hb2 : b = S
      · rw [hb2] at q ⊢
        rw [eS] at q
        cases q
        refine ⟨by rw [List.length_map, ll, List.length_zip]; exact hz, acc.toList, c, by rw [hacc]; exact LiI.vals_refs as, ?_⟩
        rw [Array.toArray_toList]
        exact hS
      · rw [off b hb hb2] at q
        exact (I.hok b u q).stay (fun d v _ y => hk d v y) (fun d y => kp d _ y) fun d xs y => kp d _ y
def tLZ (K : PySem.W.Frag) (ta : TA) : TE := fun σ H Q => ta σ H fun vs H1 => ∃ a b xs ys, vs = [.ref a, .ref b] ∧ SqL K H1 a xs ∧ SqL K H1 b ys ∧ min xs.length ys.length ≤ sizeLine ∧
  ∀ p ts, ts.length = (xs.zip ys).length → ts.Nodup → H1 p = none → (∀ t ∈ ts, H1 t = none) → p ∉ ts → Q (.ref p) (putP (upd H1 p (.lst (ts.map V.ref))) ts (xs.zip ys))
theorem pe_listZip {X : Cx} {e e2 : Expr} {ta : TA} {p pos p2 pos2 : Pos} (hc : X.calm = true) (hgl : Gl X "list") (hml : X.mg "list" = none) (hg : Gl X "zip") (hm : X.mg "zip" = none) (ha : PA X [e, e2] ta)
    (hs : starEach [e, e2] X.env = (false, eval e X.env) :: starEach [e2] X.env) (hpl : (backTo pos2 (starEach [e2] X.env)).any (·.1) = false)
    (na : starEach [.Call (.Name "zip" p2) [e, e2] [] pos2] X.env = (false, eval (.Call (.Name "zip" p2) [e, e2] [] pos2) X.env) :: starEach [] X.env) :
    PE X (.Call (.Name "list" p) [.Call (.Name "zip" p2) [e, e2] [] pos2] [] pos) (tLZ X.K ta) := by
  refine ⟨fun pins s σ H Q I h => ?_⟩
  refine Call_ (ld_blt I hgl hml PyProof.Rows.boot_list (PyProof.Rows.callWith_type1 (args_cons ?_ na) na))
  refine Call_ (ld_blt I hg hm PyProof.Rows.boot_zip (PyProof.Rows.callWith_type1 (thn (ha.run pos2 pins s σ H _ I h) fun us s1 hh => ?_) hs hpl))
  obtain ⟨vs, H1, I1, r1, a, b, xs, ys, ev, qx, qy, hz, q⟩ := hh
  subst ev
  cases r1 with
  | cons r rr =>
  cases rr with
  | cons r' rr =>
  cases rr
  cases r
  cases r'
  obtain ⟨us, ru, iu, lu⟩ := inv_sq (k := false) I1 qx
  obtain ⟨ws, rw', iw, lw⟩ := inv_sq (k := false) I1 qy
  refine zip_begins2 (begK false a us.toArray) (begK false b ws.toArray) iu iw fun h' hz' hi ho h1 h2 sz ke => args_nil ?_
  have ne : ∀ x y : Nat, x ≠ y → x ≠ y := fun _ _ h => h
  have D : ZipApart (s1.heap.objs.size + 4) (s1.heap.objs.size + 2) (s1.heap.objs.size + 3) s1.heap.objs.size (s1.heap.objs.size + 1) a b :=
    ⟨ne _ _ (by omega), ne _ _ (by omega), ne _ _ (by omega), ne _ _ (by omega), ne _ _ (by omega), ne _ _ (by omega), ne _ _ (by omega), ne _ _ (by omega), ne _ _ (by omega), ne _ _ (by omega),
      Nat.ne_of_lt (Nat.lt_of_lt_of_le lu (by omega)), Nat.ne_of_lt (Nat.lt_of_lt_of_le lu (by omega)), Nat.ne_of_lt lu, Nat.ne_of_lt (Nat.lt_of_lt_of_le lu (by omega)),
      Nat.ne_of_lt (Nat.lt_of_lt_of_le lw (by omega)), Nat.ne_of_lt (Nat.lt_of_lt_of_le lw (by omega)), Nat.ne_of_lt lw, Nat.ne_of_lt (Nat.lt_of_lt_of_le lw (by omega))⟩
  have lz : min us.toArray.size ws.toArray.size ≤ sizeLine := by
    have e1 := ru.length
    have e2 := rw'.length
    simp only [List.size_toArray]
    omega
  refine call_listZ (s := { s1 with heap := h' }) D (I1.ok.hd hc) hz' hi ⟨_, _, ho⟩ (begK_at (k := false) h1) (begK_at (k := false) h2) (iu.at fun o e => ke _ o e) (iw.at fun o e => ke _ o e) lz fun h'' acc c as k2 kS ka kt => ?_
  have low : ∀ b o, s1.heap.get? b = some o → h''.get? b = some o := fun b o e => by
    have := Heap.lt_size e
    exact k2 b o (Nat.ne_of_lt (Nat.lt_of_lt_of_le this (by omega))) (Nat.ne_of_lt (Nat.lt_of_lt_of_le this (by omega))) (Nat.ne_of_lt this) (Nat.ne_of_lt (Nat.lt_of_lt_of_le this (by omega))) (ke b o e)
  obtain ⟨H', rfl, g1, g2, g3, g4, g5, J⟩ := pairs_laid (xs := xs) (ys := ys) I1 hz (by simpa using ru) (by simpa using rw') low (by show @LE.le Nat _ s1.heap.objs.size h'.objs.size; omega) kS ka kt
  exact ⟨.ref _, _, J, rfl, q _ as g1 g2 g3 g4 g5⟩
/-! as a function of data -/
theorem putP_ext {G : Gx} : ∀ {ts : List Addr} {xs ys : List V} {ds es : List D} {Hs Hr H : Hp}, HpOk Hs Hr H → Reps G Hs xs ds → Reps G Hs ys es → ts.length = (xs.zip ys).length → ts.Nodup → (∀ t ∈ ts, H t = none) →
    ∃ Hs' Hr', Ext Hs Hr H Hs' Hr' (putP H ts (xs.zip ys)) ∧ Reps G Hs' (ts.map V.ref) ((ds.zip es).map fun z => .tup [z.1, z.2]) ∧ ∀ a, a ∉ ts → Hr' a = Hr a
  | [], xs, ys, ds, es, Hs, Hr, H, k, rx, ry, hl, nd, hn => by
    have hz : xs.zip ys = [] := List.length_eq_zero_iff.mp hl.symm
    have hz2 : ds.zip es = [] := by
      have e1 := rx.length
      have e2 := ry.length
      have := congrArg List.length hz
      rw [List.length_zip, List.length_nil] at this
      exact List.length_eq_zero_iff.mp (by rw [List.length_zip]; omega)
    rw [hz, hz2]
    exact ⟨Hs, Hr, Ext.refl k, .nil, fun _ _ => rfl⟩
  | t :: ts, xs, ys, ds, es, Hs, Hr, H, k, rx, ry, hl, nd, hn => by
    cases rx with
    | nil => simp at hl
    | cons a1 rx =>
      cases ry with
      | nil => simp at hl
      | cons b1 ry =>
        rename_i v vs d ds w ws e es
        have nd' := List.nodup_cons.mp nd
        have x1 := Ext.new (o := .tup [v, w]) k (hn t List.mem_cons_self)
        obtain ⟨Hs2, Hr2, x2, r2, f2⟩ := putP_ext (ts := ts) x1.ok (rx.mono x1.s) (ry.mono x1.s) (by simpa using hl) nd'.2 (fun u hu => by
          rw [upd_ne fun z => nd'.1 (by rw [← z]; exact hu)]
          exact hn u (List.mem_cons_of_mem _ hu))
        refine ⟨Hs2, Hr2, x1.trans x2, ?_, fun a ha => ?_⟩
        · exact .cons (.tup (x2.s _ _ upd_same) (.cons ((a1.mono x1.s).mono x2.s) (.cons ((b1.mono x1.s).mono x2.s) .nil))) r2
        · rw [f2 a fun z => ha (List.mem_cons_of_mem _ z), upd_ne fun z => ha (by rw [z]; exact List.mem_cons_self)]
def kLZip (xs : List TV) : Res EV := match xs with
  | [x, y] => (match x.2, y.2 with
    | .lst ds, .lst es => if shI x = true ∧ shI y = true ∧ min ds.length es.length ≤ 16777216 then .ok (.own ((ds.zip es).map fun z => .tup [z.1, z.2])) else .bad
    | _, _ => .bad)
  | _ => .bad
theorem me_listZip {X : Cx} {J : Jx} {e e2 : Expr} {F : Env → Res (List TV)} {p pos p2 pos2 : Pos} (hc : X.calm = true) (hml : X.mg "list" = none) (hm : X.mg "zip" = none) (ha : MA X J [e, e2] F) (hgl : Gl X "list" := by rfl) (hg : Gl X "zip" := by rfl)
    (hs : starEach [e, e2] X.env = (false, eval e X.env) :: starEach [e2] X.env := by rfl) (hpl : (backTo pos2 (starEach [e2] X.env)).any (·.1) = false := by rfl)
    (na : starEach [.Call (.Name "zip" p2) [e, e2] [] pos2] X.env = (false, eval (.Call (.Name "zip" p2) [e, e2] [] pos2) X.env) :: starEach [] X.env := by rfl) :
    ME X J (.Call (.Name "list" p) [.Call (.Name "zip" p2) [e, e2] [] pos2] [] pos) (thenK F kLZip) :=
  ⟨pe_imp (pe_listZip hc hgl hml hg hm ha.pa hs hpl na) fun σ H Q n => runA (wishE (J := J) (Q := Q)) n fun vs H1 _ _ _ Hs Hr xs _ R rv p => by
    unfold kLZip at p
    split at p
    · rename_i x y
      obtain ⟨t, d⟩ := x
      obtain ⟨u, e⟩ := y
      obtain ⟨v, w, rfl, r1, r2⟩ := rv.two
      dsimp only at p
      cases d with
      | lst ds =>
        cases e with
        | lst es =>
          dsimp only at p
          split at p
          · rename_i hh
            obtain ⟨s1, s2, s3⟩ := hh
            obtain ⟨a, us, rfl, h1, q1⟩ := r1.shI R.ok s1
            obtain ⟨b, ws, rfl, h2, q2⟩ := r2.shI R.ok s2
            refine ⟨a, b, us, ws, rfl, .inl (.inl h1), .inl (.inl h2), by rw [sizeLine_eq, q1.length, q2.length]; exact s3, fun q ts hl nd hq hts hqn => ?_⟩
            have x0 := Ext.new0 (o := .lst (ts.map V.ref)) R.ok hq fun xs z => by cases z
            obtain ⟨Hs2, Hr2, x2, r3, f2⟩ := putP_ext (ts := ts) x0.ok q1 q2 hl nd (fun c hc => by
              rw [upd_ne fun z => hqn (by rw [← z]; exact hc)]; exact hts c hc)
            refine p _ _ _ (x0.trans x2) q _ ?_ ?_ hq r3
            · rw [putP_off ts _ _ hqn, upd_same]
            · rw [f2 q hqn]; exact R.ok.none_r hq
          · exact (show False from p).elim
        | _ => exact (show False from p).elim
      | _ => exact (show False from p).elim
    · exact (show False from p).elim⟩
end DL

namespace DL
open PySem PySem.Spec PyProof.Rows L2
/-! ### enumerate of a tuple -/
theorem meets_enumB1 {v : Value} {o : Obj} {H : Heap → Prop} (B : Begins v o H) :
    Meets (Builtin.«enumerate.__new__» ⟨[.type "enumerate", v], []⟩) (fun _ R s => H s.heap ∧
      R (.ok (.ret (.ref (s.heap.push o).objs.size))) { s with heap := (s.heap.push o).push { cls := .type "enumerate", data := .fields #[.none, .bool false, .ref s.heap.objs.size, rawInt 0, .none, .none] } }) :=
  .of_wp fun prog w A R s h => by
    obtain ⟨hp, g, d, tk, os⟩ := s; obtain ⟨h1, h⟩ := h
    have hsub := sub_enumerate
    have q1 : ∀ {A' : Around} {E : Value → Shared → Prop} {Q : Value → Shared → Prop}, Q (.ref hp.objs.size) ⟨hp.push o, g, d, tk, os⟩ → wpAny (model prog w) A' (pyIter v) Q E ⟨hp, g, d, tk, os⟩ :=
      fun q => B.iter prog w _ _ ⟨hp, g, d, tk, os⟩ _ h1 q
    wp_walk using q1
    refine wpAny_stack_any fun st => wpAny_pure ?_
    split
    · rename_i c _ _ _ _ _
      cases (c == Value.type "enumerate")
      · wp_walk using q1
        exact ⟨_, rfl, h⟩
      · wp_walk using q1
        exact ⟨_, rfl, h⟩
    · wp_walk using q1
      exact ⟨_, rfl, h⟩
theorem call_enumB1 {prog : Program} {w : World} {A : Around} {E : Value → Shared → Prop} {s : Shared} {v : Value} {o : Obj} {H : Heap → Prop} {Q : Value → Shared → Prop} (B : Begins v o H) (h1 : H s.heap)
    (h : ∀ h', IsEnum h' (s.heap.objs.size + 1) s.heap.objs.size 0 .none → h'.get? s.heap.objs.size = some o → h'.objs.size = s.heap.objs.size + 2 →
      (∀ b o, s.heap.get? b = some o → h'.get? b = some o) → Q (.ref (s.heap.objs.size + 1)) { s with heap := h' }) :
    wpAny (model prog w) A (call (.type "enumerate") [v]) Q E s := by
  refine callType_new F.called_enumerate (by decide) (F.typeCall_enumerate_1 _) (F.newCall_enumerate_1 _) (fun obj => F.args_object_init_2 obj _) F.entry_enumerate_new
    (meets_enumB1 B) ⟨h1, ?_⟩
  have hz : (s.heap.push o).objs.size = s.heap.objs.size + 1 := Heap.size_push ..
  show _ ∧ _
  rw [hz]
  have he : IsEnum ((s.heap.push o).push { cls := .type "enumerate", data := .fields #[.none, .bool false, .ref s.heap.objs.size, rawInt 0, .none, .none] }) (s.heap.objs.size + 1) s.heap.objs.size 0 .none := by
    have := Heap.get?_push_size (s.heap.push o) (o := { cls := .type "enumerate", data := .fields #[.none, .bool false, .ref s.heap.objs.size, rawInt 0, .none, .none] }) rfl
    rw [hz] at this; exact this
  refine ⟨⟨_, he, rfl⟩, h _ he (Heap.get?_push_of_some _ (Heap.get?_push_size _ B.free)) (by rw [Heap.size_push, hz]) fun b o x => Heap.get?_push_of_some _ (Heap.get?_push_of_some _ x)⟩
/-- the tuple at a, each item in a new pair -/
def IteT (K : PySem.W.Frag) (a : Addr) : It :=
  ⟨fun i H => ∃ (xs : List V) (x : V), SqT K H a xs ∧ xs[i]? = some x, fun i H v H' => ∃ T x, v = .ref T ∧ H T = none ∧ H' = upd H T (.tup [.int (i : Nat), x]) ∧ ∀ xs, SqT K H a xs → xs[i]? = some x, fun i H => ∃ xs : List V, SqT K H a xs ∧ xs.length = i⟩
theorem turn_enumT {P : Program} {w : World} {K : PySem.W.Frag} {elts : List Expr} {kk : Nat} {tpos : Pos} (a e it : Addr) (nea : a ≠ e) (nia : a ≠ it) :
    Turn P w K (.Tuple elts kk tpos) (IteT K a) [e, it] e (fun i h => (∃ old, IsEnum h e it ((i : Nat) : Int) old) ∧ h.IsTupleIter it a i ∧ e ≠ it) where
  mem := by simp
  obj := fun i h st b hb => by
    obtain ⟨⟨old, he⟩, ⟨o, ho, hc, hd⟩, _⟩ := st
    have e' : b = e ∨ b = it := by simpa using hb
    rcases e' with z | z
    · rw [z]; exact ⟨_, he, fun v q => nomatch q⟩
    · rw [z]; exact ⟨o, ho, fun v q => by rw [hd] at q; cases q⟩
  keep := fun i h h' st k => let ⟨⟨old, he⟩, hi, hne⟩ := st; ⟨⟨old, k e (by simp) _ he⟩, hi.at fun o q => k it (by simp) o q, hne⟩
  item := by
    intro X hP hw hK hc i pins s σ H E I hf st hg
    subst hP hw hK
    obtain ⟨⟨old, he⟩, hit, hne⟩ := st
    obtain ⟨xs, x, hq, hx⟩ := hg
    obtain ⟨its, rv, p, hz⟩ := I.tuple hq
    obtain ⟨u, hu, ru⟩ := rv.get hx
    have hel : e < s.heap.objs.size := Heap.lt_size he
    have hil : it < s.heap.objs.size := by obtain ⟨_, q, _⟩ := hit; exact Heap.lt_size q
    have il : i < its.toArray.size := by have := (List.getElem?_eq_some_iff.mp hu).1; simpa using this
    have hd : X.A.in1.handled = none := I.ok.hd hc
    refine wpAny_pyNext_enum_itemD (Draws.tuple hd it a nia its.toArray) he ⟨hit, p⟩ il hne (by simp [hne, Ne.symm nea]) fun u' h' tk hP ho hst' hT hsz hk => ?_
    have eu : u = u' := by
      have : its.toArray[i]? = some u := by simpa using hu
      exact Option.some.inj (this.symm.trans hP)
    subst eu
    refine ⟨_, rfl, wpAny_letOwnedTupleGo_enum (s := { s with heap := h', toks := tk + 1 }) ho fun h'' he' sb => ?_⟩
    have hT2 : h''.get? s.heap.objs.size = some { cls := .type "tuple", data := .seq #[.int i tk, u] } := (sb.2 _ (Nat.ne_of_gt hel)).trans hT
    have new : ObjOk X.prog X.w (upd H s.heap.objs.size (.tup [.int (i : Nat), x])) h'' s.heap.objs.size (.tup [.int (i : Nat), x]) :=
      ⟨by show 2 ≤ sizeLine; decide, [.int i tk, u], .cons ⟨_, rfl⟩ (.cons ru .nil), ⟨_, hT2, rfl, _, rfl⟩⟩
    have I1 : Inv X pins σ (upd H s.heap.objs.size (.tup [.int (i : Nat), x])) { s with heap := h'', toks := tk + 1 } :=
      I.turnedNew (ch := [e, it]) (fun b ob hb q => (sb.2 b (fun z => hb (by simp [z]))).trans (hk b ob (fun z => hb (by simp [z])) (fun z => hb (by simp [z])) q)) hf (Nat.le_refl _) new
    refine ⟨.ref s.heap.objs.size, _, I1, rfl, ⟨_, x, rfl, I.hok.fresh (Nat.le_refl _), rfl, fun ys hy => by rw [I.tuple_inj hy hq]; exact hx⟩, ⟨⟨u, ?_⟩, hst'.1.at fun o q => (sb.2 it (Ne.symm hne)).trans q, hne⟩, fun b hb => ?_⟩
    · have e1 : ((i + 1 : Nat) : Int) = (i : Int) + 1 := by omega
      rw [e1]; exact he'
    · have hb' : b < s.heap.objs.size := by
        have e' : b = e ∨ b = it := by simpa using hb
        rcases e' with z | z
        · rw [z]; exact hel
        · rw [z]; exact hil
      rw [upd_ne (Nat.ne_of_lt hb')]
      exact (hf b hb).1
  done := by
    intro X hP hw hK hc i pins s σ H E I hf st hg
    subst hP hw hK
    obtain ⟨⟨old, he⟩, hit, hne⟩ := st
    obtain ⟨xs, hq, hx⟩ := hg
    obtain ⟨its, rv, p, hz⟩ := I.tuple hq
    obtain ⟨f0, f1, f2, f3, f4, f5⟩ := hf it (by simp)
    have hl := rv.length
    have hd : X.A.in1.handled = none := I.ok.hd hc
    have e0 : its.toArray.size = i := by simp; omega
    exact wpAny_pyNext_enum_endD (Draws.tuple hd it a nia its.toArray) he (by rw [e0]; exact ⟨hit, p⟩) fun h' eb => ⟨rfl, I.turned (t' := s.toks) (fun b o hb q => eb b o hb q) f0 f1 f3 f4 f5⟩
  self := fun A i s Q E st h => let ⟨⟨_, he⟩, _⟩ := st; wpAny_pyIter_enum he h
def iEnumT (K : PySem.W.Frag) (ta : TA) : TI := fun σ H R => ta σ H fun vs H1 => ∃ a xs, vs = [.ref a] ∧ SqT K H1 a xs ∧ R (IteT K a) H1
theorem pi_enumT {X : Cx} {e : Expr} {ta : TA} {p pos tpos : Pos} {elts : List Expr} {kk : Nat} (hg : Gl X "enumerate") (hm : X.mg "enumerate" = none) (ha : PA X [e] ta) (hs : starEach [e] X.env = [(false, eval e X.env)] := by rfl) :
    PI X (.Tuple elts kk tpos) (.Call (.Name "enumerate" p) [e] [] pos) (iEnumT X.K ta) := by
  refine ⟨fun pins s σ H R I h => ?_⟩
  refine Call_ (ld_blt I hg hm boot_enumerate (PyProof.Rows.callWith_type1 (thn (ha.run pos pins s σ H _ I h) fun us s1 ⟨vs, H1, I1, r1, q1⟩ => ?_) hs rfl))
  obtain ⟨a, xs, ex, hq, q⟩ := q1
  subst ex
  cases r1 with
  | cons r rr =>
    cases rr
    cases r
    obtain ⟨its, rv, p', hz⟩ := I1.tuple hq
    have al : a < s1.heap.objs.size := by obtain ⟨o, e, _⟩ := id p'; exact Heap.lt_size e
    refine call_enumB1 (begins_tuple a its.toArray) p' fun h' he hit hsz hk => wpAny_pyIter_enum he ?_
    have I2 : Inv X pins σ H1 { s1 with heap := h' } := I1.kept (t' := s1.toks) hk
    refine ⟨s1.heap.objs.size + 1, [s1.heap.objs.size + 1, s1.heap.objs.size], _, _, H1, rfl, I2, turn_enumT a (s1.heap.objs.size + 1) s1.heap.objs.size (Nat.ne_of_lt (Nat.lt_succ_of_lt al)) (Nat.ne_of_lt al), ⟨⟨.none, he⟩, ⟨_, hit, rfl, rfl⟩, Nat.succ_ne_self _⟩, fun b hb => ?_, q⟩
    have e' : b = s1.heap.objs.size + 1 ∨ b = s1.heap.objs.size := by simpa using hb
    have hle : s1.heap.objs.size ≤ b := by
      rcases e' with z | z
      · rw [z]; exact Nat.le_add_right _ _
      · rw [z]; exact Nat.le_refl _
    exact I1.fpOk hle (I1.hok.fresh hle)
end DL

namespace PySem
open PyProof.Rows
section
variable {prog : Program} {w : World} {A : Around} {E : Value → Shared → Prop} {s : Shared}
/-- list(r), r a new reversed(list) -/
theorem dl_list_rev {it l : Addr} {items : Array Value} {Q : Value → Shared → Prop} (hh : A.handled = none) (hit : s.heap.IsRevIter it l ((items.size : Int) - 1)) (hl : s.heap.IsList l items) (hne : l ≠ it) (hn : items.size ≤ sizeLine)
    (hQ : ∀ (h' : Heap) (tk : Nat) (acc : Array Value) (c : Nat), (∀ b o, b ≠ it → s.heap.get? b = some o → h'.get? b = some o) → h'.get? s.heap.objs.size = some { cls := .type "list", dict := none, data := .seq acc c, slots := #[] } → ItemsOf (fun i v => items[items.size - 1 - i]? = some v) acc items.size →
      Q (.ref s.heap.objs.size) { s with heap := h', toks := tk }) :
    wpAny (model prog w) A (call (.type "list") [.ref it]) Q E s := by
  obtain ⟨oi, hoi, _⟩ := id hit
  obtain ⟨ol, hol, _⟩ := id hl
  have hSi : s.heap.objs.size ≠ it := Nat.ne_of_gt (Heap.lt_size hoi)
  have hSl : s.heap.objs.size ≠ l := Nat.ne_of_gt (Heap.lt_size hol)
  have hSf : s.heap.objs.size ∉ [it, l] := by simp only [List.mem_cons, List.not_mem_nil, or_false, not_or]; exact ⟨hSi, hSl⟩
  refine callType_codes (Q₁ := fun obj s₁ => obj = .ref s.heap.objs.size ∧ s₁ = { s with heap := s.heap.push { cls := .type "list", data := .seq #[] } }) F.called_list (F.typeCall_list_1 _) F.entry_list_init
    (code_list_new _ ⟨rfl, rfl⟩) fun obj s₁ h₁ => ?_
  obtain ⟨rfl, rfl⟩ := h₁
  generalize hb : s.heap.push { cls := .type "list", data := .seq #[] } = h0
  have hS : h0.get? s.heap.objs.size = some { cls := .type "list", data := .seq #[] } := by rw [← hb]; exact Heap.get?_push_size _ rfl
  have kp : ∀ b o, s.heap.get? b = some o → h0.get? b = some o := fun b o e => by rw [← hb]; exact Heap.get?_push_of_some _ e
  refine ⟨⟨_, hS, rfl⟩, F.args_list_init_2 _ _, ?_⟩
  show wpAny _ A.in1.in1 (do let old ← Builtin.List.listItems (.ref s.heap.objs.size); Builtin.List.listUpdate (.ref s.heap.objs.size) (fun _ => #[]); letGo old.toList.reverse; Builtin.List.listExtendWith (.ref s.heap.objs.size) (.ref it) .none) _ _ _
  refine wpAny_bind ?_
  unfold Builtin.List.listItems
  refine wpAny_bind (wpAny_seqItems hS rfl (wpAny_pure ?_))
  show wpAny _ A.in1.in1 (updateSeq s.heap.objs.size (fun _ => #[]) >>= fun _ => letGo (#[] : Array Value).toList.reverse >>= fun _ => Builtin.List.listExtendWith (.ref s.heap.objs.size) (.ref it) .none) _ _ _
  refine wpAny_bind (wpAny_updateSeq (s := { s with heap := h0 }) hS rfl ?_)
  have hS₂ := Heap.get?_update_self (Obj.mapSeq (fun _ => (#[] : Array Value))) hS rfl
  have oth : ∀ (b : Nat) o, @Ne Nat b s.heap.objs.size → s.heap.get? b = some o → (h0.update s.heap.objs.size (Obj.mapSeq (fun _ => (#[] : Array Value)))).get? b = some o :=
    fun b o hb e => (Heap.get?_update_other _ _ (Ne.symm hb)).trans (kp b o e)
  refine wpAny_bind (wpAny_letGo ?_)
  generalize hh1 : h0.update s.heap.objs.size (Obj.mapSeq (fun _ => (#[] : Array Value))) = ha1 at hS₂ oth
  have hit1 : ha1.IsRevIter it l ((items.size : Int) - 1) := hit.at fun o e => oth _ o (Ne.symm hSi) e
  have hl1 : ha1.IsList l items := hl.at fun o e => oth _ o (Ne.symm hSl) e
  have hT : (⟨ha1, s.gens, s.drawn, s.toks, s.os⟩ : Shared).TypeIs (.ref it) "list_reverseiterator" := Heap.IsRevIter.typeIs (s := ⟨ha1, s.gens, s.drawn, s.toks, s.os⟩) hit1
  have W := (Walks.listRev (prog := prog) (w := w) (A := A.in1.in1) hh it l hne items).toS
  have h1 : Builtin.List.listSameRef (.ref s.heap.objs.size) (.ref it) = false := by simp [Builtin.List.listSameRef, hSi]
  unfold Builtin.List.listExtendWith
  refine wpAny_bind (wpAny_typeOf hT ?_)
  rw [if_neg (by rw [h1]; decide)]
  refine wpAny_bind (wpAny_pyIter_revIter (s := ⟨ha1, s.gens, s.drawn, s.toks, s.os⟩) hit1 ?_)
  refine wpAny_bind (wpAny_holding ?_)
  unfold Builtin.List.listLengthHint
  refine wpAny_bind (wpAny_specialOf hT RT.nolen_lri ?_)
  show wpAny _ A.in1.in1 (specialOf (Value.ref it) (Str.ofString "__length_hint__") >>= _) _ _ _
  refine wpAny_bind (wpAny_specialOf hT RT.hint_lri ?_)
  generalize hid : ("list_reverseiterator.__length_hint__" : String) = id0
  wp_delta
  rw [show splitId id0 = some ("list_reverseiterator", "__length_hint__") from by subst hid; decide +kernel]
  subst hid
  refine wpAny_bind (wpAny_isInstance (b := true) hT (by rw [isSubtype_type]; kernel_rfl) ?_)
  refine wpAny_pure ?_
  rw [if_neg (by decide)]
  have e0 : ((items.size : Nat) : Int) - 1 - ((0 : Nat) : Int) = (items.size : Int) - 1 := by omega
  refine wpAny_pure ⟨plainId_quiet F.plain_extend_loop _, codeAny_extend_loopS W hn _ hSf _ items.size 0 _ _ _ rfl (Nat.zero_le _) ⟨Nat.zero_le _, by rw [e0]; exact hit1, hl1⟩ hS₂ (ItemsOf.nil _) fun s' acc' c' hm hS' hacc => ?_⟩
  refine ⟨rfl, ?_⟩
  rw [Moved.eq_with hm]
  refine hQ s'.heap s'.toks acc' c' (fun b o hb e => hm.heap b o (fun hmem => ?_) (oth b o (Nat.ne_of_lt (Heap.lt_size e)) e)) hS' hacc
  rcases List.mem_cons.mp hmem with e' | hmem
  · exact absurd (Heap.lt_size e) (by rw [e']; exact Nat.lt_irrefl _)
  · exact hb (List.mem_singleton.mp hmem)
end
end PySem
namespace DL
open PySem PySem.Spec PyProof.Rows L2
def tLstRev (K : PySem.W.Frag) (te : TE) : TE := fun σ H Q => te σ H fun v H1 => ∃ (a : Addr) (xs : List V), v = .ref a ∧ SqL K H1 a xs ∧ ∀ q, H1 q = none → Q (.ref q) (upd H1 q (.lst xs.reverse))
theorem pe_listRev {X : Cx} {e : Expr} {te : TE} {p p2 pos pos2 : Pos} (hc : X.calm = true) (hg : Gl X "list") (hm : X.mg "list" = none) (hg2 : Gl X "reversed") (hm2 : X.mg "reversed" = none) (he : PE X e te)
    (hs : starEach [e] X.env = (false, eval e X.env) :: starEach [] X.env := by rfl)
    (hs2 : starEach [.Call (.Name "reversed" p2) [e] [] pos2] X.env = (false, eval (.Call (.Name "reversed" p2) [e] [] pos2) X.env) :: starEach [] X.env := by rfl) :
    PE X (.Call (.Name "list" p) [.Call (.Name "reversed" p2) [e] [] pos2] [] pos) (tLstRev X.K te) := by
  refine ⟨fun pins s σ H Q I h => ?_⟩
  refine Call_ (ld_blt I hg hm PyProof.Rows.boot_list (PyProof.Rows.callWith_type1 (args_cons (Call_ (ld_blt I hg2 hm2 PyProof.Rows.boot_reversed (PyProof.Rows.callWith_type1 (args_cons (thn (he.run pins s σ H _ I h) fun u s1 ⟨v, H1, I1, r1, q1⟩ => args_nil ?_) hs) hs))) hs2) hs2))
  obtain ⟨a, xs, ev, hq, q⟩ := q1
  subst ev
  obtain rfl : u = Value.ref a := r1
  obtain ⟨its, rv, p', hz⟩ := I1.list hq
  refine call_reversed_list p'.isList (args_nil ?_)
  have k0 : ∀ b o, s1.heap.get? b = some o → (s1.heap.push (revObj a ((its.toArray.size : Int) - 1))).get? b = some o := fun b o e => Heap.get?_push_of_some _ e
  have I2 : Inv X pins σ H1 { s1 with heap := s1.heap.push (revObj a ((its.toArray.size : Int) - 1)) } := I1.kept (t' := s1.toks) k0
  have fp := I1.fpOk (H' := H1) (b := s1.heap.objs.size) (Nat.le_refl _) (I1.hok.fresh (Nat.le_refl _))
  have hl := p'.isList
  obtain ⟨ol, hol, _⟩ := id hl
  have hne : a ≠ s1.heap.objs.size := Nat.ne_of_lt (Heap.lt_size hol)
  have hn : its.toArray.size ≤ sizeLine := by rw [List.size_toArray, ← rv.length]; exact hz
  refine dl_list_rev (s := { s1 with heap := s1.heap.push (revObj a ((its.toArray.size : Int) - 1)) }) (I1.ok.hd hc) ⟨_, Heap.get?_push_size _ rfl, rfl, rfl⟩ (hl.push _) hne hn fun h' tk acc c hk hS hi => ?_
  have J := I2.turnedNew (t' := tk) (ch := [s1.heap.objs.size]) (T := (s1.heap.push (revObj a ((its.toArray.size : Int) - 1))).objs.size) (ob := .lst xs.reverse) (h' := h')
    (fun b ob hb e => hk b ob (fun z => hb (by simp [z])) e) (fun b hb => by cases List.mem_singleton.mp hb; exact fp) (Nat.le_refl _)
    ⟨by rw [List.length_reverse]; exact hz, acc.toList, c, RT.vals_rev rv hi, by rw [Array.toArray_toList]; exact hS⟩
  exact ⟨.ref _, _, J, rfl, q _ (I1.hok.fresh (by rw [Heap.size_push]; exact Nat.le_succ _))⟩
/-- list(reversed(x)) -/
def kLRev (x : TV) : Res EV := match x.2 with
  | .lst xs => if shI x = true then .ok (.own xs.reverse) else .bad
  | _ => .bad
theorem me_listRev {X : Cx} {J : Jx} {e : Expr} {f : Env → Res TV} {p p2 pos pos2 : Pos} (hc : X.calm = true) (hml : X.mg "list" = none) (hm : X.mg "reversed" = none) (ha : MV X J e f) (hgl : Gl X "list" := by rfl) (hg : Gl X "reversed" := by rfl)
    (hs : starEach [e] X.env = (false, eval e X.env) :: starEach [] X.env := by rfl)
    (hs2 : starEach [.Call (.Name "reversed" p2) [e] [] pos2] X.env = (false, eval (.Call (.Name "reversed" p2) [e] [] pos2) X.env) :: starEach [] X.env := by rfl) :
    ME X J (.Call (.Name "list" p) [.Call (.Name "reversed" p2) [e] [] pos2] [] pos) (bin1 f kLRev) :=
  ⟨pe_imp (pe_listRev hc hgl hml hg hm ha.pe hs hs2) fun σ H Q n => run1 (wishE (J := J) (Q := Q)) n fun v H1 _ _ _ Hs Hr x _ R rv p => by
    unfold kLRev at p
    obtain ⟨t, d⟩ := x
    cases d with
    | lst xs =>
      dsimp only at p
      split at p
      · rename_i h
        obtain ⟨q, vs, rfl, h1, r1⟩ := rv.shI R.ok h
        exact ⟨q, vs, rfl, .inl (.inl h1), fun r hr => p _ _ _ (Ext.new0 R.ok hr fun xs z => by cases z) r _ upd_same (R.ok.none_r hr) hr r1.reverse⟩
      · exact (show False from p).elim
    | _ => exact (show False from p).elim⟩
end DL

namespace PySem
open PyProof.Rows
section
variable {prog : Program} {w : World} {A : Around} {E : Value → Shared → Prop} {s : Shared}
theorem dl_nextOf_rev_item {it l : Addr} {i : Nat} {items : Array Value} {x : Value} {Q : Value → Shared → Prop} (hit : s.heap.IsRevIter it l (i : Int)) (hl : s.heap.IsList l items) (hx : items[i]? = some x)
    (hQ : ∀ h', h'.IsRevIter it l ((i : Int) - 1) → Heap.SameBut it s.heap h' → Q x { s with heap := h' }) : wpAny (model prog w) A (Builtin.SmallTypes.nextOf (.ref it)) Q E s := by
  obtain ⟨o, ho, hc, hd⟩ := id hit
  obtain ⟨ol, hol, _, nl, hdl⟩ := hl
  unfold Builtin.SmallTypes.nextOf
  refine wpAny_bind (wpAny_callSpecial?_slot (name := Str.ofString "__next__") hit.typeIs F.slot_lri_next
    (wpAny_call_entry F.slot_lri_next hit.typeIs F.entry_lri_next ?_ (F.args_lri_next_1 _)))
  unfold Builtin.«list_reverseiterator.__next__»
  refine wpAny_bind (wpAny_of_eq (a := (Value.ref it, [])) rfl ?_)
  try dsimp only
  refine wpAny_bind (wpAny_field ho hd (x := rawInt (i : Int)) rfl ?_)
  show wpAny _ _ (if (i : Int) < 0 then _ else _) _ _ s
  rw [if_neg (by omega)]
  show wpAny _ _ (field (.ref it) 0 >>= _) _ _ s
  refine wpAny_bind (wpAny_field ho hd (x := .ref l) rfl ?_)
  show wpAny _ _ (seqItems? (.ref l) >>= _) _ _ s
  refine wpAny_bind (wpAny_seqItems hol hdl ?_)
  simp only [Int.toNat_natCast, hx]
  refine wpAny_bind (wpAny_setField ho hd (by simp) ?_)
  first
  | refine wpAny_pure ⟨x, rfl, wpAny_pure (hQ _ ?_ (Heap.SameBut.update ..))⟩
  | refine wpAny_bind (wpAny_pure (wpAny_pure ⟨x, rfl, wpAny_pure (hQ _ ?_ (Heap.SameBut.update ..))⟩))
  exact ⟨_, Heap.get?_update_self _ ho (Obj.isFreed_of_fields (Obj.data_mapFields hd _)), (Obj.cls_mapFields ..).trans hc, by
    rw [Obj.data_mapFields hd]; simp⟩
theorem dl_nextOf_rev_end {it l : Addr} {Q : Value → Shared → Prop} (hh : A.handled = none) (hit : s.heap.IsRevIter it l (-1))
    (hE : ∀ h' e, Heap.ExtBut it s.heap h' → (∃ o, h'.get? e = some o ∧ o.cls = .type "StopIteration") → E (.ref e) { s with heap := h' }) : wpAny (model prog w) A (Builtin.SmallTypes.nextOf (.ref it)) Q E s := by
  obtain ⟨o, ho, hc, hd⟩ := id hit
  unfold Builtin.SmallTypes.nextOf
  refine wpAny_bind (wpAny_callSpecial?_slot (name := Str.ofString "__next__") hit.typeIs F.slot_lri_next
    (wpAny_call_entry F.slot_lri_next hit.typeIs F.entry_lri_next ?_ (F.args_lri_next_1 _)))
  unfold Builtin.«list_reverseiterator.__next__»
  refine wpAny_bind (wpAny_of_eq (a := (Value.ref it, [])) rfl ?_)
  try dsimp only
  refine wpAny_bind (wpAny_field ho hd (x := rawInt (-1)) rfl ?_)
  show wpAny _ _ (if (-1 : Int) < 0 then _ else _) _ _ s
  rw [if_pos (by decide)]
  refine wpAny_bind (wpAny_rule ?_)
  first
  | show wpAny _ _ (newExc (.type "StopIteration") [] >>= _) _ _ _
  | (refine wpAny_bind ?_; show wpAny _ _ (newExc (.type "StopIteration") [] >>= _) _ _ _)
  refine wpAny_bind ?_
  simp only [newExc, newTuple]
  refine wpAny_bind (wpAny_newObj_type ?_ (by size_fits))
  refine wpAny_bind (m := firstArgMember _ _) (wpAny_of_eq (a := Value.none) (by first | rfl | (simp only [firstArgMember]; rfl)) ?_)
  refine wpAny_newObj_type ?_ (by size_fits)
  simp only [raiseNew]
  refine wpAny_bind (wpAny_handled ?_)
  first | rw [show A.in1.handled = none from hh] | rw [hh]
  refine wpAny_bind (wpAny_pure (wpAny_throw ?_))
  exact hE _ _ (((Heap.ExtBut.refl _ _).push _).push _) ⟨_, Heap.get?_push_size _ rfl, rfl⟩
end
theorem dl_drawsRev {prog : Program} {w : World} {A : Around} (hh : A.handled = none) (it l : Addr) (hne : l ≠ it) (items : Array Value) :
    Draws prog w A it [it, l] items.size (fun i v => items[items.size - 1 - i]? = some v) (fun i h => i ≤ items.size ∧ h.IsRevIter it l ((items.size : Int) - 1 - (i : Int)) ∧ h.IsList l items) where
  live := fun _ _ st => let ⟨o, ho, _⟩ := st.2.1; ⟨o, ho⟩
  frame := fun _ _ _ st hk => ⟨st.1, st.2.1.at fun o e => hk it (by simp) o e, st.2.2.at fun o e => hk l (by simp) o e⟩
  item := fun i s Q E hi st hQ => by
    have e : (items.size : Int) - 1 - (i : Int) = ((items.size - 1 - i : Nat) : Int) := by omega
    have hit := st.2.1
    rw [e] at hit
    have hx : items[items.size - 1 - i]? = some (items[items.size - 1 - i]'(by omega)) := Array.getElem?_eq_getElem (by omega)
    refine dl_nextOf_rev_item hit st.2.2 hx fun h' hit' hs' => ?_
    have e2 : ((items.size - 1 - i : Nat) : Int) - 1 = (items.size : Int) - 1 - ((i + 1 : Nat) : Int) := by omega
    rw [e2] at hit'
    exact hQ _ h' s.toks hx ⟨hi, hit', st.2.2.at fun o eo => (hs'.2 l hne).trans eo⟩ hs'
  done := fun s Q E st hE => by
    have e : (items.size : Int) - 1 - (items.size : Int) = -1 := by omega
    have hit := st.2.1
    rw [e] at hit
    exact dl_nextOf_rev_end hh hit hE
abbrev dzT (h : Heap) (i1 i2 : Addr) : Heap := h.push { cls := .type "tuple", data := .seq #[.ref i1, .ref i2] }
abbrev dzO (h : Heap) (i1 i2 : Addr) : Heap := (dzT h i1 i2).push { cls := .type "tuple", data := .seq #[.none, .none] }
abbrev dzZ (h : Heap) (i1 i2 : Addr) : Heap := (dzO h i1 i2).push { cls := .type "zip", data := .fields #[.none, .bool false, .bool false, .ref h.objs.size, .ref (dzT h i1 i2).objs.size] }
theorem dl_meets_zip {i1 i2 l1 l2 : Addr} {k1 k2 : Int} :
    Meets (Builtin.«zip.__new__» ⟨[.type "zip", .ref i1, .ref i2], []⟩) (fun _ R s => (s.heap.IsRevIter i1 l1 k1 ∧ s.heap.IsRevIter i2 l2 k2) ∧
      R (.ok (.ret (.ref (dzO s.heap i1 i2).objs.size))) { s with heap := dzZ s.heap i1 i2 }) :=
  .of_wp fun prog w A R s h => by
    obtain ⟨hp, g, d, tk, os⟩ := s; obtain ⟨⟨h1, h2⟩, h⟩ := h
    have hsub := sub_zip
    have q1 : ∀ {A' : Around} {E : Value → Shared → Prop} {Q : Value → Shared → Prop}, Q (.ref i1) ⟨hp, g, d, tk, os⟩ → wpAny (model prog w) A' (pyIter (.ref i1)) Q E ⟨hp, g, d, tk, os⟩ :=
      fun q => wpAny_pyIter_revIter (s := ⟨hp, g, d, tk, os⟩) h1 q
    have q2 : ∀ {A' : Around} {E : Value → Shared → Prop} {Q : Value → Shared → Prop}, Q (.ref i2) ⟨hp, g, d, tk, os⟩ → wpAny (model prog w) A' (pyIter (.ref i2)) Q E ⟨hp, g, d, tk, os⟩ :=
      fun q => wpAny_pyIter_revIter (s := ⟨hp, g, d, tk, os⟩) h2 q
    wp_walk using q1, q2
    exact ⟨_, rfl, h⟩
section
variable {prog : Program} {w : World} {A : Around} {E : Value → Shared → Prop} {s : Shared}
theorem dl_zip_revs {i1 i2 l1 l2 : Addr} {k1 k2 : Int} {Q : Value → Shared → Prop} (h1 : s.heap.IsRevIter i1 l1 k1) (h2 : s.heap.IsRevIter i2 l2 k2)
    (h : ∀ h', IsZip h' (s.heap.objs.size + 2) s.heap.objs.size (s.heap.objs.size + 1) .none → IsTupOf2 h' s.heap.objs.size (.ref i1) (.ref i2) → IsTupOf2 h' (s.heap.objs.size + 1) .none .none → h'.objs.size = s.heap.objs.size + 3 →
      (∀ c o, s.heap.get? c = some o → h'.get? c = some o) → Q (.ref (s.heap.objs.size + 2)) { s with heap := h' }) :
    wpAny (model prog w) A (call (.type "zip") [.ref i1, .ref i2]) Q E s := by
  refine callType_new F.called_zip (by decide) (F.typeCall_zip_2 _ _) (F.newCall_zip_2 _ _) (fun obj => F.args_object_init_3 obj _ _) F.entry_zip_new
    (dl_meets_zip (l1 := l1) (l2 := l2) (k1 := k1) (k2 := k2)) ⟨⟨h1, h2⟩, ?_⟩
  have zT : (dzT s.heap i1 i2).objs.size = s.heap.objs.size + 1 := by rw [Heap.size_push]
  have zO : (dzO s.heap i1 i2).objs.size = s.heap.objs.size + 2 := by rw [Heap.size_push, zT]
  have zZ : (dzZ s.heap i1 i2).objs.size = s.heap.objs.size + 3 := by rw [Heap.size_push, zO]
  have gZ : (dzZ s.heap i1 i2).get? (dzO s.heap i1 i2).objs.size = some { cls := .type "zip", data := .fields #[.none, .bool false, .bool false, .ref s.heap.objs.size, .ref (dzT s.heap i1 i2).objs.size] } := Heap.get?_push_size _ rfl
  have gO : (dzZ s.heap i1 i2).get? (dzT s.heap i1 i2).objs.size = some { cls := .type "tuple", data := .seq #[.none, .none] } := Heap.get?_push_of_some _ (Heap.get?_push_size _ rfl)
  have gT : (dzZ s.heap i1 i2).get? s.heap.objs.size = some { cls := .type "tuple", data := .seq #[.ref i1, .ref i2] } := Heap.get?_push_of_some _ (Heap.get?_push_of_some _ (Heap.get?_push_size _ rfl))
  rw [zO, zT] at gZ
  rw [zT] at gO
  show _ ∧ _
  rw [zO]
  exact ⟨⟨_, gZ, rfl⟩, h _ gZ gT gO zZ fun c o e => Heap.get?_push_of_some _ (Heap.get?_push_of_some _ (Heap.get?_push_of_some _ e))⟩
end
end PySem
namespace DL
open PySem PySem.Spec PyProof.Rows L2
/-! ### zip(reversed(a), reversed(b)) -/
def ItZR (K : PySem.W.Frag) (a b : Addr) (n m : Nat) : It :=
  ⟨fun i H => ∃ (xs ys : List V), SqL K H a xs ∧ SqL K H b ys ∧ xs.length = n ∧ ys.length = m ∧ i < n ∧ i < m,
   fun i H v H' => ∃ p x y, v = .ref p ∧ H p = none ∧ H' = upd H p (.tup [x, y]) ∧ (∀ xs, SqL K H a xs → xs[n - 1 - i]? = some x) ∧ (∀ ys, SqL K H b ys → ys[m - 1 - i]? = some y),
   fun i H => ∃ xs ys : List V, SqL K H a xs ∧ SqL K H b ys ∧ xs.length = n ∧ ys.length = m ∧ i ≤ n ∧ i ≤ m ∧ (i = n ∨ i = m)⟩
structure ZRCells (h : Heap) (z ti tt p q a b : Addr) (n m i : Nat) : Prop where
  zip : IsZip h z ti tt .none
  ins : IsTupOf2 h ti (.ref p) (.ref q)
  out : ∃ u v, IsTupOf2 h tt u v
  one : h.IsRevIter p a ((n : Int) - 1 - (i : Int))
  two : h.IsRevIter q b ((m : Int) - 1 - (i : Int))
theorem rit_obj {h : Heap} {p a : Addr} {k : Int} (q : h.IsRevIter p a k) : ∃ o, h.get? p = some o ∧ ∀ v, o.data ≠ .cell v := by
  obtain ⟨o, e, _, d⟩ := q
  exact ⟨o, e, fun v z => by rw [d] at z; cases z⟩
theorem turnZR {P : Program} {w : World} {K : PySem.W.Frag} {es : List Expr} {kk : Nat} {tp : Pos} {a b z ti tt p q : Addr} {n m : Nat} (S : ZipSep2 z ti tt p q [p, a] [q, b]) (na : a ≠ p) (nb : b ≠ q) :
    Turn P w K (.Tuple es kk tp) (ItZR K a b n m) [z, ti, tt, p, q] z (fun i h => ZRCells h z ti tt p q a b n m i) where
  mem := List.mem_cons_self
  obj := fun i h c m hm => by
    obtain ⟨u, v, ho⟩ := c.out
    simp only [List.mem_cons, List.not_mem_nil, or_false] at hm
    rcases hm with rfl | rfl | rfl | rfl | rfl
    · exact ⟨_, c.zip, fun _ e => nomatch e⟩
    · exact ⟨_, c.ins, fun _ e => nomatch e⟩
    · exact ⟨_, ho, fun _ e => nomatch e⟩
    · exact rit_obj c.one
    · exact rit_obj c.two
  keep := fun i h h' c kp => by
    obtain ⟨u, v, ho⟩ := c.out
    exact ⟨kp _ (by simp) _ c.zip, kp _ (by simp) _ c.ins, ⟨u, v, kp _ (by simp) _ ho⟩, c.one.at fun o e => kp _ (by simp) o e, c.two.at fun o e => kp _ (by simp) o e⟩
  item := by
    intro X e1 e2 e3 hc i pins s σ H E I fr c g
    subst e1 e2 e3
    obtain ⟨xs, ys, qx, qy, ln, lm, hi1, hi2⟩ := g
    obtain ⟨vs, rx, ix, lx⟩ := inv_sq (k := false) I qx
    obtain ⟨ws, ry, iy, ly⟩ := inv_sq (k := false) I qy
    have l1 := rx.length
    have l2 := ry.length
    obtain ⟨x, hx⟩ : ∃ x, xs[n - 1 - i]? = some x := ⟨xs[n - 1 - i]'(by omega), List.getElem?_eq_getElem _⟩
    obtain ⟨y, hy⟩ : ∃ y, ys[m - 1 - i]? = some y := ⟨ys[m - 1 - i]'(by omega), List.getElem?_eq_getElem _⟩
    obtain ⟨u, hu, ru⟩ := rx.get hx
    obtain ⟨v, hv, rv⟩ := ry.get hy
    obtain ⟨o1, o2, ho⟩ := c.out
    have hd : X.A.in1.handled = none := I.ok.hd hc
    have zl := Heap.lt_size c.zip
    have s1 : vs.toArray.size = n := by simp; omega
    have s2 : ws.toArray.size = m := by simp; omega
    refine wpAny_pyNext_zipD2_item S (dl_drawsRev hd p a na vs.toArray) (dl_drawsRev hd q b nb ws.toArray) c.zip c.ins ho ⟨by rw [s1]; exact Nat.le_of_lt hi1, by rw [s1]; exact c.one, ix⟩ ⟨by rw [s2]; exact Nat.le_of_lt hi2, by rw [s2]; exact c.two, iy⟩ (by rw [s1]; exact hi1) (by rw [s2]; exact hi2) fun u' v' h1 tk eu ev z1 t1 st1 st2 t2 sz ke => ?_
    have eu' : u = u' := by
      rw [s1] at eu
      have : vs.toArray[n - 1 - i]? = some u := by simpa using hu
      exact Option.some.inj (this.symm.trans eu)
    have ev' : v = v' := by
      rw [s2] at ev
      have : ws.toArray[m - 1 - i]? = some v := by simpa using hv
      exact Option.some.inj (this.symm.trans ev)
    subst eu' ev'
    refine ⟨_, rfl, wpAny_letOwnedTupleGo_zip (s := ⟨h1, s.gens, s.drawn, tk, s.os⟩) z1 fun h2 z2 sb => ?_⟩
    have nz : s.heap.objs.size ≠ z := Nat.ne_of_gt zl
    have t3 : h2.get? s.heap.objs.size = some { cls := .type "tuple", data := .seq #[u, v] } := (sb.2 _ nz).trans t2
    have J := I.turnedNew (t' := tk) (ch := [z, ti, tt, p, q]) (T := s.heap.objs.size) (ob := .tup [x, y]) (h' := h2)
      (fun m o hm e => (sb.2 m fun h => hm (by simp [h])).trans (ke m o (fun h => hm (by simp [h])) (fun h => hm (by simp [h])) (fun h => hm (by simp [h])) (fun h => hm (by simp [h])) e)) fr (Nat.le_refl _)
      ⟨by show 2 ≤ sizeLine; decide, [u, v], .cons ru (.cons rv .nil), _, t3, rfl, _, rfl⟩
    refine ⟨.ref s.heap.objs.size, _, J, rfl, ⟨_, x, y, rfl, I.hok.fresh (Nat.le_refl _), rfl, fun l hl => ?_, fun l hl => ?_⟩, ⟨z2, ?_, ⟨u, v, ?_⟩, ?_, ?_⟩, fun m hm => ?_⟩
    · rw [sq_inj (k := false) I hl qx]; exact hx
    · rw [sq_inj (k := false) I hl qy]; exact hy
    · exact (sb.2 _ S.TIz).trans (ke _ _ S.TIz S.TITO S.TIi1 S.TIi2 c.ins)
    · exact (sb.2 _ S.TOz).trans t1
    · have := st1.2.1
      rw [s1] at this
      exact this.at fun o e => (sb.2 _ S.zi1.symm).trans e
    · have := st2.2.1
      rw [s2] at this
      exact this.at fun o e => (sb.2 _ S.zi2.symm).trans e
    · obtain ⟨o, e, _⟩ : ∃ o, s.heap.get? m = some o ∧ ∀ v, o.data ≠ .cell v := by
        simp only [List.mem_cons, List.not_mem_nil, or_false] at hm
        rcases hm with rfl | rfl | rfl | rfl | rfl
        · exact ⟨_, c.zip, fun _ e => nomatch e⟩
        · exact ⟨_, c.ins, fun _ e => nomatch e⟩
        · exact ⟨_, ho, fun _ e => nomatch e⟩
        · exact rit_obj c.one
        · exact rit_obj c.two
      rw [upd_ne (Nat.ne_of_lt (Heap.lt_size e))]
      exact (fr m hm).1
  done := by
    intro X e1 e2 e3 hc i pins s σ H E I fr c g
    subst e1 e2 e3
    obtain ⟨xs, ys, qx, qy, ln, lm, g1, g2, g3⟩ := g
    obtain ⟨vs, rx, ix, lx⟩ := inv_sq (k := false) I qx
    obtain ⟨ws, ry, iy, ly⟩ := inv_sq (k := false) I qy
    obtain ⟨o1, o2, ho⟩ := c.out
    have hd : X.A.in1.handled = none := I.ok.hd hc
    have n1 := rx.length
    have n2 := ry.length
    have s1 : vs.toArray.size = n := by simp; omega
    have s2 : ws.toArray.size = m := by simp; omega
    exact wpAny_pyNext_zipD2_end S (dl_drawsRev hd p a na vs.toArray) (dl_drawsRev hd q b nb ws.toArray) c.zip c.ins ho ⟨by rw [s1]; omega, by rw [s1]; exact c.one, ix⟩ ⟨by rw [s2]; omega, by rw [s2]; exact c.two, iy⟩ (by rw [s1]; exact g1) (by rw [s2]; exact g2) (by rw [s1, s2]; exact g3)
      fun h1 tk ke => ⟨rfl, I.turnedL (t' := tk) (ch := [z, ti, tt, p, q]) (fun m o hm e => ke m o (fun h => hm (by simp [h])) (fun h => hm (by simp [h])) (fun h => hm (by simp [h])) (fun h => hm (by simp [h])) e) fr⟩
  self := fun A i s Q E c h => wpAny_pyIter_zip c.zip h
def iZR (K : PySem.W.Frag) (te te2 : TE) : TI := fun σ H R => te σ H fun v H1 => ∃ a xs, v = .ref a ∧ SqL K H1 a xs ∧ te2 σ H1 fun u H2 => ∃ b ys, u = .ref b ∧ SqL K H2 a xs ∧ SqL K H2 b ys ∧ R (ItZR K a b xs.length ys.length) H2
theorem pi_zR {X : Cx} {e e2 : Expr} {te te2 : TE} {p p1 p2 pos pos1 pos2 tpos : Pos} {elts : List Expr} {kk : Nat} (hg : Gl X "zip") (hm : X.mg "zip" = none) (hg2 : Gl X "reversed") (hm2 : X.mg "reversed" = none) (he : PE X e te) (he2 : PE X e2 te2)
    (hs : starEach [e] X.env = (false, eval e X.env) :: starEach [] X.env) (hs2 : starEach [e2] X.env = (false, eval e2 X.env) :: starEach [] X.env)
    (ha : starEach [.Call (.Name "reversed" p1) [e] [] pos1, .Call (.Name "reversed" p2) [e2] [] pos2] X.env = (false, eval (.Call (.Name "reversed" p1) [e] [] pos1) X.env) :: starEach [.Call (.Name "reversed" p2) [e2] [] pos2] X.env)
    (hb : starEach [.Call (.Name "reversed" p2) [e2] [] pos2] X.env = (false, eval (.Call (.Name "reversed" p2) [e2] [] pos2) X.env) :: starEach [] X.env)
    (hpl : (backTo pos (starEach [.Call (.Name "reversed" p2) [e2] [] pos2] X.env)).any (·.1) = false) :
    PI X (.Tuple elts kk tpos) (.Call (.Name "zip" p) [.Call (.Name "reversed" p1) [e] [] pos1, .Call (.Name "reversed" p2) [e2] [] pos2] [] pos) (iZR X.K te te2) := by
  refine ⟨fun pins s σ H R I h => ?_⟩
  refine Call_ (ld_blt I hg hm PyProof.Rows.boot_zip (PyProof.Rows.callWith_type1 (args_cons (Call_ (ld_blt I hg2 hm2 PyProof.Rows.boot_reversed (PyProof.Rows.callWith_type1 (args_cons (thn (he.run pins s σ H _ I h) fun u s1 ⟨v, H1, I1, r1, q1⟩ => args_nil ?_) hs) hs))) ha) ha hpl))
  obtain ⟨a, xs, ev, qx, q1⟩ := q1
  subst ev
  obtain rfl : u = Value.ref a := r1
  obtain ⟨us, ru, iu, lu⟩ := inv_sq (k := false) I1 qx
  refine call_reversed_list iu ?_
  have k0 : ∀ b o, s1.heap.get? b = some o → (s1.heap.push (revObj a ((us.toArray.size : Int) - 1))).get? b = some o := fun b o e => Heap.get?_push_of_some _ e
  have I2 : Inv X pins σ H1 { s1 with heap := s1.heap.push (revObj a ((us.toArray.size : Int) - 1)) } := I1.kept (t' := s1.toks) k0
  have fp := I1.fpOk (H' := H1) (b := s1.heap.objs.size) (Nat.le_refl _) (I1.hok.fresh (Nat.le_refl _))
  have gp : (s1.heap.push (revObj a ((us.toArray.size : Int) - 1))).get? s1.heap.objs.size = some (revObj a ((us.toArray.size : Int) - 1)) := Heap.get?_push_size _ rfl
  have I3 := I2.pinned (fp := [s1.heap.objs.size]) (fun b hb => by cases List.mem_singleton.mp hb; exact fp) (fun b hb => by cases List.mem_singleton.mp hb; exact ⟨_, gp, fun _ e => nomatch e⟩)
  refine args_cons (Call_ (ld_blt I3 hg2 hm2 PyProof.Rows.boot_reversed (PyProof.Rows.callWith_type1 (args_cons (thn (he2.run _ _ σ H1 _ I3 q1) fun u2 s2 ⟨v2, H2, I4, r2, q2⟩ => args_nil ?_) hs2) hs2))) hb
  obtain ⟨b, ys, ev2, qx2, qy, q2⟩ := q2
  subst ev2
  obtain rfl : u2 = Value.ref b := r2
  obtain ⟨ws, rw', iw, lw⟩ := inv_sq (k := false) I4 qy
  refine call_reversed_list iw (args_nil ?_)
  have pin := I4.pin (s1.heap.objs.size, revObj a ((us.toArray.size : Int) - 1)) (by
    refine List.mem_append_right _ (List.mem_append_right _ ?_)
    show _ ∈ List.filterMap _ _
    refine List.mem_filterMap.mpr ⟨s1.heap.objs.size, List.mem_singleton.mpr rfl, ?_⟩
    rw [gp] <;> rfl)
  obtain ⟨g1, g2, g3, g4, g5⟩ := pin
  have I5 : Inv X pins σ H2 s2 := I4.unpinned
  have k5 : ∀ c o, s2.heap.get? c = some o → (s2.heap.push (revObj b ((ws.toArray.size : Int) - 1))).get? c = some o := fun c o e => Heap.get?_push_of_some _ e
  have I6 : Inv X pins σ H2 { s2 with heap := s2.heap.push (revObj b ((ws.toArray.size : Int) - 1)) } := I5.kept (t' := s2.toks) k5
  have gq : (s2.heap.push (revObj b ((ws.toArray.size : Int) - 1))).get? s2.heap.objs.size = some (revObj b ((ws.toArray.size : Int) - 1)) := Heap.get?_push_size _ rfl
  have hlp : @LT.lt Nat _ s1.heap.objs.size s2.heap.objs.size := Heap.lt_size g1
  refine dl_zip_revs (s := { s2 with heap := s2.heap.push (revObj b ((ws.toArray.size : Int) - 1)) }) (l1 := a) (l2 := b) (k1 := (us.toArray.size : Int) - 1) (k2 := (ws.toArray.size : Int) - 1) ⟨_, k5 _ _ g1, rfl, rfl⟩ ⟨_, gq, rfl, rfl⟩ fun h' hz hi ho sz ke => wpAny_pyIter_zip hz ?_
  have zz : (s2.heap.push (revObj b ((ws.toArray.size : Int) - 1))).objs.size = s2.heap.objs.size + 1 := Heap.size_push ..
  have J : Inv X pins σ H2 { s2 with heap := h' } := I6.kept (t' := s2.toks) ke
  have hap : @Ne Nat a s1.heap.objs.size := Nat.ne_of_lt lu
  have hbp : @Ne Nat b s1.heap.objs.size := fun z => by
    obtain ⟨o, e, hc, _⟩ := id iw
    rw [z, g1] at e
    cases e
    have hc' : Value.type "list_reverseiterator" = Value.type "list" := hc
    injection hc' with h
    exact absurd h (by decide)
  have haq : @Ne Nat a s2.heap.objs.size := Nat.ne_of_lt (Nat.lt_trans lu hlp)
  have hbq : @Ne Nat b s2.heap.objs.size := Nat.ne_of_lt lw
  have lal : @LT.lt Nat _ a s2.heap.objs.size := Nat.lt_trans lu hlp
  have lbl : @LT.lt Nat _ b s2.heap.objs.size := lw
  rw [zz] at hz hi ho
  have two : ∀ x y z : Nat, x ≠ y → x ≠ z → x ∉ ([y, z] : List Nat) := fun x y z h k => by simp [h, k]
  have S : ZipSep2 (s2.heap.objs.size + 1 + 2) (s2.heap.objs.size + 1) (s2.heap.objs.size + 1 + 1) s1.heap.objs.size s2.heap.objs.size [s1.heap.objs.size, a] [s2.heap.objs.size, b] := by
    generalize (s1.heap.objs.size : Nat) = n1 at *
    generalize (s2.heap.objs.size : Nat) = n2 at *
    exact ⟨(by omega : @Ne Nat (n2 + 1) (n2 + 1 + 2)), (by omega : @Ne Nat (n2 + 1 + 1) (n2 + 1 + 2)), (by omega : @Ne Nat (n2 + 1) (n2 + 1 + 1)), (by omega : @Ne Nat (n2 + 1) n1), List.mem_cons_self, two _ _ _ (by omega) (by omega), two _ _ _ (by omega) (by omega),
      (by omega : @Ne Nat (n2 + 1) n2), List.mem_cons_self, two _ _ _ (by omega) (by omega), two _ _ _ (by omega) (by omega), two _ _ _ (by omega) (by omega), two _ _ _ (by omega) (by omega)⟩
  have e1 : (us.toArray.size : Int) - 1 = (xs.length : Int) - 1 - ((0 : Nat) : Int) := by have := ru.length; simp; omega
  have e2 : (ws.toArray.size : Int) - 1 = (ys.length : Int) - 1 - ((0 : Nat) : Int) := by have := rw'.length; simp; omega
  have fresh : ∀ c, s2.heap.objs.size ≤ c → FpOk X pins H2 c := fun c hc => I5.fpOk hc (I5.hok.fresh hc)
  obtain ⟨f0, f1, f2, f3, f4, f5⟩ := fp
  rw [zz]
  refine ⟨s2.heap.objs.size + 1 + 2, [s2.heap.objs.size + 1 + 2, s2.heap.objs.size + 1, s2.heap.objs.size + 1 + 1, s1.heap.objs.size, s2.heap.objs.size], _, _, H2, rfl, J,
    turnZR (n := xs.length) (m := ys.length) S hap hbq, ⟨hz, hi, ⟨_, _, ho⟩, ⟨_, ke _ _ (k5 _ _ g1), rfl, by rw [← e1] <;> rfl⟩, ⟨_, ke _ _ gq, rfl, by rw [← e2] <;> rfl⟩⟩, fun c hc => ?_, q2⟩
  simp only [List.mem_cons, List.not_mem_nil, or_false] at hc
  rcases hc with rfl | rfl | rfl | rfl | rfl
  · exact fresh _ (by show @LE.le Nat _ _ _; omega)
  · exact fresh _ (by show @LE.le Nat _ _ _; omega)
  · exact fresh _ (by show @LE.le Nat _ _ _; omega)
  · exact ⟨g2, f1, f2, f3, f4, f5⟩
  · exact fresh _ (Nat.le_refl _)
/-! as a function of data -/
def kSeqL (x : TV) : Res TVs := match x.2 with
  | .lst _ => kSeq x
  | _ => .bad
theorem kSeqL_node {G : Gx} {Hs Hr H : Hp} {v : V} {x : TV} {y : TVs} (k : HpOk Hs Hr H) (r : RepT G x.1 Hs Hr H v x.2) (h : kSeqL x = .ok y) : (y.1 = .s ∨ y.1 = .r) ∧ ∃ a vs, v = .ref a ∧ nodeH y.1 Hs Hr a = some (.lst vs) ∧ RepsT G y.1 Hs Hr Hr vs y.2 := by
  obtain ⟨t, d⟩ := x
  unfold kSeqL at h
  cases d with
  | lst xs =>
    dsimp only at h
    obtain ⟨ht, a, vs, e, c, rr⟩ := seq_node k r h
    rcases c with ⟨_, hn⟩ | ⟨z, _⟩
    · exact ⟨ht, a, vs, e, hn, rr⟩
    · cases z
  | _ => cases h
theorem kSeqL_no {x : TV} {c : Str} {ks : List Str} {vs : List D} (h : kSeqL x = .exc c ks vs) : False := by
  unfold kSeqL at h
  split at h
  · unfold kSeq at h; split at h <;> first | cases h | (split at h <;> cases h)
  · cases h
def zipR (f g : Env → Res TV) : Env → Res TVs := fun env => (f env).bind fun x => (kSeqL x).bind fun u => (g env).bind fun y => (kSeqL y).bind fun v => .ok (jnT u.1 v.1, (u.2.reverse.zip v.2.reverse).map fun z => .tup [z.1, z.2])
theorem enum_zipR {G : Gx} {K : PySem.W.Frag} {t : Tg} {Hs0 Hr0 : Hp} {a b : Addr} {vs ws : List V} {ds es : List D} (ht : t = .s ∨ t = .r)
    (h : nodeH t Hs0 Hr0 a = some (.lst vs)) (h2 : nodeH t Hs0 Hr0 b = some (.lst ws)) (r : RepsT G t Hs0 Hr0 Hr0 vs ds) (r2 : RepsT G t Hs0 Hr0 Hr0 ws es) :
    Enum G t Hs0 Hr0 (ItZR K a b vs.length ws.length) ((ds.reverse.zip es.reverse).map fun x => .tup [x.1, x.2]) := by
  have sq : ∀ {H : Hp} {c : Addr} {us : List V}, H c = some (.lst us) → SqL K H c us := fun {H c us} e => .inl (.inl e)
  have ln : ((ds.reverse.zip es.reverse).map fun x => D.tup [x.1, x.2]).length = min ds.length es.length := by simp
  refine ⟨ht, fun Hs Hr H i hk s1 s2 hi => ?_, fun Hs Hr H hk s1 s2 => ?_, fun Hs Hr H i x H' hk s1 s2 hi y => ?_⟩
  all_goals
    have l1 := ((RepsT.mono' (H' := H) ht s1 s2 r).h hk).length
    have l2 := ((RepsT.mono' (H' := H) ht s1 s2 r2).h hk).length
    have n1 := nodeH_le (t := t) hk _ _ (nodeH_mono s1 s2 _ _ h)
    have n2 := nodeH_le (t := t) hk _ _ (nodeH_mono s1 s2 _ _ h2)
  · exact ⟨vs, ws, sq n1, sq n2, rfl, rfl, by omega, by omega⟩
  · exact ⟨vs, ws, sq n1, sq n2, rfl, rfl, by omega, by omega, by omega⟩
  · obtain ⟨p, u, v, ex, hp, eh, y1, y2⟩ := y
    have z1 := y1 vs (sq n1)
    have z2 := y2 ws (sq n2)
    have m1 := RepsT.mono' (H' := H) ht s1 s2 r
    have m2 := RepsT.mono' (H' := H) ht s1 s2 r2
    rw [← itT_sr ht] at m1 m2
    obtain ⟨d, g1, g2⟩ := m1.get' z1
    obtain ⟨e, g3, g4⟩ := m2.get' z2
    rw [itT_sr ht] at g2 g4
    have i1 : i < ds.length := by omega
    have i2 : i < es.length := by omega
    refine ⟨.tup [d, e], ?_, .inr ⟨p, [u, v], [d, e], ex, hp, eh, rfl, ?_⟩⟩
    · rw [List.getElem?_map, List.getElem?_zip_eq_some (z := (d, e)) |>.mpr ⟨by rw [List.getElem?_reverse i1, ← l1]; exact g1, by rw [List.getElem?_reverse i2, ← l2]; exact g3⟩] <;> rfl
    · rcases ht with rfl | rfl
      · exact .cons g2 (.cons g4 .nil)
      · exact .cons g2 (.cons g4 .nil)
theorem mi_zipR {X : Cx} {J : Jx} {e e2 : Expr} {f f2 : Env → Res TV} {p p1 p2 pos pos1 pos2 tpos : Pos} {elts : List Expr} {kk : Nat} (hm : X.mg "zip" = none) (hm2 : X.mg "reversed" = none) (h : MV X J e f) (h2 : MV X J e2 f2) (hg : Gl X "zip" := by rfl) (hg2 : Gl X "reversed" := by rfl)
    (hs : starEach [e] X.env = (false, eval e X.env) :: starEach [] X.env := by rfl) (hs2 : starEach [e2] X.env = (false, eval e2 X.env) :: starEach [] X.env := by rfl)
    (ha : starEach [.Call (.Name "reversed" p1) [e] [] pos1, .Call (.Name "reversed" p2) [e2] [] pos2] X.env = (false, eval (.Call (.Name "reversed" p1) [e] [] pos1) X.env) :: starEach [.Call (.Name "reversed" p2) [e2] [] pos2] X.env := by rfl)
    (hb : starEach [.Call (.Name "reversed" p2) [e2] [] pos2] X.env = (false, eval (.Call (.Name "reversed" p2) [e2] [] pos2) X.env) :: starEach [] X.env := by rfl)
    (hpl : (backTo pos (starEach [.Call (.Name "reversed" p2) [e2] [] pos2] X.env)).any (·.1) = false := by rfl) :
    MI X J (.Tuple elts kk tpos) (.Call (.Name "zip" p) [.Call (.Name "reversed" p1) [e] [] pos1, .Call (.Name "reversed" p2) [e2] [] pos2] [] pos) (zipR f f2) :=
  ⟨pi_imp (pi_zR hg hm hg2 hm2 h.pe h2.pe hs hs2 ha hb hpl) fun σ H R ⟨Hse, He, env, Hs, Hr, r, q⟩ => by
    refine ⟨Hse, He, env, Hs, Hr, r, (Post.bind (show Post J σ Hs Hr H ((f env).bind _) _ from q)).imp fun x Hs1 Hr1 H1 x1 p1 v rv => ?_⟩
    cases hk : kSeqL x with
    | bad => rw [hk] at p1; exact (show False from p1).elim
    | exc c ks vs => exact (kSeqL_no hk).elim
    | ok u =>
      rw [hk] at p1
      obtain ⟨ht, a, vs, rfl, hn, rr⟩ := kSeqL_node x1.ok rv hk
      refine ⟨a, vs, rfl, .inl (.inl (nodeH_le x1.ok _ _ hn)), Hse, He, env, Hs1, Hr1, r.ext x1, (Post.bind (show Post J σ Hs1 Hr1 H1 ((f2 env).bind _) _ from p1)).imp fun y Hs2 Hr2 H2 x2 p2 w rw' => ?_⟩
      cases hk2 : kSeqL y with
      | bad => rw [hk2] at p2; exact (show False from p2).elim
      | exc c ks vs => exact (kSeqL_no hk2).elim
      | ok v =>
        rw [hk2] at p2
        obtain ⟨hu, b, ws, rfl, hn2, rr2⟩ := kSeqL_node x2.ok rw' hk2
        obtain ⟨j1, j2, j3⟩ := nodeH_jn x2.ok ht hu
        have hn' := nodeH_mono (t := u.1) x2.s x2.r _ _ hn
        have rr' := RepsT.mono' (H' := Hr2) ht x2.s x2.r rr
        refine ⟨b, ws, rfl, .inl (.inl (nodeH_le x2.ok _ _ hn')), .inl (.inl (nodeH_le x2.ok _ _ hn2)), Post.now x2.ok p2 _ (enum_zipR j3 (j1 _ _ hn') (j2 _ _ hn2) ?_ ?_)⟩
        · exact (RepsT.node j3).mpr (Reps.mono j1 ((RepsT.node ht).mp rr'))
        · exact (RepsT.node j3).mpr (Reps.mono j2 ((RepsT.node hu).mp rr2))⟩
end DL

namespace DL
open PySem PySem.Spec PyProof.Rows L2
section
variable {X : Cx} {J : Jx} {a b c e o tg iter : Expr} {es : List Expr} {pos pos2 p p2 : Pos} {f f2 : Env → Res TV} {F : Env → Res (List TV)} {fe : Env → Res EV}
/-! ### list(range(n)), list(range(a, b)) -/
theorem reps_rng {G : Gx} {H : Hp} (i j : Int) : Reps G H (rgV i j) (rngD i (j - i).toNat) := by
  have : rngD i (j - i).toNat = ((List.range (j - i).toNat).map fun k => i + (k : Nat)).map D.int := by unfold rngD; rw [List.map_map]; rfl
  have h2 : rgV i j = ((List.range (j - i).toNat).map fun k => i + (k : Nat)).map V.int := by unfold rgV; rw [List.map_map]; rfl
  rw [this, h2]
  exact reps_ints _
def kLRng1 (x : TV) : Res EV := match x.2 with
  | .int j => if -(2 ^ 60) ≤ j ∧ j ≤ 16777216 then .ok (.own (rngD 0 j.toNat)) else .bad
  | _ => .bad
theorem me_listRng1 (hc : X.calm = true) (hml : X.mg "list" = none) (hm : X.mg "range" = none) (ha : MV X J a f) (hgl : Gl X "list" := by rfl) (hg : Gl X "range" := by rfl) (na : starEach [a] X.env = (false, eval a X.env) :: starEach [] X.env := by rfl)
    (na2 : starEach [.Call (.Name "range" p2) [a] [] pos2] X.env = (false, eval (.Call (.Name "range" p2) [a] [] pos2) X.env) :: starEach [] X.env := by rfl) :
    ME X J (.Call (.Name "list" p) [.Call (.Name "range" p2) [a] [] pos2] [] pos) (bin1 f kLRng1) :=
  ⟨pe_imp (pe_listRg hc hgl hml (prg_1 hg hm ha.pe na) na2) fun σ H Q n => run1 (wishE (J := J) (Q := Q)) n fun v H1 _ _ _ Hs Hr x _ R rv p => by
    obtain ⟨t, d⟩ := x
    unfold kLRng1 at p
    cases d with
    | int j =>
      dsimp only at p
      split at p
      · rename_i h
        refine ⟨j, rv.isInt R.ok, ⟨by omega, by omega, by omega, by omega, by omega⟩, fun q hq => ?_⟩
        have r := reps_rng (G := J.toGx) (H := Hs) 0 j
        rw [Int.sub_zero] at r
        exact p _ _ _ (Ext.new0 R.ok hq fun xs z => by cases z) q _ upd_same (R.ok.none_r hq) hq r
      · exact (show False from p).elim
    | _ => exact (show False from p).elim⟩
/-! ### enumerate of a list, of a tuple -/
def kEnum (x : TV) : Res TVs := match x.2 with
  | .lst _ => (kSeq x).bind fun y => .ok (y.1, (List.range y.2.length).zipWith (fun i d => .tup [.int (i : Nat), d]) y.2)
  | .tup _ => (kSeq x).bind fun y => .ok (y.1, (List.range y.2.length).zipWith (fun i d => .tup [.int (i : Nat), d]) y.2)
  | _ => .bad
theorem enumD_get {ds : List D} {i : Nat} {d : D} (h : ds[i]? = some d) : ((List.range ds.length).zipWith (fun (i : Nat) d => D.tup [.int (i : Nat), d]) ds)[i]? = some (.tup [.int i, d]) := by
  have hi := (List.getElem?_eq_some_iff.mp h).1
  rw [List.getElem?_zipWith, List.getElem?_range hi, h]
theorem enum_enum {G : Gx} {K : PySem.W.Frag} {t : Tg} {Hs0 Hr0 : Hp} {a : Addr} {vs : List V} {ds : List D} (ht : t = .s ∨ t = .r) (h : nodeH t Hs0 Hr0 a = some (.lst vs)) (r : RepsT G t Hs0 Hr0 Hr0 vs ds) :
    Enum G t Hs0 Hr0 (Ite K a) ((List.range ds.length).zipWith (fun (i : Nat) d => D.tup [.int (i : Nat), d]) ds) := by
  have ln : ((List.range ds.length).zipWith (fun (i : Nat) d => D.tup [.int (i : Nat), d]) ds).length = ds.length := by simp
  refine ⟨ht, fun Hs Hr H i k s1 s2 hi => ?_, fun Hs Hr H k s1 s2 => ?_, fun Hs Hr H i x H' k s1 s2 hi y => ?_⟩
  all_goals
    have l := ((RepsT.mono' (H' := H) ht s1 s2 r).h k).length
    have n := nodeH_le (t := t) k _ _ (nodeH_mono s1 s2 _ _ h)
  · rw [ln] at hi
    exact ⟨vs, vs[i], .inl (.inl n), by simp [l, hi]⟩
  · exact ⟨vs, .inl (.inl n), by omega⟩
  · rw [ln] at hi
    obtain ⟨T, u, rfl, hT, rfl, y⟩ := y
    have z := y vs (.inl (.inl n))
    have r' := RepsT.mono' (H' := H) ht s1 s2 r
    rw [← itT_sr ht] at r'
    obtain ⟨d, h1, h2⟩ := r'.get' z
    rw [itT_sr ht] at h2
    refine ⟨_, enumD_get h1, .inr ⟨T, _, _, rfl, hT, rfl, rfl, ?_⟩⟩
    rcases ht with rfl | rfl
    · exact .cons (.int _) (.cons h2 .nil)
    · exact .cons (.int _) (.cons h2 .nil)
theorem enum_enumT {G : Gx} {K : PySem.W.Frag} {t : Tg} {Hs0 Hr0 : Hp} {a : Addr} {vs : List V} {ds : List D} (ht : t = .s ∨ t = .r) (h : nodeH t Hs0 Hr0 a = some (.tup vs)) (r : RepsT G t Hs0 Hr0 Hr0 vs ds) :
    Enum G t Hs0 Hr0 (IteT K a) ((List.range ds.length).zipWith (fun (i : Nat) d => D.tup [.int (i : Nat), d]) ds) := by
  have ln : ((List.range ds.length).zipWith (fun (i : Nat) d => D.tup [.int (i : Nat), d]) ds).length = ds.length := by simp
  refine ⟨ht, fun Hs Hr H i k s1 s2 hi => ?_, fun Hs Hr H k s1 s2 => ?_, fun Hs Hr H i x H' k s1 s2 hi y => ?_⟩
  all_goals
    have l := ((RepsT.mono' (H' := H) ht s1 s2 r).h k).length
    have n := nodeH_le (t := t) k _ _ (nodeH_mono s1 s2 _ _ h)
  · rw [ln] at hi
    exact ⟨vs, vs[i], .inl (.inl n), by simp [l, hi]⟩
  · exact ⟨vs, .inl (.inl n), by omega⟩
  · rw [ln] at hi
    obtain ⟨T, u, rfl, hT, rfl, y⟩ := y
    have z := y vs (.inl (.inl n))
    have r' := RepsT.mono' (H' := H) ht s1 s2 r
    rw [← itT_sr ht] at r'
    obtain ⟨d, h1, h2⟩ := r'.get' z
    rw [itT_sr ht] at h2
    refine ⟨_, enumD_get h1, .inr ⟨T, _, _, rfl, hT, rfl, rfl, ?_⟩⟩
    rcases ht with rfl | rfl
    · exact .cons (.int _) (.cons h2 .nil)
    · exact .cons (.int _) (.cons h2 .nil)
theorem mi_enum {elts : List Expr} {kk : Nat} {tpos : Pos} (hm : X.mg "enumerate" = none) (h : MV X J e f) (hg : Gl X "enumerate" := by rfl) (hs : starEach [e] X.env = (false, eval e X.env) :: starEach [] X.env := by rfl) (hs2 : starEach [e] X.env = [(false, eval e X.env)] := by rfl) :
    MI X J (.Tuple elts kk tpos) (.Call (.Name "enumerate" p) [e] [] pos) (bin1 f kEnum) :=
  ⟨pi_imp (pi_or (pi_enum hg hm (pa_cons h.pe pa_nil hs) hs2) (pi_enumT hg hm (pa_cons h.pe pa_nil hs) hs2)) fun σ H R n => by
    obtain ⟨Hse, He, env, Hs, Hr, r, q⟩ := n
    have q : Post J σ Hs Hr H ((f env).bind kEnum) _ := q
    cases hf : f env with
    | bad => rw [hf] at q; exact (show False from q).elim
    | exc c ks vs => exact .inl ⟨Hse, He, env, Hs, Hr, r, by rw [hf] at q ⊢; exact q⟩
    | ok x =>
      obtain ⟨t, d⟩ := x
      cases d with
      | lst xs =>
        rw [hf] at q
        have q : Post J σ Hs Hr H ((kSeq (t, .lst xs)).bind _) _ := q
        cases hk : kSeq (t, .lst xs) with
        | bad => rw [hk] at q; exact (show False from q).elim
        | exc c ks vs => exfalso; unfold kSeq at hk; split at hk <;> first | cases hk | (split at hk <;> cases hk)
        | ok y =>
          rw [hk] at q
          refine .inl ⟨Hse, He, env, Hs, Hr, r, ?_⟩
          rw [hf]
          intro Hs' Hr' H' x' v rv
          obtain ⟨ht, a, vs, rfl, c', rr⟩ := seq_node x'.ok rv hk
          rcases c' with ⟨_, hn⟩ | ⟨z, _⟩
          · exact ⟨a, vs, rfl, .inl (.inl (nodeH_le x'.ok _ _ hn)), q Hs' Hr' H' x' _ (enum_enum ht hn rr)⟩
          · cases z
      | tup xs =>
        rw [hf] at q
        have q : Post J σ Hs Hr H ((kSeq (t, .tup xs)).bind _) _ := q
        cases hk : kSeq (t, .tup xs) with
        | bad => rw [hk] at q; exact (show False from q).elim
        | exc c ks vs => exfalso; unfold kSeq at hk; split at hk <;> first | cases hk | (split at hk <;> cases hk)
        | ok y =>
          rw [hk] at q
          refine .inr ⟨Hse, He, env, Hs, Hr, r, ?_⟩
          rw [hf]
          intro Hs' Hr' H' x' v rv
          obtain ⟨ht, a, vs, rfl, c', rr⟩ := seq_node x'.ok rv hk
          rcases c' with ⟨z, _⟩ | ⟨_, hn⟩
          · cases z
          · exact ⟨a, vs, rfl, .inl (.inl (nodeH_le x'.ok _ _ hn)), q Hs' Hr' H' x' _ (enum_enumT ht hn rr)⟩
      | _ => rw [hf] at q; exact (show False from q).elim⟩
/-! ### pop, insert -/
def popE (i : Nat) (k : Env → D → SR) : Env → SR := fun env => ownL i env fun xs => match xs[xs.length - 1]? with
  | some d => k (env.set i (some (.own xs.dropLast))) d
  | none => .bad
/-- x.pop() -/
def popS (i : Nat) : Env → SR := popE i fun env _ => .nx env
/-- y = x.pop() -/
def popA (i j : Nat) : Env → SR := popE i fun env d => .nx (env.set j (some (.val .s d)))
theorem run_pop (i : Nat) {x : Str} {px apos cpos : Pos} (hN : X.N[i]? = some x) (hv : Vis X.env.scope x) (hd : (x == ("__debug__" : Str)) = false)
    (hcd : (x == ("__classdict__" : Str)) = false) (hbase : attributeBase (.Name x px) "pop" X.env (eval (.Name x px) X.env) = eval (.Name x px) X.env) (hline : (apos.endLine == cpos.line) = true) {Q : St → VK} {K : Env → D → SR} {M : Ends}
    (hk : ∀ Hse He env d σ Hs Hr H v, Rel J Hse He env σ Hs Hr H → Rep J.toGx Hs v d → PostS J Hse He M (K env d) → Q σ v H) :
    PE X (.Call (.Attribute (.Name x px) "pop" apos) [] [] cpos) (fun σ H Q' => tS J (popE i K) M σ H ∧ Q' = Q σ) := by
  refine pe_imp (pe_bm0 PySem.F.plainAttrs_list PySem.F.slot_list_pop PySem.F.type_list_pop mt_pop (pv i hN hv hd hcd) hbase hline) fun σ H Q' ⟨⟨Hse, He, env, Hs, Hr, R, p⟩, e⟩ => ?_
  subst e
  unfold popE at p
  obtain ⟨xs, q, vs, h1, h2, h3, h4, h5, h6, p⟩ := R.lstAt (M := M) p
  cases hx : xs[xs.length - 1]? with
  | none => rw [hx] at p; exact (show False from p).elim
  | some d =>
    rw [hx] at p
    dsimp only at p
    obtain ⟨u, g1, g2⟩ := h6.get hx
    refine ⟨_, h3, .inl ⟨rfl, vs, .inl (.inl h4)⟩, q, vs, u, rfl, rfl, h4, by rw [h6.length]; exact g1, ?_⟩
    exact hk _ _ _ d σ _ _ _ u (R.mut1 h1 h3 h2 (fun xs z => by cases z) fp_own ⟨q, _, rfl, upd_same, h5, h6.dropLast⟩) g2 p
theorem ms_pop (i : Nat) {x : Str} {px apos cpos : Pos} (hN : X.N[i]? = some x := by rfl) (hv : Vis X.env.scope x := by first | exact Or.inl rfl | exact Or.inr (Or.inl rfl) | exact Or.inr (Or.inr rfl)) (hd : (x == ("__debug__" : Str)) = false := by decide)
    (hcd : (x == ("__classdict__" : Str)) = false := by decide) (hbase : attributeBase (.Name x px) "pop" X.env (eval (.Name x px) X.env) = eval (.Name x px) X.env := by rfl) (hline : (apos.endLine == cpos.line) = true := by rfl)
    (hs : swapsWith (.Call (.Attribute (.Name x px) "pop" apos) [] [] cpos) none pos.line X.env = pure false := by rfl) : MS X J (.Expr (.Call (.Attribute (.Name x px) "pop" apos) [] [] cpos) pos) (popS i) := by
  refine ⟨⟨fun pins s σ H M I n => ?_⟩⟩
  exact (ps_expr (pe_imp (run_pop (J := J) (M := M) (Q := fun σ _ H' => M.nx σ H') i hN hv hd hcd hbase hline (K := fun env _ => .nx env) fun Hse He env d σ Hs Hr H v R _ p => p σ Hs Hr H R) (t' := fun σ' H' Q' => tS J (popS i) M σ' H' ∧ Q' = fun _ H' => M.nx σ' H') fun _ _ _ h => h) hs).run pins s σ H M I ⟨n, rfl⟩
theorem ms_popA (i j : Nat) {x y : Str} {px py apos cpos : Pos} (nd : X.N.Nodup) (hN : X.N[i]? = some x := by rfl) (hj : X.N[j]? = some y := by rfl) (hv : Vis X.env.scope x := by first | exact Or.inl rfl | exact Or.inr (Or.inl rfl) | exact Or.inr (Or.inr rfl)) (hd : (x == ("__debug__" : Str)) = false := by decide)
    (hcd : (x == ("__classdict__" : Str)) = false := by decide) (hbase : attributeBase (.Name x px) "pop" X.env (eval (.Name x px) X.env) = eval (.Name x px) X.env := by rfl) (hline : (apos.endLine == cpos.line) = true := by rfl) (hx : Loc X.env.scope y := by first | exact Or.inl rfl | exact Or.inr rfl)
    (hs : swapsWith (.Call (.Attribute (.Name x px) "pop" apos) [] [] cpos) (some (.Name y py)) pos.line X.env = pure false := by rfl) (hf : X.fn y = true ∨ X.env.scope.names.lookup y = some .local := by first | exact .inl rfl | exact .inr rfl)
    (up : Unp J j := by first | exact Unp.nil rfl | exact Unp.one rfl (by decide)) : MS X J (.Assign [.Name y py] (.Call (.Attribute (.Name x px) "pop" apos) [] [] cpos) pos) (popA i j) := by
  refine ⟨⟨fun pins s σ H M I n => ?_⟩⟩
  refine (ps_set nd hj hx (pe_imp (run_pop (J := J) (M := M) (Q := fun σ v H' => M.nx (σ.set j (some v)) H') i hN hv hd hcd hbase hline (K := fun env d => .nx (env.set j (some (.val .s d)))) fun Hse He env d σ Hs Hr H v R r p => ?_) (t' := fun σ' H' Q' => tS J (popA i j) M σ' H' ∧ Q' = fun v H' => M.nx (σ'.set j (some v)) H') fun _ _ _ h => h) hs hf).run pins s σ H M I ⟨n, rfl⟩
  exact p _ _ _ _ (R.set (e := .val .s d) ⟨v, rfl, r⟩ (fun fp h q hq => by cases (show fp = [] from h); cases hq) up)
/-- x.insert(k, e) -/
def insS (i : Nat) (fk f : Env → Res TV) : Env → SR := fun env => ownL i env fun _ => (fk env).st env fun k => (f env).st env fun x => ownL i env fun xs => match k.2 with
  | .int n => if shV x = true ∧ xs.length < 16777216 ∧ 0 ≤ n ∧ n < 2 ^ 60 then .nx (env.set i (some (.own (xs.take n.toNat ++ [x.2] ++ xs.drop n.toNat)))) else .bad
  | _ => .bad
theorem ms_insert (i : Nat) {x : Str} {k : Expr} {px apos cpos : Pos} (h1 : MV X J k f2) (h : MV X J e f) (hN : X.N[i]? = some x := by rfl) (hv : Vis X.env.scope x := by first | exact Or.inl rfl | exact Or.inr (Or.inl rfl) | exact Or.inr (Or.inr rfl)) (hd : (x == ("__debug__" : Str)) = false := by decide)
    (hcd : (x == ("__classdict__" : Str)) = false := by decide) (hs1 : starEach [k, e] X.env = (false, eval k X.env) :: starEach [e] X.env := by rfl) (hs0 : starEach [e] X.env = (false, eval e X.env) :: starEach [] X.env := by rfl)
    (hbase : attributeBase (.Name x px) "insert" X.env (eval (.Name x px) X.env) = eval (.Name x px) X.env := by rfl)
    (hfew : ((backTo cpos (starEach [k, e] X.env)).all (fun x => !x.1) && (backToKw cpos (keywordEach [] X.env)).all (fun x => x.1.isSome) && decide ([k, e].length + ([] : List Keyword).length + (if ([] : List Keyword).isEmpty then 0 else 1) < 30)) = true := by rfl)
    (hline : (apos.endLine == cpos.line) = true := by rfl) (hplain : (backTo cpos (starEach [e] X.env)).any (·.1) = false := by rfl)
    (hs : swapsWith (.Call (.Attribute (.Name x px) "insert" apos) [k, e] [] cpos) none pos.line X.env = pure false := by rfl) :
    MS X J (.Expr (.Call (.Attribute (.Name x px) "insert" apos) [k, e] [] cpos) pos) (insS i f2 f) :=
  ⟨ps_imp (ps_expr (pe_bm PySem.F.plainAttrs_list PySem.F.slot_list_insert PySem.F.type_list_insert mt_insert (pv i hN hv hd hcd) (pa_cons h1.pe (pa_cons h.pe pa_nil hs0) hs1) hbase hfew hline hs1 hplain) hs) fun D σ H ⟨Hse, He, env, Hs, Hr, R, p⟩ => by
    obtain ⟨xs, q, vs, h1, h2, h3, h4, h5, h6, p⟩ := R.lstAt (M := D) p
    refine ⟨_, h3, .inl ⟨rfl, vs, .inl (.inl h4)⟩, Hse, He, env, Hs, Hr, R, post_st R p fun k Hs1 Hr1 H1 x1 R1 p1 kv rk => ?_⟩
    refine ⟨Hse, He, env, Hs1, Hr1, R1, post_st R1 p1 fun a Hs' Hr' H' x R' p' v rv => ?_⟩
    obtain ⟨xs', q', vs', g1, g2, g3, g4, g5, g6, p'⟩ := R'.lstAt (M := D) p'
    have g3' := g3
    rw [h3] at g3'
    cases g3'
    obtain ⟨t, d⟩ := k
    dsimp only at p'
    cases d with
    | int n =>
      dsimp only at p'
      split at p'
      · rename_i c
        obtain ⟨c1, c2, c3, c4⟩ := c
        refine ⟨q, vs', n, v, rfl, by rw [(rk.ext x).isInt R'.ok], g4, by rw [sizeLine_eq, g6.length]; exact c2, c3, by omega, ?_⟩
        exact p' σ _ _ _ (R'.mut1 g1 g3 g2 (fun xs z => by cases z) fp_own ⟨q, _, rfl, upd_same, g5, ((g6.take _).append (.cons (rv.shV R'.ok c1) .nil)).append (g6.drop _)⟩)
      · exact p'.elim
    | _ => exact (show False from p').elim⟩
end
/-! ### isinstance of a class of one's own -/
def isiO (subs : List Str) : D → Option Bool
  | .obj c _ _ => some (subs.contains c)
  | .non => some false | .bl _ => some false | .int _ => some false | .str _ => some false
  | .tup _ => some false | .lst _ => some false | .dic _ _ => some false
  | _ => none
def kIsO (subs : List Str) (x : TV) : Res TV := match isiO subs x.2 with | some b => okb b | none => .bad
def isoB (names : List Str) (x : Str) (subs : List Str) (K : PySem.W.Frag) : Bool := (["NoneType", "bool", "int", "str", "tuple", "list", "dict"].all fun n => decide (PySem.W.kitOne K (.type n) (.ref (He.ga K x)) = some false)) &&
  names.all fun c => decide (PySem.W.kitOne K (.ref (He.ga K c)) (.ref (He.ga K x)) = some (subs.contains c)) && (decide (PySem.W.findIn K (.ref (He.ga K c)) "__class__" = some (some (.builtin "object.__class__"))) &&
    (decide (PySem.W.specialIn K (.builtin "object.__class__") "__get__" = some (some (.builtin "getset_descriptor.__get__"))) && (decide (PySem.W.takesIn K (.builtin "object.__class__") = some true) && decide (PySem.W.mroIn K (He.ga K c) (.type "object") = some true))))
structure IsoG (G : Gx) (mg : Str → Option Value) (x : Str) (subs : List Str) : Prop where
  gC : mg x = some (.ref (He.ga G.K x))
  ty : ∀ n ∈ ["NoneType", "bool", "int", "str", "tuple", "list", "dict"], PySem.W.kitOne G.K (.type n) (.ref (He.ga G.K x)) = some false
  ob : ∀ c C, G.co c = some C → Cls G.K C ∧ PySem.W.kitOne G.K (.ref C) (.ref (He.ga G.K x)) = some (subs.contains c) ∧ PySem.W.findIn G.K (.ref C) "__class__" = some (some (.builtin "object.__class__")) ∧
    PySem.W.specialIn G.K (.builtin "object.__class__") "__get__" = some (some (.builtin "getset_descriptor.__get__")) ∧ PySem.W.takesIn G.K (.builtin "object.__class__") = some true ∧ PySem.W.mroIn G.K C (.type "object") = some true
theorem isoG_of {names xn : List Str} {x : Str} {subs : List Str} {K : PySem.W.Frag} {mg : Str → Option Value} (gC : mg x = some (.ref (He.ga K x))) (cl : ∀ c ∈ names, Cls K (He.ga K c)) (b : isoB names x subs K = true) : IsoG ⟨K, clOf xn K, clOf names K⟩ mg x subs := by
  unfold isoB at b
  simp only [Bool.and_eq_true, List.all_eq_true, decide_eq_true_eq] at b
  refine ⟨gC, b.1, fun c C e => ?_⟩
  have e : (if names.contains c then some (He.ga K c) else none) = some C := e
  by_cases q : names.contains c = true
  · rw [if_pos q] at e
    cases e
    have hm := List.contains_iff_mem.mp q
    exact ⟨cl c hm, b.2 c hm⟩
  · rw [if_neg q] at e; cases e
theorem tyO_of {G : Gx} {mg : Str → Option Value} {x : Str} {subs : List Str} (I : IsoG G mg x subs) {H : Hp} {v : V} {d : D} {b : Bool} (r : Rep G H v d) (h : isiO subs d = some b) : ∃ t, TyX G.K H v t ∧ PySem.W.kitOne G.K t (.ref (He.ga G.K x)) = some b := by
  cases r with
  | non => cases h; exact ⟨_, .base .non, I.ty _ (by simp)⟩
  | bl b => cases h; exact ⟨_, .base (.bl b), I.ty _ (by simp)⟩
  | int i => cases h; exact ⟨_, .base (.int i), I.ty _ (by simp)⟩
  | str i => cases h; exact ⟨_, .base (.str i), I.ty _ (by simp)⟩
  | tup e r => cases h; exact ⟨_, .base (.tup e), I.ty _ (by simp)⟩
  | lst e r => cases h; exact ⟨_, .base (.lst e), I.ty _ (by simp)⟩
  | dic e r =>
    cases h
    rcases e with e | ⟨o, e⟩
    · exact ⟨_, .base (.dK e), I.ty _ (by simp)⟩
    · exact ⟨_, .fDict e, I.ty _ (by simp)⟩
  | obj c e r =>
    cases h
    obtain ⟨h1, h2, h3, h4, h5, h6⟩ := I.ob _ _ c
    exact ⟨_, .base (.ins e h1 h3 h4 h5 h6), h2⟩
  | _ => cases h
theorem mv_isO {X : Cx} {J : Jx} {a : Expr} {f : Env → Res TV} {pos p p2 : Pos} {x2 : Str} {subs : List Str} (B : Bas X J) (I : IsoG J.toGx X.mg x2 subs) (hm : X.mg "isinstance" = none) (ha : MV X J a f) (hg : Gl X "isinstance" := by rfl) (hg2 : Gl X x2 := by rfl) (hdb : (x2 == ("__debug__" : Str)) = false := by decide)
    (h1 : starEach [a, .Name x2 p2] X.env = (false, eval a X.env) :: starEach [.Name x2 p2] X.env := by rfl) (h2 : starEach [.Name x2 p2] X.env = (false, eval (.Name x2 p2) X.env) :: starEach [] X.env := by rfl) (hpl : (backTo pos (starEach [.Name x2 p2] X.env)).any (·.1) = false := by rfl) :
    MV X J (.Call (.Name "isinstance" p) [a, .Name x2 p2] [] pos) (bin1 f (kIsO subs)) := by
  refine ⟨pe_imp (pe_callB call_isi hg hm PyProof.Rows.boot_isinstance (pa_cons ha.pe (pa_cons (pe_glob (v := .ref (_root_.He.ga J.K x2)) hg2 I.gC rfl hdb) pa_nil h2) h1) (by decide) (by decide) h1 hpl) fun σ H Q nn => run1 (wishV (J := J) (Q := Q)) nn fun v H1 _ _ _ Hs Hr x _ R rv p => ?_⟩
  unfold kIsO at p
  cases hi : isiO subs x.2 with
  | none => rw [hi] at p; exact (show False from p).elim
  | some b =>
    rw [hi] at p
    obtain ⟨t, ty, ke⟩ := tyO_of I (rv.h R.ok) hi
    exact ⟨v, .ref _, t, .ref _, b, rfl, .own _, by rw [B.K]; exact ty, by rw [B.K]; exact ke, Post.nowB R.ok p⟩
/-! ### calls that leave defaults -/
def dflV : D → Option V
  | .non => some .non | .int i => some (.int i) | .bl b => some (.bl b) | .str x => some (.str x)
  | _ => none
/-- a def of the text, called with ar - dfl.length values: the defaults follow -/
structure FnE (P : Program) (w : World) (G : Gx) (mg : Str → Option Value) (base : Heap) (x : Str) (n ar : Nat) (dfl : List D) (F : List EV → Res EV) : Prop where
  ok : ∃ f fd ps dvs ds, mg x = some (.ref f) ∧ PySem.W.keepIn G.K (.ref f) = true ∧ Binds G.K fd ps ds ∧ Vals dvs ds ∧ dfl.map dflV = dvs.map some ∧ FnOk P w G.K mg base (L2.CX P w) n f fd ps (SpD G ar F)
theorem dfl_reps {G : Gx} {Hs Hr H : Hp} : ∀ {dfl : List D} {dvs : List V}, dfl.map dflV = dvs.map some → RepTs G Hs Hr H (dfl.map fun d => (Tg.s, d)) dvs
  | [], [], _ => rfl
  | [], _ :: _, h => by cases h
  | _ :: _, [], h => by cases h
  | d :: r, v :: vs, h => by
    rw [List.map_cons, List.map_cons, List.cons.injEq] at h
    refine ⟨v, vs, rfl, ?_, dfl_reps h.2⟩
    have h1 := h.1
    cases d <;> first | (cases h1; done) | (cases h1; exact .non) | (cases h1; exact .int _) | (cases h1; exact .bl _) | (cases h1; exact .str _)
theorem repTs_app {G : Gx} {Hs Hr H : Hp} : ∀ {xs ys : List TV} {vs ws : List V}, RepTs G Hs Hr H xs vs → RepTs G Hs Hr H ys ws → RepTs G Hs Hr H (xs ++ ys) (vs ++ ws)
  | [], _, _, _, h, k => by cases (show _ = [] from h); exact k
  | x :: r, _, _, _, ⟨v, w, e, a, b⟩, k => ⟨v, _, by rw [e] <;> rfl, a, repTs_app b k⟩
def callE (dfl : List D) (F : List EV → Res EV) (xs : List TV) : Res EV := callD F (xs ++ dfl.map fun d => (Tg.s, d))
theorem me_callE {X : Cx} {J : Jx} {e : Expr} {es : List Expr} {F : Env → Res (List TV)} {p pos : Pos} {x : Str} {n m ar : Nat} {dfl : List D} {G : List EV → Res EV} (g : Good X J m) (fn : FnE X.prog X.w J.toGx X.mg X.base x n ar dfl G) (hnm : n ≤ m) (ha : MA X J (e :: es) F) (har : (e :: es).length + dfl.length = ar := by rfl) (hg : Gl X x := by rfl) (hdb : (x == ("__debug__" : Str)) = false := by decide) (he : starEach (e :: es) X.env = (false, eval e X.env) :: starEach es X.env := by rfl) (hpl : (backTo pos (starEach es X.env)).any (·.1) = false := by rfl) :
    ME X J (.Call (.Name x p) (e :: es) [] pos) (thenK F (callE dfl G)) := by
  obtain ⟨fa, fd, ps, dvs, ds, h1, h2, h3, h5, h6, h4⟩ := fn.ok
  rw [← g.K] at h2 h3 h4
  refine ⟨pe_imp (pe_callSD h4 (g.room.mono hnm) hg h1 h2 h3 h5 (fun σ => passAt g.tk σ) ha.pa hdb he hpl) fun σ H Q nn => ?_⟩
  have hF' : ∀ env, (F env).bind (callE dfl G) = (F env).bind fun xs => if xs.length + dfl.length = ar then callE dfl G xs else .bad := fun env => by
    cases q : F env with
    | ok xs => show callE dfl G xs = if xs.length + dfl.length = ar then callE dfl G xs else .bad; rw [if_pos (by rw [ha.len env xs q]; exact har)]
    | _ => rfl
  obtain ⟨Hse, He, env, Hs, Hr, R, p⟩ := nn
  have p : Post J σ Hs Hr H ((F env).bind (callE dfl G)) (SE J H Q) := p
  rw [hF'] at p
  refine runA (J := J) (S := fun H => SE J H Q) wishE (k := fun xs => if xs.length + dfl.length = ar then callE dfl G xs else .bad) ⟨Hse, He, env, Hs, Hr, R, p⟩ fun vs H1 _ _ _ Hs Hr xs _ R rv p => ?_
  split at p
  · rename_i hl
    exact ⟨(xs ++ dfl.map fun d => (Tg.s, d)).map toArg, Hs, ⟨R.ok.sh, Same.refl _, R.ok.ti⟩, by simpa using hl, args_of R.ok (repTs_app rv (dfl_reps h6)), postR_of R.ok p⟩
  · exact (show False from p).elim
/-! ### a < b < c < d as a value by its pieces: three comparisons -/
def chain3 (f g h i : Env → Res TV) (k k' k'' : TV → TV → Res TV) : Env → Res TV := fun env => (f env).bind fun x => (g env).bind fun y => (k x y).bind fun z => match z.2 with
  | .bl true => (h env).bind fun w => (k' y w).bind fun z => match z.2 with
    | .bl true => (i env).bind fun u => k'' w u
    | .bl false => okb false
    | _ => .bad
  | .bl false => okb false
  | _ => .bad
/-! ### dicts -/
def findK (k : Key) : List Key → List D → Option D
  | q :: ks, x :: xs => if q = k then some x else findK k ks xs
  | _, _ => none
theorem findK_some {G : Gx} {H : Hp} {k : Key} {d : D} : ∀ {kvs : List (Key × V)} {xs : List D}, Reps G H (kvs.map (·.2)) xs → findK k (kvs.map (·.1)) xs = some d → ∃ v, valV kvs k = some v ∧ Rep G H v d
  | [], _, .nil, h => by cases h
  | (q, v) :: r, _, .cons h rr, e => by
    rw [List.map_cons, findK] at e
    by_cases hq : q = k
    · rw [if_pos hq] at e
      cases e
      exact ⟨v, valV_pos hq, h⟩
    · rw [if_neg hq] at e
      obtain ⟨u, h1, h2⟩ := findK_some rr e
      exact ⟨u, by rw [valV_neg hq]; exact h1, h2⟩
theorem findK_none {G : Gx} {H : Hp} {k : Key} : ∀ {kvs : List (Key × V)} {xs : List D}, Reps G H (kvs.map (·.2)) xs → findK k (kvs.map (·.1)) xs = none → valV kvs k = none
  | [], _, .nil, h => rfl
  | (q, v) :: r, _, .cons h rr, e => by
    rw [List.map_cons, findK] at e
    by_cases hq : q = k
    · rw [if_pos hq] at e; cases e
    · rw [if_neg hq] at e
      rw [valV_neg hq]
      exact findK_none rr e
theorem dget_rd {H : Hp} {a : Addr} {kvs : List (Key × V)} {k : Key} (h : Rd H a (.dK kvs)) : DGet H a (kV k) (valV kvs k) := .inl ⟨kvs, k, h, rfl, rfl⟩
theorem RepT.dicT {G : Gx} {t : Tg} {Hs Hr H : Hp} {v : V} {ks : List Key} {xs : List D} (k : HpOk Hs Hr H) (r : RepT G t Hs Hr H v (.dic ks xs)) : ∃ a kvs, v = .ref a ∧ Rd H a (.dK kvs) ∧ kvs.map (·.1) = ks ∧ RepsT G (itT t) Hs Hr H (kvs.map (·.2)) xs := by
  have low : ∀ Hx : Hp, Same Hx H → Rep G Hx v (.dic ks xs) → ∃ a kvs, v = .ref a ∧ Rd H a (.dK kvs) ∧ kvs.map (·.1) = ks ∧ Reps G Hx (kvs.map (·.2)) xs := fun Hx e r => by
    generalize hd : D.dic ks xs = d at r
    cases r <;> cases hd
    rename_i a kvs h1 h2
    exact ⟨a, kvs, rfl, Same.rd e h1, rfl, h2⟩
  cases t with
  | s => exact low Hs k.sh r
  | r => exact low Hr k.rh r
  | h => exact low H (Same.refl _) r
  | o => obtain ⟨a, kvs, e, h1, h2, h3⟩ := r; exact ⟨a, kvs, e, .inl h1, h2, h3⟩
  | n t => exact low H (Same.refl _) (RepT.h k r)
theorem findKT {G : Gx} {t : Tg} {Hs Hr H : Hp} {k : Key} {d : D} {kvs : List (Key × V)} {xs : List D} (r : RepsT G (itT t) Hs Hr H (kvs.map (·.2)) xs) (h : findK k (kvs.map (·.1)) xs = some d) : ∃ v, valV kvs k = some v ∧ RepT G (itT t) Hs Hr H v d := by
  cases t with
  | s => exact findK_some r h
  | r => exact findK_some r h
  | h => exact findK_some r h
  | o => exact findK_some r h
  | n t => exact findK_some r h
def kDget (x y : TV) : Res TV := match x.2, keyOf y.2 with
  | .dic ks xs, some k => (match findK k ks xs with | some d => .ok (itT x.1, d) | none => .bad)
  | _, _ => .bad
def kDin (y x : TV) : Res TV := match x.2, keyOf y.2 with
  | .dic ks xs, some k => okb (findK k ks xs).isSome
  | _, _ => .bad
def kDnin (y x : TV) : Res TV := match x.2, keyOf y.2 with
  | .dic ks xs, some k => okb (!(findK k ks xs).isSome)
  | _, _ => .bad
def kDget1 (x y : TV) : Res TV := match x.2, keyOf y.2 with
  | .dic ks xs, some k => (match findK k ks xs with | some d => .ok (itT x.1, d) | none => .ok (.s, .non))
  | _, _ => .bad
def kDget2 (x y z : TV) : Res TV := match x.2, keyOf y.2 with
  | .dic ks xs, some k => (match findK k ks xs with | some d => .ok (itT x.1, d) | none => .ok z)
  | _, _ => .bad
section
variable {X : Cx} {J : Jx} {a b c e o : Expr} {pos apos p p2 : Pos} {f f2 f3 : Env → Res TV}
theorem some_isSome {α : Type} {o : Option α} {x : α} (h : o = some x) : o.isSome = true := by rw [h]; rfl
theorem mv_dget (B : Bas X J) (ha : MV X J a f) (hb : MV X J b f2) (hs : NoSl b := by exact fun _ _ => rfl) : MV X J (.Subscript a b pos) (bin2 f f2 kDget) := ⟨pe_imp (pe_dget (by have := B.hu; omega) ha.pe hb.pe hs) fun σ H Q n => run2 (wishV (J := J) (Q := Q)) n fun v w H1 _ _ _ Hs Hr x y _ R rv rw p => by
  obtain ⟨t, d⟩ := x
  obtain ⟨u, e⟩ := y
  unfold kDget at p
  split at p
  · rename_i ks xs k q1 q2
    dsimp only at q1 q2
    subst q1
    obtain ⟨a, kvs, rfl, h1, rfl, h2⟩ := rv.dicT R.ok
    cases hf : findK k (kvs.map (·.1)) xs with
    | none => rw [hf] at p; exact (show False from p).elim
    | some d =>
      rw [hf] at p
      obtain ⟨z, g1, g2⟩ := findKT h2 hf
      rw [key_rep (rw.h R.ok) q2]
      refine ⟨a, z, rfl, ?_, Post.now R.ok p _ g2⟩
      rw [← g1]
      exact (dget_rd h1)
  · exact (show False from p).elim⟩
theorem dIn_run {neg : Bool} {k : TV → TV → Res TV} (hk : ∀ x y, k y x = match x.2, keyOf y.2 with | .dic ks xs, some k => okb (if neg then !(findK k ks xs).isSome else (findK k ks xs).isSome) | _, _ => .bad) {σ : St} {Hs Hr H : Hp} {v w : V} {x y : TV} {Q : VK} (kk : HpOk Hs Hr H)
    (rw : RepT J.toGx y.1 Hs Hr H w y.2) (rv : RepT J.toGx x.1 Hs Hr H v x.2) (p : Post J σ Hs Hr H (k y x) (SV J Q)) : ∃ a o, v = .ref a ∧ DGet H a w o ∧ Q (.bl (if neg then !o.isSome else o.isSome)) H := by
  obtain ⟨t, d⟩ := x
  obtain ⟨u, e⟩ := y
  rw [hk] at p
  split at p
  · rename_i ks xs k q1 q2
    dsimp only at q1 q2
    subst q1
    obtain ⟨a, kvs, rfl, h1, rfl, h2⟩ := rv.dicT kk
    rw [key_rep (rw.h kk) q2]
    refine ⟨a, valV kvs k, rfl, (dget_rd h1), ?_⟩
    have e : (valV kvs k).isSome = (findK k (kvs.map (·.1)) xs).isSome := by
      cases hf : findK k (kvs.map (·.1)) xs with
      | none => rw [findK_none (h2.h kk) hf] <;> rfl
      | some d => obtain ⟨z, g1, _⟩ := findKT h2 hf; rw [g1] <;> rfl
    rw [e]
    exact Post.nowB kk p
  · exact (show False from p).elim
theorem mv_dIn (B : Bas X J) (ha : MV X J a f) (hb : MV X J b f2) (h1 : behindInMarks .In b = false := by rfl) : MV X J (.Compare a [.In] [b] pos) (bin2 f f2 kDin) := ⟨pe_imp (pe_cmp (pc_din (by have := B.hu; omega) ha.pe hb.pe) h1) fun σ H Q n => run2 (wishV (J := J) (Q := Q)) n fun v w H1 _ _ _ Hs Hr y x _ R rv rw p =>
  dIn_run (neg := false) (fun _ _ => rfl) R.ok rv rw p⟩
theorem mv_dNin (B : Bas X J) (ha : MV X J a f) (hb : MV X J b f2) (h1 : behindInMarks .NotIn b = false := by rfl) : MV X J (.Compare a [.NotIn] [b] pos) (bin2 f f2 kDnin) := ⟨pe_imp (pe_cmp (pc_dnotin (by have := B.hu; omega) ha.pe hb.pe) h1) fun σ H Q n => run2 (wishV (J := J) (Q := Q)) n fun v w H1 _ _ _ Hs Hr y x _ R rv rw p =>
  dIn_run (neg := true) (fun _ _ => rfl) R.ok rv rw p⟩
theorem mt_dIn (B : Bas X J) (ha : MV X J a f) (hb : MV X J b f2) (h1 : behindInMarks .In b = false := by rfl) : MT X J (.Compare a [.In] [b] pos) (tstB (bin2 f f2 kDin)) := ⟨pt_imp (pt_cmp (pc_din (by have := B.hu; omega) ha.pe hb.pe) h1) fun σ H Q ⟨Hse, He, env, Hs, Hr, R, p⟩ =>
  run2 (wishV (J := J) (Q := fun v H' => ∃ k, v = .bl k ∧ Q k H')) ⟨Hse, He, env, Hs, Hr, R, post_bl p⟩ fun v w H1 _ _ _ Hs Hr y x _ R rv rw p => dIn_run (neg := false) (fun _ _ => rfl) R.ok rv rw p⟩
theorem mt_dNin (B : Bas X J) (ha : MV X J a f) (hb : MV X J b f2) (h1 : behindInMarks .NotIn b = false := by rfl) : MT X J (.Compare a [.NotIn] [b] pos) (tstB (bin2 f f2 kDnin)) := ⟨pt_imp (pt_cmp (pc_dnotin (by have := B.hu; omega) ha.pe hb.pe) h1) fun σ H Q ⟨Hse, He, env, Hs, Hr, R, p⟩ =>
  run2 (wishV (J := J) (Q := fun v H' => ∃ k, v = .bl k ∧ Q k H')) ⟨Hse, He, env, Hs, Hr, R, post_bl p⟩ fun v w H1 _ _ _ Hs Hr y x _ R rv rw p => dIn_run (neg := true) (fun _ _ => rfl) R.ok rv rw p⟩
/-- d.get(k), d.get(k, x): d is asked first -/
def dgetS1 (f f2 : Env → Res TV) : Env → Res TV := fun env => (f env).bind fun x => match x.2 with
  | .dic _ _ => (f2 env).bind fun y => kDget1 x y
  | _ => .bad
def dgetS2 (f f2 f3 : Env → Res TV) : Env → Res TV := fun env => (f env).bind fun x => match x.2 with
  | .dic _ _ => (f2 env).bind fun y => (f3 env).bind fun z => kDget2 x y z
  | _ => .bad
theorem mv_dget1 (B : Bas X J) (ho : MV X J o f) (ha : MV X J a f2) (m : M1 X o "get" apos a pos := by exact ⟨rfl, rfl, rfl, rfl⟩) : MV X J (.Call (.Attribute o "get" apos) [a] [] pos) (dgetS1 f f2) := ⟨pe_imp (pe_dget1 (by have := B.hu; omega) ho.pe ha.pe m) fun σ H Q ⟨Hse, He, env, Hs, Hr, R, p⟩ => ⟨Hse, He, env, Hs, Hr, R, (Post.bind p).imp fun x Hs1 Hr1 H1 e1 p1 v rv => by
  obtain ⟨t, d⟩ := x
  cases d with
  | dic ks xs =>
    obtain ⟨a, kvs, rfl, h1, h0, h2⟩ := rv.dicT e1.ok
    refine ⟨a, rfl, .inl ⟨kvs, h1⟩, Hse, He, env, Hs1, Hr1, R.ext e1, (Post.bind p1).imp fun y Hs2 Hr2 H2 e2 p2 w rw => ?_⟩
    have h2 := h2.ext e2
    have h1 := Same.rd e2.h h1
    subst h0
    obtain ⟨u, e⟩ := y
    unfold kDget1 at p2
    dsimp only at p2
    split at p2
    · rename_i ks xs' k q1 q2
      cases q1
      rw [key_rep (rw.h e2.ok) q2]
      refine ⟨valV kvs k, (dget_rd h1), ?_⟩
      cases hf : findK k (kvs.map (·.1)) xs with
      | none => rw [hf] at p2; rw [findK_none (h2.h e2.ok) hf]; exact Post.now e2.ok p2 _ .non
      | some d =>
        rw [hf] at p2
        obtain ⟨z, g1, g2⟩ := findKT h2 hf
        rw [g1]
        exact Post.now e2.ok p2 _ g2
    · exact (show False from p2).elim
  | _ => exact (show False from p1).elim⟩⟩
theorem mv_dget2 (B : Bas X J) (ho : MV X J o f) (ha : MV X J a f2) (hb : MV X J b f3) (m : M2 X o "get" apos a b pos := by exact ⟨rfl, rfl, rfl, rfl⟩) : MV X J (.Call (.Attribute o "get" apos) [a, b] [] pos) (dgetS2 f f2 f3) := ⟨pe_imp (pe_dget2 (by have := B.hu; omega) ho.pe ha.pe hb.pe m) fun σ H Q ⟨Hse, He, env, Hs, Hr, R, p⟩ => ⟨Hse, He, env, Hs, Hr, R, (Post.bind p).imp fun x Hs1 Hr1 H1 e1 p1 v rv => by
  obtain ⟨t, d⟩ := x
  cases d with
  | dic ks xs =>
    obtain ⟨a, kvs, rfl, h1, h0, h2⟩ := rv.dicT e1.ok
    refine ⟨a, rfl, .inl ⟨kvs, h1⟩, Hse, He, env, Hs1, Hr1, R.ext e1, (Post.bind p1).imp fun y Hs2 Hr2 H2 e2 p2 w rw => ?_⟩
    refine ⟨Hse, He, env, Hs2, Hr2, (R.ext e1).ext e2, (Post.bind p2).imp fun z Hs3 Hr3 H3 e3 p3 zv rz => ?_⟩
    have h2 := h2.ext (e2.trans e3)
    have h1 := Same.rd e3.h (Same.rd e2.h h1)
    subst h0
    obtain ⟨u, e⟩ := y
    unfold kDget2 at p3
    dsimp only at p3
    split at p3
    · rename_i ks xs' k q1 q2
      cases q1
      rw [key_rep ((rw.ext e3).h e3.ok) q2]
      refine ⟨valV kvs k, (dget_rd h1), ?_⟩
      cases hf : findK k (kvs.map (·.1)) xs with
      | none => rw [hf] at p3; rw [findK_none (h2.h e3.ok) hf]; exact Post.now e3.ok p3 _ rz
      | some d =>
        rw [hf] at p3
        obtain ⟨z', g1, g2⟩ := findKT h2 hf
        rw [g1]
        exact Post.now e3.ok p3 _ g2
    · exact (show False from p3).elim
  | _ => exact (show False from p1).elim⟩⟩
/-- d[k] = v, d a name of a dict of the def's own -/
def putDk (ks : List Key) (k : Key) : List Key := if ks.any (fun q => decide (q = k)) = true then ks else ks ++ [k]
def putDx (ks : List Key) (xs : List D) (k : Key) (y : D) : List D := if ks.any (fun q => decide (q = k)) = true then ks.zipWith (fun q x => if q = k then y else x) xs else xs ++ [y]
def ownDi (i : Nat) (env : Env) (k : List Key → List D → SR) : SR := match env[i]? with
  | some (some (.ownd ks xs)) => k ks xs
  | _ => .bad
def dsetS (i : Nat) (f fk : Env → Res TV) : Env → SR := fun env => ownDi i env fun _ _ => (f env).st env fun x => (fk env).st env fun k => ownDi i env fun ks xs => match keyOf k.2 with
  | some n => if shV x = true ∧ ks.length < 16777216 then .nx (env.set i (some (.ownd (putDk ks n) (putDx ks xs n x.2)))) else .bad
  | none => .bad
end
theorem putK_keys (k : Key) (v : V) (kvs : List (Key × V)) : (L2.putK kvs k v).map (·.1) = putDk (kvs.map (·.1)) k := by
  have e : ((kvs.map (·.1)).any fun q => decide (q = k)) = kvs.any fun kv => decide (kv.1 = k) := by rw [List.any_map]; rfl
  unfold L2.putK putDk
  rw [e]
  by_cases h : (kvs.any fun kv => decide (kv.1 = k)) = true
  · rw [if_pos h, if_pos h, List.map_map]
    refine List.map_congr_left fun q _ => ?_
    simp only [Function.comp]
    split <;> rfl
  · rw [if_neg h, if_neg h, List.map_append] <;> rfl
theorem reps_putMap {G : Gx} {H : Hp} {k : Key} {v : V} {y : D} (h : Rep G H v y) : ∀ {kvs : List (Key × V)} {xs : List D}, Reps G H (kvs.map (·.2)) xs → Reps G H ((kvs.map fun kv => if kv.1 = k then (kv.1, v) else kv).map (·.2)) ((kvs.map (·.1)).zipWith (fun q x => if q = k then y else x) xs)
  | [], _, .nil => .nil
  | (q, u) :: r, _, .cons a b => by
    rw [List.map_cons, List.map_cons, List.map_cons, List.zipWith_cons_cons]
    by_cases e : q = k
    · simp only [e, if_true]; exact .cons h (reps_putMap h b)
    · simp only [e, if_false]; exact .cons a (reps_putMap h b)
theorem reps_putK {G : Gx} {H : Hp} {k : Key} {v : V} {y : D} (h : Rep G H v y) {kvs : List (Key × V)} {xs : List D} (r : Reps G H (kvs.map (·.2)) xs) : Reps G H ((L2.putK kvs k v).map (·.2)) (putDx (kvs.map (·.1)) xs k y) := by
  have e : ((kvs.map (·.1)).any fun q => decide (q = k)) = kvs.any fun kv => decide (kv.1 = k) := by rw [List.any_map]; rfl
  unfold L2.putK putDx
  rw [e]
  by_cases hq : (kvs.any fun kv => decide (kv.1 = k)) = true
  · rw [if_pos hq, if_pos hq]; exact reps_putMap h r
  · rw [if_neg hq, if_neg hq, List.map_append]; exact r.append (.cons h .nil)
section
variable {X : Cx} {J : Jx} {e ix : Expr} {pos px tpos : Pos} {f f2 : Env → Res TV}
theorem Rel.dicAt {Hse He : Hp} {env : Env} {σ : St} {Hs Hr H : Hp} (R : Rel J Hse He env σ Hs Hr H) {i : Nat} {M : Ends} {k : List Key → List D → SR} (p : PostS J Hse He M (ownDi i env k)) :
    ∃ ks xs q kvs, env[i]? = some (some (.ownd ks xs)) ∧ OwFp J.toGx Hs H σ[i]? [q] (.ownd ks xs) ∧ σ[i]? = some (some (.ref q)) ∧ H q = some (.dK kvs) ∧ Hr q = none ∧ kvs.map (·.1) = ks ∧ Reps J.toGx Hs (kvs.map (·.2)) xs ∧ PostS J Hse He M (k ks xs) := by
  unfold ownDi at p
  split at p
  · rename_i ks xs q
    obtain ⟨a, vs, h1, h2, h3, h4, r⟩ := R.slot i _ q
    exact ⟨ks, xs, a, vs, q, ⟨_, h1, rfl⟩, h1, h2, h3, h4, r, p⟩
  · exact p.elim
theorem ms_dset (i : Nat) {x : Str} (B : Bas X J) (h : MV X J e f) (hi : MV X J ix f2) (hN : X.N[i]? = some x := by rfl) (hv : Vis X.env.scope x := by first | exact Or.inl rfl | exact Or.inr (Or.inl rfl) | exact Or.inr (Or.inr rfl)) (hd : (x == ("__debug__" : Str)) = false := by decide)
    (hcd : (x == ("__classdict__" : Str)) = false := by decide) (hs : swapsWith e (some (.Subscript (.Name x px) ix tpos)) pos.line X.env = pure false := by rfl) :
    MS X J (.Assign [.Subscript (.Name x px) ix tpos] e pos) (dsetS i f f2) :=
  ⟨ps_imp (ps_dput (by have := B.hu; omega) (pv i hN hv hd hcd) hi.pe h.pe hs) fun D σ H ⟨Hse, He, env, Hs, Hr, R, p⟩ => by
    obtain ⟨ks, xs, q, kvs, e0, e1, e2, _, _, _, _, p⟩ := R.dicAt (M := D) p
    refine ⟨Hse, He, env, Hs, Hr, R, post_st R p fun a Hs1 Hr1 H1 x1 R1 p1 v rv => ?_⟩
    refine ⟨_, e2, Hse, He, env, Hs1, Hr1, R1, post_st R1 p1 fun k Hs2 Hr2 H2 x2 R2 p2 w rw => ?_⟩
    obtain ⟨ks', xs', q', kvs', g1, g2, g3, g4, g5, g6, g7, p2⟩ := R2.dicAt (M := D) p2
    have g3' := g3
    rw [e2] at g3'
    cases g3'
    cases hk : keyOf k.2 with
    | none => rw [hk] at p2; exact (show False from p2).elim
    | some n =>
      rw [hk] at p2
      dsimp only at p2
      split at p2
      · rename_i c
        rw [key_rep (rw.h R2.ok) hk]
        refine ⟨q, _, rfl, DPut.k g4 (by rw [sizeLine_eq]; have := c.2; rw [← g6, List.length_map] at this; exact this), ?_⟩
        refine p2 σ _ _ _ (R2.mut1 g1 g3 g2 (fun xs z => by cases z) fp_ownd ⟨q, _, rfl, upd_same, g5, ?_, ?_⟩)
        · rw [putK_keys, g6]
        · have := reps_putK (k := n) ((rv.ext x2).shV R2.ok c.1) g7
          rw [g6] at this
          exact this
      · exact p2.elim⟩
end
theorem fnE_of {P : Program} {w : World} {G : Gx} {mg : Str → Option Value} {base : Heap} {x qual : Str} {st : Stmt} {dvs : List V} {f : Addr} {fd : FuncData} {ps : List Str} {n ar : Nat} {dfl : List D} {Fn : List EV → Res EV} (F : FnT G.K x qual st dvs f fd) (gl : mg x = some (.ref f)) (m j : Nat) (hd : dvs ≠ []) (hn : m + (dvs.length - j) = ps.length)
    (h : ∀ (T : Addr) (kV doc pm : Value) (an : Option Addr) (cdv ct : Value) (us its : List Value), us.length = m → its.length = dvs.length →
      ∃ k, bindArgs (PySem.W.fnOf x qual (defArgs st) (defBody st) (defScope st) (.ref T) kV doc pm an cdv ct) ⟨us, []⟩ = seqItems? (.ref T) >>= k ∧ k (some its.toArray) = pure (ps.zip (us ++ its.drop j))) (hdf : dfl.map dflV = (dvs.drop j).map some)
    (ok : FnOk P w G.K mg base (L2.CX P w) n f fd ps (SpD G ar Fn)) : FnE P w G mg base x n ar dfl Fn := by
  obtain ⟨ds, v, b⟩ := FunD.binds1 (ps := ps) F m j hd hn h
  exact ⟨f, fd, ps, _, ds, gl, F.kp, b, v, hdf, ok⟩
end DL

namespace DL
open PySem PySem.Spec PyProof.Rows L2
/-! ### x = y, where y is not read again ahead of its next value: what y owns goes over to x -/
theorem Rel.forget {J : Jx} {Hse He : Hp} {env : Env} {σ : St} {Hs Hr H : Hp} (R : Rel J Hse He env σ Hs Hr H) (j : Nat) : Rel J Hse He (env.set j none) σ Hs Hr H where
  ok := R.ok
  len := by rw [List.length_set]; exact R.len
  slot := fun k e h => by
    rcases getElem?_set_some h with ⟨_, h1, _⟩ | ⟨_, h2⟩
    · cases h1
    · exact R.slot k e h2
  dis := fun a b p ne ⟨e, f, h1, h2, h3⟩ ⟨e', f', k1, k2, k3⟩ => by
    rcases getElem?_set_some h1 with ⟨_, z, _⟩ | ⟨_, g2⟩
    · cases z
    · rcases getElem?_set_some k1 with ⟨_, z, _⟩ | ⟨_, g4⟩
      · cases z
      · exact R.dis a b p ne ⟨e, f, g2, h2, h3⟩ ⟨e', f', g4, k2, k3⟩
  se := R.se
  he := R.he
  ns := R.ns
  pin := R.pin
def mvE (i j : Nat) (env : Env) : EV → SR
  | .own xs => .nx ((env.set j none).set i (some (.own xs)))
  | .ownd ks xs => .nx ((env.set j none).set i (some (.ownd ks xs)))
  | .ownt t => .nx ((env.set j none).set i (some (.ownt t)))
  | .val t d => .nx (env.set i (some (.val t d)))
  | .exn _ _ _ => .bad
def movS (i j : Nat) : Env → SR := fun env => match env[j]? with
  | some (some e) => mvE i j env e
  | _ => .bad
theorem Rel.move {J : Jx} {Hse He : Hp} {env : Env} {σ : St} {Hs Hr H : Hp} (R : Rel J Hse He env σ Hs Hr H) {i j : Nat} {e : EV} {v : V} (h : env[j]? = some (some e)) (hv : σ[j]? = some (some v)) (up : Unp J i) : Rel J Hse He ((env.set j none).set i (some e)) (σ.set i (some v)) Hs Hr H :=
  (R.forget j).set (by rw [← hv]; exact R.slot j e h) (fun fp hf p hp k ne ⟨e', f', k1, k2, k3⟩ => by
    rcases getElem?_set_some k1 with ⟨_, z, _⟩ | ⟨z1, z2⟩
    · cases z
    · exact R.dis j k p (fun q => z1 q.symm) ⟨e, fp, h, by rw [hv]; exact hf, hp⟩ ⟨e', f', z2, k2, k3⟩) up
theorem ms_mov {X : Cx} {J : Jx} (i j : Nat) {x y : Str} {p pos pos' : Pos} (nd : X.N.Nodup) (hi : X.N[i]? = some x := by rfl) (hN : X.N[j]? = some y := by rfl) (hx : Loc X.env.scope x := by first | exact Or.inl rfl | exact Or.inr rfl)
    (hv : Vis X.env.scope y := by first | exact Or.inl rfl | exact Or.inr (Or.inl rfl) | exact Or.inr (Or.inr rfl)) (hd : (y == ("__debug__" : Str)) = false := by decide) (hcd : (y == ("__classdict__" : Str)) = false := by decide)
    (hs : swapsWith (.Name y p) (some (.Name x pos')) pos.line X.env = pure false := by rfl) (hf : X.fn x = true ∨ X.env.scope.names.lookup x = some .local := by first | exact .inl rfl | exact .inr rfl)
    (up : Unp J i := by first | exact Unp.nil rfl | exact Unp.one rfl (by decide)) : MS X J (.Assign [.Name x pos'] (.Name y p) pos) (movS i j) := by
  refine ⟨ps_imp (ps_set nd hi hx (pv j hN hv hd hcd) hs hf) fun D σ H ⟨Hse, He, env, Hs, Hr, R, p⟩ => ?_⟩
  have p : PostS J Hse He D (match env[j]? with
    | some (some e) => mvE i j env e
    | _ => .bad) := p
  split at p
  · rename_i e h
    have so := R.slot j e h
    have key : ∀ v, σ[j]? = some (some v) → isOwn e = true → PostS J Hse He D (.nx ((env.set j none).set i (some e))) → tAsg (tVar j) (gName i) D σ H := fun v hv _ q => ⟨v, hv, q _ _ _ _ (R.move h hv up)⟩
    cases e with
    | own xs => obtain ⟨a, vs, e1, _⟩ := so; exact key _ e1 rfl p
    | ownd ks xs => obtain ⟨a, vs, e1, _⟩ := so; exact key _ e1 rfl p
    | ownt t => obtain ⟨v, fp, e1, _⟩ := so; exact key _ e1 rfl p
    | exn c ks vs => exact p.elim
    | val t d =>
      have no : ∀ (v : V) fp, OwFp J.toGx Hs H (some (some v)) fp (.val t d) → ∀ p ∈ fp, ∀ k, k ≠ i → ¬ OwnAt J.toGx Hs H env σ k p := fun v fp hf p hp => by cases (show fp = [] from hf); cases hp
      have : ∃ v, σ[j]? = some (some v) := by
        cases t with
        | s => obtain ⟨v, e1, _⟩ := so; exact ⟨v, e1⟩
        | r => obtain ⟨v, e1, _⟩ := so; exact ⟨v, e1⟩
        | h => exact so.elim
        | o => exact so.elim
        | n t => exact so.elim
      obtain ⟨v, e1⟩ := this
      exact ⟨v, e1, p _ _ _ _ (R.set (by rw [← e1]; exact so) (no v) up)⟩
  · exact p.elim
/-! ### a list's display that is only walked -/
def kLstT (xs : List TV) : Res TV := if xs.length ≤ 16777216 then .ok (tagA xs, .lst (xs.map (·.2))) else .bad
theorem lst_new {J : Jx} {σ : St} {Hs Hr H : Hp} {Q : VK} {xs : List TV} {vs : List V} (k : HpOk Hs Hr H) (rv : RepTs J.toGx Hs Hr H xs vs) (p : Post J σ Hs Hr H (kLstT xs) (SV J Q)) {q : Addr} (hq : H q = none) : vs.length ≤ sizeLine ∧ Q (.ref q) (upd H q (.lst vs)) := by
  unfold kLstT at p
  split at p
  · rename_i h
    refine ⟨by rw [sizeLine_eq, repTs_len rv]; exact h, ?_⟩
    have x := Ext.new (o := .lst vs) k hq
    refine p _ _ _ x _ ?_
    show RepT J.toGx (tagA xs) _ _ _ _ (.lst _)
    unfold tagA
    split
    · rename_i i
      exact .lst upd_same ((shVs_reps k rv i).mono x.s)
    · split
      · rename_i i
        exact .lst upd_same ((repTs_r k rv i).mono x.r)
      · exact .lst upd_same ((repTs_h k rv).mono x.h)
  · exact (show False from p).elim
theorem mv_lst {X : Cx} {J : Jx} {es : List Expr} {pos : Pos} {F : Env → Res (List TV)} (ha : MA X J es F) : MV X J (.List es pos) (thenK F kLstT) := ⟨pe_imp (pe_lst ha.pa) fun σ H Q n => runA (wishV (J := J) (Q := Q)) n fun vs H1 _ _ _ Hs Hr xs _ R rv p => by
  refine ⟨?_, fun q hq => (lst_new R.ok rv p hq).2⟩
  unfold kLstT at p
  split at p
  · rename_i h
    rw [sizeLine_eq, repTs_len rv]; exact h
  · exact (show False from p).elim⟩
end DL

namespace L2
open PySem PySem.Spec PyProof.Rows
/-! ### three compared in a row -/
def tCh3 (r r' r'' : R2) (ta tb tc td : TE) : TE := fun σ H Q => ta σ H fun x H1 => tb σ H1 fun y H2 => r x y H2 fun z H3 => ∃ k, z = .bl k ∧
  (if k = true then tc σ H3 fun w H4 => r' y w H4 fun z' H5 => ∃ k', z' = .bl k' ∧ (if k' = true then td σ H5 fun v H6 => r'' w v H6 Q else Q (.bl false) H5) else Q (.bl false) H3)
theorem pe_ch3 {X : Cx} {a b c d : Expr} {pos : Pos} {ta tb tc td : TE} {op op' op'' : CmpOp} {r r' r'' : R2} (ho : OpR X (compareOp op) r) (ho' : OpR X (compareOp op') r') (ho'' : OpR X (compareOp op'') r'') (ha : PE X a ta) (hb : PE X b tb) (hc : PE X c tc) (hd : PE X d td)
    (hm : lastMarks [op, op', op''] [b, c, d] = false := by with_unfolding_all rfl) : PE X (.Compare a [op, op', op''] [b, c, d] pos) (tCh3 r r' r'' ta tb tc td) := by
  refine ⟨fun pins s σ H Q I h => ?_⟩
  refine Compare_chain (thn (ha.run pins s σ H _ I h) fun v s1 ⟨x, H1, I1, r1, q1⟩ => chain_link (thn (hb.run pins s1 σ H1 _ I1 q1) fun u s2 ⟨y, H2, I2, r2, q2⟩ =>
    thn (ho pins s2 σ H2 x y v u _ I2 r1 r2 q2) fun e s3 ⟨z, H3, I3, r3, k, ek, q3⟩ => ?_)) hm
  subst ek
  cases r3
  refine wpAny_truthy_bool ?_
  cases k with
  | false => exact ite_ff ⟨.bl false, H3, I3, rfl, q3⟩
  | true =>
    refine ite_tt (chain_link (thn (hc.run pins s3 σ H3 _ I3 q3) fun w s4 ⟨z, H4, I4, r4, q4⟩ => thn (ho' pins s4 σ H4 y z u w _ I4 r2 r4 q4) fun e s5 ⟨z', H5, I5, r5, k', ek, q5⟩ => ?_))
    subst ek
    cases r5
    refine wpAny_truthy_bool ?_
    cases k' with
    | false => exact ite_ff ⟨.bl false, H5, I5, rfl, q5⟩
    | true => exact ite_tt (chain_last (thn (hd.run pins s5 σ H5 _ I5 q5) fun w' s6 ⟨z2, H6, I6, r6, q6⟩ => ho'' pins s6 σ H6 z z2 w w' Q I6 r4 r6 q6))
theorem pt_ch3 {X : Cx} {a b c d : Expr} {pos : Pos} {ta tb tc td : TE} {op op' op'' : CmpOp} {r r' r'' : R2} (ho : OpR X (compareOp op) r) (ho' : OpR X (compareOp op') r') (ho'' : OpR X (compareOp op'') r'') (ha : PE X a ta) (hb : PE X b tb) (hc : PE X c tc) (hd : PE X d td)
    (hm : lastMarks [op, op', op''] [b, c, d] = false := by with_unfolding_all rfl) : PT X (.Compare a [op, op', op''] [b, c, d] pos) (tTest (tCh3 r r' r'' ta tb tc td)) := by
  refine ⟨fun pins s σ H Q I h => ?_⟩
  refine isTrue_chain (thn (ha.run pins s σ H _ I h) fun v s1 ⟨x, H1, I1, r1, q1⟩ => test_link (thn (hb.run pins s1 σ H1 _ I1 q1) fun u s2 ⟨y, H2, I2, r2, q2⟩ =>
    thn (ho pins s2 σ H2 x y v u _ I2 r1 r2 q2) fun e s3 ⟨z, H3, I3, r3, k, ek, q3⟩ => ?_)) hm
  subst ek
  cases r3
  refine wpAny_truthy_bool ?_
  cases k with
  | false =>
    obtain ⟨k', e', q'⟩ := q3
    cases e'
    exact ite_ff ⟨H3, I3, q'⟩
  | true =>
    refine ite_tt (test_link (thn (hc.run pins s3 σ H3 _ I3 q3) fun w s4 ⟨z, H4, I4, r4, q4⟩ => thn (ho' pins s4 σ H4 y z u w _ I4 r2 r4 q4) fun e s5 ⟨z', H5, I5, r5, k', ek, q5⟩ => ?_))
    subst ek
    cases r5
    refine wpAny_truthy_bool ?_
    cases k' with
    | false =>
      obtain ⟨k2, e2, q2⟩ := q5
      cases e2
      exact ite_ff ⟨H5, I5, q2⟩
    | true =>
      refine ite_tt (test_last (thn (hd.run pins s5 σ H5 _ I5 q5) fun w' s6 ⟨z2, H6, I6, r6, q6⟩ => thn (ho'' pins s6 σ H6 z z2 w w' _ I6 r4 r6 q6) fun d' s7 ⟨z3, H7, I7, r7, k3, e3, q7⟩ => ?_))
      subst e3
      cases r7
      exact wpAny_truthy_bool ⟨H7, I7, q7⟩
end L2
namespace DL
open PySem PySem.Spec PyProof.Rows L2
section
variable {X : Cx} {J : Jx} {a b c e : Expr} {pos : Pos} {f g h f4 : Env → Res TV}
def ch3 (f g h f4 : Env → Res TV) (k k' k'' : TV → TV → Res TV) : Env → Res TV := fun env => (f env).bind fun x => (g env).bind fun y => (k x y).bind fun z => match z.2 with
  | .bl true => (h env).bind fun w => (k' y w).bind fun z' => (match z'.2 with
    | .bl true => (f4 env).bind fun v => k'' w v
    | .bl false => okb false
    | _ => .bad)
  | .bl false => okb false
  | _ => .bad
theorem run_ch3 {r r' r'' : R2} {k k' k'' : TV → TV → Res TV} (hk : ∀ σ Hs Hr H (x y : TV) v w Q, HpOk Hs Hr H → RepT J.toGx x.1 Hs Hr H v x.2 → RepT J.toGx y.1 Hs Hr H w y.2 → Post J σ Hs Hr H (k x y) (SV J Q) → r v w H Q)
    (hk' : ∀ σ Hs Hr H (x y : TV) v w Q, HpOk Hs Hr H → RepT J.toGx x.1 Hs Hr H v x.2 → RepT J.toGx y.1 Hs Hr H w y.2 → Post J σ Hs Hr H (k' x y) (SV J Q) → r' v w H Q)
    (hk'' : ∀ σ Hs Hr H (x y : TV) v w Q, HpOk Hs Hr H → RepT J.toGx x.1 Hs Hr H v x.2 → RepT J.toGx y.1 Hs Hr H w y.2 → Post J σ Hs Hr H (k'' x y) (SV J Q) → r'' v w H Q) {σ : St} {H : Hp} {Q : VK} (n : tV J (ch3 f g h f4 k k' k'') σ H Q) :
    tCh3 r r' r'' (tV J f) (tV J g) (tV J h) (tV J f4) σ H Q := by
  obtain ⟨Hse, He, env, Hs, Hr, R, p⟩ := n
  refine ⟨Hse, He, env, Hs, Hr, R, (Post.bind p).imp fun x Hs1 Hr1 H1 e1 p1 v rv => ?_⟩
  refine ⟨Hse, He, env, Hs1, Hr1, R.ext e1, (Post.bind p1).imp fun y Hs2 Hr2 H2 e2 p2 w rw => ?_⟩
  refine hk σ Hs2 Hr2 H2 x y v w _ e2.ok (rv.ext e2) rw ((Post.bind p2).imp fun z Hs3 Hr3 H3 e3 p3 zv rz => ?_)
  obtain ⟨t, d⟩ := z
  dsimp only at p3 rz
  cases d with
  | bl b =>
    cases rz.isBl e3.ok
    refine ⟨b, rfl, ?_⟩
    cases b with
    | true =>
      rw [if_pos rfl]
      refine ⟨Hse, He, env, Hs3, Hr3, R.ext ((e1.trans e2).trans e3), (Post.bind p3).imp fun u Hs4 Hr4 H4 e4 p4 uv ru => ?_⟩
      refine hk' σ Hs4 Hr4 H4 y u w uv _ e4.ok (rw.ext (e3.trans e4)) ru ((Post.bind p4).imp fun z Hs5 Hr5 H5 e5 p5 zv rz => ?_)
      obtain ⟨t, d⟩ := z
      dsimp only at p5 rz
      cases d with
      | bl b =>
        cases rz.isBl e5.ok
        refine ⟨b, rfl, ?_⟩
        cases b with
        | true =>
          rw [if_pos rfl]
          refine ⟨Hse, He, env, Hs5, Hr5, R.ext ((((e1.trans e2).trans e3).trans e4).trans e5), (Post.bind p5).imp fun u2 Hs6 Hr6 H6 e6 p6 uv2 ru2 => ?_⟩
          exact hk'' σ Hs6 Hr6 H6 u u2 uv uv2 Q e6.ok (ru.ext (e5.trans e6)) ru2 p6
        | false =>
          rw [if_neg Bool.false_ne_true]
          exact Post.nowB e5.ok p5
      | _ => exact (show False from p5).elim
    | false =>
      rw [if_neg Bool.false_ne_true]
      exact Post.nowB e3.ok p3
  | _ => exact (show False from p3).elim
theorem mv_ch3 {op op' op'' : CmpOp} {k k' k'' : TV → TV → Res TV} (o : OpK X J op k) (o' : OpK X J op' k') (o'' : OpK X J op'' k'') (ha : MV X J a f) (hb : MV X J b g) (hc : MV X J c h) (hd : MV X J e f4) (hm : lastMarks [op, op', op''] [b, c, e] = false := by with_unfolding_all rfl) :
    MV X J (.Compare a [op, op', op''] [b, c, e] pos) (ch3 f g h f4 k k' k'') := by
  obtain ⟨r, ho, hk⟩ := o.ok
  obtain ⟨r', ho', hk'⟩ := o'.ok
  obtain ⟨r'', ho'', hk''⟩ := o''.ok
  exact ⟨pe_imp (pe_ch3 ho ho' ho'' ha.pe hb.pe hc.pe hd.pe hm) fun σ H Q n => run_ch3 hk hk' hk'' n⟩
theorem mt_ch3 {op op' op'' : CmpOp} {k k' k'' : TV → TV → Res TV} (o : OpK X J op k) (o' : OpK X J op' k') (o'' : OpK X J op'' k'') (ha : MV X J a f) (hb : MV X J b g) (hc : MV X J c h) (hd : MV X J e f4) (hm : lastMarks [op, op', op''] [b, c, e] = false := by with_unfolding_all rfl) :
    MT X J (.Compare a [op, op', op''] [b, c, e] pos) (tstB (ch3 f g h f4 k k' k'')) := by
  obtain ⟨r, ho, hk⟩ := o.ok
  obtain ⟨r', ho', hk'⟩ := o'.ok
  obtain ⟨r'', ho'', hk''⟩ := o''.ok
  exact ⟨pt_imp (pt_ch3 ho ho' ho'' ha.pe hb.pe hc.pe hd.pe hm) fun σ H Q ⟨Hse, He, env, Hs, Hr, R, p⟩ => run_ch3 hk hk' hk'' ⟨Hse, He, env, Hs, Hr, R, post_bl p⟩⟩
end
/-! ### x is True -/
def kIsT (x y : TV) : Res TV := match x.2, y.2 with
  | .bl a, .bl b => okb (decide (a = b))
  | _, _ => .bad
theorem ok_isT {X : Cx} {J : Jx} : OpK X J .Is kIsT := ⟨_, op_isBl, fun σ Hs Hr H x y v w Q k rx ry p => by
  obtain ⟨t, d⟩ := x
  obtain ⟨u, e⟩ := y
  unfold kIsT at p
  dsimp only at p
  cases d with
  | bl a =>
    cases e with
    | bl b =>
      cases rx.isBl k
      cases ry.isBl k
      exact ⟨a, b, rfl, rfl, p.now k _ (.bl _)⟩
    | _ => exact (show False from p).elim
  | _ => exact (show False from p).elim⟩
def kNotT (x y : TV) : Res TV := match x.2, y.2 with
  | .bl a, .bl b => okb (!decide (a = b))
  | _, _ => .bad
theorem ok_notT {X : Cx} {J : Jx} : OpK X J .IsNot kNotT := ⟨_, op_notBl, fun σ Hs Hr H x y v w Q k rx ry p => by
  obtain ⟨t, d⟩ := x
  obtain ⟨u, e⟩ := y
  unfold kNotT at p
  dsimp only at p
  cases d with
  | bl a =>
    cases e with
    | bl b =>
      cases rx.isBl k
      cases ry.isBl k
      exact ⟨a, b, rfl, rfl, p.now k _ (.bl _)⟩
    | _ => exact (show False from p).elim
  | _ => exact (show False from p).elim⟩
end DL

namespace DL
open PySem PySem.Spec PyProof.Rows L2
section
variable {X : Cx} {J : Jx} {a b c e o tg iter : Expr} {es : List Expr} {pos pos2 p p2 : Pos} {f f2 : Env → Res TV} {F : Env → Res (List TV)} {fe : Env → Res EV}
/-! ### y.pop(k), as a value that is kept or appended -/
def popK (j : Nat) (fk : Env → Res TV) (K : Env → D → SR) : Env → SR := fun env => ownL j env fun _ => (fk env).st env fun n => ownL j env fun ys => match n.2 with
  | .int n => if 0 ≤ n ∧ n < 2 ^ 60 then match ys[n.toNat]? with | some d => K (env.set j (some (.own (ys.eraseIdx n.toNat)))) d | none => .bad else .bad
  | _ => .bad
theorem Reps.erase {G : Gx} {H : Hp} : ∀ {v : List V} {d : List D} (n : Nat), Reps G H v d → Reps G H (v.eraseIdx n) (d.eraseIdx n)
  | _, _, n, .nil => by simp; exact .nil
  | _, _, 0, .cons h r => r
  | _, _, n + 1, .cons h r => .cons h (Reps.erase n r)
def tPopK (X : Cx) (J : Jx) (j : Nat) (f : Env → Res TV) : TE := fun σ H Q => ∃ Hse He env Hs Hr, Rel J Hse He env σ Hs Hr H ∧ ∃ (M : Ends) (K : Env → D → SR), PostS J Hse He M (popK j f K env) ∧
  ∀ env' d Hs' Hr' H' v, Rel J Hse He env' σ Hs' Hr' H' → Rep J.toGx Hs' v d → PostS J Hse He M (K env' d) → Q v H'
theorem run_popK (j : Nat) {x : Str} {px apos cpos : Pos} (h : MV X J e f) (hN : X.N[j]? = some x := by rfl) (hv : Vis X.env.scope x := by first | exact Or.inl rfl | exact Or.inr (Or.inl rfl) | exact Or.inr (Or.inr rfl)) (hd : (x == ("__debug__" : Str)) = false := by decide)
    (hcd : (x == ("__classdict__" : Str)) = false := by decide) (hs0 : starEach [e] X.env = (false, eval e X.env) :: starEach [] X.env := by rfl)
    (hbase : attributeBase (.Name x px) "pop" X.env (eval (.Name x px) X.env) = eval (.Name x px) X.env := by rfl)
    (hfew : ((backTo cpos (starEach [e] X.env)).all (fun x => !x.1) && (backToKw cpos (keywordEach [] X.env)).all (fun x => x.1.isSome) && decide ([e].length + ([] : List Keyword).length + (if ([] : List Keyword).isEmpty then 0 else 1) < 30)) = true := by rfl)
    (hline : (apos.endLine == cpos.line) = true := by rfl) (hplain : (backTo cpos (starEach [] X.env)).any (·.1) = false := by rfl) :
    PE X (.Call (.Attribute (.Name x px) "pop" apos) [e] [] cpos) (tPopK X J j f) :=
  pe_imp (pe_bm PySem.F.plainAttrs_list PySem.F.slot_list_pop PySem.F.type_list_pop mt_popAt (pv j hN hv hd hcd) (pa_cons h.pe pa_nil hs0) hbase hfew hline hs0 hplain) fun σ H Q ⟨Hse, He, env, Hs, Hr, R, M, K, p, hk⟩ => by
    unfold popK at p
    obtain ⟨xs, q, vs, h1, h2, h3, h4, h5, h6, p⟩ := R.lstAt (M := M) p
    refine ⟨_, h3, .inl ⟨rfl, vs, .inl (.inl h4)⟩, Hse, He, env, Hs, Hr, R, post_st R p fun a Hs' Hr' H' x R' p' v rv => ?_⟩
    obtain ⟨xs', q', vs', g1, g2, g3, g4, g5, g6, p'⟩ := R'.lstAt (M := M) p'
    have g3' := g3
    rw [h3] at g3'
    cases g3'
    obtain ⟨t, d⟩ := a
    dsimp only at p'
    cases d with
    | int n =>
      dsimp only at p'
      split at p'
      · rename_i c
        cases hx : xs'[n.toNat]? with
        | none => rw [hx] at p'; exact p'.elim
        | some d =>
          rw [hx] at p'
          dsimp only at p'
          obtain ⟨u, k1, k2⟩ := g6.get hx
          have hl := (List.getElem?_eq_some_iff.mp k1).1
          have hi : seqIndex? n vs'.length = some n.toNat := by
            unfold seqIndex?
            rw [if_neg (show ¬ n < 0 by omega)]
            dsimp only
            rw [if_pos (by simp; omega)]
          exact ⟨q, vs', n, n.toNat, u, rfl, by rw [rv.isInt R'.ok], g4, by omega, by omega, hi, k1, hk _ d _ _ _ u (R'.mut1 g1 g3 g2 (fun xs z => by cases z) fp_own ⟨q, _, rfl, upd_same, g5, Reps.erase _ g6⟩) k2 p'⟩
      · exact p'.elim
    | _ => exact (show False from p').elim
/-- z = y.pop(k) -/
def popKA (j z : Nat) (f : Env → Res TV) : Env → SR := popK j f fun env d => .nx (env.set z (some (.val .s d)))
theorem ms_popKA (j z : Nat) {x y : Str} {px py apos cpos : Pos} (nd : X.N.Nodup) (h : MV X J e f) (hN : X.N[j]? = some x := by rfl) (hj : X.N[z]? = some y := by rfl) (hv : Vis X.env.scope x := by first | exact Or.inl rfl | exact Or.inr (Or.inl rfl) | exact Or.inr (Or.inr rfl)) (hd : (x == ("__debug__" : Str)) = false := by decide)
    (hcd : (x == ("__classdict__" : Str)) = false := by decide) (hs0 : starEach [e] X.env = (false, eval e X.env) :: starEach [] X.env := by rfl)
    (hbase : attributeBase (.Name x px) "pop" X.env (eval (.Name x px) X.env) = eval (.Name x px) X.env := by rfl)
    (hfew : ((backTo cpos (starEach [e] X.env)).all (fun x => !x.1) && (backToKw cpos (keywordEach [] X.env)).all (fun x => x.1.isSome) && decide ([e].length + ([] : List Keyword).length + (if ([] : List Keyword).isEmpty then 0 else 1) < 30)) = true := by rfl)
    (hline : (apos.endLine == cpos.line) = true := by rfl) (hplain : (backTo cpos (starEach [] X.env)).any (·.1) = false := by rfl) (hx : Loc X.env.scope y := by first | exact Or.inl rfl | exact Or.inr rfl)
    (hs : swapsWith (.Call (.Attribute (.Name x px) "pop" apos) [e] [] cpos) (some (.Name y py)) pos.line X.env = pure false := by rfl) (hf : X.fn y = true ∨ X.env.scope.names.lookup y = some .local := by first | exact .inl rfl | exact .inr rfl)
    (up : Unp J z := by first | exact Unp.nil rfl | exact Unp.one rfl (by decide)) : MS X J (.Assign [.Name y py] (.Call (.Attribute (.Name x px) "pop" apos) [e] [] cpos) pos) (popKA j z f) :=
  ⟨ps_imp (ps_set nd hj hx (run_popK (J := J) j h hN hv hd hcd hs0 hbase hfew hline hplain) hs hf) fun D σ H ⟨Hse, He, env, Hs, Hr, R, p⟩ =>
    ⟨Hse, He, env, Hs, Hr, R, D, _, p, fun env' d Hs' Hr' H' v R' r p' => p' _ _ _ _ (R'.set (e := .val .s d) ⟨v, rfl, r⟩ (fun fp h q hq => by cases (show fp = [] from h); cases hq) up)⟩⟩
/-- x.append(y.pop(k)) -/
def appPopS (i j : Nat) (f : Env → Res TV) : Env → SR := fun env => ownL i env fun _ => popK j f (fun env d => ownL i env fun xs => if xs.length < 16777216 then .nx (env.set i (some (.own (xs ++ [d])))) else .bad) env
theorem ms_appPop (i j : Nat) {x y : Str} {px py apos cpos apos2 cpos2 : Pos} (h : MV X J e f) (hN : X.N[i]? = some x := by rfl) (hj : X.N[j]? = some y := by rfl) (hv : Vis X.env.scope x := by first | exact Or.inl rfl | exact Or.inr (Or.inl rfl) | exact Or.inr (Or.inr rfl)) (hd : (x == ("__debug__" : Str)) = false := by decide)
    (hcd : (x == ("__classdict__" : Str)) = false := by decide) (hs0 : starEach [.Call (.Attribute (.Name y py) "pop" apos2) [e] [] cpos2] X.env = (false, eval (.Call (.Attribute (.Name y py) "pop" apos2) [e] [] cpos2) X.env) :: starEach [] X.env := by rfl)
    (hbase : attributeBase (.Name x px) "append" X.env (eval (.Name x px) X.env) = eval (.Name x px) X.env := by rfl)
    (hfew : ((backTo cpos (starEach [.Call (.Attribute (.Name y py) "pop" apos2) [e] [] cpos2] X.env)).all (fun x => !x.1) && (backToKw cpos (keywordEach [] X.env)).all (fun x => x.1.isSome) && decide ([(.Call (.Attribute (.Name y py) "pop" apos2) [e] [] cpos2 : Expr)].length + ([] : List Keyword).length + (if ([] : List Keyword).isEmpty then 0 else 1) < 30)) = true := by rfl)
    (hline : (apos.endLine == cpos.line) = true := by rfl) (hplain : (backTo cpos (starEach [] X.env)).any (·.1) = false := by rfl)
    (hs : swapsWith (.Call (.Attribute (.Name x px) "append" apos) [.Call (.Attribute (.Name y py) "pop" apos2) [e] [] cpos2] [] cpos) none pos.line X.env = pure false := by rfl)
    (hv2 : Vis X.env.scope y := by first | exact Or.inl rfl | exact Or.inr (Or.inl rfl) | exact Or.inr (Or.inr rfl)) (hd2 : (y == ("__debug__" : Str)) = false := by decide)
    (hcd2 : (y == ("__classdict__" : Str)) = false := by decide) (hs2 : starEach [e] X.env = (false, eval e X.env) :: starEach [] X.env := by rfl)
    (hbase2 : attributeBase (.Name y py) "pop" X.env (eval (.Name y py) X.env) = eval (.Name y py) X.env := by rfl)
    (hfew2 : ((backTo cpos2 (starEach [e] X.env)).all (fun x => !x.1) && (backToKw cpos2 (keywordEach [] X.env)).all (fun x => x.1.isSome) && decide ([e].length + ([] : List Keyword).length + (if ([] : List Keyword).isEmpty then 0 else 1) < 30)) = true := by rfl)
    (hline2 : (apos2.endLine == cpos2.line) = true := by rfl) (hplain2 : (backTo cpos2 (starEach [] X.env)).any (·.1) = false := by rfl) :
    MS X J (.Expr (.Call (.Attribute (.Name x px) "append" apos) [.Call (.Attribute (.Name y py) "pop" apos2) [e] [] cpos2] [] cpos) pos) (appPopS i j f) :=
  ⟨ps_imp (ps_expr (pe_bm PySem.F.plainAttrs_list PySem.F.slot_list_append PySem.F.type_list_append mt_append (pv i hN hv hd hcd) (pa_cons (run_popK (J := J) j h hj hv2 hd2 hcd2 hs2 hbase2 hfew2 hline2 hplain2) pa_nil hs0) hbase hfew hline hs0 hplain) hs) fun D σ H ⟨Hse, He, env, Hs, Hr, R, p⟩ => by
    obtain ⟨xs, q, vs, h1, h2, h3, h4, h5, h6, p⟩ := R.lstAt (M := D) p
    refine ⟨_, h3, .inl ⟨rfl, vs, .inl (.inl h4)⟩, Hse, He, env, Hs, Hr, R, D, _, p, fun env' d Hs' Hr' H' v R' r p' => ?_⟩
    obtain ⟨xs', q', vs', g1, g2, g3, g4, g5, g6, p'⟩ := R'.lstAt (M := D) p'
    have g3' := g3
    rw [h3] at g3'
    cases g3'
    split at p'
    · rename_i c
      refine ⟨q, vs', v, rfl, rfl, g4, by rw [sizeLine_eq, g6.length]; exact c, ?_⟩
      exact p' σ _ _ _ (R'.mut1 g1 g3 g2 (fun xs z => by cases z) fp_own ⟨q, _, rfl, upd_same, g5, g6.append (.cons r .nil)⟩)
    · exact p'.elim⟩
end
end DL

namespace DL
open PySem PySem.Spec PyProof.Rows L2
/-! ### sorted(d), a dict's keys: ints -/
def kInts : List Key → Option (List Int)
  | [] => some []
  | .inl i :: r => (kInts r).map (i :: ·)
  | .inr _ :: _ => none
theorem kInts_map : ∀ {ks : List Key} {ns : List Int}, kInts ks = some ns → ks = ns.map Sum.inl
  | [], ns, h => by cases h; rfl
  | .inl i :: r, ns, h => by
    unfold kInts at h
    obtain ⟨ms, h1, rfl⟩ := Option.map_eq_some_iff.mp h
    rw [kInts_map h1, List.map_cons]
  | .inr _ :: _, _, h => by cases h
theorem kInts_inl : ∀ ns : List Int, kInts (ns.map Sum.inl) = some ns
  | [] => rfl
  | n :: r => by rw [List.map_cons, kInts, kInts_inl r] <;> rfl
def kSortedD (xs : List TV) : Res EV := match xs with
  | [(_, .dic ks _)] => match kInts ks with
    | some ns => if ns.length < 64 then .ok (.own ((isort ns).map D.int)) else .bad
    | none => .bad
  | _ => .bad
section
variable {X : Cx} {J : Jx} {e : Expr} {es : List Expr} {p pos : Pos} {F : Env → Res (List TV)}
theorem me_sortedD (hc : X.calm = true) (hm : X.mg "sorted" = none) (ha : MA X J (e :: es) F) (hg : Gl X "sorted" := by rfl) (he : starEach (e :: es) X.env = (false, eval e X.env) :: starEach es X.env := by rfl) (hpl : (backTo pos (starEach es X.env)).any (·.1) = false := by rfl) :
    ME X J (.Call (.Name "sorted" p) (e :: es) [] pos) (thenK F kSortedD) := by
  refine me_bi (call_sortedDI hc) (fun σ Hs Hr H xs vs Q k rv p => ?_) hm ha hg PyProof.Rows.boot_sorted (by decide) (by decide) he hpl
  unfold kSortedD at p
  split at p
  · rename_i ks ys
    obtain ⟨v, rfl, r⟩ := rv.one
    obtain ⟨a, kvs, rfl, h1, rfl, h2⟩ := r.dicT k
    cases hn : kInts (kvs.map (·.1)) with
    | none => rw [hn] at p; exact (show False from p).elim
    | some ns =>
      rw [hn] at p
      dsimp only at p
      split at p
      · rename_i hl
        refine ⟨a, kvs, ns, rfl, h1, kInts_map hn, hl, fun ns' r hp hs hr => ?_⟩
        cases sorted_one (hp.trans (isort_perm ns).symm) hs (isort_sorted ns)
        exact p _ _ _ (Ext.new0 k hr fun xs z => by cases z) r _ upd_same (k.none_r hr) hr (reps_ints _)
      · exact (show False from p).elim
  · exact (show False from p).elim
end
end DL

/-! ### try .. except A: raise X from None .. else: several clauses whose suites may raise -/
namespace L2H
open PySem PySem.Spec PyProof.Rows L2 HotX
inductive HdsX (X : Cx) (Wout : WX) : List ExceptHandler → List (Value × (Addr → Value → Option Addr → TS)) → Prop
  | nil : HdsX X Wout [] []
  | cons {x : Str} {c : Value} {ts : Addr → Value → Option Addr → TS} {b₀ : Stmt} {suite : List Stmt} {np pos' : Pos} {hds : List ExceptHandler} {l : List (Value × (Addr → Value → Option Addr → TS))} (hc : Names X x c)
      (hsu : ∀ (a : Addr) (oe : Obj) (cls : Value) (d : Option Addr) (pn : List (Addr × Obj)), L2N.Zn cls d oe → (∃ vs, oe.data = .fields vs) → L2.Takes (suiteX X a ((a, oe) :: pn)) Wout → HotC (suiteX X a ((a, oe) :: pn)) →
        PSs (suiteX X a ((a, oe) :: pn)) (b₀ :: suite) (ts a cls d)) (r : HdsX X Wout hds l) :
      HdsX X Wout (.ExceptHandler (some (.Name x np)) none (b₀ :: suite) pos' :: hds) ((c, ts) :: l)
section
variable {X : Cx} {body : List Stmt} {h₀ : ExceptHandler} {hds : List ExceptHandler} {l : List (Value × (Addr → Value → Option Addr → TS))} {pos : Pos} {tb : WX → TS} {Wout : WX}
theorem ps_try_manyEX {orelse : List Stmt} {u : TS} (ho : PSs X orelse u) (hs : X.stack = X.env :: X.outer) (hf : X.env.frame = some X.env.locals) (hpa : ∀ hd : Option Value, PassesOwnAt (model X.prog X.w) (X.A.mark hd) X.A X.env X.xe) (tk : L2.Takes X Wout)
    (hb : ∀ (W : WX) (pn : List (Addr × Obj)) (xe : Value → Shared → Prop), L2N.Takes (X.tr pn xe) W → PassesOwn (model X.prog X.w) X.A X.env xe → PSs (X.tr pn xe) body (tb W))
    (hh : HdsX X Wout (h₀ :: hds) l) : PS X (.Try body (h₀ :: hds) orelse [] pos) (fun D σ H => tb (wMany X.K Wout D l) { D with nx := u D } σ H) := by
  refine ⟨fun pins s σ H D I h => ?_⟩
  have ok := I.ok
  have hfr : X.A.frames = some (X.env :: X.outer) := by rw [ok.frames, hs]
  refine wpAny_Try_except ?_
  refine wpAny_mono ((hb (wMany X.K Wout D l) (X.pn ++ pins) (fun e s₁ => wpAny (model X.prog X.w) X.A (noteFrame e X.env) (fun _ s₂ => wpAny (model X.prog X.w) X.A (setFlight e none) (fun _ s₃ =>
    wpAny (model X.prog X.w) X.A (handleBy e X.env (h₀ :: hds)) (SP X pins D) X.xe s₃) X.xe s₂) X.xe s₁) (fun u s' xx => ?_) PassesOwn.looking).run [] s σ H { D with nx := u D } (I.toTry _) h) (fun f s1 hsp => ?_) (fun e s1 he => he)
  · obtain ⟨a, B, sI, pins', σ', H', cls, d, rfl, J', nb, up, sky, na, os, ag, w⟩ := xx
    have J : Inv X pins σ' H' sI := J'.ofTry ok
    have sky' : Sky B (X.env :: X.outer) a (L2N.Zn cls d) X.env.locals s'.heap := by rw [← hs]; exact sky
    show wpAny (model X.prog X.w) X.A (noteFrame (.ref a) X.env) _ _ _
    refine L2N.Sky.land L2N.Zn.steady hfr hf sky' fun h3 fl3 up3 => ?_
    have J3 : Inv X pins σ' H' { s' with heap := h3 } := J.landed nb fl3.1 (up.trans up3) os ag
    obtain ⟨oe3, vs3, he3, hz3, hd3⟩ := fl3.there
    have notFr : ∀ {h : Heap} {o : Obj} {vs : Array Value}, h.FunFrames B (X.env :: X.outer) → h.get? a = some o → o.data = .fields vs → a ∉ frs (X.env :: X.outer) := fun {h o vs} ff e dd hm => by
      obtain ⟨_, o', e', hnf⟩ := ff.mem hm
      rw [e] at e'; cases e'
      exact hnf _ dd
    have nfr := notFr fl3.2.2.1 he3 hd3
    have nL : a ≠ X.env.locals := fun z => nfr (List.mem_filterMap.mpr ⟨X.env, List.mem_cons_self, by rw [hf, z]⟩)
    have nF : a ∉ X.fs := fun hm => by
      obtain ⟨e, he, q⟩ := List.mem_filterMap.mp hm
      exact nfr (List.mem_filterMap.mpr ⟨e, List.mem_cons_of_mem _ he, q⟩)
    have S3 := J3.suite he3 hd3 na nL nF
    have go : ∀ {hds' : List ExceptHandler} {l' : List (Value × (Addr → Value → Option Addr → TS))}, HdsX X Wout hds' l' → wMany X.K Wout D l' cls d σ' H' →
        wpAny (model X.prog X.w) X.A (handleBy (.ref a) X.env hds') (SP X pins D) X.xe { s' with heap := h3 } := by
      intro hds' l' hk
      induction hk with
      | nil =>
        intro w
        refine wpAny_handleBy_nil ?_
        obtain ⟨k1, k2, k3, oe, vs, T, oT, ts', he, hz, hd, h1, hr⟩ := id fl3
        unfold PySem.passOn
        refine wpAny_bind (wpAny_field he hd h1 ?_)
        rw [if_neg (show ¬ ((Value.ref T == Value.none) = true) from by simp)]
        have fin : wpAny (model X.prog X.w) X.A (setFlight (.ref a) X.env.frame) (fun _ s4 => wpAny (model X.prog X.w) X.A (throw (.ref a) : Sem Flow) (SP X pins D) X.xe s4) X.xe { s' with heap := h3 } := by
          rw [hf]
          refine HandSPX.setFlight_upZ (flyingZ_imp (fun o z => L2N.Zn.zc z) fl3) fun h4 hh4 up4 => wpAny_throw (tk _ _ ?_)
          exact ⟨a, B, sI, pins, σ', H', cls, d, rfl, J, nb, (up.trans up3).trans up4, .inr (.inr (by rw [hs]; exact hh4)), na, os, ag, w⟩
        first
          | exact wpAny_bind (wpAny_pure (wpAny_bind fin))
          | exact wpAny_bind fin
      | @cons x c ts b₀ suite np pos' hds2 l2 hc hsu r ih =>
        intro w
        obtain ⟨b, hb1, hyes, hno⟩ := w
        refine wpAny_handleBy_cons (codeAny_handlers_test ?_) (by intro q; cases q)
        have LT : PySem.W.Looks (model X.prog X.w) h3 (typeOf (.ref a)) cls := fun A Q E s k q => wpAny_typeOf_ref (k _ _ he3) (by rw [hz3.1]; exact q)
        have LM := PySem.W.exm_one (M := model X.prog X.w) (J3.kIn) LT hb1
        have test : ∀ {Q : Value → Shared → Prop} {E : Value → Shared → Prop}, Q c { s' with heap := h3 } → wpAny (model X.prog X.w) (X.A.mark (some (.ref a))) (eval (.Name x np) X.env) Q E { s' with heap := h3 } := fun {Q E} q => by
          obtain ⟨hg, hdbg, hm | ⟨hm, hv, hnn⟩⟩ := hc
          · exact ld_glob (X := X.suite a ((a, oe3) :: (X.pn ++ pins))) S3 hg hm q hdbg
          · exact ld_blt (X := X.suite a ((a, oe3) :: (X.pn ++ pins))) S3 hg hm hv q hnn hdbg
        refine test (LM.here ?_)
        cases b with
        | true =>
          refine codeAny_handlers_suite ?_
          refine HandSPX.lands_againZ fl3 fun h4 fl4 up4 => ?_
          have J4 : Inv X pins σ' H' { s' with heap := h4 } := J.landed nb fl4.1 ((up.trans up3).trans up4) os ag
          obtain ⟨oe4, vs4, he4, hz4, hd4⟩ := fl4.there
          have S4 := J4.suite he4 hd4 na nL nF
          have tkS : L2.Takes (suiteX X a ((a, oe4) :: (X.pn ++ pins))) Wout := fun u2 s2 x2 => by
            obtain ⟨a2, B2, sI2, pn2, σ2, H2, cls2, d2, e2, I2, nb2, up2, sky2, na2, os2, ag2, w2⟩ := x2
            exact tk u2 s2 ⟨a2, B2, sI2, pins, σ2, H2, cls2, d2, e2, unsuiteX I2 ok, nb2, up2, sky2, na2, os2, ag2, w2⟩
          have hot : HotC (suiteX X a ((a, oe4) :: (X.pn ++ pins))) := ⟨(a, oe4), ⟨rfl, vs4, hd4, hz4.2.2 vs4 hd4⟩, List.mem_cons_self⟩
          refine wpAny_mono ((hsu a oe4 cls d (X.pn ++ pins) hz4 ⟨_, hd4⟩ tkS hot).run [] _ _ H' _ (suiteX_of S4) (hyes rfl a na)) (fun f s6 hsp => ?_) (fun e6 s6 z => hpa (some (.ref a)) e6 s6 z)
          cases f with
          | next =>
            obtain ⟨σ6, H6, S6, q6⟩ := hsp
            exact ⟨_, _, unsuiteX S6 ok, q6⟩
          | brk =>
            obtain ⟨σ6, H6, S6, q6⟩ := hsp
            exact ⟨_, _, unsuiteX S6 ok, q6⟩
          | cont =>
            obtain ⟨σ6, H6, S6, q6⟩ := hsp
            exact ⟨_, _, unsuiteX S6 ok, q6⟩
          | ret u =>
            obtain ⟨v6, σ6, H6, S6, r6, q6⟩ := hsp
            exact ⟨_, _, _, unsuiteX S6 ok, r6, q6⟩
        | false =>
          show wpAny _ X.A (handleBy (.ref a) X.env hds2) _ _ _
          exact ih (hno rfl)
    exact go hh w
  · cases f with
    | next =>
      obtain ⟨σ', H', J', q⟩ := hsp
      exact ho.run pins s1 σ' H' D (J'.ofTry ok) q
    | brk =>
      obtain ⟨σ', H', J', q⟩ := hsp
      exact ⟨σ', H', J'.ofTry ok, q⟩
    | cont =>
      obtain ⟨σ', H', J', q⟩ := hsp
      exact ⟨σ', H', J'.ofTry ok, q⟩
    | ret u =>
      obtain ⟨v, σ', H', J', r, q⟩ := hsp
      exact ⟨v, σ', H', J'.ofTry ok, r, q⟩
end
/-- X('m') that is raised in an except suite -/
theorem pmk5_own {X : Cx} {C : Addr} {bmB : List Value} {B newId initId : String} {x m : Str} {j : Nat} {p p2 pos : Pos} (F : ExcBaseFacts B newId initId bmB) (q : PySem.W.excIn X.K C bmB newId = true) (gC : X.mg x = some (.ref C)) (kC : PySem.W.keepIn X.K (.ref C) = true) (r : Raises X (.ref C)) (hg : Gl X x)
    (hdb : (x == ("__debug__" : Str)) = false := by decide) : PMk5 X (.Call (.Name x p) [.Constant (.str m) j p2] [] pos) (fun _ H Q => Q (.ref C) none H) := by
  intro pins s σ H Q I h
  refine wpAny_Call_Name_kw (ld_glob I hg gC ?_ hdb)
  have ha : PA X [.Constant (.str m) j p2] (tCons (tC (.str m)) tNil) := pa_cons pe_str pa_nil
  refine PySem.W.callWith_K (h₀ := X.base) I.ok.mod.kin kC (thn (ha.run pos pins s σ H (fun vs H1 => vs = [V.str m] ∧ H = H1) I ⟨rfl, rfl⟩) fun us s1 hh => ?_)
  obtain ⟨vs, H1, I1, r1, ev, eH⟩ := hh
  subst ev
  rw [← eH] at I1
  refine ⟨I1.kIn, ?_⟩
  cases r1 with
  | cons ru rn =>
    rename_i u us'
    cases rn
    show wpAny _ _ (call (.ref C) [u]) _ _ _
    obtain ⟨bm, N, nm, qn, bs, hdct, sn, sub, ab, col, dd, k0, k1, k2, k3, k5, mN, hC, hN, hni, T⟩ := exc_obj I1.kIn q
    refine wpAny_call_exc_subT F T hC hN hni (fun h' e hm => ?_) (by show 1 ≤ sizeLine; rw [sizeLine_eq]; omega)
    exact mk_of5 I1 hm r h (I1.hok.gone hm.new)
end L2H
namespace DL
open PySem PySem.Spec PyProof.Rows L2
/-! ### defs whose exceptions' context is None -/
structure GoodN (X : Cx) (J : Jx) (n : Nat) : Prop extends Bas X J where
  tk : L2N.Takes X J.W
  room : Room n X.A
  calm : X.calm = true
  po : PassesOwn (model X.prog X.w) X.A X.env X.xe
structure FnDN (P : Program) (w : World) (G : Gx) (mg : Str → Option Value) (base : Heap) (x : Str) (n ar : Nat) (F : List EV → Res EV) : Prop where
  ok : ∃ f fd ps, mg x = some (.ref f) ∧ PySem.W.keepIn G.K (.ref f) = true ∧ Binds G.K fd ps [] ∧ FnOk P w G.K mg base (L2N.CX P w) n f fd ps (SpD G ar F)
structure FnAN (P : Program) (w : World) (G : Gx) (mg : Str → Option Value) (base : Heap) (f : Addr) (n ar : Nat) (F : List EV → Res EV) : Prop where
  ok : ∃ fd ps, Binds G.K fd ps [] ∧ FnOk P w G.K mg base (L2N.CX P w) n f fd ps (SpD G ar F)
theorem FnAN.d {P : Program} {w : World} {G : Gx} {mg : Str → Option Value} {base : Heap} {f : Addr} {n ar : Nat} {F : List EV → Res EV} (h : FnAN P w G mg base f n ar F) {x : Str} (hm : mg x = some (.ref f)) (hk : PySem.W.keepIn G.K (.ref f) = true) : FnDN P w G mg base x n ar F := by
  obtain ⟨fd, ps, b, k⟩ := h.ok
  exact ⟨f, fd, ps, hm, hk, b, k⟩
section
variable {X : Cx} {J : Jx} {e : Expr} {es : List Expr} {p pos : Pos} {F : Env → Res (List TV)}
theorem me_callN {x : Str} {n m ar : Nat} {G : List EV → Res EV} (g : GoodN X J m) (fn : FnDN X.prog X.w J.toGx X.mg X.base x n ar G) (hnm : n ≤ m) (ha : MA X J (e :: es) F) (har : (e :: es).length = ar := by rfl) (hg : Gl X x := by rfl) (hdb : (x == ("__debug__" : Str)) = false := by decide) (he : starEach (e :: es) X.env = (false, eval e X.env) :: starEach es X.env := by rfl) (hpl : (backTo pos (starEach es X.env)).any (·.1) = false := by rfl) :
    ME X J (.Call (.Name x p) (e :: es) [] pos) (thenK F (callD G)) := by
  obtain ⟨fa, fd, ps, h1, h2, h3, h4⟩ := fn.ok
  rw [← g.K] at h2 h3 h4
  refine ⟨pe_imp (pe_callS h4 (g.room.mono hnm) hg h1 h2 h3 (fun σ => L2N.passAt g.tk σ) ha.pa hdb he hpl) fun σ H Q nn => ?_⟩
  have hF' : ∀ env, (F env).bind (callD G) = (F env).bind fun xs => if xs.length = ar then callD G xs else .bad := fun env => by
    cases q : F env with
    | ok xs => show callD G xs = if xs.length = ar then callD G xs else .bad; rw [if_pos ((ha.len env xs q).trans har)]
    | _ => rfl
  obtain ⟨Hse, He, env, Hs, Hr, R, p⟩ := nn
  have p : Post J σ Hs Hr H ((F env).bind (callD G)) (SE J H Q) := p
  rw [hF'] at p
  refine runA (J := J) (S := fun H => SE J H Q) wishE (k := fun xs => if xs.length = ar then callD G xs else .bad) ⟨Hse, He, env, Hs, Hr, R, p⟩ fun vs H1 _ _ _ Hs Hr xs _ R rv p => ?_
  split at p
  · rename_i hl
    exact ⟨xs.map toArg, Hs, ⟨R.ok.sh, Same.refl _, R.ok.ti⟩, by rw [List.length_map]; exact hl, args_of R.ok rv, postR_of R.ok p⟩
  · exact (show False from p).elim
theorem ms_raiseN {n : Nat} (g : GoodN X J n) {c m : Str} {j : Nat} {p p2 pos pos2 : Pos} (x : Xc J.toGx X.mg c) (hg : Gl X c := by rfl) (hdb : (c == ("__debug__" : Str)) = false := by decide) :
    MS X J (.Raise (some (.Call (.Name c p) [.Constant (.str m) j p2] [] pos)) none pos2) (raiseS c) := by
  obtain ⟨gC, cl, ex, kp, sb, ty⟩ := x
  have eK := g.K
  generalize hC : He.ga J.K c = C at *
  rw [← eK] at ex kp sb ty
  exact ⟨ps_imp (L2N.ps_raise g.calm g.tk (L2N.pmk_own PySem.F.excBase_ValueError ex gC kp (raises_own sb ty) hg hdb)) fun D σ H ⟨Hse, He, env, Hs, Hr, R, p⟩ => p (.ref C) none σ Hs Hr H R ⟨C, cl, rfl, .inl ⟨rfl, rfl, rfl⟩⟩⟩
end
section
variable {X : Cx} {J : Jx} {e : Expr} {es : List Expr} {p pos : Pos} {F : Env → Res (List TV)}
theorem mv_maxC (hc : X.calm = true) (hm : X.mg "max" = none) (ha : MA X J (e :: es) F) (hg : Gl X "max" := by rfl) (he : starEach (e :: es) X.env = (false, eval e X.env) :: starEach es X.env := by rfl) (hpl : (backTo pos (starEach es X.env)).any (·.1) = false := by rfl) :
    MV X J (.Call (.Name "max" p) (e :: es) [] pos) (thenK F kMax) := by
  refine mv_bi ((cr_max hc).or (call_max2 hc)) (fun σ Hs Hr H xs vs Q k rv p => ?_) hm ha hg PyProof.Rows.boot_max (by decide) (by decide) he hpl
  unfold kMax at p
  split at p
  · rename_i ys
    obtain ⟨v, rfl, r⟩ := rv.one
    obtain ⟨q, ws, rfl, h1, r1⟩ := r.isLst k
    cases hn : intsOf ys with
    | none => rw [hn] at p; exact (show False from p).elim
    | some ns =>
      rw [hn] at p
      dsimp only at p
      split at p
      · exact (show False from p).elim
      · rename_i hne
        rw [ints_reps r1 hn] at h1
        exact .inl ⟨q, ns, rfl, .inl (.inl h1), List.length_pos_iff.mpr hne, fun m h1 h2 => by rw [max_one h1 h2]; exact Post.nowI k p⟩
  · rename_i _ i _ j
    obtain ⟨v, w, rfl, r, r'⟩ := rv.two
    cases r.isInt k
    cases r'.isInt k
    refine .inr ⟨i, j, rfl, ?_⟩
    have : (if j > i then j else i) = max i j := by split <;> omega
    rw [this]
    exact Post.nowI k p
  · exact (show False from p).elim
theorem mv_minC (hc : X.calm = true) (hm : X.mg "min" = none) (ha : MA X J (e :: es) F) (hg : Gl X "min" := by rfl) (he : starEach (e :: es) X.env = (false, eval e X.env) :: starEach es X.env := by rfl) (hpl : (backTo pos (starEach es X.env)).any (·.1) = false := by rfl) :
    MV X J (.Call (.Name "min" p) (e :: es) [] pos) (thenK F kMin) := by
  refine mv_bi ((cr_min hc).or (call_min2 hc)) (fun σ Hs Hr H xs vs Q k rv p => ?_) hm ha hg PyProof.Rows.boot_min (by decide) (by decide) he hpl
  unfold kMin at p
  split at p
  · rename_i ys
    obtain ⟨v, rfl, r⟩ := rv.one
    obtain ⟨q, ws, rfl, h1, r1⟩ := r.isLst k
    cases hn : intsOf ys with
    | none => rw [hn] at p; exact (show False from p).elim
    | some ns =>
      rw [hn] at p
      dsimp only at p
      split at p
      · exact (show False from p).elim
      · rename_i hne
        rw [ints_reps r1 hn] at h1
        exact .inl ⟨q, ns, rfl, .inl (.inl h1), List.length_pos_iff.mpr hne, fun m h1 h2 => by rw [min_one h1 h2]; exact Post.nowI k p⟩
  · rename_i _ i _ j
    obtain ⟨v, w, rfl, r, r'⟩ := rv.two
    cases r.isInt k
    cases r'.isInt k
    refine .inr ⟨i, j, rfl, ?_⟩
    have : (if j < i then j else i) = min i j := by split <;> omega
    rw [this]
    exact Post.nowI k p
  · exact (show False from p).elim
end
theorem fn_okN {P : Program} {w : World} {G : Gx} {mg : Str → Option Value} {base : Heap} {x qual : Str} {st : Stmt} {dvs : List V} {f : Addr} {fd : FuncData} {N ps : List Str} {n : Nat} {FB : Env → SR} (F : FnT G.K x qual st dvs f fd) (S : FnScope N ps (defScope st))
    (hb : ∀ (cdv : Value) (A : Around) (outer : List PySem.Env) (s : Shared) (H : Hp) (E : XK), GoodN (cxOf (L2N.CX P w) P w G.K mg base N qual (defScope st) f cdv A outer s H E) (G.j E) n →
      MSs (cxOf (L2N.CX P w) P w G.K mg base N qual (defScope st) f cdv A outer s H E) (G.j E) (defBody st) FB) : FnOk P w G.K mg base (L2N.CX P w) (n + 1) f fd ps (SpD G ps.length (runD N.length FB)) := by
  refine FunD.ok F S (fun vs H Q E h => ?_) (fun cdv A outer s H vs Q E hr h => ⟨tS (G.j E) FB, (hb cdv A outer s H E ?_).ps, ?_⟩)
  · obtain ⟨args, Hs, k, l, a, p⟩ := h
    rw [argsOk_len a, l]
  · exact { K := rfl, nd := S.nd, hu := by have := hr.un; show A.units + 3 + 65 < _; (have h2 : (A.deeper (envOfC qual (defScope st) s.heap.objs.size f cdv)).units = A.units + 3 := rfl); omega, tk := L2N.takes_of rfl rfl rfl rfl, room := hr, calm := rfl, po := passes_of rfl }
  · obtain ⟨args, Hs, k, l, a, p⟩ := h
    exact start_rel k l a p
theorem fn_defN {P : Program} {w : World} {G : Gx} {mg : Str → Option Value} {base : Heap} {x qual : Str} {st : Stmt} {dvs : List V} {f : Addr} {fd : FuncData} {N ps : List Str} {n : Nat} {FB : Env → SR} (F : FnT G.K x qual st dvs f fd) (S : FnScope N ps (defScope st)) (b : Binds G.K fd ps [])
    (hb : ∀ (cdv : Value) (A : Around) (outer : List PySem.Env) (s : Shared) (H : Hp) (E : XK), GoodN (cxOf (L2N.CX P w) P w G.K mg base N qual (defScope st) f cdv A outer s H E) (G.j E) n →
      MSs (cxOf (L2N.CX P w) P w G.K mg base N qual (defScope st) f cdv A outer s H E) (G.j E) (defBody st) FB) : FnAN P w G mg base f (n + 1) ps.length (runD N.length FB) :=
  ⟨fd, ps, b, fn_okN F S hb⟩
/-! ### except suites that raise -/
def endY : SR → SR
  | .nx env => .nx (dropX env)
  | .bk env => .bk (dropX env)
  | .ct env => .ct (dropX env)
  | .rt e env => .rt e (dropX env)
  | .exc c ks vs env => .exc c ks vs (dropX env)
  | .bad => .bad
def tryX (F : Env → SR) (hs : List (Str × (Env → SR))) (O : Env → SR) : Env → SR := fun env => match F env with
  | .exc c ks vs e => match pickH c hs with
    | some S => endY (S e)
    | none => .exc c ks vs e
  | .nx e => O e
  | r => r
abbrev Jx.sx (J : Jx) (a : Addr) (cls : Value) (d : Option Addr) : Jx := { J with xa := some (a, cls, d) }
structure BasX (X : Cx) (J : Jx) : Prop extends Bas X J where
  tk : L2.Takes X J.W
  hot : L2H.HotC X
theorem ms_raiseHX {X : Cx} {J : Jx} (g : BasX X J) {c m : Str} {j j2 : Nat} {p p2 p3 pos pos2 : Pos} (x : Xc J.toGx X.mg c) (hg : Gl X c := by rfl) (hdb : (c == ("__debug__" : Str)) = false := by decide) :
    MS X J (.Raise (some (.Call (.Name c p) [.Constant (.str m) j p2] [] pos)) (some (.Constant .none j2 p3)) pos2) (raiseS c) := by
  obtain ⟨gC, cl, ex, kp, sb, ty⟩ := x
  have eK := g.K
  generalize hC : He.ga J.K c = C at *
  rw [← eK] at ex kp sb ty
  exact ⟨ps_imp (L2H.ps_raiseHN g.hot g.tk (L2H.pmk5_own PySem.F.excBase_ValueError ex gC kp (raises_own sb ty) hg hdb)) fun D σ H ⟨Hse, He, env, Hs, Hr, R, p⟩ => p (.ref C) none σ Hs Hr H R ⟨C, cl, rfl, .inl ⟨rfl, rfl, rfl⟩⟩⟩
section
variable {X : Cx} {J : Jx} {n : Nat}
inductive HdsY (X : Cx) (J : Jx) : List ExceptHandler → List (Str × (Env → SR)) → Prop
  | nil : HdsY X J [] []
  | cons {x : Str} {S : Env → SR} {b₀ : Stmt} {suite : List Stmt} {np pos' : Pos} {hds : List ExceptHandler} {l : List (Str × (Env → SR))} (hc : Catch J.toGx X.mg x) (hg : Gl X x) (hd : (x == ("__debug__" : Str)) = false)
      (hs : ∀ (a : Addr) (oe : Obj) (cls : Value) (d : Option Addr) (pn : List (Addr × Obj)), BasX (L2H.suiteX X a ((a, oe) :: pn)) (J.sx a cls d) → MSs (L2H.suiteX X a ((a, oe) :: pn)) (J.sx a cls d) (b₀ :: suite) S) (r : HdsY X J hds l) :
      HdsY X J (.ExceptHandler (some (.Name x np)) none (b₀ :: suite) pos' :: hds) ((x, S) :: l)
theorem PostS.suiteY {J J' : Jx} (e : J'.toGx = J.toGx) (eW : J'.W = J.W) (ep : J'.pin = J.pin := by rfl) {Hse He : Hp} {D : Ends} : ∀ {r : SR}, PostS J Hse He D (endY r) → PostS J' Hse He D r
  | .nx env, p => fun σ Hs Hr H R => p σ Hs Hr H (R.drop e ep.symm)
  | .bk env, p => fun σ Hs Hr H R => p σ Hs Hr H (R.drop e ep.symm)
  | .ct env, p => fun σ Hs Hr H R => p σ Hs Hr H (R.drop e ep.symm)
  | .rt v env, p => fun σ Hs Hr H R => RtW.cg e (p σ Hs Hr H (R.drop e ep.symm))
  | .exc c ks vs env, p => fun cv d σ Hs Hr H R x => by rw [eW]; exact p cv d σ Hs Hr H (R.drop e ep.symm) (e ▸ x)
  | .bad, p => p.elim
def hdsY (X : Cx) (J : Jx) (l : List (Str × (Env → SR))) : List (Value × (Addr → Value → Option Addr → TS)) := l.map fun q => (.ref (He.ga J.K q.1), fun a cls d => tS (J.sx a cls d) q.2)
theorem HdsY.ok (g : Bas X J) {hds : List ExceptHandler} {l : List (Str × (Env → SR))} (h : HdsY X J hds l) : L2H.HdsX X J.W hds (hdsY X J l) := by
  induction h with
  | nil => exact .nil
  | cons hc hg hd hs r ih => exact .cons ⟨hg, hd, .inl hc.gC⟩ (fun a oe cls d pn z f tk hot => (hs a oe cls d pn ⟨⟨g.K, g.nd, g.hu⟩, tk, hot⟩).ps) ih
theorem HdsY.post (hx : J.xa = none) (eK : X.K = J.K) {hds : List ExceptHandler} {l : List (Str × (Env → SR))} (h : HdsY X J hds l) {Hse He : Hp} {M : Ends} {c : Str} {ks : List Str} {vs : List D} {cv : Value} {d : Option Addr} {env : Env} {σ : St} {Hs Hr H : Hp}
    (R : Rel J Hse He env σ Hs Hr H) (e : ExcOk J.toGx Hs c ks vs cv d) (p : PostS J Hse He M (match pickH c l with | some S => endY (S env) | none => .exc c ks vs env)) : wMany X.K J.W M (hdsY X J l) cv d σ H := by
  induction h with
  | nil => exact p cv d σ Hs Hr H R e
  | @cons x S b₀ suite np pos' hds l hc hg hd hs r ih =>
    obtain ⟨C, h1, rfl⟩ := e.cls
    refine ⟨catD c x, by rw [eK]; exact hc.ex c C h1, fun q a na => ?_, fun q => ?_⟩
    · unfold pickH at p
      rw [if_pos q] at p
      exact ⟨Hse, He, env, Hs, Hr, Rel.cg (J := J) (J' := J.sx a (.ref C) d) rfl rfl hx R, PostS.suiteY (J := J) (J' := J.sx a (.ref C) d) rfl rfl rfl p⟩
    · unfold pickH at p
      rw [if_neg (by rw [q]; simp)] at p
      exact ih p
theorem ms_tryX {body orelse : List Stmt} {h₀ : ExceptHandler} {hds : List ExceptHandler} {l : List (Str × (Env → SR))} {F O : Env → SR} {pos : Pos} (g : Good X J n) (hs : X.stack = X.env :: X.outer) (hf : X.env.frame = some X.env.locals) (hx : J.xa = none)
    (hpa : ∀ hd : Option Value, PassesOwnAt (model X.prog X.w) (X.A.mark hd) X.A X.env X.xe)
    (hb : ∀ (W : WX) (pn : List (Addr × Obj)) (xe : Value → Shared → Prop), GoodN (X.tr pn xe) (J.w W) n → MSs (X.tr pn xe) (J.w W) body F) (hh : HdsY X J (h₀ :: hds) l) (ho : MSs X J orelse O) : MS X J (.Try body (h₀ :: hds) orelse [] pos) (tryX F l O) := by
  refine ⟨ps_imp (L2H.ps_try_manyEX (tb := fun W => tS (J.w W) F) ho.ps hs hf hpa g.tk (fun W pn xe tk po => (hb W pn xe ⟨⟨g.K, g.nd, g.hu⟩, tk, g.room, g.calm, po⟩).ps) (hh.ok g.toBas)) fun D σ H ⟨Hse, He, env, Hs, Hr, R, p⟩ => ?_⟩
  refine ⟨Hse, He, env, Hs, Hr, Rel.cg (J := J) (J' := J.w (wMany X.K J.W D (hdsY X J l))) rfl rfl hx R, ?_⟩
  have p : PostS J Hse He D (match F env with
    | .exc c ks vs e => match pickH c l with
      | some S => endY (S e)
      | none => .exc c ks vs e
    | .nx e => O e
    | r => r) := p
  cases hF : F env with
  | nx e => rw [hF] at p; exact fun σ Hs Hr H R => ⟨Hse, He, e, Hs, Hr, Rel.cg (J := J.w (wMany X.K J.W D (hdsY X J l))) (J' := J) rfl rfl hx R, p⟩
  | bk e => rw [hF] at p; exact fun σ Hs Hr H R => p σ Hs Hr H (Rel.cg (J := J.w (wMany X.K J.W D (hdsY X J l))) (J' := J) rfl rfl hx R)
  | ct e => rw [hF] at p; exact fun σ Hs Hr H R => p σ Hs Hr H (Rel.cg (J := J.w (wMany X.K J.W D (hdsY X J l))) (J' := J) rfl rfl hx R)
  | rt v e => rw [hF] at p; exact fun σ Hs Hr H R => RtW.cg (J := J) (J' := J.w (wMany X.K J.W D (hdsY X J l))) rfl (p σ Hs Hr H (Rel.cg (J := J.w (wMany X.K J.W D (hdsY X J l))) (J' := J) rfl rfl hx R))
  | bad => rw [hF] at p; exact p
  | exc c ks vs e =>
    rw [hF] at p
    exact fun cv d σ Hs Hr H R x => HdsY.post hx g.K hh (Rel.cg (J := J.w (wMany X.K J.W D (hdsY X J l))) (J' := J) rfl rfl hx R) x p
end
end DL

/-! ### C() of a class without an own __init__ -/
namespace L2
open PySem PySem.Spec PyProof.Rows
theorem run_make00 {X : Cx} {C : Addr} {pins : List (Addr × Obj)} {σ : St} {H : Hp} {s : Shared} {Q : VK} (hm : PySem.W.makesIn X.K C = true) (hi : PySem.W.findIn X.K (.ref C) "__init__" = some (some (.builtin "object.__init__")))
    (I : Inv X pins σ H s) (h : ∀ x dx, H x = none → H dx = none → dx ≠ x → Q (.ref x) (upd (upd H dx (.own x)) x (.ins C dx []))) : wpAny (model X.prog X.w) X.A (call (.ref C) []) (EP X pins σ Q) X.xe s := by
  have hq := h (s.heap.objs.size + 1) s.heap.objs.size (I.hok.fresh (Nat.le_succ _)) (I.hok.fresh (Nat.le_refl _)) (Nat.ne_of_lt (Nat.lt_succ_self _))
  have I2 := Inv.made (C := C) I
  have X0 := I.kIn
  obtain ⟨hh, g, d, t, os⟩ := s
  have Y := PySem.W.makes_of (M := model X.prog X.w) X0 hm
  have e2 : ((hh.push PySem.W.emptyDict).push (PySem.W.instObj C hh.objs.size)).get? (hh.objs.size + 1) = some (PySem.W.instObj C hh.objs.size) := by
    have := Heap.get?_push_size (hh.push PySem.W.emptyDict) (o := PySem.W.instObj C hh.objs.size) rfl
    rwa [Heap.size_push] at this
  refine wpAny_call (PySem.W.make_core Y (PySem.W.looks_findIn X0 hi) (fun self => PySem.W.Looks.of_pure (PySem.W.oi_bind self)) (.inr ⟨rfl, rfl⟩) ?_)
  have t1 : PySem.W.Looks (model X.prog X.w) ((hh.push PySem.W.emptyDict).push (PySem.W.instObj C hh.objs.size)) (typeOf (.ref (hh.objs.size + 1))) (.ref C) := (PySem.W.Looks.ld e2).andThen .now
  have t2 : PySem.W.Looks (model X.prog X.w) ((hh.push PySem.W.emptyDict).push (PySem.W.instObj C hh.objs.size)) (isInstance (.ref (hh.objs.size + 1)) (.type "object")) true := t1.andThen (Y.top.keeps fun b o e => Heap.get?_push_of_some _ (Heap.get?_push_of_some _ e))
  refine codeAny_call_builtin PySem.W.oi_plain PySem.W.entry_oi (@PySem.W.check_slot (model X.prog X.w) _ _ _ "object.__init__" "object" "__init__" (.ref (hh.objs.size + 1)) [] [] _ PySem.W.oi_kind PySem.W.oi_split t2 (PySem.W.oi_args (.ref (hh.objs.size + 1))) ?_)
  rw [PySem.W.oi_run]
  exact wpAny_pure (And.intro rfl ⟨V.ref (hh.objs.size + 1), _, I2, rfl, hq⟩)
def tMake00 (C : Addr) : TE := fun _ H Q => ∀ x dx, H x = none → H dx = none → dx ≠ x → Q (.ref x) (upd (upd H dx (.own x)) x (.ins C dx []))
theorem pe_make00 {X : Cx} {C : Addr} {x : Str} {p pos : Pos} (hm : PySem.W.makesIn X.K C = true) (hi : PySem.W.findIn X.K (.ref C) "__init__" = some (some (.builtin "object.__init__"))) (kp : PySem.W.keepIn X.K (.ref C) = true) (hg : Gl X x) (hmg : X.mg x = some (.ref C))
    (hdb : (x == ("__debug__" : Str)) = false := by decide) : PE X (.Call (.Name x p) [] [] pos) (tMake00 C) := by
  refine ⟨fun pins s σ H Q I h => ?_⟩
  refine wpAny_Call_Name_kw (ld_glob I hg hmg ?_ hdb)
  exact PySem.W.callWith_K0 I.kIn kp (run_make00 hm hi I h)
end L2
namespace DL
open PySem PySem.Spec PyProof.Rows L2
def mk0B (c : Str) (K : PySem.W.Frag) : Bool := PySem.W.makesIn K (He.ga K c) && (decide (PySem.W.findIn K (.ref (He.ga K c)) "__init__" = some (some (.builtin "object.__init__"))) && PySem.W.keepIn K (.ref (He.ga K c)))
/-- a class whose objects are made without an own __init__ -/
structure MakZ (G : Gx) (mg : Str → Option Value) (c : Str) : Prop where
  gC : mg c = some (.ref (He.ga G.K c))
  cl : G.co c = some (He.ga G.K c)
  mks : PySem.W.makesIn G.K (He.ga G.K c) = true
  ini : PySem.W.findIn G.K (.ref (He.ga G.K c)) "__init__" = some (some (.builtin "object.__init__"))
  kp : PySem.W.keepIn G.K (.ref (He.ga G.K c)) = true
theorem makZ_of {names xn : List Str} {c : Str} {K : PySem.W.Frag} {mg : Str → Option Value} (gC : mg c = some (.ref (He.ga K c))) (hc : names.contains c = true) (b : mk0B c K = true) : MakZ ⟨K, clOf xn K, clOf names K⟩ mg c := by
  unfold mk0B at b
  rw [Bool.and_eq_true, Bool.and_eq_true] at b
  exact ⟨gC, clOf_in hc, b.1, of_decide_eq_true b.2.1, b.2.2⟩
def make0D (c : Str) : Env → Res EV := fun _ => .ok (.ownt (.obj c [] []))
theorem me_makeZ {X : Cx} {J : Jx} {c : Str} {p pos : Pos} (B : Bas X J) (T : MakZ J.toGx X.mg c) (hg : Gl X c := by rfl) (hdb : (c == ("__debug__" : Str)) = false := by decide) : ME X J (.Call (.Name c p) [] [] pos) (make0D c) := by
  obtain ⟨gC, cl, mk, ini, kp⟩ := T
  rw [← B.K] at mk ini kp gC
  refine ⟨pe_imp (pe_make00 mk ini kp hg gC hdb) fun σ H Q nn => ?_⟩
  obtain ⟨Hse, He, env, Hs, Hr, R, p⟩ := nn
  have p : Post J σ Hs Hr H (.ok (.ownt (.obj c [] []))) (SE J H Q) := p
  intro x dx nx ndx ne
  have e1 := Ext.new0 (o := .own x) R.ok ndx (fun xs z => by cases z)
  have nx2 : upd H dx (.own x) x = none := by rw [upd_ne (fun q => ne q.symm)]; exact nx
  have e2 := Ext.new0 (o := .ins (_root_.He.ga X.K c) dx []) e1.ok nx2 (fun xs z => by cases z)
  have rep : ORep J.toGx Hs (upd (upd H dx (.own x)) x (.ins (_root_.He.ga X.K c) dx [])) (.ref x) (.obj c [] []) [x] := by
    refine ORep.obj (fs := []) (C := _root_.He.ga X.K c) (dx := dx) ?_ upd_same .nil
    rw [cl, B.K]
  exact p Hs Hr _ (e1.trans e2) (.ref x) [x] rep (by simp) (fun q hq => by
    cases List.mem_singleton.mp hq
    exact R.ok.none_r nx) (fun q hq => by
    cases List.mem_singleton.mp hq
    exact nx)
@[simp] theorem make0D_ (c : Str) (env : Env) : make0D c env = .ok (.ownt (.obj c [] [])) := (rfl)
/-! ### C(..) that leaves defaults -/
structure MakE (P : Program) (w : World) (G : Gx) (mg : Str → Option Value) (base : Heap) (c : Str) (n ar : Nat) (dfl : List D) (F : List EV → InitR) : Prop where
  gC : mg c = some (.ref (He.ga G.K c))
  cl : G.co c = some (He.ga G.K c)
  mk_ : Mk G.K (He.ga G.K c) (He.ma G.K (He.ga G.K c) "__init__")
  fn : ∃ fd ps dvs ds, Binds G.K fd ps ds ∧ Vals dvs ds ∧ dfl.map dflV = dvs.map some ∧ FnOk P w G.K mg base (L2.CX P w) n (He.ma G.K (He.ga G.K c) "__init__") fd ps (SpI G c ar F)
def makeED (dfl : List D) (c : Str) (F : List EV → InitR) (xs : List TV) : Res EV := makeD c F (xs ++ dfl.map fun d => (Tg.s, d))
section
variable {X : Cx} {J : Jx} {e o : Expr} {es : List Expr} {pos p : Pos} {c : Str} {n k : Nat} {F : Env → Res (List TV)} {FI : List EV → InitR}
theorem me_makeE {ar : Nat} {dfl : List D} (g : Good X J n) (T : MakE X.prog X.w J.toGx X.mg X.base c k ar dfl FI) (hn : k + 1 ≤ n) (ha : MA X J (e :: es) F) (har : (e :: es).length + dfl.length = ar := by rfl) (hg : Gl X c := by rfl) (hdb : (c == ("__debug__" : Str)) = false := by decide)
    (he : starEach (e :: es) X.env = (false, eval e X.env) :: starEach es X.env := by rfl) (hpl : (backTo pos (starEach es X.env)).any (·.1) = false := by rfl) :
    ME X J (.Call (.Name c p) (e :: es) [] pos) (thenK F (makeED dfl c FI)) := by
  obtain ⟨gC, cl, mk, fd, ps, dvs, ds, hb, hv, hd, hf⟩ := T
  rw [← g.K] at mk hb hf gC
  refine ⟨pe_imp (pe_makeS (E := WE J.W) mk hf (g.room.mono hn) hg gC hb hv (fun σ => passAt g.tk σ) ha.pa hdb he hpl) fun σ H Q nn => ?_⟩
  obtain ⟨Hse, He, env, Hs, Hr, R, p⟩ := nn
  have hF' : (F env).bind (makeED dfl c FI) = (F env).bind fun xs => if xs.length + dfl.length = ar then makeED dfl c FI xs else .bad := by
    cases q : F env with
    | ok xs => show makeED dfl c FI xs = if xs.length + dfl.length = ar then makeED dfl c FI xs else .bad; rw [if_pos (by rw [ha.len env xs q]; exact har)]
    | _ => rfl
  have p : Post J σ Hs Hr H ((F env).bind (makeED dfl c FI)) (SE J H Q) := p
  rw [hF'] at p
  refine ⟨Hse, He, env, Hs, Hr, R, (Post.bind p).imp fun xs Hs1 Hr1 H1 e1 p1 vs rvs => ?_⟩
  split at p1
  · rename_i hlen
    intro x dx n1 n2 ne
    exact ⟨x, dx, _, vs ++ dvs, (xs ++ dfl.map fun d => (Tg.s, d)).map toArg, Hs1, H1, rfl, by rw [← g.K] at cl; exact cl, rfl, n1, n2, ne, ⟨e1.ok.sh, Same.refl _, e1.ok.ti⟩, by simpa using hlen, args_of e1.ok (repTs_app rvs (dfl_reps hd)), postI_of e1.ok e1.h p1⟩
  · exact (show False from p1).elim
end
theorem makE_of {P : Program} {w : World} {G : Gx} {mg : Str → Option Value} {base : Heap} {c qual : Str} {st : Stmt} {dvs : List V} {fd : FuncData} {n ar : Nat} {dfl : List D} {Fn : List EV → InitR} (ps : List Str) (gC : mg c = some (.ref (He.ga G.K c))) (cl : G.co c = some (He.ga G.K c)) (mk : Mk G.K (He.ga G.K c) (He.ma G.K (He.ga G.K c) "__init__"))
    (F : FnT G.K "__init__" qual st dvs (He.ma G.K (He.ga G.K c) "__init__") fd) (m j : Nat) (hd : dvs ≠ []) (hm : m + (dvs.length - j) = ps.length)
    (h : ∀ (T : Addr) (kV doc pm : Value) (an : Option Addr) (cdv ct : Value) (us its : List Value), us.length = m → its.length = dvs.length →
      ∃ k, bindArgs (PySem.W.fnOf "__init__" qual (defArgs st) (defBody st) (defScope st) (.ref T) kV doc pm an cdv ct) ⟨us, []⟩ = seqItems? (.ref T) >>= k ∧ k (some its.toArray) = pure (ps.zip (us ++ its.drop j)))
    (hdf : dfl.map dflV = (dvs.drop j).map some) (ok : FnOk P w G.K mg base (L2.CX P w) n (He.ma G.K (He.ga G.K c) "__init__") fd ps (SpI G c ar Fn)) : MakE P w G mg base c n ar dfl Fn := by
  obtain ⟨ds, v, b⟩ := FunD.binds1 (ps := ps) F m j hd hm h
  exact ⟨gC, cl, mk, fd, ps, _, _, b, v, hdf, ok⟩
end DL

namespace DL
open PySem PySem.Spec PyProof.Rows L2
/-! ### [[a, b], [c, d]][i]: one of two lists made here, which is the asker's own -/
def okL (xs : List TV) : Bool := xs.all shV && decide (xs.length ≤ 16777216)
def kPick2 (xs ys : List TV) (k : TV) : Res EV := match k.2 with
  | .int i => if i = 0 then .ok (.own (xs.map (·.2))) else if i = 1 then .ok (.own (ys.map (·.2))) else .bad
  | _ => .bad
def pick2 (F1 F2 : Env → Res (List TV)) (f : Env → Res TV) : Env → Res EV := fun env => (F1 env).bind fun xs => if okL xs = true then (F2 env).bind fun ys => if okL ys = true then (f env).bind fun k => kPick2 xs ys k else .bad else .bad
theorem me_pick2 {X : Cx} {J : Jx} {es1 es2 : List Expr} {ix : Expr} {p1 p2 p3 pos : Pos} {F1 F2 : Env → Res (List TV)} {f : Env → Res TV} (ha : MA X J es1 F1) (hb : MA X J es2 F2) (hi : MV X J ix f) (hs : PlainIx ix := by exact fun _ _ => rfl)
    (hs1 : starEach [.List es1 p1, .List es2 p2] X.env = (false, eval (.List es1 p1) X.env) :: starEach [.List es2 p2] X.env := by rfl) (hs2 : starEach [.List es2 p2] X.env = (false, eval (.List es2 p2) X.env) :: starEach [] X.env := by rfl) :
    ME X J (.Subscript (.List [.List es1 p1, .List es2 p2] p3) ix pos) (pick2 F1 F2 f) := by
  refine ⟨pe_imp (pe_ix ix_seq (pe_lst (pa_cons (pe_lst ha.pa) (pa_cons (pe_lst hb.pa) pa_nil hs2) hs1)) hi.pe hs) fun σ H Q n => ?_⟩
  obtain ⟨Hse, He, env, Hs, Hr, R, p⟩ := n
  have p : Post J σ Hs Hr H ((F1 env).bind fun xs => if okL xs = true then (F2 env).bind fun ys => if okL ys = true then (f env).bind fun k => kPick2 xs ys k else .bad else .bad) (SE J H Q) := p
  refine ⟨Hse, He, env, Hs, Hr, R, (Post.bind p).imp fun xs Hs1 Hr1 H1 e1 p1 vs rv => ?_⟩
  split at p1
  · rename_i o1
    unfold okL at o1
    rw [Bool.and_eq_true] at o1
    have l1 := of_decide_eq_true o1.2
    refine ⟨by rw [sizeLine_eq, repTs_len rv]; exact l1, fun q1 hq1 => ?_⟩
    have x1 := Ext.new0 (o := .lst vs) e1.ok hq1 (fun xs z => by cases z)
    have rv1 := shVs_reps e1.ok rv o1.1
    refine ⟨Hse, He, env, Hs1, Hr1, R.ext (e1.trans x1), (Post.bind (p1.ext x1 fun _ _ _ _ z => z)).imp fun ys Hs2 Hr2 H2 e2 p2 ws rw_ => ?_⟩
    split at p2
    · rename_i o2
      unfold okL at o2
      rw [Bool.and_eq_true] at o2
      have l2 := of_decide_eq_true o2.2
      refine ⟨by rw [sizeLine_eq, repTs_len rw_]; exact l2, fun q2 hq2 => ?_⟩
      have x2 := Ext.new0 (o := .lst ws) e2.ok hq2 (fun xs z => by cases z)
      have rv2 := shVs_reps e2.ok rw_ o2.1
      refine ⟨by rw [sizeLine_eq]; show 2 ≤ 16777216; decide, fun q3 hq3 => ?_⟩
      have x3 := Ext.new0 (o := .lst [V.ref q1, V.ref q2]) x2.ok hq3 (fun xs z => by cases z)
      have ee := ((e1.trans x1).trans e2).trans (x2.trans x3)
      refine ⟨Hse, He, env, Hs2, Hr2, R.ext ee, (Post.bind (p2.ext (x2.trans x3) fun _ _ _ _ z => z)).imp fun k Hs4 Hr4 H4 e4 p4 kv rk => ?_⟩
      obtain ⟨t, d⟩ := k
      -- where the lists stand
      have g1 : H4 q1 = some (.lst vs) := e4.h _ _ (x3.h _ _ (x2.h _ _ (e2.h _ _ upd_same)))
      have n1 : Hr4 q1 = none := by
        have z := (e2.trans (x2.trans (x3.trans e4))).nr q1
        cases hh : Hr4 q1 with
        | none => rfl
        | some o =>
          rcases z o hh with z | z
          · rw [e1.ok.none_r hq1] at z; cases z
          · rw [upd_same] at z; cases z
      have g2 : H4 q2 = some (.lst ws) := e4.h _ _ (x3.h _ _ upd_same)
      have n2 : Hr4 q2 = none := by
        have z := (x3.trans e4).nr q2
        cases hh : Hr4 q2 with
        | none => rfl
        | some o =>
          rcases z o hh with z | z
          · rw [e2.ok.none_r hq2] at z; cases z
          · rw [upd_same] at z; cases z
      have g3 : H4 q3 = some (.lst [V.ref q1, V.ref q2]) := e4.h _ _ upd_same
      have f1 : H q1 = none := e1.h.free hq1
      have f2 : H q2 = none := ((e1.trans x1).trans e2).h.free hq2
      have r1 : Reps J.toGx Hs4 vs (xs.map (·.2)) := rv1.mono ((x1.s.trans e2.s).trans ((x2.s.trans x3.s).trans e4.s))
      have r2 : Reps J.toGx Hs4 ws (ys.map (·.2)) := rv2.mono ((x2.s.trans x3.s).trans e4.s)
      unfold kPick2 at p4
      dsimp only at p4
      split at p4
      · rename_i i
        cases rk.isInt e4.ok
        split at p4
        · rename_i i0
          subst i0
          exact .inl ⟨q3, [V.ref q1, V.ref q2], 0, V.ref q1, rfl, rfl, .inl (.inl g3), rfl, Post.now e4.ok p4 q1 vs g1 n1 f1 r1⟩
        · split at p4
          · rename_i i1
            subst i1
            exact .inl ⟨q3, [V.ref q1, V.ref q2], 1, V.ref q2, rfl, rfl, .inl (.inl g3), rfl, Post.now e4.ok p4 q2 ws g2 n2 f2 r2⟩
          · exact (show False from p4).elim
      · exact (show False from p4).elim
    · exact (show False from p2).elim
  · exact (show False from p1).elim
@[simp] theorem pick2_ (F1 F2 : Env → Res (List TV)) (f : Env → Res TV) (env : Env) : pick2 F1 F2 f env = (F1 env).bind fun xs => if okL xs = true then (F2 env).bind fun ys => if okL ys = true then (f env).bind fun k => kPick2 xs ys k else .bad else .bad := (rfl)
@[simp] theorem kPick2_i (xs ys : List TV) (t : Tg) (i : Int) : kPick2 xs ys (t, .int i) = if i = 0 then .ok (.own (xs.map (·.2))) else if i = 1 then .ok (.own (ys.map (·.2))) else .bad := (rfl)
end DL

namespace DL
open PySem PySem.Spec PyProof.Rows L2
/-! ### xs.index(x) of flat items -/
def flatX : D → Bool
  | .non => true | .bl _ => true | .int _ => true | .str _ => true | _ => false
def eqFD : D → D → Bool
  | .non, .non => true
  | .bl a, .bl b => a == b
  | .bl a, .int b => (if a then 1 else 0) == b
  | .int a, .bl b => a == (if b then 1 else 0)
  | .int a, .int b => a == b
  | .str a, .str b => a == b
  | _, _ => false
def kIdx (ys : List D) (y : TV) : Res TV := if ys.all flatX = true ∧ flatX y.2 = true ∧ ys.findIdx (fun z => eqFD z y.2) < ys.length then oki (ys.findIdx (fun z => eqFD z y.2) : Nat) else .bad
def indexS (f f2 : Env → Res TV) : Env → Res TV := fun env => (f env).bind fun x => match x.2 with
  | .lst ys => (f2 env).bind fun y => kIdx ys y
  | _ => .bad
theorem Rep.flat {G : Gx} {H : Hp} {v : V} {d : D} (r : Rep G H v d) (h : flatX d = true) : flatV v = true := by
  cases r <;> first | rfl | exact absurd h (by decide) | (simp [flatX] at h)
theorem Rep.eqF {G : Gx} {H H2 : Hp} {v w : V} {d e : D} (r : Rep G H v d) (q : Rep G H2 w e) (h : flatX d = true) (k : flatX e = true) : eqV v w = eqFD d e := by
  cases r <;> first | (simp [flatX] at h; done) | (cases q <;> first | rfl | (simp [flatX] at k; done))
section
variable {X : Cx} {J : Jx} {o e : Expr} {f f2 : Env → Res TV} {apos cpos : Pos}
theorem mv_index (ho : MV X J o f) (ha : MV X J e f2) (hs0 : starEach [e] X.env = (false, eval e X.env) :: starEach [] X.env := by rfl)
    (hbase : attributeBase o "index" X.env (eval o X.env) = eval o X.env := by rfl)
    (hfew : ((backTo cpos (starEach [e] X.env)).all (fun x => !x.1) && (backToKw cpos (keywordEach [] X.env)).all (fun x => x.1.isSome) && decide ([e].length + ([] : List Keyword).length + (if ([] : List Keyword).isEmpty then 0 else 1) < 30)) = true := by rfl)
    (hline : (apos.endLine == cpos.line) = true := by rfl) (hplain : (backTo cpos (starEach [] X.env)).any (·.1) = false := by rfl) :
    MV X J (.Call (.Attribute o "index" apos) [e] [] cpos) (indexS f f2) := ⟨pe_imp (pe_bm PySem.F.plainAttrs_list PySem.F.slot_list_index PySem.F.type_list_index mt_index ho.pe (pa_cons ha.pe pa_nil hs0) hbase hfew hline hs0 hplain) fun σ H Q ⟨Hse, He, env, Hs, Hr, R, p⟩ => ⟨Hse, He, env, Hs, Hr, R, (Post.bind p).imp fun x Hs1 Hr1 H1 e1 p1 v rv => by
  obtain ⟨t, d⟩ := x
  cases d with
  | lst ys =>
    obtain ⟨a, vs, rfl, h1, h2⟩ := rv.isLst e1.ok
    refine ⟨.inl ⟨rfl, vs, .inl (.inl h1)⟩, Hse, He, env, Hs1, Hr1, R.ext e1, (Post.bind p1).imp fun y Hs2 Hr2 H2 e2 p2 w rw => ?_⟩
    have h1' := e2.h _ _ h1
    have h2' := h2.mono e2.h
    unfold kIdx at p2
    split at p2
    · rename_i c
      obtain ⟨c1, c2, c3⟩ := c
      have rw2 := rw.h e2.ok
      have fy := rw2.flat c2
      have ge : ∀ (m : Nat) (z : V), vs[m]? = some z → ∃ d', ys[m]? = some d' ∧ Rep J.toGx H2 z d' := fun m z hz => by
        have hl := (List.getElem?_eq_some_iff.mp hz).1
        have hl2 : m < ys.length := by have := Reps.length h2'; omega
        obtain ⟨u, g1, g2⟩ := h2'.get (List.getElem?_eq_getElem hl2)
        rw [hz] at g1
        cases g1
        exact ⟨_, List.getElem?_eq_getElem hl2, g2⟩
      have ff : ∀ d' ∈ ys, flatX d' = true := List.all_eq_true.mp c1
      obtain ⟨u, g1, g2⟩ := h2'.get (List.getElem?_eq_getElem c3)
      refine ⟨a, vs, w, _, u, rfl, rfl, .inl (.inl h1'), fy, List.all_eq_true.mpr fun z hz => ?_, g1, ?_, fun m z' hm hz' => ?_, ?_⟩
      · obtain ⟨m, hm⟩ := List.getElem?_of_mem hz
        obtain ⟨d', q1, q2⟩ := ge m z hm
        exact q2.flat (ff d' (List.mem_of_getElem? q1))
      · rw [g2.eqF rw2 (ff _ (List.getElem_mem c3)) c2]
        exact List.findIdx_getElem (w := c3)
      · obtain ⟨d', q1, q2⟩ := ge m z' hz'
        rw [q2.eqF rw2 (ff d' (List.mem_of_getElem? q1)) c2]
        have := List.not_of_lt_findIdx hm
        obtain ⟨hm2, rfl⟩ := List.getElem?_eq_some_iff.mp q1
        simpa using this
      · exact Post.now e2.ok p2 _ (.int _)
    · exact (show False from p2).elim
  | _ => exact (show False from p1).elim⟩⟩
end
/-! ### xs.count(x) of flat items -/
def rCount (K : PySem.W.Frag) : V → List V → Hp → VK → Prop := fun x xs H Q => ∃ (a : Addr) (ys : List V) (y : V), x = V.ref a ∧ xs = [y] ∧ SqL K H a ys ∧ flatV y = true ∧ ys.all flatV = true ∧ Q (.int (ys.countP (fun z => eqV z y) : Nat)) H
theorem count_vals {y : V} : ∀ {ys : List V} {its : List Value}, Vals ys its → ys.all flatV = true → its.countP (eqU y) = ys.countP fun z => eqV z y
  | [], _, .nil, _ => rfl
  | z :: ys, _, .cons h r, f => by
    rw [List.all_cons, Bool.and_eq_true] at f
    rw [List.countP_cons, List.countP_cons, count_vals r f.2, eqU_of h f.1]
theorem mt_countF {X : Cx} : MtR X "list.count" (rCount X.K) := by
  intro pins s σ H x xs v us Q I rx rxs h
  obtain ⟨a, ys, y, rfl, rfl, hs, fy, fys, q⟩ := h
  cases rx
  cases rxs with
  | cons ry rt =>
    rename_i uy ut
    cases rt
    obtain ⟨its, rv, ⟨⟨cls, dd, data, sl⟩, n, ho, hc, hdn, hd⟩, hlen⟩ := I.list hs
    simp only at hc hd
    subst hc hd
    refine call_meets PySem.F.slot_list_count ⟨_, ho, rfl⟩ PySem.F.entry_list_count (PySem.F.args_list_count_2 _ _)
      (SeqAt.list_countAt a its.toArray n dd sl uy (eqU y)) ⟨ho, fun u' hu' => mem_eqAt ry fy rv fys u' (by simpa using hu'), ?_⟩
    refine ⟨.int (ys.countP (fun z => eqV z y) : Nat), H, I.tok _, ⟨s.toks, ?_⟩, q⟩
    show Value.int ((its.toArray.toList.countP (eqU y) : Nat) : Int) s.toks = _
    rw [show its.toArray.toList = its from rfl, count_vals rv fys]
def kCnt (ys : List D) (y : TV) : Res TV := if ys.all flatX = true ∧ flatX y.2 = true then oki (ys.countP (fun z => eqFD z y.2) : Nat) else .bad
def countS (f f2 : Env → Res TV) : Env → Res TV := fun env => (f env).bind fun x => match x.2 with
  | .lst ys => (f2 env).bind fun y => kCnt ys y
  | _ => .bad
theorem count_reps {G : Gx} {H H2 : Hp} {w : V} {e : D} (rw2 : Rep G H2 w e) (fe : flatX e = true) : ∀ {vs : List V} {ys : List D}, Reps G H vs ys → ys.all flatX = true → vs.all flatV = true ∧ vs.countP (fun z => eqV z w) = ys.countP (fun z => eqFD z e)
  | _, _, .nil, _ => ⟨rfl, rfl⟩
  | _, _, .cons h r, f => by
    rw [List.all_cons, Bool.and_eq_true] at f
    obtain ⟨g1, g2⟩ := count_reps rw2 fe r f.2
    refine ⟨by rw [List.all_cons, h.flat f.1, g1] <;> rfl, ?_⟩
    rw [List.countP_cons, List.countP_cons, g2, h.eqF rw2 f.1 fe]
section
variable {X : Cx} {J : Jx} {o e : Expr} {f f2 : Env → Res TV} {apos cpos : Pos}
theorem mv_count (ho : MV X J o f) (ha : MV X J e f2) (hs0 : starEach [e] X.env = (false, eval e X.env) :: starEach [] X.env := by rfl)
    (hbase : attributeBase o "count" X.env (eval o X.env) = eval o X.env := by rfl)
    (hfew : ((backTo cpos (starEach [e] X.env)).all (fun x => !x.1) && (backToKw cpos (keywordEach [] X.env)).all (fun x => x.1.isSome) && decide ([e].length + ([] : List Keyword).length + (if ([] : List Keyword).isEmpty then 0 else 1) < 30)) = true := by rfl)
    (hline : (apos.endLine == cpos.line) = true := by rfl) (hplain : (backTo cpos (starEach [] X.env)).any (·.1) = false := by rfl) :
    MV X J (.Call (.Attribute o "count" apos) [e] [] cpos) (countS f f2) := ⟨pe_imp (pe_bm PySem.F.plainAttrs_list PySem.F.slot_list_count PySem.F.type_list_count mt_countF ho.pe (pa_cons ha.pe pa_nil hs0) hbase hfew hline hs0 hplain) fun σ H Q ⟨Hse, He, env, Hs, Hr, R, p⟩ => ⟨Hse, He, env, Hs, Hr, R, (Post.bind p).imp fun x Hs1 Hr1 H1 e1 p1 v rv => by
  obtain ⟨t, d⟩ := x
  cases d with
  | lst ys =>
    obtain ⟨a, vs, rfl, h1, h2⟩ := rv.isLst e1.ok
    refine ⟨.inl ⟨rfl, vs, .inl (.inl h1)⟩, Hse, He, env, Hs1, Hr1, R.ext e1, (Post.bind p1).imp fun y Hs2 Hr2 H2 e2 p2 w rw => ?_⟩
    have h1' := e2.h _ _ h1
    have h2' := h2.mono e2.h
    unfold kCnt at p2
    split at p2
    · rename_i c
      obtain ⟨c1, c2⟩ := c
      have rw2 := rw.h e2.ok
      obtain ⟨g1, g2⟩ := count_reps rw2 c2 h2' c1
      refine ⟨a, vs, w, rfl, rfl, .inl (.inl h1'), rw2.flat c2, g1, ?_⟩
      rw [g2]
      exact Post.now e2.ok p2 _ (.int _)
    · exact (show False from p2).elim
  | _ => exact (show False from p1).elim⟩⟩
end
@[simp] theorem kIdx_b (ys : List D) (t : Tg) (b : Bool) : kIdx ys (t, .bl b) = if ys.all flatX = true ∧ ys.findIdx (fun z => eqFD z (.bl b)) < ys.length then .ok (.s, .int (ys.findIdx (fun z => eqFD z (.bl b)) : Nat)) else .bad := by
  unfold kIdx
  simp [flatX, oki]
theorem kIdx_i (ns : List Int) (t : Tg) (k : Int) (h : k ∈ ns) : kIdx (ns.map D.int) (t, .int k) = .ok (.s, .int (ns.idxOf k : Nat)) := by
  have e : (ns.map D.int).findIdx (fun z => eqFD z (.int k)) = ns.idxOf k := by
    rw [List.findIdx_map]
    rfl
  have a : (ns.map D.int).all flatX = true := by
    rw [List.all_map]
    exact List.all_eq_true.mpr fun _ _ => rfl
  unfold kIdx
  dsimp only
  rw [e, if_pos ⟨a, rfl, by rw [List.length_map]; exact List.idxOf_lt_length_iff.mpr h⟩] <;> rfl
end DL

namespace DL
open PySem PySem.Spec PyProof.Rows L2
/-! ### defs that change what is lent to them: own lists, dicts, trees -/
def cutF (H : Hp) (fp : List Addr) : Hp := fun a => if a ∈ fp then none else H a
theorem cutF_in {H : Hp} {fp : List Addr} {a : Addr} (h : a ∈ fp) : cutF H fp a = none := if_pos h
theorem cutF_out {H : Hp} {fp : List Addr} {a : Addr} (h : a ∉ fp) : cutF H fp a = H a := if_neg h
theorem cutF_some {H : Hp} {fp : List Addr} {a : Addr} {o : HO} (h : cutF H fp a = some o) : a ∉ fp ∧ H a = some o := by
  unfold cutF at h
  split at h
  · cases h
  · rename_i q; exact ⟨q, h⟩
theorem HpOk.cut {Hs Hr H : Hp} (k : HpOk Hs Hr H) {fp : List Addr} (h : ∀ p ∈ fp, Hr p = none) : HpOk Hs Hr (cutF H fp) ∧ HpOk Hs (cutF H fp) H := by
  have out : ∀ a o, Hr a = some o → a ∉ fp := fun a o e z => by rw [h a z] at e; cases e
  refine ⟨⟨k.sr, fun a o e => by rw [cutF_out (out a o e)]; exact k.rh a o e, fun a xs e => k.ti a xs (cutF_some e).2⟩, ⟨fun a o e => ?_, fun a o e => (cutF_some e).2, k.ti⟩⟩
  have e2 := k.sr a o e
  rw [cutF_out (out a o e2)]
  exact k.rh a o e2
/-- what is lent stands at v, outside of what may be read -/
def LentOk (G : Gx) (Hs H0 H : Hp) (v : V) : EV → Prop
  | .own xs => ∃ p vs, v = .ref p ∧ H p = some (.lst vs) ∧ H0 p = none ∧ Reps G Hs vs xs
  | .ownd ks xs => ∃ p kvs, v = .ref p ∧ H p = some (.dK kvs) ∧ H0 p = none ∧ kvs.map (·.1) = ks ∧ Reps G Hs (kvs.map (·.2)) xs
  | .ownt t => ∃ fp, ORep G Hs H v t fp ∧ fp.Nodup ∧ ∀ p ∈ fp, H0 p = none
  | _ => False
theorem LentOk.slot {J : Jx} {Hs H0 H : Hp} {v : V} : ∀ {e : EV}, LentOk J.toGx Hs H0 H v e → SlotOk J Hs H0 H (some (some v)) e
  | .own xs, ⟨p, vs, a, b, c, r⟩ => ⟨p, vs, by rw [a], b, c, r⟩
  | .ownd ks xs, ⟨p, vs, a, b, c, k, r⟩ => ⟨p, vs, by rw [a], b, c, k, r⟩
  | .ownt t, ⟨fp, a, b, c⟩ => ⟨v, fp, rfl, a, b, c⟩
  | .val _ _, h => h.elim
  | .exn _ _ _, h => h.elim
theorem SlotOk.lent {J : Jx} {Hs H0 H : Hp} {v : V} : ∀ {e : EV}, isOwn e = true → SlotOk J Hs H0 H (some (some v)) e → LentOk J.toGx Hs H0 H v e
  | .own xs, _, ⟨p, vs, a, b, c, r⟩ => ⟨p, vs, Option.some.inj (Option.some.inj a), b, c, r⟩
  | .ownd ks xs, _, ⟨p, vs, a, b, c, k, r⟩ => ⟨p, vs, Option.some.inj (Option.some.inj a), b, c, k, r⟩
  | .ownt t, _, ⟨w, fp, e, a, b, c⟩ => by
    cases Option.some.inj (Option.some.inj e)
    exact ⟨fp, a, b, c⟩
  | .val _ _, h, _ => by cases h
  | .exn _ _ _, h, _ => by cases h
/-- the readable part may be another one, where the places stay out of it -/
theorem LentOk.re {G : Gx} {Hs H0 H1 H : Hp} {v : V} (h : ∀ p, H0 p = none → H1 p = none) : ∀ {e : EV}, LentOk G Hs H0 H v e → LentOk G Hs H1 H v e
  | .own xs, ⟨p, vs, a, b, c, r⟩ => ⟨p, vs, a, b, h p c, r⟩
  | .ownd ks xs, ⟨p, vs, a, b, c, k, r⟩ => ⟨p, vs, a, b, h p c, k, r⟩
  | .ownt t, ⟨fp, a, b, c⟩ => ⟨fp, a, b, fun p hp => h p (c p hp)⟩
  | .val _ _, h => h.elim
  | .exn _ _ _, h => h.elim
theorem LentOk.out {G : Gx} {Hs H0 H : Hp} {v : V} : ∀ {e : EV} {fp : List Addr}, LentOk G Hs H0 H v e → OwFp G Hs H (some (some v)) fp e → ∀ p ∈ fp, H0 p = none
  | .own xs, fp, ⟨p, vs, a, b, c, r⟩, ⟨q, e, f⟩ => fun z hz => by
    rw [a] at e; cases e; subst f; cases List.mem_singleton.mp hz; exact c
  | .ownd ks xs, fp, ⟨p, vs, a, b, c, k, r⟩, ⟨q, e, f⟩ => fun z hz => by
    rw [a] at e; cases e; subst f; cases List.mem_singleton.mp hz; exact c
  | .ownt t, fp, ⟨f, a, b, c⟩, ⟨w, e, r⟩ => fun z hz => by
    cases Option.some.inj (Option.some.inj e)
    cases a.det r
    exact c z hz
  | .val _ _, _, h, _ => h.elim
  | .exn _ _ _, _, h, _ => h.elim
/-- what such a def hands back: a shared result, and what becomes of the lent -/
inductive MR where
  | ok (d : D) (e : EV) | exc (c : Str) (ks : List Str) (vs : List D) (e : EV) | bad
def PostM (G : Gx) (Hs H0 : Hp) (v : V) (r : MR) (Q : VK) (E : XK) : Prop := match r with
  | .ok d e => ∀ u Hs' H', Ret Hs H0 Hs' H' → Rep G Hs' u d → LentOk G Hs' (joinH H0 Hs') H' v e → Q u H'
  | .exc c ks vs e => ∀ cv d Hs' H', Ret Hs H0 Hs' H' → ExcOk G Hs' c ks vs cv d → LentOk G Hs' (joinH H0 Hs') H' v e → E cv d H'
  | .bad => False
def ArgsM (G : Gx) (Hs H0 H : Hp) (l : Nat) (v : V) (vs : List V) (args : List EV) : Prop := vs.length = args.length ∧ ∀ (i : Nat) (e : EV), args[i]? = some e → ∃ u, vs[i]? = some u ∧ ((i = l ∧ u = v ∧ LentOk G Hs H0 H v e) ∨ (i ≠ l ∧ ArgOk G Hs H0 u e))
def SpM (G : Gx) (ar l : Nat) (F : List EV → MR) : Sp := fun vs H Q E => ∃ args Hs H0 v, HpOk Hs H0 H ∧ args.length = ar ∧ l < ar ∧ ArgsM G Hs H0 H l v vs args ∧ PostM G Hs H0 v (F args) Q E
def lentE (l : Nat) (env : Env) (k : EV → MR) : MR := match (env[l]? : Option (Option EV)) with
  | some (some e) => if isOwn e = true then k e else .bad
  | _ => .bad
def outM (l : Nat) : SR → MR
  | .nx env => lentE l env fun e => .ok .non e
  | .rt (.val t d) env => lentE l env fun e => if shV (t, d) = true then .ok d e else .bad
  | .exc c ks vs env => lentE l env fun e => .exc c ks vs e
  | _ => .bad
def runM (l nN : Nat) (FB : Env → SR) (args : List EV) : MR := outM l (FB (args.map some ++ List.replicate (nN - args.length) none))
abbrev Gx.jm (G : Gx) (E : XK) (l : Nat) (v : V) : Jx := { G with W := fun cls d _ H => E cls d H, xa := none, pin := [(l, v)] }
theorem lentE_back {G : Gx} {E : XK} {l : Nat} {v : V} {Hs H0 : Hp} {env : Env} {k : EV → MR} {Q : VK} {E2 : XK} {P : Prop} (p : PostM G Hs H0 v (lentE l env k) Q E2)
    (h : ∀ e, isOwn e = true → (∀ σ Hs' Hr' H', Rel (G.jm E l v) Hs H0 env σ Hs' Hr' H' → LentOk G Hs' (joinH H0 Hs') H' v e) → PostM G Hs H0 v (k e) Q E2 → P) : P := by
  unfold lentE at p
  split at p
  · rename_i e q
    split at p
    · rename_i o
      refine h e o (fun σ Hs' Hr' H' R => ?_) p
      have hp := R.pin (l, v) (List.mem_singleton.mpr rfl)
      have so := R.slot l e q
      rw [hp] at so
      refine LentOk.re (fun p hp => ?_) (SlotOk.lent o so)
      exact joinH_none (R.he.free hp) (R.ok.sr.free hp)
    · exact (show False from p).elim
  · exact (show False from p).elim
theorem post_outM {G : Gx} {l : Nat} {v : V} {Hs H0 : Hp} {Q : VK} {E : XK} : ∀ {r : SR}, PostM G Hs H0 v (outM l r) Q E → PostS (G.jm E l v) Hs H0 { nx := fun _ H' => Q .non H', rt := Q } r
  | .nx env, p => lentE_back (E := E) p fun e o hb p => fun σ Hs' Hr' H' R => p .non Hs' H' R.ret .non (hb σ Hs' Hr' H' R)
  | .rt (.val t d) env, p => lentE_back (E := E) p fun e o hb p => fun σ Hs' Hr' H' R => by
    split at p
    · rename_i sh
      have fin : ∀ u, Rep G Hs' u d → Q u H' := fun u r => p u Hs' H' R.ret r (hb σ Hs' Hr' H' R)
      cases t with
      | s => exact fin
      | _ => exact fun u r => fin u (r.imm R.ok.ti sh)
    · exact (show False from p).elim
  | .rt (.own _) env, p => (show False from p).elim
  | .rt (.ownd _ _) env, p => (show False from p).elim
  | .rt (.ownt _) env, p => (show False from p).elim
  | .rt (.exn _ _ _) env, p => (show False from p).elim
  | .exc c ks vs env, p => lentE_back (E := E) p fun e o hb p => fun cv d σ Hs' Hr' H' R x => p cv d Hs' H' R.ret x (hb σ Hs' Hr' H' R)
  | .bk env, p => (show False from p).elim
  | .ct env, p => (show False from p).elim
  | .bad, p => (show False from p).elim
theorem start_relM {G : Gx} {N : List Str} {FB : Env → SR} {Hs H0 H : Hp} {l ar : Nat} {v : V} {vs : List V} {args : List EV} {Q : VK} {E : XK} (k : HpOk Hs H0 H) (la : args.length = ar) (ll : l < ar) (a : ArgsM G Hs H0 H l v vs args) (p : PostM G Hs H0 v (runM l N.length FB args) Q E) :
    tS (G.jm E l v) FB { nx := fun _ H' => Q .non H', rt := Q } (L2.start N vs) H := by
  obtain ⟨a1, a2⟩ := a
  have st : ∀ i e, (args.map some ++ List.replicate (N.length - args.length) none)[i]? = some (some e) → ∃ u, args[i]? = some e ∧ (L2.start N vs)[i]? = some (some u) ∧ ((i = l ∧ u = v ∧ LentOk G Hs H0 H v e) ∨ (i ≠ l ∧ ArgOk G Hs H0 u e)) := fun i e he => by
    have h := start_get he
    obtain ⟨u, h1, h2⟩ := a2 i e h
    refine ⟨u, h, ?_, h2⟩
    unfold L2.start
    have hi : i < vs.length := (List.getElem?_eq_some_iff.mp h1).1
    rw [List.getElem?_append_left (by simpa using hi)]
    simp [h1]
  refine ⟨Hs, H0, args.map some ++ List.replicate (N.length - args.length) none, Hs, H0, ⟨k, ?_, fun i e he => ?_, fun i j q ne ha hb => ?_, Same.refl _, Same.refl _, fun _ _ e => .inl e, fun q hq => ?_⟩, post_outM p⟩
  · unfold L2.start
    simp [a1]
  · obtain ⟨u, h1, h2, h3⟩ := st i e he
    rw [h2]
    rcases h3 with ⟨rfl, rfl, h3⟩ | ⟨_, h3⟩
    · exact h3.slot
    · cases e with
      | val t d => cases t <;> first | exact ⟨u, rfl, h3⟩ | exact h3.elim
      | _ => exact h3.elim
  · have only : ∀ i, OwnAt G Hs H (args.map some ++ List.replicate (N.length - args.length) none) (L2.start N vs) i q → i = l := fun i ⟨e, fp, g1, g2, g3⟩ => by
      obtain ⟨u, h1, h2, h3⟩ := st i e g1
      rcases h3 with ⟨h3, _⟩ | ⟨_, h3⟩
      · exact h3
      · cases e with
        | val t d => cases (show fp = [] from g2); cases g3
        | _ => exact h3.elim
    exact ne ((only i ha).trans (only j hb).symm)
  · cases List.mem_singleton.mp hq
    obtain ⟨e, he⟩ : ∃ e, args[l]? = some e := ⟨args[l]'(by omega), List.getElem?_eq_getElem (by omega)⟩
    obtain ⟨u, h1, h2⟩ := a2 l e he
    rcases h2 with ⟨_, rfl, _⟩ | ⟨h2, _⟩
    · unfold L2.start
      have hi : l < vs.length := (List.getElem?_eq_some_iff.mp h1).1
      show (vs.map some ++ _)[l]? = _
      rw [List.getElem?_append_left (by simpa using hi)]
      simp [h1]
    · exact absurd rfl h2
/-- THE RULE for such a def -/
theorem fn_okM {P : Program} {w : World} {G : Gx} {mg : Str → Option Value} {base : Heap} {x qual : Str} {st : Stmt} {dvs : List V} {f : Addr} {fd : FuncData} {N ps : List Str} {n : Nat} {FB : Env → SR} (l : Nat) (F : FnT G.K x qual st dvs f fd) (S : FnScope N ps (defScope st))
    (hb : ∀ (cdv : Value) (A : Around) (outer : List PySem.Env) (s : Shared) (H : Hp) (E : XK) (v : V), Good (cxOf (L2.CX P w) P w G.K mg base N qual (defScope st) f cdv A outer s H E) (G.jm E l v) n →
      MSs (cxOf (L2.CX P w) P w G.K mg base N qual (defScope st) f cdv A outer s H E) (G.jm E l v) (defBody st) FB) : FnOk P w G.K mg base (L2.CX P w) (n + 1) f fd ps (SpM G ps.length l (runM l N.length FB)) := by
  refine FunD.ok F S (fun vs H Q E h => ?_) (fun cdv A outer s H vs Q E hr h => ?_)
  · obtain ⟨args, Hs, H0, v, k, la, ll, a, p⟩ := h
    rw [a.1, la]
  · obtain ⟨args, Hs, H0, v, k, la, ll, a, p⟩ := h
    refine ⟨tS (G.jm E l v) FB, (hb cdv A outer s H E v ?_).ps, start_relM k la ll a p⟩
    exact { K := rfl, nd := S.nd, hu := by have := hr.un; show A.units + 3 + 65 < _; (have h2 : (A.deeper (envOfC qual (defScope st) s.heap.objs.size f cdv)).units = A.units + 3 := rfl); omega, tk := takes_of rfl rfl rfl rfl, room := hr, calm := rfl, po := passes_of rfl }
/-! ### the caller -/
theorem Rel.cut {J : Jx} {Hse He : Hp} {env : Env} {σ : St} {Hs Hr H : Hp} (R : Rel J Hse He env σ Hs Hr H) {fp : List Addr} (hr : ∀ p ∈ fp, Hr p = none) (un : ∀ j p, OwnAt J.toGx Hs H env σ j p → p ∉ fp) : Rel J Hse He env σ Hs Hr (cutF H fp) :=
  have back : ∀ a q, OwnAt J.toGx Hs (cutF H fp) env σ a q → OwnAt J.toGx Hs H env σ a q := fun a q ⟨ea, fa, h1, h2, h3⟩ =>
    ⟨ea, fa, h1, OwFp.back (Same.refl _) (R.slot a ea h1) (fun f hf p hp o h => by rw [cutF_out (un a p ⟨ea, f, h1, hf, hp⟩)]; exact h) h2, h3⟩
  { ok := (R.ok.cut hr).1
    len := R.len
    slot := fun j e h => (R.slot j e h).other fun f hf p hp => cutF_out (un j p ⟨e, f, h, hf, hp⟩)
    dis := fun a b q n ha hb => R.dis a b q n (back a q ha) (back b q hb)
    se := R.se
    he := R.he
    ns := R.ns
    pin := R.pin }
theorem Rel.refill {J : Jx} {Hse He : Hp} {env : Env} {σ : St} {Hs Hr H : Hp} (R : Rel J Hse He env σ Hs Hr H) {i : Nat} {v : V} {e : EV} (hv : σ[i]? = some (some v)) (so : SlotOk J Hs Hr H (some (some v)) e)
    (fr : ∀ fp, OwFp J.toGx Hs H (some (some v)) fp e → ∀ p ∈ fp, ∀ j, j ≠ i → ¬ OwnAt J.toGx Hs H env σ j p) : Rel J Hse He (env.set i (some e)) σ Hs Hr H :=
  have ob : ∀ a q, OwnAt J.toGx Hs H (env.set i (some e)) σ a q → (a = i ∧ ∃ f, OwFp J.toGx Hs H (some (some v)) f e ∧ q ∈ f) ∨ (a ≠ i ∧ OwnAt J.toGx Hs H env σ a q) := fun a q ⟨ea, fa, h1, h2, h3⟩ => by
    rcases getElem?_set_some h1 with ⟨rfl, g1, g2⟩ | ⟨g1, g2⟩
    · cases g1
      rw [hv] at h2
      exact .inl ⟨rfl, fa, h2, h3⟩
    · exact .inr ⟨g1, ea, fa, g2, h2, h3⟩
  { ok := R.ok
    len := by rw [List.length_set]; exact R.len
    slot := fun j e' h => by
      rcases getElem?_set_some h with ⟨rfl, h1, h2⟩ | ⟨h1, h2⟩
      · cases h1; rw [hv]; exact so
      · exact R.slot j e' h2
    dis := fun a b q n ha hb => by
      rcases ob a q ha with ⟨rfl, fa, a1, a2⟩ | ⟨a1, a2⟩
      · rcases ob b q hb with ⟨rfl, _⟩ | ⟨b1, b2⟩
        · exact n rfl
        · exact fr fa a1 q a2 b b1 b2
      · rcases ob b q hb with ⟨rfl, fb, b1, b2⟩ | ⟨b1, b2⟩
        · exact fr fb b1 q b2 a a1 a2
        · exact R.dis a b q n a2 b2
    se := R.se
    he := R.he
    ns := R.ns
    pin := R.pin }
theorem LentOk.fp {G : Gx} {Hs H0 H : Hp} {v : V} : ∀ {e : EV}, LentOk G Hs H0 H v e → ∃ fp, OwFp G Hs H (some (some v)) fp e ∧ (∀ p ∈ fp, H0 p = none) ∧ LentOk G Hs (cutF H fp) H v e
  | .own xs, ⟨p, vs, a, b, c, r⟩ => ⟨[p], ⟨p, by rw [a], rfl⟩, fun q hq => by cases List.mem_singleton.mp hq; exact c, p, vs, a, b, cutF_in (List.mem_singleton.mpr rfl), r⟩
  | .ownd ks xs, ⟨p, vs, a, b, c, k, r⟩ => ⟨[p], ⟨p, by rw [a], rfl⟩, fun q hq => by cases List.mem_singleton.mp hq; exact c, p, vs, a, b, cutF_in (List.mem_singleton.mpr rfl), k, r⟩
  | .ownt t, ⟨f, a, b, c⟩ => ⟨f, ⟨v, rfl, a⟩, c, f, a, b, fun p hp => cutF_in hp⟩
  | .val _ _, h => h.elim
  | .exn _ _ _, h => h.elim
/-- what a slot is to a def that is called -/
def readE (env : Env) (j : Nat) : Option EV := match (env[j]? : Option (Option EV)) with
  | some (some (.own xs)) => some (.val .r (.lst xs))
  | some (some (.ownd ks xs)) => some (.val .r (.dic ks xs))
  | some (some (.ownt t)) => some (.val .r t.d)
  | some (some (.val .s d)) => some (.val .s d)
  | some (some (.val .r d)) => some (.val .r d)
  | _ => none
/-- a slot's own thing is lent, and comes back changed -/
theorem Rel.lend {J : Jx} {Hse He : Hp} {env : Env} {σ : St} {Hs Hr H : Hp} (R : Rel J Hse He env σ Hs Hr H) {i : Nat} {e : EV} {v : V} (h0 : env[i]? = some (some e)) (o : isOwn e = true) (hv : σ[i]? = some (some v)) :
    ∃ H0, HpOk Hs H0 H ∧ LentOk J.toGx Hs H0 H v e ∧ Same Hr H0 ∧ (∀ j a w, j ≠ i → readE env j = some a → σ[j]? = some (some w) → ArgOk J.toGx Hs H0 w a) ∧ ∀ Hs' H' e', Ret Hs H0 Hs' H' → LentOk J.toGx Hs' (joinH H0 Hs') H' v e' → ∃ Hr', Rel J Hse He (env.set i (some e')) σ Hs' Hr' H' := by
  have so := R.slot i e h0
  rw [hv] at so
  obtain ⟨fp, f1, f2, f3⟩ := (SlotOk.lent o so).fp
  obtain ⟨k1, k2⟩ := R.ok.cut f2
  have oth : ∀ j a w, j ≠ i → readE env j = some a → σ[j]? = some (some w) → ArgOk J.toGx Hs (cutF H fp) w a := fun j a w ne hr hw => by
    have un : ∀ e2 f2, env[j]? = some (some e2) → OwFp J.toGx Hs H σ[j]? f2 e2 → ∀ p ∈ f2, p ∉ fp := fun e2 f2 h1 h2 p hp hq => R.dis i j p (Ne.symm ne) ⟨e, fp, h0, by rw [hv]; exact f1, hq⟩ ⟨e2, f2, h1, h2, hp⟩
    unfold readE at hr
    split at hr
    · rename_i xs q
      cases hr
      obtain ⟨p, vs, a1, a2, a3, a4⟩ := R.slot j _ q
      have a1' := a1
      rw [hw] at a1'
      cases a1'
      exact Rep.lst ((cutF_out (un _ [p] q ⟨p, a1, rfl⟩ p (List.mem_singleton.mpr rfl))).trans a2) (a4.mono k2.sr)
    · rename_i ks xs q
      cases hr
      obtain ⟨p, kvs, a1, a2, a3, a5, a4⟩ := R.slot j _ q
      have a1' := a1
      rw [hw] at a1'
      cases a1'
      subst a5
      exact Rep.dic (.inl ((cutF_out (un _ [p] q ⟨p, a1, rfl⟩ p (List.mem_singleton.mpr rfl))).trans a2)) (a4.mono k2.sr)
    · rename_i t q
      cases hr
      obtain ⟨w', f2, a1, a2, a3, a4⟩ := R.slot j _ q
      have a1' := a1
      rw [hw] at a1'
      cases a1'
      exact (a2.frame (Same.refl _) fun p hp o ho => by rw [cutF_out (un _ f2 q ⟨_, a1, a2⟩ p hp)]; exact ho).rep k2.sr
    · rename_i d q
      cases hr
      obtain ⟨w', a1, a2⟩ := R.slot j _ q
      rw [hw] at a1
      cases a1
      exact a2
    · rename_i d q
      cases hr
      obtain ⟨w', a1, a2⟩ := R.slot j _ q
      rw [hw] at a1
      cases a1
      exact Rep.mono k1.rh a2
    · cases hr
  refine ⟨cutF H fp, k2, f3, k1.rh, oth, fun Hs' H' e' ret le => ?_⟩
  have R1 := (R.forget i).cut f2 fun j p ⟨ea, fa, h1, h2, h3⟩ hp => by
    rcases getElem?_set_some h1 with ⟨_, z, _⟩ | ⟨g1, g2⟩
    · cases z
    · exact R.dis i j p (Ne.symm g1) ⟨e, fp, h0, by rw [hv]; exact f1, hp⟩ ⟨ea, fa, g2, h2, h3⟩
  have x := Ret.ext k1 ret
  have R2 := R1.ext x
  have nn : ∀ p, joinH (cutF H fp) Hs' p = none → cutF H fp p = none ∧ Hs' p = none := fun p h => by
    unfold joinH at h
    cases q : cutF H fp p with
    | some u => rw [q] at h; cases h
    | none => rw [q] at h; exact ⟨rfl, h⟩
  have le2 : LentOk J.toGx Hs' (joinH Hr Hs') H' v e' := le.re fun p h => joinH_none (k1.rh.free (nn p h).1) (nn p h).2
  have R3 := R2.refill hv le2.slot fun f hf p hp j _ ⟨ea, fa, h1, h2, h3⟩ => by
    have z := (nn p (le.out hf p hp)).1
    have ow := R1.own ⟨ea, fa, h1, OwFp.back ret.s (R1.slot j ea h1) (fun f' hf' a ha o' h => ret.h a o' h) h2, h3⟩
    obtain ⟨u, hu⟩ := ow.1
    rw [z] at hu
    cases hu
  rw [List.set_set] at R3
  exact ⟨_, R3⟩
/-! ### what such a def is handed -/
inductive AM where
  | l | v (x : TV) | o (j : Nat)
def AM.isL : AM → Bool
  | .l => true
  | _ => false
def RepMs (G : Gx) (Hs Hr H : Hp) (σ : St) (u : V) : List AM → List V → Prop
  | [], vs => vs = []
  | .v x :: r, vs => ∃ v w, vs = v :: w ∧ RepT G x.1 Hs Hr H v x.2 ∧ RepMs G Hs Hr H σ u r w
  | .l :: r, vs => ∃ w, vs = u :: w ∧ RepMs G Hs Hr H σ u r w
  | .o j :: r, vs => ∃ v w, vs = v :: w ∧ σ[j]? = some (some v) ∧ RepMs G Hs Hr H σ u r w
theorem RepMs.ext {G : Gx} {Hs Hr H Hs' Hr' H' : Hp} {σ : St} {u : V} (x : Ext Hs Hr H Hs' Hr' H') : ∀ {xs : List AM} {vs : List V}, RepMs G Hs Hr H σ u xs vs → RepMs G Hs' Hr' H' σ u xs vs
  | [], _, h => h
  | .v _ :: _, _, ⟨v, w, e, a, b⟩ => ⟨v, w, e, a.ext x, RepMs.ext x b⟩
  | .l :: _, _, ⟨w, e, b⟩ => ⟨w, e, RepMs.ext x b⟩
  | .o _ :: _, _, ⟨v, w, e, a, b⟩ => ⟨v, w, e, a, RepMs.ext x b⟩
def argE (x : TV) : Option EV := if imm x.2 = true then some (.val .s x.2) else match x.1 with
  | .s => some (.val .s x.2)
  | .r => some (.val .r x.2)
  | _ => none
def toArgsM (i : Nat) (env : Env) (e : EV) : List AM → Option (List EV)
  | [] => some []
  | .l :: r => (toArgsM i env e r).map (e :: ·)
  | .v x :: r => match argE x, toArgsM i env e r with
    | some a, some as => some (a :: as)
    | _, _ => none
  | .o j :: r => if j = i then none else match readE env j, toArgsM i env e r with
    | some a, some as => some (a :: as)
    | _, _ => none
theorem argE_ok {G : Gx} {Hs Hr H H0 : Hp} (k : HpOk Hs Hr H) (s : Same Hr H0) {x : TV} {a : EV} {v : V} (h : argE x = some a) (r : RepT G x.1 Hs Hr H v x.2) : ArgOk G Hs H0 v a := by
  obtain ⟨t, d⟩ := x
  unfold argE at h
  split at h
  · rename_i i
    cases h
    exact RepT.imm k r i
  · cases t <;> cases h
    · exact Rep.mono s r
    · exact r
theorem argsM_of {G : Gx} {Hs Hr H H0 : Hp} {σ : St} {u : V} {i : Nat} {env : Env} {e : EV} (k : HpOk Hs Hr H) (s : Same Hr H0) (hO : ∀ j a w, j ≠ i → readE env j = some a → σ[j]? = some (some w) → ArgOk G Hs H0 w a) : ∀ {xs : List AM} {vs : List V} {as : List EV}, RepMs G Hs Hr H σ u xs vs → toArgsM i env e xs = some as →
    vs.length = xs.length ∧ as.length = xs.length ∧ ∀ (i : Nat) (a : EV), as[i]? = some a → ∃ w, vs[i]? = some w ∧ ((xs[i]? = some .l ∧ w = u ∧ a = e) ∨ ((∃ x, xs[i]? = some x ∧ x.isL = false) ∧ ArgOk G Hs H0 w a))
  | [], _, _, h, q => by
    cases (show _ = [] from h)
    cases q
    exact ⟨rfl, rfl, fun i a z => by simp at z⟩
  | .l :: r, _, as, ⟨w, h, b⟩, q => by
    subst h
    rw [toArgsM] at q
    cases hq : toArgsM i env e r with
    | none => rw [hq] at q; cases q
    | some as' =>
      rw [hq] at q
      cases q
      obtain ⟨g1, g2, g3⟩ := argsM_of k s hO b hq
      refine ⟨congrArg (· + 1) g1, congrArg (· + 1) g2, fun i a z => ?_⟩
      cases i with
      | zero => simp at z; subst z; exact ⟨u, rfl, .inl ⟨rfl, rfl, rfl⟩⟩
      | succ i =>
        obtain ⟨w', h1, h2⟩ := g3 i a (by simpa using z)
        exact ⟨w', by simpa using h1, by simpa using h2⟩
  | .v x :: r, _, as, ⟨v, w, h, hx, b⟩, q => by
    subst h
    rw [toArgsM] at q
    cases ha : argE x with
    | none => rw [ha] at q; cases q
    | some a0 =>
      cases hq : toArgsM i env e r with
      | none => rw [ha, hq] at q; cases q
      | some as' =>
        rw [ha, hq] at q
        cases q
        obtain ⟨g1, g2, g3⟩ := argsM_of k s hO b hq
        refine ⟨congrArg (· + 1) g1, congrArg (· + 1) g2, fun i a z => ?_⟩
        cases i with
        | zero => simp at z; subst z; exact ⟨v, rfl, .inr ⟨⟨_, rfl, rfl⟩, argE_ok k s ha hx⟩⟩
        | succ i =>
          obtain ⟨w', h1, h2⟩ := g3 i a (by simpa using z)
          exact ⟨w', by simpa using h1, by simpa using h2⟩
  | .o j :: r, _, as, ⟨v, w, h, hx, b⟩, q => by
    subst h
    rw [toArgsM] at q
    split at q
    · cases q
    · rename_i ne
      cases ha : readE env j with
      | none => rw [ha] at q; cases q
      | some a0 =>
        cases hq : toArgsM i env e r with
        | none => rw [ha, hq] at q; cases q
        | some as' =>
          rw [ha, hq] at q
          cases q
          obtain ⟨g1, g2, g3⟩ := argsM_of k s hO b hq
          refine ⟨congrArg (· + 1) g1, congrArg (· + 1) g2, fun i a z => ?_⟩
          cases i with
          | zero => simp at z; subst z; exact ⟨v, rfl, .inr ⟨⟨_, rfl, rfl⟩, hO j _ v ne ha hx⟩⟩
          | succ i =>
            obtain ⟨w', h1, h2⟩ := g3 i a (by simpa using z)
            exact ⟨w', by simpa using h1, by simpa using h2⟩
/-- slot i is lent: what follows has the result, the slot changed -/
def lendK (i : Nat) (G : List EV → MR) (K : Env → D → SR) (env : Env) (xs : List AM) : SR := match (env[i]? : Option (Option EV)) with
  | some (some e) => if isOwn e = true then (match toArgsM i env e xs with
    | some args => (match G args with
      | .ok d e' => K (env.set i (some e')) d
      | .exc c ks vs e' => .exc c ks vs (env.set i (some e'))
      | .bad => .bad)
    | none => .bad) else .bad
  | _ => .bad
def lendS (i : Nat) (F : Env → Res (List AM)) (G : List EV → MR) (K : Env → D → SR) : Env → SR := fun env => (F env).st env (lendK i G K env)
/-- one lent among them, at l -/
def oneAt : Nat → List AM → Bool
  | _, [] => false
  | 0, x :: r => x.isL && r.all fun y => !y.isL
  | l + 1, x :: r => !x.isL && oneAt l r
theorem oneAt_i : ∀ {l : Nat} {xs : List AM}, oneAt l xs = true → (∃ x, xs[l]? = some x ∧ x.isL = true) ∧ ∀ i x, xs[i]? = some x → x.isL = true → i = l
  | 0, [], h => by rw [oneAt] at h; cases h
  | _ + 1, [], h => by rw [oneAt] at h; cases h
  | 0, x :: r, h => by
    rw [oneAt, Bool.and_eq_true] at h
    refine ⟨⟨x, rfl, h.1⟩, fun i y z w => ?_⟩
    cases i with
    | zero => rfl
    | succ i =>
      have := List.all_eq_true.mp h.2 _ (List.mem_of_getElem? (by simpa using z))
      rw [w] at this
      cases this
  | l + 1, x :: r, h => by
    rw [oneAt, Bool.and_eq_true] at h
    obtain ⟨h1, h2⟩ := oneAt_i h.2
    refine ⟨by simpa using h1, fun i y z w => ?_⟩
    cases i with
    | zero =>
      simp at z
      subst z
      rw [w] at h
      cases h.1
    | succ i => rw [h2 i y (by simpa using z) w]
theorem run_lend {J : Jx} {Hse He : Hp} {env : Env} {σ : St} {Hs Hr H : Hp} (R : Rel J Hse He env σ Hs Hr H) {i l ar : Nat} {G : List EV → MR} {K : Env → D → SR} {M : Ends} {xs : List AM} {vs : List V} {u : V} (hu : σ[i]? = some (some u)) (rv : RepMs J.toGx Hs Hr H σ u xs vs) (hl : oneAt l xs = true) (ha : xs.length = ar)
    (p : PostS J Hse He M (lendK i G K env xs)) {Q : VK} (hk : ∀ env' d Hs' Hr' H' v, Rel J Hse He env' σ Hs' Hr' H' → Rep J.toGx Hs' v d → PostS J Hse He M (K env' d) → Q v H') : SpM J.toGx ar l G vs H Q (WE J.W σ) := by
  unfold lendK at p
  split at p
  · rename_i e q
    split at p
    · rename_i o
      split at p
      · rename_i args hq
        obtain ⟨H0, k0, le, s0, oth, back⟩ := R.lend q o hu
        obtain ⟨g1, g2, g3⟩ := argsM_of R.ok s0 oth rv hq
        obtain ⟨⟨xl, o1, o3⟩, o2⟩ := oneAt_i hl
        have hlx := (List.getElem?_eq_some_iff.mp o1).1
        refine ⟨args, Hs, H0, u, k0, by rw [g2, ha], by omega, ⟨by rw [g1, g2], fun j a z => ?_⟩, ?_⟩
        · obtain ⟨w, h1, h2⟩ := g3 j a z
          refine ⟨w, h1, ?_⟩
          rcases h2 with ⟨h2, rfl, rfl⟩ | ⟨⟨x, h2, h4⟩, h3⟩
          · exact .inl ⟨o2 j _ h2 rfl, rfl, le⟩
          · refine .inr ⟨fun z => ?_, h3⟩
            subst z
            rw [o1] at h2
            cases h2
            rw [o3] at h4
            cases h4
        · cases hG : G args with
          | ok d e' =>
            rw [hG] at p
            dsimp only at p
            exact fun v Hs' H' ret r le' => by
              obtain ⟨Hr', R'⟩ := back Hs' H' e' ret le'
              exact hk _ d Hs' Hr' H' v R' r p
          | exc c ks vs' e' =>
            rw [hG] at p
            dsimp only at p
            exact fun cv d Hs' H' ret x le' => by
              obtain ⟨Hr', R'⟩ := back Hs' H' e' ret le'
              exact p cv d σ Hs' Hr' H' R' x
          | bad => rw [hG] at p; exact p.elim
      · exact p.elim
    · exact p.elim
  · exact p.elim
theorem SlotOk.val {J : Jx} {Hs Hr H : Hp} {sv : Option (Option V)} : ∀ {e : EV}, isOwn e = true → SlotOk J Hs Hr H sv e → ∃ v, sv = some (some v)
  | .own _, _, ⟨p, _, a, _⟩ => ⟨_, a⟩
  | .ownd _ _, _, ⟨p, _, a, _⟩ => ⟨_, a⟩
  | .ownt _, _, ⟨v, _, a, _⟩ => ⟨v, a⟩
  | .val _ _, h, _ => by cases h
  | .exn _ _ _, h, _ => by cases h
theorem lendK_own {J : Jx} {Hse He : Hp} {env : Env} {σ : St} {Hs Hr H : Hp} (R : Rel J Hse He env σ Hs Hr H) {i : Nat} {G : List EV → MR} {K : Env → D → SR} {M : Ends} {xs : List AM} (p : PostS J Hse He M (lendK i G K env xs)) : ∃ u, σ[i]? = some (some u) := by
  unfold lendK at p
  split at p
  · rename_i e q
    split at p
    · rename_i o
      exact SlotOk.val o (R.slot i e q)
    · exact p.elim
  · exact p.elim
/-! ### arguments, one of them lent -/
def SAM (J : Jx) (σ : St) (i : Nat) (Q : List V → Hp → Prop) : List AM → Hp → Hp → Hp → Prop := fun xs Hs' Hr' H' => ∀ vs, (∀ u, σ[i]? = some (some u) → RepMs J.toGx Hs' Hr' H' σ u xs vs) → Q vs H'
structure MAM (X : Cx) (J : Jx) (i : Nat) (es : List Expr) (sh : List Bool) (F : Env → Res (List AM)) : Prop where
  pa : PA X es (fun σ H Q => Now J σ H F (SAM J σ i Q))
  one : ∀ env xs, F env = .ok xs → xs.map AM.isL = sh
def oneB : Nat → List Bool → Bool
  | _, [] => false
  | 0, x :: r => x && r.all fun y => !y
  | l + 1, x :: r => !x && oneB l r
theorem oneAt_of : ∀ {l : Nat} {xs : List AM}, oneB l (xs.map AM.isL) = true → oneAt l xs = true
  | 0, [], h => by rw [List.map_nil, oneB] at h; cases h
  | _ + 1, [], h => by rw [List.map_nil, oneB] at h; cases h
  | 0, x :: r, h => by
    rw [List.map_cons, oneB, List.all_map] at h
    rw [oneAt]
    exact h
  | l + 1, x :: r, h => by
    rw [List.map_cons, oneB, Bool.and_eq_true] at h
    rw [oneAt, Bool.and_eq_true]
    exact ⟨h.1, oneAt_of h.2⟩
theorem MAM.at_ {X : Cx} {J : Jx} {i l : Nat} {es : List Expr} {sh : List Bool} {F : Env → Res (List AM)} (h : MAM X J i es sh F) (k : oneB l sh = true) {env : Env} {xs : List AM} (q : F env = .ok xs) : oneAt l xs = true ∧ xs.length = sh.length := by
  have e := h.one env xs q
  exact ⟨oneAt_of (by rw [e]; exact k), by rw [← e, List.length_map]⟩
def argMN : Env → Res (List AM) := fun _ => .ok []
def argMC (f : Env → Res TV) (F : Env → Res (List AM)) : Env → Res (List AM) := fun env => (f env).bind fun x => (F env).bind fun xs => .ok (.v x :: xs)
def argMH (i : Nat) (F : Env → Res (List AM)) : Env → Res (List AM) := fun env => match (env[i]? : Option (Option EV)) with
  | some (some e) => if isOwn e = true then (F env).bind fun xs => .ok (.l :: xs) else .bad
  | _ => .bad
section
variable {X : Cx} {J : Jx} {e o : Expr} {es : List Expr} {pos p apos : Pos} {f : Env → Res TV} {F : Env → Res (List AM)} {sh : List Bool}
theorem mam_nil {i : Nat} : MAM X J i [] [] argMN := ⟨pa_imp pa_nil fun σ H Q ⟨_, _, _, _, _, R, p⟩ => Post.now R.ok p [] fun _ _ => rfl, fun env xs h => by cases h; rfl⟩
theorem mam_cons {i : Nat} (ha : MV X J e f) (hr : MAM X J i es sh F) (hs : starEach (e :: es) X.env = (false, eval e X.env) :: starEach es X.env := by rfl) : MAM X J i (e :: es) (false :: sh) (argMC f F) :=
  ⟨pa_imp (pa_cons ha.pe hr.pa hs) fun σ H Q ⟨Hse, He, env, Hs, Hr, R, p⟩ => ⟨Hse, He, env, Hs, Hr, R, (Post.bind p).imp fun x Hs1 Hr1 H1 e1 p1 v rv =>
    ⟨Hse, He, env, Hs1, Hr1, R.ext e1, (Post.bind p1).imp fun xs Hs2 Hr2 H2 e2 p2 vs rvs => Post.now e2.ok p2 _ fun u hu => ⟨v, vs, rfl, rv.ext e2, rvs u hu⟩⟩⟩, fun env xs h => by
    unfold argMC at h
    cases hf : f env with
    | ok x =>
      rw [hf] at h
      cases hF : F env with
      | ok ys =>
        have h : Res.bind (F env) (fun ys => Res.ok (AM.v x :: ys)) = .ok xs := h
        rw [hF] at h
        cases h
        exact congrArg (false :: ·) (hr.one env ys hF)
      | exc c ks vs => have h : Res.bind (F env) (fun ys => Res.ok (AM.v x :: ys)) = .ok xs := h; rw [hF] at h; cases h
      | bad => have h : Res.bind (F env) (fun ys => Res.ok (AM.v x :: ys)) = .ok xs := h; rw [hF] at h; cases h
    | exc c ks vs => rw [hf] at h; cases h
    | bad => rw [hf] at h; cases h⟩
theorem mam_here (i : Nat) {x : Str} {px : Pos} (hr : MAM X J i es sh F) (hN : X.N[i]? = some x := by rfl) (hv : Vis X.env.scope x := by first | exact Or.inl rfl | exact Or.inr (Or.inl rfl) | exact Or.inr (Or.inr rfl)) (hd : (x == ("__debug__" : Str)) = false := by decide)
    (hcd : (x == ("__classdict__" : Str)) = false := by decide) (hs : starEach (.Name x px :: es) X.env = (false, eval (.Name x px) X.env) :: starEach es X.env := by rfl) : MAM X J i (.Name x px :: es) (true :: sh) (argMH i F) :=
  ⟨pa_imp (pa_cons (pv i hN hv hd hcd) hr.pa hs) fun σ H Q ⟨Hse, He, env, Hs, Hr, R, p⟩ => by
    unfold argMH at p
    split at p
    · rename_i e q
      split at p
      · rename_i o
        obtain ⟨v, hv⟩ := SlotOk.val o (R.slot i e q)
        exact ⟨v, hv, Hse, He, env, Hs, Hr, R, (Post.bind p).imp fun xs Hs2 Hr2 H2 e2 p2 vs rvs => Post.now e2.ok p2 _ fun u hu => ⟨vs, by rw [hv] at hu; cases hu; rfl, rvs u hu⟩⟩
      · exact (show False from p).elim
    · exact (show False from p).elim, fun env xs h => by
    unfold argMH at h
    split at h
    · split at h
      · cases hF : F env with
        | ok ys => rw [hF] at h; cases h; exact congrArg (true :: ·) (hr.one env ys hF)
        | exc c ks vs => rw [hF] at h; cases h
        | bad => rw [hF] at h; cases h
      · cases h
    · cases h⟩
def argMO (j : Nat) (F : Env → Res (List AM)) : Env → Res (List AM) := fun env => match readE env j with
  | some _ => (F env).bind fun xs => .ok (.o j :: xs)
  | none => .bad
theorem readE_val {J : Jx} {Hse He : Hp} {env : Env} {σ : St} {Hs Hr H : Hp} (R : Rel J Hse He env σ Hs Hr H) {j : Nat} {a : EV} (h : readE env j = some a) : ∃ v, σ[j]? = some (some v) := by
  unfold readE at h
  split at h
  · rename_i q; obtain ⟨p, _, a1, _⟩ := R.slot j _ q; exact ⟨_, a1⟩
  · rename_i q; obtain ⟨p, _, a1, _⟩ := R.slot j _ q; exact ⟨_, a1⟩
  · rename_i q; obtain ⟨v, _, a1, _⟩ := R.slot j _ q; exact ⟨_, a1⟩
  · rename_i q; obtain ⟨v, a1, _⟩ := R.slot j _ q; exact ⟨_, a1⟩
  · rename_i q; obtain ⟨v, a1, _⟩ := R.slot j _ q; exact ⟨_, a1⟩
  · cases h
/-- a slot as it stands, own or not -/
theorem mam_slot {i : Nat} (j : Nat) {x : Str} {px : Pos} (hr : MAM X J i es sh F) (hN : X.N[j]? = some x := by rfl) (hv : Vis X.env.scope x := by first | exact Or.inl rfl | exact Or.inr (Or.inl rfl) | exact Or.inr (Or.inr rfl)) (hd : (x == ("__debug__" : Str)) = false := by decide)
    (hcd : (x == ("__classdict__" : Str)) = false := by decide) (hs : starEach (.Name x px :: es) X.env = (false, eval (.Name x px) X.env) :: starEach es X.env := by rfl) : MAM X J i (.Name x px :: es) (false :: sh) (argMO j F) :=
  ⟨pa_imp (pa_cons (pv j hN hv hd hcd) hr.pa hs) fun σ H Q ⟨Hse, He, env, Hs, Hr, R, p⟩ => by
    unfold argMO at p
    cases q : readE env j with
    | none => rw [q] at p; exact (show False from p).elim
    | some a =>
      rw [q] at p
      obtain ⟨v, hv⟩ := readE_val R q
      exact ⟨v, hv, Hse, He, env, Hs, Hr, R, (Post.bind p).imp fun xs Hs2 Hr2 H2 e2 p2 vs rvs => Post.now e2.ok p2 _ fun u hu => ⟨v, vs, rfl, hv, rvs u hu⟩⟩, fun env xs h => by
    unfold argMO at h
    cases q : readE env j with
    | none => rw [q] at h; cases h
    | some a =>
      rw [q] at h
      cases hF : F env with
      | ok ys => rw [hF] at h; cases h; exact congrArg (false :: ·) (hr.one env ys hF)
      | exc c ks vs => rw [hF] at h; cases h
      | bad => rw [hF] at h; cases h⟩
/-- a def that changes what is lent to it, by its name -/
structure FnM (P : Program) (w : World) (G : Gx) (mg : Str → Option Value) (base : Heap) (x : Str) (n ar l : Nat) (F : List EV → MR) : Prop where
  ok : ∃ f fd ps, mg x = some (.ref f) ∧ PySem.W.keepIn G.K (.ref f) = true ∧ Binds G.K fd ps [] ∧ FnOk P w G.K mg base (L2.CX P w) n f fd ps (SpM G ar l F)
structure FnAM (P : Program) (w : World) (G : Gx) (mg : Str → Option Value) (base : Heap) (f : Addr) (n ar l : Nat) (F : List EV → MR) : Prop where
  ok : ∃ fd ps, Binds G.K fd ps [] ∧ FnOk P w G.K mg base (L2.CX P w) n f fd ps (SpM G ar l F)
theorem FnAM.d {P : Program} {w : World} {G : Gx} {mg : Str → Option Value} {base : Heap} {f : Addr} {n ar l : Nat} {F : List EV → MR} (h : FnAM P w G mg base f n ar l F) {x : Str} (hm : mg x = some (.ref f)) (hk : PySem.W.keepIn G.K (.ref f) = true) : FnM P w G mg base x n ar l F := by
  obtain ⟨fd, ps, b, k⟩ := h.ok
  exact ⟨f, fd, ps, hm, hk, b, k⟩
theorem FnAM.mono {P : Program} {w : World} {G : Gx} {mg : Str → Option Value} {base : Heap} {f : Addr} {n m ar l : Nat} {F : List EV → MR} (h : FnAM P w G mg base f n ar l F) (hm : n ≤ m) : FnAM P w G mg base f m ar l F :=
  let ⟨fd, ps, b, k⟩ := h.ok
  ⟨fd, ps, b, k.mono hm⟩
theorem fn_defM {P : Program} {w : World} {G : Gx} {mg : Str → Option Value} {base : Heap} {x qual : Str} {st : Stmt} {dvs : List V} {f : Addr} {fd : FuncData} {N ps : List Str} {n : Nat} {FB : Env → SR} (l : Nat) (F : FnT G.K x qual st dvs f fd) (S : FnScope N ps (defScope st)) (b : Binds G.K fd ps [])
    (hb : ∀ (cdv : Value) (A : Around) (outer : List PySem.Env) (s : Shared) (H : Hp) (E : XK) (v : V), Good (cxOf (L2.CX P w) P w G.K mg base N qual (defScope st) f cdv A outer s H E) (G.jm E l v) n →
      MSs (cxOf (L2.CX P w) P w G.K mg base N qual (defScope st) f cdv A outer s H E) (G.jm E l v) (defBody st) FB) : FnAM P w G mg base f (n + 1) ps.length l (runM l N.length FB) :=
  ⟨fd, ps, b, fn_okM l F S hb⟩
def tLend (J : Jx) (S : (Env → D → SR) → Env → SR) : TE := fun σ H Q => ∃ Hse He env Hs Hr, Rel J Hse He env σ Hs Hr H ∧ ∃ (M : Ends) (K : Env → D → SR), PostS J Hse He M (S K env) ∧
  ∀ env' d Hs' Hr' H' v, Rel J Hse He env' σ Hs' Hr' H' → Rep J.toGx Hs' v d → PostS J Hse He M (K env' d) → Q v H'
theorem pe_lend {x : Str} {n m i l ar : Nat} {G : List EV → MR} (g : Good X J m) (fn : FnM X.prog X.w J.toGx X.mg X.base x n ar l G) (hnm : n ≤ m) (ha : MAM X J i (e :: es) sh F) (ho : oneB l sh = true := by rfl) (har : sh.length = ar := by rfl) (hg : Gl X x := by rfl) (hdb : (x == ("__debug__" : Str)) = false := by decide)
    (he : starEach (e :: es) X.env = (false, eval e X.env) :: starEach es X.env := by rfl) (hpl : (backTo pos (starEach es X.env)).any (·.1) = false := by rfl) :
    PE X (.Call (.Name x p) (e :: es) [] pos) (tLend J (lendS i F G)) := by
  obtain ⟨fa, fd, ps, h1, h2, h3, h4⟩ := fn.ok
  rw [← g.K] at h2 h3 h4
  refine pe_imp (pe_callS (E := WE J.W) h4 (g.room.mono hnm) hg h1 h2 h3 (fun σ => passAt g.tk σ) ha.pa hdb he hpl) fun σ H Q ⟨Hse, He, env, Hs, Hr, R, M, K, p, hk⟩ => ?_
  cases hF : F env with
  | ok xs =>
    obtain ⟨o1, o2⟩ := ha.at_ ho hF
    refine ⟨Hse, He, env, Hs, Hr, R, ?_⟩
    unfold lendS at p
    rw [hF] at p ⊢
    exact fun Hs1 Hr1 H1 e1 vs rvs => by
      have R1 := R.ext e1
      obtain ⟨u, hu⟩ := lendK_own R1 p
      exact run_lend R1 hu (rvs u hu) o1 (by rw [o2, har]) p hk
  | exc c ks vs =>
    refine ⟨Hse, He, env, Hs, Hr, R, ?_⟩
    unfold lendS at p
    rw [hF] at p ⊢
    exact fun cv d Hs' Hr' H' x e => p cv d σ Hs' Hr' H' (R.ext x) e
  | bad =>
    unfold lendS at p
    rw [hF] at p
    exact p.elim
/-- such a call as a statement, or for a name -/
theorem ms_lend {c : Expr} {S : (Env → D → SR) → Env → SR} (h : PE X c (tLend J S)) (hs : swapsWith c none pos.line X.env = pure false := by rfl) : MS X J (.Expr c pos) (S fun env _ => .nx env) := by
  refine ⟨⟨fun pins s σ H M I n => ?_⟩⟩
  exact (ps_expr (pe_imp h (t' := fun σ' H' Q' => tS J (S fun env _ => .nx env) M σ' H' ∧ Q' = fun _ H' => M.nx σ' H') fun σ' H' Q' ⟨⟨Hse, He, env, Hs, Hr, R, p⟩, e⟩ => ⟨Hse, He, env, Hs, Hr, R, M, fun env _ => .nx env, p, fun env' d Hs' Hr' H' v R' _ p' => by
    subst e
    exact p' σ' Hs' Hr' H' R'⟩) hs).run pins s σ H M I ⟨n, rfl⟩
theorem ms_lendA {c : Expr} {S : (Env → D → SR) → Env → SR} (j : Nat) {y : Str} {py : Pos} (nd : X.N.Nodup) (h : PE X c (tLend J S)) (hj : X.N[j]? = some y := by rfl) (hx : Loc X.env.scope y := by first | exact Or.inl rfl | exact Or.inr rfl)
    (hs : swapsWith c (some (.Name y py)) pos.line X.env = pure false := by rfl) (hf : X.fn y = true ∨ X.env.scope.names.lookup y = some .local := by first | exact .inl rfl | exact .inr rfl)
    (up : Unp J j := by first | exact Unp.nil rfl | exact Unp.one rfl (by decide)) : MS X J (.Assign [.Name y py] c pos) (S fun env d => .nx (env.set j (some (.val .s d)))) := by
  refine ⟨⟨fun pins s σ H M I n => ?_⟩⟩
  exact (ps_set nd hj hx (pe_imp h (t' := fun σ' H' Q' => tS J (S fun env d => .nx (env.set j (some (.val .s d)))) M σ' H' ∧ Q' = fun v H' => M.nx (σ'.set j (some v)) H') fun σ' H' Q' ⟨⟨Hse, He, env, Hs, Hr, R, p⟩, e⟩ => ⟨Hse, He, env, Hs, Hr, R, M, fun env d => .nx (env.set j (some (.val .s d))), p, fun env' d Hs' Hr' H' v R' r p' => by
    subst e
    exact p' _ Hs' Hr' H' (R'.set (e := .val .s d) ⟨v, rfl, r⟩ (fun fp h q hq => by cases (show fp = [] from h); cases hq) up)⟩) hs hf).run pins s σ H M I ⟨n, rfl⟩
end
end DL

namespace DL
open PySem PySem.Spec PyProof.Rows L2
/-! ### a part of an own tree is changed -/
theorem OReps.putSh {G : Gx} {Hs H : Hp} {v : V} {d : D} (hd : Rep G Hs v d) : ∀ {ws : List V} {xs : List OD} {fq : List Addr} (j : Nat), OReps G Hs H ws xs fq → fq.Nodup → ∃ fq', OReps G Hs H (ws.set j v) (xs.set j (.sh d)) fq' ∧ fq'.Nodup ∧ ∀ p ∈ fq', p ∈ fq
  | _, _, _, j, .nil, nd => ⟨[], .nil, nd, fun _ h => h⟩
  | _, _, _, 0, .cons (f := f) (g := g) h r, nd => ⟨[] ++ g, .cons (.sh hd) r, (List.nodup_append.mp nd).2.1, fun p hp => List.mem_append_right _ hp⟩
  | _, _, _, j + 1, .cons (f := f) (g := g) h r, nd => by
    have n := List.nodup_append.mp nd
    obtain ⟨g', a, b, c⟩ := OReps.putSh hd j r n.2.1
    refine ⟨f ++ g', .cons h a, List.nodup_append.mpr ⟨n.1, b, fun x hx y hy => n.2.2 x hx y (c y hy)⟩, fun p hp => ?_⟩
    rcases List.mem_append.mp hp with z | z
    · exact List.mem_append_left _ z
    · exact List.mem_append_right _ (c p z)
theorem OReps.addSh {G : Gx} {Hs H : Hp} {v : V} {d : D} (hd : Rep G Hs v d) : ∀ {ws : List V} {xs : List OD} {fq : List Addr}, OReps G Hs H ws xs fq → OReps G Hs H (ws ++ [v]) (xs ++ [.sh d]) fq
  | _, _, _, .nil => .cons (f := []) (g := []) (.sh hd) .nil
  | _, _, _, .cons h r => .cons h (OReps.addSh hd r)
/-- the part at q is another one, at the same place -/
theorem OReps.swap {G : Gx} {Hs H H' : Hp} {t' : OD} {f' : List Addr} : ∀ {vs : List V} {ts : List OD} {fp : List Addr} {q : Nat} {t : OD} {u : V} {f : List Addr}, OReps G Hs H vs ts fp → ts[q]? = some t → vs[q]? = some u → ORep G Hs H u t f → fp.Nodup →
    (∀ a, a ∈ fp → a ∉ f → H' a = H a) → ORep G Hs H' u t' f' → f'.Nodup → (∀ p ∈ f', p ∈ f) → (∀ p ∈ f, p ∈ fp) ∧ ∃ fp', OReps G Hs H' vs (ts.set q t') fp' ∧ fp'.Nodup ∧ ∀ p ∈ fp', p ∈ fp
  | _, _, _, _, _, _, _, .nil, h, _, _, _, _, _, _, _ => by simp at h
  | _, _, _, 0, t, u, f, .cons (f := f1) (g := g) h r, ht, hu, hf, nd, hc, h', nd', sub => by
    simp at ht hu
    subst ht hu
    cases h.det hf
    have n := List.nodup_append.mp nd
    refine ⟨fun p hp => List.mem_append_left _ hp, f' ++ g, .cons h' (r.frame (Same.refl _) fun a ha o e => ?_), List.nodup_append.mpr ⟨nd', n.2.1, fun x hx y hy => n.2.2 x (sub x hx) y hy⟩, fun p hp => ?_⟩
    · rw [hc a (List.mem_append_right _ ha) fun z => n.2.2 a z a ha rfl]
      exact e
    · rcases List.mem_append.mp hp with z | z
      · exact List.mem_append_left _ (sub p z)
      · exact List.mem_append_right _ z
  | _, _, _, q + 1, t, u, f, .cons (f := f1) (g := g) h r, ht, hu, hf, nd, hc, h', nd', sub => by
    have n := List.nodup_append.mp nd
    obtain ⟨s, fp', a, b, c⟩ := OReps.swap (q := q) r (by simpa using ht) (by simpa using hu) hf n.2.1 (fun a ha hn => hc a (List.mem_append_right _ ha) hn) h' nd' sub
    refine ⟨fun p hp => List.mem_append_right _ (s p hp), f1 ++ fp', .cons (h.frame (Same.refl _) fun a ha o e => ?_) a, List.nodup_append.mpr ⟨n.1, b, fun x hx y hy => n.2.2 x hx y (c y hy)⟩, fun p hp => ?_⟩
    · rw [hc a (List.mem_append_left _ ha) fun z => n.2.2 a ha a (s a z) rfl]
      exact e
    · rcases List.mem_append.mp hp with z | z
      · exact List.mem_append_left _ z
      · exact List.mem_append_right _ (c p z)
theorem ORep.field {G : Gx} {Hs H : Hp} {v : V} {c : Str} {ks : List Str} {ts : List OD} {fp : List Addr} {q : Nat} {xs : List OD} (r : ORep G Hs H v (.obj c ks ts) fp) (hq : ts[q]? = some (.lst xs)) :
    ∃ a C dx fs gp p ws fx, v = .ref a ∧ G.co c = some C ∧ H a = some (.ins C dx fs) ∧ fs.map (·.1) = ks ∧ fp = a :: gp ∧ OReps G Hs H (fs.map (·.2)) ts gp ∧ (fs.map (·.2))[q]? = some (.ref p) ∧ H p = some (.lst ws) ∧ OReps G Hs H ws xs fx ∧ ORep G Hs H (.ref p) (.lst xs) (p :: fx) := by
  generalize ht : OD.obj c ks ts = tt at r
  cases r <;> cases ht
  rename_i a C dx fs gp h2 h1 h3
  obtain ⟨u, f, g1, g2⟩ := h3.get hq
  generalize ht : OD.lst xs = tt at g2
  cases g2 <;> cases ht
  rename_i p ws fx k1 k2
  exact ⟨a, C, dx, fs, gp, p, ws, fx, rfl, h1, h2, rfl, rfl, h3, g1, k1, k2, .lst k1 k2⟩
theorem Rel.mutL {J : Jx} {Hse He : Hp} {env : Env} {σ : St} {Hs Hr H : Hp} (R : Rel J Hse He env σ Hs Hr H) {i : Nat} {c : Str} {ks : List Str} {ts : List OD} {q : Nat} {xs : List OD} (h0 : env[i]? = some (some (.ownt (.obj c ks ts)))) (hq : ts[q]? = some (.lst xs)) :
    ∃ a C dx fs p ws, σ[i]? = some (some (.ref a)) ∧ J.toGx.co c = some C ∧ H a = some (.ins C dx fs) ∧ fs.map (·.1) = ks ∧ (fs.map (·.2))[q]? = some (.ref p) ∧ H p = some (.lst ws) ∧ ws.length = xs.length ∧
      ∀ ws' xs', (∀ fx, OReps J.toGx Hs H ws xs fx → fx.Nodup → ∃ fx', OReps J.toGx Hs H ws' xs' fx' ∧ fx'.Nodup ∧ ∀ z ∈ fx', z ∈ fx) → Rel J Hse He (env.set i (some (.ownt (.obj c ks (ts.set q (.lst xs')))))) σ Hs Hr (upd H p (.lst ws')) := by
  obtain ⟨v, fp, hv, r, nd, out⟩ := R.slot i _ h0
  obtain ⟨a, C, dx, fs, gp, p, ws, fx, rfl, h1, h2, h3, rfl, h4, h5, h6, h7, h8⟩ := r.field hq
  refine ⟨a, C, dx, fs, p, ws, hv, h1, h2, h3, h5, h6, h7.length, fun ws' xs' hw => ?_⟩
  have nd2 := List.nodup_cons.mp nd
  -- where it stands
  have px : p ∈ gp ∧ (p :: fx).Nodup ∧ ∀ z ∈ p :: fx, z ∈ gp := by
    have key : ∀ {vs : List V} {ts : List OD} {gp : List Addr} {q : Nat}, OReps J.toGx Hs H vs ts gp → ts[q]? = some (.lst xs) → vs[q]? = some (.ref p) → gp.Nodup → (p :: fx).Nodup ∧ ∀ z ∈ p :: fx, z ∈ gp := by
      intro vs ts gp q o
      induction o using OReps.rec (motive_1 := fun _ _ _ _ => True) generalizing q with
      | nil => intro h; simp at h
      | cons h r _ ih =>
        rename_i v vs x ts f g
        intro ht hu n
        have n2 := List.nodup_append.mp n
        cases q with
        | zero =>
          simp at ht hu
          subst ht hu
          cases h.det h8
          exact ⟨n2.1, fun z hz => List.mem_append_left _ hz⟩
        | succ q =>
          obtain ⟨k1, k2⟩ := ih (q := q) (by simpa using ht) (by simpa using hu) n2.2.1
          exact ⟨k1, fun z hz => List.mem_append_right _ (k2 z hz)⟩
      | _ => trivial
    obtain ⟨k1, k2⟩ := key h4 hq h5 nd2.2
    exact ⟨k2 p List.mem_cons_self, k1, k2⟩
  obtain ⟨pg, ndx, sub⟩ := px
  have ndx2 := List.nodup_cons.mp ndx
  obtain ⟨fx', w1, w2, w3⟩ := hw fx h7 ndx2.2
  have w1' : OReps J.toGx Hs (upd H p (.lst ws')) ws' xs' fx' := w1.frame (Same.refl _) fun z hz o e => by
    rw [upd_ne fun k => ndx2.1 (by rw [← k]; exact w3 z hz)]
    exact e
  have n3 : ORep J.toGx Hs (upd H p (.lst ws')) (.ref p) (.lst xs') (p :: fx') := .lst upd_same w1'
  obtain ⟨-, gp', o1, o2, o3⟩ := OReps.swap h4 hq h5 h8 nd2.2 (fun z _ hn => upd_ne fun k => hn (by rw [k]; exact List.mem_cons_self)) n3 (List.nodup_cons.mpr ⟨fun z => ndx2.1 (w3 p z), w2⟩) (fun z hz => by
    rcases List.mem_cons.mp hz with k | k
    · rw [k]; exact List.mem_cons_self
    · exact List.mem_cons_of_mem _ (w3 z k))
  have ap : a ≠ p := fun z => nd2.1 (by rw [z]; exact pg)
  have ha' : upd H p (.lst ws') a = some (.ins C dx fs) := by rw [upd_ne ap]; exact h2
  have rn : ORep J.toGx Hs (upd H p (.lst ws')) (.ref a) (.obj c ks (ts.set q (.lst xs'))) (a :: gp') := by
    subst h3
    exact .obj h1 ha' o1
  have of : OwFp J.toGx Hs H σ[i]? (a :: gp) (.ownt (.obj c ks ts)) := ⟨_, hv, r⟩
  refine R.mut h0 of (fun z hz => upd_ne fun k => hz (by rw [k]; exact List.mem_cons_of_mem _ pg)) (fun z hz ys => ?_) ⟨_, a :: gp', hv, rn, List.nodup_cons.mpr ⟨fun z => nd2.1 (o3 a z), o2⟩, fun z hz => ?_⟩ fun f hf z hz => .inl ?_
  · by_cases k : z = p
    · subst k; rw [upd_same]; exact fun e => by cases e
    · rw [upd_ne k]
      obtain ⟨o, e1, e2⟩ := r.at z hz
      rw [e1]
      exact fun e => e2 ys (Option.some.inj e)
  · rcases List.mem_cons.mp hz with k | k
    · rw [k]; exact out a List.mem_cons_self
    · exact out z (List.mem_cons_of_mem _ (o3 z k))
  · obtain ⟨w, e, rr⟩ := hf
    rw [hv] at e
    cases Option.some.inj (Option.some.inj e)
    cases rn.det rr
    rcases List.mem_cons.mp hz with k | k
    · rw [k]; exact List.mem_cons_self
    · exact List.mem_cons_of_mem _ (o3 z k)
/-! ### x.f[k] = e, x.f.append(e): x an own object, f a list of it -/
def fldL (i : Nat) (cs : List Str) (f : Str) (env : Env) (k : Str → List Str → List OD → Nat → List OD → SR) : SR := match (env[i]? : Option (Option EV)) with
  | some (some (.ownt (.obj c ks ts))) => if cs.contains c = true then (match lookI f ks with
    | some q => (match ts[q]? with | some (.lst xs) => k c ks ts q xs | _ => .bad)
    | none => .bad) else .bad
  | _ => .bad
def fixS (i : Nat) (cs : List Str) (f : Str) (fe fi : Env → Res TV) : Env → SR := fun env => fldL i cs f env fun _ _ _ _ _ => (fe env).st env fun x => (fi env).st env fun k => fldL i cs f env fun c ks ts q xs => match k.2 with
  | .int n => (match ixN xs.length n with
    | some j => if shV x = true then .nx (env.set i (some (.ownt (.obj c ks (ts.set q (.lst (xs.set j (.sh x.2)))))))) else .bad
    | none => .bad)
  | _ => .bad
def fappS (i : Nat) (cs : List Str) (f : Str) (fe : Env → Res TV) : Env → SR := fun env => fldL i cs f env fun _ _ _ _ _ => (fe env).st env fun x => fldL i cs f env fun c ks ts q xs =>
  if shV x = true ∧ xs.length < 16777216 then .nx (env.set i (some (.ownt (.obj c ks (ts.set q (.lst (xs ++ [.sh x.2]))))))) else .bad
theorem fldL_get {J : Jx} {Hse He : Hp} {i : Nat} {cs : List Str} {f : Str} {env : Env} {M : Ends} {k : Str → List Str → List OD → Nat → List OD → SR} (p : PostS J Hse He M (fldL i cs f env k)) :
    ∃ c ks ts q xs, env[i]? = some (some (.ownt (.obj c ks ts))) ∧ cs.contains c = true ∧ lookI f ks = some q ∧ ts[q]? = some (.lst xs) ∧ PostS J Hse He M (k c ks ts q xs) := by
  unfold fldL at p
  split at p
  · rename_i c ks ts h
    split at p
    · rename_i hc
      split at p
      · rename_i q hq
        split at p
        · rename_i xs hx
          exact ⟨c, ks, ts, q, xs, h, hc, hq, hx, p⟩
        · exact p.elim
      · exact p.elim
    · exact p.elim
  · exact p.elim
section
variable {X : Cx} {J : Jx} {e ix o : Expr} {pos : Pos} {fe fi : Env → Res TV} {cs : List Str} {f : Str}
theorem ms_fix (i : Nat) {x : Str} {px apos tpos : Pos} (B : Bas X J) (I : FldG J.toGx cs f) (h : MV X J e fe) (hi : MV X J ix fi) (hN : X.N[i]? = some x := by rfl) (hv : Vis X.env.scope x := by first | exact Or.inl rfl | exact Or.inr (Or.inl rfl) | exact Or.inr (Or.inr rfl)) (hd : (x == ("__debug__" : Str)) = false := by decide)
    (hcd : (x == ("__classdict__" : Str)) = false := by decide) (hb : attributeBase (.Name x px) f X.env (eval (.Name x px) X.env) = eval (.Name x px) X.env := by rfl)
    (ha : ∀ v, assign (.Subscript (.Attribute (.Name x px) f apos) ix tpos) X.env v = (do
      let ov ← holding [v] (eval (.Attribute (.Name x px) f apos) X.env)
      let iv ← holding [v, ov] (eval ix X.env)
      standAt tpos
      holding [v, ov, iv] (setItem ov iv v)
      release [v, ov, iv] []) := by intro _; rfl)
    (hs : swapsWithSole [.Subscript (.Attribute (.Name x px) f apos) ix tpos] e pos.line X.env = pure false := by rfl) (hw : swappedStores [.Subscript (.Attribute (.Name x px) f apos) ix tpos] e X.env = pure none := by rfl)
    (h1 : (assignEach [.Subscript (.Attribute (.Name x px) f apos) ix tpos] X.env).map (·.2) = [assign (.Subscript (.Attribute (.Name x px) f apos) ix tpos) X.env] := by rfl) :
    MS X J (.Assign [.Subscript (.Attribute (.Name x px) f apos) ix tpos] e pos) (fixS i cs f fe fi) :=
  ⟨ps_imp (ps_asg h.pe (pg_sub (pe_fld (pv i hN hv hd hcd) hb) hi.pe set_list ha) hs hw h1) fun D σ H ⟨Hse, He, env, Hs, Hr, R, p⟩ => by
    obtain ⟨c, ks, ts, q, xs, e0, hc, hl, hq, p⟩ := fldL_get (M := D) p
    refine ⟨Hse, He, env, Hs, Hr, R, post_st R p fun a Hs1 Hr1 H1 x1 R1 p1 v rv => ?_⟩
    obtain ⟨ad, C, dx, fs, pl, ws, s1, s2, s3, s4, s5, s6, s7, _⟩ := R1.mutL e0 hq
    obtain ⟨cg, na⟩ := I.at_ c (List.contains_iff_mem.mp hc)
    rw [cg.cl] at s2
    cases s2
    have hlk := hl
    rw [← s4] at hlk
    refine ⟨_, s1, ad, _, dx, fs, _, rfl, s3, by rw [B.K]; exact cg.cls, by rw [B.K]; exact na, lookI_get hlk s5, Hse, He, env, Hs1, Hr1, R1, post_st R1 p1 fun k Hs2 Hr2 H2 x2 R2 p2 w rw => ?_⟩
    obtain ⟨c', ks', ts', q', xs', e0', hc', hl', hq', p2⟩ := fldL_get (M := D) p2
    rw [e0] at e0'
    injection e0' with e0'
    injection e0' with e0'
    injection e0' with e0'
    injection e0' with z1 z2 z3
    subst z1 z2 z3
    rw [hl] at hl'
    cases hl'
    rw [hq] at hq'
    cases hq'
    obtain ⟨ad2, C2, dx2, fs2, pl2, ws2, r1, r2, r3, r4, r5, r6, r7, mtt⟩ := R2.mutL e0 hq
    rw [s1] at r1
    cases r1
    have r3' := x2.h _ _ s3
    rw [r3] at r3'
    cases r3'
    rw [s5] at r5
    cases r5
    obtain ⟨tk, dk⟩ := k
    dsimp only at p2
    cases dk with
    | int n =>
      dsimp only at p2
      cases hj : ixN xs.length n with
      | none => rw [hj] at p2; exact (show False from p2).elim
      | some j =>
        rw [hj] at p2
        dsimp only at p2
        split at p2
        · rename_i sh
          refine ⟨_, ws2, n, j, rfl, rw.isInt R2.ok, r6, by rw [r7]; exact hj, ?_⟩
          exact p2 σ _ _ _ (mtt _ _ fun fx o nd => o.putSh ((rv.ext x2).shV R2.ok sh) j nd)
        · exact p2.elim
    | _ => exact (show False from p2).elim⟩
end
/-! ### methods that change the object, or what is lent to them -/
structure MthM (P : Program) (w : World) (G : Gx) (mg : Str → Option Value) (base : Heap) (m : Str) (n ar l : Nat) (c : Str) (F : List EV → MR) : Prop where
  cg : ClsG G c
  mt : Meth G.K (He.ga G.K c) m (He.ma G.K (He.ga G.K c) m)
  fn : FnAM P w G mg base (He.ma G.K (He.ga G.K c) m) n ar l F
abbrev TblM := List (Str × (List EV → MR))
def lookTM (c : Str) : TblM → Option (List EV → MR)
  | [] => none
  | (k, F) :: r => if c = k then some F else lookTM c r
theorem lookTM_mem {c : Str} {F : List EV → MR} : ∀ {l : TblM}, lookTM c l = some F → (c, F) ∈ l
  | [], h => by cases h
  | (k, G) :: r, h => by
    rw [lookTM] at h
    by_cases q : c = k
    · rw [if_pos q] at h; cases h; rw [q]; exact List.mem_cons_self
    · rw [if_neg q] at h; exact List.mem_cons_of_mem _ (lookTM_mem h)
def pickMM (m : Str) (tbl : TblM) (d : D) : Option (List EV → MR) := match d with
  | .obj c ks _ => if ks.contains m = true then none else lookTM c tbl
  | _ => none
/-- x.m(..): x's own object is changed -/
def lendMS (i : Nat) (m : Str) (tbl : TblM) (F : Env → Res (List AM)) (K : Env → D → SR) : Env → SR := fun env => match (env[i]? : Option (Option EV)) with
  | some (some (.ownt t)) => (match pickMM m tbl t.d with
    | some G => (F env).st env fun xs => lendK i G K env (.l :: xs)
    | none => .bad)
  | _ => .bad
/-- o.m(.., x, ..): x's own thing is changed -/
def lendMR (i : Nat) (m : Str) (tbl : TblM) (f : Env → Res TV) (F : Env → Res (List AM)) (K : Env → D → SR) : Env → SR := fun env => (f env).st env fun x => match pickMM m tbl x.2 with
  | some G => (F env).st env fun xs => lendK i G K env (.v x :: xs)
  | none => .bad
theorem ORep.obj_ {G : Gx} {Hs H : Hp} {v : V} {c : Str} {ks : List Str} {ds : List D} {t : OD} {fp : List Addr} (r : ORep G Hs H v t fp) (h : t.d = .obj c ks ds) (k : Same Hs H) :
    ∃ a C dx fs, v = .ref a ∧ G.co c = some C ∧ H a = some (.ins C dx fs) ∧ fs.map (·.1) = ks := by
  have q := r.rep k
  rw [h] at q
  generalize hd : D.obj c ks ds = d at q
  cases q <;> cases hd
  rename_i a C dx fs h2 h1 h3
  exact ⟨a, C, dx, fs, rfl, h1, h2, rfl⟩
theorem oneAt_0 {xs : List AM} {sh : List Bool} (h : xs.map AM.isL = sh) (k : sh.all (fun y => !y) = true) : oneAt 0 (.l :: xs) = true := by
  rw [oneAt, Bool.and_eq_true]
  refine ⟨rfl, ?_⟩
  rw [← h, List.all_map] at k
  exact k
section
variable {X : Cx} {J : Jx} {e o : Expr} {es : List Expr} {pos p apos : Pos} {m : Str} {n k : Nat} {tbl : TblM} {FM : Env → Res (List AM)} {fx : Env → Res TV} {sh : List Bool}
theorem pe_lendMS {pl : Sem Bool} {ar : Nat} (i : Nat) {x : Str} {px : Pos} (g : Good X J n) (hn : k ≤ n) (T : ∀ q ∈ tbl, MthM X.prog X.w J.toGx X.mg X.base m k (ar + 1) 0 q.1 q.2) (ha : MAM X J i (e :: es) sh FM) (hl : sh.all (fun y => !y) = true := by rfl) (har : sh.length = ar := by rfl)
    (hN : X.N[i]? = some x := by rfl) (hv : Vis X.env.scope x := by first | exact Or.inl rfl | exact Or.inr (Or.inl rfl) | exact Or.inr (Or.inr rfl)) (hd : (x == ("__debug__" : Str)) = false := by decide) (hcd : (x == ("__classdict__" : Str)) = false := by decide)
    (hst : starEach (e :: es) X.env = (false, eval e X.env) :: starEach es X.env := by rfl) (hpl : (backTo pos (starEach es X.env)).any (·.1) = false := by rfl)
    (ht : eval (.Call (.Attribute (.Name x px) m apos) (e :: es) [] pos) X.env = (do
      let ov ← eval (.Name x px) X.env
      standAt apos.atName
      let (f, first) ← holding [ov] (getMethod ov m pl)
      callWith pos f first (backTo pos (starEach (e :: es) X.env)) (backToKw pos (keywordEach [] X.env))) := by rfl) :
    PE X (.Call (.Attribute (.Name x px) m apos) (e :: es) [] pos) (tLend J (lendMS i m tbl FM)) := by
  refine pe_imp (pe_methD (E := WE J.W) (pv i hN hv hd hcd) (fun σ => passAt g.tk σ) ha.pa hst hpl ht) fun σ H Q ⟨Hse, He, env, Hs, Hr, R, M, K, p, hk⟩ => ?_
  unfold lendMS at p
  split at p
  · rename_i t q
    obtain ⟨v, fp, hv, r, nd, out⟩ := R.slot i _ q
    cases hp : pickMM m tbl t.d with
    | none => rw [hp] at p; exact p.elim
    | some G =>
      rw [hp] at p
      dsimp only at p
      cases htd : t.d with
      | obj c ks ys =>
        rw [htd] at hp
        unfold pickMM at hp
        dsimp only at hp
        split at hp
        · cases hp
        · rename_i hm
          obtain ⟨a, C, dx, fs, rfl, h1, h2, h3⟩ := r.obj_ htd R.ok.sh
          have T1 := T _ (lookTM_mem hp)
          rw [T1.cg.cl] at h1
          cases h1
          obtain ⟨fd, ps, hb, hf⟩ := T1.fn.ok
          have eK := g.K
          refine ⟨_, hv, a, _, dx, fs, _, fd, ps, [], [], k, _, rfl, h2, lookup_none (by rw [h3]; simpa using hm), by rw [eK]; exact T1.cg.cls, by rw [eK]; exact T1.mt, by rw [eK]; exact hf, g.room.mono hn, by rw [eK]; exact hb, .nil, ?_⟩
          cases hF : FM env with
          | ok xs =>
            rw [hF] at p
            have sh1 := ha.one env xs hF
            refine ⟨Hse, He, env, Hs, Hr, R, ?_⟩
            rw [hF]
            exact fun Hs1 Hr1 H1 e1 vs rvs => by
              dsimp only
              rw [List.append_nil]
              exact run_lend (xs := .l :: xs) (vs := .ref a :: vs) (R.ext e1) hv ⟨vs, rfl, rvs _ hv⟩ (oneAt_0 sh1 hl) (by rw [List.length_cons, ← har, ← sh1, List.length_map]) p hk
          | exc c' ks' vs' =>
            rw [hF] at p
            refine ⟨Hse, He, env, Hs, Hr, R, ?_⟩
            rw [hF]
            exact fun cv d Hs' Hr' H' x e => p cv d σ Hs' Hr' H' (R.ext x) e
          | bad => rw [hF] at p; exact p.elim
      | _ => rw [htd] at hp; cases hp
  · exact p.elim
theorem pe_lendMR {pl : Sem Bool} {ar i l : Nat} (g : Good X J n) (hn : k ≤ n) (T : ∀ q ∈ tbl, MthM X.prog X.w J.toGx X.mg X.base m k (ar + 1) (l + 1) q.1 q.2) (ho : MV X J o fx) (ha : MAM X J i (e :: es) sh FM) (hl : oneB l sh = true := by rfl) (har : sh.length = ar := by rfl)
    (hst : starEach (e :: es) X.env = (false, eval e X.env) :: starEach es X.env := by rfl) (hpl : (backTo pos (starEach es X.env)).any (·.1) = false := by rfl)
    (ht : eval (.Call (.Attribute o m apos) (e :: es) [] pos) X.env = (do
      let ov ← eval o X.env
      standAt apos.atName
      let (f, first) ← holding [ov] (getMethod ov m pl)
      callWith pos f first (backTo pos (starEach (e :: es) X.env)) (backToKw pos (keywordEach [] X.env))) := by rfl) :
    PE X (.Call (.Attribute o m apos) (e :: es) [] pos) (tLend J (lendMR i m tbl fx FM)) := by
  refine pe_imp (pe_methD (E := WE J.W) ho.pe (fun σ => passAt g.tk σ) ha.pa hst hpl ht) fun σ H Q ⟨Hse, He, env, Hs, Hr, R, M, K, p, hk⟩ => ?_
  refine ⟨Hse, He, env, Hs, Hr, R, post_st R p fun x Hs1 Hr1 H1 e1 R1 p1 v rv => ?_⟩
  obtain ⟨t, d⟩ := x
  dsimp only at p1
  cases hp : pickMM m tbl d with
  | none => rw [hp] at p1; exact (show False from p1).elim
  | some G =>
    rw [hp] at p1
    dsimp only at p1
    cases d with
    | obj c ks ys =>
      unfold pickMM at hp
      dsimp only at hp
      split at hp
      · cases hp
      · rename_i hm
        obtain ⟨a, C, dx, fs, rfl, h1, h2, h3, h4⟩ := RepT.insH e1.ok rv
        have T1 := T _ (lookTM_mem hp)
        rw [T1.cg.cl] at h1
        cases h1
        obtain ⟨fd, ps, hb, hf⟩ := T1.fn.ok
        have eK := g.K
        refine ⟨a, _, dx, fs, _, fd, ps, [], [], k, _, rfl, h2, lookup_none (by rw [h3]; simpa using hm), by rw [eK]; exact T1.cg.cls, by rw [eK]; exact T1.mt, by rw [eK]; exact hf, g.room.mono hn, by rw [eK]; exact hb, .nil, ?_⟩
        cases hF : FM env with
        | ok xs =>
          rw [hF] at p1
          obtain ⟨o1, o2⟩ := ha.at_ hl hF
          refine ⟨Hse, He, env, Hs1, Hr1, R1, ?_⟩
          rw [hF]
          exact fun Hs2 Hr2 H2 e2 vs rvs => by
            dsimp only
            rw [List.append_nil]
            have R2 := R1.ext e2
            obtain ⟨u, hu⟩ := lendK_own R2 p1
            exact run_lend (xs := .v (t, .obj c ks ys) :: xs) (vs := .ref a :: vs) R2 (l := l + 1) (ar := ar + 1) hu ⟨_, vs, rfl, rv.ext e2, rvs u hu⟩ (by rw [oneAt, Bool.and_eq_true]; exact ⟨rfl, o1⟩) (by rw [List.length_cons, o2, har]) p1 hk
        | exc c' ks' vs' =>
          rw [hF] at p1
          refine ⟨Hse, He, env, Hs1, Hr1, R1, ?_⟩
          rw [hF]
          exact fun cv d Hs' Hr' H' x e => p1 cv d σ Hs' Hr' H' (R1.ext x) e
        | bad => rw [hF] at p1; exact (show False from p1).elim
    | _ => cases hp
end
end DL

namespace DL
open PySem PySem.Spec PyProof.Rows L2
/-! ### tests in which something is lent -/
def tLT (J : Jx) (S : (Env → Bool → SR) → Env → SR) : TT := fun σ H Q => ∃ Hse He env Hs Hr, Rel J Hse He env σ Hs Hr H ∧ ∃ (M : Ends) (K : Env → Bool → SR), PostS J Hse He M (S K env) ∧
  ∀ env' b Hs' Hr' H', Rel J Hse He env' σ Hs' Hr' H' → PostS J Hse He M (K env' b) → Q b H'
structure ML (X : Cx) (J : Jx) (e : Expr) (S : (Env → Bool → SR) → Env → SR) : Prop where
  pt : PT X e (tLT J S)
structure MLW (X : Cx) (J : Jx) (e : Expr) (S : (Env → Bool → SR) → Env → SR) : Prop where
  pw : PW X e (tLT J S)
def plainT (ft : Env → Res Bool) (K : Env → Bool → SR) : Env → SR := fun env => (ft env).st env fun b => K env b
def notL (S : (Env → Bool → SR) → Env → SR) (K : Env → Bool → SR) : Env → SR := S fun env b => K env (!b)
def orL (S S2 : (Env → Bool → SR) → Env → SR) (K : Env → Bool → SR) : Env → SR := S fun env b => if b = true then K env true else S2 K env
def andL (S S2 : (Env → Bool → SR) → Env → SR) (K : Env → Bool → SR) : Env → SR := S fun env b => if b = true then S2 K env else K env false
def cmpL (S : (Env → D → SR) → Env → SR) (g : Env → Res TV) (k : TV → TV → Res TV) (K : Env → Bool → SR) : Env → SR := S fun env d => (g env).st env fun y => (k (.s, d) y).st env fun z => match z.2 with
  | .bl b => K env b
  | _ => .bad
def valL (S : (Env → D → SR) → Env → SR) (K : Env → Bool → SR) : Env → SR := S fun env d => match d with
  | .bl b => K env b
  | _ => .bad
def ifL (S : (Env → Bool → SR) → Env → SR) (A B : Env → SR) : Env → SR := S fun env b => if b = true then A env else B env
section
variable {X : Cx} {J : Jx} {a b c : Expr} {rest : List Expr} {pos : Pos} {S S2 : (Env → Bool → SR) → Env → SR} {SD : (Env → D → SR) → Env → SR} {ft : Env → Res Bool} {g : Env → Res TV}
theorem ml_of (h : MT X J a ft) : ML X J a (plainT ft) := ⟨pt_imp h.pt fun σ H Q ⟨Hse, He, env, Hs, Hr, R, M, K, p, hk⟩ => ⟨Hse, He, env, Hs, Hr, R, post_st R p fun z Hs' Hr' H' _ R' p' => hk env z Hs' Hr' H' R' p'⟩⟩
theorem ml_not (h : ML X J a S) : ML X J (.UnaryOp .Not a pos) (notL S) := ⟨pt_imp (pt_not h.pt) fun σ H Q ⟨Hse, He, env, Hs, Hr, R, M, K, p, hk⟩ => ⟨Hse, He, env, Hs, Hr, R, M, fun env b => K env (!b), p, fun env' b Hs' Hr' H' R' p' => hk env' (!b) Hs' Hr' H' R' p'⟩⟩
theorem mlw_or1 (h : ML X J a S) : MLW X J (.BoolOp .Or [a] pos) S := ⟨pw_or1 h.pt⟩
theorem mlw_and1 (h : ML X J a S) : MLW X J (.BoolOp .And [a] pos) S := ⟨pw_and1 h.pt⟩
theorem mlw_or (h : ML X J a S) (h2 : MLW X J (.BoolOp .Or (b :: rest) pos) S2) : MLW X J (.BoolOp .Or (a :: b :: rest) pos) (orL S S2) := ⟨pw_imp (pw_or h.pt h2.pw) fun σ H Q ⟨Hse, He, env, Hs, Hr, R, M, K, p, hk⟩ =>
  ⟨Hse, He, env, Hs, Hr, R, M, fun env b => if b = true then K env true else S2 K env, p, fun env' b Hs' Hr' H' R' p' => by
    show if b = true then _ else _
    cases b with
    | true => exact hk env' true Hs' Hr' H' R' p'
    | false => exact ⟨Hse, He, env', Hs', Hr', R', M, K, p', hk⟩⟩⟩
theorem mlw_and (h : ML X J a S) (h2 : MLW X J (.BoolOp .And (b :: rest) pos) S2) : MLW X J (.BoolOp .And (a :: b :: rest) pos) (andL S S2) := ⟨pw_imp (pw_and h.pt h2.pw) fun σ H Q ⟨Hse, He, env, Hs, Hr, R, M, K, p, hk⟩ =>
  ⟨Hse, He, env, Hs, Hr, R, M, fun env b => if b = true then S2 K env else K env false, p, fun env' b Hs' Hr' H' R' p' => by
    show if b = true then _ else _
    cases b with
    | true => exact ⟨Hse, He, env', Hs', Hr', R', M, K, p', hk⟩
    | false => exact hk env' false Hs' Hr' H' R' p'⟩⟩
theorem ml_w (h : MLW X J a S) : ML X J a S := ⟨h.pw.pt⟩
theorem ml_cmp {op : CmpOp} {k : TV → TV → Res TV} (o : OpK X J op k) (ha : PE X a (tLend J SD)) (hb : MV X J b g) (hm : behindInMarks op b = false := by rfl) : ML X J (.Compare a [op] [b] pos) (cmpL SD g k) := by
  obtain ⟨r, ho, hk0⟩ := o.ok
  refine ⟨pt_imp (pt_cmpR ho ha hb.pe hm) fun σ H Q ⟨Hse, He, env, Hs, Hr, R, M, K, p, hk⟩ => ?_⟩
  exact ⟨Hse, He, env, Hs, Hr, R, M, _, p, fun env' d Hs' Hr' H' v R' rv p' => ⟨Hse, He, env', Hs', Hr', R', post_st R' p' fun y Hs2 Hr2 H2 x2 R2 p2 w rw =>
    hk0 σ Hs2 Hr2 H2 (.s, d) y v w _ R2.ok (rv.mono x2.s) rw (post_st R2 p2 fun z Hs3 Hr3 H3 x3 R3 p3 u ru => by
      obtain ⟨t, dz⟩ := z
      cases dz with
      | bl bb =>
        have : u = .bl bb := by cases (ru.h R3.ok) <;> rfl
        exact ⟨bb, this, hk env' bb Hs3 Hr3 H3 R3 p3⟩
      | _ => exact (show False from p3).elim)⟩⟩
theorem ml_val (ha : PE X a (tLend J SD)) (he : ∀ whole, isTrue a X.env whole = (do let v ← whole; standAt a.pos; holding [v] (truthy v)) := by intro _; rfl) : ML X J a (valL SD) := by
  refine ⟨pt_imp (pt_val ha he) fun σ H Q ⟨Hse, He, env, Hs, Hr, R, M, K, p, hk⟩ => ⟨Hse, He, env, Hs, Hr, R, M, _, p, fun env' d Hs' Hr' H' v R' rv p' => ?_⟩⟩
  cases d with
  | bl b =>
    have : v = .bl b := by cases rv <;> rfl
    exact ⟨b, this, hk env' b Hs' Hr' H' R' p'⟩
  | _ => exact (show False from p').elim
theorem ms_ifL {A B : List Stmt} {F G : Env → SR} (hc : ML X J c S) (ha : MSs X J A F) (hb : MSs X J B G) : MS X J (.If c A B pos) (ifL S F G) := ⟨ps_imp (ps_if hc.pt ha.ps hb.ps) fun D σ H ⟨Hse, He, env, Hs, Hr, R, p⟩ =>
  ⟨Hse, He, env, Hs, Hr, R, D, fun env b => if b = true then F env else G env, p, fun env' z Hs' Hr' H' R' p' => by
    show if z = true then _ else _
    cases z with
    | true => exact ⟨Hse, He, env', Hs', Hr', R', p'⟩
    | false => exact ⟨Hse, He, env', Hs', Hr', R', p'⟩⟩⟩
end
end DL

namespace DL
open PySem PySem.Spec PyProof.Rows L2
/-! ### displays of own things: trees -/
def evODs : List EV → Option (List OD)
  | [] => some []
  | e :: r => match evOD e, evODs r with
    | some t, some ts => some (t :: ts)
    | _, _ => none
def SAE (J : Jx) (H0 : Hp) (Q : List V → Hp → Prop) (es : List EV) (Hs Hr H : Hp) : Prop := match evODs es with
  | some ts => ∀ vs fp, OReps J.toGx Hs H vs ts fp → fp.Nodup → (∀ p ∈ fp, Hr p = none) → (∀ p ∈ fp, H0 p = none) → Q vs H
  | none => False
structure MAE (X : Cx) (J : Jx) (es : List Expr) (F : Env → Res (List EV)) : Prop where
  pa : PA X es (fun σ H Q => Now J σ H F (SAE J H Q))
def argEN : Env → Res (List EV) := fun _ => .ok []
def argEC (f : Env → Res EV) (F : Env → Res (List EV)) : Env → Res (List EV) := fun env => (f env).bind fun x => match evOD x with
  | some _ => (F env).bind fun xs => .ok (x :: xs)
  | none => .bad
theorem evODs_len : ∀ {es : List EV} {ts : List OD}, evODs es = some ts → ts.length = es.length
  | [], ts, h => by cases h; rfl
  | e :: r, ts, h => by
    rw [evODs] at h
    cases h1 : evOD e with
    | none => rw [h1] at h; cases h
    | some t =>
      cases h2 : evODs r with
      | none => rw [h1, h2] at h; cases h
      | some us =>
        rw [h1, h2] at h
        cases h
        exact congrArg (· + 1) (evODs_len h2)
theorem OReps.at_ {G : Gx} {Hs H : Hp} {vs : List V} {ts : List OD} {fp : List Addr} (r : OReps G Hs H vs ts fp) (p : Addr) (hp : p ∈ fp) : ∃ o, H p = some o := let ⟨o, a, _⟩ := r.at p hp; ⟨o, a⟩
section
variable {X : Cx} {J : Jx} {e : Expr} {es : List Expr} {pos : Pos} {fe : Env → Res EV} {FE : Env → Res (List EV)}
theorem mae_nil : MAE X J [] argEN := ⟨pa_imp pa_nil fun σ H Q ⟨_, _, _, Hs, Hr, R, p⟩ => by
  have p := Post.now R.ok p
  exact p [] [] .nil List.nodup_nil (fun p hp => by cases hp) (fun p hp => by cases hp)⟩
theorem mae_cons (ha : ME X J e fe) (hr : MAE X J es FE) (hs : starEach (e :: es) X.env = (false, eval e X.env) :: starEach es X.env := by rfl) : MAE X J (e :: es) (argEC fe FE) :=
  ⟨pa_imp (pa_cons ha.pe hr.pa hs) fun σ H Q ⟨Hse, He, env, Hs, Hr, R, p⟩ => ⟨Hse, He, env, Hs, Hr, R, (Post.bind p).imp fun x Hs1 Hr1 H1 e1 p1 => by
    refine SM.se e1.ok ?_
    unfold SM
    cases hx : evOD x with
    | none => rw [hx] at p1; exact (show False from p1).elim
    | some t =>
      rw [hx] at p1
      dsimp only at p1 ⊢
      intro v fp rv nd out fresh
      refine ⟨Hse, He, env, Hs1, Hr1, R.ext e1, (Post.bind p1).imp fun xs Hs2 Hr2 H2 e2 p2 => ?_⟩
      have p3 : SAE J H Q (x :: xs) Hs2 Hr2 H2 := Post.now e2.ok p2
      unfold SAE at p3 ⊢
      rw [evODs, hx] at p3
      cases hxs : evODs xs with
      | none => rw [hxs] at p3; exact p3.elim
      | some ts =>
        rw [hxs] at p3
        dsimp only at p3 ⊢
        intro vs fp' rvs nd' out' fresh'
        have at1 : ∀ q ∈ fp, ∃ o, H1 q = some o := fun q hq => let ⟨o, a, _⟩ := rv.at q hq; ⟨o, a⟩
        refine p3 (v :: vs) (fp ++ fp') (.cons (rv.mono e2.s e2.h) rvs) (List.nodup_append.mpr ⟨nd, nd', fun a ha b hb z => ?_⟩) (fun q hq => ?_) fun q hq => ?_
        · subst z
          obtain ⟨o, ho⟩ := at1 a ha
          rw [fresh' a hb] at ho
          cases ho
        · rcases List.mem_append.mp hq with hq | hq
          · obtain ⟨o, ho⟩ := at1 q hq
            exact e2.still ho (out q hq)
          · exact out' q hq
        · rcases List.mem_append.mp hq with hq | hq
          · exact fresh q hq
          · exact e1.h.free (fresh' q hq)⟩⟩
theorem wishAE {J : Jx} {Q : List V → Hp → Prop} {H0 H1 : Hp} (s : Same H0 H1) {es : List EV} {Hs Hr H : Hp} (h : SAE J H0 Q es Hs Hr H) : SAE J H1 Q es Hs Hr H := by
  unfold SAE at h ⊢
  cases q : evODs es with
  | none => rw [q] at h; exact h.elim
  | some ts =>
    rw [q] at h
    exact fun vs fp a b c d => h vs fp a b c fun p hp => s.free (d p hp)
def kTupT (es : List EV) : Res EV := match evODs es with
  | some ts => if es.length ≤ 16777216 then .ok (.ownt (.tup ts)) else .bad
  | none => .bad
def kLstO (es : List EV) : Res EV := match evODs es with
  | some ts => if es.length ≤ 16777216 then .ok (.ownt (.lst ts)) else .bad
  | none => .bad
theorem me_tupT {x1} (ha : MAE X J es FE) : ME X J (.Tuple es x1 pos) (thenK FE kTupT) := ⟨pe_imp (pe_tup ha.pa) fun σ H Q ⟨Hse, He, env, Hs, Hr, R, p⟩ => ⟨Hse, He, env, Hs, Hr, R, (Post.bind p).imp fun xs Hs1 Hr1 H1 e1 p1 => by
  unfold kTupT at p1
  unfold SAE
  cases hx : evODs xs with
  | none => rw [hx] at p1; exact (show False from p1).elim
  | some ts =>
    rw [hx] at p1
    dsimp only at p1 ⊢
    split at p1
    · rename_i hl
      intro vs fp r nd out fresh
      refine ⟨by rw [sizeLine_eq, r.length, evODs_len hx]; exact hl, fun q hq => ?_⟩
      have x := Ext.new (o := .tup vs) e1.ok hq
      have ne : ∀ z ∈ fp, z ≠ q := fun z hz k => by
        obtain ⟨o, ho⟩ := r.at_ z hz
        rw [k, hq] at ho
        cases ho
      refine p1 _ _ _ x (.ref q) fp (.tup upd_same (r.frame x.s fun a ha o h => x.h _ _ h)) nd (fun z hz => ?_) fun z hz => fresh z hz
      rw [upd_ne (ne z hz)]
      exact out z hz
    · exact (show False from p1).elim⟩⟩
theorem me_lstO (ha : MAE X J es FE) : ME X J (.List es pos) (thenK FE kLstO) := ⟨pe_imp (pe_lst ha.pa) fun σ H Q ⟨Hse, He, env, Hs, Hr, R, p⟩ => ⟨Hse, He, env, Hs, Hr, R, (Post.bind p).imp fun xs Hs1 Hr1 H1 e1 p1 => by
  unfold kLstO at p1
  unfold SAE
  cases hx : evODs xs with
  | none => rw [hx] at p1; exact (show False from p1).elim
  | some ts =>
    rw [hx] at p1
    dsimp only at p1 ⊢
    split at p1
    · rename_i hl
      intro vs fp r nd out fresh
      refine ⟨by rw [sizeLine_eq, r.length, evODs_len hx]; exact hl, fun q hq => ?_⟩
      have ne : ∀ z ∈ fp, z ≠ q := fun z hz k => by
        obtain ⟨o, ho⟩ := r.at_ z hz
        rw [k, hq] at ho
        cases ho
      have x := Ext.new0 (o := .lst vs) e1.ok hq fun xs z => by cases z
      refine p1 _ _ _ x (.ref q) (q :: fp) (.lst upd_same (r.frame x.s fun a ha o h => x.h _ _ h)) (List.nodup_cons.mpr ⟨fun z => ne q z rfl, nd⟩) (fun z hz => ?_) fun z hz => ?_
      · rcases List.mem_cons.mp hz with rfl | hz
        · exact e1.ok.none_r hq
        · exact out z hz
      · rcases List.mem_cons.mp hz with rfl | hz
        · exact e1.h.free hq
        · exact fresh z hz
    · exact (show False from p1).elim⟩⟩
end
/-! ### a list within an own tree is changed -/
theorem OReps.mutK {G : Gx} {Hs H : Hp} {vs : List V} {ts : List OD} {gp : List Addr} {q : Nat} {xs : List OD} (h4 : OReps G Hs H vs ts gp) (nd : gp.Nodup) (hq : ts[q]? = some (.lst xs)) :
    ∃ p ws fx, vs[q]? = some (.ref p) ∧ H p = some (.lst ws) ∧ OReps G Hs H ws xs fx ∧ p ∈ gp ∧
      ∀ ws' xs', (∀ fx, OReps G Hs H ws xs fx → fx.Nodup → ∃ fx', OReps G Hs H ws' xs' fx' ∧ fx'.Nodup ∧ ∀ z ∈ fx', z ∈ fx) → ∃ gp', OReps G Hs (upd H p (.lst ws')) vs (ts.set q (.lst xs')) gp' ∧ gp'.Nodup ∧ ∀ z ∈ gp', z ∈ gp := by
  obtain ⟨u, f, h5, g2⟩ := h4.get hq
  have h8 := g2
  generalize ht : OD.lst xs = tt at g2
  cases g2 <;> cases ht
  rename_i p ws fx h6 h7
  refine ⟨p, ws, fx, h5, h6, h7, ?_⟩
  have key : ∀ {vs : List V} {ts : List OD} {gp : List Addr} {q : Nat}, OReps G Hs H vs ts gp → ts[q]? = some (.lst xs) → vs[q]? = some (.ref p) → gp.Nodup → (p :: fx).Nodup ∧ ∀ z ∈ p :: fx, z ∈ gp := by
    intro vs ts gp q o
    induction o using OReps.rec (motive_1 := fun _ _ _ _ => True) generalizing q with
    | nil => intro h; simp at h
    | cons h r _ ih =>
      rename_i v vs x ts f g
      intro ht hu n
      have n2 := List.nodup_append.mp n
      cases q with
      | zero =>
        simp at ht hu
        subst ht hu
        cases h.det h8
        exact ⟨n2.1, fun z hz => List.mem_append_left _ hz⟩
      | succ q =>
        obtain ⟨k1, k2⟩ := ih (q := q) (by simpa using ht) (by simpa using hu) n2.2.1
        exact ⟨k1, fun z hz => List.mem_append_right _ (k2 z hz)⟩
    | _ => trivial
  obtain ⟨k1, k2⟩ := key h4 hq h5 nd
  refine ⟨k2 p List.mem_cons_self, fun ws' xs' hw => ?_⟩
  have ndx2 := List.nodup_cons.mp k1
  obtain ⟨fx', w1, w2, w3⟩ := hw fx h7 ndx2.2
  have w1' : OReps G Hs (upd H p (.lst ws')) ws' xs' fx' := w1.frame (Same.refl _) fun z hz o e => by
    rw [upd_ne fun k => ndx2.1 (by rw [← k]; exact w3 z hz)]
    exact e
  have n3 : ORep G Hs (upd H p (.lst ws')) (.ref p) (.lst xs') (p :: fx') := .lst upd_same w1'
  obtain ⟨-, gp', o1, o2, o3⟩ := OReps.swap h4 hq h5 h8 nd (fun z _ hn => upd_ne fun k => hn (by rw [k]; exact List.mem_cons_self)) n3 (List.nodup_cons.mpr ⟨fun z => ndx2.1 (w3 p z), w2⟩) (fun z hz => by
    rcases List.mem_cons.mp hz with k | k
    · rw [k]; exact List.mem_cons_self
    · exact List.mem_cons_of_mem _ (w3 z k))
  exact ⟨gp', o1, o2, o3⟩
/-- lists and tuples: the parts, and the same with other parts -/
def rowT : OD → Option (List OD)
  | .lst ts => some ts
  | .tup ts => some ts
  | _ => none
def reT : OD → List OD → OD
  | .lst _, ts => .lst ts
  | .tup _, ts => .tup ts
  | t, _ => t
theorem ORep.row {G : Gx} {Hs H : Hp} {v : V} {t : OD} {ts : List OD} {fp : List Addr} (r : ORep G Hs H v t fp) (nd : fp.Nodup) (hr : rowT t = some ts) :
    ∃ a vs gp, v = .ref a ∧ (H a = some (.lst vs) ∨ Hs a = some (.tup vs)) ∧ OReps G Hs H vs ts gp ∧ gp.Nodup ∧ (∀ z ∈ gp, z ∈ fp) ∧
      ∀ H' ts' gp', (∀ z, z ∉ gp → H' z = H z) → OReps G Hs H' vs ts' gp' → gp'.Nodup → (∀ z ∈ gp', z ∈ gp) → ∃ fp', ORep G Hs H' v (reT t ts') fp' ∧ fp'.Nodup ∧ ∀ z ∈ fp', z ∈ fp := by
  cases t with
  | lst us =>
    cases hr
    generalize ht : OD.lst ts = tt at r
    cases r <;> cases ht
    rename_i a vs gp h1 h2
    have n := List.nodup_cons.mp nd
    refine ⟨a, vs, gp, rfl, .inl h1, h2, n.2, fun z hz => List.mem_cons_of_mem _ hz, fun H' ts' gp' hc o n2 sub => ?_⟩
    refine ⟨a :: gp', .lst (by rw [hc a n.1]; exact h1) o, List.nodup_cons.mpr ⟨fun z => n.1 (sub a z), n2⟩, fun z hz => ?_⟩
    rcases List.mem_cons.mp hz with k | k
    · rw [k]; exact List.mem_cons_self
    · exact List.mem_cons_of_mem _ (sub z k)
  | tup us =>
    cases hr
    generalize ht : OD.tup ts = tt at r
    cases r <;> cases ht
    rename_i a vs h1 h2
    exact ⟨a, vs, fp, rfl, .inr h1, h2, nd, fun z hz => hz, fun H' ts' gp' hc o n2 sub => ⟨gp', .tup h1 o, n2, sub⟩⟩
  | sh d => cases hr
  | dic ks us => cases hr
  | obj c ks us => cases hr
theorem Rel.mutR {J : Jx} {Hse He : Hp} {env : Env} {σ : St} {Hs Hr H : Hp} (R : Rel J Hse He env σ Hs Hr H) {i : Nat} {t : OD} {ts : List OD} {q : Nat} {xs : List OD} (h0 : env[i]? = some (some (.ownt t))) (hr : rowT t = some ts) (hq : ts[q]? = some (.lst xs)) :
    ∃ a vs p ws, σ[i]? = some (some (.ref a)) ∧ (H a = some (.lst vs) ∨ H a = some (.tup vs)) ∧ vs.length = ts.length ∧ vs[q]? = some (.ref p) ∧ H p = some (.lst ws) ∧ ws.length = xs.length ∧
      ∀ ws' xs', (∀ fx, OReps J.toGx Hs H ws xs fx → fx.Nodup → ∃ fx', OReps J.toGx Hs H ws' xs' fx' ∧ fx'.Nodup ∧ ∀ z ∈ fx', z ∈ fx) → Rel J Hse He (env.set i (some (.ownt (reT t (ts.set q (.lst xs')))))) σ Hs Hr (upd H p (.lst ws')) := by
  obtain ⟨v, fp, hv, r, nd, out⟩ := R.slot i _ h0
  obtain ⟨a, vs, gp, rfl, h1, h2, n2, sub, back⟩ := r.row nd hr
  obtain ⟨p, ws, fx, k1, k2, k3, k4, mk⟩ := h2.mutK n2 hq
  refine ⟨a, vs, p, ws, hv, h1.imp id fun h => R.ok.sh _ _ h, h2.length, k1, k2, k3.length, fun ws' xs' hw => ?_⟩
  obtain ⟨gp', o1, o2, o3⟩ := mk ws' xs' hw
  have hc : ∀ z, z ∉ gp → upd H p (.lst ws') z = H z := fun z hz => upd_ne fun k => hz (by rw [k]; exact k4)
  obtain ⟨fp', rn, m2, m3⟩ := back _ _ _ hc o1 o2 o3
  have of : OwFp J.toGx Hs H σ[i]? fp (.ownt t) := ⟨_, hv, r⟩
  refine R.mut h0 of (fun z hz => hc z fun k => hz (sub z k)) (fun z hz ys => ?_) ⟨_, fp', hv, rn, m2, fun z hz => out z (m3 z hz)⟩ fun f hf z hz => .inl ?_
  · by_cases k : z = p
    · subst k; rw [upd_same]; exact fun e => by cases e
    · rw [upd_ne k]
      obtain ⟨o, e1, e2⟩ := r.at z hz
      rw [e1]
      exact fun e => e2 ys (Option.some.inj e)
  · obtain ⟨w, e, rr⟩ := hf
    rw [hv] at e
    cases Option.some.inj (Option.some.inj e)
    cases rn.det rr
    exact m3 z hz
/-- what no slot owns, nor may be read, is changed -/
theorem Rel.mutF {J : Jx} {Hse He : Hp} {env : Env} {σ : St} {Hs Hr H : Hp} (R : Rel J Hse He env σ Hs Hr H) {p : Addr} {o : HO} (hr : Hr p = none) (h0 : ∀ xs, H p ≠ some (.tup xs)) (no : ∀ xs, o ≠ .tup xs) (un : ∀ j, ¬ OwnAt J.toGx Hs H env σ j p) : Rel J Hse He env σ Hs Hr (upd H p o) :=
  have back : ∀ a q, OwnAt J.toGx Hs (upd H p o) env σ a q → OwnAt J.toGx Hs H env σ a q := fun a q ⟨ea, fa, h1, h2, h3⟩ =>
    ⟨ea, fa, h1, OwFp.back (Same.refl _) (R.slot a ea h1) (fun f hf z hz u h => by rw [upd_ne fun k => un a ⟨ea, f, h1, hf, by rw [← k]; exact hz⟩]; exact h) h2, h3⟩
  { ok := ⟨R.ok.sr, fun a u e => by
      rw [upd_ne fun k => by rw [k, hr] at e; cases e]
      exact R.ok.rh a u e, fun a xs e => by
      by_cases k : a = p
      · subst k; rw [upd_same] at e; exact absurd (Option.some.inj e) (no xs)
      · rw [upd_ne k] at e; exact R.ok.ti a xs e⟩
    len := R.len
    slot := fun j e h => (R.slot j e h).other fun f hf z hz => upd_ne fun k => un j ⟨e, f, h, hf, by rw [← k]; exact hz⟩
    dis := fun a b q n ha hb => R.dis a b q n (back a q ha) (back b q hb)
    se := R.se
    he := R.he
    ns := R.ns
    pin := R.pin }
theorem OReps.snoc {G : Gx} {Hs H : Hp} {v : V} {d : D} (hd : Rep G Hs v d) {ws : List V} {xs : List OD} {fq : List Addr} (o : OReps G Hs H ws xs fq) (nd : fq.Nodup) : ∃ f, OReps G Hs H (ws ++ [v]) (xs ++ [.sh d]) f ∧ f.Nodup ∧ ∀ z ∈ f, z ∈ fq := ⟨fq, o.addSh hd, nd, fun _ h => h⟩
theorem atI_of {α : Type} {vs : List α} {n : Int} {q : Nat} {z : α} (h : ixN vs.length n = some q) (g : vs[q]? = some z) : atI vs n = some z := by
  unfold atI
  rw [h]
  exact g
def treeI (i : Nat) (env : Env) (K : OD → SR) : SR := match (env[i]? : Option (Option EV)) with
  | some (some (.ownt t)) => K t
  | _ => .bad
/-- the list that stands at k in a tree -/
def kidR (t : OD) (k : TV) (K : List OD → Nat → List OD → SR) : SR := match rowT t with
  | some ts => (match k.2 with
    | .int n => (match ixN ts.length n with
      | some q => (match ts[q]? with
        | some (.lst xs) => K ts q xs
        | _ => .bad)
      | none => .bad)
    | _ => .bad)
  | none => .bad
theorem kidR_get {J : Jx} {Hse He : Hp} {t : OD} {k : TV} {M : Ends} {K : List OD → Nat → List OD → SR} (p : PostS J Hse He M (kidR t k K)) :
    ∃ ts n q xs, rowT t = some ts ∧ k.2 = .int n ∧ ixN ts.length n = some q ∧ ts[q]? = some (.lst xs) ∧ PostS J Hse He M (K ts q xs) := by
  unfold kidR at p
  split at p
  · rename_i ts h1
    split at p
    · rename_i n h2
      split at p
      · rename_i q h3
        split at p
        · rename_i xs h4
          exact ⟨ts, n, q, xs, h1, h2, h3, h4, p⟩
        · exact p.elim
      · exact p.elim
    · exact p.elim
  · exact p.elim
theorem treeI_get {J : Jx} {Hse He : Hp} {i : Nat} {env : Env} {M : Ends} {K : OD → SR} (p : PostS J Hse He M (treeI i env K)) : ∃ t, env[i]? = some (some (.ownt t)) ∧ PostS J Hse He M (K t) := by
  unfold treeI at p
  split at p
  · rename_i t h; exact ⟨t, h, p⟩
  · exact p.elim
def kappS (i : Nat) (fi fe : Env → Res TV) : Env → SR := fun env => treeI i env fun t => (fi env).st env fun k => kidR t k fun _ _ _ => (fe env).st env fun x => kidR t k fun ts q xs =>
  if shV x = true ∧ xs.length < 16777216 then .nx (env.set i (some (.ownt (reT t (ts.set q (.lst (xs ++ [.sh x.2]))))))) else .bad
def kclrS (i : Nat) (fi : Env → Res TV) : Env → SR := fun env => treeI i env fun t => (fi env).st env fun k => kidR t k fun ts q _ => .nx (env.set i (some (.ownt (reT t (ts.set q (.lst []))))))
def tappS (fE : Env → Res EV) (fi fe : Env → Res TV) : Env → SR := fun env => (fE env).st env fun a => match a with
  | .ownt t => (fi env).st env fun k => kidR t k fun _ _ xs => (fe env).st env fun x => if shV x = true ∧ xs.length < 16777216 then .nx env else .bad
  | _ => .bad
def oappS (fE : Env → Res EV) (fe : Env → Res TV) : Env → SR := fun env => (fE env).st env fun a => match a with
  | .own xs => (fe env).st env fun x => if shV x = true ∧ xs.length < 16777216 then .nx env else .bad
  | _ => .bad
section
variable {X : Cx} {J : Jx} {e ix o : Expr} {pos : Pos} {fe fi : Env → Res TV} {fE : Env → Res EV}
theorem ms_kapp (i : Nat) {x : Str} {px spos apos cpos : Pos} (hi : MV X J ix fi) (h : MV X J e fe) (hN : X.N[i]? = some x := by rfl) (hv : Vis X.env.scope x := by first | exact Or.inl rfl | exact Or.inr (Or.inl rfl) | exact Or.inr (Or.inr rfl)) (hd : (x == ("__debug__" : Str)) = false := by decide)
    (hcd : (x == ("__classdict__" : Str)) = false := by decide) (hp : PlainIx ix := by exact fun _ _ => rfl)
    (hs0 : starEach [e] X.env = (false, eval e X.env) :: starEach [] X.env := by rfl)
    (hbase : attributeBase (.Subscript (.Name x px) ix spos) "append" X.env (eval (.Subscript (.Name x px) ix spos) X.env) = eval (.Subscript (.Name x px) ix spos) X.env := by rfl)
    (hfew : ((backTo cpos (starEach [e] X.env)).all (fun x => !x.1) && (backToKw cpos (keywordEach [] X.env)).all (fun x => x.1.isSome) && decide ([e].length + ([] : List Keyword).length + (if ([] : List Keyword).isEmpty then 0 else 1) < 30)) = true := by rfl)
    (hline : (apos.endLine == cpos.line) = true := by rfl) (hplain : (backTo cpos (starEach [] X.env)).any (·.1) = false := by rfl)
    (hs : swapsWith (.Call (.Attribute (.Subscript (.Name x px) ix spos) "append" apos) [e] [] cpos) none pos.line X.env = pure false := by rfl) :
    MS X J (.Expr (.Call (.Attribute (.Subscript (.Name x px) ix spos) "append" apos) [e] [] cpos) pos) (kappS i fi fe) :=
  ⟨ps_imp (ps_expr (pe_bm PySem.F.plainAttrs_list PySem.F.slot_list_append PySem.F.type_list_append mt_append (pe_ix ix_seq (pv i hN hv hd hcd) hi.pe hp) (pa_cons h.pe pa_nil hs0) hbase hfew hline hs0 hplain) hs) fun D σ H ⟨Hse, He, env, Hs, Hr, R, p⟩ => by
    obtain ⟨t, e0, p⟩ := treeI_get (M := D) p
    obtain ⟨v, fp, hv0, r0, nd0, out0⟩ := R.slot i _ e0
    refine ⟨v, hv0, Hse, He, env, Hs, Hr, R, post_st R p fun k Hs1 Hr1 H1 x1 R1 p1 w rw => ?_⟩
    obtain ⟨ts, n, q, xs, g1, g2, g3, g4, p1⟩ := kidR_get (M := D) p1
    obtain ⟨tk, dk⟩ := k
    dsimp only at g2
    subst g2
    obtain ⟨a, vs, pl, ws, s1, s2, s3, s4, s5, s6, -⟩ := R1.mutR e0 g1 g4
    rw [hv0] at s1
    cases s1
    have at1 : atI vs n = some (.ref pl) := atI_of (by rw [s3]; exact g3) s4
    have cont : tyV X.K "list" (.ref pl) H1 ∧ tCons (tV J fe) tNil σ H1 fun xs H2 => rAppend (.ref pl) xs H2 fun _ H' => D.nx σ H' := by
      refine ⟨.inl ⟨rfl, ws, .inl (.inl s5)⟩, Hse, He, env, Hs1, Hr1, R1, post_st R1 p1 fun b Hs2 Hr2 H2 x2 R2 p2 u ru => ?_⟩
      obtain ⟨ts', n', q', xs', g1', g2', g3', g4', p2⟩ := kidR_get (M := D) p2
      rw [g1] at g1'
      cases g1'
      cases g2'
      rw [g3] at g3'
      cases g3'
      rw [g4] at g4'
      cases g4'
      split at p2
      · rename_i c
        obtain ⟨a2, vs2, pl2, ws2, r1, r2, r3, r4, r5, r6, mtt⟩ := R2.mutR e0 g1 g4
        rw [hv0] at r1
        cases r1
        have hpl : pl2 = pl := by
          rcases s2 with z | z
          · have z' := x2.h _ _ z
            rcases r2 with y | y
            · rw [z'] at y; cases y; rw [s4] at r4; cases r4; rfl
            · rw [z'] at y; cases y
          · have z' := x2.h _ _ z
            rcases r2 with y | y
            · rw [z'] at y; cases y
            · rw [z'] at y; cases y; rw [s4] at r4; cases r4; rfl
        subst hpl
        refine ⟨pl2, ws2, u, rfl, rfl, r5, by rw [sizeLine_eq, r6]; exact c.2, ?_⟩
        exact p2 σ _ _ _ (mtt _ _ fun fx o nd => o.snoc (ru.shV R2.ok c.1) nd)
      · exact p2.elim
    rcases s2 with s2 | s2
    · exact .inl ⟨a, vs, n, _, rfl, rw.isInt R1.ok, .inl (.inl s2), at1, cont⟩
    · exact .inr (.inl ⟨a, vs, n, _, rfl, rw.isInt R1.ok, .inl (.inl s2), at1, cont⟩)⟩
theorem ms_kclr (i : Nat) {x : Str} {px spos apos cpos : Pos} (hi : MV X J ix fi) (hN : X.N[i]? = some x := by rfl) (hv : Vis X.env.scope x := by first | exact Or.inl rfl | exact Or.inr (Or.inl rfl) | exact Or.inr (Or.inr rfl)) (hd : (x == ("__debug__" : Str)) = false := by decide)
    (hcd : (x == ("__classdict__" : Str)) = false := by decide) (hp : PlainIx ix := by exact fun _ _ => rfl)
    (hbase : attributeBase (.Subscript (.Name x px) ix spos) "clear" X.env (eval (.Subscript (.Name x px) ix spos) X.env) = eval (.Subscript (.Name x px) ix spos) X.env := by rfl) (hline : (apos.endLine == cpos.line) = true := by rfl)
    (hs : swapsWith (.Call (.Attribute (.Subscript (.Name x px) ix spos) "clear" apos) [] [] cpos) none pos.line X.env = pure false := by rfl) :
    MS X J (.Expr (.Call (.Attribute (.Subscript (.Name x px) ix spos) "clear" apos) [] [] cpos) pos) (kclrS i fi) :=
  ⟨ps_imp (ps_expr (pe_bm0 PySem.F.plainAttrs_list PySem.F.slot_list_clear PySem.F.type_list_clear mt_clear (pe_ix ix_seq (pv i hN hv hd hcd) hi.pe hp) hbase hline) hs) fun D σ H ⟨Hse, He, env, Hs, Hr, R, p⟩ => by
    obtain ⟨t, e0, p⟩ := treeI_get (M := D) p
    obtain ⟨v, fp, hv0, r0, nd0, out0⟩ := R.slot i _ e0
    refine ⟨v, hv0, Hse, He, env, Hs, Hr, R, post_st R p fun k Hs1 Hr1 H1 x1 R1 p1 w rw => ?_⟩
    obtain ⟨ts, n, q, xs, g1, g2, g3, g4, pn⟩ := kidR_get (M := D) p1
    obtain ⟨tk, dk⟩ := k
    dsimp only at g2
    subst g2
    obtain ⟨a, vs, pl, ws, s1, s2, s3, s4, s5, s6, mtt⟩ := R1.mutR e0 g1 g4
    rw [hv0] at s1
    cases s1
    have at1 : atI vs n = some (.ref pl) := atI_of (by rw [s3]; exact g3) s4
    have cont : tyV X.K "list" (.ref pl) H1 ∧ rClear (.ref pl) [] H1 fun _ H' => D.nx σ H' :=
      ⟨.inl ⟨rfl, ws, .inl (.inl s5)⟩, pl, ws, rfl, rfl, s5, pn σ _ _ _ (mtt _ _ fun fx o nd => ⟨[], .nil, List.nodup_nil, fun z hz => by cases hz⟩)⟩
    rcases s2 with s2 | s2
    · exact .inl ⟨a, vs, n, _, rfl, rw.isInt R1.ok, .inl (.inl s2), at1, cont⟩
    · exact .inr (.inl ⟨a, vs, n, _, rfl, rw.isInt R1.ok, .inl (.inl s2), at1, cont⟩)⟩
theorem ms_tapp {spos apos cpos : Pos} (hE : ME X J o fE) (hi : MV X J ix fi) (h : MV X J e fe) (hp : PlainIx ix := by exact fun _ _ => rfl)
    (hs0 : starEach [e] X.env = (false, eval e X.env) :: starEach [] X.env := by rfl)
    (hbase : attributeBase (.Subscript o ix spos) "append" X.env (eval (.Subscript o ix spos) X.env) = eval (.Subscript o ix spos) X.env := by rfl)
    (hfew : ((backTo cpos (starEach [e] X.env)).all (fun x => !x.1) && (backToKw cpos (keywordEach [] X.env)).all (fun x => x.1.isSome) && decide ([e].length + ([] : List Keyword).length + (if ([] : List Keyword).isEmpty then 0 else 1) < 30)) = true := by rfl)
    (hline : (apos.endLine == cpos.line) = true := by rfl) (hplain : (backTo cpos (starEach [] X.env)).any (·.1) = false := by rfl)
    (hs : swapsWith (.Call (.Attribute (.Subscript o ix spos) "append" apos) [e] [] cpos) none pos.line X.env = pure false := by rfl) :
    MS X J (.Expr (.Call (.Attribute (.Subscript o ix spos) "append" apos) [e] [] cpos) pos) (tappS fE fi fe) :=
  ⟨ps_imp (ps_expr (pe_bm PySem.F.plainAttrs_list PySem.F.slot_list_append PySem.F.type_list_append mt_append (pe_ix ix_seq hE.pe hi.pe hp) (pa_cons h.pe pa_nil hs0) hbase hfew hline hs0 hplain) hs) fun D σ H ⟨Hse, He, env, Hs, Hr, R, p⟩ => by
    refine ⟨Hse, He, env, Hs, Hr, R, post_st R p fun a Hs1 Hr1 H1 x1 R1 p1 => ?_⟩
    cases a with
    | ownt t =>
      intro v fp r nd out fresh
      refine ⟨Hse, He, env, Hs1, Hr1, R1, post_st R1 p1 fun k Hs2 Hr2 H2 x2 R2 p2 w rw => ?_⟩
      obtain ⟨ts, n, q, xs, g1, g2, g3, g4, pn⟩ := kidR_get (M := D) p2
      obtain ⟨tk, dk⟩ := k
      dsimp only at g2
      subst g2
      obtain ⟨ad, vs, gp, rfl, h1, h2, n2, sub, -⟩ := (r.mono x2.s x2.h).row nd g1
      obtain ⟨pl, ws, fx, k1, k2, k3, k4, -⟩ := h2.mutK n2 g4
      have at1 : atI vs n = some (.ref pl) := atI_of (by rw [h2.length]; exact g3) k1
      have cont : tyV X.K "list" (.ref pl) H2 ∧ tCons (tV J fe) tNil σ H2 fun xs H2 => rAppend (.ref pl) xs H2 fun _ H' => D.nx σ H' := by
        refine ⟨.inl ⟨rfl, ws, .inl (.inl k2)⟩, Hse, He, env, Hs2, Hr2, R2, post_st R2 pn fun b Hs3 Hr3 H3 x3 R3 p3 u ru => ?_⟩
        split at p3
        · rename_i c
          refine ⟨pl, ws, u, rfl, rfl, x3.h _ _ k2, by rw [sizeLine_eq, k3.length]; exact c.2, ?_⟩
          have x13 := (x1.trans x2).trans x3
          obtain ⟨ob, hob, -⟩ := r.at pl (sub pl k4)
          refine p3 σ _ _ _ (R3.mutF ((x2.trans x3).still hob (out pl (sub pl k4))) (fun ys z => ?_) (fun ys z => by cases z) fun j hj => ?_)
          · rw [x3.h _ _ k2] at z; cases z
          · obtain ⟨ob2, ho⟩ := (R.own (hj.back R x13.s fun _ _ o h => x13.h _ o h)).1
            rw [fresh pl (sub pl k4)] at ho
            cases ho
        · exact p3.elim
      rcases h1 with h1 | h1
      · exact .inl ⟨ad, vs, n, _, rfl, rw.isInt R2.ok, .inl (.inl h1), at1, cont⟩
      · exact .inr (.inl ⟨ad, vs, n, _, rfl, rw.isInt R2.ok, .inl (.inl (R2.ok.sh _ _ h1)), at1, cont⟩)
    | _ => exact (show False from p1).elim⟩
theorem ms_oapp {apos cpos : Pos} (hE : ME X J o fE) (h : MV X J e fe)
    (hs0 : starEach [e] X.env = (false, eval e X.env) :: starEach [] X.env := by rfl)
    (hbase : attributeBase (o) "append" X.env (eval (o) X.env) = eval (o) X.env := by rfl)
    (hfew : ((backTo cpos (starEach [e] X.env)).all (fun x => !x.1) && (backToKw cpos (keywordEach [] X.env)).all (fun x => x.1.isSome) && decide ([e].length + ([] : List Keyword).length + (if ([] : List Keyword).isEmpty then 0 else 1) < 30)) = true := by rfl)
    (hline : (apos.endLine == cpos.line) = true := by rfl) (hplain : (backTo cpos (starEach [] X.env)).any (·.1) = false := by rfl)
    (hs : swapsWith (.Call (.Attribute (o) "append" apos) [e] [] cpos) none pos.line X.env = pure false := by rfl) :
    MS X J (.Expr (.Call (.Attribute o "append" apos) [e] [] cpos) pos) (oappS fE fe) :=
  ⟨ps_imp (ps_expr (pe_bm PySem.F.plainAttrs_list PySem.F.slot_list_append PySem.F.type_list_append mt_append hE.pe (pa_cons h.pe pa_nil hs0) hbase hfew hline hs0 hplain) hs) fun D σ H ⟨Hse, He, env, Hs, Hr, R, p⟩ => by
    refine ⟨Hse, He, env, Hs, Hr, R, post_st R p fun a Hs1 Hr1 H1 x1 R1 p1 => ?_⟩
    cases a with
    | own xs =>
      intro pl ws a b c r
      refine ⟨.inl ⟨rfl, ws, .inl (.inl a)⟩, Hse, He, env, Hs1, Hr1, R1, post_st R1 p1 fun k Hs3 Hr3 H3 x3 R3 p3 u ru => ?_⟩
      split at p3
      · rename_i cc
        refine ⟨pl, ws, u, rfl, rfl, x3.h _ _ a, by rw [sizeLine_eq, r.length]; exact cc.2, ?_⟩
        have x13 := x1.trans x3
        refine p3 σ _ _ _ (R3.mutF (x3.still a b) (fun ys z => ?_) (fun ys z => by cases z) fun j hj => ?_)
        · rw [x3.h _ _ a] at z; cases z
        · obtain ⟨ob2, ho⟩ := (R.own (hj.back R x13.s fun _ _ o h => x13.h _ o h)).1
          rw [c] at ho
          cases ho
      · exact p3.elim
    | _ => exact (show False from p1).elim⟩
end
/-! ### return (a, b, ..), own things among them -/
inductive AR where
  | v (x : TV) | o (j : Nat)
def RepRs (G : Gx) (Hs Hr H : Hp) (σ : St) : List AR → List V → Prop
  | [], vs => vs = []
  | .v x :: r, vs => ∃ v w, vs = v :: w ∧ RepT G x.1 Hs Hr H v x.2 ∧ RepRs G Hs Hr H σ r w
  | .o j :: r, vs => ∃ v w, vs = v :: w ∧ σ[j]? = some (some v) ∧ RepRs G Hs Hr H σ r w
def SAR (J : Jx) (σ : St) (Q : List V → Hp → Prop) : List AR → Hp → Hp → Hp → Prop := fun xs Hs' Hr' H' => ∀ vs, RepRs J.toGx Hs' Hr' H' σ xs vs → Q vs H'
structure MAR (X : Cx) (J : Jx) (es : List Expr) (F : Env → Res (List AR)) : Prop where
  pa : PA X es (fun σ H Q => Now J σ H F (SAR J σ Q))
def argRN : Env → Res (List AR) := fun _ => .ok []
def argRC (f : Env → Res TV) (F : Env → Res (List AR)) : Env → Res (List AR) := fun env => (f env).bind fun x => (F env).bind fun xs => .ok (.v x :: xs)
def slotE (j : Nat) (env : Env) : Option EV := match (env[j]? : Option (Option EV)) with
  | some (some e) => (match evOD e with
    | some _ => some e
    | none => none)
  | _ => none
def argRO (j : Nat) (F : Env → Res (List AR)) : Env → Res (List AR) := fun env => match slotE j env with
  | some _ => (F env).bind fun xs => .ok (.o j :: xs)
  | none => .bad
theorem slotE_get {j : Nat} {env : Env} {e : EV} (h : slotE j env = some e) : ∃ t, env[j]? = some (some e) ∧ evOD e = some t := by
  unfold slotE at h
  split at h
  · rename_i e' q
    split at h
    · rename_i t ht
      cases h
      exact ⟨t, q, ht⟩
    · cases h
  · cases h
theorem slot_tree {J : Jx} {Hse He : Hp} {env : Env} {σ : St} {Hs Hr H : Hp} (R : Rel J Hse He env σ Hs Hr H) {j : Nat} {e : EV} {t : OD} (h : env[j]? = some (some e)) (ht : evOD e = some t) :
    ∃ v fp, σ[j]? = some (some v) ∧ ORep J.toGx Hs H v t fp ∧ fp.Nodup ∧ (∀ p ∈ fp, Hr p = none) ∧ ∀ p ∈ fp, OwnAt J.toGx Hs H env σ j p := by
  have so := R.slot j e h
  cases e with
  | val tg d =>
    have hs : shV (tg, d) = true := by
      by_cases q : shV (tg, d) = true
      · exact q
      · rw [show evOD (.val tg d) = none from if_neg q] at ht; cases ht
    rw [show evOD (.val tg d) = some (.sh d) from if_pos hs] at ht
    cases ht
    cases tg with
    | s =>
      obtain ⟨v, a, b⟩ := so
      exact ⟨v, [], a, .sh b, List.nodup_nil, (fun p hp => by cases hp), (fun p hp => by cases hp)⟩
    | r =>
      obtain ⟨v, a, b⟩ := so
      exact ⟨v, [], a, .sh (RepT.shV (x := (.r, d)) R.ok b hs), List.nodup_nil, (fun p hp => by cases hp), (fun p hp => by cases hp)⟩
    | h => exact (show False from so).elim
    | o => exact (show False from so).elim
    | n t => exact (show False from so).elim
  | own xs =>
    cases ht
    obtain ⟨p, vs, a, b, c, r⟩ := so
    exact ⟨.ref p, [p], a, .lst b (OReps.shs r), List.nodup_cons.mpr ⟨by simp, List.nodup_nil⟩, (fun q hq => by cases List.mem_singleton.mp hq; exact c), fun q hq => ⟨_, [p], h, ⟨p, a, rfl⟩, hq⟩⟩
  | ownd ks xs =>
    cases ht
    obtain ⟨p, kvs, a, b, c, k, r⟩ := so
    subst k
    exact ⟨.ref p, [p], a, .dic b (OReps.shs r), List.nodup_cons.mpr ⟨by simp, List.nodup_nil⟩, (fun q hq => by cases List.mem_singleton.mp hq; exact c), fun q hq => ⟨_, [p], h, ⟨p, a, rfl⟩, hq⟩⟩
  | ownt t' =>
    cases ht
    obtain ⟨v, fp, a, r, n, c⟩ := so
    exact ⟨v, fp, a, r, n, c, fun q hq => ⟨_, fp, h, ⟨v, a, r⟩, hq⟩⟩
  | exn c ks vs => cases ht
def arJs : List AR → List Nat
  | [] => []
  | .v _ :: r => arJs r
  | .o j :: r => j :: arJs r
def arOD (env : Env) : List AR → Option (List OD)
  | [] => some []
  | .v x :: r => if shV x = true then (arOD env r).map (.sh x.2 :: ·) else none
  | .o j :: r => match slotE j env with
    | some e => (match evOD e, arOD env r with
      | some t, some ts => some (t :: ts)
      | _, _ => none)
    | none => none
theorem reps_AR {J : Jx} {Hse He : Hp} {env : Env} {σ : St} {Hs Hr H : Hp} (R : Rel J Hse He env σ Hs Hr H) : ∀ {xs : List AR} {vs : List V} {ts : List OD}, RepRs J.toGx Hs Hr H σ xs vs → arOD env xs = some ts → (arJs xs).Nodup →
    ∃ fp, OReps J.toGx Hs H vs ts fp ∧ fp.Nodup ∧ (∀ p ∈ fp, Hr p = none) ∧ ∀ p ∈ fp, ∃ j ∈ arJs xs, OwnAt J.toGx Hs H env σ j p
  | [], vs, ts, h, q, _ => by
    cases (show _ = [] from h)
    cases q
    exact ⟨[], .nil, List.nodup_nil, (fun p hp => by cases hp), (fun p hp => by cases hp)⟩
  | .v x :: r, vs, ts, ⟨v, w, e, rv, b⟩, q, n => by
    subst e
    rw [arOD] at q
    split at q
    · rename_i hs
      cases hq : arOD env r with
      | none => rw [hq] at q; cases q
      | some ts' =>
        rw [hq] at q
        cases q
        obtain ⟨fp, h1, h2, h3, h4⟩ := reps_AR R b hq n
        exact ⟨[] ++ fp, .cons (.sh (rv.shV R.ok hs)) h1, h2, h3, h4⟩
    · cases q
  | .o j :: r, vs, ts, ⟨v, w, e, hv, b⟩, q, n => by
    subst e
    rw [arOD] at q
    cases he : slotE j env with
    | none => rw [he] at q; cases q
    | some ev =>
      rw [he] at q
      dsimp only at q
      obtain ⟨t, g1, g2⟩ := slotE_get he
      rw [g2] at q
      cases hq : arOD env r with
      | none => rw [hq] at q; cases q
      | some ts' =>
        rw [hq] at q
        cases q
        have nn := List.nodup_cons.mp n
        obtain ⟨fp, h1, h2, h3, h4⟩ := reps_AR R b hq nn.2
        obtain ⟨v', f, k1, k2, k3, k4, k5⟩ := slot_tree R g1 g2
        rw [hv] at k1
        cases k1
        refine ⟨f ++ fp, .cons k2 h1, List.nodup_append.mpr ⟨k3, h2, fun a ha c hc z => ?_⟩, fun p hp => ?_, fun p hp => ?_⟩
        · subst z
          obtain ⟨j', hj, ow⟩ := h4 a hc
          exact R.dis j j' a (fun z => nn.1 (by rw [z]; exact hj)) (k5 a ha) ow
        · exact (List.mem_append.mp hp).elim (k4 p) (h3 p)
        · rcases List.mem_append.mp hp with hp | hp
          · exact ⟨j, List.mem_cons_self, k5 p hp⟩
          · obtain ⟨j', hj, ow⟩ := h4 p hp
            exact ⟨j', List.mem_cons_of_mem _ hj, ow⟩
def retRK (env : Env) (xs : List AR) : SR := if (arJs xs).Nodup ∧ xs.length ≤ 16777216 then (match arOD env xs with
  | some ts => .rt (.ownt (.tup ts)) env
  | none => .bad) else .bad
def retR (F : Env → Res (List AR)) : Env → SR := fun env => (F env).st env (retRK env)
theorem repRs_len {G : Gx} {Hs Hr H : Hp} {σ : St} : ∀ {xs : List AR} {vs : List V}, RepRs G Hs Hr H σ xs vs → vs.length = xs.length
  | [], _, h => by cases (show _ = [] from h); rfl
  | .v _ :: _, _, ⟨v, w, e, _, b⟩ => by subst e; exact congrArg (· + 1) (repRs_len b)
  | .o _ :: _, _, ⟨v, w, e, _, b⟩ => by subst e; exact congrArg (· + 1) (repRs_len b)
section
variable {X : Cx} {J : Jx} {e ix o : Expr} {es : List Expr} {pos : Pos} {f fe fi : Env → Res TV} {F : Env → Res (List AR)}
theorem mar_nil : MAR X J [] argRN := ⟨pa_imp pa_nil fun σ H Q ⟨_, _, _, _, _, R, p⟩ => Post.now R.ok p [] rfl⟩
theorem RepRs.ext {G : Gx} {Hs Hr H Hs' Hr' H' : Hp} {σ : St} (x : Ext Hs Hr H Hs' Hr' H') : ∀ {xs : List AR} {vs : List V}, RepRs G Hs Hr H σ xs vs → RepRs G Hs' Hr' H' σ xs vs
  | [], _, h => h
  | .v _ :: _, _, ⟨v, w, e, a, b⟩ => ⟨v, w, e, a.ext x, RepRs.ext x b⟩
  | .o _ :: _, _, ⟨v, w, e, a, b⟩ => ⟨v, w, e, a, RepRs.ext x b⟩
theorem mar_cons (ha : MV X J e f) (hr : MAR X J es F) (hs : starEach (e :: es) X.env = (false, eval e X.env) :: starEach es X.env := by rfl) : MAR X J (e :: es) (argRC f F) :=
  ⟨pa_imp (pa_cons ha.pe hr.pa hs) fun σ H Q ⟨Hse, He, env, Hs, Hr, R, p⟩ => ⟨Hse, He, env, Hs, Hr, R, (Post.bind p).imp fun x Hs1 Hr1 H1 e1 p1 v rv =>
    ⟨Hse, He, env, Hs1, Hr1, R.ext e1, (Post.bind p1).imp fun xs Hs2 Hr2 H2 e2 p2 vs rvs => Post.now e2.ok p2 _ ⟨v, vs, rfl, rv.ext e2, rvs⟩⟩⟩⟩
theorem mar_slot (j : Nat) {x : Str} {px : Pos} (hr : MAR X J es F) (hN : X.N[j]? = some x := by rfl) (hv : Vis X.env.scope x := by first | exact Or.inl rfl | exact Or.inr (Or.inl rfl) | exact Or.inr (Or.inr rfl)) (hd : (x == ("__debug__" : Str)) = false := by decide)
    (hcd : (x == ("__classdict__" : Str)) = false := by decide) (hs : starEach (.Name x px :: es) X.env = (false, eval (.Name x px) X.env) :: starEach es X.env := by rfl) : MAR X J (.Name x px :: es) (argRO j F) :=
  ⟨pa_imp (pa_cons (pv j hN hv hd hcd) hr.pa hs) fun σ H Q ⟨Hse, He, env, Hs, Hr, R, p⟩ => by
    unfold argRO at p
    cases q : slotE j env with
    | none => rw [q] at p; exact (show False from p).elim
    | some a =>
      rw [q] at p
      obtain ⟨t, g1, g2⟩ := slotE_get q
      obtain ⟨v, fp, hv, _⟩ := slot_tree R g1 g2
      exact ⟨v, hv, Hse, He, env, Hs, Hr, R, (Post.bind p).imp fun xs Hs2 Hr2 H2 e2 p2 vs rvs => Post.now e2.ok p2 _ ⟨v, vs, rfl, hv, rvs⟩⟩⟩
theorem ms_retR {x1} {p1 : Pos} (ha : MAR X J es F) : MS X J (.Return (some (.Tuple es x1 p1)) pos) (retR F) := ⟨ps_imp (ps_ret (pe_tup ha.pa)) fun D σ H ⟨Hse, He, env, Hs, Hr, R, p⟩ => ⟨Hse, He, env, Hs, Hr, R, post_st R p fun xs Hs1 Hr1 H1 x R1 p1 vs rvs => by
  unfold retRK at p1
  split at p1
  · rename_i c
    cases ht : arOD env xs with
    | none => rw [ht] at p1; exact p1.elim
    | some ts =>
      rw [ht] at p1
      dsimp only at p1
      obtain ⟨fp, o1, o2, o3, -⟩ := reps_AR R1 rvs ht c.1
      refine ⟨by rw [sizeLine_eq, repRs_len rvs]; exact c.2, fun q hq => ?_⟩
      have x2 := Ext.new (o := .tup vs) R1.ok hq
      have R2 := R1.ext x2
      have ne : ∀ z ∈ fp, z ≠ q := fun z hz k => by
        obtain ⟨ob, ho⟩ := o1.at_ z hz
        rw [k, hq] at ho
        cases ho
      have w := p1 σ _ _ _ R2
      refine w (.ref q) fp (.tup upd_same (o1.frame x2.s fun a ha ob h => x2.h _ _ h)) o2 (fun z hz => ?_) fun z hz => R1.he.free (o3 z hz)
      rw [upd_ne (ne z hz)]
      exact R1.ok.sr.free (o3 z hz)
  · exact p1.elim⟩⟩
end
/-! ### sorted(d, reverse=True), a dict's keys: ints -/
theorem ints_pt : ∀ (l : List Value) (ks : List Int), l.length = ks.length → (∀ (j : Nat) (v : Value) (k : Int), l[j]? = some v → ks[j]? = some k → ∃ t, v = .int k t) → IntsAre l ks
  | [], [], _, _ => .nil
  | v :: l, k :: ks, h, g => by
    obtain ⟨t, rfl⟩ := g 0 v k rfl rfl
    exact .cons k t (ints_pt l ks (by simpa using h) fun j v k h1 h2 => g (j + 1) v k (by simpa using h1) (by simpa using h2))
  | [], _ :: _, h, _ => by simp at h
  | _ :: _, [], h, _ => by simp at h
theorem kv_keys : ∀ {kvs : List (Key × V)} {vs : List (Key × Value)}, KV kvs vs → vs.map (·.1) = kvs.map (·.1)
  | _, _, .nil => rfl
  | _, _, .cons h r => by rw [List.map_cons, List.map_cons, kv_keys r, h.1]
theorem vals_ints : ∀ {l : List Value} {ns : List Int}, IntsAre l ns → Vals (ns.map V.int) l
  | _, _, .nil => .nil
  | _, _, .cons n t r => .cons ⟨t, rfl⟩ (vals_ints r)
theorem intsAre_len : ∀ {l : List Value} {ns : List Int}, IntsAre l ns → l.length = ns.length
  | _, _, .nil => rfl
  | _, _, .cons n t r => congrArg (· + 1) (intsAre_len r)
theorem call_sortedDR {X : Cx} (hc : X.calm = true) : CallRK X (.builtin "sorted") ["reverse"] (fun xs zs H Q => ∃ (a : Addr) (kvs : List (Key × V)) (ks : List Int), xs = [.ref a] ∧ zs = [.bl true] ∧ Rd H a (.dK kvs) ∧ kvs.map (·.1) = ks.map Sum.inl ∧ ∀ (ys : List Int) (p : Addr), ys.Perm ks → ys.Pairwise (· ≥ ·) → H p = none → Q (.ref p) (upd H p (.lst (ys.map V.int)))) := by
  intro pins s σ H xs zs us ws Q I rx rz ⟨a, kvs, ks, e1, e2, hr, hk, q⟩
  subst e1 e2
  obtain ⟨u, rfl, hu⟩ : ∃ u, us = [u] ∧ RelV (.ref a) u := by cases rx with | cons h t => cases t; exact ⟨_, rfl, h⟩
  obtain ⟨z, rfl, hz⟩ : ∃ u, ws = [u] ∧ RelV (.bl true) u := by cases rz with | cons h t => cases t; exact ⟨_, rfl, h⟩
  cases hu
  cases hz
  have ob : kvs.length ≤ sizeLine ∧ (a == sysModules) = false ∧ ∃ vs, KV kvs vs ∧ Heap.DictOf (mixKind X.prog X.w) s.heap a vs := by
    rcases hr with h | ⟨o, h⟩
    · have := I.hok a _ h; simpa only [ObjOk] using this
    · have := I.hok a _ h; simp only [ObjOk] at this; exact this.2
  obtain ⟨l1, l2, vs, l3, o, es, ep, l4⟩ := ob
  have l5 : Heap.DictAt (mixKind X.prog X.w) s.heap a vs ep := ⟨o, es, l4⟩
  have lv : kvs.length = vs.length := l3.length
  refine wpAny_call ?_
  refine codeAny_call_builtin plain_sorted entry_sorted ?_
  have ck : checkBuiltinCall "sorted" { pos := [Value.ref a], kw := [(Str.ofString "reverse", Value.bool true)] } = pure () := by
    rw [checkBuiltinCall.eq_1, kind_sorted]
    exact args_sorted_rev (.ref a) (.bool true)
  show wpAny _ _ (checkBuiltinCall "sorted" { pos := [Value.ref a], kw := [(Str.ofString "reverse", Value.bool true)] }) _ _ _
  rw [ck]
  refine wpAny_pure ?_
  show wpAny _ _ (Builtin.sorted { pos := [Value.ref a], kw := [(Str.ofString "reverse", Value.bool true)] }) _ _ _
  unfold Builtin.sorted
  refine wpAny_bind ?_
  show wpAny _ _ (pure ()) _ _ _
  refine wpAny_pure ?_
  refine wpAny_bind ?_
  refine W.kdu_collect (W.kdl_dict (knd := mixKind X.prog X.w) l2) (I.ok.hd hc) l5 (by omega) fun h' tk acc keep it => ?_
  obtain ⟨i1, i2⟩ := it
  -- the keys
  have kk : vs.map (·.1) = ks.map Sum.inl := by rw [kv_keys l3, hk]
  have lk : vs.length = ks.length := by have := congrArg List.length kk; simpa using this
  have ia : IntsAre acc.toList ks := ints_pt _ _ (by simp [i1, lk]) fun j v k h1 h2 => by
    obtain ⟨k', x, g1, g2⟩ := i2 j v (by simpa using h1)
    have e : (vs.map (·.1))[j]? = some k' := by rw [List.getElem?_map, g1] <;> rfl
    rw [kk, List.getElem?_map, h2] at e
    cases e
    have g3 : Value.isInt k v = true := g2
    unfold Value.isInt at g3
    split at g3
    · rename_i n t
      exact ⟨t, by simp at g3; rw [g3]⟩
    · cases g3
  refine wpAny_bind ?_
  have la : acc.toList.length ≤ sizeLine := by simp [i1]; omega
  refine wpAny_newList ?_ la
  refine wpAny_bind ?_
  refine wpAny_holding ?_
  refine wpAny_call ?_
  refine codeAny_call_builtin (by decide +kernel) entry_list_sort ?_
  refine slot_list_sort.check _ _ _ _ _ _ _ _ ?_ (args_list_sort_rev _ _) ?_
  · exact ⟨_, Heap.get?_push_size _ rfl, rfl⟩
  refine SrtR.list_sort_ordR (vs := acc.toList) (n := 0) (ltv := SrtO.ltIv) SrtO.swo_int ?_ la (fun h2 => SrtO.ints_sortable ia h2) fun out so sb => ?_
  · exact Heap.get?_push_size _ rfl
  refine wpAny_pure ?_
  obtain ⟨ns', o1, o2, o3⟩ := SrtR.ints_outR (b := true) ia so sb
  have I2 := I.kept (t' := tk) keep
  obtain ⟨e, he⟩ := sortedHeap_at (vs := acc.toList) (n := 0) (out := if true = true then out.toArray.reverse else out.toArray) (h := h'.push { cls := Value.type "list", data := Data.seq acc.toList.toArray }) (a := h'.objs.size) (Heap.get?_push_size _ rfl)
  have hn : H h'.objs.size = none := I2.fresh
  have o1' : IntsAre (if true = true then out.toArray.reverse else out.toArray).toList ns' := by simpa using o1
  have nl : ns'.length ≤ sizeLine := by rw [o2.length_eq, ← lk, ← lv]; exact l1
  refine ⟨.ref h'.objs.size, _, I2.laid (a := h'.objs.size) (o := .lst (ns'.map V.int)) (fun b u hb => ?_) (Nat.le_refl _) ?_, rfl, q ns' _ o2 o3 hn⟩
  · have lb : b < h'.objs.size := by
      rcases Nat.lt_or_ge b h'.objs.size with z | z
      · exact z
      · unfold Heap.get? at hb
        rw [Array.getElem?_eq_none z] at hb
        cases hb
    refine (sortedHeap_old (Nat.ne_of_lt lb) (by rw [Heap.size_push]; exact Nat.lt_succ_of_lt lb)).trans ?_
    exact Heap.get?_push_of_some _ hb
  · show ObjOk _ _ _ _ _ _
    simp only [ObjOk]
    exact ⟨by simpa using nl, _, e, vals_ints o1', by simpa using he⟩

def kSortedDR (xs : List TV) : Res EV := match xs with
  | [(_, .dic ks _)] => match kInts ks with
    | some ns => .ok (.own ((isort ns).reverse.map D.int))
    | none => .bad
  | _ => .bad
section
variable {X : Cx} {J : Jx} {e o : Expr} {es : List Expr} {p pos kp kpos : Pos} {F : Env → Res (List TV)} {f : Env → Res TV}
theorem me_sortedDR {kk : Nat} (hc : X.calm = true) (hm : X.mg "sorted" = none) (ha : MA X J (e :: es) F) (hg : Gl X "sorted" := by rfl) (he : backTo pos (starEach (e :: es) X.env) = (false, eval e X.env) :: backTo pos (starEach es X.env) := by rfl) (hpl : (backTo pos (starEach (e :: es) X.env)).any (fun x => x.1) = false := by rfl)
    (h1 : ((backToKw pos (keywordEach [⟨some "reverse", .Constant (.bool true) kk kp, kpos⟩] X.env)).all fun x => x.1.isSome) = true := by rfl) (h2 : ((backToKw pos (keywordEach [⟨some "reverse", .Constant (.bool true) kk kp, kpos⟩] X.env)).any fun x => x.1.isNone) = false := by rfl)
    (h3 : List.filterMap (fun x => x.1) (backToKw pos (keywordEach [⟨some "reverse", .Constant (.bool true) kk kp, kpos⟩] X.env)) = [("reverse" : Str)] := by rfl) :
    ME X J (.Call (.Name "sorted" p) (e :: es) [⟨some "reverse", .Constant (.bool true) kk kp, kpos⟩] pos) (thenK F kSortedDR) :=
  ⟨pe_imp (pe_callBK (call_sortedDR hc) hg hm PyProof.Rows.boot_sorted ha.pa (pk_cons pe_bl pk_nil) (by decide) (by decide) he hpl h1 h2 h3) fun σ H Q n => runA (wishE (J := J) (Q := Q)) n fun vs H1 _ _ _ Hs Hr xs _ R rv p => by
    have k := R.ok
    unfold kSortedDR at p
    split at p
    · rename_i ks ys
      obtain ⟨v, rfl, r⟩ := rv.one
      obtain ⟨a, kvs, rfl, h1, rfl, h2⟩ := r.dicT k
      cases hn : kInts (kvs.map (·.1)) with
      | none => rw [hn] at p; exact (show False from p).elim
      | some ns =>
        rw [hn] at p
        dsimp only at p
        refine ⟨a, kvs, ns, rfl, rfl, h1, kInts_map hn, fun ns' r hp hs hr => ?_⟩
        have e1 : ns'.reverse = isort ns := sorted_one ((List.reverse_perm ns').trans (hp.trans (isort_perm ns).symm)) (List.pairwise_reverse.mpr hs) (isort_sorted ns)
        have e2 : ns' = (isort ns).reverse := by rw [← e1, List.reverse_reverse]
        subst e2
        exact p _ _ _ (Ext.new0 k hr fun xs z => by cases z) r _ upd_same (k.none_r hr) hr (reps_ints _)
    · exact (show False from p).elim⟩
/-! ### return (e, f(.., x, ..)), x lent -/
def retTL (f : Env → Res TV) (S : (Env → D → SR) → Env → SR) : Env → SR := fun env => (f env).st env fun x => if shV x = true then S (fun env' d => .rt (.val .s (.tup [x.2, d])) env') env else .bad
theorem ms_retTL {c : Expr} {S : (Env → D → SR) → Env → SR} {x1} {p1 : Pos} (h : MV X J e f) (hl : PE X c (tLend J S)) (hs0 : starEach [e, c] X.env = (false, eval e X.env) :: starEach [c] X.env := by rfl) (hs1 : starEach [c] X.env = (false, eval c X.env) :: starEach [] X.env := by rfl) :
    MS X J (.Return (some (.Tuple [e, c] x1 p1)) pos) (retTL f S) :=
  ⟨ps_imp (ps_ret (pe_tup (pa_cons h.pe (pa_cons hl pa_nil hs1) hs0))) fun D σ H ⟨Hse, He, env, Hs, Hr, R, p⟩ => ⟨Hse, He, env, Hs, Hr, R, post_st R p fun a Hs1 Hr1 H1 x R1 p1 v rv => by
    split at p1
    · rename_i sh
      have r1 := rv.shV R1.ok sh
      refine ⟨Hs1, Hr1, env, Hs1, Hr1, R1.base, D, fun env' d => .rt (.val .s (.tup [a.2, d])) env', PostS.rebase R1 p1, fun env' d Hs' Hr' H' u R' ru p' => ⟨by rw [sizeLine_eq]; show 2 ≤ 16777216; decide, fun q hq => ?_⟩⟩
      have x2 := Ext.new (o := .tup [v, u]) R'.ok hq
      exact p' σ _ _ _ (R'.ext x2) (.ref q) (.tup upd_same (.cons ((r1.mono R'.se).mono x2.s) (.cons (ru.mono x2.s) .nil)))
    · exact p1.elim⟩⟩
end
end DL

set_option maxHeartbeats 2000000
namespace L2
open PySem PySem.Spec
section
variable {K : PySem.W.Frag} {x qual : Str} {params : Arguments} {body : List Stmt} {scope : Scope} {dvs : List V} {kws : List (Str × V)} {f : Addr} {fd : FuncData} {ps : List Str}
/-- f(e, .., k = v, ..) of a def without keyword-only parameters -/
theorem FunD.kbinds1 (F : FunD K x qual params body scope dvs kws f fd) (n : Nat) (ks : List Str) (g : {α : Type} → List α → List α → List α → List α) (hd : dvs ≠ [])
    (hrel : ∀ {vs ds zs : List V} {us its ws : List Value}, Vals vs us → Vals ds its → Vals zs ws → Vals (g vs ds zs) (g us its ws))
    (h : ∀ (T : Addr) (kV doc pm : Value) (an : Option Addr) (cdv ct : Value) (us its ws : List Value), us.length = n → its.length = dvs.length → ws.length = ks.length →
      ∃ k, bindArgs (PySem.W.fnOf x qual params body scope (.ref T) kV doc pm an cdv ct) ⟨us, ks.zip ws⟩ = seqItems? (.ref T) >>= k ∧ k (some its.toArray) = pure (ps.zip (g us its ws))) :
    ∃ its : List Value, KBn K fd ps n ks (fun us ws => g us its ws) (fun vs zs => g vs dvs zs) := by
  obtain ⟨oc, od, dV, kV, doc, pm, an, cdv, ct, osl, rfl, lk, hcd, hD, hK⟩ := F.ex
  rcases hD with ⟨e, _⟩ | ⟨_, T, o, its, m, rfl, lT, oT, rT⟩
  · exact absurd e hd
  · refine ⟨its, ⟨fun s us ws X l1 l2 => ?_, fun r1 r2 => hrel r1 rT r2⟩⟩
    obtain ⟨k, e1, e2⟩ := h T kV doc pm an cdv ct us its ws l1 rT.length.symm l2
    refine BindsTo.of_looks fun M => ?_
    rw [e1]
    exact looks_items X lT oT (.of_pure e2)
end
section
variable {X : Cx} {CX : CXT} {k n : Nat} {f C : Addr} {fd : FuncData} {ps ks : List Str} {sp : Sp} {E : St → XK} {x m : Str} {p pos apos kpos : Pos} {e o : Expr} {es : List Expr} {kws : List Keyword} {te ta : TE} {t tk : TA}
variable {g : List Value → List Value → List Value} {gV : List V → List V → List V}
def tCallNS (n m : Nat) (sp : Sp) (gV : List V → List V → List V) (E : St → XK) (t tk : TA) : TE := fun σ H Q => t σ H fun vs H1 => tk σ H1 fun zs H2 => vs.length = n ∧ zs.length = m ∧ sp (gV vs zs) H2 Q (E σ)
theorem run_fnNS {pins : List (Addr × Obj)} {σ : St} {H : Hp} {s : Shared} {Q : VK} {us ws : List Value} {vs zs : List V} (F : FnOk X.prog X.w X.K X.mg X.base CX k f fd ps sp) (hr : Room k X.A) (hb : KBn X.K fd ps n ks g gV) (hx : PassesAt CX X σ (E σ))
    (I : Inv X pins σ H s) (r : Vals vs us) (rz : Vals zs ws) (l1 : vs.length = n) (l2 : zs.length = ks.length) (h : sp (gV vs zs) H Q (E σ)) : wpAny (model X.prog X.w) X.A (call (.ref f) us (ks.zip ws)) (EP X pins σ Q) X.xe s := by
  have r2 := hb.rel r rz
  refine wpAny_call (codeAny_mono (F.run X.A X.stack s H ⟨us, ks.zip ws⟩ (g us ws) (gV vs zs) Q (E σ) hr I.env0 (hb.to s us ws I.kIn (r.length.symm.trans l1) (rz.length.symm.trans l2)) r2 h) fun r s' hq => ?_)
  cases r with
  | error e => exact hx pins H s e s' I hq
  | ok fl =>
    cases fl with
    | ret u => exact I.after hq
    | next => exact False.elim hq
    | brk => exact False.elim hq
    | cont => exact False.elim hq
theorem pe_callNS (F : FnOk X.prog X.w X.K X.mg X.base CX k f fd ps sp) (hr : Room k X.A) (hg : Gl X x) (hm : X.mg x = some (.ref f)) (hk : PySem.W.keepIn X.K (.ref f) = true) (hb : KBn X.K fd ps n ks g gV) (hx : ∀ σ, PassesAt CX X σ (E σ))
    (ha : PA X (e :: es) t) (hkw : PK X kws tk) (hall : (backToKw pos (keywordEach kws X.env)).all (·.1.isSome) = true := by rfl) (hks : (backToKw pos (keywordEach kws X.env)).filterMap (·.1) = ks := by rfl)
    (hdb : (x == ("__debug__" : Str)) = false := by decide) (he : starEach (e :: es) X.env = (false, eval e X.env) :: starEach es X.env := by rfl)
    (hpl : ((backTo pos (starEach (e :: es) X.env)).any (·.1) || (backToKw pos (keywordEach kws X.env)).any (·.1.isNone)) = false := by rfl) :
    PE X (.Call (.Name x p) (e :: es) kws pos) (tCallNS n ks.length sp gV E t tk) := by
  refine ⟨fun pins s σ H Q I h => ?_⟩
  refine wpAny_Call_Name_kw (ld_glob I hg hm ?_ hdb)
  refine PySem.W.callWith_KW (h₀ := X.base) I.ok.mod.kin hk hall (thn (ha.run pos pins s σ H _ I h) fun us s1 ⟨vs, H1, I1, r, q⟩ => ?_) hpl he
  refine thn (hkw.run pos pins s1 σ H1 _ I1 q) fun ws s2 ⟨zs, H2, I2, rz, l1, l2, q2⟩ => ⟨I2.kIn, ?_⟩
  rw [hks]
  exact run_fnNS F hr hb (hx σ) I2 r rz l1 l2 q2
end
end L2
namespace DL
open PySem PySem.Spec PyProof.Rows L2
/-- keywords' values, from the left -/
structure MK (X : Cx) (J : Jx) (kws : List Keyword) (F : Env → Res (List TV)) : Prop where
  pk : PK X kws (fun σ H Q => Now J σ H F (SA J Q))
  len : ∀ env xs, F env = .ok xs → xs.length = kws.length
theorem pk_imp {X : Cx} {kws : List Keyword} {t t' : TA} (h : PK X kws t) (hi : ∀ σ H Q, t' σ H Q → t σ H Q) : PK X kws t' := ⟨fun pos pins s σ H Q I z => h.run pos pins s σ H Q I (hi σ H Q z)⟩
theorem mk_nil {X : Cx} {J : Jx} : MK X J [] argN := ⟨pk_imp pk_nil fun σ H Q ⟨_, _, _, _, _, R, p⟩ => Post.now R.ok p [] rfl, fun _ _ h => argN_len h⟩
theorem mk_cons {X : Cx} {J : Jx} {e : Expr} {kws : List Keyword} {nm : Option Str} {kpos : Pos} {f : Env → Res TV} {F : Env → Res (List TV)} (ha : MV X J e f) (hr : MK X J kws F) : MK X J (⟨nm, e, kpos⟩ :: kws) (argC f F) :=
  ⟨pk_imp (pk_cons ha.pe hr.pk) fun σ H Q ⟨Hse, He, env, Hs, Hr, R, p⟩ => ⟨Hse, He, env, Hs, Hr, R, (Post.bind p).imp fun x Hs1 Hr1 H1 e1 p1 v rv =>
    ⟨Hse, He, env, Hs1, Hr1, R.ext e1, (Post.bind p1).imp fun xs Hs2 Hr2 H2 e2 p2 vs rvs => Post.now e2.ok p2 _ ⟨v, vs, rfl, rv.ext e2, rvs⟩⟩⟩, argC_len hr.len⟩
/-- the values in the parameters' order: positional ones, then by sel keywords' (inl) or defaults (inr) -/
def gseg {α : Type} (sel : List (Nat ⊕ Nat)) (us its ws : List α) : List α := us ++ sel.flatMap fun
  | .inl i => (ws.drop i).take 1
  | .inr j => (its.drop j).take 1
theorem vals_1 {vs : List V} {us : List Value} (h : Vals vs us) (i : Nat) : Vals ((vs.drop i).take 1) ((us.drop i).take 1) := by
  have h := h.drop i
  generalize vs.drop i = a at h
  generalize us.drop i = b at h
  cases h with
  | nil => exact .nil
  | cons h _ => exact .cons h .nil
theorem gseg_vals {sel : List (Nat ⊕ Nat)} {vs ds zs : List V} {us its ws : List Value} (h : Vals vs us) (k : Vals ds its) (l : Vals zs ws) : Vals (gseg sel vs ds zs) (gseg sel us its ws) := by
  unfold gseg
  refine h.append ?_
  induction sel with
  | nil => exact .nil
  | cons x r ih =>
    rw [List.flatMap_cons, List.flatMap_cons]
    refine Vals.append ?_ ih
    cases x with
    | inl i => exact vals_1 l i
    | inr j => exact vals_1 k j
theorem repTs_1 {G : Gx} {Hs Hr H : Hp} : ∀ {xs : List TV} {vs : List V} (i : Nat), RepTs G Hs Hr H xs vs → RepTs G Hs Hr H ((xs.drop i).take 1) ((vs.drop i).take 1)
  | [], _, i, h => by cases (show _ = [] from h); simp; rfl
  | x :: r, _, 0, ⟨v, w, e, a, b⟩ => by subst e; exact ⟨v, [], rfl, a, rfl⟩
  | x :: r, _, i + 1, ⟨v, w, e, a, b⟩ => by subst e; exact repTs_1 i b
theorem gseg_reps {G : Gx} {Hs Hr H : Hp} {sel : List (Nat ⊕ Nat)} {xs ds zs : List TV} {vs vd vz : List V} (h : RepTs G Hs Hr H xs vs) (k : RepTs G Hs Hr H ds vd) (l : RepTs G Hs Hr H zs vz) : RepTs G Hs Hr H (gseg sel xs ds zs) (gseg sel vs vd vz) := by
  unfold gseg
  refine repTs_app h ?_
  induction sel with
  | nil => rfl
  | cons x r ih =>
    rw [List.flatMap_cons, List.flatMap_cons]
    refine repTs_app ?_ ih
    cases x with
    | inl i => exact repTs_1 i l
    | inr j => exact repTs_1 j k
/-- a def of the text, called with npos values and keywords ks; sel puts them and the defaults in order -/
structure FnK (P : Program) (w : World) (G : Gx) (mg : Str → Option Value) (base : Heap) (x : Str) (n ar npos : Nat) (ks : List Str) (sel : List (Nat ⊕ Nat)) (dfl : List D) (F : List EV → Res EV) : Prop where
  ok : ∃ (f : Addr) (fd : FuncData) (ps : List Str) (dvs : List V) (its : List Value), mg x = some (.ref f) ∧ PySem.W.keepIn G.K (.ref f) = true ∧ KBn G.K fd ps npos ks (fun us ws => gseg sel us its ws) (fun vs zs => gseg sel vs dvs zs) ∧ dfl.map dflV = dvs.map some ∧ FnOk P w G.K mg base (L2.CX P w) n f fd ps (SpD G ar F)
theorem fnK_of {P : Program} {w : World} {G : Gx} {mg : Str → Option Value} {base : Heap} {x qual : Str} {st : Stmt} {dvs : List V} {f : Addr} {fd : FuncData} {ps : List Str} {n ar : Nat} {dfl : List D} {Fn : List EV → Res EV} (F : FnT G.K x qual st dvs f fd) (gl : mg x = some (.ref f)) (m : Nat) (ks : List Str) (sel : List (Nat ⊕ Nat)) (hd : dvs ≠ [])
    (h : ∀ (T : Addr) (kV doc pm : Value) (an : Option Addr) (cdv ct : Value) (us its ws : List Value), us.length = m → its.length = dvs.length → ws.length = ks.length →
      ∃ k, bindArgs (PySem.W.fnOf x qual (defArgs st) (defBody st) (defScope st) (.ref T) kV doc pm an cdv ct) ⟨us, ks.zip ws⟩ = seqItems? (.ref T) >>= k ∧ k (some its.toArray) = pure (ps.zip (gseg sel us its ws))) (hdf : dfl.map dflV = dvs.map some)
    (ok : FnOk P w G.K mg base (L2.CX P w) n f fd ps (SpD G ar Fn)) : FnK P w G mg base x n ar m ks sel dfl Fn := by
  obtain ⟨its, b⟩ := FunD.kbinds1 (ps := ps) F m ks (fun {α} us its ws => gseg sel us its ws) hd (fun a b c => gseg_vals a b c) h
  exact ⟨f, fd, ps, dvs, its, gl, F.kp, b, hdf, ok⟩
def thenK2 {α : Type} (F Fk : Env → Res (List TV)) (k : List TV → List TV → Res α) : Env → Res α := fun env => (F env).bind fun xs => (Fk env).bind fun zs => k xs zs
def callKd (ar : Nat) (sel : List (Nat ⊕ Nat)) (dfl : List D) (F : List EV → Res EV) (xs zs : List TV) : Res EV := if (gseg sel xs (dfl.map fun d => (Tg.s, d)) zs).length = ar then callD F (gseg sel xs (dfl.map fun d => (Tg.s, d)) zs) else .bad
theorem me_callKd {X : Cx} {J : Jx} {e : Expr} {es : List Expr} {kws : List Keyword} {F Fk : Env → Res (List TV)} {p pos : Pos} {x : Str} {n m ar npos : Nat} {ks : List Str} {sel : List (Nat ⊕ Nat)} {dfl : List D} {G : List EV → Res EV} (g : Good X J m) (fn : FnK X.prog X.w J.toGx X.mg X.base x n ar npos ks sel dfl G) (hnm : n ≤ m) (ha : MA X J (e :: es) F) (hkw : MK X J kws Fk)
    (hp : (e :: es).length = npos := by rfl) (hk : kws.length = ks.length := by rfl) (hg : Gl X x := by rfl)
    (hall : (backToKw pos (keywordEach kws X.env)).all (·.1.isSome) = true := by rfl) (hks : (backToKw pos (keywordEach kws X.env)).filterMap (·.1) = ks := by rfl)
    (hdb : (x == ("__debug__" : Str)) = false := by decide) (he : starEach (e :: es) X.env = (false, eval e X.env) :: starEach es X.env := by rfl)
    (hpl : ((backTo pos (starEach (e :: es) X.env)).any (·.1) || (backToKw pos (keywordEach kws X.env)).any (·.1.isNone)) = false := by rfl) :
    ME X J (.Call (.Name x p) (e :: es) kws pos) (thenK2 F Fk (callKd ar sel dfl G)) := by
  obtain ⟨fa, fd, ps, dvs, its, h1, h2, hb, h6, h4⟩ := fn.ok
  rw [← g.K] at h2 hb h4
  refine ⟨pe_imp (pe_callNS h4 (g.room.mono hnm) hg h1 h2 hb (fun σ => passAt g.tk σ) ha.pa hkw.pk hall hks hdb he hpl) fun σ H Q nn => ?_⟩
  obtain ⟨Hse, He, env, Hs, Hr, R, p⟩ := nn
  have p : Post J σ Hs Hr H ((F env).bind fun xs => (Fk env).bind fun zs => callKd ar sel dfl G xs zs) (SE J H Q) := p
  have hF : ((F env).bind fun xs => (Fk env).bind fun zs => callKd ar sel dfl G xs zs) = (F env).bind fun xs => if xs.length = npos then ((Fk env).bind fun zs => if zs.length = ks.length then callKd ar sel dfl G xs zs else .bad) else .bad := by
    cases q : F env with
    | ok xs =>
      show ((Fk env).bind fun zs => callKd ar sel dfl G xs zs) = if xs.length = npos then _ else _
      rw [if_pos (by rw [ha.len env xs q]; exact hp)]
      cases q2 : Fk env with
      | ok zs => show callKd ar sel dfl G xs zs = if zs.length = ks.length then _ else _; rw [if_pos (by rw [hkw.len env zs q2]; exact hk)]
      | _ => rfl
    | _ => rfl
  rw [hF] at p
  refine ⟨Hse, He, env, Hs, Hr, R, (Post.bind p).imp fun xs Hs1 Hr1 H1 e1 p1 vs rvs => ?_⟩
  split at p1
  · rename_i l1
    refine ⟨Hse, He, env, Hs1, Hr1, R.ext e1, (Post.bind p1).imp fun zs Hs2 Hr2 H2 e2 p2 ws rws => ?_⟩
    have R2 := (R.ext e1).ext e2
    split at p2
    · rename_i l2
      unfold callKd at p2
      split at p2
      · rename_i l3
        refine ⟨(repTs_len (rvs.ext e2)).trans l1, (repTs_len rws).trans l2, (gseg sel xs (dfl.map fun d => (Tg.s, d)) zs).map toArg, Hs2, ⟨R2.ok.sh, Same.refl _, R2.ok.ti⟩, by rw [List.length_map]; exact l3, args_of R2.ok (gseg_reps (rvs.ext e2) (dfl_reps h6) rws), ?_⟩
        exact postR_of R2.ok (p2.imp fun a _ _ _ _ z => wishE _ _ (e1.h.trans e2.h) _ _ _ _ z)
      · exact (show False from p2).elim
    · exact (show False from p2).elim
  · exact (show False from p1).elim
end DL

namespace DL
open PySem PySem.Spec PyProof.Rows L2
/-! ### a dict locked while it is walked -/
def IsD (kvs : List (Key × V)) (o : HO) : Prop := o = .dK kvs ∨ ∃ od, o = .frz od (.dK kvs)
theorem IsD.rd {kvs : List (Key × V)} {o : HO} {H : Hp} {a : Addr} (h : IsD kvs o) (e : H a = some o) : Rd H a (.dK kvs) := by
  rcases h with rfl | ⟨od, rfl⟩
  · exact .inl e
  · exact .inr ⟨od, e⟩
def lk (a : Addr) (o : HO) (H : Hp) : Hp := fun b => if b = a ∧ (H a).isSome = true then some o else H b
theorem lk_ne {a b : Addr} {o : HO} {H : Hp} (h : b ≠ a) : lk a o H b = H b := if_neg fun z => h z.1
theorem lk_at {a : Addr} {o u : HO} {H : Hp} (h : H a = some u) : lk a o H a = some o := if_pos ⟨rfl, by rw [h]; rfl⟩
theorem lk_none {a : Addr} {o : HO} {H : Hp} (h : H a = none) : lk a o H = H := by
  funext b
  unfold lk
  rw [h]
  simp
theorem lk_upd {a : Addr} {o u : HO} {H : Hp} (h : H a = some u) : lk a o H = upd H a o := by
  funext b
  by_cases q : b = a
  · subst q; rw [lk_at h, upd_same]
  · rw [lk_ne q, upd_ne q]
theorem lk_iso {a b : Addr} {o : HO} {H : Hp} : (lk a o H b).isSome = (H b).isSome := by
  by_cases q : b = a
  · subst q
    cases h : H b with
    | none => rw [lk_none h, h]
    | some u => rw [lk_at h]; rfl
  · rw [lk_ne q]
theorem lk_free {a b : Addr} {o : HO} {H : Hp} : lk a o H b = none ↔ H b = none := by
  have := lk_iso (a := a) (b := b) (o := o) (H := H)
  constructor
  · intro h; rw [h] at this; cases q : H b with
    | none => rfl
    | some u => rw [q] at this; cases this
  · intro h; rw [h] at this; cases q : lk a o H b with
    | none => rfl
    | some u => rw [q] at this; cases this
theorem lk_back {a : Addr} {o u : HO} {H : Hp} (h : H a = none ∨ H a = some u) : lk a u (lk a o H) = H := by
  funext b
  by_cases q : b = a
  · subst q
    rcases h with h | h
    · rw [lk_none h, lk_none h]
    · rw [lk_at (u := o) (lk_at h), h]
  · rw [lk_ne q, lk_ne q]
theorem lks {a : Addr} {o : HO} {H H' : Hp} (e : Same H H') : Same (lk a o H) (lk a o H') := fun b u h => by
  by_cases q : b = a
  · subst q
    cases hb : H b with
    | none => rw [lk_none hb, hb] at h; cases h
    | some w => rw [lk_at hb] at h; rw [lk_at (e _ _ hb)]; exact h
  · rw [lk_ne q] at h ⊢; exact e _ _ h
/-- one heap for another, dicts apart -/
def Eqd (H H' : Hp) : Prop := ∀ b u, H b = some u → H' b = some u ∨ ∃ kvs, Rd H b (.dK kvs) ∧ Rd H' b (.dK kvs)
theorem Rd.inj {H : Hp} {a : Addr} {kvs : List (Key × V)} {u : HO} (h : Rd H a (.dK kvs)) (e : H a = some u) : IsD kvs u := by
  rcases h with h | ⟨o, h⟩
  · rw [h] at e; cases e; exact .inl rfl
  · rw [h] at e; cases e; exact .inr ⟨o, rfl⟩
theorem Eqd.at {H H' : Hp} (E : Eqd H H') {b : Addr} {u : HO} (h : H b = some u) (n : ∀ kvs, ¬ IsD kvs u) : H' b = some u := by
  rcases E b u h with h | ⟨kvs, h1, _⟩
  · exact h
  · exact absurd (Rd.inj h1 h) (n kvs)
theorem Eqd.rd {H H' : Hp} (E : Eqd H H') {b : Addr} {kvs : List (Key × V)} (h : Rd H b (.dK kvs)) : Rd H' b (.dK kvs) := by
  have go : ∀ u, H b = some u → IsD kvs u → Rd H' b (.dK kvs) := fun u e d => by
    rcases E b u e with e' | ⟨kvs', h1, h2⟩
    · exact d.rd e'
    · have d' := Rd.inj h1 e
      have : kvs = kvs' := by
        rcases d with rfl | ⟨od, rfl⟩ <;> rcases d' with d' | ⟨od', d'⟩ <;> cases d' <;> rfl
      rw [this]; exact h2
  rcases h with h | ⟨o, h⟩
  · exact go _ h (.inl rfl)
  · exact go _ h (.inr ⟨o, rfl⟩)
theorem Eqd.seq {K : PySem.W.Frag} {H H' : Hp} (E : Eqd H H') {a : Addr} {xs : List V} (h : SqL K H a xs) : SqL K H' a xs := by
  rcases h with (h | ⟨o, h⟩) | h
  · exact .inl (.inl (E.at h fun kvs z => by rcases z with z | ⟨_, z⟩ <;> cases z))
  · exact .inl (.inr ⟨o, E.at h fun kvs z => by rcases z with z | ⟨_, z⟩ <;> cases z⟩)
  · exact .inr h
mutual
theorem Rep.eqd {G : Gx} {H H' : Hp} (E : Eqd H H') : ∀ {v : V} {d : D}, Rep G H v d → Rep G H' v d
  | _, _, .non => .non
  | _, _, .bl b => .bl b
  | _, _, .int i => .int i
  | _, _, .str x => .str x
  | _, _, .tup h r => .tup (E.at h fun kvs z => by rcases z with z | ⟨_, z⟩ <;> cases z) (r.eqd E)
  | _, _, .lst h r => .lst (E.at h fun kvs z => by rcases z with z | ⟨_, z⟩ <;> cases z) (r.eqd E)
  | _, _, .dic h r => .dic (E.rd h) (r.eqd E)
  | _, _, .obj c h r => .obj c (E.at h fun kvs z => by rcases z with z | ⟨_, z⟩ <;> cases z) (r.eqd E)
  | _, _, .cls c => .cls c
  | _, _, .typ n => .typ n
  | _, _, .scr h => .scr (E.seq h)
theorem Reps.eqd {G : Gx} {H H' : Hp} (E : Eqd H H') : ∀ {v : List V} {d : List D}, Reps G H v d → Reps G H' v d
  | _, _, .nil => .nil
  | _, _, .cons h r => .cons (h.eqd E) (r.eqd E)
end
theorem lk_eqd {a : Addr} {kvs : List (Key × V)} {o o' : HO} {H : Hp} (d : IsD kvs o) (d' : IsD kvs o') (h : H a = none ∨ H a = some o) : Eqd H (lk a o' H) := fun b u e => by
  by_cases q : b = a
  · subst q
    rcases h with h | h
    · rw [h] at e; cases e
    · rw [h] at e; cases e
      exact .inr ⟨kvs, d.rd h, d'.rd (lk_at h)⟩
  · exact .inl (by rw [lk_ne q]; exact e)
mutual
theorem ORep.eqd {G : Gx} {Hs H Hs' H' : Hp} (E : Eqd Hs Hs') : ∀ {v : V} {t : OD} {fp : List Addr}, ORep G Hs H v t fp → (∀ a ∈ fp, ∀ o, H a = some o → H' a = some o) → ORep G Hs' H' v t fp
  | _, _, _, .sh r, _ => .sh (r.eqd E)
  | _, _, _, .lst h r, k => .lst (k _ List.mem_cons_self _ h) (r.eqd E fun a ha => k a (List.mem_cons_of_mem _ ha))
  | _, _, _, .tup h r, k => .tup (E.at h fun kvs z => by rcases z with z | ⟨_, z⟩ <;> cases z) (r.eqd E k)
  | _, _, _, .dic h r, k => .dic (k _ List.mem_cons_self _ h) (r.eqd E fun a ha => k a (List.mem_cons_of_mem _ ha))
  | _, _, _, .obj c h r, k => .obj c (k _ List.mem_cons_self _ h) (r.eqd E fun a ha => k a (List.mem_cons_of_mem _ ha))
theorem OReps.eqd {G : Gx} {Hs H Hs' H' : Hp} (E : Eqd Hs Hs') : ∀ {v : List V} {t : List OD} {fp : List Addr}, OReps G Hs H v t fp → (∀ a ∈ fp, ∀ o, H a = some o → H' a = some o) → OReps G Hs' H' v t fp
  | _, _, _, .nil, _ => .nil
  | _, _, _, .cons h r, k => .cons (h.eqd E fun a ha => k a (List.mem_append_left _ ha)) (r.eqd E fun a ha => k a (List.mem_append_right _ ha))
end
theorem ExcOk.eqd {G : Gx} {Hs Hs' : Hp} {c : Str} {ks : List Str} {vs : List D} {cv : Value} {d : Option Addr} (E : Eqd Hs Hs') (h : ExcOk G Hs c ks vs cv d) : ExcOk G Hs' c ks vs cv d := by
  obtain ⟨C, h1, h2, h3⟩ := h
  refine ⟨C, h1, h2, ?_⟩
  rcases h3 with h3 | ⟨dd, fs, a, b, q, n, r⟩
  · exact .inl h3
  · exact .inr ⟨dd, fs, a, E.at b fun kvs z => by (rcases z with z | ⟨_, z⟩ <;> cases z), q, n, r.eqd E⟩
/-- the heaps of a moment, the dict at a put otherwise -/
structure Swp (a : Addr) (kvs : List (Key × V)) (o o' : HO) (Hs Hr H : Hp) : Prop where
  d : IsD kvs o
  d' : IsD kvs o'
  hr : Hr a = some o
  ok : HpOk Hs Hr H
theorem IsD.notup {kvs : List (Key × V)} {o : HO} (d : IsD kvs o) (xs : List V) : o ≠ .tup xs := fun h => by
  rcases d with rfl | ⟨_, rfl⟩ <;> cases h
section
variable {a : Addr} {kvs : List (Key × V)} {o o' : HO} {Hs Hr H : Hp}
theorem Swp.hs (S : Swp a kvs o o' Hs Hr H) : Hs a = none ∨ Hs a = some o := by
  cases h : Hs a with
  | none => exact .inl rfl
  | some u => have := S.ok.sr _ _ h; rw [S.hr] at this; cases this; exact .inr rfl
theorem Swp.h (S : Swp a kvs o o' Hs Hr H) : H a = some o := S.ok.rh _ _ S.hr
theorem Swp.ok' (S : Swp a kvs o o' Hs Hr H) : HpOk (lk a o' Hs) (lk a o' Hr) (lk a o' H) where
  sr := lks S.ok.sr
  rh := lks S.ok.rh
  ti := fun b xs e => by
    by_cases q : b = a
    · subst q
      rw [lk_at S.h] at e
      exact absurd (Option.some.inj e) (S.d'.notup xs)
    · rw [lk_ne q] at e ⊢
      exact S.ok.ti b xs e
theorem Swp.back (S : Swp a kvs o o' Hs Hr H) : Swp a kvs o' o (lk a o' Hs) (lk a o' Hr) (lk a o' H) := ⟨S.d', S.d, lk_at S.hr, S.ok'⟩
theorem Swp.es (S : Swp a kvs o o' Hs Hr H) : Eqd Hs (lk a o' Hs) := lk_eqd S.d S.d' S.hs
theorem Swp.er (S : Swp a kvs o o' Hs Hr H) : Eqd Hr (lk a o' Hr) := lk_eqd S.d S.d' (.inr S.hr)
theorem Swp.eh (S : Swp a kvs o o' Hs Hr H) : Eqd H (lk a o' H) := lk_eqd S.d S.d' (.inr S.h)
theorem Swp.ne (S : Swp a kvs o o' Hs Hr H) {p : Addr} (h : Hr p = none) : p ≠ a := fun z => by subst z; rw [S.hr] at h; cases h
theorem SlotOk.swap {J : Jx} {sv : Option (Option V)} (S : Swp a kvs o o' Hs Hr H) : ∀ {e : EV}, SlotOk J Hs Hr H sv e → SlotOk J (lk a o' Hs) (lk a o' Hr) (lk a o' H) sv e
  | .val .s d, ⟨v, x, b⟩ => ⟨v, x, b.eqd S.es⟩
  | .val .r d, ⟨v, x, b⟩ => ⟨v, x, b.eqd S.er⟩
  | .val .h d, h => h
  | .val .o d, h => h
  | .own xs, ⟨p, vs, x, b, c, r⟩ => ⟨p, vs, x, by rw [lk_ne (S.ne c)]; exact b, by rw [lk_ne (S.ne c)]; exact c, r.eqd S.es⟩
  | .ownd ks xs, ⟨p, vs, x, b, c, k, r⟩ => ⟨p, vs, x, by rw [lk_ne (S.ne c)]; exact b, by rw [lk_ne (S.ne c)]; exact c, k, r.eqd S.es⟩
  | .ownt t, ⟨v, fp, x, r, n, c⟩ => ⟨v, fp, x, r.eqd S.es fun p hp u hu => by rw [lk_ne (S.ne (c p hp))]; exact hu, n, fun p hp => by rw [lk_ne (S.ne (c p hp))]; exact c p hp⟩
  | .exn c ks vs, ⟨x, cv, d, h1, h2, h3⟩ => ⟨x, cv, d, h1, h2, h3.eqd S.es⟩
  | .val (.n _) d, h => h
theorem OwFp.swap {J : Jx} {sv : Option (Option V)} {fp : List Addr} (S : Swp a kvs o o' Hs Hr H) : ∀ {e : EV}, SlotOk J Hs Hr H sv e → OwFp J.toGx (lk a o' Hs) (lk a o' H) sv fp e → OwFp J.toGx Hs H sv fp e
  | .own _, _, h => h
  | .ownd _ _, _, h => h
  | .ownt t, ⟨v', f', e', r', n, c⟩, ⟨v, e, r⟩ => by
    rw [e] at e'
    cases e'
    have k : ORep J.toGx (lk a o' Hs) (lk a o' H) v' t f' := r'.eqd S.es fun p hp u hu => by rw [lk_ne (S.ne (c p hp))]; exact hu
    cases k.det r
    exact ⟨_, e, r'⟩
  | .val _ _, _, h => h
  | .exn _ _ _, _, h => h
theorem Rel.swap {J : Jx} {Hse He : Hp} {env : Env} {σ : St} (S : Swp a kvs o o' Hs Hr H) (R : Rel J Hse He env σ Hs Hr H) : Rel J (lk a o' Hse) (lk a o' He) env σ (lk a o' Hs) (lk a o' Hr) (lk a o' H) where
  ok := S.ok'
  len := R.len
  slot := fun i e h => (R.slot i e h).swap S
  dis := fun i j p n x y => by
    have go : ∀ i, OwnAt J.toGx (lk a o' Hs) (lk a o' H) env σ i p → OwnAt J.toGx Hs H env σ i p := fun i ⟨e, fp, h1, h2, h3⟩ => ⟨e, fp, h1, OwFp.swap S (R.slot i e h1) h2, h3⟩
    exact R.dis i j p n (go i x) (go j y)
  se := lks R.se
  he := lks R.he
  ns := fun b u e => by
    have h1 : Hs b ≠ none := fun z => by have := (lk_free (a := a) (o := o')).mpr z; rw [e] at this; cases this
    cases q : Hs b with
    | none => exact absurd q h1
    | some w =>
      rcases R.ns b w q with h | h
      · left
        have := lks (a := a) (o := o') R.se
        cases z : lk a o' Hse b with
        | none => rw [lk_free.mp z] at h; cases h
        | some y => have := this _ _ z; rw [e] at this; exact this.symm ▸ rfl
      · exact .inr (lk_free.mpr h)
  pin := R.pin
theorem Ext.swap {Hs' Hr' H' : Hp} (S : Swp a kvs o o' Hs Hr H) (x : Ext Hs Hr H Hs' Hr' H') : Ext (lk a o' Hs) (lk a o' Hr) (lk a o' H) (lk a o' Hs') (lk a o' Hr') (lk a o' H') where
  s := lks x.s
  r := lks x.r
  h := lks x.h
  ok := Swp.ok' ⟨S.d, S.d', x.r _ _ S.hr, x.ok⟩
  ns := fun b u e => by
    have h1 : Hs' b ≠ none := fun z => by have := (lk_free (a := a) (o := o')).mpr z; rw [e] at this; cases this
    cases q : Hs' b with
    | none => exact absurd q h1
    | some w =>
      rcases x.ns b w q with h | h
      · left
        have := lks (a := a) (o := o') x.s
        cases z : lk a o' Hs b with
        | none => rw [lk_free.mp z] at h; cases h
        | some y => have := this _ _ z; rw [e] at this; exact this.symm ▸ rfl
      · exact .inr (lk_free.mpr h)
  nr := fun b u e => by
    have h1 : Hr' b ≠ none := fun z => by have := (lk_free (a := a) (o := o')).mpr z; rw [e] at this; cases this
    cases q : Hr' b with
    | none => exact absurd q h1
    | some w =>
      rcases x.nr b w q with h | h
      · left
        have := lks (a := a) (o := o') x.r
        cases z : lk a o' Hr b with
        | none => rw [lk_free.mp z] at h; cases h
        | some y => have := this _ _ z; rw [e] at this; exact this.symm ▸ rfl
      · exact .inr (lk_free.mpr h)
end
/-! ### for k in d, [.. for k in d ..] -/
def keyD : Key → D
  | .inl i => .int i
  | .inr s => .str s
theorem rep_key {G : Gx} {H : Hp} (k : Key) : Rep G H (kV k) (keyD k) := by
  cases k with
  | inl i => exact .int i
  | inr s => exact .str s
/-- the keys of a dict that a slot holds -/
def dkE (i : Nat) (env : Env) : Option (List D) := match env[i]? with
  | some (some (.val .s (.dic ks _))) => some (ks.map keyD)
  | some (some (.val .r (.dic ks _))) => some (ks.map keyD)
  | _ => none
def shut : SR → SR
  | .nx e => .nx e
  | .bk e => .bk e
  | .ct e => .ct e
  | .rt (.val _ d) e => if imm d = true then .rt (.val .s d) e else .bad
  | _ => .bad
def forK (i : Nat) (g : TV → Env → Option Env) (B : Env → SR) : Env → SR := fun env => match dkE i env with
  | some ds => shut (forD g B .s ds env)
  | none => .bad
def lcKS (i : Nat) (own : List Nat) (g : TV → Env → Option Env) (c : Env → Res Bool) (el : Env → Res TV) : Env → Res EV := fun env => match dkE i env with
  | some ds => lcK g c el (wipeE env own) (.s, ds)
  | none => .bad
theorem enum_keys {G : Gx} {Hs0 Hr0 : Hp} {a : Addr} {od : Obj} {kvs : List (Key × V)} (h : Hr0 a = some (.frz od (.dK kvs))) : Enum G .s Hs0 Hr0 (Itk a od kvs) ((kvs.map (·.1)).map keyD) where
  tg := .inl rfl
  go := fun Hs Hr H i k s1 s2 hi => ⟨k.rh _ _ (s2 _ _ h), by simpa using hi⟩
  stop := fun Hs Hr H k s1 s2 => ⟨k.rh _ _ (s2 _ _ h), by simp⟩
  yld := fun Hs Hr H i x H' k s1 s2 hi y => by
    obtain ⟨e, q, v, h1, rfl⟩ := y
    refine ⟨keyD q, ?_, .inl ⟨e, rep_key q⟩⟩
    rw [List.getElem?_map, List.getElem?_map, h1] <;> rfl
section
variable {X : Cx} {J : Jx} {tg : Expr} {g : TV → Env → Option Env} {B : Env → SR} {body : List Stmt} {pos px : Pos}
theorem ps_or {X : Cx} {st : Stmt} {t t' : TS} (h : PS X st t) (h' : PS X st t') : PS X st (fun D σ H => t D σ H ∨ t' D σ H) := ⟨fun pins s σ H D I q => q.elim (h.run pins s σ H D I) (h'.run pins s σ H D I)⟩
theorem pe_or {X : Cx} {e : Expr} {t t' : TE} (h : PE X e t) (h' : PE X e t') : PE X e (fun σ H Q => t σ H Q ∨ t' σ H Q) := ⟨fun pins s σ H Q I q => q.elim (h.run pins s σ H Q I) (h'.run pins s σ H Q I)⟩
theorem for_core {sl : List Nat} {σ : St} {Hs0 Hr0 H0 : Hp} {env : Env} {D : Ends} {t : Tg} {ds : List DL.D} {Jt : It} (R0 : Rel J Hs0 Hr0 env σ Hs0 Hr0 H0) (En : Enum J.toGx t Hs0 Hr0 Jt ds) (p0 : PostS J Hs0 Hr0 D (forD g B t ds env)) :
    ∃ W : Nat → Nat → St → Hp → Prop, (∃ m, W 0 m σ H0) ∧ ∀ (i m : Nat) (σ : St) (H : Hp), W i m σ H → Jt.stop i H ∧ D.nx σ H ∨ Jt.go i H ∧ ∃ N : St → Hp → Prop, (∀ (σ' : St) (H' : Hp), N σ' H' → ∃ m', m' < m ∧ W (i + 1) m' σ' H') ∧ ∀ (x : V) (H' : Hp), Jt.yld i H x H' → tG J sl g x σ H' fun σ2 H2 => tS J B { nx := N, rt := D.rt, bk := D.nx, ct := N } σ2 H2 := by
  refine ⟨fun i m σ H => ∃ env Hs Hr, Rel J Hs0 Hr0 env σ Hs Hr H ∧ m = ds.length - i ∧ i ≤ ds.length ∧ PostS J Hs0 Hr0 D (forD g B t (ds.drop i) env), ⟨ds.length, env, Hs0, Hr0, R0, by simp, Nat.zero_le _, p0⟩, ?_⟩
  rintro i m σ1 H1 ⟨env1, Hs1, Hr1, R1, rfl, hi, p1⟩
  by_cases hlt : i < ds.length
  · refine .inr ⟨En.go Hs1 Hr1 H1 i R1.ok R1.se R1.he hlt, fun σ' H' => ∃ m', m' < ds.length - i ∧ ∃ env Hs Hr, Rel J Hs0 Hr0 env σ' Hs Hr H' ∧ m' = ds.length - (i + 1) ∧ i + 1 ≤ ds.length ∧ PostS J Hs0 Hr0 D (forD g B t (ds.drop (i + 1)) env), fun σ' H' h => h, fun v H2 y => ?_⟩
    obtain ⟨d, hd, yy⟩ := En.yld Hs1 Hr1 H1 i v H2 R1.ok R1.se R1.he hlt y
    obtain ⟨Hs2, Hr2, x2, rv⟩ := item_ext En.tg R1 yy
    have R2 := R1.ext x2
    refine ⟨Hs0, Hr0, env1, Hs2, Hr2, (t, d), R2, rv, ?_⟩
    have ed : ds.drop i = d :: ds.drop (i + 1) := by
      have e1 := List.drop_eq_getElem_cons hlt
      rw [e1]
      congr 1
      have := (List.getElem?_eq_some_iff.mp hd).2
      exact this
    rw [ed] at p1
    unfold forD at p1
    cases hg1 : g (t, d) env1 with
    | none => rw [hg1] at p1; exact (show False from p1).elim
    | some e1 =>
      rw [hg1] at p1
      dsimp only at p1
      refine fun σ3 R3 _ => ⟨Hs0, Hr0, e1, Hs2, Hr2, R3, ?_⟩
      cases hB : B e1 with
      | nx e => rw [hB] at p1; exact fun σ' Hs Hr H R => ⟨ds.length - (i + 1), by omega, e, Hs, Hr, R, rfl, by omega, p1⟩
      | ct e => rw [hB] at p1; exact fun σ' Hs Hr H R => ⟨ds.length - (i + 1), by omega, e, Hs, Hr, R, rfl, by omega, p1⟩
      | bk e => rw [hB] at p1; exact p1
      | rt e e' => rw [hB] at p1; exact p1
      | exc c ks vs e => rw [hB] at p1; exact p1
      | bad => rw [hB] at p1; exact p1
  · have e : i = ds.length := by omega
    subst e
    refine .inl ⟨En.stop Hs1 Hr1 H1 R1.ok R1.se R1.he, ?_⟩
    rw [List.drop_length] at p1
    exact p1 σ1 Hs1 Hr1 H1 R1
/-- the dict of a slot -/
theorem dkE_get {Hse He : Hp} {env : Env} {σ : St} {Hs Hr H : Hp} {i : Nat} {ds : List D} (R : Rel J Hse He env σ Hs Hr H) (h : dkE i env = some ds) : ∃ a kvs, σ[i]? = some (some (.ref a)) ∧ Rd Hr a (.dK kvs) ∧ ds = (kvs.map (·.1)).map keyD := by
  have go : ∀ (Hx : Hp) (ks : List Key) (xs : List D) (v : V), Same Hx Hr → Rep J.toGx Hx v (.dic ks xs) → σ[i]? = some (some v) → ks.map keyD = ds → ∃ a kvs, σ[i]? = some (some (.ref a)) ∧ Rd Hr a (.dK kvs) ∧ ds = (kvs.map (·.1)).map keyD := fun Hx ks xs v e r s k => by
    generalize hd : D.dic ks xs = d at r
    cases r <;> cases hd
    rename_i a kvs h1 h2
    exact ⟨a, kvs, s, Same.rd e h1, k.symm⟩
  unfold dkE at h
  split at h
  · rename_i ks xs q
    obtain ⟨v, s, r⟩ := R.slot i _ q
    exact go Hs ks xs v R.ok.sr r s (Option.some.inj h)
  · rename_i ks xs q
    obtain ⟨v, s, r⟩ := R.slot i _ q
    exact go Hr ks xs v (Same.refl _) r s (Option.some.inj h)
  · cases h
/-- the ends of what stands under the lock -/
def lkE (a : Addr) (u u' : HO) (D : Ends) : Ends := ⟨fun σ' H' => H' a = some u' ∧ D.nx σ' (upd H' a u), fun v H' => H' a = some u' ∧ D.rt v (upd H' a u), fun σ' H' => H' a = some u' ∧ D.bk σ' (upd H' a u), fun σ' H' => H' a = some u' ∧ D.ct σ' (upd H' a u)⟩
theorem post_lock {a : Addr} {kvs : List (Key × V)} {o o' : HO} {Hs Hr H : Hp} {D : Ends} (S : Swp a kvs o o' Hs Hr H) : ∀ {r : SR}, PostS J Hs Hr D (shut r) → PostS J (lk a o' Hs) (lk a o' Hr) (lkE a o o' D) r := by
  have bk : ∀ {e : Env} {σ : St} {Hs' Hr' H' : Hp}, Rel J (lk a o' Hs) (lk a o' Hr) e σ Hs' Hr' H' → H' a = some o' ∧ Rel J Hs Hr e σ (lk a o Hs') (lk a o Hr') (upd H' a o) := fun {e σ Hs' Hr' H'} R => by
    have h1 : Hr' a = some o' := R.he _ _ (lk_at S.hr)
    have h2 : H' a = some o' := R.ok.rh _ _ h1
    have S' : Swp a kvs o' o Hs' Hr' H' := ⟨S.d', S.d, h1, R.ok⟩
    have R2 := R.swap S'
    rw [lk_back S.hs, lk_back (.inr S.hr), lk_upd h2] at R2
    exact ⟨h2, R2⟩
  intro r p
  cases r with
  | nx e => exact fun σ Hs' Hr' H' R => ⟨(bk R).1, p σ _ _ _ (bk R).2⟩
  | bk e => exact fun σ Hs' Hr' H' R => ⟨(bk R).1, p σ _ _ _ (bk R).2⟩
  | ct e => exact fun σ Hs' Hr' H' R => ⟨(bk R).1, p σ _ _ _ (bk R).2⟩
  | exc c ks vs e => exact (show False from p).elim
  | bad => exact (show False from p).elim
  | rt v e =>
    cases v with
    | val t d =>
      rw [show shut (.rt (.val t d) e) = if imm d = true then .rt (.val .s d) e else .bad from rfl] at p
      by_cases hi : imm d = true
      · rw [if_pos hi] at p
        have go : ∀ (σ : St) (Hs' Hr' H' : Hp), Rel J (lk a o' Hs) (lk a o' Hr) e σ Hs' Hr' H' → ∀ (Hx : Hp) (v : V), Same Hx H' → Rep J.toGx Hx v d → H' a = some o' ∧ D.rt v (upd H' a o) := fun σ Hs' Hr' H' R Hx v e1 r => by
          obtain ⟨h1, R2⟩ := bk R
          refine ⟨h1, p σ _ _ _ R2 v ?_⟩
          refine Rep.imm (H := Hx) (fun b xs hb => ?_) r hi
          have h3 := R.ok.ti b xs (e1 _ _ hb)
          by_cases q : b = a
          · subst q
            have := R.ok.sh _ _ h3
            rw [h1] at this
            exact absurd (Option.some.inj this) (S.d'.notup xs)
          · rw [lk_ne q]; exact h3
        cases t with
        | s => exact fun σ Hs' Hr' H' R v r => go σ Hs' Hr' H' R Hs' v R.ok.sh r
        | _ => exact fun σ Hs' Hr' H' R v r => go σ Hs' Hr' H' R H' v (Same.refl _) r
      · rw [if_neg hi] at p; exact (show False from p).elim
    | _ => exact (show False from p).elim
theorem post_shut {Hs Hr : Hp} {D : Ends} : ∀ {r : SR}, PostS J Hs Hr D (shut r) → PostS J Hs Hr D r := by
  intro r p
  cases r with
  | nx e => exact p
  | bk e => exact p
  | ct e => exact p
  | exc c ks vs e => exact (show False from p).elim
  | bad => exact (show False from p).elim
  | rt v e =>
    cases v with
    | val t d =>
      rw [show shut (.rt (.val t d) e) = if imm d = true then .rt (.val .s d) e else .bad from rfl] at p
      by_cases hi : imm d = true
      · rw [if_pos hi] at p
        cases t with
        | s => exact p
        | _ => exact fun σ Hs' Hr' H' R v r => p σ Hs' Hr' H' R v (Rep.imm (fun b xs hb => R.ok.ti b xs hb) r hi)
      · rw [if_neg hi] at p; exact (show False from p).elim
    | _ => exact (show False from p).elim
theorem ms_forK {sl : List Nat} {x : Str} (po : PassesOwn (model X.prog X.w) X.A X.env X.xe) (hc : X.calm = true) (i : Nat) (hg : MG X J tg sl g) (hb : MSs X J body B)
    (hN : X.N[i]? = some x := by rfl) (hv : Vis X.env.scope x := by first | exact Or.inl rfl | exact Or.inr (Or.inl rfl) | exact Or.inr (Or.inr rfl)) (hd : (x == ("__debug__" : Str)) = false := by decide)
    (hcd : (x == ("__classdict__" : Str)) = false := by decide) (hs : ∀ v, foldedSetIterable (.Name x px) X.env v = pure v := by intro _; rfl) :
    MS X J (.For tg (.Name x px) body [] pos) (forK i g B) := by
  have P := ps_for (pos := pos) po hc (pi_keys (tg := tg) (pv (pos := px) i hN hv hd hcd)) hg.pg hb.ps hs
  refine ⟨ps_imp (ps_or P (ps_lock P)) fun D σ H ⟨Hse, He, env, Hs, Hr, R, p⟩ => ?_⟩
  unfold forK at p
  cases hk : dkE i env with
  | none => rw [hk] at p; exact (show False from p).elim
  | some ds =>
    rw [hk] at p
    obtain ⟨a, kvs, hsl, hr, rfl⟩ := dkE_get R hk
    have p0 := PostS.rebase R p
    rcases hr with hr | ⟨od, hr⟩
    · refine .inr ⟨a, .dK kvs, R.ok.rh _ _ hr, trivial, fun od => ?_⟩
      have S : Swp a kvs (.dK kvs) (.frz od (.dK kvs)) Hs Hr H := ⟨.inl rfl, .inr ⟨od, rfl⟩, hr, R.ok⟩
      have R1 := R.base.swap S
      have p1 := post_lock S p0
      rw [lk_upd S.h] at R1
      exact ⟨_, hsl, a, od, rfl, .inl ⟨kvs, upd_same, for_core R1 (enum_keys (lk_at hr)) p1⟩⟩
    · exact .inl ⟨_, hsl, a, od, rfl, .inl ⟨kvs, R.ok.rh _ _ hr, for_core R.base (enum_keys hr) (post_shut p0)⟩⟩
/-- a comprehension over the keys of a slot's dict -/
theorem lc_core {own sl : List Nat} {c : Env → Res Bool} {el : Env → Res TV} (hsl : ∀ j ∈ sl, j ∈ own) (up : ∀ i ∈ own, Unp J i) {σ : St} {H : Hp} {Q : VK} {ds : List D} {Hs Hr : Hp} {env : Env} {Jt : It} (R : Rel J Hs Hr env σ Hs Hr H) (En : EnumH J.toGx .s Hs Hr H Jt ds) (p : Post J σ Hs Hr H (lcK g c el (wipeE env own) (.s, ds)) (SE J H Q)) :
    ∀ (D : Addr), H D = none → ∃ W : Nat → Nat → Hp → Prop, (∃ m, W 0 m (upd H D (.lst []))) ∧ ∀ (i m : Nat) (H : Hp), W i m H → Jt.stop i H ∧ Q (.ref D) H ∨ Jt.go i H ∧ ∃ Nx : Hp → Prop, (∀ H', Nx H' → ∃ m', m' < m ∧ W (i + 1) m' H') ∧ ∀ (x : V) (H' : Hp), Jt.yld i H x H' → tG J.in0 sl g x (wipe σ own) H' fun σ2 H2 => wipe σ2 own = wipe σ own ∧ tT J.in0 c σ2 H2 fun b H3 => if b = true then tV J.in0 el σ2 H3 fun y H4 => ∃ acc, H4 D = some (.lst acc) ∧ acc.length < sizeLine ∧ Nx (upd H4 D (.lst (acc ++ [y]))) else Nx H3 := by
  intro D hD
  generalize hx : ((.s, ds) : TVs) = x at p
  have e1 := Ext.refl R.ok
  have p1 := p
  have En : EnumH J.toGx x.1 Hs Hr H Jt x.2 := by rw [← hx]; exact En
  have R1 := (R.ext e1).wipe own up
  unfold lcK at p1
  cases hl : lcD g c el x.1 (wipeE env own) x.2 with
  | bad => rw [hl] at p1; exact (show False from p1).elim
  | exc _ _ _ => rw [hl] at p1; exact (show False from p1).elim
  | ok whole =>
    rw [hl] at p1
    dsimp only at p1
    split at p1
    · rename_i hlim
      have x0 := Ext.new0 (o := .lst []) e1.ok hD fun xs z => by cases z
      refine ⟨fun i m H2 => ∃ Hs2 Hr2 acc accV rest, Ext Hs Hr H Hs2 Hr2 H2 ∧ H2 D = some (.lst accV) ∧ Hr2 D = none ∧ Reps J.toGx Hs2 accV acc ∧ m = x.2.length - i ∧ i ≤ x.2.length ∧ lcD g c el x.1 (wipeE env own) (x.2.drop i) = .ok rest ∧ whole = acc ++ rest,
        ⟨x.2.length, Hs, Hr, [], [], whole, x0, upd_same, e1.ok.none_r hD, .nil, by simp, Nat.zero_le _, hl, rfl⟩, ?_⟩
      rintro i m H2 ⟨Hs2, Hr2, acc, accV, rest, e2, hD2, hDr, racc, rfl, hi, hr, hw⟩
      have R2 : Rel J.in0 Hs Hr (wipeE env own) (wipe σ own) Hs2 Hr2 H2 := R1.ext e2
      by_cases hlt : i < x.2.length
      · refine .inr ⟨En.go Hs2 Hr2 H2 i e2.ok e2.s e2.r e2.h hlt, fun H' => ∃ m', m' < x.2.length - i ∧ ∃ Hs2 Hr2 acc accV rest, Ext Hs Hr H Hs2 Hr2 H' ∧ H' D = some (.lst accV) ∧ Hr2 D = none ∧ Reps J.toGx Hs2 accV acc ∧ m' = x.2.length - (i + 1) ∧ i + 1 ≤ x.2.length ∧ lcD g c el x.1 (wipeE env own) (x.2.drop (i + 1)) = .ok rest ∧ whole = acc ++ rest, fun H' h => h, fun v H3 y => ?_⟩
        obtain ⟨d, hd, yy⟩ := En.yld Hs2 Hr2 H2 i v H3 e2.ok e2.s e2.r e2.h hlt y
        obtain ⟨Hs3, Hr3, e3, rv⟩ := item_ext (J := J.in0) En.tg R2 yy
        have R3 := R2.ext e3
        have ed : x.2.drop i = d :: x.2.drop (i + 1) := by
          have e1 := List.drop_eq_getElem_cons hlt
          rw [e1]
          congr 1
          exact (List.getElem?_eq_some_iff.mp hd).2
        rw [ed, lcD] at hr
        refine ⟨Hs, Hr, wipeE env own, Hs3, Hr3, (x.1, d), R3, rv, ?_⟩
        cases hg : g (x.1, d) (wipeE env own) with
        | none => rw [hg] at hr; cases hr
        | some en =>
          rw [hg] at hr
          dsimp only at hr ⊢
          refine fun σ4 R4 bs => ⟨beside_wipe bs hsl, Hs, Hr, en, Hs3, Hr3, R4, ?_⟩
          cases hc : c en with
          | exc _ _ _ => rw [hc] at hr; cases hr
          | bad => rw [hc] at hr; cases hr
          | ok b =>
            rw [hc] at hr
            intro Hs5 Hr5 H5 e5
            have e25 := (e2.trans e3).trans e5
            have hD5 : H5 D = some (.lst accV) := e5.h _ _ (e3.h _ _ hD2)
            have hDr3 : Hr3 D = none := e3.still hD2 hDr
            have hDr5 : Hr5 D = none := e5.still (e3.h _ _ hD2) hDr3
            show if b = true then _ else _
            cases b with
            | false =>
              dsimp only at hr
              exact ⟨x.2.length - (i + 1), by omega, Hs5, Hr5, acc, accV, rest, e25, hD5, hDr5, racc.mono (e3.s.trans e5.s), rfl, by omega, hr, hw⟩
            | true =>
              dsimp only at hr
              rw [if_pos rfl]
              refine ⟨Hs, Hr, en, Hs5, Hr5, R4.ext e5, ?_⟩
              cases he : el en with
              | exc _ _ _ => rw [he] at hr; cases hr
              | bad => rw [he] at hr; cases hr
              | ok z =>
                rw [he] at hr
                intro Hs6 Hr6 H6 e6 w rw'
                dsimp only at hr
                split at hr
                · rename_i hsh
                  have hD6 : H6 D = some (.lst accV) := e6.h _ _ hD5
                  have hDr6 : Hr6 D = none := e6.still hD5 hDr5
                  cases hr2 : lcD g c el x.1 (wipeE env own) (x.2.drop (i + 1)) with
                  | exc _ _ _ => rw [hr2] at hr; cases hr
                  | bad => rw [hr2] at hr; cases hr
                  | ok l =>
                    rw [hr2] at hr
                    cases hr
                    have lw : whole.length = acc.length + (l.length + 1) := by rw [hw, List.length_append, List.length_cons]
                    have e16 := e25.trans e6
                    refine ⟨accV, hD6, by rw [sizeLine_eq, racc.length]; omega, x.2.length - (i + 1), by omega, Hs6, Hr6, acc ++ [z.2], accV ++ [w], l, ?_, upd_same, hDr6, ?_, rfl, by omega, rfl, by rw [hw]; simp⟩
                    · refine ⟨e16.s, e16.r, Same.upd e16.h hD, ⟨e16.ok.sr, Same.upd e16.ok.rh hDr6, fun a xs h => ?_⟩, e16.ns, e16.nr⟩
                      by_cases q : a = D
                      · subst q; rw [upd_same] at h; cases h
                      · rw [upd_ne q] at h; exact e16.ok.ti a xs h
                    · exact ((racc.mono (e3.s.trans e5.s)).mono e6.s).append (.cons (rw'.shV e6.ok hsh) .nil)
                · cases hr
      · have e : i = x.2.length := by omega
        subst e
        refine .inl ⟨En.stop Hs2 Hr2 H2 e2.ok e2.s e2.r e2.h, ?_⟩
        rw [List.drop_length, lcD] at hr
        cases hr
        rw [List.append_nil] at hw
        subst hw
        exact p1 Hs2 Hr2 H2 e2 D accV hD2 hDr (e1.h.free hD) racc
    · exact (show False from p1).elim
theorem lcK_cases (g : TV → Env → Option Env) (c : Env → Res Bool) (el : Env → Res TV) (env0 : Env) (x : TVs) : (∃ l, lcK g c el env0 x = .ok (.own l)) ∨ lcK g c el env0 x = .bad := by
  unfold lcK
  cases lcD g c el x.1 env0 x.2 with
  | ok l =>
    dsimp only
    split
    · exact .inl ⟨l, rfl⟩
    · exact .inr rfl
  | exc _ _ _ => exact .inr rfl
  | bad => exact .inr rfl
theorem run_lcK {own sl : List Nat} {c : Env → Res Bool} {el : Env → Res TV} (i : Nat) (hsl : ∀ j ∈ sl, j ∈ own) (up : ∀ i ∈ own, Unp J i) {σ : St} {H : Hp} {Q : VK} (n : tE J (lcKS i own g c el) σ H Q) :
    tLc (iKeys (tVar i)) (tG J.in0 sl g) (tT J.in0 c) (tV J.in0 el) own σ H Q ∨ tLockE (tLc (iKeys (tVar i)) (tG J.in0 sl g) (tT J.in0 c) (tV J.in0 el) own) σ H Q := by
  obtain ⟨Hse, He, env, Hs, Hr, R, p⟩ := n
  unfold lcKS at p
  cases hk : dkE i env with
  | none => rw [hk] at p; exact (show False from p).elim
  | some ds =>
    rw [hk] at p
    obtain ⟨a, kvs, hslt, hr, rfl⟩ := dkE_get R hk
    rcases hr with hr | ⟨od, hr⟩
    · refine .inr ⟨a, .dK kvs, R.ok.rh _ _ hr, trivial, fun od => ?_⟩
      have S : Swp a kvs (.dK kvs) (.frz od (.dK kvs)) Hs Hr H := ⟨.inl rfl, .inr ⟨od, rfl⟩, hr, R.ok⟩
      have R1 := R.base.swap S
      rw [lk_upd S.h] at R1
      refine ⟨_, hslt, a, od, rfl, .inl ⟨kvs, upd_same, lc_core (g := g) (c := c) (el := el) (Q := fun v H' => H' a = some (.frz od (.dK kvs)) ∧ Q v (upd H' a (.dK kvs))) hsl up R1 (enum_keys (lk_at hr)).toH ?_⟩⟩
      rcases lcK_cases g c el (wipeE env own) (.s, (kvs.map (·.1)).map keyD) with ⟨l, e⟩ | e
      · dsimp only at p
        rw [e] at p ⊢
        intro Hs' Hr' H' x' q vs h1 h2 h3 h4
        have h5 : Hr' a = some (.frz od (.dK kvs)) := x'.r _ _ (lk_at hr)
        have h6 : H' a = some (.frz od (.dK kvs)) := x'.ok.rh _ _ h5
        refine ⟨h6, ?_⟩
        have S0 : Swp a kvs (.frz od (.dK kvs)) (.dK kvs) (lk a (.frz od (.dK kvs)) Hs) (lk a (.frz od (.dK kvs)) Hr) (upd H a (.frz od (.dK kvs))) := by
          have := S.back
          rw [lk_upd S.h] at this
          exact this
        have x2 := x'.swap S0
        rw [lk_back S.hs, lk_back (.inr S.hr), ← lk_upd (o := .frz od (.dK kvs)) S.h, lk_back (.inr S.h), lk_upd h6] at x2
        have S' : Swp a kvs (.frz od (.dK kvs)) (.dK kvs) Hs' Hr' H' := ⟨.inr ⟨od, rfl⟩, .inl rfl, h5, x'.ok⟩
        have qa : q ≠ a := fun z => by subst z; rw [upd_same] at h3; cases h3
        refine p _ _ _ x2 q vs ?_ ?_ ?_ (h4.eqd S'.es)
        · rw [upd_ne qa]; exact h1
        · exact lk_free.mpr h2
        · rw [upd_ne qa] at h3; exact h3
      · dsimp only at p
        rw [e] at p; exact (show False from p).elim
    · refine .inl ⟨_, hslt, a, od, rfl, .inl ⟨kvs, R.ok.rh _ _ hr, lc_core hsl up R.base (enum_keys hr).toH p⟩⟩
theorem me_lcK {scope : Scope} {own : List (Str × Nat)} {ifs : List Expr} {elt : Expr} {sl : List Nat} {x : Str} {c : Env → Res Bool} {el : Env → Res TV} (hc : X.calm = true) (nd : X.N.Nodup) (i : Nat) (ok : BlkOk X.N X.env.scope scope own) (hsl : ∀ j ∈ sl, j ∈ own.map (·.2))
    (hg : ∀ (s : Shared) (H : Hp) (C : Addr) (cl : List (Str × Addr)) (fp : List Addr), MG (X.blk s H scope (compEnvC scope cl C X.env) fp) J.in0 tg sl g)
    (ht : ∀ (s : Shared) (H : Hp) (C : Addr) (cl : List (Str × Addr)) (fp : List Addr), MTs (X.blk s H scope (compEnvC scope cl C X.env) fp) J.in0 ifs c)
    (he : ∀ (s : Shared) (H : Hp) (C : Addr) (cl : List (Str × Addr)) (fp : List Addr), MV (X.blk s H scope (compEnvC scope cl C X.env) fp) J.in0 elt el)
    (hN : X.N[i]? = some x := by rfl) (hv : Vis X.env.scope x := by first | exact Or.inl rfl | exact Or.inr (Or.inl rfl) | exact Or.inr (Or.inr rfl)) (hd : (x == ("__debug__" : Str)) = false := by decide)
    (hcd : (x == ("__classdict__" : Str)) = false := by decide) (hs : ∀ v, foldedSetIterable (.Name x px) X.env v = pure v := by intro _; rfl)
    (up : ∀ i ∈ own.map (·.2), Unp J i := by first | exact fun _ _ => Unp.nil rfl | exact fun i h => Unp.one rfl (by rintro rfl; revert h; decide)) :
    ME X J (.ListComp elt [⟨tg, .Name x px, ifs, 0⟩] scope pos) (lcKS i (own.map (·.2)) g c el) := by
  have P := pe_lc (pos := pos) hc nd (pi_keys (tg := tg) (pv (pos := px) i hN hv hd hcd)) ok (fun s H C cl fp => (hg s H C cl fp).pg) (fun s H C cl fp => (ht s H C cl fp).pt) (fun s H C cl fp => (he s H C cl fp).pe) hs
  exact ⟨pe_imp (pe_or P (pe_lock P)) fun σ H Q n => run_lcK i hsl up n⟩
theorem ms_setLcK (z : Nat) {y : Str} {py : Pos} {scope : Scope} {own : List (Str × Nat)} {ifs : List Expr} {elt : Expr} {spos : Pos} {sl : List Nat} {x : Str} {c : Env → Res Bool} {el : Env → Res TV} (hc : X.calm = true) (nd : X.N.Nodup) (i : Nat) (ok : BlkOk X.N X.env.scope scope own) (hsl : ∀ j ∈ sl, j ∈ own.map (·.2))
    (hg : ∀ (s : Shared) (H : Hp) (C : Addr) (cl : List (Str × Addr)) (fp : List Addr), MG (X.blk s H scope (compEnvC scope cl C X.env) fp) J.in0 tg sl g)
    (ht : ∀ (s : Shared) (H : Hp) (C : Addr) (cl : List (Str × Addr)) (fp : List Addr), MTs (X.blk s H scope (compEnvC scope cl C X.env) fp) J.in0 ifs c)
    (he : ∀ (s : Shared) (H : Hp) (C : Addr) (cl : List (Str × Addr)) (fp : List Addr), MV (X.blk s H scope (compEnvC scope cl C X.env) fp) J.in0 elt el)
    (hN : X.N[i]? = some x := by rfl) (hv : Vis X.env.scope x := by first | exact Or.inl rfl | exact Or.inr (Or.inl rfl) | exact Or.inr (Or.inr rfl)) (hd : (x == ("__debug__" : Str)) = false := by decide)
    (hcd : (x == ("__classdict__" : Str)) = false := by decide)
    (hy : X.N[z]? = some y := by rfl) (hyl : X.env.scope.names.lookup y = some .local := by rfl)
    (hsw : swapsWith (.ListComp elt [⟨tg, .Name x px, ifs, 0⟩] scope pos) (some (.Name y py)) spos.line X.env = pure true := by exact sw_true rfl rfl rfl (by decide +kernel)) (hs : ∀ v, foldedSetIterable (.Name x px) X.env v = pure v := by intro _; rfl)
    (up : ∀ i ∈ own.map (·.2), Unp J i := by first | exact fun _ _ => Unp.nil rfl | exact fun i h => Unp.one rfl (by rintro rfl; revert h; decide)) (ui : Unp J z := by first | exact Unp.nil rfl | exact Unp.one rfl (by decide)) :
    MS X J (.Assign [.Name y py] (.ListComp elt [⟨tg, .Name x px, ifs, 0⟩] scope pos) spos) (setS z (lcKS i (own.map (·.2)) g c el)) := by
  have P := ps_setLc (pos := pos) hc nd hy hyl hsw (pi_keys (tg := tg) (pv (pos := px) i hN hv hd hcd)) ok (fun s H C cl fp => (hg s H C cl fp).pg) (fun s H C cl fp => (ht s H C cl fp).pt) (fun s H C cl fp => (he s H C cl fp).pe) hs
  exact ⟨ps_imp (ps_or P (ps_lock P)) fun D σ H ⟨Hse, He, env, Hs, Hr, R, p⟩ => run_lcK (Q := fun v H' => D.nx (σ.set z (some v)) H') i hsl up ⟨Hse, He, env, Hs, Hr, R, post_put R ui p⟩⟩
end
/-! ### dicts of ints compared -/
def intsAll : List D → Bool
  | [] => true
  | .int _ :: r => intsAll r
  | _ => false
/-- has the other one the same at each key -/
def hitD (ls : List Key) (ys : List D) : List Key → List D → Bool
  | k :: ks, .int i :: xs => (match findK k ls ys with | some (.int j) => decide (i = j) && hitD ls ys ks xs | _ => false)
  | _, _ => true
def deqR (x y : TV) (r : Bool → Bool) : Res TV := match x.2, y.2 with
  | .dic ks xs, .dic ls ys => if intsAll xs = true ∧ intsAll ys = true then okb (r (ks.length == ls.length && hitD ls ys ks xs)) else .bad
  | _, _ => .bad
def kDEq (x y : TV) : Res TV := deqR x y id
def kDNe (x y : TV) : Res TV := deqR x y not
theorem kHits {A : Around} {s : Shared} {G : Gx} {H : Hp} {lsv : List (Key × V)} {lv : List (Key × Value)} {ys : List D} (hl : KV lsv lv) (rl : Reps G H (lsv.map (·.2)) ys) (iy : intsAll ys = true) : ∀ {ksv : List (Key × V)} {kv : List (Key × Value)} {xs : List D}, KV ksv kv → Reps G H (ksv.map (·.2)) xs → intsAll xs = true → PySem.W.KeqHits A s lv kv (hitD (lsv.map (·.1)) ys (ksv.map (·.1)) xs)
  | _, _, _, .nil, .nil, _ => .nil
  | (k, v) :: ksv, (k', v') :: kv, d :: xs, .cons h t, .cons r rr, ix => by
    obtain ⟨hk, hv⟩ := h
    dsimp only at hk hv
    subst hk
    cases d with
    | int i =>
      have ix' : intsAll xs = true := ix
      have ih := kHits (A := A) (s := s) hl rl iy t rr ix'
      have ev : v = .int i := by cases r; rfl
      subst ev
      obtain ⟨tk, rfl⟩ := hv
      have kv1 := hl.val k
      show PySem.W.KeqHits A s lv ((k, .int i tk) :: kv) (match findK k (lsv.map (·.1)) ys with | some (.int j) => decide (i = j) && hitD (lsv.map (·.1)) ys (ksv.map (·.1)) xs | _ => false)
      have ymem : ∀ {l : List D} {d : D}, intsAll l = true → d ∈ l → ∃ j, d = .int j := fun {l d} => by
        induction l with
        | nil => intro _ h; cases h
        | cons a l ih2 =>
          intro h hm
          cases a with
          | int j =>
            rcases List.mem_cons.mp hm with rfl | hm
            · exact ⟨j, rfl⟩
            · exact ih2 h hm
          | _ => cases (show false = true from h)
      have fmem : ∀ {ks : List Key} {l : List D} {d : D}, findK k ks l = some d → d ∈ l := fun {ks l d} => by
        induction ks generalizing l with
        | nil => intro h; cases h
        | cons q ks ih2 =>
          intro h
          cases l with
          | nil => cases h
          | cons a l =>
            unfold findK at h
            split at h
            · cases h; exact List.mem_cons_self
            · exact List.mem_cons_of_mem _ (ih2 h)
      cases hf : findK k (lsv.map (·.1)) ys with
      | none =>
        rw [findK_none rl hf] at kv1
        refine .miss ?_
        cases hq : PySem.valueAt lv k with
        | none => rfl
        | some u => rw [hq] at kv1; exact kv1.elim
      | some d =>
        obtain ⟨u, g1, g2⟩ := findK_some rl hf
        rw [g1] at kv1
        obtain ⟨j, rfl⟩ := ymem iy (fmem hf)
        have eu : u = .int j := by cases g2; rfl
        subst eu
        cases hq : PySem.valueAt lv k with
        | none => rw [hq] at kv1; exact kv1.elim
        | some y =>
          rw [hq] at kv1
          obtain ⟨t2, rfl⟩ := kv1
          have e := PySem.W.keq_flat (A := A) (s := s) (PyProof.V.Flat.int i tk) (PyProof.V.Flat.int j t2)
          have e2 : (PyData.int i).eqv (.int j) = decide (i = j) := Bool.beq_eq_decide_eq i j
          rw [e2] at e
          exact .hit hq e ih
    | _ => cases (show false = true from ix)
theorem rd_kv {X : Cx} {pins : List (Addr × Obj)} {σ : St} {H : Hp} {s : Shared} (I : L2.Inv X pins σ H s) {a : Addr} {kvs : List (Key × V)} (h : Rd H a (.dK kvs)) : kvs.length ≤ sizeLine ∧ (a == sysModules) = false ∧ ∃ vs, KV kvs vs ∧ Heap.DictOf (mixKind X.prog X.w) s.heap a vs := by
  rcases h with h | ⟨o, h⟩
  · have := I.hok a _ h; simpa only [ObjOk] using this
  · have := I.hok a _ h; simp only [ObjOk] at this; exact this.2
def rDEq (G : Gx) (n : Bool → Bool) : R2 := fun x y H Q => ∃ a b ks ls xs ys, x = .ref a ∧ y = .ref b ∧ Rd H a (.dK ks) ∧ Rd H b (.dK ls) ∧ Reps G H (ks.map (·.2)) xs ∧ Reps G H (ls.map (·.2)) ys ∧ intsAll xs = true ∧ intsAll ys = true ∧ Q (.bl (n (ks.length == ls.length && hitD (ls.map (·.1)) ys (ks.map (·.1)) xs))) H
theorem op_deq {X : Cx} {G : Gx} (hu : X.A.units < cLine) : OpR X (compareOp .Eq) (rDEq G id) := by
  intro pins s σ H x y v u Q I rx ry ⟨a, b, ks, ls, xs, ys, e1, e2, h1, h2, r1, r2, i1, i2, q⟩
  subst e1 e2
  cases rx
  cases ry
  obtain ⟨l1, m1, va, ka, da⟩ := rd_kv I h1
  obtain ⟨l2, m2, vb, kb, db⟩ := rd_kv I h2
  have n1 : ks.length = va.length := ka.length
  have n2 : ls.length = vb.length := kb.length
  refine PySem.W.keq_eq (r := hitD (ls.map (·.1)) ys (ks.map (·.1)) xs) m1 m2 da db hu (fun _ => kHits kb r2 i2 ka r1 i1) ?_
  rw [← n1, ← n2]
  exact ⟨.bl _, H, I, rfl, q⟩
theorem op_dne {X : Cx} {G : Gx} (hu : X.A.units < cLine) : OpR X (compareOp .NotEq) (rDEq G not) := by
  intro pins s σ H x y v u Q I rx ry ⟨a, b, ks, ls, xs, ys, e1, e2, h1, h2, r1, r2, i1, i2, q⟩
  subst e1 e2
  cases rx
  cases ry
  obtain ⟨l1, m1, va, ka, da⟩ := rd_kv I h1
  obtain ⟨l2, m2, vb, kb, db⟩ := rd_kv I h2
  have n1 : ks.length = va.length := ka.length
  have n2 : ls.length = vb.length := kb.length
  refine PySem.W.keq_ne (r := hitD (ls.map (·.1)) ys (ks.map (·.1)) xs) m1 m2 da db hu (fun _ => kHits kb r2 i2 ka r1 i1) ?_
  rw [← n1, ← n2]
  exact ⟨.bl _, H, I, rfl, q⟩
theorem hk_deq {J : Jx} {n : Bool → Bool} : ∀ σ Hs Hr H (x y : TV) v w Q, HpOk Hs Hr H → RepT J.toGx x.1 Hs Hr H v x.2 → RepT J.toGx y.1 Hs Hr H w y.2 → Post J σ Hs Hr H (deqR x y n) (SV J Q) → rDEq J.toGx n v w H Q := by
  intro σ Hs Hr H x y v w Q k rx ry p
  obtain ⟨t, d⟩ := x
  obtain ⟨u, e⟩ := y
  unfold deqR at p
  split at p
  · rename_i ks xs ls ys q1 q2
    dsimp only at q1 q2
    subst q1 q2
    split at p
    · rename_i hi
      obtain ⟨a, kvs, rfl, h1, rfl, h2⟩ := rx.dicT k
      obtain ⟨b, lvs, rfl, g1, rfl, g2⟩ := ry.dicT k
      refine ⟨a, b, kvs, lvs, xs, ys, rfl, rfl, h1, g1, h2.h k, g2.h k, hi.1, hi.2, ?_⟩
      have := Post.now k p _ (.bl _)
      simpa using this
    · exact (show False from p).elim
  · exact (show False from p).elim
theorem ok_deq {X : Cx} {J : Jx} (B : Bas X J) : OpK X J .Eq kDEq := ⟨_, op_deq (G := J.toGx) (by have := B.hu; omega), hk_deq⟩
theorem ok_dne {X : Cx} {J : Jx} (B : Bas X J) : OpK X J .NotEq kDNe := ⟨_, op_dne (G := J.toGx) (by have := B.hu; omega), hk_deq⟩
/-! ### d.clear() -/
def dclrS (i : Nat) : Env → SR := fun env => ownDi i env fun _ _ => .nx (env.set i (some (.ownd [] [])))
theorem ms_dclr {X : Cx} {J : Jx} {pos : Pos} (i : Nat) {x : Str} {px apos cpos : Pos} (hN : X.N[i]? = some x := by rfl) (hv : Vis X.env.scope x := by first | exact Or.inl rfl | exact Or.inr (Or.inl rfl) | exact Or.inr (Or.inr rfl)) (hd : (x == ("__debug__" : Str)) = false := by decide)
    (hcd : (x == ("__classdict__" : Str)) = false := by decide)
    (hbase : attributeBase (.Name x px) "clear" X.env (eval (.Name x px) X.env) = eval (.Name x px) X.env := by rfl) (hline : (apos.endLine == cpos.line) = true := by rfl)
    (hs : swapsWith (.Call (.Attribute (.Name x px) "clear" apos) [] [] cpos) none pos.line X.env = pure false := by rfl) :
    MS X J (.Expr (.Call (.Attribute (.Name x px) "clear" apos) [] [] cpos) pos) (dclrS i) :=
  ⟨ps_imp (ps_expr (pe_dclear (pv i hN hv hd hcd) hbase hline) hs) fun D σ H ⟨Hse, He, env, Hs, Hr, R, p⟩ => by
    obtain ⟨ks, xs, q, kvs, e0, e1, e2, h4, g4, g5, g6, p⟩ := R.dicAt (M := D) p
    refine ⟨_, e2, ?_, q, kvs, rfl, rfl, h4, ?_⟩
    · exact .inr (.inr (.inl ⟨rfl, .inl ⟨_, h4⟩⟩))
    · exact p σ _ _ _ (R.mut1 e0 e2 e1 (fun xs z => by cases z) fp_ownd ⟨q, _, rfl, upd_same, g4, rfl, .nil⟩)⟩
end DL

namespace DL
open PySem PySem.Spec PyProof.Rows L2

theorem whileS_stop {c : Env → Res Bool} {b : Env → SR} {env : Env} (h : c env = .ok false) : whileS c b env = .nx env :=
  whileS_of 1 (by rw [whileN, h] <;> rfl) rfl
theorem whileS_step {c : Env → Res Bool} {b : Env → SR} {env e : Env} {r : SR} (h : c env = .ok true) (hb : b env = .nx e) (hr : whileS c b e = r) (nb : r.isBad = false) : whileS c b env = r := by
  obtain ⟨n, hn⟩ := whileS_get (c := c) (b := b) (env := e) (by rw [hr]; exact nb)
  refine whileS_of (n + 1) ?_ nb
  rw [whileN, h]
  simp only [Res.st_ok, if_true, hb]
  exact hn.trans hr
theorem whileS_ret {c : Env → Res Bool} {b : Env → SR} {env : Env} {r : SR} (h : c env = .ok true) (hb : b env = r) (hr : match r with | .rt _ _ => True | .exc _ _ _ _ => True | _ => False) : whileS c b env = r := by
  refine whileS_of 1 ?_ (by cases r <;> first | rfl | exact hr.elim)
  rw [whileN, h]
  simp only [Res.st_ok, if_true, hb]
  cases r <;> first | rfl | exact hr.elim
/-! ### evaluation -/
@[simp] theorem bin1_ {α : Type} (f : Env → Res TV) (k : TV → Res α) (env : Env) : bin1 f k env = (f env).bind k := (rfl)
@[simp] theorem bin2_ {α : Type} (f g : Env → Res TV) (k : TV → TV → Res α) (env : Env) : bin2 f g k env = (f env).bind fun x => (g env).bind fun y => k x y := (rfl)
@[simp] theorem cst_ (d : D) (env : Env) : cst d env = .ok (.s, d) := (rfl)
@[simp] theorem argN_ (env : Env) : argN env = .ok [] := (rfl)
@[simp] theorem argC_ (f : Env → Res TV) (F : Env → Res (List TV)) (env : Env) : argC f F env = (f env).bind fun x => (F env).bind fun xs => .ok (x :: xs) := (rfl)
@[simp] theorem thenK_ {α β : Type} (F : Env → Res α) (k : α → Res β) (env : Env) : thenK F k env = (F env).bind k := (rfl)
@[simp] theorem mvD_ (f : Env → Res EV) (env : Env) : mvD f env = (f env).bind asV := (rfl)
@[simp] theorem meD_ (f : Env → Res TV) (env : Env) : meD f env = (f env).map asE := (rfl)
@[simp] theorem tstB_ (f : Env → Res TV) (env : Env) : tstB f env = (f env).bind bOf := (rfl)
@[simp] theorem seqS_ (F K : Env → SR) (env : Env) : seqS F K env = (F env).then K := (rfl)
@[simp] theorem setS_ (i : Nat) (fe : Env → Res EV) (env : Env) : setS i fe env = (fe env).st env (putE i env) := (rfl)
@[simp] theorem retS_ (fe : Env → Res EV) (env : Env) : retS fe env = (fe env).st env fun v => .rt v env := (rfl)
@[simp] theorem exprS_ (fe : Env → Res EV) (env : Env) : exprS fe env = (fe env).st env (dropE env) := (rfl)
@[simp] theorem retN_ (env : Env) : retN env = .rt (.val .s .non) env := (rfl)
@[simp] theorem ifS_ (c : Env → Res Bool) (F G : Env → SR) (env : Env) : ifS c F G env = (c env).st env fun b => if b = true then F env else G env := (rfl)
@[simp] theorem asgS_ (f : Env → Res TV) (g : TV → Env → Option Env) (env : Env) : asgS f g env = (f env).st env fun x => match g x env with | some e => .nx e | none => .bad := (rfl)
@[simp] theorem frzD_ (i : Nat) (F : Env → SR) (env : Env) : frzD i F env = F (frzE i env) := (rfl)
@[simp] theorem forS_ (it : Env → Res TVs) (g : TV → Env → Option Env) (b : Env → SR) (env : Env) : forS it g b env = (it env).st env fun x => forD g b x.1 x.2 env := (rfl)
@[simp] theorem lcS_ (it : Env → Res TVs) (own : List Nat) (g : TV → Env → Option Env) (c : Env → Res Bool) (el : Env → Res TV) (env : Env) : lcS it own g c el env = (it env).bind (lcK g c el (wipeE env own)) := (rfl)
@[simp] theorem andB_ (f g : Env → Res Bool) (env : Env) : andB f g env = (f env).bind fun b => if b = true then g env else .ok false := (rfl)
@[simp] theorem orB_ (f g : Env → Res Bool) (env : Env) : orB f g env = (f env).bind fun b => if b = true then .ok true else g env := (rfl)
@[simp] theorem notB_ (f : Env → Res Bool) (env : Env) : notB f env = (f env).bind fun b => .ok (!b) := (rfl)
@[simp] theorem andV_ (f g : Env → Res TV) (env : Env) : andV f g env = (f env).bind fun x => match x.2 with | .bl true => g env | .bl false => okb false | _ => .bad := (rfl)
@[simp] theorem orV_ (f g : Env → Res TV) (env : Env) : orV f g env = (f env).bind fun x => match x.2 with | .bl true => okb true | .bl false => g env | _ => .bad := (rfl)
@[simp] theorem ifV_ {α : Type} (c : Env → Res Bool) (f g : Env → Res α) (env : Env) : ifV c f g env = (c env).bind fun b => if b = true then f env else g env := (rfl)
@[simp] theorem chain2_ (f g h : Env → Res TV) (k k' : TV → TV → Res TV) (env : Env) : chain2 f g h k k' env = (f env).bind fun x => (g env).bind fun y => (k x y).bind fun z => match z.2 with
  | .bl true => (h env).bind fun w => k' y w
  | .bl false => okb false
  | _ => .bad := rfl
@[simp] theorem slice_ (f : Env → Res TV) (l u : Env → Res (Option Int)) (env : Env) : slice f l u env = (f env).bind fun x => (l env).bind fun lo => (u env).bind fun hi => kSl x lo hi := (rfl)
@[simp] theorem partN_ (env : Env) : partN env = .ok none := (rfl)
@[simp] theorem yes_ (env : Env) : yes env = .ok true := (rfl)
@[simp] theorem dict0_ (env : Env) : dict0 env = .ok (.ownd [] []) := (rfl)
@[simp] theorem parS_ (i j : Nat) (f f2 : Env → Res TV) (env : Env) : parS i j f f2 env = (f env).st env fun x => (f2 env).st env fun y => match toSlot (.val x.1 x.2), toSlot (.val y.1 y.2) with
  | some a, some b => .nx ((env.set i (some a)).set j (some b))
  | _, _ => .bad := rfl
theorem getV_def (i : Nat) (env : Env) : getV i env = match env[i]? with
  | some (some (.val t d)) => .ok (t, d)
  | some (some (.own xs)) => .ok (.o, .lst xs)
  | some (some (.ownd ks xs)) => .ok (.o, .dic ks xs)
  | some (some (.ownt t)) => .ok (.n t, t.d)
  | _ => .bad := rfl
/-- by places -/
@[simp] theorem getV_0n (t : OD) (r : Env) : getV 0 (some (.ownt t) :: r) = .ok (.n t, t.d) := (rfl)
@[simp] theorem getV_0v (t : Tg) (d : D) (r : Env) : getV 0 (some (.val t d) :: r) = .ok (t, d) := (rfl)
@[simp] theorem getV_0o (xs : List D) (r : Env) : getV 0 (some (.own xs) :: r) = .ok (.o, .lst xs) := (rfl)
@[simp] theorem getV_0d (ks : List Key) (xs : List D) (r : Env) : getV 0 (some (.ownd ks xs) :: r) = .ok (.o, .dic ks xs) := (rfl)
@[simp] theorem getV_s (i : Nat) (x : Option EV) (r : Env) : getV (i + 1) (x :: r) = getV i r := by
  unfold getV
  rw [List.getElem?_cons_succ]
theorem retV_def (i : Nat) (env : Env) : retV i env = match env[i]? with
  | some (some (.val t d)) => .rt (.val t d) env
  | some (some (.own xs)) => .rt (.own xs) env
  | some (some (.ownd ks xs)) => .rt (.ownd ks xs) env
  | some (some (.ownt t)) => .rt (.ownt t) env
  | _ => .bad := rfl
/-- the value in a slot -/
def slV : Nat → Env → Option EV
  | 0, x :: _ => x
  | i + 1, _ :: r => slV i r
  | _, [] => none
@[simp] theorem slV_0 (x : Option EV) (r : Env) : slV 0 (x :: r) = x := (rfl)
@[simp] theorem slV_s (i : Nat) (x : Option EV) (r : Env) : slV (i + 1) (x :: r) = slV i r := (rfl)
theorem slV_get : ∀ (i : Nat) (env : Env) (e : EV), slV i env = some e ↔ env[i]? = some (some e)
  | 0, [], e => by simp [slV]
  | i + 1, [], e => by simp [slV]
  | 0, x :: r, e => by simp
  | i + 1, x :: r, e => by simp [slV_get i r e]
@[simp] theorem retV_ (i : Nat) (env : Env) : retV i env = match slV i env with
  | some (.exn _ _ _) => .bad
  | some e => .rt e env
  | none => .bad := by
  rw [retV_def]
  cases h : slV i env with
  | none =>
    split
    · rename_i q; rw [(slV_get i env _).mpr q] at h; cases h
    · rename_i q; rw [(slV_get i env _).mpr q] at h; cases h
    · rename_i q; rw [(slV_get i env _).mpr q] at h; cases h
    · rename_i q; rw [(slV_get i env _).mpr q] at h; cases h
    · rfl
  | some e => rw [(slV_get i env e).mp h]; cases e <;> rfl
@[simp] theorem asV_v (t : Tg) (d : D) : asV (.val t d) = .ok (t, d) := (rfl)
@[simp] theorem asV_o (xs : List D) : asV (.own xs) = .ok (.s, .lst xs) := (rfl)
@[simp] theorem asV_d (ks : List Key) (xs : List D) : asV (.ownd ks xs) = .ok (.s, .dic ks xs) := (rfl)
@[simp] theorem asV_n (t : OD) : asV (.ownt t) = .ok (.s, t.d) := (rfl)
@[simp] theorem asE_ (x : TV) : asE x = .val x.1 x.2 := (rfl)
@[simp] theorem bOf_ (t : Tg) (b : Bool) : bOf (t, .bl b) = .ok b := (rfl)
@[simp] theorem oki_ (i : Int) : oki i = .ok (.s, .int i) := (rfl)
@[simp] theorem okb_ (b : Bool) : okb b = .ok (.s, .bl b) := (rfl)
@[simp] theorem asI2_ {α : Type} (k : Int → Int → Res α) (t u : Tg) (i j : Int) : asI2 k (t, .int i) (u, .int j) = k i j := (rfl)
@[simp] theorem kSub_ (i j : Int) : kSub i j = .ok (.s, .int (i - j)) := (rfl)
@[simp] theorem kLt_ (i j : Int) : kLt i j = .ok (.s, .bl (decide (i < j))) := (rfl)
@[simp] theorem kLe_ (i j : Int) : kLe i j = .ok (.s, .bl (decide (i ≤ j))) := (rfl)
@[simp] theorem kGt_ (i j : Int) : kGt i j = .ok (.s, .bl (decide (j < i))) := (rfl)
@[simp] theorem kGe_ (i j : Int) : kGe i j = .ok (.s, .bl (decide (j ≤ i))) := (rfl)
theorem kFdiv_ {i j : Int} (h : 0 < j) (h2 : Sm j) : kFdiv i j = .ok (.s, .int (i / j)) := by
  unfold kFdiv
  rw [if_pos ⟨by omega, h2⟩, Int.fdiv_eq_ediv_of_nonneg i (by omega)] <;> rfl
theorem kMod_ {i j : Int} (h : 0 < j) : kMod i j = .ok (.s, .int (i % j)) := by
  unfold kMod
  rw [if_pos (by omega), Int.fmod_eq_emod_of_nonneg i (by omega)] <;> rfl
@[simp] theorem kAdd_i (t u : Tg) (i j : Int) : kAdd (t, .int i) (u, .int j) = .ok (.val .s (.int (i + j))) := (rfl)
theorem kMul_i {t u : Tg} {i j : Int} (h : Sm i) (h2 : Sm j) : kMul (t, .int i) (u, .int j) = .ok (.val .s (.int (i * j))) := by
  unfold kMul
  dsimp only
  rw [if_pos ⟨h, h2⟩]
@[simp] theorem imm_int (i : Int) : imm (.int i) = true := by simp [imm]
@[simp] theorem imm_bl (i : Bool) : imm (.bl i) = true := by simp [imm]
@[simp] theorem imm_non : imm .non = true := by simp [imm]
@[simp] theorem imm_str (i : Str) : imm (.str i) = true := by simp [imm]
@[simp] theorem imm_lst (xs : List D) : imm (.lst xs) = false := by simp [imm]
@[simp] theorem imm_dic (ks : List Key) (xs : List D) : imm (.dic ks xs) = false := by simp [imm]
@[simp] theorem imm_obj (c : Str) (ks : List Str) (xs : List D) : imm (.obj c ks xs) = false := by simp [imm]
@[simp] theorem imm_scr (xs : List Int) : imm (.scr xs) = false := by simp [imm]
@[simp] theorem imm_tup (xs : List D) : imm (.tup xs) = imms xs := by simp [imm]
@[simp] theorem imms_nil : imms [] = true := by simp [imms]
@[simp] theorem imms_cons (d : D) (r : List D) : imms (d :: r) = (imm d && imms r) := by simp [imms]
@[simp] theorem imms_ints : ∀ ns : List Int, imms (ns.map D.int) = true
  | [] => by simp
  | n :: r => by rw [List.map_cons, imms_cons, imms_ints r] <;> simp
theorem imms_append : ∀ (a b : List D), imms (a ++ b) = (imms a && imms b)
  | [], b => by simp
  | d :: r, b => by rw [List.cons_append, imms_cons, imms_cons, imms_append r b, Bool.and_assoc]
theorem imms_all (xs : List D) : imms xs = xs.all imm := by
  induction xs with
  | nil => simp
  | cons d r ih => simp [ih]
theorem toSlot_v (t : Tg) (d : D) : toSlot (.val t d) = if imm d = true then some (.val .s d) else match t with
    | .s => some (.val .s d)
    | .r => some (.val .r d)
    | _ => none := rfl
@[simp] theorem toSlot_s (d : D) : toSlot (.val .s d) = some (.val .s d) := by rw [toSlot_v]; split <;> rfl
@[simp] theorem toSlot_r (d : D) : toSlot (.val .r d) = some (.val (if imm d = true then .s else .r) d) := by rw [toSlot_v]; split <;> rfl
@[simp] theorem toSlot_h (d : D) (h : imm d = true) : toSlot (.val .h d) = some (.val .s d) := by rw [toSlot_v, if_pos h]
@[simp] theorem toSlot_o (xs : List D) : toSlot (.own xs) = some (.own xs) := (rfl)
@[simp] theorem toSlot_n (t : OD) : toSlot (.ownt t) = some (.ownt t) := (rfl)
@[simp] theorem toSlot_d (ks : List Key) (xs : List D) : toSlot (.ownd ks xs) = some (.ownd ks xs) := (rfl)
theorem putE_def (i : Nat) (env : Env) (v : EV) : putE i env v = match toSlot v with
  | some e => .nx (env.set i (some e))
  | none => .bad := rfl
@[simp] theorem putE_s (i : Nat) (env : Env) (d : D) : putE i env (.val .s d) = .nx (env.set i (some (.val .s d))) := by rw [putE_def, toSlot_s]
@[simp] theorem putE_r (i : Nat) (env : Env) (d : D) : putE i env (.val .r d) = .nx (env.set i (some (.val (if imm d = true then .s else .r) d))) := by rw [putE_def, toSlot_r]
@[simp] theorem putE_h (i : Nat) (env : Env) (d : D) (h : imm d = true) : putE i env (.val .h d) = .nx (env.set i (some (.val .s d))) := by rw [putE_def, toSlot_h d h]
@[simp] theorem putE_i (i : Nat) (env : Env) (t : Tg) (n : Int) : putE i env (.val t (.int n)) = .nx (env.set i (some (.val .s (.int n)))) := by cases t <;> simp [putE_def, toSlot_v]
@[simp] theorem putE_b (i : Nat) (env : Env) (t : Tg) (n : Bool) : putE i env (.val t (.bl n)) = .nx (env.set i (some (.val .s (.bl n)))) := by cases t <;> simp [putE_def, toSlot_v]
@[simp] theorem putE_own (i : Nat) (env : Env) (xs : List D) : putE i env (.own xs) = .nx (env.set i (some (.own xs))) := (rfl)
@[simp] theorem putE_ownd (i : Nat) (env : Env) (ks : List Key) (xs : List D) : putE i env (.ownd ks xs) = .nx (env.set i (some (.ownd ks xs))) := (rfl)
@[simp] theorem putE_ownt (i : Nat) (env : Env) (t : OD) : putE i env (.ownt t) = .nx (env.set i (some (.ownt t))) := (rfl)
theorem gdN_def (i : Nat) (x : TV) (env : Env) : gdN i x env = match toSlot (.val x.1 x.2) with
  | some e => some (env.set i (some e))
  | none => none := rfl
@[simp] theorem gdN_s (i : Nat) (d : D) (env : Env) : gdN i (.s, d) env = some (env.set i (some (.val .s d))) := by simp [gdN_def]
@[simp] theorem gdN_r (i : Nat) (d : D) (env : Env) : gdN i (.r, d) env = some (env.set i (some (.val (if imm d = true then .s else .r) d))) := by simp [gdN_def]
@[simp] theorem gdN_i (i : Nat) (t : Tg) (n : Int) (env : Env) : gdN i (t, .int n) env = some (env.set i (some (.val .s (.int n)))) := by cases t <;> simp [gdN_def, toSlot_v]
@[simp] theorem gdNil_ (env : Env) : gdNil [] env = some env := (rfl)
@[simp] theorem gdC_ (g : TV → Env → Option Env) (gs : List TV → Env → Option Env) (x : TV) (r : List TV) (env : Env) : gdC g gs (x :: r) env = match g x env with
    | some env' => gs r env'
    | none => none := rfl
@[simp] theorem gdT_t (n : Nat) (gs : List TV → Env → Option Env) (t : Tg) (ds : List D) (env : Env) : gdT n gs (t, .tup ds) env = if ds.length = n then gs (ds.map fun d => (itT t, d)) env else none := (rfl)
@[simp] theorem gdT_l (n : Nat) (gs : List TV → Env → Option Env) (t : Tg) (ds : List D) (env : Env) : gdT n gs (t, .lst ds) env = if ds.length = n then gs (ds.map fun d => (itT t, d)) env else none := (rfl)
@[simp] theorem itT_s : itT .s = .s := (rfl)
@[simp] theorem itT_r : itT .r = .r := (rfl)
@[simp] theorem itT_h : itT .h = .h := (rfl)
@[simp] theorem itT_o : itT .o = .s := (rfl)
@[simp] theorem itT_n (t : OD) : itT (.n t) = .h := (rfl)
theorem toArg_def (x : TV) : toArg x = if imm x.2 = true then .val .s x.2 else match x.1 with
  | .s => .val .s x.2
  | _ => .val .r x.2 := rfl
@[simp] theorem toArg_s (d : D) : toArg (.s, d) = .val .s d := by rw [toArg_def]; split <;> rfl
@[simp] theorem toArg_i (t : Tg) (n : Int) : toArg (t, .int n) = .val .s (.int n) := by simp [toArg_def]
@[simp] theorem toArg_r (d : D) : toArg (.r, d) = .val (if imm d = true then .s else .r) d := by rw [toArg_def]; dsimp only; split <;> rfl
@[simp] theorem toArg_h (d : D) : toArg (.h, d) = .val (if imm d = true then .s else .r) d := by rw [toArg_def]; dsimp only; split <;> rfl
@[simp] theorem toArg_o (d : D) : toArg (.o, d) = .val (if imm d = true then .s else .r) d := by rw [toArg_def]; dsimp only; split <;> rfl
@[simp] theorem fromRet_s (d : D) : fromRet (.val .s d) = .val .s d := by
  show (if imm d = true then _ else _) = _
  split <;> rfl
@[simp] theorem fromRet_o (xs : List D) : fromRet (.own xs) = .own xs := (rfl)
@[simp] theorem fromRet_d (ks : List Key) (xs : List D) : fromRet (.ownd ks xs) = .ownd ks xs := (rfl)
@[simp] theorem toArg_n (t : OD) (d : D) : toArg (.n t, d) = .val (if imm d = true then .s else .r) d := by rw [toArg_def]; dsimp only; split <;> rfl
@[simp] theorem fromRet_t (t : OD) : fromRet (.ownt t) = .ownt t := (rfl)
theorem fromRet_v (t : Tg) (d : D) (h : imm d = true) : fromRet (.val t d) = .val .s d := if_pos h
@[simp] theorem fromRet_i (t : Tg) (d : Int) : fromRet (.val t (.int d)) = .val .s (.int d) := fromRet_v _ _ (by simp)
@[simp] theorem fromRet_b (t : Tg) (d : Bool) : fromRet (.val t (.bl d)) = .val .s (.bl d) := fromRet_v _ _ (by simp)
@[simp] theorem fromRet_n (t : Tg) : fromRet (.val t .non) = .val .s .non := fromRet_v _ _ (by simp)
@[simp] theorem callD_ (F : List EV → Res EV) (xs : List TV) : callD F xs = (F (xs.map toArg)).map fromRet := (rfl)
@[simp] theorem outD_rt (e : EV) (env : Env) : outD (.rt e env) = .ok e := (rfl)
@[simp] theorem outD_nx (e : Env) : outD (.nx e) = .ok (.val .s .non) := (rfl)
@[simp] theorem outD_exc (c : Str) (ks : List Str) (vs : List D) (env : Env) : outD (.exc c ks vs env) = .exc c ks vs := (rfl)
@[simp] theorem runD_ (n : Nat) (B : Env → SR) (args : List EV) : runD n B args = outD (B (args.map some ++ List.replicate (n - args.length) none)) := (rfl)
@[simp] theorem kNeg_ (t : Tg) (i : Int) : kNeg (t, .int i) = .ok (.s, .int (-i)) := (rfl)
@[simp] theorem kNotB_ (t : Tg) (i : Bool) : kNotB (t, .bl i) = .ok (.s, .bl (!i)) := (rfl)
@[simp] theorem kAbs_ (t : Tg) (i : Int) : kAbs [(t, .int i)] = .ok (.s, .int (i.natAbs : Nat)) := by
  have : (if i < 0 then -i else i) = ((i.natAbs : Nat) : Int) := by split <;> omega
  show oki _ = _
  rw [this] <;> rfl
@[simp] theorem kLen_l (t : Tg) (xs : List D) : kLen [(t, .lst xs)] = .ok (.s, .int xs.length) := (rfl)
@[simp] theorem kLen_t (t : Tg) (xs : List D) : kLen [(t, .tup xs)] = .ok (.s, .int xs.length) := (rfl)
@[simp] theorem kLen_s (t : Tg) (xs : List Int) : kLen [(t, .scr xs)] = .ok (.s, .int xs.length) := (rfl)
@[simp] theorem kInt_i (t : Tg) (i : Int) : kInt [(t, .int i)] = .ok (.s, .int i) := (rfl)
@[simp] theorem kInt_b (t : Tg) (i : Bool) : kInt [(t, .bl i)] = .ok (.s, .int (if i then 1 else 0)) := (rfl)
@[simp] theorem truK_b (t : Tg) (b : Bool) : truK (t, .bl b) = .ok b := (rfl)
@[simp] theorem truK_i (t : Tg) (b : Int) : truK (t, .int b) = .ok (b != 0) := (rfl)
@[simp] theorem kIx_l (t u : Tg) (xs : List D) (i : Int) : kIx (t, .lst xs) (u, .int i) = match atI xs i with | some d => .ok (itT t, d) | none => .bad := (rfl)
@[simp] theorem kIx_t (t u : Tg) (xs : List D) (i : Int) : kIx (t, .tup xs) (u, .int i) = match atI xs i with | some d => .ok (itT t, d) | none => .bad := (rfl)
@[simp] theorem kIx_s (t u : Tg) (xs : List Int) (i : Int) : kIx (t, .scr xs) (u, .int i) = match atI xs i with | some d => .ok (.s, .int d) | none => .bad := (rfl)
@[simp] theorem kSeq_sl (xs : List D) : kSeq (.s, .lst xs) = .ok (.s, xs) := (rfl)
@[simp] theorem kSeq_rl (xs : List D) : kSeq (.r, .lst xs) = .ok (.r, xs) := (rfl)
@[simp] theorem kSeq_st (xs : List D) : kSeq (.s, .tup xs) = .ok (.s, xs) := (rfl)
@[simp] theorem kSeq_rt (xs : List D) : kSeq (.r, .tup xs) = .ok (.r, xs) := (rfl)
@[simp] theorem kSeqO_o (xs : List D) : kSeqO (.o, .lst xs) = .ok (.s, xs) := (rfl)
@[simp] theorem kSeqO_s (d : D) : kSeqO (.s, d) = kSeq (.s, d) := (rfl)
@[simp] theorem kSeqO_r (d : D) : kSeqO (.r, d) = kSeq (.r, d) := (rfl)
@[simp] theorem kSeqO_h (d : D) : kSeqO (.h, d) = kSeq (.h, d) := (rfl)
@[simp] theorem shs_map : ∀ xs : List D, shs (xs.map OD.sh) = true
  | [] => (rfl)
  | x :: r => shs_map r
@[simp] theorem kSeqO_n (xs ys : List D) : kSeqO (.n (.lst (xs.map OD.sh)), .lst ys) = .ok (.s, ys) := if_pos (shs_map xs)
theorem kRng1_ (t : Tg) (j : Int) : kRng1 [(t, .int j)] = if -(2 ^ 60) ≤ j ∧ j < 2 ^ 60 then .ok (.s, rngD 0 j.toNat) else .bad := (rfl)
@[simp] theorem isNonD_ : isNonD .non = true := (rfl)
@[simp] theorem isNonD_i (i : Int) : isNonD (.int i) = false := (rfl)
@[simp] theorem kIsN2_ (x : TV) (t : Tg) : kIsN2 x (t, .non) = .ok (.s, .bl (isNonD x.2)) := (rfl)
@[simp] theorem kNotN2_ (x : TV) (t : Tg) : kNotN2 x (t, .non) = .ok (.s, .bl (!isNonD x.2)) := (rfl)
@[simp] theorem shV_s (d : D) : shV (.s, d) = true := (rfl)
@[simp] theorem shV_i (t : Tg) (d : Int) : shV (t, .int d) = true := by cases t <;> simp [shV]
theorem shV_imm (t : Tg) (d : D) (h : imm d = true) : shV (t, d) = true := by cases t <;> simp [shV, h]
theorem tagA_s {xs : List TV} (h : xs.all shV = true) : tagA xs = .s := if_pos h
@[simp] theorem forD_nil (g : TV → Env → Option Env) (b : Env → SR) (t : Tg) (env : Env) : forD g b t [] env = .nx env := (rfl)
@[simp] theorem ownL_0 (xs : List D) (r : Env) (k : List D → SR) : ownL 0 (some (.own xs) :: r) k = k xs := (rfl)
theorem ownL_s (i : Nat) (x : Option EV) (r : Env) (k : List D → SR) : ownL (i + 1) (x :: r) k = ownL i r k := by
  unfold ownL
  rw [List.getElem?_cons_succ]
/-! booleans and numbers compared -/
theorem deq_ii (i j : Int) : deq (.int i) (.int j) = decide (i = j) := by
  show (i == j) = _
  exact Bool.beq_eq_decide_eq i j
@[simp] theorem kEq_ii (t u : Tg) (i j : Int) : kEq (t, .int i) (u, .int j) = .ok (.s, .bl (decide (i = j))) := by
  unfold kEq
  rw [if_pos ⟨by simp [dOk], by simp [dOk]⟩, deq_ii] <;> rfl
@[simp] theorem kNe_ii (t u : Tg) (i j : Int) : kNe (t, .int i) (u, .int j) = .ok (.s, .bl (!decide (i = j))) := by
  unfold kNe
  rw [if_pos ⟨by simp [dOk], by simp [dOk]⟩, deq_ii] <;> rfl
theorem deq_bb (i j : Bool) : deq (.bl i) (.bl j) = (i == j) := rfl
@[simp] theorem kEq_bb (t u : Tg) (i j : Bool) : kEq (t, .bl i) (u, .bl j) = .ok (.s, .bl (i == j)) := by
  unfold kEq
  rw [if_pos ⟨by simp [dOk], by simp [dOk]⟩, deq_bb] <;> rfl
theorem kIsi_def (n : String) (t : Tg) (d : D) : kIsi n (t, d) = match isiT n d with | some b => okb b | none => .bad := rfl
@[simp] theorem isi_ii (t : Tg) (i : Int) : kIsi "int" (t, .int i) = .ok (.s, .bl true) := by
  rw [kIsi_def, show isiT "int" (.int i) = some true from by show kitB "int" "int" = _; decide +kernel] <;> rfl
@[simp] theorem isi_ib (t : Tg) (i : Bool) : kIsi "int" (t, .bl i) = .ok (.s, .bl true) := by
  rw [kIsi_def, show isiT "int" (.bl i) = some true from by show kitB "bool" "int" = _; decide +kernel] <;> rfl
@[simp] theorem isi_in (t : Tg) : kIsi "int" (t, .non) = .ok (.s, .bl false) := by
  rw [kIsi_def, show isiT "int" .non = some false from by show kitB "NoneType" "int" = _; decide +kernel] <;> rfl
@[simp] theorem isi_is (t : Tg) (i : Str) : kIsi "int" (t, .str i) = .ok (.s, .bl false) := by
  rw [kIsi_def, show isiT "int" (.str i) = some false from by show kitB "str" "int" = _; decide +kernel] <;> rfl
@[simp] theorem isi_it (t : Tg) (i : List D) : kIsi "int" (t, .tup i) = .ok (.s, .bl false) := by
  rw [kIsi_def, show isiT "int" (.tup i) = some false from by show kitB "tuple" "int" = _; decide +kernel] <;> rfl
@[simp] theorem isi_il (t : Tg) (i : List D) : kIsi "int" (t, .lst i) = .ok (.s, .bl false) := by
  rw [kIsi_def, show isiT "int" (.lst i) = some false from by show kitB "list" "int" = _; decide +kernel] <;> rfl
@[simp] theorem isi_id (t : Tg) (k : List Key) (i : List D) : kIsi "int" (t, .dic k i) = .ok (.s, .bl false) := by
  rw [kIsi_def, show isiT "int" (.dic k i) = some false from by show kitB "dict" "int" = _; decide +kernel] <;> rfl
@[simp] theorem isi_bi (t : Tg) (i : Int) : kIsi "bool" (t, .int i) = .ok (.s, .bl false) := by
  rw [kIsi_def, show isiT "bool" (.int i) = some false from by show kitB "int" "bool" = _; decide +kernel] <;> rfl
@[simp] theorem isi_bb (t : Tg) (i : Bool) : kIsi "bool" (t, .bl i) = .ok (.s, .bl true) := by
  rw [kIsi_def, show isiT "bool" (.bl i) = some true from by show kitB "bool" "bool" = _; decide +kernel] <;> rfl
/-! ### objects -/
@[simp] theorem kidT_s (i : Nat) (d : D) : kidT .s i d = (.s, d) := (rfl)
@[simp] theorem kidT_r (i : Nat) (d : D) : kidT .r i d = (.r, d) := (rfl)
@[simp] theorem kidT_h (i : Nat) (d : D) : kidT .h i d = (.h, d) := (rfl)
@[simp] theorem kidT_o (i : Nat) (d : D) : kidT .o i d = (.s, d) := (rfl)
theorem kidT_n {c : Str} {ks : List Str} {ts : List OD} {i : Nat} {k : OD} (h : ts[i]? = some k) (d : D) : kidT (.n (.obj c ks ts)) i d = (k.tg, k.d) := by
  show (match ts[i]? with | some k => (k.tg, k.d) | none => (.h, d)) = _
  rw [h]
@[simp] theorem kidT_n0 (c : Str) (ks : List Str) (k : OD) (ts : List OD) (d : D) : kidT (.n (.obj c ks (k :: ts))) 0 d = (k.tg, k.d) := (rfl)
@[simp] theorem kidT_n1 (c : Str) (ks : List Str) (a k : OD) (ts : List OD) (d : D) : kidT (.n (.obj c ks (a :: k :: ts))) 1 d = (k.tg, k.d) := (rfl)
@[simp] theorem kidT_n2 (c : Str) (ks : List Str) (a b k : OD) (ts : List OD) (d : D) : kidT (.n (.obj c ks (a :: b :: k :: ts))) 2 d = (k.tg, k.d) := (rfl)
@[simp] theorem kidT_n3 (c : Str) (ks : List Str) (a b e k : OD) (ts : List OD) (d : D) : kidT (.n (.obj c ks (a :: b :: e :: k :: ts))) 3 d = (k.tg, k.d) := (rfl)
@[simp] theorem tg_sh (d : D) : OD.tg (.sh d) = .s := (rfl)
@[simp] theorem d_sh (d : D) : OD.d (.sh d) = d := by simp [OD.d]
@[simp] theorem d_lst (ts : List OD) : OD.d (.lst ts) = .lst (OD.ds ts) := by simp [OD.d]
@[simp] theorem d_tup (ts : List OD) : OD.d (.tup ts) = .tup (OD.ds ts) := by simp [OD.d]
@[simp] theorem d_obj (c : Str) (ks : List Str) (ts : List OD) : OD.d (.obj c ks ts) = .obj c ks (OD.ds ts) := by simp [OD.d]
@[simp] theorem d_dic (ks : List Key) (ts : List OD) : OD.d (.dic ks ts) = .dic ks (OD.ds ts) := by simp [OD.d]
@[simp] theorem ds_nil : OD.ds [] = [] := by simp [OD.ds]
@[simp] theorem ds_cons (k : OD) (r : List OD) : OD.ds (k :: r) = k.d :: OD.ds r := by simp [OD.ds]
@[simp] theorem ds_sh (xs : List D) : OD.ds (xs.map .sh) = xs := by
  induction xs with
  | nil => simp
  | cons d r ih => simp [ih]
@[simp] theorem tg_lst (ts : List OD) : OD.tg (.lst ts) = .n (.lst ts) := (rfl)
@[simp] theorem evOD_s (d : D) : evOD (.val .s d) = some (.sh d) := (rfl)
theorem evOD_imm (t : Tg) (d : D) (h : imm d = true) : evOD (.val t d) = some (.sh d) := by
  show (if shV (t, d) = true then some (OD.sh d) else none) = _
  rw [if_pos (shV_imm t d h)]
@[simp] theorem evOD_i (t : Tg) (i : Int) : evOD (.val t (.int i)) = some (.sh (.int i)) := evOD_imm t _ (by simp)
@[simp] theorem evOD_own (xs : List D) : evOD (.own xs) = some (.lst (xs.map .sh)) := (rfl)
@[simp] theorem evOD_ownd (ks : List Key) (xs : List D) : evOD (.ownd ks xs) = some (.dic ks (xs.map .sh)) := (rfl)
@[simp] theorem evOD_ownt (t : OD) : evOD (.ownt t) = some t := (rfl)
@[simp] theorem setFS_ (i : Nat) (cs : List Str) (f : Str) (fe : Env → Res EV) (env : Env) : setFS i cs f fe env = (fe env).st env (setFE i cs f env) := (rfl)
@[simp] theorem methS_ (m : Str) (tbl : Tbl) (f : Env → Res TV) (F : Env → Res (List TV)) (env : Env) : methS m tbl f F env = (f env).bind fun x => match pickM m tbl x with
  | some G => (F env).bind fun xs => callD G (x :: xs)
  | none => .bad := (rfl)
@[simp] theorem makeD_ (c : Str) (F : List EV → InitR) (xs : List TV) : makeD c F xs = (F (xs.map toArg)).map fun a => .ownt (.obj c a.1 a.2) := (rfl)
theorem runI_ (c : Str) (n : Nat) (FB : Env → SR) (args : List EV) : runI c n FB args = outI c (FB (some (.ownt (.obj c [] [])) :: args.map some ++ List.replicate (n - (args.length + 1)) none)) := (rfl)
@[simp] theorem outI_nx (c : Str) (ks : List Str) (ts : List OD) (r : Env) : outI c (.nx (some (.ownt (.obj c ks ts)) :: r)) = .ok (ks, ts) := by
  unfold outI
  dsimp only [List.getElem?_cons_zero]
  rw [if_pos rfl]
@[simp] theorem outI_exc (c' c : Str) (ks : List Str) (vs : List D) (env : Env) : outI c' (.exc c ks vs env) = .exc c ks vs := (rfl)
/-! ### more -/
@[simp] theorem kIsO_o (subs : List Str) (t : Tg) (c : Str) (ks : List Str) (xs : List D) : kIsO subs (t, .obj c ks xs) = .ok (.s, .bl (subs.contains c)) := (rfl)
@[simp] theorem kIsO_i (subs : List Str) (t : Tg) (i : Int) : kIsO subs (t, .int i) = .ok (.s, .bl false) := (rfl)
@[simp] theorem kIsO_n (subs : List Str) (t : Tg) : kIsO subs (t, .non) = .ok (.s, .bl false) := (rfl)
@[simp] theorem kIsO_b (subs : List Str) (t : Tg) (i : Bool) : kIsO subs (t, .bl i) = .ok (.s, .bl false) := (rfl)
@[simp] theorem kIsO_s (subs : List Str) (t : Tg) (i : Str) : kIsO subs (t, .str i) = .ok (.s, .bl false) := (rfl)
@[simp] theorem kIsO_t (subs : List Str) (t : Tg) (i : List D) : kIsO subs (t, .tup i) = .ok (.s, .bl false) := (rfl)
@[simp] theorem kIsO_l (subs : List Str) (t : Tg) (i : List D) : kIsO subs (t, .lst i) = .ok (.s, .bl false) := (rfl)
@[simp] theorem callE_ (dfl : List D) (F : List EV → Res EV) (xs : List TV) : callE dfl F xs = callD F (xs ++ dfl.map fun d => (Tg.s, d)) := (rfl)
@[simp] theorem popS_ (i : Nat) (env : Env) : popS i env = ownL i env fun xs => match xs[xs.length - 1]? with
  | some _ => .nx (env.set i (some (.own xs.dropLast)))
  | none => .bad := (rfl)
@[simp] theorem popA_ (i j : Nat) (env : Env) : popA i j env = ownL i env fun xs => match xs[xs.length - 1]? with
  | some d => .nx ((env.set i (some (.own xs.dropLast))).set j (some (.val .s d)))
  | none => .bad := (rfl)
@[simp] theorem popKA_ (j z : Nat) (fk : Env → Res TV) (env : Env) : popKA j z fk env = ownL j env fun _ => (fk env).st env fun n => ownL j env fun ys => match n.2 with
  | .int n => if 0 ≤ n ∧ n < 2 ^ 60 then match ys[n.toNat]? with | some d => .nx ((env.set j (some (.own (ys.eraseIdx n.toNat)))).set z (some (.val .s d))) | none => .bad else .bad
  | _ => .bad := (rfl)
@[simp] theorem appPopS_ (i j : Nat) (fk : Env → Res TV) (env : Env) : appPopS i j fk env = ownL i env fun _ => ownL j env fun _ => (fk env).st env fun n => ownL j env fun ys => match n.2 with
  | .int n => if 0 ≤ n ∧ n < 2 ^ 60 then match ys[n.toNat]? with | some d => ownL i (env.set j (some (.own (ys.eraseIdx n.toNat)))) fun xs => if xs.length < 16777216 then .nx ((env.set j (some (.own (ys.eraseIdx n.toNat)))).set i (some (.own (xs ++ [d])))) else .bad | none => .bad else .bad
  | _ => .bad := (rfl)
@[simp] theorem insS_ (i : Nat) (fk f : Env → Res TV) (env : Env) : insS i fk f env = ownL i env fun _ => (fk env).st env fun k => (f env).st env fun x => ownL i env fun xs => match k.2 with
  | .int n => if shV x = true ∧ xs.length < 16777216 ∧ 0 ≤ n ∧ n < 2 ^ 60 then .nx (env.set i (some (.own (xs.take n.toNat ++ [x.2] ++ xs.drop n.toNat)))) else .bad
  | _ => .bad := (rfl)
@[simp] theorem dsetS_ (i : Nat) (f fk : Env → Res TV) (env : Env) : dsetS i f fk env = ownDi i env fun _ _ => (f env).st env fun x => (fk env).st env fun k => ownDi i env fun ks xs => match keyOf k.2 with
  | some n => if shV x = true ∧ ks.length < 16777216 then .nx (env.set i (some (.ownd (putDk ks n) (putDx ks xs n x.2)))) else .bad
  | none => .bad := (rfl)
@[simp] theorem ownDi_0 (ks : List Key) (xs : List D) (r : Env) (k : List Key → List D → SR) : ownDi 0 (some (.ownd ks xs) :: r) k = k ks xs := (rfl)
@[simp] theorem ownDi_s (i : Nat) (x : Option EV) (r : Env) (k : List Key → List D → SR) : ownDi (i + 1) (x :: r) k = ownDi i r k := by
  unfold ownDi
  rw [List.getElem?_cons_succ]
@[simp] theorem keyOf_i (i : Int) : keyOf (.int i) = some (.inl i) := (rfl)
@[simp] theorem keyOf_s (i : Str) : keyOf (.str i) = some (.inr i) := (rfl)
@[simp] theorem dgetS1_ (f f2 : Env → Res TV) (env : Env) : dgetS1 f f2 env = (f env).bind fun x => match x.2 with
  | .dic _ _ => (f2 env).bind fun y => kDget1 x y
  | _ => .bad := (rfl)
@[simp] theorem dgetS2_ (f f2 f3 : Env → Res TV) (env : Env) : dgetS2 f f2 f3 env = (f env).bind fun x => match x.2 with
  | .dic _ _ => (f2 env).bind fun y => (f3 env).bind fun z => kDget2 x y z
  | _ => .bad := (rfl)
@[simp] theorem kDget_i (t u : Tg) (ks : List Key) (xs : List D) (i : Int) : kDget (t, .dic ks xs) (u, .int i) = match findK (.inl i) ks xs with | some d => .ok (itT t, d) | none => .bad := (rfl)
@[simp] theorem kDin_i (t u : Tg) (ks : List Key) (xs : List D) (i : Int) : kDin (u, .int i) (t, .dic ks xs) = .ok (.s, .bl (findK (.inl i) ks xs).isSome) := (rfl)
@[simp] theorem kDnin_i (t u : Tg) (ks : List Key) (xs : List D) (i : Int) : kDnin (u, .int i) (t, .dic ks xs) = .ok (.s, .bl (!(findK (.inl i) ks xs).isSome)) := (rfl)
@[simp] theorem kDget1_i (t u : Tg) (ks : List Key) (xs : List D) (i : Int) : kDget1 (t, .dic ks xs) (u, .int i) = match findK (.inl i) ks xs with | some d => .ok (itT t, d) | none => .ok (.s, .non) := (rfl)
@[simp] theorem kDget2_i (t u : Tg) (ks : List Key) (xs : List D) (i : Int) (z : TV) : kDget2 (t, .dic ks xs) (u, .int i) z = match findK (.inl i) ks xs with | some d => .ok (itT t, d) | none => .ok z := (rfl)
@[simp] theorem kLRng1_i (t : Tg) (j : Int) : kLRng1 (t, .int j) = if -(2 ^ 60) ≤ j ∧ j ≤ 16777216 then .ok (.own (rngD 0 j.toNat)) else .bad := (rfl)
theorem kLZip_l (t u : Tg) (ds es : List D) (h1 : shI (t, .lst ds) = true) (h2 : shI (u, .lst es) = true) (h3 : min ds.length es.length ≤ 16777216) : kLZip [(t, .lst ds), (u, .lst es)] = .ok (.own ((ds.zip es).map fun z => .tup [z.1, z.2])) := by
  unfold kLZip
  dsimp only
  rw [if_pos ⟨h1, h2, h3⟩]
@[simp] theorem movS_ (i j : Nat) (env : Env) : movS i j env = match slV j env with
  | some e => mvE i j env e
  | none => .bad := by
  unfold movS
  cases h : slV j env with
  | none =>
    split
    · rename_i q; rw [(slV_get j env _).mpr q] at h; cases h
    · rfl
  | some e => rw [(slV_get j env e).mp h]
@[simp] theorem mvE_own (i j : Nat) (env : Env) (xs : List D) : mvE i j env (.own xs) = .nx ((env.set j none).set i (some (.own xs))) := (rfl)
@[simp] theorem mvE_ownd (i j : Nat) (env : Env) (ks : List Key) (xs : List D) : mvE i j env (.ownd ks xs) = .nx ((env.set j none).set i (some (.ownd ks xs))) := (rfl)
@[simp] theorem mvE_ownt (i j : Nat) (env : Env) (t : OD) : mvE i j env (.ownt t) = .nx ((env.set j none).set i (some (.ownt t))) := (rfl)
@[simp] theorem mvE_val (i j : Nat) (env : Env) (t : Tg) (d : D) : mvE i j env (.val t d) = .nx (env.set i (some (.val t d))) := (rfl)
@[simp] theorem kIsT_b (t u : Tg) (a b : Bool) : kIsT (t, .bl a) (u, .bl b) = .ok (.s, .bl (decide (a = b))) := (rfl)
@[simp] theorem kNotT_b (t u : Tg) (a b : Bool) : kNotT (t, .bl a) (u, .bl b) = .ok (.s, .bl (!decide (a = b))) := (rfl)
@[simp] theorem ch3_ (f g h f4 : Env → Res TV) (k k' k'' : TV → TV → Res TV) (env : Env) : ch3 f g h f4 k k' k'' env = (f env).bind fun x => (g env).bind fun y => (k x y).bind fun z => match z.2 with
  | .bl true => (h env).bind fun w => (k' y w).bind fun z' => (match z'.2 with
    | .bl true => (f4 env).bind fun v => k'' w v
    | .bl false => okb false
    | _ => .bad)
  | .bl false => okb false
  | _ => .bad := (rfl)
@[simp] theorem zipR_ (f g : Env → Res TV) (env : Env) : zipR f g env = (f env).bind fun x => (kSeqL x).bind fun u => (g env).bind fun y => (kSeqL y).bind fun v => .ok (jnT u.1 v.1, (u.2.reverse.zip v.2.reverse).map fun z => .tup [z.1, z.2]) := (rfl)
@[simp] theorem kSeqL_s (xs : List D) : kSeqL (.s, .lst xs) = .ok (.s, xs) := (rfl)
@[simp] theorem plainT_ (ft : Env → Res Bool) (K : Env → Bool → SR) (env : Env) : plainT ft K env = (ft env).st env fun b => K env b := (rfl)
@[simp] theorem notL_ (S : (Env → Bool → SR) → Env → SR) (K : Env → Bool → SR) (env : Env) : notL S K env = S (fun env b => K env (!b)) env := (rfl)
@[simp] theorem orL_ (S S2 : (Env → Bool → SR) → Env → SR) (K : Env → Bool → SR) (env : Env) : orL S S2 K env = S (fun env b => if b = true then K env true else S2 K env) env := (rfl)
@[simp] theorem andL_ (S S2 : (Env → Bool → SR) → Env → SR) (K : Env → Bool → SR) (env : Env) : andL S S2 K env = S (fun env b => if b = true then S2 K env else K env false) env := (rfl)
@[simp] theorem cmpL_ (S : (Env → D → SR) → Env → SR) (g : Env → Res TV) (k : TV → TV → Res TV) (K : Env → Bool → SR) (env : Env) : cmpL S g k K env = S (fun env d => (g env).st env fun y => (k (.s, d) y).st env fun z => match z.2 with
  | .bl b => K env b
  | _ => .bad) env := (rfl)
@[simp] theorem valL_ (S : (Env → D → SR) → Env → SR) (K : Env → Bool → SR) (env : Env) : valL S K env = S (fun env d => match d with
  | .bl b => K env b
  | _ => .bad) env := (rfl)
@[simp] theorem ifL_ (S : (Env → Bool → SR) → Env → SR) (A B : Env → SR) (env : Env) : ifL S A B env = S (fun env b => if b = true then A env else B env) env := (rfl)
@[simp] theorem lendS_ (i : Nat) (F : Env → Res (List AM)) (G : List EV → MR) (K : Env → D → SR) (env : Env) : lendS i F G K env = (F env).st env (lendK i G K env) := (rfl)
/-- the own thing in slot i -/
def ownI (i : Nat) (env : Env) : Option EV := match (env[i]? : Option (Option EV)) with
  | some (some e) => if isOwn e = true then some e else none
  | _ => none
@[simp] theorem ownI_0 (xs : List D) (r : Env) : ownI 0 (some (.own xs) :: r) = some (.own xs) := (rfl)
@[simp] theorem ownI_0d (ks : List Key) (xs : List D) (r : Env) : ownI 0 (some (.ownd ks xs) :: r) = some (.ownd ks xs) := (rfl)
@[simp] theorem ownI_0t (t : OD) (r : Env) : ownI 0 (some (.ownt t) :: r) = some (.ownt t) := (rfl)
@[simp] theorem ownI_s (i : Nat) (x : Option EV) (r : Env) : ownI (i + 1) (x :: r) = ownI i r := by
  unfold ownI
  rw [List.getElem?_cons_succ]
@[simp] theorem lendK_ (i : Nat) (G : List EV → MR) (K : Env → D → SR) (env : Env) (xs : List AM) : lendK i G K env xs = match ownI i env with
  | some e => (match toArgsM i env e xs with
    | some args => (match G args with
      | .ok d e' => K (env.set i (some e')) d
      | .exc c ks vs e' => .exc c ks vs (env.set i (some e'))
      | .bad => .bad)
    | none => .bad)
  | none => .bad := by
  unfold lendK ownI
  generalize (env[i]? : Option (Option EV)) = z
  rcases z with _ | _ | e
  · rfl
  · rfl
  · dsimp only
    by_cases o : isOwn e = true
    · rw [if_pos o, if_pos o] <;> rfl
    · rw [if_neg o, if_neg o] <;> rfl
@[simp] theorem toArgsM_n (i : Nat) (env : Env) (e : EV) : toArgsM i env e [] = some [] := (rfl)
@[simp] theorem toArgsM_h (i : Nat) (env : Env) (e : EV) (r : List AM) : toArgsM i env e (.l :: r) = (toArgsM i env e r).map (e :: ·) := (rfl)
@[simp] theorem toArgsM_c (i : Nat) (env : Env) (e : EV) (x : TV) (r : List AM) : toArgsM i env e (.v x :: r) = match argE x, toArgsM i env e r with
    | some a, some as => some (a :: as)
    | _, _ => none := (rfl)
@[simp] theorem toArgsM_o (i : Nat) (env : Env) (e : EV) (j : Nat) (r : List AM) : toArgsM i env e (.o j :: r) = if j = i then none else match readE env j, toArgsM i env e r with
    | some a, some as => some (a :: as)
    | _, _ => none := (rfl)
@[simp] theorem readE_s (x : Option EV) (r : Env) (j : Nat) : readE (x :: r) (j + 1) = readE r j := by
  unfold readE
  rw [List.getElem?_cons_succ]
@[simp] theorem readE_own (xs : List D) (r : Env) : readE (some (.own xs) :: r) 0 = some (.val .r (.lst xs)) := (rfl)
@[simp] theorem readE_ownd (ks : List Key) (xs : List D) (r : Env) : readE (some (.ownd ks xs) :: r) 0 = some (.val .r (.dic ks xs)) := (rfl)
@[simp] theorem readE_ownt (t : OD) (r : Env) : readE (some (.ownt t) :: r) 0 = some (.val .r t.d) := (rfl)
@[simp] theorem readE_vs (d : D) (r : Env) : readE (some (.val .s d) :: r) 0 = some (.val .s d) := (rfl)
@[simp] theorem readE_vr (d : D) (r : Env) : readE (some (.val .r d) :: r) 0 = some (.val .r d) := (rfl)
@[simp] theorem argMO_ (j : Nat) (F : Env → Res (List AM)) (env : Env) : argMO j F env = match readE env j with
  | some _ => (F env).bind fun xs => .ok (.o j :: xs)
  | none => .bad := (rfl)
@[simp] theorem argE_s (d : D) : argE (.s, d) = some (.val .s d) := by unfold argE; dsimp only; split <;> rfl
@[simp] theorem argE_i (t : Tg) (i : Int) : argE (t, .int i) = some (.val .s (.int i)) := by unfold argE; simp
@[simp] theorem argE_r (d : D) : argE (.r, d) = some (.val (if imm d = true then .s else .r) d) := by unfold argE; dsimp only; split <;> rfl
@[simp] theorem argMN_ (env : Env) : argMN env = .ok [] := (rfl)
@[simp] theorem argMC_ (f : Env → Res TV) (F : Env → Res (List AM)) (env : Env) : argMC f F env = (f env).bind fun x => (F env).bind fun xs => .ok (.v x :: xs) := (rfl)
@[simp] theorem argMH_ (i : Nat) (F : Env → Res (List AM)) (env : Env) : argMH i F env = match ownI i env with
  | some _ => (F env).bind fun xs => .ok (.l :: xs)
  | none => .bad := by
  unfold argMH ownI
  generalize (env[i]? : Option (Option EV)) = z
  rcases z with _ | _ | e
  · rfl
  · rfl
  · dsimp only
    by_cases o : isOwn e = true
    · rw [if_pos o, if_pos o] <;> rfl
    · rw [if_neg o, if_neg o] <;> rfl
@[simp] theorem lendMS_ (i : Nat) (m : Str) (tbl : TblM) (F : Env → Res (List AM)) (K : Env → D → SR) (env : Env) : lendMS i m tbl F K env = match ownI i env with
  | some (.ownt t) => (match pickMM m tbl t.d with
    | some G => (F env).st env fun xs => lendK i G K env (.l :: xs)
    | none => .bad)
  | _ => .bad := by
  unfold lendMS ownI
  generalize (env[i]? : Option (Option EV)) = z
  rcases z with _ | _ | e
  · rfl
  · rfl
  · cases e <;> rfl
@[simp] theorem lendMR_ (i : Nat) (m : Str) (tbl : TblM) (f : Env → Res TV) (F : Env → Res (List AM)) (K : Env → D → SR) (env : Env) : lendMR i m tbl f F K env = (f env).st env fun x => match pickMM m tbl x.2 with
  | some G => (F env).st env fun xs => lendK i G K env (.v x :: xs)
  | none => .bad := (rfl)
@[simp] theorem lentE_ (l : Nat) (env : Env) (k : EV → MR) : lentE l env k = match ownI l env with
  | some e => k e
  | none => .bad := by
  unfold lentE ownI
  generalize (env[l]? : Option (Option EV)) = z
  rcases z with _ | _ | e
  · rfl
  · rfl
  · dsimp only
    by_cases o : isOwn e = true
    · rw [if_pos o, if_pos o] <;> rfl
    · rw [if_neg o, if_neg o] <;> rfl
@[simp] theorem runM_ (l nN : Nat) (FB : Env → SR) (args : List EV) : runM l nN FB args = outM l (FB (args.map some ++ List.replicate (nN - args.length) none)) := (rfl)
@[simp] theorem outM_nx (l : Nat) (env : Env) : outM l (.nx env) = lentE l env fun e => .ok .non e := (rfl)
@[simp] theorem outM_rt (l : Nat) (t : Tg) (d : D) (env : Env) : outM l (.rt (.val t d) env) = lentE l env fun e => if shV (t, d) = true then .ok d e else .bad := (rfl)
@[simp] theorem outM_exc (l : Nat) (c : Str) (ks : List Str) (vs : List D) (env : Env) : outM l (.exc c ks vs env) = lentE l env fun e => .exc c ks vs e := (rfl)
@[simp] theorem fixS_ (i : Nat) (cs : List Str) (f : Str) (fe fi : Env → Res TV) (env : Env) : fixS i cs f fe fi env = fldL i cs f env fun _ _ _ _ _ => (fe env).st env fun x => (fi env).st env fun k => fldL i cs f env fun c ks ts q xs => match k.2 with
  | .int n => (match ixN xs.length n with
    | some j => if shV x = true then .nx (env.set i (some (.ownt (.obj c ks (ts.set q (.lst (xs.set j (.sh x.2)))))))) else .bad
    | none => .bad)
  | _ => .bad := (rfl)
@[simp] theorem fldL_s (i : Nat) (cs : List Str) (f : Str) (x : Option EV) (r : Env) (k : Str → List Str → List OD → Nat → List OD → SR) : fldL (i + 1) cs f (x :: r) k = fldL i cs f r k := by
  unfold fldL
  rw [List.getElem?_cons_succ]
theorem fldL_0 (cs : List Str) (f : Str) (c : Str) (ks : List Str) (ts : List OD) (r : Env) (k : Str → List Str → List OD → Nat → List OD → SR) : fldL 0 cs f (some (.ownt (.obj c ks ts)) :: r) k = if cs.contains c = true then (match lookI f ks with
    | some q => (match ts[q]? with | some (.lst xs) => k c ks ts q xs | _ => .bad)
    | none => .bad) else .bad := (rfl)
@[simp] theorem indexS_ (f f2 : Env → Res TV) (env : Env) : indexS f f2 env = (f env).bind fun x => match x.2 with
  | .lst ys => (f2 env).bind fun y => kIdx ys y
  | _ => .bad := (rfl)
@[simp] theorem countS_ (f f2 : Env → Res TV) (env : Env) : countS f f2 env = (f env).bind fun x => match x.2 with
  | .lst ys => (f2 env).bind fun y => kCnt ys y
  | _ => .bad := (rfl)
@[simp] theorem kSeqL_r (xs : List D) : kSeqL (.r, .lst xs) = .ok (.r, xs) := (rfl)
/-! ### trees -/
@[simp] theorem argEN_ (env : Env) : argEN env = .ok [] := (rfl)
@[simp] theorem argEC_ (f : Env → Res EV) (F : Env → Res (List EV)) (env : Env) : argEC f F env = (f env).bind fun x => match evOD x with
  | some _ => (F env).bind fun xs => .ok (x :: xs)
  | none => .bad := (rfl)
@[simp] theorem evODs_nil : evODs [] = some [] := (rfl)
@[simp] theorem evODs_cons (e : EV) (r : List EV) : evODs (e :: r) = match evOD e, evODs r with
  | some t, some ts => some (t :: ts)
  | _, _ => none := (rfl)
@[simp] theorem kTupT_ (es : List EV) : kTupT es = match evODs es with
  | some ts => if es.length ≤ 16777216 then .ok (.ownt (.tup ts)) else .bad
  | none => .bad := (rfl)
@[simp] theorem kLstO_ (es : List EV) : kLstO es = match evODs es with
  | some ts => if es.length ≤ 16777216 then .ok (.ownt (.lst ts)) else .bad
  | none => .bad := (rfl)
@[simp] theorem treeI_0 (t : OD) (r : Env) (K : OD → SR) : treeI 0 (some (.ownt t) :: r) K = K t := (rfl)
@[simp] theorem treeI_s (i : Nat) (x : Option EV) (r : Env) (K : OD → SR) : treeI (i + 1) (x :: r) K = treeI i r K := by
  unfold treeI
  rw [List.getElem?_cons_succ]
/-- the list at a place -/
def kidAt : List OD → Nat → Option (List OD)
  | .lst xs :: _, 0 => some xs
  | _ :: r, q + 1 => kidAt r q
  | _, _ => none
@[simp] theorem kidAt_0 (xs r : List OD) : kidAt (.lst xs :: r) 0 = some xs := (rfl)
@[simp] theorem kidAt_s (x : OD) (r : List OD) (q : Nat) : kidAt (x :: r) (q + 1) = kidAt r q := by
  cases x <;> rfl
theorem kidAt_eq : ∀ (ts : List OD) (q : Nat) (K : List OD → SR), (match ts[q]? with
    | some (.lst xs) => K xs
    | _ => .bad) = match kidAt ts q with
    | some xs => K xs
    | none => .bad
  | [], q, K => rfl
  | x :: r, 0, K => by cases x <;> rfl
  | x :: r, q + 1, K => by
    rw [kidAt_s, ← kidAt_eq r q K, List.getElem?_cons_succ]
@[simp] theorem kidR_t (ts : List OD) (tk : Tg) (n : Int) (K : List OD → Nat → List OD → SR) : kidR (.tup ts) (tk, .int n) K = match ixN ts.length n with
  | some q => (match kidAt ts q with
    | some xs => K ts q xs
    | none => .bad)
  | none => .bad := by
  show (match ixN ts.length n with | some q => _ | none => _) = _
  cases ixN ts.length n with
  | none => rfl
  | some q => exact kidAt_eq ts q (K ts q)
@[simp] theorem kidR_l (ts : List OD) (tk : Tg) (n : Int) (K : List OD → Nat → List OD → SR) : kidR (.lst ts) (tk, .int n) K = match ixN ts.length n with
  | some q => (match kidAt ts q with
    | some xs => K ts q xs
    | none => .bad)
  | none => .bad := by
  show (match ixN ts.length n with | some q => _ | none => _) = _
  cases ixN ts.length n with
  | none => rfl
  | some q => exact kidAt_eq ts q (K ts q)
@[simp] theorem reT_l (us ts : List OD) : reT (.lst us) ts = .lst ts := (rfl)
@[simp] theorem reT_t (us ts : List OD) : reT (.tup us) ts = .tup ts := (rfl)
@[simp] theorem kappS_ (i : Nat) (fi fe : Env → Res TV) (env : Env) : kappS i fi fe env = treeI i env fun t => (fi env).st env fun k => kidR t k fun _ _ _ => (fe env).st env fun x => kidR t k fun ts q xs =>
  if shV x = true ∧ xs.length < 16777216 then .nx (env.set i (some (.ownt (reT t (ts.set q (.lst (xs ++ [.sh x.2]))))))) else .bad := (rfl)
@[simp] theorem kclrS_ (i : Nat) (fi : Env → Res TV) (env : Env) : kclrS i fi env = treeI i env fun t => (fi env).st env fun k => kidR t k fun ts q _ => .nx (env.set i (some (.ownt (reT t (ts.set q (.lst [])))))) := (rfl)
@[simp] theorem tappS_ (fE : Env → Res EV) (fi fe : Env → Res TV) (env : Env) : tappS fE fi fe env = (fE env).st env fun a => match a with
  | .ownt t => (fi env).st env fun k => kidR t k fun _ _ xs => (fe env).st env fun x => if shV x = true ∧ xs.length < 16777216 then .nx env else .bad
  | _ => .bad := (rfl)
@[simp] theorem oappS_ (fE : Env → Res EV) (fe : Env → Res TV) (env : Env) : oappS fE fe env = (fE env).st env fun a => match a with
  | .own xs => (fe env).st env fun x => if shV x = true ∧ xs.length < 16777216 then .nx env else .bad
  | _ => .bad := (rfl)
@[simp] theorem slotE_0 (e : EV) (r : Env) : slotE 0 (some e :: r) = match evOD e with
  | some _ => some e
  | none => none := (rfl)
@[simp] theorem slotE_s (j : Nat) (x : Option EV) (r : Env) : slotE (j + 1) (x :: r) = slotE j r := by
  unfold slotE
  rw [List.getElem?_cons_succ]
@[simp] theorem argRN_ (env : Env) : argRN env = .ok [] := (rfl)
@[simp] theorem argRC_ (f : Env → Res TV) (F : Env → Res (List AR)) (env : Env) : argRC f F env = (f env).bind fun x => (F env).bind fun xs => .ok (.v x :: xs) := (rfl)
@[simp] theorem argRO_ (j : Nat) (F : Env → Res (List AR)) (env : Env) : argRO j F env = match slotE j env with
  | some _ => (F env).bind fun xs => .ok (.o j :: xs)
  | none => .bad := (rfl)
@[simp] theorem arJs_n : arJs [] = [] := (rfl)
@[simp] theorem arJs_v (x : TV) (r : List AR) : arJs (.v x :: r) = arJs r := (rfl)
@[simp] theorem arJs_o (j : Nat) (r : List AR) : arJs (.o j :: r) = j :: arJs r := (rfl)
@[simp] theorem arOD_n (env : Env) : arOD env [] = some [] := (rfl)
@[simp] theorem arOD_v (env : Env) (x : TV) (r : List AR) : arOD env (.v x :: r) = if shV x = true then (arOD env r).map (.sh x.2 :: ·) else none := (rfl)
@[simp] theorem arOD_o (env : Env) (j : Nat) (r : List AR) : arOD env (.o j :: r) = match slotE j env with
    | some e => (match evOD e, arOD env r with
      | some t, some ts => some (t :: ts)
      | _, _ => none)
    | none => none := (rfl)
@[simp] theorem retR_ (F : Env → Res (List AR)) (env : Env) : retR F env = (F env).st env fun xs => if (arJs xs).Nodup ∧ xs.length ≤ 16777216 then (match arOD env xs with
  | some ts => .rt (.ownt (.tup ts)) env
  | none => .bad) else .bad := (rfl)
@[simp] theorem retTL_ (f : Env → Res TV) (S : (Env → D → SR) → Env → SR) (env : Env) : retTL f S env = (f env).st env fun x => if shV x = true then S (fun env' d => .rt (.val .s (.tup [x.2, d])) env') env else .bad := (rfl)
theorem kSortedDR_i (t : Tg) (ns : List Int) (xs : List D) : kSortedDR [(t, .dic (ns.map Sum.inl) xs)] = .ok (.own ((isort ns).reverse.map D.int)) := by
  show (match kInts (ns.map Sum.inl) with | some ns => _ | none => _) = _
  rw [kInts_inl]
@[simp] theorem thenK2_ {α : Type} (F Fk : Env → Res (List TV)) (k : List TV → List TV → Res α) (env : Env) : thenK2 F Fk k env = (F env).bind fun xs => (Fk env).bind fun zs => k xs zs := (rfl)
@[simp] theorem callKd_ (ar : Nat) (sel : List (Nat ⊕ Nat)) (dfl : List D) (F : List EV → Res EV) (xs zs : List TV) : callKd ar sel dfl F xs zs = if (gseg sel xs (dfl.map fun d => (Tg.s, d)) zs).length = ar then callD F (gseg sel xs (dfl.map fun d => (Tg.s, d)) zs) else .bad := (rfl)
@[simp] theorem gseg_0 {α : Type} (us its ws : List α) : gseg [] us its ws = us := List.append_nil _
@[simp] theorem gseg_l {α : Type} (i : Nat) (r : List (Nat ⊕ Nat)) (us its ws : List α) : gseg (.inl i :: r) us its ws = gseg r (us ++ (ws.drop i).take 1) its ws := by
  unfold gseg; rw [List.flatMap_cons, List.append_assoc]
@[simp] theorem gseg_r {α : Type} (j : Nat) (r : List (Nat ⊕ Nat)) (us its ws : List α) : gseg (.inr j :: r) us its ws = gseg r (us ++ (its.drop j).take 1) its ws := by
  unfold gseg; rw [List.flatMap_cons, List.append_assoc]
/-! ### dicts walked -/
@[simp] theorem forK_ (i : Nat) (g : TV → Env → Option Env) (B : Env → SR) (env : Env) : forK i g B env = match dkE i env with
  | some ds => shut (forD g B .s ds env)
  | none => .bad := (rfl)
@[simp] theorem lcKS_ (i : Nat) (own : List Nat) (g : TV → Env → Option Env) (c : Env → Res Bool) (el : Env → Res TV) (env : Env) : lcKS i own g c el env = match dkE i env with
  | some ds => lcK g c el (wipeE env own) (.s, ds)
  | none => .bad := (rfl)
@[simp] theorem dkE_0s (ks : List Key) (xs : List D) (r : Env) : dkE 0 (some (.val .s (.dic ks xs)) :: r) = some (ks.map keyD) := (rfl)
@[simp] theorem dkE_0r (ks : List Key) (xs : List D) (r : Env) : dkE 0 (some (.val .r (.dic ks xs)) :: r) = some (ks.map keyD) := (rfl)
@[simp] theorem dkE_s (i : Nat) (x : Option EV) (r : Env) : dkE (i + 1) (x :: r) = dkE i r := by
  unfold dkE
  rw [List.getElem?_cons_succ]
@[simp] theorem shut_nx (e : Env) : shut (.nx e) = .nx e := (rfl)
@[simp] theorem shut_bk (e : Env) : shut (.bk e) = .bk e := (rfl)
@[simp] theorem shut_ct (e : Env) : shut (.ct e) = .ct e := (rfl)
@[simp] theorem shut_rt (t : Tg) (d : D) (e : Env) : shut (.rt (.val t d) e) = if imm d = true then .rt (.val .s d) e else .bad := (rfl)
theorem keyD_ints (ns : List Int) : (ns.map Sum.inl : List Key).map keyD = ns.map D.int := by rw [List.map_map]; rfl
theorem intsAll_ints : ∀ ns : List Int, intsAll (ns.map D.int) = true
  | [] => rfl
  | _ :: r => intsAll_ints r
@[simp] theorem dclrS_ (i : Nat) (env : Env) : dclrS i env = ownDi i env fun _ _ => .nx (env.set i (some (.ownd [] []))) := (rfl)
end DL

namespace DL
open PySem PySem.Spec PyProof.Rows L2
/-! ### bounds by figures -/
def Bd (n : Nat) (i : Int) : Prop := i.natAbs ≤ 10 ^ n
theorem Bd.sm {n : Nat} {i : Int} (h : Bd n i) (hn : n < 150 := by decide) : Sm i := by
  have h1 : (10 : Nat) ^ n < 10 ^ 150 := Nat.pow_lt_pow_right (by decide) hn
  have h2 : i.natAbs < 10 ^ 150 := Nat.lt_of_le_of_lt h h1
  unfold Sm
  omega
theorem Bd.mul {a b : Nat} {i j : Int} (h : Bd a i) (k : Bd b j) : Bd (a + b) (i * j) := by
  unfold Bd at *
  rw [Int.natAbs_mul, Nat.pow_add]
  exact Nat.mul_le_mul h k
theorem Bd.up {a b : Nat} {i : Int} (h : Bd a i) (k : a ≤ b := by decide) : Bd b i := Nat.le_trans h (Nat.pow_le_pow_right (by decide) k)
theorem Bd.add {a : Nat} {i j : Int} (h : Bd a i) (k : Bd a j) : Bd (a + 1) (i + j) := by
  unfold Bd at *
  rw [Nat.pow_succ]
  omega
theorem Bd.add' {a b : Nat} {i j : Int} (h : Bd a i) (k : Bd b j) : Bd (max a b + 1) (i + j) := (Bd.up h (Nat.le_max_left _ _)).add (Bd.up k (Nat.le_max_right _ _))
theorem Bd.neg {a : Nat} {i : Int} (h : Bd a i) : Bd a (-i) := by unfold Bd at *; omega
theorem Bd.sub' {a b : Nat} {i j : Int} (h : Bd a i) (k : Bd b j) : Bd (max a b + 1) (i - j) := by rw [Int.sub_eq_add_neg]; exact h.add' k.neg
theorem Bd.of {n : Nat} {i : Int} (h : -(10 ^ n) ≤ i) (k : i ≤ 10 ^ n) : Bd n i := by
  unfold Bd
  have e : ((10 ^ n : Nat) : Int) = 10 ^ n := by simp
  omega
theorem Bd.r {n : Nat} {i m : Int} (h : 0 ≤ i) (k : i < m) (hm : m ≤ 10 ^ n) : Bd n i := .of (by have : (0 : Int) ≤ 10 ^ n := Int.le_of_lt (Int.pow_pos (by decide)); omega) (by omega)
theorem Bd.emod {n : Nat} {i m : Int} (k : 0 < m) (hm : m ≤ 10 ^ n) : Bd n (i % m) := .r (Int.emod_nonneg _ (by omega)) (Int.emod_lt_of_pos _ k) hm
/-! ### freezing -/
theorem frzE_def (i : Nat) (env : Env) : frzE i env = match env[i]? with
  | some (some (.own xs)) => env.set i (some (.val .s (.lst xs)))
  | some (some (.ownd ks xs)) => env.set i (some (.val .s (.dic ks xs)))
  | some (some (.ownt t)) => env.set i (some (.val .s t.d))
  | _ => env := rfl
@[simp] theorem frzE_0t (t : OD) (r : Env) : frzE 0 (some (.ownt t) :: r) = some (.val .s t.d) :: r := (rfl)
@[simp] theorem frzE_0v (t : Tg) (d : D) (r : Env) : frzE 0 (some (.val t d) :: r) = some (.val t d) :: r := (rfl)
@[simp] theorem frzE_0o (xs : List D) (r : Env) : frzE 0 (some (.own xs) :: r) = some (.val .s (.lst xs)) :: r := (rfl)
@[simp] theorem frzE_0d (ks : List Key) (xs : List D) (r : Env) : frzE 0 (some (.ownd ks xs) :: r) = some (.val .s (.dic ks xs)) :: r := (rfl)
@[simp] theorem frzE_0n (r : Env) : frzE 0 (none :: r) = none :: r := (rfl)
@[simp] theorem frzE_s (i : Nat) (x : Option EV) (r : Env) : frzE (i + 1) (x :: r) = x :: frzE i r := by
  rw [frzE_def, frzE_def, List.getElem?_cons_succ]
  generalize r[i]? = z
  rcases z with _ | _ | e
  · rfl
  · rfl
  · cases e <;> rfl
/-! ### loops -/
theorem forD_nx {g : TV → Env → Option Env} {b : Env → SR} {t : Tg} {d : D} {r : List D} {env e1 e2 : Env} (h : g (t, d) env = some e1) (h2 : b e1 = .nx e2) : forD g b t (d :: r) env = forD g b t r e2 := by
  rw [forD, h]
  dsimp only
  rw [h2]
theorem forD_rt {g : TV → Env → Option Env} {b : Env → SR} {t : Tg} {d : D} {r : List D} {env e1 e2 : Env} {v : EV} (h : g (t, d) env = some e1) (h2 : b e1 = .rt v e2) : forD g b t (d :: r) env = .rt v e2 := by
  rw [forD, h]
  dsimp only
  rw [h2]
/-- one round of a loop: on, or handing back -/
@[irreducible] def Rd (g : TV → Env → Option Env) (b : Env → SR) (x : TV) (env : Env) (I : Env → Prop) (R : EV → Prop) : Prop := match g x env with
  | none => False
  | some e1 => match b e1 with
    | .nx e => I e
    | .ct e => I e
    | .rt v _ => R v
    | _ => False
theorem Rd_def (g : TV → Env → Option Env) (b : Env → SR) (x : TV) (env : Env) (I : Env → Prop) (R : EV → Prop) : Rd g b x env I R = match g x env with
  | none => False
  | some e1 => match b e1 with
    | .nx e => I e
    | .ct e => I e
    | .rt v _ => R v
    | _ => False := by unfold Rd; rfl
theorem Rd.nx {g : TV → Env → Option Env} {b : Env → SR} {x : TV} {env : Env} {I : Env → Prop} {R : EV → Prop} {e1 e : Env} (h : g x env = some e1) (h2 : b e1 = .nx e) (h3 : I e) : Rd g b x env I R := by
  rw [Rd_def, h]; dsimp only; rw [h2]; exact h3
theorem Rd.ct {g : TV → Env → Option Env} {b : Env → SR} {x : TV} {env : Env} {I : Env → Prop} {R : EV → Prop} {e1 e : Env} (h : g x env = some e1) (h2 : b e1 = .ct e) (h3 : I e) : Rd g b x env I R := by
  rw [Rd_def, h]; dsimp only; rw [h2]; exact h3
theorem Rd.rt {g : TV → Env → Option Env} {b : Env → SR} {x : TV} {env : Env} {I : Env → Prop} {R : EV → Prop} {e1 e2 : Env} {v : EV} (h : g x env = some e1) (h2 : b e1 = .rt v e2) (h3 : R v) : Rd g b x env I R := by
  rw [Rd_def, h]; dsimp only; rw [h2]; exact h3
/-- a loop by what holds ahead of each round -/
theorem forD_inv {g : TV → Env → Option Env} {b : Env → SR} {t : Tg} (I : Nat → Env → Prop) (R : EV → Prop) : ∀ (ds : List D) (k : Nat) (env : Env), I k env →
    (∀ (i : Nat) (d : D), ds[i]? = some d → ∀ env, I (k + i) env → Rd g b (t, d) env (I (k + i + 1)) R) →
    (∃ e, forD g b t ds env = .nx e ∧ I (k + ds.length) e) ∨ ∃ v e, forD g b t ds env = .rt v e ∧ R v
  | [], k, env, h, _ => .inl ⟨env, rfl, h⟩
  | d :: r, k, env, h, st => by
    have s0 := st 0 d rfl env h
    rw [Rd_def] at s0
    rw [forD]
    have go : ∀ e2, I (k + 1) e2 → (∃ e, forD g b t r e2 = .nx e ∧ I (k + (d :: r).length) e) ∨ ∃ v e, forD g b t r e2 = .rt v e ∧ R v := fun e2 h3 => by
      have := forD_inv (g := g) (b := b) (t := t) I R r (k + 1) e2 h3 (fun i d hd env hi => by
        have e0 : k + 1 + i = k + (i + 1) := by omega
        rw [e0] at hi ⊢
        exact st (i + 1) d (by simpa using hd) env hi)
      have e0 : k + (d :: r).length = k + 1 + r.length := by rw [List.length_cons]; omega
      rw [e0]; exact this
    generalize g (t, d) env = z at s0 ⊢
    cases z with
    | none => exact s0.elim
    | some e1 =>
      dsimp only at s0 ⊢
      generalize b e1 = y at s0 ⊢
      cases y with
      | nx e => exact go e s0
      | ct e => exact go e s0
      | rt v e => exact .inr ⟨v, e, rfl, s0⟩
      | _ => exact s0.elim
theorem forD_go {g : TV → Env → Option Env} {b : Env → SR} {t : Tg} (I : Nat → Env → Prop) (ds : List D) (env : Env) (h : I 0 env)
    (st : ∀ (i : Nat) (d : D), ds[i]? = some d → ∀ env, I i env → Rd g b (t, d) env (I (i + 1)) fun _ => False) :
    ∃ e, forD g b t ds env = .nx e ∧ I ds.length e := by
  rcases forD_inv I (fun _ => False) ds 0 env h (fun i d hd env hi => by rw [Nat.zero_add] at hi ⊢; exact st i d hd env hi) with h | ⟨v, _, _, h⟩
  · rwa [Nat.zero_add] at h
  · exact h.elim
/-- over a range -/
theorem rngD_get {lo : Int} {n i : Nat} {d : D} (h : (rngD lo n)[i]? = some d) : d = .int (lo + i) ∧ i < n := by
  unfold rngD at h
  rw [List.getElem?_map, Option.map_eq_some_iff] at h
  obtain ⟨j, h1, h2⟩ := h
  have hi : i < n := by
    have := (List.getElem?_eq_some_iff.mp h1).1
    simpa using this
  rw [List.getElem?_range hi] at h1
  cases h1
  exact ⟨h2.symm, hi⟩
theorem rngD_len (lo : Int) (n : Nat) : (rngD lo n).length = n := by simp [rngD]
/-! ### powers -/
theorem kPow_10 {j : Int} (h : 0 ≤ j) (h2 : j ≤ 1000000) : kPow 10 j = .ok (.s, .int (10 ^ j.toNat)) := by
  unfold kPow
  rw [if_pos ⟨h, h2, by decide⟩] <;> rfl
/-! ### items -/
theorem ixN_nat {n i : Nat} (h : i < n) : ixN n (i : Int) = some i := by
  unfold ixN
  simp [h]
theorem atI_nat {α : Type} {xs : List α} {i : Nat} (h : i < xs.length) : atI xs (i : Int) = some xs[i] := by
  unfold atI
  rw [ixN_nat h]
  simp [h]
theorem atI_int {α : Type} {xs : List α} {i : Int} (h : 0 ≤ i) (k : i < xs.length) : atI xs i = some (xs[i.toNat]'(by omega)) := by
  have := atI_nat (xs := xs) (i := i.toNat) (by omega)
  rwa [Int.toNat_of_nonneg h] at this
theorem atI_ex {α : Type} {xs : List α} {i : Int} (h : 0 ≤ i) (k : i < xs.length) : ∃ x, x ∈ xs ∧ atI xs i = some x := ⟨_, List.getElem_mem _, atI_int h k⟩
@[simp] theorem asPart_i (t : Tg) (i : Int) : asPart (t, .int i) = .ok (some i) := (rfl)
theorem kPow_any {i j : Int} (h : 0 ≤ j) (h2 : j ≤ 1000000) (h3 : i.natAbs < 2 ^ 64) : kPow i j = .ok (.s, .int (i ^ j.toNat)) := by
  unfold kPow
  rw [if_pos ⟨h, h2, h3⟩] <;> rfl
theorem kStr_i {t : Tg} {i : Int} (h : Sm i) : kStr [(t, .int i)] = .ok (.s, .str (toString i)) := by
  unfold kStr
  dsimp only
  rw [if_pos (Nat.lt_of_lt_of_le h.log (by decide))]
/-! ### data compared -/
theorem deq_self {d : D} {n : Nat} (h : dOk n d = true) : deq d d = true := PySem.SeqAt.eqv_refl _ (dOk_shaped d n h).1
theorem dOks_ints (n : Nat) : ∀ a : List Int, dOks n (a.map D.int) = true
  | [] => by simp [dOks]
  | i :: r => by rw [List.map_cons, dOks, dOks_ints n r]; simp [dOk]
theorem deqs_ints : ∀ a b : List Int, deqs (a.map D.int) (b.map D.int) = decide (a = b)
  | [], [] => by simp [deqs, toPs, PyData.eqvAll]
  | i :: r, [] => by simp [deqs, toPs, PyData.eqvAll]
  | [], i :: r => by simp [deqs, toPs, PyData.eqvAll]
  | i :: r, j :: t => by
    have h := deqs_ints r t
    unfold deqs at h ⊢
    rw [List.map_cons, List.map_cons, toPs, toPs, PyData.eqvAll, h]
    have : PyData.eqv (toP (.int i)) (toP (.int j)) = decide (i = j) := deq_ii i j
    rw [this, Bool.eq_iff_iff]
    simp
theorem deq_ll (a b : List D) : deq (.lst a) (.lst b) = deqs a b := by simp [deq, deqs, toP, PyData.eqv]
theorem deq_tt (a b : List D) : deq (.tup a) (.tup b) = deqs a b := by simp [deq, deqs, toP, PyData.eqv]
@[simp] theorem kEq_ll (t u : Tg) (a b : List Int) : kEq (t, .lst (a.map D.int)) (u, .lst (b.map D.int)) = .ok (.s, .bl (decide (a = b))) := by
  unfold kEq
  rw [if_pos ⟨by rw [dOk]; exact dOks_ints _ _, by rw [dOk]; exact dOks_ints _ _⟩, deq_ll, deqs_ints] <;> rfl
@[simp] theorem kNe_ll (t u : Tg) (a b : List Int) : kNe (t, .lst (a.map D.int)) (u, .lst (b.map D.int)) = .ok (.s, .bl (!decide (a = b))) := by
  unfold kNe
  rw [if_pos ⟨by rw [dOk]; exact dOks_ints _ _, by rw [dOk]; exact dOks_ints _ _⟩, deq_ll, deqs_ints] <;> rfl
@[simp] theorem kEq_tt (t u : Tg) (a b : List Int) : kEq (t, .tup (a.map D.int)) (u, .tup (b.map D.int)) = .ok (.s, .bl (decide (a = b))) := by
  unfold kEq
  rw [if_pos ⟨by rw [dOk]; exact dOks_ints _ _, by rw [dOk]; exact dOks_ints _ _⟩, deq_tt, deqs_ints] <;> rfl
@[simp] theorem kNe_tt (t u : Tg) (a b : List Int) : kNe (t, .tup (a.map D.int)) (u, .tup (b.map D.int)) = .ok (.s, .bl (!decide (a = b))) := by
  unfold kNe
  rw [if_pos ⟨by rw [dOk]; exact dOks_ints _ _, by rw [dOk]; exact dOks_ints _ _⟩, deq_tt, deqs_ints] <;> rfl
/-! ### own lists, built-ins -/
@[simp] theorem kLst_nil : kLst [] = .ok (.own []) := (rfl)
@[simp] theorem ownL_ss (i : Nat) (x : Option EV) (r : Env) (k : List D → SR) : ownL (i + 1) (x :: r) k = ownL i r k := ownL_s i x r k
@[simp] theorem appS_ (i : Nat) (f : Env → Res TV) (env : Env) : appS i f env = ownL i env fun _ => (f env).st env fun x => ownL i env fun xs => if shV x = true ∧ xs.length < 16777216 then .nx (env.set i (some (.own (xs ++ [x.2])))) else .bad := (rfl)
@[simp] theorem revS_ (i : Nat) (env : Env) : revS i env = ownL i env fun xs => .nx (env.set i (some (.own xs.reverse))) := (rfl)
@[simp] theorem badS_ (env : Env) : badS env = .bad := (rfl)
@[simp] theorem kSum_i (t : Tg) (ns : List Int) : kSum [(t, .lst (ns.map D.int))] = .ok (.s, .int ns.sum) := by
  unfold kSum
  dsimp only
  rw [intsOf_map] <;> rfl
@[simp] theorem kTuple_l (t : Tg) (ys : List D) : kTuple [(t, .lst ys)] = .ok (itT t, .tup ys) := (rfl)
@[simp] theorem kTuple_t (t : Tg) (ys : List D) : kTuple [(t, .tup ys)] = .ok (t, .tup ys) := (rfl)
theorem kRevI_sr {t : Tg} (h : t = .s ∨ t = .r) (ys : List D) : kRevI (t, .lst ys) = .ok (t, ys.reverse) := by rcases h with rfl | rfl <;> rfl
theorem kSeq_sr {t : Tg} (h : t = .s ∨ t = .r) (ys : List D) : kSeq (t, .lst ys) = .ok (t, ys) := by rcases h with rfl | rfl <;> rfl
theorem kSeq_srT {t : Tg} (h : t = .s ∨ t = .r) (ys : List D) : kSeq (t, .tup ys) = .ok (t, ys) := by rcases h with rfl | rfl <;> rfl
theorem kDivmod_i {t u : Tg} {i j : Int} (h : 0 < j) (h2 : Sm j) : kDivmod [(t, .int i), (u, .int j)] = .ok (.s, .tup [.int (i / j), .int (i % j)]) := by
  unfold kDivmod
  dsimp only
  rw [if_pos ⟨h, h2⟩]
def zipD (a b : List Int) : List D := (a.zip b).map fun x => .tup [.int x.1, .int x.2]
theorem zip_map_int : ∀ (a b : List Int), ((a.map D.int).zip (b.map D.int)).map (fun z => D.tup [z.1, z.2]) = zipD a b
  | [], _ => by simp [zipD]
  | _ :: _, [] => by simp [zipD]
  | x :: a, y :: b => by
    have := zip_map_int a b
    simp [zipD] at this ⊢
    exact this
theorem kZip_ {x y : TV} {u v : TVs} (h : kSeq x = .ok u) (k : kSeq y = .ok v) : kZip [x, y] = .ok (jnT u.1 v.1, (u.2.zip v.2).map fun z => .tup [z.1, z.2]) := by
  unfold kZip
  dsimp only
  rw [h, k] <;> rfl
theorem jnT_sr (t u : Tg) : jnT t u = .s ∨ jnT t u = .r := by cases t <;> cases u <;> first | exact .inl rfl | exact .inr rfl
/-! ### comprehensions -/
theorem lcD_all {g : TV → Env → Option Env} {c : Env → Res Bool} {el : Env → Res TV} {t : Tg} {env0 : Env} (f : D → D) : ∀ ds : List D,
    (∀ d ∈ ds, ∃ e1 u, g (t, d) env0 = some e1 ∧ c e1 = .ok true ∧ el e1 = .ok (u, f d) ∧ shV (u, f d) = true) → lcD g c el t env0 ds = .ok (ds.map f)
  | [], _ => rfl
  | d :: r, h => by
    obtain ⟨e1, u, h1, h2, h3, h4⟩ := h d List.mem_cons_self
    rw [lcD, h1]
    dsimp only
    rw [h2]
    dsimp only
    rw [h3]
    dsimp only
    rw [if_pos h4, lcD_all f r fun x hx => h x (List.mem_cons_of_mem _ hx)] <;> rfl
theorem lcD_none {g : TV → Env → Option Env} {c : Env → Res Bool} {el : Env → Res TV} {t : Tg} {env0 : Env} : ∀ ds : List D,
    (∀ d ∈ ds, ∃ e1, g (t, d) env0 = some e1 ∧ c e1 = .ok false) → lcD g c el t env0 ds = .ok []
  | [], _ => rfl
  | d :: r, h => by
    obtain ⟨e1, h1, h2⟩ := h d List.mem_cons_self
    rw [lcD, h1]
    dsimp only
    rw [h2]
    dsimp only
    exact lcD_none r fun x hx => h x (List.mem_cons_of_mem _ hx)
/-- two rows alike -/
inductive All2 {α β : Type} (P : α → β → Prop) : List α → List β → Prop
  | nil : All2 P [] []
  | cons {a : α} {b : β} {l : List α} {m : List β} : P a b → All2 P l m → All2 P (a :: l) (b :: m)
theorem All2.len {α β : Type} {P : α → β → Prop} : ∀ {l : List α} {m : List β}, All2 P l m → l.length = m.length
  | _, _, .nil => rfl
  | _, _, .cons _ r => by rw [List.length_cons, List.length_cons, r.len]
theorem lcD_ex {g : TV → Env → Option Env} {c : Env → Res Bool} {el : Env → Res TV} {t : Tg} {env0 : Env} (P : D → D → Prop) : ∀ ds : List D,
    (∀ d ∈ ds, ∃ e1 u x, g (t, d) env0 = some e1 ∧ c e1 = .ok true ∧ el e1 = .ok (u, x) ∧ shV (u, x) = true ∧ P d x) → ∃ l, lcD g c el t env0 ds = .ok l ∧ All2 P ds l
  | [], _ => ⟨[], rfl, .nil⟩
  | d :: r, h => by
    obtain ⟨e1, u, x, h1, h2, h3, h4, h5⟩ := h d List.mem_cons_self
    obtain ⟨l, h6, h7⟩ := lcD_ex P r fun x hx => h x (List.mem_cons_of_mem _ hx)
    refine ⟨x :: l, ?_, .cons h5 h7⟩
    rw [lcD, h1]
    dsimp only
    rw [h2]
    dsimp only
    rw [h3]
    dsimp only
    rw [if_pos h4, h6] <;> rfl
theorem lcK_ok {g : TV → Env → Option Env} {c : Env → Res Bool} {el : Env → Res TV} {env0 : Env} {x : TVs} {l : List D} (h : lcD g c el x.1 env0 x.2 = .ok l) (hl : l.length ≤ 16777216) : lcK g c el env0 x = .ok (.own l) := by
  unfold lcK
  rw [h]
  dsimp only
  rw [if_pos hl]
@[simp] theorem wipeE_nil (env : Env) : wipeE env [] = env := (rfl)
@[simp] theorem wipeE_cons (env : Env) (v : Nat) (vs : List Nat) : wipeE env (v :: vs) = (wipeE env vs).set v none := (rfl)
@[simp] theorem sixS_ (i : Nat) (f fi : Env → Res TV) (env : Env) : sixS i f fi env = ownL i env fun _ => (f env).st env fun x => (fi env).st env fun k => ownL i env fun xs => match k.2 with
  | .int n => match ixN xs.length n with
    | some j => if shV x = true then .nx (env.set i (some (.own (xs.set j x.2)))) else .bad
    | none => .bad
  | _ => .bad := (rfl)
theorem atI_ints {l : List Int} {i : Nat} {v : Int} (h : l[i]? = some v) : atI (l.map D.int) (i : Int) = some (.int v) := by
  obtain ⟨h1, h2⟩ := List.getElem?_eq_some_iff.mp h
  rw [atI_map, atI_nat h1, h2] <;> rfl
theorem rng_map {f : D → D} (g : Nat → Int) (n : Nat) (h : ∀ i < n, f (.int (0 + (i : Nat))) = .int (g i)) : (rngD 0 n).map f = ((List.range n).map g).map D.int := by
  unfold rngD
  rw [List.map_map, List.map_map]
  refine List.map_congr_left fun i hi => ?_
  exact h i (List.mem_range.mp hi)
theorem All2.right {α β : Type} {P : α → β → Prop} {R : β → Prop} (h : ∀ a b, P a b → R b) : ∀ {l : List α} {m : List β}, All2 P l m → ∀ x ∈ m, R x
  | _, _, .nil, x, hx => by cases hx
  | _, _, .cons p r, x, hx => by
    rcases List.mem_cons.mp hx with rfl | hx
    · exact h _ _ p
    · exact r.right h x hx
@[simp] theorem kMin_2 (t u : Tg) (i j : Int) : kMin [(t, .int i), (u, .int j)] = .ok (.s, .int (min i j)) := (rfl)
@[simp] theorem kMax_2 (t u : Tg) (i j : Int) : kMax [(t, .int i), (u, .int j)] = .ok (.s, .int (max i j)) := (rfl)
theorem kFdiv_any {i j : Int} (h : j ≠ 0) (h2 : Sm j) : kFdiv i j = .ok (.s, .int (i.fdiv j)) := by
  unfold kFdiv
  rw [if_pos ⟨h, h2⟩] <;> rfl
theorem kMod_any {i j : Int} (h : j ≠ 0) : kMod i j = .ok (.s, .int (i.fmod j)) := by
  unfold kMod
  rw [if_pos h] <;> rfl
/-! ### exceptions -/
@[simp] theorem raiseF_ (c : Str) (fs : List Str) (args : Env → Res (List TV)) (env : Env) : raiseF c fs args env = (args env).st env fun xs => if xs.all shV = true ∧ xs.length = fs.length ∧ fs ≠ [] ∧ fs.length ≤ 9 then .exc c fs.reverse (xs.map (·.2)).reverse env else .bad := (rfl)
@[simp] theorem fldX_0 (f c : Str) (ks : List Str) (vs : List D) (r : Env) : fldX 0 f (some (.exn c ks vs) :: r) = match ((ks.zip vs).lookup f : Option D) with
    | some d => .ok (.s, d)
    | none => .bad := (rfl)
@[simp] theorem fldX_s (i : Nat) (f : Str) (x : Option EV) (r : Env) : fldX (i + 1) f (x :: r) = fldX i f r := by
  unfold fldX
  rw [List.getElem?_cons_succ]
@[simp] theorem raiseS_ (c : Str) (env : Env) : raiseS c env = .exc c [] [] env := (rfl)
@[simp] theorem tryS_ (F : Env → SR) (hs : List (Str × (Env → SR))) (env : Env) : tryS F hs env = match F env with
  | .exc c ks vs e => match pickH c hs with
    | some S => endX (S e)
    | none => .exc c ks vs e
  | r => r := (rfl)
@[simp] theorem pickH_nil (c : Str) : pickH c [] = none := (rfl)
@[simp] theorem pickH_cons (c h : Str) (S : Env → SR) (r : List (Str × (Env → SR))) : pickH c ((h, S) :: r) = if catD c h = true then some S else pickH c r := (rfl)
@[simp] theorem endX_nx (env : Env) : endX (.nx env) = .nx (dropX env) := (rfl)
@[simp] theorem endX_rt (e : EV) (env : Env) : endX (.rt e env) = .rt e (dropX env) := (rfl)
@[simp] theorem endX_ct (env : Env) : endX (.ct env) = .ct (dropX env) := (rfl)
@[simp] theorem endX_bk (env : Env) : endX (.bk env) = .bk (dropX env) := (rfl)
@[simp] theorem dropX_nil : dropX [] = [] := (rfl)
@[simp] theorem dropX_v (t : Tg) (d : D) (r : Env) : dropX (some (.val t d) :: r) = some (.val t d) :: dropX r := (rfl)
@[simp] theorem dropX_o (xs : List D) (r : Env) : dropX (some (.own xs) :: r) = some (.own xs) :: dropX r := (rfl)
@[simp] theorem dropX_d (ks : List Key) (xs : List D) (r : Env) : dropX (some (.ownd ks xs) :: r) = some (.ownd ks xs) :: dropX r := (rfl)
@[simp] theorem dropX_t (t : OD) (r : Env) : dropX (some (.ownt t) :: r) = some (.ownt t) :: dropX r := (rfl)
@[simp] theorem dropX_n (r : Env) : dropX (none :: r) = none :: dropX r := (rfl)
@[simp] theorem dropX_x (c : Str) (ks : List Str) (vs : List D) (r : Env) : dropX (some (.exn c ks vs) :: r) = none :: dropX r := (rfl)
/-! ### whole numbers, or None -/
def optD : Option Int → D
  | none => .non
  | some i => .int i
@[simp] theorem optD_none : optD none = .non := (rfl)
@[simp] theorem optD_some (i : Int) : optD (some i) = .int i := (rfl)
@[simp] theorem isNonD_o (o : Option Int) : isNonD (optD o) = o.isNone := by cases o <;> rfl
@[simp] theorem imm_o (o : Option Int) : imm (optD o) = true := by cases o <;> simp [optD]
@[simp] theorem isNonD_t (xs : List D) : isNonD (.tup xs) = false := (rfl)
@[simp] theorem isNonD_l (xs : List D) : isNonD (.lst xs) = false := (rfl)
@[simp] theorem tryA_ (F : Env → SR) (h : Str) (i : Nat) (S : Env → SR) (env : Env) : tryA F h i S env = match F env with
  | .exc c ks vs e => if catD c h = true then endA i (S (e.set i (some (.exn c ks vs)))) else .exc c ks vs e
  | r => r := (rfl)
@[simp] theorem endA_nx (i : Nat) (env : Env) : endA i (.nx env) = .nx ((dropX env).set i none) := (rfl)
@[simp] theorem endA_rt (i : Nat) (e : EV) (env : Env) : endA i (.rt e env) = .rt e ((dropX env).set i none) := (rfl)
@[simp] theorem isX_0 (C c : Str) (ks : List Str) (vs : List D) (r : Env) : isX 0 C (some (.exn c ks vs) :: r) = .ok (.s, .bl (catX c C)) := (rfl)
@[simp] theorem isX_s (i : Nat) (C : Str) (x : Option EV) (r : Env) : isX (i + 1) C (x :: r) = isX i C r := by
  unfold isX
  rw [List.getElem?_cons_succ]
end DL

namespace DL
/-! ### places: plain numbers -/
def prodL : List Int → Int
  | [] => 1
  | s :: r => s * prodL r
def pcs : List Int → List Int
  | [] => []
  | _ :: r => prodL r :: pcs r
/-- a place of these sizes -/
def InL : List Int → List Int → Prop
  | [], [] => True
  | s :: r, a :: p => 0 ≤ a ∧ a < s ∧ InL r p
  | _, _ => False
def numL : List Int → List Int → Int
  | _ :: r, a :: p => a * prodL r + numL r p
  | _, _ => 0
def plcL : List Int → Int → List Int
  | [], _ => []
  | _ :: r, n => n / prodL r :: plcL r (n % prodL r)
def PosL (l : List Int) : Prop := ∀ s ∈ l, 1 ≤ s
theorem PosL.tail {s : Int} {r : List Int} (h : PosL (s :: r)) : PosL r := fun x hx => h x (List.mem_cons_of_mem _ hx)
theorem PosL.head {s : Int} {r : List Int} (h : PosL (s :: r)) : 1 ≤ s := h s List.mem_cons_self
theorem prod_pos : ∀ {l : List Int}, PosL l → 0 < prodL l
  | [], _ => by decide
  | s :: r, h => Int.mul_pos (by have := h.head; omega) (prod_pos h.tail)
theorem InL.len : ∀ {l p : List Int}, InL l p → l.length = p.length
  | [], [], _ => rfl
  | _ :: _, _ :: _, h => by rw [List.length_cons, List.length_cons, h.2.2.len]
  | [], _ :: _, h => h.elim
  | _ :: _, [], h => h.elim
theorem num_range : ∀ {l p : List Int}, PosL l → InL l p → 0 ≤ numL l p ∧ numL l p < prodL l
  | [], [], _, _ => by simp [numL, prodL]
  | s :: r, a :: p, h, k => by
    obtain ⟨k1, k2, k3⟩ := k
    obtain ⟨h1, h2⟩ := num_range h.tail k3
    have hp := prod_pos h.tail
    have e1 : 0 ≤ a * prodL r := Int.mul_nonneg k1 (by omega)
    have e2 : (a + 1) * prodL r ≤ s * prodL r := Int.mul_le_mul_of_nonneg_right (by omega) (by omega)
    rw [Int.add_mul, Int.one_mul] at e2
    simp only [numL, prodL]
    omega
  | [], _ :: _, _, h => h.elim
  | _ :: _, [], _, h => h.elim
theorem plc_num : ∀ {l p : List Int}, PosL l → InL l p → plcL l (numL l p) = p
  | [], [], _, _ => rfl
  | s :: r, a :: p, h, k => by
    obtain ⟨k1, k2, k3⟩ := k
    obtain ⟨h1, h2⟩ := num_range h.tail k3
    have hp := prod_pos h.tail
    simp only [numL, plcL]
    have e1 : (a * prodL r + numL r p) / prodL r = a := by
      rw [Int.mul_comm, Int.add_comm, Int.add_mul_ediv_left _ _ (by omega), Int.ediv_eq_zero_of_lt h1 h2, Int.zero_add]
    have e2 : (a * prodL r + numL r p) % prodL r = numL r p := by
      rw [Int.mul_comm, Int.add_comm, Int.add_mul_emod_self_left, Int.emod_eq_of_lt h1 h2]
    rw [e1, e2, plc_num h.tail k3]
  | [], _ :: _, _, h => h.elim
  | _ :: _, [], _, h => h.elim
theorem pcs_len : ∀ l : List Int, (pcs l).length = l.length
  | [] => rfl
  | _ :: r => by rw [pcs, List.length_cons, List.length_cons, pcs_len r]
theorem num_sum : ∀ {l p : List Int}, InL l p → (List.zipWith (· * ·) p (pcs l)).sum = numL l p
  | [], [], _ => rfl
  | s :: r, a :: p, k => by simp [pcs, numL, num_sum k.2.2]
  | [], _ :: _, h => h.elim
  | _ :: _, [], h => h.elim
theorem prod_append : ∀ a b : List Int, prodL (a ++ b) = prodL a * prodL b
  | [], b => by simp [prodL]
  | s :: r, b => by rw [List.cons_append, prodL, prodL, prod_append r b, Int.mul_assoc]
theorem plc_in : ∀ {l : List Int} {n : Int}, PosL l → 0 ≤ n → n < prodL l → InL l (plcL l n) ∧ numL l (plcL l n) = n
  | [], n, _, h, k => by
    simp only [prodL] at k
    exact ⟨trivial, by show (0 : Int) = n; omega⟩
  | s :: r, n, hp, h, k => by
    have hr := prod_pos hp.tail
    obtain ⟨h1, h2⟩ := plc_in (l := r) (n := n % prodL r) hp.tail (Int.emod_nonneg _ (by omega)) (Int.emod_lt_of_pos _ hr)
    have hd : n / prodL r < s := by
      refine Int.ediv_lt_of_lt_mul hr ?_
      exact k
    refine ⟨⟨Int.ediv_nonneg h (by omega), hd, h1⟩, ?_⟩
    simp only [plcL, numL, h2]
    rw [Int.mul_comm]
    exact Int.mul_ediv_add_emod n (prodL r)
/-- bounds: sizes to so many figures -/
theorem prod_bd {k : Nat} : ∀ {l : List Int}, (∀ s ∈ l, Bd k s) → Bd (k * l.length) (prodL l)
  | [], _ => by show (1 : Nat) ≤ 10 ^ (k * 0); simp
  | s :: r, h => by
    have h1 := (h s List.mem_cons_self).mul (prod_bd (l := r) fun x hx => h x (List.mem_cons_of_mem _ hx))
    have e : k + k * r.length = k * (s :: r).length := by rw [List.length_cons, Nat.mul_add]; omega
    rw [e] at h1
    exact h1
/-- the place behind -/
def nextL : List Int → List Int → Option (List Int)
  | s :: r, a :: p => match nextL r p with
    | some q => some (a :: q)
    | none => if a + 1 < s then some ((a + 1) :: List.replicate p.length 0) else none
  | _, _ => none
theorem inL_zero : ∀ {l : List Int} (n : Nat), PosL l → l.length = n → InL l (List.replicate n 0)
  | [], 0, _, _ => trivial
  | s :: r, n + 1, h, e => ⟨by omega, by have := h.head; omega, inL_zero n h.tail (by simpa using e)⟩
theorem num_zero : ∀ (l : List Int) (n : Nat), numL l (List.replicate n 0) = 0
  | [], 0 => rfl
  | [], n + 1 => rfl
  | s :: r, 0 => rfl
  | s :: r, n + 1 => by rw [List.replicate_succ, numL, num_zero r n]; omega
theorem next_spec : ∀ {l p : List Int}, PosL l → InL l p → (∀ q, nextL l p = some q → InL l q ∧ numL l q = numL l p + 1) ∧ (nextL l p = none → numL l p = prodL l - 1)
  | [], [], _, _ => ⟨fun q h => (by cases h), fun _ => rfl⟩
  | s :: r, a :: p, h, k => by
    obtain ⟨k1, k2, k3⟩ := k
    obtain ⟨h1, h2⟩ := next_spec h.tail k3
    simp only [nextL]
    cases hn : nextL r p with
    | some q =>
      obtain ⟨g1, g2⟩ := h1 q hn
      refine ⟨fun z e => ?_, fun e => by cases e⟩
      cases e
      exact ⟨⟨k1, k2, g1⟩, by simp only [numL, g2]; omega⟩
    | none =>
      have g := h2 hn
      by_cases c : a + 1 < s
      · simp only [c, if_true]
        refine ⟨fun z e => ?_, fun e => by cases e⟩
        cases e
        refine ⟨⟨by omega, c, inL_zero _ h.tail k3.len⟩, ?_⟩
        simp only [numL, num_zero, g, Int.add_mul, Int.one_mul]
        omega
      · simp only [c, if_false]
        refine ⟨fun z e => (by cases e), fun _ => ?_⟩
        have : s = a + 1 := by omega
        subst this
        simp only [numL, prodL, g, Int.add_mul, Int.one_mul]
        omega
  | [], _ :: _, _, h => h.elim
  | _ :: _, [], _, h => h.elim
theorem next_drop : ∀ {l p : List Int} (m : Nat) {q : List Int}, l.length = p.length → nextL (l.drop m) (p.drop m) = some q → nextL l p = some (p.take m ++ q)
  | l, p, 0, q, _, h => by simpa using h
  | [], [], m + 1, q, _, h => by simp [nextL] at h
  | s :: r, a :: p, m + 1, q, e, h => by
    have := next_drop (l := r) (p := p) m (by simpa using e) (by simpa using h)
    simp [nextL, this]
/-- drawn places -/
def drP (g : Int → Int → Int) (k : Int) : List Int → List Int
  | [] => []
  | s :: r => g k s :: drP g (k + 1) r
theorem drP_get (g : Int → Int → Int) : ∀ (l : List Int) (k : Int) (i : Nat), (drP g k l)[i]? = (l[i]?).map fun s => g (k + (i : Nat)) s
  | [], k, i => by simp [drP]
  | s :: r, k, 0 => by simp [drP]
  | s :: r, k, i + 1 => by
    simp only [drP, List.getElem?_cons_succ, drP_get g r (k + 1) i]
    have e : k + 1 + (i : Nat) = k + ((i + 1 : Nat) : Int) := by omega
    rw [e]
theorem drP_len (g : Int → Int → Int) : ∀ (l : List Int) (k : Int), (drP g k l).length = l.length
  | [], k => rfl
  | s :: r, k => by rw [drP, List.length_cons, List.length_cons, drP_len g r]
theorem drP_in (g : Int → Int → Int) (hg : ∀ k m, 0 < m → 0 ≤ g k m ∧ g k m < m) : ∀ {l : List Int} (k : Int), PosL l → InL l (drP g k l)
  | [], k, _ => trivial
  | s :: r, k, h => ⟨(hg k s (by have := h.head; omega)).1, (hg k s (by have := h.head; omega)).2, drP_in g hg (k + 1) h.tail⟩
theorem range_get {α : Type} (l : List α) (f : Nat → α) (h : ∀ i, l[i]? = if i < l.length then some (f i) else none) : (List.range l.length).map f = l := by
  apply List.ext_getElem?
  intro i
  rw [h i, List.getElem?_map]
  by_cases hi : i < l.length
  · rw [List.getElem?_range hi, if_pos hi] <;> rfl
  · rw [if_neg hi, List.getElem?_eq_none (by simpa using hi)] <;> rfl
end DL

namespace DL
open PySem PySem.Spec PyProof.Rows L2
/-! ### bounds by bits, found by instances -/
class BdC (i : Int) (n : outParam Nat) : Prop where
  bd : i.natAbs < 2 ^ n
theorem BdC.sm {i : Int} {n : Nat} (h : BdC i n) (hn : n ≤ 498) : Sm i := by
  have h1 : (2 : Nat) ^ n ≤ 2 ^ 498 := Nat.pow_le_pow_right (by decide) hn
  have h2 : i.natAbs < 2 ^ 498 := Nat.lt_of_lt_of_le h.bd h1
  unfold Sm
  omega
theorem BdC.up {i : Int} {n m : Nat} (h : BdC i n) (hn : n ≤ m) : BdC i m := ⟨Nat.lt_of_lt_of_le h.bd (Nat.pow_le_pow_right (by decide) hn)⟩
theorem BdC.of {i : Int} (n : Nat) (h : -(2 ^ n) < i) (k : i < 2 ^ n) : BdC i n := by
  refine ⟨?_⟩
  have e : ((2 ^ n : Nat) : Int) = 2 ^ n := by simp
  omega
theorem BdC.lo {i : Int} {n : Nat} (h : BdC i n) : -(2 ^ n) < i := by
  have e : ((2 ^ n : Nat) : Int) = 2 ^ n := by simp
  have := h.bd
  omega
theorem BdC.hi {i : Int} {n : Nat} (h : BdC i n) : i < 2 ^ n := by
  have e : ((2 ^ n : Nat) : Int) = 2 ^ n := by simp
  have := h.bd
  omega
theorem sum_pow (a b : Nat) : 2 ^ a + 2 ^ b ≤ 2 ^ a * 2 ^ b + 1 := by
  have h1 : 1 ≤ 2 ^ a := Nat.one_le_two_pow
  have h2 : 1 ≤ 2 ^ b := Nat.one_le_two_pow
  obtain ⟨x, hx⟩ := Nat.exists_eq_add_of_le h1
  obtain ⟨y, hy⟩ := Nat.exists_eq_add_of_le h2
  rw [hx, hy, Nat.add_mul, Nat.mul_add, Nat.mul_add]
  omega
instance BdC.lit (k : Nat) : BdC (no_index (OfNat.ofNat k : Int)) (Nat.log2 k + 1) := ⟨by
  show (k : Int).natAbs < _
  rw [Int.natAbs_natCast]
  by_cases h : k = 0
  · subst h; exact Nat.pow_pos (by decide)
  · exact (Nat.log2_lt h).mp (Nat.lt_succ_self _)⟩
instance BdC.mul {i j : Int} {a b : Nat} [h : BdC i a] [k : BdC j b] : BdC (i * j) (a + b) := ⟨by
  rw [Int.natAbs_mul, Nat.pow_add]
  exact Nat.mul_lt_mul'' h.bd k.bd⟩
instance BdC.add {i j : Int} {a b : Nat} [h : BdC i a] [k : BdC j b] : BdC (i + j) (a + b) := ⟨by
  have h1 := h.bd
  have h2 := k.bd
  have := sum_pow a b
  rw [Nat.pow_add]
  omega⟩
instance BdC.sub {i j : Int} {a b : Nat} [h : BdC i a] [k : BdC j b] : BdC (i - j) (a + b) := ⟨by
  have h1 := h.bd
  have h2 := k.bd
  have := sum_pow a b
  rw [Nat.pow_add]
  omega⟩
instance BdC.neg {i : Int} {a : Nat} [h : BdC i a] : BdC (-i) a := ⟨by
  have h1 := h.bd
  omega⟩
instance BdC.max {i j : Int} {a b : Nat} [h : BdC i a] [k : BdC j b] : BdC (max i j) (a + b) := ⟨by
  have h1 := h.bd
  have h2 := k.bd
  have h3 : 1 ≤ 2 ^ a := Nat.one_le_two_pow
  have h4 : 1 ≤ 2 ^ b := Nat.one_le_two_pow
  have := sum_pow a b
  rw [Nat.pow_add]
  rw [Int.max_def]
  split <;> omega⟩
instance BdC.min {i j : Int} {a b : Nat} [h : BdC i a] [k : BdC j b] : BdC (min i j) (a + b) := ⟨by
  have h1 := h.bd
  have h2 := k.bd
  have h3 : 1 ≤ 2 ^ a := Nat.one_le_two_pow
  have h4 : 1 ≤ 2 ^ b := Nat.one_le_two_pow
  have := sum_pow a b
  rw [Nat.pow_add]
  rw [Int.min_def]
  split <;> omega⟩
instance BdC.emod {i : Int} {k : Nat} [z : NeZero k] : BdC (i % (no_index (OfNat.ofNat k))) (Nat.log2 k + 1) := ⟨by
  have h0 : k ≠ 0 := z.out
  have h1 : k < 2 ^ (Nat.log2 k + 1) := (Nat.log2_lt h0).mp (Nat.lt_succ_self _)
  show (i % (k : Int)).natAbs < _
  have h2 := Int.emod_nonneg i (b := (k : Int)) (by omega)
  have h3 := Int.emod_lt_of_pos i (b := (k : Int)) (by omega)
  omega⟩
instance BdC.ediv {i : Int} {k : Nat} {a : Nat} [h : BdC i a] : BdC (i / (no_index (OfNat.ofNat k))) a := ⟨by
  have h1 := h.bd
  show (i / (k : Int)).natAbs < _
  have := Int.natAbs_ediv_le_natAbs i (k : Int)
  omega⟩
theorem kMul_c {t u : Tg} {i j : Int} {a b : Nat} [h : BdC i a] [k : BdC j b] (ha : a ≤ 498) (hb : b ≤ 498) : kMul (t, .int i) (u, .int j) = .ok (.val .s (.int (i * j))) := kMul_i (h.sm ha) (k.sm hb)
theorem kFdiv_c {i j : Int} {b : Nat} [k : BdC j b] (hj : 0 < j) (hb : b ≤ 498) : kFdiv i j = .ok (.s, .int (i / j)) := kFdiv_ hj (k.sm hb)
theorem kDivmod_c {t u : Tg} {i j : Int} {b : Nat} [k : BdC j b] (hj : 0 < j) (hb : b ≤ 498) : kDivmod [(t, .int i), (u, .int j)] = .ok (.s, .tup [.int (i / j), .int (i % j)]) := kDivmod_i hj (k.sm hb)
theorem kRng1_c {t : Tg} {j : Int} {b : Nat} [k : BdC j b] (hb : b ≤ 60) : kRng1 [(t, .int j)] = .ok (.s, rngD 0 j.toNat) := by
  have h := (k.up hb).lo
  have h2 := (k.up hb).hi
  rw [kRng1_, if_pos ⟨by omega, by omega⟩]
theorem kPow_c {j : Int} (h : 0 ≤ j) (h2 : j ≤ 1000000) : kPow 10 j = .ok (.s, .int (10 ^ j.toNat)) := kPow_10 h h2
theorem kLst_i (xs : List TV) (h : xs.all shV = true) (hl : xs.length ≤ 16777216) : kLst xs = .ok (.own (xs.map fun x => x.2)) := by
  unfold kLst
  simp [h, hl]

@[simp] theorem kNe_l0 (t u : Tg) (a : List Int) : kNe (t, .lst (a.map D.int)) (u, .lst []) = .ok (.s, .bl (!decide (a = []))) := kNe_ll t u a []
@[simp] theorem kNe_l00 (t u : Tg) : kNe (t, .lst []) (u, .lst []) = .ok (.s, .bl false) := kNe_ll t u [] []
@[simp] theorem kEq_l0 (t u : Tg) (a : List Int) : kEq (t, .lst (a.map D.int)) (u, .lst []) = .ok (.s, .bl (decide (a = []))) := kEq_ll t u a []
@[simp] theorem kEq_l00 (t u : Tg) : kEq (t, .lst []) (u, .lst []) = .ok (.s, .bl true) := kEq_ll t u [] []
/-! ### places as data -/
def tupD (p : List Int) : D := .tup (p.map D.int)
@[simp] theorem imm_tupD (p : List Int) : imm (tupD p) = true := by simp [tupD]
@[simp] theorem imms_tups : ∀ ps : List (List Int), imms (ps.map tupD) = true
  | [] => by simp
  | p :: r => by rw [List.map_cons, imms_cons, imms_tups r, imm_tupD] <;> rfl
theorem dOks_tups (n : Nat) : ∀ ps : List (List Int), dOks (n + 1) (ps.map tupD) = true
  | [] => by simp [dOks]
  | p :: r => by rw [List.map_cons, dOks, dOks_tups n r, tupD, dOk, dOks_ints] <;> rfl
theorem dOk_tups (ps : List (List Int)) : dOk 60 (.lst (ps.map tupD)) = true := by rw [dOk]; exact dOks_tups _ _
theorem kNe_same {t u : Tg} {d : D} (h : dOk 60 d = true) : kNe (t, d) (u, d) = .ok (.s, .bl false) := by
  unfold kNe
  rw [if_pos ⟨h, h⟩]
  dsimp only
  rw [deq_self h] <;> rfl
theorem kEq_same {t u : Tg} {d : D} (h : dOk 60 d = true) : kEq (t, d) (u, d) = .ok (.s, .bl true) := by
  unfold kEq
  rw [if_pos ⟨h, h⟩]
  dsimp only
  rw [deq_self h] <;> rfl
/-- one axis more -/
def ext1 (s : Int) : List (List Int) → List (List Int)
  | [] => []
  | p :: r => ((List.range s.toNat).map fun (i : Nat) => p ++ [(i : Int)]) ++ ext1 s r
theorem ext1_len (s : Int) : ∀ ps : List (List Int), (ext1 s ps).length = ps.length * s.toNat
  | [] => by simp [ext1]
  | p :: r => by rw [ext1, List.length_append, ext1_len s r, List.length_map, List.length_range, List.length_cons, Nat.add_mul]; omega
theorem ext1_ax (s : Int) (m : Nat) : ∀ ps : List (List Int), (∀ p ∈ ps, p.length = m) → ∀ p ∈ ext1 s ps, p.length = m + 1
  | [], _, q, hq => by cases hq
  | p :: r, h, q, hq => by
    rcases List.mem_append.mp hq with hq | hq
    · obtain ⟨i, _, rfl⟩ := List.mem_map.mp hq
      simp [h p List.mem_cons_self]
    · exact ext1_ax s m r (fun x hx => h x (List.mem_cons_of_mem _ hx)) q hq
/-- all places, by rising numbers -/
def allP : List Int → List (List Int) → List (List Int)
  | [], ps => ps
  | s :: r, ps => allP r (ext1 s ps)
theorem allP_len : ∀ (l : List Int) (ps : List (List Int)), PosL l → ((allP l ps).length : Int) = ps.length * prodL l
  | [], ps, _ => by simp [allP, prodL]
  | s :: r, ps, h => by
    have hs := h.head
    rw [allP, allP_len r _ h.tail, ext1_len, prodL, Int.natCast_mul, Int.toNat_of_nonneg (by omega), Int.mul_assoc]
end DL

namespace DL.Law
open PySem PySem.Spec PyProof.Rows L2
noncomputable section
/-! ### the mirrors: each def as a function of data -/
def c_axes : List Str := ["View"]
def c_first : List Str := ["View"]
def c_room : List Str := ["View"]
def L1_count_of : Env → SR :=
  (setS 1 (bin2 (getV 1) (getV 2) kMul))
def B_count_of : Env → SR :=
  (seqS (setS 1 (meD (cst (.int 1))))
    (seqS (frzD 0 (forS (bin1 (getV 0) kSeq) (gdN 2) L1_count_of))
    (retV 1)))
def F_count_of : List EV → Res EV := runD 3 B_count_of
def B_View_sizes : Env → SR :=
  (retS (lcS (bin1 (bin1 (getV 0) (kFld c_axes "axes")) kSeqO) [1, 2] (gdT 2 (gdC (gdN 1) (gdC (gdN 2) gdNil))) yes (getV 1)))
def F_View_sizes : List EV → Res EV := runD 3 B_View_sizes
def tb_sizes : Tbl := [("View", F_View_sizes)]
def B_View_count : Env → SR :=
  (retS (thenK (argC (mvD (methS "sizes" tb_sizes (getV 0) argN)) argN) (callD F_count_of)))
def F_View_count : List EV → Res EV := runD 1 B_View_count
def tb_count : Tbl := [("View", F_View_count)]
def L1_View_cells : Env → SR :=
  (extS 4 (mvD (lcS (thenK (argC (getV 2) argN) kRng1) [6] (gdN 6) yes (mvD (bin2 (getV 5) (mvD (bin2 (getV 3) (getV 6) kMul)) kAdd)))))
def L2_View_cells : Env → SR :=
  (seqS (setS 4 (thenK argN kLst))
    (seqS (frzD 1 (forS (bin1 (getV 1) kSeq) (gdN 5) L1_View_cells))
    (movS 1 4)))
def B_View_cells : Env → SR :=
  (seqS (ifS (tstB (bin2 (mvD (methS "count" tb_count (getV 0) argN)) (cst (.int (4096))) (asI2 kGt)))
    (raiseF "TooMany" ["number"] (argC (mvD (methS "count" tb_count (getV 0) argN)) argN))
    SR.nx)
    (seqS (setS 1 (thenK (argC (bin1 (getV 0) (kFld c_first "first")) argN) kLst))
    (seqS (forS (bin1 (bin1 (getV 0) (kFld c_axes "axes")) kSeq) (gdT 2 (gdC (gdN 2) (gdC (gdN 3) gdNil))) L2_View_cells)
    (retV 1))))
def F_View_cells : List EV → Res EV := runD 7 B_View_cells
def tb_cells : Tbl := [("View", F_View_cells)]
def L1_sources : Env → SR :=
  (frzD 4 (dsetS 2 (getV 4) (getV 3)))
def B_sources : Env → SR :=
  (seqS (ifS (tstB (bin2 (bin1 (getV 0) (kFld c_room "room")) (bin1 (getV 1) (kFld c_room "room")) kNe))
    (raiseS "NoPair")
    SR.nx)
    (seqS (ifS (tstB (bin2 (mvD (methS "count" tb_count (getV 0) argN)) (mvD (methS "count" tb_count (getV 1) argN)) kNe))
    (raiseS "NoCount")
    SR.nx)
    (seqS (setS 2 dict0)
    (seqS (forS (thenK (argC (mvD (methS "cells" tb_cells (getV 0) argN)) (argC (mvD (methS "cells" tb_cells (getV 1) argN)) argN)) kZip) (gdT 2 (gdC (gdN 3) (gdC (gdN 4) gdNil))) L1_sources)
    (retV 2)))))
def F_sources : List EV → Res EV := runD 5 B_sources
def B__law_draw : Env → SR :=
  (seqS (ifS (tstB (bin2 (getV 1) (thenK (argC (getV 0) argN) kLen) (asI2 kLt)))
    (retS (meD (bin2 (bin2 (getV 0) (getV 1) kIx) (getV 2) (asI2 kMod))))
    SR.nx)
    (seqS (setS 3 (bin2 (mvD (bin2 (mvD (bin2 (getV 1) (getV 1) kMul)) (cst (.int 7919)) kMul)) (cst (.int 104729)) kAdd))
    (seqS (ifS (tstB (bin2 (thenK (argC (getV 0) argN) kLen) (cst (.int 0)) (asI2 kGt)))
    (seqS (setS 4 (meD (bin2 (bin2 (getV 0) (bin2 (getV 1) (thenK (argC (getV 0) argN) kLen) (asI2 kMod)) kIx) (cst (.int 999999937)) (asI2 kMod))))
    (setS 3 (bin2 (mvD (bin2 (getV 4) (mvD (bin2 (cst (.int 48271)) (mvD (bin2 (mvD (bin2 (cst (.int 2)) (getV 1) kMul)) (getV 1) kMul)) kAdd)) kMul)) (mvD (bin2 (getV 1) (cst (.int 69621)) kMul)) kAdd)))
    SR.nx)
    (retS (meD (bin2 (bin2 (mvD (bin2 (bin2 (getV 3) (cst (.int 2147483647)) (asI2 kMod)) (cst (.int 16807)) kMul)) (cst (.int 2147483629)) (asI2 kMod)) (getV 2) (asI2 kMod)))))))
def F__law_draw : List EV → Res EV := runD 5 B__law_draw
def L1__law_sizes : Env → SR :=
  (seqS (setS 5 (meD (bin2 (mvD (thenK (argC (cst (.int 1)) (argC (cst (.int 2)) (argC (cst (.int 3)) (argC (cst (.int 4)) (argC (cst (.int 5)) (argC (cst (.int 7)) (argC (cst (.int 12)) (argC (cst (.int 2)) argN)))))))) kLst)) (mvD (thenK (argC (getV 0) (argC (mvD (bin2 (mvD (bin2 (getV 1) (cst (.int 1)) kAdd)) (getV 4) kAdd)) (argC (cst (.int 8)) argN))) (callD F__law_draw))) kIx)))
    (ifS (tstB (bin2 (mvD (bin2 (getV 3) (getV 5) kMul)) (cst (.int 60)) (asI2 kLe)))
    (seqS (setS 3 (bin2 (getV 3) (getV 5) kMul))
    (frzD 5 (appS 2 (getV 5))))
    SR.nx))
def B__law_sizes : Env → SR :=
  (seqS (setS 2 (thenK argN kLst))
    (seqS (setS 3 (meD (cst (.int 1))))
    (seqS (forS (thenK (argC (mvD (thenK (argC (getV 0) (argC (getV 1) (argC (cst (.int 4)) argN))) (callD F__law_draw))) argN) kRng1) (gdN 4) L1__law_sizes)
    (frzD 2 (frzD 3 (retS (meD (thenK (argC (getV 2) (argC (getV 3) argN)) kTup))))))))
def F__law_sizes : List EV → Res EV := runD 6 B__law_sizes
def L1__law_axes : Env → SR :=
  (seqS (setS 6 (meD (bin2 (getV 2) (bin2 (bin2 (thenK (argC (getV 2) argN) kLen) (cst (.int 1)) (asI2 kSub)) (getV 5) (asI2 kSub)) kIx)))
    (seqS (setS 7 (thenK (argC (getV 0) (argC (mvD (bin2 (getV 1) (getV 5) kAdd)) (argC (bin2 (cst (.int 10)) (cst (.int 6)) (asI2 kPow)) argN))) (callD F__law_draw)))
    (seqS (frzD 4 (setS 8 (meD (bin2 (mvD (thenK (argC (getV 4) (argC (bin2 (cst (.int 0)) (getV 4) (asI2 kSub)) (argC (cst (.int 0)) (argC (cst (.int 1)) (argC (bin1 (cst (.int 1)) kNeg) (argC (cst (.int 2)) (argC (getV 4) (argC (bin2 (bin2 (bin2 (getV 7) (cst (.int 8)) (asI2 kFdiv)) (cst (.int 9)) (asI2 kMod)) (cst (.int 4)) (asI2 kSub)) argN)))))))) kLst)) (bin2 (getV 7) (cst (.int 8)) (asI2 kMod)) kIx))))
    (seqS (frzD 6 (frzD 8 (setS 3 (bin2 (mvD (thenK (argC (thenK (argC (getV 6) (argC (getV 8) argN)) kTup) argN) kLst)) (getV 3) kAdd))))
    (setS 4 (bin2 (getV 4) (getV 6) kMul))))))
def B__law_axes : Env → SR :=
  (seqS (setS 3 (thenK argN kLst))
    (seqS (setS 4 (meD (cst (.int 1))))
    (seqS (forS (thenK (argC (thenK (argC (getV 2) argN) kLen) argN) kRng1) (gdN 5) L1__law_axes)
    (retV 3))))
def F__law_axes : List EV → Res EV := runD 9 B__law_axes
def L1__law_reach : Env → SR :=
  (seqS (setS 1 (bin2 (getV 1) (thenK (argC (cst (.int 0)) (argC (mvD (bin2 (getV 4) (bin2 (getV 3) (cst (.int 1)) (asI2 kSub)) kMul)) argN)) kMin) kAdd))
    (setS 2 (bin2 (getV 2) (thenK (argC (cst (.int 0)) (argC (mvD (bin2 (getV 4) (bin2 (getV 3) (cst (.int 1)) (asI2 kSub)) kMul)) argN)) kMax) kAdd)))
def B__law_reach : Env → SR :=
  (seqS (setS 1 (meD (cst (.int 0))))
    (seqS (setS 2 (meD (cst (.int 0))))
    (seqS (frzD 0 (forS (bin1 (getV 0) kSeq) (gdT 2 (gdC (gdN 3) (gdC (gdN 4) gdNil))) L1__law_reach))
    (frzD 1 (frzD 2 (retS (meD (thenK (argC (getV 1) (argC (getV 2) argN)) kTup))))))))
def F__law_reach : List EV → Res EV := runD 5 B__law_reach
def L1__law_views : Env → SR :=
  (seqS (asgS (bin2 (getV 3) (getV 6) kIx) (gdT 2 (gdC (gdN 10) (gdC (gdN 11) gdNil))))
    (appS 5 (thenK (argC (bin2 (mvD (thenK (argC (getV 0) (argC (mvD (bin2 (cst (.int 15)) (getV 6) kAdd)) (argC (bin2 (getV 4) (bin2 (getV 11) (getV 10) (asI2 kSub)) (asI2 kSub)) argN))) (callD F__law_draw))) (getV 10) (asI2 kSub)) (argC (bin2 (getV 2) (getV 6) kIx) argN)) kTup)))
def B__law_views : Env → SR :=
  (seqS (asgS (mvD (thenK (argC (getV 0) (argC (cst (.int 2)) argN)) (callD F__law_sizes))) (gdT 2 (gdC (gdN 7) (gdC (gdN 8) gdNil))))
    (seqS (frzD 7 (frzD 8 (setS 1 (meD (bin2 (mvD (thenK (argC (getV 7) (argC (mvD (bin1 (getV 7) kRev)) (argC (mvD (thenK (argC (getV 8) argN) kLst)) (argC (mvD (thenK (argC (cst (.int 1)) (argC (getV 8) argN)) kLst)) (argC (mvD (thenK (argC (getV 8) (argC (cst (.int 1)) argN)) kLst)) (argC (mvD (bin2 (getV 7) (mvD (thenK (argC (cst (.int 1)) argN) kLst)) kAdd)) argN)))))) kLst)) (mvD (thenK (argC (getV 0) (argC (cst (.int 6)) (argC (cst (.int 6)) argN))) (callD F__law_draw))) kIx)))))
    (seqS (setS 2 (thenK (argC (mvD (thenK (argC (getV 0) (argC (cst (.int 7)) (argC (getV 7) argN))) (callD F__law_axes))) (argC (mvD (thenK (argC (getV 0) (argC (cst (.int 10)) (argC (getV 1) argN))) (callD F__law_axes))) argN)) kLst))
    (seqS (setS 3 (lcS (bin1 (getV 2) kSeqO) [9] (gdN 9) yes (mvD (thenK (argC (getV 9) argN) (callD F__law_reach)))))
    (seqS (setS 4 (bin2 (mvD (bin2 (cst (.int 1)) (thenK (argC (mvD (lcS (bin1 (getV 3) kSeqO) [10, 11] (gdT 2 (gdC (gdN 10) (gdC (gdN 11) gdNil))) yes (bin2 (getV 11) (getV 10) (asI2 kSub)))) argN) kMax) kAdd)) (mvD (thenK (argC (getV 0) (argC (cst (.int 14)) (argC (cst (.int 5)) argN))) (callD F__law_draw))) kAdd))
    (seqS (setS 5 (thenK argN kLst))
    (seqS (forS (thenK (argC (cst (.int 2)) argN) kRng1) (gdN 6) L1__law_views)
    (frzD 4 (retS (meD (thenK (argC (getV 4) (argC (bin2 (getV 5) (cst (.int 0)) kIx) (argC (bin2 (getV 5) (cst (.int 1)) kIx) argN))) kTup)))))))))))
def F__law_views : List EV → Res EV := runD 12 B__law_views
def B__law_far : Env → SR :=
  (retS (meD (thenK (argC (mvD (bin2 (bin2 (getV 1) (cst (.int 0)) kIx) (getV 2) kMul)) (argC (mvD (lcS (bin1 (bin2 (getV 1) (cst (.int 1)) kIx) kSeq) [3, 4] (gdT 2 (gdC (gdN 3) (gdC (gdN 4) gdNil))) yes (thenK (argC (getV 3) (argC (mvD (bin2 (getV 4) (getV 2) kMul)) argN)) kTup))) argN)) kTup)))
def F__law_far : List EV → Res EV := runD 5 B__law_far
def L1__law_cells : Env → SR :=
  (extS 5 (mvD (lcS (thenK (argC (getV 3) argN) kRng1) [7] (gdN 7) yes (mvD (bin2 (getV 6) (mvD (bin2 (getV 7) (getV 4) kMul)) kAdd)))))
def L2__law_cells : Env → SR :=
  (seqS (setS 5 (thenK argN kLst))
    (seqS (frzD 2 (forS (bin1 (getV 2) kSeq) (gdN 6) L1__law_cells))
    (movS 2 5)))
def B__law_cells : Env → SR :=
  (seqS (frzD 0 (setS 2 (thenK (argC (getV 0) argN) kLst)))
    (seqS (frzD 1 (forS (bin1 (getV 1) kSeq) (gdT 2 (gdC (gdN 3) (gdC (gdN 4) gdNil))) L2__law_cells))
    (retV 2)))
def F__law_cells : List EV → Res EV := runD 8 B__law_cells
def L1__law_due : Env → SR :=
  (frzD 4 (dsetS 2 (getV 4) (getV 3)))
def B__law_due : Env → SR :=
  (seqS (setS 2 dict0)
    (seqS (forS (thenK (argC (mvD (thenK (argC (bin2 (getV 0) (cst (.int 0)) kIx) (argC (bin2 (getV 0) (cst (.int 1)) kIx) argN)) (callD F__law_cells))) (argC (mvD (thenK (argC (bin2 (getV 1) (cst (.int 0)) kIx) (argC (bin2 (getV 1) (cst (.int 1)) kIx) argN)) (callD F__law_cells))) argN)) kZip) (gdT 2 (gdC (gdN 3) (gdC (gdN 4) gdNil))) L1__law_due)
    (retV 2)))
def F__law_due : List EV → Res EV := runD 5 B__law_due
def B__law_whole : Env → SR :=
  (retS (meD (andV (bin1 (getV 0) (kIsi "int")) (bin1 (bin1 (getV 0) (kIsi "bool")) kNotB))))
def F__law_whole : List EV → Res EV := runD 1 B__law_whole
def B__law_right : Env → SR :=
  (seqS (ifS (orB (notB (bin1 (bin1 (getV 0) (kIsi "dict")) truK)) (tstB (bin2 (getV 0) (getV 1) kDNe)))
    (retS (meD (cst (.bl false))))
    SR.nx)
    (frzD 0 (retS (meD (bin2 (mvD (lcKS 0 [2] (gdN 2) (orB (notB (bin1 (mvD (thenK (argC (getV 2) argN) (callD F__law_whole))) truK)) (notB (bin1 (mvD (thenK (argC (bin2 (getV 0) (getV 2) kDget) argN) (callD F__law_whole))) truK))) (getV 2))) (mvD (thenK argN kLst)) kEq)))))
def F__law_right : List EV → Res EV := runD 3 B__law_right
def B_is_whole : Env → SR :=
  (retS (meD (andV (bin1 (getV 0) (kIsi "int")) (bin1 (bin1 (getV 0) (kIsi "bool")) kNotB))))
def F_is_whole : List EV → Res EV := runD 1 B_is_whole
def B_is_axis : Env → SR :=
  (seqS (ifS (orB (notB (bin1 (bin1 (getV 0) (kIsi "tuple")) truK)) (tstB (bin2 (thenK (argC (getV 0) argN) kLen) (cst (.int 2)) kNe)))
    (retS (meD (cst (.bl false))))
    SR.nx)
    (retS (meD (andV (mvD (thenK (argC (bin2 (getV 0) (cst (.int 0)) kIx) argN) (callD F_is_whole))) (andV (chain2 (cst (.int 1)) (bin2 (getV 0) (cst (.int 0)) kIx) (cst (.int (1000000000))) (asI2 kLe) (asI2 kLe)) (mvD (thenK (argC (bin2 (getV 0) (cst (.int 1)) kIx) argN) (callD F_is_whole))))))))
def F_is_axis : List EV → Res EV := runD 1 B_is_axis
def L1_kept_axes : Env → SR :=
  (seqS (ifS (notB (bin1 (mvD (thenK (argC (getV 2) argN) (callD F_is_axis))) truK))
    (raiseS "NoView")
    SR.nx)
    (ifS (tstB (bin2 (bin2 (getV 2) (cst (.int 0)) kIx) (cst (.int 1)) kEq))
    (appS 1 (thenK (argC (cst (.int 1)) (argC (cst (.int 0)) argN)) kTup))
    (frzD 2 (appS 1 (getV 2)))))
def B_kept_axes : Env → SR :=
  (seqS (ifS (orB (notB (bin1 (bin1 (getV 0) (kIsi "list")) truK)) (tstB (bin2 (thenK (argC (getV 0) argN) kLen) (cst (.int (8))) (asI2 kGt))))
    (raiseS "NoView")
    SR.nx)
    (seqS (setS 1 (thenK argN kLst))
    (seqS (frzD 0 (forS (bin1 (getV 0) kSeq) (gdN 2) L1_kept_axes))
    (retV 1))))
def F_kept_axes : List EV → Res EV := runD 3 B_kept_axes
def B_View_least : Env → SR :=
  (retS (bin2 (bin1 (getV 0) (kFld c_first "first")) (thenK (argC (mvD (lcS (bin1 (bin1 (getV 0) (kFld c_axes "axes")) kSeqO) [1, 2] (gdT 2 (gdC (gdN 1) (gdC (gdN 2) gdNil))) yes (thenK (argC (cst (.int 0)) (argC (mvD (bin2 (getV 2) (bin2 (getV 1) (cst (.int 1)) (asI2 kSub)) kMul)) argN)) kMin))) argN) kSum) kAdd))
def F_View_least : List EV → Res EV := runD 3 B_View_least
def B_View_greatest : Env → SR :=
  (retS (bin2 (bin1 (getV 0) (kFld c_first "first")) (thenK (argC (mvD (lcS (bin1 (bin1 (getV 0) (kFld c_axes "axes")) kSeqO) [1, 2] (gdT 2 (gdC (gdN 1) (gdC (gdN 2) gdNil))) yes (thenK (argC (cst (.int 0)) (argC (mvD (bin2 (getV 2) (bin2 (getV 1) (cst (.int 1)) (asI2 kSub)) kMul)) argN)) kMax))) argN) kSum) kAdd))
def F_View_greatest : List EV → Res EV := runD 3 B_View_greatest
def tb_greatest : Tbl := [("View", F_View_greatest)]
def tb_least : Tbl := [("View", F_View_least)]
def B_View_init : Env → SR :=
  (seqS (ifS (orB (notB (bin1 (mvD (thenK (argC (getV 1) argN) (callD F_is_whole))) truK)) (notB (tstB (chain2 (cst (.int 1)) (getV 1) (cst (.int (1000000000000000000))) (asI2 kLe) (asI2 kLe)))))
    (raiseS "NoView")
    SR.nx)
    (seqS (ifS (notB (bin1 (mvD (thenK (argC (getV 2) argN) (callD F_is_whole))) truK))
    (raiseS "NoView")
    SR.nx)
    (seqS (frzD 1 (setFS 0 c_room "room" (meD (getV 1))))
    (seqS (frzD 2 (setFS 0 c_first "first" (meD (getV 2))))
    (seqS (setFS 0 c_axes "axes" (thenK (argC (getV 3) argN) (callD F_kept_axes)))
    (ifS (orB (tstB (bin2 (mvD (methS "least" tb_least (getV 0) argN)) (cst (.int 0)) (asI2 kLt))) (tstB (bin2 (mvD (methS "greatest" tb_greatest (getV 0) argN)) (getV 1) (asI2 kGe))))
    (raiseS "NoView")
    SR.nx))))))
def I_View : List EV → InitR := runI "View" 4 B_View_init
def B_law : Env → SR :=
  (seqS (asgS (mvD (thenK (argC (getV 0) argN) (callD F__law_views))) (gdT 3 (gdC (gdN 4) (gdC (gdN 5) (gdC (gdN 6) gdNil)))))
    (seqS (ifS (tstB (bin2 (mvD (thenK (argC (getV 0) (argC (cst (.int 0)) (argC (cst (.int 2)) argN))) (callD F__law_draw))) (cst (.int 1)) kEq))
    (seqS (setS 7 (bin2 (bin2 (cst (.int 10)) (cst (.int 15)) (asI2 kPow)) (mvD (thenK (argC (getV 0) (argC (cst (.int 1)) (argC (bin2 (cst (.int 10)) (cst (.int 6)) (asI2 kPow)) argN))) (callD F__law_draw))) kAdd))
    (seqS (setS 5 (thenK (argC (getV 4) (argC (getV 5) (argC (getV 7) argN))) (callD F__law_far)))
    (seqS (setS 6 (thenK (argC (getV 4) (argC (getV 6) (argC (getV 7) argN))) (callD F__law_far)))
    (setS 4 (bin2 (getV 4) (getV 7) kMul)))))
    SR.nx)
    (seqS (setS 1 (thenK (argC (mvD (thenK (argC (getV 4) (argC (bin2 (getV 5) (cst (.int 0)) kIx) (argC (mvD (thenK (argC (bin2 (getV 5) (cst (.int 1)) kIx) argN) kList)) argN))) (makeD "View" I_View))) (argC (mvD (thenK (argC (getV 4) (argC (bin2 (getV 6) (cst (.int 0)) kIx) (argC (mvD (thenK (argC (bin2 (getV 6) (cst (.int 1)) kIx) argN) kList)) argN))) (makeD "View" I_View))) argN)) kLst))
    (seqS (setS 2 (thenK (argC (getV 5) (argC (getV 6) argN)) (callD F__law_due)))
    (seqS (setS 3 (thenK (argC (bin2 (getV 1) (cst (.int 0)) kIx) (argC (bin2 (getV 1) (cst (.int 1)) kIx) argN)) (callD F_sources)))
    (seqS (ifS (notB (bin1 (mvD (thenK (argC (getV 3) (argC (getV 2) argN)) (callD F__law_right))) truK))
    (retS (meD (cst (.bl false))))
    SR.nx)
    (seqS (dclrS 3)
    (seqS (ifS (notB (bin1 (mvD (thenK (argC (mvD (thenK (argC (bin2 (getV 1) (cst (.int 1)) kIx) (argC (bin2 (getV 1) (cst (.int 0)) kIx) argN)) (callD F_sources))) (argC (mvD (thenK (argC (getV 6) (argC (getV 5) argN)) (callD F__law_due))) argN)) (callD F__law_right))) truK))
    (retS (meD (cst (.bl false))))
    SR.nx)
    (seqS (dsetS 3 (cst (.int 3)) (bin1 (cst (.int 5)) kNeg))
    (frzD 2 (retS (thenK (argC (mvD (thenK (argC (bin2 (getV 1) (cst (.int 0)) kIx) (argC (bin2 (getV 1) (cst (.int 1)) kIx) argN)) (callD F_sources))) (argC (getV 2) argN)) (callD F__law_right)))))))))))))
def F_law : List EV → Res EV := runD 8 B_law
@[simp] theorem fld_View_room (t : Tg) (x0 x1 x2 : D) : kFld c_room "room" (t, .obj "View" ["room", "first", "axes"] [x0, x1, x2]) = .ok (kidT t 0 x0) := by
  unfold kFld; dsimp only; rw [if_pos (by decide), show lookI "room" ["room", "first", "axes"] = some 0 from by decide] <;> rfl
@[simp] theorem fld_View_first (t : Tg) (x0 x1 x2 : D) : kFld c_first "first" (t, .obj "View" ["room", "first", "axes"] [x0, x1, x2]) = .ok (kidT t 1 x1) := by
  unfold kFld; dsimp only; rw [if_pos (by decide), show lookI "first" ["room", "first", "axes"] = some 1 from by decide] <;> rfl
@[simp] theorem fld_View_axes (t : Tg) (x0 x1 x2 : D) : kFld c_axes "axes" (t, .obj "View" ["room", "first", "axes"] [x0, x1, x2]) = .ok (kidT t 2 x2) := by
  unfold kFld; dsimp only; rw [if_pos (by decide), show lookI "axes" ["room", "first", "axes"] = some 2 from by decide] <;> rfl
@[simp] theorem sfl_View_room (env : Env) (e : EV)  : setFE 0 c_room "room" (some (.ownt (.obj "View" [] [])) :: env) e = match evOD e with | some z => .nx (some (.ownt (.obj "View" ["room"] [z])) :: env) | none => .bad := by
  unfold setFE; cases evOD e with | none => rfl | some z => ?_
  dsimp only [List.getElem?_cons_zero]; rw [if_pos ⟨by decide, by decide⟩, show putK ("room" : Str) [] = (["room"] : List Str) from by decide] <;> rfl
@[simp] theorem sfl_View_first (env : Env) (e : EV) (y0 : OD) : setFE 0 c_first "first" (some (.ownt (.obj "View" ["room"] [y0])) :: env) e = match evOD e with | some z => .nx (some (.ownt (.obj "View" ["room", "first"] [y0, z])) :: env) | none => .bad := by
  unfold setFE; cases evOD e with | none => rfl | some z => ?_
  dsimp only [List.getElem?_cons_zero]; rw [if_pos ⟨by decide, by decide⟩, show putK ("first" : Str) ["room"] = (["room", "first"] : List Str) from by decide] <;> rfl
@[simp] theorem sfl_View_axes (env : Env) (e : EV) (y0 y1 : OD) : setFE 0 c_axes "axes" (some (.ownt (.obj "View" ["room", "first"] [y0, y1])) :: env) e = match evOD e with | some z => .nx (some (.ownt (.obj "View" ["room", "first", "axes"] [y0, y1, z])) :: env) | none => .bad := by
  unfold setFE; cases evOD e with | none => rfl | some z => ?_
  dsimp only [List.getElem?_cons_zero]; rw [if_pos ⟨by decide, by decide⟩, show putK ("axes" : Str) ["room", "first"] = (["room", "first", "axes"] : List Str) from by decide] <;> rfl
@[simp] theorem pk_cells_View (t : Tg) (xs : List D) : pickM "cells" tb_cells (t, .obj "View" ["room", "first", "axes"] xs) = some F_View_cells := by
  unfold pickM; dsimp only; rw [if_neg (by decide)]; rfl
@[simp] theorem pk_count_View (t : Tg) (xs : List D) : pickM "count" tb_count (t, .obj "View" ["room", "first", "axes"] xs) = some F_View_count := by
  unfold pickM; dsimp only; rw [if_neg (by decide)]; rfl
@[simp] theorem pk_greatest_View (t : Tg) (xs : List D) : pickM "greatest" tb_greatest (t, .obj "View" ["room", "first", "axes"] xs) = some F_View_greatest := by
  unfold pickM; dsimp only; rw [if_neg (by decide)]; rfl
@[simp] theorem pk_least_View (t : Tg) (xs : List D) : pickM "least" tb_least (t, .obj "View" ["room", "first", "axes"] xs) = some F_View_least := by
  unfold pickM; dsimp only; rw [if_neg (by decide)]; rfl
@[simp] theorem pk_sizes_View (t : Tg) (xs : List D) : pickM "sizes" tb_sizes (t, .obj "View" ["room", "first", "axes"] xs) = some F_View_sizes := by
  unfold pickM; dsimp only; rw [if_neg (by decide)]; rfl
end
end DL.Law

namespace DL.Law
open PySem PySem.Spec PyProof.Rows L2
/-- the drawn number ahead of its last remainder -/
def drw (ns : List Int) (k : Int) : Int :=
  if k < ns.length then (atI ns k).getD 0
  else (if 0 < (ns.length : Int) then ((atI ns (k % ns.length)).getD 0 % 999999937) * (48271 + 2 * k * k) + k * 69621 else k * k * 7919 + 104729) % 2147483647 * 16807 % 2147483629
theorem F_draw (t : Tg) (ns : List Int) (k m : Int) (hk : 0 ≤ k) (hk2 : k ≤ 1000000) (hm : 0 < m) : F__law_draw [.val t (.scr ns), .val .s (.int k), .val .s (.int m)] = .ok (.val .s (.int (drw ns k % m))) := by
  unfold F__law_draw B__law_draw drw
  have bk : BdC k 20 := .of 20 (by omega) (by omega)
  by_cases h : k < ns.length
  · obtain ⟨x, _, hx⟩ := atI_ex hk h
    simp [h, hx, kMod_ hm]
  · by_cases h0 : 0 < ns.length
    · have h0' : (0 : Int) < ns.length := by omega
      obtain ⟨x, _, hx⟩ := atI_ex (xs := ns) (i := k % ns.length) (Int.emod_nonneg _ (by omega)) (Int.emod_lt_of_pos _ h0')
      simp (disch := first | assumption | omega | decide +kernel) [h, h0, hx, kMod_, kMul_c]
    · simp (disch := first | assumption | omega | decide +kernel) [h, h0, kMod_, kMul_c]
/-- a drawn number -/
def dr (ns : List Int) (k m : Int) : Int := drw ns k % m
theorem dr_lo (ns : List Int) (k : Int) {m : Int} (h : 0 < m) : 0 ≤ dr ns k m := Int.emod_nonneg _ (by omega)
theorem dr_hi (ns : List Int) (k : Int) {m : Int} (h : 0 < m) : dr ns k m < m := Int.emod_lt_of_pos _ h
theorem kDraw (t : Tg) (ns : List Int) (k m : Int) (hk : 0 ≤ k) (hk2 : k ≤ 1000000) (hm : 0 < m) : F__law_draw [.val t (.scr ns), .val .s (.int k), .val .s (.int m)] = .ok (.val .s (.int (dr ns k m))) := F_draw _ ns k m hk hk2 hm
instance dr_bd {ns : List Int} {k : Int} {m : Nat} [NeZero m] : BdC (dr ns k (no_index (OfNat.ofNat m))) (Nat.log2 m + 1) := BdC.emod

/-! ### axes -/
structure Ax (a : Int × Int) : Prop where
  lo : 1 ≤ a.1
  hi : a.1 ≤ 1000000000
  bd : BdC a.2 210
def axD (a : Int × Int) : D := .tup [.int a.1, .int a.2]
@[simp] theorem imm_axD (a : Int × Int) : imm (axD a) = true := by simp [axD]
@[simp] theorem imms_axD : ∀ as : List (Int × Int), imms (as.map axD) = true
  | [] => by simp
  | a :: r => by rw [List.map_cons, imms_cons, imms_axD r, imm_axD] <;> rfl
/-- the count of places -/
def cntA (as : List (Int × Int)) : Int := prodL (as.map Prod.fst)
def nrm (a : Int × Int) : Int × Int := if a.1 = 1 then (1, 0) else a
def loA (a : Int × Int) : Int := min 0 (a.2 * (a.1 - 1))
def hiA (a : Int × Int) : Int := max 0 (a.2 * (a.1 - 1))
theorem loA_nrm (a : Int × Int) : loA (nrm a) = loA a := by
  unfold nrm
  split
  · rename_i h; simp [loA, h]
  · rfl
theorem hiA_nrm (a : Int × Int) : hiA (nrm a) = hiA a := by
  unfold nrm
  split
  · rename_i h; simp [hiA, h]
  · rfl
theorem Ax.nrm {a : Int × Int} (h : Ax a) : Ax (nrm a) := by
  unfold DL.Law.nrm
  split
  · exact ⟨by decide, by decide, (BdC.lit 0).up (by decide +kernel)⟩
  · exact h
theorem Ax.b1 {a : Int × Int} (h : Ax a) : BdC a.1 30 := by
  have := h.lo
  have := h.hi
  exact .of 30 (by omega) (by omega)
@[simp] theorem atI_0 {α : Type} (x : α) (xs : List α) : atI (x :: xs) 0 = some x := by simp [atI, ixN]
@[simp] theorem atI_1 {α : Type} (x y : α) (xs : List α) : atI (x :: y :: xs) 1 = some y := by
  have h : (1 : Int) < xs.length + 1 + 1 := by omega
  simp [atI, ixN, h]
@[simp] theorem atI_2 {α : Type} (x y z : α) (xs : List α) : atI (x :: y :: z :: xs) 2 = some z := by
  have h : (2 : Int) < xs.length + 1 + 1 + 1 := by omega
  simp [atI, ixN, h]
@[simp] theorem F_isw (t : Tg) (i : Int) : F_is_whole [.val t (.int i)] = .ok (.val .s (.bl true)) := by
  unfold F_is_whole B_is_whole
  simp
@[simp] theorem isi_tt (t : Tg) (i : List D) : kIsi "tuple" (t, .tup i) = .ok (.s, .bl true) := by
  rw [kIsi_def, show isiT "tuple" (.tup i) = some true from by show kitB "tuple" "tuple" = _; decide +kernel] <;> rfl
@[simp] theorem isi_ll (t : Tg) (i : List D) : kIsi "list" (t, .lst i) = .ok (.s, .bl true) := by
  rw [kIsi_def, show isiT "list" (.lst i) = some true from by show kitB "list" "list" = _; decide +kernel] <;> rfl
theorem F_isax (a : Int × Int) (h : Ax a) : F_is_axis [.val .s (axD a)] = .ok (.val .s (.bl true)) := by
  unfold F_is_axis B_is_axis
  have h1 := h.lo
  have h2 := h.hi
  simp [axD, h1, h2]
theorem kept_loop (t : Tg) (ht : t = .s ∨ t = .r) (x : Option EV) : ∀ (as acc : List (Int × Int)), (∀ a ∈ as, Ax a) → acc.length + as.length ≤ 8 → ∀ y, ∃ y', forD (gdN 2) L1_kept_axes t (as.map axD) [x, some (.own (acc.map axD)), y] = .nx [x, some (.own ((acc ++ as.map nrm).map axD)), y']
  | [], acc, _, _, y => ⟨y, by simp⟩
  | a :: as, acc, h, hl, y => by
    have ha := h a List.mem_cons_self
    rw [List.length_cons] at hl
    have hl2 : acc.length < 16777216 := by omega
    have hx := F_isax a ha
    by_cases q : a.1 = 1
    · obtain ⟨y', h'⟩ := kept_loop t ht x as (acc ++ [(1, 0)]) (fun b hb => h b (List.mem_cons_of_mem _ hb)) (by simp; omega) (some (.val .s (axD a)))
      refine ⟨y', ?_⟩
      have st : L1_kept_axes [x, some (.own (acc.map axD)), some (.val .s (axD a))] = .nx [x, some (.own ((acc ++ [(1, 0)]).map axD)), some (.val .s (axD a))] := by
        obtain ⟨s, p⟩ := a
        obtain rfl : s = 1 := q
        simp only [axD] at hx
        simp [L1_kept_axes, hx, axD, kTup, tagA, hl2]
      rw [List.map_cons, forD_nx (by rcases ht with rfl | rfl <;> simp) st, h']
      simp [nrm, q]
    · obtain ⟨y', h'⟩ := kept_loop t ht x as (acc ++ [a]) (fun b hb => h b (List.mem_cons_of_mem _ hb)) (by simp; omega) (some (.val .s (axD a)))
      refine ⟨y', ?_⟩
      have st : L1_kept_axes [x, some (.own (acc.map axD)), some (.val .s (axD a))] = .nx [x, some (.own ((acc ++ [a]).map axD)), some (.val .s (axD a))] := by
        simp only [axD] at hx
        simp [L1_kept_axes, hx, axD, q, kTup, tagA, hl2]
      rw [List.map_cons, forD_nx (by rcases ht with rfl | rfl <;> simp) st, h']
      simp [nrm, q]
theorem F_kept {t : Tg} (ht : t = .s ∨ t = .r) (as : List (Int × Int)) (h : ∀ a ∈ as, Ax a) (hl : as.length ≤ 8) : F_kept_axes [.val t (.lst (as.map axD))] = .ok (.own ((as.map nrm).map axD)) := by
  unfold F_kept_axes B_kept_axes
  obtain ⟨y, hy⟩ := kept_loop t ht (some (.val t (.lst (as.map axD)))) as [] h (by simpa using hl) none
  have g : ¬ (8 : Int) < as.length := by omega
  simp only [List.map_nil, List.nil_append] at hy
  simp [g, kSeq_sr ht, hy]
/-! ### making -/
def obV (room first : Int) (as : List (Int × Int)) : OD := .obj "View" ["room", "first", "axes"] [.sh (.int room), .sh (.int first), .lst ((as.map axD).map .sh)]
def dV (room first : Int) (as : List (Int × Int)) : D := .obj "View" ["room", "first", "axes"] [.int room, .int first, .lst (as.map axD)]
@[simp] theorem obV_d (room first : Int) (as : List (Int × Int)) : (obV room first as).d = dV room first as := by simp [obV, dV, -List.map_map]
theorem Ax.b2 {a : Int × Int} (h : Ax a) : BdC (a.1 - 1) 31 := by
  have := h.lo
  have := h.hi
  exact .of 31 (by omega) (by omega)
theorem lo_lc (t : Tg) (ht : t = .s ∨ t = .r) (x : Option EV) (as : List (Int × Int)) (h : ∀ a ∈ as, Ax a) :
    lcD (gdT 2 (gdC (gdN 1) (gdC (gdN 2) gdNil))) yes (thenK (argC (cst (.int 0)) (argC (mvD (bin2 (getV 2) (bin2 (getV 1) (cst (.int 1)) (asI2 kSub)) kMul)) argN)) kMin) t [x, none, none] (as.map axD) = .ok ((as.map loA).map D.int) := by
  have key : ∀ f : D → D, (∀ a, f (axD a) = .int (loA a)) → (as.map axD).map f = (as.map loA).map D.int := fun f hf => by
    rw [List.map_map, List.map_map]; exact List.map_congr_left fun a _ => hf a
  rw [← key (fun d => match d with | .tup [.int s, .int p] => .int (loA (s, p)) | d => d) (fun a => rfl)]
  refine lcD_all _ _ fun d hd => ?_
  obtain ⟨a, ha, rfl⟩ := List.mem_map.mp hd
  have b1 := (h a ha).b2
  have b2 := (h a ha).bd
  refine ⟨[x, some (.val .s (.int a.1)), some (.val .s (.int a.2))], .s, by rcases ht with rfl | rfl <;> simp [axD], by simp, ?_, rfl⟩
  simp (disch := first | assumption | omega | decide +kernel) [-List.map_map, kMul_c, kFdiv_c, kMod_, kDivmod_c, kRng1_c, kPow_c, kLst, kLstT, kTup, shV, shI, extS, axD, loA]
theorem hi_lc (t : Tg) (ht : t = .s ∨ t = .r) (x : Option EV) (as : List (Int × Int)) (h : ∀ a ∈ as, Ax a) :
    lcD (gdT 2 (gdC (gdN 1) (gdC (gdN 2) gdNil))) yes (thenK (argC (cst (.int 0)) (argC (mvD (bin2 (getV 2) (bin2 (getV 1) (cst (.int 1)) (asI2 kSub)) kMul)) argN)) kMax) t [x, none, none] (as.map axD) = .ok ((as.map hiA).map D.int) := by
  have key : ∀ f : D → D, (∀ a, f (axD a) = .int (hiA a)) → (as.map axD).map f = (as.map hiA).map D.int := fun f hf => by
    rw [List.map_map, List.map_map]; exact List.map_congr_left fun a _ => hf a
  rw [← key (fun d => match d with | .tup [.int s, .int p] => .int (hiA (s, p)) | d => d) (fun a => rfl)]
  refine lcD_all _ _ fun d hd => ?_
  obtain ⟨a, ha, rfl⟩ := List.mem_map.mp hd
  have b1 := (h a ha).b2
  have b2 := (h a ha).bd
  refine ⟨[x, some (.val .s (.int a.1)), some (.val .s (.int a.2))], .s, by rcases ht with rfl | rfl <;> simp [axD], by simp, ?_, rfl⟩
  simp (disch := first | assumption | omega | decide +kernel) [-List.map_map, kMul_c, kFdiv_c, kMod_, kDivmod_c, kRng1_c, kPow_c, kLst, kLstT, kTup, shV, shI, extS, axD, hiA]
/-- a view's axes: no more than eight -/
structure Axs (as : List (Int × Int)) : Prop where
  len : as.length ≤ 8
  ok : ∀ a ∈ as, Ax a
theorem Axs.nrm {as : List (Int × Int)} (h : Axs as) : Axs (as.map nrm) := ⟨by simpa using h.len, fun a ha => by
  obtain ⟨b, hb, rfl⟩ := List.mem_map.mp ha
  exact (h.ok b hb).nrm⟩
theorem lo_nrm (as : List (Int × Int)) : (as.map nrm).map loA = as.map loA := by
  rw [List.map_map]; exact List.map_congr_left fun a _ => loA_nrm a
theorem hi_nrm (as : List (Int × Int)) : (as.map nrm).map hiA = as.map hiA := by
  rw [List.map_map]; exact List.map_congr_left fun a _ => hiA_nrm a
theorem F_least {t : Tg} (ht : t = .s ∨ t = .r) (room first : Int) (as : List (Int × Int)) (h : Axs as) : F_View_least [.val t (dV room first as)] = .ok (.val .s (.int (first + (as.map loA).sum))) := by
  unfold F_View_least B_View_least
  have h1 := lcK_ok (x := (t, as.map axD)) (lo_lc t ht (some (.val t (dV room first as))) as h.ok) (by have := h.len; simp; omega)
  simp only [dV] at h1
  rcases ht with rfl | rfl <;> simp (disch := first | assumption | omega | decide +kernel) [-List.map_map, kMul_c, kFdiv_c, kMod_, kDivmod_c, kRng1_c, kPow_c, kLst, kLstT, kTup, shV, shI, extS, dV, h1]
theorem F_greatest {t : Tg} (ht : t = .s ∨ t = .r) (room first : Int) (as : List (Int × Int)) (h : Axs as) : F_View_greatest [.val t (dV room first as)] = .ok (.val .s (.int (first + (as.map hiA).sum))) := by
  unfold F_View_greatest B_View_greatest
  have h1 := lcK_ok (x := (t, as.map axD)) (hi_lc t ht (some (.val t (dV room first as))) as h.ok) (by have := h.len; simp; omega)
  simp only [dV] at h1
  rcases ht with rfl | rfl <;> simp (disch := first | assumption | omega | decide +kernel) [-List.map_map, kMul_c, kFdiv_c, kMod_, kDivmod_c, kRng1_c, kPow_c, kLst, kLstT, kTup, shV, shI, extS, dV, h1]
/-- a view that is one -/
structure Vw (room first : Int) (as : List (Int × Int)) : Prop where
  ax : Axs as
  r1 : 1 ≤ room
  r2 : room ≤ 1000000000000000000
  lo : 0 ≤ first + (as.map loA).sum
  hi : first + (as.map hiA).sum < room
theorem I_V {t : Tg} (ht : t = .s ∨ t = .r) (room first : Int) (as : List (Int × Int)) (h : Vw room first as) : I_View [.val .s (.int room), .val .s (.int first), .val t (.lst (as.map axD))] = .ok (["room", "first", "axes"], [.sh (.int room), .sh (.int first), .lst (((as.map nrm).map axD).map .sh)]) := by
  unfold I_View B_View_init
  have h1 := F_kept ht as h.ax.ok h.ax.len
  have h2 := F_least (.inr rfl : Tg.r = .s ∨ Tg.r = .r) room first (as.map nrm) h.ax.nrm
  have h3 := F_greatest (.inr rfl : Tg.r = .s ∨ Tg.r = .r) room first (as.map nrm) h.ax.nrm
  rw [lo_nrm] at h2
  rw [hi_nrm] at h3
  have g1 := h.r1
  have g2 := h.r2
  have g3 : ¬ first + (as.map loA).sum < 0 := by have := h.lo; omega
  have g4 : ¬ room ≤ first + (as.map hiA).sum := by have := h.hi; omega
  have ha : toArg (t, .lst (as.map axD)) = .val t (.lst (as.map axD)) := by rcases ht with rfl | rfl <;> simp
  simp only [dV] at h2 h3
  simp (disch := first | assumption | omega | decide +kernel) [-List.map_map, kMul_c, kFdiv_c, kMod_, kDivmod_c, kRng1_c, kPow_c, kLst, kLstT, kTup, shV, shI, extS, runI_, g1, g2, ha, h1, h2, h3, g3, g4]

/-! ### sizes, count, cells -/
theorem sz_lc (t : Tg) (ht : t = .s ∨ t = .r) (x : Option EV) (as : List (Int × Int)) :
    lcD (gdT 2 (gdC (gdN 1) (gdC (gdN 2) gdNil))) yes (getV 1) t [x, none, none] (as.map axD) = .ok ((as.map Prod.fst).map D.int) := by
  have key : ∀ f : D → D, (∀ a, f (axD a) = .int a.1) → (as.map axD).map f = (as.map Prod.fst).map D.int := fun f hf => by
    rw [List.map_map, List.map_map]; exact List.map_congr_left fun a _ => hf a
  rw [← key (fun d => match d with | .tup [.int s, .int p] => .int s | d => d) (fun a => rfl)]
  refine lcD_all _ _ fun d hd => ?_
  obtain ⟨a, ha, rfl⟩ := List.mem_map.mp hd
  exact ⟨[x, some (.val .s (.int a.1)), some (.val .s (.int a.2))], .s, by rcases ht with rfl | rfl <;> simp [axD], by simp, by simp [axD], rfl⟩
theorem F_sizesV {t : Tg} (ht : t = .s ∨ t = .r) (room first : Int) (as : List (Int × Int)) (h : as.length ≤ 8) : F_View_sizes [.val t (dV room first as)] = .ok (.own ((as.map Prod.fst).map D.int)) := by
  unfold F_View_sizes B_View_sizes
  have h1 := lcK_ok (x := (t, as.map axD)) (sz_lc t ht (some (.val t (dV room first as))) as) (by simp; omega)
  simp only [dV] at h1
  rcases ht with rfl | rfl <;> simp (disch := first | assumption | omega | decide +kernel) [-List.map_map, kMul_c, kFdiv_c, kMod_, kDivmod_c, kRng1_c, kPow_c, kLst, kLstT, kTup, shV, shI, extS, dV, h1]
/-- sizes whose count is drawn -/
structure Szs (l : List Int) : Prop where
  len : l.length ≤ 8
  pos : PosL l
  bd : ∀ s ∈ l, Bd 9 s
theorem Szs.tail {s : Int} {r : List Int} (h : Szs (s :: r)) : Szs r := ⟨by have := h.len; rw [List.length_cons] at this; omega, h.pos.tail, fun x hx => h.bd x (List.mem_cons_of_mem _ hx)⟩
theorem Szs.prod {l : List Int} (h : Szs l) : Bd 72 (prodL l) := (prod_bd (k := 9) h.bd).up (by have := h.len; omega)
theorem Axs.szs {as : List (Int × Int)} (h : Axs as) : Szs (as.map Prod.fst) := ⟨by simpa using h.len, fun s hs => by
  obtain ⟨a, ha, rfl⟩ := List.mem_map.mp hs
  exact (h.ok a ha).lo, fun s hs => by
  obtain ⟨a, ha, rfl⟩ := List.mem_map.mp hs
  have := (h.ok a ha).lo
  have := (h.ok a ha).hi
  exact .of (by omega) (by omega)⟩
theorem count_loop (t : Tg) (x : Option EV) : ∀ (l d : List Int), Szs (d ++ l) → ∀ y, ∃ y', forD (gdN 2) L1_count_of t (l.map D.int) [x, some (.val .s (.int (prodL d))), y] = .nx [x, some (.val .s (.int (prodL (d ++ l)))), y'] := by
  intro l
  induction l with
  | nil => intro d _ y; exact ⟨y, by rw [List.append_nil] <;> rfl⟩
  | cons s r ih =>
    intro d h y
    have e : d ++ s :: r = (d ++ [s]) ++ r := by simp
    rw [e] at h ⊢
    obtain ⟨y', h'⟩ := ih (d ++ [s]) h (some (.val .s (.int s)))
    refine ⟨y', ?_⟩
    have hm : kMul (.s, .int (prodL d)) (.s, .int s) = .ok (.val .s (.int (prodL (d ++ [s])))) := by
      have hd : Bd 72 (prodL d) := Bd.up (prod_bd (k := 9) (l := d) fun x hx => h.bd x (by simp [hx])) (by have := h.len; simp at this; omega)
      have hs : Bd 9 s := h.bd s (by simp)
      rw [kMul_i hd.sm hs.sm, prod_append, prodL, prodL, Int.mul_one]
    have st : L1_count_of [x, some (.val .s (.int (prodL d))), some (.val .s (.int s))] = .nx [x, some (.val .s (.int (prodL (d ++ [s])))), some (.val .s (.int s))] := by simp [L1_count_of, hm]
    rw [List.map_cons, forD_nx (by simp) st]
    exact h'
theorem F_count {t : Tg} (ht : t = .s ∨ t = .r) (l : List Int) (h : Szs l) : F_count_of [.val t (.lst (l.map D.int))] = .ok (.val .s (.int (prodL l))) := by
  unfold F_count_of B_count_of
  obtain ⟨y, hy⟩ := count_loop t (some (.val t (.lst (l.map D.int)))) l [] h none
  have hy' : forD (gdN 2) L1_count_of t (l.map D.int) [some (.val t (.lst (l.map D.int))), some (.val .s (.int 1)), none] = _ := hy
  simp [kSeq_sr ht, hy']

theorem F_countV {t : Tg} (ht : t = .s ∨ t = .r) (room first : Int) (as : List (Int × Int)) (h : Axs as) : F_View_count [.val t (dV room first as)] = .ok (.val .s (.int (cntA as))) := by
  unfold F_View_count B_View_count
  have h1 := F_sizesV ht room first as h.len
  have h2 := F_count (.inl rfl : Tg.s = .s ∨ Tg.s = .r) (as.map Prod.fst) h.szs
  simp only [dV] at h1
  rcases ht with rfl | rfl <;> simp (disch := first | assumption | omega | decide +kernel) [-List.map_map, kMul_c, kFdiv_c, kMod_, kDivmod_c, kRng1_c, kPow_c, kLst, kLstT, kTup, shV, shI, extS, dV, h1, h2, cntA]
/-- the cells, an axis more -/
def cel1 (s p : Int) : List Int → List Int
  | [] => []
  | c :: r => ((List.range s.toNat).map fun (i : Nat) => c + p * (i : Int)) ++ cel1 s p r
theorem cel1_len (s p : Int) : ∀ cs : List Int, (cel1 s p cs).length = cs.length * s.toNat
  | [] => by simp [cel1]
  | c :: r => by rw [cel1, List.length_append, cel1_len s p r, List.length_map, List.length_range, List.length_cons, Nat.add_mul]; omega
def cels : List (Int × Int) → List Int → List Int
  | [], cs => cs
  | a :: r, cs => cels r (cel1 a.1 a.2 cs)
theorem cels_len : ∀ (as : List (Int × Int)) (cs : List Int), (∀ a ∈ as, Ax a) → ((cels as cs).length : Int) = cs.length * cntA as
  | [], cs, _ => by simp [cels, cntA, prodL]
  | a :: r, cs, h => by
    have hs := (h a List.mem_cons_self).lo
    rw [cels, cels_len r _ (fun b hb => h b (List.mem_cons_of_mem _ hb)), cel1_len, cntA, cntA, List.map_cons, prodL, Int.natCast_mul, Int.toNat_of_nonneg (by omega), Int.mul_assoc]
theorem le_mul_one {a b : Int} (ha : 0 ≤ a) (hb : 1 ≤ b) : a ≤ a * b := by
  have := Int.mul_le_mul_of_nonneg_left hb ha
  rwa [Int.mul_one] at this
/-- the loop over axes: what stays ahead of each -/
theorem few {s : Int} {r : List Int} {n : Nat} (hp : PosL (s :: r)) (h : (n : Int) * prodL (s :: r) ≤ 4096) : (n : Int) * s ≤ 4096 ∧ ((n * s.toNat : Nat) : Int) * prodL r ≤ 4096 ∧ (1 ≤ n → s ≤ 4096) := by
  have hs := hp.head
  have hr := prod_pos hp.tail
  rw [prodL, ← Int.mul_assoc] at h
  have h1 : 0 ≤ (n : Int) * s := Int.mul_nonneg (by omega) (by omega)
  refine ⟨Int.le_trans (le_mul_one h1 (by omega)) h, by rw [Int.natCast_mul, Int.toNat_of_nonneg (by omega)]; exact h, fun hn => ?_⟩
  have h2 := Int.mul_le_mul_of_nonneg_right (show (1 : Int) ≤ n by omega) (show 0 ≤ s by omega)
  have h3 := Int.le_trans (le_mul_one h1 (show 1 ≤ prodL r by omega)) h
  omega
theorem vc1 (x0 x1 b : Option EV) (s p : Int) (hs : 0 ≤ s) (hs2 : s ≤ 4096) (hp : BdC p 210) : ∀ (cs acc : List Int), acc.length + cs.length * s.toNat ≤ 4096 → ∀ a, ∃ a', forD (gdN 5) L1_View_cells .s (cs.map D.int) [x0, x1, some (.val .s (.int s)), some (.val .s (.int p)), some (.own (acc.map D.int)), a, b] =
    .nx [x0, x1, some (.val .s (.int s)), some (.val .s (.int p)), some (.own ((acc ++ cel1 s p cs).map D.int)), a', b]
  | [], acc, _, a => ⟨a, by simp [cel1]⟩
  | c :: r, acc, hl, a => by
    rw [List.length_cons, Nat.add_mul, Nat.one_mul] at hl
    obtain ⟨a', h'⟩ := vc1 x0 x1 b s p hs hs2 hp r (acc ++ ((List.range s.toNat).map fun (i : Nat) => c + p * (i : Int))) (by simp; omega) (some (.val .s (.int c)))
    refine ⟨a', ?_⟩
    have h3 := lcD_all (g := gdN 6) (c := yes) (el := mvD (bin2 (getV 5) (mvD (bin2 (getV 3) (getV 6) kMul)) kAdd)) (t := .s) (env0 := [x0, x1, some (.val .s (.int s)), some (.val .s (.int p)), some (.own (acc.map D.int)), some (.val .s (.int c)), none])
      (fun d => match d with | .int i => .int (c + p * i) | d => d) (rngD 0 s.toNat) (fun d hd => by
        obtain ⟨i, hi, he⟩ := List.getElem_of_mem hd
        obtain ⟨rfl, hi⟩ := rngD_get (List.getElem?_eq_some_iff.mpr ⟨hi, he⟩)
        have bi : BdC (i : Int) 20 := .of 20 (by omega) (by omega)
        refine ⟨_, .s, by simp; rfl, by simp, ?_, rfl⟩
        simp (disch := first | assumption | omega | decide +kernel) [-List.map_map, kMul_c, kFdiv_c, kMod_, kDivmod_c, kRng1_c, kPow_c, kLst, kLstT, kTup, shV, shI, extS, Int.zero_add])
    rw [rng_map (fun i => c + p * (i : Int)) s.toNat (fun i _ => by simp)] at h3
    have h5 := lcK_ok (x := (.s, rngD 0 s.toNat)) h3 (by simp; omega)
    have bs : BdC s 20 := .of 20 (by omega) (by omega)
    have hl2 : acc.length + s.toNat ≤ 16777216 := by omega
    have st : L1_View_cells [x0, x1, some (.val .s (.int s)), some (.val .s (.int p)), some (.own (acc.map D.int)), some (.val .s (.int c)), b] = .nx [x0, x1, some (.val .s (.int s)), some (.val .s (.int p)), some (.own ((acc ++ ((List.range s.toNat).map fun (i : Nat) => c + p * (i : Int))).map D.int)), some (.val .s (.int c)), b] := by
      simp (disch := first | assumption | omega | decide +kernel) [-List.map_map, kMul_c, kFdiv_c, kMod_, kDivmod_c, kRng1_c, kPow_c, kLst, kLstT, kTup, shV, shI, extS, L1_View_cells, h5, hl2]
    rw [List.map_cons, forD_nx (by simp) st, h']
    simp [cel1]
theorem vc2 (t : Tg) (ht : t = .s ∨ t = .r) (x0 b : Option EV) : ∀ (as : List (Int × Int)) (cs : List Int), (∀ a ∈ as, Ax a) → (cs.length : Int) * cntA as ≤ 4096 → 1 ≤ cs.length → ∀ x2 x3 x4 a,
    ∃ x2' x3' x4' a', forD (gdT 2 (gdC (gdN 2) (gdC (gdN 3) gdNil))) L2_View_cells t (as.map axD) [x0, some (.own (cs.map D.int)), x2, x3, x4, a, b] = .nx [x0, some (.own ((cels as cs).map D.int)), x2', x3', x4', a', b]
  | [], cs, _, _, _, x2, x3, x4, a => ⟨x2, x3, x4, a, rfl⟩
  | ⟨s, p⟩ :: r, cs, h, hc, h1, x2, x3, x4, a => by
    have hx := h (s, p) List.mem_cons_self
    have hs : 1 ≤ s := hx.lo
    have hp : PosL (s :: r.map Prod.fst) := fun z hz => by
      rcases List.mem_cons.mp hz with rfl | hz
      · exact hs
      · obtain ⟨a, ha, rfl⟩ := List.mem_map.mp hz
        exact (h a (List.mem_cons_of_mem _ ha)).lo
    obtain ⟨f1, f2, f3⟩ := few hp hc
    have e1 : ((cs.length * s.toNat : Nat) : Int) ≤ 4096 := by rw [Int.natCast_mul, Int.toNat_of_nonneg (by omega)]; exact f1
    have e3 : 1 ≤ cs.length * s.toNat := Nat.mul_pos h1 (by omega)
    obtain ⟨a1, g1⟩ := vc1 x0 (some (.val .s (.lst (cs.map D.int)))) b s p (by omega) (f3 h1) hx.bd cs [] (by simp; omega) a
    obtain ⟨x2', x3', x4', a', g2⟩ := vc2 t ht x0 b r (cel1 s p cs) (fun z hz => h z (List.mem_cons_of_mem _ hz)) (by rw [cel1_len]; exact f2) (by rw [cel1_len]; exact e3) (some (.val .s (.int s))) (some (.val .s (.int p))) none a1
    refine ⟨x2', x3', x4', a', ?_⟩
    have st : L2_View_cells [x0, some (.own (cs.map D.int)), some (.val .s (.int s)), some (.val .s (.int p)), x4, a, b] = .nx [x0, some (.own ((cel1 s p cs).map D.int)), some (.val .s (.int s)), some (.val .s (.int p)), none, a1, b] := by
      simp only [List.map_nil, List.nil_append] at g1
      simp (disch := first | assumption | omega | decide +kernel) [-List.map_map, kMul_c, kFdiv_c, kMod_, kDivmod_c, kRng1_c, kPow_c, kLst, kLstT, kTup, shV, shI, extS, L2_View_cells, g1]
    rw [List.map_cons, forD_nx (by rcases ht with rfl | rfl <;> simp [axD]) st, g2] <;> rfl
theorem F_cells {t : Tg} (ht : t = .s ∨ t = .r) (room first : Int) (as : List (Int × Int)) (h : Axs as) (hc : cntA as ≤ 4096) : F_View_cells [.val t (dV room first as)] = .ok (.own ((cels as [first]).map D.int)) := by
  unfold F_View_cells B_View_cells
  have h1 := F_countV ht room first as h
  obtain ⟨x2, x3, x4, a, h2⟩ := vc2 t ht (some (.val t (dV room first as))) none as [first] h.ok (by simpa using hc) (by simp) none none none none
  have g : ¬ 4096 < cntA as := by omega
  simp only [dV, List.map_cons, List.map_nil] at h1 h2
  rcases ht with rfl | rfl <;> simp (disch := first | assumption | omega | decide +kernel) [-List.map_map, kMul_c, kFdiv_c, kMod_, kDivmod_c, kRng1_c, kPow_c, kLst, kLstT, kTup, shV, shI, extS, dV, h1, g, h2]
theorem F_cellsX {t : Tg} (ht : t = .s ∨ t = .r) (room first : Int) (as : List (Int × Int)) (h : Axs as) (hc : 4096 < cntA as) : F_View_cells [.val t (dV room first as)] = .exc "TooMany" ["number"] [.int (cntA as)] := by
  unfold F_View_cells B_View_cells
  have h1 := F_countV ht room first as h
  simp only [dV] at h1
  rcases ht with rfl | rfl <;> simp (disch := first | assumption | omega | decide +kernel) [-List.map_map, kMul_c, kFdiv_c, kMod_, kDivmod_c, kRng1_c, kPow_c, kLst, kLstT, kTup, shV, shI, extS, dV, h1, hc]

/-! ### views as the laws of stores draw them -/
theorem atI_memX {α β : Type} {f : α → β} (L : List α) (i : Int) (h : 0 ≤ i) (k : i < L.length) : ∃ x ∈ L, atI (L.map f) i = some (f x) := by
  obtain ⟨x, hx, e⟩ := atI_ex (xs := L) h k
  exact ⟨x, hx, by rw [atI_map, e] <;> rfl⟩
structure Sz6 (l : List Int) : Prop where
  len : l.length ≤ 3
  sz : ∀ s ∈ l, 1 ≤ s ∧ s ≤ 12
  ct : prodL l ≤ 60
theorem prodL_snoc (l : List Int) (s : Int) : prodL (l ++ [s]) = prodL l * s := by rw [prod_append, prodL, prodL, Int.mul_one]
theorem F_lsizes (ns : List Int) (k : Int) (hk : 0 ≤ k) (hk2 : k ≤ 900) : ∃ l, Sz6 l ∧ F__law_sizes [.val .s (.scr ns), .val .s (.int k)] = .ok (.val .s (.tup [.lst (l.map D.int), .int (prodL l)])) := by
  have d1 := kDraw .s ns k 4 hk (by omega) (by decide)
  have l1 := dr_lo ns k (m := 4) (by decide)
  have l2 := dr_hi ns k (m := 4) (by decide)
  generalize dr ns k 4 = n at *
  have kr : kRng1 [(.s, .int n)] = .ok (.s, rngD 0 n.toNat) := by
    rw [kRng1_, if_pos ⟨by omega, by omega⟩]
  obtain ⟨e, h1, l, y4, y5, g1, g2, g3, rfl⟩ := forD_go (g := gdN 4) (b := L1__law_sizes) (t := .s) (fun i e => ∃ (l : List Int) (y4 y5 : Option EV), l.length ≤ i ∧ (∀ s ∈ l, 1 ≤ s ∧ s ≤ 12) ∧ prodL l ≤ 60 ∧ e = [some (.val .s (.scr ns)), some (.val .s (.int k)), some (.own (l.map D.int)), some (.val .s (.int (prodL l))), y4, y5]) (rngD 0 n.toNat)
    [some (.val .s (.scr ns)), some (.val .s (.int k)), some (.own []), some (.val .s (.int 1)), none, none] ⟨[], none, none, by simp, by simp, by simp [prodL], rfl⟩ (fun i d hd e he => by
    obtain ⟨l, y4, y5, g1, g2, g3, rfl⟩ := he
    obtain ⟨rfl, hi⟩ := rngD_get hd
    have d2 := kDraw .s ns (k + 1 + (i : Int)) 8 (by omega) (by omega) (by decide)
    have l3 := dr_lo ns (k + 1 + (i : Int)) (m := 8) (by decide)
    have l4 := dr_hi ns (k + 1 + (i : Int)) (m := 8) (by decide)
    generalize dr ns (k + 1 + (i : Int)) 8 = c at *
    obtain ⟨s, hs, ha⟩ := atI_memX (f := D.int) [1, 2, 3, 4, 5, 7, 12, 2] c l3 (by simpa using l4)
    have hs2 : 1 ≤ s ∧ s ≤ 12 := by
      simp only [List.mem_cons, List.not_mem_nil, or_false] at hs
      omega
    simp only [List.map_cons, List.map_nil] at ha
    have p0 : 0 < prodL l := prod_pos fun x hx => by have := (g2 x hx).1; omega
    have bi : BdC (i : Int) 20 := .of 20 (by omega) (by omega)
    have bp : BdC (prodL l) 10 := .of 10 (by omega) (by omega)
    have bs : BdC s 10 := .of 10 (by omega) (by omega)
    have ll : (l.map D.int).length < 16777216 := by simp; omega
    by_cases q : prodL l * s ≤ 60
    · have em : (l ++ [s]).map D.int = l.map D.int ++ [D.int s] := by simp
      refine .nx (by simp; rfl) (e := [some (.val .s (.scr ns)), some (.val .s (.int k)), some (.own ((l ++ [s]).map D.int)), some (.val .s (.int (prodL l * s))), some (.val .s (.int i)), some (.val .s (.int s))]) ?_ ⟨l ++ [s], _, _, by simp; omega, fun x hx => ?_, by rw [prodL_snoc]; exact q, by rw [prodL_snoc]⟩
      · rw [em]
        generalize l.map D.int = L at *
        simp (disch := first | assumption | omega | decide +kernel) [-List.map_map, kMul_c, kFdiv_c, kMod_, kDivmod_c, kRng1_c, kPow_c, kLst, kLstT, kTup, shV, shI, extS, L1__law_sizes, d2, ha, q, ll]
      · rcases List.mem_append.mp hx with hx | hx
        · exact g2 x hx
        · cases List.mem_singleton.mp hx; exact hs2
    · refine .nx (by simp; rfl) (e := [some (.val .s (.scr ns)), some (.val .s (.int k)), some (.own (l.map D.int)), some (.val .s (.int (prodL l))), some (.val .s (.int i)), some (.val .s (.int s))]) ?_ ⟨l, _, _, by omega, g2, g3, rfl⟩
      generalize l.map D.int = L at *
      simp (disch := first | assumption | omega | decide +kernel) [-List.map_map, kMul_c, kFdiv_c, kMod_, kDivmod_c, kRng1_c, kPow_c, kLst, kLstT, kTup, shV, shI, extS, L1__law_sizes, d2, ha, q])
  rw [rngD_len] at g1
  refine ⟨l, ⟨by omega, g2, g3⟩, ?_⟩
  generalize l.map D.int = L at *
  unfold F__law_sizes B__law_sizes
  simp (disch := first | assumption | omega | decide +kernel) [-List.map_map, kMul_c, kFdiv_c, kMod_, kDivmod_c, kRng1_c, kPow_c, kLst, kLstT, kTup, shV, shI, extS, d1, kr, h1, tagA]
theorem reach_loop (x0 : Option EV) : ∀ (as : List (Int × Int)) (a b : Int), (∀ x ∈ as, Ax x) → ∀ y3 y4, ∃ z3 z4, forD (gdT 2 (gdC (gdN 3) (gdC (gdN 4) gdNil))) L1__law_reach .s (as.map axD) [x0, some (.val .s (.int a)), some (.val .s (.int b)), y3, y4] = .nx [x0, some (.val .s (.int (a + (as.map loA).sum))), some (.val .s (.int (b + (as.map hiA).sum))), z3, z4]
  | [], a, b, _, y3, y4 => ⟨y3, y4, by simp⟩
  | (s, p) :: r, a, b, h, y3, y4 => by
    have hx := h (s, p) List.mem_cons_self
    have b1 : BdC p 210 := hx.bd
    have b2 : BdC (s - 1) 31 := hx.b2
    obtain ⟨z3, z4, ih⟩ := reach_loop x0 r (a + loA (s, p)) (b + hiA (s, p)) (fun x hx => h x (List.mem_cons_of_mem _ hx)) (some (.val .s (.int s))) (some (.val .s (.int p)))
    refine ⟨z3, z4, ?_⟩
    have st : L1__law_reach [x0, some (.val .s (.int a)), some (.val .s (.int b)), some (.val .s (.int s)), some (.val .s (.int p))] = .nx [x0, some (.val .s (.int (a + loA (s, p)))), some (.val .s (.int (b + hiA (s, p)))), some (.val .s (.int s)), some (.val .s (.int p))] := by
      unfold loA hiA
      simp (disch := first | assumption | omega | decide +kernel) [-List.map_map, kMul_c, kFdiv_c, kMod_, kDivmod_c, kRng1_c, kPow_c, kLst, kLstT, kTup, shV, shI, extS, L1__law_reach, kMin, kMax]
    rw [List.map_cons, forD_nx (by simp [axD]) st, ih]
    simp [Int.add_assoc]
theorem F_reach (as : List (Int × Int)) (h : ∀ x ∈ as, Ax x) : F__law_reach [.val .s (.lst (as.map axD))] = .ok (.val .s (.tup [.int (as.map loA).sum, .int (as.map hiA).sum])) := by
  obtain ⟨a, b, h1⟩ := reach_loop (some (.val .s (.lst (as.map axD)))) as 0 0 h none none
  rw [Int.zero_add, Int.zero_add] at h1
  unfold F__law_reach B__law_reach
  simp (disch := first | assumption | omega | decide +kernel) [-List.map_map, kMul_c, kFdiv_c, kMod_, kDivmod_c, kRng1_c, kPow_c, kLst, kLstT, kTup, shV, shI, extS, h1, tagA]
theorem drop_at {l : List Int} {i : Nat} (hi : i < l.length) : l.drop i = l[i] :: l.drop (i + 1) := List.drop_eq_getElem_cons hi
theorem F_laxes (ns : List Int) (k : Int) (hk : 0 ≤ k) (hk2 : k ≤ 900) {t : Tg} (ht : t = .s ∨ t = .r) (zs : List Int) (hz : ∀ s ∈ zs, 1 ≤ s ∧ s ≤ 60) (hc : prodL zs ≤ 60) (hl : zs.length ≤ 8) : ∃ as : List (Int × Int), as.map Prod.fst = zs ∧ (∀ a ∈ as, -60 ≤ a.2 ∧ a.2 ≤ 60) ∧ (as.map hiA).sum - (as.map loA).sum ≤ 5 * (prodL zs - 1) ∧ F__law_axes [.val .s (.scr ns), .val .s (.int k), .val t (.lst (zs.map D.int))] = .ok (.own (as.map axD)) := by
  have pd : ∀ i, 1 ≤ prodL (zs.drop i) ∧ prodL (zs.drop i) ≤ 60 := fun i => by
    have h1 := prod_append (zs.take i) (zs.drop i)
    rw [List.take_append_drop] at h1
    have h2 : 0 < prodL (zs.take i) := prod_pos fun s hs => by have := (hz s (List.mem_of_mem_take hs)).1; omega
    have h3 : 0 < prodL (zs.drop i) := prod_pos fun s hs => by have := (hz s (List.mem_of_mem_drop hs)).1; omega
    have := Int.mul_le_mul_of_nonneg_right (show 1 ≤ prodL (zs.take i) by omega) (show 0 ≤ prodL (zs.drop i) by omega)
    omega
  obtain ⟨e, h1, as, y5, y6, y7, y8, g1, g2, g5, rfl⟩ := forD_go (g := gdN 5) (b := L1__law_axes) (t := .s) (fun i e => ∃ (as : List (Int × Int)) (y5 y6 y7 y8 : Option EV), as.map Prod.fst = zs.drop (zs.length - i) ∧ (∀ a ∈ as, -60 ≤ a.2 ∧ a.2 ≤ 60) ∧ (as.map hiA).sum - (as.map loA).sum ≤ 5 * (prodL (zs.drop (zs.length - i)) - 1) ∧ e = [some (.val .s (.scr ns)), some (.val .s (.int k)), some (.val t (.lst (zs.map D.int))), some (.own (as.map axD)), some (.val .s (.int (prodL (zs.drop (zs.length - i))))), y5, y6, y7, y8]) (rngD 0 zs.length)
    [some (.val .s (.scr ns)), some (.val .s (.int k)), some (.val t (.lst (zs.map D.int))), some (.own []), some (.val .s (.int 1)), none, none, none, none] ⟨[], none, none, none, none, by simp, by simp, by simp [prodL], by simp [prodL]⟩ (fun i d hd e he => by
    obtain ⟨as, y5, y6, y7, y8, g1, g2, g5, rfl⟩ := he
    obtain ⟨rfl, hi⟩ := rngD_get hd
    have hj : zs.length - (i + 1) < zs.length := by omega
    have ej : zs.length - i = zs.length - (i + 1) + 1 := by omega
    have dr1 := drop_at hj
    rw [← ej] at dr1
    obtain ⟨q1, q2⟩ := pd (zs.length - i)
    have hs := hz zs[zs.length - (i + 1)] (List.getElem_mem hj)
    have ix : (zs.length : Int) - 1 - (i : Int) = ((zs.length - (i + 1) : Nat) : Int) := by omega
    have a1 : atI (zs.map D.int) ((zs.length - (i + 1) : Nat) : Int) = some (.int zs[zs.length - (i + 1)]) := atI_ints (List.getElem?_eq_getElem hj)
    have d1 := kDraw .s ns (k + (i : Int)) 1000000 (by omega) (by omega) (by decide)
    have l1 := dr_lo ns (k + (i : Int)) (m := 1000000) (by decide)
    have l2 := dr_hi ns (k + (i : Int)) (m := 1000000) (by decide)
    generalize dr ns (k + (i : Int)) 1000000 = c at *
    have asl : as.length ≤ 8 := by
      have := congrArg List.length g1
      simp at this
      omega
    generalize hI : prodL (zs.drop (zs.length - i)) = I at *
    generalize zs[zs.length - (i + 1)] = s at *
    obtain ⟨p, hp, ha⟩ := atI_memX (f := D.int) [I, -I, 0, 1, -1, 2, I, c / 8 % 9 - 4] (c % 8) (by omega) (by simp; omega)
    have hp2 : -60 ≤ p ∧ p ≤ 60 := by
      simp only [List.mem_cons, List.not_mem_nil, or_false] at hp
      omega
    have hp3 : -(5 * I) ≤ p ∧ p ≤ 5 * I := by
      simp only [List.mem_cons, List.not_mem_nil, or_false] at hp
      omega
    have hp4 : hiA (s, p) - loA (s, p) ≤ 5 * I * (s - 1) := by
      unfold hiA loA
      dsimp only
      have m1 := Int.mul_le_mul_of_nonneg_right hp3.2 (show 0 ≤ s - 1 by omega)
      have m2 := Int.mul_le_mul_of_nonneg_right hp3.1 (show 0 ≤ s - 1 by omega)
      rw [Int.neg_mul] at m2
      have m3 : 0 ≤ 5 * I * (s - 1) := Int.mul_nonneg (by omega) (by omega)
      omega
    simp only [List.map_cons, List.map_nil] at ha
    have bi : BdC (i : Int) 20 := .of 20 (by omega) (by omega)
    have bc : BdC c 30 := .of 30 (by omega) (by omega)
    have bI : BdC I 10 := .of 10 (by omega) (by omega)
    have bs : BdC s 10 := .of 10 (by omega) (by omega)
    have ll : (zs.map D.int).length = zs.length := by simp
    have k1 : 1 + (as.map axD).length ≤ 16777216 := by simp; omega
    have ia := imms_axD as
    refine .nx (by simp; rfl) (e := [some (.val .s (.scr ns)), some (.val .s (.int k)), some (.val t (.lst (zs.map D.int))), some (.own (((s, p) :: as).map axD)), some (.val .s (.int (I * s))), some (.val .s (.int i)), some (.val .s (.int s)), some (.val .s (.int c)), some (.val .s (.int p))]) ?_ ⟨(s, p) :: as, _, _, _, _, by rw [List.map_cons, g1, dr1], fun a ha' => ?_, ?_, by rw [dr1, prodL, hI, Int.mul_comm]⟩
    · rw [List.map_cons]
      generalize as.map axD = AA at *
      generalize zs.map D.int = ZZ at *
      unfold axD
      rcases ht with rfl | rfl <;> simp (disch := first | assumption | omega | decide +kernel) [-List.map_map, kMul_c, kFdiv_c, kMod_, kDivmod_c, kRng1_c, kPow_c, kLst, kLstT, kTup, shV, shI, extS, L1__law_axes, ll, ix, a1, d1, ha, kAdd, k1, ia, tagA]
    · rcases List.mem_cons.mp ha' with rfl | ha'
      · exact hp2
      · exact g2 a ha'
    · rw [List.map_cons, List.map_cons, List.sum_cons, List.sum_cons, dr1, prodL, hI]
      have e5 : 5 * I * (s - 1) = 5 * (s * I) - 5 * I := by
        rw [Int.mul_sub, Int.mul_one, Int.mul_assoc, Int.mul_comm I s]
      omega)
  rw [rngD_len, Nat.sub_self, List.drop_zero] at g1 g5
  refine ⟨as, g1, g2, g5, ?_⟩
  have kr : kRng1 [(.s, .int (zs.length : Int))] = .ok (.s, rngD 0 zs.length) := by
    rw [kRng1_, if_pos ⟨by omega, by omega⟩, Int.toNat_natCast]
  have ll : (zs.map D.int).length = zs.length := by simp
  generalize zs.map D.int = ZZ at *
  unfold F__law_axes B__law_axes
  rcases ht with rfl | rfl <;> simp (disch := first | assumption | omega | decide +kernel) [-List.map_map, kMul_c, kFdiv_c, kMod_, kDivmod_c, kRng1_c, kPow_c, kLst, kLstT, kTup, shV, shI, extS, ll, kr, h1]
/-! ### the law's cells -/
theorem lc1 (x0 x1 b : Option EV) (x2 : Option EV) (s p : Int) (hs : 0 ≤ s) (hs2 : s ≤ 4096) (hp : BdC p 210) : ∀ (cs acc : List Int), acc.length + cs.length * s.toNat ≤ 4096 → ∀ a, ∃ a', forD (gdN 6) L1__law_cells .s (cs.map D.int) [x0, x1, x2, some (.val .s (.int s)), some (.val .s (.int p)), some (.own (acc.map D.int)), a, b] =
    .nx [x0, x1, x2, some (.val .s (.int s)), some (.val .s (.int p)), some (.own ((acc ++ cel1 s p cs).map D.int)), a', b]
  | [], acc, _, a => ⟨a, by simp [cel1]⟩
  | c :: r, acc, hl, a => by
    rw [List.length_cons, Nat.add_mul, Nat.one_mul] at hl
    obtain ⟨a', h'⟩ := lc1 x0 x1 b x2 s p hs hs2 hp r (acc ++ ((List.range s.toNat).map fun (i : Nat) => c + p * (i : Int))) (by simp; omega) (some (.val .s (.int c)))
    refine ⟨a', ?_⟩
    have h3 := lcD_all (g := gdN 7) (c := yes) (el := mvD (bin2 (getV 6) (mvD (bin2 (getV 7) (getV 4) kMul)) kAdd)) (t := .s) (env0 := [x0, x1, x2, some (.val .s (.int s)), some (.val .s (.int p)), some (.own (acc.map D.int)), some (.val .s (.int c)), none])
      (fun d => match d with | .int i => .int (c + p * i) | d => d) (rngD 0 s.toNat) (fun d hd => by
        obtain ⟨i, hi, he⟩ := List.getElem_of_mem hd
        obtain ⟨rfl, hi⟩ := rngD_get (List.getElem?_eq_some_iff.mpr ⟨hi, he⟩)
        have bi : BdC (i : Int) 20 := .of 20 (by omega) (by omega)
        refine ⟨_, .s, by simp; rfl, by simp, ?_, rfl⟩
        have cm := Int.mul_comm p (i : Int)
        simp (disch := first | assumption | omega | decide +kernel) [-List.map_map, kMul_c, kFdiv_c, kMod_, kDivmod_c, kRng1_c, kPow_c, kLst, kLstT, kTup, shV, shI, extS, Int.zero_add, cm])
    rw [rng_map (fun i => c + p * (i : Int)) s.toNat (fun i _ => by simp)] at h3
    have h5 := lcK_ok (x := (.s, rngD 0 s.toNat)) h3 (by simp; omega)
    have bs : BdC s 20 := .of 20 (by omega) (by omega)
    have hl2 : acc.length + s.toNat ≤ 16777216 := by omega
    have st : L1__law_cells [x0, x1, x2, some (.val .s (.int s)), some (.val .s (.int p)), some (.own (acc.map D.int)), some (.val .s (.int c)), b] = .nx [x0, x1, x2, some (.val .s (.int s)), some (.val .s (.int p)), some (.own ((acc ++ ((List.range s.toNat).map fun (i : Nat) => c + p * (i : Int))).map D.int)), some (.val .s (.int c)), b] := by
      simp (disch := first | assumption | omega | decide +kernel) [-List.map_map, kMul_c, kFdiv_c, kMod_, kDivmod_c, kRng1_c, kPow_c, kLst, kLstT, kTup, shV, shI, extS, L1__law_cells, h5, hl2]
    rw [List.map_cons, forD_nx (by simp) st, h']
    simp [cel1]
theorem lc2 (x0 x1 b : Option EV) : ∀ (as : List (Int × Int)) (cs : List Int), (∀ a ∈ as, Ax a) → (cs.length : Int) * cntA as ≤ 4096 → 1 ≤ cs.length → ∀ x3 x4 x5 a,
    ∃ x3' x4' x5' a', forD (gdT 2 (gdC (gdN 3) (gdC (gdN 4) gdNil))) L2__law_cells .s (as.map axD) [x0, x1, some (.own (cs.map D.int)), x3, x4, x5, a, b] = .nx [x0, x1, some (.own ((cels as cs).map D.int)), x3', x4', x5', a', b]
  | [], cs, _, _, _, x3, x4, x5, a => ⟨x3, x4, x5, a, rfl⟩
  | ⟨s, p⟩ :: r, cs, h, hc, h1, x3, x4, x5, a => by
    have hx := h (s, p) List.mem_cons_self
    have hs : 1 ≤ s := hx.lo
    have hp : PosL (s :: r.map Prod.fst) := fun z hz => by
      rcases List.mem_cons.mp hz with rfl | hz
      · exact hs
      · obtain ⟨a, ha, rfl⟩ := List.mem_map.mp hz
        exact (h a (List.mem_cons_of_mem _ ha)).lo
    obtain ⟨f1, f2, f3⟩ := few hp hc
    have e1 : ((cs.length * s.toNat : Nat) : Int) ≤ 4096 := by rw [Int.natCast_mul, Int.toNat_of_nonneg (by omega)]; exact f1
    have e3 : 1 ≤ cs.length * s.toNat := Nat.mul_pos h1 (by omega)
    obtain ⟨a1, g1⟩ := lc1 x0 x1 b (some (.val .s (.lst (cs.map D.int)))) s p (by omega) (f3 h1) hx.bd cs [] (by simp; omega) a
    obtain ⟨x3', x4', x5', a', g2⟩ := lc2 x0 x1 b r (cel1 s p cs) (fun z hz => h z (List.mem_cons_of_mem _ hz)) (by rw [cel1_len]; exact f2) (by rw [cel1_len]; exact e3) (some (.val .s (.int s))) (some (.val .s (.int p))) none a1
    refine ⟨x3', x4', x5', a', ?_⟩
    have st : L2__law_cells [x0, x1, some (.own (cs.map D.int)), some (.val .s (.int s)), some (.val .s (.int p)), x5, a, b] = .nx [x0, x1, some (.own ((cel1 s p cs).map D.int)), some (.val .s (.int s)), some (.val .s (.int p)), none, a1, b] := by
      simp only [List.map_nil, List.nil_append] at g1
      simp (disch := first | assumption | omega | decide +kernel) [-List.map_map, kMul_c, kFdiv_c, kMod_, kDivmod_c, kRng1_c, kPow_c, kLst, kLstT, kTup, shV, shI, extS, L2__law_cells, g1]
    rw [List.map_cons, forD_nx (by simp [axD]) st, g2] <;> rfl
theorem F_lcells (first : Int) (as : List (Int × Int)) (h : ∀ a ∈ as, Ax a) (hc : cntA as ≤ 4096) : F__law_cells [.val .s (.int first), .val .s (.lst (as.map axD))] = .ok (.own ((cels as [first]).map D.int)) := by
  obtain ⟨x3, x4, x5, a, h1⟩ := lc2 (some (.val .s (.int first))) (some (.val .s (.lst (as.map axD)))) none as [first] h (by simpa using hc) (by simp) none none none none
  simp only [List.map_cons, List.map_nil] at h1
  unfold F__law_cells B__law_cells
  simp (disch := first | assumption | omega | decide +kernel) [-List.map_map, kMul_c, kFdiv_c, kMod_, kDivmod_c, kRng1_c, kPow_c, kLst, kLstT, kTup, shV, shI, extS, h1]
/-- sizes in which the same many stand -/
structure Oz (c : Int) (zs : List Int) : Prop where
  len : zs.length ≤ 8
  sz : ∀ s ∈ zs, 1 ≤ s ∧ s ≤ 60
  ct : prodL zs = c
theorem prodL_rev (l : List Int) : prodL l.reverse = prodL l := by
  induction l with
  | nil => rfl
  | cons a r ih => rw [List.reverse_cons, prodL_snoc, ih, prodL, Int.mul_comm]
theorem Sz6.other {l : List Int} (h : Sz6 l) : ∀ zs ∈ [l, l.reverse, [prodL l], [1, prodL l], [prodL l, 1], l ++ [1]], Oz (prodL l) zs := fun zs hz => by
  have p0 : 0 < prodL l := prod_pos fun x hx => by have := (h.sz x hx).1; omega
  have ct := h.ct
  have hl := h.len
  have hs : ∀ s ∈ l, 1 ≤ s ∧ s ≤ 60 := fun s hs => by have := h.sz s hs; omega
  simp only [List.mem_cons, List.not_mem_nil, or_false] at hz
  rcases hz with rfl | rfl | rfl | rfl | rfl | rfl
  · exact ⟨by omega, hs, rfl⟩
  · exact ⟨by simp; omega, fun s h => hs s (List.mem_reverse.mp h), prodL_rev _⟩
  · exact ⟨by simp, fun s h => by cases List.mem_singleton.mp h; omega, by simp [prodL]⟩
  · exact ⟨by simp, fun s h => by simp at h; omega, by simp [prodL]⟩
  · exact ⟨by simp, fun s h => by simp at h; omega, by simp [prodL]⟩
  · exact ⟨by simp; omega, fun s h => by
      rcases List.mem_append.mp h with h | h
      · exact hs s h
      · cases List.mem_singleton.mp h; omega, by rw [prodL_snoc, Int.mul_one]⟩
/-- a view of the pair: axes that lie in the room from first on -/
structure Pv (room c first : Int) (as : List (Int × Int)) : Prop where
  v : Vw room first as
  c : cntA as = c
  p : ∀ a ∈ as, -60 ≤ a.2 ∧ a.2 ≤ 60
theorem ax_of {as : List (Int × Int)} {zs : List Int} (e : as.map Prod.fst = zs) (hz : ∀ s ∈ zs, 1 ≤ s ∧ s ≤ 60) (hp : ∀ a ∈ as, -60 ≤ a.2 ∧ a.2 ≤ 60) : ∀ a ∈ as, Ax a := fun a ha => by
  have h1 := hz a.1 (by rw [← e]; exact List.mem_map_of_mem ha)
  have h2 := hp a ha
  exact ⟨h1.1, by omega, (BdC.of 10 (by omega) (by omega) : BdC a.2 10).up (by decide)⟩
theorem lohi_len : ∀ as : List (Int × Int), (∀ a ∈ as, (1 ≤ a.1 ∧ a.1 ≤ 60) ∧ -60 ≤ a.2 ∧ a.2 ≤ 60) → -3600 * (as.length : Int) ≤ (as.map loA).sum ∧ (as.map loA).sum ≤ 0 ∧ 0 ≤ (as.map hiA).sum ∧ (as.map hiA).sum ≤ 3600 * (as.length : Int)
  | [], _ => by simp
  | a :: r, h => by
    have ih := lohi_len r fun x hx => h x (List.mem_cons_of_mem _ hx)
    obtain ⟨⟨a1, a2⟩, a3, a4⟩ := h a List.mem_cons_self
    have m1 : a.2 * (a.1 - 1) ≤ 3600 := by
      have := Int.mul_le_mul_of_nonneg_right a4 (show 0 ≤ a.1 - 1 by omega)
      omega
    have m2 : -3600 ≤ a.2 * (a.1 - 1) := by
      have := Int.mul_le_mul_of_nonneg_right a3 (show 0 ≤ a.1 - 1 by omega)
      omega
    have e1 : loA a = min 0 (a.2 * (a.1 - 1)) := rfl
    have e2 : hiA a = max 0 (a.2 * (a.1 - 1)) := rfl
    simp only [List.map_cons, List.sum_cons, List.length_cons]
    omega
/-! ### the views drawn -/
theorem F_lviews (ns : List Int) : ∃ (room c f1 f2 : Int) (as1 as2 : List (Int × Int)), Pv room c f1 as1 ∧ Pv room c f2 as2 ∧ 1 ≤ c ∧ c ≤ 60 ∧ room ≤ 300 ∧
    F__law_views [.val .s (.scr ns)] = .ok (.val .s (.tup [.int room, .tup [.int f1, .lst (as1.map axD)], .tup [.int f2, .lst (as2.map axD)]])) := by
  obtain ⟨l, S, e0⟩ := F_lsizes ns 2 (by decide) (by decide)
  have p0 : 0 < prodL l := prod_pos fun x hx => by have := (S.sz x hx).1; omega
  have d6 := kDraw .s ns 6 6 (by decide) (by decide) (by decide)
  have l6 := dr_lo ns 6 (m := 6) (by decide)
  have m6 := dr_hi ns 6 (m := 6) (by decide)
  generalize dr ns 6 6 = j at *
  obtain ⟨zs, hz, ha⟩ := atI_memX (f := fun z : List Int => D.lst (z.map D.int)) [l, l.reverse, [prodL l], [1, prodL l], [prodL l, 1], l ++ [1]] j l6 (by simpa using m6)
  have O := S.other zs hz
  have O1 : Oz (prodL l) l := S.other l (by simp)
  obtain ⟨as1, g1, g2, g4, g3⟩ := F_laxes ns 7 (by decide) (by decide) (.inl rfl : Tg.s = .s ∨ Tg.s = .r) l O1.sz (by rw [O1.ct]; exact S.ct) O1.len
  obtain ⟨as2, h1, h2, h4, h3⟩ := F_laxes ns 10 (by decide) (by decide) (.inl rfl : Tg.s = .s ∨ Tg.s = .r) zs O.sz (by rw [O.ct]; exact S.ct) O.len
  have x1 := ax_of g1 O1.sz g2
  have x2 := ax_of h1 O.sz h2
  have r1 := F_reach as1 x1
  have r2 := F_reach as2 x2
  have y1 := lohi_len as1 fun a ha => ⟨O1.sz a.1 (by rw [← g1]; exact List.mem_map_of_mem ha), g2 a ha⟩
  have y2 := lohi_len as2 fun a ha => ⟨O.sz a.1 (by rw [← h1]; exact List.mem_map_of_mem ha), h2 a ha⟩
  rw [O.ct] at h4
  have w1 : cntA as1 = prodL l := by unfold cntA; rw [g1]
  have w2 : cntA as2 = prodL l := by unfold cntA; rw [h1, O.ct]
  have sct := S.ct
  have n1 : as1.length ≤ 8 := by have := congrArg List.length g1; have := O1.len; simp at *; omega
  have n2 : as2.length ≤ 8 := by have := congrArg List.length h1; have := O.len; simp at *; omega
  have d14 := kDraw .s ns 14 5 (by decide) (by decide) (by decide)
  have l14 := dr_lo ns 14 (m := 5) (by decide)
  have m14 := dr_hi ns 14 (m := 5) (by decide)
  generalize dr ns 14 5 = w at *
  generalize hA : (as1.map loA).sum = A1 at *
  generalize hB : (as1.map hiA).sum = B1 at *
  generalize hC : (as2.map loA).sum = A2 at *
  generalize hD : (as2.map hiA).sum = B2 at *
  have room1 : (1 : Int) ≤ 1 + max (B1 - A1) (B2 - A2) + w := by omega
  generalize hR : 1 + max (B1 - A1) (B2 - A2) + w = room at *
  have e15 := kDraw .s ns 15 (room - (B1 - A1)) (by decide) (by decide) (by omega)
  have l15 := dr_lo ns 15 (m := room - (B1 - A1)) (by omega)
  have m15 := dr_hi ns 15 (m := room - (B1 - A1)) (by omega)
  have e16 := kDraw .s ns 16 (room - (B2 - A2)) (by decide) (by decide) (by omega)
  have l16 := dr_lo ns 16 (m := room - (B2 - A2)) (by omega)
  have m16 := dr_hi ns 16 (m := room - (B2 - A2)) (by omega)
  refine ⟨room, prodL l, dr ns 15 (room - (B1 - A1)) - A1, dr ns 16 (room - (B2 - A2)) - A2, as1, as2, ⟨⟨⟨n1, x1⟩, room1, by omega, by rw [hA]; omega, by rw [hB]; omega⟩, by unfold cntA; rw [g1], g2⟩, ⟨⟨⟨n2, x2⟩, room1, by omega, by rw [hC]; omega, by rw [hD]; omega⟩, by unfold cntA; rw [h1, O.ct], h2⟩, by omega, S.ct, by omega, ?_⟩
  have kr : kRng1 [(.s, .int 2)] = .ok (.s, [.int 0, .int 1]) := (rfl)
  have ll : (l.map D.int).length + 1 ≤ 16777216 := by have := S.len; simp; omega
  simp only [List.map_cons, List.map_nil, List.map_reverse, List.map_append] at ha
  generalize as1.map axD = D1 at *
  generalize as2.map axD = D2 at *
  generalize l.map D.int = LL at *
  generalize zs.map D.int = ZZ at *
  have km : kMax [(.s, .lst [.int (B1 - A1), .int (B2 - A2)])] = .ok (.s, .int (max (B1 - A1) (B2 - A2))) := (rfl)
  have ka : kAdd (.s, .lst LL) (.s, .lst [.int 1]) = .ok (.own (LL ++ [.int 1])) := if_pos ⟨rfl, rfl, ll⟩
  unfold F__law_views B__law_views
  simp (disch := first | assumption | omega | decide +kernel) [-List.map_map, kMul_c, kFdiv_c, kMod_, kDivmod_c, kRng1_c, kPow_c, kLst, kLstT, kTup, shV, shI, extS, e0, d6, ha, g3, h3, r1, r2, lcK, lcD, km, d14, hR, kr, forD, L1__law_views, e15, e16, kRev, ka, tagA]

theorem lc_ax {g : TV → Env → Option Env} {el : Env → Res TV} {t : Tg} {env0 : Env} (F : Int × Int → D) (as : List (Int × Int)) (h : ∀ a ∈ as, ∃ e1, g (t, axD a) env0 = some e1 ∧ el e1 = .ok (.s, F a)) : lcD g yes el t env0 (as.map axD) = .ok (as.map F) := by
  induction as with
  | nil => rfl
  | cons a r ih =>
    obtain ⟨e1, h1, h2⟩ := h a List.mem_cons_self
    have ih := ih fun b hb => h b (List.mem_cons_of_mem _ hb)
    rw [List.map_cons, lcD, h1]
    dsimp only [yes]
    rw [h2]
    dsimp only
    rw [if_pos (shV_s _), ih] <;> rfl
theorem lc_int {g : TV → Env → Option Env} {el : Env → Res TV} {t : Tg} {env0 : Env} (F : Int → D) (as : List Int) (h : ∀ a ∈ as, ∃ e1, g (t, .int a) env0 = some e1 ∧ el e1 = .ok (.s, F a)) : lcD g yes el t env0 (as.map D.int) = .ok (as.map F) := by
  induction as with
  | nil => rfl
  | cons a r ih =>
    obtain ⟨e1, h1, h2⟩ := h a List.mem_cons_self
    have ih := ih fun b hb => h b (List.mem_cons_of_mem _ hb)
    rw [List.map_cons, lcD, h1]
    dsimp only [yes]
    rw [h2]
    dsimp only
    rw [if_pos (shV_s _), ih] <;> rfl

/-! ### pairs of views: room, cells -/
theorem cel1_one (p : Int) : ∀ cs : List Int, cel1 1 p cs = cs
  | [] => rfl
  | c :: r => by rw [cel1, cel1_one p r]; simp
theorem cels_nrm : ∀ (as : List (Int × Int)) (cs : List Int), cels (as.map nrm) cs = cels as cs
  | [], cs => rfl
  | a :: r, cs => by
    rw [List.map_cons, cels, cels, cels_nrm r]
    congr 1
    unfold nrm
    split
    · rename_i h
      rw [h, cel1_one, cel1_one]
    · rfl
theorem cnt_nrm (as : List (Int × Int)) : cntA (as.map nrm) = cntA as := by
  unfold cntA
  rw [List.map_map]
  congr 1
  refine List.map_congr_left fun a _ => ?_
  show (nrm a).1 = a.1
  unfold nrm
  split
  · rename_i h; exact h.symm
  · rfl
structure Pg (room c first : Int) (as : List (Int × Int)) : Prop where
  v : Vw room first as
  c : cntA as = c

/-! ### dicts of int keys as lists of pairs -/
def dKs {β : Type} (A : List (Int × β)) : List Key := A.map fun x => Sum.inl x.1
def dXs {β : Type} (f : β → D) (A : List (Int × β)) : List D := A.map fun x => f x.2
def lkA {β : Type} : List (Int × β) → Int → Option β
  | [], _ => none
  | (q, v) :: r, k => if q = k then some v else lkA r k
def ptA {β : Type} (A : List (Int × β)) (k : Int) (v : β) : List (Int × β) := if k ∈ A.map Prod.fst then A.map fun x => if x.1 = k then (k, v) else x else A ++ [(k, v)]
theorem findK_A {β : Type} (f : β → D) (k : Int) : ∀ A : List (Int × β), findK (.inl k) (dKs A) (dXs f A) = (lkA A k).map f
  | [] => rfl
  | (q, v) :: r => by
    show (if (Sum.inl q : Key) = .inl k then some (f v) else findK (.inl k) (dKs r) (dXs f r)) = _
    rw [findK_A f k r, lkA]
    by_cases h : q = k
    · rw [if_pos (by rw [h]), if_pos h] <;> rfl
    · rw [if_neg (fun z => h (Sum.inl.inj z)), if_neg h]
theorem anyK {β : Type} (A : List (Int × β)) (k : Int) : ((dKs A).any fun q => decide (q = Sum.inl k)) = decide (k ∈ A.map Prod.fst) := by
  rw [Bool.eq_iff_iff]
  simp [dKs]
theorem putDk_A {β : Type} (A : List (Int × β)) (k : Int) (v : β) : putDk (dKs A) (.inl k) = dKs (ptA A k v) := by
  unfold putDk ptA
  rw [anyK]
  by_cases h : k ∈ A.map Prod.fst
  · rw [if_pos h, if_pos (by simpa using h)]
    unfold dKs
    rw [List.map_map]
    refine List.map_congr_left fun x _ => ?_
    show _ = Sum.inl (if x.1 = k then (k, v) else x).1
    split
    · rename_i e; rw [e]
    · rfl
  · rw [if_neg h, if_neg (by simpa using h)]
    simp [dKs]
theorem putDx_A {β : Type} (f : β → D) (A : List (Int × β)) (k : Int) (v : β) : putDx (dKs A) (dXs f A) (.inl k) (f v) = dXs f (ptA A k v) := by
  unfold putDx ptA
  rw [anyK]
  by_cases h : k ∈ A.map Prod.fst
  · rw [if_pos h, if_pos (by simpa using h)]
    clear h
    induction A with
    | nil => rfl
    | cons x r ih =>
      show (if (Sum.inl x.1 : Key) = .inl k then f v else f x.2) :: List.zipWith _ (dKs r) (dXs f r) = f (if x.1 = k then (k, v) else x).2 :: _
      rw [ih]
      congr 1
      by_cases q : x.1 = k
      · rw [if_pos (by rw [q]), if_pos q]
      · rw [if_neg (fun z => q (Sum.inl.inj z)), if_neg q]
  · rw [if_neg h, if_neg (by simpa using h)]
    simp [dXs]
theorem lkA_none {β : Type} : ∀ {A : List (Int × β)} {k : Int}, k ∉ A.map Prod.fst → lkA A k = none
  | [], _, _ => rfl
  | (q, v) :: r, k, h => by
    rw [lkA, if_neg fun z => h (by rw [← z]; exact List.mem_cons_self), lkA_none fun z => h (List.mem_cons_of_mem _ z)]
theorem lkA_mem {β : Type} : ∀ {A : List (Int × β)} {k : Int}, k ∈ A.map Prod.fst → ∃ v, lkA A k = some v
  | (q, v) :: r, k, h => by
    rw [lkA]
    by_cases e : q = k
    · exact ⟨v, if_pos e⟩
    · rw [if_neg e]
      refine lkA_mem ?_
      rcases List.mem_cons.mp h with z | z
      · exact absurd z.symm e
      · exact z
theorem lkA_app {β : Type} : ∀ (A B : List (Int × β)) (k : Int), lkA (A ++ B) k = (lkA A k).or (lkA B k)
  | [], B, k => by simp [lkA]
  | (q, v) :: r, B, k => by
    rw [List.cons_append, lkA, lkA, lkA_app r B k]
    split <;> simp
theorem lkA_pt {β : Type} (A : List (Int × β)) (k j : Int) (v : β) : lkA (ptA A k v) j = if j = k then some v else lkA A j := by
  unfold ptA
  by_cases h : k ∈ A.map Prod.fst
  · rw [if_pos h]
    have key : ∀ A : List (Int × β), lkA (A.map fun x => if x.1 = k then (k, v) else x) j = if j = k then (if k ∈ A.map Prod.fst then some v else none) else lkA A j := fun A => by
      induction A with
      | nil => simp [lkA]
      | cons x r ih =>
        obtain ⟨q, w⟩ := x
        rw [List.map_cons]
        by_cases e : q = k
        · subst e
          rw [if_pos rfl, lkA, lkA]
          by_cases z : j = q
          · subst z; simp
          · rw [if_neg (Ne.symm z), ih, if_neg z, if_neg z, if_neg (Ne.symm z)]
        · rw [if_neg e, lkA, lkA, ih]
          by_cases z : j = k
          · subst z
            rw [if_neg e, if_pos rfl, if_pos rfl]
            have : (j ∈ (((q, w) :: r).map Prod.fst)) ↔ j ∈ r.map Prod.fst := by
              simp [Ne.symm e]
            simp only [this]
          · rw [if_neg z, if_neg z]
    rw [key, if_pos h]
  · rw [if_neg h, lkA_app]
    by_cases z : j = k
    · subst z
      rw [lkA_none h, if_pos rfl]
      simp [lkA]
    · rw [if_neg z]
      have : lkA [(k, v)] j = none := by rw [lkA, if_neg (Ne.symm z)] <;> rfl
      rw [this]
      simp
theorem ptA_keys {β : Type} (A : List (Int × β)) (k : Int) (v : β) : (ptA A k v).map Prod.fst = if k ∈ A.map Prod.fst then A.map Prod.fst else A.map Prod.fst ++ [k] := by
  unfold ptA
  by_cases h : k ∈ A.map Prod.fst
  · rw [if_pos h, if_pos h, List.map_map]
    refine List.map_congr_left fun x _ => ?_
    show (if x.1 = k then (k, v) else x).1 = x.1
    split
    · rename_i e; exact e.symm
    · rfl
  · rw [if_neg h, if_neg h]
    simp
theorem ptA_nodup {β : Type} {A : List (Int × β)} (h : (A.map Prod.fst).Nodup) (k : Int) (v : β) : ((ptA A k v).map Prod.fst).Nodup := by
  rw [ptA_keys]
  split
  · exact h
  · rename_i q
    exact List.nodup_append.mpr ⟨h, List.nodup_cons.mpr ⟨by simp, List.nodup_nil⟩, fun a ha b hb e => q (by rw [← List.mem_singleton.mp hb, ← e]; exact ha)⟩
theorem ptA_len {β : Type} (A : List (Int × β)) (k : Int) (v : β) : (ptA A k v).length ≤ A.length + 1 := by
  unfold ptA
  split <;> simp
theorem dKs_len {β : Type} (A : List (Int × β)) : (dKs A).length = A.length := by simp [dKs]
theorem dKs_ints {β : Type} (A : List (Int × β)) : dKs A = (A.map Prod.fst).map Sum.inl := by rw [List.map_map]; rfl

/-! ### sources told, the law's dict -/
def pz : List (Int × Int) → List (Int × Int) → List (Int × Int)
  | [], R => R
  | (c, f) :: r, R => pz r (ptA R c f)
theorem pz_nodup : ∀ (L R : List (Int × Int)), (R.map Prod.fst).Nodup → ((pz L R).map Prod.fst).Nodup
  | [], R, h => h
  | (c, f) :: r, R, h => pz_nodup r _ (ptA_nodup h c f)
theorem pz_len : ∀ (L R : List (Int × Int)), (pz L R).length ≤ R.length + L.length
  | [], R => by simp [pz]
  | (c, f) :: r, R => by
    have h1 := pz_len r (ptA R c f)
    have h2 := ptA_len R c f
    rw [pz, List.length_cons]
    omega
theorem src_loop (L1 : Env → SR) (hL : L1 = frzD 4 (dsetS 2 (getV 4) (getV 3))) (x0 x1 : Option EV) : ∀ (L R : List (Int × Int)), R.length + L.length ≤ 5000 → ∀ x3 x4, ∃ y3 y4, forD (gdT 2 (gdC (gdN 3) (gdC (gdN 4) gdNil))) L1 .s (L.map axD) [x0, x1, some (.ownd (dKs R) (dXs D.int R)), x3, x4] = .nx [x0, x1, some (.ownd (dKs (pz L R)) (dXs D.int (pz L R))), y3, y4]
  | [], R, _, x3, x4 => ⟨x3, x4, by simp [pz]⟩
  | (c, f) :: r, R, hl, x3, x4 => by
    rw [List.length_cons] at hl
    have h2 := ptA_len R c f
    obtain ⟨y3, y4, ih⟩ := src_loop L1 hL x0 x1 r (ptA R c f) (by omega) (some (.val .s (.int c))) (some (.val .s (.int f)))
    refine ⟨y3, y4, ?_⟩
    have k1 := putDk_A R c f
    have k2 := putDx_A D.int R c f
    have kl : (dKs R).length < 16777216 := by rw [dKs_len]; omega
    rw [← k1, ← k2] at ih
    rw [List.map_cons, forD_nx (e1 := [x0, x1, some (.ownd (dKs R) (dXs D.int R)), some (.val .s (.int c)), some (.val .s (.int f))]) (by simp [axD]) (e2 := [x0, x1, some (.ownd (putDk (dKs R) (.inl c)) (putDx (dKs R) (dXs D.int R) (.inl c) (.int f))), some (.val .s (.int c)), some (.val .s (.int f))]) ?_]
    · rw [pz, ← ih]
    · subst hL
      generalize dKs R = K at *
      generalize dXs D.int R = XX at *
      simp (disch := first | assumption | omega | decide +kernel) [-List.map_map, kMul_c, kFdiv_c, kMod_, kDivmod_c, kRng1_c, kPow_c, kLst, kLstT, kTup, shV, shI, extS, kl]
theorem zip_ax : ∀ (a b : List Int), ((a.map D.int).zip (b.map D.int)).map (fun z => D.tup [z.1, z.2]) = (a.zip b).map axD
  | [], _ => by simp
  | _ :: _, [] => by simp
  | x :: a, y :: b => by
    have := zip_ax a b
    simp only [List.map_cons, List.zip_cons_cons]
    rw [this]
    rfl
theorem F_srcs {t u : Tg} (ht : t = .s ∨ t = .r) (hu : u = .s ∨ u = .r) (room f1 f2 : Int) (as1 as2 : List (Int × Int)) (h1 : Axs as1) (h2 : Axs as2) (c1 : cntA as1 ≤ 2000) (e : cntA as1 = cntA as2) :
    F_sources [.val t (dV room f1 as1), .val u (dV room f2 as2)] = .ok (.ownd (dKs (pz ((cels as1 [f1]).zip (cels as2 [f2])) [])) (dXs D.int (pz ((cels as1 [f1]).zip (cels as2 [f2])) []))) := by
  have k1 := F_countV (.inr rfl : Tg.r = .s ∨ Tg.r = .r) room f1 as1 h1
  have k2 := F_countV (.inr rfl : Tg.r = .s ∨ Tg.r = .r) room f2 as2 h2
  have k3 := F_countV (.inl rfl : Tg.s = .s ∨ Tg.s = .r) room f1 as1 h1
  have k4 := F_countV (.inl rfl : Tg.s = .s ∨ Tg.s = .r) room f2 as2 h2
  have g1 := F_cells (.inr rfl : Tg.r = .s ∨ Tg.r = .r) room f1 as1 h1 (by omega)
  have g2 := F_cells (.inr rfl : Tg.r = .s ∨ Tg.r = .r) room f2 as2 h2 (by omega)
  have g3 := F_cells (.inl rfl : Tg.s = .s ∨ Tg.s = .r) room f1 as1 h1 (by omega)
  have g4 := F_cells (.inl rfl : Tg.s = .s ∨ Tg.s = .r) room f2 as2 h2 (by omega)
  have n1 := cels_len as1 [f1] h1.ok
  have n2 := cels_len as2 [f2] h2.ok
  have z := kZip_ (x := (.s, D.lst ((cels as1 [f1]).map D.int))) (y := (.s, D.lst ((cels as2 [f2]).map D.int))) (kSeq_sl _) (kSeq_sl _)
  rw [zip_ax] at z
  obtain ⟨y3, y4, lp⟩ := src_loop L1_sources rfl (some (.val t (dV room f1 as1))) (some (.val u (dV room f2 as2))) ((cels as1 [f1]).zip (cels as2 [f2])) [] (by simp at n1 n2 ⊢; omega) none none
  generalize ((cels as1 [f1]).zip (cels as2 [f2])) = Z at *
  generalize (cels as1 [f1]).map D.int = C1 at *
  generalize (cels as2 [f2]).map D.int = C2 at *
  rw [e] at k1 k3
  generalize cntA as2 = n at *
  have e0 : dKs ([] : List (Int × Int)) = [] := rfl
  have e1 : dXs D.int ([] : List (Int × Int)) = [] := rfl
  rw [e0, e1] at lp
  unfold F_sources B_sources
  unfold dV at *
  rcases ht with rfl | rfl <;> rcases hu with rfl | rfl <;> simp (disch := first | assumption | omega | decide +kernel) [-List.map_map, kMul_c, kFdiv_c, kMod_, kDivmod_c, kRng1_c, kPow_c, kLst, kLstT, kTup, shV, shI, extS, k1, k2, k3, k4, g1, g2, g3, g4, z, lp, jnT, dict0]
theorem F_ldue (f1 f2 : Int) (as1 as2 : List (Int × Int)) (h1 : Axs as1) (h2 : Axs as2) (c1 : cntA as1 ≤ 2000) (c2 : cntA as2 ≤ 2000) :
    F__law_due [.val .s (.tup [.int f1, .lst (as1.map axD)]), .val .s (.tup [.int f2, .lst (as2.map axD)])] = .ok (.ownd (dKs (pz ((cels as1 [f1]).zip (cels as2 [f2])) [])) (dXs D.int (pz ((cels as1 [f1]).zip (cels as2 [f2])) []))) := by
  have g1 := F_lcells f1 as1 h1.ok (by omega)
  have g2 := F_lcells f2 as2 h2.ok (by omega)
  have n1 := cels_len as1 [f1] h1.ok
  have n2 := cels_len as2 [f2] h2.ok
  have z := kZip_ (x := (.s, D.lst ((cels as1 [f1]).map D.int))) (y := (.s, D.lst ((cels as2 [f2]).map D.int))) (kSeq_sl _) (kSeq_sl _)
  rw [zip_ax] at z
  obtain ⟨y3, y4, lp⟩ := src_loop L1__law_due rfl (some (.val .s (.tup [.int f1, .lst (as1.map axD)]))) (some (.val .s (.tup [.int f2, .lst (as2.map axD)]))) ((cels as1 [f1]).zip (cels as2 [f2])) [] (by simp at n1 n2 ⊢; omega) none none
  generalize ((cels as1 [f1]).zip (cels as2 [f2])) = Z at *
  generalize (cels as1 [f1]).map D.int = C1 at *
  generalize (cels as2 [f2]).map D.int = C2 at *
  have e0 : dKs ([] : List (Int × Int)) = [] := rfl
  have e1 : dXs D.int ([] : List (Int × Int)) = [] := rfl
  rw [e0, e1] at lp
  generalize as1.map axD = D1 at *
  generalize as2.map axD = D2 at *
  unfold F__law_due B__law_due
  simp (disch := first | assumption | omega | decide +kernel) [-List.map_map, kMul_c, kFdiv_c, kMod_, kDivmod_c, kRng1_c, kPow_c, kLst, kLstT, kTup, shV, shI, extS, g1, g2, z, lp, jnT, dict0]
theorem hitD_self (R : List (Int × Int)) : ∀ (S : List (Int × Int)), (∀ x ∈ S, lkA R x.1 = some x.2) → hitD (dKs R) (dXs D.int R) (dKs S) (dXs D.int S) = true
  | [], _ => rfl
  | (k, v) :: S, h => by
    have ih := hitD_self R S fun x hx => h x (List.mem_cons_of_mem _ hx)
    have f := findK_A D.int k R
    rw [h (k, v) List.mem_cons_self] at f
    show (match findK (.inl k) (dKs R) (dXs D.int R) with | some (.int j) => decide (v = j) && hitD (dKs R) (dXs D.int R) (dKs S) (dXs D.int S) | _ => false) = true
    rw [f, Option.map_some, ih]
    simp
theorem lkA_self {R : List (Int × Int)} (h : (R.map Prod.fst).Nodup) : ∀ x ∈ R, lkA R x.1 = some x.2 := by
  induction R with
  | nil => intro x hx; cases hx
  | cons a r ih =>
    intro x hx
    rw [List.map_cons, List.nodup_cons] at h
    obtain ⟨q, v⟩ := a
    rw [lkA]
    rcases List.mem_cons.mp hx with rfl | hx
    · rw [if_pos rfl]
    · rw [if_neg fun z => h.1 (by have hm := List.mem_map_of_mem (f := Prod.fst) hx; rw [← z] at hm; exact hm)]
      exact ih h.2 x hx
theorem dXs_ints (R : List (Int × Int)) : dXs D.int R = (R.map Prod.snd).map D.int := by rw [List.map_map]; rfl
theorem kDNe_self (t u : Tg) {R : List (Int × Int)} (h : (R.map Prod.fst).Nodup) : kDNe (t, .dic (dKs R) (dXs D.int R)) (u, .dic (dKs R) (dXs D.int R)) = .ok (.s, .bl false) := by
  have i : intsAll (dXs D.int R) = true := by rw [dXs_ints]; exact intsAll_ints _
  unfold kDNe deqR
  dsimp only
  rw [if_pos ⟨i, i⟩, hitD_self R R (lkA_self h)]
  simp [okb]
theorem isi_dd (t : Tg) (ks : List Key) (xs : List D) : kIsi "dict" (t, .dic ks xs) = .ok (.s, .bl true) := by
  rw [kIsi_def, show isiT "dict" (.dic ks xs) = some true from by show kitB "dict" "dict" = _; decide +kernel] <;> rfl
theorem F_lright {t u : Tg} (ht : t = .s ∨ t = .r) (hu : u = .s ∨ u = .r) (R : List (Int × Int)) (h : (R.map Prod.fst).Nodup) : F__law_right [.val t (.dic (dKs R) (dXs D.int R)), .val u (.dic (dKs R) (dXs D.int R))] = .ok (.val .s (.bl true)) := by
  have w : ∀ t i, F__law_whole [.val t (.int i)] = .ok (.val .s (.bl true)) := fun t i => by
    unfold F__law_whole B__law_whole; simp (disch := first | assumption | omega | decide +kernel) [-List.map_map, kMul_c, kFdiv_c, kMod_, kDivmod_c, kRng1_c, kPow_c, kLst, kLstT, kTup, shV, shI, extS, ]
  have ne := fun t u => kDNe_self t u h
  have kk : (dKs R).map keyD = (R.map Prod.fst).map D.int := by rw [dKs_ints, keyD_ints]
  have lc := fun x1 => lcK_ok (x := (.s, (R.map Prod.fst).map D.int)) (lcD_none (g := gdN 2) (c := orB (notB (bin1 (mvD (thenK (argC (getV 2) argN) (callD F__law_whole))) truK)) (notB (bin1 (mvD (thenK (argC (bin2 (getV 0) (getV 2) kDget) argN) (callD F__law_whole))) truK))) (el := getV 2) (t := .s) (env0 := [some (.val t (.dic (dKs R) (dXs D.int R))), x1, none]) _ fun d hd => by
    obtain ⟨k, hk, rfl⟩ := List.mem_map.mp hd
    obtain ⟨v, hv⟩ := lkA_mem hk
    have f := findK_A D.int k R
    rw [hv, Option.map_some] at f
    refine ⟨[some (.val t (.dic (dKs R) (dXs D.int R))), x1, some (.val .s (.int k))], by simp, ?_⟩
    generalize dKs R = K at *
    generalize dXs D.int R = XX at *
    rcases ht with rfl | rfl <;> simp (disch := first | assumption | omega | decide +kernel) [-List.map_map, kMul_c, kFdiv_c, kMod_, kDivmod_c, kRng1_c, kPow_c, kLst, kLstT, kTup, shV, shI, extS, w, f]) (by simp)
  rw [← kk] at lc
  generalize dKs R = K at *
  generalize dXs D.int R = XX at *
  unfold F__law_right B__law_right
  rcases ht with rfl | rfl <;> rcases hu with rfl | rfl <;> simp (disch := first | assumption | omega | decide +kernel) [-List.map_map, kMul_c, kFdiv_c, kMod_, kDivmod_c, kRng1_c, kPow_c, kLst, kLstT, kTup, shV, shI, extS, isi_dd, ne, lc]
/-! ### far -/
def farA (T : Int) (a : Int × Int) : Int × Int := (a.1, a.2 * T)
theorem farA_sums (T : Int) (hT : 0 < T) : ∀ as : List (Int × Int), ((as.map (farA T)).map loA).sum = (as.map loA).sum * T ∧ ((as.map (farA T)).map hiA).sum = (as.map hiA).sum * T
  | [] => by simp
  | (s, p) :: r => by
    obtain ⟨h1, h2⟩ := farA_sums T hT r
    simp only [List.map_cons, List.sum_cons, h1, h2, Int.add_mul]
    have e : p * T * (s - 1) = p * (s - 1) * T := by rw [Int.mul_assoc, Int.mul_comm T, ← Int.mul_assoc]
    have l : loA (farA T (s, p)) = loA (s, p) * T := by
      unfold loA farA
      dsimp only
      rw [e]
      by_cases q : 0 ≤ p * (s - 1)
      · have := Int.mul_nonneg q (show 0 ≤ T by omega)
        rw [Int.min_eq_left q, Int.min_eq_left this, Int.zero_mul]
      · have : p * (s - 1) * T ≤ 0 := Int.mul_nonpos_of_nonpos_of_nonneg (by omega) (by omega)
        rw [Int.min_eq_right this, Int.min_eq_right (show p * (s - 1) ≤ 0 by omega)]
    have g : hiA (farA T (s, p)) = hiA (s, p) * T := by
      unfold hiA farA
      dsimp only
      rw [e]
      by_cases q : 0 ≤ p * (s - 1)
      · have := Int.mul_nonneg q (show 0 ≤ T by omega)
        rw [Int.max_eq_right q, Int.max_eq_right this]
      · have : p * (s - 1) * T ≤ 0 := Int.mul_nonpos_of_nonpos_of_nonneg (by omega) (by omega)
        rw [Int.max_eq_left this, Int.max_eq_left (show p * (s - 1) ≤ 0 by omega), Int.zero_mul]
    rw [l, g]
    exact ⟨rfl, rfl⟩
theorem far_vw {room f T : Int} {as : List (Int × Int)} (h : Vw room f as) (hp : ∀ a ∈ as, -60 ≤ a.2 ∧ a.2 ≤ 60) (hr : room ≤ 300) (hT : 0 < T) (hT2 : T ≤ 1000000001000000) (hx : room * T ≤ 1000000000000000000) : Vw (room * T) (f * T) (as.map (farA T)) := by
  obtain ⟨e1, e2⟩ := farA_sums T hT as
  refine ⟨⟨by simpa using h.ax.len, fun a ha => ?_⟩, ?_, hx, ?_, ?_⟩
  · obtain ⟨b, hb, rfl⟩ := List.mem_map.mp ha
    have hB := h.ax.ok b hb
    have := hp b hb
    have b1 : BdC b.2 7 := .of 7 (by omega) (by omega)
    have b2 : BdC T 60 := .of 60 (by omega) (by omega)
    exact ⟨hB.lo, hB.hi, (BdC.mul : BdC (b.2 * T) (7 + 60)).up (by decide)⟩
  · have := Int.mul_le_mul_of_nonneg_right h.r1 (show 0 ≤ T by omega)
    omega
  · rw [e1, ← Int.add_mul]; exact Int.mul_nonneg h.lo (by omega)
  · rw [e2, ← Int.add_mul]; exact Int.mul_lt_mul_of_pos_right h.hi hT
theorem far_cnt (T : Int) (as : List (Int × Int)) : cntA (as.map (farA T)) = cntA as := by
  unfold cntA
  rw [List.map_map]
  rfl
theorem F_lfar (x : Int) (f T : Int) (as : List (Int × Int)) (hl : as.length ≤ 8) (hf : -1000000 ≤ f ∧ f ≤ 1000000) (hp : ∀ a ∈ as, -60 ≤ a.2 ∧ a.2 ≤ 60) (hT : 0 < T) (hT2 : T ≤ 1000000001000000) :
    F__law_far [.val .s (.int x), .val .s (.tup [.int f, .lst (as.map axD)]), .val .s (.int T)] = .ok (.val .s (.tup [.int (f * T), .lst ((as.map (farA T)).map axD)])) := by
  have bT : BdC T 60 := .of 60 (by omega) (by omega)
  have bf : BdC f 20 := .of 20 (by omega) (by omega)
  have lc := lcK_ok (x := (.s, as.map axD)) (lc_ax (g := gdT 2 (gdC (gdN 3) (gdC (gdN 4) gdNil))) (el := thenK (argC (getV 3) (argC (mvD (bin2 (getV 4) (getV 2) kMul)) argN)) kTup) (t := .s) (env0 := [some (.val .s (.int x)), some (.val .s (.tup [.int f, .lst (as.map axD)])), some (.val .s (.int T)), none, none]) (fun a => axD (farA T a)) as (fun a ha => by
    have := hp a ha
    have bp : BdC a.2 7 := .of 7 (by omega) (by omega)
    exact ⟨[some (.val .s (.int x)), some (.val .s (.tup [.int f, .lst (as.map axD)])), some (.val .s (.int T)), some (.val .s (.int a.1)), some (.val .s (.int a.2))], by simp [axD], by simp (disch := first | assumption | omega | decide +kernel) [-List.map_map, kMul_c, kFdiv_c, kMod_, kDivmod_c, kRng1_c, kPow_c, kLst, kLstT, kTup, shV, shI, extS, axD, farA, tagA]⟩)) (by simp; omega)
  have em : as.map (fun a => axD (farA T a)) = (as.map (farA T)).map axD := by rw [List.map_map]; rfl
  rw [em] at lc
  generalize (as.map (farA T)).map axD = Q at *
  generalize as.map axD = A at *
  unfold F__law_far B__law_far
  simp (disch := first | assumption | omega | decide +kernel) [-List.map_map, kMul_c, kFdiv_c, kMod_, kDivmod_c, kRng1_c, kPow_c, kLst, kLstT, kTup, shV, shI, extS, lc, tagA]
/-! ### the law -/
theorem law_go (ns : List Int) (room f1 f2 : Int) (as1 as2 : List (Int × Int)) (V1 : Vw room f1 as1) (V2 : Vw room f2 as2) (c1 : cntA as1 ≤ 60) (e : cntA as1 = cntA as2) (x7 : Option EV) (T : Env → SR)
    (hT : T = (seqS (setS 1 (thenK (argC (mvD (thenK (argC (getV 4) (argC (bin2 (getV 5) (cst (.int 0)) kIx) (argC (mvD (thenK (argC (bin2 (getV 5) (cst (.int 1)) kIx) argN) kList)) argN))) (makeD "View" I_View))) (argC (mvD (thenK (argC (getV 4) (argC (bin2 (getV 6) (cst (.int 0)) kIx) (argC (mvD (thenK (argC (bin2 (getV 6) (cst (.int 1)) kIx) argN) kList)) argN))) (makeD "View" I_View))) argN)) kLst))
    (seqS (setS 2 (thenK (argC (getV 5) (argC (getV 6) argN)) (callD F__law_due)))
    (seqS (setS 3 (thenK (argC (bin2 (getV 1) (cst (.int 0)) kIx) (argC (bin2 (getV 1) (cst (.int 1)) kIx) argN)) (callD F_sources)))
    (seqS (ifS (notB (bin1 (mvD (thenK (argC (getV 3) (argC (getV 2) argN)) (callD F__law_right))) truK))
    (retS (meD (cst (.bl false))))
    SR.nx)
    (seqS (dclrS 3)
    (seqS (ifS (notB (bin1 (mvD (thenK (argC (mvD (thenK (argC (bin2 (getV 1) (cst (.int 1)) kIx) (argC (bin2 (getV 1) (cst (.int 0)) kIx) argN)) (callD F_sources))) (argC (mvD (thenK (argC (getV 6) (argC (getV 5) argN)) (callD F__law_due))) argN)) (callD F__law_right))) truK))
    (retS (meD (cst (.bl false))))
    SR.nx)
    (seqS (dsetS 3 (cst (.int 3)) (bin1 (cst (.int 5)) kNeg))
    (frzD 2 (retS (thenK (argC (mvD (thenK (argC (bin2 (getV 1) (cst (.int 0)) kIx) (argC (bin2 (getV 1) (cst (.int 1)) kIx) argN)) (callD F_sources))) (argC (getV 2) argN)) (callD F__law_right)))))))))))) :
    ∃ e, T [some (.val .s (.scr ns)), none, none, none, some (.val .s (.int room)), some (.val .s (.tup [.int f1, .lst (as1.map axD)])), some (.val .s (.tup [.int f2, .lst (as2.map axD)])), x7] = .rt (.val .s (.bl true)) e := by
  have m1 := I_V (.inl rfl : Tg.s = .s ∨ Tg.s = .r) room f1 as1 V1
  have m2 := I_V (.inl rfl : Tg.s = .s ∨ Tg.s = .r) room f2 as2 V2
  have l1 : (as1.map axD).length ≤ 16777216 := by have := V1.ax.len; simp; omega
  have l2 : (as2.map axD).length ≤ 16777216 := by have := V2.ax.len; simp; omega
  have s1 := F_srcs (.inl rfl : Tg.s = .s ∨ Tg.s = .r) (.inl rfl : Tg.s = .s ∨ Tg.s = .r) room f1 f2 (as1.map nrm) (as2.map nrm) V1.ax.nrm V2.ax.nrm (by rw [cnt_nrm]; omega) (by rw [cnt_nrm, cnt_nrm, e])
  have s2 := F_srcs (.inl rfl : Tg.s = .s ∨ Tg.s = .r) (.inl rfl : Tg.s = .s ∨ Tg.s = .r) room f2 f1 (as2.map nrm) (as1.map nrm) V2.ax.nrm V1.ax.nrm (by rw [cnt_nrm]; omega) (by rw [cnt_nrm, cnt_nrm, e])
  rw [cels_nrm, cels_nrm] at s1 s2
  have d1 := F_ldue f1 f2 as1 as2 V1.ax V2.ax (by omega) (by omega)
  have d2 := F_ldue f2 f1 as2 as1 V2.ax V1.ax (by omega) (by omega)
  have n1 := pz_nodup ((cels as1 [f1]).zip (cels as2 [f2])) [] (by simp)
  have n2 := pz_nodup ((cels as2 [f2]).zip (cels as1 [f1])) [] (by simp)
  have r1 := F_lright (.inr rfl : Tg.r = .s ∨ Tg.r = .r) (.inr rfl : Tg.r = .s ∨ Tg.r = .r) _ n1
  have r2 := F_lright (.inl rfl : Tg.s = .s ∨ Tg.s = .r) (.inl rfl : Tg.s = .s ∨ Tg.s = .r) _ n2
  have r3 := F_lright (.inl rfl : Tg.s = .s ∨ Tg.s = .r) (.inl rfl : Tg.s = .s ∨ Tg.s = .r) _ n1
  generalize pz ((cels as1 [f1]).zip (cels as2 [f2])) [] = R1 at *
  generalize pz ((cels as2 [f2]).zip (cels as1 [f1])) [] = R2 at *
  generalize dKs R1 = K1 at *
  generalize dKs R2 = K2 at *
  generalize dXs D.int R1 = X1 at *
  generalize dXs D.int R2 = X2 at *
  unfold dV at s1 s2
  generalize (as1.map nrm).map axD = N1 at *
  generalize (as2.map nrm).map axD = N2 at *
  generalize as1.map axD = A1 at *
  generalize as2.map axD = A2 at *
  subst hT
  exact ⟨_, by simp (disch := first | assumption | omega | decide +kernel) [-List.map_map, kMul_c, kFdiv_c, kMod_, kDivmod_c, kRng1_c, kPow_c, kLst, kLstT, kTup, shV, shI, extS, m1, m2, l1, l2, kList, s1, s2, d1, d2, r1, r2, r3]; rfl⟩
theorem law_true (ns : List Int) (_ : ns.length ≤ 63) : ∃ t, F_law [.val .s (.scr ns)] = .ok (.val t (.bl true)) := by
  obtain ⟨room, c, f1, f2, as1, as2, P1, P2, c0, c1, hr, hv⟩ := F_lviews ns
  have d0 := kDraw .s ns 0 2 (by decide) (by decide) (by decide)
  have dd1 := kDraw .s ns 1 1000000 (by decide) (by decide) (by decide)
  have l1 := dr_lo ns 1 (m := 1000000) (by decide)
  have l2 := dr_hi ns 1 (m := 1000000) (by decide)
  generalize dr ns 0 2 = w at *
  generalize dr ns 1 1000000 = g at *
  have fb : ∀ f (as : List (Int × Int)), Pv room c f as → -1000000 ≤ f ∧ f ≤ 1000000 := fun f as P => by
    have h1 := P.v.lo
    have h2 := P.v.hi
    have h3 := lohi_len as fun a ha => ⟨by
      have := (P.v.ax.ok a ha).lo
      have hc := P.c
      have : a.1 ≤ cntA as := by
        have p1 : ∀ l : List Int, PosL l → ∀ s ∈ l, s ≤ prodL l := fun l => by
          induction l with
          | nil => intro _ s hs; cases hs
          | cons b r ih =>
            intro hp s hs
            have hb := hp.head
            have hq := prod_pos hp.tail
            rw [prodL]
            rcases List.mem_cons.mp hs with rfl | hs
            · have := Int.mul_le_mul_of_nonneg_left (show (1 : Int) ≤ prodL r by omega) (show 0 ≤ s by omega)
              omega
            · have h1 := ih hp.tail s hs
              have := Int.mul_le_mul_of_nonneg_right (show (1 : Int) ≤ b by omega) (show 0 ≤ prodL r by omega)
              omega
        exact p1 _ (fun s hs => by obtain ⟨b, hb, rfl⟩ := List.mem_map.mp hs; exact (P.v.ax.ok b hb).lo) a.1 (List.mem_map_of_mem ha)
      omega, P.p a ha⟩
    have := P.v.ax.len
    omega
  have b1 := fb f1 as1 P1
  have b2 := fb f2 as2 P2
  have br : BdC room 10 := .of 10 (by have := P1.v.r1; omega) (by omega)
  obtain ⟨T, hB, hT⟩ : ∃ T, B_law = (seqS (asgS (mvD (thenK (argC (getV 0) argN) (callD F__law_views))) (gdT 3 (gdC (gdN 4) (gdC (gdN 5) (gdC (gdN 6) gdNil)))))
    (seqS (ifS (tstB (bin2 (mvD (thenK (argC (getV 0) (argC (cst (.int 0)) (argC (cst (.int 2)) argN))) (callD F__law_draw))) (cst (.int 1)) kEq))
    (seqS (setS 7 (bin2 (bin2 (cst (.int 10)) (cst (.int 15)) (asI2 kPow)) (mvD (thenK (argC (getV 0) (argC (cst (.int 1)) (argC (bin2 (cst (.int 10)) (cst (.int 6)) (asI2 kPow)) argN))) (callD F__law_draw))) kAdd))
    (seqS (setS 5 (thenK (argC (getV 4) (argC (getV 5) (argC (getV 7) argN))) (callD F__law_far)))
    (seqS (setS 6 (thenK (argC (getV 4) (argC (getV 6) (argC (getV 7) argN))) (callD F__law_far)))
    (setS 4 (bin2 (getV 4) (getV 7) kMul)))))
    SR.nx)
    T)) ∧ ∀ (room f1 f2 : Int) (as1 as2 : List (Int × Int)) (V1 : Vw room f1 as1) (V2 : Vw room f2 as2) (c1 : cntA as1 ≤ 60) (e : cntA as1 = cntA as2) (x7 : Option EV), ∃ e, T [some (.val .s (.scr ns)), none, none, none, some (.val .s (.int room)), some (.val .s (.tup [.int f1, .lst (as1.map axD)])), some (.val .s (.tup [.int f2, .lst (as2.map axD)])), x7] = .rt (.val .s (.bl true)) e := ⟨_, rfl, fun room f1 f2 as1 as2 V1 V2 c1 e x7 => law_go ns room f1 f2 as1 as2 V1 V2 c1 e x7 _ rfl⟩
  by_cases q : w = 1
  · have T0 : 0 < 1000000000000000 + g := by omega
    have h1 := F_lfar room f1 (1000000000000000 + g) as1 P1.v.ax.len b1 P1.p T0 (by omega)
    have h2 := F_lfar room f2 (1000000000000000 + g) as2 P2.v.ax.len b2 P2.p T0 (by omega)
    have hx : room * (1000000000000000 + g) ≤ 1000000000000000000 := by
      have := Int.mul_le_mul_of_nonneg_right hr (show 0 ≤ 1000000000000000 + g by omega)
      omega
    have bT : BdC (1000000000000000 + g) 60 := .of 60 (by omega) (by omega)
    obtain ⟨e, h3⟩ := hT (room * (1000000000000000 + g)) (f1 * (1000000000000000 + g)) (f2 * (1000000000000000 + g)) (as1.map (farA (1000000000000000 + g))) (as2.map (farA (1000000000000000 + g))) (far_vw P1.v P1.p hr T0 (by omega) hx) (far_vw P2.v P2.p hr T0 (by omega) hx) (by rw [far_cnt, P1.c]; omega) (by rw [far_cnt, far_cnt, P1.c, P2.c]) (some (.val .s (.int (1000000000000000 + g))))
    refine ⟨.s, ?_⟩
    generalize (as1.map (farA (1000000000000000 + g))).map axD = Q1 at *
    generalize (as2.map (farA (1000000000000000 + g))).map axD = Q2 at *
    generalize as1.map axD = A1 at *
    generalize as2.map axD = A2 at *
    unfold F_law
    rw [hB]
    simp (disch := first | assumption | omega | decide +kernel) [-List.map_map, kMul_c, kFdiv_c, kMod_, kDivmod_c, kRng1_c, kPow_c, kLst, kLstT, kTup, shV, shI, extS, hv, d0, q, dd1, h1, h2, h3]
  · obtain ⟨e, h3⟩ := hT room f1 f2 as1 as2 P1.v P2.v (by rw [P1.c]; omega) (by rw [P1.c, P2.c]) none
    refine ⟨.s, ?_⟩
    generalize as1.map axD = A1 at *
    generalize as2.map axD = A2 at *
    unfold F_law
    rw [hB]
    simp (disch := first | assumption | omega | decide +kernel) [-List.map_map, kMul_c, kFdiv_c, kMod_, kDivmod_c, kRng1_c, kPow_c, kLst, kLstT, kTup, shV, shI, extS, hv, d0, q, h3]


end DL.Law

namespace DL.Law
open PySem PySem.Spec PyProof.Rows L2
/-! ### the text by places -/
def topS (i : Nat) : Stmt := PySem.Challenge.pw_pacehall_k63_sources_told.main.body.getD i (.Pass ⟨0, 0, 0, 0⟩)
abbrev s_count_of : Stmt := topS 13
abbrev s_View_sizes : Stmt := (clsB (topS 24)).getD 1 (.Pass ⟨0, 0, 0, 0⟩)
abbrev s_View_count : Stmt := (clsB (topS 24)).getD 3 (.Pass ⟨0, 0, 0, 0⟩)
abbrev s_View_cells : Stmt := (clsB (topS 24)).getD 6 (.Pass ⟨0, 0, 0, 0⟩)
abbrev s_sources : Stmt := topS 9
abbrev s__law_draw : Stmt := topS 26
abbrev s__law_sizes : Stmt := topS 28
abbrev s__law_axes : Stmt := topS 29
abbrev s__law_reach : Stmt := topS 30
abbrev s__law_views : Stmt := topS 31
abbrev s__law_far : Stmt := topS 33
abbrev s__law_cells : Stmt := topS 32
abbrev s__law_due : Stmt := topS 34
abbrev s__law_whole : Stmt := topS 27
abbrev s__law_right : Stmt := topS 35
abbrev s_is_whole : Stmt := topS 11
abbrev s_is_axis : Stmt := topS 22
abbrev s_kept_axes : Stmt := topS 23
abbrev s_View_least : Stmt := (clsB (topS 24)).getD 7 (.Pass ⟨0, 0, 0, 0⟩)
abbrev s_View_greatest : Stmt := (clsB (topS 24)).getD 8 (.Pass ⟨0, 0, 0, 0⟩)
abbrev s_View_init : Stmt := (clsB (topS 24)).getD 0 (.Pass ⟨0, 0, 0, 0⟩)
abbrev s_law : Stmt := topS 36
/-! ### what the top has written -/
def xnames : List Str := ["NoCount", "NoPair", "NoView", "TooMany"]
def cnames : List Str := ["View"]
def GG (K : PySem.W.Frag) : Gx := ⟨K, clOf xnames K, clOf cnames K⟩
abbrev s_in_TooMany : Stmt := (clsB (topS 7)).getD 0 (.Pass ⟨0, 0, 0, 0⟩)
structure Tx (K : PySem.W.Frag) (mg : Str → Option Value) : Prop where
  z_bool : mg "bool" = none
  z_dict : mg "dict" = none
  z_int : mg "int" = none
  z_isinstance : mg "isinstance" = none
  z_len : mg "len" = none
  z_list : mg "list" = none
  z_max : mg "max" = none
  z_min : mg "min" = none
  z_range : mg "range" = none
  z_sum : mg "sum" = none
  z_tuple : mg "tuple" = none
  z_zip : mg "zip" = none
  g_MOST : ∃ t, mg "MOST" = some (.int (4096) t)
  g_MOST_ROOM : ∃ t, mg "MOST_ROOM" = some (.int (1000000000000000000) t)
  g_MOST_AXES : ∃ t, mg "MOST_AXES" = some (.int (8) t)
  g_MOST_SIZE : ∃ t, mg "MOST_SIZE" = some (.int (1000000000) t)
  x_NoCount : Xc (GG K) mg "NoCount"
  x_NoPair : Xc (GG K) mg "NoPair"
  x_NoView : Xc (GG K) mg "NoView"
  f_TooMany : XcF (GG K) mg "TooMany" ["number"]
  n_TooMany : ∃ fd, FnT (GG K).K "__init__" "TooMany.__init__" s_in_TooMany [] (He.ma (GG K).K (He.ga (GG K).K "TooMany") "__init__") fd
  a_axes : FldG (GG K) c_axes "axes"
  a_first : FldG (GG K) c_first "first"
  a_room : FldG (GG K) c_room "room"
  z : True
section
variable {P : Program} {w : World} {K : PySem.W.Frag} {mg : Str → Option Value} {base : Heap}
theorem sc_in_TooMany : FnScope ["self", "number"] ["self", "number"] (defScope s_in_TooMany) := ⟨rfl, rfl, rfl, by decide +kernel, rfl, by decide +kernel, by decide +kernel⟩
theorem rz_TooMany (nn : ∃ fd, FnT (GG K).K "__init__" "TooMany.__init__" s_in_TooMany [] (He.ma (GG K).K (He.ga (GG K).K "TooMany") "__init__") fd) (x : XcF (GG K) mg "TooMany" ["number"]) : ∃ fd ps, FnOk P w (GG K).K mg base (L2.CX P w) 1 (He.ma (GG K).K (He.ga (GG K).K "TooMany") "__init__") fd ps (spIn (GG K).K (He.ga (GG K).K "TooMany") ["number"]) ∧ Binds (GG K).K fd ps [] :=
  let ⟨fd, F⟩ := nn
  ⟨fd, ["self", "number"], in1_ok F sc_in_TooMany x.ox (x.no _ (by simp)) (fun cdv A outer s H E => by exact pss_one (ps_ost (pv 0) (pv 1))), F.bindsN (ps := ["self", "number"]) fun _ _ _ _ _ _ us hl => match us, hl with | [_, _], _ => rfl⟩
theorem sc_count_of : FnScope ["sizes", "found", "size"] ["sizes"] (defScope s_count_of) := ⟨rfl, rfl, rfl, by decide +kernel, rfl, by decide +kernel, by decide +kernel⟩
theorem ok_count_of {f : Addr} {fd : FuncData} (F : FnT (GG K).K "count_of" "count_of" s_count_of [] f fd) (T : Tx K mg)  : FnA P w (GG K) mg base f 1 1 F_count_of :=
  fn_defD (N := ["sizes", "found", "size"]) (ps := ["sizes"]) (n := 0) (FB := B_count_of) F sc_count_of (F.bindsN (ps := ["sizes"]) fun _ _ _ _ _ _ us hl => match us, hl with | [_], _ => rfl) fun cdv A outer s H E g => by
  exact (mss_cons (ms_set 1 g.nd (me mv_int)) (mss_cons (ms_frz 0 (ms_for g.po g.calm (mi_seq (mv_var 0)) (mg_name 2 g.nd)
    (mss_one (ms_set 1 g.nd (me_mul (mv_var 1) (mv_var 2)))))) (mss_one (ms_retV 1))))
theorem sc_View_sizes : FnScope ["self", "size", "pace"] ["self"] (defScope s_View_sizes) := ⟨rfl, rfl, rfl, by decide +kernel, rfl, by decide +kernel, by decide +kernel⟩
theorem ok_View_sizes {f : Addr} {fd : FuncData} (F : FnT (GG K).K "sizes" "View.sizes" s_View_sizes [] f fd) (T : Tx K mg)  : FnA P w (GG K) mg base f 1 1 F_View_sizes :=
  fn_defD (N := ["self", "size", "pace"]) (ps := ["self"]) (n := 0) (FB := B_View_sizes) F sc_View_sizes (F.bindsN (ps := ["self"]) fun _ _ _ _ _ _ us hl => match us, hl with | [_], _ => rfl) fun cdv A outer s H E g => by
  exact (mss_one (ms_ret (me_lc g.calm g.nd (mio_seq (mv_fld g.toBas T.a_axes (mv_var 0))) (blkOk_by (own := [("size", 1), ("pace", 2)]) (by kernel_rfl)) (by decide) (fun _ _ _ _ _ => (mg_tup (good_blk g).calm (mgs_cons (mg_name 1 (good_blk g).nd) (mgs_cons (mg_name 2 (good_blk g).nd) mgs_nil)))) (fun _ _ _ _ _ => mts_nil) (fun _ _ _ _ _ => (mv_var 1)))))
theorem sc_View_count : FnScope ["self"] ["self"] (defScope s_View_count) := ⟨rfl, rfl, rfl, by decide +kernel, rfl, by decide +kernel, by decide +kernel⟩
theorem ok_View_count {f : Addr} {fd : FuncData} (F : FnT (GG K).K "count" "View.count" s_View_count [] f fd) (T : Tx K mg) (h_count_of : FnD P w (GG K) mg base "count_of" 1 1 F_count_of) (t_sizes : ∀ q ∈ tb_sizes, MthG P w (GG K) mg base "sizes" 1 1 q.1 q.2) : FnA P w (GG K) mg base f 2 1 F_View_count :=
  fn_defD (N := ["self"]) (ps := ["self"]) (n := 1) (FB := B_View_count) F sc_View_count (F.bindsN (ps := ["self"]) fun _ _ _ _ _ _ us hl => match us, hl with | [_], _ => rfl) fun cdv A outer s H E g => by
  exact (mss_one (ms_ret (me_call g h_count_of (by decide) (ma_cons (mv (me_meth0 g (by decide) t_sizes (mv_var 0))) ma_nil))))
theorem sc_View_cells : FnScope ["self", "found", "size", "pace", "longer", "cell", "at"] ["self"] (defScope s_View_cells) := ⟨rfl, rfl, rfl, by decide +kernel, rfl, by decide +kernel, by decide +kernel⟩
theorem ok_View_cells {f : Addr} {fd : FuncData} (F : FnT (GG K).K "cells" "View.cells" s_View_cells [] f fd) (T : Tx K mg) (t_count : ∀ q ∈ tb_count, MthG P w (GG K) mg base "count" 2 1 q.1 q.2) : FnA P w (GG K) mg base f 3 1 F_View_cells :=
  fn_defD (N := ["self", "found", "size", "pace", "longer", "cell", "at"]) (ps := ["self"]) (n := 2) (FB := B_View_cells) F sc_View_cells (F.bindsN (ps := ["self"]) fun _ _ _ _ _ _ us hl => match us, hl with | [_], _ => rfl) fun cdv A outer s H E g => by
  exact (mss_cons (ms_if (mt_cmp ok_gt (mv (me_meth0 g (by decide) t_count (mv_var 0))) (mv_gint T.g_MOST) (nomark _))
    (mss_one (ms_raiseX g T.f_TooMany (by decide) (rz_TooMany T.n_TooMany T.f_TooMany) (ma_cons (mv (me_meth0 g (by decide) t_count (mv_var 0))) ma_nil)))
    mss_nil) (mss_cons (ms_set 1 g.nd (me_lst (ma_cons (mv_fld g.toBas T.a_first (mv_var 0)) ma_nil))) (mss_cons (ms_for g.po g.calm (mi_seq (mv_fld g.toBas T.a_axes (mv_var 0))) (mg_tup g.calm (mgs_cons (mg_name 2 g.nd) (mgs_cons (mg_name 3 g.nd) mgs_nil)))
    (mss_cons (ms_set 4 g.nd (me_lst ma_nil)) (mss_cons (ms_frz 1 (ms_for g.po g.calm (mi_seq (mv_var 1)) (mg_name 5 g.nd)
    (mss_one (ms_extend 4 (mv (me_lc g.calm g.nd (mi_rng1 T.z_range (ma_cons (mv_var 2) ma_nil)).toO (blkOk_by (own := [("at", 6)]) (by kernel_rfl)) (by decide) (fun _ _ _ _ _ => (mg_name 6 (good_blk g).nd)) (fun _ _ _ _ _ => mts_nil) (fun _ _ _ _ _ => (mv (me_add (mv_var 5) (mv (me_mul (mv_var 3) (mv_var 6))) (good_blk g).K))))))))) (mss_one (ms_mov 1 4 g.nd))))) (mss_one (ms_retV 1)))))
theorem sc_sources : FnScope ["to", "source", "found", "cell", "ahead"] ["to", "source"] (defScope s_sources) := ⟨rfl, rfl, rfl, by decide +kernel, rfl, by decide +kernel, by decide +kernel⟩
theorem ok_sources {f : Addr} {fd : FuncData} (F : FnT (GG K).K "sources" "sources" s_sources [] f fd) (T : Tx K mg) (t_cells : ∀ q ∈ tb_cells, MthG P w (GG K) mg base "cells" 3 1 q.1 q.2) (t_count : ∀ q ∈ tb_count, MthG P w (GG K) mg base "count" 2 1 q.1 q.2) : FnA P w (GG K) mg base f 4 2 F_sources :=
  fn_defD (N := ["to", "source", "found", "cell", "ahead"]) (ps := ["to", "source"]) (n := 3) (FB := B_sources) F sc_sources (F.bindsN (ps := ["to", "source"]) fun _ _ _ _ _ _ us hl => match us, hl with | [_, _], _ => rfl) fun cdv A outer s H E g => by
  exact (mss_cons (ms_if (mt_cmp (ok_ne g.toBas) (mv_fld g.toBas T.a_room (mv_var 0)) (mv_fld g.toBas T.a_room (mv_var 1)) (nomark _))
    (mss_one (ms_raise0 g T.x_NoPair))
    mss_nil) (mss_cons (ms_if (mt_cmp (ok_ne g.toBas) (mv (me_meth0 g (by decide) t_count (mv_var 0))) (mv (me_meth0 g (by decide) t_count (mv_var 1))) (nomark _))
    (mss_one (ms_raise0 g T.x_NoCount))
    mss_nil) (mss_cons (ms_set 2 g.nd me_dict0) (mss_cons (ms_for g.po g.calm (mi_zip T.z_zip (ma_cons (mv (me_meth0 g (by decide) t_cells (mv_var 0))) (ma_cons (mv (me_meth0 g (by decide) t_cells (mv_var 1))) ma_nil))) (mg_tup g.calm (mgs_cons (mg_name 3 g.nd) (mgs_cons (mg_name 4 g.nd) mgs_nil)))
    (mss_one (ms_frz 4 (ms_dset 2 g.toBas (mv_var 4) (mv_var 3))))) (mss_one (ms_retV 2))))))
theorem sc__law_draw : FnScope ["_law_script", "_law_k", "_law_many", "_law_number", "_law_cell"] ["_law_script", "_law_k", "_law_many"] (defScope s__law_draw) := ⟨rfl, rfl, rfl, by decide +kernel, rfl, by decide +kernel, by decide +kernel⟩
theorem ok__law_draw {f : Addr} {fd : FuncData} (F : FnT (GG K).K "_law_draw" "_law_draw" s__law_draw [] f fd) (T : Tx K mg)  : FnA P w (GG K) mg base f 1 3 F__law_draw :=
  fn_defD (N := ["_law_script", "_law_k", "_law_many", "_law_number", "_law_cell"]) (ps := ["_law_script", "_law_k", "_law_many"]) (n := 0) (FB := B__law_draw) F sc__law_draw (F.bindsN (ps := ["_law_script", "_law_k", "_law_many"]) fun _ _ _ _ _ _ us hl => match us, hl with | [_, _, _], _ => rfl) fun cdv A outer s H E g => by
  exact (mss_cons (ms_if (mt_cmp ok_lt (mv_var 1) (mv_len g.toBas T.z_len (ma_cons (mv_var 0) ma_nil)) (nomark _))
    (mss_one (ms_ret (me (mv_mod (mv_ix g.toBas (mv_var 0) (mv_var 1)) (mv_var 2)))))
    mss_nil) (mss_cons (ms_set 3 g.nd (me_add (mv (me_mul (mv (me_mul (mv_var 1) (mv_var 1))) mv_int)) mv_int g.K)) (mss_cons (ms_if (mt_cmp ok_gt (mv_len g.toBas T.z_len (ma_cons (mv_var 0) ma_nil)) mv_int (nomark _))
    (mss_cons (ms_set 4 g.nd (me (mv_mod (mv_ix g.toBas (mv_var 0) (mv_mod (mv_var 1) (mv_len g.toBas T.z_len (ma_cons (mv_var 0) ma_nil)))) mv_int))) (mss_one (ms_set 3 g.nd (me_add (mv (me_mul (mv_var 4) (mv (me_add mv_int (mv (me_mul (mv (me_mul mv_int (mv_var 1))) (mv_var 1))) g.K)))) (mv (me_mul (mv_var 1) mv_int)) g.K))))
    mss_nil) (mss_one (ms_ret (me (mv_mod (mv_mod (mv (me_mul (mv_mod (mv_var 3) mv_int) mv_int)) mv_int) (mv_var 2))))))))
theorem sc__law_sizes : FnScope ["_law_script", "_law_at", "_law_sizes_here", "_law_count", "_law_k", "_law_size"] ["_law_script", "_law_at"] (defScope s__law_sizes) := ⟨rfl, rfl, rfl, by decide +kernel, rfl, by decide +kernel, by decide +kernel⟩
theorem ok__law_sizes {f : Addr} {fd : FuncData} (F : FnT (GG K).K "_law_sizes" "_law_sizes" s__law_sizes [] f fd) (T : Tx K mg) (h__law_draw : FnD P w (GG K) mg base "_law_draw" 1 3 F__law_draw) : FnA P w (GG K) mg base f 2 2 F__law_sizes :=
  fn_defD (N := ["_law_script", "_law_at", "_law_sizes_here", "_law_count", "_law_k", "_law_size"]) (ps := ["_law_script", "_law_at"]) (n := 1) (FB := B__law_sizes) F sc__law_sizes (F.bindsN (ps := ["_law_script", "_law_at"]) fun _ _ _ _ _ _ us hl => match us, hl with | [_, _], _ => rfl) fun cdv A outer s H E g => by
  exact (mss_cons (ms_set 2 g.nd (me_lst ma_nil)) (mss_cons (ms_set 3 g.nd (me mv_int)) (mss_cons (ms_for g.po g.calm (mi_rng1 T.z_range (ma_cons (mv (me_call g h__law_draw (by decide) (ma_cons (mv_var 0) (ma_cons (mv_var 1) (ma_cons mv_int ma_nil))))) ma_nil)) (mg_name 4 g.nd)
    (mss_cons (ms_set 5 g.nd (me (mv_ix g.toBas (mv (me_lst (ma_cons mv_int (ma_cons mv_int (ma_cons mv_int (ma_cons mv_int (ma_cons mv_int (ma_cons mv_int (ma_cons mv_int (ma_cons mv_int ma_nil)))))))))) (mv (me_call g h__law_draw (by decide) (ma_cons (mv_var 0) (ma_cons (mv (me_add (mv (me_add (mv_var 1) mv_int g.K)) (mv_var 4) g.K)) (ma_cons mv_int ma_nil)))))))) (mss_one (ms_if (mt_cmp ok_le (mv (me_mul (mv_var 3) (mv_var 5))) mv_int (nomark _))
    (mss_cons (ms_set 3 g.nd (me_mul (mv_var 3) (mv_var 5))) (mss_one (ms_frz 5 (ms_append 2 (mv_var 5)))))
    mss_nil)))) (mss_one (ms_frz 2 (ms_frz 3 (ms_ret (me (mv_tup (ma_cons (mv_var 2) (ma_cons (mv_var 3) ma_nil)))))))))))
theorem sc__law_axes : FnScope ["_law_script", "_law_at", "_law_sizes_here", "_law_axes_here", "_law_inner", "_law_k", "_law_size", "_law_cell", "_law_pace"] ["_law_script", "_law_at", "_law_sizes_here"] (defScope s__law_axes) := ⟨rfl, rfl, rfl, by decide +kernel, rfl, by decide +kernel, by decide +kernel⟩
theorem ok__law_axes {f : Addr} {fd : FuncData} (F : FnT (GG K).K "_law_axes" "_law_axes" s__law_axes [] f fd) (T : Tx K mg) (h__law_draw : FnD P w (GG K) mg base "_law_draw" 1 3 F__law_draw) : FnA P w (GG K) mg base f 2 3 F__law_axes :=
  fn_defD (N := ["_law_script", "_law_at", "_law_sizes_here", "_law_axes_here", "_law_inner", "_law_k", "_law_size", "_law_cell", "_law_pace"]) (ps := ["_law_script", "_law_at", "_law_sizes_here"]) (n := 1) (FB := B__law_axes) F sc__law_axes (F.bindsN (ps := ["_law_script", "_law_at", "_law_sizes_here"]) fun _ _ _ _ _ _ us hl => match us, hl with | [_, _, _], _ => rfl) fun cdv A outer s H E g => by
  exact (mss_cons (ms_set 3 g.nd (me_lst ma_nil)) (mss_cons (ms_set 4 g.nd (me mv_int)) (mss_cons (ms_for g.po g.calm (mi_rng1 T.z_range (ma_cons (mv_len g.toBas T.z_len (ma_cons (mv_var 2) ma_nil)) ma_nil)) (mg_name 5 g.nd)
    (mss_cons (ms_set 6 g.nd (me (mv_ix g.toBas (mv_var 2) (mv_sub (mv_sub (mv_len g.toBas T.z_len (ma_cons (mv_var 2) ma_nil)) mv_int) (mv_var 5))))) (mss_cons (ms_set 7 g.nd (me_call g h__law_draw (by decide) (ma_cons (mv_var 0) (ma_cons (mv (me_add (mv_var 1) (mv_var 5) g.K)) (ma_cons (mv_pow mv_int mv_int) ma_nil))))) (mss_cons (ms_frz 4 (ms_set 8 g.nd (me (mv_ix g.toBas (mv (me_lst (ma_cons (mv_var 4) (ma_cons (mv_sub mv_int (mv_var 4)) (ma_cons mv_int (ma_cons mv_int (ma_cons (mv_neg mv_int) (ma_cons mv_int (ma_cons (mv_var 4) (ma_cons (mv_sub (mv_mod (mv_fdiv (mv_var 7) mv_int) mv_int) mv_int) ma_nil)))))))))) (mv_mod (mv_var 7) mv_int))))) (mss_cons (ms_frz 6 (ms_frz 8 (ms_set 3 g.nd (me_add (mv (me_lst (ma_cons (mv_tup (ma_cons (mv_var 6) (ma_cons (mv_var 8) ma_nil))) ma_nil))) (mv_var 3) g.K)))) (mss_one (ms_set 4 g.nd (me_mul (mv_var 4) (mv_var 6))))))))) (mss_one (ms_retV 3)))))
theorem sc__law_reach : FnScope ["_law_axes_here", "_law_low", "_law_high", "_law_size", "_law_pace"] ["_law_axes_here"] (defScope s__law_reach) := ⟨rfl, rfl, rfl, by decide +kernel, rfl, by decide +kernel, by decide +kernel⟩
theorem ok__law_reach {f : Addr} {fd : FuncData} (F : FnT (GG K).K "_law_reach" "_law_reach" s__law_reach [] f fd) (T : Tx K mg)  : FnA P w (GG K) mg base f 1 1 F__law_reach :=
  fn_defD (N := ["_law_axes_here", "_law_low", "_law_high", "_law_size", "_law_pace"]) (ps := ["_law_axes_here"]) (n := 0) (FB := B__law_reach) F sc__law_reach (F.bindsN (ps := ["_law_axes_here"]) fun _ _ _ _ _ _ us hl => match us, hl with | [_], _ => rfl) fun cdv A outer s H E g => by
  exact (mss_cons (ms_set 1 g.nd (me mv_int)) (mss_cons (ms_set 2 g.nd (me mv_int)) (mss_cons (ms_frz 0 (ms_for g.po g.calm (mi_seq (mv_var 0)) (mg_tup g.calm (mgs_cons (mg_name 3 g.nd) (mgs_cons (mg_name 4 g.nd) mgs_nil)))
    (mss_cons (ms_set 1 g.nd (me_add (mv_var 1) (mv_min g T.z_min (ma_cons mv_int (ma_cons (mv (me_mul (mv_var 4) (mv_sub (mv_var 3) mv_int))) ma_nil))) g.K)) (mss_one (ms_set 2 g.nd (me_add (mv_var 2) (mv_max g T.z_max (ma_cons mv_int (ma_cons (mv (me_mul (mv_var 4) (mv_sub (mv_var 3) mv_int))) ma_nil))) g.K)))))) (mss_one (ms_frz 1 (ms_frz 2 (ms_ret (me (mv_tup (ma_cons (mv_var 1) (ma_cons (mv_var 2) ma_nil)))))))))))
theorem sc__law_views : FnScope ["_law_script", "_law_others", "_law_both", "_law_reach_here", "_law_room", "_law_found", "_law_k", "_law_sizes_here", "_law_count", "_law_axes_here", "_law_low", "_law_high"] ["_law_script"] (defScope s__law_views) := ⟨rfl, rfl, rfl, by decide +kernel, rfl, by decide +kernel, by decide +kernel⟩
theorem ok__law_views {f : Addr} {fd : FuncData} (F : FnT (GG K).K "_law_views" "_law_views" s__law_views [] f fd) (T : Tx K mg) (h__law_axes : FnD P w (GG K) mg base "_law_axes" 2 3 F__law_axes) (h__law_draw : FnD P w (GG K) mg base "_law_draw" 1 3 F__law_draw) (h__law_reach : FnD P w (GG K) mg base "_law_reach" 1 1 F__law_reach) (h__law_sizes : FnD P w (GG K) mg base "_law_sizes" 2 2 F__law_sizes) : FnA P w (GG K) mg base f 3 1 F__law_views :=
  fn_defD (N := ["_law_script", "_law_others", "_law_both", "_law_reach_here", "_law_room", "_law_found", "_law_k", "_law_sizes_here", "_law_count", "_law_axes_here", "_law_low", "_law_high"]) (ps := ["_law_script"]) (n := 2) (FB := B__law_views) F sc__law_views (F.bindsN (ps := ["_law_script"]) fun _ _ _ _ _ _ us hl => match us, hl with | [_], _ => rfl) fun cdv A outer s H E g => by
  exact (mss_cons (ms_asg (mv (me_call g h__law_sizes (by decide) (ma_cons (mv_var 0) (ma_cons mv_int ma_nil)))) (mg_tup g.calm (mgs_cons (mg_name 7 g.nd) (mgs_cons (mg_name 8 g.nd) mgs_nil)))) (mss_cons (ms_frz 7 (ms_frz 8 (ms_set 1 g.nd (me (mv_ix g.toBas (mv (me_lst (ma_cons (mv_var 7) (ma_cons (mv (me_revL (mv_var 7))) (ma_cons (mv (me_lst (ma_cons (mv_var 8) ma_nil))) (ma_cons (mv (me_lst (ma_cons mv_int (ma_cons (mv_var 8) ma_nil)))) (ma_cons (mv (me_lst (ma_cons (mv_var 8) (ma_cons mv_int ma_nil)))) (ma_cons (mv (me_add (mv_var 7) (mv (me_lst (ma_cons mv_int ma_nil))) g.K)) ma_nil)))))))) (mv (me_call g h__law_draw (by decide) (ma_cons (mv_var 0) (ma_cons mv_int (ma_cons mv_int ma_nil)))))))))) (mss_cons (ms_set 2 g.nd (me_lst (ma_cons (mv (me_call g h__law_axes (by decide) (ma_cons (mv_var 0) (ma_cons mv_int (ma_cons (mv_var 7) ma_nil))))) (ma_cons (mv (me_call g h__law_axes (by decide) (ma_cons (mv_var 0) (ma_cons mv_int (ma_cons (mv_var 1) ma_nil))))) ma_nil)))) (mss_cons (ms_setLc 3 g.calm g.nd (mio_seq (mv_var 2)) (blkOk_by (own := [("_law_axes_here", 9)]) (by kernel_rfl)) (by decide) (fun _ _ _ _ _ => (mg_name 9 (good_blk g).nd)) (fun _ _ _ _ _ => mts_nil) (fun _ _ _ _ _ => (mv (me_call (good_blk g) h__law_reach (by decide) (ma_cons (mv_var 9) ma_nil))))) (mss_cons (ms_set 4 g.nd (me_add (mv (me_add mv_int (mv_max g T.z_max (ma_cons (mv (me_lc g.calm g.nd (mio_seq (mv_var 3)) (blkOk_by (own := [("_law_low", 10), ("_law_high", 11)]) (by kernel_rfl)) (by decide) (fun _ _ _ _ _ => (mg_tup (good_blk g).calm (mgs_cons (mg_name 10 (good_blk g).nd) (mgs_cons (mg_name 11 (good_blk g).nd) mgs_nil)))) (fun _ _ _ _ _ => mts_nil) (fun _ _ _ _ _ => (mv_sub (mv_var 11) (mv_var 10))))) ma_nil)) g.K)) (mv (me_call g h__law_draw (by decide) (ma_cons (mv_var 0) (ma_cons mv_int (ma_cons mv_int ma_nil))))) g.K)) (mss_cons (ms_set 5 g.nd (me_lst ma_nil)) (mss_cons (ms_for g.po g.calm (mi_rng1 T.z_range (ma_cons mv_int ma_nil)) (mg_name 6 g.nd)
    (mss_cons (ms_asg (mv_ix g.toBas (mv_var 3) (mv_var 6)) (mg_tup g.calm (mgs_cons (mg_name 10 g.nd) (mgs_cons (mg_name 11 g.nd) mgs_nil)))) (mss_one (ms_append 5 (mv_tup (ma_cons (mv_sub (mv (me_call g h__law_draw (by decide) (ma_cons (mv_var 0) (ma_cons (mv (me_add mv_int (mv_var 6) g.K)) (ma_cons (mv_sub (mv_var 4) (mv_sub (mv_var 11) (mv_var 10))) ma_nil))))) (mv_var 10)) (ma_cons (mv_ix g.toBas (mv_var 2) (mv_var 6)) ma_nil))))))) (mss_one (ms_frz 4 (ms_ret (me (mv_tup (ma_cons (mv_var 4) (ma_cons (mv_ix g.toBas (mv_var 5) mv_int) (ma_cons (mv_ix g.toBas (mv_var 5) mv_int) ma_nil)))))))))))))))
theorem sc__law_far : FnScope ["_law_room", "_law_one", "_law_times", "_law_size", "_law_pace"] ["_law_room", "_law_one", "_law_times"] (defScope s__law_far) := ⟨rfl, rfl, rfl, by decide +kernel, rfl, by decide +kernel, by decide +kernel⟩
theorem ok__law_far {f : Addr} {fd : FuncData} (F : FnT (GG K).K "_law_far" "_law_far" s__law_far [] f fd) (T : Tx K mg)  : FnA P w (GG K) mg base f 1 3 F__law_far :=
  fn_defD (N := ["_law_room", "_law_one", "_law_times", "_law_size", "_law_pace"]) (ps := ["_law_room", "_law_one", "_law_times"]) (n := 0) (FB := B__law_far) F sc__law_far (F.bindsN (ps := ["_law_room", "_law_one", "_law_times"]) fun _ _ _ _ _ _ us hl => match us, hl with | [_, _, _], _ => rfl) fun cdv A outer s H E g => by
  exact (mss_one (ms_ret (me (mv_tup (ma_cons (mv (me_mul (mv_ix g.toBas (mv_var 1) mv_int) (mv_var 2))) (ma_cons (mv (me_lc g.calm g.nd (mi_seq (mv_ix g.toBas (mv_var 1) mv_int)).toO (blkOk_by (own := [("_law_size", 3), ("_law_pace", 4)]) (by kernel_rfl)) (by decide) (fun _ _ _ _ _ => (mg_tup (good_blk g).calm (mgs_cons (mg_name 3 (good_blk g).nd) (mgs_cons (mg_name 4 (good_blk g).nd) mgs_nil)))) (fun _ _ _ _ _ => mts_nil) (fun _ _ _ _ _ => (mv_tup (ma_cons (mv_var 3) (ma_cons (mv (me_mul (mv_var 4) (mv_var 2))) ma_nil)))))) ma_nil))))))
theorem sc__law_cells : FnScope ["_law_first", "_law_axes_here", "_law_cells_here", "_law_size", "_law_pace", "_law_more", "_law_cell", "_law_k"] ["_law_first", "_law_axes_here"] (defScope s__law_cells) := ⟨rfl, rfl, rfl, by decide +kernel, rfl, by decide +kernel, by decide +kernel⟩
theorem ok__law_cells {f : Addr} {fd : FuncData} (F : FnT (GG K).K "_law_cells" "_law_cells" s__law_cells [] f fd) (T : Tx K mg)  : FnA P w (GG K) mg base f 1 2 F__law_cells :=
  fn_defD (N := ["_law_first", "_law_axes_here", "_law_cells_here", "_law_size", "_law_pace", "_law_more", "_law_cell", "_law_k"]) (ps := ["_law_first", "_law_axes_here"]) (n := 0) (FB := B__law_cells) F sc__law_cells (F.bindsN (ps := ["_law_first", "_law_axes_here"]) fun _ _ _ _ _ _ us hl => match us, hl with | [_, _], _ => rfl) fun cdv A outer s H E g => by
  exact (mss_cons (ms_frz 0 (ms_set 2 g.nd (me_lst (ma_cons (mv_var 0) ma_nil)))) (mss_cons (ms_frz 1 (ms_for g.po g.calm (mi_seq (mv_var 1)) (mg_tup g.calm (mgs_cons (mg_name 3 g.nd) (mgs_cons (mg_name 4 g.nd) mgs_nil)))
    (mss_cons (ms_set 5 g.nd (me_lst ma_nil)) (mss_cons (ms_frz 2 (ms_for g.po g.calm (mi_seq (mv_var 2)) (mg_name 6 g.nd)
    (mss_one (ms_extend 5 (mv (me_lc g.calm g.nd (mi_rng1 T.z_range (ma_cons (mv_var 3) ma_nil)).toO (blkOk_by (own := [("_law_k", 7)]) (by kernel_rfl)) (by decide) (fun _ _ _ _ _ => (mg_name 7 (good_blk g).nd)) (fun _ _ _ _ _ => mts_nil) (fun _ _ _ _ _ => (mv (me_add (mv_var 6) (mv (me_mul (mv_var 7) (mv_var 4))) (good_blk g).K))))))))) (mss_one (ms_mov 2 5 g.nd)))))) (mss_one (ms_retV 2))))
theorem sc__law_due : FnScope ["_law_to", "_law_source", "_law_due_here", "_law_cell", "_law_from_cell"] ["_law_to", "_law_source"] (defScope s__law_due) := ⟨rfl, rfl, rfl, by decide +kernel, rfl, by decide +kernel, by decide +kernel⟩
theorem ok__law_due {f : Addr} {fd : FuncData} (F : FnT (GG K).K "_law_due" "_law_due" s__law_due [] f fd) (T : Tx K mg) (h__law_cells : FnD P w (GG K) mg base "_law_cells" 1 2 F__law_cells) : FnA P w (GG K) mg base f 2 2 F__law_due :=
  fn_defD (N := ["_law_to", "_law_source", "_law_due_here", "_law_cell", "_law_from_cell"]) (ps := ["_law_to", "_law_source"]) (n := 1) (FB := B__law_due) F sc__law_due (F.bindsN (ps := ["_law_to", "_law_source"]) fun _ _ _ _ _ _ us hl => match us, hl with | [_, _], _ => rfl) fun cdv A outer s H E g => by
  exact (mss_cons (ms_set 2 g.nd me_dict0) (mss_cons (ms_for g.po g.calm (mi_zip T.z_zip (ma_cons (mv (me_call g h__law_cells (by decide) (ma_cons (mv_ix g.toBas (mv_var 0) mv_int) (ma_cons (mv_ix g.toBas (mv_var 0) mv_int) ma_nil)))) (ma_cons (mv (me_call g h__law_cells (by decide) (ma_cons (mv_ix g.toBas (mv_var 1) mv_int) (ma_cons (mv_ix g.toBas (mv_var 1) mv_int) ma_nil)))) ma_nil))) (mg_tup g.calm (mgs_cons (mg_name 3 g.nd) (mgs_cons (mg_name 4 g.nd) mgs_nil)))
    (mss_one (ms_frz 4 (ms_dset 2 g.toBas (mv_var 4) (mv_var 3))))) (mss_one (ms_retV 2))))
theorem sc__law_whole : FnScope ["_law_found"] ["_law_found"] (defScope s__law_whole) := ⟨rfl, rfl, rfl, by decide +kernel, rfl, by decide +kernel, by decide +kernel⟩
theorem ok__law_whole {f : Addr} {fd : FuncData} (F : FnT (GG K).K "_law_whole" "_law_whole" s__law_whole [] f fd) (T : Tx K mg)  : FnA P w (GG K) mg base f 1 1 F__law_whole :=
  fn_defD (N := ["_law_found"]) (ps := ["_law_found"]) (n := 0) (FB := B__law_whole) F sc__law_whole (F.bindsN (ps := ["_law_found"]) fun _ _ _ _ _ _ us hl => match us, hl with | [_], _ => rfl) fun cdv A outer s H E g => by
  exact (mss_one (ms_ret (me (mv_and (mv_isi g.toBas T.z_isinstance T.z_int PyProof.Rows.boot_int (mv_var 0)) (mv_one (mv_not (mv_isi g.toBas T.z_isinstance T.z_bool PyProof.Rows.boot_bool (mv_var 0))))))))
theorem sc__law_right : FnScope ["_law_found", "_law_due_here", "_law_cell"] ["_law_found", "_law_due_here"] (defScope s__law_right) := ⟨rfl, rfl, rfl, by decide +kernel, rfl, by decide +kernel, by decide +kernel⟩
theorem ok__law_right {f : Addr} {fd : FuncData} (F : FnT (GG K).K "_law_right" "_law_right" s__law_right [] f fd) (T : Tx K mg) (h__law_whole : FnD P w (GG K) mg base "_law_whole" 1 1 F__law_whole) : FnA P w (GG K) mg base f 2 2 F__law_right :=
  fn_defD (N := ["_law_found", "_law_due_here", "_law_cell"]) (ps := ["_law_found", "_law_due_here"]) (n := 1) (FB := B__law_right) F sc__law_right (F.bindsN (ps := ["_law_found", "_law_due_here"]) fun _ _ _ _ _ _ us hl => match us, hl with | [_, _], _ => rfl) fun cdv A outer s H E g => by
  exact (mss_cons (ms_if (mt_w (mw_or (mt_not (mt_val g.toBas (mv_isi g.toBas T.z_isinstance T.z_dict PyProof.Rows.boot_dict (mv_var 0)))) (mw_or1 (mt_cmp (ok_dne g.toBas) (mv_var 0) (mv_var 1) (nomark _)))))
    (mss_one (ms_ret (me mv_bl)))
    mss_nil) (mss_one (ms_frz 0 (ms_ret (me (mv_cmp (ok_eq g.toBas) (mv (me_lcK g.calm g.nd 0 (blkOk_by (own := [("_law_cell", 2)]) (by kernel_rfl)) (by decide) (fun _ _ _ _ _ => (mg_name 2 (good_blk g).nd)) (fun _ _ _ _ _ => (mts_one (mt_w (mw_or (mt_not (mt_val (good_blk g).toBas (mv (me_call (good_blk g) h__law_whole (by decide) (ma_cons (mv_var 2) ma_nil))))) (mw_or1 (mt_not (mt_val (good_blk g).toBas (mv (me_call (good_blk g) h__law_whole (by decide) (ma_cons (mv_dget (good_blk g).toBas (mv_var 0) (mv_var 2)) ma_nil)))))))))) (fun _ _ _ _ _ => (mv_var 2)))) (mv (me_lst ma_nil)) (nomark _)))))))
theorem sc_is_whole : FnScope ["thing"] ["thing"] (defScope s_is_whole) := ⟨rfl, rfl, rfl, by decide +kernel, rfl, by decide +kernel, by decide +kernel⟩
theorem ok_is_whole {f : Addr} {fd : FuncData} (F : FnT (GG K).K "is_whole" "is_whole" s_is_whole [] f fd) (T : Tx K mg)  : FnA P w (GG K) mg base f 1 1 F_is_whole :=
  fn_defD (N := ["thing"]) (ps := ["thing"]) (n := 0) (FB := B_is_whole) F sc_is_whole (F.bindsN (ps := ["thing"]) fun _ _ _ _ _ _ us hl => match us, hl with | [_], _ => rfl) fun cdv A outer s H E g => by
  exact (mss_one (ms_ret (me (mv_and (mv_isi g.toBas T.z_isinstance T.z_int PyProof.Rows.boot_int (mv_var 0)) (mv_one (mv_not (mv_isi g.toBas T.z_isinstance T.z_bool PyProof.Rows.boot_bool (mv_var 0))))))))
theorem sc_is_axis : FnScope ["thing"] ["thing"] (defScope s_is_axis) := ⟨rfl, rfl, rfl, by decide +kernel, rfl, by decide +kernel, by decide +kernel⟩
theorem ok_is_axis {f : Addr} {fd : FuncData} (F : FnT (GG K).K "is_axis" "is_axis" s_is_axis [] f fd) (T : Tx K mg) (h_is_whole : FnD P w (GG K) mg base "is_whole" 1 1 F_is_whole) : FnA P w (GG K) mg base f 2 1 F_is_axis :=
  fn_defD (N := ["thing"]) (ps := ["thing"]) (n := 1) (FB := B_is_axis) F sc_is_axis (F.bindsN (ps := ["thing"]) fun _ _ _ _ _ _ us hl => match us, hl with | [_], _ => rfl) fun cdv A outer s H E g => by
  exact (mss_cons (ms_if (mt_w (mw_or (mt_not (mt_val g.toBas (mv_isi g.toBas T.z_isinstance T.z_tuple PyProof.Rows.boot_tuple (mv_var 0)))) (mw_or1 (mt_cmp (ok_ne g.toBas) (mv_len g.toBas T.z_len (ma_cons (mv_var 0) ma_nil)) mv_int (nomark _)))))
    (mss_one (ms_ret (me mv_bl)))
    mss_nil) (mss_one (ms_ret (me (mv_and (mv (me_call g h_is_whole (by decide) (ma_cons (mv_ix g.toBas (mv_var 0) mv_int) ma_nil))) (mv_and (mv_chain ok_le ok_le mv_int (mv_ix g.toBas (mv_var 0) mv_int) (mv_gint T.g_MOST_SIZE)) (mv_one (mv (me_call g h_is_whole (by decide) (ma_cons (mv_ix g.toBas (mv_var 0) mv_int) ma_nil))))))))))
theorem sc_kept_axes : FnScope ["axes", "found", "axis"] ["axes"] (defScope s_kept_axes) := ⟨rfl, rfl, rfl, by decide +kernel, rfl, by decide +kernel, by decide +kernel⟩
theorem ok_kept_axes {f : Addr} {fd : FuncData} (F : FnT (GG K).K "kept_axes" "kept_axes" s_kept_axes [] f fd) (T : Tx K mg) (h_is_axis : FnD P w (GG K) mg base "is_axis" 2 1 F_is_axis) : FnA P w (GG K) mg base f 3 1 F_kept_axes :=
  fn_defD (N := ["axes", "found", "axis"]) (ps := ["axes"]) (n := 2) (FB := B_kept_axes) F sc_kept_axes (F.bindsN (ps := ["axes"]) fun _ _ _ _ _ _ us hl => match us, hl with | [_], _ => rfl) fun cdv A outer s H E g => by
  exact (mss_cons (ms_if (mt_w (mw_or (mt_not (mt_val g.toBas (mv_isi g.toBas T.z_isinstance T.z_list PyProof.Rows.boot_list (mv_var 0)))) (mw_or1 (mt_cmp ok_gt (mv_len g.toBas T.z_len (ma_cons (mv_var 0) ma_nil)) (mv_gint T.g_MOST_AXES) (nomark _)))))
    (mss_one (ms_raise0 g T.x_NoView))
    mss_nil) (mss_cons (ms_set 1 g.nd (me_lst ma_nil)) (mss_cons (ms_frz 0 (ms_for g.po g.calm (mi_seq (mv_var 0)) (mg_name 2 g.nd)
    (mss_cons (ms_if (mt_not (mt_val g.toBas (mv (me_call g h_is_axis (by decide) (ma_cons (mv_var 2) ma_nil)))))
    (mss_one (ms_raise0 g T.x_NoView))
    mss_nil) (mss_one (ms_if (mt_cmp (ok_eq g.toBas) (mv_ix g.toBas (mv_var 2) mv_int) mv_int (nomark _))
    (mss_one (ms_append 1 (mv_tup (ma_cons mv_int (ma_cons mv_int ma_nil)))))
    (mss_one (ms_frz 2 (ms_append 1 (mv_var 2))))))))) (mss_one (ms_retV 1)))))
theorem sc_View_least : FnScope ["self", "size", "pace"] ["self"] (defScope s_View_least) := ⟨rfl, rfl, rfl, by decide +kernel, rfl, by decide +kernel, by decide +kernel⟩
theorem ok_View_least {f : Addr} {fd : FuncData} (F : FnT (GG K).K "least" "View.least" s_View_least [] f fd) (T : Tx K mg)  : FnA P w (GG K) mg base f 1 1 F_View_least :=
  fn_defD (N := ["self", "size", "pace"]) (ps := ["self"]) (n := 0) (FB := B_View_least) F sc_View_least (F.bindsN (ps := ["self"]) fun _ _ _ _ _ _ us hl => match us, hl with | [_], _ => rfl) fun cdv A outer s H E g => by
  exact (mss_one (ms_ret (me_add (mv_fld g.toBas T.a_first (mv_var 0)) (mv_sum g T.z_sum (ma_cons (mv (me_lc g.calm g.nd (mio_seq (mv_fld g.toBas T.a_axes (mv_var 0))) (blkOk_by (own := [("size", 1), ("pace", 2)]) (by kernel_rfl)) (by decide) (fun _ _ _ _ _ => (mg_tup (good_blk g).calm (mgs_cons (mg_name 1 (good_blk g).nd) (mgs_cons (mg_name 2 (good_blk g).nd) mgs_nil)))) (fun _ _ _ _ _ => mts_nil) (fun _ _ _ _ _ => (mv_min (good_blk g) T.z_min (ma_cons mv_int (ma_cons (mv (me_mul (mv_var 2) (mv_sub (mv_var 1) mv_int))) ma_nil)))))) ma_nil)) g.K)))
theorem sc_View_greatest : FnScope ["self", "size", "pace"] ["self"] (defScope s_View_greatest) := ⟨rfl, rfl, rfl, by decide +kernel, rfl, by decide +kernel, by decide +kernel⟩
theorem ok_View_greatest {f : Addr} {fd : FuncData} (F : FnT (GG K).K "greatest" "View.greatest" s_View_greatest [] f fd) (T : Tx K mg)  : FnA P w (GG K) mg base f 1 1 F_View_greatest :=
  fn_defD (N := ["self", "size", "pace"]) (ps := ["self"]) (n := 0) (FB := B_View_greatest) F sc_View_greatest (F.bindsN (ps := ["self"]) fun _ _ _ _ _ _ us hl => match us, hl with | [_], _ => rfl) fun cdv A outer s H E g => by
  exact (mss_one (ms_ret (me_add (mv_fld g.toBas T.a_first (mv_var 0)) (mv_sum g T.z_sum (ma_cons (mv (me_lc g.calm g.nd (mio_seq (mv_fld g.toBas T.a_axes (mv_var 0))) (blkOk_by (own := [("size", 1), ("pace", 2)]) (by kernel_rfl)) (by decide) (fun _ _ _ _ _ => (mg_tup (good_blk g).calm (mgs_cons (mg_name 1 (good_blk g).nd) (mgs_cons (mg_name 2 (good_blk g).nd) mgs_nil)))) (fun _ _ _ _ _ => mts_nil) (fun _ _ _ _ _ => (mv_max (good_blk g) T.z_max (ma_cons mv_int (ma_cons (mv (me_mul (mv_var 2) (mv_sub (mv_var 1) mv_int))) ma_nil)))))) ma_nil)) g.K)))
theorem sc_View_init : FnScope ["self", "room", "first", "axes"] ["self", "room", "first", "axes"] (defScope s_View_init) := ⟨rfl, rfl, rfl, by decide +kernel, rfl, by decide +kernel, by decide +kernel⟩
theorem ok_View_init {f : Addr} {fd : FuncData} (F : FnT (GG K).K "__init__" "View.__init__" s_View_init [] f fd) (T : Tx K mg) (h_is_whole : FnD P w (GG K) mg base "is_whole" 1 1 F_is_whole) (h_kept_axes : FnD P w (GG K) mg base "kept_axes" 3 1 F_kept_axes) (t_greatest : ∀ q ∈ tb_greatest, MthG P w (GG K) mg base "greatest" 1 1 q.1 q.2) (t_least : ∀ q ∈ tb_least, MthG P w (GG K) mg base "least" 1 1 q.1 q.2) : ∃ fd ps, Binds (GG K).K fd ps [] ∧ FnOk P w (GG K).K mg base (L2.CX P w) 4 f fd ps (SpI (GG K) "View" 3 I_View) :=
  ⟨fd, ["self", "room", "first", "axes"], (F.bindsN (ps := ["self", "room", "first", "axes"]) fun _ _ _ _ _ _ us hl => match us, hl with | [_, _, _, _], _ => rfl), fn_okI (N := ["self", "room", "first", "axes"]) (s0 := "self") (ps := ["room", "first", "axes"]) (c := "View") (n := 3) (FB := B_View_init) F sc_View_init fun cdv A outer s H E x g => by
  exact (mss_cons (ms_if (mt_w (mw_or (mt_not (mt_val g.toBas (mv (me_call g h_is_whole (by decide) (ma_cons (mv_var 1) ma_nil))))) (mw_or1 (mt_not (mt_chain ok_le ok_le mv_int (mv_var 1) (mv_gint T.g_MOST_ROOM))))))
    (mss_one (ms_raise0 g T.x_NoView))
    mss_nil) (mss_cons (ms_if (mt_not (mt_val g.toBas (mv (me_call g h_is_whole (by decide) (ma_cons (mv_var 2) ma_nil)))))
    (mss_one (ms_raise0 g T.x_NoView))
    mss_nil) (mss_cons (ms_frz 1 (ms_setF 0 g.toBas T.a_room (me (mv_var 1)))) (mss_cons (ms_frz 2 (ms_setF 0 g.toBas T.a_first (me (mv_var 2)))) (mss_cons (ms_setF 0 g.toBas T.a_axes (me_call g h_kept_axes (by decide) (ma_cons (mv_var 3) ma_nil))) (mss_one (ms_if (mt_w (mw_or (mt_cmp ok_lt (mv (me_meth0 g (by decide) t_least (mv_var 0))) mv_int (nomark _)) (mw_or1 (mt_cmp ok_ge (mv (me_meth0 g (by decide) t_greatest (mv_var 0))) (mv_var 1) (nomark _)))))
    (mss_one (ms_raise0 g T.x_NoView))
    mss_nil)))))))⟩
theorem sc_law : FnScope ["_law_script", "_law_views_here", "_law_due_here", "_law_found", "_law_room", "_law_one", "_law_other", "_law_times"] ["_law_script"] (defScope s_law) := ⟨rfl, rfl, rfl, by decide +kernel, rfl, by decide +kernel, by decide +kernel⟩
theorem ok_law {f : Addr} {fd : FuncData} (F : FnT (GG K).K "law" "law" s_law [] f fd) (T : Tx K mg) (h__law_draw : FnD P w (GG K) mg base "_law_draw" 1 3 F__law_draw) (h__law_due : FnD P w (GG K) mg base "_law_due" 2 2 F__law_due) (h__law_far : FnD P w (GG K) mg base "_law_far" 1 3 F__law_far) (h__law_right : FnD P w (GG K) mg base "_law_right" 2 2 F__law_right) (h__law_views : FnD P w (GG K) mg base "_law_views" 3 1 F__law_views) (h_sources : FnD P w (GG K) mg base "sources" 4 2 F_sources) (k_View : MakG P w (GG K) mg base "View" 4 3 I_View) : FnOk P w (GG K).K mg base (L2.CX P w) 6 f fd ["_law_script"] (SpD (GG K) 1 F_law) :=
  fn_okD (N := ["_law_script", "_law_views_here", "_law_due_here", "_law_found", "_law_room", "_law_one", "_law_other", "_law_times"]) (ps := ["_law_script"]) (n := 5) (FB := B_law) F sc_law fun cdv A outer s H E g => by
  exact (mss_cons (ms_asg (mv (me_call g h__law_views (by decide) (ma_cons (mv_var 0) ma_nil))) (mg_tup g.calm (mgs_cons (mg_name 4 g.nd) (mgs_cons (mg_name 5 g.nd) (mgs_cons (mg_name 6 g.nd) mgs_nil))))) (mss_cons (ms_if (mt_cmp (ok_eq g.toBas) (mv (me_call g h__law_draw (by decide) (ma_cons (mv_var 0) (ma_cons mv_int (ma_cons mv_int ma_nil))))) mv_int (nomark _))
    (mss_cons (ms_set 7 g.nd (me_add (mv_pow mv_int mv_int) (mv (me_call g h__law_draw (by decide) (ma_cons (mv_var 0) (ma_cons mv_int (ma_cons (mv_pow mv_int mv_int) ma_nil))))) g.K)) (mss_cons (ms_set 5 g.nd (me_call g h__law_far (by decide) (ma_cons (mv_var 4) (ma_cons (mv_var 5) (ma_cons (mv_var 7) ma_nil))))) (mss_cons (ms_set 6 g.nd (me_call g h__law_far (by decide) (ma_cons (mv_var 4) (ma_cons (mv_var 6) (ma_cons (mv_var 7) ma_nil))))) (mss_one (ms_set 4 g.nd (me_mul (mv_var 4) (mv_var 7)))))))
    mss_nil) (mss_cons (ms_set 1 g.nd (me_lst (ma_cons (mv (me_make g k_View (by decide) (ma_cons (mv_var 4) (ma_cons (mv_ix g.toBas (mv_var 5) mv_int) (ma_cons (mv (me_list g.toBas T.z_list (ma_cons (mv_ix g.toBas (mv_var 5) mv_int) ma_nil))) ma_nil))))) (ma_cons (mv (me_make g k_View (by decide) (ma_cons (mv_var 4) (ma_cons (mv_ix g.toBas (mv_var 6) mv_int) (ma_cons (mv (me_list g.toBas T.z_list (ma_cons (mv_ix g.toBas (mv_var 6) mv_int) ma_nil))) ma_nil))))) ma_nil)))) (mss_cons (ms_set 2 g.nd (me_call g h__law_due (by decide) (ma_cons (mv_var 5) (ma_cons (mv_var 6) ma_nil)))) (mss_cons (ms_set 3 g.nd (me_call g h_sources (by decide) (ma_cons (mv_ix g.toBas (mv_var 1) mv_int) (ma_cons (mv_ix g.toBas (mv_var 1) mv_int) ma_nil)))) (mss_cons (ms_if (mt_not (mt_val g.toBas (mv (me_call g h__law_right (by decide) (ma_cons (mv_var 3) (ma_cons (mv_var 2) ma_nil))))))
    (mss_one (ms_ret (me mv_bl)))
    mss_nil) (mss_cons (ms_dclr 3) (mss_cons (ms_if (mt_not (mt_val g.toBas (mv (me_call g h__law_right (by decide) (ma_cons (mv (me_call g h_sources (by decide) (ma_cons (mv_ix g.toBas (mv_var 1) mv_int) (ma_cons (mv_ix g.toBas (mv_var 1) mv_int) ma_nil)))) (ma_cons (mv (me_call g h__law_due (by decide) (ma_cons (mv_var 6) (ma_cons (mv_var 5) ma_nil)))) ma_nil))))))
    (mss_one (ms_ret (me mv_bl)))
    mss_nil) (mss_cons (ms_dset 3 g.toBas mv_int (mv_neg mv_int)) (mss_one (ms_frz 2 (ms_ret (me_call g h__law_right (by decide) (ma_cons (mv (me_call g h_sources (by decide) (ma_cons (mv_ix g.toBas (mv_var 1) mv_int) (ma_cons (mv_ix g.toBas (mv_var 1) mv_int) ma_nil)))) (ma_cons (mv_var 2) ma_nil)))))))))))))))
end
/-! ### the head: facts by names, the run -/
def d_count_of : He.DefD := ⟨("count_of", none), "count_of", "count_of", defArgs s_count_of, defBody s_count_of, defScope s_count_of, [], []⟩
def d_sources : He.DefD := ⟨("sources", none), "sources", "sources", defArgs s_sources, defBody s_sources, defScope s_sources, [], []⟩
def d__law_draw : He.DefD := ⟨("_law_draw", none), "_law_draw", "_law_draw", defArgs s__law_draw, defBody s__law_draw, defScope s__law_draw, [], []⟩
def d__law_sizes : He.DefD := ⟨("_law_sizes", none), "_law_sizes", "_law_sizes", defArgs s__law_sizes, defBody s__law_sizes, defScope s__law_sizes, [], []⟩
def d__law_axes : He.DefD := ⟨("_law_axes", none), "_law_axes", "_law_axes", defArgs s__law_axes, defBody s__law_axes, defScope s__law_axes, [], []⟩
def d__law_reach : He.DefD := ⟨("_law_reach", none), "_law_reach", "_law_reach", defArgs s__law_reach, defBody s__law_reach, defScope s__law_reach, [], []⟩
def d__law_views : He.DefD := ⟨("_law_views", none), "_law_views", "_law_views", defArgs s__law_views, defBody s__law_views, defScope s__law_views, [], []⟩
def d__law_far : He.DefD := ⟨("_law_far", none), "_law_far", "_law_far", defArgs s__law_far, defBody s__law_far, defScope s__law_far, [], []⟩
def d__law_cells : He.DefD := ⟨("_law_cells", none), "_law_cells", "_law_cells", defArgs s__law_cells, defBody s__law_cells, defScope s__law_cells, [], []⟩
def d__law_due : He.DefD := ⟨("_law_due", none), "_law_due", "_law_due", defArgs s__law_due, defBody s__law_due, defScope s__law_due, [], []⟩
def d__law_whole : He.DefD := ⟨("_law_whole", none), "_law_whole", "_law_whole", defArgs s__law_whole, defBody s__law_whole, defScope s__law_whole, [], []⟩
def d__law_right : He.DefD := ⟨("_law_right", none), "_law_right", "_law_right", defArgs s__law_right, defBody s__law_right, defScope s__law_right, [], []⟩
def d_is_whole : He.DefD := ⟨("is_whole", none), "is_whole", "is_whole", defArgs s_is_whole, defBody s_is_whole, defScope s_is_whole, [], []⟩
def d_is_axis : He.DefD := ⟨("is_axis", none), "is_axis", "is_axis", defArgs s_is_axis, defBody s_is_axis, defScope s_is_axis, [], []⟩
def d_kept_axes : He.DefD := ⟨("kept_axes", none), "kept_axes", "kept_axes", defArgs s_kept_axes, defBody s_kept_axes, defScope s_kept_axes, [], []⟩
def d_law : He.DefD := ⟨("law", none), "law", "law", defArgs s_law, defBody s_law, defScope s_law, [], []⟩
def d_c_View_cells : He.DefD := ⟨("View", some "cells"), "cells", "View.cells", defArgs s_View_cells, defBody s_View_cells, defScope s_View_cells, [], []⟩
def d_c_View_count : He.DefD := ⟨("View", some "count"), "count", "View.count", defArgs s_View_count, defBody s_View_count, defScope s_View_count, [], []⟩
def d_c_View_greatest : He.DefD := ⟨("View", some "greatest"), "greatest", "View.greatest", defArgs s_View_greatest, defBody s_View_greatest, defScope s_View_greatest, [], []⟩
def d_c_View_least : He.DefD := ⟨("View", some "least"), "least", "View.least", defArgs s_View_least, defBody s_View_least, defScope s_View_least, [], []⟩
def d_c_View_sizes : He.DefD := ⟨("View", some "sizes"), "sizes", "View.sizes", defArgs s_View_sizes, defBody s_View_sizes, defScope s_View_sizes, [], []⟩
def d_c_View_init : He.DefD := ⟨("View", some "__init__"), "__init__", "View.__init__", defArgs s_View_init, defBody s_View_init, defScope s_View_init, [], []⟩
def d_in_TooMany : He.DefD := ⟨("TooMany", some "__init__"), "__init__", "TooMany.__init__", defArgs s_in_TooMany, defBody s_in_TooMany, defScope s_in_TooMany, [], []⟩
def fn : List He.DefD := [d_count_of, d_sources, d__law_draw, d__law_sizes, d__law_axes, d__law_reach, d__law_views, d__law_far, d__law_cells, d__law_due, d__law_whole, d__law_right, d_is_whole, d_is_axis, d_kept_axes, d_law, d_c_View_cells, d_c_View_count, d_c_View_greatest, d_c_View_least, d_c_View_sizes, d_c_View_init, d_in_TooMany]
def fa : List He.Fa := [.glo "count_of", .glo "sources", .glo "_law_draw", .glo "_law_sizes", .glo "_law_axes", .glo "_law_reach", .glo "_law_views", .glo "_law_far", .glo "_law_cells", .glo "_law_due", .glo "_law_whole", .glo "_law_right", .glo "is_whole", .glo "is_axis", .glo "kept_axes", .glo "law", .free "bool", .free "dict", .free "int", .free "isinstance", .free "len", .free "list", .free "max", .free "min", .free "range", .free "sum", .free "tuple", .free "zip", .int "MOST" (4096), .int "MOST_ROOM" (1000000000000000000)] ++ [.int "MOST_AXES" (8), .int "MOST_SIZE" (1000000000), .glo "NoCount", .glo "NoPair", .glo "NoView", .glo "TooMany", .exc "NoCount", .exc "NoPair", .exc "NoView", .glo "View", .cls "View", .noat "View" "axes", .noat "View" "first", .noat "View" "room", .meth "View" "cells", .meth "View" "count", .meth "View" "greatest", .meth "View" "least", .meth "View" "sizes", .mkr "View"]
def ex : PySem.W.Frag → Bool := fun K => xfB "TooMany" ["number"] K && true
abbrev R : PySem.W.OpenRow := PySem.W.OpenLaw.row PySem.Challenge.rw_pacehall_k63_sources_told
abbrev hk : PySem.W.Hook := He.hookX 4 fa fn [] [] ex
def ob (s : PySem.W.SharedT) : He.AlX := He.obsX 4 fa fn [] [] ex (HandSHeadRun.getT s)
theorem ob_eq (s : PySem.W.SharedT) : ob s = hk.obs s.abs := He.obsX_eq (HandSHeadRun.getT_eq s)
def loose : List Str := (["_wall", "PaceError", "NoPlace", "NoView", "NoCount", "NoPair", "TooMany", "sources", "is_whole", "count_of", "paces_of", "need_place", "number_of", "MOST", "MOST_ROOM", "MOST_AXES", "MOST_SIZE", "is_axis", "kept_axes", "View", "_law_draw", "_law_whole", "_law_sizes", "_law_axes", "_law_reach", "_law_views", "_law_cells", "_law_far", "_law_due", "_law_right"] : List Str)
theorem run (w : World) : HandSHeadRun.RunEq R (PySem.W.view R.prog [36]) hk ob 12000 loose w := by
  intro os
  kernel_rfl
theorem exAt0 {K : PySem.W.Frag} (h : ex K = true) : xfB "TooMany" ["number"] K = true := (He.ba h).1
theorem facts {P : Program} {w : World} {K : PySem.W.Frag} {h : Heap} {mg : Str → Option Value} {f : Addr} (X : K.In h) (G : h.Ns mainGlobals mg) (hfa : mg ("law" : Str) = some (.ref f)) (c : He.SaysX fa fn [] [] ex w h K) (law_true : ∀ ns : List Int, ns.length ≤ 63 → ∃ t, F_law [.val .s (.scr ns)] = .ok (.val t (.bl true))) :
    ∃ fd : FuncData, (∀ (s : Shared) (v : Value), BindsTo s fd ⟨[v], []⟩ [("_law_script", v)]) ∧ ∀ base : Heap, K.In base → base.Ns mainGlobals mg → FnOk P w K mg base (L2.CX P w) 6 f fd ["_law_script"] (SpLaw K) := by
  obtain ⟨fd0, F0⟩ := c.t.d.def_ 0 (d := d_count_of) rfl
  obtain ⟨fd1, F1⟩ := c.t.d.def_ 1 (d := d_sources) rfl
  obtain ⟨fd2, F2⟩ := c.t.d.def_ 2 (d := d__law_draw) rfl
  obtain ⟨fd3, F3⟩ := c.t.d.def_ 3 (d := d__law_sizes) rfl
  obtain ⟨fd4, F4⟩ := c.t.d.def_ 4 (d := d__law_axes) rfl
  obtain ⟨fd5, F5⟩ := c.t.d.def_ 5 (d := d__law_reach) rfl
  obtain ⟨fd6, F6⟩ := c.t.d.def_ 6 (d := d__law_views) rfl
  obtain ⟨fd7, F7⟩ := c.t.d.def_ 7 (d := d__law_far) rfl
  obtain ⟨fd8, F8⟩ := c.t.d.def_ 8 (d := d__law_cells) rfl
  obtain ⟨fd9, F9⟩ := c.t.d.def_ 9 (d := d__law_due) rfl
  obtain ⟨fd10, F10⟩ := c.t.d.def_ 10 (d := d__law_whole) rfl
  obtain ⟨fd11, F11⟩ := c.t.d.def_ 11 (d := d__law_right) rfl
  obtain ⟨fd12, F12⟩ := c.t.d.def_ 12 (d := d_is_whole) rfl
  obtain ⟨fd13, F13⟩ := c.t.d.def_ 13 (d := d_is_axis) rfl
  obtain ⟨fd14, F14⟩ := c.t.d.def_ 14 (d := d_kept_axes) rfl
  obtain ⟨fd15, F15⟩ := c.t.d.def_ 15 (d := d_law) rfl
  obtain ⟨fd16, F16⟩ := c.t.d.def_ 16 (d := d_c_View_cells) rfl
  obtain ⟨fd17, F17⟩ := c.t.d.def_ 17 (d := d_c_View_count) rfl
  obtain ⟨fd18, F18⟩ := c.t.d.def_ 18 (d := d_c_View_greatest) rfl
  obtain ⟨fd19, F19⟩ := c.t.d.def_ 19 (d := d_c_View_least) rfl
  obtain ⟨fd20, F20⟩ := c.t.d.def_ 20 (d := d_c_View_sizes) rfl
  obtain ⟨fd21, F21⟩ := c.t.d.def_ 21 (d := d_c_View_init) rfl
  obtain ⟨fd22, F22⟩ := c.t.d.def_ 22 (d := d_in_TooMany) rfl
  have e := hfa.symm.trans (He.glo_ok X G (c.t.d.fact 15 (f := .glo "law") rfl))
  cases e
  have a_axes : FldG (GG K) c_axes "axes" := ⟨fun c hc => by
    simp only [c_axes, List.mem_cons, List.not_mem_nil, or_false] at hc
    rcases hc with rfl
    · exact ⟨(⟨clOf_in (names := cnames) (x := "View") (K := K) (by decide), He.cls_ok (c.t.d.fact 40 (f := .cls "View") rfl)⟩ : ClsG (GG K) "View"), He.noat_ok (c.t.d.fact 41 (f := .noat "View" "axes") rfl)⟩⟩
  have a_first : FldG (GG K) c_first "first" := ⟨fun c hc => by
    simp only [c_first, List.mem_cons, List.not_mem_nil, or_false] at hc
    rcases hc with rfl
    · exact ⟨(⟨clOf_in (names := cnames) (x := "View") (K := K) (by decide), He.cls_ok (c.t.d.fact 40 (f := .cls "View") rfl)⟩ : ClsG (GG K) "View"), He.noat_ok (c.t.d.fact 42 (f := .noat "View" "first") rfl)⟩⟩
  have a_room : FldG (GG K) c_room "room" := ⟨fun c hc => by
    simp only [c_room, List.mem_cons, List.not_mem_nil, or_false] at hc
    rcases hc with rfl
    · exact ⟨(⟨clOf_in (names := cnames) (x := "View") (K := K) (by decide), He.cls_ok (c.t.d.fact 40 (f := .cls "View") rfl)⟩ : ClsG (GG K) "View"), He.noat_ok (c.t.d.fact 43 (f := .noat "View" "room") rfl)⟩⟩
  have T : Tx K mg := ⟨He.free_ok X G (c.t.d.fact 16 (f := .free "bool") rfl), He.free_ok X G (c.t.d.fact 17 (f := .free "dict") rfl), He.free_ok X G (c.t.d.fact 18 (f := .free "int") rfl), He.free_ok X G (c.t.d.fact 19 (f := .free "isinstance") rfl), He.free_ok X G (c.t.d.fact 20 (f := .free "len") rfl), He.free_ok X G (c.t.d.fact 21 (f := .free "list") rfl), He.free_ok X G (c.t.d.fact 22 (f := .free "max") rfl), He.free_ok X G (c.t.d.fact 23 (f := .free "min") rfl), He.free_ok X G (c.t.d.fact 24 (f := .free "range") rfl), He.free_ok X G (c.t.d.fact 25 (f := .free "sum") rfl), He.free_ok X G (c.t.d.fact 26 (f := .free "tuple") rfl), He.free_ok X G (c.t.d.fact 27 (f := .free "zip") rfl), He.int_ok X G (c.t.d.fact 28 (f := .int "MOST" (4096)) rfl), He.int_ok X G (c.t.d.fact 29 (f := .int "MOST_ROOM" (1000000000000000000)) rfl), He.int_ok X G (c.t.d.fact 30 (f := .int "MOST_AXES" (8)) rfl), He.int_ok X G (c.t.d.fact 31 (f := .int "MOST_SIZE" (1000000000)) rfl), (have q := He.exc_ok (c.t.d.fact 36 (f := .exc "NoCount") rfl); ⟨He.glo_ok X G (c.t.d.fact 32 (f := .glo "NoCount") rfl), by rfl, q.1, q.2.1, q.2.2.1, q.2.2.2⟩), (have q := He.exc_ok (c.t.d.fact 37 (f := .exc "NoPair") rfl); ⟨He.glo_ok X G (c.t.d.fact 33 (f := .glo "NoPair") rfl), by rfl, q.1, q.2.1, q.2.2.1, q.2.2.2⟩), (have q := He.exc_ok (c.t.d.fact 38 (f := .exc "NoView") rfl); ⟨He.glo_ok X G (c.t.d.fact 34 (f := .glo "NoView") rfl), by rfl, q.1, q.2.1, q.2.2.1, q.2.2.2⟩), xcF_of (He.glo_ok X G (c.t.d.fact 35 (f := .glo "TooMany") rfl)) (by decide) (exAt0 c.more), ⟨_, F22⟩, a_axes, a_first, a_room, trivial⟩
  have b := FunD.bindsA (ps := ["_law_script"]) F15 fun _ _ _ _ _ _ us hl => match us, hl with | [_], _ => rfl
  refine ⟨fd15, fun s v => b s [v] rfl, fun base _ _ => ?_⟩
  have h_count_of : FnD P w (GG K) mg base "count_of" 1 1 F_count_of := (ok_count_of F0 T).d (He.glo_ok X G (c.t.d.fact 0 (f := .glo "count_of") rfl)) F0.kp
  have t_sizes : ∀ q ∈ tb_sizes, MthG P w (GG K) mg base "sizes" 1 1 q.1 q.2 := by
    intro q hq
    simp only [tb_sizes, List.mem_cons, List.not_mem_nil, or_false] at hq
    rcases hq with rfl
    · exact ⟨(⟨clOf_in (names := cnames) (x := "View") (K := K) (by decide), He.cls_ok (c.t.d.fact 40 (f := .cls "View") rfl)⟩ : ClsG (GG K) "View"), He.meth_ok (c.t.d.fact 48 (f := .meth "View" "sizes") rfl), (ok_View_sizes F20 T).mono (by decide)⟩
  have t_count : ∀ q ∈ tb_count, MthG P w (GG K) mg base "count" 2 1 q.1 q.2 := by
    intro q hq
    simp only [tb_count, List.mem_cons, List.not_mem_nil, or_false] at hq
    rcases hq with rfl
    · exact ⟨(⟨clOf_in (names := cnames) (x := "View") (K := K) (by decide), He.cls_ok (c.t.d.fact 40 (f := .cls "View") rfl)⟩ : ClsG (GG K) "View"), He.meth_ok (c.t.d.fact 45 (f := .meth "View" "count") rfl), (ok_View_count F17 T h_count_of t_sizes).mono (by decide)⟩
  have t_cells : ∀ q ∈ tb_cells, MthG P w (GG K) mg base "cells" 3 1 q.1 q.2 := by
    intro q hq
    simp only [tb_cells, List.mem_cons, List.not_mem_nil, or_false] at hq
    rcases hq with rfl
    · exact ⟨(⟨clOf_in (names := cnames) (x := "View") (K := K) (by decide), He.cls_ok (c.t.d.fact 40 (f := .cls "View") rfl)⟩ : ClsG (GG K) "View"), He.meth_ok (c.t.d.fact 44 (f := .meth "View" "cells") rfl), (ok_View_cells F16 T t_count).mono (by decide)⟩
  have h_sources : FnD P w (GG K) mg base "sources" 4 2 F_sources := (ok_sources F1 T t_cells t_count).d (He.glo_ok X G (c.t.d.fact 1 (f := .glo "sources") rfl)) F1.kp
  have h__law_draw : FnD P w (GG K) mg base "_law_draw" 1 3 F__law_draw := (ok__law_draw F2 T).d (He.glo_ok X G (c.t.d.fact 2 (f := .glo "_law_draw") rfl)) F2.kp
  have h__law_sizes : FnD P w (GG K) mg base "_law_sizes" 2 2 F__law_sizes := (ok__law_sizes F3 T h__law_draw).d (He.glo_ok X G (c.t.d.fact 3 (f := .glo "_law_sizes") rfl)) F3.kp
  have h__law_axes : FnD P w (GG K) mg base "_law_axes" 2 3 F__law_axes := (ok__law_axes F4 T h__law_draw).d (He.glo_ok X G (c.t.d.fact 4 (f := .glo "_law_axes") rfl)) F4.kp
  have h__law_reach : FnD P w (GG K) mg base "_law_reach" 1 1 F__law_reach := (ok__law_reach F5 T).d (He.glo_ok X G (c.t.d.fact 5 (f := .glo "_law_reach") rfl)) F5.kp
  have h__law_views : FnD P w (GG K) mg base "_law_views" 3 1 F__law_views := (ok__law_views F6 T h__law_axes h__law_draw h__law_reach h__law_sizes).d (He.glo_ok X G (c.t.d.fact 6 (f := .glo "_law_views") rfl)) F6.kp
  have h__law_far : FnD P w (GG K) mg base "_law_far" 1 3 F__law_far := (ok__law_far F7 T).d (He.glo_ok X G (c.t.d.fact 7 (f := .glo "_law_far") rfl)) F7.kp
  have h__law_cells : FnD P w (GG K) mg base "_law_cells" 1 2 F__law_cells := (ok__law_cells F8 T).d (He.glo_ok X G (c.t.d.fact 8 (f := .glo "_law_cells") rfl)) F8.kp
  have h__law_due : FnD P w (GG K) mg base "_law_due" 2 2 F__law_due := (ok__law_due F9 T h__law_cells).d (He.glo_ok X G (c.t.d.fact 9 (f := .glo "_law_due") rfl)) F9.kp
  have h__law_whole : FnD P w (GG K) mg base "_law_whole" 1 1 F__law_whole := (ok__law_whole F10 T).d (He.glo_ok X G (c.t.d.fact 10 (f := .glo "_law_whole") rfl)) F10.kp
  have h__law_right : FnD P w (GG K) mg base "_law_right" 2 2 F__law_right := (ok__law_right F11 T h__law_whole).d (He.glo_ok X G (c.t.d.fact 11 (f := .glo "_law_right") rfl)) F11.kp
  have h_is_whole : FnD P w (GG K) mg base "is_whole" 1 1 F_is_whole := (ok_is_whole F12 T).d (He.glo_ok X G (c.t.d.fact 12 (f := .glo "is_whole") rfl)) F12.kp
  have h_is_axis : FnD P w (GG K) mg base "is_axis" 2 1 F_is_axis := (ok_is_axis F13 T h_is_whole).d (He.glo_ok X G (c.t.d.fact 13 (f := .glo "is_axis") rfl)) F13.kp
  have h_kept_axes : FnD P w (GG K) mg base "kept_axes" 3 1 F_kept_axes := (ok_kept_axes F14 T h_is_axis).d (He.glo_ok X G (c.t.d.fact 14 (f := .glo "kept_axes") rfl)) F14.kp
  have t_greatest : ∀ q ∈ tb_greatest, MthG P w (GG K) mg base "greatest" 1 1 q.1 q.2 := by
    intro q hq
    simp only [tb_greatest, List.mem_cons, List.not_mem_nil, or_false] at hq
    rcases hq with rfl
    · exact ⟨(⟨clOf_in (names := cnames) (x := "View") (K := K) (by decide), He.cls_ok (c.t.d.fact 40 (f := .cls "View") rfl)⟩ : ClsG (GG K) "View"), He.meth_ok (c.t.d.fact 46 (f := .meth "View" "greatest") rfl), (ok_View_greatest F18 T).mono (by decide)⟩
  have t_least : ∀ q ∈ tb_least, MthG P w (GG K) mg base "least" 1 1 q.1 q.2 := by
    intro q hq
    simp only [tb_least, List.mem_cons, List.not_mem_nil, or_false] at hq
    rcases hq with rfl
    · exact ⟨(⟨clOf_in (names := cnames) (x := "View") (K := K) (by decide), He.cls_ok (c.t.d.fact 40 (f := .cls "View") rfl)⟩ : ClsG (GG K) "View"), He.meth_ok (c.t.d.fact 47 (f := .meth "View" "least") rfl), (ok_View_least F19 T).mono (by decide)⟩
  have k_View : MakG P w (GG K) mg base "View" 4 3 I_View := ⟨He.glo_ok X G (c.t.d.fact 39 (f := .glo "View") rfl), clOf_in (names := cnames) (x := "View") (K := K) (by decide), He.mkr_ok (c.t.d.fact 49 (f := .mkr "View") rfl), ok_View_init F21 T h_is_whole h_kept_axes t_greatest t_least⟩
  exact law_ok (ok_law F15 T h__law_draw h__law_due h__law_far h__law_right h__law_views h_sources k_View) law_true
end DL.Law

open PySem PySem.W PySem.Calls PyProof.Rows in
set_option maxRecDepth 100000 in
set_option maxHeartbeats 0 in
theorem PySem.Challenge.cw_pacehall_k63_sources_told_holds : PySem.Challenge.rw_pacehall_k63_sources_told.Holds := by
  w_on; o_law
  refine HandSHeadRun.head_any (r := OpenLaw.row PySem.Challenge.rw_pacehall_k63_sources_told) (q := view (OpenLaw.row PySem.Challenge.rw_pacehall_k63_sources_told).prog [36]) (H := DL.Law.hk) (ob := DL.Law.ob) (M := 12000) (loose := DL.Law.loose) (d := HandSHeadRun.topDef (OpenLaw.row PySem.Challenge.rw_pacehall_k63_sources_told).prog 36) (kwd := []) DL.Law.ob_eq
    (by kernel_rfl) (fun s => by kernel_rfl) DL.Law.run (by kernel_rfl) (by kernel_rfl) (by kernel_rfl) (by rfl) (by first | assumption | decide +kernel) (by decide +kernel) ⟨rfl, rfl, rfl, rfl, rfl, by decide +kernel⟩ ?hw ?hc
  case hw => w_witness2
  case hc =>
    refine DL.walk_E (l := PySem.Challenge.rw_pacehall_k63_sources_told) (k := 6) (x := "_law_script") rfl (by kernel_rfl) ⟨rfl, by decide, by decide⟩ ?F
    intro w mg fa h Y G hmg0
    obtain ⟨K, KX, c⟩ := Y
    have hmg : mg ("law" : PySem.Str) = some (.ref fa) := by
      have e : (HandSHeadRun.topDef (OpenLaw.row PySem.Challenge.rw_pacehall_k63_sources_told).prog 36).name = ("law" : PySem.Str) := by kernel_rfl
      rw [← e]
      exact hmg0
    obtain ⟨fd, hb, hF⟩ := DL.Law.facts (P := (PySem.Challenge.rw_pacehall_k63_sources_told).prog) (w := w) KX G hmg c DL.Law.law_true
    exact ⟨K, fd, KX, hb, hF⟩

