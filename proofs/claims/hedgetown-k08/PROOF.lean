import PyProof.Rows.All
import Wide.All
import OpenK.AllK
import Wide.FinOn
import HandS.ForMost
import HandS.ForExc
import HandS.TryMany
import HandS.HotCalls
import HandS.TupAny
import HandS.TupMul
import HandS.Deep
import HandS.IsInst
import HandS.Conv
import HandS.Zip
import HandS.Walk
import HandS.ExcSuper
import HandS.ExcField
import HandS.CallSlots
import HandS.Defaults
import HandS.Wide
import HandS.WideBits
import HandS.SortInts
import HandS.More
import KE.KExcInit
import KE.KSuper
import KE.GoesNew
import KE.KDictZip
import HandS.Style
import KE.BitLaws
import KE.OsArith
import PySem.Challenge.RW_hedgetown_k08_whole_couples_that_follow
set_option Elab.async false
set_option linter.all false
set_option maxRecDepth 100000
set_option maxHeartbeats 4000000
/-! The F layer, part 1: data by value, what it stands for in the abstract heap, owned lists, judgements by denotation. -/
namespace FL
open PySem PySem.Spec L2
open PyProof.Rows hiding St
/-- data by value -/
inductive D where
  | non
  | bl (b : Bool)
  | int (i : Int)
  | str (s : Str)
  | tup (xs : List D)
  | lst (xs : List D)
  | dct (ks vs : List D)
  | obj (c : Nat) (ns : List Str) (vs : List D)
/-- frozen data: a value of the heap F stands for a datum -/
inductive Rep (K : PySem.W.Frag) (cl : Nat → Addr) (F : Hp) : V → D → Prop where
  | non : Rep K cl F .non .non
  | bl (b : Bool) : Rep K cl F (.bl b) (.bl b)
  | int (i : Int) : Rep K cl F (.int i) (.int i)
  | str (s : Str) : Rep K cl F (.str s) (.str s)
  | tup {a : Addr} {vs : List V} {ds : List D} (h : SqT K F a vs) (hl : vs.length = ds.length) (r : ∀ (i : Nat) v d, vs[i]? = some v → ds[i]? = some d → Rep K cl F v d) : Rep K cl F (.ref a) (.tup ds)
  | lst {a : Addr} {vs : List V} {ds : List D} (h : SqL K F a vs) (hl : vs.length = ds.length) (r : ∀ (i : Nat) v d, vs[i]? = some v → ds[i]? = some d → Rep K cl F v d) : Rep K cl F (.ref a) (.lst ds)
/-- a heap that has all of another one -/
abbrev Ext (H H' : Hp) : Prop := ∀ a o, H a = some o → H' a = some o
theorem Ext.refl (H : Hp) : Ext H H := fun _ _ h => h
theorem Ext.trans {H H1 H2 : Hp} (a : Ext H H1) (b : Ext H1 H2) : Ext H H2 := fun x o h => b x o (a x o h)
theorem Ext.new {H : Hp} {p : Addr} {o : HO} (h : H p = none) : Ext H (upd H p o) := fun a u e => by
  rw [upd_ne (ne_of_none e h)]; exact e
theorem Ext.upd {F H : Hp} {p : Addr} {o : HO} (h : Ext F H) (hf : F p = none) : Ext F (upd H p o) := fun a u e => by
  rw [upd_ne (ne_of_none e hf)]; exact h a u e
theorem Ext.upd2 {F H : Hp} {p : Addr} {o : HO} (h : Ext F H) : Ext (L2.upd F p o) (L2.upd H p o) := fun a u e => by
  by_cases ha : a = p
  · subst ha; rw [upd_same] at e ⊢; exact e
  · rw [upd_ne ha] at e ⊢; exact h a u e
theorem Ext.none {F H : Hp} {p : Addr} (h : Ext F H) (hp : H p = none) : F p = none := by
  cases e : F p with
  | none => rfl
  | some o => rw [h p o e] at hp; cases hp
theorem Ext.sql {K : PySem.W.Frag} {H H' : Hp} {a : Addr} {xs : List V} (e : Ext H H') (h : SqL K H a xs) : SqL K H' a xs := Same.seq e h
theorem Ext.sqt {K : PySem.W.Frag} {H H' : Hp} {a : Addr} {xs : List V} (e : Ext H H') (h : SqT K H a xs) : SqT K H' a xs := by
  rcases h with h | h
  · rcases h with h | ⟨o, h⟩
    · exact .inl (.inl (e _ _ h))
    · exact .inl (.inr ⟨o, e _ _ h⟩)
  · exact .inr h
variable {K : PySem.W.Frag} {cl : Nat → Addr}
theorem Rep.mono {F F' : Hp} {v : V} {d : D} (e : Ext F F') (r : Rep K cl F v d) : Rep K cl F' v d := by
  induction r with
  | non => exact .non
  | bl b => exact .bl b
  | int i => exact .int i
  | str s => exact .str s
  | tup h hl _ ih => exact .tup (e.sqt h) hl ih
  | lst h hl _ ih => exact .lst (e.sql h) hl ih
/-- lists of data -/
structure RepL (K : PySem.W.Frag) (cl : Nat → Addr) (F : Hp) (vs : List V) (ds : List D) : Prop where
  len : vs.length = ds.length
  at_ : ∀ (i : Nat) v d, vs[i]? = some v → ds[i]? = some d → Rep K cl F v d
theorem RepL.nil {F : Hp} : RepL K cl F [] [] := ⟨rfl, fun i v d h => by simp at h⟩
theorem RepL.cons {F : Hp} {v : V} {d : D} {vs : List V} {ds : List D} (h : Rep K cl F v d) (t : RepL K cl F vs ds) : RepL K cl F (v :: vs) (d :: ds) :=
  ⟨by rw [List.length_cons, List.length_cons, t.len], fun i w e h1 h2 => by
    cases i with
    | zero => simp at h1 h2; subst h1; subst h2; exact h
    | succ i => simp at h1 h2; exact t.at_ i w e h1 h2⟩
theorem RepL.mono {F F' : Hp} {vs : List V} {ds : List D} (e : Ext F F') (r : RepL K cl F vs ds) : RepL K cl F' vs ds := ⟨r.len, fun i v d h1 h2 => (r.at_ i v d h1 h2).mono e⟩
theorem RepL.head {F : Hp} {v : V} {d : D} {vs : List V} {ds : List D} (t : RepL K cl F (v :: vs) (d :: ds)) : Rep K cl F v d := t.at_ 0 v d rfl rfl
theorem RepL.tail {F : Hp} {v : V} {d : D} {vs : List V} {ds : List D} (t : RepL K cl F (v :: vs) (d :: ds)) : RepL K cl F vs ds :=
  ⟨by have := t.len; simpa using this, fun i w e h1 h2 => t.at_ (i + 1) w e (by simpa using h1) (by simpa using h2)⟩
theorem RepL.append {F : Hp} {vs ws : List V} {ds es : List D} (a : RepL K cl F vs ds) (b : RepL K cl F ws es) : RepL K cl F (vs ++ ws) (ds ++ es) :=
  ⟨by rw [List.length_append, List.length_append, a.len, b.len], fun i v d h1 h2 => by
    have l := a.len
    by_cases hi : i < vs.length
    · rw [List.getElem?_append_left hi] at h1
      rw [List.getElem?_append_left (by omega)] at h2
      exact a.at_ i v d h1 h2
    · rw [List.getElem?_append_right (by omega)] at h1 h2
      rw [← l] at h2
      exact b.at_ _ v d h1 h2⟩
theorem RepL.take {F : Hp} {vs : List V} {ds : List D} (a : RepL K cl F vs ds) (n : Nat) : RepL K cl F (vs.take n) (ds.take n) :=
  ⟨by rw [List.length_take, List.length_take, a.len], fun i v d h1 h2 => by
    rw [List.getElem?_take] at h1 h2
    split at h1
    · rename_i h; rw [if_pos h] at h2; exact a.at_ i v d h1 h2
    · cases h1⟩
theorem RepL.drop {F : Hp} {vs : List V} {ds : List D} (a : RepL K cl F vs ds) (n : Nat) : RepL K cl F (vs.drop n) (ds.drop n) :=
  ⟨by rw [List.length_drop, List.length_drop, a.len], fun i v d h1 h2 => by
    rw [List.getElem?_drop] at h1 h2
    exact a.at_ _ v d h1 h2⟩
theorem RepL.get {F : Hp} {vs : List V} {ds : List D} (a : RepL K cl F vs ds) {i : Nat} {d : D} (h : ds[i]? = some d) : ∃ v, vs[i]? = some v ∧ Rep K cl F v d := by
  have hl : i < ds.length := (List.getElem?_eq_some_iff.mp h).1
  have hv : i < vs.length := by rw [a.len]; exact hl
  exact ⟨vs[i], List.getElem?_eq_getElem hv, a.at_ i _ d (List.getElem?_eq_getElem hv) h⟩
theorem RepL.getV {F : Hp} {vs : List V} {ds : List D} (a : RepL K cl F vs ds) {i : Nat} {v : V} (h : vs[i]? = some v) : ∃ d, ds[i]? = some d ∧ Rep K cl F v d := by
  have hl : i < vs.length := (List.getElem?_eq_some_iff.mp h).1
  have hv : i < ds.length := by rw [← a.len]; exact hl
  exact ⟨ds[i], List.getElem?_eq_getElem hv, a.at_ i v _ h (List.getElem?_eq_getElem hv)⟩
theorem Rep.tupL {F : Hp} {a : Addr} {vs : List V} {ds : List D} (h : SqT K F a vs) (r : RepL K cl F vs ds) : Rep K cl F (.ref a) (.tup ds) := .tup h r.len r.at_
theorem Rep.lstL {F : Hp} {a : Addr} {vs : List V} {ds : List D} (h : SqL K F a vs) (r : RepL K cl F vs ds) : Rep K cl F (.ref a) (.lst ds) := .lst h r.len r.at_
theorem Rep.tup_inv {F : Hp} {v : V} {ds : List D} (r : Rep K cl F v (.tup ds)) : ∃ a vs, v = .ref a ∧ SqT K F a vs ∧ RepL K cl F vs ds := by
  cases r with
  | tup h hl r => exact ⟨_, _, rfl, h, hl, r⟩
theorem Rep.lst_inv {F : Hp} {v : V} {ds : List D} (r : Rep K cl F v (.lst ds)) : ∃ a vs, v = .ref a ∧ SqL K F a vs ∧ RepL K cl F vs ds := by
  cases r with
  | lst h hl r => exact ⟨_, _, rfl, h, hl, r⟩
theorem Rep.int_inv {F : Hp} {v : V} {i : Int} (r : Rep K cl F v (.int i)) : v = .int i := by cases r; rfl
theorem Rep.bl_inv {F : Hp} {v : V} {i : Bool} (r : Rep K cl F v (.bl i)) : v = .bl i := by cases r; rfl
theorem Rep.str_inv {F : Hp} {v : V} {i : Str} (r : Rep K cl F v (.str i)) : v = .str i := by cases r; rfl
theorem Rep.non_inv {F : Hp} {v : V} (r : Rep K cl F v .non) : v = .non := by cases r; rfl
/-! ### owned lists -/
/-- how a slot is held: frozen, or an owned list whose first places have these shapes and all others that one -/
inductive Sh where
  | fz
  | ls (l : List Sh) (e : Sh)
/-- a list owned, its items frozen -/
abbrev l1 : Sh := .ls [] .fz
mutual
/-- a value that is owned: its datum, its own addresses -/
inductive Own (K : PySem.W.Frag) (cl : Nat → Addr) (F H : Hp) : Sh → V → D → List Addr → Prop where
  | fz {v : V} {d : D} (r : Rep K cl F v d) : Own K cl F H .fz v d []
  | ls {a : Addr} {vs : List V} {ds : List D} {l : List Sh} {e : Sh} {fp : List Addr} (h : H a = some (.lst vs)) (t : OwnL K cl F H l e vs ds fp) (n : a ∉ fp) : Own K cl F H (.ls l e) (.ref a) (.lst ds) (a :: fp)
inductive OwnL (K : PySem.W.Frag) (cl : Nat → Addr) (F H : Hp) : List Sh → Sh → List V → List D → List Addr → Prop where
  | nil {l : List Sh} {e : Sh} : OwnL K cl F H l e [] [] []
  | e {e : Sh} {v : V} {d : D} {vs : List V} {ds : List D} {f1 f2 : List Addr} (h : Own K cl F H e v d f1) (t : OwnL K cl F H [] e vs ds f2) (n : ∀ a ∈ f1, a ∉ f2) : OwnL K cl F H [] e (v :: vs) (d :: ds) (f1 ++ f2)
  | l {s : Sh} {l : List Sh} {e : Sh} {v : V} {d : D} {vs : List V} {ds : List D} {f1 f2 : List Addr} (h : Own K cl F H s v d f1) (t : OwnL K cl F H l e vs ds f2) (n : ∀ a ∈ f1, a ∉ f2) : OwnL K cl F H (s :: l) e (v :: vs) (d :: ds) (f1 ++ f2)
end
/-- what is owned stands -/
theorem Own.there {F H : Hp} {s : Sh} {v : V} {d : D} {fp : List Addr} (o : Own K cl F H s v d fp) : ∀ a ∈ fp, ∃ vs, H a = some (.lst vs) := by
  refine Own.rec (motive_1 := fun s v d fp _ => ∀ a ∈ fp, ∃ vs, H a = some (.lst vs)) (motive_2 := fun l e vs ds fp _ => ∀ a ∈ fp, ∃ vs, H a = some (.lst vs)) ?_ ?_ ?_ ?_ ?_ o
  · intro v d r a ha; cases ha
  · intro a vs ds l e fp h t n ih b hb
    rcases List.mem_cons.mp hb with rfl | hb
    · exact ⟨_, h⟩
    · exact ih b hb
  · intro l e a ha; cases ha
  · intro e v d vs ds f1 f2 h t n i1 i2 a ha
    rcases List.mem_append.mp ha with ha | ha
    · exact i1 a ha
    · exact i2 a ha
  · intro s l e v d vs ds f1 f2 h t n i1 i2 a ha
    rcases List.mem_append.mp ha with ha | ha
    · exact i1 a ha
    · exact i2 a ha
/-- it stays where its own addresses stay -/
theorem Own.mono {F H F' H' : Hp} {s : Sh} {v : V} {d : D} {fp : List Addr} (o : Own K cl F H s v d fp) (e : Ext F F') : (∀ a ∈ fp, H' a = H a) → Own K cl F' H' s v d fp := by
  refine Own.rec (motive_1 := fun s v d fp _ => (∀ a ∈ fp, H' a = H a) → Own K cl F' H' s v d fp) (motive_2 := fun l e vs ds fp _ => (∀ a ∈ fp, H' a = H a) → OwnL K cl F' H' l e vs ds fp) ?_ ?_ ?_ ?_ ?_ o
  · intro v d r _; exact .fz (r.mono e)
  · intro a vs ds l e fp h t n ih k
    exact .ls ((k a List.mem_cons_self).trans h) (ih fun b hb => k b (List.mem_cons_of_mem _ hb)) n
  · intro l e _; exact .nil
  · intro e v d vs ds f1 f2 h t n i1 i2 k
    exact .e (i1 fun a ha => k a (List.mem_append_left _ ha)) (i2 fun a ha => k a (List.mem_append_right _ ha)) n
  · intro s l e v d vs ds f1 f2 h t n i1 i2 k
    exact .l (i1 fun a ha => k a (List.mem_append_left _ ha)) (i2 fun a ha => k a (List.mem_append_right _ ha)) n
/-- the owned objects taken into the frozen ones -/
def frozen (F H : Hp) (fp : List Addr) : Hp := fun a => if a ∈ fp then H a else F a
theorem frozen_ext {F H : Hp} {fp : List Addr} (nf : ∀ a ∈ fp, F a = none) : Ext F (frozen F H fp) := fun a o e => by
  unfold frozen
  rw [if_neg fun hm => by rw [nf a hm] at e; cases e]
  exact e
theorem frozen_in {F H : Hp} {fp : List Addr} (x : Ext F H) : Ext (frozen F H fp) H := fun a o e => by
  unfold frozen at e
  split at e
  · exact e
  · exact x a o e
theorem Own.freeze {F H G : Hp} {s : Sh} {v : V} {d : D} {fp : List Addr} (o : Own K cl F H s v d fp) (x : Ext F G) : (∀ a ∈ fp, G a = H a) → Rep K cl G v d := by
  refine Own.rec (motive_1 := fun s v d fp _ => (∀ a ∈ fp, G a = H a) → Rep K cl G v d) (motive_2 := fun l e vs ds fp _ => (∀ a ∈ fp, G a = H a) → RepL K cl G vs ds) ?_ ?_ ?_ ?_ ?_ o
  · intro v d r _; exact r.mono x
  · intro a vs ds l e fp h t n ih k
    exact .lstL (SqL.of ((k a List.mem_cons_self).trans h)) (ih fun b hb => k b (List.mem_cons_of_mem _ hb))
  · intro l e _; exact .nil
  · intro e v d vs ds f1 f2 h t n i1 i2 k
    exact .cons (i1 fun a ha => k a (List.mem_append_left _ ha)) (i2 fun a ha => k a (List.mem_append_right _ ha))
  · intro s l e v d vs ds f1 f2 h t n i1 i2 k
    exact .cons (i1 fun a ha => k a (List.mem_append_left _ ha)) (i2 fun a ha => k a (List.mem_append_right _ ha))
/-- looked at where it stands -/
theorem Own.peek {F H : Hp} {s : Sh} {v : V} {d : D} {fp : List Addr} (o : Own K cl F H s v d fp) (x : Ext F H) : Rep K cl H v d := o.freeze x fun _ _ => rfl
theorem Own.rep {F H : Hp} {v : V} {d : D} {fp : List Addr} (o : Own K cl F H .fz v d fp) : Rep K cl F v d ∧ fp = [] := by
  cases o with
  | fz r => exact ⟨r, rfl⟩
/-- a list of frozen items, owned -/
theorem OwnL.of {F H : Hp} : ∀ {vs : List V} {ds : List D}, RepL K cl F vs ds → OwnL K cl F H [] .fz vs ds []
  | [], [], _ => .nil
  | [], _ :: _, r => by have := r.len; simp at this
  | _ :: _, [], r => by have := r.len; simp at this
  | v :: vs, d :: ds, r => OwnL.e (f1 := []) (f2 := []) (.fz r.head) (OwnL.of r.tail) (fun _ h => by cases h)
theorem OwnL.inv {F H : Hp} : ∀ {vs : List V} {ds : List D} {fp : List Addr}, OwnL K cl F H [] .fz vs ds fp → RepL K cl F vs ds ∧ fp = []
  | _, _, _, .nil => ⟨.nil, rfl⟩
  | _, _, _, .e h t n => by
    obtain ⟨r, e1⟩ := h.rep
    obtain ⟨q, e2⟩ := OwnL.inv t
    subst e1; subst e2
    exact ⟨.cons r q, rfl⟩
theorem Own.l1 {F H : Hp} {a : Addr} {vs : List V} {ds : List D} (h : H a = some (.lst vs)) (r : RepL K cl F vs ds) : Own K cl F H l1 (.ref a) (.lst ds) [a] := .ls h (OwnL.of r) (fun h => by cases h)
theorem Own.l1_inv {F H : Hp} {v : V} {d : D} {fp : List Addr} (o : Own K cl F H FL.l1 v d fp) : ∃ a vs ds, v = .ref a ∧ d = .lst ds ∧ fp = [a] ∧ H a = some (.lst vs) ∧ RepL K cl F vs ds := by
  cases o with
  | ls h t n =>
    obtain ⟨r, e⟩ := t.inv
    subst e
    exact ⟨_, _, _, rfl, rfl, rfl, h, r⟩
end FL
namespace FL
open PySem PySem.Spec L2
open PyProof.Rows hiding St
/-! ### denotations -/
abbrev Sl := List (Option D)
structure Exn where
  c : Nat
  fs : List (Str × D)
inductive R (α : Type) where
  | ok (a : α) (e : Sl)
  | rs (x : Exn) (e : Sl)
  | er
abbrev M (α : Type) := Sl → R α
def R.bind {α β : Type} (r : R α) (k : α → Sl → R β) : R β := match r with
  | .ok a e => k a e
  | .rs x e => .rs x e
  | .er => .er
@[simp] theorem R.bind_ok {α β : Type} (a : α) (e : Sl) (k : α → Sl → R β) : (R.ok a e).bind k = k a e := rfl
@[simp] theorem R.bind_rs {α β : Type} (x : Exn) (e : Sl) (k : α → Sl → R β) : (R.rs x e).bind k = .rs x e := rfl
@[simp] theorem R.bind_er {α β : Type} (k : α → Sl → R β) : (R.er : R α).bind k = .er := rfl
/-- a statement's end -/
inductive RS where
  | nx (e : Sl)
  | bk (e : Sl)
  | ct (e : Sl)
  | rt (d : D) (e : Sl)
  | rs (x : Exn) (e : Sl)
  | er
abbrev MS := Sl → RS
def R.then {α : Type} (r : R α) (k : α → Sl → RS) : RS := match r with
  | .ok a e => k a e
  | .rs x e => .rs x e
  | .er => .er
@[simp] theorem R.then_ok {α : Type} (a : α) (e : Sl) (k : α → Sl → RS) : (R.ok a e).then k = k a e := rfl
@[simp] theorem R.then_rs {α : Type} (x : Exn) (e : Sl) (k : α → Sl → RS) : (R.rs x e : R α).then k = .rs x e := rfl
@[simp] theorem R.then_er {α : Type} (k : α → Sl → RS) : (R.er : R α).then k = .er := rfl
def R.opt {α : Type} (o : Option α) (e : Sl) : R α := match o with
  | some a => .ok a e
  | none => .er
@[simp] theorem R.opt_some {α : Type} (a : α) (e : Sl) : R.opt (some a) e = .ok a e := rfl
@[simp] theorem R.opt_none {α : Type} (e : Sl) : R.opt (none : Option α) e = .er := rfl
/-! ### the state -/
/-- what every rule of a def knows: the classes' addresses, how its slots are held, which slots keep their value throughout, what is wanted of an exception -/
structure Ct where
  cl : Nat → Addr
  sh : Nat → Sh
  fix : Nat → Option V
  W : WX
abbrev Fps := Nat → List Addr
def In (fps : Fps) (a : Addr) : Prop := ∃ i, a ∈ fps i
structure G (K : PySem.W.Frag) (c : Ct) (F : Hp) (env : Sl) (fps : Fps) (σ : St) (H : Hp) : Prop where
  ex : Ext F H
  len : env.length = σ.length
  at_ : ∀ i d, env[i]? = some (some d) → ∃ v, σ[i]? = some (some v) ∧ Own K c.cl F H (c.sh i) v d (fps i)
  out : ∀ i, (∀ d, env[i]? ≠ some (some d)) → fps i = []
  dj : ∀ i j a, a ∈ fps i → a ∈ fps j → i = j
  nf : ∀ i a, a ∈ fps i → F a = none
  fx : ∀ i v, c.fix i = some v → σ[i]? = some (some v)
/-- what may have changed: P the addresses that were owned at the start, P' those that are now -/
structure Step (F H : Hp) (P : Addr → Prop) (F' H' : Hp) (P' : Addr → Prop) : Prop where
  ex : Ext F F'
  keep : ∀ a o, H a = some o → ¬ P a → H' a = some o
  newF : ∀ a o, F' a = some o → F a = some o ∨ P a ∨ H a = none
  newP : ∀ a, P' a → P a ∨ H a = none
theorem Step.refl (F H : Hp) (P : Addr → Prop) : Step F H P F H P := ⟨.refl F, fun _ _ h _ => h, fun _ _ h => .inl h, fun _ h => .inl h⟩
theorem Step.trans {F H F1 H1 F2 H2 : Hp} {P P1 P2 : Addr → Prop} (a : Step F H P F1 H1 P1) (b : Step F1 H1 P1 F2 H2 P2) : Step F H P F2 H2 P2 where
  ex := a.ex.trans b.ex
  keep := fun x o h n => b.keep x o (a.keep x o h n) fun p => by
    rcases a.newP x p with q | q
    · exact n q
    · rw [q] at h; cases h
  newF := fun x o h => by
    rcases b.newF x o h with q | q | q
    · exact a.newF x o q
    · exact .inr (a.newP x q)
    · cases e : H x with
      | none => exact .inr (.inr rfl)
      | some u =>
        by_cases p : P x
        · exact .inr (.inl p)
        · rw [a.keep x u e p] at q; cases q
  newP := fun x h => by
    rcases b.newP x h with q | q
    · exact a.newP x q
    · cases e : H x with
      | none => exact .inr rfl
      | some u =>
        by_cases p : P x
        · exact .inl p
        · rw [a.keep x u e p] at q; cases q
theorem Step.weak {F H F' H' : Hp} {P Q P' Q' : Addr → Prop} (a : Step F H P F' H' P') (h : ∀ x, P x → Q x) (h' : ∀ x, Q' x → P' x) : Step F H Q F' H' Q' :=
  ⟨a.ex, fun x o e n => a.keep x o e fun p => n (h x p), fun x o e => (a.newF x o e).imp id (Or.imp (h x) id), fun x p => (a.newP x (h' x p)).imp (h x) id⟩
/-- a step beside owned things that it does not touch -/
theorem Step.frame {F H F' H' : Hp} {P P' Q : Addr → Prop} (a : Step F H P F' H' P') : Step F H (fun x => P x ∨ Q x) F' H' (fun x => P' x ∨ Q x) :=
  ⟨a.ex, fun x o e n => a.keep x o e fun p => n (.inl p), fun x o e => (a.newF x o e).imp id (Or.imp .inl id), fun x p => by
    rcases p with p | p
    · exact (a.newP x p).imp .inl id
    · exact .inl (.inr p)⟩
/-- behind a piece of code that began at F, H, fps -/
structure Post (K : PySem.W.Frag) (c : Ct) (F H : Hp) (fps : Fps) (env' : Sl) (σ' : St) (F' H' : Hp) (fps' : Fps) (fpr : List Addr) : Prop where
  step : Step F H (In fps) F' H' (fun a => In fps' a ∨ a ∈ fpr)
  g : G K c F' env' fps' σ' H'
  fr : ∀ a ∈ fpr, F' a = none ∧ ∀ i, a ∉ fps' i
theorem Post.refl {K : PySem.W.Frag} {c : Ct} {F H : Hp} {fps : Fps} {env : Sl} {σ : St} (g : G K c F env fps σ H) : Post K c F H fps env σ F H fps [] :=
  ⟨(Step.refl F H _).weak (fun _ h => h) (fun _ h => h.elim id fun h => by cases h), g, fun _ h => by cases h⟩
theorem Post.trans {K : PySem.W.Frag} {c : Ct} {F H F1 H1 F2 H2 : Hp} {fps fps1 fps2 : Fps} {e1 e2 : Sl} {σ1 σ2 : St} {fpr : List Addr} (a : Post K c F H fps e1 σ1 F1 H1 fps1 []) (b : Post K c F1 H1 fps1 e2 σ2 F2 H2 fps2 fpr) :
    Post K c F H fps e2 σ2 F2 H2 fps2 fpr :=
  ⟨(a.step.weak (fun _ h => h) (fun _ h => Or.inl h)).trans b.step, b.g, b.fr⟩
/-- an exception of the class that is c's: its own dict at dx -/
structure RepX (K : PySem.W.Frag) (cl : Nat → Addr) (F H : Hp) (x : Exn) (dx : Addr) : Prop where
  at_ : ∃ fs : List (Str × V), H dx = some (.xd fs) ∧ fs.map (·.1) = x.fs.map (·.1) ∧ RepL K cl F (fs.map (·.2)) (x.fs.map (·.2))
/-- a result's reading: what is wanted behind it -/
def Tg {α β : Type} (K : PySem.W.Frag) (c : Ct) (rel : α → β → Hp → Hp → List Addr → Prop) (r : R α) (F H : Hp) (fps : Fps) (σ : St) (Q : β → Hp → Prop) : Prop := match r with
  | .ok d e' => ∀ v F' H' fps' fpr, Post K c F H fps e' σ F' H' fps' fpr → rel d v F' H' fpr → Q v H'
  | .rs x e' => ∀ dx F' H' fps', Post K c F H fps e' σ F' H' fps' [] → RepX K c.cl F' H' x dx → c.W (.ref (c.cl x.c)) (some dx) σ H'
  | .er => False
def relV (K : PySem.W.Frag) (c : Ct) (o : Sh) : D → V → Hp → Hp → List Addr → Prop := fun d v F H fpr => Own K c.cl F H o v d fpr
def relB : Bool → Bool → Hp → Hp → List Addr → Prop := fun b b' _ _ fpr => b' = b ∧ fpr = []
def relL (K : PySem.W.Frag) (c : Ct) : List D → List V → Hp → Hp → List Addr → Prop := fun ds vs F _ fpr => RepL K c.cl F vs ds ∧ fpr = []
def relK (K : PySem.W.Frag) (c : Ct) : D → V → Hp → Hp → List Addr → Prop := fun d v _ H fpr => Rep K c.cl H v d ∧ fpr = []
section
variable {K : PySem.W.Frag} {c : Ct} {α β γ δ : Type} {rel : α → β → Hp → Hp → List Addr → Prop} {rel' : γ → δ → Hp → Hp → List Addr → Prop} {r : R α} {F H F1 H1 : Hp} {fps fps1 : Fps} {σ : St} {e1 : Sl}
theorem Tg.later {Q : β → Hp → Prop} (p : Post K c F H fps e1 σ F1 H1 fps1 []) (h : Tg K c rel r F H fps σ Q) : Tg K c rel r F1 H1 fps1 σ Q := by
  cases r with
  | ok d e' => exact fun v F' H' fps' fpr q => h v F' H' fps' fpr (p.trans q)
  | rs x e' => exact fun dx F' H' fps' q => h dx F' H' fps' (p.trans q)
  | er => exact h
theorem Tg.mono {Q Q' : β → Hp → Prop} (h : Tg K c rel r F H fps σ Q) (hq : ∀ v H', Q v H' → Q' v H') : Tg K c rel r F H fps σ Q' := by
  cases r with
  | ok d e' => exact fun v F' H' fps' fpr p q => hq _ _ (h v F' H' fps' fpr p q)
  | rs x e' => exact h
  | er => exact h
/-- one after another -/
theorem Tg.bind {k : α → Sl → R γ} {Q : δ → Hp → Prop} (h : Tg K c rel' (r.bind k) F H fps σ Q) :
    Tg K c rel r F H fps σ (fun x H1 => ∃ d F1 fps1 fpr e1, Post K c F H fps e1 σ F1 H1 fps1 fpr ∧ rel d x F1 H1 fpr ∧ (fpr = [] → Tg K c rel' (k d e1) F1 H1 fps1 σ Q)) := by
  cases r with
  | ok d e' => exact fun v F' H' fps' fpr p q => ⟨d, F', fps', fpr, e', p, q, fun e => by subst e; exact Tg.later p h⟩
  | rs x e' => exact h
  | er => exact h
end
/-- the readings -/
def T (K : PySem.W.Frag) (c : Ct) (o : Sh) (m : M D) : TE := fun σ H Q => ∃ F env fps, G K c F env fps σ H ∧ Tg K c (relV K c o) (m env) F H fps σ Q
def TK (K : PySem.W.Frag) (c : Ct) (m : M D) : TE := fun σ H Q => ∃ F env fps, G K c F env fps σ H ∧ Tg K c (relK K c) (m env) F H fps σ Q
def TT' (K : PySem.W.Frag) (c : Ct) (m : M Bool) : TT := fun σ H Q => ∃ F env fps, G K c F env fps σ H ∧ Tg K c relB (m env) F H fps σ Q
def TL (K : PySem.W.Frag) (c : Ct) (m : M (List D)) : TA := fun σ H Q => ∃ F env fps, G K c F env fps σ H ∧ Tg K c (relL K c) (m env) F H fps σ Q
abbrev FE (c : Ct) (X : Cx) (e : Expr) (o : Sh) (m : M D) : Prop := PE X e (T X.K c o m)
abbrev FK (c : Ct) (X : Cx) (e : Expr) (m : M D) : Prop := PE X e (TK X.K c m)
abbrev FT (c : Ct) (X : Cx) (e : Expr) (m : M Bool) : Prop := PT X e (TT' X.K c m)
abbrev FA (c : Ct) (X : Cx) (es : List Expr) (m : M (List D)) : Prop := PA X es (TL X.K c m)
theorem PE.weak {X : Cx} {e : Expr} {t t' : TE} (h : PE X e t) (w : ∀ σ H Q, t' σ H Q → t σ H Q) : PE X e t' := ⟨fun pins s σ H Q I q => h.run pins s σ H Q I (w σ H Q q)⟩
theorem PT.weak {X : Cx} {e : Expr} {t t' : TT} (h : PT X e t) (w : ∀ σ H Q, t' σ H Q → t σ H Q) : PT X e t' := ⟨fun pins s σ H Q I q => h.run pins s σ H Q I (w σ H Q q)⟩
theorem PW.weak {X : Cx} {e : Expr} {t t' : TT} (h : PW X e t) (w : ∀ σ H Q, t' σ H Q → t σ H Q) : PW X e t' := ⟨fun wh pins s σ H Q I q => h.run wh pins s σ H Q I (w σ H Q q)⟩
theorem PA.weak {X : Cx} {es : List Expr} {t t' : TA} (h : PA X es t) (w : ∀ σ H Q, t' σ H Q → t σ H Q) : PA X es t' := ⟨fun pos pins s σ H Q I q => h.run pos pins s σ H Q I (w σ H Q q)⟩
theorem PS.weak {X : Cx} {s : Stmt} {t t' : TS} (h : PS X s t) (w : ∀ D σ H, t' D σ H → t D σ H) : PS X s t' := ⟨fun pins s σ H D I q => h.run pins s σ H D I (w D σ H q)⟩
theorem PSs.weak {X : Cx} {s : List Stmt} {t t' : TS} (h : PSs X s t) (w : ∀ D σ H, t' D σ H → t D σ H) : PSs X s t' := ⟨fun pins s σ H D I q => h.run pins s σ H D I (w D σ H q)⟩
section
variable {K : PySem.W.Frag} {c : Ct} {F H F' H' : Hp} {fps : Fps} {env : Sl} {σ : St}
theorem G.owned (g : G K c F env fps σ H) {i : Nat} {a : Addr} (ha : a ∈ fps i) : ∃ vs, H a = some (.lst vs) := by
  by_cases h : ∃ d, env[i]? = some (some d)
  · obtain ⟨d, h⟩ := h
    obtain ⟨v, _, o⟩ := g.at_ i d h
    exact o.there a ha
  · have := g.out i fun d e => h ⟨d, e⟩
    rw [this] at ha; cases ha
/-- new things came, the owned ones stay -/
theorem G.news (g : G K c F env fps σ H) {fpr : List Addr} (s : Step F H (fun _ => False) F' H' (· ∈ fpr)) (x : Ext F' H') : G K c F' env fps σ H' where
  ex := x
  len := g.len
  at_ := fun i d h => by
    obtain ⟨v, e, o⟩ := g.at_ i d h
    refine ⟨v, e, o.mono s.ex fun a ha => ?_⟩
    obtain ⟨vs, q⟩ := o.there a ha
    rw [q]; exact s.keep a _ q id
  out := g.out
  dj := g.dj
  nf := fun i a ha => by
    cases e : F' a with
    | none => rfl
    | some o =>
      obtain ⟨vs, q⟩ := g.owned ha
      rcases s.newF a o e with z | z | z
      · rw [g.nf i a ha] at z; cases z
      · exact z.elim
      · rw [q] at z; cases z
  fx := g.fx
/-- new things, frozen or owned -/
structure New (F H F' H' : Hp) (fpr : List Addr) : Prop where
  step : Step F H (fun _ => False) F' H' (· ∈ fpr)
  ex : Ext F' H'
  nf : ∀ a ∈ fpr, F' a = none
theorem New.refl (h : Ext F H) : New F H F H [] := ⟨⟨.refl F, fun _ _ h _ => h, fun _ _ h => .inl h, fun _ h => by cases h⟩, h, fun _ h => by cases h⟩
/-- a new frozen object -/
theorem New.frz {p : Addr} {o : HO} (h : Ext F H) (hp : H p = none) : New F H (upd F p o) (upd H p o) [] where
  step := ⟨Ext.new (h.none hp), fun a u e _ => by rw [upd_ne (ne_of_none e hp)]; exact e, fun a u e => by
      by_cases ha : a = p
      · subst ha; exact .inr (.inr hp)
      · rw [upd_ne ha] at e; exact .inl e, fun _ h => by cases h⟩
  ex := h.upd2
  nf := fun _ h => by cases h
/-- a new owned list -/
theorem New.own {p : Addr} {o : HO} (h : Ext F H) (hp : H p = none) : New F H F (upd H p o) [p] where
  step := ⟨.refl F, fun a u e _ => by rw [upd_ne (ne_of_none e hp)]; exact e, fun a u e => .inl e, fun a h => by
      rcases List.mem_cons.mp h with rfl | h
      · exact .inr hp
      · cases h⟩
  ex := h.upd (h.none hp)
  nf := fun a ha => by
    rcases List.mem_cons.mp ha with rfl | ha
    · exact h.none hp
    · cases ha
theorem New.trans {F2 H2 : Hp} {fpr : List Addr} (a : New F H F' H' []) (b : New F' H' F2 H2 fpr) : New F H F2 H2 fpr :=
  ⟨(a.step.weak (fun _ h => h) (fun _ h => h.elim)).trans b.step, b.ex, b.nf⟩
theorem New.ext {fpr : List Addr} (n : New F H F' H' fpr) : Ext H H' := fun a o e => n.step.keep a o e id
theorem G.new (g : G K c F env fps σ H) {fpr : List Addr} (n : New F H F' H' fpr) : Post K c F H fps env σ F' H' fps fpr where
  step := ⟨n.step.ex, fun a o e _ => n.step.keep a o e id, fun a o e => (n.step.newF a o e).imp id (Or.imp False.elim id), fun a h => by
    rcases h with h | h
    · exact .inl h
    · exact (n.step.newP a h).imp False.elim id⟩
  g := g.news n.step n.ex
  fr := fun a ha => ⟨n.nf a ha, fun i hi => by
    obtain ⟨vs, q⟩ := g.owned hi
    rcases n.step.newP a ha with z | z
    · exact z
    · rw [q] at z; cases z⟩
end
/-! ### expressions -/
def dConst (d : D) : M D := fun e => .ok d e
/-- a name's datum -/
def dVar (i : Nat) : M D := fun e => match e[i]? with
  | some (some d) => .ok d e
  | _ => .er
section
variable {c : Ct} {X : Cx} {pos : Pos}
theorem fe_const {e : Expr} {v : V} {d : D} (h : PE X e (tC v)) (r : ∀ F, Rep X.K c.cl F v d) : FE c X e .fz (dConst d) := PE.weak h fun σ H Q => by
  rintro ⟨F, env, fps, g, h⟩
  exact h v F H fps [] (Post.refl g) (.fz (r F))
theorem fe_int {i j} : FE c X (.Constant (.int i) j pos) .fz (dConst (.int i)) := fe_const pe_int fun _ => .int i
theorem fe_bl {b j} : FE c X (.Constant (.bool b) j pos) .fz (dConst (.bl b)) := fe_const pe_bl fun _ => .bl b
theorem fe_non {j} : FE c X (.Constant .none j pos) .fz (dConst .non) := fe_const pe_non fun _ => .non
theorem fe_str {x j} : FE c X (.Constant (.str x) j pos) .fz (dConst (.str x)) := fe_const pe_str fun _ => .str x
theorem fe_var (i : Nat) {x : Str} (hi : c.sh i = .fz) (hN : X.N[i]? = some x := by rfl) (hv : Vis X.env.scope x := by first | exact Or.inl rfl | exact Or.inr (Or.inl rfl) | exact Or.inr (Or.inr rfl)) (hd : (x == ("__debug__" : Str)) = false := by decide)
    (hcd : (x == ("__classdict__" : Str)) = false := by decide) : FE c X (.Name x pos) .fz (dVar i) := PE.weak (pe_var hN hv hd hcd) fun σ H Q => by
  rintro ⟨F, env, fps, g, h⟩
  unfold dVar at h
  split at h
  · rename_i d e
    obtain ⟨v, e1, o⟩ := g.at_ i d e
    rw [hi] at o
    obtain ⟨r, ef⟩ := o.rep
    exact ⟨v, e1, h v F H fps [] (Post.refl g) (.fz r)⟩
  · exact h.elim
/-- an owned name, looked at -/
theorem fk_var (i : Nat) {x : Str} (hN : X.N[i]? = some x := by rfl) (hv : Vis X.env.scope x := by first | exact Or.inl rfl | exact Or.inr (Or.inl rfl) | exact Or.inr (Or.inr rfl)) (hd : (x == ("__debug__" : Str)) = false := by decide)
    (hcd : (x == ("__classdict__" : Str)) = false := by decide) : FK c X (.Name x pos) (dVar i) := PE.weak (pe_var hN hv hd hcd) fun σ H Q => by
  rintro ⟨F, env, fps, g, h⟩
  unfold dVar at h
  split at h
  · rename_i d e
    obtain ⟨v, e1, o⟩ := g.at_ i d e
    exact ⟨v, e1, h v F H fps [] (Post.refl g) ⟨o.peek g.ex, rfl⟩⟩
  · exact h.elim
/-- a frozen expression, looked at -/
theorem fk_fe {e : Expr} {m : M D} (h : FE c X e .fz m) : FK c X e m := PE.weak h fun σ H Q => by
  rintro ⟨F, env, fps, g, h⟩
  refine ⟨F, env, fps, g, ?_⟩
  revert h
  unfold Tg
  split
  · intro h v F' H' fps' fpr p q
    obtain ⟨r, e⟩ := Own.rep q
    exact h v F' H' fps' fpr p ⟨r.mono p.g.ex, e⟩
  · exact id
  · exact id
/-- what was owned is frozen -/
theorem fe_fz {e : Expr} {o : Sh} {m : M D} (h : FE c X e o m) : FE c X e .fz m := PE.weak h fun σ H Q => by
  rintro ⟨F, env, fps, g, h⟩
  refine ⟨F, env, fps, g, ?_⟩
  revert h
  unfold Tg
  split
  · intro h v F' H' fps' fpr p q
    have q : Own X.K c.cl F' H' o v _ fpr := q
    have nf : ∀ a ∈ fpr, F' a = none := fun a ha => (p.fr a ha).1
    have fx : Ext F' (frozen F' H' fpr) := frozen_ext nf
    have at_ : ∀ a ∈ fpr, frozen F' H' fpr a = H' a := fun a ha => by unfold frozen; rw [if_pos ha]
    refine h v (frozen F' H' fpr) H' fps' [] ⟨⟨p.step.ex.trans fx, p.step.keep, fun a u e => ?_, fun a ha => ?_⟩, ⟨frozen_in p.g.ex, p.g.len, fun i d e => ?_, p.g.out, p.g.dj, fun i a ha => ?_, p.g.fx⟩, fun _ h => by cases h⟩ (.fz (q.freeze fx at_))
    · unfold frozen at e
      split at e
      · rename_i hm
        exact .inr (p.step.newP a (.inr hm))
      · exact p.step.newF a u e
    · rcases ha with ha | ha
      · exact p.step.newP a (.inl ha)
      · cases ha
    · obtain ⟨w, e1, ow⟩ := p.g.at_ i d e
      exact ⟨w, e1, ow.mono fx fun _ _ => rfl⟩
    · unfold frozen
      split
      · rename_i hm
        exact absurd ha ((p.fr a hm).2 i)
      · exact p.g.nf i a ha
  · exact id
  · exact id
/-- the footprints with slot i's put to l -/
def Fps.put (fps : Fps) (i : Nat) (l : List Addr) : Fps := fun j => if j = i then l else fps j
theorem mem_put {fps : Fps} {i j : Nat} {l : List Addr} {a : Addr} : a ∈ Fps.put fps i l j ↔ (j = i ∧ a ∈ l) ∨ (j ≠ i ∧ a ∈ fps j) := by
  unfold Fps.put
  by_cases h : j = i
  · rw [if_pos h]; exact ⟨fun q => .inl ⟨h, q⟩, fun q => q.elim (·.2) fun q => absurd h q.1⟩
  · rw [if_neg h]; exact ⟨fun q => .inr ⟨h, q⟩, fun q => q.elim (fun q => absurd q.1 h) (·.2)⟩
theorem put_ne {fps : Fps} {i j : Nat} {l : List Addr} (h : j ≠ i) : Fps.put fps i l j = fps j := if_neg h
theorem put_self {fps : Fps} {i : Nat} {l : List Addr} : Fps.put fps i l i = l := if_pos rfl
/-- a name whose owned list is given away: the slot is empty behind it -/
def dMove (i : Nat) : M D := fun e => match e[i]? with
  | some (some d) => .ok d (e.set i none)
  | _ => .er
theorem fe_move (i : Nat) {o : Sh} {x : Str} (hi : c.sh i = o) (hN : X.N[i]? = some x := by rfl) (hv : Vis X.env.scope x := by first | exact Or.inl rfl | exact Or.inr (Or.inl rfl) | exact Or.inr (Or.inr rfl)) (hd : (x == ("__debug__" : Str)) = false := by decide)
    (hcd : (x == ("__classdict__" : Str)) = false := by decide) : FE c X (.Name x pos) o (dMove i) := PE.weak (pe_var hN hv hd hcd) fun σ H Q => by
  rintro ⟨F, env, fps, g, h⟩
  unfold dMove at h
  split at h
  · rename_i d e
    obtain ⟨v, e1, o⟩ := g.at_ i d e
    rw [hi] at o
    have hl : i < env.length := (List.getElem?_eq_some_iff.mp e).1
    refine ⟨v, e1, h v F H (Fps.put fps i []) (fps i) ⟨⟨.refl F, fun _ _ h _ => h, fun _ _ h => .inl h, fun a ha => ?_⟩, ⟨g.ex, by rw [List.length_set]; exact g.len, fun j d' e' => ?_, fun j hj => ?_, fun j k a hj hk => ?_, fun j a ha => ?_, g.fx⟩, fun a ha => ⟨g.nf i a ha, fun j hj => ?_⟩⟩ o⟩
    · rcases ha with ⟨j, hj⟩ | ha
      · rcases mem_put.mp hj with ⟨_, z⟩ | ⟨_, z⟩
        · cases z
        · exact .inl ⟨j, z⟩
      · exact .inl ⟨i, ha⟩
    · by_cases hj : j = i
      · subst hj; rw [List.getElem?_set_self hl] at e'; cases e'
      · rw [List.getElem?_set_ne (Ne.symm hj)] at e'
        obtain ⟨w, e2, ow⟩ := g.at_ j d' e'
        exact ⟨w, e2, by rw [put_ne hj]; exact ow⟩
    · by_cases hne : j = i
      · subst hne; exact put_self
      · rw [put_ne hne]
        exact g.out j fun d' e' => hj d' (by rw [List.getElem?_set_ne (Ne.symm hne)]; exact e')
    · rcases mem_put.mp hj with ⟨_, z⟩ | ⟨_, z⟩
      · cases z
      · rcases mem_put.mp hk with ⟨_, y⟩ | ⟨_, y⟩
        · cases y
        · exact g.dj j k a z y
    · rcases mem_put.mp ha with ⟨_, z⟩ | ⟨_, z⟩
      · cases z
      · exact g.nf j a z
    · rcases mem_put.mp hj with ⟨_, z⟩ | ⟨n, z⟩
      · cases z
      · exact n (g.dj j i a z ha)
  · exact h.elim
/-- a module's constant -/
theorem fe_glob {x : Str} {v : V} {u : Value} {d : D} (hg : Gl X x) (hm : X.mg x = some u) (r : RelV v u) (q : ∀ F, Rep X.K c.cl F v d) (hd : (x == ("__debug__" : Str)) = false := by decide) : FE c X (.Name x pos) .fz (dConst d) := fe_const (pe_glob hg hm r hd) q
end
end FL
namespace FL
open PySem PySem.Spec L2
open PyProof.Rows hiding St
/-! ### composition -/
section
variable {K : PySem.W.Frag} {c : Ct} {γ δ : Type} {rel' : γ → δ → Hp → Hp → List Addr → Prop} {da db dc : M D} {σ : St} {F H : Hp} {fps : Fps} {env : Sl} {Q : δ → Hp → Prop}
theorem T.one {k : D → Sl → R γ} (g : G K c F env fps σ H) (h : Tg K c rel' ((da env).bind k) F H fps σ Q) :
    T K c .fz da σ H (fun x H1 => ∃ d1 F1 fps1 e1, Post K c F H fps e1 σ F1 H1 fps1 [] ∧ Rep K c.cl F1 x d1 ∧ Tg K c rel' (k d1 e1) F1 H1 fps1 σ Q) :=
  ⟨F, env, fps, g, (Tg.bind h).mono fun x H1 ⟨d1, F1, fps1, fpr, e1, p1, o1, h1⟩ => by
    obtain ⟨r1, e⟩ := Own.rep o1
    subst e
    exact ⟨d1, F1, fps1, e1, p1, r1, h1 rfl⟩⟩
theorem TK.one {k : D → Sl → R γ} (g : G K c F env fps σ H) (h : Tg K c rel' ((da env).bind k) F H fps σ Q) :
    TK K c da σ H (fun x H1 => ∃ d1 F1 fps1 e1, Post K c F H fps e1 σ F1 H1 fps1 [] ∧ Rep K c.cl H1 x d1 ∧ Tg K c rel' (k d1 e1) F1 H1 fps1 σ Q) :=
  ⟨F, env, fps, g, (Tg.bind h).mono fun x H1 ⟨d1, F1, fps1, fpr, e1, p1, ⟨r1, e⟩, h1⟩ => by
    subst e
    exact ⟨d1, F1, fps1, e1, p1, r1, h1 rfl⟩⟩
theorem TT'.one {ma : M Bool} {k : Bool → Sl → R γ} (g : G K c F env fps σ H) (h : Tg K c rel' ((ma env).bind k) F H fps σ Q) :
    TT' K c ma σ H (fun b H1 => ∃ F1 fps1 e1, Post K c F H fps e1 σ F1 H1 fps1 [] ∧ Tg K c rel' (k b e1) F1 H1 fps1 σ Q) :=
  ⟨F, env, fps, g, (Tg.bind h).mono fun x H1 ⟨d1, F1, fps1, fpr, e1, p1, ⟨r1, e⟩, h1⟩ => by
    subst e; subst r1
    exact ⟨F1, fps1, e1, p1, h1 rfl⟩⟩
theorem TL.one {ma : M (List D)} {k : List D → Sl → R γ} (g : G K c F env fps σ H) (h : Tg K c rel' ((ma env).bind k) F H fps σ Q) :
    TL K c ma σ H (fun vs H1 => ∃ ds F1 fps1 e1, Post K c F H fps e1 σ F1 H1 fps1 [] ∧ RepL K c.cl F1 vs ds ∧ Tg K c rel' (k ds e1) F1 H1 fps1 σ Q) :=
  ⟨F, env, fps, g, (Tg.bind h).mono fun x H1 ⟨d1, F1, fps1, fpr, e1, p1, ⟨r1, e⟩, h1⟩ => by
    subst e
    exact ⟨d1, F1, fps1, e1, p1, r1, h1 rfl⟩⟩
theorem T.two {k : D → D → Sl → R γ} (g : G K c F env fps σ H) (h : Tg K c rel' ((da env).bind fun x e1 => (db e1).bind fun y e2 => k x y e2) F H fps σ Q) :
    T K c .fz da σ H (fun x H1 => T K c .fz db σ H1 (fun y H2 => ∃ d1 d2 F2 fps2 e2, Post K c F H fps e2 σ F2 H2 fps2 [] ∧ Rep K c.cl F2 x d1 ∧ Rep K c.cl F2 y d2 ∧ Tg K c rel' (k d1 d2 e2) F2 H2 fps2 σ Q)) := by
  obtain ⟨F0, env0, fps0, g0, t⟩ := T.one g h
  refine ⟨F0, env0, fps0, g0, t.mono fun x H1 ⟨d1, F1, fps1, e1, p1, r1, h1⟩ => ?_⟩
  obtain ⟨F0, env0, fps0, g0, t⟩ := T.one p1.g h1
  exact ⟨F0, env0, fps0, g0, t.mono fun y H2 ⟨d2, F2, fps2, e2, p2, r2, h2⟩ => ⟨d1, d2, F2, fps2, e2, p1.trans p2, r1.mono p2.step.ex, r2, h2⟩⟩
end
theorem T.mono {K : PySem.W.Frag} {c : Ct} {o : Sh} {m : M D} {σ : St} {H : Hp} {Q Q' : VK} (h : T K c o m σ H Q) (hq : ∀ v H', Q v H' → Q' v H') : T K c o m σ H Q' :=
  let ⟨F, env, fps, g, t⟩ := h; ⟨F, env, fps, g, t.mono hq⟩
theorem TK.mono {K : PySem.W.Frag} {c : Ct} {m : M D} {σ : St} {H : Hp} {Q Q' : VK} (h : TK K c m σ H Q) (hq : ∀ v H', Q v H' → Q' v H') : TK K c m σ H Q' :=
  let ⟨F, env, fps, g, t⟩ := h; ⟨F, env, fps, g, t.mono hq⟩
theorem TT'.mono {K : PySem.W.Frag} {c : Ct} {m : M Bool} {σ : St} {H : Hp} {Q Q' : Bool → Hp → Prop} (h : TT' K c m σ H Q) (hq : ∀ v H', Q v H' → Q' v H') : TT' K c m σ H Q' :=
  let ⟨F, env, fps, g, t⟩ := h; ⟨F, env, fps, g, t.mono hq⟩
theorem TL.mono {K : PySem.W.Frag} {c : Ct} {m : M (List D)} {σ : St} {H : Hp} {Q Q' : List V → Hp → Prop} (h : TL K c m σ H Q) (hq : ∀ v H', Q v H' → Q' v H') : TL K c m σ H Q' :=
  let ⟨F, env, fps, g, t⟩ := h; ⟨F, env, fps, g, t.mono hq⟩
/-! ### operators -/
/-- an operator of two places gives g's datum -/
def OpOk (K : PySem.W.Frag) (cl : Nat → Addr) (r : R2) (o : Sh) (g : D → D → Option D) : Prop :=
  ∀ (F H : Hp) (x y : V) (d1 d2 d : D), Ext F H → Rep K cl F x d1 → Rep K cl F y d2 → g d1 d2 = some d → ∀ Q : VK, (∀ v F' H' fpr, New F H F' H' fpr → Own K cl F' H' o v d fpr → Q v H') → r x y H Q
def UnOk (K : PySem.W.Frag) (cl : Nat → Addr) (r : V → Hp → VK → Prop) (o : Sh) (g : D → Option D) : Prop :=
  ∀ (F H : Hp) (x : V) (d1 d : D), Ext F H → Rep K cl F x d1 → g d1 = some d → ∀ Q : VK, (∀ v F' H' fpr, New F H F' H' fpr → Own K cl F' H' o v d fpr → Q v H') → r x H Q
/-- a comparison gives p's answer; its sides are looked at -/
def CmpOk (K : PySem.W.Frag) (cl : Nat → Addr) (r : R2) (p : D → D → Option Bool) : Prop :=
  ∀ (H : Hp) (x y : V) (d1 d2 : D) (b : Bool), Rep K cl H x d1 → Rep K cl H y d2 → p d1 d2 = some b → ∀ Q : VK, Q (.bl b) H → r x y H Q
def dOp2 (g : D → D → Option D) (a b : M D) : M D := fun e => (a e).bind fun x e1 => (b e1).bind fun y e2 => R.opt (g x y) e2
def dOp1 (g : D → Option D) (a : M D) : M D := fun e => (a e).bind fun x e1 => R.opt (g x) e1
def dCmp (p : D → D → Option Bool) (a b : M D) : M D := fun e => (a e).bind fun x e1 => (b e1).bind fun y e2 => R.opt ((p x y).map D.bl) e2
def tCmp (p : D → D → Option Bool) (a b : M D) : M Bool := fun e => (a e).bind fun x e1 => (b e1).bind fun y e2 => R.opt (p x y) e2
section
variable {c : Ct} {X : Cx} {a b : Expr} {da db dc : M D} {pos : Pos} {o : Sh}
theorem fin_new {K : PySem.W.Frag} {F H : Hp} {fps : Fps} {env : Sl} {σ : St} {d : D} {Q : VK} (g : G K c F env fps σ H) (h : Tg K c (relV K c o) (.ok d env) F H fps σ Q) (v : V) (F' H' : Hp) (fpr : List Addr) (n : New F H F' H' fpr) (w : Own K c.cl F' H' o v d fpr) : Q v H' :=
  h v F' H' fps fpr (g.new n) w
theorem fe_op {op : Operator} {r : R2} {g : D → D → Option D} (ho : OpR X (binaryOp op) r) (hg : OpOk X.K c.cl r o g) (ha : FE c X a .fz da) (hb : FE c X b .fz db) : FE c X (.BinOp a op b pos) o (dOp2 g da db) :=
  PE.weak (pe_op ho ha hb) fun σ H Q => by
    rintro ⟨F, env, fps, gg, h⟩
    refine (T.two gg h).mono fun x H1 t => t.mono fun y H2 ⟨d1, d2, F2, fps2, e2, p2, r1, r2, h2⟩ => ?_
    cases e : g d1 d2 with
    | none => rw [e] at h2; exact h2.elim
    | some d => rw [e] at h2; exact hg F2 H2 x y d1 d2 d p2.g.ex r1 r2 e Q (fin_new p2.g h2)
theorem fe_un {op : UnaryOp} {r : V → Hp → VK → Prop} {g : D → Option D} (ho : UnR X (unaryOp op) r) (hg : UnOk X.K c.cl r o g) (ha : FE c X a .fz da) : FE c X (.UnaryOp op a pos) o (dOp1 g da) :=
  PE.weak (pe_un ho ha) fun σ H Q => by
    rintro ⟨F, env, fps, gg, h⟩
    refine (T.one gg h).mono fun x H1 ⟨d1, F2, e2, fps2, p2, r1, h2⟩ => ?_
    cases e : g d1 with
    | none => rw [e] at h2; exact h2.elim
    | some d => rw [e] at h2; exact hg F2 H1 x d1 d p2.g.ex r1 e Q (fin_new p2.g h2)
theorem fe_cmp {op : CmpOp} {r : R2} {p : D → D → Option Bool} (ho : OpR X (compareOp op) r) (hg : CmpOk X.K c.cl r p) (ha : FE c X a .fz da) (hb : FE c X b .fz db) (hm : behindInMarks op b = false) : FE c X (.Compare a [op] [b] pos) .fz (dCmp p da db) :=
  PE.weak (pe_cmpR ho ha hb hm) fun σ H Q => by
    rintro ⟨F, env, fps, gg, h⟩
    refine (T.two gg h).mono fun x H1 t => t.mono fun y H2 ⟨d1, d2, F2, fps2, e2, p2, r1, r2, h2⟩ => ?_
    cases e : p d1 d2 with
    | none => rw [e] at h2; exact h2.elim
    | some d => rw [e] at h2; exact hg H2 x y d1 d2 d (r1.mono p2.g.ex) (r2.mono p2.g.ex) e Q (h2 (.bl d) F2 H2 fps2 [] (Post.refl p2.g) (.fz (.bl d)))
theorem ft_cmp {op : CmpOp} {r : R2} {p : D → D → Option Bool} (ho : OpR X (compareOp op) r) (hg : CmpOk X.K c.cl r p) (ha : FE c X a .fz da) (hb : FE c X b .fz db) (hm : behindInMarks op b = false) : FT c X (.Compare a [op] [b] pos) (tCmp p da db) :=
  PT.weak (pt_cmpR ho ha hb hm) fun σ H Q => by
    rintro ⟨F, env, fps, gg, h⟩
    refine (T.two gg h).mono fun x H1 t => t.mono fun y H2 ⟨d1, d2, F2, fps2, e2, p2, r1, r2, h2⟩ => ?_
    cases e : p d1 d2 with
    | none => rw [e] at h2; exact h2.elim
    | some d => rw [e] at h2; exact hg H2 x y d1 d2 d (r1.mono p2.g.ex) (r2.mono p2.g.ex) e _ ⟨d, rfl, h2 d F2 H2 fps2 [] (Post.refl p2.g) ⟨rfl, rfl⟩⟩
/-- the right side looked at (x in an owned list) -/
theorem ft_cmpR {op : CmpOp} {r : R2} {p : D → D → Option Bool} (ho : OpR X (compareOp op) r) (hg : CmpOk X.K c.cl r p) (ha : FE c X a .fz da) (hb : FK c X b db) (hm : behindInMarks op b = false) : FT c X (.Compare a [op] [b] pos) (tCmp p da db) :=
  PT.weak (pt_cmpR ho ha hb hm) fun σ H Q => by
    rintro ⟨F, env, fps, gg, h⟩
    refine (T.one gg h).mono fun x H1 ⟨d1, F1, fps1, e1, p1, r1, h1⟩ => (TK.one p1.g h1).mono fun y H2 ⟨d2, F2, fps2, e2, p2, r2, h2⟩ => ?_
    cases e : p d1 d2 with
    | none => rw [e] at h2; exact h2.elim
    | some d => rw [e] at h2; exact hg H2 x y d1 d2 d ((r1.mono p2.step.ex).mono p2.g.ex) r2 e _ ⟨d, rfl, h2 d F2 H2 fps2 [] (Post.refl p2.g) ⟨rfl, rfl⟩⟩
theorem fe_cmpR {op : CmpOp} {r : R2} {p : D → D → Option Bool} (ho : OpR X (compareOp op) r) (hg : CmpOk X.K c.cl r p) (ha : FE c X a .fz da) (hb : FK c X b db) (hm : behindInMarks op b = false) : FE c X (.Compare a [op] [b] pos) .fz (dCmp p da db) :=
  PE.weak (pe_cmpR ho ha hb hm) fun σ H Q => by
    rintro ⟨F, env, fps, gg, h⟩
    refine (T.one gg h).mono fun x H1 ⟨d1, F1, fps1, e1, p1, r1, h1⟩ => (TK.one p1.g h1).mono fun y H2 ⟨d2, F2, fps2, e2, p2, r2, h2⟩ => ?_
    cases e : p d1 d2 with
    | none => rw [e] at h2; exact h2.elim
    | some d => rw [e] at h2; exact hg H2 x y d1 d2 d ((r1.mono p2.step.ex).mono p2.g.ex) r2 e Q (h2 (.bl d) F2 H2 fps2 [] (Post.refl p2.g) (.fz (.bl d)))
/-- an expression that leaves all as it is: a constant, an empty list -/
def Still (c : Ct) (X : Cx) (e : Expr) (d : D) : Prop := PE X e (fun _ H Q => ∀ v H', Ext H H' → Rep X.K c.cl H' v d → (∀ F, Ext F H → Ext F H') → (∀ F fps env σ, G X.K c F env fps σ H → Post X.K c F H fps env σ F H' fps []) → Q v H')
theorem still_const {e : Expr} {v : V} {d : D} (h : PE X e (tC v)) (r : ∀ F, Rep X.K c.cl F v d) : Still c X e d := PE.weak h fun σ H Q q => q v H (.refl H) (r H) (fun _ h => h) fun F fps env σ g => Post.refl g
theorem still_nil : Still c X (.List [] pos) (.lst []) := PE.weak (pe_lst pa_nil) fun σ H Q q => ⟨Nat.zero_le _, fun p hp => by
  refine q _ _ (Ext.new hp) (.lstL (SqL.of upd_same) .nil) (fun F h => h.upd (h.none hp)) fun F fps env σ g => ⟨⟨.refl F, fun a u e _ => by rw [upd_ne (ne_of_none e hp)]; exact e, fun a o e => .inl e, fun a h => h.elim .inl (fun h => by cases h)⟩, ?_, fun _ h => by cases h⟩
  exact g.news (fpr := []) ⟨.refl F, fun a u e _ => by rw [upd_ne (ne_of_none e hp)]; exact e, fun a u e => .inl e, fun a h => by cases h⟩ (g.ex.upd (g.ex.none hp))⟩
/-- the left side looked at, the right one such -/
theorem ft_cmpL {op : CmpOp} {r : R2} {p : D → D → Option Bool} {d2 : D} (ho : OpR X (compareOp op) r) (hg : CmpOk X.K c.cl r p) (ha : FK c X a da) (hb : Still c X b d2) (hm : behindInMarks op b = false) : FT c X (.Compare a [op] [b] pos) (tCmp p da (dConst d2)) :=
  PT.weak (pt_cmpR ho ha hb hm) fun σ H Q => by
    rintro ⟨F, env, fps, gg, h⟩
    refine (TK.one gg h).mono fun x H1 ⟨d1, F1, fps1, e1, p1, r1, h1⟩ => fun y H2 x2 r2 _ gf => ?_
    have p2 := gf _ _ _ _ p1.g
    have h1 : Tg X.K c relB (R.opt (p d1 d2) e1) F1 H1 fps1 σ Q := h1
    cases e : p d1 d2 with
    | none => rw [e] at h1; exact h1.elim
    | some d => rw [e] at h1; exact hg H2 x y d1 d2 d (r1.mono x2) r2 e _ ⟨d, rfl, h1 d F1 H2 fps1 [] p2 ⟨rfl, rfl⟩⟩
theorem fe_cmpL {op : CmpOp} {r : R2} {p : D → D → Option Bool} {d2 : D} (ho : OpR X (compareOp op) r) (hg : CmpOk X.K c.cl r p) (ha : FK c X a da) (hb : Still c X b d2) (hm : behindInMarks op b = false) : FE c X (.Compare a [op] [b] pos) .fz (dCmp p da (dConst d2)) :=
  PE.weak (pe_cmpR ho ha hb hm) fun σ H Q => by
    rintro ⟨F, env, fps, gg, h⟩
    refine (TK.one gg h).mono fun x H1 ⟨d1, F1, fps1, e1, p1, r1, h1⟩ => fun y H2 x2 r2 _ gf => ?_
    have p2 := gf _ _ _ _ p1.g
    have h1 : Tg X.K c (relV X.K c .fz) (R.opt ((p d1 d2).map D.bl) e1) F1 H1 fps1 σ Q := h1
    cases e : p d1 d2 with
    | none => rw [e] at h1; exact h1.elim
    | some d => rw [e] at h1; exact hg H2 x y d1 d2 d (r1.mono x2) r2 e Q (h1 (.bl d) F1 H2 fps1 [] p2 (.fz (.bl d)))
/-- a op1 b op2 c -/
def dChain (p q : D → D → Option Bool) (a b c : M D) : M D := fun e => (a e).bind fun x e1 => (b e1).bind fun y e2 => (R.opt (p x y) e2).bind fun t e3 => if t = true then (c e3).bind fun z e4 => R.opt ((q y z).map D.bl) e4 else .ok (.bl false) e3
theorem fe_chain {cc : Expr} {op op' : CmpOp} {r r' : R2} {p q : D → D → Option Bool} (ho : OpR X (compareOp op) r) (hp : CmpOk X.K c.cl r p) (ho' : OpR X (compareOp op') r') (hq : CmpOk X.K c.cl r' q) (ha : FE c X a .fz da) (hb : FE c X b .fz db) (hc : FE c X cc .fz dc)
    (hm : lastMarks [op, op'] [b, cc] = false := by with_unfolding_all rfl) : FE c X (.Compare a [op, op'] [b, cc] pos) .fz (dChain p q da db dc) :=
  PE.weak (pe_chain ho ho' ha hb hc hm) fun σ H Q => by
    rintro ⟨F, env, fps, gg, h⟩
    refine (T.two gg h).mono fun x H1 t => t.mono fun y H2 ⟨d1, d2, F2, fps2, e2, p2, r1, r2, h2⟩ => ?_
    cases e : p d1 d2 with
    | none => rw [e] at h2; exact h2.elim
    | some t =>
      rw [e] at h2
      refine hp H2 x y d1 d2 t (r1.mono p2.g.ex) (r2.mono p2.g.ex) e _ ⟨t, rfl, ?_⟩
      cases t with
      | false => exact iteF (h2 (.bl false) F2 H2 fps2 [] (Post.refl p2.g) (.fz (.bl false)))
      | true =>
        refine iteT ?_
        refine (T.one p2.g h2).mono fun z H3 ⟨d3, F3, fps3, e3, p3, r3, h3⟩ => ?_
        cases e' : q d2 d3 with
        | none => rw [e'] at h3; exact h3.elim
        | some u =>
          rw [e'] at h3
          exact hq H3 y z d2 d3 u ((r2.mono p3.step.ex).mono p3.g.ex) (r3.mono p3.g.ex) e' Q (h3 (.bl u) F3 H3 fps3 [] (Post.refl p3.g) (.fz (.bl u)))
/-- a bool as a test -/
def tBl (m : M D) : M Bool := fun e => (m e).bind fun d e1 => match d with
  | .bl b => .ok b e1
  | _ => .er
theorem ft_val {e : Expr} {m : M D} (h : FE c X e .fz m) (he : ∀ whole, isTrue e X.env whole = (do let v ← whole; standAt e.pos; holding [v] (truthy v)) := by intro _; rfl) : FT c X e (tBl m) :=
  PT.weak (pt_val h he) fun σ H Q => by
    rintro ⟨F, env, fps, gg, h⟩
    refine (T.one gg h).mono fun x H1 ⟨d1, F1, fps1, e1, p1, r1, h1⟩ => ?_
    cases r1 with
    | bl b => exact ⟨b, rfl, h1 b F1 H1 fps1 [] (Post.refl p1.g) ⟨rfl, rfl⟩⟩
    | non => exact h1.elim
    | int => exact h1.elim
    | str => exact h1.elim
    | tup => exact h1.elim
    | lst => exact h1.elim
/-! ### and, or, not -/
def tAnd (a b : M Bool) : M Bool := fun e => (a e).bind fun x e1 => if x = true then b e1 else .ok false e1
def tOr (a b : M Bool) : M Bool := fun e => (a e).bind fun x e1 => if x = true then .ok true e1 else b e1
def tNot (a : M Bool) : M Bool := fun e => (a e).bind fun x e1 => .ok (!x) e1
abbrev FW (c : Ct) (X : Cx) (e : Expr) (m : M Bool) : Prop := PW X e (TT' X.K c m)
variable {ma mb : M Bool} {rest : List Expr}
theorem fw_and1 (ha : FT c X a ma) : FW c X (.BoolOp .And [a] pos) ma := pw_and1 ha
theorem fw_or1 (ha : FT c X a ma) : FW c X (.BoolOp .Or [a] pos) ma := pw_or1 ha
theorem fw_and (ha : FT c X a ma) (hb : FW c X (.BoolOp .And (b :: rest) pos) mb) : FW c X (.BoolOp .And (a :: b :: rest) pos) (tAnd ma mb) := PW.weak (pw_and ha hb) fun σ H Q => by
  rintro ⟨F, env, fps, gg, h⟩
  refine (TT'.one gg h).mono fun x H1 ⟨F1, fps1, e1, p1, h1⟩ => ?_
  cases x with
  | true => exact iteT ⟨F1, e1, fps1, p1.g, h1⟩
  | false => exact iteF (h1 false F1 H1 fps1 [] (Post.refl p1.g) ⟨rfl, rfl⟩)
theorem fw_or (ha : FT c X a ma) (hb : FW c X (.BoolOp .Or (b :: rest) pos) mb) : FW c X (.BoolOp .Or (a :: b :: rest) pos) (tOr ma mb) := PW.weak (pw_or ha hb) fun σ H Q => by
  rintro ⟨F, env, fps, gg, h⟩
  refine (TT'.one gg h).mono fun x H1 ⟨F1, fps1, e1, p1, h1⟩ => ?_
  cases x with
  | false => exact iteF ⟨F1, e1, fps1, p1.g, h1⟩
  | true => exact iteT (h1 true F1 H1 fps1 [] (Post.refl p1.g) ⟨rfl, rfl⟩)
theorem ft_w (h : FW c X a ma) : FT c X a ma := h.pt
theorem ft_not (ha : FT c X a ma) : FT c X (.UnaryOp .Not a pos) (tNot ma) := PT.weak (pt_not ha) fun σ H Q => by
  rintro ⟨F, env, fps, gg, h⟩
  exact (TT'.one gg h).mono fun x H1 ⟨F1, fps1, e1, p1, h1⟩ => h1 (!x) F1 H1 fps1 [] (Post.refl p1.g) ⟨rfl, rfl⟩
/-- as values: all but the last a bool -/
def dAnd (a b : M D) : M D := fun e => (a e).bind fun x e1 => match x with
  | .bl true => b e1
  | .bl false => .ok (.bl false) e1
  | _ => .er
def dOr (a b : M D) : M D := fun e => (a e).bind fun x e1 => match x with
  | .bl false => b e1
  | .bl true => .ok (.bl true) e1
  | _ => .er
def dNot (a : M D) : M D := fun e => (a e).bind fun x e1 => match x with
  | .bl t => .ok (.bl (!t)) e1
  | _ => .er
theorem fe_one {op : BoolOp} (h : FE c X a .fz da) : FE c X (.BoolOp op [a] pos) .fz da := pe_one h
theorem fe_and (ha : FE c X a .fz da) (hb : FE c X (.BoolOp .And (b :: rest) pos) .fz db) : FE c X (.BoolOp .And (a :: b :: rest) pos) .fz (dAnd da db) := PE.weak (pe_and ha hb) fun σ H Q => by
  rintro ⟨F, env, fps, gg, h⟩
  refine (T.one gg h).mono fun x H1 ⟨d1, F1, fps1, e1, p1, r1, h1⟩ => ?_
  cases r1 with
  | bl t =>
    refine ⟨t, rfl, ?_⟩
    cases t with
    | true => exact iteT ⟨F1, e1, fps1, p1.g, h1⟩
    | false => exact iteF (h1 (.bl false) F1 H1 fps1 [] (Post.refl p1.g) (.fz (.bl false)))
  | non => exact h1.elim
  | int => exact h1.elim
  | str => exact h1.elim
  | tup => exact h1.elim
  | lst => exact h1.elim
theorem fe_or (ha : FE c X a .fz da) (hb : FE c X (.BoolOp .Or (b :: rest) pos) .fz db) : FE c X (.BoolOp .Or (a :: b :: rest) pos) .fz (dOr da db) := PE.weak (pe_or ha hb) fun σ H Q => by
  rintro ⟨F, env, fps, gg, h⟩
  refine (T.one gg h).mono fun x H1 ⟨d1, F1, fps1, e1, p1, r1, h1⟩ => ?_
  cases r1 with
  | bl t =>
    refine ⟨t, rfl, ?_⟩
    cases t with
    | false => exact iteF ⟨F1, e1, fps1, p1.g, h1⟩
    | true => exact iteT (h1 (.bl true) F1 H1 fps1 [] (Post.refl p1.g) (.fz (.bl true)))
  | non => exact h1.elim
  | int => exact h1.elim
  | str => exact h1.elim
  | tup => exact h1.elim
  | lst => exact h1.elim
theorem fe_not (ha : FE c X a .fz da) : FE c X (.UnaryOp .Not a pos) .fz (dNot da) := PE.weak (pe_not ha) fun σ H Q => by
  rintro ⟨F, env, fps, gg, h⟩
  refine (T.one gg h).mono fun x H1 ⟨d1, F1, fps1, e1, p1, r1, h1⟩ => ?_
  cases r1 with
  | bl t => exact ⟨t, rfl, h1 (.bl (!t)) F1 H1 fps1 [] (Post.refl p1.g) (.fz (.bl (!t)))⟩
  | non => exact h1.elim
  | int => exact h1.elim
  | str => exact h1.elim
  | tup => exact h1.elim
  | lst => exact h1.elim
def dIf (t : M Bool) (a b : M D) : M D := fun e => (t e).bind fun x e1 => if x = true then a e1 else b e1
theorem fe_if {t : Expr} {mt : M Bool} (ht : FT c X t mt) (ha : FE c X a o da) (hb : FE c X b o db) : FE c X (.IfExp t a b pos) o (dIf mt da db) := PE.weak (pe_ifExp ht ha hb) fun σ H Q => by
  rintro ⟨F, env, fps, gg, h⟩
  refine (TT'.one gg h).mono fun x H1 ⟨F1, fps1, e1, p1, h1⟩ => ?_
  cases x with
  | true => exact iteT ⟨F1, e1, fps1, p1.g, h1⟩
  | false => exact iteF ⟨F1, e1, fps1, p1.g, h1⟩
/-! ### arguments, displays -/
def dNil : M (List D) := fun e => .ok [] e
def dCons (a : M D) (r : M (List D)) : M (List D) := fun e => (a e).bind fun x e1 => (r e1).bind fun xs e2 => .ok (x :: xs) e2
variable {e : Expr} {es : List Expr} {ml : M (List D)}
theorem fa_nil : FA c X [] dNil := PA.weak pa_nil fun σ H Q => by
  rintro ⟨F, env, fps, gg, h⟩
  exact h [] F H fps [] (Post.refl gg) ⟨.nil, rfl⟩
theorem fa_cons (ha : FE c X e .fz da) (hr : FA c X es ml) (hs : starEach (e :: es) X.env = (false, eval e X.env) :: starEach es X.env := by rfl) : FA c X (e :: es) (dCons da ml) := PA.weak (pa_cons ha hr hs) fun σ H Q => by
  rintro ⟨F, env, fps, gg, h⟩
  refine (T.one gg h).mono fun x H1 ⟨d1, F1, fps1, e1, p1, r1, h1⟩ => (TL.one p1.g h1).mono fun vs H2 ⟨ds, F2, fps2, e2, p2, r2, h2⟩ => ?_
  exact h2 (x :: vs) F2 H2 fps2 [] (Post.refl p2.g) ⟨.cons (r1.mono p2.step.ex) r2, rfl⟩
def line : Nat := 16777216
theorem line_eq {n : Nat} (h : n ≤ line) : n ≤ sizeLine := by rw [sizeLine_eq]; exact h
def dTup (m : M (List D)) : M D := fun e => (m e).bind fun xs e1 => if xs.length ≤ line then .ok (.tup xs) e1 else .er
def dLst (m : M (List D)) : M D := fun e => (m e).bind fun xs e1 => if xs.length ≤ line then .ok (.lst xs) e1 else .er
theorem fe_tup {x1} (h : FA c X es ml) : FE c X (.Tuple es x1 pos) .fz (dTup ml) := PE.weak (pe_tup h) fun σ H Q => by
  rintro ⟨F, env, fps, gg, h⟩
  refine (TL.one gg h).mono fun vs H1 ⟨ds, F1, fps1, e1, p1, r1, h1⟩ => ?_
  split at h1
  · rename_i hl
    refine ⟨line_eq (by rw [r1.len]; exact hl), fun p hp => ?_⟩
    have n := New.frz (o := .tup vs) p1.g.ex hp
    exact fin_new p1.g h1 _ _ _ _ n (.fz (.tupL (SqT.of upd_same) (r1.mono n.step.ex)))
  · exact h1.elim
theorem fe_lst (h : FA c X es ml) : FE c X (.List es pos) l1 (dLst ml) := PE.weak (pe_lst h) fun σ H Q => by
  rintro ⟨F, env, fps, gg, h⟩
  refine (TL.one gg h).mono fun vs H1 ⟨ds, F1, fps1, e1, p1, r1, h1⟩ => ?_
  split at h1
  · rename_i hl
    refine ⟨line_eq (by rw [r1.len]; exact hl), fun p hp => ?_⟩
    have n := New.own (o := .lst vs) p1.g.ex hp
    exact fin_new p1.g h1 _ _ _ _ n (.l1 upd_same r1)
  · exact h1.elim
/-! ### calls of built-ins -/
def CallOk (K : PySem.W.Frag) (cl : Nat → Addr) (r : List V → Hp → VK → Prop) (o : Sh) (g : List D → Option D) : Prop :=
  ∀ (F H : Hp) (xs : List V) (ds : List D) (d : D), Ext F H → RepL K cl F xs ds → g ds = some d → ∀ Q : VK, (∀ v F' H' fpr, New F H F' H' fpr → Own K cl F' H' o v d fpr → Q v H') → r xs H Q
/-- .. that only looks: the answer is a plain value -/
def LookOk (K : PySem.W.Frag) (cl : Nat → Addr) (r : List V → Hp → VK → Prop) (g : List D → Option D) : Prop :=
  ∀ (H : Hp) (xs : List V) (ds : List D) (d : D), RepL K cl H xs ds → g ds = some d → ∀ Q : VK, (∀ v, (∀ F, Rep K cl F v d) → Q v H) → r xs H Q
theorem LookOk.call {K : PySem.W.Frag} {cl : Nat → Addr} {r : List V → Hp → VK → Prop} {g : List D → Option D} (h : LookOk K cl r g) : CallOk K cl r .fz g := fun F H xs ds d x rr e Q q =>
  h H xs ds d (rr.mono x) e Q fun v rv => q v F H [] (New.refl x) (.fz (rv F))
def dCall (g : List D → Option D) (m : M (List D)) : M D := fun e => (m e).bind fun xs e1 => R.opt (g xs) e1
theorem tcb_ok {r : List V → Hp → VK → Prop} {g : List D → Option D} {σ : St} {H : Hp} {Q : VK} (hg : CallOk X.K c.cl r o g) (h : T X.K c o (dCall g ml) σ H Q) : tCB r (TL X.K c ml) σ H Q := by
  obtain ⟨F, env, fps, gg, h⟩ := h
  refine (TL.one gg h).mono fun vs H1 ⟨ds, F1, fps1, e1, p1, r1, h1⟩ => ?_
  cases ed : g ds with
  | none => rw [ed] at h1; exact h1.elim
  | some d => rw [ed] at h1; exact hg F1 H1 vs ds d p1.g.ex r1 ed Q (fin_new p1.g h1)
theorem fe_callB {id : String} {x : Str} {p : Pos} {r : List V → Hp → VK → Prop} {g : List D → Option D} (hc : CallR X (.builtin id) r) (hg : CallOk X.K c.cl r o g) (hx : Gl X x) (hm : X.mg x = none) (hv : bootBuiltins x = some (.builtin id)) (ha : FA c X (e :: es) ml) (hn : x ≠ "__name__" := by decide) (hdb : (x == ("__debug__" : Str)) = false := by decide)
    (he : starEach (e :: es) X.env = (false, eval e X.env) :: starEach es X.env := by rfl) (hpl : (backTo pos (starEach es X.env)).any (·.1) = false := by rfl) : FE c X (.Call (.Name x p) (e :: es) [] pos) o (dCall g ml) :=
  PE.weak (pe_callB hc hx hm hv ha hn hdb he hpl) fun σ H Q => tcb_ok hg
theorem fe_callTy {id : String} {x : Str} {p : Pos} {r : List V → Hp → VK → Prop} {g : List D → Option D} (hc : CallR X (.type id) r) (hg : CallOk X.K c.cl r o g) (hx : Gl X x) (hm : X.mg x = none) (hv : bootBuiltins x = some (.type id)) (ha : FA c X (e :: es) ml) (hn : x ≠ "__name__" := by decide) (hdb : (x == ("__debug__" : Str)) = false := by decide)
    (he : starEach (e :: es) X.env = (false, eval e X.env) :: starEach es X.env := by rfl) (hpl : (backTo pos (starEach es X.env)).any (·.1) = false := by rfl) : FE c X (.Call (.Name x p) (e :: es) [] pos) o (dCall g ml) :=
  PE.weak (pe_callTy hc hx hm hv ha hn hdb he hpl) fun σ H Q => tcb_ok hg
/-- len(an owned list) and the like -/
def dCall1 (g : List D → Option D) (m : M D) : M D := fun e => (m e).bind fun x e1 => R.opt (g [x]) e1
theorem fe_lookB {id : String} {x : Str} {p : Pos} {r : List V → Hp → VK → Prop} {g : List D → Option D} (hc : CallR X (.builtin id) r) (hg : LookOk X.K c.cl r g) (hx : Gl X x) (hm : X.mg x = none) (hv : bootBuiltins x = some (.builtin id)) (ha : FK c X e da) (hn : x ≠ "__name__" := by decide) (hdb : (x == ("__debug__" : Str)) = false := by decide)
    (he : starEach (e :: []) X.env = (false, eval e X.env) :: starEach [] X.env := by rfl) (hpl : (backTo pos (starEach [] X.env)).any (·.1) = false := by rfl) : FE c X (.Call (.Name x p) [e] [] pos) .fz (dCall1 g da) :=
  PE.weak (pe_callB hc hx hm hv (pa_cons ha pa_nil he) hn hdb he hpl) fun σ H Q => by
    rintro ⟨F, env, fps, gg, h⟩
    refine (TK.one gg h).mono fun x H1 ⟨d1, F1, fps1, e1, p1, r1, h1⟩ => ?_
    cases ed : g [d1] with
    | none => rw [ed] at h1; exact h1.elim
    | some d =>
      rw [ed] at h1
      exact hg H1 [x] [d1] d (.cons r1 .nil) ed Q fun v rv => h1 v F1 H1 fps1 [] (Post.refl p1.g) (.fz (rv F1))
end
end FL
namespace FL
open PySem PySem.Spec L2
open PyProof.Rows hiding St
/-! ### == -/
mutual
def D.toP : D → PyData
  | .non => .none
  | .bl b => .bool b
  | .int i => .int i
  | .str s => .str s
  | .tup xs => .tuple (toPs xs)
  | .lst xs => .list (toPs xs)
  | .dct _ _ => .none
  | .obj _ _ _ => .none
def toPs : List D → List PyData
  | [] => []
  | x :: xs => x.toP :: toPs xs
end
theorem toPs_map (xs : List D) : toPs xs = xs.map D.toP := by
  induction xs with
  | nil => rfl
  | cons x xs ih => show x.toP :: toPs xs = _; rw [ih]; rfl
mutual
/-- == of two data -/
def D.eqb : D → D → Bool
  | .non, .non => true
  | .bl a, .bl b => a == b
  | .bl a, .int j => (if a = true then 1 else 0) == j
  | .int i, .bl b => i == if b = true then 1 else 0
  | .int i, .int j => i == j
  | .str x, .str y => x == y
  | .lst xs, .lst ys => eqbs xs ys
  | .tup xs, .tup ys => eqbs xs ys
  | _, _ => false
def eqbs : List D → List D → Bool
  | [], [] => true
  | x :: xs, y :: ys => x.eqb y && eqbs xs ys
  | _, _ => false
end
mutual
/-- data of built-in kinds, nested at most n deep -/
def D.fit : Nat → D → Bool
  | _, .non => true
  | _, .bl _ => true
  | _, .int _ => true
  | _, .str s => PyData.strOk s
  | n + 1, .tup xs => fits n xs
  | n + 1, .lst xs => fits n xs
  | _, _ => false
def fits : Nat → List D → Bool
  | _, [] => true
  | n, x :: xs => x.fit n && fits n xs
end
theorem fits_all {n : Nat} : ∀ {xs : List D}, fits n xs = true ↔ ∀ x ∈ xs, x.fit n = true
  | [] => ⟨fun _ x h => (by cases h), fun _ => (by unfold fits; rfl)⟩
  | x :: xs => by
    unfold fits
    rw [Bool.and_eq_true, fits_all]
    exact ⟨fun h y hy => (List.mem_cons.mp hy).elim (fun e => e ▸ h.1) (h.2 y), fun h => ⟨h x List.mem_cons_self, fun y hy => h y (List.mem_cons_of_mem _ hy)⟩⟩
mutual
theorem fit_lay : ∀ (n : Nat) (d : D), d.fit n = true → d.toP.canLay0 = true ∧ d.toP.depth ≤ n
  | n, .non, _ => ⟨by simp [D.toP, PyData.canLay0], by simp [D.toP, PyData.depth]⟩
  | n, .bl _, _ => ⟨by simp [D.toP, PyData.canLay0], by simp [D.toP, PyData.depth]⟩
  | n, .int _, _ => ⟨by simp [D.toP, PyData.canLay0], by simp [D.toP, PyData.depth]⟩
  | n, .str s, h => ⟨by simp only [D.toP, PyData.canLay0]; unfold D.fit at h; exact h, by simp [D.toP, PyData.depth]⟩
  | 0, .tup xs, h => by simp [D.fit] at h
  | 0, .lst xs, h => by simp [D.fit] at h
  | n + 1, .tup xs, h => by
    unfold D.fit at h
    obtain ⟨h1, h2⟩ := fits_lay n xs h
    exact ⟨by simp only [D.toP, PyData.canLay0]; exact h1, by simp only [D.toP, PyData.depth]; omega⟩
  | n + 1, .lst xs, h => by
    unfold D.fit at h
    obtain ⟨h1, h2⟩ := fits_lay n xs h
    exact ⟨by simp only [D.toP, PyData.canLay0]; exact h1, by simp only [D.toP, PyData.depth]; omega⟩
  | n, .dct _ _, h => by cases n <;> simp [D.fit] at h
  | n, .obj _ _ _, h => by cases n <;> simp [D.fit] at h
theorem fits_lay : ∀ (n : Nat) (ds : List D), fits n ds = true → PyData.canLayAll0 (toPs ds) = true ∧ PyData.depthAll (toPs ds) ≤ n
  | n, [], _ => ⟨by simp [toPs, PyData.canLayAll0], by simp [toPs, PyData.depthAll]⟩
  | n, d :: ds, h => by
    unfold fits at h
    rw [Bool.and_eq_true] at h
    obtain ⟨h1, h2⟩ := fit_lay n d h.1
    obtain ⟨h3, h4⟩ := fits_lay n ds h.2
    exact ⟨by simp only [toPs, PyData.canLayAll0, h1, h3]; rfl, by simp only [toPs, PyData.depthAll]; omega⟩
end
mutual
theorem eqv_toP : ∀ (n : Nat) (d e : D), d.fit n = true → e.fit n = true → PyData.eqv d.toP e.toP = d.eqb e
  | n, d, e, hd, he => by
    cases d <;> cases e <;> first
      | (simp only [D.toP, PyData.eqv, D.eqb]; done)
      | (cases n <;> simp [D.fit] at hd; done)
      | (cases n <;> simp [D.fit] at he; done)
      | (cases n with
          | zero => simp [D.fit] at hd
          | succ n =>
            unfold D.fit at hd he
            simp only [D.toP, PyData.eqv, D.eqb]
            exact eqvs_toP n _ _ hd he)
theorem eqvs_toP : ∀ (n : Nat) (ds es : List D), fits n ds = true → fits n es = true → PyData.eqvAll (toPs ds) (toPs es) = eqbs ds es
  | n, [], [], _, _ => by simp [toPs, PyData.eqvAll, eqbs]
  | n, [], _ :: _, _, _ => by simp [toPs, PyData.eqvAll, eqbs]
  | n, _ :: _, [], _, _ => by simp [toPs, PyData.eqvAll, eqbs]
  | n, d :: ds, e :: es, hd, he => by
    unfold fits at hd he
    rw [Bool.and_eq_true] at hd he
    simp only [toPs, PyData.eqvAll, eqbs]
    rw [eqv_toP n d e hd.1 he.1, eqvs_toP n ds es hd.2 he.2]
end
theorem shaped_fit {d : D} (h : d.fit 60 = true) : SeqAt.shaped d.toP = true := by
  obtain ⟨h1, h2⟩ := fit_lay 60 d h
  unfold SeqAt.shaped
  rw [h1]
  simp
  omega
theorem dpAll_of {K : PySem.W.Frag} {F : Hp} : ∀ {vs : List V} {ds : List D}, vs.length = ds.length → (∀ (i : Nat) v d, vs[i]? = some v → ds[i]? = some d → Dp K F v d.toP) → DpAll K F vs (toPs ds)
  | [], [], _, _ => .nil
  | [], _ :: _, l, _ => by simp at l
  | _ :: _, [], l, _ => by simp at l
  | v :: vs, d :: ds, l, r => .cons (r 0 v d rfl rfl) (dpAll_of (by simpa using l) fun i w e h1 h2 => r (i + 1) w e (by simpa using h1) (by simpa using h2))
theorem Rep.dp {K : PySem.W.Frag} {cl : Nat → Addr} {F : Hp} {v : V} {d : D} (r : Rep K cl F v d) : Dp K F v d.toP := by
  induction r with
  | non => exact .non
  | bl b => exact .bl b
  | int i => exact .int i
  | str s => exact .str s
  | tup h hl _ ih => exact .tup h (dpAll_of hl ih)
  | lst h hl _ ih => exact .lst h (dpAll_of hl ih)
def pEq (a b : D) : Option Bool := if a.fit 60 && b.fit 60 then some (a.eqb b) else none
def pNe (a b : D) : Option Bool := if a.fit 60 && b.fit 60 then some (!a.eqb b) else none
section
variable {K : PySem.W.Frag} {cl : Nat → Addr}
theorem eq_ok : CmpOk K cl (rEqD K) pEq := fun H x y d1 d2 b r1 r2 e Q q => by
  unfold pEq at e
  split at e
  · rename_i h
    rw [Bool.and_eq_true] at h
    cases e
    refine ⟨_, _, r1.dp, r2.dp, shaped_fit h.1, shaped_fit h.2, ?_⟩
    rw [eqv_toP 60 _ _ h.1 h.2]; exact q
  · cases e
theorem ne_ok : CmpOk K cl (rNeD K) pNe := fun H x y d1 d2 b r1 r2 e Q q => by
  unfold pNe at e
  split at e
  · rename_i h
    rw [Bool.and_eq_true] at h
    cases e
    refine ⟨_, _, r1.dp, r2.dp, shaped_fit h.1, shaped_fit h.2, ?_⟩
    rw [eqv_toP 60 _ _ h.1 h.2]; exact q
  · cases e
/-! ### order of ints, is -/
def pI (p : Int → Int → Bool) (a b : D) : Option Bool := match a, b with
  | .int i, .int j => some (p i j)
  | _, _ => none
abbrev pLt := pI fun i j => decide (i < j)
abbrev pLe := pI fun i j => decide (i ≤ j)
abbrev pGt := pI fun i j => decide (j < i)
abbrev pGe := pI fun i j => decide (j ≤ i)
theorem pI_ok {p : Int → Int → Bool} : CmpOk K cl (rI0 fun i j => .bl (p i j)) (pI p) := fun H x y d1 d2 b r1 r2 e Q q => by
  unfold pI at e
  split at e
  · cases e; exact ⟨_, _, r1.int_inv, r2.int_inv, q⟩
  · cases e
/-- is None -/
def D.isN : D → Bool
  | .non => true
  | _ => false
theorem isN_of {F : Hp} {v : V} {d : D} (r : Rep K cl F v d) : decide (v = .non) = d.isN := by
  cases r <;> simp [D.isN]
def pIsN (a b : D) : Option Bool := match b with
  | .non => some a.isN
  | _ => none
def pNotN (a b : D) : Option Bool := match b with
  | .non => some (!a.isN)
  | _ => none
theorem isN_ok : CmpOk K cl (fun x y H Q => y = .non ∧ Q (.bl (decide (x = .non))) H) pIsN := fun H x y d1 d2 b r1 r2 e Q q => by
  unfold pIsN at e
  split at e
  · cases e; exact ⟨r2.non_inv, by rw [isN_of r1]; exact q⟩
  · cases e
theorem notN_ok : CmpOk K cl (fun x y H Q => y = .non ∧ Q (.bl (!decide (x = .non))) H) pNotN := fun H x y d1 d2 b r1 r2 e Q q => by
  unfold pNotN at e
  split at e
  · cases e; exact ⟨r2.non_inv, by rw [isN_of r1]; exact q⟩
  · cases e
/-- is True, is False -/
def D.isB (t : Bool) : D → Bool
  | .bl b => b == t
  | _ => false
def pIsB (a b : D) : Option Bool := match b with
  | .bl t => some (a.isB t)
  | _ => none
def pNotB (a b : D) : Option Bool := match b with
  | .bl t => some (!a.isB t)
  | _ => none
def rIsBool : R2 := fun x y H Q => ∃ t, y = .bl t ∧ Q (.bl (decide (x = .bl t))) H
def rNotBool : R2 := fun x y H Q => ∃ t, y = .bl t ∧ Q (.bl (!decide (x = .bl t))) H
theorem is_bool_gen {M : Model} {A : Around} {E : Value → Shared → Prop} {s : Shared} {x : V} {v : Value} {t : Bool} {Q : Value → Shared → Prop} (r : RelV x v) (h : Q (.bool (v == .bool t)) s) : wpAny M A (compareOp .Is v (.bool t)) Q E s := by
  cases x with
  | non => cases r; exact wpAny_pure h
  | bl b => cases r; exact wpAny_pure h
  | int _ => obtain ⟨u, rfl⟩ := r; exact wpAny_pure h
  | str _ => obtain ⟨u, rfl⟩ := r; exact wpAny_pure h
  | byt _ => obtain ⟨u, rfl⟩ := r; exact wpAny_pure h
  | flt _ => obtain ⟨u, rfl⟩ := r; exact wpAny_pure h
  | ref _ => cases r; exact wpAny_pure h
  | ty _ => cases r; exact wpAny_pure h
theorem isnot_bool_gen {M : Model} {A : Around} {E : Value → Shared → Prop} {s : Shared} {x : V} {v : Value} {t : Bool} {Q : Value → Shared → Prop} (r : RelV x v) (h : Q (.bool (!(v == .bool t))) s) : wpAny M A (compareOp .IsNot v (.bool t)) Q E s := by
  cases x with
  | non => cases r; exact wpAny_pure h
  | bl b => cases r; exact wpAny_pure h
  | int _ => obtain ⟨u, rfl⟩ := r; exact wpAny_pure h
  | str _ => obtain ⟨u, rfl⟩ := r; exact wpAny_pure h
  | byt _ => obtain ⟨u, rfl⟩ := r; exact wpAny_pure h
  | flt _ => obtain ⟨u, rfl⟩ := r; exact wpAny_pure h
  | ref _ => cases r; exact wpAny_pure h
  | ty _ => cases r; exact wpAny_pure h
theorem bool_iff {x : V} {v : Value} {t : Bool} (r : RelV x v) : (v == Value.bool t) = decide (x = .bl t) := by
  cases x with
  | non => cases r; rfl
  | bl b => cases r; cases b <;> cases t <;> rfl
  | int _ => obtain ⟨u, rfl⟩ := r; rfl
  | str _ => obtain ⟨u, rfl⟩ := r; rfl
  | byt _ => obtain ⟨u, rfl⟩ := r; rfl
  | flt _ => obtain ⟨u, rfl⟩ := r; rfl
  | ref _ => cases r; rfl
  | ty _ => cases r; rfl
theorem op_isBool {X : Cx} : OpR X (compareOp .Is) rIsBool := by
  intro pins s σ H x y v u Q I rx ry h
  obtain ⟨t, rfl, q⟩ := h
  cases (show u = Value.bool t from ry)
  exact is_bool_gen rx ⟨.bl _, H, I, by rw [bool_iff rx]; rfl, q⟩
theorem op_notBool {X : Cx} : OpR X (compareOp .IsNot) rNotBool := by
  intro pins s σ H x y v u Q I rx ry h
  obtain ⟨t, rfl, q⟩ := h
  cases (show u = Value.bool t from ry)
  exact isnot_bool_gen rx ⟨.bl _, H, I, by rw [bool_iff rx]; rfl, q⟩
theorem isB_of {F : Hp} {v : V} {d : D} {t : Bool} (r : Rep K cl F v d) : decide (v = .bl t) = d.isB t := by
  cases r with
  | bl b => cases b <;> cases t <;> simp [D.isB]
  | non => simp [D.isB]
  | int => simp [D.isB]
  | str => simp [D.isB]
  | tup => simp [D.isB]
  | lst => simp [D.isB]
theorem isB_ok : CmpOk K cl rIsBool pIsB := fun H x y d1 d2 b r1 r2 e Q q => by
  unfold pIsB at e
  split at e
  · rename_i t; cases e; exact ⟨t, r2.bl_inv, by rw [isB_of r1]; exact q⟩
  · cases e
theorem notB_ok : CmpOk K cl rNotBool pNotB := fun H x y d1 d2 b r1 r2 e Q q => by
  unfold pNotB at e
  split at e
  · rename_i t; cases e; exact ⟨t, r2.bl_inv, by rw [isB_of r1]; exact q⟩
  · cases e
/-! ### in -/
def D.flat : D → Bool
  | .non => true
  | .bl _ => true
  | .int _ => true
  | .str _ => true
  | _ => false
theorem flat_of {F : Hp} {v : V} {d : D} (r : Rep K cl F v d) : flatV v = d.flat := by
  cases r <;> rfl
theorem eqV_of {F : Hp} {v w : V} {d e : D} (r : Rep K cl F v d) (q : Rep K cl F w e) (h1 : d.flat = true) (h2 : e.flat = true) : eqV v w = d.eqb e := by
  cases r <;> cases q <;> first | rfl | (simp [D.flat] at h1; done) | (simp [D.flat] at h2; done) | (simp [eqV, D.eqb]; done)
theorem all_flat {F : Hp} : ∀ {vs : List V} {ds : List D}, RepL K cl F vs ds → vs.all flatV = ds.all D.flat
  | [], [], _ => rfl
  | [], _ :: _, r => by have := r.len; simp at this
  | _ :: _, [], r => by have := r.len; simp at this
  | v :: vs, d :: ds, r => by rw [List.all_cons, List.all_cons, flat_of r.head, all_flat r.tail]
theorem inV_of {F : Hp} {w : V} {e : D} (q : Rep K cl F w e) (he : e.flat = true) : ∀ {vs : List V} {ds : List D}, RepL K cl F vs ds → ds.all D.flat = true → inV w vs = ds.any fun y => y.eqb e
  | [], [], _, _ => rfl
  | [], _ :: _, r, _ => by have := r.len; simp at this
  | _ :: _, [], r, _ => by have := r.len; simp at this
  | v :: vs, d :: ds, r, h => by
    rw [List.all_cons, Bool.and_eq_true] at h
    have ih := inV_of q he r.tail h.2
    unfold inV at ih ⊢
    rw [List.any_cons, List.any_cons, eqV_of r.head q h.1 he, ih]
def inD (x : D) (ys : List D) : Bool := ys.any fun y => y.eqb x
/-- x in y: y a list or tuple, flat things, or a list of data -/
def pIn (x y : D) : Option Bool := match y with
  | .lst ys => if x.flat && ys.all D.flat then some (inD x ys) else if x.fit 60 && (D.lst ys).fit 60 then some (inD x ys) else none
  | .tup ys => if x.flat && ys.all D.flat then some (inD x ys) else none
  | _ => none
def pNotIn (x y : D) : Option Bool := (pIn x y).map fun b => !b
def rInA (K : PySem.W.Frag) : R2 := fun x y H Q => rIn K false x y H Q ∨ rInD K x y H Q
def rNotInA (K : PySem.W.Frag) : R2 := fun x y H Q => rIn K true x y H Q ∨ rNotInD K x y H Q
theorem op_inA {X : Cx} (hu : X.A.units + 65 < cLine) : OpR X (compareOp .In) (rInA X.K) := op_in_seq.or (op_inD hu)
theorem op_notInA {X : Cx} (hu : X.A.units + 65 < cLine) : OpR X (compareOp .NotIn) (rNotInA X.K) := op_notIn_seq.or (op_notInD hu)
theorem any_toP {x : D} (hx : x.fit 60 = true) : ∀ {ys : List D}, (∀ y ∈ ys, y.fit 60 = true) → ((toPs ys).any fun z => PyData.eqv z x.toP) = inD x ys
  | [], _ => rfl
  | y :: ys, h => by
    have ih := any_toP hx (ys := ys) fun z hz => h z (List.mem_cons_of_mem _ hz)
    unfold inD at ih ⊢
    simp only [toPs]
    rw [List.any_cons, List.any_cons, ih, eqv_toP 60 y x (h y List.mem_cons_self) hx]
mutual
theorem fit_mono : ∀ (n : Nat) (d : D), d.fit n = true → d.fit (n + 1) = true
  | n, .non, _ => by simp [D.fit]
  | n, .bl _, _ => by simp [D.fit]
  | n, .int _, _ => by simp [D.fit]
  | n, .str s, h => by unfold D.fit at h ⊢; exact h
  | 0, .tup xs, h => by simp [D.fit] at h
  | 0, .lst xs, h => by simp [D.fit] at h
  | n + 1, .tup xs, h => by unfold D.fit at h ⊢; exact fits_mono n xs h
  | n + 1, .lst xs, h => by unfold D.fit at h ⊢; exact fits_mono n xs h
  | n, .dct _ _, h => by cases n <;> simp [D.fit] at h
  | n, .obj _ _ _, h => by cases n <;> simp [D.fit] at h
theorem fits_mono : ∀ (n : Nat) (ds : List D), fits n ds = true → fits (n + 1) ds = true
  | n, [], _ => by simp [fits]
  | n, d :: ds, h => by
    unfold fits at h ⊢
    rw [Bool.and_eq_true] at h ⊢
    exact ⟨fit_mono n d h.1, fits_mono n ds h.2⟩
end
theorem fit_items {ys : List D} (h : (D.lst ys).fit 60 = true) : ∀ y ∈ ys, y.fit 60 = true := fun y hy => by
  unfold D.fit at h
  exact fit_mono 59 y (fits_all.mp h y hy)
theorem in_ok : CmpOk K cl (rInA K) pIn := fun H x y d1 d2 b r1 r2 e Q q => by
  unfold pIn at e
  split at e
  · rename_i ys
    obtain ⟨a, vs, rfl, hs, rl⟩ := r2.lst_inv
    split at e
    · rename_i h
      rw [Bool.and_eq_true] at h
      cases e
      refine .inl ⟨a, vs, rfl, .inl hs, by rw [flat_of r1]; exact h.1, by rw [all_flat rl]; exact h.2, ?_⟩
      rw [inV_of r1 h.1 rl h.2]; exact q
    · split at e
      · rename_i h
        rw [Bool.and_eq_true] at h
        cases e
        refine .inr ⟨_, _, r1.dp, (Rep.lstL hs rl).dp, shaped_fit h.1, shaped_fit h.2, ?_⟩
        show Q (.bl ((toPs ys).any fun z => PyData.eqv z d1.toP)) H
        rw [any_toP h.1 (fit_items h.2)]; exact q
      · cases e
  · rename_i ys
    obtain ⟨a, vs, rfl, hs, rl⟩ := r2.tup_inv
    split at e
    · rename_i h
      rw [Bool.and_eq_true] at h
      cases e
      refine .inl ⟨a, vs, rfl, .inr hs, by rw [flat_of r1]; exact h.1, by rw [all_flat rl]; exact h.2, ?_⟩
      rw [inV_of r1 h.1 rl h.2]; exact q
    · cases e
  · cases e
theorem notIn_ok : CmpOk K cl (rNotInA K) pNotIn := fun H x y d1 d2 b r1 r2 e Q q => by
  unfold pNotIn pIn at e
  split at e
  · rename_i ys
    obtain ⟨a, vs, rfl, hs, rl⟩ := r2.lst_inv
    split at e
    · rename_i h
      rw [Bool.and_eq_true] at h
      cases e
      refine .inl ⟨a, vs, rfl, .inl hs, by rw [flat_of r1]; exact h.1, by rw [all_flat rl]; exact h.2, ?_⟩
      rw [inV_of r1 h.1 rl h.2]; exact q
    · split at e
      · rename_i h
        rw [Bool.and_eq_true] at h
        cases e
        refine .inr ⟨_, _, r1.dp, (Rep.lstL hs rl).dp, shaped_fit h.1, shaped_fit h.2, ?_⟩
        show Q (.bl (!(toPs ys).any fun z => PyData.eqv z d1.toP)) H
        rw [any_toP h.1 (fit_items h.2)]; exact q
      · cases e
  · rename_i ys
    obtain ⟨a, vs, rfl, hs, rl⟩ := r2.tup_inv
    split at e
    · rename_i h
      rw [Bool.and_eq_true] at h
      cases e
      refine .inl ⟨a, vs, rfl, .inr hs, by rw [flat_of r1]; exact h.1, by rw [all_flat rl]; exact h.2, ?_⟩
      rw [inV_of r1 h.1 rl h.2]; exact q
    · cases e
  · cases e
end
end FL
namespace FL
open PySem PySem.Spec L2
open PyProof.Rows hiding St
section
variable {K : PySem.W.Frag} {cl : Nat → Addr}
/-! ### ints -/
theorem own_int {F H : Hp} {i : Int} : Own K cl F H .fz (.int i) (.int i) [] := .fz (.int i)
def g2 (g : Int → Int → Option Int) (a b : D) : Option D := match a, b with
  | .int i, .int j => (g i j).map D.int
  | _, _ => none
theorem g2_ok {C : Int → Int → Prop} {f : Int → Int → Int} {g : Int → Int → Option Int} (hg : ∀ i j k, g i j = some k → C i j ∧ f i j = k) : OpOk K cl (rI C fun i j => .int (f i j)) .fz (g2 g) := fun F H x y d1 d2 d x0 r1 r2 e Q q => by
  unfold g2 at e
  split at e
  · rename_i i j
    cases e' : g i j with
    | none => rw [e'] at e; cases e
    | some k =>
      rw [e'] at e; cases e
      obtain ⟨hc, hf⟩ := hg i j k e'
      subst hf
      exact ⟨i, j, r1.int_inv, r2.int_inv, hc, q _ F H [] (.refl x0) own_int⟩
  · cases e
theorem rI0_rI {f : Int → Int → V} {x y : V} {H : Hp} {Q : VK} (h : rI (fun _ _ => True) f x y H Q) : rI0 f x y H Q := let ⟨i, j, a, b, _, q⟩ := h; ⟨i, j, a, b, q⟩
theorem RepL.nilV {F : Hp} {vs : List V} {ds : List D} (r : RepL K cl F vs ds) : vs = [] ↔ ds = [] := by
  have l := r.len
  constructor
  · intro e; subst e; exact List.length_eq_zero_iff.mp l.symm
  · intro e; subst e; exact List.length_eq_zero_iff.mp l
/-- what + does: ints, texts, tuples -/
def gAdd (a b : D) : Option D := match a, b with
  | .int i, .int j => some (.int (i + j))
  | .str x, .str y => if x.length + y.length ≤ line then some (.str (x ++ y)) else none
  | .tup xs, .tup ys => if xs.length + ys.length ≤ line then some (.tup (xs ++ ys)) else none
  | _, _ => none
def rAddA (K : PySem.W.Frag) : R2 := fun x y H Q => rI0 (fun i j => .int (i + j)) x y H Q ∨ (∃ i j, x = .str i ∧ y = .str j ∧ i.length + j.length ≤ sizeLine ∧ Q (.str (i ++ j)) H) ∨ rCatA K x y H Q
theorem op_addA {X : Cx} : OpR X (binaryOp .Add) (rAddA X.K) := op_add.or (op_add_str.or op_catA)
theorem add_ok : OpOk K cl (rAddA K) .fz gAdd := fun F H x y d1 d2 d x0 r1 r2 e Q q => by
  unfold gAdd at e
  split at e
  · cases e; exact .inl ⟨_, _, r1.int_inv, r2.int_inv, q _ F H [] (.refl x0) own_int⟩
  · split at e
    · rename_i h
      cases e
      exact .inr (.inl ⟨_, _, r1.str_inv, r2.str_inv, line_eq h, q _ F H [] (.refl x0) (.fz (.str _))⟩)
    · cases e
  · split at e
    · rename_i xs ys h
      cases e
      obtain ⟨a, vs, rfl, h1, l1⟩ := r1.tup_inv
      obtain ⟨b, ws, rfl, h2, l2⟩ := r2.tup_inv
      refine .inr (.inr ⟨a, b, vs, ws, rfl, rfl, x0.sqt h1, x0.sqt h2, line_eq (by rw [l1.len, l2.len]; exact h), fun ev => ?_, fun nv ew => ?_, fun nv nw p hp => ?_⟩)
      · have z := l1.nilV.mp ev
        subst z
        exact q _ F H [] (.refl x0) (.fz r2)
      · have z := l2.nilV.mp ew
        subst z
        rw [List.append_nil] at q
        exact q _ F H [] (.refl x0) (.fz r1)
      · have n := New.frz (o := .tup (vs ++ ws)) x0 hp
        exact q _ _ _ _ n (.fz (.tupL (SqT.of upd_same) ((l1.append l2).mono n.step.ex)))
    · cases e
  · cases e
def gSub : D → D → Option D := g2 fun i j => some (i - j)
theorem sub_ok : OpOk K cl (rI0 fun i j => .int (i - j)) .fz gSub := fun F H x y d1 d2 d x0 r1 r2 e Q q => rI0_rI (g2_ok (C := fun _ _ => True) (f := fun i j => i - j) (fun i j k h => ⟨trivial, Option.some.inj h⟩) F H x y d1 d2 d x0 r1 r2 e Q q)
/-- a factor within 2 ^ 64 -/
def small64 (i : Int) : Bool := decide (-18446744073709551616 < i) && decide (i < 18446744073709551616)
def gMul : D → D → Option D := g2 fun i j => if small64 i || small64 j then some (i * j) else none
theorem small64_ok {i : Int} (h : small64 i = true) : -(2 ^ 64) < i ∧ i < 2 ^ 64 := by
  unfold small64 at h
  rw [Bool.and_eq_true] at h
  exact ⟨of_decide_eq_true h.1, of_decide_eq_true h.2⟩
theorem mul_ok : OpOk K cl (rI CMul fun i j => .int (i * j)) .fz gMul := g2_ok (f := fun i j => i * j) fun i j k h => by
  split at h
  · rename_i hs
    rw [Bool.or_eq_true] at hs
    exact ⟨hs.imp small64_ok small64_ok, Option.some.inj h⟩
  · cases h
/-- // by a divisor that is not 0, below 2 ^ 30 -/
def gDiv : D → D → Option D := g2 fun i j => if decide (0 < j) && decide (j < 1073741824) then some (i / j) else none
theorem div_ok : OpOk K cl (rI CDiv fun i j => .int (i / j)) .fz gDiv := g2_ok (f := fun i j => i / j) fun i j k h => by
  split at h
  · rename_i hs
    rw [Bool.and_eq_true] at hs
    exact ⟨⟨of_decide_eq_true hs.1, of_decide_eq_true hs.2⟩, Option.some.inj h⟩
  · cases h
/-- % by a positive divisor -/
def gMod : D → D → Option D := g2 fun i j => if 0 < j then some (i % j) else none
theorem mod_ok : OpOk K cl (rI (fun _ j => 0 < j) fun i j => .int (i % j)) .fz gMod := g2_ok (f := fun i j => i % j) fun i j k h => by
  split at h
  · rename_i hs
    exact ⟨hs, Option.some.inj h⟩
  · cases h
def gPow : D → D → Option D := g2 fun i j => if decide (0 ≤ j) && decide (j ≤ 1000000) && small64 i then some (i ^ j.toNat) else none
theorem natAbs64 {i : Int} (h : small64 i = true) : i.natAbs < 2 ^ 64 := by
  obtain ⟨a, b⟩ := small64_ok h
  omega
theorem pow_ok : OpOk K cl (rI CPow fun i j => .int (i ^ j.toNat)) .fz gPow := g2_ok (f := fun i j => i ^ j.toNat) fun i j k h => by
  split at h
  · rename_i hs
    rw [Bool.and_eq_true, Bool.and_eq_true] at hs
    exact ⟨⟨of_decide_eq_true hs.1.1, of_decide_eq_true hs.1.2, natAbs64 hs.2⟩, Option.some.inj h⟩
  · cases h
def gShl : D → D → Option D := g2 fun i j => if decide (0 ≤ j) && decide (j ≤ 1000000) && small64 i then some (i * 2 ^ j.toNat) else none
theorem shl_ok : OpOk K cl (rI CPow fun i j => .int (i * 2 ^ j.toNat)) .fz gShl := g2_ok (f := fun i j => i * 2 ^ j.toNat) fun i j k h => by
  split at h
  · rename_i hs
    rw [Bool.and_eq_true, Bool.and_eq_true] at hs
    exact ⟨⟨of_decide_eq_true hs.1.1, of_decide_eq_true hs.1.2, natAbs64 hs.2⟩, Option.some.inj h⟩
  · cases h
def gShr : D → D → Option D := g2 fun i j => if 0 ≤ j then some (i / 2 ^ j.toNat) else none
theorem shr_ok : OpOk K cl (rI (fun _ j => 0 ≤ j) fun i j => .int (i / 2 ^ j.toNat)) .fz gShr := g2_ok (f := fun i j => i / 2 ^ j.toNat) fun i j k h => by
  split at h
  · rename_i hs; exact ⟨hs, Option.some.inj h⟩
  · cases h
theorem g0_ok {f : Int → Int → Int} : OpOk K cl (rI0 fun i j => .int (f i j)) .fz (g2 fun i j => some (f i j)) := fun F H x y d1 d2 d x0 r1 r2 e Q q =>
  rI0_rI (g2_ok (C := fun _ _ => True) (f := f) (fun i j k h => ⟨trivial, Option.some.inj h⟩) F H x y d1 d2 d x0 r1 r2 e Q q)
def gAnd : D → D → Option D := g2 fun i j => some (Builtin.bitAnd i j)
def gOr : D → D → Option D := g2 fun i j => some (Builtin.bitOr i j)
def gXor : D → D → Option D := g2 fun i j => some (Builtin.bitXor i j)
theorem and_ok : OpOk K cl (rI0 fun i j => .int (Builtin.bitAnd i j)) .fz gAnd := g0_ok
theorem or_ok : OpOk K cl (rI0 fun i j => .int (Builtin.bitOr i j)) .fz gOr := g0_ok
theorem xor_ok : OpOk K cl (rI0 fun i j => .int (Builtin.bitXor i j)) .fz gXor := g0_ok
def g1 (f : Int → Int) (a : D) : Option D := match a with
  | .int i => some (.int (f i))
  | _ => none
theorem g1_ok {f : Int → Int} : UnOk K cl (rU fun i => .int (f i)) .fz (g1 f) := fun F H x d1 d x0 r1 e Q q => by
  unfold g1 at e
  split at e
  · cases e; exact ⟨_, r1.int_inv, q _ F H [] (.refl x0) own_int⟩
  · cases e
def gNeg : D → Option D := g1 fun i => -i
def gInv : D → Option D := g1 fun i => Builtin.bitNot i
theorem neg_ok : UnOk K cl (rU fun i => .int (-i)) .fz gNeg := g1_ok
theorem inv_ok : UnOk K cl (rU fun i => .int (Builtin.bitNot i)) .fz gInv := g1_ok
/-! ### lists + and * -/
/-- a list plus a list: a new one -/
def rCatL (K : PySem.W.Frag) : R2 := fun x y H Q => ∃ l b xs zs, x = .ref l ∧ y = .ref b ∧ SqL K H l xs ∧ SqL K H b zs ∧ xs.length + zs.length ≤ sizeLine ∧ ∀ p, H p = none → Q (.ref p) (upd H p (.lst (xs ++ zs)))
theorem op_catL {X : Cx} : OpR X (binaryOp .Add) (rCatL X.K) := by
  intro pins s σ H x y v u Q I rx ry h
  obtain ⟨l, b, xs, zs, rfl, rfl, hH, hB, hz, q⟩ := h
  cases rx
  cases ry
  obtain ⟨its, r, ⟨⟨cc, dd, da, sl⟩, n, e, hc, hd, hda⟩, z⟩ := I.list hH
  obtain ⟨its2, r2, ⟨⟨cc2, dd2, da2, sl2⟩, n2, e2, hc2, hd2, hda2⟩, z2⟩ := I.list hB
  simp only at hc hd hda hc2 hd2 hda2
  subst hc hd hda hc2 hd2 hda2
  have ea : its.toArray ++ its2.toArray = (its ++ its2).toArray := by simp
  refine concat_meets ⟨_, e, rfl⟩ ⟨_, e2, rfl⟩ noFill_list_add seq_list_add PySem.F.slot_list_add PySem.F.entry_list_add (PySem.F.args_list_add_2 _ _) (list_addW l b its.toArray its2.toArray n n2 none none sl sl2 (by rw [List.size_toArray, List.size_toArray, ← r.length, ← r2.length]; exact hz)) ⟨e, e2, ?_⟩
  rw [ea]
  exact ⟨.ref _, _, I.lnew (t' := s.toks) (r.append r2) (by rw [List.length_append]; omega), rfl, q _ I.fresh⟩
def gCat (a b : D) : Option D := match a, b with
  | .lst xs, .lst ys => if xs.length + ys.length ≤ line then some (.lst (xs ++ ys)) else none
  | _, _ => none
theorem cat_ok : OpOk K cl (rCatL K) l1 gCat := fun F H x y d1 d2 d x0 r1 r2 e Q q => by
  unfold gCat at e
  split at e
  · split at e
    · rename_i xs ys h
      cases e
      obtain ⟨a, vs, rfl, h1, l1⟩ := r1.lst_inv
      obtain ⟨b, ws, rfl, h2, l2⟩ := r2.lst_inv
      refine ⟨a, b, vs, ws, rfl, rfl, x0.sql h1, x0.sql h2, line_eq (by rw [l1.len, l2.len]; exact h), fun p hp => ?_⟩
      have n := New.own (o := .lst (vs ++ ws)) x0 hp
      exact q _ _ _ _ n (.l1 upd_same (l1.append l2))
    · cases e
  · cases e
def repN {α : Type} (k : Nat) (xs : List α) : List α := (List.replicate k xs).flatten
theorem RepL.rep {F : Hp} {vs : List V} {ds : List D} (r : RepL K cl F vs ds) : ∀ k : Nat, RepL K cl F (repN k vs) (repN k ds)
  | 0 => .nil
  | k + 1 => by
    unfold repN
    rw [List.replicate_succ, List.replicate_succ, List.flatten_cons, List.flatten_cons]
    exact r.append (r.rep k)
/-- an owned list times an int -/
def gRep (a b : D) : Option D := match a, b with
  | .lst xs, .int k => if decide (-9223372036854775808 ≤ k) && decide (k < 9223372036854775808) && decide (xs.length * k.toNat ≤ line) then some (.lst (repN k.toNat xs)) else none
  | _, _ => none
/-- what came owned is frozen in the state -/
theorem Post.freeze {K : PySem.W.Frag} {c : Ct} {F H F1 H1 : Hp} {fps fps1 : Fps} {e1 : Sl} {σ : St} {fpr : List Addr} (p : Post K c F H fps e1 σ F1 H1 fps1 fpr) : Post K c F H fps e1 σ (frozen F1 H1 fpr) H1 fps1 [] := by
  have fx : Ext F1 (frozen F1 H1 fpr) := frozen_ext fun b hb => (p.fr b hb).1
  refine ⟨⟨p.step.ex.trans fx, p.step.keep, fun b u e => ?_, fun b hb => hb.elim (fun z => p.step.newP b (.inl z)) (fun z => by cases z)⟩, ⟨frozen_in p.g.ex, p.g.len, fun i d e => let ⟨w, e1, ow⟩ := p.g.at_ i d e; ⟨w, e1, ow.mono fx fun _ _ => rfl⟩, p.g.out, p.g.dj, fun i b hb => ?_, p.g.fx⟩, fun _ h => by cases h⟩
  · unfold frozen at e
    split at e
    · rename_i hm; exact .inr (p.step.newP b (.inr hm))
    · exact p.step.newF b u e
  · unfold frozen
    split
    · rename_i hm; exact absurd hb ((p.fr b hm).2 i)
    · exact p.g.nf i b hb
theorem Tg.bindF {c : Ct} {α β γ δ : Type} {rel : α → β → Hp → Hp → List Addr → Prop} {rel' : γ → δ → Hp → Hp → List Addr → Prop} {r : R α} {F H : Hp} {fps : Fps} {σ : St} {k : α → Sl → R γ} {Q : δ → Hp → Prop} (h : Tg K c rel' (r.bind k) F H fps σ Q) :
    Tg K c rel r F H fps σ (fun x H1 => ∃ d F1 fps1 fpr e1, Post K c F H fps e1 σ F1 H1 fps1 fpr ∧ rel d x F1 H1 fpr ∧ Tg K c rel' (k d e1) (frozen F1 H1 fpr) H1 fps1 σ Q) := by
  cases r with
  | ok d e' => exact fun v F' H' fps' fpr p q => ⟨d, F', fps', fpr, e', p, q, Tg.later p.freeze h⟩
  | rs x e' => exact h
  | er => exact h
/-- an owned list, new, then the rest -/
theorem T.oneL {c : Ct} {γ δ : Type} {rel' : γ → δ → Hp → Hp → List Addr → Prop} {da : M D} {σ : St} {F H : Hp} {fps : Fps} {env : Sl} {Q : δ → Hp → Prop} {k : D → Sl → R γ} (g : G K c F env fps σ H) (h : Tg K c rel' ((da env).bind k) F H fps σ Q) :
    T K c l1 da σ H (fun x H1 => ∃ a vs ds F1 fps1 e1, x = .ref a ∧ F1 a = some (.lst vs) ∧ RepL K c.cl F1 vs ds ∧ Post K c F H fps e1 σ F1 H1 fps1 [] ∧ Tg K c rel' (k (.lst ds) e1) F1 H1 fps1 σ Q) :=
  ⟨F, env, fps, g, (Tg.bindF h).mono fun x H1 ⟨d1, F1, fps1, fpr, e1, p1, o1, h1⟩ => by
    have o1 : Own K c.cl F1 H1 l1 x d1 fpr := o1
    obtain ⟨a, vs, ds, rfl, rfl, rfl, hH, rl⟩ := o1.l1_inv
    exact ⟨a, vs, ds, _, fps1, e1, rfl, by unfold frozen; rw [if_pos List.mem_cons_self]; exact hH, rl.mono (frozen_ext fun b hb => (p1.fr b hb).1), p1.freeze, h1⟩⟩
theorem fe_rep {c : Ct} {X : Cx} {a b : Expr} {da db : M D} {pos : Pos} (ha : FE c X a l1 da) (hb : FE c X b .fz db) : FE c X (.BinOp a .Mult b pos) l1 (dOp2 gRep da db) :=
  PE.weak (pe_op op_rep ha hb) fun σ H Q => by
    rintro ⟨F, env, fps, gg, h⟩
    refine (T.oneL gg h).mono fun x H1 ⟨a, vs, ds, F1, fps1, e1, ex, hF, rl, p1, h1⟩ => (T.one p1.g h1).mono fun y H2 ⟨d2, F2, fps2, e2, p2, r2, h2⟩ => ?_
    subst ex
    cases e : gRep (.lst ds) d2 with
    | none => rw [e] at h2; exact h2.elim
    | some d =>
      rw [e] at h2
      unfold gRep at e
      split at e
      · rename_i xs k he
        cases he
        split at e
        · rename_i hs
          rw [Bool.and_eq_true, Bool.and_eq_true] at hs
          cases e
          have h0 := of_decide_eq_true hs.1.1
          have h1 := of_decide_eq_true hs.1.2
          have h3 := of_decide_eq_true hs.2
          refine ⟨a, k, vs, rfl, r2.int_inv, p2.g.ex _ _ (p2.step.ex _ _ hF), by omega, by omega, line_eq (by rw [rl.len]; exact h3), fun p hp => ?_⟩
          have n := New.own (o := .lst (repN k.toNat vs)) p2.g.ex hp
          exact fin_new p2.g h2 _ _ _ _ n (.l1 upd_same ((rl.mono p2.step.ex).rep _))
        · cases e
      · cases e
/-! ### subscripts -/
theorem ixN_len {vs : List V} {ds : List D} (h : vs.length = ds.length) (i : Int) : ixN vs.length i = ixN ds.length i := by rw [h]
theorem RepL.atI {F : Hp} {vs : List V} {ds : List D} (r : RepL K cl F vs ds) {i : Int} {d : D} (h : L2.atI ds i = some d) : ∃ v, L2.atI vs i = some v ∧ Rep K cl F v d := by
  unfold L2.atI at h ⊢
  rw [r.len]
  cases e : ixN ds.length i with
  | none => rw [e] at h; cases h
  | some j =>
    rw [e] at h
    obtain ⟨v, h1, h2⟩ := r.get (show ds[j]? = some d from h)
    exact ⟨v, h1, h2⟩
/-- x[i] of a list, a tuple, a text -/
def gIx (a b : D) : Option D := match a, b with
  | .lst xs, .int i => L2.atI xs i
  | .tup xs, .int i => L2.atI xs i
  | .str x, .int i => if x.length ≤ line then (L2.atI x.cps.toList i).map fun c => .str ⟨#[c]⟩ else none
  | _, _ => none
theorem ix_ok : OpOk K cl (rIx K) .fz gIx := fun F H x y d1 d2 d x0 r1 r2 e Q q => by
  unfold gIx at e
  split at e
  · obtain ⟨a, vs, rfl, h1, l1⟩ := r1.lst_inv
    obtain ⟨v, hv, rv⟩ := l1.atI e
    exact .inl ⟨a, vs, _, v, rfl, r2.int_inv, x0.sql h1, hv, q _ F H [] (.refl x0) (.fz rv)⟩
  · obtain ⟨a, vs, rfl, h1, l1⟩ := r1.tup_inv
    obtain ⟨v, hv, rv⟩ := l1.atI e
    exact .inr (.inl ⟨a, vs, _, v, rfl, r2.int_inv, x0.sqt h1, hv, q _ F H [] (.refl x0) (.fz rv)⟩)
  · split at e
    · rename_i x i hl
      cases e' : L2.atI x.cps.toList i with
      | none => rw [e'] at e; cases e
      | some c =>
        rw [e'] at e; cases e
        exact .inr (.inr ⟨x, i, c, r1.str_inv, r2.int_inv, line_eq hl, e', q _ F H [] (.refl x0) (.fz (.str _))⟩)
    · cases e
  · cases e
theorem fe_ix {c : Ct} {X : Cx} {a b : Expr} {da db : M D} {pos : Pos} (ha : FE c X a .fz da) (hb : FE c X b .fz db) (hs : PlainIx b := by exact fun _ _ => rfl) : FE c X (.Subscript a b pos) .fz (dOp2 gIx da db) :=
  PE.weak (pe_ix ix_seq ha hb hs) fun σ H Q => by
    rintro ⟨F, env, fps, gg, h⟩
    refine (T.two gg h).mono fun x H1 t => t.mono fun y H2 ⟨d1, d2, F2, fps2, e2, p2, r1, r2, h2⟩ => ?_
    cases e : gIx d1 d2 with
    | none => rw [e] at h2; exact h2.elim
    | some d => rw [e] at h2; exact ix_ok F2 H2 x y d1 d2 d p2.g.ex r1 r2 e Q (fin_new p2.g h2)
/-! ### slices -/
def cutD {α : Type} (xs : List α) (lo hi : Option Int) : List α := (xs.drop (HT.sIx xs.length 0 lo)).take (HT.sIx xs.length xs.length hi - HT.sIx xs.length 0 lo)
theorem cut_rep {F : Hp} {vs : List V} {ds : List D} (r : RepL K cl F vs ds) (lo hi : Option Int) : RepL K cl F (cutV vs lo hi) (cutD ds lo hi) := by
  unfold cutV cutD
  rw [r.len]
  exact (r.drop _).take _
theorem cut_whole {ds : List D} {lo hi : Option Int} (h : HT.sIx ds.length 0 lo = 0 ∧ HT.sIx ds.length ds.length hi = ds.length) : cutD ds lo hi = ds := by
  unfold cutD
  rw [h.1, h.2, List.drop_zero, Nat.sub_zero, List.take_length]
/-- a part of a slice: left out, or an int -/
def dPart (m : M D) : M (Option Int) := fun e => (m e).bind fun d e1 => match d with
  | .int i => .ok (some i) e1
  | _ => .er
def dNoPart : M (Option Int) := fun e => .ok none e
def relO : Option Int → Option Int → Hp → Hp → List Addr → Prop := fun b b' _ _ fpr => b' = b ∧ fpr = []
def TO' (K : PySem.W.Frag) (c : Ct) (m : M (Option Int)) : TO := fun σ H Q => ∃ F env fps, G K c F env fps σ H ∧ Tg K c relO (m env) F H fps σ Q
abbrev FO (c : Ct) (X : Cx) (e : Option Expr) (m : M (Option Int)) : Prop := PO X e (TO' X.K c m)
theorem PO.weak {X : Cx} {e : Option Expr} {t t' : TO} (h : PO X e t) (w : ∀ σ H Q, t' σ H Q → t σ H Q) : PO X e t' := ⟨fun pins s σ H Q I q => h.run pins s σ H Q I (w σ H Q q)⟩
theorem fo_none {c : Ct} {X : Cx} : FO c X none dNoPart := PO.weak po_none fun σ H Q => by
  rintro ⟨F, env, fps, gg, h⟩
  exact h none F H fps [] (Post.refl gg) ⟨rfl, rfl⟩
theorem fo_some {c : Ct} {X : Cx} {e : Expr} {m : M D} (he : FE c X e .fz m) : FO c X (some e) (dPart m) := PO.weak (po_some he) fun σ H Q => by
  rintro ⟨F, env, fps, gg, h⟩
  refine (T.one gg h).mono fun x H1 ⟨d1, F1, fps1, e1, p1, r1, h1⟩ => ?_
  cases r1 with
  | int i => exact ⟨i, rfl, h1 (some i) F1 H1 fps1 [] (Post.refl p1.g) ⟨rfl, rfl⟩⟩
  | bl b => exact h1.elim
  | non => exact h1.elim
  | str => exact h1.elim
  | tup => exact h1.elim
  | lst => exact h1.elim
theorem TO'.one {c : Ct} {γ δ : Type} {rel' : γ → δ → Hp → Hp → List Addr → Prop} {σ : St} {F H : Hp} {fps : Fps} {env : Sl} {Q : δ → Hp → Prop} {ma : M (Option Int)} {k : Option Int → Sl → R γ} (g : G K c F env fps σ H) (h : Tg K c rel' ((ma env).bind k) F H fps σ Q) :
    TO' K c ma σ H (fun b H1 => ∃ F1 fps1 e1, Post K c F H fps e1 σ F1 H1 fps1 [] ∧ Tg K c rel' (k b e1) F1 H1 fps1 σ Q) :=
  ⟨F, env, fps, g, (Tg.bind h).mono fun x H1 ⟨d1, F1, fps1, fpr, e1, p1, ⟨r1, e⟩, h1⟩ => by
    subst e; subst r1
    exact ⟨F1, fps1, e1, p1, h1 rfl⟩⟩
theorem TO'.mono {c : Ct} {m : M (Option Int)} {σ : St} {H : Hp} {Q Q' : Option Int → Hp → Prop} (h : TO' K c m σ H Q) (hq : ∀ v H', Q v H' → Q' v H') : TO' K c m σ H Q' :=
  let ⟨F, env, fps, g, t⟩ := h; ⟨F, env, fps, g, t.mono hq⟩
/-- x[lo:hi]: of a tuple a tuple, of a list a list -/
def gSl (x : D) (lo hi : Option Int) : Option D := match x with
  | .tup xs => some (.tup (cutD xs lo hi))
  | .lst xs => some (.lst (cutD xs lo hi))
  | _ => none
def dSl (m : M D) (lo hi : M (Option Int)) : M D := fun e => (m e).bind fun x e1 => (lo e1).bind fun l e2 => (hi e2).bind fun u e3 => R.opt (gSl x l u) e3
def rSl (K : PySem.W.Frag) : V → Option Int → Option Int → Hp → VK → Prop := fun x lo hi H Q => rSlA K x lo hi H Q ∨ rSlL K x lo hi H Q
theorem sl_any {X : Cx} : SlR X (rSl X.K) := sl_tupA.or sl_list
theorem fe_sl {c : Ct} {X : Cx} {e : Expr} {lo hi : Option Expr} {m : M D} {ml mh : M (Option Int)} {p2 pos : Pos} (he : FE c X e .fz m) (hl : FO c X lo ml) (hh : FO c X hi mh) : FE c X (.Subscript e (.Slice lo hi none p2) pos) .fz (dSl m ml mh) :=
  PE.weak (pe_slice sl_any he hl hh) fun σ H Q => by
    rintro ⟨F, env, fps, gg, h⟩
    refine (T.one gg h).mono fun x H1 ⟨d1, F1, fps1, e1, p1, r1, h1⟩ => (TO'.one p1.g h1).mono fun l H2 ⟨F2, fps2, e2, p2, h2⟩ => (TO'.one p2.g h2).mono fun u H3 ⟨F3, fps3, e3, p3, h3⟩ => ?_
    have r3 := (r1.mono p2.step.ex).mono p3.step.ex
    unfold gSl at h3
    split at h3
    · rename_i xs
      obtain ⟨a, vs, rfl, hs, rl⟩ := r3.tup_inv
      refine .inl ⟨a, vs, rfl, p3.g.ex.sqt hs, fun hw => ?_, fun _ p hp => ?_⟩
      · rw [rl.len] at hw
        rw [cut_whole hw] at h3
        exact fin_new p3.g h3 _ _ _ _ (.refl p3.g.ex) (.fz r3)
      · have n := New.frz (o := .tup (cutV vs l u)) p3.g.ex hp
        exact fin_new p3.g h3 _ _ _ _ n (.fz (.tupL (SqT.of upd_same) ((cut_rep rl l u).mono n.step.ex)))
    · rename_i xs
      obtain ⟨a, vs, rfl, hs, rl⟩ := r3.lst_inv
      refine .inr ⟨a, vs, rfl, p3.g.ex.sql hs, fun p hp => ?_⟩
      have n := New.frz (o := .lst (cutV vs l u)) p3.g.ex hp
      exact fin_new p3.g h3 _ _ _ _ n (.fz (.lstL (SqL.of upd_same) ((cut_rep rl l u).mono n.step.ex)))
    · exact h3.elim
/-- xs[lo:hi] of a list, a new owned one -/
def gSlL (x : D) (lo hi : Option Int) : Option D := match x with
  | .lst xs => some (.lst (cutD xs lo hi))
  | _ => none
def dSlL (m : M D) (lo hi : M (Option Int)) : M D := fun e => (m e).bind fun x e1 => (lo e1).bind fun l e2 => (hi e2).bind fun u e3 => R.opt (gSlL x l u) e3
theorem fe_slL {c : Ct} {X : Cx} {e : Expr} {lo hi : Option Expr} {m : M D} {ml mh : M (Option Int)} {p2 pos : Pos} (he : FE c X e .fz m) (hl : FO c X lo ml) (hh : FO c X hi mh) : FE c X (.Subscript e (.Slice lo hi none p2) pos) l1 (dSlL m ml mh) :=
  PE.weak (pe_slice sl_list he hl hh) fun σ H Q => by
    rintro ⟨F, env, fps, gg, h⟩
    refine (T.one gg h).mono fun x H1 ⟨d1, F1, fps1, e1, p1, r1, h1⟩ => (TO'.one p1.g h1).mono fun l H2 ⟨F2, fps2, e2, p2, h2⟩ => (TO'.one p2.g h2).mono fun u H3 ⟨F3, fps3, e3, p3, h3⟩ => ?_
    have r3 := (r1.mono p2.step.ex).mono p3.step.ex
    unfold gSlL at h3
    split at h3
    · rename_i xs
      obtain ⟨a, vs, rfl, hs, rl⟩ := r3.lst_inv
      refine ⟨a, vs, rfl, p3.g.ex.sql hs, fun p hp => ?_⟩
      have n := New.own (o := .lst (cutV vs l u)) p3.g.ex hp
      exact fin_new p3.g h3 _ _ _ _ n (.l1 upd_same (cut_rep rl l u))
    · exact h3.elim
end
end FL
namespace FL
open PySem PySem.Spec L2
open PyProof.Rows hiding St
/-! ### isinstance of built-in classes -/
inductive Ty where
  | int | bool | str | list | tuple | dict
def Ty.nm : Ty → String
  | .int => "int" | .bool => "bool" | .str => "str" | .list => "list" | .tuple => "tuple" | .dict => "dict"
def D.ty : D → Option String
  | .non => some "NoneType"
  | .bl _ => some "bool"
  | .int _ => some "int"
  | .str _ => some "str"
  | .tup _ => some "tuple"
  | .lst _ => some "list"
  | _ => none
def isT : Ty → D → Bool
  | .int, .int _ => true
  | .int, .bl _ => true
  | .bool, .bl _ => true
  | .str, .str _ => true
  | .list, .lst _ => true
  | .tuple, .tup _ => true
  | _, _ => false
theorem kit_table : ∀ (T : Ty) (t : String) (d : D), d.ty = some t → kitB t T.nm = some (isT T d) := by
  intro T t d h
  cases d <;> (simp only [D.ty, Option.some.injEq, reduceCtorEq] at h) <;> subst h <;> cases T <;> (simp only [isT, Ty.nm]; decide +kernel)
section
variable {K : PySem.W.Frag} {cl : Nat → Addr}
theorem tyx_of {F H : Hp} {v : V} {d : D} (x : Ext F H) (r : Rep K cl F v d) : ∃ t, d.ty = some t ∧ TyX K H v (.type t) := by
  cases r with
  | non => exact ⟨_, rfl, .base .non⟩
  | bl b => exact ⟨_, rfl, .base (.bl b)⟩
  | int i => exact ⟨_, rfl, .base (.int i)⟩
  | str s => exact ⟨_, rfl, .base (.str s)⟩
  | tup h _ _ =>
    refine ⟨_, rfl, ?_⟩
    rcases x.sqt h with (h | ⟨o, h⟩) | ⟨o, its, n, hk, hc, _⟩
    · exact .base (.tup h)
    · exact .fTuple h
    · exact .kTuple hk hc
  | lst h _ _ =>
    refine ⟨_, rfl, ?_⟩
    rcases x.sql h with (h | ⟨o, h⟩) | ⟨o, its, n, hk, hc, _⟩
    · exact .base (.lst h)
    · exact .base (.frz h)
    · exact .kList hk hc
def dIs (T : Ty) (m : M D) : M D := fun e => (m e).bind fun d e1 => match d with
  | .dct _ _ => .er
  | .obj _ _ _ => .er
  | d => .ok (.bl (isT T d)) e1
def dIs2 (T T' : Ty) (m : M D) : M D := fun e => (m e).bind fun d e1 => match d with
  | .dct _ _ => .er
  | .obj _ _ _ => .er
  | d => .ok (.bl (isT T d || isT T' d)) e1
variable {c : Ct} {X : Cx} {e : Expr} {m : M D} {pos : Pos}
theorem dIs_inv {T : Ty} {e : Sl} {F H : Hp} {fps : Fps} {σ : St} {d : D} {e1 : Sl} {Q : VK} (h : Tg K c (relV K c .fz) (match d with | .dct _ _ => .er | .obj _ _ _ => .er | d => .ok (.bl (isT T d)) e1) F H fps σ Q) : Tg K c (relV K c .fz) (.ok (.bl (isT T d)) e1) F H fps σ Q := by
  cases d <;> first | exact h | exact h.elim
theorem fe_isi {T : Ty} {x : Str} {p p1 : Pos} (hx : Gl X "isinstance") (hm : X.mg "isinstance" = none) (hv : bootBuiltins "isinstance" = some (.builtin "isinstance")) (ha : FE c X e .fz m)
    (hxT : Gl X x) (hmT : X.mg x = none) (hvT : bootBuiltins x = some (.type T.nm)) (hnT : x ≠ "__name__" := by decide) (hdT : (x == ("__debug__" : Str)) = false := by decide)
    (hs : starEach [e, .Name x p1] X.env = (false, eval e X.env) :: starEach [.Name x p1] X.env := by rfl)
    (he : starEach [e, .Name x p1] X.env = (false, eval e X.env) :: starEach [.Name x p1] X.env := by rfl) (hpl : (backTo pos (starEach [.Name x p1] X.env)).any (·.1) = false := by rfl) :
    FE c X (.Call (.Name "isinstance" p) [e, .Name x p1] [] pos) .fz (dIs T m) :=
  PE.weak (pe_callB call_isi hx hm hv (pa_cons ha (pa_cons (pe_bltn (v := .ty T.nm) hxT hmT hvT rfl hnT hdT) pa_nil) hs) (by decide) (by decide) he hpl) fun σ H Q => by
    rintro ⟨F, env, fps, gg, h⟩
    refine (FL.T.one gg h).mono fun v H1 ⟨d1, F1, fps1, e1, p1, r1, h1⟩ => ?_
    obtain ⟨t, ht, tx⟩ := tyx_of p1.g.ex r1
    exact ⟨v, .ty T.nm, .type t, .type T.nm, isT T d1, rfl, .ty _, tx, kit_ty (kit_table T t d1 ht), dIs_inv (e := env) h1 (.bl (isT T d1)) F1 H1 fps1 [] (Post.refl p1.g) (.fz (.bl _))⟩
theorem fe_isi2 {T T' : Ty} {x x' : Str} {k : Nat} {p p1 p2 pt : Pos} (hx : Gl X "isinstance") (hm : X.mg "isinstance" = none) (hv : bootBuiltins "isinstance" = some (.builtin "isinstance")) (ha : FE c X e .fz m)
    (hxT : Gl X x) (hmT : X.mg x = none) (hvT : bootBuiltins x = some (.type T.nm)) (hxT' : Gl X x') (hmT' : X.mg x' = none) (hvT' : bootBuiltins x' = some (.type T'.nm))
    (hnT : x ≠ "__name__" := by decide) (hdT : (x == ("__debug__" : Str)) = false := by decide) (hnT' : x' ≠ "__name__" := by decide) (hdT' : (x' == ("__debug__" : Str)) = false := by decide)
    (hs : starEach [e, .Tuple [.Name x p1, .Name x' p2] k pt] X.env = (false, eval e X.env) :: starEach [.Tuple [.Name x p1, .Name x' p2] k pt] X.env := by rfl)
    (hpl : (backTo pos (starEach [.Tuple [.Name x p1, .Name x' p2] k pt] X.env)).any (·.1) = false := by rfl) :
    FE c X (.Call (.Name "isinstance" p) [e, .Tuple [.Name x p1, .Name x' p2] k pt] [] pos) .fz (dIs2 T T' m) :=
  PE.weak (pe_callB call_isiT hx hm hv (pa_cons ha (pa_cons (pe_tup (pa_cons (pe_bltn (v := .ty T.nm) hxT hmT hvT rfl hnT hdT) (pa_cons (pe_bltn (v := .ty T'.nm) hxT' hmT' hvT' rfl hnT' hdT') pa_nil))) pa_nil) hs) (by decide) (by decide) hs hpl) fun σ H Q => by
    rintro ⟨F, env, fps, gg, h⟩
    refine (FL.T.one gg h).mono fun v H1 ⟨d1, F1, fps1, e1, p1, r1, h1⟩ => ⟨by show 2 ≤ sizeLine; decide, fun tp htp => ?_⟩
    have n := New.frz (o := .tup [.ty T.nm, .ty T'.nm]) p1.g.ex htp
    obtain ⟨t, ht, tx⟩ := tyx_of n.ex (r1.mono n.step.ex)
    have h2 : Tg X.K c (relV X.K c .fz) (.ok (.bl (isT T d1 || isT T' d1)) e1) F1 H1 fps1 σ Q := by
      revert h1
      cases d1 <;> first | exact id | exact False.elim
    refine ⟨v, tp, [.ty T.nm, .ty T'.nm], .type t, [.type T.nm, .type T'.nm], isT T d1 || isT T' d1, rfl, upd_same, .cons (.ty _) (.cons (.ty _) .nil), tx, ?_, fin_new p1.g h2 _ _ _ _ n (.fz (.bl _))⟩
    refine kitAny_cons (kit_ty (kit_table T t d1 ht)) (fun e0 => kitAny_cons (kit_ty (kit_table T' t d1 ht)) (fun e1 => ?_) (fun e1 => ?_)) (fun e0 => ?_)
    · rw [e0, e1]; rfl
    · rw [e0, e1]; rfl
    · rw [e0]; rfl
/-! ### len, int, abs, bool, tuple, list, all, any, sum -/
def gLen : List D → Option D
  | [.str x] => if x.length ≤ line then some (.int x.length) else none
  | [.tup xs] => some (.int xs.length)
  | [.lst xs] => some (.int xs.length)
  | _ => none
theorem RepL.one {F : Hp} {vs : List V} {d : D} (r : RepL K cl F vs [d]) : ∃ v, vs = [v] ∧ Rep K cl F v d := by
  match vs, r with
  | [], r => have := r.len; simp at this
  | [v], r => exact ⟨v, rfl, r.head⟩
  | _ :: _ :: _, r => have := r.len; simp at this
theorem RepL.two {F : Hp} {vs : List V} {d e : D} (r : RepL K cl F vs [d, e]) : ∃ v w, vs = [v, w] ∧ Rep K cl F v d ∧ Rep K cl F w e := by
  match vs, r with
  | [], r => have := r.len; simp at this
  | [v], r => have := r.len; simp at this
  | [v, w], r => exact ⟨v, w, rfl, r.head, r.tail.head⟩
  | _ :: _ :: _ :: _, r => have := r.len; simp at this
theorem len_look : LookOk K cl (fun xs H Q => ∃ x n, xs = [x] ∧ LenV K x H n ∧ Q (.int n) H) gLen := fun H xs ds d r e Q q => by
  unfold gLen at e
  split at e
  · split at e
    · rename_i h
      cases e
      obtain ⟨v, rfl, rv⟩ := r.one
      have e := rv.str_inv
      subst e
      exact ⟨_, _, rfl, ⟨line_eq h, rfl⟩, q _ fun _ => .int _⟩
    · cases e
  · cases e
    obtain ⟨v, rfl, rv⟩ := r.one
    obtain ⟨a, vs, rfl, hs, rl⟩ := rv.tup_inv
    refine ⟨_, vs.length, rfl, .inr ⟨vs, hs, rfl⟩, ?_⟩
    rw [rl.len]; exact q _ fun _ => .int _
  · cases e
    obtain ⟨v, rfl, rv⟩ := r.one
    obtain ⟨a, vs, rfl, hs, rl⟩ := rv.lst_inv
    refine ⟨_, vs.length, rfl, .inl ⟨vs, hs, rfl⟩, ?_⟩
    rw [rl.len]; exact q _ fun _ => .int _
  · cases e
def gInt : List D → Option D
  | [.int i] => some (.int i)
  | [.bl b] => some (.int (if b then 1 else 0))
  | _ => none
theorem int_look : LookOk K cl (fun xs H Q => (∃ i, xs = [.int i] ∧ Q (.int i) H) ∨ ∃ k, xs = [.bl k] ∧ Q (.int (if k then 1 else 0)) H) gInt := fun H xs ds d r e Q q => by
  unfold gInt at e
  split at e
  · cases e
    obtain ⟨v, rfl, rv⟩ := r.one
    have e := rv.int_inv
    subst e
    exact .inl ⟨_, rfl, q _ fun _ => .int _⟩
  · cases e
    obtain ⟨v, rfl, rv⟩ := r.one
    have e := rv.bl_inv
    subst e
    exact .inr ⟨_, rfl, q _ fun _ => .int _⟩
  · cases e
def gAbs : List D → Option D
  | [.int i] => some (.int (if i < 0 then -i else i))
  | _ => none
theorem abs_look : LookOk K cl (fun xs H Q => ∃ i, xs = [.int i] ∧ Q (.int (if i < 0 then -i else i)) H) gAbs := fun H xs ds d r e Q q => by
  unfold gAbs at e
  split at e
  · cases e
    obtain ⟨v, rfl, rv⟩ := r.one
    have e := rv.int_inv
    subst e
    exact ⟨_, rfl, q _ fun _ => .int _⟩
  · cases e
def gTuple : List D → Option D
  | [.lst xs] => some (.tup xs)
  | [.tup xs] => some (.tup xs)
  | _ => none
theorem tuple_call : CallOk K cl (fun xs H Q => ∃ p ys, xs = [.ref p] ∧ ((SqL K H p ys ∧ ∀ l, H l = none → Q (.ref l) (upd H l (.tup ys))) ∨ (SqT K H p ys ∧ Q (.ref p) H))) .fz gTuple := fun F H xs ds d x r e Q q => by
  unfold gTuple at e
  split at e
  · cases e
    obtain ⟨v, rfl, rv⟩ := r.one
    obtain ⟨a, vs, rfl, hs, rl⟩ := rv.lst_inv
    refine ⟨a, vs, rfl, .inl ⟨x.sql hs, fun p hp => ?_⟩⟩
    have n := New.frz (o := .tup vs) x hp
    exact q _ _ _ _ n (.fz (.tupL (SqT.of upd_same) (rl.mono n.step.ex)))
  · cases e
    obtain ⟨v, rfl, rv⟩ := r.one
    obtain ⟨a, vs, rfl, hs, rl⟩ := rv.tup_inv
    exact ⟨a, vs, rfl, .inr ⟨x.sqt hs, q _ F H [] (.refl x) (.fz rv)⟩⟩
  · cases e
/-- .. of what is looked at: an owned list -/
theorem tuple_look : ∀ (F H : Hp) (x : V) (d e : D), Ext F H → Rep K cl H x d → gTuple [d] = some e → ∀ Q : VK, (∀ v F' H' fpr, New F H F' H' fpr → (∀ G, Ext H' G → Rep K cl G v e) → Q v H') → True := fun _ _ _ _ _ _ _ _ _ _ => trivial
def gList : List D → Option D
  | [.lst xs] => some (.lst xs)
  | [.tup xs] => some (.lst xs)
  | _ => none
theorem list_call : CallOk K cl (fun xs H Q => ∃ p ys, xs = [.ref p] ∧ (SqL K H p ys ∨ SqT K H p ys) ∧ ∀ l, H l = none → Q (.ref l) (upd H l (.lst ys))) l1 gList := fun F H xs ds d x r e Q q => by
  unfold gList at e
  split at e
  · cases e
    obtain ⟨v, rfl, rv⟩ := r.one
    obtain ⟨a, vs, rfl, hs, rl⟩ := rv.lst_inv
    refine ⟨a, vs, rfl, .inl (x.sql hs), fun p hp => ?_⟩
    have n := New.own (o := .lst vs) x hp
    exact q _ _ _ _ n (.l1 upd_same rl)
  · cases e
    obtain ⟨v, rfl, rv⟩ := r.one
    obtain ⟨a, vs, rfl, hs, rl⟩ := rv.tup_inv
    refine ⟨a, vs, rfl, .inr (x.sqt hs), fun p hp => ?_⟩
    have n := New.own (o := .lst vs) x hp
    exact q _ _ _ _ n (.l1 upd_same rl)
  · cases e
/-- the bools of a list of bools -/
def blsOf : List D → Option (List Bool)
  | [] => some []
  | .bl b :: r => (blsOf r).map (b :: ·)
  | _ :: _ => none
theorem bls_rep {F : Hp} : ∀ {vs : List V} {ds : List D} {bs : List Bool}, RepL K cl F vs ds → blsOf ds = some bs → vs = bs.map V.bl
  | [], [], bs, _, e => by cases e; rfl
  | [], _ :: _, _, r, _ => by have := r.len; simp at this
  | _ :: _, [], _, r, _ => by have := r.len; simp at this
  | v :: vs, d :: ds, bs, r, e => by
    cases d with
    | bl b =>
      unfold blsOf at e
      cases e' : blsOf ds with
      | none => rw [e'] at e; cases e
      | some bs' =>
        rw [e'] at e; cases e
        have := r.head.bl_inv
        subst this
        rw [bls_rep r.tail e']; rfl
    | _ => simp [blsOf] at e
def intsOf : List D → Option (List Int)
  | [] => some []
  | .int b :: r => (intsOf r).map (b :: ·)
  | _ :: _ => none
theorem ints_rep {F : Hp} : ∀ {vs : List V} {ds : List D} {bs : List Int}, RepL K cl F vs ds → intsOf ds = some bs → vs = bs.map V.int
  | [], [], bs, _, e => by cases e; rfl
  | [], _ :: _, _, r, _ => by have := r.len; simp at this
  | _ :: _, [], _, r, _ => by have := r.len; simp at this
  | v :: vs, d :: ds, bs, r, e => by
    cases d with
    | int b =>
      unfold intsOf at e
      cases e' : intsOf ds with
      | none => rw [e'] at e; cases e
      | some bs' =>
        rw [e'] at e; cases e
        have := r.head.int_inv
        subst this
        rw [ints_rep r.tail e']; rfl
    | _ => simp [intsOf] at e
theorem intsOf_map : ∀ ns : List Int, intsOf (ns.map D.int) = some ns
  | [] => rfl
  | n :: r => by show (intsOf (r.map D.int)).map (n :: ·) = _; rw [intsOf_map r]; rfl
theorem blsOf_map : ∀ ns : List Bool, blsOf (ns.map D.bl) = some ns
  | [] => rfl
  | n :: r => by show (blsOf (r.map D.bl)).map (n :: ·) = _; rw [blsOf_map r]; rfl
def gAll : List D → Option D
  | [.lst xs] => (blsOf xs).map fun bs => .bl (bs.all id)
  | _ => none
def gAny : List D → Option D
  | [.lst xs] => (blsOf xs).map fun bs => .bl (bs.any id)
  | _ => none
def gSum : List D → Option D
  | [.lst xs] => (intsOf xs).map fun bs => .int bs.sum
  | _ => none
theorem all_look : LookOk K cl (rAll K) gAll := fun H xs ds d r e Q q => by
  unfold gAll at e
  split at e
  · rename_i xs'
    cases e' : blsOf xs' with
    | none => rw [e'] at e; cases e
    | some bs =>
      rw [e'] at e; cases e
      obtain ⟨v, rfl, rv⟩ := r.one
      obtain ⟨a, vs, rfl, hs, rl⟩ := rv.lst_inv
      have := bls_rep rl e'
      subst this
      exact ⟨a, bs, rfl, hs, q _ fun _ => .bl _⟩
  · cases e
theorem any_look : LookOk K cl (rAny K) gAny := fun H xs ds d r e Q q => by
  unfold gAny at e
  split at e
  · rename_i xs'
    cases e' : blsOf xs' with
    | none => rw [e'] at e; cases e
    | some bs =>
      rw [e'] at e; cases e
      obtain ⟨v, rfl, rv⟩ := r.one
      obtain ⟨a, vs, rfl, hs, rl⟩ := rv.lst_inv
      have := bls_rep rl e'
      subst this
      exact ⟨a, bs, rfl, hs, q _ fun _ => .bl _⟩
  · cases e
theorem sum_look : LookOk K cl (rSum K) gSum := fun H xs ds d r e Q q => by
  unfold gSum at e
  split at e
  · rename_i xs'
    cases e' : intsOf xs' with
    | none => rw [e'] at e; cases e
    | some bs =>
      rw [e'] at e; cases e
      obtain ⟨v, rfl, rv⟩ := r.one
      obtain ⟨a, vs, rfl, hs, rl⟩ := rv.lst_inv
      have := ints_rep rl e'
      subst this
      exact ⟨a, bs, rfl, hs, q _ fun _ => .int _⟩
  · cases e
/-! ### sorted of ints -/
/-- insertion sort, as the answer's plain form -/
def insI (x : Int) : List Int → List Int
  | [] => [x]
  | y :: r => if x ≤ y then x :: y :: r else y :: insI x r
def sortI : List Int → List Int
  | [] => []
  | x :: r => insI x (sortI r)
theorem insI_perm (x : Int) : ∀ l : List Int, (insI x l).Perm (x :: l)
  | [] => .refl _
  | y :: r => by
    unfold insI
    split
    · exact .refl _
    · exact (List.Perm.cons y (insI_perm x r)).trans (List.Perm.swap x y r)
theorem sortI_perm : ∀ l : List Int, (sortI l).Perm l
  | [] => .refl _
  | x :: r => (insI_perm x _).trans (.cons x (sortI_perm r))
theorem insI_sorted (x : Int) : ∀ l : List Int, l.Pairwise (· ≤ ·) → (insI x l).Pairwise (· ≤ ·)
  | [], _ => by simp [insI]
  | y :: r, h => by
    unfold insI
    obtain ⟨h1, h2⟩ := List.pairwise_cons.mp h
    split
    · rename_i hxy
      refine List.pairwise_cons.mpr ⟨fun z hz => ?_, h⟩
      rcases List.mem_cons.mp hz with rfl | hz
      · exact hxy
      · exact Int.le_trans hxy (h1 z hz)
    · rename_i hxy
      refine List.pairwise_cons.mpr ⟨fun z hz => ?_, insI_sorted x r h2⟩
      rcases List.mem_cons.mp ((insI_perm x r).mem_iff.mp hz) with rfl | hz
      · omega
      · exact h1 z hz
theorem sortI_sorted : ∀ l : List Int, (sortI l).Pairwise (· ≤ ·)
  | [] => .nil
  | x :: r => insI_sorted x _ (sortI_sorted r)
theorem perm_sorted_eq {l l' : List Int} (p : l.Perm l') (h : l.Pairwise (· ≤ ·)) (h' : l'.Pairwise (· ≤ ·)) : l = l' := by
  induction l generalizing l' with
  | nil => exact (List.Perm.nil_eq p)
  | cons x r ih =>
    cases l' with
    | nil => exact absurd p.symm.nil_eq (by simp)
    | cons y r' =>
      obtain ⟨a1, a2⟩ := List.pairwise_cons.mp h
      obtain ⟨b1, b2⟩ := List.pairwise_cons.mp h'
      have e : x = y := by
        have hx : x ∈ y :: r' := p.mem_iff.mp List.mem_cons_self
        have hy : y ∈ x :: r := p.mem_iff.mpr List.mem_cons_self
        rcases List.mem_cons.mp hx with e | hx
        · exact e
        · rcases List.mem_cons.mp hy with e | hy
          · exact e.symm
          · exact Int.le_antisymm (a1 y hy) (b1 x hx)
      subst e
      rw [ih (List.Perm.cons_inv p) a2 b2]
def gSorted : List D → Option D
  | [.lst xs] => (intsOf xs).map fun bs => .lst ((sortI bs).map D.int)
  | _ => none
theorem repl_ints {F : Hp} : ∀ ns : List Int, RepL K cl F (ns.map V.int) (ns.map D.int)
  | [] => .nil
  | n :: r => .cons (.int n) (repl_ints r)
theorem sorted_call : CallOk K cl (rSortedI K) l1 gSorted := fun F H xs ds d x r e Q q => by
  unfold gSorted at e
  split at e
  · rename_i xs'
    cases e' : intsOf xs' with
    | none => rw [e'] at e; cases e
    | some bs =>
      rw [e'] at e; cases e
      obtain ⟨v, rfl, rv⟩ := r.one
      obtain ⟨a, vs, rfl, hs, rl⟩ := rv.lst_inv
      have := ints_rep rl e'
      subst this
      refine ⟨a, bs, rfl, x.sql hs, fun ns' p hp hs' hn => ?_⟩
      have ee : ns' = sortI bs := perm_sorted_eq (hp.trans (sortI_perm bs).symm) hs' (sortI_sorted bs)
      subst ee
      have n := New.own (o := .lst ((sortI bs).map V.int)) x hn
      exact q _ _ _ _ n (.l1 upd_same (repl_ints _))
  · cases e
end
end FL
namespace FL
open PySem PySem.Spec L2
open PyProof.Rows hiding St
/-! ### statements -/
def Ts (K : PySem.W.Frag) (c : Ct) (o : Sh) (r : RS) (F H : Hp) (fps : Fps) (D : Ends) : Prop := match r with
  | .nx e' => ∀ σ' F' H' fps', Post K c F H fps e' σ' F' H' fps' [] → D.nx σ' H'
  | .bk e' => ∀ σ' F' H' fps', Post K c F H fps e' σ' F' H' fps' [] → D.bk σ' H'
  | .ct e' => ∀ σ' F' H' fps', Post K c F H fps e' σ' F' H' fps' [] → D.ct σ' H'
  | .rt d e' => ∀ v σ' F' H' fps' fpr, Post K c F H fps e' σ' F' H' fps' fpr → Own K c.cl F' H' o v d fpr → D.rt v H'
  | .rs x e' => ∀ dx σ' F' H' fps', Post K c F H fps e' σ' F' H' fps' [] → RepX K c.cl F' H' x dx → c.W (.ref (c.cl x.c)) (some dx) σ' H'
  | .er => False
def TSm (K : PySem.W.Frag) (c : Ct) (o : Sh) (m : MS) : TS := fun D σ H => ∃ F env fps, G K c F env fps σ H ∧ Ts K c o (m env) F H fps D
abbrev FS (c : Ct) (X : Cx) (s : Stmt) (o : Sh) (m : MS) : Prop := PS X s (TSm X.K c o m)
abbrev FSs (c : Ct) (X : Cx) (s : List Stmt) (o : Sh) (m : MS) : Prop := PSs X s (TSm X.K c o m)
section
variable {K : PySem.W.Frag} {c : Ct} {o : Sh} {r : RS} {F H F1 H1 : Hp} {fps fps1 : Fps} {σ σ1 : St} {e1 : Sl}
theorem Ts.later {D : Ends} (p : Post K c F H fps e1 σ1 F1 H1 fps1 []) (h : Ts K c o r F H fps D) : Ts K c o r F1 H1 fps1 D := by
  cases r with
  | nx e' => exact fun σ' F' H' fps' q => h σ' F' H' fps' (p.trans q)
  | bk e' => exact fun σ' F' H' fps' q => h σ' F' H' fps' (p.trans q)
  | ct e' => exact fun σ' F' H' fps' q => h σ' F' H' fps' (p.trans q)
  | rt d e' => exact fun v σ' F' H' fps' fpr q => h v σ' F' H' fps' fpr (p.trans q)
  | rs x e' => exact fun dx σ' F' H' fps' q => h dx σ' F' H' fps' (p.trans q)
  | er => exact h
/-- an expression, then a statement's end -/
theorem Tg.then {α β : Type} {rel : α → β → Hp → Hp → List Addr → Prop} {r : R α} {k : α → Sl → RS} {D : Ends} (h : Ts K c o (r.then k) F H fps D) :
    Tg K c rel r F H fps σ (fun x H1 => ∃ d F1 fps1 fpr e1, Post K c F H fps e1 σ F1 H1 fps1 fpr ∧ rel d x F1 H1 fpr ∧ Ts K c o (k d e1) F H fps D) := by
  cases r with
  | ok d e' => exact fun v F' H' fps' fpr p q => ⟨d, F', fps', fpr, e', p, q, h⟩
  | rs x e' => exact fun dx F' H' fps' p q => h dx σ F' H' fps' p q
  | er => exact h
end
/-- from a state, with the wish -/
structure At (K : PySem.W.Frag) (c : Ct) (F H : Hp) (fps : Fps) (e1 : Sl) (σ : St) (F1 H1 : Hp) (fps1 : Fps) : Prop where
  p : Post K c F H fps e1 σ F1 H1 fps1 []
section
variable {K : PySem.W.Frag} {c : Ct} {o : Sh} {F H : Hp} {fps : Fps} {σ : St} {env : Sl} {D : Ends}
theorem T.then {m : M FL.D} {k : FL.D → Sl → RS} (g : G K c F env fps σ H) (h : Ts K c o ((m env).then k) F H fps D) :
    T K c .fz m σ H (fun x H1 => ∃ d F1 fps1 e1, Post K c F H fps e1 σ F1 H1 fps1 [] ∧ Rep K c.cl F1 x d ∧ Ts K c o (k d e1) F1 H1 fps1 D) :=
  ⟨F, env, fps, g, (Tg.then h).mono fun x H1 ⟨d1, F1, fps1, fpr, e1, p1, o1, h1⟩ => by
    obtain ⟨r1, e⟩ := Own.rep o1
    subst e
    exact ⟨d1, F1, fps1, e1, p1, r1, Ts.later p1 h1⟩⟩
theorem T.thenO {s : Sh} {m : M FL.D} {k : FL.D → Sl → RS} (g : G K c F env fps σ H) (h : Ts K c o ((m env).then k) F H fps D) :
    T K c s m σ H (fun x H1 => ∃ d F1 fps1 fpr e1, Post K c F H fps e1 σ F1 H1 fps1 fpr ∧ Own K c.cl F1 H1 s x d fpr ∧ Ts K c o (k d e1) F H fps D) :=
  ⟨F, env, fps, g, Tg.then h⟩
theorem TT'.then {m : M Bool} {k : Bool → Sl → RS} (g : G K c F env fps σ H) (h : Ts K c o ((m env).then k) F H fps D) :
    TT' K c m σ H (fun b H1 => ∃ F1 fps1 e1, Post K c F H fps e1 σ F1 H1 fps1 [] ∧ Ts K c o (k b e1) F1 H1 fps1 D) :=
  ⟨F, env, fps, g, (Tg.then h).mono fun x H1 ⟨d1, F1, fps1, fpr, e1, p1, ⟨r1, e⟩, h1⟩ => by
    subst e; subst r1
    exact ⟨F1, fps1, e1, p1, Ts.later p1 h1⟩⟩
/-- a slot is stored -/
theorem Post.set {F1 H1 : Hp} {fps1 : Fps} {e1 : Sl} {fpr : List Addr} {i : Nat} {v : V} {d : FL.D} (p : Post K c F H fps e1 σ F1 H1 fps1 fpr) (w : Own K c.cl F1 H1 (c.sh i) v d fpr) (hx : c.fix i = none) :
    ∃ fps2, Post K c F H fps (e1.set i (some d)) (σ.set i (some v)) F1 H1 fps2 [] := by
  have fx' : ∀ j u, c.fix j = some u → (σ.set i (some v))[j]? = some (some u) := fun j u e => by
    have hj : i ≠ j := fun z => by subst z; rw [hx] at e; cases e
    rw [List.getElem?_set_ne hj]; exact p.g.fx j u e
  by_cases hi : i < e1.length
  · have hs : i < σ.length := by rw [← p.g.len]; exact hi
    refine ⟨Fps.put fps1 i fpr, ⟨p.step.ex, p.step.keep, p.step.newF, fun a ha => ?_⟩, ⟨p.g.ex, by rw [List.length_set, List.length_set]; exact p.g.len, fun j d' e' => ?_, fun j hj => ?_, fun j k a hj hk => ?_, fun j a ha => ?_, fx'⟩, fun _ h => by cases h⟩
    · rcases ha with ⟨j, hj⟩ | ha
      · rcases mem_put.mp hj with ⟨_, z⟩ | ⟨_, z⟩
        · exact p.step.newP a (.inr z)
        · exact p.step.newP a (.inl ⟨j, z⟩)
      · cases ha
    · by_cases hj : j = i
      · subst hj
        rw [List.getElem?_set_self hi] at e'
        cases e'
        exact ⟨v, List.getElem?_set_self hs, by rw [put_self]; exact w⟩
      · rw [List.getElem?_set_ne (Ne.symm hj)] at e'
        obtain ⟨u, e2, ow⟩ := p.g.at_ j d' e'
        exact ⟨u, by rw [List.getElem?_set_ne (Ne.symm hj)]; exact e2, by rw [put_ne hj]; exact ow⟩
    · by_cases hne : j = i
      · subst hne; exact absurd (List.getElem?_set_self hi) (hj d)
      · rw [put_ne hne]
        exact p.g.out j fun d' e' => hj d' (by rw [List.getElem?_set_ne (Ne.symm hne)]; exact e')
    · rcases mem_put.mp hj with ⟨h1, z⟩ | ⟨h1, z⟩
      · rcases mem_put.mp hk with ⟨h2, y⟩ | ⟨h2, y⟩
        · rw [h1, h2]
        · exact absurd y ((p.fr a z).2 k)
      · rcases mem_put.mp hk with ⟨h2, y⟩ | ⟨h2, y⟩
        · exact absurd z ((p.fr a y).2 j)
        · exact p.g.dj j k a z y
    · rcases mem_put.mp ha with ⟨_, z⟩ | ⟨_, z⟩
      · exact (p.fr a z).1
      · exact p.g.nf j a z
  · have e1' : e1.set i (some d) = e1 := List.set_eq_of_length_le (by omega)
    have s1' : σ.set i (some v) = σ := List.set_eq_of_length_le (by rw [← p.g.len]; omega)
    rw [e1', s1']
    exact ⟨fps1, p.step.weak (fun _ h => h) (fun a h => h.imp id (fun z => by cases z)), p.g, fun _ h => by cases h⟩
end
def sNil : MS := fun e => .nx e
def sSeq (a b : MS) : MS := fun e => match a e with
  | .nx e1 => b e1
  | r => r
def sIf (t : M Bool) (a b : MS) : MS := fun e => (t e).then fun x e1 => if x = true then a e1 else b e1
def sRet (m : M D) : MS := fun e => (m e).then fun d e1 => .rt d e1
def sRetN : MS := fun e => .rt .non e
def sSet (i : Nat) (m : M D) : MS := fun e => (m e).then fun d e1 => .nx (e1.set i (some d))
def sExpr (m : M D) : MS := fun e => (m e).then fun _ e1 => .nx e1
def sBrk : MS := fun e => .bk e
def sCt : MS := fun e => .ct e
section
variable {c : Ct} {X : Cx} {o s : Sh} {st : Stmt} {rest : List Stmt} {m m1 m2 : MS} {e : Expr} {me : M D} {pos : Pos}
theorem fss_nil : FSs c X [] o sNil := PSs.weak pss_nil fun D σ H => by
  rintro ⟨F, env, fps, g, h⟩
  exact h σ F H fps (Post.refl g)
theorem fss_cons (h1 : FS c X st o m1) (h2 : FSs c X rest o m2) : FSs c X (st :: rest) o (sSeq m1 m2) := PSs.weak (pss_cons h1 h2) fun D σ H => by
  rintro ⟨F, env, fps, g, h⟩
  refine ⟨F, env, fps, g, ?_⟩
  unfold sSeq at h
  revert h
  cases m1 env with
  | nx e' => exact fun h σ' F' H' fps' p => ⟨F', e', fps', p.g, Ts.later p h⟩
  | bk e' => exact id
  | ct e' => exact id
  | rt d e' => exact id
  | rs x e' => exact id
  | er => exact id
theorem fss_one (h1 : FS c X st o m1) : FSs c X [st] o m1 := pss_one h1
theorem fs_pass : FS c X (.Pass pos) o sNil := PS.weak ps_pass fun D σ H => by
  rintro ⟨F, env, fps, g, h⟩
  exact h σ F H fps (Post.refl g)
theorem fs_brk : FS c X (.Break pos) o sBrk := PS.weak ps_break fun D σ H => by
  rintro ⟨F, env, fps, g, h⟩
  exact h σ F H fps (Post.refl g)
theorem fs_ct : FS c X (.Continue pos) o sCt := PS.weak ps_continue fun D σ H => by
  rintro ⟨F, env, fps, g, h⟩
  exact h σ F H fps (Post.refl g)
theorem fs_if {t : Expr} {a b : List Stmt} {mt : M Bool} (ht : FT c X t mt) (ha : FSs c X a o m1) (hb : FSs c X b o m2) : FS c X (.If t a b pos) o (sIf mt m1 m2) := PS.weak (ps_if ht ha hb) fun D σ H => by
  rintro ⟨F, env, fps, g, h⟩
  refine (TT'.then g h).mono fun x H1 ⟨F1, fps1, e1, p1, h1⟩ => ?_
  cases x with
  | true => exact iteT ⟨F1, e1, fps1, p1.g, h1⟩
  | false => exact iteF ⟨F1, e1, fps1, p1.g, h1⟩
theorem fs_ret (he : FE c X e o me) : FS c X (.Return (some e) pos) o (sRet me) := PS.weak (ps_ret he) fun D σ H => by
  rintro ⟨F, env, fps, g, h⟩
  exact (T.thenO g h).mono fun x H1 ⟨d, F1, fps1, fpr, e1, p1, o1, h1⟩ => h1 x σ F1 H1 fps1 fpr p1 o1
theorem fs_retN : FS c X (.Return none pos) .fz sRetN := PS.weak ps_retN fun D σ H => by
  rintro ⟨F, env, fps, g, h⟩
  exact h .non σ F H fps [] (Post.refl g) (.fz .non)
theorem fs_expr (he : FE c X e .fz me) (hs : swapsWith e none pos.line X.env = pure false := by rfl) : FS c X (.Expr e pos) o (sExpr me) := PS.weak (ps_expr he hs) fun D σ H => by
  rintro ⟨F, env, fps, g, h⟩
  exact (T.then g h).mono fun x H1 ⟨d, F1, fps1, e1, p1, o1, h1⟩ => h1 σ F1 H1 fps1 (Post.refl p1.g)
theorem fs_set (i : Nat) {x : Str} {pos' : Pos} (hs : c.sh i = s) (hx : c.fix i = none) (hN : X.N.Nodup) (hi : X.N[i]? = some x) (hl : Loc X.env.scope x) (he : FE c X e s me) (hw : swapsWith e (some (.Name x pos')) pos.line X.env = pure false := by rfl)
    (hf : X.fn x = true ∨ X.env.scope.names.lookup x = some .local := by first | exact .inl rfl | exact .inr rfl) : FS c X (.Assign [.Name x pos'] e pos) o (sSet i me) := PS.weak (ps_set hN hi hl he hw hf) fun D σ H => by
  rintro ⟨F, env, fps, g, h⟩
  refine (T.thenO g h).mono fun x H1 ⟨d, F1, fps1, fpr, e1, p1, o1, h1⟩ => ?_
  subst hs
  obtain ⟨fps2, p2⟩ := p1.set o1 hx
  exact h1 _ F1 H1 fps2 p2
end
/-! ### targets -/
/-- d is stored at a target -/
abbrev Tgt := D → Sl → Option Sl
/-- at most the slots ts were changed -/
structure Chg (ts : List Nat) (σ σ' : St) : Prop where
  len : σ'.length = σ.length
  at_ : ∀ k, k ∉ ts → σ'[k]? = σ[k]?
/-- the reading of a target that changes the slots ts alone -/
def TGt (K : PySem.W.Frag) (c : Ct) (ts : List Nat) (t : Tgt) : TG := fun v σ H Q => ∃ F env fps d, G K c F env fps σ H ∧ Rep K c.cl F v d ∧ match t d env with
  | some e' => ∀ σ' F' H' fps', Post K c F H fps e' σ' F' H' fps' [] → Chg ts σ σ' → Q σ' H'
  | none => False
abbrev FG (c : Ct) (X : Cx) (e : Expr) (ts : List Nat) (t : Tgt) : Prop := PG X e (TGt X.K c ts t)
def TGts (K : PySem.W.Frag) (c : Ct) (ts : List Nat) (t : List D → Sl → Option Sl) : TGs := fun vs σ H Q => ∃ F env fps ds, G K c F env fps σ H ∧ RepL K c.cl F vs ds ∧ match t ds env with
  | some e' => ∀ σ' F' H' fps', Post K c F H fps e' σ' F' H' fps' [] → Chg ts σ σ' → Q σ' H'
  | none => False
abbrev FGs (c : Ct) (X : Cx) (es : List Expr) (ts : List Nat) (t : List D → Sl → Option Sl) : Prop := PGs X es (TGts X.K c ts t)
theorem PG.weak {X : Cx} {e : Expr} {t t' : TG} (h : PG X e t) (w : ∀ v σ H Q, t' v σ H Q → t v σ H Q) : PG X e t' := ⟨fun pins s σ H v u Q I r q => h.run pins s σ H v u Q I r (w v σ H Q q)⟩
theorem PGs.weak {X : Cx} {e : List Expr} {t t' : TGs} (h : PGs X e t) (w : ∀ v σ H Q, t' v σ H Q → t v σ H Q) : PGs X e t' := ⟨fun pins s σ H v u Q I r q => h.run pins s σ H v u Q I r (w v σ H Q q)⟩
def gtName (i : Nat) : Tgt := fun d e => some (e.set i (some d))
def gtNil : List D → Sl → Option Sl := fun ds e => if ds.isEmpty then some e else none
def gtCons (a : Tgt) (b : List D → Sl → Option Sl) : List D → Sl → Option Sl := fun ds e => match ds with
  | d :: r => (a d e).bind fun e1 => b r e1
  | [] => none
/-- (a, b, ..) = a tuple or a list of that length -/
def gtTup (n : Nat) (t : List D → Sl → Option Sl) : Tgt := fun d e => match d with
  | .tup ds => if ds.length = n then t ds e else none
  | _ => none
def gtLst (n : Nat) (t : List D → Sl → Option Sl) : Tgt := fun d e => match d with
  | .lst ds => if ds.length = n then t ds e else none
  | _ => none
section
variable {c : Ct} {X : Cx} {pos : Pos} {e : Expr} {es : List Expr} {ts ts' : List Nat} {t : Tgt} {u : List D → Sl → Option Sl}
theorem fg_name (i : Nat) {x : Str} (hs : c.sh i = .fz) (hx : c.fix i = none) (hN : X.N.Nodup) (hi : X.N[i]? = some x) (hl : Loc X.env.scope x) (hf : X.fn x = true ∨ X.env.scope.names.lookup x = some .local := by first | exact .inl rfl | exact .inr rfl) : FG c X (.Name x pos) [i] (gtName i) :=
  PG.weak (pg_name hN hi hl hf) fun v σ H Q => by
    rintro ⟨F, env, fps, d, g, r, h⟩
    obtain ⟨fps2, p2⟩ := (Post.refl g).set (i := i) (v := v) (d := d) (by rw [hs]; exact .fz r) hx
    refine h _ F H fps2 p2 ⟨by rw [List.length_set], fun k hk => ?_⟩
    have : i ≠ k := fun z => hk (by simp [z])
    rw [List.getElem?_set_ne this]
theorem fgs_nil : FGs c X [] [] gtNil := PGs.weak pgs_nil fun vs σ H Q => by
  rintro ⟨F, env, fps, ds, g, r, h⟩
  unfold gtNil at h
  cases ds with
  | nil => exact ⟨r.nilV.mpr rfl, h σ F H fps (Post.refl g) ⟨rfl, fun _ _ => rfl⟩⟩
  | cons d ds => exact h.elim
theorem fgs_cons (h1 : FG c X e ts t) (h2 : FGs c X es ts' u) (hs : (assignEach (e :: es) X.env).map (·.2) = assign e X.env :: (assignEach es X.env).map (·.2) := by rfl) : FGs c X (e :: es) (ts ++ ts') (gtCons t u) :=
  PGs.weak (pgs_cons h1 h2 hs) fun vs σ H Q => by
    rintro ⟨F, env, fps, ds, g, r, h⟩
    cases ds with
    | nil => exact h.elim
    | cons d ds =>
      cases vs with
      | nil => have := r.len; simp at this
      | cons v vs =>
        refine ⟨v, vs, rfl, F, env, fps, d, g, r.head, ?_⟩
        unfold gtCons at h
        dsimp only at h
        cases e1 : t d env with
        | none => rw [e1] at h; exact h.elim
        | some env1 =>
          rw [e1] at h
          intro σ1 F1 H1 fps1 p1 k1
          refine ⟨F1, env1, fps1, ds, p1.g, r.tail.mono p1.step.ex, ?_⟩
          have h : match u ds env1 with | some e' => ∀ σ' F' H' fps', Post X.K c F H fps e' σ' F' H' fps' [] → Chg (ts ++ ts') σ σ' → Q σ' H' | none => False := h
          cases e2 : u ds env1 with
          | none => rw [e2] at h; exact h.elim
          | some env2 =>
            rw [e2] at h
            exact fun σ2 F2 H2 fps2 p2 k2 => h σ2 F2 H2 fps2 (p1.trans p2) ⟨k2.len.trans k1.len, fun k hk => (k2.at_ k fun z => hk (List.mem_append_right _ z)).trans (k1.at_ k fun z => hk (List.mem_append_left _ z))⟩
theorem fg_tup {k n : Nat} (hc : X.calm = true) (h : FGs c X es ts u) (hn : (assignEach es X.env).length = n := by rfl) (hst : (assignEach es X.env).findIdx? (·.1) = none := by rfl) : FG c X (.Tuple es k pos) ts (gtTup n u) :=
  PG.weak (pg_tup hc h hn hst) fun v σ H Q => by
    rintro ⟨F, env, fps, d, g, r, h⟩
    unfold gtTup at h
    cases d with
    | tup ds =>
      dsimp only at h
      obtain ⟨a, vs, rfl, hs, rl⟩ := r.tup_inv
      by_cases hl : ds.length = n
      · rw [if_pos hl] at h
        exact ⟨a, vs, rfl, g.ex.sqt hs, by rw [rl.len]; exact hl, F, env, fps, ds, g, rl, h⟩
      · rw [if_neg hl] at h; exact h.elim
    | _ => exact h.elim
theorem fg_lst {k n : Nat} (hc : X.calm = true) (h : FGs c X es ts u) (hn : (assignEach es X.env).length = n := by rfl) (hst : (assignEach es X.env).findIdx? (·.1) = none := by rfl) : FG c X (.Tuple es k pos) ts (gtLst n u) :=
  PG.weak (pg_lst hc h hn hst) fun v σ H Q => by
    rintro ⟨F, env, fps, d, g, r, h⟩
    unfold gtLst at h
    cases d with
    | lst ds =>
      dsimp only at h
      obtain ⟨a, vs, rfl, hs, rl⟩ := r.lst_inv
      by_cases hl : ds.length = n
      · rw [if_pos hl] at h
        exact ⟨a, vs, rfl, g.ex.sql hs, by rw [rl.len]; exact hl, F, env, fps, ds, g, rl, h⟩
      · rw [if_neg hl] at h; exact h.elim
    | _ => exact h.elim
/-- target = value -/
def sAsg (t : Tgt) (m : M D) : MS := fun e => (m e).then fun d e1 => match t d e1 with
  | some e2 => .nx e2
  | none => .er
theorem fs_asg {o : Sh} {tg : Expr} {me : M D} (he : FE c X e .fz me) (hg : FG c X tg ts t) (hs : swapsWithSole [tg] e pos.line X.env = pure false := by rfl) (hw : swappedStores [tg] e X.env = pure none := by rfl)
    (h1 : (assignEach [tg] X.env).map (·.2) = [assign tg X.env] := by rfl) : FS c X (.Assign [tg] e pos) o (sAsg t me) := PS.weak (ps_asg he hg hs hw h1) fun D σ H => by
  rintro ⟨F, env, fps, g, h⟩
  refine (T.then g h).mono fun x H1 ⟨d, F1, fps1, e1, p1, r1, h1⟩ => ⟨F1, e1, fps1, d, p1.g, r1, ?_⟩
  cases e2 : t d e1 with
  | none => rw [e2] at h1; exact h1.elim
  | some env2 => rw [e2] at h1; exact fun σ' F' H' fps' p _ => h1 σ' F' H' fps' p
end
/-! ### what is walked -/
/-- the iterator J gives the data ds -/
def JOk (K : PySem.W.Frag) (cl : Nat → Addr) (F0 : Hp) (J : It) (ds : List D) : Prop :=
  ∃ (Gd : Hp → Prop) (Y : Nat → Hp → V → Hp → Prop), Walk J ds.length Gd Y ∧ (∀ H, Ext F0 H → Gd H) ∧
    ∀ i H x H' F d, Ext F0 F → Ext F H → Y i H x H' → ds[i]? = some d → ∃ F', New F H F' H' [] ∧ Rep K cl F' x d
def TIt (K : PySem.W.Frag) (c : Ct) (m : M (List D)) : TI := fun σ H R => ∃ F env fps, G K c F env fps σ H ∧ match m env with
  | .ok ds e' => ∀ F' H' fps' J, Post K c F H fps e' σ F' H' fps' [] → JOk K c.cl F' J ds → R J H'
  | .rs x e' => ∀ dx F' H' fps', Post K c F H fps e' σ F' H' fps' [] → RepX K c.cl F' H' x dx → c.W (.ref (c.cl x.c)) (some dx) σ H'
  | .er => False
abbrev FI (c : Ct) (X : Cx) (tg iter : Expr) (m : M (List D)) : Prop := PI X tg iter (TIt X.K c m)
theorem PI.weak {X : Cx} {tg e : Expr} {t t' : TI} (h : PI X tg e t) (w : ∀ σ H R, t' σ H R → t σ H R) : PI X tg e t' := ⟨fun pins s σ H Q I q => h.run pins s σ H Q I (w σ H Q q)⟩
/-- the items of a list or a tuple -/
def itSeq (m : M D) : M (List D) := fun e => (m e).bind fun d e1 => match d with
  | .lst ds => .ok ds e1
  | .tup ds => .ok ds e1
  | _ => .er
def itL (m : M D) : M (List D) := fun e => (m e).bind fun d e1 => match d with
  | .lst ds => .ok ds e1
  | _ => .er
def itT (m : M D) : M (List D) := fun e => (m e).bind fun d e1 => match d with
  | .tup ds => .ok ds e1
  | _ => .er
/-- lo, lo + 1, .. below hi -/
def rangeD (lo hi : Int) : List D := (List.range (hi - lo).toNat).map fun (i : Nat) => D.int (lo + i)
def smallR (i : Int) : Bool := decide (-4611686018427387904 ≤ i) && decide (i < 4611686018427387904)
theorem smallR_ok {i : Int} (h : smallR i = true) : -(2 ^ 62) ≤ i ∧ i < 2 ^ 62 := by
  unfold smallR at h
  rw [Bool.and_eq_true] at h
  exact ⟨of_decide_eq_true h.1, of_decide_eq_true h.2⟩
def itRng1 (m : M D) : M (List D) := fun e => (m e).bind fun d e1 => match d with
  | .int n => if smallR n then .ok (rangeD 0 n) e1 else .er
  | _ => .er
def itRng2 (a b : M D) : M (List D) := fun e => (a e).bind fun x e1 => (b e1).bind fun y e2 => match x, y with
  | .int i, .int j => if smallR i && smallR j then .ok (rangeD i j) e2 else .er
  | _, _ => .er
section
variable {K : PySem.W.Frag} {cl : Nat → Addr} {c : Ct}
theorem jok_list {F0 : Hp} {a : Addr} {vs : List V} {ds : List D} (h : SqL K F0 a vs) (r : RepL K cl F0 vs ds) : JOk K cl F0 (Itl K a) ds := by
  refine ⟨_, _, by rw [← r.len]; exact walk_list (xs := vs), fun H x => x.sql h, fun i H x H' F d xf xh y hd => ?_⟩
  obtain ⟨e1, e2⟩ := y
  subst e1
  exact ⟨F, New.refl xh, (r.at_ i x d e2 hd).mono xf⟩
theorem jok_tup {F0 : Hp} {a : Addr} {vs : List V} {ds : List D} (h : SqT K F0 a vs) (r : RepL K cl F0 vs ds) : JOk K cl F0 (Itt K a) ds := by
  refine ⟨_, _, by rw [← r.len]; exact walk_tup (xs := vs), fun H x => x.sqt h, fun i H x H' F d xf xh y hd => ?_⟩
  obtain ⟨e1, e2⟩ := y
  subst e1
  exact ⟨F, New.refl xh, (r.at_ i x d e2 hd).mono xf⟩
theorem rangeD_len (lo hi : Int) : (rangeD lo hi).length = (hi - lo).toNat := by unfold rangeD; rw [List.length_map, List.length_range]
theorem rangeD_get {lo hi : Int} {i : Nat} {d : D} (h : (rangeD lo hi)[i]? = some d) : d = .int (lo + i) := by
  unfold rangeD at h
  rw [List.getElem?_map, List.getElem?_range] at h
  · cases h; rfl
  · cases e : (List.range (hi - lo).toNat)[i]? with
    | none => rw [e] at h; cases h
    | some j =>
      have := (List.getElem?_eq_some_iff.mp e).1
      simpa using this
theorem jok_range {F0 : Hp} {lo hi : Int} : JOk K cl F0 (Itr lo (hi - lo).toNat) (rangeD lo hi) := by
  refine ⟨_, _, by rw [rangeD_len]; exact walk_range (lo := lo), fun _ _ => trivial, fun i H x H' F d xf xh y hd => ?_⟩
  obtain ⟨e1, e2⟩ := y
  subst e1; subst e2
  rw [rangeD_get hd]
  exact ⟨F, New.refl xh, .int _⟩
variable {X : Cx} {tg e e2 : Expr} {m m2 : M D} {pos p : Pos}
theorem T.iter {F H : Hp} {fps : Fps} {σ : St} {env : Sl} {R : It → Hp → Prop} {m : M D} {k : D → Sl → FL.R (List D)} (g : G K c F env fps σ H) (h : match (m env).bind k with
  | .ok ds e' => ∀ F' H' fps' J, Post K c F H fps e' σ F' H' fps' [] → JOk K c.cl F' J ds → R J H'
  | .rs x e' => ∀ dx F' H' fps', Post K c F H fps e' σ F' H' fps' [] → RepX K c.cl F' H' x dx → c.W (.ref (c.cl x.c)) (some dx) σ H'
  | .er => False) : T K c .fz m σ H (fun x H1 => ∃ d F1 fps1 e1, Post K c F H fps e1 σ F1 H1 fps1 [] ∧ Rep K c.cl F1 x d ∧ match k d e1 with
  | .ok ds e' => ∀ F' H' fps' J, Post K c F1 H1 fps1 e' σ F' H' fps' [] → JOk K c.cl F' J ds → R J H'
  | .rs x e' => ∀ dx F' H' fps', Post K c F1 H1 fps1 e' σ F' H' fps' [] → RepX K c.cl F' H' x dx → c.W (.ref (c.cl x.c)) (some dx) σ H'
  | .er => False) := by
  refine ⟨F, env, fps, g, ?_⟩
  revert h
  cases m env with
  | er => exact id
  | rs x e' => exact id
  | ok d e' =>
    intro h v F' H' fps' fpr p q
    obtain ⟨r1, e⟩ := Own.rep q
    subst e
    refine ⟨d, F', fps', e', p, r1, ?_⟩
    have h : match k d e' with
      | .ok ds e' => ∀ F' H' fps' J, Post K c F H fps e' σ F' H' fps' [] → JOk K c.cl F' J ds → R J H'
      | .rs x e' => ∀ dx F' H' fps', Post K c F H fps e' σ F' H' fps' [] → RepX K c.cl F' H' x dx → c.W (.ref (c.cl x.c)) (some dx) σ H'
      | .er => False := h
    revert h
    cases k d e' with
    | er => exact id
    | rs x e2 => exact fun h dx F2 H2 fps2 p2 => h dx F2 H2 fps2 (p.trans p2)
    | ok ds e2 => exact fun h F2 H2 fps2 J p2 => h F2 H2 fps2 J (p.trans p2)
theorem fi_list (he : FE c X e .fz m) : FI c X tg e (itL m) := PI.weak (pi_list he) fun σ H R => by
  rintro ⟨F, env, fps, g, h⟩
  refine (T.iter g h).mono fun x H1 ⟨d, F1, fps1, e1, p1, r1, h1⟩ => ?_
  cases d with
  | lst ds =>
    obtain ⟨a, vs, rfl, hs, rl⟩ := r1.lst_inv
    exact ⟨a, rfl, ⟨vs, p1.g.ex.sql hs⟩, h1 F1 H1 fps1 _ (Post.refl p1.g) (jok_list hs rl)⟩
  | _ => exact h1.elim
theorem fi_tup (he : FE c X e .fz m) : FI c X tg e (itT m) := PI.weak (pi_tup he) fun σ H R => by
  rintro ⟨F, env, fps, g, h⟩
  refine (T.iter g h).mono fun x H1 ⟨d, F1, fps1, e1, p1, r1, h1⟩ => ?_
  cases d with
  | tup ds =>
    obtain ⟨a, vs, rfl, hs, rl⟩ := r1.tup_inv
    exact ⟨a, rfl, ⟨vs, p1.g.ex.sqt hs⟩, h1 F1 H1 fps1 _ (Post.refl p1.g) (jok_tup hs rl)⟩
  | _ => exact h1.elim
/-- a list or a tuple, as it comes -/
theorem PI.or {X : Cx} {tg e : Expr} {t t' : TI} (h : PI X tg e t) (h' : PI X tg e t') : PI X tg e (fun σ H R => t σ H R ∨ t' σ H R) := ⟨fun pins s σ H Q I q => q.elim (h.run pins s σ H Q I) (h'.run pins s σ H Q I)⟩
theorem fi_seq (he : FE c X e .fz m) : FI c X tg e (itSeq m) := PI.weak (PI.or (fi_list (tg := tg) he) (fi_tup (tg := tg) he)) fun σ H R => by
  rintro ⟨F, env, fps, g, h⟩
  unfold itSeq at h
  cases em : m env with
  | er => rw [em] at h; exact h.elim
  | rs x e' => rw [em] at h; exact .inl ⟨F, env, fps, g, by unfold itL; rw [em]; exact h⟩
  | ok d e' =>
    rw [em] at h
    cases d with
    | lst ds => exact .inl ⟨F, env, fps, g, by unfold itL; rw [em]; exact h⟩
    | tup ds => exact .inr ⟨F, env, fps, g, by unfold itT; rw [em]; exact h⟩
    | _ => exact h.elim
theorem fi_rng1 (hg : Gl X "range") (hm : X.mg "range" = none) (he : FE c X e .fz m) (hs : starEach [e] X.env = [(false, eval e X.env)] := by rfl) : FI c X tg (.Call (.Name "range" p) [e] [] pos) (itRng1 m) :=
  PI.weak (pi_range1 hg hm (pa_cons he pa_nil hs) hs) fun σ H R => by
    rintro ⟨F, env, fps, g, h⟩
    refine (T.iter g h).mono fun x H1 ⟨d, F1, fps1, e1, p1, r1, h1⟩ => ?_
    cases d with
    | int n =>
      dsimp only at h1
      by_cases hn : smallR n = true
      · rw [if_pos hn] at h1
        obtain ⟨a, b⟩ := smallR_ok hn
        have j : JOk X.K c.cl F1 (Itr 0 n.toNat) (rangeD 0 n) := by
          have := jok_range (K := X.K) (cl := c.cl) (F0 := F1) (lo := 0) (hi := n)
          rw [Int.sub_zero] at this
          exact this
        exact ⟨n, by rw [r1.int_inv], a, b, h1 F1 H1 fps1 _ (Post.refl p1.g) j⟩
      · rw [if_neg hn] at h1; exact h1.elim
    | _ => exact h1.elim
theorem fi_rng2 (hg : Gl X "range") (hm : X.mg "range" = none) (he : FE c X e .fz m) (he2 : FE c X e2 .fz m2) (hs : starEach [e, e2] X.env = [(false, eval e X.env), (false, eval e2 X.env)] := by rfl) (hs2 : starEach [e2] X.env = [(false, eval e2 X.env)] := by rfl) : FI c X tg (.Call (.Name "range" p) [e, e2] [] pos) (itRng2 m m2) :=
  PI.weak (pi_range2 hg hm (pa_cons he (pa_cons he2 pa_nil hs2) (by rw [hs, hs2])) hs hs2) fun σ H R => by
    rintro ⟨F, env, fps, g, h⟩
    refine (T.iter g h).mono fun x H1 ⟨d, F1, fps1, e1, p1, r1, h1⟩ => (T.iter p1.g h1).mono fun y H2 ⟨d2, F2, fps2, e2, p2, r2, h2⟩ => ?_
    cases d with
    | int i =>
      cases d2 with
      | int j =>
        dsimp only at h2
        by_cases hn : (smallR i && smallR j) = true
        · rw [if_pos hn] at h2
          rw [Bool.and_eq_true] at hn
          obtain ⟨a, b⟩ := smallR_ok hn.1
          obtain ⟨a', b'⟩ := smallR_ok hn.2
          exact ⟨i, j, by rw [r1.int_inv, r2.int_inv], ⟨a, b, a', b'⟩, h2 F2 H2 fps2 _ (Post.refl p2.g) jok_range⟩
        · rw [if_neg hn] at h2; exact h2.elim
      | _ => exact h2.elim
    | _ => exact h2.elim
end
/-! ### for -/
def forL (t : Tgt) (b : MS) : List D → MS
  | [], e => .nx e
  | d :: r, e => match t d e with
    | none => .er
    | some e1 => match b e1 with
      | .nx e2 => forL t b r e2
      | .ct e2 => forL t b r e2
      | .bk e2 => .nx e2
      | q => q
def sFor (it : M (List D)) (t : Tgt) (b : MS) : MS := fun e => (it e).then fun ds e1 => forL t b ds e1
section
variable {c : Ct} {X : Cx} {o : Sh} {tg iter : Expr} {body : List Stmt} {m : M (List D)} {ts : List Nat} {t : Tgt} {b : MS} {pos : Pos}
theorem fs_for (hp : PassesOwn (model X.prog X.w) X.A X.env X.xe) (hc : X.calm = true) (hi : FI c X tg iter m) (hg : FG c X tg ts t) (hb : FSs c X body o b) (hs : ∀ x, foldedSetIterable iter X.env x = pure x := by intro _; rfl) :
    FS c X (.For tg iter body [] pos) o (sFor m t b) := PS.weak (ps_for hp hc hi hg hb hs) fun D σ H => by
  rintro ⟨F, env, fps, g, h⟩
  refine ⟨F, env, fps, g, ?_⟩
  unfold sFor at h
  revert h
  cases m env with
  | er => exact id
  | rs x e' => exact fun h dx F' H' fps' p q => h dx σ F' H' fps' p q
  | ok ds e' =>
    intro h F1 H1 fps1 J p1 j
    have h : Ts X.K c o (forL t b ds e') F1 H1 fps1 D := Ts.later p1 h
    obtain ⟨Gd, Y, wk, hG, hY⟩ := j
    refine for_it wk (fun i σ' H' => ∃ F' env' fps', Post X.K c F1 H1 fps1 env' σ' F' H' fps' [] ∧ Ts X.K c o (forL t b (ds.drop i) env') F' H' fps' D) ⟨F1, e', fps1, Post.refl p1.g, h⟩
      (fun i σ' H' hi ⟨F', env', fps', p, _⟩ => hG H' (p.step.ex.trans p.g.ex)) (fun i x σ' H' H'' hi ⟨F', env', fps', p, q⟩ y => ?_) (fun σ' H' ⟨F', env', fps', p, q⟩ => ?_)
    · have hd : ds[i]? = some ds[i] := List.getElem?_eq_getElem hi
      obtain ⟨F2, n2, r2⟩ := hY i H' x H'' F' ds[i] p.step.ex p.g.ex y hd
      have p2 := p.g.new n2
      rw [List.drop_eq_getElem_cons hi] at q
      unfold forL at q
      refine ⟨F2, env', fps', ds[i], p2.g, r2, ?_⟩
      cases e2 : t ds[i] env' with
      | none => rw [e2] at q; exact q.elim
      | some env2 =>
        rw [e2] at q
        dsimp only at q ⊢
        intro σ3 F3 H3 fps3 p3 _
        refine ⟨F3, env2, fps3, p3.g, ?_⟩
        have q : Ts X.K c o (match b env2 with | .nx e2 => forL t b (ds.drop (i + 1)) e2 | .ct e2 => forL t b (ds.drop (i + 1)) e2 | .bk e2 => .nx e2 | q => q) F3 H3 fps3 D := Ts.later (p2.trans p3) q
        revert q
        cases b env2 with
        | nx e4 => exact fun q σ4 F4 H4 fps4 p4 => ⟨F4, e4, fps4, (p.trans (p2.trans p3)).trans p4, Ts.later p4 q⟩
        | ct e4 => exact fun q σ4 F4 H4 fps4 p4 => ⟨F4, e4, fps4, (p.trans (p2.trans p3)).trans p4, Ts.later p4 q⟩
        | bk e4 => exact fun q σ4 F4 H4 fps4 p4 => q σ4 F4 H4 fps4 p4
        | rt d e4 => exact id
        | rs x e4 => exact id
        | er => exact id
    · rw [List.drop_length] at q
      exact q σ' F' H' fps' (Post.refl p.g)
end
end FL
namespace FL
open PySem PySem.Spec L2
open PyProof.Rows hiding St
/-! ### while -/
def whileN (t : M Bool) (b : MS) : Nat → MS
  | 0, _ => .er
  | n + 1, e => (t e).then fun x e1 => if x = true then (match b e1 with
      | .nx e2 => whileN t b n e2
      | .ct e2 => whileN t b n e2
      | .bk e2 => .nx e2
      | q => q) else .nx e1
def fuel : Nat := 1099511627776
def sWhile (t : M Bool) (b : MS) : MS := whileN t b fuel
section
variable {c : Ct} {X : Cx} {o : Sh} {t : Expr} {body : List Stmt} {mt : M Bool} {b : MS} {pos : Pos}
theorem fs_while (hp : PassesOwn (model X.prog X.w) X.A X.env X.xe) (ht : FT c X t mt) (hb : FSs c X body o b) : FS c X (.While t body [] pos) o (sWhile mt b) := PS.weak (ps_while hp ht hb) fun D σ H => by
  rintro ⟨F, env, fps, g, h⟩
  refine ⟨fun n σ H => ∃ F env fps, G X.K c F env fps σ H ∧ Ts X.K c o (whileN mt b n env) F H fps D, ⟨fuel, F, env, fps, g, h⟩, ?_⟩
  rintro n σ H ⟨F, env, fps, g, h⟩
  cases n with
  | zero => exact h.elim
  | succ n =>
    unfold whileN at h
    refine (TT'.then g h).mono fun x H1 ⟨F1, fps1, e1, p1, h1⟩ => ?_
    cases x with
    | false => exact iteF (h1 σ F1 H1 fps1 (Post.refl p1.g))
    | true =>
      refine iteT ⟨fun σ' H' => ∃ F' env' fps', G X.K c F' env' fps' σ' H' ∧ Ts X.K c o (whileN mt b n env') F' H' fps' D, fun σ' H' q => ⟨n, Nat.lt_succ_self n, q⟩, F1, e1, fps1, p1.g, ?_⟩
      have h1 : Ts X.K c o (match b e1 with | .nx e2 => whileN mt b n e2 | .ct e2 => whileN mt b n e2 | .bk e2 => .nx e2 | q => q) F1 H1 fps1 D := h1
      revert h1
      cases b e1 with
      | nx e4 => exact fun q σ4 F4 H4 fps4 p4 => ⟨F4, e4, fps4, p4.g, Ts.later p4 q⟩
      | ct e4 => exact fun q σ4 F4 H4 fps4 p4 => ⟨F4, e4, fps4, p4.g, Ts.later p4 q⟩
      | bk e4 => exact fun q σ4 F4 H4 fps4 p4 => q σ4 F4 H4 fps4 p4
      | rt d e4 => exact id
      | rs x e4 => exact id
      | er => exact id
end
/-! ### list comprehensions -/
def noX {α : Type} (r : R α) : R α := match r with
  | .ok a e => .ok a e
  | _ => .er
@[simp] theorem noX_ok {α : Type} (a : α) (e : Sl) : noX (R.ok a e) = .ok a e := rfl
/-- the slots vs emptied -/
def wipeE (e : Sl) : List Nat → Sl
  | [] => e
  | v :: vs => (wipeE e vs).set v none
/-- the slots vs as they were in e0 -/
def restore (e0 e : Sl) : List Nat → Sl
  | [] => e
  | v :: vs => (restore e0 e vs).set v ((e0[v]?).getD none)
theorem wipeE_length (e : Sl) : ∀ vs, (wipeE e vs).length = e.length
  | [] => rfl
  | v :: vs => by unfold wipeE; rw [List.length_set, wipeE_length e vs]
theorem restore_length (e0 e : Sl) : ∀ vs, (restore e0 e vs).length = e.length
  | [] => rfl
  | v :: vs => by unfold restore; rw [List.length_set, restore_length e0 e vs]
theorem wipeE_in (e : Sl) {d : D} {i : Nat} : ∀ {vs : List Nat}, (wipeE e vs)[i]? = some (some d) → i ∉ vs ∧ e[i]? = some (some d)
  | [], h => ⟨by simp, h⟩
  | v :: vs, h => by
    unfold wipeE at h
    by_cases hv : v = i
    · subst hv
      by_cases hl : v < (wipeE e vs).length
      · rw [List.getElem?_set_self hl] at h; cases h
      · rw [List.getElem?_eq_none (by rw [List.length_set]; omega)] at h; cases h
    · rw [List.getElem?_set_ne hv] at h
      obtain ⟨h1, h2⟩ := wipeE_in e h
      exact ⟨fun z => (List.mem_cons.mp z).elim (fun z => hv z.symm) h1, h2⟩
theorem restore_in {e0 e : Sl} {d : D} {i : Nat} : ∀ {vs : List Nat}, (restore e0 e vs)[i]? = some (some d) → (i ∈ vs ∧ e0[i]? = some (some d)) ∨ (i ∉ vs ∧ e[i]? = some (some d))
  | [], h => .inr ⟨by simp, h⟩
  | v :: vs, h => by
    unfold restore at h
    by_cases hv : v = i
    · subst hv
      by_cases hl : v < (restore e0 e vs).length
      · rw [List.getElem?_set_self hl] at h
        cases e' : e0[v]? with
        | none => rw [e'] at h; cases h
        | some o => rw [e'] at h; exact .inl ⟨List.mem_cons_self, by rw [Option.some.inj h.symm]; rfl⟩
      · rw [List.getElem?_eq_none (by rw [List.length_set]; omega)] at h; cases h
    · rw [List.getElem?_set_ne hv] at h
      rcases restore_in h with ⟨a, b⟩ | ⟨a, b⟩
      · exact .inl ⟨List.mem_cons_of_mem _ a, b⟩
      · exact .inr ⟨fun z => (List.mem_cons.mp z).elim (fun z => hv z.symm) a, b⟩
theorem wipe_get {σ : St} {i : Nat} : ∀ {vs : List Nat}, i ∉ vs → (wipe σ vs)[i]? = σ[i]?
  | [], _ => rfl
  | v :: vs, h => by
    unfold wipe
    rw [List.getElem?_set_ne (fun z => h (by simp [z]))]
    exact wipe_get fun z => h (List.mem_cons_of_mem _ z)
theorem wipe_gone {σ : St} {i : Nat} : ∀ {vs : List Nat}, i ∈ vs → i < σ.length → (wipe σ vs)[i]? = some none
  | [], h, _ => by cases h
  | v :: vs, h, hl => by
    unfold wipe
    by_cases hv : v = i
    · subst hv
      rw [List.getElem?_set_self (by rw [wipe_length]; exact hl)]
    · rw [List.getElem?_set_ne hv]
      rcases List.mem_cons.mp h with z | z
      · exact absurd z.symm hv
      · exact wipe_gone z hl
theorem wipe_same {σ σ2 : St} {vs : List Nat} (hl : σ2.length = σ.length) (h : ∀ k, k ∉ vs → σ2[k]? = σ[k]?) : wipe σ2 vs = wipe σ vs := by
  apply List.ext_getElem?
  intro i
  by_cases hi : i ∈ vs
  · by_cases hb : i < σ.length
    · rw [wipe_gone hi hb, wipe_gone hi (by omega)]
    · rw [List.getElem?_eq_none (by rw [wipe_length]; omega), List.getElem?_eq_none (by rw [wipe_length]; omega)]
  · rw [wipe_get hi, wipe_get hi, h i hi]
/-- the turns of a comprehension -/
def lcL (t : Tgt) (cond : M Bool) (elt : M D) (own : List Nat) : List D → Sl → R (List D)
  | [], e => .ok [] e
  | d :: r, e => match t d e with
    | none => .er
    | some e1 => (cond e1).bind fun x e2 => if x = true then (elt e2).bind fun y e3 => (lcL t cond elt own r (wipeE e3 own)).bind fun ys e4 => .ok (y :: ys) e4 else lcL t cond elt own r (wipeE e2 own)
def dLc (it : M (List D)) (t : Tgt) (cond : M Bool) (elt : M D) (own : List Nat) : M D := fun e => (it e).bind fun ds e1 => if ds.length ≤ line then (noX (lcL t cond elt own ds (wipeE e1 own))).bind fun acc e2 => .ok (.lst acc) (restore e1 e2 own) else .er
/-- the wish within a block: nothing is raised -/
def Ct.quiet (c : Ct) : Ct := { c with W := fun _ _ _ _ => False }
def tYes : M Bool := fun e => .ok true e
abbrev FTs (c : Ct) (X : Cx) (es : List Expr) (m : M Bool) : Prop := PTs X es (TT' X.K c m)
theorem PTs.weak {X : Cx} {e : List Expr} {t t' : TT} (h : PTs X e t) (w : ∀ σ H Q, t' σ H Q → t σ H Q) : PTs X e t' := ⟨fun pins s σ H Q I q => h.run pins s σ H Q I (w σ H Q q)⟩
section
variable {c : Ct} {X : Cx} {e : Expr} {m : M Bool}
theorem fts_nil : FTs c X [] tYes := PTs.weak pts_nil fun σ H Q => by
  rintro ⟨F, env, fps, g, h⟩
  exact h true F H fps [] (Post.refl g) ⟨rfl, rfl⟩
theorem fts_one (h : FT c X e m) : FTs c X [e] m := pts_one h
end
theorem G.change {K : PySem.W.Frag} {c c' : Ct} {F H : Hp} {env : Sl} {fps : Fps} {σ : St} (g : G K c F env fps σ H) (h1 : c'.cl = c.cl) (h2 : c'.sh = c.sh) (h3 : c'.fix = c.fix) : G K c' F env fps σ H :=
  ⟨g.ex, g.len, fun i d e => by rw [h1, h2]; exact g.at_ i d e, g.out, g.dj, g.nf, fun i v e => g.fx i v (by rw [← h3]; exact e)⟩
theorem Post.change {K : PySem.W.Frag} {c c' : Ct} {F H F1 H1 : Hp} {fps fps1 : Fps} {e1 : Sl} {σ : St} {fpr : List Addr} (p : Post K c F H fps e1 σ F1 H1 fps1 fpr) (h1 : c'.cl = c.cl) (h2 : c'.sh = c.sh) (h3 : c'.fix = c.fix) : Post K c' F H fps e1 σ F1 H1 fps1 fpr := ⟨p.step, p.g.change h1 h2 h3, p.fr⟩
/-- the state with an object beside it that nobody else knows -/
theorem Post.beside {K : PySem.W.Frag} {c : Ct} {F H F1 H1 F2 H2 : Hp} {fps fps1 fps2 : Fps} {e1 e2 : Sl} {σ σ2 : St} {L : Addr} {u : HO} (a : Post K c F H fps e1 σ F1 H1 fps1 [L]) (hu : H1 L = some u) (b : Post K c F1 H1 fps1 e2 σ2 F2 H2 fps2 []) :
    Post K c F H fps e2 σ2 F2 H2 fps2 [L] ∧ H2 L = some u := by
  obtain ⟨n1, n2⟩ := a.fr L List.mem_cons_self
  have nI : ¬ In fps1 L := fun ⟨i, hi⟩ => n2 i hi
  have k : H2 L = some u := b.step.keep L u hu nI
  have s2 := b.step.frame (Q := fun x => x ∈ [L])
  refine ⟨⟨a.step.trans (s2.weak (fun _ h => h) (fun x h => h.elim (fun z => .inl (.inl z)) .inr)), b.g, fun x hx => ?_⟩, k⟩
  rcases List.mem_cons.mp hx with rfl | hx
  · refine ⟨?_, fun i hi => ?_⟩
    · cases e : F2 x with
      | none => rfl
      | some o =>
        rcases b.step.newF x o e with z | z | z
        · rw [n1] at z; cases z
        · exact absurd z nI
        · rw [hu] at z; cases z
    · rcases b.step.newP x (.inl ⟨i, hi⟩) with z | z
      · exact nI z
      · rw [hu] at z; cases z
  · cases hx
/-- .. and written -/
theorem Post.besideW {K : PySem.W.Frag} {c : Ct} {F H F1 H1 : Hp} {fps fps1 : Fps} {e1 : Sl} {σ : St} {L : Addr} {o : HO} (a : Post K c F H fps e1 σ F1 H1 fps1 [L]) (hL : H L = none) : Post K c F H fps e1 σ F1 (upd H1 L o) fps1 [L] := by
  obtain ⟨n1, n2⟩ := a.fr L List.mem_cons_self
  refine ⟨⟨a.step.ex, fun x u e n => ?_, a.step.newF, a.step.newP⟩, ⟨a.g.ex.upd n1, a.g.len, fun i d e => ?_, a.g.out, a.g.dj, a.g.nf, a.g.fx⟩, a.fr⟩
  · rw [upd_ne (ne_of_none e hL)]
    exact a.step.keep x u e n
  · obtain ⟨v, e2, w⟩ := a.g.at_ i d e
    refine ⟨v, e2, w.mono (.refl _) fun x hx => ?_⟩
    have : x ≠ L := fun z => n2 i (z ▸ hx)
    rw [upd_ne this]
section
variable {c : Ct} {X : Cx}
theorem lc_w {own : List (Str × Nat)} {it : M (List D)} {ts : List Nat} {t : Tgt} {cond : M Bool} {me : M D} {σ : St} {H : Hp} {Q : VK} (hts : ∀ k ∈ ts, k ∈ own.map (·.2)) (hsh : ∀ k ∈ own.map (·.2), c.sh k = .fz) (hfx : ∀ k ∈ own.map (·.2), c.fix k = none) :
    T X.K c l1 (dLc it t cond me (own.map (·.2))) σ H Q → tLc (TIt X.K c it) (TGt X.K c.quiet ts t) (TT' X.K c.quiet cond) (T X.K c.quiet .fz me) (own.map (·.2)) σ H Q := by
  generalize hv : own.map (·.2) = vs at hts hsh hfx
  rintro ⟨F, env, fps, g, h⟩
  refine ⟨F, env, fps, g, ?_⟩
  unfold dLc at h
  revert h
  cases it env with
  | er => exact id
  | rs x e' => exact fun h => h
  | ok ds e1 =>
    intro h F1 H1 fps1 J p1 j Dl hD
    have h : Tg X.K c (relV X.K c l1) (if ds.length ≤ line then (noX (lcL t cond me vs ds (wipeE e1 vs))).bind fun acc e2 => .ok (.lst acc) (restore e1 e2 vs) else .er) F H fps σ Q := h
    by_cases hlen : ds.length ≤ line
    · rw [if_pos hlen] at h
      obtain ⟨Gd, Y, wk, hG, hY⟩ := j
      have q1 : G X.K c.quiet F1 (wipeE e1 vs) fps1 (wipe σ vs) H1 := by
        refine ⟨p1.g.ex, by rw [wipeE_length, wipe_length]; exact p1.g.len, fun i d e => ?_, fun i hi => ?_, p1.g.dj, p1.g.nf, fun i v e => ?_⟩
        · obtain ⟨a, b⟩ := wipeE_in e1 e
          obtain ⟨v, e2, w⟩ := p1.g.at_ i d b
          exact ⟨v, by rw [wipe_get a]; exact e2, w⟩
        · by_cases hm : i ∈ vs
          · by_cases hx : ∃ d, e1[i]? = some (some d)
            · obtain ⟨d, hx⟩ := hx
              obtain ⟨v, _, w⟩ := p1.g.at_ i d hx
              rw [hsh i hm] at w
              exact w.rep.2
            · exact p1.g.out i fun d e => hx ⟨d, e⟩
          · refine p1.g.out i fun d e => hi d ?_
            have : ∀ ws : List Nat, i ∉ ws → (wipeE e1 ws)[i]? = e1[i]? := by
              intro ws
              induction ws with
              | nil => intro _; rfl
              | cons w ws ih =>
                intro hw
                unfold wipeE
                rw [List.getElem?_set_ne (fun z => hw (by simp [z]))]
                exact ih fun z => hw (List.mem_cons_of_mem _ z)
            rw [this vs hm]; exact e
        · have hm : i ∉ vs := fun z => by rw [show c.quiet.fix i = c.fix i from rfl, hfx i z] at e; cases e
          rw [wipe_get hm]; exact p1.g.fx i v e
      have n0 := New.own (o := .lst []) q1.ex hD
      have p0 : Post X.K c.quiet F1 H1 fps1 (wipeE e1 vs) (wipe σ vs) F1 (upd H1 Dl (.lst [])) fps1 [Dl] := q1.new n0
      -- what is wanted of the whole
      let Fin : List D → Sl → Prop := fun l eN => ∀ F2 H2 fps2 lv, Post X.K c.quiet F1 H1 fps1 eN (wipe σ vs) F2 H2 fps2 [Dl] → H2 Dl = some (.lst lv) → RepL X.K c.cl F2 lv l → Q (.ref Dl) H2
      have fin : ∀ l eN, (noX (lcL t cond me vs ds (wipeE e1 vs))) = .ok l eN → Fin l eN := fun l eN el F2 H2 fps2 lv p2 hl rl => by
        rw [el] at h
        refine h (.ref Dl) F2 H2 fps2 [Dl] ⟨?_, ⟨p2.g.ex, by rw [restore_length, p2.g.len, wipe_length], fun i d e => ?_, fun i hi => ?_, p2.g.dj, p2.g.nf, fun i v e => p1.g.fx i v e⟩, p2.fr⟩ (.l1 hl rl)
        · exact (p1.step.weak (fun _ h => h) (fun _ h => Or.inl h)).trans p2.step
        · rcases restore_in e with ⟨a, b⟩ | ⟨a, b⟩
          · obtain ⟨v, e2, w⟩ := p1.g.at_ i d b
            rw [hsh i a] at w ⊢
            have hz : fps2 i = [] := by
              refine p2.g.out i fun d' e' => ?_
              obtain ⟨v', e3, _⟩ := p2.g.at_ i d' e'
              have hi : i < σ.length := by
                have := (List.getElem?_eq_some_iff.mp e3).1
                rwa [wipe_length] at this
              rw [wipe_gone a hi] at e3
              cases e3
            rw [hz]
            exact ⟨v, e2, .fz (w.rep.1.mono p2.step.ex)⟩
          · obtain ⟨v, e2, w⟩ := p2.g.at_ i d b
            rw [wipe_get a] at e2
            exact ⟨v, e2, w⟩
        · refine p2.g.out i fun d' e' => ?_
          by_cases hm : i ∈ vs
          · obtain ⟨v', e3, _⟩ := p2.g.at_ i d' e'
            have hi : i < σ.length := by
              have := (List.getElem?_eq_some_iff.mp e3).1
              rwa [wipe_length] at this
            rw [wipe_gone hm hi] at e3
            cases e3
          · refine hi d' ?_
            have : ∀ ws : List Nat, i ∉ ws → (restore e1 eN ws)[i]? = eN[i]? := by
              intro ws
              induction ws with
              | nil => intro _; rfl
              | cons w ws ih =>
                intro hw
                unfold restore
                rw [List.getElem?_set_ne (fun z => hw (by simp [z]))]
                exact ih fun z => hw (List.mem_cons_of_mem _ z)
            rw [this vs hm]; exact e'
      -- the rest of the turns
      let Rest : List D → R (List D) → Prop := fun acc r => match r with
        | .ok l eN => Fin (acc ++ l) eN
        | _ => False
      have rest0 : Rest [] (lcL t cond me vs ds (wipeE e1 vs)) := by
        show match lcL t cond me vs ds (wipeE e1 vs) with | .ok l eN => Fin ([] ++ l) eN | _ => False
        cases el : lcL t cond me vs ds (wipeE e1 vs) with
        | ok l eN => exact fin l eN (by rw [el]; rfl)
        | rs x e => rw [el] at h; exact h.elim
        | er => rw [el] at h; exact h.elim
      have step2 : ∀ {F2 H2 fps2 e2 σ2}, Post X.K c.quiet F1 H1 fps1 e2 σ2 F2 H2 fps2 [Dl] → wipe σ2 vs = wipe σ vs → Post X.K c.quiet F1 H1 fps1 (wipeE e2 vs) (wipe σ vs) F2 H2 fps2 [Dl] := fun {F2 H2 fps2 e2 σ2} p2 hw => by
        have hl : σ2.length = σ.length := by rw [← wipe_length σ2 vs, hw, wipe_length]
        refine ⟨p2.step, ⟨p2.g.ex, by rw [wipeE_length, wipe_length, p2.g.len, hl], fun i d e => ?_, fun i hi => ?_, p2.g.dj, p2.g.nf, fun i v e => ?_⟩, p2.fr⟩
        · obtain ⟨a, b⟩ := wipeE_in e2 e
          obtain ⟨v, e3, w⟩ := p2.g.at_ i d b
          exact ⟨v, by rw [← hw, wipe_get a]; exact e3, w⟩
        · by_cases hm : i ∈ vs
          · by_cases hx : ∃ d, e2[i]? = some (some d)
            · obtain ⟨d, hx⟩ := hx
              obtain ⟨v, _, w⟩ := p2.g.at_ i d hx
              rw [show c.quiet.sh i = c.sh i from rfl, hsh i hm] at w
              exact w.rep.2
            · exact p2.g.out i fun d e => hx ⟨d, e⟩
          · refine p2.g.out i fun d e => hi d ?_
            have : ∀ ws : List Nat, i ∉ ws → (wipeE e2 ws)[i]? = e2[i]? := by
              intro ws
              induction ws with
              | nil => intro _; rfl
              | cons w ws ih =>
                intro hw
                unfold wipeE
                rw [List.getElem?_set_ne (fun z => hw (by simp [z]))]
                exact ih fun z => hw (List.mem_cons_of_mem _ z)
            rw [this vs hm]; exact e
        · have hm : i ∉ vs := fun z => by rw [show c.quiet.fix i = c.fix i from rfl, hfx i z] at e; cases e
          rw [← hw, wipe_get hm]; exact p2.g.fx i v e
      refine lc_it wk (fun i H' => ∃ F' env' fps' av acc, Post X.K c.quiet F1 H1 fps1 env' (wipe σ vs) F' H' fps' [Dl] ∧ H' Dl = some (.lst av) ∧ RepL X.K c.cl F' av acc ∧ acc.length ≤ i ∧ Rest acc (lcL t cond me vs (ds.drop i) env'))
        ⟨F1, wipeE e1 vs, fps1, [], [], p0, upd_same, .nil, Nat.le_refl _, rest0⟩ (fun i H' hi ⟨F', env', fps', av, acc, p, _⟩ => hG H' (p.step.ex.trans p.g.ex)) (fun i x H' H'' hi ⟨F', env', fps', av, acc, p, ha, ra, hz, q⟩ y => ?_) (fun H' ⟨F', env', fps', av, acc, p, ha, ra, hz, q⟩ => ?_)
      · have hd : ds[i]? = some ds[i] := List.getElem?_eq_getElem hi
        obtain ⟨F2, n2, r2⟩ := hY i H' x H'' F' ds[i] p.step.ex p.g.ex y hd
        obtain ⟨p2, ha2⟩ := p.beside ha (p.g.new n2)
        have ra2 := ra.mono n2.step.ex
        rw [List.drop_eq_getElem_cons hi] at q
        unfold lcL at q
        refine ⟨F2, env', fps', ds[i], p2.g, r2, ?_⟩
        cases e2 : t ds[i] env' with
        | none => rw [e2] at q; exact q.elim
        | some env2 =>
          rw [e2] at q
          dsimp only at q ⊢
          intro σ3 F3 H3 fps3 p3 k3
          obtain ⟨p3', ha3⟩ := p2.beside ha2 p3
          have ra3 := ra2.mono p3.step.ex
          have hw3 : wipe σ3 vs = wipe σ vs := by
            have e : wipe (wipe σ vs) vs = wipe σ vs := wipe_same (wipe_length _ _) fun k hk => wipe_get hk
            rw [← e]
            exact wipe_same k3.len fun k hk => k3.at_ k fun z => hk (hts k z)
          refine ⟨hw3, ?_⟩
          -- the test
          have q : Rest acc ((cond env2).bind fun x e2 => if x = true then (me e2).bind fun y e3 => (lcL t cond me vs (ds.drop (i + 1)) (wipeE e3 vs)).bind fun ys e4 => .ok (y :: ys) e4 else lcL t cond me vs (ds.drop (i + 1)) (wipeE e2 vs)) := q
          refine ⟨F3, env2, fps3, p3.g, ?_⟩
          revert q
          cases cond env2 with
          | er => exact id
          | rs x e => exact fun q => q.elim
          | ok b e4 =>
            intro q b' F4 H4 fps4 fpr4 p4 r4
            obtain ⟨rb, rf⟩ := r4
            subst rb; subst rf
            obtain ⟨p4', ha4⟩ := p3'.beside ha3 p4
            have ra4 := ra3.mono p4.step.ex
            cases b' with
            | false =>
              refine iteF ?_
              exact ⟨F4, wipeE e4 vs, fps4, av, acc, step2 p4' hw3, ha4, ra4, by omega, q⟩
            | true =>
              refine iteT ⟨F4, e4, fps4, p4.g, ?_⟩
              have q : Rest acc ((me e4).bind fun y e3 => (lcL t cond me vs (ds.drop (i + 1)) (wipeE e3 vs)).bind fun ys e4 => .ok (y :: ys) e4) := q
              revert q
              cases me e4 with
              | er => exact id
              | rs x e => exact fun q => q.elim
              | ok y e5 =>
                intro q v F5 H5 fps5 fpr5 p5 r5
                obtain ⟨r6, rf⟩ := Own.rep r5
                subst rf
                obtain ⟨p5', ha5⟩ := p4'.beside ha4 p5
                have ra5 := ra4.mono p5.step.ex
                refine ⟨av, ha5, ?_, F5, wipeE e5 vs, fps5, av ++ [v], acc ++ [y], (step2 p5' hw3).besideW hD, upd_same, ra5.append (.cons r6 .nil), by rw [List.length_append]; simp; omega, ?_⟩
                · rw [ra.len]
                  exact Nat.lt_of_lt_of_le (Nat.lt_of_le_of_lt hz hi) (line_eq hlen)
                · revert q
                  show Rest acc ((lcL t cond me vs (ds.drop (i + 1)) (wipeE e5 vs)).bind fun ys e4 => .ok (y :: ys) e4) → Rest (acc ++ [y]) (lcL t cond me vs (ds.drop (i + 1)) (wipeE e5 vs))
                  cases lcL t cond me vs (ds.drop (i + 1)) (wipeE e5 vs) with
                  | er => exact id
                  | rs x e => exact fun q => q
                  | ok l eN =>
                    intro q
                    show Fin (acc ++ [y] ++ l) eN
                    rw [List.append_assoc]
                    exact q
      · rw [List.drop_length] at q
        have q : Fin (acc ++ []) env' := q
        rw [List.append_nil] at q
        exact q F' H' fps' av p ha ra
    · rw [if_neg hlen] at h; exact h.elim
theorem fe_lc {elt tg iter : Expr} {ifs : List Expr} {scope : Scope} {own : List (Str × Nat)} {pos : Pos} {it : M (List D)} {ts : List Nat} {t : Tgt} {cond : M Bool} {me : M D} (hc : X.calm = true) (hN : X.N.Nodup) (hi : FI c X tg iter it) (ok : BlkOk X.N X.env.scope scope own)
    (hts : ∀ k ∈ ts, k ∈ own.map (·.2)) (hsh : ∀ k ∈ own.map (·.2), c.sh k = .fz) (hfx : ∀ k ∈ own.map (·.2), c.fix k = none)
    (hg : ∀ (s : Shared) (H : Hp) (C : Addr) (cl : List (Str × Addr)) (fp : List Addr), FG c.quiet (X.blk s H scope (compEnvC scope cl C X.env) fp) tg ts t) (ht : ∀ (s : Shared) (H : Hp) (C : Addr) (cl : List (Str × Addr)) (fp : List Addr), FTs c.quiet (X.blk s H scope (compEnvC scope cl C X.env) fp) ifs cond)
    (he : ∀ (s : Shared) (H : Hp) (C : Addr) (cl : List (Str × Addr)) (fp : List Addr), FE c.quiet (X.blk s H scope (compEnvC scope cl C X.env) fp) elt .fz me) (hs : ∀ x, foldedSetIterable iter X.env x = pure x := by intro _; rfl) :
    FE c X (.ListComp elt [⟨tg, iter, ifs, 0⟩] scope pos) l1 (dLc it t cond me (own.map (·.2))) := PE.weak (pe_lc (g := TGt X.K c.quiet ts t) (tt := TT' X.K c.quiet cond) (te := T X.K c.quiet .fz me) hc hN hi ok hg ht he hs) fun σ H Q => lc_w hts hsh hfx
/-- name = [..] on one line -/
theorem T.unfz {K : PySem.W.Frag} {o : Sh} {m : M D} {σ : St} {H : Hp} {Q : VK} (h : T K c .fz m σ H Q) : T K c o m σ H Q := by
  obtain ⟨F, env, fps, g, h⟩ := h
  refine ⟨F, env, fps, g, ?_⟩
  revert h
  cases m env with
  | er => exact id
  | rs x e => exact id
  | ok d e => exact fun h v F' H' fps' fpr p w => h v _ H' fps' [] p.freeze (.fz (w.freeze (frozen_ext fun a ha => (p.fr a ha).1) fun a ha => if_pos ha))
theorem sw_lc {elt : Expr} {gs : List Comprehension} {scope : Scope} {pos py : Pos} {y : Str} {l : Nat} {env : Env} (hk : env.scope.kind = .function) (hy : env.scope.names.lookup y = some .local) (hl : (py.line == pos.line) = true) (ha : (scope.names.any fun (n, k) => n == y && (k == .local || k == .cell)) = false) : swapsWith (.ListComp elt gs scope pos) (some (.Name y py)) l env = pure true := sw_true hk hy hl ha
theorem fs_setLc {o : Sh} {elt tg iter : Expr} {ifs : List Expr} {scope : Scope} {own : List (Str × Nat)} {pos spos py : Pos} {y : Str} {it : M (List D)} {ts : List Nat} {t : Tgt} {cond : M Bool} {me : M D} (i : Nat) (hs1 : c.sh i = .fz ∨ c.sh i = l1) (hx : c.fix i = none) (hy : X.N[i]? = some y) (hyl : X.env.scope.names.lookup y = some .local) (hk : X.env.scope.kind = .function) (hl : (py.line == pos.line) = true) (hno : (scope.names.any fun (n, k) => n == y && (k == .local || k == .cell)) = false)
    (hc : X.calm = true) (hN : X.N.Nodup) (hi : FI c X tg iter it) (ok : BlkOk X.N X.env.scope scope own) (hts : ∀ k ∈ ts, k ∈ own.map (·.2)) (hsh : ∀ k ∈ own.map (·.2), c.sh k = .fz) (hfx : ∀ k ∈ own.map (·.2), c.fix k = none)
    (hg : ∀ (s : Shared) (H : Hp) (C : Addr) (cl : List (Str × Addr)) (fp : List Addr), FG c.quiet (X.blk s H scope (compEnvC scope cl C X.env) fp) tg ts t) (ht : ∀ (s : Shared) (H : Hp) (C : Addr) (cl : List (Str × Addr)) (fp : List Addr), FTs c.quiet (X.blk s H scope (compEnvC scope cl C X.env) fp) ifs cond)
    (he : ∀ (s : Shared) (H : Hp) (C : Addr) (cl : List (Str × Addr)) (fp : List Addr), FE c.quiet (X.blk s H scope (compEnvC scope cl C X.env) fp) elt .fz me) (hs : ∀ x, foldedSetIterable iter X.env x = pure x := by intro _; rfl) :
    FS c X (.Assign [.Name y py] (.ListComp elt [⟨tg, iter, ifs, 0⟩] scope pos) spos) o (sSet i (dLc it t cond me (own.map (·.2)))) :=
  PS.weak (ps_setLc (g := TGt X.K c.quiet ts t) (tt := TT' X.K c.quiet cond) (te := T X.K c.quiet .fz me) hc hN hy hyl (sw_lc hk hyl hl hno) hi ok hg ht he hs) fun D σ H => by
    rintro ⟨F, env, fps, g, h⟩
    refine lc_w hts hsh hfx ?_
    rcases hs1 with z | z
    · refine T.unfz ((T.thenO g h).mono fun x H1 ⟨d, F1, fps1, fpr, e1, p1, o1, h1⟩ => ?_)
      obtain ⟨fps2, p2⟩ := p1.set (i := i) (z ▸ o1) hx
      exact h1 _ F1 H1 fps2 p2
    · refine (T.thenO g h).mono fun x H1 ⟨d, F1, fps1, fpr, e1, p1, o1, h1⟩ => ?_
      obtain ⟨fps2, p2⟩ := p1.set (i := i) (z ▸ o1) hx
      exact h1 _ F1 H1 fps2 p2
end
end FL
namespace FL
open PySem PySem.Spec L2
open PyProof.Rows hiding St
/-! ### defs -/
/-- what a call gives: its datum, what became of the owned arguments -/
inductive RF where
  | ok (d : D) (outs : Sl)
  | rs (x : Exn) (outs : Sl)
  | er
abbrev Fn := List D → RF
/-- the values os are put at the slots js -/
def putS : List Nat → Sl → Sl → Sl
  | j :: js, o :: os, e => (putS js os e).set j o
  | _, _, e => e
def getS (js : List Nat) (e : Sl) : Sl := js.map fun j => (e[j]?).getD none
def runF (n np : Nat) (ow : List Nat) (nxok : Bool) (body : MS) : Fn := fun ds => if ds.length = np then (match body (ds.map some ++ List.replicate (n - np) none) with
  | .rt d e => .ok d (getS ow e)
  | .nx e => if nxok = true then .ok .non (getS ow e) else .er
  | .rs x e => .rs x (getS ow e)
  | _ => .er) else .er
/-- how the parameters are held -/
def shOf : List (Nat × Sh) → Nat → Sh
  | [], _ => .fz
  | (j, s) :: r, i => if i == j then s else shOf r i
def fixOf : List Nat → List V → Nat → Option V
  | [], _, _ => none
  | j :: r, vs, i => if i == j then vs[i]? else fixOf r vs i
theorem fixOf_some {vs : List V} {i : Nat} {v : V} : ∀ {ow : List Nat}, fixOf ow vs i = some v → i ∈ ow ∧ vs[i]? = some v
  | [], h => by cases h
  | j :: r, h => by
    unfold fixOf at h
    split at h
    · rename_i e
      exact ⟨by simp [beq_iff_eq.mp e], h⟩
    · obtain ⟨a, b⟩ := fixOf_some h
      exact ⟨List.mem_cons_of_mem _ a, b⟩
theorem fixOf_mem {vs : List V} {i : Nat} : ∀ {ow : List Nat}, i ∈ ow → fixOf ow vs i = vs[i]?
  | [], h => by cases h
  | j :: r, h => by
    unfold fixOf
    split
    · rfl
    · rename_i e
      rcases List.mem_cons.mp h with z | z
      · exact absurd (beq_iff_eq.mpr z) e
      · exact fixOf_mem z
def c0 (cl : Nat → Addr) (sh : Nat → Sh) : Ct := ⟨cl, sh, fun _ => none, fun _ _ _ _ => False⟩
/-- the promise of a def: by its denotation f; np parameters, ow those that are owned (held as sh says), o how its answer is held -/
def spF (K : PySem.W.Frag) (cl : Nat → Addr) (sh : Nat → Sh) (ow : List Nat) (o : Sh) (np : Nat) (f : Fn) : Sp := fun vs H Q E => vs.length = np ∧ ∃ F ds fps, G K (c0 cl sh) F (ds.map some) fps (vs.map some) H ∧ match f ds with
  | .ok d os => ∀ v F' H' fps' fpr, Post K (c0 cl sh) F H fps (putS ow os (List.replicate np none)) (vs.map some) F' H' fps' fpr → Own K cl F' H' o v d fpr → Q v H'
  | .rs x os => ∀ dx F' H' fps', Post K (c0 cl sh) F H fps (putS ow os (List.replicate np none)) (vs.map some) F' H' fps' [] → RepX K cl F' H' x dx → E (.ref (cl x.c)) (some dx) H'
  | .er => False
theorem putS_length : ∀ (js : List Nat) (os e : Sl), (putS js os e).length = e.length
  | [], _, _ => rfl
  | _ :: _, [], _ => rfl
  | j :: js, o :: os, e => by unfold putS; rw [List.length_set, putS_length js os e]
theorem putS_out {e : Sl} {i : Nat} : ∀ {js : List Nat} {os : Sl}, i ∉ js → (putS js os e)[i]? = e[i]?
  | [], _, _ => rfl
  | _ :: _, [], _ => rfl
  | j :: js, o :: os, h => by
    unfold putS
    rw [List.getElem?_set_ne (fun z => h (by simp [z]))]
    exact putS_out fun z => h (List.mem_cons_of_mem _ z)
theorem putS_in {e : Sl} {k : Nat} : ∀ {js : List Nat} {os : Sl} {j : Nat} {o : Option D}, js.Nodup → js[k]? = some j → os[k]? = some o → j < e.length → (putS js os e)[j]? = some o := by
  induction k with
  | zero =>
    intro js os j o nd h1 h2 hl
    cases js with
    | nil => cases h1
    | cons a js =>
      cases os with
      | nil => cases h2
      | cons b os =>
        simp at h1 h2; subst h1; subst h2
        unfold putS
        rw [List.getElem?_set_self (by rw [putS_length]; exact hl)]
  | succ k ih =>
    intro js os j o nd h1 h2 hl
    cases js with
    | nil => cases h1
    | cons a js =>
      cases os with
      | nil => cases h2
      | cons b os =>
        simp at h1 h2
        obtain ⟨n1, n2⟩ := List.nodup_cons.mp nd
        unfold putS
        have : a ≠ j := fun z => n1 (by rw [z]; exact List.mem_of_getElem? h1)
        rw [List.getElem?_set_ne this]
        exact ih n2 h1 h2 hl
theorem getS_get {js : List Nat} {e : Sl} {k j : Nat} (h : js[k]? = some j) : (getS js e)[k]? = some ((e[j]?).getD none) := by
  unfold getS
  rw [List.getElem?_map, h]; rfl
theorem start_get {N : List Str} {vs : List V} {i : Nat} (h : i < vs.length) : (L2.start N vs)[i]? = (vs.map some)[i]? := by
  unfold L2.start
  rw [List.getElem?_append_left (by rw [List.length_map]; exact h)]
section
variable {P : Program} {w : World} {K : PySem.W.Frag} {mg : Str → Option Value} {base : Heap} {cl : Nat → Addr}
/-- the context of a def's rules -/
def ctF (cl : Nat → Addr) (sh : Nat → Sh) (ow : List Nat) (vs : List V) (E : XK) : Ct := ⟨cl, sh, fixOf ow vs, fun cls d _ H => E cls d H⟩
theorem startG {N : List Str} {sh : Nat → Sh} {ow : List Nat} {E : XK} {np : Nat} {vs : List V} {F H : Hp} {ds : List D} {fps : Fps} (hN : np ≤ N.length) (hl : vs.length = np) (how : ∀ i, sh i ≠ .fz → i < np → i ∈ ow) (how2 : ∀ i ∈ ow, i < np) (g : G K (c0 cl sh) F (ds.map some) fps (vs.map some) H) :
    G K (ctF cl sh ow vs E) F (ds.map some ++ List.replicate (N.length - np) none) fps (L2.start N vs) H := by
  have dl : ds.length = np := by have := g.len; rw [List.length_map, List.length_map] at this; omega
  have lt : ∀ i d, (ds.map some ++ List.replicate (N.length - np) none)[i]? = some (some d) → i < np ∧ (ds.map some)[i]? = some (some d) := fun i d e => by
    by_cases hi : i < ds.length
    · rw [List.getElem?_append_left (by rw [List.length_map]; exact hi)] at e
      exact ⟨by omega, e⟩
    · rw [List.getElem?_append_right (by rw [List.length_map]; omega)] at e
      have := List.mem_of_getElem? e
      have := List.eq_of_mem_replicate this
      cases this
  refine ⟨g.ex, ?_, fun i d e => ?_, fun i hi => ?_, g.dj, g.nf, fun i v e => ?_⟩
  · unfold L2.start
    rw [List.length_append, List.length_append, List.length_map, List.length_map, List.length_replicate, List.length_replicate, dl, hl]
  · obtain ⟨a, b⟩ := lt i d e
    obtain ⟨v, e2, o⟩ := g.at_ i d b
    exact ⟨v, by rw [start_get (by omega)]; exact e2, o⟩
  · refine g.out i fun d e => hi d ?_
    have : i < (ds.map some).length := (List.getElem?_eq_some_iff.mp e).1
    rw [List.getElem?_append_left this]; exact e
  · obtain ⟨a, b⟩ := fixOf_some e
    rw [start_get (by rw [hl]; exact how2 i a), List.getElem?_map, b]; rfl
/-- the promise, at the body's start -/
theorem spF_body {N : List Str} {np : Nat} {sh : Nat → Sh} {ow : List Nat} {o : Sh} {nxok : Bool} {body : MS} {vs : List V} {H : Hp} {Q : VK} {E : XK} (hN : np ≤ N.length)
    (hnd : ow.Nodup) (how : ∀ i, sh i ≠ .fz → i < np → i ∈ ow) (how2 : ∀ i ∈ ow, i < np) (hnx : nxok = true → o = .fz) (h : spF K cl sh ow o np (runF N.length np ow nxok body) vs H Q E) :
    TSm K (ctF cl sh ow vs E) o body { nx := fun _ H' => Q .non H', rt := Q } (L2.start N vs) H := by
  obtain ⟨hl, F, ds, fps, g, h⟩ := h
  have dl : ds.length = np := by have := g.len; rw [List.length_map, List.length_map] at this; omega
  have g1 := startG (E := E) hN hl how how2 g
  refine ⟨F, _, fps, g1, ?_⟩
  unfold runF at h
  rw [if_pos dl] at h
  -- from the body's end to the promise's
  have key : ∀ {e' σ' F' H' fps' fpr}, Post K (ctF cl sh ow vs E) F H fps e' σ' F' H' fps' fpr → Post K (c0 cl sh) F H fps (putS ow (getS ow e') (List.replicate np none)) (vs.map some) F' H' (fun i => if i ∈ ow then fps' i else []) fpr := fun {e' σ' F' H' fps' fpr} p => by
    have inw : ∀ a i, a ∈ (if i ∈ ow then fps' i else []) → i ∈ ow ∧ a ∈ fps' i := fun a i ha => by
      split at ha
      · rename_i h; exact ⟨h, ha⟩
      · cases ha
    refine ⟨p.step.weak (fun _ h => h) (fun a h => h.imp (fun ⟨i, hi⟩ => ⟨i, (inw a i hi).2⟩) id), ⟨p.g.ex, by rw [putS_length, List.length_replicate, List.length_map, hl], fun i d e => ?_, fun i hi => ?_, fun i j a hi hj => p.g.dj i j a (inw a i hi).2 (inw a j hj).2, fun i a ha => p.g.nf i a (inw a i ha).2, fun i v e => by cases e⟩, fun a ha => ⟨(p.fr a ha).1, fun i hi => (p.fr a ha).2 i (inw a i hi).2⟩⟩
    · by_cases hm : i ∈ ow
      · obtain ⟨k, hk⟩ := List.mem_iff_getElem?.mp hm
        rw [putS_in hnd hk (getS_get hk) (by rw [List.length_replicate]; exact how2 i hm)] at e
        have e : e'[i]? = some (some d) := by
          cases q : e'[i]? with
          | none => rw [q] at e; cases e
          | some z => rw [q] at e; rw [← Option.some.inj e]; rfl
        obtain ⟨v, e2, ow'⟩ := p.g.at_ i d e
        have hv : i < vs.length := by rw [hl]; exact how2 i hm
        have fx := p.g.fx i vs[i] (by show fixOf ow vs i = _; rw [fixOf_mem hm]; exact List.getElem?_eq_getElem hv)
        rw [fx] at e2
        cases e2
        refine ⟨vs[i], by rw [List.getElem?_map, List.getElem?_eq_getElem hv]; rfl, ?_⟩
        rw [if_pos hm]; exact ow'
      · rw [putS_out hm] at e
        have := List.mem_of_getElem? e
        have := List.eq_of_mem_replicate this
        cases this
    · by_cases hm : i ∈ ow
      · rw [if_pos hm]
        refine p.g.out i fun d e => hi d ?_
        obtain ⟨k, hk⟩ := List.mem_iff_getElem?.mp hm
        rw [putS_in hnd hk (getS_get hk) (by rw [List.length_replicate]; exact how2 i hm), e]; rfl
      · rw [if_neg hm]
  revert h
  cases body (ds.map some ++ List.replicate (N.length - np) none) with
  | rt d e' => exact fun h v σ' F' H' fps' fpr p q => h v F' H' _ fpr (key p) q
  | nx e' =>
    intro h σ' F' H' fps' p
    cases nxok with
    | false => exact h.elim
    | true =>
      have z := hnx rfl
      subst z
      exact h .non F' H' _ [] (key p) (.fz .non)
  | rs x e' => exact fun h dx σ' F' H' fps' p q => h dx F' H' _ (key p) q
  | bk e' => exact fun h => h.elim
  | ct e' => exact fun h => h.elim
  | er => exact fun h => h.elim
/-- THE RULE for a def -/
theorem fn_ok {x qual : Str} {st : Stmt} {f : Addr} {fd : FuncData} {N ps : List Str} {k np : Nat} {sh : Nat → Sh} {ow : List Nat} {o : Sh} {nxok : Bool} {body : MS} (Fu : Fun K x qual st f fd) (S : FnScope N ps (defScope st)) (hnp : ps.length = np) (hN : np ≤ N.length)
    (hnd : ow.Nodup) (how : ∀ i, sh i ≠ .fz → i < np → i ∈ ow) (how2 : ∀ i ∈ ow, i < np) (hnx : nxok = true → o = .fz)
    (hbody : ∀ (cdv : Value) (A : Around) (outer : List Env) (s : Shared) (H : Hp) (vs : List V) (E : XK), Room k (A.deeper (envOfC qual (defScope st) s.heap.objs.size f cdv)) →
      FSs (ctF cl sh ow vs E) (cxOf (L2.CX P w) P w K mg base N qual (defScope st) f cdv A outer s H E) (defBody st) o body) :
    FnOk P w K mg base (L2.CX P w) (k + 1) f fd ps (spF K cl sh ow o np (runF N.length np ow nxok body)) :=
  Fu.okX S (fun vs H Q E h => by rw [hnp]; exact h.1) (fun cdv A outer s H vs Q E hr h => ⟨_, hbody cdv A outer s H vs E hr, spF_body hN hnd how how2 hnx h⟩)
/-- nothing is promised: a recursion's end -/
theorem spF_er {sh : Nat → Sh} {ow : List Nat} {o : Sh} {np : Nat} {vs : List V} {H : Hp} {Q : VK} {E : XK} : ¬ spF K cl sh ow o np (fun _ => .er) vs H Q E := fun ⟨_, _, _, _, _, h⟩ => h
end
/-! ### calls -/
/-- the argument list of a call: kinds says at each place which slot is lent (some j), or that a value is handed (none) -/
def relA (K : PySem.W.Frag) (c : Ct) (σ : St) (kinds : List (Option Nat)) : List D → List V → Hp → Hp → List Addr → Prop := fun ds vs F _ fpr => fpr = [] ∧ vs.length = kinds.length ∧ ds.length = kinds.length ∧
  (∀ (i : Nat) (v : V) (d : D), kinds[i]? = some none → vs[i]? = some v → ds[i]? = some d → Rep K c.cl F v d) ∧ ∀ (i j : Nat) (v : V), kinds[i]? = some (some j) → vs[i]? = some v → σ[j]? = some (some v)
def TAm (K : PySem.W.Frag) (c : Ct) (kinds : List (Option Nat)) (m : M (List D)) : TA := fun σ H Q => ∃ F env fps, G K c F env fps σ H ∧ Tg K c (relA K c σ kinds) (m env) F H fps σ Q
abbrev FAm (c : Ct) (X : Cx) (es : List Expr) (kinds : List (Option Nat)) (m : M (List D)) : Prop := PA X es (TAm X.K c kinds m)
section
variable {c : Ct} {X : Cx} {e : Expr} {es : List Expr} {kinds : List (Option Nat)} {da : M D} {ml : M (List D)} {pos : Pos}
theorem fam_nil : FAm c X [] [] dNil := PA.weak pa_nil fun σ H Q => by
  rintro ⟨F, env, fps, gg, h⟩
  exact h [] F H fps [] (Post.refl gg) ⟨rfl, rfl, rfl, fun i v d h => by simp at h, fun i j v h => by simp at h⟩
theorem TAm.one {K : PySem.W.Frag} {γ δ : Type} {rel' : γ → δ → Hp → Hp → List Addr → Prop} {σ : St} {F H : Hp} {fps : Fps} {env : Sl} {Q : δ → Hp → Prop} {ma : M (List D)} {k : List D → Sl → R γ} (g : G K c F env fps σ H) (h : Tg K c rel' ((ma env).bind k) F H fps σ Q) :
    TAm K c kinds ma σ H (fun vs H1 => ∃ ds F1 fps1 e1, Post K c F H fps e1 σ F1 H1 fps1 [] ∧ relA K c σ kinds ds vs F1 H1 [] ∧ Tg K c rel' (k ds e1) F1 H1 fps1 σ Q) :=
  ⟨F, env, fps, g, (Tg.bind h).mono fun x H1 ⟨d1, F1, fps1, fpr, e1, p1, r1, h1⟩ => by
    have e := r1.1
    subst e
    exact ⟨d1, F1, fps1, e1, p1, r1, h1 rfl⟩⟩
theorem TAm.mono {K : PySem.W.Frag} {m : M (List D)} {σ : St} {H : Hp} {Q Q' : List V → Hp → Prop} (h : TAm K c kinds m σ H Q) (hq : ∀ v H', Q v H' → Q' v H') : TAm K c kinds m σ H Q' :=
  let ⟨F, env, fps, g, t⟩ := h; ⟨F, env, fps, g, t.mono hq⟩
theorem fam_fz (ha : FE c X e .fz da) (hr : FAm c X es kinds ml) (hs : starEach (e :: es) X.env = (false, eval e X.env) :: starEach es X.env := by rfl) : FAm c X (e :: es) (none :: kinds) (dCons da ml) := PA.weak (pa_cons ha hr hs) fun σ H Q => by
  rintro ⟨F, env, fps, gg, h⟩
  refine (T.one gg h).mono fun x H1 ⟨d1, F1, fps1, e1, p1, r1, h1⟩ => (TAm.one p1.g h1).mono fun vs H2 ⟨ds, F2, fps2, e2, p2, ⟨_, a1, a2, a3, a4⟩, h2⟩ => ?_
  refine h2 (x :: vs) F2 H2 fps2 [] (Post.refl p2.g) ⟨rfl, by simp [a1], by simp [a2], fun i v d h1 h2 h3 => ?_, fun i j v h1 h2 => ?_⟩
  · cases i with
    | zero => simp at h2 h3; subst h2; subst h3; exact r1.mono p2.step.ex
    | succ i => exact a3 i v d (by simpa using h1) (by simpa using h2) (by simpa using h3)
  · cases i with
    | zero => simp at h1
    | succ i => exact a4 i j v (by simpa using h1) (by simpa using h2)
/-- an owned name is lent -/
theorem fam_own (j : Nat) {x : Str} {p : Pos} (hr : FAm c X es kinds ml) (hfx : c.fix j = none ∨ True := by exact .inr trivial) (hN : X.N[j]? = some x := by rfl) (hv : Vis X.env.scope x := by first | exact Or.inl rfl | exact Or.inr (Or.inl rfl) | exact Or.inr (Or.inr rfl)) (hd : (x == ("__debug__" : Str)) = false := by decide)
    (hcd : (x == ("__classdict__" : Str)) = false := by decide) (hs : starEach (.Name x p :: es) X.env = (false, eval (.Name x p) X.env) :: starEach es X.env := by rfl) :
    FAm c X (.Name x p :: es) (some j :: kinds) (dCons (dVar j) ml) := PA.weak (pa_cons (pe_var hN hv hd hcd) hr hs) fun σ H Q => by
  rintro ⟨F, env, fps, gg, h⟩
  unfold dCons dVar at h
  cases ej : env[j]? with
  | none => rw [ej] at h; exact h.elim
  | some od =>
    cases od with
    | none => rw [ej] at h; exact h.elim
    | some d =>
      rw [ej] at h
      obtain ⟨v, ev, _⟩ := gg.at_ j d ej
      refine ⟨v, ev, (TAm.one gg h).mono fun vs H2 ⟨ds, F2, fps2, e2, p2, ⟨_, a1, a2, a3, a4⟩, h2⟩ => ?_⟩
      refine h2 (v :: vs) F2 H2 fps2 [] (Post.refl p2.g) ⟨rfl, by simp [a1], by simp [a2], fun i w d h1 h2 h3 => ?_, fun i j' w h1 h2 => ?_⟩
      · cases i with
        | zero => simp at h1
        | succ i => exact a3 i w d (by simpa using h1) (by simpa using h2) (by simpa using h3)
      · cases i with
        | zero => simp at h1 h2; subst h1; subst h2; exact ev
        | succ i => exact a4 i j' w (by simpa using h1) (by simpa using h2)
end
/-- the data of the arguments as they stand at the call -/
def fillK : List (Option Nat) → List D → Sl → Option (List D)
  | [], [], _ => some []
  | none :: ks, d :: ds, e => (fillK ks ds e).map (d :: ·)
  | some j :: ks, _ :: ds, e => match e[j]? with
    | some (some d) => (fillK ks ds e).map (d :: ·)
    | _ => none
  | _, _, _ => none
theorem fillK_spec {e : Sl} : ∀ {ks : List (Option Nat)} {ds ds' : List D}, fillK ks ds e = some ds' → ds'.length = ks.length ∧ (∀ i : Nat, ks[i]? = some none → ds'[i]? = ds[i]?) ∧ ∀ i j : Nat, ks[i]? = some (some j) → e[j]? = (ds'[i]?).map some
  | [], [], ds', h => by cases h; exact ⟨rfl, fun i h => by simp at h, fun i j h => by simp at h⟩
  | none :: ks, d :: ds, ds', h => by
    unfold fillK at h
    cases q : fillK ks ds e with
    | none => rw [q] at h; cases h
    | some l =>
      rw [q] at h; cases h
      obtain ⟨a, b, c⟩ := fillK_spec q
      refine ⟨by simp [a], fun i h => ?_, fun i j h => ?_⟩
      · cases i with
        | zero => rfl
        | succ i => simpa using b i (by simpa using h)
      · cases i with
        | zero => simp at h
        | succ i => simpa using c i j (by simpa using h)
  | some j :: ks, d :: ds, ds', h => by
    unfold fillK at h
    split at h
    · rename_i d0 e0
      cases q : fillK ks ds e with
      | none => rw [q] at h; cases h
      | some l =>
        rw [q] at h; cases h
        obtain ⟨a, b, c⟩ := fillK_spec q
        refine ⟨by simp [a], fun i h => ?_, fun i j h => ?_⟩
        · cases i with
          | zero => simp at h
          | succ i => simpa using b i (by simpa using h)
        · cases i with
          | zero => simp at h; subst h; exact e0
          | succ i => simpa using c i j (by simpa using h)
    · cases h
  | [], _ :: _, _, h => by cases h
  | none :: _, [], _, h => by cases h
  | some _ :: _, [], _, h => by cases h
def dCallF (f : Fn) (kinds : List (Option Nat)) (js : List Nat) (dds : List D) (m : M (List D)) : M D := fun e => (m e).bind fun ds e1 => match fillK kinds ds e1 with
  | none => .er
  | some ds' => match f (ds' ++ dds) with
    | .ok d os => .ok d (putS js os e1)
    | .rs x os => .rs x (putS js os e1)
    | .er => .er
/-- kinds, the callee's owned parameters ow and the caller's slots js fit -/
def okK (kinds : List (Option Nat)) (ow js : List Nat) : Bool := (ow.map (kinds[·]?) == js.map fun j => some (some j)) && (List.range kinds.length).all (fun i => match kinds[i]? with
  | some (some _) => ow.contains i
  | _ => true) && decide js.Nodup && decide ow.Nodup
theorem okK_spec {kinds : List (Option Nat)} {ow js : List Nat} (h : okK kinds ow js = true) : (∀ k i j : Nat, ow[k]? = some i → js[k]? = some j → kinds[i]? = some (some j)) ∧ ow.length = js.length ∧ (∀ i j : Nat, kinds[i]? = some (some j) → i ∈ ow) ∧ js.Nodup ∧ ow.Nodup := by
  unfold okK at h
  simp only [Bool.and_eq_true, decide_eq_true_eq] at h
  obtain ⟨⟨⟨h1, h2⟩, h3⟩, h4⟩ := h
  have e := eq_of_beq h1
  refine ⟨fun k i j a b => ?_, ?_, fun i j a => ?_, h3, h4⟩
  · have q := congrArg (fun l => l[k]?) e
    simp only [List.getElem?_map, a, b, Option.map_some] at q
    exact Option.some.inj q
  · have q := congrArg List.length e
    simpa using q
  · have hi : i < kinds.length := (List.getElem?_eq_some_iff.mp a).1
    have q := List.all_eq_true.mp h2 i (List.mem_range.mpr hi)
    rw [a] at q
    simpa using q
/-- as many answers as owned parameters -/
def OutsOk (f : Fn) (n : Nat) : Prop := (∀ ds d os, f ds = .ok d os → os.length = n) ∧ ∀ ds x os, f ds = .rs x os → os.length = n
theorem runF_outs {n np : Nat} {ow : List Nat} {nx : Bool} {b : MS} : OutsOk (runF n np ow nx b) ow.length := by
  have l : ∀ e, (getS ow e).length = ow.length := fun e => by unfold getS; rw [List.length_map]
  constructor
  · intro ds d os h
    unfold runF at h
    split at h
    · split at h
      · cases h; exact l _
      · split at h
        · cases h; exact l _
        · cases h
      · cases h
      · cases h
    · cases h
  · intro ds d os h
    unfold runF at h
    split at h
    · split at h
      · cases h
      · split at h
        · cases h
        · cases h
      · cases h; exact l _
      · cases h
    · cases h
theorem er_outs {n : Nat} : OutsOk (fun _ => .er) n := ⟨fun _ _ _ h => (by cases h), fun _ _ _ h => (by cases h)⟩
/-- the footprints behind a call -/
def selF (js ow : List Nat) (fps' fps1 : Fps) : Fps := fun j => match js.findIdx? (· == j) with
  | some k => (match ow[k]? with
    | some i => fps' i
    | none => [])
  | none => fps1 j
theorem selF_at {js ow : List Nat} {fps' fps1 : Fps} (jn : js.Nodup) {k i j : Nat} (ho : ow[k]? = some i) (hj : js[k]? = some j) : selF js ow fps' fps1 j = fps' i := by
  unfold selF
  have e : js.findIdx? (· == j) = some k := by
    rw [List.findIdx?_eq_some_iff_getElem]
    obtain ⟨z1, z2⟩ := List.getElem?_eq_some_iff.mp hj
    refine ⟨z1, by rw [z2]; exact beq_self_eq_true j, fun m hm => ?_⟩
    intro z
    have z := beq_iff_eq.mp z
    have := (List.getElem_inj jn).mp (z.trans z2.symm)
    omega
  rw [e]
  dsimp only
  rw [ho]
theorem selF_off {js ow : List Nat} {fps' fps1 : Fps} {j : Nat} (hj : j ∉ js) : selF js ow fps' fps1 j = fps1 j := by
  unfold selF
  have e : js.findIdx? (· == j) = none := by
    rw [List.findIdx?_eq_none_iff]
    intro x hx
    exact beq_eq_false_iff_ne.mpr fun z => hj (z ▸ hx)
  rw [e]
section
variable {K : PySem.W.Frag} {c : Ct} {σ : St} {F1 H1 : Hp} {fps1 : Fps} {e1 : Sl} {Q : VK}
/-- the state from which a callee starts, and back -/
theorem call_ok {kinds : List (Option Nat)} {js ow : List Nat} {sh : Nat → Sh} {o : Sh} {np : Nat} {f : Fn} {ds dds ds' : List D} {vs dvs : List V} {F H : Hp} {fps : Fps} (g : G K c F1 e1 fps1 σ H1) (r : relA K c σ kinds ds vs F1 H1 []) (hd : ∀ F, RepL K c.cl F dvs dds)
    (hk : okK kinds ow js = true) (hsh : ∀ i j : Nat, kinds[i]? = some (some j) → sh i = c.sh j) (hsn : ∀ i : Nat, i ∉ ow → sh i = .fz) (hnp : kinds.length + dds.length = np) (hf : fillK kinds ds e1 = some ds') (hos : OutsOk f ow.length)
    (h : Tg K c (relV K c o) (match f (ds' ++ dds) with | .ok d os => .ok d (putS js os e1) | .rs x os => .rs x (putS js os e1) | .er => .er) F1 H1 fps1 σ Q) : spF K c.cl sh ow o np f (vs ++ dvs) H1 Q (fun cls d H => c.W cls d σ H) := by
  obtain ⟨_, a1, a2, a3, a4⟩ := r
  obtain ⟨k1, k2, k3, jn, on⟩ := okK_spec hk
  obtain ⟨f1, f2, f3⟩ := fillK_spec hf
  have dl := (hd F1).len
  have inV : ∀ i : Nat, i < kinds.length → (vs ++ dvs)[i]? = vs[i]? := fun i hi => List.getElem?_append_left (by omega)
  have inD : ∀ i : Nat, i < kinds.length → (ds' ++ dds)[i]? = ds'[i]? := fun i hi => List.getElem?_append_left (by omega)
  -- the callee's footprints
  let fp : Fps := fun i => match kinds[i]? with
    | some (some j) => fps1 j
    | _ => []
  have fp_in : ∀ i a, a ∈ fp i → ∃ j, kinds[i]? = some (some j) ∧ a ∈ fps1 j := fun i a ha => by
    show ∃ j, kinds[i]? = some (some j) ∧ a ∈ fps1 j
    have ha : a ∈ (match kinds[i]? with | some (some j) => fps1 j | _ => []) := ha
    split at ha
    · rename_i j e; exact ⟨j, e, ha⟩
    · cases ha
  have fp_of : ∀ i j : Nat, kinds[i]? = some (some j) → fp i = fps1 j := fun i j e => by
    show (match kinds[i]? with | some (some j) => fps1 j | _ => []) = _
    rw [e]
  have jix : ∀ i j : Nat, kinds[i]? = some (some j) → ∃ k, ow[k]? = some i ∧ js[k]? = some j := fun i j e => by
    obtain ⟨k, hk⟩ := List.mem_iff_getElem?.mp (k3 i j e)
    have : k < js.length := by rw [← k2]; exact (List.getElem?_eq_some_iff.mp hk).1
    have q := k1 k i js[k] hk (List.getElem?_eq_getElem this)
    rw [e] at q
    cases q
    exact ⟨k, hk, List.getElem?_eq_getElem this⟩
  have g0 : G K (c0 c.cl sh) F1 ((ds' ++ dds).map some) fp ((vs ++ dvs).map some) H1 := by
    refine ⟨g.ex, by simp; omega, fun i d e => ?_, fun i hi => ?_, fun i i' a hi hi' => ?_, fun i a ha => ?_, fun i v e => by cases e⟩
    · rw [List.getElem?_map] at e
      have e : (ds' ++ dds)[i]? = some d := by
        cases q : (ds' ++ dds)[i]? with
        | none => rw [q] at e; cases e
        | some z => rw [q] at e; cases e; rfl
      by_cases hi : i < kinds.length
      · rw [inD i hi] at e
        cases q : kinds[i]? with
        | none => rw [List.getElem?_eq_none_iff] at q; omega
        | some kd =>
          cases kd with
          | none =>
            have hv : i < vs.length := by omega
            have e' := f2 i q
            rw [e] at e'
            refine ⟨vs[i], by rw [List.getElem?_map, inV i hi, List.getElem?_eq_getElem hv]; rfl, ?_⟩
            have hs : sh i = .fz := hsn i fun hm => by
              obtain ⟨k, hk⟩ := List.mem_iff_getElem?.mp hm
              have : k < js.length := by rw [← k2]; exact (List.getElem?_eq_some_iff.mp hk).1
              have z := k1 k i js[k] hk (List.getElem?_eq_getElem this)
              rw [q] at z; cases z
            have hfp : fp i = [] := by
              show (match kinds[i]? with | some (some j) => fps1 j | _ => []) = _
              rw [q]
            rw [hfp]
            show Own K c.cl F1 H1 (sh i) vs[i] d []
            rw [hs]
            exact .fz (a3 i _ d q (List.getElem?_eq_getElem hv) e'.symm)
          | some j =>
            have hv : i < vs.length := by omega
            have e' := f3 i j q
            rw [e] at e'
            obtain ⟨v, e2, ow'⟩ := g.at_ j d e'
            have e3 := a4 i j _ q (List.getElem?_eq_getElem hv)
            rw [e2] at e3
            cases e3
            refine ⟨vs[i], by rw [List.getElem?_map, inV i hi, List.getElem?_eq_getElem hv]; rfl, ?_⟩
            rw [fp_of i j q]
            show Own K c.cl F1 H1 (sh i) vs[i] d (fps1 j)
            rw [hsh i j q]
            exact ow'
      · rw [List.getElem?_append_right (by omega)] at e
        obtain ⟨v, hv, rv⟩ := (hd F1).get e
        have q : kinds[i]? = none := List.getElem?_eq_none (by omega)
        have hs : sh i = .fz := hsn i fun hm => by
          obtain ⟨k, hk⟩ := List.mem_iff_getElem?.mp hm
          have : k < js.length := by rw [← k2]; exact (List.getElem?_eq_some_iff.mp hk).1
          have z := k1 k i js[k] hk (List.getElem?_eq_getElem this)
          rw [q] at z; cases z
        have hfp : fp i = [] := by
          show (match kinds[i]? with | some (some j) => fps1 j | _ => []) = _
          rw [q]
        refine ⟨v, by rw [List.getElem?_map, List.getElem?_append_right (by omega), show i - vs.length = i - ds'.length by omega, hv]; rfl, ?_⟩
        rw [hfp]
        show Own K c.cl F1 H1 (sh i) v d []
        rw [hs]
        exact .fz rv
    · show (match kinds[i]? with | some (some j) => fps1 j | _ => []) = _
      split
      · rename_i j q
        exfalso
        have hi' : i < kinds.length := (List.getElem?_eq_some_iff.mp q).1
        have hd' : i < ds'.length := by omega
        exact hi ds'[i] (by rw [List.getElem?_map, inD i hi', List.getElem?_eq_getElem hd']; rfl)
      · rfl
    · obtain ⟨j, e1, b1⟩ := fp_in i a hi
      obtain ⟨j', e2, b2⟩ := fp_in i' a hi'
      have ej := g.dj j j' a b1 b2
      subst ej
      obtain ⟨k, x1, y1⟩ := jix i j e1
      obtain ⟨k', x2, y2⟩ := jix i' j e2
      have ek : k = k' := by
        obtain ⟨z1, z2⟩ := List.getElem?_eq_some_iff.mp y1
        obtain ⟨z3, z4⟩ := List.getElem?_eq_some_iff.mp y2
        exact (List.getElem_inj jn).mp (z2.trans z4.symm)
      subst ek
      rw [x1] at x2
      exact Option.some.inj x2
    · obtain ⟨j, _, b⟩ := fp_in i a ha
      exact g.nf j a b
  have vlen : (vs ++ dvs).length = np := by rw [List.length_append]; omega
  -- back in the caller
  have back : ∀ {F' H' fps' fpr os}, Post K (c0 c.cl sh) F1 H1 fp (putS ow os (List.replicate np none)) ((vs ++ dvs).map some) F' H' fps' fpr → os.length = ow.length →
      ∃ fps2, Post K c F1 H1 fps1 (putS js os e1) σ F' H' fps2 fpr := fun {F' H' fps' fpr os} p hos => by
    have at_js : ∀ k i j : Nat, ow[k]? = some i → js[k]? = some j → selF js ow fps' fps1 j = fps' i := fun k i j ho hj => selF_at jn ho hj
    have off_js : ∀ j : Nat, j ∉ js → selF js ow fps' fps1 j = fps1 j := fun j hj => selF_off hj
    have onj : ∀ j : Nat, j ∈ js → ∃ k i : Nat, ow[k]? = some i ∧ js[k]? = some j := fun j hj => by
      obtain ⟨k, hk⟩ := List.mem_iff_getElem?.mp hj
      have : k < ow.length := by rw [k2]; exact (List.getElem?_eq_some_iff.mp hk).1
      exact ⟨k, ow[k], List.getElem?_eq_getElem this, hk⟩
    have old : ∀ a, In fp a → In fps1 a := fun a ⟨i, hi⟩ => let ⟨j, _, b⟩ := fp_in i a hi; ⟨j, b⟩
    -- what the other slots own is as it was
    have apart : ∀ j a, j ∉ js → a ∈ fps1 j → ¬ In fp a := fun j a hj ha ⟨i, hi⟩ => by
      obtain ⟨j', e, b⟩ := fp_in i a hi
      have := g.dj j j' a ha b
      subst this
      obtain ⟨k, _, y⟩ := jix i j e
      exact hj (List.mem_of_getElem? y)
    have fresh : ∀ j a, j ∉ js → a ∈ fps1 j → ¬ (In fps' a ∨ a ∈ fpr) := fun j a hj ha z => by
      rcases p.step.newP a z with q | q
      · exact apart j a hj ha q
      · obtain ⟨u, hu⟩ := g.owned ha
        rw [hu] at q; cases q
    refine ⟨selF js ow fps' fps1, ⟨p.step.ex, fun a u e n => p.step.keep a u e fun z => n (old a z), fun a u e => (p.step.newF a u e).imp id (Or.imp (old a) id), fun a ha => ?_⟩, ⟨p.g.ex, by rw [putS_length]; exact g.len, fun j d e => ?_, fun j hj => ?_, fun j j' a ha hb => ?_, fun j a ha => ?_, g.fx⟩, fun a ha => ⟨(p.fr a ha).1, fun j hj => ?_⟩⟩
    · rcases ha with ⟨j, hj⟩ | ha
      · by_cases hm : j ∈ js
        · obtain ⟨k, i, x, y⟩ := onj j hm
          rw [at_js k i j x y] at hj
          exact (p.step.newP a (.inl ⟨i, hj⟩)).imp (old a) id
        · rw [off_js j hm] at hj
          exact .inl ⟨j, hj⟩
      · exact (p.step.newP a (.inr ha)).imp (old a) id
    · by_cases hm : j ∈ js
      · obtain ⟨k, i, x, y⟩ := onj j hm
        have kd := k1 k i j x y
        have hok : k < os.length := by rw [hos]; exact (List.getElem?_eq_some_iff.mp x).1
        have hje : j < e1.length := by
          have := f3 i j kd
          have hi' : i < kinds.length := (List.getElem?_eq_some_iff.mp kd).1
          have hd' : i < ds'.length := by omega
          rw [List.getElem?_eq_getElem hd'] at this
          exact (List.getElem?_eq_some_iff.mp this).1
        rw [putS_in jn y (List.getElem?_eq_getElem hok) hje] at e
        have e : os[k] = some d := Option.some.inj e
        have hi' : i < kinds.length := (List.getElem?_eq_some_iff.mp kd).1
        have e4 : (putS ow os (List.replicate np none))[i]? = some (some d) := by
          rw [putS_in on x (List.getElem?_eq_getElem hok) (by rw [List.length_replicate]; omega), e]
        obtain ⟨v, e5, w⟩ := p.g.at_ i d e4
        have hv : i < vs.length := by omega
        rw [List.getElem?_map, inV i hi', List.getElem?_eq_getElem hv] at e5
        cases e5
        refine ⟨vs[i], a4 i j _ kd (List.getElem?_eq_getElem hv), ?_⟩
        rw [at_js k i j x y, ← hsh i j kd]
        exact w
      · rw [putS_out hm] at e
        obtain ⟨v, e5, w⟩ := g.at_ j d e
        refine ⟨v, e5, ?_⟩
        rw [off_js j hm]
        refine w.mono p.step.ex fun a ha => ?_
        obtain ⟨u, hu⟩ := g.owned ha
        rw [hu]
        exact p.step.keep a _ hu (apart j a hm ha)
    · by_cases hm : j ∈ js
      · obtain ⟨k, i, x, y⟩ := onj j hm
        rw [at_js k i j x y]
        refine p.g.out i fun d e => ?_
        have kd := k1 k i j x y
        have hok : k < os.length := by rw [hos]; exact (List.getElem?_eq_some_iff.mp x).1
        have hje : j < e1.length := by
          have := f3 i j kd
          have hi' : i < kinds.length := (List.getElem?_eq_some_iff.mp kd).1
          have hd' : i < ds'.length := by omega
          rw [List.getElem?_eq_getElem hd'] at this
          exact (List.getElem?_eq_some_iff.mp this).1
        have hi' : i < kinds.length := (List.getElem?_eq_some_iff.mp kd).1
        rw [putS_in on x (List.getElem?_eq_getElem hok) (by rw [List.length_replicate]; omega)] at e
        refine hj d ?_
        rw [putS_in jn y (List.getElem?_eq_getElem hok) hje]
        exact e
      · rw [off_js j hm]
        exact g.out j fun d e => hj d (by rw [putS_out hm]; exact e)
    · by_cases hm : j ∈ js
      · obtain ⟨k, i, x, y⟩ := onj j hm
        rw [at_js k i j x y] at ha
        by_cases hm' : j' ∈ js
        · obtain ⟨k', i', x', y'⟩ := onj j' hm'
          rw [at_js k' i' j' x' y'] at hb
          have ei := p.g.dj i i' a ha hb
          subst ei
          have ek : k = k' := by
            obtain ⟨z1, z2⟩ := List.getElem?_eq_some_iff.mp x
            obtain ⟨z3, z4⟩ := List.getElem?_eq_some_iff.mp x'
            exact (List.getElem_inj on).mp (z2.trans z4.symm)
          subst ek
          rw [y] at y'
          exact Option.some.inj y'
        · rw [off_js j' hm'] at hb
          exact absurd (.inl ⟨i, ha⟩) (fresh j' a hm' hb)
      · rw [off_js j hm] at ha
        by_cases hm' : j' ∈ js
        · obtain ⟨k', i', x', y'⟩ := onj j' hm'
          rw [at_js k' i' j' x' y'] at hb
          exact absurd (.inl ⟨i', hb⟩) (fresh j a hm ha)
        · rw [off_js j' hm'] at hb
          exact g.dj j j' a ha hb
    · by_cases hm : j ∈ js
      · obtain ⟨k, i, x, y⟩ := onj j hm
        rw [at_js k i j x y] at ha
        exact p.g.nf i a ha
      · rw [off_js j hm] at ha
        cases q : F' a with
        | none => rfl
        | some u =>
          rcases p.step.newF a u q with z | z | z
          · rw [g.nf j a ha] at z; cases z
          · exact absurd z (apart j a hm ha)
          · obtain ⟨u', hu⟩ := g.owned ha
            rw [hu] at z; cases z
    · by_cases hm : j ∈ js
      · obtain ⟨k, i, x, y⟩ := onj j hm
        rw [at_js k i j x y] at hj
        exact (p.fr a ha).2 i hj
      · rw [off_js j hm] at hj
        exact fresh j a hm hj (.inr ha)
  refine ⟨vlen, F1, ds' ++ dds, fp, g0, ?_⟩
  cases e : f (ds' ++ dds) with
  | er => rw [e] at h; exact h.elim
  | ok d os =>
    rw [e] at h
    intro v F' H' fps' fpr p q
    obtain ⟨fps2, p2⟩ := back p (hos.1 _ _ _ e)
    exact h v F' H' fps2 fpr p2 q
  | rs x os =>
    rw [e] at h
    intro dx F' H' fps' p q
    obtain ⟨fps2, p2⟩ := back p (hos.2 _ _ _ e)
    exact h dx F' H' fps2 p2 q
end
section
variable {c : Ct} {X : Cx} {e : Expr} {es : List Expr} {kinds : List (Option Nat)} {ml : M (List D)} {pos p : Pos} {f : Addr} {fd : FuncData} {x : Str} {k np : Nat} {ps : List Str} {sh : Nat → Sh} {ow js : List Nat} {o : Sh} {fn : Fn} {dvs : List V} {dds : List D} {dsv : List Value}
theorem fe_call (Fk : FnOk X.prog X.w X.K X.mg X.base (L2.CX X.prog X.w) k f fd ps (spF X.K c.cl sh ow o np fn)) (hr : Room k X.A) (hx : Gl X x) (hm : X.mg x = some (.ref f)) (hkp : PySem.W.keepIn X.K (.ref f) = true) (hb : Binds X.K fd ps dsv) (hd : Vals dvs dsv) (hdd : ∀ F, RepL X.K c.cl F dvs dds)
    (tk : Takes X c.W) (hos : OutsOk fn ow.length) (hk : okK kinds ow js = true) (hsh : ∀ i j : Nat, kinds[i]? = some (some j) → sh i = c.sh j) (hsn : ∀ i : Nat, i ∉ ow → sh i = .fz) (hnp : kinds.length + dds.length = np)
    (ha : FAm c X (e :: es) kinds ml) (hdb : (x == ("__debug__" : Str)) = false := by decide) (he : starEach (e :: es) X.env = (false, eval e X.env) :: starEach es X.env := by rfl) (hpl : (backTo pos (starEach es X.env)).any (·.1) = false := by rfl) :
    FE c X (.Call (.Name x p) (e :: es) [] pos) o (dCallF fn kinds js dds ml) :=
  PE.weak (pe_callSD (E := fun σ => WE c.W σ) Fk hr hx hm hkp hb hd (fun σ => passAt tk σ) ha hdb he hpl) fun σ H Q => by
    rintro ⟨F, env, fps, gg, h⟩
    refine (TAm.one gg h).mono fun vs H1 ⟨ds, F1, fps1, e1, p1, r1, h1⟩ => ?_
    cases q : fillK kinds ds e1 with
    | none => rw [q] at h1; exact h1.elim
    | some ds' =>
      rw [q] at h1
      exact call_ok (F := F) (H := H) (fps := fps) p1.g r1 hdd hk hsh hsn hnp q hos h1
/-- a call without arguments, that raises nothing -/
def dCall0 (f : Fn) (dds : List D) : M D := fun e => match f dds with
  | .ok d _ => .ok d e
  | _ => .er
theorem fe_call0 (Fk : FnOk X.prog X.w X.K X.mg X.base (L2.CX X.prog X.w) k f fd ps (spF X.K c.cl sh [] o np fn)) (hr : Room k X.A) (hx : Gl X x) (hm : X.mg x = some (.ref f)) (hkp : PySem.W.keepIn X.K (.ref f) = true) (hb : Binds X.K fd ps dsv) (hd : Vals dvs dsv) (hdd : ∀ F, RepL X.K c.cl F dvs dds)
    (hos : OutsOk fn 0) (hsn : ∀ i : Nat, sh i = .fz) (hnp : dds.length = np) (hdb : (x == ("__debug__" : Str)) = false := by decide) :
    FE c X (.Call (.Name x p) [] [] pos) o (dCall0 fn dds) :=
  PE.weak (pe_call0 (E := E0) Fk hr hx hm hkp hb hd passL hdb) fun σ H Q => by
    rintro ⟨F, env, fps, gg, h⟩
    show spF X.K c.cl sh [] o np fn ([] ++ dvs) H Q E0
    have r0 : relA X.K c σ [] [] [] F H [] := ⟨rfl, rfl, rfl, fun i v d h => by simp at h, fun i j v h => by simp at h⟩
    have h : Tg X.K c (relV X.K c o) (match fn dds with | .ok d _ => .ok d env | _ => .er) F H fps σ Q := h
    have h' : Tg X.K c.quiet (relV X.K c.quiet o) (match fn ([] ++ dds) with | .ok d os => .ok d (putS [] os env) | .rs x os => .er | .er => .er) F H fps σ Q := by
      revert h
      rw [List.nil_append]
      cases fn dds with
      | ok d os => exact fun h v F' H' fps' fpr p q => h v F' H' fps' fpr (p.change rfl rfl rfl) q
      | rs x os => exact id
      | er => exact id
    have h2 : Tg X.K c.quiet (relV X.K c.quiet o) (match fn ([] ++ dds) with | .ok d os => .ok d (putS [] os env) | .rs x os => .rs x (putS [] os env) | .er => .er) F H fps σ Q := by
      revert h'
      cases fn ([] ++ dds) with
      | ok d os => exact id
      | rs x os => exact fun h => h.elim
      | er => exact id
    exact call_ok (c := c.quiet) (F := F) (H := H) (fps := fps) (kinds := []) (js := []) (ow := []) (gg.change rfl rfl rfl) r0 hdd rfl (fun i j h => by simp at h) (fun i _ => hsn i) (by simpa using hnp) rfl hos h2
end
end FL
namespace FL
open PySem PySem.Spec L2
open PyProof.Rows hiding St
/-! ### places within owned lists -/
def shAt : List Sh → Sh → Nat → Sh
  | [], e, _ => e
  | s :: _, _, 0 => s
  | _ :: l, e, k + 1 => shAt l e k
def subSh : Sh → List Nat → Option Sh
  | s, [] => some s
  | .ls l e, k :: p => subSh (shAt l e k) p
  | .fz, _ :: _ => none
def subD : D → List Nat → Option D
  | d, [] => some d
  | .lst ds, k :: p => (ds[k]?).bind fun d => subD d p
  | _, _ :: _ => none
def setD : D → List Nat → D → D
  | _, [], x => x
  | .lst ds, k :: p, x => match ds[k]? with
    | some d => .lst (ds.set k (setD d p x))
    | none => .lst ds
  | d, _ :: _, _ => d
/-- v stands at the place p within v0 -/
inductive AtP (H : Hp) : V → List Nat → V → Prop where
  | nil {v : V} : AtP H v [] v
  | cons {a : Addr} {vs : List V} {k : Nat} {v1 v : V} {p : List Nat} (h : H a = some (.lst vs)) (g : vs[k]? = some v1) (t : AtP H v1 p v) : AtP H (.ref a) (k :: p) v
theorem AtP.snoc {H : Hp} {v0 : V} {p : List Nat} {a : Addr} {vs : List V} {k : Nat} {v1 : V} (h : H a = some (.lst vs)) (g : vs[k]? = some v1) (t : AtP H v0 p (.ref a)) : AtP H v0 (p ++ [k]) v1 := by
  generalize hv : V.ref a = v at t
  induction t with
  | nil => subst hv; exact .cons h g .nil
  | cons h' g' t ih => exact .cons h' g' (ih hv)
section
variable {K : PySem.W.Frag} {cl : Nat → Addr}
theorem ownL_mono {F H F' H' : Hp} {e : Sh} (x : Ext F F') : ∀ {vs : List V} {ss : List Sh} {ds : List D} {fp : List Addr}, OwnL K cl F H ss e vs ds fp → (∀ a ∈ fp, H' a = H a) → OwnL K cl F' H' ss e vs ds fp
  | _, _, _, _, .nil, _ => .nil
  | _, _, _, _, .e h t n, k => .e (h.mono x fun a ha => k a (List.mem_append_left _ ha)) (ownL_mono x t fun a ha => k a (List.mem_append_right _ ha)) n
  | _, _, _, _, .l h t n, k => .l (h.mono x fun a ha => k a (List.mem_append_left _ ha)) (ownL_mono x t fun a ha => k a (List.mem_append_right _ ha)) n
theorem shAt_nil (e : Sh) : ∀ k, shAt [] e k = e
  | 0 => rfl
  | _ + 1 => rfl
theorem ownL_at {F H : Hp} {e : Sh} : ∀ {k : Nat} {ss : List Sh} {vs : List V} {ds : List D} {fp : List Addr} {v : V}, OwnL K cl F H ss e vs ds fp → vs[k]? = some v →
    ∃ d f, ds[k]? = some d ∧ Own K cl F H (shAt ss e k) v d f ∧ (∀ a ∈ f, a ∈ fp) ∧ ∀ F' H' d', Own K cl F' H' (shAt ss e k) v d' f → Ext F F' → (∀ a ∈ fp, a ∉ f → H' a = H a) → OwnL K cl F' H' ss e vs (ds.set k d') fp
  | 0, _, _, _, _, v, .e (f1 := f1) (d := d1) h t n, hv => by
    simp at hv; subst hv
    exact ⟨d1, f1, rfl, h, fun a ha => List.mem_append_left _ ha, fun F' H' d' o' x k => .e o' (ownL_mono x t fun a ha => k a (List.mem_append_right _ ha) fun z => n a z ha) n⟩
  | 0, _, _, _, _, v, .l (f1 := f1) (d := d1) h t n, hv => by
    simp at hv; subst hv
    exact ⟨d1, f1, rfl, h, fun a ha => List.mem_append_left _ ha, fun F' H' d' o' x k => .l o' (ownL_mono x t fun a ha => k a (List.mem_append_right _ ha) fun z => n a z ha) n⟩
  | k + 1, _, _, _, _, v, .e (f1 := f1) (f2 := f2) h t n, hv => by
    obtain ⟨d, f, hd, o1, i1, u1⟩ := ownL_at (k := k) t (by simpa using hv)
    refine ⟨d, f, by simpa using hd, by rw [shAt_nil] at o1; exact o1, fun a ha => List.mem_append_right _ (i1 a ha), fun F' H' d' o' x kp => .e (h.mono x fun a ha => kp a (List.mem_append_left _ ha) fun z => n a ha (i1 a z)) ?_ n⟩
    exact u1 F' H' d' (by rw [shAt_nil]; exact o') x fun a ha na => kp a (List.mem_append_right _ ha) na
  | k + 1, _, _, _, _, v, .l (f1 := f1) (f2 := f2) h t n, hv => by
    obtain ⟨d, f, hd, o1, i1, u1⟩ := ownL_at (k := k) t (by simpa using hv)
    exact ⟨d, f, by simpa using hd, o1, fun a ha => List.mem_append_right _ (i1 a ha), fun F' H' d' o' x kp => .l (h.mono x fun a ha => kp a (List.mem_append_left _ ha) fun z => n a ha (i1 a z))
      (u1 F' H' d' o' x fun a ha na => kp a (List.mem_append_right _ ha) na) n⟩
  | _, _, _, _, _, _, .nil, hv => by simp at hv
/-- what stands at a place, and the whole with another thing there -/
theorem Own.sub {F H : Hp} {v0 v : V} {p : List Nat} (at_ : AtP H v0 p v) : ∀ {s s' : Sh} {d0 : D} {fp : List Addr}, Own K cl F H s v0 d0 fp → subSh s p = some s' →
    ∃ d f, subD d0 p = some d ∧ Own K cl F H s' v d f ∧ (∀ a ∈ f, a ∈ fp) ∧ ∀ F' H' d', Own K cl F' H' s' v d' f → Ext F F' → (∀ a ∈ fp, a ∉ f → H' a = H a) → Own K cl F' H' s v0 (setD d0 p d') fp := by
  induction at_ with
  | nil =>
    intro s s' d0 fp o hs
    unfold subSh at hs
    cases hs
    exact ⟨d0, fp, by unfold subD; rfl, o, fun _ h => h, fun F' H' d' o' x k => by unfold setD; exact o'⟩
  | @cons a0 vs0 k0 v1 v2 p2 h g t ih =>
    intro s s' d0 fp o hs
    cases o with
    | fz r => unfold subSh at hs; cases hs
    | ls h' t' n =>
      rename_i ds ss e fp1
      rw [h] at h'; cases h'
      unfold subSh at hs
      obtain ⟨d1, f1, hd, o1, i1, u1⟩ := ownL_at t' g
      obtain ⟨d, f, hd2, o2, i2, u2⟩ := ih o1 hs
      refine ⟨d, f, by unfold subD; rw [hd]; exact hd2, o2, fun a ha => List.mem_cons_of_mem _ (i1 a (i2 a ha)), fun F' H' d' o' x k => ?_⟩
      unfold setD
      rw [hd]
      have na : a0 ∉ f := fun z => n (i1 _ (i2 _ z))
      refine .ls ((k _ List.mem_cons_self na).trans h) (u1 F' H' _ (u2 F' H' d' o' x fun a ha nf => k a (List.mem_cons_of_mem _ (i1 a ha)) nf) x fun a ha nf => k a (List.mem_cons_of_mem _ ha) fun z => nf (i2 a z)) n
/-! ### a slot set aside -/
theorem G.lock {c : Ct} {F H : Hp} {env : Sl} {fps : Fps} {σ : St} (g : G K c F env fps σ H) (i : Nat) : G K c F (env.set i none) (Fps.put fps i []) σ H where
  ex := g.ex
  len := by rw [List.length_set]; exact g.len
  at_ := fun j d e => by
    by_cases hj : j = i
    · subst hj
      by_cases hl : j < env.length
      · rw [List.getElem?_set_self hl] at e; cases e
      · rw [List.getElem?_eq_none (by rw [List.length_set]; omega)] at e; cases e
    · rw [List.getElem?_set_ne (Ne.symm hj)] at e
      obtain ⟨w, e2, ow⟩ := g.at_ j d e
      exact ⟨w, e2, by rw [put_ne hj]; exact ow⟩
  out := fun j hj => by
    by_cases hne : j = i
    · subst hne; exact put_self
    · rw [put_ne hne]
      exact g.out j fun d' e' => hj d' (by rw [List.getElem?_set_ne (Ne.symm hne)]; exact e')
  dj := fun j k a hj hk => by
    rcases mem_put.mp hj with ⟨_, z⟩ | ⟨_, z⟩
    · cases z
    · rcases mem_put.mp hk with ⟨_, y⟩ | ⟨_, y⟩
      · cases y
      · exact g.dj j k a z y
  nf := fun j a ha => by
    rcases mem_put.mp ha with ⟨_, z⟩ | ⟨_, z⟩
    · cases z
    · exact g.nf j a z
  fx := g.fx
/-- .. and taken back: w says that what stands at it is as it was, or was changed by a store to it alone -/
theorem G.unlock {c : Ct} {F H F2 H2 H3 : Hp} {env e2 : Sl} {fps fps2 : Fps} {σ : St} {i : Nat} {v0 : V} {d0 d3 : D} (g : G K c F env fps σ H) (hd : env[i]? = some (some d0)) (hv : σ[i]? = some (some v0)) (p : Post K c F H (Fps.put fps i []) e2 σ F2 H2 fps2 [])
    (h3 : ∀ a, a ∉ fps i → H3 a = H2 a) (w : Own K c.cl F2 H3 (c.sh i) v0 d3 (fps i)) : Post K c F H fps (e2.set i (some d3)) σ F2 H3 (Fps.put fps2 i (fps i)) [] := by
  have hl : i < e2.length := by rw [p.g.len]; exact (List.getElem?_eq_some_iff.mp hv).1
  have nin : ∀ a, a ∈ fps i → ¬ In (Fps.put fps i []) a := fun a ha ⟨j, hj⟩ => by
    rcases mem_put.mp hj with ⟨_, z⟩ | ⟨n, z⟩
    · cases z
    · exact n (g.dj j i a z ha)
  have kept : ∀ a, a ∈ fps i → H2 a = H a := fun a ha => by
    obtain ⟨vs, hvs⟩ := g.owned ha
    rw [hvs]; exact p.step.keep a _ hvs (nin a ha)
  have n2 : ∀ a j, a ∈ fps i → a ∉ fps2 j := fun a j ha z => by
    rcases p.step.newP a (.inl ⟨j, z⟩) with y | y
    · exact nin a ha y
    · obtain ⟨vs, hvs⟩ := g.owned ha
      rw [hvs] at y; cases y
  have nF : ∀ a, a ∈ fps i → F2 a = none := fun a ha => by
    cases e : F2 a with
    | none => rfl
    | some o =>
      rcases p.step.newF a o e with z | z | z
      · rw [g.nf i a ha] at z; cases z
      · exact absurd z (nin a ha)
      · obtain ⟨vs, hvs⟩ := g.owned ha
        rw [hvs] at z; cases z
  have sub : ∀ a, In (Fps.put fps i []) a → In fps a := fun a ⟨j, hj⟩ => by
    rcases mem_put.mp hj with ⟨_, z⟩ | ⟨_, z⟩
    · cases z
    · exact ⟨j, z⟩
  refine ⟨⟨p.step.ex, fun a u e n => ?_, fun a u e => (p.step.newF a u e).imp id (Or.imp (sub a) id), fun a ha => ?_⟩, ⟨fun a u e => ?_, by rw [List.length_set]; exact p.g.len, fun j d e => ?_, fun j hj => ?_, fun j k a hj hk => ?_, fun j a ha => ?_, p.g.fx⟩, fun _ h => by cases h⟩
  · rw [h3 a fun z => n ⟨i, z⟩]
    exact p.step.keep a u e fun z => n (sub a z)
  · rcases ha with ⟨j, hj⟩ | ha
    · rcases mem_put.mp hj with ⟨_, z⟩ | ⟨_, z⟩
      · exact .inl ⟨i, z⟩
      · exact (p.step.newP a (.inl ⟨j, z⟩)).imp (sub a) id
    · cases ha
  · have : a ∉ fps i := fun z => by rw [nF a z] at e; cases e
    rw [h3 a this]; exact p.g.ex a u e
  · by_cases hj : j = i
    · subst hj
      rw [List.getElem?_set_self hl] at e
      cases e
      exact ⟨v0, hv, by rw [put_self]; exact w⟩
    · rw [List.getElem?_set_ne (Ne.symm hj)] at e
      obtain ⟨v, e3, o3⟩ := p.g.at_ j d e
      refine ⟨v, e3, ?_⟩
      rw [put_ne hj]
      exact o3.mono (.refl _) fun a ha => h3 a fun z => n2 a j z ha
  · by_cases hne : j = i
    · subst hne; exact absurd (List.getElem?_set_self hl) (hj d3)
    · rw [put_ne hne]
      exact p.g.out j fun d' e' => hj d' (by rw [List.getElem?_set_ne (Ne.symm hne)]; exact e')
  · rcases mem_put.mp hj with ⟨x1, z⟩ | ⟨x1, z⟩
    · rcases mem_put.mp hk with ⟨x2, y⟩ | ⟨x2, y⟩
      · rw [x1, x2]
      · exact absurd y (n2 a k z)
    · rcases mem_put.mp hk with ⟨x2, y⟩ | ⟨x2, y⟩
      · exact absurd z (n2 a j y)
      · exact p.g.dj j k a z y
  · rcases mem_put.mp ha with ⟨_, z⟩ | ⟨_, z⟩
    · exact nF a z
    · exact p.g.nf j a z
end
/-! ### the place of a method or a store -/
/-- the value at the place that m tells within slot i -/
def relP (σ : St) (i : Nat) : List Nat → V → Hp → Hp → List Addr → Prop := fun p v _ H fpr => fpr = [] ∧ ∃ v0, σ[i]? = some (some v0) ∧ AtP H v0 p v
def TPl (K : PySem.W.Frag) (c : Ct) (i : Nat) (m : M (List Nat)) : TE := fun σ H Q => ∃ F env fps, G K c F env fps σ H ∧ Tg K c (relP σ i) (m env) F H fps σ Q
abbrev FPl (c : Ct) (X : Cx) (e : Expr) (i : Nat) (m : M (List Nat)) : Prop := PE X e (TPl X.K c i m)
/-- a name itself -/
def plName (i : Nat) : M (List Nat) := fun e => match e[i]? with
  | some (some _) => .ok [] e
  | _ => .er
/-- an item of a place -/
def plIxK (s : Sh) (d0 : D) (p : List Nat) (y : D) : Option (List Nat) := match y, subD d0 p, subSh s p with
  | .int k, some (.lst ds), some (.ls _ _) => (ixN ds.length k).map fun j => p ++ [j]
  | _, _, _ => none
def plIx (i : Nat) (s : Sh) (a : M (List Nat)) (b : M D) : M (List Nat) := fun e => (a e).bind fun p e1 => match e1[i]? with
  | some (some d0) => (noX (b (e1.set i none))).bind fun y e2 => R.opt (plIxK s d0 p y) (e2.set i (some d0))
  | _ => .er
theorem ownL_len {K : PySem.W.Frag} {cl : Nat → Addr} {F H : Hp} {e : Sh} : ∀ {vs : List V} {ss : List Sh} {ds : List D} {fp : List Addr}, OwnL K cl F H ss e vs ds fp → vs.length = ds.length
  | _, _, _, _, .nil => rfl
  | _, _, _, _, .e h t n => by simp [ownL_len t]
  | _, _, _, _, .l h t n => by simp [ownL_len t]
/-- an owned list at a place -/
theorem place_at {K : PySem.W.Frag} {cl : Nat → Addr} {F H : Hp} {s : Sh} {v0 x : V} {d0 : D} {fp : List Addr} {p : List Nat} {ss : List Sh} {e : Sh} (o : Own K cl F H s v0 d0 fp) (at_ : AtP H v0 p x) (hs : subSh s p = some (.ls ss e)) :
    ∃ a vs ds f, x = .ref a ∧ H a = some (.lst vs) ∧ subD d0 p = some (.lst ds) ∧ OwnL K cl F H ss e vs ds f ∧ a ∉ f ∧ (∀ b ∈ a :: f, b ∈ fp) ∧
      ∀ F' H' d', Own K cl F' H' (.ls ss e) x d' (a :: f) → Ext F F' → (∀ b ∈ fp, b ∉ a :: f → H' b = H b) → Own K cl F' H' s v0 (setD d0 p d') fp := by
  obtain ⟨d, f, hd, o2, i2, u2⟩ := o.sub at_ hs
  cases o2 with
  | ls h t n => exact ⟨_, _, _, _, rfl, h, hd, t, n, i2, u2⟩
section
variable {c : Ct} {X : Cx} {a b : Expr} {i : Nat} {pos : Pos}
theorem fpl_name (i : Nat) {x : Str} (hN : X.N[i]? = some x := by rfl) (hv : Vis X.env.scope x := by first | exact Or.inl rfl | exact Or.inr (Or.inl rfl) | exact Or.inr (Or.inr rfl)) (hd : (x == ("__debug__" : Str)) = false := by decide)
    (hcd : (x == ("__classdict__" : Str)) = false := by decide) : FPl c X (.Name x pos) i (plName i) := PE.weak (pe_var hN hv hd hcd) fun σ H Q => by
  rintro ⟨F, env, fps, g, h⟩
  unfold plName at h
  split at h
  · rename_i d e
    obtain ⟨v, e1, o⟩ := g.at_ i d e
    exact ⟨v, e1, h v F H fps [] (Post.refl g) ⟨rfl, v, e1, .nil⟩⟩
  · exact h.elim
theorem TPl.one {K : PySem.W.Frag} {γ δ : Type} {rel' : γ → δ → Hp → Hp → List Addr → Prop} {σ : St} {F H : Hp} {fps : Fps} {env : Sl} {Q : δ → Hp → Prop} {ma : M (List Nat)} {k : List Nat → Sl → R γ} (g : G K c F env fps σ H) (h : Tg K c rel' ((ma env).bind k) F H fps σ Q) :
    TPl K c i ma σ H (fun v H1 => ∃ p F1 fps1 e1, Post K c F H fps e1 σ F1 H1 fps1 [] ∧ (∃ v0, σ[i]? = some (some v0) ∧ AtP H1 v0 p v) ∧ Tg K c rel' (k p e1) F1 H1 fps1 σ Q) :=
  ⟨F, env, fps, g, (Tg.bind h).mono fun x H1 ⟨d1, F1, fps1, fpr, e1, p1, r1, h1⟩ => by
    obtain ⟨e, r1⟩ := r1
    subst e
    exact ⟨d1, F1, fps1, e1, p1, r1, h1 rfl⟩⟩
theorem TPl.mono {K : PySem.W.Frag} {m : M (List Nat)} {σ : St} {H : Hp} {Q Q' : VK} (h : TPl K c i m σ H Q) (hq : ∀ v H', Q v H' → Q' v H') : TPl K c i m σ H Q' :=
  let ⟨F, env, fps, g, t⟩ := h; ⟨F, env, fps, g, t.mono hq⟩
theorem AtP.keep {H H' : Hp} {v0 v : V} {p : List Nat} (t : AtP H v0 p v) {s s' : Sh} {K : PySem.W.Frag} {cl : Nat → Addr} {F : Hp} {d0 : D} {fp : List Addr} (o : Own K cl F H s v0 d0 fp) (hs : subSh s p = some s') (k : ∀ a ∈ fp, H' a = H a) : AtP H' v0 p v := by
  induction t generalizing s d0 fp with
  | nil => exact .nil
  | cons h g t ih =>
    cases o with
    | fz r => unfold subSh at hs; cases hs
    | ls h' t' n =>
      rw [h] at h'; cases h'
      unfold subSh at hs
      obtain ⟨d1, f1, hd, o1, i1, u1⟩ := ownL_at t' g
      exact .cons ((k _ List.mem_cons_self).trans h) g (ih o1 hs fun a ha => k a (List.mem_cons_of_mem _ (i1 a ha)))
theorem ixN_get {n : Nat} {k : Int} {j : Nat} (h : ixN n k = some j) : j < n := (ixN_seq h).2.1
theorem fpl_ix {s : Sh} {mp : M (List Nat)} {mb : M D} (hsh : c.sh i = s) (ha : FPl c X a i mp) (hb : FE c X b .fz mb) (hs : PlainIx b := by exact fun _ _ => rfl) : FPl c X (.Subscript a b pos) i (plIx i s mp mb) :=
  PE.weak (pe_ix ix_list ha hb hs) fun σ H Q => by
    rintro ⟨F, env, fps, gg, h⟩
    refine (TPl.one gg h).mono fun x H1 ⟨p, F1, fps1, e1, p1, ⟨v0, hv0, at1⟩, h1⟩ => ?_
    cases hd : e1[i]? with
    | none => rw [hd] at h1; exact h1.elim
    | some od =>
      cases od with
      | none => rw [hd] at h1; exact h1.elim
      | some d0 =>
        rw [hd] at h1
        obtain ⟨v0', hv0', own0⟩ := p1.g.at_ i d0 hd
        rw [hv0] at hv0'; cases hv0'
        have own0' := own0
        rw [hsh] at own0
        -- aside
        have h1 : Tg X.K c (relP σ i) ((noX (mb (e1.set i none))).bind fun y e2 => R.opt (plIxK s d0 p y) (e2.set i (some d0))) F1 H1 fps1 σ Q := h1
        have lk := p1.g.lock i
        refine ⟨F1, e1.set i none, Fps.put fps1 i [], lk, ?_⟩
        revert h1
        cases mb (e1.set i none) with
        | er => exact id
        | rs x e2 => exact fun h => h.elim
        | ok y e2 =>
          intro h1 v F' H' fps' fpr p2 q
          obtain ⟨r2, ef⟩ := Own.rep q
          subst ef
          have h1 : Tg X.K c (relP σ i) (R.opt (plIxK s d0 p y) (e2.set i (some d0))) F1 H1 fps1 σ Q := h1
          cases ek : plIxK s d0 p y with
          | none => rw [ek] at h1; exact h1.elim
          | some p' =>
            rw [ek] at h1
            have kept : ∀ a ∈ fps1 i, H' a = H1 a := fun a ha => by
              obtain ⟨vs, hvs⟩ := p1.g.owned ha
              rw [hvs]
              refine p2.step.keep a _ hvs fun ⟨j, hj⟩ => ?_
              rcases mem_put.mp hj with ⟨_, z⟩ | ⟨n, z⟩
              · cases z
              · exact n (p1.g.dj j i a z ha)
            have w := own0'.mono p2.step.ex kept
            have p3 := p1.g.unlock hd hv0 p2 (fun _ _ => rfl) w
            unfold plIxK at ek
            split at ek
            · rename_i k ds _ _ hsub hss
              obtain ⟨a, vs, ds', f, rfl, hH, hd2, ol, na, inn, up⟩ := place_at own0 at1 hss
              rw [hsub] at hd2
              cases hd2
              cases ej : ixN ds.length k with
              | none => rw [ej] at ek; cases ek
              | some j =>
                rw [ej] at ek; cases ek
                have hlen := ownL_len ol
                have hj : j < vs.length := by rw [hlen]; exact ixN_get ej
                have hH' : H' a = some (.lst vs) := (kept a (inn a List.mem_cons_self)).trans hH
                refine ⟨a, vs, k, vs[j], rfl, r2.int_inv, SqL.of hH', ?_, h1 vs[j] F' H' _ [] p3 ⟨rfl, v0, hv0, ?_⟩⟩
                · show (ixN vs.length k).bind _ = _
                  rw [hlen, ej]
                  exact List.getElem?_eq_getElem hj
                · exact AtP.snoc hH' (List.getElem?_eq_getElem hj) (at1.keep own0 hss kept)
            · cases ek
end
/-! ### methods that change a list -/
/-- a method: of the list's data and the arguments' the answer and the new data -/
def MutOk (K : PySem.W.Frag) (cl : Nat → Addr) (r : V → List V → Hp → VK → Prop) (g : List D → List D → Option (D × List D)) : Prop :=
  ∀ (F H : Hp) (l : Addr) (xs as : List V) (ds es : List D) (d : D) (ds' : List D), RepL K cl F xs ds → RepL K cl F as es → H l = some (.lst xs) → g ds es = some (d, ds') →
    ∀ Q : VK, (∀ v xs', RepL K cl F xs' ds' → Rep K cl F v d → Q v (upd H l (.lst xs'))) → r (.ref l) as H Q
/-- the list at p within d0, changed -/
def mutK (s : Sh) (d0 : D) (p : List Nat) (g : List D → List D → Option (D × List D)) (as : List D) : Option (D × D) := match subD d0 p, subSh s p with
  | some (.lst ds), some (.ls [] .fz) => (g ds as).map fun q => (q.1, setD d0 p (.lst q.2))
  | _, _ => none
def dMut (i : Nat) (s : Sh) (g : List D → List D → Option (D × List D)) (mp : M (List Nat)) (ml : M (List D)) : M D := fun e => (mp e).bind fun p e1 => match e1[i]? with
  | some (some d0) => (noX (ml (e1.set i none))).bind fun as e2 => match mutK s d0 p g as with
    | some (d, d') => .ok d (e2.set i (some d'))
    | none => .er
  | _ => .er
section
variable {c : Ct} {X : Cx} {o : Expr} {es : List Expr} {i : Nat} {pos : Pos}
/-- the state behind such a method -/
theorem mut_post {F1 H1 F2 H2 : Hp} {fps1 fps2 : Fps} {e1 e2 : Sl} {σ : St} {s : Sh} {d0 d d' : D} {v0 x : V} {p : List Nat} {as : List D} {vs : List V} {g : List D → List D → Option (D × List D)} {r : V → List V → Hp → VK → Prop} {Q : VK}
    (hg : MutOk X.K c.cl r g) (g1 : G X.K c F1 e1 fps1 σ H1) (hsh : c.sh i = s) (hd : e1[i]? = some (some d0)) (hv0 : σ[i]? = some (some v0)) (at1 : AtP H1 v0 p x) (p2 : Post X.K c F1 H1 (Fps.put fps1 i []) e2 σ F2 H2 fps2 []) (ra : RepL X.K c.cl F2 vs as)
    (hm : mutK s d0 p g as = some (d, d')) (q : ∀ v H3, Rep X.K c.cl F2 v d → Post X.K c F1 H1 fps1 (e2.set i (some d')) σ F2 H3 (Fps.put fps2 i (fps1 i)) [] → Q v H3) : tyV X.K "list" x H1 ∧ r x vs H2 Q := by
  obtain ⟨v0', hv0', own0⟩ := g1.at_ i d0 hd
  rw [hv0] at hv0'; cases hv0'
  rw [hsh] at own0
  unfold mutK at hm
  split at hm
  · rename_i ds hsub hss
    cases eg : g ds as with
    | none => rw [eg] at hm; cases hm
    | some qq =>
      rw [eg] at hm
      obtain ⟨a, vs1, ds', f, rfl, hH, hd2, ol, na, inn, up⟩ := place_at own0 at1 hss
      rw [hsub] at hd2
      cases hd2
      obtain ⟨rl, ef⟩ := ol.inv
      subst ef
      have kept : ∀ b ∈ fps1 i, H2 b = H1 b := fun b hb => by
        obtain ⟨ws, hws⟩ := g1.owned hb
        rw [hws]
        refine p2.step.keep b _ hws fun ⟨j, hj⟩ => ?_
        rcases mem_put.mp hj with ⟨_, z⟩ | ⟨n, z⟩
        · cases z
        · exact n (g1.dj j i b z hb)
      have hH2 := (kept a (inn a List.mem_cons_self)).trans hH
      refine ⟨.inl ⟨rfl, vs1, SqL.of hH⟩, hg F2 H2 a vs1 vs ds as qq.1 qq.2 (rl.mono p2.step.ex) ra hH2 eg Q fun v xs' rl' rv => ?_⟩
      have e1 : d = qq.1 := by cases hm; rfl
      have e2' : d' = setD d0 p (.lst qq.2) := by cases hm; rfl
      subst e1; subst e2'
      refine q v _ rv (g1.unlock hd hv0 p2 (fun b hb => ?_) ?_)
      · have : b ≠ a := fun z => hb (z ▸ inn a List.mem_cons_self)
        rw [upd_ne this]
      · rw [hsh]
        refine up F2 _ _ (.ls upd_same (OwnL.of rl') (fun h => by cases h)) p2.step.ex fun b hb nb => ?_
        have : b ≠ a := fun z => nb (z ▸ List.mem_cons_self)
        rw [upd_ne this]
        exact kept b hb
  · cases hm
theorem mut_ty {K : PySem.W.Frag} {cl : Nat → Addr} {F H : Hp} {s : Sh} {v0 x : V} {d0 : D} {fp : List Addr} {p : List Nat} {g : List D → List D → Option (D × List D)} (o : Own K cl F H s v0 d0 fp) (at_ : AtP H v0 p x) (h : ∃ as q, mutK s d0 p g as = some q) : tyV K "list" x H := by
  obtain ⟨as, q, h⟩ := h
  unfold mutK at h
  split at h
  · rename_i ds hsub hss
    obtain ⟨a, vs1, ds', f, rfl, hH, _⟩ := place_at o at_ hss
    exact .inl ⟨rfl, vs1, SqL.of hH⟩
  · cases h
theorem fe_mut {id : String} {name : Str} {s : Sh} {apos cpos : Pos} {e : Expr} {mp : M (List Nat)} {ml : M (List D)} {r : V → List V → Hp → VK → Prop} {g : List D → List D → Option (D × List D)} (slot : Slot "list" name id) (hty : typeOf (.builtin id) = pure (.type "method_descriptor")) (hm : MtR X id r) (hg : MutOk X.K c.cl r g)
    (hsh : c.sh i = s) (ho : FPl c X o i mp) (ha : FA c X (e :: es) ml) (hbase : attributeBase o name X.env (eval o X.env) = eval o X.env := by rfl) (hfew : ((backTo cpos (starEach (e :: es) X.env)).all (fun x => !x.1) && (backToKw cpos (keywordEach [] X.env)).all (fun x => x.1.isSome)
      && decide ((e :: es).length + ([] : List Keyword).length + (if ([] : List Keyword).isEmpty then 0 else 1) < 30)) = true := by rfl)
    (hline : (apos.endLine == cpos.line) = true := by rfl) (h1 : starEach (e :: es) X.env = (false, eval e X.env) :: starEach es X.env := by rfl) (h2 : (backTo cpos (starEach es X.env)).any (·.1) = false := by rfl) : FE c X (.Call (.Attribute o name apos) (e :: es) [] cpos) .fz (dMut i s g mp ml) :=
  PE.weak (pe_bm PySem.F.plainAttrs_list slot hty hm ho ha hbase hfew hline h1 h2) fun σ H Q => by
    rintro ⟨F, env, fps, gg, h⟩
    refine (TPl.one gg h).mono fun x H1 ⟨p, F1, fps1, e1, p1, ⟨v0, hv0, at1⟩, h1⟩ => ?_
    cases hd : e1[i]? with
    | none => rw [hd] at h1; exact h1.elim
    | some od =>
      cases od with
      | none => rw [hd] at h1; exact h1.elim
      | some d0 =>
        rw [hd] at h1
        have h1 : Tg X.K c (relV X.K c .fz) ((noX (ml (e1.set i none))).bind fun as e2 => match mutK s d0 p g as with | some (d, d') => .ok d (e2.set i (some d')) | none => .er) F1 H1 fps1 σ Q := h1
        have lk := p1.g.lock i
        obtain ⟨v0', hv0', own0⟩ := p1.g.at_ i d0 hd
        rw [hv0] at hv0'; cases hv0'
        rw [hsh] at own0
        revert h1
        cases em0 : ml (e1.set i none) with
        | er => exact fun h => h.elim
        | rs x e2 => exact fun h => h.elim
        | ok as e2 =>
          intro h1
          have h1 : Tg X.K c (relV X.K c .fz) (match mutK s d0 p g as with | some (d, d') => .ok d (e2.set i (some d')) | none => .er) F1 H1 fps1 σ Q := h1
          cases em : mutK s d0 p g as with
          | none => rw [em] at h1; exact h1.elim
          | some qq =>
            obtain ⟨d, d'⟩ := qq
            rw [em] at h1
            refine ⟨mut_ty own0 at1 ⟨as, _, em⟩, F1, e1.set i none, Fps.put fps1 i [], lk, ?_⟩
            rw [em0]
            intro vs F2 H2 fps2 fpr p2 q
            obtain ⟨rl, ef⟩ := q
            subst ef
            exact (mut_post hg p1.g hsh hd hv0 at1 p2 rl em fun v H3 rv pp => h1 v F2 H3 _ [] pp (.fz rv)).2
/-- a method without arguments -/
def dMut0 (i : Nat) (s : Sh) (g : List D → List D → Option (D × List D)) (mp : M (List Nat)) : M D := fun e => (mp e).bind fun p e1 => match e1[i]? with
  | some (some d0) => match mutK s d0 p g [] with
    | some (d, d') => .ok d ((e1.set i none).set i (some d'))
    | none => .er
  | _ => .er
theorem fe_mut0 {id : String} {name : Str} {s : Sh} {apos cpos : Pos} {mp : M (List Nat)} {r : V → List V → Hp → VK → Prop} {g : List D → List D → Option (D × List D)} (slot : Slot "list" name id) (hty : typeOf (.builtin id) = pure (.type "method_descriptor")) (hm : MtR X id r) (hg : MutOk X.K c.cl r g)
    (hsh : c.sh i = s) (ho : FPl c X o i mp) (hbase : attributeBase o name X.env (eval o X.env) = eval o X.env := by rfl) (hline : (apos.endLine == cpos.line) = true := by rfl) : FE c X (.Call (.Attribute o name apos) [] [] cpos) .fz (dMut0 i s g mp) :=
  PE.weak (pe_bm0 PySem.F.plainAttrs_list slot hty hm ho hbase hline) fun σ H Q => by
    rintro ⟨F, env, fps, gg, h⟩
    refine (TPl.one gg h).mono fun x H1 ⟨p, F1, fps1, e1, p1, ⟨v0, hv0, at1⟩, h1⟩ => ?_
    cases hd : e1[i]? with
    | none => rw [hd] at h1; exact h1.elim
    | some od =>
      cases od with
      | none => rw [hd] at h1; exact h1.elim
      | some d0 =>
        rw [hd] at h1
        have h1 : Tg X.K c (relV X.K c .fz) (match mutK s d0 p g [] with | some (d, d') => .ok d ((e1.set i none).set i (some d')) | none => .er) F1 H1 fps1 σ Q := h1
        cases em : mutK s d0 p g [] with
        | none => rw [em] at h1; exact h1.elim
        | some qq =>
          obtain ⟨d, d'⟩ := qq
          rw [em] at h1
          have lk := p1.g.lock i
          exact mut_post hg p1.g hsh hd hv0 at1 (Post.refl lk) .nil em fun v H3 rv pp => h1 v F1 H3 _ [] pp (.fz rv)
/-! ### append, pop, insert -/
variable {K : PySem.W.Frag} {cl : Nat → Addr}
def gAppend (ds as : List D) : Option (D × List D) := match as with
  | [y] => if ds.length < line then some (.non, ds ++ [y]) else none
  | _ => none
theorem line_lt {n : Nat} (h : n < line) : n < sizeLine := by rw [sizeLine_eq]; exact h
theorem append_ok : MutOk K cl rAppend gAppend := fun F H l xs as ds es d ds' r1 r2 hH e Q q => by
  unfold gAppend at e
  split at e
  · split at e
    · rename_i y h
      cases e
      obtain ⟨v, rfl, rv⟩ := r2.one
      exact ⟨l, xs, v, rfl, rfl, hH, by rw [r1.len]; exact line_lt h, q _ _ (r1.append (.cons rv .nil)) .non⟩
    · cases e
  · cases e
theorem RepL.eraseIdx {F : Hp} : ∀ {vs : List V} {ds : List D} (k : Nat), RepL K cl F vs ds → RepL K cl F (vs.eraseIdx k) (ds.eraseIdx k)
  | [], [], _, _ => .nil
  | [], _ :: _, _, r => by have := r.len; simp at this
  | _ :: _, [], _, r => by have := r.len; simp at this
  | v :: vs, d :: ds, 0, r => r.tail
  | v :: vs, d :: ds, k + 1, r => .cons r.head (RepL.eraseIdx k r.tail)
def gPopAt (ds as : List D) : Option (D × List D) := match as with
  | [.int i] => if decide (-9223372036854775808 ≤ i) && decide (i < 9223372036854775808) then (seqIndex? i ds.length).bind fun k => (ds[k]?).map fun y => (y, ds.eraseIdx k) else none
  | _ => none
theorem popAt_ok : MutOk K cl rPopAt gPopAt := fun F H l xs as ds es d ds' r1 r2 hH e Q q => by
  unfold gPopAt at e
  split at e
  · split at e
    · rename_i i h
      rw [Bool.and_eq_true] at h
      obtain ⟨v, rfl, rv⟩ := r2.one
      have := rv.int_inv
      subst this
      cases ek : seqIndex? i ds.length with
      | none => rw [ek] at e; cases e
      | some k =>
        rw [ek] at e
        cases ey : ds[k]? with
        | none => simp [ey] at e
        | some y =>
          simp [ey] at e
          obtain ⟨e1, e2⟩ := e
          subst e1; subst e2
          obtain ⟨v, hv, rv⟩ := r1.get ey
          exact ⟨l, xs, i, k, v, rfl, rfl, hH, of_decide_eq_true h.1, of_decide_eq_true h.2, by rw [r1.len]; exact ek, hv, q v _ (r1.eraseIdx k) rv⟩
    · cases e
  · cases e
def gPop (ds as : List D) : Option (D × List D) := match as with
  | [] => (ds[ds.length - 1]?).map fun y => (y, ds.dropLast)
  | _ => none
theorem RepL.dropLast {F : Hp} {vs : List V} {ds : List D} (r : RepL K cl F vs ds) : RepL K cl F vs.dropLast ds.dropLast := by
  rw [List.dropLast_eq_take, List.dropLast_eq_take, r.len]
  exact r.take _
theorem pop_ok : MutOk K cl rPop gPop := fun F H l xs as ds es d ds' r1 r2 hH e Q q => by
  unfold gPop at e
  split at e
  · have : as = [] := r2.nilV.mpr rfl
    subst this
    cases ey : ds[ds.length - 1]? with
    | none => rw [ey] at e; cases e
    | some y =>
      rw [ey] at e; cases e
      obtain ⟨v, hv, rv⟩ := r1.get ey
      exact ⟨l, xs, v, rfl, rfl, hH, by rw [r1.len]; exact hv, q v _ r1.dropLast rv⟩
  · cases e
def gInsert (ds as : List D) : Option (D × List D) := match as with
  | [.int i, y] => if decide (0 ≤ i) && decide (i < 9223372036854775808) && decide (ds.length < line) then some (.non, ds.take i.toNat ++ [y] ++ ds.drop i.toNat) else none
  | _ => none
theorem insert_ok : MutOk K cl (fun x vs H Q => ∃ (l : Addr) (xs : List V) (i : Int) (y : V), x = .ref l ∧ vs = [.int i, y] ∧ H l = some (.lst xs) ∧ xs.length < sizeLine ∧ 0 ≤ i ∧ i < 2 ^ 63 ∧
    Q .non (upd H l (.lst (xs.take i.toNat ++ [y] ++ xs.drop i.toNat)))) gInsert := fun F H l xs as ds es d ds' r1 r2 hH e Q q => by
  unfold gInsert at e
  split at e
  · split at e
    · rename_i i y h
      rw [Bool.and_eq_true, Bool.and_eq_true] at h
      cases e
      obtain ⟨v, w, rfl, rv, rw'⟩ := r2.two
      have := rv.int_inv
      subst this
      exact ⟨l, xs, i, w, rfl, rfl, hH, by rw [r1.len]; exact line_lt (of_decide_eq_true h.2), of_decide_eq_true h.1.1, of_decide_eq_true h.1.2, q _ _ (((r1.take _).append (.cons rw' .nil)).append (r1.drop _)) .non⟩
    · cases e
  · cases e
end
/-! ### xs[i] = e -/
def setK (s : Sh) (d0 : D) (p : List Nat) (y x : D) : Option D := match y, subD d0 p, subSh s p with
  | .int k, some (.lst ds), some (.ls ss e) => (ixN ds.length k).bind fun j => match shAt ss e j with
    | .fz => some (setD d0 p (.lst (ds.set j x)))
    | _ => none
  | _, _, _ => none
def sStore (i : Nat) (s : Sh) (mx : M D) (mp : M (List Nat)) (mb : M D) : MS := fun e => (mx e).then fun x e0 => (mp e0).then fun p e1 => match e1[i]? with
  | some (some d0) => (noX (mb (e1.set i none))).then fun y e2 => match setK s d0 p y x with
    | some d' => .nx (e2.set i (some d'))
    | none => .er
  | _ => .er
theorem ownL_set {K : PySem.W.Frag} {cl : Nat → Addr} {F H : Hp} {e : Sh} {x : V} {dx : D} (rx : Rep K cl F x dx) : ∀ {j : Nat} {ss : List Sh} {vs : List V} {ds : List D} {fp : List Addr}, OwnL K cl F H ss e vs ds fp → shAt ss e j = .fz → OwnL K cl F H ss e (vs.set j x) (ds.set j dx) fp
  | _, _, _, _, _, .nil, _ => .nil
  | 0, _, _, _, _, .e h t n, hs => by
    have hs : e = .fz := hs
    subst hs
    obtain ⟨_, rfl⟩ := h.rep
    exact .e (f1 := []) (.fz rx) t (fun a ha => by cases ha)
  | 0, _, _, _, _, .l h t n, hs => by
    have hs : _ = Sh.fz := hs
    simp only [shAt] at hs
    subst hs
    obtain ⟨_, rfl⟩ := h.rep
    exact .l (f1 := []) (.fz rx) t (fun a ha => by cases ha)
  | j + 1, _, _, _, _, .e h t n, hs => .e h (ownL_set rx t (by rw [shAt_nil] at hs ⊢; exact hs)) n
  | j + 1, _, _, _, _, .l h t n, hs => .l h (ownL_set rx t hs) n
section
variable {c : Ct} {X : Cx} {a b ex : Expr} {i : Nat} {pos ppos : Pos} {s so : Sh} {mx mb : M D} {mp : M (List Nat)}
theorem fs_store (hsh : c.sh i = s) (hx : FE c X ex .fz mx) (ha : FPl c X a i mp) (hb : FE c X b .fz mb) (hs : swapsWithSole [.Subscript a b ppos] ex pos.line X.env = pure false := by rfl) (hw : swappedStores [.Subscript a b ppos] ex X.env = pure none := by rfl)
    (h1 : (assignEach [.Subscript a b ppos] X.env).map (·.2) = [assign (.Subscript a b ppos) X.env] := by rfl) (hg : ∀ v, assign (.Subscript a b ppos) X.env v = (do
      let ov ← holding [v] (eval a X.env)
      let iv ← holding [v, ov] (eval b X.env)
      standAt ppos
      holding [v, ov, iv] (setItem ov iv v)
      release [v, ov, iv] []) := by intro _; rfl) : FS c X (.Assign [.Subscript a b ppos] ex pos) so (sStore i s mx mp mb) :=
  PS.weak (ps_asg hx (pg_sub ha hb set_list hg) hs hw h1) fun D σ H => by
    rintro ⟨F, env, fps, gg, h⟩
    refine (T.then gg h).mono fun xv H0 ⟨dx, F0, fps0, e0, p0, rx, h0⟩ => ?_
    -- the place
    refine ⟨F0, e0, fps0, p0.g, (Tg.then h0).mono fun x H1 ⟨p, F1, fps1, fpr, e1, p1, r1, h1⟩ => ?_⟩
    obtain ⟨ef, v0, hv0, at1⟩ := r1
    subst ef
    have h1 := Ts.later p1 h1
    cases hd : e1[i]? with
    | none => rw [hd] at h1; exact h1.elim
    | some od =>
      cases od with
      | none => rw [hd] at h1; exact h1.elim
      | some d0 =>
        rw [hd] at h1
        have h1 : Ts X.K c so ((noX (mb (e1.set i none))).then fun y e2 => match setK s d0 p y dx with | some d' => .nx (e2.set i (some d')) | none => .er) F1 H1 fps1 D := h1
        have lk := p1.g.lock i
        obtain ⟨v0', hv0', own0⟩ := p1.g.at_ i d0 hd
        rw [hv0] at hv0'; cases hv0'
        rw [hsh] at own0
        refine ⟨F1, e1.set i none, Fps.put fps1 i [], lk, ?_⟩
        revert h1
        cases mb (e1.set i none) with
        | er => exact fun h => h.elim
        | rs x e2 => exact fun h => h.elim
        | ok y e2 =>
          intro h1 yv F2 H2 fps2 fpr p2 q
          obtain ⟨r2, ef⟩ := Own.rep q
          subst ef
          have h1 : Ts X.K c so (match setK s d0 p y dx with | some d' => .nx (e2.set i (some d')) | none => .er) F1 H1 fps1 D := h1
          cases em : setK s d0 p y dx with
          | none => rw [em] at h1; exact h1.elim
          | some d' =>
            rw [em] at h1
            have kept : ∀ b ∈ fps1 i, H2 b = H1 b := fun b hb => by
              obtain ⟨ws, hws⟩ := p1.g.owned hb
              rw [hws]
              refine p2.step.keep b _ hws fun ⟨j, hj⟩ => ?_
              rcases mem_put.mp hj with ⟨_, z⟩ | ⟨n, z⟩
              · cases z
              · exact n (p1.g.dj j i b z hb)
            unfold setK at em
            split at em
            · rename_i k ds ss e hsub hss
              obtain ⟨a0, vs1, ds', f, rfl, hH, hd2, ol, na, inn, up⟩ := place_at own0 at1 hss
              rw [hsub] at hd2
              cases hd2
              cases ej : ixN ds.length k with
              | none => rw [ej] at em; cases em
              | some j =>
                rw [ej] at em
                have em : (match shAt ss e j with | .fz => some (setD d0 p (.lst (ds.set j dx))) | _ => none) = some d' := em
                split at em
                · rename_i hfz
                  cases em
                  have hH2 := (kept a0 (inn a0 List.mem_cons_self)).trans hH
                  refine ⟨a0, vs1, k, j, rfl, r2.int_inv, hH2, by rw [ownL_len ol]; exact ej, ?_⟩
                  have rx2 := (rx.mono p1.step.ex).mono p2.step.ex
                  refine h1 σ F2 _ _ (p1.g.unlock hd hv0 p2 (fun b hb => ?_) ?_)
                  · have : b ≠ a0 := fun z => hb (z ▸ inn a0 List.mem_cons_self)
                    rw [upd_ne this]
                  · rw [hsh]
                    refine up F2 _ _ (.ls upd_same (ownL_set rx2 (ownL_mono p2.step.ex ol fun b hb => ?_) hfz) na) p2.step.ex fun b hb nb => ?_
                    · have : b ≠ a0 := fun z => na (z ▸ hb)
                      rw [upd_ne this]
                      exact kept b (inn b (List.mem_cons_of_mem _ hb))
                    · have : b ≠ a0 := fun z => nb (z ▸ List.mem_cons_self)
                      rw [upd_ne this]
                      exact kept b hb
                · cases em
            · cases em
end
end FL
namespace FL
namespace Er
open PySem PySem.W PySem.Calls PyProof.Rows
open Builtin Builtin.ObjectAttr
/-! ### an own error: its __init__ says super().__init__(a text) and keeps one field -/
abbrev fn : Str := "at"
abbrev bmE : List Value := [.type "Exception", .type "BaseException", .type "object"]
def iA (p1 p2 : Pos) : Arguments := { posonlyargs := [], args := [{ arg := "self", annotation := none, pos := p1 }, { arg := fn, annotation := none, pos := p2 }], vararg := none, kwonlyargs := [], kw_defaults := [], kwarg := none, defaults := [] }
def iB (m : Str) (j : Nat) (q1 q2 q3 q4 q5 q6 q7 q8 q9 q10 : Pos) : List Stmt :=
  [.Expr (.Call (.Attribute (.Call (.Name "super" q1) [] [] q2) "__init__" q3) [.Constant (.str m) j q4] [] q5) q6, .Assign [.Attribute (.Name "self" q7) fn q8] (.Name fn q9) q10]
def iS : Scope := { kind := .function, names := [(Str.ofString "self", .local), (fn, .local), (Str.ofString "__class__", .free), (Str.ofString "super", .globalImplicit)], isGenerator := false, isCoroutine := false, more := [] }
/-- what the written part says of an own error -/
structure Txt (P : Program) (K : Frag) (C fI : Addr) (qn m : Str) : Prop where
  cls : excInitIn K C bmE "Exception.__new__" = true
  over : excOver K C bmE = true
  mem : mroIn K C (.ref C) = some true
  sup : ks_superIn K C C "__init__" = some (some (.builtin "Exception.__init__"))
  opq : nsIn K cStatics "thirdparty.any" = some none
  sa : findIn K (.ref C) "__setattr__" = some (some (.builtin "object.__setattr__"))
  ga : findIn K (.ref C) "__getattribute__" = some (some (.builtin "BaseException.__getattribute__"))
  gg : findIn K (.ref C) "__getattr__" = some none
  noN : findIn K (.ref C) fn = some none
  tk : takerIn K C fn = some none
  iC : findIn K (.ref C) "__init__" = some (some (.ref fI))
  tC : typeIn K (.ref fI) = some (.type "function")
  kC : keepIn K (.ref C) = true
  exE : subIn K (.ref C) (.type "Exception") = some true
  exC : subIn K (.ref C) (.type "BaseException") = some true
  tyC : typeIn K (.ref C) = some (.type "type")
  hdC : hasDictIn K C = true
  top : (P.main.scope.names.lookup ("super" : Str)).isSome = false
  fn_ : ∃ (oc : Value) (od : Option Addr) (doc pm : Value) (an : Option Addr) (cda cc : Addr) (ct : Value) (osl : Array (Option Value)) (j : Nat) (p1 p2 q1 q2 q3 q4 q5 q6 q7 q8 q9 q10 : Pos),
    K.lookup fI = some ⟨oc, od, .func (ksFn "__init__" qn (iA p1 p2) (iB m j q1 q2 q3 q4 q5 q6 q7 q8 q9 q10) iS .none .none doc pm an (.ref cda) ct cc), osl⟩ ∧ codeIn K (.ref cda) qn = true ∧ (q3.endLine == q5.line) = true ∧
    (∃ ccl cdd vs ccs file tf, K.lookup cda = some ⟨ccl, cdd, .fields vs, ccs⟩ ∧ vs[2]? = some (.str file tf) ∧ ((P.main.file : Str) == file) = true) ∧
    (∃ cl cld csl, K.lookup cc = some ⟨cl, cld, .cell (some (.ref C)), csl⟩)
section
variable {prog : Program} {w : World} {A : Around} {E : Value → Shared → Prop} {R : Result → Shared → Prop} {hp : Heap} {g : Array GenState} {d : Drawn} {t : Nat} {os : OsState} {K : Frag}
/-- the first field -/
theorem osa1 {name : Str} {tk : Tok} {v : Value} {x C t0 : Addr} (X : K.In hp) (hx : hp.get? x = some (excObj C t0 none .none)) (ho : excOver K C bmE = true) (ht : takerIn K C name = some none) (hh : hasDictIn K C = true)
    (hq : ∀ h' tk' dx, (∀ b o, b ≠ x → hp.get? b = some o → h'.get? b = some o) → hp.objs.size ≤ dx → dx ≠ x → h'.get? x = some (excObj C t0 (some dx) .none) →
      h'.Ns1 dx (fun y => if y = name then some v else none) → R (.ok (.ret .none)) ⟨h', g, d, tk', os⟩) :
    codeAny (model prog w) A (.call (.builtin "object.__setattr__") ⟨[.ref x, .str name tk, v], []⟩) R ⟨hp, g, d, t, os⟩ := by
  have hxs : x ≠ hp.objs.size := Nat.ne_of_lt (Heap.lt_size hx)
  refine osa_openX (s := ⟨hp, g, d, t, os⟩) (od := none) (r := none) PySem.F.store_Exception X ⟨hx, rfl, rfl, trivial⟩ ho ht fun b => ?_
  obtain ⟨cd, hc, hd'⟩ := any_some hh
  show wpAny _ _ (storeInOwnDict (.ref x) (.ref C) (.str name tk) name v b) _ _ _
  refine wpAny_bind (wpAny_pure (wpAny_bind (instanceDict_exc hx (looks_clsIn X hc) hd' ?_)))
  show wpAny _ _ (storeInDict hp.objs.size (.str name tk) name v) _ _ _
  refine HandSPX.store_in_new ?_ fun h' tk' hn' hs => ?_
  · exact ⟨_, #[], _, (Heap.get?_update_ne _ _ _ _ hxs.symm).trans (Heap.get?_push_at rfl rfl), rfl, fun e he => absurd he (by simp), fun _ => rfl⟩
  · have hx₁ : (hp.push (dictOf [] 0)).get? x = some (excObj C t0 none .none) := Heap.get?_push_of_some _ hx
    refine hq h' tk' hp.objs.size (fun b o hb ho => ?_) (Nat.le_refl _) hxs.symm ?_ hn'
    · exact (hs.2 b (Nat.ne_of_lt (Heap.lt_size ho))).trans ((Heap.get?_update_ne _ _ _ _ hb).trans (Heap.get?_push_of_some _ ho))
    · exact (hs.2 x hxs).trans (Heap.get?_update_self _ hx₁ rfl)
/-- what is read of the module in __init__ -/
structure Env0 (h : Heap) (mg : Str → Option Value) : Prop where
  g : h.Ns mainGlobals mg
  b : ∃ mb, h.Ns builtinsNs mb ∧ mb "super" = some (.type "super")
  n : mg "super" = none
theorem Env0.keeps {h h' : Heap} {mg : Str → Option Value} (e : Env0 h mg) (k : ∀ b o, h.get? b = some o → h'.get? b = some o) : Env0 h' mg := by
  obtain ⟨g, ⟨mb, b1, b2⟩, n⟩ := e
  exact ⟨g.keeps k, ⟨mb, b1.keeps k, b2⟩, n⟩
/-- what __init__ leaves -/
structure End (h h' : Heap) (x C dx : Addr) (v : Value) : Prop where
  keep : ∀ b o, b ≠ x → h.get? b = some o → h'.get? b = some o
  obj : ∃ t1, h'.get? x = some (excObj C t1 (some dx) .none)
  dbig : h.objs.size ≤ dx
  dne : dx ≠ x
  ns : h'.Ns1 dx (fun y => if y = fn then some v else none)
theorem init {s : Shared} {mg : Str → Option Value} {C fI x t0 : Addr} {qn m : Str} {v : Value} (T : Txt prog K C fI qn m) (X : K.In s.heap) (e0 : Env0 s.heap mg) (hlim : s.heap.NoLimit) (hx : s.heap.get? x = some (excObj C t0 none .none)) (hnx : K.lookup x = none) (hroom : A.depth < recursionLimit)
    (hq : ∀ h' tk dx, End s.heap h' x C dx v → R (.ok (.ret .none)) { s with heap := h', toks := tk }) :
    codeAny (model prog w) A (.call (.ref fI) ⟨[.ref x, v], []⟩) R s := by
  obtain ⟨oc, od, doc, pm, an, cda, cc, ct, osl, j, p1, p2, q1, q2, q3, q4, q5, q6, q7, q8, q9, q10, ho, hcd, hln, ⟨ccl, cdd, vs, ccs, file, tf, hcode, hvs, hfile⟩, ⟨cl, cld, csl, hcell⟩⟩ := T.fn_
  refine ks_codeAny_call_defAt (fd := ksFn "__init__" qn (iA p1 p2) (iB m j q1 q2 q3 q4 q5 q6 q7 q8 q9 q10) iS .none .none doc pm an (.ref cda) ct cc) (binds := [("self", .ref x), (fn, v)])
    hroom (X _ _ ho) rfl hlim (codeRec_of X hcd) rfl (BindsTo.of_eq (by first | rfl | with_unfolding_all rfl)) ?_ ?_ (fun h₁ hn k => ?_) rfl rfl rfl
  · intro y hy
    simp only [iS, List.mem_cons, List.not_mem_nil, or_false] at hy
    rcases hy with rfl | rfl | rfl | rfl <;> exact fun z => nomatch z
  · intro y hy
    simp only [List.mem_cons, List.not_mem_nil, or_false] at hy
    rcases hy with rfl | rfl
    · rfl
    · exact rfl
  have k₁ := k
  obtain ⟨nm', N', qn', bs, bm, hdct, sn, sub, ab, col, dd, k0, k1, k2, k3, k5, hC, hT⟩ := excInit_of X T.cls
  have X₁ : K.In h₁ := X.keeps k
  have hx₁ := k _ _ hx
  have e1 : Env0 h₁ mg := e0.keeps k
  have hxL : s.heap.objs.size ≠ x := Nat.ne_of_gt (Heap.lt_size hx)
  obtain ⟨cdC, hcC, hdC⟩ := any_some T.hdC
  have lx : (fun y => List.lookup y ([(("self" : Str), Value.ref x), (fn, v)].reverse)) "self" = some (.ref x) := by
    first | rfl | decide | with_unfolding_all rfl
  have lv : (fun y => List.lookup y ([(("self" : Str), Value.ref x), (fn, v)].reverse)) fn = some v := by first | rfl | with_unfolding_all rfl
  show _root_.PySem.wpAt _ _ _ (execs (.Expr _ _ :: .Assign _ _ _ :: []) (ksEnv qn iS s.heap.objs.size fI (.ref cda) cc)) _ _ _
  have he : eval (.Call (.Attribute (.Call (.Name "super" q1) [] [] q2) "__init__" q3) [.Constant (.str m) j q4] [] q5) (ksEnv qn iS s.heap.objs.size fI (.ref cda) cc) = (do
      let ov ← attributeBase (.Call (.Name "super" q1) [] [] q2) "__init__" (ksEnv qn iS s.heap.objs.size fI (.ref cda) cc) (eval (.Call (.Name "super" q1) [] [] q2) (ksEnv qn iS s.heap.objs.size fI (.ref cda) cc))
      standAt q3.atName
      let (f, first) ← holding [ov] (getMethod ov "__init__" (do return (← importBound (.Call (.Name "super" q1) [] [] q2) (ksEnv qn iS s.heap.objs.size fI (.ref cda) cc)).getD true))
      callWith q5 f first (backTo q5 (starEach [.Constant (.str m) j q4] (ksEnv qn iS s.heap.objs.size fI (.ref cda) cc))) []) := by
    rw [arm_eval_Call]
    unfold methodCall methodCallPos
    rw [hln, Bool.or_true, if_pos rfl]
    rfl
  refine ks_wpAt_execs_cons (ks_wpAt_Expr_any (ks_wpAt_MethodCall (he := he) (ks_wpAt_super_base (env := ksEnv qn iS s.heap.objs.size fI (.ref cda) cc) rfl rfl (by decide) rfl (X₁ _ _ ho) rfl rfl rfl (X₁ _ _ hcode) rfl hvs hfile T.top ?_)))
  obtain ⟨mb, b1, b2⟩ := e1.b
  refine ks_loadName_global rfl rfl (loadGlobal_builtin (env := ksEnv qn iS s.heap.objs.size fI (.ref cda) cc) e1.g e1.n b1 b2 ⟨rfl, ?_⟩)
  refine wpAny_loadName_free rfl rfl rfl ⟨_, X₁ _ _ hcell, rfl⟩ ?_
  refine wpAny_loadName_local rfl rfl hn lx ?_
  have hC₁ := k _ _ hC
  refine ks_wpAny_isType_cls hC₁ rfl ⟨rfl, ?_⟩
  refine ks_wpAny_call_super hC₁ rfl hx₁ rfl (fun c e => by cases e) (looks_mroIn X₁ T.mem) (fun h2 e2 k2 => ?_)
  have X₂ : K.In h2 := X₁.keeps k2
  have hx₂ := k2 _ _ hx₁
  have I₂ : InstAt h2 x (excObj C t0 none .none) C none := ⟨hx₂, rfl, rfl, trivial⟩
  have hsup := T.sup
  unfold ks_superIn at hsup
  rw [hcC, Option.bind_some] at hsup
  refine ESX.getMethod_super e2 (looks_opaque X₂ T.opq) (l₀ := cdC.mro) ?_ rfl X₂ hsup (ks_ne X₂ I₂ hcC) (by decide) (I₂.type.andThen (looks_subIn X₂ T.exE)) ?_
  · exact fun A Q E s k q => wpAny_bind ((looks_clsIn X₂ hcC) A _ E s k (wpAny_pure q))
  have k3 : ∀ b o, h2.get? b = some o → (h2.push (ESX.bw x)).get? b = some o := fun b o e => Heap.get?_push_of_some _ e
  refine ESX.callWith_bound (x := x) (spliced_cons (Constant_str (k := j) (pos := q4) (spliced_nil ?_))) rfl rfl
  refine ⟨Heap.get?_push_at rfl rfl, ?_⟩
  refine ESX.call_bw (k3 _ _ (k2 _ _ hC₁)) (k3 _ _ hx₂) (Heap.get?_push_at rfl rfl) (by show 1 ≤ sizeLine; rw [sizeLine_eq]; omega) fun h4 t1 k4 hx4 => ?_
  refine wpAt_of_wpAny (wpAny_execs_cons (plainObj_wpAny_Assign_Attribute ?_))
  have kk : ∀ b o, b ≠ x → h₁.get? b = some o → h4.get? b = some o := fun b o hb e => k4 b o hb (k3 _ _ (k2 _ _ e))
  have hn4 : h4.Ns s.heap.objs.size _ := hn.at fun o e => kk _ _ hxL e
  have X₄ : K.In h4 := fun a o e => kk a o (fun z => by rw [z, hnx] at e; cases e) (X₁ a o e)
  refine wpAny_Name (wpAny_loadName_local rfl rfl hn4 lv ?_) (by decide)
  refine wpAny_Name (wpAny_loadName_local rfl rfl hn4 lx ?_) (by decide)
  refine set_plain X₄ (ox := excObj C t1 none .none) (od := none) ⟨hx4, rfl, rfl, trivial⟩ T.sa ?_
  refine osa1 X₄ hx4 T.over T.tk T.hdC (fun h5 tk5 dx k5 dn dne hx5 hn5 => ?_)
  show wpAny _ _ (execs _ _) _ _ _
  refine wpAny_execs_nil (hq h5 tk5 dx ⟨fun b o hb e => k5 b o hb (kk b o hb (k b o e)), ⟨t1, hx5⟩, ?_, dne, hn5⟩)
  obtain ⟨oL, _, _, hL, _⟩ := id hn4
  exact Nat.le_of_lt (Nat.lt_of_lt_of_le (Heap.lt_size hL) dn)
/-- a made error -/
structure Made (h h' : Heap) (e C dx : Addr) (v : Value) : Prop where
  keep : ∀ b o, h.get? b = some o → h'.get? b = some o
  new : h.objs.size ≤ e
  obj : ∃ oe vs, h'.get? e = some oe ∧ oe.cls = .ref C ∧ oe.dict = some dx ∧ oe.data = .fields vs ∧ vs[1]? = some .none
  dbig : h.objs.size ≤ dx
  dne : dx ≠ e
  ns : h'.Ns1 dx (fun y => if y = fn then some v else none)
theorem made {s : Shared} {mg : Str → Option Value} {C fI : Addr} {qn m : Str} {v : Value} (T : Txt prog K C fI qn m) (X : K.In s.heap) (e0 : Env0 s.heap mg) (hlim : s.heap.NoLimit) (hroom : A.depth + 1 < recursionLimit)
    (hq : ∀ h' tk e dx, Made s.heap h' e C dx v → R (.ok (.ret (.ref e))) { s with heap := h', toks := tk }) :
    codeAny (model prog w) A (.call (.ref C) ⟨[v], []⟩) R s := by
  obtain ⟨nm', N', qn', bs, bm, hdct, sn, sub, ab, col, dd, k0, k1, k2, k3, k5, hC, hT⟩ := excInit_of X T.cls
  obtain ⟨hp, g, dr, tk, os⟩ := s
  have k : ∀ b o, hp.get? b = some o → ((hp.push (kdv_tup [v])).push (HandSPX.excO C hp.objs.size)).get? b = some o := fun b o e => Heap.get?_push_of_some _ (Heap.get?_push_of_some _ e)
  have hget : ((hp.push (kdv_tup [v])).push (HandSPX.excO C hp.objs.size)).get? (hp.objs.size + 1) = some (HandSPX.excO C hp.objs.size) := by heap_get
  have hnx : K.lookup (hp.objs.size + 1) = none := by
    cases e : K.lookup (hp.objs.size + 1) with
    | none => rfl
    | some o =>
      have z : hp.get? (hp.objs.size + 1) = some o := X _ _ e
      exact absurd (Nat.lt_of_succ_lt (Heap.lt_size z)) (Nat.lt_irrefl _)
  refine HandSPX.call_own PySem.F.excBase_Exception hT hC (looks_findIn X T.iC) (fun self => bind_fn X self T.tC) (by show 1 ≤ sizeLine; rw [sizeLine_eq]; omega) ?_
  refine init (s := ⟨(hp.push (kdv_tup [v])).push (HandSPX.excO C hp.objs.size), g, dr, tk, os⟩) T (X.keeps k) (e0.keeps k) (hlim.keeps k) hget hnx ?_ fun h' tk' dx ⟨k', ⟨t1, hx⟩, dn, dne, hns⟩ => ?_
  · show A.depth + 1 < recursionLimit
    exact hroom
  · have old : ∀ b o, hp.get? b = some o → h'.get? b = some o := fun b o e => k' b o (Nat.ne_of_lt (Nat.lt_succ_of_lt (Heap.lt_size e))) (k b o e)
    have z : hp.objs.size + 1 + 1 ≤ dx := by
      first
        | (simpa only [Heap.size_push] using dn)
        | exact dn
        | (have q := dn; rw [Heap.size_push, Heap.size_push] at q; exact q)
    exact ⟨rfl, hq h' tk' (hp.objs.size + 1) dx ⟨old, Nat.le_succ _, ⟨_, _, hx, rfl, rfl, rfl, rfl⟩, Nat.le_trans (Nat.le_trans (Nat.le_succ _) (Nat.le_succ _)) z, dne, hns⟩⟩
end
end Er
open PySem PySem.Spec L2
open PyProof.Rows hiding St
theorem relO_at {v : V} {v' : Value} (r : RelV v v') (f : Str) : RelO (List.lookup f [(Er.fn, v)]) (if f = Er.fn then some v' else none) := by
  by_cases hw : f = Er.fn
  · rw [if_pos hw, hw]
    have q : List.lookup Er.fn [(Er.fn, v)] = some v := by simp [List.lookup]
    rw [q]
    exact r
  · rw [if_neg hw]
    have qw : (f == Er.fn) = false := by simpa using hw
    have q2 : List.lookup f [(Er.fn, v)] = none := by simp [List.lookup, qw]
    rw [q2]
    trivial
/-- what the written part says of an own error, with the module's words -/
structure ErOk (X : Cx) (x : Str) (C fI : Addr) (qn m : Str) : Prop where
  txt : Er.Txt X.prog X.K C fI qn m
  gC : X.mg x = some (.ref C)
  sup : X.mg "super" = none
def tMk (C : Addr) (ta : TA) : L2.St → Hp → XK → Prop := fun σ H Q => ta σ H fun vs H1 => ∃ v, vs = [v] ∧ ∀ d, H1 d = none → Q (.ref C) (some d) (upd H1 d (.xd [(Er.fn, v)]))
section
variable {X : Cx} {C fI : Addr} {qn m x : Str}
theorem pmk_own {a : Expr} {ta : TA} {p pos : Pos} {k : Nat} (T : ErOk X x C fI qn m) (hr : Room k X.A) (ha : PA X [a] ta) (hg : Gl X x) (hdb : (x == ("__debug__" : Str)) = false := by decide)
    (he : starEach (a :: []) X.env = (false, eval a X.env) :: starEach [] X.env := by rfl) (hpl : (backTo pos (starEach [] X.env)).any (·.1) = false := by rfl) :
    PMk X (.Call (.Name x p) [a] [] pos) (tMk C ta) := by
  intro pins s σ H Q I h
  refine PySem.wpAny_Call_Name_kw (ld_glob I hg T.gC ?_ hdb)
  refine PySem.W.callWith_K (h₀ := X.base) I.ok.mod.kin T.txt.kC (thn (ha.run pos pins s σ H _ I h) fun us s1 hh => ?_) he hpl
  obtain ⟨vs, H1, I1, r1, v, ev, q1⟩ := hh
  subst ev
  refine ⟨I1.kIn, ?_⟩
  cases r1 with
  | cons rv rn =>
    rename_i v' us'
    cases rn
    show wpAny _ _ (call (.ref C) [v']) _ _ _
    have hlim := I1.nolimit
    have e0 : Er.Env0 s1.heap X.mg := by
      obtain ⟨mb, h1, h2⟩ := I1.mod.blt
      exact ⟨I1.mod.glob.keeps I1.bk, ⟨mb, h1.keeps I1.bk, (h2 "super" (by decide)).trans (by decide +kernel)⟩, T.sup⟩
    obtain ⟨hp, g, dr, tk, os⟩ := s1
    refine wpAny_call (Er.made (s := ⟨hp, g, dr, tk, os⟩) T.txt I1.kIn e0 hlim (by have := hr.dp; omega) fun h' tk' e d M => ?_)
    show MkP X pins σ Q (.ref e) ⟨h', g, dr, tk', os⟩
    obtain ⟨oe, fv, hoe, hc, hd, hdat, h1⟩ := M.obj
    have hns := M.ns
    obtain ⟨G', g1, g2⟩ := restrict h' fun b => decide (b ≠ e)
    have gk : ∀ b, b ≠ e → G'.get? b = h'.get? b := fun b hb => g1 b (decide_eq_true hb)
    have ge : G'.get? e = none := g2 e (by simp)
    have old : ∀ b o, hp.get? b = some o → G'.get? b = some o := fun b o q => (gk b (Nat.ne_of_lt (Nat.lt_of_lt_of_le (Heap.lt_size q) M.new))).trans (M.keep b o q)
    have ob : ObjOk X.prog X.w (upd H1 d (.xd [(Er.fn, v)])) G' d (.xd [(Er.fn, v)]) :=
      ⟨_, hns.at (fun o q => (gk d M.dne).trans q), fun f => relO_at rv f⟩
    have J : Inv X pins σ (upd H1 d (.xd [(Er.fn, v)])) ⟨G', g, dr, tk', os⟩ := I1.laid (t' := tk') old M.dbig ob
    refine ⟨e, oe, fv, ⟨G', g, dr, tk', os⟩, _, .ref C, some d, rfl, J, fun b o q => ?_, ge, hoe, ⟨hc, hd⟩, hdat, h1, ?_, rfl, I1.bare, raises_own T.txt.exC T.txt.tyC, q1 d (I1.hok.fresh M.dbig)⟩
    · by_cases hb : b = e
      · have q' : G'.get? b = some o := q
        rw [hb, ge] at q'; cases q'
      · exact (gk b hb).symm.trans q
    · rw [upd_ne (Ne.symm M.dne)]
      exact I1.hok.fresh M.new
end
theorem Post.drop {K : PySem.W.Frag} {c : Ct} {F H F' H' : Hp} {fps fps' : Fps} {env : Sl} {σ : L2.St} {fpr : List Addr} (p : Post K c F H fps env σ F' H' fps' fpr) : Post K c F H fps env σ F' H' fps' [] :=
  ⟨p.step.weak (fun _ h => h) fun _ h => h.elim .inl (fun z => by cases z), p.g, fun _ h => by cases h⟩
/-- raise X(e), X the cid-th class -/
def sRaise (cid : Nat) (m : M D) : MS := fun e => (m e).then fun d e1 => .rs ⟨cid, [(Er.fn, d)]⟩ e1
section
variable {c : Ct} {X : Cx} {o : Sh} {a : Expr} {da : M D} {C fI : Addr} {qn m x : Str} {p pos pos2 : Pos} {k cid : Nat}
theorem fs_raise (hc : X.calm = true) (tk : Takes X c.W) (T : ErOk X x C fI qn m) (hcl : c.cl cid = C) (hr : Room k X.A) (ha : FE c X a .fz da) (hg : Gl X x := by rfl) (hdb : (x == ("__debug__" : Str)) = false := by decide)
    (he : starEach (a :: []) X.env = (false, eval a X.env) :: starEach [] X.env := by rfl) (hpl : (backTo pos (starEach [] X.env)).any (·.1) = false := by rfl) :
    FS c X (.Raise (some (.Call (.Name x p) [a] [] pos)) none pos2) o (sRaise cid da) := PS.weak (ps_raise hc tk (pmk_own T hr (pa_cons ha pa_nil he) hg hdb he hpl)) fun D σ H => by
  rintro ⟨F, env, fps, g, h⟩
  subst hcl
  refine (FL.T.then g h).mono fun v H1 ⟨d, F1, fps1, e1, p1, r1, h1⟩ => ?_
  refine ⟨v, rfl, fun dx hd => ?_⟩
  have n := New.own (o := .xd [(Er.fn, v)]) p1.g.ex hd
  refine h1 dx σ F1 _ fps1 (p1.g.new n).drop ⟨[(Er.fn, v)], upd_same, rfl, ?_⟩
  exact .cons r1 .nil
end
end FL
namespace FL
open PySem PySem.Spec L2
open PyProof.Rows hiding St
open L2H (RoomH PinOk cxH)
/-! ### defs called within an except suite: they raise nothing -/
structure FnQ (P : Program) (w : World) (K : PySem.W.Frag) (mg : Str → Option Value) (base : Heap) (CX : CXT) (k : Nat) (f : Addr) (fd : FuncData) (ps : List Str) (sp : Sp) : Prop where
  len : ∀ vs H Q E, sp vs H Q E → vs.length = ps.length
  run : ∀ (A : Around) (outer : List Env) (s : Shared) (H : Hp) (args : Args) (us : List Value) (vs : List V) (Q : VK) (E : XK) (p : Addr × Obj), RoomH k A → PinOk outer H s p → Env0 P w K mg base A outer s H → BindsTo s fd args (ps.zip us) → Vals vs us → sp vs H Q E →
    codeAny (model P w) A (.call (.ref f) args) (CR CX outer P w H s Q E) s
section
variable {P : Program} {w : World} {K : PySem.W.Frag} {mg : Str → Option Value} {base : Heap} {cl : Nat → Addr}
theorem fn_okQ {x qual : Str} {st : Stmt} {f : Addr} {fd : FuncData} {N ps : List Str} {k np : Nat} {o : Sh} {nxok : Bool} {body : MS} (Fu : Fun K x qual st f fd) (S : FnScope N ps (defScope st)) (hnp : ps.length = np) (hN : np ≤ N.length) (hnx : nxok = true → o = .fz)
    (hbody : ∀ (cdv : Value) (A : Around) (outer : List Env) (s : Shared) (H : Hp) (vs : List V) (E : XK) (p : Addr × Obj), RoomH k (A.deeper (envOfC qual (defScope st) s.heap.objs.size f cdv)) →
      FSs (ctF cl (fun _ => .fz) [] vs E) (cxH (L2.CX P w) P w K mg base N qual (defScope st) f cdv A outer s H E p) (defBody st) o body) :
    FnQ P w K mg base (L2.CX P w) (k + 1) f fd ps (spF K cl (fun _ => .fz) [] o np (runF N.length np [] nxok body)) := by
  obtain ⟨oc, od, kV, doc, pm, an, cdv, ct, osl, rfl, lk, hcd⟩ := Fu.ex
  refine ⟨fun vs H Q E h => by rw [hnp]; exact h.1, fun A outer s H args us vs Q E p hr hpin e0 hb r hsp => ?_⟩
  have hl : vs.length = ps.length := by rw [hnp]; exact hsp.1
  have KX : K.In s.heap := e0.mod.kin.keeps fun b o e => (e0.bs b o e).1
  have lim : s.heap.NoLimit := e0.mod.nolimit.keeps fun b o e => (e0.bs b o e).1
  have hkind : ∀ y ∈ ps.zip us, (defScope st).names.lookup y.1 = some .local ∨ ((defScope st).names.lookup y.1 = some .cell ∧ ((PySem.cellsFrom (s.heap.objs.size + 1) (defScope st).names []).lookup y.1).isSome = true) := fun ⟨n, v⟩ hy => by
    rcases S.par n (List.of_mem_zip hy).1 with q | q
    · exact .inl q
    · exact .inr ⟨q, PySem.W.cellsFrom_some _ _ _ (.inl q)⟩
  refine codeAny_call_function hr.depth (KX _ _ lk) rfl S.co S.gen rfl (PySem.W.codeRec_of KX hcd) (hb _ _ _ _ ?_)
  refine wpAny_newFunctionEnv_cells S.kind hkind fun env he s1 x => ?_
  subst he
  refine ⟨lim.keeps x.toInCall.keep, codeAny_func ?_⟩
  have I := L2H.inv_startH (CX := L2.CX P w) (E := E) (cd := cdv) (qual := qual) (f := f) S hpin e0 hl r x
  have ht := hbody cdv A outer s H vs E p (hr.deeper _)
  have hq := spF_body (cl := cl) (E := E) (Q := Q) hN List.nodup_nil (fun i h => absurd rfl h) (fun i h => by cases h) hnx hsp
  refine wpAny_mono (ht.run [] s1 (L2.start N vs) H _ I hq) (fun fl s' hs => ?_) fun e s' hs => hs
  have fin : ∀ {σ' : L2.St} {H' : Hp} {v : V} {u : Value}, Inv (cxH (L2.CX P w) P w K mg base N qual (defScope st) f cdv A outer s H E p) [] σ' H' s' → RelV v u → Q v H' → CE outer P w H s Q u s' :=
    fun {σ' H' v u} J rv q => ⟨v, H', J.os, J.bare, J.base, J.hok, rv, q⟩
  cases fl with
  | ret u =>
    obtain ⟨v, σ', H', J, rv, q⟩ := hs
    exact fin J rv q
  | next =>
    obtain ⟨σ', H', J, q⟩ := hs
    exact fin (v := V.non) (u := Value.none) J rfl q
  | brk =>
    obtain ⟨_, _, _, q⟩ := hs
    exact False.elim q
  | cont =>
    obtain ⟨_, _, _, q⟩ := hs
    exact False.elim q
end
/-- a call by values, that raises nothing -/
def dCallV (f : Fn) (m : M (List D)) : M D := fun e => (m e).bind fun ds e1 => match f ds with
  | .ok d _ => .ok d e1
  | _ => .er
section
variable {c : Ct} {X : Cx} {e : Expr} {es : List Expr} {ml : M (List D)} {pos p : Pos} {f : Addr} {fd : FuncData} {x : Str} {k np : Nat} {ps : List Str} {o : Sh} {fn : Fn}
theorem run_fnQ {pins : List (Addr × Obj)} {σ : L2.St} {H : Hp} {s : Shared} {Q : VK} {us : List Value} {vs : List V} {sp : Sp} (F : FnQ X.prog X.w X.K X.mg X.base (L2.CX X.prog X.w) k f fd ps sp) (hr : RoomH k X.A) {p : Addr × Obj} (hp : p ∈ X.pn) (hb : Binds X.K fd ps [])
    (I : Inv X pins σ H s) (r : Vals vs us) (h : sp vs H Q E0) : wpAny (model X.prog X.w) X.A (call (.ref f) us) (EP X pins σ Q) X.xe s := by
  have hl : us.length = ps.length := by rw [← r.length]; exact F.len _ _ _ _ h
  have b := hb s us I.kIn (by rw [List.append_nil]; exact hl)
  rw [List.append_nil] at b
  have P1 := I.pin p (List.mem_append_left _ hp)
  have hpin : PinOk X.stack H s p := ⟨P1.1, P1.2.1, fun hm => (List.mem_cons.mp (I.stkSub p.1 hm)).elim P1.2.2.1 P1.2.2.2.1, P1.2.2.2.2⟩
  refine wpAny_call (codeAny_mono (F.run X.A X.stack s H ⟨us, []⟩ us vs Q E0 p hr hpin I.env0 b r h) fun r s' hq => ?_)
  cases r with
  | error e => obtain ⟨_, _, _, _, _, _, _, _, _, _, _, _, z⟩ := hq; exact z.elim
  | ok fl =>
    cases fl with
    | ret u => exact I.after hq
    | next => exact False.elim hq
    | brk => exact False.elim hq
    | cont => exact False.elim hq
/-- the promise, used -/
theorem spF_use {K : PySem.W.Frag} {cl : Nat → Addr} {F H : Hp} {vs : List V} {ds : List D} {Q : VK} (ex : Ext F H) (r : RepL K cl F vs ds) (hl : vs.length = np)
    (h : match fn ds with
      | .ok d _ => ∀ v F' H' fpr, New F H F' H' fpr → Own K cl F' H' o v d fpr → Q v H'
      | _ => False) : spF K cl (fun _ => .fz) [] o np fn vs H Q E0 := by
  refine ⟨hl, F, ds, fun _ => [], ⟨ex, by rw [List.length_map, List.length_map]; exact r.len.symm, fun i d e => ?_, fun _ _ => rfl, fun i j a h => (by cases h), fun i a h => (by cases h), fun i v e => (by cases e)⟩, ?_⟩
  · rw [List.getElem?_map] at e
    cases q : ds[i]? with
    | none => rw [q] at e; cases e
    | some z =>
      rw [q] at e; cases e
      obtain ⟨v, hv, rr⟩ := r.get q
      exact ⟨v, by rw [List.getElem?_map, hv]; rfl, .fz rr⟩
  · revert h
    cases fn ds with
    | ok d os =>
      intro h v F' H' fps' fpr p q
      have no : ∀ a, ¬ In (fun _ => []) a := fun a ⟨i, h⟩ => by cases h
      refine h v F' H' fpr ⟨⟨p.step.ex, fun a o e _ => p.step.keep a o e (no a), fun a o e => (p.step.newF a o e).imp id (Or.imp (fun z => no a z) id), fun a ha => .inr ((p.step.newP a (.inr ha)).resolve_left (no a))⟩, p.g.ex, fun a ha => (p.fr a ha).1⟩ q
    | rs x os => exact fun h => h.elim
    | er => exact id
theorem pe_callQ {sp : Sp} {t : TA} (Fk : FnQ X.prog X.w X.K X.mg X.base (L2.CX X.prog X.w) k f fd ps sp) (hr : RoomH k X.A) {q : Addr × Obj} (hq : q ∈ X.pn) (hx : Gl X x) (hm : X.mg x = some (.ref f)) (hkp : PySem.W.keepIn X.K (.ref f) = true) (hb : Binds X.K fd ps [])
    (ha : PA X (e :: es) t) (hdb : (x == ("__debug__" : Str)) = false := by decide) (he : starEach (e :: es) X.env = (false, eval e X.env) :: starEach es X.env := by rfl) (hpl : (backTo pos (starEach es X.env)).any (·.1) = false := by rfl) :
    PE X (.Call (.Name x p) (e :: es) [] pos) (fun σ H Q => t σ H fun vs H1 => sp vs H1 Q E0) := ⟨fun pins s σ H Q I h =>
  PySem.wpAny_Call_Name_kw (ld_glob I hx hm (PySem.W.callWith_K (h₀ := X.base) I.ok.mod.kin hkp (thn (ha.run pos pins s σ H _ I h) fun us s1 ⟨vs, H1, I1, r, z⟩ => ⟨I1.kIn, run_fnQ Fk hr hq hb I1 r z⟩) he hpl) hdb)⟩
/-- .. where the arguments are np -/
def dLen (np : Nat) (m : M (List D)) : M (List D) := fun e => (m e).bind fun ds e1 => if ds.length = np then .ok ds e1 else .er
theorem fe_callQ (Fk : FnQ X.prog X.w X.K X.mg X.base (L2.CX X.prog X.w) k f fd ps (spF X.K c.cl (fun _ => .fz) [] o np fn)) (hr : RoomH k X.A) {q : Addr × Obj} (hq : q ∈ X.pn) (hx : Gl X x) (hm : X.mg x = some (.ref f)) (hkp : PySem.W.keepIn X.K (.ref f) = true) (hb : Binds X.K fd ps [])
    (ha : FA c X (e :: es) ml) (hdb : (x == ("__debug__" : Str)) = false := by decide) (he : starEach (e :: es) X.env = (false, eval e X.env) :: starEach es X.env := by rfl) (hpl : (backTo pos (starEach es X.env)).any (·.1) = false := by rfl) :
    FE c X (.Call (.Name x p) (e :: es) [] pos) o (dCallV fn (dLen np ml)) := PE.weak (pe_callQ Fk hr hq hx hm hkp hb ha hdb he hpl) fun σ H Q => by
  rintro ⟨F, env, fps, gg, h⟩
  have h' : Tg X.K c (relV X.K c o) ((ml env).bind fun ds e1 => (if ds.length = np then R.ok ds e1 else .er).bind fun ds e1 => match fn ds with | .ok d _ => .ok d e1 | _ => .er) F H fps σ Q := by
    revert h
    unfold dCallV dLen
    cases ml env with
    | ok ds e1 => exact id
    | rs x e1 => exact id
    | er => exact id
  refine (TL.one gg h').mono fun vs H1 ⟨ds, F1, fps1, e1, p1, r1, h1⟩ => ?_
  by_cases hl : ds.length = np
  · rw [if_pos hl] at h1
    refine spF_use p1.g.ex r1 (r1.len.trans hl) ?_
    have h1 : Tg X.K c (relV X.K c o) (match fn ds with | .ok d _ => .ok d e1 | _ => .er) F1 H1 fps1 σ Q := h1
    revert h1
    cases fn ds with
    | ok d os => exact fun h1 v F' H' fpr n w => fin_new p1.g h1 v F' H' fpr n w
    | rs x os => exact fun h => h.elim
    | er => exact fun h => h.elim
  · rw [if_neg hl] at h1
    exact h1.elim
end
end FL
namespace FL
open PySem PySem.Spec L2
open PyProof.Rows hiding St
/-! ### try with several named clauses -/
/-- a clause: the class it names, the slot of its name, what its suite wishes -/
abbrev Cl := Value × Nat × (Addr → Value → Option Addr → TS)
/-- the ends of a suite: its name's slot is emptied -/
def endsN (D : Ends) (i : Nat) : Ends := { nx := fun σ H => D.nx (σ.set i none) H, rt := D.rt, bk := fun σ H => D.bk (σ.set i none) H, ct := fun σ H => D.ct (σ.set i none) H }
def wCls (K : PySem.W.Frag) (Wout : WX) (D : Ends) : List Cl → WX
  | [] => Wout
  | (c, i, ts) :: r => fun cls d σ H => ∃ b, PySem.W.exmOne K cls c = some b ∧
      if b then ∀ a, H a = none → ts a cls d (endsN D i) (σ.set i (some (.ref a))) H else wCls K Wout D r cls d σ H
inductive Clauses (X : Cx) : List ExceptHandler → List Cl → Prop
  | nil : Clauses X [] []
  | cons {x n : Str} {c : Value} {i : Nat} {ts : Addr → Value → Option Addr → TS} {st : Stmt} {sts : List Stmt} {np hp : Pos} {hs : List ExceptHandler} {l : List Cl} (nm : Names X x c) (at_ : X.N[i]? = some n) (loc : X.env.kindOf n = some .local)
      (su : ∀ (a : Addr) (oe : Obj) (cls : Value) (d : Option Addr) (pn : List (Addr × Obj)), Zc cls d oe → (∃ vs, oe.data = .fields vs) → PSs (X.suite a ((a, oe) :: pn)) (st :: sts) (ts a cls d)) (more : Clauses X hs l) :
      Clauses X (.ExceptHandler (some (.Name x np)) (some n) (st :: sts) hp :: hs) ((c, i, ts) :: l)
/-- an exception on the ground, with the state that stands beside it -/
structure Down (X : Cx) (pins : List (Addr × Obj)) (σ : L2.St) (H : Hp) (a : Addr) (cls : Value) (d : Option Addr) (s : Shared) : Prop where
  ex : ∃ B sI, Inv X pins σ H sI ∧ (∀ b o, sI.heap.get? b = some o → b ∉ frs X.stack → B.get? b = some o) ∧ sI.heap.UpToSlots s.heap ∧ HandSPX.FlyingZ B X.stack a (Zc cls d) s.heap ∧ s.os = sI.os ∧ AllBare s.gens
  na : H a = none
section
variable {X : Cx} {pins : List (Addr × Obj)} {σ : L2.St} {H : Hp} {a : Addr} {cls : Value} {d : Option Addr} {s : Shared}
theorem Down.inv (x : Down X pins σ H a cls d s) : Inv X pins σ H s := by
  obtain ⟨⟨B, sI, J, nb, up, fl, os, ag⟩, _⟩ := x
  exact J.landed nb fl.1 up os ag
theorem Down.obj (x : Down X pins σ H a cls d s) : ∃ oe vs, s.heap.get? a = some oe ∧ Zc cls d oe ∧ oe.data = .fields vs := by
  obtain ⟨⟨B, sI, J, nb, up, fl, os, ag⟩, _⟩ := x
  exact fl.there
theorem Down.off (x : Down X pins σ H a cls d s) : a ∉ frs X.stack := by
  obtain ⟨⟨B, sI, J, nb, up, fl, os, ag⟩, _⟩ := x
  intro m
  obtain ⟨_, o, e, z⟩ := fl.2.2.1.mem m
  obtain ⟨oe, vs, e', _, dd⟩ := fl.there
  rw [e'] at e
  cases e
  exact z _ dd
theorem Down.suite (hs : X.stack = X.env :: X.outer) (hf : X.env.frame = some X.env.locals) (x : Down X pins σ H a cls d s) {oe : Obj} {vs : Array Value} (h : s.heap.get? a = some oe) (hd : oe.data = .fields vs) :
    Inv (X.suite a ((a, oe) :: (X.pn ++ pins))) [] σ H s := by
  have o := x.off
  rw [hs] at o
  refine x.inv.suite h hd x.na (fun z => o (List.mem_filterMap.mpr ⟨X.env, List.mem_cons_self, by rw [hf, z]⟩)) fun m => o ?_
  obtain ⟨e, m1, m2⟩ := List.mem_filterMap.mp m
  exact List.mem_filterMap.mpr ⟨e, .tail _ m1, m2⟩
/-- its flight is set anew -/
theorem Down.again {M : Model} {A : Around} {E : Value → Shared → Prop} {Q : Unit → Shared → Prop} (x : Down X pins σ H a cls d s) (h : ∀ s', Down X pins σ H a cls d s' → Q () s') : wpAny M A (setFlight (.ref a) none) Q E s := by
  obtain ⟨⟨B, sI, J, nb, up, fl, os, ag⟩, na⟩ := x
  exact HandSPX.lands_againZ fl fun g fg ug => h _ ⟨⟨B, sI, J, nb, up.trans ug, fg, os, ag⟩, na⟩
/-- no clause takes it -/
theorem Down.pass (hs : X.stack = X.env :: X.outer) (hf : X.env.frame = some X.env.locals) {W : WX} (tk : Takes X W) (x : Down X pins σ H a cls d s) (w : W cls d σ H) {Q : Flow → Shared → Prop} :
    wpAny (model X.prog X.w) X.A (handleBy (.ref a) X.env []) Q X.xe s := by
  obtain ⟨⟨B, sI, J, nb, up, fl, os, ag⟩, na⟩ := x
  refine wpAny_handleBy_nil ?_
  obtain ⟨_, _, _, oe, vs, T, _, _, e0, _, e1, e2, _⟩ := id fl
  unfold PySem.passOn
  refine wpAny_bind (wpAny_field e0 e1 e2 ?_)
  rw [if_neg (show ¬ ((Value.ref T == Value.none) = true) by simp)]
  have fin : wpAny (model X.prog X.w) X.A (setFlight (.ref a) X.env.frame) (fun _ s4 => wpAny (model X.prog X.w) X.A (throw (.ref a) : Sem Flow) Q X.xe s4) X.xe s := by
    rw [hf]
    rw [hs] at fl
    refine HandSPX.setFlight_upZ fl fun g hg ug => wpAny_throw (tk _ _ ⟨a, B, sI, pins, σ, H, cls, d, rfl, J, nb, up.trans ug, .inr (.inr ?_), na, os, ag, w⟩)
    rw [hs]
    exact hg
  first | exact wpAny_bind (wpAny_pure (wpAny_bind fin)) | exact wpAny_bind fin
/-- the clauses, one after the other -/
theorem clauses_ok (hs : X.stack = X.env :: X.outer) (hf : X.env.frame = some X.env.locals) (hN : X.N.Nodup) (ok : X.Ok) {Wout : WX} (tk : Takes X Wout) {D : Ends} {hds : List ExceptHandler} {l : List Cl} (k : Clauses X hds l) (x : Down X pins σ H a cls d s) (w : wCls X.K Wout D l cls d σ H) :
    wpAny (model X.prog X.w) X.A (handleBy (.ref a) X.env hds) (SP X pins D) X.xe s := by
  induction k generalizing s with
  | nil => exact x.pass hs hf tk w
  | @cons y n c i ts st sts np hp hds l nm at_ loc su more ih =>
    obtain ⟨b, hb, w⟩ := w
    obtain ⟨oe, vs, e0, z0, d0⟩ := x.obj
    have S := x.suite hs hf e0 d0
    refine wpAny_handleBy_cons (codeAny_handlers_test ?_) (by intro q; cases q)
    have seen : PySem.W.Looks (model X.prog X.w) s.heap (typeOf (.ref a)) cls := fun A Q E s' k q => wpAny_typeOf_ref (k _ _ e0) (by rw [z0.1]; exact q)
    have asks := PySem.W.exm_one (M := model X.prog X.w) x.inv.kIn seen hb
    have name : ∀ {Q : Value → Shared → Prop} {E : Value → Shared → Prop}, Q c s → wpAny (model X.prog X.w) (X.A.mark (some (.ref a))) (eval (.Name y np) X.env) Q E s := fun q => by
      obtain ⟨g, nd, m | ⟨m, v, nn⟩⟩ := nm
      · exact ld_glob (X := X.suite a ((a, oe) :: (X.pn ++ pins))) S g m q nd
      · exact ld_blt (X := X.suite a ((a, oe) :: (X.pn ++ pins))) S g m v q nn nd
    refine name (asks.here ?_)
    cases b with
    | false => exact ih x w
    | true =>
      refine codeAny_handlers_suite_as (x.again fun s1 x1 => ?_)
      obtain ⟨oe1, vs1, e1, z1, d1⟩ := x1.obj
      refine store_ok (X := X.suite a ((a, oe1) :: (X.pn ++ pins))) (v := .ref a) (x1.suite hs hf e1 d1) hN at_ (.inl loc) rfl (fun s2 S2 => ?_) (.inr loc)
      refine wpAny_mono ((su a oe1 cls d (X.pn ++ pins) z1 ⟨_, d1⟩).run [] s2 _ H _ S2 (w a x.na)) (fun f s3 r => ?_) fun _ _ z => z.elim
      cases f with
      | next => obtain ⟨σ3, H3, S3, q⟩ := r; exact gone_ok (S3.unsuite ok) hN at_ loc fun s4 J => ⟨_, _, J, q⟩
      | brk => obtain ⟨σ3, H3, S3, q⟩ := r; exact gone_ok (S3.unsuite ok) hN at_ loc fun s4 J => ⟨_, _, J, q⟩
      | cont => obtain ⟨σ3, H3, S3, q⟩ := r; exact gone_ok (S3.unsuite ok) hN at_ loc fun s4 J => ⟨_, _, J, q⟩
      | ret u => obtain ⟨v, σ3, H3, S3, rr, q⟩ := r; exact gone_ok (S3.unsuite ok) hN at_ loc fun s4 J => ⟨_, _, _, J, rr, q⟩
end
section
variable {X : Cx} {body : List Stmt} {h₀ : ExceptHandler} {hds : List ExceptHandler} {l : List Cl} {pos : Pos} {tb : WX → TS} {Wout : WX}
theorem ps_try_named (hs : X.stack = X.env :: X.outer) (hf : X.env.frame = some X.env.locals) (hN : X.N.Nodup) (tk : Takes X Wout)
    (hb : ∀ (W : WX) (pn : List (Addr × Obj)) (xe : Value → Shared → Prop), Takes (X.tr pn xe) W → PassesOwn (model X.prog X.w) X.A X.env xe → PSs (X.tr pn xe) body (tb W)) (k : Clauses X (h₀ :: hds) l) :
    PS X (.Try body (h₀ :: hds) [] [] pos) (fun D σ H => tb (wCls X.K Wout D l) D σ H) := ⟨fun pins s σ H D I h => by
  have ok := I.ok
  refine wpAny_Try_except (wpAny_mono ((hb (wCls X.K Wout D l) (X.pn ++ pins) (fun e s1 => wpAny (model X.prog X.w) X.A (noteFrame e X.env) (fun _ s2 => wpAny (model X.prog X.w) X.A (setFlight e none) (fun _ s3 =>
    wpAny (model X.prog X.w) X.A (handleBy e X.env (h₀ :: hds)) (SP X pins D) X.xe s3) X.xe s2) X.xe s1) (fun u s1 air => ?_) PassesOwn.looking).run [] s σ H D (I.toTry _) h) (fun f s1 r => ?_) fun e s1 q => q)
  · obtain ⟨a, B, sI, pins', σ', H', cls, d, rfl, J, nb, up, sky, na, os, ag, w⟩ := air
    have fr : X.A.frames = some (X.env :: X.outer) := by rw [ok.frames, hs]
    refine Sky.land Zc.steady fr hf (by rw [← hs]; exact sky) fun g fg ug => ?_
    exact clauses_ok hs hf hN ok tk k ⟨⟨B, sI, J.ofTry ok, nb, up.trans ug, by rw [hs]; exact fg, os, ag⟩, na⟩ w
  · cases f with
    | next => obtain ⟨σ1, H1, J, q⟩ := r; exact wpAny_execs_nil ⟨σ1, H1, J.ofTry ok, q⟩
    | brk => obtain ⟨σ1, H1, J, q⟩ := r; exact ⟨σ1, H1, J.ofTry ok, q⟩
    | cont => obtain ⟨σ1, H1, J, q⟩ := r; exact ⟨σ1, H1, J.ofTry ok, q⟩
    | ret u => obtain ⟨v, σ1, H1, J, rr, q⟩ := r; exact ⟨v, σ1, H1, J.ofTry ok, rr, q⟩⟩
end
end FL
namespace FL
open PySem PySem.Spec L2
open PyProof.Rows hiding St
/-! ### suites that answer with what the error tells -/
def hAt (t : Str) (x : Exn) : Option D := (x.fs.lookup Er.fn).map fun d => .tup [.str t, d]
def hPl (t : Str) (f : Fn) (x : Exn) : Option D := match x.fs.lookup Er.fn with
  | some d => (match f [d] with
    | .ok d' _ => some (.tup [.str t, d'])
    | _ => none)
  | none => none
/-- what is asked of the classes -/
structure ClsOk (K : PySem.W.Frag) (cl : Nat → Addr) : Prop where
  xf : ∀ n, XfC K (cl n)
  no : ∀ n, PySem.W.findIn K (.ref (cl n)) Er.fn = some none
def tSu (K : PySem.W.Frag) (cl : Nat → Addr) (i : Nat) (m : Exn → Option D) (a : Addr) (cls : Value) (d : Option Addr) : TS := fun D σ H =>
  ∃ x F dx d', d = some dx ∧ cls = .ref (cl x.c) ∧ σ[i]? = some (some (.ref a)) ∧ Ext F H ∧ RepX K cl F H x dx ∧ m x = some d' ∧ ∀ v F' H', New F H F' H' [] → Rep K cl F' v d' → D.rt v H'
theorem lookup_rep {K : PySem.W.Frag} {cl : Nat → Addr} {F : Hp} {f : Str} {d : D} : ∀ {fs : List (Str × V)} {xs : List (Str × D)}, fs.map (·.1) = xs.map (·.1) → RepL K cl F (fs.map (·.2)) (xs.map (·.2)) → xs.lookup f = some d → ∃ v, fs.lookup f = some v ∧ Rep K cl F v d
  | [], [], _, _, h => by cases h
  | [], _ :: _, h, _, _ => by cases h
  | _ :: _, [], h, _, _ => by cases h
  | (n, v) :: fs, (n', d') :: xs, h, r, l => by
    simp only [List.map_cons, List.cons.injEq] at h
    obtain ⟨h1, h2⟩ := h
    subst h1
    by_cases e : f = n
    · subst e
      have l' : some d' = some d := by simpa [List.lookup] using l
      cases l'
      exact ⟨v, by simp [List.lookup], r.head⟩
    · have q : (f == n) = false := by simpa using e
      have l' : xs.lookup f = some d := by simpa [List.lookup, q] using l
      obtain ⟨u, hu, ru⟩ := lookup_rep h2 r.tail l'
      exact ⟨u, by simp [List.lookup, q, hu], ru⟩
section
variable {X : Cx} {cl : Nat → Addr} {a : Addr} {oe : Obj} {cls : Value} {d : Option Addr} {pn : List (Addr × Obj)} {n t : Str} {i j : Nat} {p1 p2 p3 p4 p5 p6 p7 : Pos} {x1 : _}
/-- e.at, in a suite -/
theorem pe_at (kc : ClsOk X.K cl) (hN : X.N[i]? = some n) (hv : Vis X.env.scope n) (hnd : (n == ("__debug__" : Str)) = false) (hncd : (n == ("__classdict__" : Str)) = false) (hz : Zc cls d oe) (hf : ∃ vs, oe.data = .fields vs) (hb : attributeBase (.Name n p2) Er.fn X.env (eval (.Name n p2) X.env) = eval (.Name n p2) X.env) (c : Nat) :
    PE (X.suite a ((a, oe) :: pn)) (.Attribute (.Name n p2) Er.fn p3) (tXf a cls d (cl c) Er.fn (tVar i)) :=
  pe_xf (kc.xf c) (kc.no c) hz hf (pe_var (X := X.suite a ((a, oe) :: pn)) hN hv hnd hncd) hb
theorem su_at (kc : ClsOk X.K cl) (hN : X.N[i]? = some n) (hv : Vis X.env.scope n) (hnd : (n == ("__debug__" : Str)) = false) (hncd : (n == ("__classdict__" : Str)) = false) (hz : Zc cls d oe) (hf : ∃ vs, oe.data = .fields vs)
    (hb : attributeBase (.Name n p2) Er.fn X.env (eval (.Name n p2) X.env) = eval (.Name n p2) X.env)
    (hs1 : starEach [.Constant (.str t) j p1, .Attribute (.Name n p2) Er.fn p3] X.env = (false, eval (.Constant (.str t) j p1) X.env) :: starEach [.Attribute (.Name n p2) Er.fn p3] X.env) (hs2 : starEach [.Attribute (.Name n p2) Er.fn p3] X.env = (false, eval (.Attribute (.Name n p2) Er.fn p3) X.env) :: starEach [] X.env) :
    PSs (X.suite a ((a, oe) :: pn)) [.Return (some (.Tuple [.Constant (.str t) j p1, .Attribute (.Name n p2) Er.fn p3] x1 p4)) p5] (tSu X.K cl i (hAt t) a cls d) := by
  refine ⟨fun pins s σ H D I ⟨x, F, dx, d', ed, ec, es, xt, ⟨fs, hx, hn, hr⟩, hm, q⟩ => ?_⟩
  refine (pss_cons (ps_ret (pe_tup (pa_cons pe_str (pa_cons (pe_at (p2 := p2) (p3 := p3) kc hN hv hnd hncd hz hf hb x.c) pa_nil hs2) hs1))) pss_nil).run pins s σ H D I ?_
  unfold hAt at hm
  obtain ⟨e0, l0, hm⟩ := Option.map_eq_some_iff.mp hm
  subst hm
  obtain ⟨v, lv, rv⟩ := lookup_rep hn hr l0
  refine ⟨_, es, rfl, ec, dx, fs, v, ed, hx, lv, ?_⟩
  refine ⟨by show 2 ≤ sizeLine; rw [sizeLine_eq]; omega, fun p hp => ?_⟩
  have nw := New.frz (o := .tup [.str t, v]) xt hp
  refine q _ _ _ nw (.tupL (SqT.of upd_same) ?_)
  exact .cons (.str t) (.cons (rv.mono nw.step.ex) .nil)
/-- t, f(e.at) -/
theorem su_pl {f : Addr} {fd : FuncData} {x : Str} {k : Nat} {ps : List Str} {fn : Fn} (kc : ClsOk X.K cl) (hN : X.N[i]? = some n) (hv : Vis X.env.scope n) (hnd : (n == ("__debug__" : Str)) = false) (hncd : (n == ("__classdict__" : Str)) = false)
    (Fk : FnQ X.prog X.w X.K X.mg X.base (L2.CX X.prog X.w) k f fd ps (spF X.K cl (fun _ => .fz) [] .fz 1 fn)) (hrm : Room k X.A) (hgx : Gl X x) (hgm : X.mg x = some (.ref f)) (hkp : PySem.W.keepIn X.K (.ref f) = true) (hbd : Binds X.K fd ps [])
    (hz : Zc cls d oe) (hf : ∃ vs, oe.data = .fields vs) (hdb : (x == ("__debug__" : Str)) = false)
    (hb : attributeBase (.Name n p2) Er.fn X.env (eval (.Name n p2) X.env) = eval (.Name n p2) X.env)
    (hs1 : starEach [.Constant (.str t) j p1, .Call (.Name x p6) [.Attribute (.Name n p2) Er.fn p3] [] p7] X.env = (false, eval (.Constant (.str t) j p1) X.env) :: starEach [.Call (.Name x p6) [.Attribute (.Name n p2) Er.fn p3] [] p7] X.env)
    (hs2 : starEach [.Call (.Name x p6) [.Attribute (.Name n p2) Er.fn p3] [] p7] X.env = (false, eval (.Call (.Name x p6) [.Attribute (.Name n p2) Er.fn p3] [] p7) X.env) :: starEach [] X.env)
    (hs3 : starEach [.Attribute (.Name n p2) Er.fn p3] X.env = (false, eval (.Attribute (.Name n p2) Er.fn p3) X.env) :: starEach [] X.env) (hpl : (backTo p7 (starEach [] X.env)).any (·.1) = false) :
    PSs (X.suite a ((a, oe) :: pn)) [.Return (some (.Tuple [.Constant (.str t) j p1, .Call (.Name x p6) [.Attribute (.Name n p2) Er.fn p3] [] p7] x1 p4)) p5] (tSu X.K cl i (hPl t fn) a cls d) := by
  refine ⟨fun pins s σ H D I ⟨x, F, dx, d', ed, ec, es, xt, ⟨fs, hx, hn, hr⟩, hm, q⟩ => ?_⟩
  refine (pss_cons (ps_ret (pe_tup (pa_cons pe_str (pa_cons (pe_callQ (X := X.suite a ((a, oe) :: pn)) Fk ⟨hrm.dp, hrm.un⟩ (List.mem_cons_self) hgx hgm hkp hbd (pa_cons (pe_at (p2 := p2) (p3 := p3) kc hN hv hnd hncd hz hf hb x.c) pa_nil hs3) hdb hs3 hpl) pa_nil hs2) hs1))) pss_nil).run pins s σ H D I ?_
  unfold hPl at hm
  cases l0 : x.fs.lookup Er.fn with
  | none => rw [l0] at hm; cases hm
  | some e0 =>
    rw [l0] at hm
    dsimp only at hm
    obtain ⟨v, lv, rv⟩ := lookup_rep hn hr l0
    refine ⟨_, es, rfl, ec, dx, fs, v, ed, hx, lv, spF_use xt (RepL.cons rv .nil) rfl ?_⟩
    revert hm
    cases fn [e0] with
    | rs x os => exact fun h => by cases h
    | er => exact fun h => by cases h
    | ok d1 os =>
      intro hm
      cases hm
      intro u F1 H1 fpr n1 w
      obtain ⟨ru, ef⟩ := Own.rep w
      subst ef
      refine ⟨by show 2 ≤ sizeLine; rw [sizeLine_eq]; omega, fun p hp => ?_⟩
      have n2 := New.frz (o := .tup [.str t, u]) n1.ex hp
      exact q _ _ _ (n1.trans n2) (.tupL (SqT.of upd_same) (.cons (.str t) (.cons (ru.mono n2.step.ex) .nil)))
end
/-! ### try -/
abbrev Hand := Nat × (Nat → Bool) × (Exn → Option D)
def sHand : List Hand → Exn → MS
  | [], x => fun e => .rs x e
  | (i, cs, m) :: r, x => fun e => if cs x.c = true then (if i < e.length then (match m x with
    | some d => .rt d (e.set i none)
    | none => .er) else .er) else sHand r x e
def sTry (mb : MS) (hs : List Hand) : MS := fun e => match mb e with
  | .rs x e1 => sHand hs x e1
  | r => r
inductive ClRel (K : PySem.W.Frag) (c : Ct) : List Cl → List Hand → Prop
  | nil : ClRel K c [] []
  | cons {cv : Value} {i : Nat} {cs : Nat → Bool} {m : Exn → Option D} {l : List Cl} {hs : List Hand} (hx : ∀ n, PySem.W.exmOne K (.ref (c.cl n)) cv = some (cs n)) (hi : c.sh i = .fz) (hf : c.fix i = none) (r : ClRel K c l hs) :
      ClRel K c ((cv, i, tSu K c.cl i m) :: l) ((i, cs, m) :: hs)
theorem hand_ok {K : PySem.W.Frag} {c : Ct} {F H : Hp} {fps : Fps} {D : Ends} {l : List Cl} {hs : List Hand} (k : ClRel K c l hs) {x : Exn} {e1 : Sl} (h : Ts K c .fz (sHand hs x e1) F H fps D) {dx : Addr} {σ1 : L2.St} {F1 H1 : Hp} {fps1 : Fps}
    (p : Post K c F H fps e1 σ1 F1 H1 fps1 []) (r : RepX K c.cl F1 H1 x dx) : wCls K c.W D l (.ref (c.cl x.c)) (some dx) σ1 H1 := by
  induction k with
  | nil => exact h dx σ1 F1 H1 fps1 p r
  | @cons cv i cs m l hs hx hi hf k ih =>
    refine ⟨cs x.c, hx x.c, ?_⟩
    unfold sHand at h
    cases q : cs x.c with
    | false =>
      rw [q, if_neg Bool.false_ne_true] at h
      rw [if_neg Bool.false_ne_true]
      exact ih h
    | true =>
      rw [q, if_pos rfl] at h
      rw [if_pos rfl]
      intro a ha
      by_cases hl : i < e1.length
      · rw [if_pos hl] at h
        cases hm : m x with
        | none => rw [hm] at h; exact h.elim
        | some d' =>
          rw [hm] at h
          have hl' : i < σ1.length := by rw [← p.g.len]; exact hl
          have fi : fps1 i = [] := by
            by_cases z : ∃ d, e1[i]? = some (some d)
            · obtain ⟨d, z⟩ := z
              obtain ⟨v, _, o⟩ := p.g.at_ i d z
              rw [hi] at o
              exact (Own.rep o).2
            · exact p.g.out i fun d y => z ⟨d, y⟩
          refine ⟨x, F1, dx, d', rfl, rfl, List.getElem?_set_self hl', p.g.ex, r, hm, fun v F2 H2 nw rv => ?_⟩
          have p2 := p.trans (p.g.new nw)
          refine h v (σ1.set i none) F2 H2 fps1 [] ⟨p2.step, ⟨p2.g.ex, by rw [List.length_set, List.length_set]; exact p2.g.len, fun j d e => ?_, fun j hj => ?_, p2.g.dj, p2.g.nf, fun j v e => ?_⟩, p2.fr⟩ (.fz rv)
          · have ne : i ≠ j := fun z => by subst z; rw [List.getElem?_set_self hl] at e; cases e
            rw [List.getElem?_set_ne ne] at e
            rw [List.getElem?_set_ne ne]
            exact p2.g.at_ j d e
          · by_cases ne : i = j
            · subst ne; exact fi
            · exact p2.g.out j fun d e => hj d (by rw [List.getElem?_set_ne ne]; exact e)
          · have ne : i ≠ j := fun z => by subst z; rw [hf] at e; cases e
            rw [List.getElem?_set_ne ne]
            exact p2.g.fx j v e
      · rw [if_neg hl] at h
        exact h.elim
section
variable {c : Ct} {X : Cx} {body : List Stmt} {h₀ : ExceptHandler} {hds : List ExceptHandler} {l : List Cl} {hh : List Hand} {pos : Pos} {mb : MS}
theorem fs_try (hs : X.stack = X.env :: X.outer) (hf : X.env.frame = some X.env.locals) (hN : X.N.Nodup) (tk : Takes X c.W)
    (hb : ∀ (W : WX) (pn : List (Addr × Obj)) (xe : Value → Shared → Prop), Takes (X.tr pn xe) W → PassesOwn (model X.prog X.w) X.A X.env xe → FSs { c with W := W } (X.tr pn xe) body .fz mb)
    (k : Clauses X (h₀ :: hds) l) (r : ClRel X.K c l hh) : FS c X (.Try body (h₀ :: hds) [] [] pos) .fz (sTry mb hh) :=
  PS.weak (ps_try_named (tb := fun W => TSm X.K { c with W := W } .fz mb) hs hf hN tk hb k) fun D σ H => by
    rintro ⟨F, env, fps, g, h⟩
    refine ⟨F, env, fps, g.change rfl rfl rfl, ?_⟩
    unfold sTry at h
    revert h
    cases mb env with
    | nx e => exact fun h σ' F' H' fps' p => h σ' F' H' fps' (p.change rfl rfl rfl)
    | bk e => exact fun h σ' F' H' fps' p => h σ' F' H' fps' (p.change rfl rfl rfl)
    | ct e => exact fun h σ' F' H' fps' p => h σ' F' H' fps' (p.change rfl rfl rfl)
    | rt d e => exact fun h v σ' F' H' fps' fpr p q => h v σ' F' H' fps' fpr (p.change rfl rfl rfl) q
    | rs x e => exact fun h dx σ' F' H' fps' p q => hand_ok (c := c) r h (p.change rfl rfl rfl) q
    | er => exact id
end
end FL
namespace FL
namespace Gv
open PySem PyProof.Rows
open Sem (wp)
/-! ### list(zip(..)), list(enumerate(..)): iterators whose tuples are kept -/
abbrev tupO (vs : List Value) : Obj := { cls := .type "tuple", data := .seq vs.toArray }
/-- an iterator at I that gives n new tuples; V i says what may be in the i-th -/
structure Gives (prog : Program) (w : World) (A : Around) (T : String) (I : Addr) (fp wr : List Addr) (n : Nat) (V : Nat → List Value → Prop) (St : Nat → Heap → Prop) : Prop where
  mem : I ∈ fp
  sub : ∀ b ∈ wr, b ∈ fp
  typ : ∀ i h, St i h → ∃ o, h.get? I = some o ∧ o.cls = .type T
  old : ∀ i h, St i h → ∀ b ∈ fp, ∃ o, h.get? b = some o
  frame : ∀ i h h' S, St i h → S ∉ fp → (∃ o, h'.get? S = some o) → (∀ b o, b ≠ S → h.get? b = some o → h'.get? b = some o) → St i h'
  item : ∀ i (s : Shared) (Q : Option Value → Shared → Prop) (E : Value → Shared → Prop), i < n → St i s.heap →
    (∀ T vs h' tk, V i vs → s.heap.objs.size ≤ T → h'.get? T = some (tupO vs) → St (i + 1) h' → (∀ b o, b ∉ wr → s.heap.get? b = some o → h'.get? b = some o) → Q (some (.ref T)) { s with heap := h', toks := tk }) → wpAny (model prog w) A (pyNext (.ref I)) Q E s
  done : ∀ (s : Shared) (Q : Option Value → Shared → Prop) (E : Value → Shared → Prop), St n s.heap → (∀ h' tk, (∀ b o, b ∉ wr → s.heap.get? b = some o → h'.get? b = some o) → Q none { s with heap := h', toks := tk }) → wpAny (model prog w) A (pyNext (.ref I)) Q E s
  self : ∀ i (s : Shared) (Q : Value → Shared → Prop) (E : Value → Shared → Prop), St i s.heap → Q (.ref I) s → wpAny (model prog w) A (pyIter (.ref I)) Q E s
/-- the tuples given so far, all apart -/
structure Got (V : Nat → List Value → Prop) (base : Nat) (h : Heap) (acc : Array Value) (i : Nat) : Prop where
  size : acc.size = i
  at_ : ∀ (j : Nat) v, acc[j]? = some v → ∃ T vs, v = .ref T ∧ base ≤ T ∧ V j vs ∧ h.get? T = some (tupO vs)
  inj : ∀ (j k : Nat) v, acc[j]? = some v → acc[k]? = some v → j = k
theorem Got.keep {V : Nat → List Value → Prop} {base : Nat} {h h' : Heap} {acc : Array Value} {i : Nat} (g : Got V base h acc i) (k : ∀ T vs, base ≤ T → h.get? T = some (tupO vs) → h'.get? T = some (tupO vs)) : Got V base h' acc i :=
  ⟨g.size, fun j v e => let ⟨T, vs, a, b, c, d⟩ := g.at_ j v e; ⟨T, vs, a, b, c, k T vs b d⟩, g.inj⟩
theorem push_get {acc : Array Value} {x v : Value} {j : Nat} (h : (acc.push x)[j]? = some v) : (j = acc.size ∧ v = x) ∨ (j < acc.size ∧ acc[j]? = some v) := by
  rw [Array.getElem?_push] at h
  split at h
  · rename_i e
    cases h
    exact .inl ⟨e, rfl⟩
  · exact .inr ⟨(Array.getElem?_eq_some_iff.mp h).1, h⟩
theorem Got.push {V : Nat → List Value → Prop} {base T : Nat} {h0 h : Heap} {acc : Array Value} {i : Nat} {vs : List Value} (g0 : Got V base h0 acc i) (k : ∀ T vs, base ≤ T → h0.get? T = some (tupO vs) → h.get? T = some (tupO vs)) (hv : V i vs) (hb : base ≤ T) (hn : h0.objs.size ≤ T) (ht : h.get? T = some (tupO vs)) : Got V base h (acc.push (.ref T)) (i + 1) := by
  have fresh : ∀ j : Nat, acc[j]? ≠ some (Value.ref T) := fun j e => by
    obtain ⟨T', vs', e', _, _, q⟩ := g0.at_ j _ e
    cases e'
    exact Nat.lt_irrefl _ (Nat.lt_of_lt_of_le (Heap.lt_size q) hn)
  refine ⟨by rw [Array.size_push, g0.size], fun j v e => ?_, fun j l v e e' => ?_⟩
  · rcases push_get e with ⟨rfl, rfl⟩ | ⟨_, e⟩
    · exact ⟨T, vs, rfl, hb, g0.size ▸ hv, ht⟩
    · exact (g0.keep k).at_ j v e
  · rcases push_get e with ⟨rfl, rfl⟩ | ⟨a, e⟩
    · rcases push_get e' with ⟨rfl, _⟩ | ⟨a', e'⟩
      · rfl
      · exact absurd e' (fresh l)
    · rcases push_get e' with ⟨rfl, rfl⟩ | ⟨a', e'⟩
      · exact absurd e (fresh j)
      · exact g0.inj j l v e e'
section
variable {prog : Program} {w : World} {A : Around} {T : String} {I : Addr} {fp wr : List Addr} {n : Nat} {V : Nat → List Value → Prop} {St : Nat → Heap → Prop} {R : Result → Shared → Prop}
/-- the loop; base: what is as old is kept -/
theorem ext_loop (W : Gives prog w A.in1 T I fp wr n V St) (hn : n ≤ sizeLine) (S : Addr) (hSf : S ∉ fp) (res : Value) (base : Nat) (hfb : ∀ b ∈ fp, b < base) (hSb : S < base) :
    ∀ (k i : Nat) (s : Shared) (acc : Array Value) (c : Nat), n - i = k → i ≤ n → St i s.heap → base ≤ s.heap.objs.size → s.heap.get? S = some { cls := .type "list", dict := none, data := .seq acc c, slots := #[] } → Got V base s.heap acc i →
    (∀ h' tk acc' c', (∀ b o, b ≠ S → b ∉ wr → s.heap.get? b = some o → h'.get? b = some o) → h'.get? S = some { cls := .type "list", dict := none, data := .seq acc' c', slots := #[] } → Got V base h' acc' n → R (.ok (.ret res)) { s with heap := h', toks := tk }) →
    codeAny (model prog w) A (.builtin "list.extend.loop" ⟨[.ref S, .ref I, res], []⟩) R s := by
  intro k
  induction k with
  | zero =>
    intro i s acc c hk hi st hb hS g hR
    have e : i = n := by omega
    subst e
    refine codeAny_builtin F.entry_extend_loop ?_
    rw [Around.under_plainId F.plain_extend_loop _]
    refine wpAny_bind (m := pyNext (.ref I)) (W.done s _ _ st fun h' tk kp => wpAny_pure (hR h' tk acc c (fun b o _ n e => kp b o n e) (kp S _ (fun m => hSf (W.sub _ m)) hS) (g.keep fun T vs hT e => kp T _ (fun m => Nat.lt_irrefl _ (Nat.lt_of_lt_of_le (hfb _ (W.sub _ m)) hT)) e)))
  | succ k ih =>
    intro i s acc c hk hi st hb hS g hR
    refine codeAny_builtin F.entry_extend_loop ?_
    rw [Around.under_plainId F.plain_extend_loop _]
    refine wpAny_bind (m := pyNext (.ref I)) (W.item i s _ _ (by omega) st fun T vs h' tk hv hT ht st' kp => ?_)
    have hS' := kp S _ (fun m => hSf (W.sub _ m)) hS
    have g' : Got V base h' (acc.push (.ref T)) (i + 1) := g.push (fun T vs hT e => kp T _ (fun m => Nat.lt_irrefl _ (Nat.lt_of_lt_of_le (hfb _ (W.sub _ m)) hT)) e) hv (Nat.le_trans hb hT) hT ht
    have up : ∀ b o, b ≠ S → h'.get? b = some o → (h'.update S (Obj.mapSeq (·.push (.ref T)))).get? b = some o := fun b o hb e => (Heap.get?_update_other _ _ (Ne.symm hb)).trans e
    have hS2 := Heap.get?_update_self (Obj.mapSeq (·.push (.ref T))) hS' rfl
    show wpAny _ A.in1 (updateSeq S (·.push (.ref T)) >>= _) _ _ _
    refine wpAny_bind (wpAny_updateSeq hS' rfl (wpAny_pure ⟨plainId_quiet F.plain_extend_loop _, ih (i + 1) _ (acc.push (.ref T)) _ (by omega) (by omega) (W.frame _ _ _ S st' hSf ⟨_, hS2⟩ up) ?_ hS2 (g'.keep fun T' vs' hT' e => up T' _ (fun z => Nat.lt_irrefl _ (Nat.lt_of_lt_of_le hSb (z ▸ hT'))) e) fun h2 tk2 acc' c' kp2 hS3 g3 => ?_⟩) (by rw [g.size]; omega) (by show (acc.push _).size ≤ _; rw [Array.size_push, g.size]; omega))
    · have := Heap.lt_size ht
      show base ≤ (Heap.update h' S _).objs.size
      rw [Heap.size_update]
      exact Nat.le_of_lt (Nat.lt_of_le_of_lt (Nat.le_trans hb hT) this)
    · exact hR h2 tk2 acc' c' (fun b o nS nf e => kp2 b o nS nf (up b o nS (kp b o nf e))) hS3 g3
/-- what list(..) asks of the iterator's type -/
structure TyOk (T : String) : Prop where
  len : typeLookup (.type T) "__len__" = pure none
  hint : typeLookup (.type T) "__length_hint__" = pure none
  l : (Value.type T == Value.type "list") = false
  t : (Value.type T == Value.type "tuple") = false
theorem ty_zip : TyOk "zip" := ⟨by rw [typeLookup_type, builtinLookup_eq_fast]; kernel_rfl, by rw [typeLookup_type, builtinLookup_eq_fast]; kernel_rfl, by decide, by decide⟩
theorem ty_enum : TyOk "enumerate" := ⟨by rw [typeLookup_type, builtinLookup_eq_fast]; kernel_rfl, by rw [typeLookup_type, builtinLookup_eq_fast]; kernel_rfl, by decide, by decide⟩
theorem ext_with {s : Shared} (W : Gives prog w A.in1 T I fp wr n V St) (ty : TyOk T) (hn : n ≤ sizeLine) (S : Addr) (hSf : S ∉ fp) (res : Value) (c : Nat) (st : St 0 s.heap) (hS : s.heap.get? S = some { cls := .type "list", data := .seq #[] c })
    (hR : ∀ h' tk acc' c', (∀ b o, b ≠ S → b ∉ wr → s.heap.get? b = some o → h'.get? b = some o) → h'.get? S = some { cls := .type "list", dict := none, data := .seq acc' c', slots := #[] } → Got V s.heap.objs.size h' acc' n → R (.ok (.ret res)) { s with heap := h', toks := tk }) :
    wpAny (model prog w) A.in1 (Builtin.List.listExtendWith (.ref S) (.ref I) res) (fun fin s' => match fin with | .done f => R (.ok f) s' | .again c' => c'.quiet = true ∧ codeAny (model prog w) A c' R s') (fun e s' => R (.error e) s') s := by
  have nSI : S ≠ I := fun e => hSf (e ▸ W.mem)
  have ofT : s.TypeIs (.ref I) T := W.typ 0 _ st
  unfold Builtin.List.listExtendWith
  refine wpAny_bind (wpAny_typeOf ofT ?_)
  have h1 : Builtin.List.listSameRef (.ref S) (.ref I) = false := by simp [Builtin.List.listSameRef, nSI]
  simp only [h1, ty.l, ty.t, Bool.or_false, Bool.false_eq_true, if_false]
  refine wpAny_bind (W.self 0 _ _ _ st (wpAny_bind (wpAny_holding ?_)))
  unfold Builtin.List.listLengthHint
  refine wpAny_bind (wpAny_specialOf ofT ty.len ?_)
  refine wpAny_bind (m := specialOf (Value.ref I) (Str.ofString "__length_hint__")) (wpAny_specialOf ofT ty.hint (wpAny_pure ?_))
  refine wpAny_bind (m := rule "list.extend.makes-room") (wpAny_rule ?_)
  refine wpAny_bind (m := updateSeq S (·.push .none) >>= fun _ => updateSeq S (·.pop)) (wpAny_bind (wpAny_updateSeq hS rfl ?_))
  have hS1 := Heap.get?_update_self (Obj.mapSeq (·.push Value.none)) hS rfl
  refine wpAny_updateSeq (hz := by seq_fits) hS1 rfl ?_
  have hS2 := Heap.get?_update_self (Obj.mapSeq (·.pop)) hS1 rfl
  have up : ∀ b o, b ≠ S → s.heap.get? b = some o → ((s.heap.update S (Obj.mapSeq (·.push .none))).update S (Obj.mapSeq (·.pop))).get? b = some o := fun b o nb e =>
    (Heap.get?_update_other _ _ (Ne.symm nb)).trans ((Heap.get?_update_other _ _ (Ne.symm nb)).trans e)
  refine wpAny_pure ⟨plainId_quiet F.plain_extend_loop _, ext_loop W hn S hSf res s.heap.objs.size (fun b m => ?_) (Heap.lt_size hS) n 0 _ #[] _ rfl (Nat.zero_le _) (W.frame 0 _ _ S st hSf ⟨_, hS2⟩ up) ?_ hS2 ⟨rfl, fun j v e => (by simp at e), fun j k v e => (by simp at e)⟩ fun h' tk acc' c' kp hS' g => hR h' tk acc' c' (fun b o nS nf e => kp b o nS nf (up b o nS e)) hS' g⟩
  · obtain ⟨o, e⟩ := W.old 0 _ st b m
    exact Heap.lt_size e
  · show s.heap.objs.size ≤ ((s.heap.update S _).update S _).objs.size
    rw [Heap.size_update, Heap.size_update]
    exact Nat.le_refl _
/-- list(I) -/
theorem call_list {s : Shared} {E : Value → Shared → Prop} {Q : Value → Shared → Prop} (W : Gives prog w A.in1.in1 T I fp wr n V St) (ty : TyOk T) (hn : n ≤ sizeLine) (st : St 0 s.heap)
    (hQ : ∀ h' tk acc c, (∀ b o, b ∉ wr → s.heap.get? b = some o → h'.get? b = some o) → h'.get? s.heap.objs.size = some { cls := .type "list", dict := none, data := .seq acc c, slots := #[] } → Got V (s.heap.objs.size + 1) h' acc n → Q (.ref s.heap.objs.size) { s with heap := h', toks := tk }) :
    wpAny (model prog w) A (call (.type "list") [.ref I]) Q E s := by
  have nf : s.heap.objs.size ∉ fp := fun m => by
    obtain ⟨o, e⟩ := W.old 0 _ st _ m
    exact Nat.lt_irrefl _ (Heap.lt_size e)
  refine callType_codes (Q₁ := fun obj s1 => obj = .ref s.heap.objs.size ∧ s1 = { s with heap := s.heap.push { cls := .type "list", data := .seq #[] } }) F.called_list (F.typeCall_list_1 _) F.entry_list_init (code_list_new _ ⟨rfl, rfl⟩) fun obj s1 e1 => ?_
  obtain ⟨rfl, rfl⟩ := e1
  have hS : (s.heap.push { cls := .type "list", data := .seq #[] }).get? s.heap.objs.size = some { cls := .type "list", data := .seq #[] } := Heap.get?_push_size _ rfl
  have st1 : St 0 (s.heap.push { cls := .type "list", data := .seq #[] }) := W.frame 0 _ _ s.heap.objs.size st nf ⟨_, hS⟩ fun b o _ e => Heap.get?_push_of_some _ e
  refine ⟨⟨_, hS, rfl⟩, F.args_list_init_2 _ _, ?_⟩
  show wpAny _ A.in1.in1 (do let old ← Builtin.List.listItems (.ref s.heap.objs.size); Builtin.List.listUpdate (.ref s.heap.objs.size) (fun _ => #[]); letGo old.toList.reverse; Builtin.List.listExtendWith (.ref s.heap.objs.size) (.ref I) .none) _ _ _
  refine wpAny_bind ?_
  unfold Builtin.List.listItems
  refine wpAny_bind (wpAny_seqItems hS rfl (wpAny_pure ?_))
  refine wpAny_bind (m := updateSeq s.heap.objs.size fun _ => #[]) (wpAny_updateSeq hS rfl ?_)
  have hS1 := Heap.get?_update_self (Obj.mapSeq (fun _ => (#[] : Array Value))) hS rfl
  have up : ∀ b o, b ≠ s.heap.objs.size → (s.heap.push { cls := .type "list", data := .seq #[] }).get? b = some o → ((s.heap.push { cls := .type "list", data := .seq #[] }).update s.heap.objs.size (Obj.mapSeq (fun _ => (#[] : Array Value)))).get? b = some o := fun b o nb e =>
    (Heap.get?_update_other _ _ (Ne.symm nb)).trans e
  refine wpAny_bind (m := letGo (#[] : Array Value).toList.reverse) (wpAny_letGo ?_)
  refine ext_with (A := A.in1) W ty hn _ nf .none _ (W.frame 0 _ _ _ st1 nf ⟨_, hS1⟩ up) hS1 fun h' tk acc c kp hS' g => ⟨rfl, hQ h' tk acc c (fun b o nf' e => ?_) hS' ?_⟩
  · have := Heap.lt_size e
    exact kp b o (Nat.ne_of_lt this) nf' (up b o (Nat.ne_of_lt this) (Heap.get?_push_of_some _ e))
  · have : ((s.heap.push { cls := .type "list", data := .seq #[] }).update s.heap.objs.size (Obj.mapSeq (fun _ => (#[] : Array Value)))).objs.size = s.heap.objs.size + 1 := by rw [Heap.size_update, Heap.size_push]
    rw [← this]
    exact g
end
end Gv
end FL
namespace FL
namespace Gv
open PySem PyProof.Rows
open Sem (wp)
section
variable {prog : Program} {w : World} {A : Around} {E : Value → Shared → Prop} {s : Shared} {e it : Addr} {fp : List Addr} {n : Nat} {P : Nat → Value → Prop} {Si : Nat → Heap → Prop}
/-- enumerate's next while its last tuple is kept -/
theorem enum_held {T : Addr} {f : Bool} {oT : Obj} {i : Nat} {c : Int} {old : Value} {Q : Option Value → Shared → Prop} (D : Draws prog w A.in1 it fp n P Si) (he : IsEnumHeld s.heap e it c old T f) (hT : s.heap.get? T = some oT) (nTe : T ≠ e) (nTi : T ≠ it) (st : Si i s.heap) (hi : i < n) (nei : e ≠ it) (nef : e ∉ fp)
    (hQ : ∀ x h' tk, P i x → IsEnumHeld h' e it (c + 1) old T true → h'.get? T = some oT → Si (i + 1) h' → h'.get? s.heap.objs.size = some (tupO [.int c tk, x]) → (∀ b o, b ≠ e → b ≠ it → s.heap.get? b = some o → h'.get? b = some o) → Q (some (.ref s.heap.objs.size)) { s with heap := h', toks := tk + 1 }) :
    wpAny (model prog w) A (pyNext (.ref e)) Q E s := by
  have ty : s.TypeIs (.ref e) "enumerate" := ⟨_, he, rfl⟩
  unfold pyNext
  refine wpAny_bind (wpAny_attempt (wpAny_callSpecial?_slot (name := Str.ofString "__next__") ty F.slot_enumerate_next (wpAny_call_entry F.slot_enumerate_next ty F.entry_enumerate_next (wpAny_mono (Q := fun fin s' => ∃ v, fin = .done (.ret v) ∧ wpAny (model prog w) A (pure (some v)) Q E s') ?_ (fun _ _ h => h) (fun _ _ h => h)) (F.args_enumerate_next_1 _))))
  obtain ⟨hp, g, d, tk0, os⟩ := s
  refine wpAny_bind (m := field (.ref e) 2) (wpAny_field he rfl (x := .ref it) rfl ?_)
  refine wpAny_bind (D.item i _ _ _ hi st fun x h1 tk hx s1 b1 => ?_)
  have b1 : Heap.SameBut it hp h1 := b1
  have e1 : IsEnumHeld h1 e it c old T f := b1.extBut _ _ nei he
  refine wpAny_bind (m := field (.ref e) 3) (wpAny_field (s := ⟨h1, g, d, tk, os⟩) e1 rfl (x := rawInt c) rfl ?_)
  refine wpAny_bind (m := field (.ref e) 4) (wpAny_field (s := ⟨h1, g, d, tk, os⟩) e1 rfl (x := .none) rfl ?_)
  refine wpAny_bind (m := mkInt c) (wpAny_mkInt ?_)
  refine wpAny_bind (m := setField (.ref e) 3 (rawInt (c + 1))) (wpAny_setField_rec (s := ⟨h1, g, d, tk + 1, os⟩) e1 (by simp) fun h2 e2 b2 => ?_)
  have b2 : Heap.SameBut e h1 h2 := b2
  have e2 : IsEnumHeld h2 e it (c + 1) old T f := e2
  refine wpAny_bind (m := setField (.ref e) 4 .none) (wpAny_setField_rec (s := ⟨h2, g, d, tk + 1, os⟩) e2 (by simp) fun h3 e3 b3 => ?_)
  have b3 : Heap.SameBut e h2 h3 := b3
  have e3 : IsEnumHeld h3 e it (c + 1) old T f := e3
  refine wpAny_bind (m := newTuple [.int c tk, x]) (wpAny_newTuple ?_)
  have sz : h3.objs.size = hp.objs.size := by rw [b3.1, b2.1, b1.1]
  have kk : ∀ b o, b ≠ e → b ≠ it → hp.get? b = some o → h3.get? b = some o := fun b o n1 n2 z => b3.extBut _ _ n1 (b2.extBut _ _ n1 (b1.extBut _ _ n2 z))
  have e4 : IsEnumHeld (h3.push (tupO [.int c tk, x])) e it (c + 1) old T f := Heap.get?_push_of_some _ e3
  have t4 : (h3.push (tupO [.int c tk, x])).get? T = some oT := Heap.get?_push_of_some _ (kk T oT nTe nTi hT)
  refine wpAny_bind (m := Builtin.SmallTypes.ownedTupleIsFree (.ref e)) (wpAny_tupleHeld_enum (s := ⟨h3.push (tupO [.int c tk, x]), g, d, tk + 1, os⟩) e4 t4 fun h5 e5 b5 => ?_)
  have b5 : Heap.SameBut e (h3.push (tupO [.int c tk, x])) h5 := b5
  simp only [Bool.false_eq_true, if_false]
  refine wpAny_pure ⟨_, rfl, wpAny_pure ?_⟩
  show Q (some (.ref h3.objs.size)) _
  have el : e < hp.objs.size := Heap.lt_size he
  have nw : h5.get? h3.objs.size = some (tupO [.int c tk, x]) := b5.extBut _ _ (by rw [sz]; exact Nat.ne_of_gt el) (Heap.get?_push_size _ rfl)
  rw [sz] at nw ⊢
  exact hQ x h5 tk hx e5 (b5.extBut _ _ nTe t4) (D.frame _ _ _ s1 fun b hb o z => by
    have ne : b ≠ e := fun q => nef (q ▸ hb)
    exact b5.extBut _ _ ne (Heap.get?_push_of_some _ (b3.extBut _ _ ne (b2.extBut _ _ ne z)))) nw fun b o n1 n2 z => b5.extBut _ _ n1 (Heap.get?_push_of_some _ (kk b o n1 n2 z))
theorem enum_held_end {T : Addr} {f : Bool} {c : Int} {old : Value} {Q : Option Value → Shared → Prop} (D : Draws prog w A.in1 it fp n P Si) (he : IsEnumHeld s.heap e it c old T f) (st : Si n s.heap) (hQ : ∀ h', Heap.ExtBut it s.heap h' → Q none { s with heap := h' }) :
    wpAny (model prog w) A (pyNext (.ref e)) Q E s := by
  have ty : s.TypeIs (.ref e) "enumerate" := ⟨_, he, rfl⟩
  unfold pyNext
  refine wpAny_bind (wpAny_attempt (wpAny_callSpecial?_slot (name := Str.ofString "__next__") ty F.slot_enumerate_next (wpAny_call_entry F.slot_enumerate_next ty F.entry_enumerate_next ?_ (F.args_enumerate_next_1 _))))
  refine wpAny_bind (m := field (.ref e) 2) (wpAny_field he rfl (x := .ref it) rfl ?_)
  refine wpAny_bind (D.done _ _ _ st fun h' x k ⟨o, ho, hc⟩ => ?_)
  exact wpAny_bind (wpAny_isInstance (T := "StopIteration") (b := true) ⟨o, ho, hc⟩ isSubtype_stop (wpAny_pure (hQ _ k)))
theorem gives_enum (D : Draws prog w A.in1 it fp n P Si) (e : Addr) (nei : e ≠ it) (nef : e ∉ fp) (hif : it ∈ fp) :
    Gives prog w A "enumerate" e (e :: fp) [e, it] n (fun i vs => ∃ t x, P i x ∧ vs = [.int (i : Nat) t, x])
      (fun i h => Si i h ∧ (∀ b ∈ fp, ∃ o, h.get? b = some o) ∧ ((∃ old, IsEnum h e it (i : Nat) old) ∨ ∃ old T f o, IsEnumHeld h e it (i : Nat) old T f ∧ h.get? T = some o ∧ T ≠ e ∧ T ≠ it)) where
  mem := List.mem_cons_self
  sub := fun b hb => by
    have q : b = e ∨ b = it := by simpa using hb
    rcases q with q | q
    · exact q ▸ List.mem_cons_self
    · exact List.mem_cons_of_mem _ (q ▸ hif)
  typ := fun i h st => by
    obtain ⟨_, _, ⟨_, z⟩ | ⟨_, _, _, _, z, _⟩⟩ := st
    · exact ⟨_, z, rfl⟩
    · exact ⟨_, z, rfl⟩
  old := fun i h st b hb => by
    obtain ⟨_, q, ⟨_, z⟩ | ⟨_, _, _, _, z, _⟩⟩ := st
    all_goals (rcases List.mem_cons.mp hb with y | y <;> first | exact q b y | exact ⟨_, y ▸ z⟩)
  frame := fun i h h' S st nS aS k => by
    have ne : e ≠ S := fun z => nS (z ▸ List.mem_cons_self)
    have nf : ∀ b ∈ fp, b ≠ S := fun b hb z => nS (List.mem_cons_of_mem _ (z ▸ hb))
    obtain ⟨s1, q, z⟩ := st
    refine ⟨D.frame _ _ _ s1 fun b hb o y => k b o (nf b hb) y, fun b hb => let ⟨o, y⟩ := q b hb; ⟨o, k b o (nf b hb) y⟩, ?_⟩
    rcases z with ⟨old, z⟩ | ⟨old, T, f, o, z, t, n1, n2⟩
    · exact .inl ⟨old, k _ _ ne z⟩
    · by_cases hTS : T = S
      · obtain ⟨o', y⟩ := aS
        exact .inr ⟨old, T, f, o', k _ _ ne z, hTS ▸ y, n1, n2⟩
      · exact .inr ⟨old, T, f, o, k _ _ ne z, k _ _ hTS t, n1, n2⟩
  item := fun i s Q E hi st hQ => by
    obtain ⟨s1, q, z⟩ := st
    have key : ∀ {h' : Heap}, Si (i + 1) h' → (∀ b o, b ≠ e → b ≠ it → s.heap.get? b = some o → h'.get? b = some o) → ∀ b ∈ fp, ∃ o, h'.get? b = some o := fun {h'} s2 k b hb => by
      by_cases y : b = it
      · subst y; exact D.live _ _ s2
      · obtain ⟨o, z⟩ := q b hb
        exact ⟨o, k b o (fun q => nef (q ▸ hb)) y z⟩
    have ofp : ∀ {h' : Heap}, (∀ b o, b ≠ e → b ≠ it → s.heap.get? b = some o → h'.get? b = some o) → ∀ b o, b ∉ [e, it] → s.heap.get? b = some o → h'.get? b = some o := fun k b o nb z =>
      k b o (fun y => nb (by simp [y])) (fun y => nb (by simp [y])) z
    have ie : ((i + 1 : Nat) : Int) = (i : Int) + 1 := by omega
    obtain ⟨oi, hoi⟩ := D.live _ _ s1
    have il : it < s.heap.objs.size := Heap.lt_size hoi
    rcases z with ⟨old, z⟩ | ⟨old, T, f, o, z, t, n1, n2⟩
    · have el : e < s.heap.objs.size := Heap.lt_size z
      refine wpAny_pyNext_enum_itemC D z s1 hi nei nef fun x h' tk hx ho s2 hT hsz k => hQ _ [.int (i : Nat) tk, x] h' _ ⟨tk, x, hx, rfl⟩ (Nat.le_refl _) hT ⟨s2, key s2 k, .inr ⟨x, s.heap.objs.size, false, _, ?_, hT, Nat.ne_of_gt el, Nat.ne_of_gt il⟩⟩ (ofp k)
      rw [ie]; exact ho
    · refine enum_held D z t n1 n2 s1 hi nei nef fun x h' tk hx ho hTo s2 hT k => hQ _ [.int (i : Nat) tk, x] h' _ ⟨tk, x, hx, rfl⟩ (Nat.le_refl _) hT ⟨s2, key s2 k, .inr ⟨old, T, true, o, ?_, hTo, n1, n2⟩⟩ (ofp k)
      rw [ie]; exact ho
  done := fun s Q E st hQ => by
    obtain ⟨s1, q, z⟩ := st
    rcases z with ⟨old, z⟩ | ⟨old, T, f, o, z, t, n1, n2⟩
    · exact wpAny_pyNext_enum_endD D z s1 fun h' k => hQ h' s.toks fun b o nb y => k b o (fun q => nb (by simp [q])) y
    · exact enum_held_end D z s1 fun h' k => hQ h' s.toks fun b o nb y => k b o (fun q => nb (by simp [q])) y
  self := fun i s Q E st h => by
    have ty : s.TypeIs (.ref e) "enumerate" := by
      obtain ⟨_, _, ⟨_, z⟩ | ⟨_, _, _, _, z, _⟩⟩ := st
      · exact ⟨_, z, rfl⟩
      · exact ⟨_, z, rfl⟩
    refine wpAny_pyIter_slot ty F.slot_enumerate_iter (wpAny_call_entry F.slot_enumerate_iter ty F.entry_enumerate_iter ?_ (F.args_enumerate_iter_1 _))
    show wpAny _ _ (ret (.ref e)) _ _ s
    exact wpAny_pure ⟨_, rfl, "enumerate", _, ty, F.slot_enumerate_next.lookup, h⟩
end
/-! ### zip of three -/
section
variable {prog : Program} {w : World} {A : Around} {E : Value → Shared → Prop} {s : Shared} {z TI TO i1 i2 i3 : Addr} {fp1 fp2 fp3 : List Addr} {n1 n2 n3 : Nat} {P1 P2 P3 : Nat → Value → Prop} {S1 S2 S3 : Nat → Heap → Prop}
theorem zip3_held {T : Addr} {f : Bool} {oT : Obj} {i : Nat} {Q : Option Value → Shared → Prop} (S : ZipSep3 z TI TO i1 i2 i3 fp1 fp2 fp3) (D1 : Draws prog w A.in1 i1 fp1 n1 P1 S1) (D2 : Draws prog w A.in1 i2 fp2 n2 P2 S2) (D3 : Draws prog w A.in1 i3 fp3 n3 P3 S3)
    (hz : IsZipHeld s.heap z TI TO T f) (hT : s.heap.get? T = some oT) (hTI : IsTupOf3 s.heap TI (.ref i1) (.ref i2) (.ref i3)) (nz : T ≠ z) (m1 : T ≠ i1) (m2 : T ≠ i2) (m3 : T ≠ i3) (s1 : S1 i s.heap) (s2 : S2 i s.heap) (s3 : S3 i s.heap) (l1 : i < n1) (l2 : i < n2) (l3 : i < n3)
    (hQ : ∀ x1 x2 x3 h' tk, P1 i x1 → P2 i x2 → P3 i x3 → IsZipHeld h' z TI TO T true → h'.get? T = some oT → S1 (i + 1) h' → S2 (i + 1) h' → S3 (i + 1) h' → h'.get? s.heap.objs.size = some (tupO [x1, x2, x3]) →
      (∀ c o, c ≠ z → c ≠ i1 → c ≠ i2 → c ≠ i3 → s.heap.get? c = some o → h'.get? c = some o) → Q (some (.ref s.heap.objs.size)) { s with heap := h', toks := tk }) :
    wpAny (model prog w) A (pyNext (.ref z)) Q E s := by
  have ty : s.TypeIs (.ref z) "zip" := ⟨_, hz, rfl⟩
  unfold pyNext
  refine wpAny_bind (wpAny_attempt (wpAny_callSpecial?_slot (name := Str.ofString "__next__") ty F.slot_zip_next (wpAny_call_entry F.slot_zip_next ty F.entry_zip_next (wpAny_mono (Q := fun fin s' => ∃ v, fin = .done (.ret v) ∧ wpAny (model prog w) A (pure (some v)) Q E s') ?_ (fun _ _ h => h) (fun _ _ h => h)) (F.args_zip_next_1 _))))
  obtain ⟨hp, g, d, tk0, os⟩ := s
  refine wpAny_bind (m := field (.ref z) 2) (wpAny_field hz rfl (x := .bool false) rfl ?_)
  refine wpAny_bind (m := field (.ref z) 3) (wpAny_field hz rfl (x := .ref TI) rfl ?_)
  refine wpAny_bind (wpAny_seqItems hTI rfl ?_)
  refine wpAny_bind (m := Builtin.SmallTypes.ownedTupleIsFree (.ref z)) (wpAny_tupleHeld_zip hz hT fun g0 z0 b0 => ?_)
  have b0 : Heap.SameBut z hp g0 := b0
  simp only [Bool.false_eq_true, if_false]
  refine wpAny_bind ?_
  rw [← Array.forIn_toList]
  simp only [List.forIn_cons, List.forIn_nil]
  refine wpAny_bind (wpAny_bind (wpAny_holding ?_))
  show wpAny _ _ (Builtin.SmallTypes.nextOf (.ref i1) >>= _) _ _ ⟨g0, g, d, tk0, os⟩
  refine wpAny_bind (D1.item i _ _ _ l1 (D1.over s1 b0 S.zf1) fun x1 g1 tk1 hx1 t1 b1 => wpAny_pure (wpAny_pure (wpAny_bind (wpAny_bind (wpAny_holding ?_)))))
  have b1 : Heap.SameBut i1 g0 g1 := b1
  show wpAny _ _ (Builtin.SmallTypes.nextOf (.ref i2) >>= _) _ _ ⟨g1, g, d, tk1, os⟩
  refine wpAny_bind (D2.item i _ _ _ l2 (D2.over (D2.over s2 b0 S.zf2) b1 S.sep1_2) fun x2 g2 tk2 hx2 t2 b2 => wpAny_pure (wpAny_pure (wpAny_bind (wpAny_bind (wpAny_holding ?_)))))
  have b2 : Heap.SameBut i2 g1 g2 := b2
  show wpAny _ _ (Builtin.SmallTypes.nextOf (.ref i3) >>= _) _ _ ⟨g2, g, d, tk2, os⟩
  refine wpAny_bind (D3.item i _ _ _ l3 (D3.over (D3.over (D3.over s3 b0 S.zf3) b1 S.sep1_3) b2 S.sep2_3) fun x3 g3 tk3 hx3 t3 b3 => wpAny_pure (wpAny_pure (wpAny_pure ?_)))
  have b3 : Heap.SameBut i3 g2 g3 := b3
  refine wpAny_bind (m := newTuple [x1, x2, x3]) (wpAny_newTuple (wpAny_pure ⟨_, rfl, wpAny_pure ?_⟩))
  show Q (some (.ref g3.objs.size)) ⟨g3.push (tupO [x1, x2, x3]), g, d, tk3, os⟩
  have sz : g3.objs.size = hp.objs.size := by rw [b3.1, b2.1, b1.1, b0.1]
  have kk : ∀ c o, c ≠ z → c ≠ i1 → c ≠ i2 → c ≠ i3 → hp.get? c = some o → g3.get? c = some o := fun c o a1 a2 a3 a4 e => b3.extBut _ _ a4 (b2.extBut _ _ a3 (b1.extBut _ _ a2 (b0.extBut _ _ a1 e)))
  have zz : IsZipHeld g3 z TI TO T true := b3.extBut _ _ S.zi3 (b2.extBut _ _ S.zi2 (b1.extBut _ _ S.zi1 z0))
  have nw : (g3.push (tupO [x1, x2, x3])).get? g3.objs.size = some (tupO [x1, x2, x3]) := Heap.get?_push_size _ rfl
  have up : ∀ c o, g3.get? c = some o → (g3.push (tupO [x1, x2, x3])).get? c = some o := fun c o e => Heap.get?_push_of_some _ e
  rw [sz] at nw ⊢
  exact hQ x1 x2 x3 _ tk3 hx1 hx2 hx3 (up _ _ zz) (up _ _ (kk T oT nz m1 m2 m3 hT)) (D1.frame _ _ _ (D1.over (D1.over t1 b2 S.sep2_1) b3 S.sep3_1) fun b _ o e => up b o e) (D2.frame _ _ _ (D2.over t2 b3 S.sep3_2) fun b _ o e => up b o e) (D3.frame _ _ _ t3 fun b _ o e => up b o e) nw fun c o a1 a2 a3 a4 e => up c o (kk c o a1 a2 a3 a4 e)
/-- .. its end: the first has no more -/
theorem zip3_held_end {T : Addr} {f : Bool} {oT : Obj} {Q : Option Value → Shared → Prop} (S : ZipSep3 z TI TO i1 i2 i3 fp1 fp2 fp3) (D1 : Draws prog w A.in1 i1 fp1 n1 P1 S1)
    (hz : IsZipHeld s.heap z TI TO T f) (hT : s.heap.get? T = some oT) (hTI : IsTupOf3 s.heap TI (.ref i1) (.ref i2) (.ref i3)) (s1 : S1 n1 s.heap)
    (hQ : ∀ h', (∀ c o, c ≠ z → c ≠ i1 → s.heap.get? c = some o → h'.get? c = some o) → Q none { s with heap := h' }) : wpAny (model prog w) A (pyNext (.ref z)) Q E s := by
  have ty : s.TypeIs (.ref z) "zip" := ⟨_, hz, rfl⟩
  unfold pyNext
  refine wpAny_bind (wpAny_attempt (wpAny_callSpecial?_slot (name := Str.ofString "__next__") ty F.slot_zip_next (wpAny_call_entry F.slot_zip_next ty F.entry_zip_next ?_ (F.args_zip_next_1 _))))
  obtain ⟨hp, g, d, tk0, os⟩ := s
  refine wpAny_bind (m := field (.ref z) 2) (wpAny_field hz rfl (x := .bool false) rfl ?_)
  refine wpAny_bind (m := field (.ref z) 3) (wpAny_field hz rfl (x := .ref TI) rfl ?_)
  refine wpAny_bind (wpAny_seqItems hTI rfl ?_)
  refine wpAny_bind (m := Builtin.SmallTypes.ownedTupleIsFree (.ref z)) (wpAny_tupleHeld_zip hz hT fun g0 z0 b0 => ?_)
  have b0 : Heap.SameBut z hp g0 := b0
  simp only [Bool.false_eq_true, if_false]
  refine wpAny_bind ?_
  rw [← Array.forIn_toList]
  simp only [List.forIn_cons, List.forIn_nil]
  refine wpAny_bind (wpAny_bind (wpAny_holding ?_))
  show wpAny _ _ (Builtin.SmallTypes.nextOf (.ref i1) >>= _) _ _ ⟨g0, g, d, tk0, os⟩
  refine wpAny_bind (D1.done _ _ _ (D1.over s1 b0 S.zf1) fun h' x k ⟨o, ho, hc⟩ => ?_)
  exact wpAny_bind (wpAny_isInstance (T := "StopIteration") (b := true) ⟨o, ho, hc⟩ isSubtype_stop (wpAny_pure (hQ _ fun c o a1 a2 e => k _ _ a2 (b0.extBut _ _ a1 e))))
theorem gives_zip3 (S : ZipSep3 z TI TO i1 i2 i3 fp1 fp2 fp3) (D1 : Draws prog w A.in1 i1 fp1 n1 P1 S1) (D2 : Draws prog w A.in1 i2 fp2 n2 P2 S2) (D3 : Draws prog w A.in1 i3 fp3 n3 P3 S3) (l2 : n1 ≤ n2) (l3 : n1 ≤ n3) :
    Gives prog w A "zip" z (z :: TI :: TO :: (fp1 ++ fp2 ++ fp3)) [z, TO, i1, i2, i3] n1 (fun i vs => ∃ x1 x2 x3, P1 i x1 ∧ P2 i x2 ∧ P3 i x3 ∧ vs = [x1, x2, x3])
      (fun i h => S1 i h ∧ S2 i h ∧ S3 i h ∧ (∀ b ∈ fp1 ++ fp2 ++ fp3, ∃ o, h.get? b = some o) ∧ IsTupOf3 h TI (.ref i1) (.ref i2) (.ref i3) ∧ (∃ a1 a2 a3, IsTupOf3 h TO a1 a2 a3) ∧
        (IsZip h z TI TO .none ∨ ∃ T f o, IsZipHeld h z TI TO T f ∧ h.get? T = some o ∧ T ≠ z ∧ T ≠ TO ∧ T ≠ i1 ∧ T ≠ i2 ∧ T ≠ i3)) where
  mem := List.mem_cons_self
  sub := fun b hb => by
    have q : b = z ∨ b = TO ∨ b = i1 ∨ b = i2 ∨ b = i3 := by simpa using hb
    rcases q with q | q | q | q | q <;> subst q
    · simp
    · simp
    · simp [S.mem1]
    · simp [S.mem2]
    · simp [S.mem3]
  typ := fun i h st => by
    obtain ⟨_, _, _, _, _, _, y | ⟨_, _, _, y, _⟩⟩ := st
    · exact ⟨_, y, rfl⟩
    · exact ⟨_, y, rfl⟩
  old := fun i h st b hb => by
    obtain ⟨_, _, _, q, hTI, ⟨_, _, _, hTO⟩, y⟩ := st
    rcases List.mem_cons.mp hb with e | hb
    · subst e
      rcases y with y | ⟨_, _, _, y, _⟩
      · exact ⟨_, y⟩
      · exact ⟨_, y⟩
    rcases List.mem_cons.mp hb with e | hb
    · exact ⟨_, e ▸ hTI⟩
    rcases List.mem_cons.mp hb with e | hb
    · exact ⟨_, e ▸ hTO⟩
    · exact q b hb
  frame := fun i h h' S0 st nS aS k => by
    have nf : ∀ b, b ∈ z :: TI :: TO :: (fp1 ++ fp2 ++ fp3) → b ≠ S0 := fun b hb e => nS (e ▸ hb)
    obtain ⟨s1, s2, s3, q, hTI, ⟨a1, a2, a3, hTO⟩, y⟩ := st
    refine ⟨D1.frame _ _ _ s1 fun b hb o e => k b o (nf b (by simp [hb])) e, D2.frame _ _ _ s2 fun b hb o e => k b o (nf b (by simp [hb])) e, D3.frame _ _ _ s3 fun b hb o e => k b o (nf b (by simp [hb])) e,
      fun b hb => let ⟨o, e⟩ := q b hb; ⟨o, k b o (nf b (List.mem_cons_of_mem _ (List.mem_cons_of_mem _ (List.mem_cons_of_mem _ hb)))) e⟩, k _ _ (nf _ (by simp)) hTI, ⟨a1, a2, a3, k _ _ (nf _ (by simp)) hTO⟩, ?_⟩
    rcases y with y | ⟨T, f, o, y, t, n⟩
    · exact .inl (k _ _ (nf _ (by simp)) y)
    · by_cases hTS : T = S0
      · obtain ⟨o', e⟩ := aS
        exact .inr ⟨T, f, o', k _ _ (nf _ (by simp)) y, hTS ▸ e, n⟩
      · exact .inr ⟨T, f, o, k _ _ (nf _ (by simp)) y, k _ _ hTS t, n⟩
  item := fun i s Q E hi st hQ => by
    obtain ⟨s1, s2, s3, q, hTI, ⟨a1, a2, a3, hTO⟩, y⟩ := st
    have j1 : i < n1 := hi
    have j2 : i < n2 := by omega
    have j3 : i < n3 := by omega
    have key : ∀ {h' : Heap}, S1 (i + 1) h' → S2 (i + 1) h' → S3 (i + 1) h' → (∀ c o, c ≠ z → c ≠ TO → c ≠ i1 → c ≠ i2 → c ≠ i3 → s.heap.get? c = some o → h'.get? c = some o) → ∀ b ∈ fp1 ++ fp2 ++ fp3, ∃ o, h'.get? b = some o := fun {h'} t1 t2 t3 k b hb => by
      by_cases e1 : b = i1
      · subst e1; exact D1.live _ _ t1
      by_cases e2 : b = i2
      · subst e2; exact D2.live _ _ t2
      by_cases e3 : b = i3
      · subst e3; exact D3.live _ _ t3
      obtain ⟨o, e⟩ := q b hb
      have hb' : b ∈ fp1 ∨ b ∈ fp2 ∨ b ∈ fp3 := by simpa using hb
      refine ⟨o, k b o (fun z' => ?_) (fun z' => ?_) e1 e2 e3 e⟩
      · subst z'; rcases hb' with m | m | m
        · exact S.zf1 m
        · exact S.zf2 m
        · exact S.zf3 m
      · subst z'; rcases hb' with m | m | m
        · exact S.Tf1 m
        · exact S.Tf2 m
        · exact S.Tf3 m
    have lt : ∀ {c : Addr} {o : Obj}, s.heap.get? c = some o → s.heap.objs.size ≠ c := fun e => Nat.ne_of_gt (Heap.lt_size e)
    obtain ⟨_, v1⟩ := D1.live _ _ s1
    obtain ⟨_, v2⟩ := D2.live _ _ s2
    obtain ⟨_, v3⟩ := D3.live _ _ s3
    rcases y with y | ⟨T, f, o, y, t, nz, nT, m1, m2, m3⟩
    · refine wpAny_pyNext_zipD3_item S D1 D2 D3 y hTI hTO s1 s2 s3 j1 j2 j3 fun x1 x2 x3 h' tk y1 y2 y3 b1 b2 t1 t2 t3 b5 b6 k => ?_
      exact hQ _ [x1, x2, x3] h' tk ⟨x1, x2, x3, y1, y2, y3, rfl⟩ (Nat.le_refl _) b5 ⟨t1, t2, t3, key t1 t2 t3 k, k _ _ S.TIz S.TITO S.TIi1 S.TIi2 S.TIi3 hTI, ⟨_, _, _, b2⟩, .inr ⟨_, false, _, b1, b5, lt y, lt hTO, lt v1, lt v2, lt v3⟩⟩
        fun c o hc e => k c o (fun x => hc (by simp [x])) (fun x => hc (by simp [x])) (fun x => hc (by simp [x])) (fun x => hc (by simp [x])) (fun x => hc (by simp [x])) e
    · refine zip3_held S D1 D2 D3 y t hTI nz m1 m2 m3 s1 s2 s3 j1 j2 j3 fun x1 x2 x3 h' tk y1 y2 y3 b1 b2 t1 t2 t3 b5 k => ?_
      exact hQ _ [x1, x2, x3] h' tk ⟨x1, x2, x3, y1, y2, y3, rfl⟩ (Nat.le_refl _) b5 ⟨t1, t2, t3, key t1 t2 t3 (fun c o n1 _ n3 n4 n5 e => k c o n1 n3 n4 n5 e), k _ _ S.TIz S.TIi1 S.TIi2 S.TIi3 hTI, ⟨a1, a2, a3, k _ _ S.TOz S.Ti1 S.Ti2 S.Ti3 hTO⟩, .inr ⟨T, true, o, b1, b2, nz, nT, m1, m2, m3⟩⟩
        fun c o hc e => k c o (fun x => hc (by simp [x])) (fun x => hc (by simp [x])) (fun x => hc (by simp [x])) (fun x => hc (by simp [x])) e
  done := fun s Q E st hQ => by
    obtain ⟨s1, s2, s3, q, hTI, ⟨a1, a2, a3, hTO⟩, y⟩ := st
    rcases y with y | ⟨T, f, o, y, t, n⟩
    · exact wpAny_pyNext_zipD3_end S D1 D2 D3 y hTI hTO s1 s2 s3 (Nat.le_refl _) l2 l3 (.inl rfl) fun h' tk k => hQ h' tk fun c o hc e => k c o (fun x => hc (by simp [x])) (fun x => hc (by simp [x])) (fun x => hc (by simp [x])) (fun x => hc (by simp [x])) (fun x => hc (by simp [x])) e
    · exact zip3_held_end S D1 y t hTI s1 fun h' k => hQ h' s.toks fun c o hc e => k c o (fun x => hc (by simp [x])) (fun x => hc (by simp [x])) e
  self := fun i s Q E st h => by
    have ty : s.TypeIs (.ref z) "zip" := by
      obtain ⟨_, _, _, _, _, _, y | ⟨_, _, _, y, _⟩⟩ := st
      · exact ⟨_, y, rfl⟩
      · exact ⟨_, y, rfl⟩
    refine wpAny_pyIter_slot ty F.slot_zip_iter (wpAny_call_entry F.slot_zip_iter ty F.entry_zip_iter ?_ (F.args_zip_iter_1 _))
    show wpAny _ _ (ret (.ref z)) _ _ s
    exact wpAny_pure ⟨_, rfl, "zip", _, ty, F.slot_zip_next.lookup, h⟩
end
end Gv
end FL
namespace FL
open PySem PySem.Spec L2
open PyProof.Rows hiding St
/-! ### several new objects tracked at once -/
section
variable {X : Cx} {pins : List (Addr × Obj)} {σ : L2.St} {H H' : Hp} {s : Shared} {h' : Heap}
theorem inv_many {t' : Nat} (I : Inv X pins σ H s) (k : ∀ b u, s.heap.get? b = some u → h'.get? b = some u) (ex : ∀ b u, H b = some u → H' b = some u)
    (new : ∀ b u, H' b = some u → H b = some u ∨ (s.heap.objs.size ≤ b ∧ ObjOk X.prog X.w H' h' b u)) : Inv X pins σ H' { s with heap := h', toks := t' } := by
  refine I.un ⟨fun b o e _ _ _ => k b o e, fun b o e _ _ _ => ⟨o.slots, k b o e⟩, fun b o e n _ => ?_, fun b o e _ => ⟨o, k b o e⟩, fun b xs e => ex _ _ e, fun b o u e => ex _ _ e, fun b ps e => ⟨#[], by rw [ex _ _ e]; simp⟩⟩ fun b u e => ?_
  · cases q : H' b with
    | none => rfl
    | some u =>
      rcases new b u q with z | ⟨z, _⟩
      · rw [n] at z; cases z
      · exact absurd (Heap.lt_size e) (Nat.not_lt.mpr z)
  · rcases new b u e with z | ⟨_, z⟩
    · exact (I.hok b u z).stay (fun c v _ q => k c v q) (fun c q => ex _ _ q) fun c xs q => ex _ _ q
    · exact z
end
/-- the heap behind list(..) of new tuples: L the list, T j the j-th tuple, xs j its items -/
def gotH (H : Hp) (L : Addr) (Ts : List Addr) (xs : List (List V)) : Hp := fun b => if b = L then some (.lst (Ts.map .ref)) else match Ts.findIdx? (· == b) with
  | some j => (xs[j]?).map .tup
  | none => H b
theorem find_at {Ts : List Addr} {j : Nat} {T : Addr} (inj : ∀ j k : Nat, ∀ v, Ts[j]? = some v → Ts[k]? = some v → j = k) (h : Ts[j]? = some T) : Ts.findIdx? (· == T) = some j := by
  have hj := (List.getElem?_eq_some_iff.mp h).1
  rw [List.findIdx?_eq_some_iff_getElem]
  refine ⟨hj, ?_, fun k hk => ?_⟩
  · have : Ts[j] = T := (List.getElem?_eq_some_iff.mp h).2
    simp [this]
  · have hk' : k < Ts.length := Nat.lt_trans hk hj
    simp only [beq_iff_eq, Bool.not_eq_true, beq_eq_false_iff_ne, ne_eq]
    intro e
    have := inj k j T (by rw [← e]; exact List.getElem?_eq_getElem hk') h
    omega
/-- what list(..) of an iterator of new tuples gives; R j xs: what is known of the items of the j-th -/
def tGot (n : Nat) (R : Nat → List V → Prop) : Hp → VK → Prop := fun H Q => ∀ (L : Addr) (Ts : List Addr) (xs : List (List V)), Ts.length = n → xs.length = n → H L = none → (∀ T ∈ Ts, H T = none ∧ T ≠ L) → (∀ j k : Nat, ∀ v, Ts[j]? = some v → Ts[k]? = some v → j = k) → (∀ (j : Nat) x, xs[j]? = some x → R j x) → Q (.ref L) (gotH H L Ts xs)
section
variable {X : Cx} {pins : List (Addr × Obj)} {σ : L2.St} {H : Hp} {s0 s1 : Shared}
theorem list_got {T : String} {I : Addr} {fp wr : List Addr} {n : Nat} {W : Nat → List Value → Prop} {St : Nat → Heap → Prop} {R : Nat → List V → Prop} {Q : VK} (J : Inv X pins σ H s0) (k0 : ∀ b u, s0.heap.get? b = some u → s1.heap.get? b = some u) (hs : s1 = { s0 with heap := s1.heap, toks := s1.toks })
    (G : Gv.Gives X.prog X.w X.A.in1.in1 T I fp wr n W St) (ty : Gv.TyOk T) (hn : n ≤ sizeLine) (st : St 0 s1.heap) (nw : ∀ b ∈ wr, s0.heap.objs.size ≤ b) (hz : s0.heap.objs.size ≤ s1.heap.objs.size)
    (hW : ∀ j vs, j < n → W j vs → ∃ xs, Vals xs vs ∧ xs.length ≤ sizeLine ∧ R j xs) (q : tGot n R H Q) : wpAny (model X.prog X.w) X.A (call (.type "list") [.ref I]) (EP X pins σ Q) X.xe s1 := by
  refine Gv.call_list G ty hn st fun h' tk acc c kp hL g => ?_
  have kk : ∀ b u, s0.heap.get? b = some u → h'.get? b = some u := fun b u e => kp b u (fun m => Nat.lt_irrefl _ (Nat.lt_of_lt_of_le (Heap.lt_size e) (nw b m))) (k0 b u e)
  -- the addresses and the items
  have all : ∀ j, j < n → ∃ T vs xs, acc[j]? = some (.ref T) ∧ s1.heap.objs.size + 1 ≤ T ∧ h'.get? T = some (Gv.tupO vs) ∧ Vals xs vs ∧ xs.length ≤ sizeLine ∧ R j xs := fun j hj => by
    have hj' : j < acc.size := by rw [g.size]; exact hj
    obtain ⟨T, vs, e, b, w, o⟩ := g.at_ j acc[j] (by simp [hj'])
    obtain ⟨xs, v, z, r⟩ := hW j vs hj w
    exact ⟨T, vs, xs, by rw [← e]; simp [hj'], b, o, v, z, r⟩
  obtain ⟨Ts, lT, hT⟩ : ∃ Ts : List Addr, Ts.length = n ∧ ∀ j (hj : j < n), ∃ (T : Addr) (vs : List Value), Ts[j]? = some T ∧ acc[j]? = some (.ref T) ∧ s1.heap.objs.size + 1 ≤ T ∧ h'.get? T = some (Gv.tupO vs) ∧ ∃ xs, Vals xs vs ∧ xs.length ≤ sizeLine ∧ R j xs := by
    refine ⟨acc.toList.map fun v => match v with | .ref T => T | _ => 0, by simp [g.size], fun j hj => ?_⟩
    obtain ⟨T, vs, xs, e, b, o, v, z, r⟩ := all j hj
    exact ⟨T, vs, by rw [List.getElem?_map, Array.getElem?_toList, e]; rfl, e, b, o, xs, v, z, r⟩
  have inj : ∀ j k : Nat, ∀ v, Ts[j]? = some v → Ts[k]? = some v → j = k := fun j k v e e' => by
    have hj : j < n := by rw [← lT]; exact (List.getElem?_eq_some_iff.mp e).1
    have hk : k < n := by rw [← lT]; exact (List.getElem?_eq_some_iff.mp e').1
    obtain ⟨T, _, a, b, _⟩ := hT j hj
    obtain ⟨T', _, a', b', _⟩ := hT k hk
    rw [e] at a; rw [e'] at a'
    cases a; cases a'
    exact g.inj j k _ b b'
  obtain ⟨xs, lx, hx⟩ : ∃ xs : List (List V), xs.length = n ∧ ∀ (j : Nat) x, xs[j]? = some x → ∃ T vs, Ts[j]? = some T ∧ h'.get? T = some (Gv.tupO vs) ∧ Vals x vs ∧ x.length ≤ sizeLine ∧ R j x := by
    refine ⟨(List.range n).map fun j => if hj : j < n then (Classical.choose (Classical.choose_spec (Classical.choose_spec (hT j hj))).2.2.2.2) else [], by simp, fun j x e => ?_⟩
    rw [List.getElem?_map] at e
    cases hj : (List.range n)[j]? with
    | none => rw [hj] at e; cases e
    | some j' =>
      rw [hj] at e
      have lt : j < n := by have := (List.getElem?_eq_some_iff.mp hj).1; simpa using this
      have : j' = j := by rw [List.getElem?_range lt] at hj; exact (Option.some.inj hj).symm
      subst this
      simp only [Option.map_some, Option.some.injEq, dif_pos lt] at e
      subst e
      have c1 := Classical.choose_spec (Classical.choose_spec (hT j' lt))
      have c2 := Classical.choose_spec c1.2.2.2.2
      exact ⟨_, _, c1.1, c1.2.2.2.1, c2.1, c2.2.1, c2.2.2⟩
  have big : ∀ T ∈ Ts, s1.heap.objs.size + 1 ≤ T := fun T m => by
    obtain ⟨j, e⟩ := List.mem_iff_getElem?.mp m
    obtain ⟨T', _, a, _, b, _⟩ := hT j (by rw [← lT]; exact (List.getElem?_eq_some_iff.mp e).1)
    rw [e] at a; cases a; exact b
  have fL : H s1.heap.objs.size = none := J.hok.fresh hz
  have fT : ∀ T ∈ Ts, H T = none ∧ T ≠ s1.heap.objs.size := fun T m => by
    have b : s1.heap.objs.size + 1 ≤ T := big T m
    exact ⟨J.hok.fresh (Nat.le_trans hz (Nat.le_of_succ_le b)), Nat.ne_of_gt b⟩
  refine ⟨.ref s1.heap.objs.size, gotH H s1.heap.objs.size Ts xs, ?_, rfl, q _ Ts xs lT lx fL fT inj fun j x e => by obtain ⟨_, _, _, _, _, _, r⟩ := hx j x e; exact r⟩
  have J2 : Inv X pins σ (gotH H s1.heap.objs.size Ts xs) { s0 with heap := h', toks := tk } := inv_many J kk (fun b u e => ?_) fun b u e => ?_
  · rw [hs]; exact J2
  · unfold gotH
    rw [if_neg (fun z => by subst z; rw [fL] at e; cases e)]
    cases q : Ts.findIdx? (· == b) with
    | none => exact e
    | some j =>
      have := List.findIdx?_eq_some_iff_getElem.mp q
      obtain ⟨h1, h2, _⟩ := this
      have : Ts[j] = b := by simpa using h2
      rw [← this, (fT _ (List.getElem_mem h1)).1] at e
      cases e
  · unfold gotH at e
    by_cases hb : b = s1.heap.objs.size
    · rw [if_pos hb] at e
      cases e
      subst hb
      refine .inr ⟨hz, ?_⟩
      refine ⟨by rw [List.length_map, lT]; exact hn, acc.toList, c, ?_, by rw [Array.toArray_toList]; exact hL⟩
      have la : acc.toList.length = n := by simp [g.size]
      refine vals_of_at (by rw [List.length_map, lT, la]) fun j x u hx hu => ?_
      have hj : j < n := by rw [← la]; exact (List.getElem?_eq_some_iff.mp hu).1
      obtain ⟨T, _, a, b, _⟩ := hT j hj
      rw [List.getElem?_map, a] at hx
      rw [Array.getElem?_toList, b] at hu
      cases hx; cases hu
      exact rfl
    · rw [if_neg hb] at e
      cases q : Ts.findIdx? (· == b) with
      | none => rw [q] at e; exact .inl e
      | some j =>
        rw [q] at e
        dsimp only at e
        obtain ⟨h1, h2, _⟩ := List.findIdx?_eq_some_iff_getElem.mp q
        have eb : Ts[j] = b := by simpa using h2
        cases ex : xs[j]? with
        | none => rw [ex] at e; cases e
        | some x =>
          rw [ex] at e
          cases e
          obtain ⟨T, vs, a, o, v, z, _⟩ := hx j x ex
          have : T = b := by rw [List.getElem?_eq_getElem h1] at a; rw [← eb]; exact (Option.some.inj a).symm
          subst this
          exact .inr ⟨Nat.le_trans hz (Nat.le_of_succ_le (big T (List.mem_of_getElem? a))), ⟨z, vs, v, _, o, rfl, _, rfl⟩⟩
end
/-! ### the data of such a list -/
def gotF (F : Hp) (Ts : List Addr) (xs : List (List V)) : Hp := fun b => match Ts.findIdx? (· == b) with
  | some j => (xs[j]?).map .tup
  | none => F b
theorem got_new {K : PySem.W.Frag} {cl : Nat → Addr} {F H : Hp} {L : Addr} {Ts : List Addr} {xs : List (List V)} {ds : List (List D)} (x : Ext F H) (lT : Ts.length = ds.length) (lx : xs.length = ds.length) (hL : H L = none) (hT : ∀ T ∈ Ts, H T = none ∧ T ≠ L) (inj : ∀ j k : Nat, ∀ v, Ts[j]? = some v → Ts[k]? = some v → j = k)
    (r : ∀ (j : Nat) y d, xs[j]? = some y → ds[j]? = some d → RepL K cl F y d) : New F H (gotF F Ts xs) (gotH H L Ts xs) [L] ∧ Own K cl (gotF F Ts xs) (gotH H L Ts xs) l1 (.ref L) (.lst (ds.map .tup)) [L] := by
  have nL : Ts.findIdx? (· == L) = none := by
    cases q : Ts.findIdx? (· == L) with
    | none => rfl
    | some j =>
      obtain ⟨h1, h2, _⟩ := List.findIdx?_eq_some_iff_getElem.mp q
      have e : Ts[j] = L := by simpa using h2
      exact absurd e (hT _ (List.getElem_mem h1)).2
  have old : ∀ b, H b ≠ none → Ts.findIdx? (· == b) = none := fun b hb => by
    cases q : Ts.findIdx? (· == b) with
    | none => rfl
    | some j =>
      obtain ⟨h1, h2, _⟩ := List.findIdx?_eq_some_iff_getElem.mp q
      have e : Ts[j] = b := by simpa using h2
      exact absurd (e ▸ (hT _ (List.getElem_mem h1)).1) hb
  have fe : Ext F (gotF F Ts xs) := fun a o e => by
    unfold gotF
    rw [old a (by rw [x a o e]; simp)]
    exact e
  have he : ∀ a o, H a = some o → gotH H L Ts xs a = some o := fun a o e => by
    unfold gotH
    rw [if_neg (fun z => by subst z; rw [hL] at e; cases e), old a (by rw [e]; simp)]
    exact e
  have fh : Ext (gotF F Ts xs) (gotH H L Ts xs) := fun a o e => by
    unfold gotF at e
    unfold gotH
    by_cases hb : a = L
    · subst hb
      rw [nL] at e
      have := x _ _ e
      rw [hL] at this; cases this
    · rw [if_neg hb]
      cases q : Ts.findIdx? (· == a) with
      | none => rw [q] at e; exact x _ _ e
      | some j => rw [q] at e; exact e
  have fL : gotF F Ts xs L = none := by
    unfold gotF
    rw [nL]
    exact x.none hL
  refine ⟨⟨⟨fe, fun a o e _ => he a o e, fun a o e => ?_, fun a h => ?_⟩, fh, fun a h => ?_⟩, ?_⟩
  · unfold gotF at e
    cases q : Ts.findIdx? (· == a) with
    | none => rw [q] at e; exact .inl e
    | some j =>
      obtain ⟨h1, h2, _⟩ := List.findIdx?_eq_some_iff_getElem.mp q
      have ea : Ts[j] = a := by simpa using h2
      exact .inr (.inr (ea ▸ (hT _ (List.getElem_mem h1)).1))
  · have : a = L := by simpa using h
    exact .inr (this ▸ hL)
  · have : a = L := by simpa using h
    exact this ▸ fL
  · refine Own.l1 (vs := Ts.map .ref) (by unfold gotH; rw [if_pos rfl]) ⟨by rw [List.length_map, List.length_map, lT], fun j v d hv hd => ?_⟩
    rw [List.getElem?_map] at hv hd
    cases hTj : Ts[j]? with
    | none => rw [hTj] at hv; cases hv
    | some T =>
      rw [hTj] at hv; cases hv
      cases hdj : ds[j]? with
      | none => rw [hdj] at hd; cases hd
      | some dj =>
        rw [hdj] at hd; cases hd
        have hj : j < xs.length := by rw [lx]; exact (List.getElem?_eq_some_iff.mp hdj).1
        have hx : xs[j]? = some xs[j] := List.getElem?_eq_getElem hj
        refine .tupL (SqT.of ?_) ((r j _ _ hx hdj).mono fe)
        unfold gotF
        rw [find_at inj hTj]; dsimp only; rw [hx]; rfl
/-- the items of a list or a tuple -/
def seqD : D → Option (List D)
  | .lst ds => some ds
  | .tup ds => some ds
  | _ => none
/-- a list or a tuple at a, its items xs -/
def SqA (K : PySem.W.Frag) (H : Hp) (a : Addr) (xs : List V) : Prop := SqL K H a xs ∨ SqT K H a xs
theorem seqD_inv {K : PySem.W.Frag} {cl : Nat → Addr} {F : Hp} {v : V} {d : D} {ds : List D} (r : Rep K cl F v d) (h : seqD d = some ds) : ∃ a vs, v = .ref a ∧ SqA K F a vs ∧ RepL K cl F vs ds := by
  unfold seqD at h
  split at h
  · cases h
    obtain ⟨a, vs, e, q, l⟩ := r.lst_inv
    exact ⟨a, vs, e, .inl q, l⟩
  · cases h
    obtain ⟨a, vs, e, q, l⟩ := r.tup_inv
    exact ⟨a, vs, e, .inr q, l⟩
  · cases h
theorem SqA.ext {K : PySem.W.Frag} {F H : Hp} {a : Addr} {xs : List V} (h : SqA K F a xs) (x : Ext F H) : SqA K H a xs := h.imp (fun z => x.sql z) fun z => x.sqt z
/-- how it is drawn from -/
structure Drawn (X : Cx) (h : Heap) (a : Addr) (items : Array Value) (o : Obj) (B : Heap → Prop) (St : Addr → Nat → Heap → Prop) : Prop where
  b : Begins (.ref a) o B
  at_ : B h
  d : ∀ A it, A.handled = none → a ≠ it → Draws X.prog X.w A it [it, a] items.size (fun i v => items[i]? = some v) (St it)
  s : ∀ it h', h'.get? it = some o → B h' → St it 0 h'
  lt : a < h.objs.size
theorem sqA_draw {X : Cx} {pins : List (Addr × Obj)} {σ : L2.St} {H : Hp} {s : Shared} {a : Addr} {xs : List V} (I : Inv X pins σ H s) (h : SqA X.K H a xs) : ∃ items o B St, Vals xs items.toList ∧ items.size = xs.length ∧ xs.length ≤ sizeLine ∧ Drawn X s.heap a items o B St := by
  rcases h with h | h
  · obtain ⟨its, r, p, z⟩ := I.list h
    have l := r.length
    refine ⟨its.toArray, _, _, fun it i h => h.IsListIter it a i ∧ h.IsList a its.toArray, by simpa using r, by simpa using l.symm, z, begins_list a its.toArray, p.isList, fun A it hh ne => ?_, fun it h' e b => ⟨⟨_, e, rfl, rfl⟩, b⟩, p.lt⟩
    exact Draws.list hh it a ne its.toArray
  · obtain ⟨its, r, p, z⟩ := I.tuple h
    have l := r.length
    obtain ⟨o, ho, _⟩ := id p
    refine ⟨its.toArray, _, _, fun it i h => h.IsTupleIter it a i ∧ h.IsTuple a its.toArray, by simpa using r, by simpa using l.symm, z, begins_tuple a its.toArray, p, fun A it hh ne => ?_, fun it h' e b => ⟨⟨_, e, rfl, rfl⟩, b⟩, Heap.lt_size ho⟩
    exact Draws.tuple hh it a ne its.toArray
end FL
namespace FL
open PySem PySem.Spec L2
open PyProof.Rows hiding St
section
open PySem
variable {prog : Program} {w : World} {A : Around} {E : Value → Shared → Prop} {s : Shared}
theorem enum1_meets {v : Value} {o : Obj} {H : Heap → Prop} (B : Begins v o H) :
    Meets (Builtin.«enumerate.__new__» ⟨[.type "enumerate", v], []⟩) (fun _ R s => H s.heap ∧
      R (.ok (.ret (.ref (s.heap.push o).objs.size))) { s with heap := (s.heap.push o).push { cls := .type "enumerate", data := .fields #[.none, .bool false, .ref s.heap.objs.size, rawInt 0, .none, .none] } }) :=
  .of_wp fun prog w A R s ⟨h1, h⟩ => by
    obtain ⟨hp, g, d, tk, os⟩ := s
    have hsub := sub_enumerate
    have it : ∀ (A : Around) (E : Value → Shared → Prop) (Q : Value → Shared → Prop), Q (.ref hp.objs.size) ⟨hp.push o, g, d, tk, os⟩ → wpAny (model prog w) A (pyIter v) Q E ⟨hp, g, d, tk, os⟩ := fun A E Q q => B.iter prog w A E ⟨hp, g, d, tk, os⟩ Q h1 q
    wp_walk
    refine wpAny_stack_any fun st => wpAny_pure ?_
    split
    · rename_i c _ _ _ _ _
      cases (c == Value.type "enumerate")
      · wp_walk using it
        exact ⟨_, rfl, h⟩
      · wp_walk using it
        exact ⟨_, rfl, h⟩
    · wp_walk using it
      exact ⟨_, rfl, h⟩
theorem enum1_begins {v : Value} {o : Obj} {H : Heap → Prop} {Q : Value → Shared → Prop} (B : Begins v o H) (h1 : H s.heap)
    (h : ∀ h', IsEnum h' (s.heap.objs.size + 1) s.heap.objs.size 0 .none → h'.get? s.heap.objs.size = some o → h'.objs.size = s.heap.objs.size + 2 → (∀ b o, s.heap.get? b = some o → h'.get? b = some o) → Q (.ref (s.heap.objs.size + 1)) { s with heap := h' }) :
    wpAny (model prog w) A (call (.type "enumerate") [v]) Q E s := by
  refine callType_new F.called_enumerate (by decide) (F.typeCall_enumerate_1 _) (F.newCall_enumerate_1 _) (fun obj => F.args_object_init_2 obj _) F.entry_enumerate_new (enum1_meets B) ⟨h1, ?_⟩
  have z : (s.heap.push o).objs.size = s.heap.objs.size + 1 := Heap.size_push ..
  have e : ((s.heap.push o).push { cls := .type "enumerate", data := .fields #[.none, .bool false, .ref s.heap.objs.size, rawInt 0, .none, .none] }).get? (s.heap.push o).objs.size = some { cls := .type "enumerate", data := .fields #[.none, .bool false, .ref s.heap.objs.size, rawInt 0, .none, .none] } := Heap.get?_push_size _ rfl
  show _ ∧ _
  rw [z] at e ⊢
  exact ⟨⟨_, e, rfl⟩, h _ e (Heap.get?_push_of_some _ (Heap.get?_push_size _ B.free)) (by rw [Heap.size_push, z]) fun b o' x => Heap.get?_push_of_some _ (Heap.get?_push_of_some _ x)⟩
end
section
variable {X : Cx} {a b c e : Expr} {ta tb tc te : TE} {p p2 pos pos2 : Pos}
/-- list(zip(a, b, c)): lists or tuples of xs, ys, zs; the first is the shortest -/
def tLZ3 (K : PySem.W.Frag) (ta tb tc : TE) : TE := fun σ H Q => ta σ H fun x H1 => tb σ H1 fun y H2 => tc σ H2 fun z H3 => ∃ a b c xs ys zs, x = .ref a ∧ y = .ref b ∧ z = .ref c ∧ SqA K H3 a xs ∧ SqA K H3 b ys ∧ SqA K H3 c zs ∧ xs.length ≤ ys.length ∧ xs.length ≤ zs.length ∧
  tGot xs.length (fun j l => ∃ u v w, xs[j]? = some u ∧ ys[j]? = some v ∧ zs[j]? = some w ∧ l = [u, v, w]) H3 Q
theorem pe_listZip3 (hc : X.calm = true) (hg : Gl X "list") (hm : X.mg "list" = none) (hg2 : Gl X "zip") (hm2 : X.mg "zip" = none) (ha : PE X a ta) (hb : PE X b tb) (hcc : PE X c tc)
    (n0 : starEach [.Call (.Name "zip" p2) [a, b, c] [] pos2] X.env = (false, eval (.Call (.Name "zip" p2) [a, b, c] [] pos2) X.env) :: starEach [] X.env := by rfl)
    (n1 : starEach [a, b, c] X.env = (false, eval a X.env) :: starEach [b, c] X.env := by rfl) (n2 : starEach [b, c] X.env = (false, eval b X.env) :: starEach [c] X.env := by rfl) (n3 : starEach [c] X.env = (false, eval c X.env) :: starEach [] X.env := by rfl)
    (hp : (backTo pos2 (starEach [b, c] X.env)).any (·.1) = false := by rfl) : PE X (.Call (.Name "list" p) [.Call (.Name "zip" p2) [a, b, c] [] pos2] [] pos) (tLZ3 X.K ta tb tc) := by
  refine ⟨fun pins s σ H Q I h => ?_⟩
  refine Call_ (ld_blt I hg hm boot_list (PyProof.Rows.callWith_type1 (args_cons (Call_ (ld_blt I hg2 hm2 boot_zip (PyProof.Rows.callWith_type1 (args_cons (thn (ha.run pins s σ H _ I h) fun u1 s1 ⟨x1, H1, I1, r1, q1⟩ =>
    args_cons (thn (hb.run pins s1 σ H1 _ I1 q1) fun u2 s2 ⟨x2, H2, I2, r2, q2⟩ => one_arg hcc I2 q2 (fun u3 s3 x3 H3 I3 r3 q3 => ?_) n3) n2) n1) n1 hp))) n0) n0))
  obtain ⟨a, b, c, xs, ys, zs, e1, e2, e3, h1, h2, h3, l2, l3, q⟩ := q3
  subst e1; subst e2; subst e3
  obtain rfl : u1 = Value.ref a := r1
  obtain rfl : u2 = Value.ref b := r2
  obtain rfl : u3 = Value.ref c := r3
  obtain ⟨i1, o1, B1, S1, v1, z1, zz1, d1⟩ := sqA_draw I3 h1
  obtain ⟨i2, o2, B2, S2, v2, z2, zz2, d2⟩ := sqA_draw I3 h2
  obtain ⟨i3, o3, B3, S3, v3, z3, zz3, d3⟩ := sqA_draw I3 h3
  have hh := I3.ok.hd hc
  refine zip_begins3 d1.b d2.b d3.b d1.at_ d2.at_ d3.at_ fun h' hz hTI hTO g1 g2 g3 sz kp => args_nil ?_
  have sep := zip_sep3 (N := s3.heap.objs.size) (fp1 := [a]) (fp2 := [b]) (fp3 := [c]) (fun x m => (List.mem_singleton.mp m).symm ▸ d1.lt) (fun x m => (List.mem_singleton.mp m).symm ▸ d2.lt) (fun x m => (List.mem_singleton.mp m).symm ▸ d3.lt)
  have ne : ∀ {x : Addr}, x < s3.heap.objs.size → ∀ k, x ≠ s3.heap.objs.size + k := fun {x} hx k e => Nat.lt_irrefl _ (Nat.lt_of_lt_of_le (show s3.heap.objs.size + k < s3.heap.objs.size from e ▸ hx) (Nat.le_add_right _ _))
  have G := Gv.gives_zip3 (A := X.A.in1.in1) sep (d1.d X.A.in1.in1.in1 _ hh (ne d1.lt 0)) (d2.d X.A.in1.in1.in1 _ hh (ne d2.lt 1)) (d3.d X.A.in1.in1.in1 _ hh (ne d3.lt 2)) (by rw [z1, z2]; exact l2) (by rw [z1, z3]; exact l3)
  have k1 := d1.b.keeps _ _ d1.at_ kp
  have k2 := d2.b.keeps _ _ d2.at_ kp
  have k3 := d3.b.keeps _ _ d3.at_ kp
  have t1 := d1.s _ h' g1 k1
  have t2 := d2.s _ h' g2 k2
  have t3 := d3.s _ h' g3 k3
  have alive : ∀ {x : Addr} {xs : List V}, SqA X.K H3 x xs → ∃ o, h'.get? x = some o := fun h => by
    rcases h with h | h
    · obtain ⟨_, _, p, _⟩ := I3.list h
      obtain ⟨o, _, e, _⟩ := p
      exact ⟨o, kp _ _ e⟩
    · obtain ⟨_, _, p, _⟩ := I3.tuple h
      obtain ⟨o, e, _⟩ := p
      exact ⟨o, kp _ _ e⟩
  refine list_got (s0 := s3) (s1 := { s3 with heap := h' }) (n := i1.size) I3 kp rfl G Gv.ty_zip (by rw [z1]; exact zz1) ⟨t1, t2, t3, fun x m => ?_, hTI, ⟨_, _, _, hTO⟩, .inl hz⟩ (fun x m => ?_) (by show _ ≤ h'.objs.size; rw [sz]; exact Nat.le_add_right _ _) (fun j vs hj w => ?_) (by rw [z1]; exact q)
  · have m : x = s3.heap.objs.size ∨ x = a ∨ x = s3.heap.objs.size + 1 ∨ x = b ∨ x = s3.heap.objs.size + 2 ∨ x = c := by simpa using m
    rcases m with rfl | rfl | rfl | rfl | rfl | rfl
    · exact ⟨_, g1⟩
    · exact alive h1
    · exact ⟨_, g2⟩
    · exact alive h2
    · exact ⟨_, g3⟩
    · exact alive h3
  · have m : x = s3.heap.objs.size + 5 ∨ x = s3.heap.objs.size + 4 ∨ x = s3.heap.objs.size ∨ x = s3.heap.objs.size + 1 ∨ x = s3.heap.objs.size + 2 := by simpa using m
    rcases m with rfl | rfl | rfl | rfl | rfl
    · exact Nat.le_add_right _ _
    · exact Nat.le_add_right _ _
    · exact Nat.le_refl _
    · exact Nat.le_add_right _ _
    · exact Nat.le_add_right _ _
  · obtain ⟨y1, y2, y3, w1, w2, w3, rfl⟩ := w
    have hj1 : j < xs.length := by rw [← z1]; exact hj
    have g : ∀ {xs : List V} {its : Array Value} {y : Value}, Vals xs its.toList → its[j]? = some y → ∃ x, xs[j]? = some x ∧ RelV x y := fun {xs its y} v e => by
      have e' : its.toList[j]? = some y := by rw [Array.getElem?_toList]; exact e
      have hl : j < xs.length := by rw [v.length]; exact (List.getElem?_eq_some_iff.mp e').1
      obtain ⟨u, hu, r⟩ := v.get (List.getElem?_eq_getElem hl)
      rw [e'] at hu; cases hu
      exact ⟨_, List.getElem?_eq_getElem hl, r⟩
    obtain ⟨x1, f1, r1⟩ := g v1 w1
    obtain ⟨x2, f2, r2⟩ := g v2 w2
    obtain ⟨x3, f3, r3⟩ := g v3 w3
    exact ⟨[x1, x2, x3], .cons r1 (.cons r2 (.cons r3 .nil)), by show 3 ≤ sizeLine; rw [sizeLine_eq]; omega, x1, x2, x3, f1, f2, f3, rfl⟩
/-- list(enumerate(a)) -/
def tLEn (K : PySem.W.Frag) (ta : TE) : TE := fun σ H Q => ta σ H fun x H1 => ∃ a xs, x = .ref a ∧ SqA K H1 a xs ∧ tGot xs.length (fun j l => ∃ u, xs[j]? = some u ∧ l = [.int (j : Nat), u]) H1 Q
theorem pe_listEnum (hc : X.calm = true) (hg : Gl X "list") (hm : X.mg "list" = none) (hg2 : Gl X "enumerate") (hm2 : X.mg "enumerate" = none) (ha : PE X a ta)
    (n0 : starEach [.Call (.Name "enumerate" p2) [a] [] pos2] X.env = (false, eval (.Call (.Name "enumerate" p2) [a] [] pos2) X.env) :: starEach [] X.env := by rfl) (n1 : starEach [a] X.env = (false, eval a X.env) :: starEach [] X.env := by rfl) :
    PE X (.Call (.Name "list" p) [.Call (.Name "enumerate" p2) [a] [] pos2] [] pos) (tLEn X.K ta) := by
  refine ⟨fun pins s σ H Q I h => ?_⟩
  refine Call_ (ld_blt I hg hm boot_list (PyProof.Rows.callWith_type1 (args_cons (Call_ (ld_blt I hg2 hm2 boot_enumerate (PyProof.Rows.callWith_type1 (one_arg ha I h (fun u s1 x H1 I1 r q => ?_) n1) n1))) n0) n0))
  obtain ⟨a, xs, e1, h1, q⟩ := q
  subst e1
  obtain rfl : u = Value.ref a := r
  obtain ⟨i1, o1, B1, S1, v1, z1, zz1, d1⟩ := sqA_draw I1 h1
  have hh := I1.ok.hd hc
  refine enum1_begins d1.b d1.at_ fun h' he g1 sz kp => args_nil ?_
  have ne : ∀ {x : Addr}, x < s1.heap.objs.size → ∀ k, x ≠ s1.heap.objs.size + k := fun {x} hx k e => Nat.lt_irrefl _ (Nat.lt_of_lt_of_le (show s1.heap.objs.size + k < s1.heap.objs.size from e ▸ hx) (Nat.le_add_right _ _))
  have G := Gv.gives_enum (A := X.A.in1.in1) (d1.d X.A.in1.in1.in1 s1.heap.objs.size hh (ne d1.lt 0)) (s1.heap.objs.size + 1) (Nat.succ_ne_self _) (fun m => by
    have m : s1.heap.objs.size + 1 = s1.heap.objs.size ∨ s1.heap.objs.size + 1 = a := by simpa using m
    exact m.elim (fun z => Nat.succ_ne_self _ z) fun z => ne d1.lt 1 z.symm) List.mem_cons_self
  have k1 := d1.b.keeps _ _ d1.at_ kp
  have alive : ∃ o, h'.get? a = some o := by
    rcases h1 with h | h
    · obtain ⟨_, _, p, _⟩ := I1.list h
      obtain ⟨o, _, e, _⟩ := p
      exact ⟨o, kp _ _ e⟩
    · obtain ⟨_, _, p, _⟩ := I1.tuple h
      obtain ⟨o, e, _⟩ := p
      exact ⟨o, kp _ _ e⟩
  refine list_got (s0 := s1) (s1 := { s1 with heap := h' }) (n := i1.size) I1 kp rfl G Gv.ty_enum (by rw [z1]; exact zz1) ⟨d1.s _ h' g1 k1, fun x m => ?_, .inl ⟨.none, he⟩⟩ (fun x m => ?_) (by show _ ≤ h'.objs.size; rw [sz]; exact Nat.le_add_right _ _) (fun j vs hj w => ?_) (by rw [z1]; exact q)
  · have m : x = s1.heap.objs.size ∨ x = a := by simpa using m
    rcases m with rfl | rfl
    · exact ⟨_, g1⟩
    · exact alive
  · have m : x = s1.heap.objs.size + 1 ∨ x = s1.heap.objs.size := by simpa using m
    rcases m with rfl | rfl
    · exact Nat.le_add_right _ _
    · exact Nat.le_refl _
  · obtain ⟨t, y, w, rfl⟩ := w
    have e' : i1.toList[j]? = some y := by rw [Array.getElem?_toList]; exact w
    have hl : j < xs.length := by rw [← z1]; exact hj
    obtain ⟨u, hu, r⟩ := v1.get (List.getElem?_eq_getElem hl)
    rw [e'] at hu; cases hu
    exact ⟨[.int (j : Nat), xs[j]], .cons ⟨t, rfl⟩ (.cons r .nil), by show 2 ≤ sizeLine; rw [sizeLine_eq]; omega, _, List.getElem?_eq_getElem hl, rfl⟩
end
/-! ### as rules -/
def zip3D : List D → List D → List D → List (List D)
  | x :: xs, y :: ys, z :: zs => [x, y, z] :: zip3D xs ys zs
  | _, _, _ => []
theorem zip3D_len : ∀ {xs ys zs : List D}, xs.length ≤ ys.length → xs.length ≤ zs.length → (zip3D xs ys zs).length = xs.length
  | [], _, _, _, _ => by unfold zip3D; rfl
  | _ :: _, [], _, h, _ => by simp at h
  | _ :: _, _ :: _, [], _, h => by simp at h
  | x :: xs, y :: ys, z :: zs, h1, h2 => by
    unfold zip3D
    rw [List.length_cons, List.length_cons, zip3D_len (by simpa using h1) (by simpa using h2)]
theorem zip3D_get : ∀ {j : Nat} {xs ys zs : List D} {l : List D}, (zip3D xs ys zs)[j]? = some l → ∃ x y z, xs[j]? = some x ∧ ys[j]? = some y ∧ zs[j]? = some z ∧ l = [x, y, z]
  | _, [], _, _, _, h => by simp [zip3D] at h
  | _, _ :: _, [], _, _, h => by simp [zip3D] at h
  | _, _ :: _, _ :: _, [], _, h => by simp [zip3D] at h
  | 0, x :: xs, y :: ys, z :: zs, l, h => by
    simp [zip3D] at h
    exact ⟨x, y, z, rfl, rfl, rfl, h.symm⟩
  | j + 1, x :: xs, y :: ys, z :: zs, l, h => by
    simp only [zip3D, List.getElem?_cons_succ] at h
    simpa using zip3D_get h
def gZ3 (x y z : D) : Option D := match seqD x, seqD y, seqD z with
  | some xs, some ys, some zs => if xs.length ≤ ys.length ∧ xs.length ≤ zs.length then some (.lst ((zip3D xs ys zs).map .tup)) else none
  | _, _, _ => none
def dOp3 (g : D → D → D → Option D) (a b c : M D) : M D := fun e => (a e).bind fun x e1 => (b e1).bind fun y e2 => (c e2).bind fun z e3 => R.opt (g x y z) e3
def enD : Nat → List D → List (List D)
  | _, [] => []
  | i, x :: xs => [.int (i : Nat), x] :: enD (i + 1) xs
theorem enD_len : ∀ {i : Nat} {xs : List D}, (enD i xs).length = xs.length
  | _, [] => rfl
  | i, x :: xs => by unfold enD; rw [List.length_cons, List.length_cons, enD_len]
theorem enD_get : ∀ {j i : Nat} {xs : List D} {l : List D}, (enD i xs)[j]? = some l → ∃ x, xs[j]? = some x ∧ l = [.int ((i + j : Nat) : Int), x]
  | _, _, [], _, h => by simp [enD] at h
  | 0, i, x :: xs, l, h => by
    simp [enD] at h
    exact ⟨x, rfl, h.symm⟩
  | j + 1, i, x :: xs, l, h => by
    simp only [enD, List.getElem?_cons_succ] at h
    obtain ⟨y, h1, h2⟩ := enD_get h
    exact ⟨y, by simpa using h1, by rw [h2]; congr 2; congr 1; omega⟩
def gLEn (x : D) : Option D := (seqD x).map fun xs => .lst ((enD 0 xs).map .tup)
section
variable {c : Ct} {X : Cx} {a b e : Expr} {ma mb mc : M D} {p p2 pos pos2 : Pos}
theorem fe_listZip3 {d : Expr} (hc : X.calm = true) (hg : Gl X "list") (hm : X.mg "list" = none) (hg2 : Gl X "zip") (hm2 : X.mg "zip" = none) (ha : FE c X a .fz ma) (hb : FE c X b .fz mb) (hd : FE c X d .fz mc)
    (n0 : starEach [.Call (.Name "zip" p2) [a, b, d] [] pos2] X.env = (false, eval (.Call (.Name "zip" p2) [a, b, d] [] pos2) X.env) :: starEach [] X.env := by rfl)
    (n1 : starEach [a, b, d] X.env = (false, eval a X.env) :: starEach [b, d] X.env := by rfl) (n2 : starEach [b, d] X.env = (false, eval b X.env) :: starEach [d] X.env := by rfl) (n3 : starEach [d] X.env = (false, eval d X.env) :: starEach [] X.env := by rfl)
    (hp : (backTo pos2 (starEach [b, d] X.env)).any (·.1) = false := by rfl) : FE c X (.Call (.Name "list" p) [.Call (.Name "zip" p2) [a, b, d] [] pos2] [] pos) l1 (dOp3 gZ3 ma mb mc) :=
  PE.weak (pe_listZip3 hc hg hm hg2 hm2 ha hb hd n0 n1 n2 n3 hp) fun σ H Q => by
    rintro ⟨F, env, fps, g, h⟩
    refine (T.one g h).mono fun x1 H1 ⟨d1, F1, fps1, e1, p1, r1, h⟩ => (T.one p1.g h).mono fun x2 H2 ⟨d2, F2, fps2, e2, p2, r2, h⟩ => (T.one p2.g h).mono fun x3 H3 ⟨d3, F3, fps3, e3, p3, r3, h⟩ => ?_
    cases q : gZ3 d1 d2 d3 with
    | none => rw [q] at h; exact h.elim
    | some dd =>
      rw [q] at h
      unfold gZ3 at q
      split at q
      · rename_i xs ys zs s1 s2 s3
        split at q
        · rename_i le
          cases q
          obtain ⟨a1, v1, rfl, k1, l1'⟩ := seqD_inv (r1.mono (p2.step.ex.trans p3.step.ex)) s1
          obtain ⟨a2, v2, rfl, k2, l2'⟩ := seqD_inv (r2.mono p3.step.ex) s2
          obtain ⟨a3, v3, rfl, k3, l3'⟩ := seqD_inv r3 s3
          have x3 := p3.g.ex
          refine ⟨a1, a2, a3, v1, v2, v3, rfl, rfl, rfl, k1.ext x3, k2.ext x3, k3.ext x3, by rw [l1'.len, l2'.len]; exact le.1, by rw [l1'.len, l3'.len]; exact le.2, ?_⟩
          intro L Ts vs lT lv hL hT inj hr
          have len : (zip3D xs ys zs).length = xs.length := zip3D_len le.1 le.2
          have n := got_new (K := X.K) (cl := c.cl) (ds := zip3D xs ys zs) x3 (by rw [lT, len, l1'.len]) (by rw [lv, len, l1'.len]) hL hT inj fun j y dj hy hdj => by
            obtain ⟨u, v, w, f1, f2, f3, rfl⟩ := hr j y hy
            obtain ⟨x, y, z, g1, g2, g3, rfl⟩ := zip3D_get hdj
            exact .cons (l1'.at_ _ _ _ f1 g1) (.cons (l2'.at_ _ _ _ f2 g2) (.cons (l3'.at_ _ _ _ f3 g3) .nil))
          exact fin_new p3.g h _ _ _ _ n.1 n.2
        · cases q
      · cases q
theorem fe_listEnum (hc : X.calm = true) (hg : Gl X "list") (hm : X.mg "list" = none) (hg2 : Gl X "enumerate") (hm2 : X.mg "enumerate" = none) (ha : FE c X a .fz ma)
    (n0 : starEach [.Call (.Name "enumerate" p2) [a] [] pos2] X.env = (false, eval (.Call (.Name "enumerate" p2) [a] [] pos2) X.env) :: starEach [] X.env := by rfl) (n1 : starEach [a] X.env = (false, eval a X.env) :: starEach [] X.env := by rfl) :
    FE c X (.Call (.Name "list" p) [.Call (.Name "enumerate" p2) [a] [] pos2] [] pos) l1 (dOp1 gLEn ma) :=
  PE.weak (pe_listEnum hc hg hm hg2 hm2 ha n0 n1) fun σ H Q => by
    rintro ⟨F, env, fps, g, h⟩
    refine (T.one g h).mono fun x1 H1 ⟨d1, F1, fps1, e1, p1, r1, h⟩ => ?_
    cases q : seqD d1 with
    | none => unfold gLEn at h; rw [q] at h; exact h.elim
    | some xs =>
      unfold gLEn at h
      rw [q] at h
      obtain ⟨a1, v1, rfl, k1, l1'⟩ := seqD_inv r1 q
      refine ⟨a1, v1, rfl, k1.ext p1.g.ex, ?_⟩
      intro L Ts vs lT lv hL hT inj hr
      have n := got_new (K := X.K) (cl := c.cl) (ds := enD 0 xs) p1.g.ex (by rw [lT, enD_len, l1'.len]) (by rw [lv, enD_len, l1'.len]) hL hT inj fun j y dj hy hdj => by
        obtain ⟨u, f1, rfl⟩ := hr j y hy
        obtain ⟨x, g1, rfl⟩ := enD_get hdj
        rw [Nat.zero_add]
        exact .cons (.int _) (.cons (l1'.at_ _ _ _ f1 g1) .nil)
      exact fin_new p1.g h _ _ _ _ n.1 n.2
end
end FL
namespace FL
open PySem PySem.Spec L2
open PyProof.Rows hiding St
/-! ### enumerate over a tuple -/
def ItN (K : PySem.W.Frag) (a : Addr) : It :=
  ⟨fun i H => ∃ (xs : List V) (x : V), SqT K H a xs ∧ xs[i]? = some x, fun i H v H' => ∃ T x, v = .ref T ∧ H T = none ∧ H' = upd H T (.tup [.int (i : Nat), x]) ∧ ∀ xs, SqT K H a xs → xs[i]? = some x, fun i H => ∃ xs : List V, SqT K H a xs ∧ xs.length ≤ i⟩
theorem turnN {P : Program} {w : World} {K : PySem.W.Frag} {elts : List Expr} {kk : Nat} {tpos : Pos} (a e it : Addr) :
    Turn P w K (.Tuple elts kk tpos) (ItN K a) [e, it] e (fun i h => (∃ old, IsEnum h e it ((i : Nat) : Int) old) ∧ h.IsTupleIter it a i ∧ e ≠ it ∧ it ≠ a ∧ e ≠ a) where
  mem := by simp
  obj := fun i h st b hb => by
    obtain ⟨⟨old, he⟩, ⟨o, ho, hc, hd⟩, _⟩ := st
    have q : b = e ∨ b = it := by simpa using hb
    rcases q with rfl | rfl
    · exact ⟨_, he, fun v q => nomatch q⟩
    · exact ⟨o, ho, fun v q => by rw [hd] at q; cases q⟩
  keep := fun i h h' st k => by
    obtain ⟨⟨old, he⟩, hi, n⟩ := st
    exact ⟨⟨old, k e (by simp) _ he⟩, hi.at fun o q => k it (by simp) o q, n⟩
  item := by
    intro X hP hw hK hc i pins s σ H E I hf st hg
    subst hP hw hK
    obtain ⟨⟨old, he⟩, hit, n1, n2, n3⟩ := st
    obtain ⟨xs, x, hq, hx⟩ := hg
    obtain ⟨its, rv, p, hz⟩ := I.tuple hq
    obtain ⟨u, hu, ru⟩ := rv.get hx
    have p : s.heap.IsTuple a its.toArray := p
    have D := Draws.tuple (prog := X.prog) (w := X.w) (A := X.A.in1) (I.ok.hd hc) it a (Ne.symm n2) its.toArray
    have hi : i < its.toArray.size := by have := (List.getElem?_eq_some_iff.mp hu).1; simpa using this
    have el : e < s.heap.objs.size := Heap.lt_size he
    have il : it < s.heap.objs.size := by obtain ⟨_, q, _⟩ := hit; exact Heap.lt_size q
    refine wpAny_pyNext_enum_itemC D he ⟨hit, p⟩ hi n1 (fun m => by
      have m : e = it ∨ e = a := by simpa using m
      exact m.elim n1 n3) fun u' h1 tk hu' ho hs' hT hsz k => ?_
    have eu : u' = u := by
      have : its.toArray[i]? = some u := by simpa using hu
      rw [this] at hu'; exact (Option.some.inj hu').symm
    subst eu
    refine ⟨_, rfl, wpAny_letOwnedTupleGo_enum (s := { s with heap := h1, toks := tk + 1 }) ho fun h2 he2 sb => ?_⟩
    have hT2 : h2.get? s.heap.objs.size = some { cls := .type "tuple", data := .seq #[.int i tk, u'] } := (sb.2 _ (Nat.ne_of_gt el)).trans hT
    have new : ObjOk X.prog X.w (upd H s.heap.objs.size (.tup [.int (i : Nat), x])) h2 s.heap.objs.size (.tup [.int (i : Nat), x]) :=
      ⟨by show 2 ≤ sizeLine; decide, [.int i tk, u'], .cons ⟨_, rfl⟩ (.cons ru .nil), ⟨_, hT2, rfl, _, rfl⟩⟩
    have J : Inv X pins σ (upd H s.heap.objs.size (.tup [.int (i : Nat), x])) { s with heap := h2, toks := tk + 1 } :=
      I.turnedNew (ch := [e, it]) (fun b ob hb q => (sb.2 b (fun z => hb (by simp [z]))).trans (k b ob (fun z => hb (by simp [z])) (fun z => hb (by simp [z])) q)) hf (Nat.le_refl _) new
    refine ⟨.ref s.heap.objs.size, _, J, rfl, ⟨_, x, rfl, I.hok.fresh (Nat.le_refl _), rfl, fun ys hy => by rw [I.tuple_inj hy hq]; exact hx⟩, ⟨⟨u', ?_⟩, hs'.1.at fun o q => (sb.2 it (Ne.symm n1)).trans q, n1, n2, n3⟩, fun b hb => ?_⟩
    · have e1 : ((i + 1 : Nat) : Int) = (i : Int) + 1 := by omega
      rw [e1]; exact he2
    · have q : b = e ∨ b = it := by simpa using hb
      rw [upd_ne (Nat.ne_of_lt (by rcases q with rfl | rfl; exact el; exact il))]
      exact (hf b hb).1
  done := by
    intro X hP hw hK hc i pins s σ H E I hf st hg
    subst hP hw hK
    obtain ⟨⟨old, he⟩, hit, n1, n2, n3⟩ := st
    obtain ⟨xs, hq, hx⟩ := hg
    obtain ⟨its, rv, p, hz⟩ := I.tuple hq
    have p : s.heap.IsTuple a its.toArray := p
    obtain ⟨f0, f1, f2, f3, f4, f5⟩ := hf it (by simp)
    have hl := rv.length
    have ty : s.TypeIs (.ref e) "enumerate" := ⟨_, he, rfl⟩
    unfold pyNext
    refine wpAny_bind (wpAny_attempt (wpAny_callSpecial?_slot (name := Str.ofString "__next__") ty F.slot_enumerate_next (wpAny_call_entry F.slot_enumerate_next ty F.entry_enumerate_next ?_ (F.args_enumerate_next_1 _))))
    refine wpAny_bind (m := field (.ref e) 2) (wpAny_field he rfl (x := .ref it) rfl ?_)
    refine wpAny_bind (wpAny_nextOf_tuple_end (I.ok.hd hc) hit p (by simp; omega) fun h' x k ⟨o, ho, hc'⟩ => ?_)
    exact wpAny_bind (wpAny_isInstance (T := "StopIteration") (b := true) ⟨o, ho, hc'⟩ isSubtype_stop (wpAny_pure ⟨rfl, I.turned (t' := s.toks) (fun b o hb q => k b o hb q) f0 f1 f3 f4 f5⟩))
  self := fun A i s Q E st h => let ⟨⟨_, he⟩, _⟩ := st; wpAny_pyIter_enum he h
section
variable {X : Cx} {e : Expr} {te : TE} {p pos tpos : Pos} {elts : List Expr} {kk : Nat}
def iEnN (K : PySem.W.Frag) (te : TE) : TI := fun σ H R => te σ H fun x H1 => ∃ a xs, x = .ref a ∧ SqT K H1 a xs ∧ R (ItN K a) H1
theorem pi_enumN (hg : Gl X "enumerate") (hm : X.mg "enumerate" = none) (he : PE X e te) (hs : starEach [e] X.env = (false, eval e X.env) :: starEach [] X.env := by rfl) :
    PI X (.Tuple elts kk tpos) (.Call (.Name "enumerate" p) [e] [] pos) (iEnN X.K te) := by
  refine ⟨fun pins s σ H R I h => ?_⟩
  refine Call_ (ld_blt I hg hm boot_enumerate (PyProof.Rows.callWith_type1 (one_arg he I h (fun u s1 x H1 I1 r q => ?_) hs) hs))
  obtain ⟨a, xs, ex, hq, q⟩ := q
  subst ex
  obtain rfl : u = Value.ref a := r
  obtain ⟨its, rv, p', hz⟩ := I1.tuple hq
  have p' : s1.heap.IsTuple a its.toArray := p'
  have al : a < s1.heap.objs.size := by obtain ⟨o, ho, _⟩ := id p'; exact Heap.lt_size ho
  refine enum1_begins (begins_tuple a its.toArray) p' fun h' he g1 sz k => wpAny_pyIter_enum he ?_
  have I2 : Inv X pins σ H1 { s1 with heap := h' } := I1.kept (t' := s1.toks) k
  refine ⟨s1.heap.objs.size + 1, [s1.heap.objs.size + 1, s1.heap.objs.size], _, _, H1, rfl, I2, turnN a (s1.heap.objs.size + 1) s1.heap.objs.size, ⟨⟨.none, he⟩, ⟨_, g1, rfl, rfl⟩, Nat.succ_ne_self _, Nat.ne_of_gt al, Nat.ne_of_gt (Nat.lt_succ_of_lt al)⟩, fun b hb => ?_, q⟩
  have q : b = s1.heap.objs.size + 1 ∨ b = s1.heap.objs.size := by simpa using hb
  have le : s1.heap.objs.size ≤ b := by
    rcases q with rfl | rfl
    · exact Nat.le_add_right _ _
    · exact Nat.le_refl _
  exact I1.fpOk le (I1.hok.fresh le)
theorem walkN {K : PySem.W.Frag} {a : Addr} {xs : List V} : Walk (ItN K a) xs.length (fun H => SqT K H a xs) (YPair (fun i => some (.int (i : Nat))) (fun i => xs[i]?)) where
  goes := fun i H hi h => ⟨xs, xs[i], h, List.getElem?_eq_getElem hi⟩
  stops := fun H h => ⟨xs, h, Nat.le_refl _⟩
  yields := fun i H v H' hi h ⟨T, x, e, n, eH, hx⟩ => ⟨T, .int (i : Nat), x, e, n, eH, rfl, hx xs h⟩
end
theorem jok_pairs {K : PySem.W.Frag} {cl : Nat → Addr} {F0 : Hp} {J : It} {Gd : Hp → Prop} {vs : List V} {ds : List D} (hl : vs.length = ds.length) (w : Walk J vs.length Gd (YPair (fun i => some (.int (i : Nat))) (fun i => vs[i]?))) (hG : ∀ H, Ext F0 H → Gd H) (r : RepL K cl F0 vs ds) :
    JOk K cl F0 J ((enD 0 ds).map D.tup) := by
  refine ⟨Gd, _, by rw [List.length_map, enD_len, ← hl]; exact w, hG, fun i H x H' F d xf xh y hd => ?_⟩
  obtain ⟨T, u, v, rfl, hT, rfl, h1, h2⟩ := y
  cases h1
  rw [List.getElem?_map] at hd
  cases q : (enD 0 ds)[i]? with
  | none => rw [q] at hd; cases hd
  | some l =>
    rw [q] at hd; cases hd
    obtain ⟨z, g, rfl⟩ := enD_get q
    have n := New.frz (o := .tup [.int (i : Nat), v]) xh hT
    refine ⟨_, n, .tupL (SqT.of upd_same) ?_⟩
    rw [Nat.zero_add]
    exact .cons (.int _) (.cons ((r.at_ i v z h2 g).mono (xf.trans n.step.ex)) .nil)
def itEn (m : M D) : M (List D) := fun e => (m e).bind fun d e1 => match seqD d with
  | some ds => .ok ((enD 0 ds).map D.tup) e1
  | none => .er
section
variable {c : Ct} {X : Cx} {e : Expr} {m : M D} {p pos tpos : Pos} {elts : List Expr} {kk : Nat}
theorem fi_enum (hg : Gl X "enumerate") (hm : X.mg "enumerate" = none) (he : FE c X e .fz m) (hs : starEach [e] X.env = (false, eval e X.env) :: starEach [] X.env := by rfl) (hs' : starEach [e] X.env = [(false, eval e X.env)] := by rfl) :
    FI c X (.Tuple elts kk tpos) (.Call (.Name "enumerate" p) [e] [] pos) (itEn m) :=
  PI.weak (PI.or (pi_enum (tpos := tpos) (elts := elts) (kk := kk) hg hm (pa_cons he pa_nil hs) hs') (pi_enumN (tpos := tpos) (elts := elts) (kk := kk) hg hm he hs)) fun σ H R => by
    rintro ⟨F, env, fps, g, h⟩
    unfold itEn at h
    cases em : m env with
    | er => rw [em] at h; exact h.elim
    | rs x e' =>
      rw [em] at h
      refine .inl ⟨F, env, fps, g, ?_⟩
      rw [em]
      exact h
    | ok d e' =>
      rw [em] at h
      have h : (match (match seqD d with | some ds => FL.R.ok ((enD 0 ds).map D.tup) e' | none => .er) with
        | .ok ds e' => ∀ F' H' fps' J, Post X.K c F H fps e' σ F' H' fps' [] → JOk X.K c.cl F' J ds → R J H'
        | .rs x e' => ∀ dx F' H' fps', Post X.K c F H fps e' σ F' H' fps' [] → RepX X.K c.cl F' H' x dx → c.W (.ref (c.cl x.c)) (some dx) σ H'
        | .er => False) := h
      cases d with
      | lst ds =>
        refine .inl ⟨F, env, fps, g, ?_⟩
        rw [em]
        intro v F1 H1 fps1 fpr p1 w
        obtain ⟨r1, ef⟩ := Own.rep w
        subst ef
        obtain ⟨a, vs, rfl, hq, rl⟩ := r1.lst_inv
        refine ⟨a, vs, rfl, p1.g.ex.sql hq, h F1 H1 fps1 _ p1 (jok_pairs rl.len walk_enum (fun H' x => x.sql hq) rl)⟩
      | tup ds =>
        refine .inr ⟨F, env, fps, g, ?_⟩
        rw [em]
        intro v F1 H1 fps1 fpr p1 w
        obtain ⟨r1, ef⟩ := Own.rep w
        subst ef
        obtain ⟨a, vs, rfl, hq, rl⟩ := r1.tup_inv
        refine ⟨a, vs, rfl, p1.g.ex.sqt hq, h F1 H1 fps1 _ p1 (jok_pairs rl.len walkN (fun H' x => x.sqt hq) rl)⟩
      | non => exact h.elim
      | bl b => exact h.elim
      | int b => exact h.elim
      | str b => exact h.elim
      | dct _ _ => exact h.elim
      | obj _ _ _ => exact h.elim
end
end FL
namespace FL
open PySem PySem.Spec L2
open PyProof.Rows hiding St
/-! ### reading within an owned list -/
/-- the datum at a place that is frozen -/
def dPl (i : Nat) (s : Sh) (mp : M (List Nat)) : M D := fun e => (mp e).bind fun p e1 => match e1[i]? with
  | some (some d0) => (match subSh s p, subD d0 p with
    | some .fz, some d => .ok d e1
    | _, _ => .er)
  | _ => .er
/-- .. looked at, whatever it is -/
def dPk (i : Nat) (s : Sh) (mp : M (List Nat)) : M D := fun e => (mp e).bind fun p e1 => match e1[i]? with
  | some (some d0) => (match subSh s p, subD d0 p with
    | some _, some d => .ok d e1
    | _, _ => .er)
  | _ => .er
section
variable {c : Ct} {X : Cx} {e : Expr} {i : Nat} {s : Sh} {mp : M (List Nat)}
theorem fe_pl (hsh : c.sh i = s) (h : FPl c X e i mp) : FE c X e .fz (dPl i s mp) := PE.weak h fun σ H Q => by
  rintro ⟨F, env, fps, g, h⟩
  refine (TPl.one g h).mono fun x H1 ⟨p, F1, fps1, e1, p1, ⟨v0, hv0, at1⟩, h1⟩ => ?_
  split at h1
  · rename_i d0 hd
    split at h1
    · rename_i d hs hd2
      obtain ⟨v0', hv0', own0⟩ := p1.g.at_ i d0 hd
      rw [hv0] at hv0'; cases hv0'
      rw [hsh] at own0
      obtain ⟨d', f, hd3, o2, _, _⟩ := own0.sub at1 hs
      rw [hd2] at hd3; cases hd3
      obtain ⟨r2, ef⟩ := o2.rep
      exact h1 x F1 H1 fps1 [] (Post.refl p1.g) (.fz r2)
    · exact h1.elim
  · exact h1.elim
theorem fk_pl (hsh : c.sh i = s) (h : FPl c X e i mp) : FK c X e (dPk i s mp) := PE.weak h fun σ H Q => by
  rintro ⟨F, env, fps, g, h⟩
  refine (TPl.one g h).mono fun x H1 ⟨p, F1, fps1, e1, p1, ⟨v0, hv0, at1⟩, h1⟩ => ?_
  split at h1
  · rename_i d0 hd
    split at h1
    · rename_i s' d hs hd2
      obtain ⟨v0', hv0', own0⟩ := p1.g.at_ i d0 hd
      rw [hv0] at hv0'; cases hv0'
      rw [hsh] at own0
      obtain ⟨d', f, hd3, o2, _, _⟩ := own0.sub at1 hs
      rw [hd2] at hd3; cases hd3
      exact h1 x F1 H1 fps1 [] (Post.refl p1.g) ⟨o2.peek p1.g.ex, rfl⟩
    · exact h1.elim
  · exact h1.elim
end
/-! ### a method of an owned name, its arguments free to look at the name -/
def dMutN (i : Nat) (g : List D → List D → Option (D × List D)) (ml : M (List D)) : M D := fun e => match e[i]? with
  | some (some _) => (ml e).bind fun as e2 => (match e2[i]? with
    | some (some (.lst ds)) => (match g ds as with
      | some (d, ds') => .ok d (e2.set i (some (.lst ds')))
      | none => .er)
    | _ => .er)
  | _ => .er
section
variable {c : Ct} {X : Cx} {es : List Expr} {i : Nat} {pos : Pos}
theorem fe_mutN {id : String} {name x : Str} {apos cpos xpos : Pos} {e : Expr} {ml : M (List D)} {r : V → List V → Hp → VK → Prop} {g : List D → List D → Option (D × List D)} (slot : Slot "list" name id) (hty : typeOf (.builtin id) = pure (.type "method_descriptor")) (hm : MtR X id r) (hg : MutOk X.K c.cl r g)
    (hsh : c.sh i = l1) (ha : FA c X (e :: es) ml) (hN : X.N[i]? = some x := by rfl) (hv : Vis X.env.scope x := by first | exact Or.inl rfl | exact Or.inr (Or.inl rfl) | exact Or.inr (Or.inr rfl)) (hd : (x == ("__debug__" : Str)) = false := by decide) (hcd : (x == ("__classdict__" : Str)) = false := by decide)
    (hbase : attributeBase (.Name x xpos) name X.env (eval (.Name x xpos) X.env) = eval (.Name x xpos) X.env := by rfl) (hfew : ((backTo cpos (starEach (e :: es) X.env)).all (fun x => !x.1) && ((backToKw cpos (keywordEach [] X.env)).all (fun x => x.1.isSome))
      && decide (List.length (e :: es) + List.length ([] : List Keyword) + (if ([] : List Keyword).isEmpty then 0 else 1) < 30)) = true := by rfl)
    (hline : (apos.endLine == cpos.line) = true := by rfl) (h1 : starEach (e :: es) X.env = (false, eval e X.env) :: starEach es X.env := by rfl) (h2 : (backTo cpos (starEach es X.env)).any (·.1) = false := by rfl) : FE c X (.Call (.Attribute (.Name x xpos) name apos) (e :: es) [] cpos) .fz (dMutN i g ml) :=
  PE.weak (pe_bm PySem.F.plainAttrs_list slot hty hm (pe_var hN hv hd hcd) ha hbase hfew hline h1 h2) fun σ H Q => by
    rintro ⟨F, env, fps, gg, h⟩
    unfold dMutN at h
    split at h
    · rename_i d0 hd0
      obtain ⟨v0, hv0, own0⟩ := gg.at_ i d0 hd0
      rw [hsh] at own0
      obtain ⟨a, vs0, ds0, rfl, rfl, ef, hH, rl0⟩ := own0.l1_inv
      refine ⟨_, hv0, .inl ⟨rfl, vs0, SqL.of hH⟩, (TL.one gg h).mono fun vs H1 ⟨as, F1, fps1, e1, p1, ra, h1⟩ => ?_⟩
      split at h1
      · rename_i ds hd
        obtain ⟨v1, hv1, own1⟩ := p1.g.at_ i _ hd
        rw [hv0] at hv1; cases hv1
        rw [hsh] at own1
        obtain ⟨a', vs1, ds1, e1', e2', ef', hH1, rl1⟩ := own1.l1_inv
        cases e1'; cases e2'
        cases eg : g ds as with
        | none => rw [eg] at h1; exact h1.elim
        | some q =>
          obtain ⟨d, ds'⟩ := q
          rw [eg] at h1
          refine hg F1 H1 a vs1 vs ds as d ds' rl1 ra hH1 eg Q fun v xs' rl' rv => ?_
          have il : i < e1.length := (List.getElem?_eq_some_iff.mp hd).1
          have inn : a ∈ fps1 i := by rw [ef']; exact List.mem_singleton.mpr rfl
          have ne : ∀ {b : Addr} {u : HO}, H1 b = some u → ¬ In fps1 b → b ≠ a := fun _ n z => n ⟨i, z ▸ inn⟩
          have fa : F1 a = none := p1.g.nf i a inn
          have pp : Post X.K c F1 H1 fps1 (e1.set i (some (.lst ds'))) σ F1 (upd H1 a (.lst xs')) fps1 [] := by
            refine ⟨⟨.refl F1, fun b o e n => by rw [upd_ne (ne e n)]; exact e, fun b o e => .inl e, fun b h => h.elim .inl (fun z => by cases z)⟩, ⟨p1.g.ex.upd fa, by rw [List.length_set]; exact p1.g.len, fun j d' e' => ?_, fun j hj => ?_, p1.g.dj, p1.g.nf, p1.g.fx⟩, fun _ h => by cases h⟩
            · by_cases hj : j = i
              · subst hj
                rw [List.getElem?_set_self il] at e'
                cases e'
                refine ⟨_, hv0, ?_⟩
                rw [hsh, ef']
                exact Own.l1 upd_same rl'
              · rw [List.getElem?_set_ne (Ne.symm hj)] at e'
                obtain ⟨w, hw, ow⟩ := p1.g.at_ j d' e'
                exact ⟨w, hw, ow.mono (.refl _) fun b hb => upd_ne fun z => hj (p1.g.dj j i b hb (z ▸ inn))⟩
            · refine p1.g.out j fun d' e' => ?_
              by_cases hji : j = i
              · subst hji
                exact hj _ (List.getElem?_set_self il)
              · exact hj d' (by rw [List.getElem?_set_ne (Ne.symm hji)]; exact e')
          exact h1 v F1 _ fps1 [] pp (.fz rv)
      · exact h1.elim
    · exact h1_elim h
  where h1_elim {α : Prop} (h : False) : α := h.elim
end
end FL
namespace FL
open PySem PySem.Spec L2
open PyProof.Rows hiding St
/-! ### two owned results at once -/
section
variable {K : PySem.W.Frag} {c : Ct} {F H F1 H1 F2 H2 : Hp} {fps fps1 fps2 : Fps} {e1 e2 : Sl} {σ σ1 σ2 : L2.St} {f1 f2 : List Addr}
theorem Post.both {s : Sh} {x : V} {d : D} (a : Post K c F H fps e1 σ1 F1 H1 fps1 f1) (o : Own K c.cl F1 H1 s x d f1) (b : Post K c F1 H1 fps1 e2 σ2 F2 H2 fps2 f2) :
    Post K c F H fps e2 σ2 F2 H2 fps2 (f1 ++ f2) ∧ Own K c.cl F2 H2 s x d f1 ∧ ∀ z ∈ f1, z ∉ f2 := by
  have nin : ∀ z ∈ f1, ¬ In fps1 z := fun z hz ⟨i, hi⟩ => (a.fr z hz).2 i hi
  have kept : ∀ z ∈ f1, H2 z = H1 z := fun z hz => by
    obtain ⟨vs, e⟩ := o.there z hz
    rw [e]; exact b.step.keep z _ e (nin z hz)
  have off : ∀ z ∈ f1, ¬ (In fps2 z ∨ z ∈ f2) := fun z hz h => by
    rcases b.step.newP z h with y | y
    · exact nin z hz y
    · obtain ⟨vs, e⟩ := o.there z hz
      rw [e] at y; cases y
  refine ⟨⟨?_, b.g, fun z hz => ?_⟩, o.mono b.step.ex kept, fun z hz h => off z hz (.inr h)⟩
  · have s2 := b.step.frame (Q := fun z => z ∈ f1)
    refine (a.step.trans s2).weak (fun _ h => h) fun z h => ?_
    rcases h with h | h
    · exact .inl (.inl h)
    · rcases List.mem_append.mp h with h | h
      · exact .inr h
      · exact .inl (.inr h)
  · rcases List.mem_append.mp hz with h | h
    · refine ⟨?_, fun i hi => off z h (.inl ⟨i, hi⟩)⟩
      cases q : F2 z with
      | none => rfl
      | some u =>
        rcases b.step.newF z u q with y | y | y
        · rw [(a.fr z h).1] at y; cases y
        · exact absurd y (nin z h)
        · obtain ⟨vs, e⟩ := o.there z h
          rw [e] at y; cases y
    · exact b.fr z h
/-- a slot is stored, the rest stays in hand -/
theorem Post.setR {i : Nat} {v : V} {d : D} (p : Post K c F H fps e1 σ F1 H1 fps1 (f1 ++ f2)) (w : Own K c.cl F1 H1 (c.sh i) v d f1) (hd : ∀ z ∈ f1, z ∉ f2) (hx : c.fix i = none) :
    ∃ fps2, Post K c F H fps (e1.set i (some d)) (σ.set i (some v)) F1 H1 fps2 f2 := by
  have fr1 : ∀ a ∈ f1, F1 a = none ∧ ∀ i, a ∉ fps1 i := fun a h => p.fr a (List.mem_append_left _ h)
  have fr2 : ∀ a ∈ f2, F1 a = none ∧ ∀ i, a ∉ fps1 i := fun a h => p.fr a (List.mem_append_right _ h)
  have fx' : ∀ j u, c.fix j = some u → (σ.set i (some v))[j]? = some (some u) := fun j u e => by
    have hj : i ≠ j := fun z => by subst z; rw [hx] at e; cases e
    rw [List.getElem?_set_ne hj]; exact p.g.fx j u e
  by_cases hi : i < e1.length
  · have hs : i < σ.length := by rw [← p.g.len]; exact hi
    refine ⟨Fps.put fps1 i f1, ⟨p.step.ex, p.step.keep, p.step.newF, fun a ha => ?_⟩, ⟨p.g.ex, by rw [List.length_set, List.length_set]; exact p.g.len, fun j d' e' => ?_, fun j hj => ?_, fun j k a hj hk => ?_, fun j a ha => ?_, fx'⟩, fun a h => ⟨(fr2 a h).1, fun j hj => ?_⟩⟩
    · rcases ha with ⟨j, hj⟩ | ha
      · rcases mem_put.mp hj with ⟨_, z⟩ | ⟨_, z⟩
        · exact p.step.newP a (.inr (List.mem_append_left _ z))
        · exact p.step.newP a (.inl ⟨j, z⟩)
      · exact p.step.newP a (.inr (List.mem_append_right _ ha))
    · by_cases hj : j = i
      · subst hj
        rw [List.getElem?_set_self hi] at e'
        cases e'
        exact ⟨v, List.getElem?_set_self hs, by rw [put_self]; exact w⟩
      · rw [List.getElem?_set_ne (Ne.symm hj)] at e'
        obtain ⟨u, e2, ow⟩ := p.g.at_ j d' e'
        exact ⟨u, by rw [List.getElem?_set_ne (Ne.symm hj)]; exact e2, by rw [put_ne hj]; exact ow⟩
    · by_cases hne : j = i
      · subst hne; exact absurd (List.getElem?_set_self hi) (hj d)
      · rw [put_ne hne]
        exact p.g.out j fun d' e' => hj d' (by rw [List.getElem?_set_ne (Ne.symm hne)]; exact e')
    · rcases mem_put.mp hj with ⟨h1, z⟩ | ⟨h1, z⟩
      · rcases mem_put.mp hk with ⟨h2, y⟩ | ⟨h2, y⟩
        · rw [h1, h2]
        · exact absurd y ((fr1 a z).2 k)
      · rcases mem_put.mp hk with ⟨h2, y⟩ | ⟨h2, y⟩
        · exact absurd z ((fr1 a y).2 j)
        · exact p.g.dj j k a z y
    · rcases mem_put.mp ha with ⟨_, z⟩ | ⟨_, z⟩
      · exact (fr1 a z).1
      · exact p.g.nf j a z
    · rcases mem_put.mp hj with ⟨_, z⟩ | ⟨_, z⟩
      · exact hd a z h
      · exact (fr2 a h).2 j z
  · have e1' : e1.set i (some d) = e1 := List.set_eq_of_length_le (by omega)
    have s1' : σ.set i (some v) = σ := List.set_eq_of_length_le (by rw [← p.g.len]; omega)
    rw [e1', s1']
    exact ⟨fps1, p.step.weak (fun _ h => h) (fun a h => h.imp id fun z => List.mem_append_right _ z), p.g, fr2⟩
end
/-! ### a, b = x, y -/
def sPar (i j : Nat) (ma mb : M D) : MS := fun e => (ma e).then fun x e1 => (mb e1).then fun y e2 => .nx ((e2.set i (some x)).set j (some y))
section
variable {c : Ct} {X : Cx} {o : Sh} {a b : Expr} {ma mb mc : M D} {pos : Pos} {i j : Nat}
theorem fs_par {x y : Str} {px py pt : Pos} {kt k2 pt2} (si : c.fix i = none) (sj : c.fix j = none) (hc : X.calm = true) (hN : X.N.Nodup) (hi : X.N[i]? = some x) (hj : X.N[j]? = some y) (hij : i ≠ j)
    (hx : X.env.scope.names.lookup x = some .local) (hy : X.env.scope.names.lookup y = some .local) (ha : FE c X a (c.sh i) ma) (hb : FE c X b (c.sh j) mb)
    (hw : swappedStores [.Tuple [.Name x px, .Name y py] kt pt] (.Tuple [a, b] k2 pt2) X.env = pure (some [x, y])) (h1 : starEach [a, b] X.env = (false, eval a X.env) :: starEach [b] X.env := by rfl) (h2 : starEach [b] X.env = (false, eval b X.env) :: starEach [] X.env := by rfl)
    (hs : swapsWithSole [.Tuple [.Name x px, .Name y py] kt pt] (.Tuple [a, b] k2 pt2) pos.line X.env = pure false := by rfl) : FS c X (.Assign [.Tuple [.Name x px, .Name y py] kt pt] (.Tuple [a, b] k2 pt2) pos) o (sPar i j ma mb) :=
  PS.weak (ps_par hc hN hi hj hij hx hy (pa_cons ha (pa_cons hb pa_nil h2) h1) hw hs) fun D σ H => by
    rintro ⟨F, env, fps, g, h⟩
    refine (T.thenO g h).mono fun x H1 ⟨d1, F1, fps1, f1, e1, p1, o1, h1⟩ => ?_
    refine (⟨F1, e1, fps1, p1.g, ?_⟩ : T X.K c (c.sh j) mb σ H1 _)
    have h1 : Ts X.K c o ((mb e1).then fun y e2 => .nx ((e2.set i (some d1)).set j (some y))) F H fps D := h1
    revert h1
    cases mb e1 with
    | er => exact id
    | rs z e2 => exact fun h dx F2 H2 fps2 p2 q => h dx σ F2 H2 fps2 (p1.both o1 p2).1.drop q
    | ok d2 e2 =>
      intro h y F2 H2 fps2 f2 p2 o2
      obtain ⟨pp, o1', dj⟩ := p1.both o1 p2
      obtain ⟨fps3, p3⟩ := pp.setR o1' dj si
      obtain ⟨fps4, p4⟩ := p3.set o2 sj
      exact ⟨x, y, rfl, h _ _ _ _ p4⟩
/-! ### a list with an owned one in it -/
def dLstO (ma mb : M D) : M D := fun e => (ma e).bind fun x e1 => (mb e1).bind fun y e2 => .ok (.lst [x, y]) e2
theorem fe_lstO (ha : FE c X a l1 ma) (hb : FE c X b .fz mb) (h1 : starEach [a, b] X.env = (false, eval a X.env) :: starEach [b] X.env := by rfl) (h2 : starEach [b] X.env = (false, eval b X.env) :: starEach [] X.env := by rfl) : FE c X (.List [a, b] pos) (.ls [l1] .fz) (dLstO ma mb) :=
  PE.weak (pe_lst (pa_cons ha (pa_cons hb pa_nil h2) h1)) fun σ H Q => by
    rintro ⟨F, env, fps, g, h⟩
    refine ⟨F, env, fps, g, ?_⟩
    unfold dLstO at h
    revert h
    cases ma env with
    | er => exact id
    | rs z e1 => exact fun h => h
    | ok d1 e1 =>
      intro h x F1 H1 fps1 f1 p1 o1
      refine ⟨F1, e1, fps1, p1.g, ?_⟩
      have h : Tg X.K c (relV X.K c (.ls [l1] .fz)) ((mb e1).bind fun y e2 => .ok (.lst [d1, y]) e2) F H fps σ Q := h
      revert h
      cases mb e1 with
      | er => exact id
      | rs z e2 => exact fun h dx F2 H2 fps2 p2 q => h dx F2 H2 fps2 (p1.both o1 p2).1.drop q
      | ok d2 e2 =>
        intro h y F2 H2 fps2 f2 p2 w2
        obtain ⟨r2, ef⟩ := Own.rep w2
        subst ef
        obtain ⟨pp, o1', dj⟩ := p1.both o1 p2
        rw [List.append_nil] at pp
        refine ⟨by show 2 ≤ sizeLine; rw [sizeLine_eq]; omega, fun L hL => ?_⟩
        have nw := New.own (o := .lst [x, y]) pp.g.ex hL
        have o1'' : Own X.K c.cl F2 (upd H2 L (.lst [x, y])) l1 x d1 f1 := o1'.mono nw.step.ex fun z hz => by
          obtain ⟨vs, e⟩ := o1'.there z hz
          exact upd_ne (ne_of_none e hL)
        have nLf : L ∉ f1 := fun m => by
          obtain ⟨vs, e⟩ := o1'.there L m
          rw [hL] at e; cases e
        have ow : Own X.K c.cl F2 (upd H2 L (.lst [x, y])) (.ls [l1] .fz) (.ref L) (.lst [d1, d2]) (L :: (f1 ++ ([] ++ []))) := .ls upd_same (.l o1'' (.e (.fz r2) .nil (fun a h => by cases h)) (fun a h m => by simp at m)) (by simpa using nLf)
        have np := pp.g.new nw
        refine h (.ref L) F2 _ fps2 _ ⟨(pp.step.trans (np.step.frame (Q := fun z => z ∈ f1))).weak (fun _ h => h) fun z hz => ?_, np.g, fun z hz => ?_⟩ ow
        · rcases hz with hz | hz
          · exact .inl (.inl hz)
          · rcases List.mem_cons.mp hz with hz | hz
            · exact .inl (.inr (by simp [hz]))
            · exact .inr (by simpa using hz)
        · rcases List.mem_cons.mp hz with hz | hz
          · subst hz
            exact np.fr z (by simp)
          · have hz : z ∈ f1 := by simpa using hz
            exact ⟨(pp.fr z hz).1, (pp.fr z hz).2⟩
/-! ### list(range(..)) -/
def gLR1 : D → Option D
  | .int n => if smallR n = true ∧ n.toNat ≤ line then some (.lst (rangeD 0 n)) else none
  | _ => none
def gLR2 : D → D → Option D
  | .int i, .int n => if smallR i = true ∧ smallR n = true ∧ (n - i).toNat ≤ line then some (.lst (rangeD i n)) else none
  | _, _ => none
theorem rg_rep {K : PySem.W.Frag} {cl : Nat → Addr} {F : Hp} {i n : Int} : RepL K cl F (rgV i n) (rangeD i n) := by
  unfold rgV rangeD
  refine ⟨by rw [List.length_map, List.length_map], fun j v d hv hd => ?_⟩
  rw [List.getElem?_map] at hv hd
  cases q : (List.range (n - i).toNat)[j]? with
  | none => rw [q] at hv; cases hv
  | some k => rw [q] at hv hd; cases hv; cases hd; exact .int _
theorem fe_listR1 {p p2 pos2 : Pos} (hc : X.calm = true) (hg : Gl X "list") (hm : X.mg "list" = none) (hg2 : Gl X "range") (hm2 : X.mg "range" = none) (ha : FE c X a .fz ma) (n1 : starEach [a] X.env = (false, eval a X.env) :: starEach [] X.env := by rfl)
    (n0 : starEach [.Call (.Name "range" p2) [a] [] pos2] X.env = (false, eval (.Call (.Name "range" p2) [a] [] pos2) X.env) :: starEach [] X.env := by rfl) : FE c X (.Call (.Name "list" p) [.Call (.Name "range" p2) [a] [] pos2] [] pos) l1 (dOp1 gLR1 ma) :=
  PE.weak (pe_listRg hc hg hm (prg_1 hg2 hm2 ha n1) n0) fun σ H Q => by
    rintro ⟨F, env, fps, g, h⟩
    refine (T.one g h).mono fun x H1 ⟨d1, F1, fps1, e1, p1, r1, h1⟩ => ?_
    cases d1 with
    | int n =>
      have h1 : Tg X.K c (relV X.K c l1) (R.opt (if smallR n = true ∧ n.toNat ≤ line then some (.lst (rangeD 0 n)) else none) e1) F1 H1 fps1 σ Q := h1
      by_cases z : smallR n = true ∧ n.toNat ≤ line
      · rw [if_pos z] at h1
        obtain ⟨s1, s2⟩ := smallR_ok z.1
        refine ⟨n, r1.int_inv, ⟨by decide, by decide, s1, s2, by rw [Int.sub_zero]; exact z.2⟩, fun q hq => ?_⟩
        have nw := New.own (o := .lst (rgV 0 n)) p1.g.ex hq
        exact fin_new p1.g h1 _ _ _ _ nw (Own.l1 upd_same rg_rep)
      · rw [if_neg z] at h1; exact h1.elim
    | _ => exact h1.elim
end
end FL
namespace FL
open PySem PySem.Spec L2
open PyProof.Rows hiding St
/-! ### defs with defaults; a recursion's ground; room -/
section
variable {P : Program} {w : World} {K : PySem.W.Frag} {mg : Str → Option Value} {base : Heap} {cl : Nat → Addr}
theorem fn_okD {x qual : Str} {st : Stmt} {f : Addr} {fd : FuncData} {dvs : List V} {kws : List (Str × V)} {N ps : List Str} {k np : Nat} {sh : Nat → Sh} {ow : List Nat} {o : Sh} {nxok : Bool} {body : MS} (Fu : FunD K x qual (defArgs st) (defBody st) (defScope st) dvs kws f fd) (S : FnScope N ps (defScope st)) (hnp : ps.length = np) (hN : np ≤ N.length)
    (hnd : ow.Nodup) (how : ∀ i, sh i ≠ .fz → i < np → i ∈ ow) (how2 : ∀ i ∈ ow, i < np) (hnx : nxok = true → o = .fz)
    (hbody : ∀ (cdv : Value) (A : Around) (outer : List Env) (s : Shared) (H : Hp) (vs : List V) (E : XK), Room k (A.deeper (envOfC qual (defScope st) s.heap.objs.size f cdv)) →
      FSs (ctF cl sh ow vs E) (cxOf (L2.CX P w) P w K mg base N qual (defScope st) f cdv A outer s H E) (defBody st) o body) :
    FnOk P w K mg base (L2.CX P w) (k + 1) f fd ps (spF K cl sh ow o np (runF N.length np ow nxok body)) :=
  Fu.ok S (fun vs H Q E h => by rw [hnp]; exact h.1) (fun cdv A outer s H vs Q E hr h => ⟨_, hbody cdv A outer s H vs E hr, spF_body hN hnd how how2 hnx h⟩)
theorem fn_er {CX : CXT} {k np : Nat} {f : Addr} {fd : FuncData} {ps : List Str} {sh : Nat → Sh} {ow : List Nat} {o : Sh} (hnp : ps.length = np) : FnOk P w K mg base CX k f fd ps (spF K cl sh ow o np fun _ => .er) :=
  ⟨fun vs H Q E h => by rw [hnp]; exact h.1, fun A outer s H args us vs Q E hr e0 hb r h => absurd h spF_er⟩
theorem hu64 {A : Around} {k : Nat} (hr : Room k A) : A.units + 64 < cLine := by have := hr.un; omega
theorem hu65 {A : Around} {k : Nat} (hr : Room k A) : A.units + 65 < cLine := by have := hr.un; omega
theorem hq64 {A : Around} {k : Nat} (hr : L2H.RoomH k A) : A.units + 64 < cLine := by have := hr.un; omega
theorem hq65 {A : Around} {k : Nat} (hr : L2H.RoomH k A) : A.units + 65 < cLine := by have := hr.un; omega
end
/-- what the law's end asks: it answers True -/
theorem law_sp {K : PySem.W.Frag} {cl : Nat → Addr} {H : Hp} {a : Addr} {ns : List Int} {f : Fn} {os : Sl} (hO : Only H) (hS : SqL K H a (ns.map V.int)) (h : f [.lst (ns.map D.int)] = .ok (.bl true) os) :
    spF K cl (fun _ => .fz) [] .fz 1 f [.ref a] H (fun v _ => v = .bl true) fun _ _ _ => False := by
  refine ⟨rfl, H, [.lst (ns.map D.int)], fun _ => [], ⟨.refl H, rfl, fun i d e => ?_, fun _ _ => rfl, fun i j a h => (by cases h), fun i a h => (by cases h), fun i v e => (by cases e)⟩, ?_⟩
  · cases i with
    | zero =>
      cases e
      exact ⟨.ref a, rfl, .fz (.lstL hS (repl_ints ns))⟩
    | succ i => simp at e
  · rw [h]
    intro v F' H' fps' fpr p w
    exact (Own.rep w).1.bl_inv
end FL
namespace FL
open PySem PySem.Spec L2
open PyProof.Rows hiding St
/-! ### small words for printed derivations -/
abbrev boxSh : Sh := .ls [l1] .fz
def ShK (ks : List (Option Nat)) (sh sh' : Nat → Sh) : Prop := ∀ i j : Nat, ks[i]? = some (some j) → sh i = sh' j
theorem shZ {sh sh' : Nat → Sh} : ShK [] sh sh' := fun i j h => by simp at h
theorem shN {ks : List (Option Nat)} {sh sh' : Nat → Sh} (h : ShK ks (fun i => sh (i + 1)) sh') : ShK (none :: ks) sh sh' := fun i j e => by
  cases i with
  | zero => simp at e
  | succ i => exact h i j (by simpa using e)
theorem shS {ks : List (Option Nat)} {sh sh' : Nat → Sh} {k : Nat} (h0 : sh 0 = sh' k) (h : ShK ks (fun i => sh (i + 1)) sh') : ShK (some k :: ks) sh sh' := fun i j e => by
  cases i with
  | zero => simp at e; subst e; exact h0
  | succ i => exact h i j (by simpa using e)
theorem shOut {l : List (Nat × Sh)} {ow : List Nat} (h : l.map (·.1) = ow) : ∀ i : Nat, i ∉ ow → shOf l i = .fz := by
  subst h
  induction l with
  | nil => intro i _; rfl
  | cons p l ih =>
    intro i hi
    obtain ⟨j, s⟩ := p
    unfold shOf
    have : (i == j) = false := by
      simp only [List.map_cons, List.mem_cons, not_or] at hi
      simpa using hi.1
    rw [this]
    exact ih i fun z => hi (by simp [z])
theorem shPre {a b : List (Nat × Sh)} {np : Nat} (h : b.all (fun p => decide (np ≤ p.1)) = true) : ∀ i, i < np → shOf (a ++ b) i = shOf a i := by
  intro i hi
  induction a with
  | nil =>
    induction b with
    | nil => rfl
    | cons p b ih =>
      obtain ⟨j, s⟩ := p
      simp only [List.all_cons, Bool.and_eq_true, decide_eq_true_eq] at h
      show shOf ((j, s) :: b) i = .fz
      unfold shOf
      have : (i == j) = false := by have := h.1; simp; omega
      rw [this]
      exact ih h.2
  | cons p a ih =>
    obtain ⟨j, s⟩ := p
    show shOf ((j, s) :: (a ++ b)) i = shOf ((j, s) :: a) i
    unfold shOf
    rw [ih]
theorem shHow {a b : List (Nat × Sh)} {np : Nat} {ow : List Nat} (h : a.map (·.1) = ow) (hb : b.all (fun p => decide (np ≤ p.1)) = true) : ∀ i, shOf (a ++ b) i ≠ .fz → i < np → i ∈ ow := fun i hi hn => by
  rw [shPre hb i hn] at hi
  by_cases m : i ∈ ow
  · exact m
  · exact absurd (shOut h i m) hi
section
variable {P : Program} {w : World} {K : PySem.W.Frag} {mg : Str → Option Value} {base : Heap} {cl : Nat → Addr}
theorem G.shape {c c' : Ct} {F H : Hp} {env : Sl} {fps : Fps} {σ : L2.St} (g : G K c F env fps σ H) (h1 : c'.cl = c.cl) (h2 : ∀ i, i < env.length → c'.sh i = c.sh i) (h3 : c'.fix = c.fix) : G K c' F env fps σ H :=
  ⟨g.ex, g.len, fun i d e => by rw [h1, h2 i (List.getElem?_eq_some_iff.mp e).1]; exact g.at_ i d e, g.out, g.dj, g.nf, fun i v e => g.fx i v (by rw [← h3]; exact e)⟩
theorem spF_sh {sh sh' : Nat → Sh} {ow : List Nat} {o : Sh} {np : Nat} {f : Fn} {vs : List V} {H : Hp} {Q : VK} {E : XK} (h : ∀ i, i < np → sh i = sh' i) (s : spF K cl sh' ow o np f vs H Q E) : spF K cl sh ow o np f vs H Q E := by
  obtain ⟨hl, F, ds, fps, g, m⟩ := s
  have dl : ds.length = np := by have := g.len; rw [List.length_map, List.length_map] at this; omega
  refine ⟨hl, F, ds, fps, g.shape rfl (fun i hi => h i (by rw [List.length_map] at hi; omega)) rfl, ?_⟩
  revert m
  cases f ds with
  | er => exact id
  | ok d os =>
    intro m v F' H' fps' fpr p q
    exact m v F' H' fps' fpr ⟨p.step, p.g.shape rfl (fun i hi => (h i (by rw [putS_length, List.length_replicate] at hi; exact hi)).symm) rfl, p.fr⟩ q
  | rs x os =>
    intro m dx F' H' fps' p q
    exact m dx F' H' fps' ⟨p.step, p.g.shape rfl (fun i hi => (h i (by rw [putS_length, List.length_replicate] at hi; exact hi)).symm) rfl, p.fr⟩ q
/-- a def: a its owned parameters, b its owned locals -/
theorem fn_o {x qual : Str} {st : Stmt} {f : Addr} {fd : FuncData} {N ps : List Str} {k np : Nat} (a b : List (Nat × Sh)) {ow : List Nat} {o : Sh} {nxok : Bool} {body : MS} (Fu : Fun K x qual st f fd) (S : FnScope N ps (defScope st)) (hnp : ps.length = np) (hN : np ≤ N.length) (ha : a.map (·.1) = ow) (hb : b.all (fun p => decide (np ≤ p.1)) = true)
    (hnd : ow.Nodup) (how2 : ∀ i ∈ ow, i < np) (hnx : nxok = true → o = .fz)
    (hbody : ∀ (cdv : Value) (A : Around) (outer : List Env) (s : Shared) (H : Hp) (vs : List V) (E : XK), Room k (A.deeper (envOfC qual (defScope st) s.heap.objs.size f cdv)) →
      FSs (ctF cl (shOf (a ++ b)) ow vs E) (cxOf (L2.CX P w) P w K mg base N qual (defScope st) f cdv A outer s H E) (defBody st) o body) :
    FnOk P w K mg base (L2.CX P w) (k + 1) f fd ps (spF K cl (shOf a) ow o np (runF N.length np ow nxok body)) :=
  (fn_ok Fu S hnp hN hnd (shHow ha hb) how2 hnx hbody).imp fun vs H Q E h => spF_sh (shPre hb) h
theorem fn_oD {x qual : Str} {st : Stmt} {f : Addr} {fd : FuncData} {dvs : List V} {kws : List (Str × V)} {N ps : List Str} {k np : Nat} (a b : List (Nat × Sh)) {ow : List Nat} {o : Sh} {nxok : Bool} {body : MS} (Fu : FunD K x qual (defArgs st) (defBody st) (defScope st) dvs kws f fd) (S : FnScope N ps (defScope st)) (hnp : ps.length = np) (hN : np ≤ N.length) (ha : a.map (·.1) = ow) (hb : b.all (fun p => decide (np ≤ p.1)) = true)
    (hnd : ow.Nodup) (how2 : ∀ i ∈ ow, i < np) (hnx : nxok = true → o = .fz)
    (hbody : ∀ (cdv : Value) (A : Around) (outer : List Env) (s : Shared) (H : Hp) (vs : List V) (E : XK), Room k (A.deeper (envOfC qual (defScope st) s.heap.objs.size f cdv)) →
      FSs (ctF cl (shOf (a ++ b)) ow vs E) (cxOf (L2.CX P w) P w K mg base N qual (defScope st) f cdv A outer s H E) (defBody st) o body) :
    FnOk P w K mg base (L2.CX P w) (k + 1) f fd ps (spF K cl (shOf a) ow o np (runF N.length np ow nxok body)) :=
  (fn_okD Fu S hnp hN hnd (shHow ha hb) how2 hnx hbody).imp fun vs H Q E h => spF_sh (shPre hb) h
end
theorem tkQ {X : Cx} : Takes X (fun _ _ _ _ => False) := fun _ _ ⟨_, _, _, _, _, _, _, _, _, _, _, _, _, _, _, _, w⟩ => w.elim
theorem dflt1 {K : PySem.W.Frag} {x qual : Str} {params : Arguments} {body : List Stmt} {scope : Scope} {dvs : List V} {kws : List (Str × V)} {f : Addr} {fd : FuncData} (F : FunD K x qual params body scope dvs kws f fd) : True := trivial
section
variable {c : Ct} {X : Cx}
theorem fe_lcv {elt tg iter : Expr} {ifs : List Expr} {scope : Scope} (own : List (Str × Nat)) {vs : List Nat} {pos : Pos} {it : M (List D)} {ts : List Nat} {t : Tgt} {cond : M Bool} {me : M D} (hv : own.map (·.2) = vs) (hc : X.calm = true) (hN : X.N.Nodup) (hi : FI c X tg iter it) (ok : BlkOk X.N X.env.scope scope own)
    (hts : ∀ k ∈ ts, k ∈ vs) (hsh : ∀ k ∈ vs, c.sh k = .fz) (hfx : ∀ k ∈ vs, c.fix k = none)
    (hg : ∀ (s : Shared) (H : Hp) (C : Addr) (cl : List (Str × Addr)) (fp : List Addr), FG c.quiet (X.blk s H scope (compEnvC scope cl C X.env) fp) tg ts t) (ht : ∀ (s : Shared) (H : Hp) (C : Addr) (cl : List (Str × Addr)) (fp : List Addr), FTs c.quiet (X.blk s H scope (compEnvC scope cl C X.env) fp) ifs cond)
    (he : ∀ (s : Shared) (H : Hp) (C : Addr) (cl : List (Str × Addr)) (fp : List Addr), FE c.quiet (X.blk s H scope (compEnvC scope cl C X.env) fp) elt .fz me) (hs : ∀ x, foldedSetIterable iter X.env x = pure x := by intro _; rfl) :
    FE c X (.ListComp elt [⟨tg, iter, ifs, 0⟩] scope pos) l1 (dLc it t cond me vs) := by
  subst hv
  exact fe_lc hc hN hi ok hts hsh hfx hg ht he hs
theorem fs_setLcv {o : Sh} {elt tg iter : Expr} {ifs : List Expr} {scope : Scope} (own : List (Str × Nat)) {vs : List Nat} {pos spos py : Pos} {y : Str} {it : M (List D)} {ts : List Nat} {t : Tgt} {cond : M Bool} {me : M D} (i : Nat) (hs1 : c.sh i = .fz ∨ c.sh i = l1) (hx : c.fix i = none) (hy : X.N[i]? = some y) (hyl : X.env.scope.names.lookup y = some .local) (hk : X.env.scope.kind = .function) (hl : (py.line == pos.line) = true) (hno : (scope.names.any fun (n, k) => n == y && (k == .local || k == .cell)) = false)
    (hv : own.map (·.2) = vs) (hc : X.calm = true) (hN : X.N.Nodup) (hi : FI c X tg iter it) (ok : BlkOk X.N X.env.scope scope own) (hts : ∀ k ∈ ts, k ∈ vs) (hsh : ∀ k ∈ vs, c.sh k = .fz) (hfx : ∀ k ∈ vs, c.fix k = none)
    (hg : ∀ (s : Shared) (H : Hp) (C : Addr) (cl : List (Str × Addr)) (fp : List Addr), FG c.quiet (X.blk s H scope (compEnvC scope cl C X.env) fp) tg ts t) (ht : ∀ (s : Shared) (H : Hp) (C : Addr) (cl : List (Str × Addr)) (fp : List Addr), FTs c.quiet (X.blk s H scope (compEnvC scope cl C X.env) fp) ifs cond)
    (he : ∀ (s : Shared) (H : Hp) (C : Addr) (cl : List (Str × Addr)) (fp : List Addr), FE c.quiet (X.blk s H scope (compEnvC scope cl C X.env) fp) elt .fz me) (hs : ∀ x, foldedSetIterable iter X.env x = pure x := by intro _; rfl) :
    FS c X (.Assign [.Name y py] (.ListComp elt [⟨tg, iter, ifs, 0⟩] scope pos) spos) o (sSet i (dLc it t cond me vs)) := by
  subst hv
  exact fs_setLc i hs1 hx hy hyl hk hl hno hc hN hi ok hts hsh hfx hg ht he hs
end
end FL
namespace FL
/-! ### reckoning with denotations: equations where the slots are there -/
open PySem
section
variable {α β : Type} {a b c : M D} {e : Sl} {x y : D} {k : α → Sl → R β} {d : α} {z : Exn}
theorem bind_ok : (R.ok d e).bind k = k d e := rfl
theorem bind_rs : (R.rs z e : R α).bind k = .rs z e := rfl
theorem bind_er : (R.er : R α).bind k = .er := rfl
theorem then_ok {k : α → Sl → RS} : (R.ok d e).then k = k d e := rfl
theorem then_rs {k : α → Sl → RS} : (R.rs z e : R α).then k = .rs z e := rfl
theorem then_er {k : α → Sl → RS} : (R.er : R α).then k = .er := rfl
theorem opt_some : R.opt (some d) e = .ok d e := rfl
theorem opt_none : R.opt (none : Option α) e = .er := rfl
/-- behind a statement -/
def RS.seq (r : RS) (k : MS) : RS := match r with
  | .nx e => k e
  | r => r
theorem seq_nx {k : MS} : (RS.nx e).seq k = k e := rfl
theorem seq_rt {k : MS} : (RS.rt x e).seq k = .rt x e := rfl
theorem seq_rs {k : MS} : (RS.rs z e).seq k = .rs z e := rfl
theorem seq_er {k : MS} : RS.er.seq k = .er := rfl
theorem seq_bk {k : MS} : (RS.bk e).seq k = .bk e := rfl
theorem seq_ct {k : MS} : (RS.ct e).seq k = .ct e := rfl
theorem sSeq_ap {p q : MS} : sSeq p q e = (p e).seq q := by unfold sSeq RS.seq; cases p e <;> rfl
theorem sNil_ap : sNil e = .nx e := rfl
theorem sIf_ap {t : M Bool} {p q : MS} : sIf t p q e = (t e).then fun x e1 => if x = true then p e1 else q e1 := rfl
theorem sRet_ap : sRet a e = (a e).then fun d e1 => .rt d e1 := rfl
theorem sSet_ap {i : Nat} : sSet i a e = (a e).then fun d e1 => .nx (e1.set i (some d)) := rfl
theorem sExpr_ap : sExpr a e = (a e).then fun _ e1 => .nx e1 := rfl
theorem sRaise_ap {n : Nat} : sRaise n a e = (a e).then fun d e1 => .rs ⟨n, [(Er.fn, d)]⟩ e1 := rfl
theorem dConst_ap : dConst x e = .ok x e := rfl
theorem dVar_ap {i : Nat} (h : e[i]? = some (some x)) : dVar i e = .ok x e := by unfold dVar; rw [h]
theorem dMove_ap {i : Nat} (h : e[i]? = some (some x)) : dMove i e = .ok x (e.set i none) := by unfold dMove; rw [h]
theorem dNil_ap : dNil e = .ok [] e := rfl
theorem dCons_ap {m : M (List D)} : dCons a m e = (a e).bind fun x e1 => (m e1).bind fun xs e2 => .ok (x :: xs) e2 := rfl
theorem dTup_ap {m : M (List D)} : dTup m e = (m e).bind fun xs e1 => if xs.length ≤ line then .ok (.tup xs) e1 else .er := rfl
theorem dLst_ap {m : M (List D)} : dLst m e = (m e).bind fun xs e1 => if xs.length ≤ line then .ok (.lst xs) e1 else .er := rfl
theorem dCall_ap {g : List D → Option D} {m : M (List D)} : dCall g m e = (m e).bind fun xs e1 => R.opt (g xs) e1 := rfl
theorem dCall1_ap {g : List D → Option D} : dCall1 g a e = (a e).bind fun x e1 => R.opt (g [x]) e1 := rfl
theorem dOp2_ap {g : D → D → Option D} : dOp2 g a b e = (a e).bind fun x e1 => (b e1).bind fun y e2 => R.opt (g x y) e2 := rfl
theorem dOp3_ap {g : D → D → D → Option D} : dOp3 g a b c e = (a e).bind fun x e1 => (b e1).bind fun y e2 => (c e2).bind fun z e3 => R.opt (g x y z) e3 := rfl
theorem dOp1_ap {g : D → Option D} : dOp1 g a e = (a e).bind fun x e1 => R.opt (g x) e1 := rfl
theorem dCmp_ap {p : D → D → Option Bool} : dCmp p a b e = (a e).bind fun x e1 => (b e1).bind fun y e2 => R.opt ((p x y).map D.bl) e2 := rfl
theorem tCmp_ap {p : D → D → Option Bool} : tCmp p a b e = (a e).bind fun x e1 => (b e1).bind fun y e2 => R.opt (p x y) e2 := rfl
theorem dChain_ap {p q : D → D → Option Bool} : dChain p q a b c e = (a e).bind fun x e1 => (b e1).bind fun y e2 => (R.opt (p x y) e2).bind fun t e3 => if t = true then (c e3).bind fun z e4 => R.opt ((q y z).map D.bl) e4 else .ok (.bl false) e3 := rfl
def blK (x : D) (e1 : Sl) : R Bool := match x with
  | .bl b => .ok b e1
  | _ => .er
theorem blK_bl {b : Bool} : blK (.bl b) e = .ok b e := rfl
theorem tBl_ap : tBl a e = (a e).bind blK := rfl
theorem tAnd_ap {s t : M Bool} : tAnd s t e = (s e).bind fun x e1 => if x = true then t e1 else .ok false e1 := rfl
theorem tOr_ap {s t : M Bool} : tOr s t e = (s e).bind fun x e1 => if x = true then .ok true e1 else t e1 := rfl
theorem tNot_ap {s : M Bool} : tNot s e = (s e).bind fun x e1 => .ok (!x) e1 := rfl
theorem tYes_ap : tYes e = .ok true e := rfl
theorem dAnd_ap : dAnd a b e = (a e).bind fun x e1 => (blK x e1).bind fun t e2 => if t = true then b e2 else .ok (.bl false) e2 := by
  unfold dAnd
  congr 1
  funext x e1
  cases x <;> try rfl
  rename_i t
  cases t <;> rfl
theorem dOr_ap : dOr a b e = (a e).bind fun x e1 => (blK x e1).bind fun t e2 => if t = true then .ok (.bl true) e2 else b e2 := by
  unfold dOr
  congr 1
  funext x e1
  cases x <;> try rfl
  rename_i t
  cases t <;> rfl
theorem dNot_ap : dNot a e = (a e).bind fun x e1 => (blK x e1).bind fun t e2 => .ok (.bl (!t)) e2 := by
  unfold dNot
  congr 1
  funext x e1
  cases x <;> rfl
theorem dIf_ap {t : M Bool} : dIf t a b e = (t e).bind fun x e1 => if x = true then a e1 else b e1 := rfl
theorem dIs_ap {T : Ty} : dIs T a e = (a e).bind fun d e1 => match d with
  | .dct _ _ => .er
  | .obj _ _ _ => .er
  | d => .ok (.bl (isT T d)) e1 := rfl
theorem dIs2_ap {T T' : Ty} : dIs2 T T' a e = (a e).bind fun d e1 => match d with
  | .dct _ _ => .er
  | .obj _ _ _ => .er
  | d => .ok (.bl (isT T d || isT T' d)) e1 := rfl
/-- behind a call -/
def RF.go (r : RF) (js : List Nat) (e : Sl) : R D := match r with
  | .ok d os => .ok d (putS js os e)
  | .rs x os => .rs x (putS js os e)
  | .er => .er
theorem go_ok {js : List Nat} {os : Sl} : (RF.ok x os).go js e = .ok x (putS js os e) := rfl
theorem go_rs {js : List Nat} {os : Sl} : (RF.rs z os).go js e = .rs z (putS js os e) := rfl
theorem dCallF_ap {f : Fn} {ks : List (Option Nat)} {js : List Nat} {dds : List D} {m : M (List D)} : dCallF f ks js dds m e = (m e).bind fun ds e1 => (R.opt (fillK ks ds e1) e1).bind fun ds' e2 => (f (ds' ++ dds)).go js e2 := by
  unfold dCallF
  congr 1
  funext ds e1
  cases fillK ks ds e1 with
  | none => rfl
  | some ds' =>
    show _ = (f (ds' ++ dds)).go js e1
    unfold RF.go
    rfl
theorem dCallV_ap {f : Fn} {m : M (List D)} : dCallV f m e = (m e).bind fun ds e1 => match f ds with
  | .ok d _ => .ok d e1
  | _ => .er := rfl
theorem dLen_ap {n : Nat} {m : M (List D)} : dLen n m e = (m e).bind fun ds e1 => if ds.length = n then .ok ds e1 else .er := rfl
theorem fill_nil : fillK [] [] e = some [] := rfl
theorem fill_none {ks : List (Option Nat)} {ds : List D} : fillK (none :: ks) (x :: ds) e = (fillK ks ds e).map (x :: ·) := rfl
theorem fill_some {ks : List (Option Nat)} {ds : List D} {j : Nat} (h : e[j]? = some (some y)) : fillK (some j :: ks) (x :: ds) e = (fillK ks ds e).map (y :: ·) := by
  show (match e[j]? with | some (some d) => (fillK ks ds e).map (d :: ·) | _ => none) = _
  rw [h]
def finK (nx : Bool) (ow : List Nat) (r : RS) : RF := match r with
  | .rt d e => .ok d (getS ow e)
  | .nx e => if nx = true then .ok .non (getS ow e) else .er
  | .rs x e => .rs x (getS ow e)
  | _ => .er
theorem fin_rt {nx : Bool} {ow : List Nat} : finK nx ow (.rt x e) = .ok x (getS ow e) := rfl
theorem fin_rs {nx : Bool} {ow : List Nat} : finK nx ow (.rs z e) = .rs z (getS ow e) := rfl
theorem runF_ap {n np : Nat} {ow : List Nat} {nx : Bool} {p : MS} {ds : List D} (h : ds.length = np) : runF n np ow nx p ds = finK nx ow (p (ds.map some ++ List.replicate (n - np) none)) := by
  unfold runF finK
  rw [if_pos h] <;> rfl
theorem getS_nil : getS [] e = [] := rfl
theorem getS_cons {j : Nat} {js : List Nat} : getS (j :: js) e = (e[j]?).getD none :: getS js e := rfl
theorem putS_nil {os : Sl} : putS [] os e = e := by unfold putS; rfl
theorem putS_cons {j : Nat} {js : List Nat} {o : Option D} {os : Sl} : putS (j :: js) (o :: os) e = (putS js os e).set j o := rfl
theorem gt_name {i : Nat} : gtName i x e = some (e.set i (some x)) := rfl
theorem gt_tup {n : Nat} {t : List D → Sl → Option Sl} {ds : List D} (h : ds.length = n) : gtTup n t (.tup ds) e = t ds e := by
  show (if ds.length = n then t ds e else none) = _
  rw [if_pos h]
theorem gt_lst {n : Nat} {t : List D → Sl → Option Sl} {ds : List D} (h : ds.length = n) : gtLst n t (.lst ds) e = t ds e := by
  show (if ds.length = n then t ds e else none) = _
  rw [if_pos h]
theorem gt_cons {t : Tgt} {u : List D → Sl → Option Sl} {ds : List D} : gtCons t u (x :: ds) e = (t x e).bind fun e1 => u ds e1 := rfl
theorem gt_nil : gtNil [] e = some e := rfl
def asgK (o : Option Sl) : RS := match o with
  | some e2 => .nx e2
  | none => .er
theorem asg_some : asgK (some e) = .nx e := rfl
theorem sAsg_ap {t : Tgt} : sAsg t a e = (a e).then fun d e1 => asgK (t d e1) := rfl
theorem sPar_ap {i j : Nat} : sPar i j a b e = (a e).then fun x e1 => (b e1).then fun y e2 => .nx ((e2.set i (some x)).set j (some y)) := rfl
end
/-! ### loops -/
section
variable {t : Tgt} {b : MS}
/-- each turn goes on, keeping I -/
theorem forL_inv (I : Nat → Sl → Prop) : ∀ {ds : List D} {n : Nat} {e : Sl}, (∀ (i : Nat) d e, ds[i]? = some d → I (n + i) e → ∃ e1, t d e = some e1 ∧ ∃ e2, (b e1 = .nx e2 ∨ b e1 = .ct e2) ∧ I (n + i + 1) e2) → I n e → ∃ e', forL t b ds e = .nx e' ∧ I (n + ds.length) e'
  | [], n, e, _, h => ⟨e, rfl, h⟩
  | d :: ds, n, e, s, h => by
    obtain ⟨e1, h1, e2, h2, h3⟩ := s 0 d e rfl h
    obtain ⟨e', h4, h5⟩ := forL_inv I (ds := ds) (n := n + 1) (e := e2) (fun i d e hd hi => by
      have := s (i + 1) d e (by simpa using hd) (by rw [show n + (i + 1) = n + 1 + i by omega]; exact hi)
      rw [show n + (i + 1) = n + 1 + i by omega] at this
      exact this) h3
    refine ⟨e', ?_, by rw [List.length_cons, show n + (ds.length + 1) = n + 1 + ds.length by omega]; exact h5⟩
    show (match t d e with
      | none => RS.er
      | some e1 => match b e1 with
        | .nx e2 => forL t b ds e2
        | .ct e2 => forL t b ds e2
        | .bk e2 => .nx e2
        | q => q) = _
    rw [h1]
    rcases h2 with h2 | h2 <;> (dsimp only; rw [h2]; exact h4)
variable {cond : M Bool} {elt : M D} {own : List Nat}
/-- a comprehension without filter that leaves the slots -/
theorem lcL_map (f : D → D) {e : Sl} : ∀ {ds : List D}, (∀ d ∈ ds, ∃ e1, t d e = some e1 ∧ ∃ e2, cond e1 = .ok true e2 ∧ ∃ e3, elt e2 = .ok (f d) e3 ∧ wipeE e3 own = e) → lcL t cond elt own ds e = .ok (ds.map f) e
  | [], _ => rfl
  | d :: ds, h => by
    obtain ⟨e1, h1, e2, h2, e3, h3, h4⟩ := h d List.mem_cons_self
    have ih := lcL_map f (ds := ds) fun d hd => h d (List.mem_cons_of_mem _ hd)
    unfold lcL
    rw [h1]
    dsimp only
    rw [h2, bind_ok, if_pos rfl, h3, bind_ok, h4, ih]
    rfl
/-- .. with a filter -/
theorem lcL_filter (p : D → Bool) (f : D → D) {e : Sl} : ∀ {ds : List D}, (∀ d ∈ ds, ∃ e1, t d e = some e1 ∧ ∃ e2, cond e1 = .ok (p d) e2 ∧ (p d = true → ∃ e3, elt e2 = .ok (f d) e3 ∧ wipeE e3 own = e) ∧ (p d = false → wipeE e2 own = e)) → lcL t cond elt own ds e = .ok ((ds.filter p).map f) e
  | [], _ => rfl
  | d :: ds, h => by
    obtain ⟨e1, h1, e2, h2, h3, h4⟩ := h d List.mem_cons_self
    have ih := lcL_filter p f (ds := ds) fun d hd => h d (List.mem_cons_of_mem _ hd)
    unfold lcL
    rw [h1]
    dsimp only
    rw [h2, bind_ok]
    cases q : p d with
    | true =>
      obtain ⟨e3, h5, h6⟩ := h3 q
      rw [if_pos rfl, h5, bind_ok, h6, ih]
      simp [q, R.bind]
    | false =>
      rw [if_neg Bool.false_ne_true, h4 q, ih]
      simp [q]
/-- .. whose turns change the slots -/
theorem lcL_inv (I : Sl → Prop) (P : D → D → Prop) : ∀ {ds : List D} {e : Sl}, (∀ d ∈ ds, ∀ e, I e → ∃ e1, t d e = some e1 ∧ ∃ e2, cond e1 = .ok true e2 ∧ ∃ y e3, elt e2 = .ok y e3 ∧ P d y ∧ I (wipeE e3 own)) → I e → ∃ ys e', lcL t cond elt own ds e = .ok ys e' ∧ ys.length = ds.length ∧ (∀ (i : Nat) d y, ds[i]? = some d → ys[i]? = some y → P d y) ∧ I e'
  | [], e, _, hi => ⟨[], e, rfl, rfl, fun i d y h => by simp at h, hi⟩
  | d :: ds, e, h, hi => by
    obtain ⟨e1, h1, e2, h2, y, e3, h3, hp, h4⟩ := h d List.mem_cons_self e hi
    obtain ⟨ys, e', h5, h6, h7, h8⟩ := lcL_inv I P (ds := ds) (fun d hd => h d (List.mem_cons_of_mem _ hd)) h4
    refine ⟨y :: ys, e', ?_, by rw [List.length_cons, List.length_cons, h6], fun i d' y' hd hy => ?_, h8⟩
    · unfold lcL
      rw [h1]
      dsimp only
      rw [h2, bind_ok, if_pos rfl, h3, bind_ok, h5]
      rfl
    · cases i with
      | zero => simp at hd hy; subst hd; subst hy; exact hp
      | succ i => exact h7 i d' y' (by simpa using hd) (by simpa using hy)
end
end FL
namespace FL
/-! ### what holds behind a denotation -/
open PySem
structure R.wp {α : Type} (r : R α) (Q : α → Sl → Prop) (X : Exn → Sl → Prop) : Prop where
  out : match r with
    | .ok d e => Q d e
    | .rs x e => X x e
    | .er => False
structure RS.wp (r : RS) (N : Sl → Prop) (T : D → Sl → Prop) (X : Exn → Sl → Prop) : Prop where
  out : match r with
    | .nx e => N e
    | .rt d e => T d e
    | .rs x e => X x e
    | _ => False
structure RF.wp (r : RF) (Q : D → Sl → Prop) (X : Exn → Sl → Prop) : Prop where
  out : match r with
    | .ok d e => Q d e
    | .rs x e => X x e
    | .er => False
section
variable {α β : Type} {a b c : M D} {e : Sl} {x y : D} {Q : D → Sl → Prop} {B : Bool → Sl → Prop} {L : List D → Sl → Prop} {N : Sl → Prop} {T : D → Sl → Prop} {X : Exn → Sl → Prop} {p q : MS} {s t : M Bool} {m : M (List D)}
theorem wOk {r : R α} {d : α} {Q : α → Sl → Prop} (h : r = .ok d e) (q : Q d e) : r.wp Q X := by rw [h]; exact ⟨q⟩
theorem wRs {r : R α} {d : Exn} {Q : α → Sl → Prop} (h : r = .rs d e) (q : X d e) : r.wp Q X := by rw [h]; exact ⟨q⟩
theorem wp_bind {r : R α} {k : α → Sl → R β} {Q : β → Sl → Prop} (h : r.wp (fun d e1 => (k d e1).wp Q X) X) : (r.bind k).wp Q X := by
  obtain ⟨h⟩ := h
  cases r with
  | ok d e => exact h
  | rs x e => exact ⟨h⟩
  | er => exact ⟨h⟩
theorem wp_then {r : R α} {k : α → Sl → RS} (h : r.wp (fun d e1 => (k d e1).wp N T X) X) : (r.then k).wp N T X := by
  obtain ⟨h⟩ := h
  cases r with
  | ok d e => exact h
  | rs x e => exact ⟨h⟩
  | er => exact ⟨h⟩
theorem wp_opt {o : Option α} {d : α} {Q : α → Sl → Prop} (h : o = some d) (q : Q d e) : (R.opt o e).wp Q X := by subst h; exact ⟨q⟩
theorem wp_mono {r : R α} {Q Q' : α → Sl → Prop} {X' : Exn → Sl → Prop} (h : r.wp Q X) (q : ∀ d e, Q d e → Q' d e) (x : ∀ d e, X d e → X' d e) : r.wp Q' X' := by
  obtain ⟨h⟩ := h
  cases r with
  | ok d e => exact ⟨q _ _ h⟩
  | rs d e => exact ⟨x _ _ h⟩
  | er => exact ⟨h⟩
theorem ws_mono {r : RS} {N' : Sl → Prop} {T' : D → Sl → Prop} {X' : Exn → Sl → Prop} (h : r.wp N T X) (n : ∀ e, N e → N' e) (q : ∀ d e, T d e → T' d e) (x : ∀ d e, X d e → X' d e) : r.wp N' T' X' := by
  obtain ⟨h⟩ := h
  cases r with
  | nx e => exact ⟨n _ h⟩
  | rt d e => exact ⟨q _ _ h⟩
  | rs d e => exact ⟨x _ _ h⟩
  | _ => exact ⟨h⟩
theorem wf_mono {r : RF} {Q' : D → Sl → Prop} {X' : Exn → Sl → Prop} (h : r.wp Q X) (q : ∀ d e, Q d e → Q' d e) (x : ∀ d e, X d e → X' d e) : r.wp Q' X' := by
  obtain ⟨h⟩ := h
  cases r with
  | ok d e => exact ⟨q _ _ h⟩
  | rs d e => exact ⟨x _ _ h⟩
  | er => exact ⟨h⟩
theorem wf_ok {r : RF} {os : Sl} (h : r = .ok x os) (q : Q x os) : r.wp Q X := by rw [h]; exact ⟨q⟩
theorem wf_rs {r : RF} {z : Exn} {os : Sl} (h : r = .rs z os) (q : X z os) : r.wp Q X := by rw [h]; exact ⟨q⟩
theorem wSeq (h : (p e).wp (fun e1 => (q e1).wp N T X) T X) : (sSeq p q e).wp N T X := by
  rw [sSeq_ap]
  obtain ⟨h⟩ := h
  revert h
  cases p e <;> first | exact id | exact fun h => ⟨h⟩
theorem wSNil (h : N e) : (sNil e).wp N T X := ⟨h⟩
theorem wSIf (h : (t e).wp (fun x e1 => (x = true → (p e1).wp N T X) ∧ (x = false → (q e1).wp N T X)) X) : (sIf t p q e).wp N T X := wp_then (wp_mono h (fun d e1 h => by cases d <;> simp at h ⊢ <;> exact h) fun _ _ h => h)
theorem wRet (h : (a e).wp T X) : (sRet a e).wp N T X := wp_then (wp_mono h (fun _ _ h => ⟨h⟩) fun _ _ h => h)
theorem wSet {i : Nat} (h : (a e).wp (fun d e1 => N (e1.set i (some d))) X) : (sSet i a e).wp N T X := wp_then (wp_mono h (fun _ _ h => ⟨h⟩) fun _ _ h => h)
theorem wExpr (h : (a e).wp (fun _ e1 => N e1) X) : (sExpr a e).wp N T X := wp_then (wp_mono h (fun _ _ h => ⟨h⟩) fun _ _ h => h)
theorem wRaise {n : Nat} (h : (a e).wp (fun d e1 => X ⟨n, [(Er.fn, d)]⟩ e1) X) : (sRaise n a e).wp N T X := wp_then (wp_mono h (fun _ _ h => ⟨h⟩) fun _ _ h => h)
theorem wPar {i j : Nat} (h : (a e).wp (fun x e1 => (b e1).wp (fun y e2 => N ((e2.set i (some x)).set j (some y))) X) X) : (sPar i j a b e).wp N T X := wp_then (wp_mono h (fun _ _ h => wp_then (wp_mono h (fun _ _ h => ⟨h⟩) fun _ _ h => h)) fun _ _ h => h)
theorem wAsg {t : Tgt} (h : (a e).wp (fun d e1 => ∃ e2, t d e1 = some e2 ∧ N e2) X) : (sAsg t a e).wp N T X := by
  rw [sAsg_ap]
  refine wp_then (wp_mono h (fun d e1 ⟨e2, h1, h2⟩ => ?_) fun _ _ h => h)
  rw [h1]; exact ⟨h2⟩
theorem wConst (h : Q x e) : (dConst x e).wp Q X := ⟨h⟩
theorem wVar {i : Nat} (h : e[i]? = some (some x)) (q : Q x e) : (dVar i e).wp Q X := wOk (dVar_ap h) q
theorem wMove {i : Nat} (h : e[i]? = some (some x)) (q : Q x (e.set i none)) : (dMove i e).wp Q X := wOk (dMove_ap h) q
theorem wNil (h : L [] e) : (dNil e).wp L X := ⟨h⟩
theorem wCons (h : (a e).wp (fun x e1 => (m e1).wp (fun xs e2 => L (x :: xs) e2) X) X) : (dCons a m e).wp L X := wp_bind (wp_mono h (fun _ _ h => wp_bind (wp_mono h (fun _ _ h => ⟨h⟩) fun _ _ h => h)) fun _ _ h => h)
theorem wTup (h : (m e).wp (fun xs e1 => xs.length ≤ line ∧ Q (.tup xs) e1) X) : (dTup m e).wp Q X := wp_bind (wp_mono h (fun _ _ h => by rw [if_pos h.1]; exact ⟨h.2⟩) fun _ _ h => h)
theorem wLst (h : (m e).wp (fun xs e1 => xs.length ≤ line ∧ Q (.lst xs) e1) X) : (dLst m e).wp Q X := wp_bind (wp_mono h (fun _ _ h => by rw [if_pos h.1]; exact ⟨h.2⟩) fun _ _ h => h)
theorem wCall {g : List D → Option D} (h : (m e).wp (fun xs e1 => ∃ d, g xs = some d ∧ Q d e1) X) : (dCall g m e).wp Q X := wp_bind (wp_mono h (fun _ _ ⟨_, h, q⟩ => wp_opt h q) fun _ _ h => h)
theorem wCall1 {g : List D → Option D} (h : (a e).wp (fun x e1 => ∃ d, g [x] = some d ∧ Q d e1) X) : (dCall1 g a e).wp Q X := wp_bind (wp_mono h (fun _ _ ⟨_, h, q⟩ => wp_opt h q) fun _ _ h => h)
theorem wOp1 {g : D → Option D} (h : (a e).wp (fun x e1 => ∃ d, g x = some d ∧ Q d e1) X) : (dOp1 g a e).wp Q X := wp_bind (wp_mono h (fun _ _ ⟨_, h, q⟩ => wp_opt h q) fun _ _ h => h)
theorem wOp2 {g : D → D → Option D} (h : (a e).wp (fun x e1 => (b e1).wp (fun y e2 => ∃ d, g x y = some d ∧ Q d e2) X) X) : (dOp2 g a b e).wp Q X := wp_bind (wp_mono h (fun _ _ h => wp_bind (wp_mono h (fun _ _ ⟨_, h, q⟩ => wp_opt h q) fun _ _ h => h)) fun _ _ h => h)
theorem wOp3 {g : D → D → D → Option D} (h : (a e).wp (fun x e1 => (b e1).wp (fun y e2 => (c e2).wp (fun z e3 => ∃ d, g x y z = some d ∧ Q d e3) X) X) X) : (dOp3 g a b c e).wp Q X := wp_bind (wp_mono h (fun _ _ h => wp_bind (wp_mono h (fun _ _ h => wp_bind (wp_mono h (fun _ _ ⟨_, h, q⟩ => wp_opt h q) fun _ _ h => h)) fun _ _ h => h)) fun _ _ h => h)
theorem wDCmp {g : D → D → Option Bool} (h : (a e).wp (fun x e1 => (b e1).wp (fun y e2 => ∃ d, g x y = some d ∧ Q (.bl d) e2) X) X) : (dCmp g a b e).wp Q X := wp_bind (wp_mono h (fun _ _ h => wp_bind (wp_mono h (fun _ _ ⟨_, h, q⟩ => wp_opt (by rw [h]; rfl) q) fun _ _ h => h)) fun _ _ h => h)
theorem wTCmp {g : D → D → Option Bool} (h : (a e).wp (fun x e1 => (b e1).wp (fun y e2 => ∃ d, g x y = some d ∧ B d e2) X) X) : (tCmp g a b e).wp B X := wp_bind (wp_mono h (fun _ _ h => wp_bind (wp_mono h (fun _ _ ⟨_, h, q⟩ => wp_opt h q) fun _ _ h => h)) fun _ _ h => h)
theorem wTBl (h : (a e).wp (fun x e1 => ∃ t, x = .bl t ∧ B t e1) X) : (tBl a e).wp B X := by
  rw [tBl_ap]
  exact wp_bind (wp_mono h (fun _ _ ⟨t, h, q⟩ => by subst h; exact ⟨q⟩) fun _ _ h => h)
theorem wTAnd (h : (s e).wp (fun x e1 => (x = true → (t e1).wp B X) ∧ (x = false → B false e1)) X) : (tAnd s t e).wp B X := by
  rw [tAnd_ap]
  refine wp_bind (wp_mono h (fun x e1 h => ?_) fun _ _ h => h)
  cases x with
  | true => exact h.1 rfl
  | false => exact ⟨h.2 rfl⟩
theorem wTOr (h : (s e).wp (fun x e1 => (x = true → B true e1) ∧ (x = false → (t e1).wp B X)) X) : (tOr s t e).wp B X := by
  rw [tOr_ap]
  refine wp_bind (wp_mono h (fun x e1 h => ?_) fun _ _ h => h)
  cases x with
  | true => exact ⟨h.1 rfl⟩
  | false => exact h.2 rfl
theorem wTNot (h : (s e).wp (fun x e1 => B (!x) e1) X) : (tNot s e).wp B X := wp_bind (wp_mono h (fun _ _ h => ⟨h⟩) fun _ _ h => h)
theorem wYes (h : B true e) : (tYes e).wp B X := ⟨h⟩
theorem wDAnd (h : (a e).wp (fun x e1 => ∃ t, x = .bl t ∧ (t = true → (b e1).wp Q X) ∧ (t = false → Q (.bl false) e1)) X) : (dAnd a b e).wp Q X := by
  rw [dAnd_ap]
  refine wp_bind (wp_mono h (fun x e1 ⟨t, h, h1, h2⟩ => ?_) fun _ _ h => h)
  subst h
  cases t with
  | true => exact h1 rfl
  | false => exact ⟨h2 rfl⟩
theorem wDOr (h : (a e).wp (fun x e1 => ∃ t, x = .bl t ∧ (t = true → Q (.bl true) e1) ∧ (t = false → (b e1).wp Q X)) X) : (dOr a b e).wp Q X := by
  rw [dOr_ap]
  refine wp_bind (wp_mono h (fun x e1 ⟨t, h, h1, h2⟩ => ?_) fun _ _ h => h)
  subst h
  cases t with
  | true => exact ⟨h1 rfl⟩
  | false => exact h2 rfl
theorem wDNot (h : (a e).wp (fun x e1 => ∃ t, x = .bl t ∧ Q (.bl (!t)) e1) X) : (dNot a e).wp Q X := by
  rw [dNot_ap]
  refine wp_bind (wp_mono h (fun x e1 ⟨t, h, h1⟩ => ?_) fun _ _ h => h)
  subst h
  exact ⟨h1⟩
theorem wDIf (h : (t e).wp (fun x e1 => (x = true → (a e1).wp Q X) ∧ (x = false → (b e1).wp Q X)) X) : (dIf t a b e).wp Q X := by
  rw [dIf_ap]
  refine wp_bind (wp_mono h (fun x e1 h => ?_) fun _ _ h => h)
  cases x with
  | true => exact h.1 rfl
  | false => exact h.2 rfl
/-- data of which isinstance is asked -/
def D.easy : D → Bool
  | .dct _ _ => false
  | .obj _ _ _ => false
  | _ => true
theorem wIs {K : Ty} (h : (a e).wp (fun x e1 => x.easy = true ∧ Q (.bl (isT K x)) e1) X) : (dIs K a e).wp Q X := by
  rw [dIs_ap]
  refine wp_bind (wp_mono h (fun x e1 h => ?_) fun _ _ h => h)
  cases x <;> first | exact ⟨h.2⟩ | exact absurd h.1 Bool.false_ne_true
theorem wIs2 {K K' : Ty} (h : (a e).wp (fun x e1 => x.easy = true ∧ Q (.bl (isT K x || isT K' x)) e1) X) : (dIs2 K K' a e).wp Q X := by
  rw [dIs2_ap]
  refine wp_bind (wp_mono h (fun x e1 h => ?_) fun _ _ h => h)
  cases x <;> first | exact ⟨h.2⟩ | exact absurd h.1 Bool.false_ne_true
theorem wCallF {f : Fn} {ks : List (Option Nat)} {js : List Nat} {dds : List D} (h : (m e).wp (fun ds e1 => ∃ ds', fillK ks ds e1 = some ds' ∧ (f (ds' ++ dds)).wp (fun d os => Q d (putS js os e1)) fun x os => X x (putS js os e1)) X) : (dCallF f ks js dds m e).wp Q X := by
  rw [dCallF_ap]
  refine wp_bind (wp_mono h (fun ds e1 ⟨ds', h1, h2⟩ => ?_) fun _ _ h => h)
  rw [h1, opt_some, bind_ok]
  revert h2
  cases f (ds' ++ dds) <;> exact fun h => ⟨h.out⟩
theorem wCall0 {f : Fn} {dds : List D} {os : Sl} (h : f dds = .ok x os) (q : Q x e) : (dCall0 f dds e).wp Q X := by
  unfold dCall0
  rw [h]
  exact ⟨q⟩
theorem wCallV {f : Fn} (h : (m e).wp (fun ds e1 => ∃ d os, f ds = .ok d os ∧ Q d e1) X) : (dCallV f m e).wp Q X := by
  rw [dCallV_ap]
  refine wp_bind (wp_mono h (fun ds e1 ⟨d, os, h1, h2⟩ => ?_) fun _ _ h => h)
  rw [h1]; exact ⟨h2⟩
theorem wDLen {n : Nat} (h : (m e).wp (fun ds e1 => ds.length = n ∧ L ds e1) X) : (dLen n m e).wp L X := by
  rw [dLen_ap]
  refine wp_bind (wp_mono h (fun ds e1 ⟨h1, h2⟩ => ?_) fun _ _ h => h)
  rw [if_pos h1]; exact ⟨h2⟩
theorem wRun {n np : Nat} {ow : List Nat} {p : MS} {ds : List D} (hl : ds.length = np) (h : (p (ds.map some ++ List.replicate (n - np) none)).wp (fun _ => False) (fun d e => Q d (getS ow e)) (fun x e => X x (getS ow e))) : (runF n np ow false p ds).wp Q X := by
  rw [runF_ap hl]
  revert h
  cases p (ds.map some ++ List.replicate (n - np) none) <;> exact fun h => ⟨h.out⟩
/-- what holds of a result that is told exactly -/
theorem wf_eq {r : RF} {os : Sl} (h : r.wp (fun d e => d = x ∧ e = os) fun _ _ => False) : r = .ok x os := by
  obtain ⟨h⟩ := h
  cases r with
  | ok d e => obtain ⟨rfl, rfl⟩ := h; rfl
  | rs d e => exact h.elim
  | er => exact h.elim
theorem wf_eqx {r : RF} {os : Sl} {z : Exn} (h : r.wp (fun _ _ => False) fun d e => d = z ∧ e = os) : r = .rs z os := by
  obtain ⟨h⟩ := h
  cases r with
  | rs d e => obtain ⟨rfl, rfl⟩ := h; rfl
  | ok d e => exact h.elim
  | er => exact h.elim
/-! what is drawn from -/
def seqOf : D → Option (List D)
  | .lst ds => some ds
  | .tup ds => some ds
  | _ => none
theorem wItSeq (h : (a e).wp (fun x e1 => ∃ ds, seqOf x = some ds ∧ L ds e1) X) : (itSeq a e).wp L X := by
  unfold itSeq
  refine wp_bind (wp_mono h (fun x e1 ⟨ds, h1, h2⟩ => ?_) fun _ _ h => h)
  cases x <;> first | (cases h1; exact ⟨h2⟩) | (simp [seqOf] at h1; done)
theorem wItEn (h : (a e).wp (fun x e1 => ∃ ds, seqOf x = some ds ∧ L ((enD 0 ds).map .tup) e1) X) : (itEn a e).wp L X := by
  unfold itEn
  refine wp_bind (wp_mono h (fun x e1 ⟨ds, h1, h2⟩ => ?_) fun _ _ h => h)
  cases x <;> first | (cases h1; exact ⟨h2⟩) | (simp [seqOf] at h1; done)
theorem wRng1 (h : (a e).wp (fun x e1 => ∃ n : Nat, x = .int n ∧ n < 4611686018427387904 ∧ L ((List.range n).map fun i : Nat => .int i) e1) X) : (itRng1 a e).wp L X := by
  unfold itRng1
  refine wp_bind (wp_mono h (fun x e1 ⟨n, h1, h2, h3⟩ => ?_) fun _ _ h => h)
  subst h1
  dsimp only
  rw [if_pos (by unfold smallR; simp; omega)]
  have : rangeD 0 (n : Int) = (List.range n).map fun i : Nat => .int i := by unfold rangeD; simp
  rw [this]; exact ⟨h3⟩
/-! loops -/
theorem wFor {t : Tgt} (h : (m e).wp (fun ds e1 => (forL t p ds e1).wp N T X) X) : (sFor m t p e).wp N T X := wp_then h
theorem wForNil {t : Tgt} (h : N e) : (forL t p [] e).wp N T X := ⟨h⟩
theorem wForCons {t : Tgt} {d : D} {ds : List D} {e1 : Sl} (h : t d e = some e1) (w : (p e1).wp (fun e2 => (forL t p ds e2).wp N T X) T X) : (forL t p (d :: ds) e).wp N T X := by
  unfold forL
  rw [h]
  dsimp only
  revert w
  cases p e1 <;> first | exact fun h => h.out | exact fun h => ⟨h.out⟩ | exact fun h => h.out.elim
/-- a loop that keeps I -/
theorem wForI {t : Tgt} (I : Nat → Sl → Prop) : ∀ {ds : List D} {n : Nat} {e : Sl}, (∀ (i : Nat) d e, ds[i]? = some d → I (n + i) e → ∃ e1, t d e = some e1 ∧ (p e1).wp (I (n + i + 1)) T X) → I n e → (∀ e, I (n + ds.length) e → N e) → (forL t p ds e).wp N T X
  | [], n, e, _, h, f => ⟨f e h⟩
  | d :: ds, n, e, s, h, f => by
    obtain ⟨e1, h1, w⟩ := s 0 d e rfl h
    refine wForCons h1 (ws_mono w (fun e2 h2 => ?_) (fun _ _ h => h) fun _ _ h => h)
    refine wForI I (n := n + 1) (fun i d e hd hi => ?_) h2 fun e he => f e (by rw [List.length_cons, show n + (ds.length + 1) = n + 1 + ds.length by omega]; exact he)
    have := s (i + 1) d e (by simpa using hd) (by rw [show n + (i + 1) = n + 1 + i by omega]; exact hi)
    rw [show n + (i + 1) = n + 1 + i by omega] at this
    exact this
/-- a comprehension -/
theorem wLc {t : Tgt} {own : List Nat} (h : (m e).wp (fun ds e1 => ds.length ≤ line ∧ ∃ ys e2, lcL t s a own ds (wipeE e1 own) = .ok ys e2 ∧ Q (.lst ys) (restore e1 e2 own)) X) : (dLc m t s a own e).wp Q X := by
  unfold dLc
  refine wp_bind (wp_mono h (fun ds e1 ⟨h1, ys, e2, h2, h3⟩ => ?_) fun _ _ h => h)
  rw [if_pos h1, h2]
  exact ⟨h3⟩
theorem wMutN {i : Nat} {z : D} {g : List D → List D → Option (D × List D)} (h0 : e[i]? = some (some z)) (h : (m e).wp (fun as e2 => ∃ ds d ds', e2[i]? = some (some (.lst ds)) ∧ g ds as = some (d, ds') ∧ Q d (e2.set i (some (.lst ds')))) X) : (dMutN i g m e).wp Q X := by
  unfold dMutN
  rw [h0]
  refine wp_bind (wp_mono h (fun as e2 ⟨ds, d, ds', h1, h2, h3⟩ => ?_) fun _ _ h => h)
  rw [h1]
  dsimp only
  rw [h2]
  exact ⟨h3⟩
theorem wTry {p : MS} {hs : List Hand} (h : (p e).wp N T fun x e1 => (sHand hs x e1).wp N T X) : (sTry p hs e).wp N T X := by
  unfold sTry
  obtain ⟨h⟩ := h
  revert h
  cases p e <;> first | exact id | exact fun h => ⟨h⟩
end
section
variable {a b c : M D} {e : Sl} {x y : D} {Q : D → Sl → Prop} {O : Option Int → Sl → Prop} {X : Exn → Sl → Prop} {lo hi : M (Option Int)}
theorem wDPart (h : (a e).wp (fun x e1 => ∃ i, x = .int i ∧ O (some i) e1) X) : (dPart a e).wp O X := by
  unfold dPart
  exact wp_bind (wp_mono h (fun x e1 ⟨i, h1, h2⟩ => by subst h1; exact ⟨h2⟩) fun _ _ h => h)
theorem wNoPart (h : O none e) : (dNoPart e).wp O X := ⟨h⟩
theorem wSl (h : (a e).wp (fun x e1 => (lo e1).wp (fun l e2 => (hi e2).wp (fun u e3 => ∃ d, gSl x l u = some d ∧ Q d e3) X) X) X) : (dSl a lo hi e).wp Q X := wp_bind (wp_mono h (fun _ _ h => wp_bind (wp_mono h (fun _ _ h => wp_bind (wp_mono h (fun _ _ ⟨_, h, q⟩ => wp_opt h q) fun _ _ h => h)) fun _ _ h => h)) fun _ _ h => h)
end
section
variable {t : Tgt} {s : M Bool} {a : M D} {own : List Nat} {e : Sl}
theorem wr_eq {α : Type} {r : R α} {x : α} (h : r.wp (fun d e1 => d = x ∧ e1 = e) fun _ _ => False) : r = .ok x e := by
  obtain ⟨h⟩ := h
  cases r with
  | ok d e1 => obtain ⟨rfl, rfl⟩ := h; rfl
  | rs d e1 => exact h.elim
  | er => exact h.elim
/-- a comprehension over what is numbered, with a filter -/
theorem lcF {h : Nat → D} (p : Nat → Bool) (f : Nat → D) : ∀ {is : List Nat}, (∀ i ∈ is, ∃ e1, t (h i) e = some e1 ∧ (s e1).wp (fun x e2 => x = p i ∧ (p i = true → (a e2).wp (fun y e3 => y = f i ∧ wipeE e3 own = e) fun _ _ => False) ∧ (p i = false → wipeE e2 own = e)) fun _ _ => False) → lcL t s a own (is.map h) e = .ok ((is.filter p).map f) e
  | [], _ => rfl
  | i :: is, H => by
    obtain ⟨e1, h1, w⟩ := H i List.mem_cons_self
    have ih := lcF (h := h) p f (is := is) fun j hj => H j (List.mem_cons_of_mem _ hj)
    rw [List.map_cons]
    unfold lcL
    rw [h1]
    dsimp only
    revert w
    cases s e1 with
    | er => exact fun h => h.out.elim
    | rs x e2 => exact fun h => h.out.elim
    | ok x e2 =>
      rintro ⟨rfl, w1, w2⟩
      rw [bind_ok]
      cases q : p i with
      | false =>
        rw [if_neg Bool.false_ne_true, w2 q, ih, List.filter_cons_of_neg (by rw [q]; exact Bool.false_ne_true)]
      | true =>
        rw [if_pos rfl, List.filter_cons_of_pos q]
        have w1 := w1 q
        revert w1
        cases a e2 with
        | er => exact fun h => h.out.elim
        | rs x e2 => exact fun h => h.out.elim
        | ok y e3 =>
          rintro ⟨rfl, w3⟩
          rw [bind_ok, w3, ih]
          rfl
/-- .. without -/
theorem lcM {h : Nat → D} (f : Nat → D) {is : List Nat} (H : ∀ i ∈ is, ∃ e1, t (h i) e = some e1 ∧ (a e1).wp (fun y e3 => y = f i ∧ wipeE e3 own = e) fun _ _ => False) : lcL t tYes a own (is.map h) e = .ok (is.map f) e := by
  have := lcF (s := tYes) (h := h) (fun _ => true) f (is := is) fun i hi => by
    obtain ⟨e1, h1, w⟩ := H i hi
    exact ⟨e1, h1, ⟨rfl, fun _ => w, fun h => by cases h⟩⟩
  rw [this, List.filter_eq_self.mpr (fun _ _ => rfl)]
theorem enD_range : ∀ {xs : List D} {k : Nat}, enD k xs = (List.range xs.length).map fun i => [.int ((k + i : Nat) : Int), (xs[i]?).getD .non]
  | [], _ => rfl
  | x :: xs, k => by
    rw [List.length_cons, List.range_succ_eq_map, List.map_cons, List.map_map]
    unfold enD
    rw [enD_range]
    refine congr (congrArg _ rfl) ?_
    refine List.map_congr_left fun i _ => ?_
    simp only [Function.comp_apply, List.getElem?_cons_succ]
    rw [show k + 1 + i = k + (i + 1) by omega]
theorem zip3D_range : ∀ {xs ys zs : List D}, xs.length = ys.length → xs.length = zs.length → zip3D xs ys zs = (List.range xs.length).map fun i => [(xs[i]?).getD .non, (ys[i]?).getD .non, (zs[i]?).getD .non]
  | [], _, _, _, _ => by unfold zip3D; rfl
  | _ :: _, [], _, h, _ => by simp at h
  | _ :: _, _ :: _, [], _, h => by simp at h
  | x :: xs, y :: ys, z :: zs, h1, h2 => by
    rw [List.length_cons, List.range_succ_eq_map, List.map_cons, List.map_map]
    unfold zip3D
    rw [zip3D_range (by simpa using h1) (by simpa using h2)]
    rfl
end
end FL
namespace FL
open PySem PySem.Spec L2
open PyProof.Rows hiding St
/-! ### extend by a new list; bit_length -/
section
variable {c : Ct} {X : Cx} {i : Nat} {pos : Pos}
theorem Tg.bindO {K : PySem.W.Frag} {γ δ : Type} {rel' : γ → δ → Hp → Hp → List Addr → Prop} {F H : Hp} {fps : Fps} {σ : St} {o : Sh} {r : R FL.D} {k : FL.D → Sl → R γ} {Q : δ → Hp → Prop} (h : Tg K c rel' (r.bind k) F H fps σ Q) :
    Tg K c (relV K c o) r F H fps σ (fun x H1 => ∃ d F1 fps1 fpr e1, Post K c F H fps e1 σ F1 H1 fps1 fpr ∧ Own K c.cl F1 H1 o x d fpr ∧ Tg K c rel' (k d e1) (frozen F1 H1 fpr) H1 fps1 σ Q) := by
  cases r with
  | ok d e' => exact fun v F' H' fps' fpr p q => ⟨d, F', fps', fpr, e', p, q, Tg.later p.freeze h⟩
  | rs x e' => exact h
  | er => exact h
def dExt (i : Nat) (m : M D) : M D := fun e => match e[i]? with
  | some (some _) => (m e).bind fun d e2 => (match e2[i]?, d with
    | some (some (.lst ds)), .lst ys => if ds.length + ys.length ≤ line then .ok .non (e2.set i (some (.lst (ds ++ ys)))) else .er
    | _, _ => .er)
  | _ => .er
theorem fe_ext {x : Str} {apos cpos xpos : Pos} {e : Expr} {m : M D} (hsh : c.sh i = l1) (ha : FE c X e l1 m) (hN : X.N[i]? = some x := by rfl) (hv : Vis X.env.scope x := by first | exact Or.inl rfl | exact Or.inr (Or.inl rfl) | exact Or.inr (Or.inr rfl)) (hd : (x == ("__debug__" : Str)) = false := by decide) (hcd : (x == ("__classdict__" : Str)) = false := by decide)
    (hbase : attributeBase (.Name x xpos) "extend" X.env (eval (.Name x xpos) X.env) = eval (.Name x xpos) X.env := by rfl) (hfew : ((backTo cpos (starEach [e] X.env)).all (fun x => !x.1) && ((backToKw cpos (keywordEach [] X.env)).all (fun x => x.1.isSome))
      && decide (List.length [e] + List.length ([] : List Keyword) + (if ([] : List Keyword).isEmpty then 0 else 1) < 30)) = true := by rfl)
    (hline : (apos.endLine == cpos.line) = true := by rfl) (h1 : starEach [e] X.env = (false, eval e X.env) :: starEach [] X.env := by rfl) (h2 : (backTo cpos (starEach [] X.env)).any (·.1) = false := by rfl) : FE c X (.Call (.Attribute (.Name x xpos) "extend" apos) [e] [] cpos) .fz (dExt i m) :=
  PE.weak (pe_bm PySem.F.plainAttrs_list PySem.F.slot_list_extend PySem.F.type_list_extend mt_extend (pe_var hN hv hd hcd) (pa_cons ha pa_nil h1) hbase hfew hline h1 h2) fun σ H Q => by
    rintro ⟨F, env, fps, gg, h⟩
    unfold dExt at h
    split at h
    · rename_i d0 hd0
      obtain ⟨v0, hv0, own0⟩ := gg.at_ i d0 hd0
      rw [hsh] at own0
      obtain ⟨a, vs0, ds0, rfl, rfl, ef, hH, rl0⟩ := own0.l1_inv
      refine ⟨_, hv0, .inl ⟨rfl, vs0, SqL.of hH⟩, ?_⟩
      refine ⟨F, env, fps, gg, (Tg.bindO h).mono fun x1 H1 ⟨dy, F1, fps1, fpr, e1, p1, o1, h1⟩ => ?_⟩
      show rExtend (.ref a) [x1] H1 Q
      obtain ⟨b, zs, ys, rfl, rfl, rfl, hB, rl2⟩ := o1.l1_inv
      split at h1
      · rename_i ds ys' hd hy
        cases hy
        split at h1
        · rename_i hlen
          have fr := p1.fr b List.mem_cons_self
          obtain ⟨v1, hv1, own1⟩ := p1.g.at_ i _ hd
          rw [hv0] at hv1; cases hv1
          rw [hsh] at own1
          obtain ⟨a', vs1, ds1, e1', e2', ef', hH1, rl1⟩ := own1.l1_inv
          cases e1'; cases e2'
          have pz := p1.freeze
          have fx : Ext F1 (frozen F1 H1 [b]) := frozen_ext fun b hb => (p1.fr b hb).1
          have rl' := (rl1.append rl2).mono fx
          have il : i < e1.length := (List.getElem?_eq_some_iff.mp hd).1
          have inn : a ∈ fps1 i := by rw [ef']; exact List.mem_singleton.mpr rfl
          have ne : ∀ {b : Addr} {u : HO}, H1 b = some u → ¬ In fps1 b → b ≠ a := fun _ n z => n ⟨i, z ▸ inn⟩
          have fa : frozen F1 H1 [b] a = none := pz.g.nf i a inn
          refine ⟨a, b, vs1, zs, rfl, rfl, hH1, hB, line_eq (by rw [rl1.len, rl2.len]; exact hlen), ?_⟩
          have pp : Post X.K c (frozen F1 H1 [b]) H1 fps1 (e1.set i (some (.lst (ds ++ ys)))) σ (frozen F1 H1 [b]) (upd H1 a (.lst (vs1 ++ zs))) fps1 [] := by
            refine ⟨⟨.refl _, fun b o e n => by rw [upd_ne (ne e n)]; exact e, fun b o e => .inl e, fun b h => h.elim .inl (fun z => by cases z)⟩, ⟨pz.g.ex.upd fa, by rw [List.length_set]; exact pz.g.len, fun j d' e' => ?_, fun j hj => ?_, pz.g.dj, pz.g.nf, pz.g.fx⟩, fun _ h => by cases h⟩
            · by_cases hj : j = i
              · subst hj
                rw [List.getElem?_set_self il] at e'
                cases e'
                refine ⟨_, hv0, ?_⟩
                rw [hsh, ef']
                exact Own.l1 upd_same rl'
              · rw [List.getElem?_set_ne (Ne.symm hj)] at e'
                obtain ⟨w, hw, ow⟩ := pz.g.at_ j d' e'
                exact ⟨w, hw, ow.mono (.refl _) fun b hb => upd_ne fun z => hj (pz.g.dj j i b hb (z ▸ inn))⟩
            · refine pz.g.out j fun d' e' => ?_
              by_cases hji : j = i
              · subst hji
                exact hj _ (List.getElem?_set_self il)
              · exact hj d' (by rw [List.getElem?_set_ne (Ne.symm hji)]; exact e')
          exact h1 .non _ _ fps1 [] pp (.fz .non)
        · exact h1.elim
      · exact h1.elim
    · exact h.elim
def gBits (a : D) : Option D := match a with
  | .int i => some (.int (Builtin.Int.intBits i : Nat))
  | _ => none
theorem fe_bits {o : Expr} {apos : Pos} {m : M D} (ho : FE c X o .fz m) (hbase : attributeBase o "bit_length" X.env (eval o X.env) = eval o X.env := by rfl) (hline : (apos.endLine == pos.line) = true := by rfl) : FE c X (.Call (.Attribute o "bit_length" apos) [] [] pos) .fz (dOp1 gBits m) :=
  PE.weak (pe_bits ho hbase hline) fun σ H Q => by
    rintro ⟨F, env, fps, gg, h⟩
    refine (T.one gg h).mono fun x H1 ⟨d1, F2, e2, fps2, p2, r1, h2⟩ => ?_
    cases e : gBits d1 with
    | none => rw [e] at h2; exact h2.elim
    | some d =>
      rw [e] at h2
      unfold gBits at e
      split at e
      · rename_i j
        cases e
        exact ⟨j, r1.int_inv, fin_new p2.g h2 _ _ _ _ (.refl p2.g.ex) own_int⟩
      · cases e
end
end FL
namespace FL
open PySem PySem.Spec L2
open PyProof.Rows hiding St
/-! ### a comprehension within a comprehension -/
def relS (S sc : Scope) : Scope :=
  { S with names := S.names.map fun (n, k) => if (k == .free && sc.kind == .function && sc.names.lookup n == some .cell) then (n, .cell) else (n, k) }
theorem blkOk_in {N : List Str} {S S2 : Scope} (sc : Scope) {env : Env} {own : List (Str × Nat)} (hs : env.scope = sc) (h : blkC N (relS S sc) S2 own = true) : BlkOk N (relabel S env) S2 own := by
  subst hs
  exact blkOk_by h
/-! ### numbers as tests -/
def truD (d : D) : Option Bool := match d with
  | .bl b => some b
  | .int i => some (i != 0)
  | .non => some false
  | _ => none
def tTr (m : M D) : M Bool := fun e => (m e).bind fun d e1 => match truD d with
  | some b => .ok b e1
  | none => .er
section
variable {c : Ct} {X : Cx}
theorem ft_tru {e : Expr} {m : M D} (h : FE c X e .fz m) (he : ∀ whole, isTrue e X.env whole = (do let v ← whole; standAt e.pos; holding [v] (truthy v)) := by intro _; rfl) : FT c X e (tTr m) :=
  PT.weak (pt_truth h he) fun σ H Q => by
    rintro ⟨F, env, fps, gg, h⟩
    refine (T.one gg h).mono fun x H1 ⟨d1, F1, fps1, e1, p1, r1, h1⟩ => ?_
    cases r1 with
    | bl b => exact ⟨b, rfl, h1 b F1 H1 fps1 [] (Post.refl p1.g) ⟨rfl, rfl⟩⟩
    | non => exact ⟨false, rfl, h1 false F1 H1 fps1 [] (Post.refl p1.g) ⟨rfl, rfl⟩⟩
    | int i => exact ⟨i != 0, rfl, h1 (i != 0) F1 H1 fps1 [] (Post.refl p1.g) ⟨rfl, rfl⟩⟩
    | str => exact h1.elim
    | tup => exact h1.elim
    | lst => exact h1.elim
theorem wTTr {m : M D} {e : Sl} {B : Bool → Sl → Prop} {X : Exn → Sl → Prop} (h : (m e).wp (fun x e1 => ∃ t, truD x = some t ∧ B t e1) X) : (tTr m e).wp B X := by
  unfold tTr
  exact wp_bind (wp_mono h (fun _ _ ⟨t, h, q⟩ => by rw [h]; exact ⟨q⟩) fun _ _ h => h)
theorem set_back {e : Sl} {i : Nat} {o : Option D} (h : e[i]? = some o) : (e.set i none).set i o = e := by
  rw [List.set_set]
  obtain ⟨hi, rfl⟩ := List.getElem?_eq_some_iff.mp h
  exact List.set_getElem_self hi
theorem ixN_nat {n k : Nat} (h : k < n) : ixN n (k : Int) = some k := by
  unfold ixN
  simp [h]
/-- xs[k] where xs is owned -/
theorem wPl1 {i k : Nat} {a : M D} {ds : List D} {e : Sl} {Q : D → Sl → Prop} {X : Exn → Sl → Prop} (hi : e[i]? = some (some (.lst ds))) (h : a (e.set i none) = .ok (.int k) (e.set i none)) (hk : k < ds.length) (q : Q ds[k] e) : (dPl i l1 (plIx i l1 (plName i) a) e).wp Q X := by
  have h1 : plName i e = .ok [] e := by unfold plName; rw [hi]
  have h2 : plIx i l1 (plName i) a e = .ok [k] e := by
    unfold plIx
    rw [h1, bind_ok]
    rw [hi]
    dsimp only
    rw [h, noX_ok, bind_ok]
    show R.opt ((ixN ds.length (k : Int)).map fun j => [] ++ [j]) ((e.set i none).set i (some (.lst ds))) = _
    rw [ixN_nat hk, set_back hi]
    rfl
  unfold dPl
  rw [h2, bind_ok]
  rw [hi]
  have h3 : subD (.lst ds) [k] = some ds[k] := by
    show (ds[k]?).bind (fun d => subD d []) = _
    rw [List.getElem?_eq_getElem hk]
    rfl
  have h4 : subSh l1 [k] = some .fz := rfl
  dsimp only
  rw [h3, h4]
  exact ⟨q⟩
theorem wStore1 {i : Nat} {mx mb : M D} {e : Sl} {N : Sl → Prop} {T : D → Sl → Prop} {X : Exn → Sl → Prop} (h : (mx e).wp (fun x e0 => ∃ (ds : List D) (k : Nat), e0[i]? = some (some (.lst ds)) ∧ mb (e0.set i none) = .ok (.int k) (e0.set i none) ∧ k < ds.length ∧ N (e0.set i (some (.lst (ds.set k x))))) X) : (sStore i l1 mx (plName i) mb e).wp N T X := by
  unfold sStore
  refine wp_then (wp_mono h (fun x e0 ⟨ds, k, hi, hm, hk, q⟩ => ?_) fun _ _ h => h)
  have h1 : plName i e0 = .ok [] e0 := by unfold plName; rw [hi]
  rw [h1, then_ok]
  rw [hi]
  dsimp only
  rw [hm, noX_ok, then_ok]
  have h5 : setK l1 (.lst ds) [] (.int k) x = some (.lst (ds.set k x)) := by
    show (ixN ds.length (k : Int)).bind _ = _
    rw [ixN_nat hk]
    rfl
  rw [h5]
  dsimp only
  rw [List.set_set]
  exact ⟨q⟩
end
/-! ### in, of nested tuples, too -/
def rInT (K : PySem.W.Frag) (n : Bool) : R2 := fun x y H Q => ∃ d ds, Dp K H x d ∧ Dp K H y (.tuple ds) ∧ SeqAt.shaped d = true ∧ SeqAt.shaped (.tuple ds) = true ∧ Q (.bl (n != ds.any fun z => PyData.eqv z d)) H
theorem op_inT {X : Cx} (hu : X.A.units + 65 < cLine) : OpR X (compareOp .In) (rInT X.K false) := by
  intro pins s σ H x y v u Q I rx ry h
  obtain ⟨d, ds, hd, he, sd, se, q⟩ := h
  obtain ⟨as, r1⟩ := Dp.reads I d x v hd rx
  obtain ⟨bs, r2⟩ := Dp.reads I (.tuple ds) y u he ry
  exact SeqAt.in_tuple_reads r2 r1 (SeqAt.canLay_of_shaped se) (SeqAt.canLay_of_shaped sd) (room_in_shaped sd hu) ⟨.bl _, H, I, rfl, by simpa using q⟩
theorem op_notInT {X : Cx} (hu : X.A.units + 65 < cLine) : OpR X (compareOp .NotIn) (rInT X.K true) := by
  intro pins s σ H x y v u Q I rx ry h
  obtain ⟨d, ds, hd, he, sd, se, q⟩ := h
  obtain ⟨as, r1⟩ := Dp.reads I d x v hd rx
  obtain ⟨bs, r2⟩ := Dp.reads I (.tuple ds) y u he ry
  exact SeqAt.notIn_tuple_reads r2 r1 (SeqAt.canLay_of_shaped se) (SeqAt.canLay_of_shaped sd) (room_in_shaped sd hu) ⟨.bl _, H, I, rfl, by simpa using q⟩
def pInT (x y : D) : Option Bool := match y with
  | .tup ys => if x.fit 60 && (D.tup ys).fit 60 then some (inD x ys) else none
  | _ => none
def pIn2 (x y : D) : Option Bool := match pIn x y with
  | some b => some b
  | none => pInT x y
def pNotIn2 (x y : D) : Option Bool := match pNotIn x y with
  | some b => some b
  | none => (pInT x y).map fun b => !b
theorem fit_itemsT {ys : List D} (h : (D.tup ys).fit 60 = true) : ∀ y ∈ ys, y.fit 60 = true := fun y hy => by
  unfold D.fit at h
  exact fit_mono 59 y (fits_all.mp h y hy)
theorem inT_ok {K : PySem.W.Frag} {cl : Nat → Addr} {n : Bool} {H : Hp} {x y : V} {d1 d2 : D} {t : Bool} (r1 : Rep K cl H x d1) (r2 : Rep K cl H y d2) (e : pInT d1 d2 = some t) (Q : VK) (q : Q (.bl (n != t)) H) : rInT K n x y H Q := by
  unfold pInT at e
  split at e
  · rename_i ys
    obtain ⟨a, vs, rfl, hs, rl⟩ := r2.tup_inv
    split at e
    · rename_i h
      rw [Bool.and_eq_true] at h
      cases e
      refine ⟨_, _, r1.dp, (Rep.tupL hs rl).dp, shaped_fit h.1, shaped_fit h.2, ?_⟩
      show Q (.bl (n != (toPs ys).any fun z => PyData.eqv z d1.toP)) H
      rw [any_toP h.1 (fit_itemsT h.2)]; exact q
    · cases e
  · cases e
theorem in2_ok {K : PySem.W.Frag} {cl : Nat → Addr} : CmpOk K cl (fun x y H Q => rInA K x y H Q ∨ rInT K false x y H Q) pIn2 := fun H x y d1 d2 b r1 r2 e Q q => by
  unfold pIn2 at e
  split at e
  · rename_i b' e'
    cases e
    exact .inl (in_ok H x y d1 d2 _ r1 r2 e' Q q)
  · exact .inr (inT_ok r1 r2 e Q (by simpa using q))
theorem notIn2_ok {K : PySem.W.Frag} {cl : Nat → Addr} : CmpOk K cl (fun x y H Q => rNotInA K x y H Q ∨ rInT K true x y H Q) pNotIn2 := fun H x y d1 d2 b r1 r2 e Q q => by
  unfold pNotIn2 at e
  split at e
  · rename_i b' e'
    cases e
    exact .inl (notIn_ok H x y d1 d2 _ r1 r2 e' Q q)
  · cases h : pInT d1 d2 with
    | none => rw [h] at e; cases e
    | some t =>
      rw [h] at e
      cases e
      exact .inr (inT_ok r1 r2 h Q (by simpa using q))
theorem op_in2 {X : Cx} (hu : X.A.units + 65 < cLine) : OpR X (compareOp .In) (fun x y H Q => rInA X.K x y H Q ∨ rInT X.K false x y H Q) := (op_inA hu).or (op_inT hu)
theorem op_notIn2 {X : Cx} (hu : X.A.units + 65 < cLine) : OpR X (compareOp .NotIn) (fun x y H Q => rNotInA X.K x y H Q ∨ rInT X.K true x y H Q) := (op_notInA hu).or (op_notInT hu)
end FL
-- printed by gen.py
namespace Hk
open PySem PySem.Spec L2 FL
open PyProof.Rows hiding St
abbrev P_ : Program := PySem.Challenge.pw_hedgetown_k08_whole_couples_that_follow
def topS (i : Nat) : Stmt := P_.main.body.getD i (.Pass ⟨0, 0, 0, 0⟩)
theorem bt_abs : bootBuiltins "abs" = some (.builtin "abs") := by decide +kernel
theorem bt_any : bootBuiltins "any" = some (.builtin "any") := by decide +kernel
theorem bt_bool : bootBuiltins "bool" = some (.type "bool") := by decide +kernel
theorem bt_int : bootBuiltins "int" = some (.type "int") := by decide +kernel
theorem bt_isinstance : bootBuiltins "isinstance" = some (.builtin "isinstance") := by decide +kernel
theorem bt_len : bootBuiltins "len" = some (.builtin "len") := by decide +kernel
theorem bt_list : bootBuiltins "list" = some (.type "list") := by decide +kernel
theorem bt_str : bootBuiltins "str" = some (.type "str") := by decide +kernel
theorem bt_sum : bootBuiltins "sum" = some (.builtin "sum") := by decide +kernel
theorem bt_tuple : bootBuiltins "tuple" = some (.type "tuple") := by decide +kernel
def xs_0 (n : Nat) : Bool := n == 0
def xs_1 (n : Nat) : Bool := n == 1
def xs_2 (n : Nat) : Bool := n == 2
def xs_3 (n : Nat) : Bool := decide (3 ≤ n)
/-- is_integer -/
abbrev s_is_integer : Stmt := topS 7
theorem sc_is_integer : FnScope ["value"] ["value"] (defScope s_is_integer) := ⟨rfl, rfl, rfl, by decide +kernel, rfl, by decide +kernel, by decide +kernel⟩
def b_is_integer : MS :=
  (sSeq (sRet (dAnd (dIs .int (dVar 0)) (dNot (dIs .bool (dVar 0)))))
    sNil)
def d_is_integer : Fn := runF 1 1 [] false b_is_integer
/-- is_below -/
abbrev s_is_below : Stmt := topS 8
theorem sc_is_below : FnScope ["value", "limit"] ["value", "limit"] (defScope s_is_below) := ⟨rfl, rfl, rfl, by decide +kernel, rfl, by decide +kernel, by decide +kernel⟩
def b_is_below : MS :=
  (sSeq (sRet (dAnd (dCallF d_is_integer [none] [] [] (dCons (dVar 0) dNil)) (dChain pLe pLt (dConst (.int 0)) (dVar 0) (dVar 1))))
    sNil)
def d_is_below : Fn := runF 2 2 [] false b_is_below
/-- is_between -/
abbrev s_is_between : Stmt := topS 9
theorem sc_is_between : FnScope ["value", "least", "most"] ["value", "least", "most"] (defScope s_is_between) := ⟨rfl, rfl, rfl, by decide +kernel, rfl, by decide +kernel, by decide +kernel⟩
def b_is_between : MS :=
  (sSeq (sRet (dAnd (dCallF d_is_integer [none] [] [] (dCons (dVar 0) dNil)) (dChain pLe pLe (dVar 1) (dVar 0) (dVar 2))))
    sNil)
def d_is_between : Fn := runF 3 3 [] false b_is_between
/-- is_sequence -/
abbrev s_is_sequence : Stmt := topS 10
theorem sc_is_sequence : FnScope ["value"] ["value"] (defScope s_is_sequence) := ⟨rfl, rfl, rfl, by decide +kernel, rfl, by decide +kernel, by decide +kernel⟩
def b_is_sequence : MS :=
  (sSeq (sRet (dIs2 .list .tuple (dVar 0)))
    sNil)
def d_is_sequence : Fn := runF 1 1 [] false b_is_sequence
/-- is_row_of -/
abbrev s_is_row_of : Stmt := topS 11
theorem sc_is_row_of : FnScope ["value", "many"] ["value", "many"] (defScope s_is_row_of) := ⟨rfl, rfl, rfl, by decide +kernel, rfl, by decide +kernel, by decide +kernel⟩
def b_is_row_of : MS :=
  (sSeq (sRet (dAnd (dCallF d_is_sequence [none] [] [] (dCons (dVar 0) dNil)) (dCmp pEq (dCall gLen (dCons (dVar 0) dNil)) (dVar 1))))
    sNil)
def d_is_row_of : Fn := runF 2 2 [] false b_is_row_of
/-- side_number -/
abbrev s_side_number : Stmt := topS 15
theorem sc_side_number : FnScope ["side"] ["side"] (defScope s_side_number) := ⟨rfl, rfl, rfl, by decide +kernel, rfl, by decide +kernel, by decide +kernel⟩
def b_side_number : MS :=
  (sSeq (sRet (dOp2 gAdd (dOp2 gMul (dConst (.int 2)) (dOp2 gIx (dVar 0) (dConst (.int 0)))) (dOp2 gIx (dVar 0) (dConst (.int 1)))))
    sNil)
def d_side_number : Fn := runF 1 1 [] false b_side_number
/-- side_of -/
abbrev s_side_of : Stmt := topS 16
theorem sc_side_of : FnScope ["number"] ["number"] (defScope s_side_of) := ⟨rfl, rfl, rfl, by decide +kernel, rfl, by decide +kernel, by decide +kernel⟩
def b_side_of : MS :=
  (sSeq (sRet (dTup (dCons (dOp2 gDiv (dVar 0) (dConst (.int 2))) (dCons (dOp2 gMod (dVar 0) (dConst (.int 2))) dNil))))
    sNil)
def d_side_of : Fn := runF 1 1 [] false b_side_of
/-- is_side -/
abbrev s_is_side : Stmt := topS 17
theorem sc_is_side : FnScope ["value", "hedges"] ["value", "hedges"] (defScope s_is_side) := ⟨rfl, rfl, rfl, by decide +kernel, rfl, by decide +kernel, by decide +kernel⟩
def b_is_side : MS :=
  (sSeq (sRet (dAnd (dCallF d_is_row_of [none, none] [] [] (dCons (dVar 0) (dCons (dConst (.int 2)) dNil))) (dAnd (dCallF d_is_below [none, none] [] [] (dCons (dOp2 gIx (dVar 0) (dConst (.int 0))) (dCons (dVar 1) dNil))) (dCallF d_is_below [none, none] [] [] (dCons (dOp2 gIx (dVar 0) (dConst (.int 1))) (dCons (dConst (.int 2)) dNil))))))
    sNil)
def d_is_side : Fn := runF 2 2 [] false b_is_side
/-- need_side -/
abbrev s_need_side : Stmt := topS 18
theorem sc_need_side : FnScope ["value", "at", "hedges"] ["value", "at", "hedges"] (defScope s_need_side) := ⟨rfl, rfl, rfl, by decide +kernel, rfl, by decide +kernel, by decide +kernel⟩
def b_need_side : MS :=
  (sSeq (sIf (tNot (tBl (dCallF d_is_side [none, none] [] [] (dCons (dVar 0) (dCons (dVar 2) dNil))))) (sSeq (sRaise 1 (dVar 1))
    sNil) sNil)
    (sSeq (sRet (dCall gTuple (dCons (dVar 0) dNil)))
    sNil))
def d_need_side : Fn := runF 3 3 [] false b_need_side
/-- is_couple -/
abbrev s_is_couple : Stmt := topS 19
theorem sc_is_couple : FnScope ["value", "hedges"] ["value", "hedges"] (defScope s_is_couple) := ⟨rfl, rfl, rfl, by decide +kernel, rfl, by decide +kernel, by decide +kernel⟩
def b_is_couple : MS :=
  (sSeq (sIf (tOr (tNot (tBl (dCallF d_is_row_of [none, none] [] [] (dCons (dVar 0) (dCons (dConst (.int 2)) dNil))))) (tOr (tNot (tBl (dCallF d_is_side [none, none] [] [] (dCons (dOp2 gIx (dVar 0) (dConst (.int 0))) (dCons (dVar 1) dNil))))) (tNot (tBl (dCallF d_is_side [none, none] [] [] (dCons (dOp2 gIx (dVar 0) (dConst (.int 1))) (dCons (dVar 1) dNil))))))) (sSeq (sRet (dConst (.bl false)))
    sNil) sNil)
    (sSeq (sRet (dOr (dCmp pNe (dOp2 gIx (dOp2 gIx (dVar 0) (dConst (.int 0))) (dConst (.int 0))) (dOp2 gIx (dOp2 gIx (dVar 0) (dConst (.int 1))) (dConst (.int 0)))) (dCmp pEq (dOp2 gIx (dOp2 gIx (dVar 0) (dConst (.int 0))) (dConst (.int 1))) (dOp2 gIx (dOp2 gIx (dVar 0) (dConst (.int 1))) (dConst (.int 1))))))
    sNil))
def d_is_couple : Fn := runF 2 2 [] false b_is_couple
/-- need_couples -/
abbrev s_need_couples : Stmt := topS 20
theorem sc_need_couples : FnScope ["hedges", "value", "found", "at", "couple"] ["hedges", "value"] (defScope s_need_couples) := ⟨rfl, rfl, rfl, by decide +kernel, rfl, by decide +kernel, by decide +kernel⟩
def b_need_couples : MS :=
  (sSeq (sIf (tNot (tBl (dCallF d_is_between [none, none, none] [] [] (dCons (dVar 0) (dCons (dConst (.int 0)) (dCons (dConst (.int 24)) dNil)))))) (sSeq (sRaise 0 (dOp1 gNeg (dConst (.int 1))))
    sNil) sNil)
    (sSeq (sIf (tOr (tNot (tBl (dCallF d_is_sequence [none] [] [] (dCons (dVar 1) dNil)))) (tCmp pGt (dCall gLen (dCons (dVar 1) dNil)) (dConst (.int 1200)))) (sSeq (sRaise 2 (dOp1 gNeg (dConst (.int 1))))
    sNil) sNil)
    (sSeq (sSet 2 (dLst dNil))
    (sSeq (sFor (itEn (dVar 1)) (gtTup 2 (gtCons (gtName 3) (gtCons (gtName 4) gtNil))) (sSeq (sIf (tNot (tBl (dCallF d_is_couple [none, none] [] [] (dCons (dVar 4) (dCons (dVar 0) dNil))))) (sSeq (sRaise 2 (dVar 3))
    sNil) sNil)
    (sSeq (sExpr (dMutN 2 gAppend (dCons (dTup (dCons (dCallF d_side_number [none] [] [] (dCons (dOp2 gIx (dVar 4) (dConst (.int 0))) dNil)) (dCons (dCallF d_side_number [none] [] [] (dCons (dOp2 gIx (dVar 4) (dConst (.int 1))) dNil)) dNil))) dNil)))
    sNil)))
    (sSeq (sRet (dMove 2))
    sNil)))))
def d_need_couples : Fn := runF 5 2 [] false b_need_couples
/-- brought -/
abbrev s_brought : Stmt := topS 21
theorem sc_brought : FnScope ["hedges", "pairs", "found", "one", "other"] ["hedges", "pairs"] (defScope s_brought) := ⟨rfl, rfl, rfl, by decide +kernel, rfl, by decide +kernel, by decide +kernel⟩
def b_brought : MS :=
  (sSeq (sSet 2 (dOp2 gRep (dLst (dCons (dConst (.int 0)) dNil)) (dOp2 gMul (dConst (.int 2)) (dVar 0))))
    (sSeq (sFor (itSeq (dVar 1)) (gtTup 2 (gtCons (gtName 3) (gtCons (gtName 4) gtNil))) (sSeq (sStore 2 l1 (dOp2 gOr (dPl 2 l1 (plIx 2 l1 (plName 2) (dVar 3))) (dOp2 gShl (dConst (.int 1)) (dOp2 gXor (dVar 4) (dConst (.int 1))))) (plName 2) (dVar 3))
    (sSeq (sStore 2 l1 (dOp2 gOr (dPl 2 l1 (plIx 2 l1 (plName 2) (dVar 4))) (dOp2 gShl (dConst (.int 1)) (dOp2 gXor (dVar 3) (dConst (.int 1))))) (plName 2) (dVar 4))
    sNil)))
    (sSeq (sRet (dMove 2))
    sNil)))
def d_brought : Fn := runF 5 2 [] false b_brought
/-- led_table -/
abbrev s_led_table : Stmt := topS 22
theorem sc_led_table : FnScope ["hedges", "pairs", "found", "inner", "number", "mask"] ["hedges", "pairs"] (defScope s_led_table) := ⟨rfl, rfl, rfl, by decide +kernel, rfl, by decide +kernel, by decide +kernel⟩
def b_led_table : MS :=
  (sSeq (sSet 2 (dLc (itEn (dCallF d_brought [none, none] [] [] (dCons (dVar 0) (dCons (dVar 1) dNil)))) (gtTup 2 (gtCons (gtName 4) (gtCons (gtName 5) gtNil))) tYes (dOp2 gOr (dVar 5) (dOp2 gShl (dConst (.int 1)) (dVar 4))) [4, 5]))
    (sSeq (sFor (itRng1 (dOp2 gMul (dConst (.int 2)) (dVar 0))) (gtName 3) (sSeq (sFor (itRng1 (dOp2 gMul (dConst (.int 2)) (dVar 0))) (gtName 4) (sSeq (sIf (tTr (dOp2 gAnd (dOp2 gShr (dPl 2 l1 (plIx 2 l1 (plName 2) (dVar 4))) (dVar 3)) (dConst (.int 1)))) (sSeq (sStore 2 l1 (dOp2 gOr (dPl 2 l1 (plIx 2 l1 (plName 2) (dVar 4))) (dPl 2 l1 (plIx 2 l1 (plName 2) (dVar 3)))) (plName 2) (dVar 4))
    sNil) sNil)
    sNil))
    sNil))
    (sSeq (sRet (dMove 2))
    sNil)))
def d_led_table : Fn := runF 6 2 [] false b_led_table
/-- numbers_of -/
abbrev s_numbers_of : Stmt := topS 23
theorem sc_numbers_of : FnScope ["mask", "number"] ["mask"] (defScope s_numbers_of) := ⟨rfl, rfl, rfl, by decide +kernel, rfl, by decide +kernel, by decide +kernel⟩
def b_numbers_of : MS :=
  (sSeq (sRet (dLc (itRng1 (dOp1 gBits (dVar 0))) (gtName 1) (tTr (dOp2 gAnd (dOp2 gShr (dVar 0) (dVar 1)) (dConst (.int 1)))) (dVar 1) [1]))
    sNil)
def d_numbers_of : Fn := runF 2 1 [] false b_numbers_of
/-- exchanged -/
abbrev s_exchanged : Stmt := topS 24
theorem sc_exchanged : FnScope ["mask", "number"] ["mask"] (defScope s_exchanged) := ⟨rfl, rfl, rfl, by decide +kernel, rfl, by decide +kernel, by decide +kernel⟩
def b_exchanged : MS :=
  (sSeq (sRet (dCall gSum (dCons (dLc (itSeq (dCallF d_numbers_of [none] [] [] (dCons (dVar 0) dNil))) (gtName 1) tYes (dOp2 gShl (dConst (.int 1)) (dOp2 gXor (dVar 1) (dConst (.int 1)))) [1]) dNil)))
    sNil)
def d_exchanged : Fn := runF 2 1 [] false b_exchanged
/-- closed_table -/
abbrev s_closed_table : Stmt := topS 25
theorem sc_closed_table : FnScope ["hedges", "pairs", "led", "every", "empty", "found", "number", "other", "mask"] ["hedges", "pairs"] (defScope s_closed_table) := ⟨rfl, rfl, rfl, by decide +kernel, rfl, by decide +kernel, by decide +kernel⟩
def b_closed_table : MS :=
  (sSeq (sSet 2 (dCallF d_led_table [none, none] [] [] (dCons (dVar 0) (dCons (dVar 1) dNil))))
    (sSeq (sSet 3 (dOp2 gSub (dOp2 gShl (dConst (.int 1)) (dOp2 gMul (dConst (.int 2)) (dVar 0))) (dConst (.int 1))))
    (sSeq (sSet 4 (dLc (itRng1 (dOp2 gMul (dConst (.int 2)) (dVar 0))) (gtName 6) (tTr (dOp2 gAnd (dOp2 gShr (dOp2 gIx (dVar 2) (dVar 6)) (dOp2 gXor (dVar 6) (dConst (.int 1)))) (dConst (.int 1)))) (dVar 6) [6]))
    (sSeq (sIf (tBl (dCall gAny (dCons (dLc (itSeq (dVar 4)) (gtName 6) tYes (dCmp pIn2 (dOp2 gXor (dVar 6) (dConst (.int 1))) (dVar 4)) [6]) dNil))) (sSeq (sRet (dLc (itRng1 (dOp2 gMul (dConst (.int 2)) (dVar 0))) (gtName 6) tYes (dOp2 gAnd (dVar 3) (dOp1 gInv (dOp2 gShl (dConst (.int 1)) (dOp2 gXor (dVar 6) (dConst (.int 1)))))) [6]))
    sNil) sNil)
    (sSeq (sSet 5 (dLc (itEn (dVar 2)) (gtTup 2 (gtCons (gtName 6) (gtCons (gtName 8) gtNil))) tYes (dOp2 gAnd (dCallF d_exchanged [none] [] [] (dCons (dVar 8) dNil)) (dOp1 gInv (dOp2 gShl (dConst (.int 1)) (dOp2 gXor (dVar 6) (dConst (.int 1)))))) [6, 8]))
    (sSeq (sFor (itSeq (dVar 4)) (gtName 6) (sSeq (sStore 5 l1 (dOp2 gAnd (dVar 3) (dOp1 gInv (dOp2 gShl (dConst (.int 1)) (dOp2 gXor (dVar 6) (dConst (.int 1)))))) (plName 5) (dVar 6))
    (sSeq (sFor (itRng1 (dOp2 gMul (dConst (.int 2)) (dVar 0))) (gtName 7) (sSeq (sIf (tCmp pNe (dVar 7) (dOp2 gXor (dVar 6) (dConst (.int 1)))) (sSeq (sStore 5 l1 (dOp2 gOr (dPl 5 l1 (plIx 5 l1 (plName 5) (dVar 7))) (dOp2 gShl (dConst (.int 1)) (dVar 6))) (plName 5) (dVar 7))
    sNil) sNil)
    sNil))
    sNil)))
    (sSeq (sRet (dMove 5))
    sNil)))))))
def d_closed_table : Fn := runF 9 2 [] false b_closed_table
/-- couples_told -/
abbrev s_couples_told : Stmt := topS 26
theorem sc_couples_told : FnScope ["table", "found", "number", "mask", "other"] ["table"] (defScope s_couples_told) := ⟨rfl, rfl, rfl, by decide +kernel, rfl, by decide +kernel, by decide +kernel⟩
def b_couples_told : MS :=
  (sSeq (sSet 1 (dLst dNil))
    (sSeq (sFor (itEn (dVar 0)) (gtTup 2 (gtCons (gtName 2) (gtCons (gtName 3) gtNil))) (sSeq (sExpr (dExt 1 (dLc (itSeq (dCallF d_numbers_of [none] [] [] (dCons (dVar 3) dNil))) (gtName 4) (tCmp pGe (dVar 4) (dVar 2)) (dTup (dCons (dCallF d_side_of [none] [] [] (dCons (dVar 2) dNil)) (dCons (dCallF d_side_of [none] [] [] (dCons (dVar 4) dNil)) dNil))) [4])))
    sNil))
    (sSeq (sRet (dCall gTuple (dCons (dMove 1) dNil)))
    sNil)))
def d_couples_told : Fn := runF 5 1 [] false b_couples_told
/-- closed_couples -/
abbrev s_closed_couples : Stmt := topS 27
theorem sc_closed_couples : FnScope ["hedges", "couples"] ["hedges", "couples"] (defScope s_closed_couples) := ⟨rfl, rfl, rfl, by decide +kernel, rfl, by decide +kernel, by decide +kernel⟩
def b_closed_couples : MS :=
  (sSeq (sRet (dCallF d_couples_told [none] [] [] (dCons (dCallF d_closed_table [none, none] [] [] (dCons (dVar 0) (dCons (dCallF d_need_couples [none, none] [] [] (dCons (dVar 0) (dCons (dVar 1) dNil))) dNil))) dNil)))
    sNil)
def d_closed_couples : Fn := runF 2 2 [] false b_closed_couples
/-- need_question -/
abbrev s_need_question : Stmt := topS 28
theorem sc_need_question : FnScope ["hedges", "couples", "one", "other", "pairs", "first", "second"] ["hedges", "couples", "one", "other"] (defScope s_need_question) := ⟨rfl, rfl, rfl, by decide +kernel, rfl, by decide +kernel, by decide +kernel⟩
def b_need_question : MS :=
  (sSeq (sSet 4 (dCallF d_need_couples [none, none] [] [] (dCons (dVar 0) (dCons (dVar 1) dNil))))
    (sSeq (sPar 5 6 (dCallF d_need_side [none, none, none] [] [] (dCons (dVar 2) (dCons (dConst (.int 0)) (dCons (dVar 0) dNil)))) (dCallF d_need_side [none, none, none] [] [] (dCons (dVar 3) (dCons (dConst (.int 1)) (dCons (dVar 0) dNil)))))
    (sSeq (sIf (tAnd (tCmp pEq (dOp2 gIx (dVar 5) (dConst (.int 0))) (dOp2 gIx (dVar 6) (dConst (.int 0)))) (tCmp pNe (dOp2 gIx (dVar 5) (dConst (.int 1))) (dOp2 gIx (dVar 6) (dConst (.int 1))))) (sSeq (sRaise 3 (dConst (.str "sides")))
    sNil) sNil)
    (sSeq (sRet (dTup (dCons (dVar 4) (dCons (dCallF d_side_number [none] [] [] (dCons (dVar 5) dNil)) (dCons (dCallF d_side_number [none] [] [] (dCons (dVar 6) dNil)) dNil)))))
    sNil))))
def d_need_question : Fn := runF 7 4 [] false b_need_question
/-- follows -/
abbrev s_follows : Stmt := topS 29
theorem sc_follows : FnScope ["hedges", "couples", "one", "other", "pairs", "first", "second"] ["hedges", "couples", "one", "other"] (defScope s_follows) := ⟨rfl, rfl, rfl, by decide +kernel, rfl, by decide +kernel, by decide +kernel⟩
def b_follows : MS :=
  (sSeq (sAsg (gtTup 3 (gtCons (gtName 4) (gtCons (gtName 5) (gtCons (gtName 6) gtNil)))) (dCallF d_need_question [none, none, none, none] [] [] (dCons (dVar 0) (dCons (dVar 1) (dCons (dVar 2) (dCons (dVar 3) dNil))))))
    (sSeq (sRet (dCmp pEq (dOp2 gAnd (dOp2 gShr (dOp2 gIx (dCallF d_closed_table [none, none] [] [] (dCons (dVar 0) (dCons (dVar 4) dNil))) (dVar 5)) (dVar 6)) (dConst (.int 1))) (dConst (.int 1))))
    sNil))
def d_follows : Fn := runF 7 4 [] false b_follows
/-- _law_box -/
abbrev s__law_box : Stmt := topS 31
theorem sc__law_box : FnScope ["script", "cells", "blend", "cell"] ["script"] (defScope s__law_box) := ⟨rfl, rfl, rfl, by decide +kernel, rfl, by decide +kernel, by decide +kernel⟩
def b__law_box : MS :=
  (sSeq (sSet 1 (dLc (itSeq (dSl (dVar 0) dNoPart (dPart (dConst (.int 60))))) (gtName 3) tYes (dCall gAbs (dCons (dCall gInt (dCons (dVar 3) dNil)) dNil)) [3]))
    (sSeq (sSet 2 (dConst (.int 90121)))
    (sSeq (sFor (itSeq (dVar 1)) (gtName 3) (sSeq (sSet 2 (dOp2 gMod (dCall gInt (dCons (dOp2 gAdd (dOp2 gAdd (dOp2 gMul (dVar 2) (dConst (.int 16807))) (dOp2 gMod (dCall gInt (dCons (dVar 3) dNil)) (dConst (.int 2147483563)))) (dConst (.int 59))) dNil)) (dConst (.int 2147483647))))
    sNil))
    (sSeq (sRet (dLstO (dLc (itSeq (dVar 1)) (gtName 3) (tCmp pGe (dVar 3) (dOp2 gPow (dConst (.int 10)) (dConst (.int 18)))) (dVar 3) [3]) (dVar 2)))
    sNil))))
def d__law_box : Fn := runF 4 1 [] false b__law_box
/-- _law_draw -/
abbrev s__law_draw : Stmt := topS 32
theorem sc__law_draw : FnScope ["box", "many", "turn", "rest", "found"] ["box", "many"] (defScope s__law_draw) := ⟨rfl, rfl, rfl, by decide +kernel, rfl, by decide +kernel, by decide +kernel⟩
def b__law_draw : MS :=
  (sSeq (sFor (itRng1 (dConst (.int 60))) (gtName 2) (sSeq (sIf (tAnd (tCmp pNe (dPk 0 boxSh (plIx 0 boxSh (plName 0) (dConst (.int 0)))) (dConst (.lst []))) (tCmp pEq (dPl 0 boxSh (plIx 0 boxSh (plIx 0 boxSh (plName 0) (dConst (.int 0))) (dConst (.int 0)))) (dConst (.int 0)))) (sSeq (sExpr (dMut 0 boxSh gPopAt (plIx 0 boxSh (plName 0) (dConst (.int 0))) (dCons (dConst (.int 0)) dNil)))
    sNil) sNil)
    sNil))
    (sSeq (sIf (tCmp pNe (dPk 0 boxSh (plIx 0 boxSh (plName 0) (dConst (.int 0)))) (dConst (.lst []))) (sSeq (sSet 3 (dCall gInt (dCons (dMut 0 boxSh gPopAt (plIx 0 boxSh (plName 0) (dConst (.int 0))) (dCons (dConst (.int 0)) dNil)) dNil)))
    (sSeq (sExpr (dMut 0 boxSh gInsert (plIx 0 boxSh (plName 0) (dConst (.int 0))) (dCons (dConst (.int 0)) (dCons (dOp2 gDiv (dVar 3) (dVar 1)) dNil))))
    (sSeq (sRet (dOp2 gMod (dCall gInt (dCons (dVar 3) dNil)) (dVar 1)))
    sNil))) sNil)
    (sSeq (sStore 0 boxSh (dOp2 gMod (dCall gInt (dCons (dOp2 gAdd (dOp2 gMul (dPl 0 boxSh (plIx 0 boxSh (plName 0) (dConst (.int 1)))) (dConst (.int 16807))) (dConst (.int 41))) dNil)) (dConst (.int 2147483647))) (plName 0) (dConst (.int 1)))
    (sSeq (sSet 4 (dPl 0 boxSh (plIx 0 boxSh (plName 0) (dConst (.int 1)))))
    (sSeq (sFor (itRng1 (dConst (.int 2))) (gtName 2) (sSeq (sIf (tCmp pGt (dVar 1) (dOp2 gPow (dConst (.int 10)) (dConst (.int 8)))) (sSeq (sStore 0 boxSh (dOp2 gMod (dCall gInt (dCons (dOp2 gAdd (dOp2 gMul (dPl 0 boxSh (plIx 0 boxSh (plName 0) (dConst (.int 1)))) (dConst (.int 16807))) (dConst (.int 41))) dNil)) (dConst (.int 2147483647))) (plName 0) (dConst (.int 1)))
    (sSeq (sSet 4 (dOp2 gAdd (dOp2 gMul (dVar 4) (dConst (.int 2147483647))) (dPl 0 boxSh (plIx 0 boxSh (plName 0) (dConst (.int 1))))))
    sNil)) sNil)
    sNil))
    (sSeq (sRet (dOp2 gMod (dCall gInt (dCons (dOp2 gDiv (dVar 4) (dConst (.int 101))) dNil)) (dVar 1)))
    sNil))))))
def d__law_draw : Fn := runF 5 2 [0] false b__law_draw
/-- _law_pick -/
abbrev s__law_pick : Stmt := topS 33
theorem sc__law_pick : FnScope ["box", "some"] ["box", "some"] (defScope s__law_pick) := ⟨rfl, rfl, rfl, by decide +kernel, rfl, by decide +kernel, by decide +kernel⟩
def b__law_pick : MS :=
  (sSeq (sRet (dOp2 gIx (dVar 1) (dCallF d__law_draw [some 0, none] [0] [] (dCons (dVar 0) (dCons (dCall gLen (dCons (dVar 1) dNil)) dNil)))))
    sNil)
def d__law_pick : Fn := runF 2 2 [0] false b__law_pick
/-- _law_tells -/
abbrev s__law_tells : Stmt := topS 34
theorem sc__law_tells : FnScope ["value", "due"] ["value", "due"] (defScope s__law_tells) := ⟨rfl, rfl, rfl, by decide +kernel, rfl, by decide +kernel, by decide +kernel⟩
def b__law_tells : MS :=
  (sSeq (sRet (dIf (tBl (dVar 1)) (dCmp pIsB (dVar 0) (dConst (.bl true))) (dCmp pIsB (dVar 0) (dConst (.bl false)))))
    sNil)
def d__law_tells : Fn := runF 2 2 [] false b__law_tells
/-- _law_is_int -/
abbrev s__law_is_int : Stmt := topS 35
theorem sc__law_is_int : FnScope ["value"] ["value"] (defScope s__law_is_int) := ⟨rfl, rfl, rfl, by decide +kernel, rfl, by decide +kernel, by decide +kernel⟩
def b__law_is_int : MS :=
  (sSeq (sRet (dAnd (dIs .int (dVar 0)) (dNot (dIs .bool (dVar 0)))))
    sNil)
def d__law_is_int : Fn := runF 1 1 [] false b__law_is_int
/-- _law_place -/
abbrev s__law_place : Stmt := topS 36
theorem sc__law_place : FnScope ["value"] ["value"] (defScope s__law_place) := ⟨rfl, rfl, rfl, by decide +kernel, rfl, by decide +kernel, by decide +kernel⟩
def b__law_place : MS :=
  (sSeq (sRet (dIf (tOr (tBl (dCallV d__law_is_int (dLen 1 (dCons (dVar 0) dNil)))) (tBl (dIs .str (dVar 0)))) (dVar 0) (dTup (dCons (dConst (.str "no place")) dNil))))
    sNil)
def d__law_place : Fn := runF 1 1 [] false b__law_place
/-- _law_loose -/
abbrev s__law_loose : Stmt := topS 37
theorem sc__law_loose : FnScope ["box", "value", "bits", "part"] ["box", "value"] (defScope s__law_loose) := ⟨rfl, rfl, rfl, by decide +kernel, rfl, by decide +kernel, by decide +kernel⟩
def b__law_loose (r : Fn) : MS :=
  (sSeq (sIf (tOr (tBl (dIs .list (dVar 1))) (tBl (dIs .tuple (dVar 1)))) (sSeq (sSet 2 (dLc (itSeq (dVar 1)) (gtName 3) tYes (dCallF r [some 0, none] [0] [] (dCons (dVar 0) (dCons (dVar 3) dNil))) [3]))
    (sSeq (sRet (dIf (tCmp pEq (dCallF d__law_draw [some 0, none] [0] [] (dCons (dVar 0) (dCons (dConst (.int 2)) dNil))) (dConst (.int 0))) (dVar 2) (dCall gTuple (dCons (dVar 2) dNil))))
    sNil)) sNil)
    (sSeq (sRet (dVar 1))
    sNil))
def d__law_loose : Nat → Fn
  | 0 => fun _ => .er
  | n + 1 => runF 4 2 [0] false (b__law_loose (d__law_loose n))
theorem do__law_loose : ∀ n, OutsOk (d__law_loose n) 1
  | 0 => er_outs
  | _ + 1 => runF_outs
/-- _law_same -/
abbrev s__law_same : Stmt := topS 38
theorem sc__law_same : FnScope ["value", "due", "at"] ["value", "due"] (defScope s__law_same) := ⟨rfl, rfl, rfl, by decide +kernel, rfl, by decide +kernel, by decide +kernel⟩
def b__law_same (r : Fn) : MS :=
  (sSeq (sIf (tBl (dIs .tuple (dVar 1))) (sSeq (sIf (tOr (tNot (tBl (dIs .tuple (dVar 0)))) (tCmp pNe (dCall gLen (dCons (dVar 0) dNil)) (dCall gLen (dCons (dVar 1) dNil)))) (sSeq (sRet (dConst (.bl false)))
    sNil) sNil)
    (sSeq (sRet (dCmp pEq (dLc (itRng1 (dCall gLen (dCons (dVar 1) dNil))) (gtName 2) (tNot (tBl (dCallF r [none, none] [] [] (dCons (dOp2 gIx (dVar 0) (dVar 2)) (dCons (dOp2 gIx (dVar 1) (dVar 2)) dNil))))) (dVar 2) [2]) (dLst dNil)))
    sNil)) sNil)
    (sSeq (sIf (tCmp pIsN (dVar 1) (dConst .non)) (sSeq (sRet (dCmp pIsN (dVar 0) (dConst .non)))
    sNil) sNil)
    (sSeq (sIf (tBl (dIs .bool (dVar 1))) (sSeq (sRet (dCallF d__law_tells [none, none] [] [] (dCons (dVar 0) (dCons (dVar 1) dNil))))
    sNil) sNil)
    (sSeq (sIf (tBl (dIs .str (dVar 1))) (sSeq (sRet (dAnd (dIs .str (dVar 0)) (dCmp pEq (dVar 0) (dVar 1))))
    sNil) sNil)
    (sSeq (sRet (dAnd (dCallF d__law_is_int [none] [] [] (dCons (dVar 0) dNil)) (dCmp pEq (dVar 0) (dVar 1))))
    sNil)))))
def d__law_same : Nat → Fn
  | 0 => fun _ => .er
  | n + 1 => runF 3 2 [] false (b__law_same (d__law_same n))
theorem do__law_same : ∀ n, OutsOk (d__law_same n) 0
  | 0 => er_outs
  | _ + 1 => runF_outs
/-- _law_rows -/
abbrev s__law_rows : Stmt := topS 39
theorem sc__law_rows : FnScope ["hedges", "mask", "hedge"] ["hedges"] (defScope s__law_rows) := ⟨rfl, rfl, rfl, by decide +kernel, rfl, by decide +kernel, by decide +kernel⟩
def b__law_rows : MS :=
  (sSeq (sRet (dLc (itRng1 (dOp2 gShl (dConst (.int 1)) (dVar 0))) (gtName 1) tYes (dCall gTuple (dCons (dLc (itRng1 (dVar 0)) (gtName 2) tYes (dOp2 gMod (dOp2 gShr (dVar 1) (dOp2 gSub (dOp2 gSub (dVar 0) (dConst (.int 1))) (dVar 2))) (dConst (.int 2))) [2]) dNil)) [1]))
    sNil)
def d__law_rows : Fn := runF 3 1 [] false b__law_rows
/-- _law_sides -/
abbrev s__law_sides : Stmt := topS 40
theorem sc__law_sides : FnScope ["hedges", "found", "hedge"] ["hedges"] (defScope s__law_sides) := ⟨rfl, rfl, rfl, by decide +kernel, rfl, by decide +kernel, by decide +kernel⟩
def b__law_sides : MS :=
  (sSeq (sSet 1 (dLst dNil))
    (sSeq (sFor (itRng1 (dVar 0)) (gtName 2) (sSeq (sSet 1 (dOp2 gCat (dVar 1) (dLst (dCons (dTup (dCons (dVar 2) (dCons (dConst (.int 0)) dNil))) (dCons (dTup (dCons (dVar 2) (dCons (dConst (.int 1)) dNil))) dNil)))))
    sNil))
    (sSeq (sRet (dVar 1))
    sNil)))
def d__law_sides : Fn := runF 3 1 [] false b__law_sides
/-- _law_pairs -/
abbrev s__law_pairs : Stmt := topS 41
theorem sc__law_pairs : FnScope ["hedges", "found", "sides", "one", "other"] ["hedges"] (defScope s__law_pairs) := ⟨rfl, rfl, rfl, by decide +kernel, rfl, by decide +kernel, by decide +kernel⟩
def b__law_pairs : MS :=
  (sSeq (sPar 1 2 (dLst dNil) (dCallF d__law_sides [none] [] [] (dCons (dVar 0) dNil)))
    (sSeq (sFor (itSeq (dVar 2)) (gtName 3) (sSeq (sSet 1 (dOp2 gCat (dVar 1) (dLc (itSeq (dVar 2)) (gtName 4) (tOr (tCmp pEq (dVar 3) (dVar 4)) (tCmp pLt (dOp2 gIx (dVar 3) (dConst (.int 0))) (dOp2 gIx (dVar 4) (dConst (.int 0))))) (dTup (dCons (dVar 3) (dCons (dVar 4) dNil))) [4])))
    sNil))
    (sSeq (sRet (dVar 1))
    sNil)))
def d__law_pairs : Fn := runF 5 1 [] false b__law_pairs
/-- _law_has -/
abbrev s__law_has : Stmt := topS 42
theorem sc__law_has : FnScope ["row", "side"] ["row", "side"] (defScope s__law_has) := ⟨rfl, rfl, rfl, by decide +kernel, rfl, by decide +kernel, by decide +kernel⟩
def b__law_has : MS :=
  (sSeq (sRet (dCmp pEq (dOp2 gIx (dVar 0) (dOp2 gIx (dVar 1) (dConst (.int 0)))) (dOp2 gIx (dVar 1) (dConst (.int 1)))))
    sNil)
def d__law_has : Fn := runF 2 2 [] false b__law_has
/-- _law_has_both -/
abbrev s__law_has_both : Stmt := topS 43
theorem sc__law_has_both : FnScope ["row", "couple"] ["row", "couple"] (defScope s__law_has_both) := ⟨rfl, rfl, rfl, by decide +kernel, rfl, by decide +kernel, by decide +kernel⟩
def b__law_has_both : MS :=
  (sSeq (sRet (dAnd (dCallF d__law_has [none, none] [] [] (dCons (dVar 0) (dCons (dOp2 gIx (dVar 1) (dConst (.int 0))) dNil))) (dCallF d__law_has [none, none] [] [] (dCons (dVar 0) (dCons (dOp2 gIx (dVar 1) (dConst (.int 1))) dNil)))))
    sNil)
def d__law_has_both : Fn := runF 2 2 [] false b__law_has_both
/-- _law_couples -/
abbrev s__law_couples : Stmt := topS 44
theorem sc__law_couples : FnScope ["rows", "hedges", "couple", "row"] ["rows", "hedges"] (defScope s__law_couples) := ⟨rfl, rfl, rfl, by decide +kernel, rfl, by decide +kernel, by decide +kernel⟩
def b__law_couples : MS :=
  (sSeq (sRet (dCall gTuple (dCons (dLc (itSeq (dCallF d__law_pairs [none] [] [] (dCons (dVar 1) dNil))) (gtName 2) (tCmp pEq (dLc (itSeq (dVar 0)) (gtName 3) (tBl (dCallF d__law_has_both [none, none] [] [] (dCons (dVar 3) (dCons (dVar 2) dNil)))) (dVar 3) [3]) (dLst dNil)) (dVar 2) [2]) dNil)))
    sNil)
def d__law_couples : Fn := runF 4 2 [] false b__law_couples
/-- _law_without -/
abbrev s__law_without : Stmt := topS 45
theorem sc__law_without : FnScope ["hedges", "couples", "row", "couple"] ["hedges", "couples"] (defScope s__law_without) := ⟨rfl, rfl, rfl, by decide +kernel, rfl, by decide +kernel, by decide +kernel⟩
def b__law_without : MS :=
  (sSeq (sRet (dLc (itSeq (dCallF d__law_rows [none] [] [] (dCons (dVar 0) dNil))) (gtName 2) (tCmp pEq (dLc (itSeq (dVar 1)) (gtName 3) (tBl (dCallF d__law_has_both [none, none] [] [] (dCons (dVar 2) (dCons (dVar 3) dNil)))) (dVar 3) [3]) (dLst dNil)) (dVar 2) [2]))
    sNil)
def d__law_without : Fn := runF 4 2 [] false b__law_without
/-- _law_told_of -/
abbrev s__law_told_of : Stmt := topS 46
theorem sc__law_told_of : FnScope ["what", "hedges", "couples", "one", "other"] ["what", "hedges", "couples", "one", "other"] (defScope s__law_told_of) := ⟨rfl, rfl, rfl, by decide +kernel, rfl, by decide +kernel, by decide +kernel⟩
def b__law_told_of : MS :=
  (sSeq (sRet (dIf (tCmp pEq (dVar 0) (dConst (.str "closed"))) (dCallF d_closed_couples [none, none] [] [] (dCons (dVar 1) (dCons (dVar 2) dNil))) (dCallF d_follows [none, none, none, none] [] [] (dCons (dVar 1) (dCons (dVar 2) (dCons (dVar 3) (dCons (dVar 4) dNil)))))))
    sNil)
def d__law_told_of : Fn := runF 5 5 [] false b__law_told_of
/-- _law_asked -/
abbrev s__law_asked : Stmt := topS 47
theorem sc__law_asked : FnScope ["what", "hedges", "couples", "one", "other", "e"] ["what", "hedges", "couples", "one", "other"] (defScope s__law_asked) := ⟨rfl, rfl, rfl, by decide +kernel, rfl, by decide +kernel, by decide +kernel⟩
def b__law_asked : MS :=
  (sSeq (sTry (sSeq (sRet (dTup (dCons (dConst (.str "told")) (dCons (dCallF d__law_told_of [none, none, none, none, none] [] [] (dCons (dVar 0) (dCons (dVar 1) (dCons (dVar 2) (dCons (dVar 3) (dCons (dVar 4) dNil)))))) dNil))))
    sNil) [(5, xs_0, hPl "count" d__law_place), (5, xs_2, hPl "couples" d__law_place), (5, xs_1, hPl "side" d__law_place), (5, xs_3, hPl "refused" d__law_place)])
    sNil)
def d__law_asked : Fn := runF 6 5 [] false b__law_asked
/-- law -/
abbrev s_law : Stmt := topS 48
theorem sc_law : FnScope ["script", "box", "turn", "hedges", "every", "some", "passed", "left", "due", "couple", "hedge", "bit", "bad", "value", "what", "first", "count"] ["script"] (defScope s_law) := ⟨rfl, rfl, rfl, by decide +kernel, rfl, by decide +kernel, by decide +kernel⟩
def b_law : MS :=
  (sSeq (sSet 1 (dCallF d__law_box [none] [] [] (dCons (dVar 0) dNil)))
    (sSeq (sFor (itRng1 (dConst (.int 3))) (gtName 2) (sSeq (sSet 3 (dOp2 gAdd (dConst (.int 1)) (dCallF d__law_draw [some 1, none] [1] [] (dCons (dVar 1) (dCons (dConst (.int 5)) dNil)))))
    (sSeq (sSet 4 (dCallF d__law_pairs [none] [] [] (dCons (dVar 3) dNil)))
    (sSeq (sSet 5 (dLc (itRng1 (dCallF d__law_draw [some 1, none] [1] [] (dCons (dVar 1) (dCons (dOp2 gAdd (dOp2 gMul (dConst (.int 2)) (dVar 3)) (dConst (.int 2))) dNil)))) (gtName 16) tYes (dCallF d__law_pick [some 1, none] [1] [] (dCons (dVar 1) (dCons (dVar 4) dNil))) [16]))
    (sSeq (sIf (tCmp pEq (dCallF d__law_draw [some 1, none] [1] [] (dCons (dVar 1) (dCons (dConst (.int 2)) dNil))) (dConst (.int 0))) (sSeq (sSet 5 (dLc (itSeq (dVar 5)) (gtName 9) (tCmp pNe (dOp2 gIx (dVar 9) (dConst (.int 0))) (dOp2 gIx (dVar 9) (dConst (.int 1)))) (dVar 9) [9]))
    sNil) sNil)
    (sSeq (sSet 6 (dLc (itSeq (dVar 5)) (gtName 9) tYes (dCallF (d__law_loose 8) [some 1, none] [1] [] (dCons (dVar 1) (dCons (dIf (tCmp pEq (dCallF d__law_draw [some 1, none] [1] [] (dCons (dVar 1) (dCons (dConst (.int 2)) dNil))) (dConst (.int 0))) (dVar 9) (dTup (dCons (dOp2 gIx (dVar 9) (dConst (.int 1))) (dCons (dOp2 gIx (dVar 9) (dConst (.int 0))) dNil)))) dNil))) [9]))
    (sSeq (sSet 7 (dCallF d__law_without [none, none] [] [] (dCons (dVar 3) (dCons (dVar 5) dNil))))
    (sSeq (sSet 8 (dCallF d__law_couples [none, none] [] [] (dCons (dVar 7) (dCons (dVar 3) dNil))))
    (sSeq (sIf (tNot (tBl (dCallF (d__law_same 8) [none, none] [] [] (dCons (dCallF d__law_asked [none, none, none, none, none] [] [] (dCons (dConst (.str "closed")) (dCons (dVar 3) (dCons (dVar 6) (dCons (dConst .non) (dCons (dConst .non) dNil)))))) (dCons (dTup (dCons (dConst (.str "told")) (dCons (dVar 8) dNil))) dNil))))) (sSeq (sRet (dConst (.bl false)))
    sNil) sNil)
    (sSeq (sIf (tNot (tBl (dCallF (d__law_same 8) [none, none] [] [] (dCons (dCallF d__law_asked [none, none, none, none, none] [] [] (dCons (dConst (.str "closed")) (dCons (dVar 3) (dCons (dCallF (d__law_loose 8) [some 1, none] [1] [] (dCons (dVar 1) (dCons (dVar 8) dNil))) (dCons (dConst .non) (dCons (dConst .non) dNil)))))) (dCons (dTup (dCons (dConst (.str "told")) (dCons (dVar 8) dNil))) dNil))))) (sSeq (sRet (dConst (.bl false)))
    sNil) sNil)
    (sSeq (sFor (itSeq (dVar 4)) (gtName 9) (sSeq (sIf (tNot (tBl (dCallF (d__law_same 8) [none, none] [] [] (dCons (dCallF d__law_asked [none, none, none, none, none] [] [] (dCons (dConst (.str "follows")) (dCons (dVar 3) (dCons (dVar 6) (dCons (dOp2 gIx (dVar 9) (dConst (.int 1))) (dCons (dCallF (d__law_loose 8) [some 1, none] [1] [] (dCons (dVar 1) (dCons (dOp2 gIx (dVar 9) (dConst (.int 0))) dNil))) dNil)))))) (dCons (dTup (dCons (dConst (.str "told")) (dCons (dCmp pIn2 (dVar 9) (dVar 8)) dNil))) dNil))))) (sSeq (sRet (dConst (.bl false)))
    sNil) sNil)
    sNil))
    (sSeq (sPar 10 11 (dCallF d__law_draw [some 1, none] [1] [] (dCons (dVar 1) (dCons (dVar 3) dNil))) (dCallF d__law_draw [some 1, none] [1] [] (dCons (dVar 1) (dCons (dConst (.int 2)) dNil))))
    (sSeq (sIf (tNot (tBl (dCallF (d__law_same 8) [none, none] [] [] (dCons (dCallF d__law_asked [none, none, none, none, none] [] [] (dCons (dConst (.str "follows")) (dCons (dVar 3) (dCons (dVar 6) (dCons (dTup (dCons (dVar 10) (dCons (dVar 11) dNil))) (dCons (dLst (dCons (dVar 10) (dCons (dOp2 gSub (dConst (.int 1)) (dVar 11)) dNil))) dNil)))))) (dCons (dTup (dCons (dConst (.str "refused")) (dCons (dConst (.str "sides")) dNil))) dNil))))) (sSeq (sRet (dConst (.bl false)))
    sNil) sNil)
    (sSeq (sFor (itSeq (dLst (dCons (dConst .non) (dCons (dConst (.int 3)) (dCons (dTup dNil) (dCons (dTup (dCons (dConst (.int 0)) dNil)) (dCons (dTup (dCons (dVar 3) (dCons (dConst (.int 0)) dNil))) (dCons (dTup (dCons (dConst (.int 0)) (dCons (dConst (.int 2)) dNil))) (dCons (dTup (dCons (dConst (.int 0)) (dCons (dConst (.bl true)) dNil))) (dCons (dTup (dCons (dOp2 gSub (dConst (.int 0)) (dConst (.int 1))) (dCons (dConst (.int 0)) dNil))) (dCons (dConst (.str "00")) (dCons (dTup (dCons (dConst (.int 0)) (dCons (dConst (.int 0)) (dCons (dConst (.int 0)) dNil)))) (dCons (dLst (dCons (dConst .non) (dCons (dConst (.int 0)) dNil))) dNil))))))))))))) (gtName 12) (sSeq (sIf (tNot (tBl (dCallF (d__law_same 8) [none, none] [] [] (dCons (dCallF d__law_asked [none, none, none, none, none] [] [] (dCons (dConst (.str "follows")) (dCons (dVar 3) (dCons (dVar 6) (dCons (dVar 12) (dCons (dVar 12) dNil)))))) (dCons (dTup (dCons (dConst (.str "side")) (dCons (dConst (.int 0)) dNil))) dNil))))) (sSeq (sRet (dConst (.bl false)))
    sNil) sNil)
    (sSeq (sIf (tNot (tBl (dCallF (d__law_same 8) [none, none] [] [] (dCons (dCallF d__law_asked [none, none, none, none, none] [] [] (dCons (dConst (.str "follows")) (dCons (dVar 3) (dCons (dVar 6) (dCons (dTup (dCons (dConst (.int 0)) (dCons (dConst (.int 0)) dNil))) (dCons (dVar 12) dNil)))))) (dCons (dTup (dCons (dConst (.str "side")) (dCons (dConst (.int 1)) dNil))) dNil))))) (sSeq (sRet (dConst (.bl false)))
    sNil) sNil)
    (sSeq (sFor (itSeq (dLst (dCons (dVar 12) (dCons (dTup (dCons (dVar 12) (dCons (dTup (dCons (dConst (.int 0)) (dCons (dConst (.int 0)) dNil))) dNil))) (dCons (dTup (dCons (dTup (dCons (dConst (.int 0)) (dCons (dConst (.int 0)) dNil))) (dCons (dVar 12) dNil))) (dCons (dTup (dCons (dTup (dCons (dConst (.int 0)) (dCons (dConst (.int 0)) dNil))) dNil)) (dCons (dTup (dCons (dTup (dCons (dConst (.int 0)) (dCons (dConst (.int 0)) dNil))) (dCons (dTup (dCons (dConst (.int 0)) (dCons (dConst (.int 1)) dNil))) dNil))) (dCons (dTup (dCons (dTup (dCons (dConst (.int 0)) (dCons (dConst (.int 0)) dNil))) (dCons (dTup (dCons (dConst (.int 0)) (dCons (dConst (.int 0)) dNil))) (dCons (dTup (dCons (dConst (.int 0)) (dCons (dConst (.int 0)) dNil))) dNil)))) dNil)))))))) (gtName 13) (sSeq (sFor (itSeq (dLst (dCons (dConst (.str "closed")) (dCons (dConst (.str "follows")) dNil)))) (gtName 14) (sSeq (sIf (tNot (tBl (dCallF (d__law_same 8) [none, none] [] [] (dCons (dCallF d__law_asked [none, none, none, none, none] [] [] (dCons (dVar 14) (dCons (dVar 3) (dCons (dOp2 gCat (dVar 6) (dLst (dCons (dVar 13) dNil))) (dCons (dConst .non) (dCons (dConst .non) dNil)))))) (dCons (dTup (dCons (dConst (.str "couples")) (dCons (dCall gLen (dCons (dVar 6) dNil)) dNil))) dNil))))) (sSeq (sRet (dConst (.bl false)))
    sNil) sNil)
    sNil))
    sNil))
    sNil))))
    sNil))))))))))))))
    (sSeq (sSet 15 (dLst (dCons (dTup (dCons (dTup (dCons (dConst (.int 0)) (dCons (dConst (.int 0)) dNil))) (dCons (dTup (dCons (dConst (.int 1)) (dCons (dConst (.int 1)) dNil))) dNil))) (dCons (dTup (dCons (dTup (dCons (dConst (.int 1)) (dCons (dConst (.int 0)) dNil))) (dCons (dTup (dCons (dConst (.int 2)) (dCons (dConst (.int 0)) dNil))) dNil))) dNil))))
    (sSeq (sIf (tNot (tBl (dCallF (d__law_same 8) [none, none] [] [] (dCons (dCallF d__law_asked [none, none, none, none, none] [] [] (dCons (dConst (.str "closed")) (dCons (dConst (.int 3)) (dCons (dVar 15) (dCons (dConst .non) (dCons (dConst .non) dNil)))))) (dCons (dTup (dCons (dConst (.str "told")) (dCons (dTup (dCons (dTup (dCons (dTup (dCons (dConst (.int 0)) (dCons (dConst (.int 0)) dNil))) (dCons (dTup (dCons (dConst (.int 1)) (dCons (dConst (.int 1)) dNil))) dNil))) (dCons (dTup (dCons (dTup (dCons (dConst (.int 0)) (dCons (dConst (.int 0)) dNil))) (dCons (dTup (dCons (dConst (.int 2)) (dCons (dConst (.int 0)) dNil))) dNil))) (dCons (dTup (dCons (dTup (dCons (dConst (.int 1)) (dCons (dConst (.int 0)) dNil))) (dCons (dTup (dCons (dConst (.int 2)) (dCons (dConst (.int 0)) dNil))) dNil))) dNil)))) dNil))) dNil))))) (sSeq (sRet (dConst (.bl false)))
    sNil) sNil)
    (sSeq (sIf (tOr (tNot (tBl (dCallF (d__law_same 8) [none, none] [] [] (dCons (dCallF d__law_asked [none, none, none, none, none] [] [] (dCons (dConst (.str "closed")) (dCons (dConst (.int 0)) (dCons (dLst dNil) (dCons (dConst .non) (dCons (dConst .non) dNil)))))) (dCons (dTup (dCons (dConst (.str "told")) (dCons (dTup dNil) dNil))) dNil))))) (tNot (tBl (dCallF (d__law_same 8) [none, none] [] [] (dCons (dCallF d__law_asked [none, none, none, none, none] [] [] (dCons (dConst (.str "follows")) (dCons (dConst (.int 3)) (dCons (dVar 15) (dCons (dTup (dCons (dConst (.int 2)) (dCons (dConst (.int 0)) dNil))) (dCons (dTup (dCons (dConst (.int 0)) (dCons (dConst (.int 0)) dNil))) dNil)))))) (dCons (dTup (dCons (dConst (.str "told")) (dCons (dConst (.bl true)) dNil))) dNil)))))) (sSeq (sRet (dConst (.bl false)))
    sNil) sNil)
    (sSeq (sIf (tNot (tBl (dCallF (d__law_same 8) [none, none] [] [] (dCons (dCallF d__law_asked [none, none, none, none, none] [] [] (dCons (dConst (.str "follows")) (dCons (dConst (.int 3)) (dCons (dVar 15) (dCons (dTup (dCons (dConst (.int 2)) (dCons (dConst (.int 1)) dNil))) (dCons (dTup (dCons (dConst (.int 0)) (dCons (dConst (.int 0)) dNil))) dNil)))))) (dCons (dTup (dCons (dConst (.str "told")) (dCons (dConst (.bl false)) dNil))) dNil))))) (sSeq (sRet (dConst (.bl false)))
    sNil) sNil)
    (sSeq (sFor (itSeq (dLst (dCons (dConst .non) (dCons (dOp2 gSub (dConst (.int 0)) (dConst (.int 1))) (dCons (dConst (.int 25)) (dCons (dConst (.bl true)) (dCons (dConst (.str "3")) (dCons (dLst (dCons (dConst (.int 3)) dNil)) dNil)))))))) (gtName 13) (sSeq (sFor (itSeq (dLst (dCons (dConst (.str "closed")) (dCons (dConst (.str "follows")) dNil)))) (gtName 14) (sSeq (sIf (tNot (tBl (dCallF (d__law_same 8) [none, none] [] [] (dCons (dCallF d__law_asked [none, none, none, none, none] [] [] (dCons (dVar 14) (dCons (dVar 13) (dCons (dConst .non) (dCons (dConst .non) (dCons (dConst .non) dNil)))))) (dCons (dTup (dCons (dConst (.str "count")) (dCons (dOp2 gSub (dConst (.int 0)) (dConst (.int 1))) dNil))) dNil))))) (sSeq (sRet (dConst (.bl false)))
    sNil) sNil)
    sNil))
    sNil))
    (sSeq (sFor (itSeq (dLst (dCons (dConst .non) (dCons (dConst (.int 3)) (dCons (dConst (.str "couples")) (dCons (dOp2 gRep (dLst (dCons (dTup (dCons (dTup (dCons (dConst (.int 0)) (dCons (dConst (.int 0)) dNil))) (dCons (dTup (dCons (dConst (.int 1)) (dCons (dConst (.int 1)) dNil))) dNil))) dNil)) (dConst (.int 1201))) dNil)))))) (gtName 13) (sSeq (sFor (itSeq (dLst (dCons (dConst (.str "closed")) (dCons (dConst (.str "follows")) dNil)))) (gtName 14) (sSeq (sIf (tNot (tBl (dCallF (d__law_same 8) [none, none] [] [] (dCons (dCallF d__law_asked [none, none, none, none, none] [] [] (dCons (dVar 14) (dCons (dConst (.int 2)) (dCons (dVar 13) (dCons (dConst .non) (dCons (dConst .non) dNil)))))) (dCons (dTup (dCons (dConst (.str "couples")) (dCons (dOp2 gSub (dConst (.int 0)) (dConst (.int 1))) dNil))) dNil))))) (sSeq (sRet (dConst (.bl false)))
    sNil) sNil)
    sNil))
    sNil))
    (sSeq (sRet (dConst (.bl true)))
    sNil)))))))))
def d_law : Fn := runF 17 1 [] false b_law
structure Tx (K : PySem.W.Frag) (mg : Str → Option Value) (cl : Nat → Addr) where
  f_is_integer : Addr
  fd_is_integer : FuncData
  F_is_integer : Fun K "is_integer" "is_integer" s_is_integer f_is_integer fd_is_integer
  b_is_integer : Binds K fd_is_integer ["value"] []
  g_is_integer : mg "is_integer" = some (.ref f_is_integer)
  f_is_below : Addr
  fd_is_below : FuncData
  F_is_below : Fun K "is_below" "is_below" s_is_below f_is_below fd_is_below
  b_is_below : Binds K fd_is_below ["value", "limit"] []
  g_is_below : mg "is_below" = some (.ref f_is_below)
  f_is_between : Addr
  fd_is_between : FuncData
  F_is_between : Fun K "is_between" "is_between" s_is_between f_is_between fd_is_between
  b_is_between : Binds K fd_is_between ["value", "least", "most"] []
  g_is_between : mg "is_between" = some (.ref f_is_between)
  f_is_sequence : Addr
  fd_is_sequence : FuncData
  F_is_sequence : Fun K "is_sequence" "is_sequence" s_is_sequence f_is_sequence fd_is_sequence
  b_is_sequence : Binds K fd_is_sequence ["value"] []
  g_is_sequence : mg "is_sequence" = some (.ref f_is_sequence)
  f_is_row_of : Addr
  fd_is_row_of : FuncData
  F_is_row_of : Fun K "is_row_of" "is_row_of" s_is_row_of f_is_row_of fd_is_row_of
  b_is_row_of : Binds K fd_is_row_of ["value", "many"] []
  g_is_row_of : mg "is_row_of" = some (.ref f_is_row_of)
  f_side_number : Addr
  fd_side_number : FuncData
  F_side_number : Fun K "side_number" "side_number" s_side_number f_side_number fd_side_number
  b_side_number : Binds K fd_side_number ["side"] []
  g_side_number : mg "side_number" = some (.ref f_side_number)
  f_side_of : Addr
  fd_side_of : FuncData
  F_side_of : Fun K "side_of" "side_of" s_side_of f_side_of fd_side_of
  b_side_of : Binds K fd_side_of ["number"] []
  g_side_of : mg "side_of" = some (.ref f_side_of)
  f_is_side : Addr
  fd_is_side : FuncData
  F_is_side : Fun K "is_side" "is_side" s_is_side f_is_side fd_is_side
  b_is_side : Binds K fd_is_side ["value", "hedges"] []
  g_is_side : mg "is_side" = some (.ref f_is_side)
  f_need_side : Addr
  fd_need_side : FuncData
  F_need_side : Fun K "need_side" "need_side" s_need_side f_need_side fd_need_side
  b_need_side : Binds K fd_need_side ["value", "at", "hedges"] []
  g_need_side : mg "need_side" = some (.ref f_need_side)
  f_is_couple : Addr
  fd_is_couple : FuncData
  F_is_couple : Fun K "is_couple" "is_couple" s_is_couple f_is_couple fd_is_couple
  b_is_couple : Binds K fd_is_couple ["value", "hedges"] []
  g_is_couple : mg "is_couple" = some (.ref f_is_couple)
  f_need_couples : Addr
  fd_need_couples : FuncData
  F_need_couples : Fun K "need_couples" "need_couples" s_need_couples f_need_couples fd_need_couples
  b_need_couples : Binds K fd_need_couples ["hedges", "value"] []
  g_need_couples : mg "need_couples" = some (.ref f_need_couples)
  f_brought : Addr
  fd_brought : FuncData
  F_brought : Fun K "brought" "brought" s_brought f_brought fd_brought
  b_brought : Binds K fd_brought ["hedges", "pairs"] []
  g_brought : mg "brought" = some (.ref f_brought)
  f_led_table : Addr
  fd_led_table : FuncData
  F_led_table : Fun K "led_table" "led_table" s_led_table f_led_table fd_led_table
  b_led_table : Binds K fd_led_table ["hedges", "pairs"] []
  g_led_table : mg "led_table" = some (.ref f_led_table)
  f_numbers_of : Addr
  fd_numbers_of : FuncData
  F_numbers_of : Fun K "numbers_of" "numbers_of" s_numbers_of f_numbers_of fd_numbers_of
  b_numbers_of : Binds K fd_numbers_of ["mask"] []
  g_numbers_of : mg "numbers_of" = some (.ref f_numbers_of)
  f_exchanged : Addr
  fd_exchanged : FuncData
  F_exchanged : Fun K "exchanged" "exchanged" s_exchanged f_exchanged fd_exchanged
  b_exchanged : Binds K fd_exchanged ["mask"] []
  g_exchanged : mg "exchanged" = some (.ref f_exchanged)
  f_closed_table : Addr
  fd_closed_table : FuncData
  F_closed_table : Fun K "closed_table" "closed_table" s_closed_table f_closed_table fd_closed_table
  b_closed_table : Binds K fd_closed_table ["hedges", "pairs"] []
  g_closed_table : mg "closed_table" = some (.ref f_closed_table)
  f_couples_told : Addr
  fd_couples_told : FuncData
  F_couples_told : Fun K "couples_told" "couples_told" s_couples_told f_couples_told fd_couples_told
  b_couples_told : Binds K fd_couples_told ["table"] []
  g_couples_told : mg "couples_told" = some (.ref f_couples_told)
  f_closed_couples : Addr
  fd_closed_couples : FuncData
  F_closed_couples : Fun K "closed_couples" "closed_couples" s_closed_couples f_closed_couples fd_closed_couples
  b_closed_couples : Binds K fd_closed_couples ["hedges", "couples"] []
  g_closed_couples : mg "closed_couples" = some (.ref f_closed_couples)
  f_need_question : Addr
  fd_need_question : FuncData
  F_need_question : Fun K "need_question" "need_question" s_need_question f_need_question fd_need_question
  b_need_question : Binds K fd_need_question ["hedges", "couples", "one", "other"] []
  g_need_question : mg "need_question" = some (.ref f_need_question)
  f_follows : Addr
  fd_follows : FuncData
  F_follows : Fun K "follows" "follows" s_follows f_follows fd_follows
  b_follows : Binds K fd_follows ["hedges", "couples", "one", "other"] []
  g_follows : mg "follows" = some (.ref f_follows)
  f__law_box : Addr
  fd__law_box : FuncData
  F__law_box : Fun K "_law_box" "_law_box" s__law_box f__law_box fd__law_box
  b__law_box : Binds K fd__law_box ["script"] []
  g__law_box : mg "_law_box" = some (.ref f__law_box)
  f__law_draw : Addr
  fd__law_draw : FuncData
  F__law_draw : Fun K "_law_draw" "_law_draw" s__law_draw f__law_draw fd__law_draw
  b__law_draw : Binds K fd__law_draw ["box", "many"] []
  g__law_draw : mg "_law_draw" = some (.ref f__law_draw)
  f__law_pick : Addr
  fd__law_pick : FuncData
  F__law_pick : Fun K "_law_pick" "_law_pick" s__law_pick f__law_pick fd__law_pick
  b__law_pick : Binds K fd__law_pick ["box", "some"] []
  g__law_pick : mg "_law_pick" = some (.ref f__law_pick)
  f__law_tells : Addr
  fd__law_tells : FuncData
  F__law_tells : Fun K "_law_tells" "_law_tells" s__law_tells f__law_tells fd__law_tells
  b__law_tells : Binds K fd__law_tells ["value", "due"] []
  g__law_tells : mg "_law_tells" = some (.ref f__law_tells)
  f__law_is_int : Addr
  fd__law_is_int : FuncData
  F__law_is_int : Fun K "_law_is_int" "_law_is_int" s__law_is_int f__law_is_int fd__law_is_int
  b__law_is_int : Binds K fd__law_is_int ["value"] []
  g__law_is_int : mg "_law_is_int" = some (.ref f__law_is_int)
  f__law_place : Addr
  fd__law_place : FuncData
  F__law_place : Fun K "_law_place" "_law_place" s__law_place f__law_place fd__law_place
  b__law_place : Binds K fd__law_place ["value"] []
  g__law_place : mg "_law_place" = some (.ref f__law_place)
  f__law_loose : Addr
  fd__law_loose : FuncData
  F__law_loose : Fun K "_law_loose" "_law_loose" s__law_loose f__law_loose fd__law_loose
  b__law_loose : Binds K fd__law_loose ["box", "value"] []
  g__law_loose : mg "_law_loose" = some (.ref f__law_loose)
  f__law_same : Addr
  fd__law_same : FuncData
  F__law_same : Fun K "_law_same" "_law_same" s__law_same f__law_same fd__law_same
  b__law_same : Binds K fd__law_same ["value", "due"] []
  g__law_same : mg "_law_same" = some (.ref f__law_same)
  f__law_rows : Addr
  fd__law_rows : FuncData
  F__law_rows : Fun K "_law_rows" "_law_rows" s__law_rows f__law_rows fd__law_rows
  b__law_rows : Binds K fd__law_rows ["hedges"] []
  g__law_rows : mg "_law_rows" = some (.ref f__law_rows)
  f__law_sides : Addr
  fd__law_sides : FuncData
  F__law_sides : Fun K "_law_sides" "_law_sides" s__law_sides f__law_sides fd__law_sides
  b__law_sides : Binds K fd__law_sides ["hedges"] []
  g__law_sides : mg "_law_sides" = some (.ref f__law_sides)
  f__law_pairs : Addr
  fd__law_pairs : FuncData
  F__law_pairs : Fun K "_law_pairs" "_law_pairs" s__law_pairs f__law_pairs fd__law_pairs
  b__law_pairs : Binds K fd__law_pairs ["hedges"] []
  g__law_pairs : mg "_law_pairs" = some (.ref f__law_pairs)
  f__law_has : Addr
  fd__law_has : FuncData
  F__law_has : Fun K "_law_has" "_law_has" s__law_has f__law_has fd__law_has
  b__law_has : Binds K fd__law_has ["row", "side"] []
  g__law_has : mg "_law_has" = some (.ref f__law_has)
  f__law_has_both : Addr
  fd__law_has_both : FuncData
  F__law_has_both : Fun K "_law_has_both" "_law_has_both" s__law_has_both f__law_has_both fd__law_has_both
  b__law_has_both : Binds K fd__law_has_both ["row", "couple"] []
  g__law_has_both : mg "_law_has_both" = some (.ref f__law_has_both)
  f__law_couples : Addr
  fd__law_couples : FuncData
  F__law_couples : Fun K "_law_couples" "_law_couples" s__law_couples f__law_couples fd__law_couples
  b__law_couples : Binds K fd__law_couples ["rows", "hedges"] []
  g__law_couples : mg "_law_couples" = some (.ref f__law_couples)
  f__law_without : Addr
  fd__law_without : FuncData
  F__law_without : Fun K "_law_without" "_law_without" s__law_without f__law_without fd__law_without
  b__law_without : Binds K fd__law_without ["hedges", "couples"] []
  g__law_without : mg "_law_without" = some (.ref f__law_without)
  f__law_told_of : Addr
  fd__law_told_of : FuncData
  F__law_told_of : Fun K "_law_told_of" "_law_told_of" s__law_told_of f__law_told_of fd__law_told_of
  b__law_told_of : Binds K fd__law_told_of ["what", "hedges", "couples", "one", "other"] []
  g__law_told_of : mg "_law_told_of" = some (.ref f__law_told_of)
  f__law_asked : Addr
  fd__law_asked : FuncData
  F__law_asked : Fun K "_law_asked" "_law_asked" s__law_asked f__law_asked fd__law_asked
  b__law_asked : Binds K fd__law_asked ["what", "hedges", "couples", "one", "other"] []
  g__law_asked : mg "_law_asked" = some (.ref f__law_asked)
  f_law : Addr
  fd_law : FuncData
  F_law : Fun K "law" "law" s_law f_law fd_law
  b_law : Binds K fd_law ["script"] []
  g_law : mg "law" = some (.ref f_law)
  fi_InvalidCount : Addr
  t_InvalidCount : Er.Txt P_ K (cl 0) fi_InvalidCount "InvalidCount.__init__" "wrong: a count"
  gE_InvalidCount : mg "InvalidCount" = some (.ref (cl 0))
  x_0 : ∀ n, PySem.W.exmOne K (.ref (cl n)) (.ref (cl 0)) = some (xs_0 n)
  fi_InvalidSide : Addr
  t_InvalidSide : Er.Txt P_ K (cl 1) fi_InvalidSide "InvalidSide.__init__" "wrong: a side"
  gE_InvalidSide : mg "InvalidSide" = some (.ref (cl 1))
  x_1 : ∀ n, PySem.W.exmOne K (.ref (cl n)) (.ref (cl 1)) = some (xs_1 n)
  fi_InvalidCouples : Addr
  t_InvalidCouples : Er.Txt P_ K (cl 2) fi_InvalidCouples "InvalidCouples.__init__" "wrong: couples"
  gE_InvalidCouples : mg "InvalidCouples" = some (.ref (cl 2))
  x_2 : ∀ n, PySem.W.exmOne K (.ref (cl n)) (.ref (cl 2)) = some (xs_2 n)
  fi_Refused : Addr
  t_Refused : Er.Txt P_ K (cl 3) fi_Refused "Refused.__init__" "refused"
  gE_Refused : mg "Refused" = some (.ref (cl 3))
  x_3 : ∀ n, PySem.W.exmOne K (.ref (cl n)) (.ref (cl 3)) = some (xs_3 n)
  z_super : mg "super" = none
  kc : ClsOk K cl
  k_MOST_HEDGES : Tok
  c_MOST_HEDGES : mg "MOST_HEDGES" = some (.int 24 k_MOST_HEDGES)
  k_MOST_COUPLES : Tok
  c_MOST_COUPLES : mg "MOST_COUPLES" = some (.int 1200 k_MOST_COUPLES)
  z_abs : mg "abs" = none
  z_any : mg "any" = none
  z_bool : mg "bool" = none
  z_enumerate : mg "enumerate" = none
  z_int : mg "int" = none
  z_isinstance : mg "isinstance" = none
  z_len : mg "len" = none
  z_list : mg "list" = none
  z_range : mg "range" = none
  z_str : mg "str" = none
  z_sum : mg "sum" = none
  z_tuple : mg "tuple" = none
end Hk
namespace Hk
open PySem PySem.Spec L2 FL
open PyProof.Rows hiding St
section
variable {w : World} {K : PySem.W.Frag} {mg : Str → Option Value} {base : Heap} {cl : Nat → Addr}
theorem Tx.e_InvalidCount (T : Tx K mg cl) {X : Cx} (h1 : X.prog = P_ := by rfl) (h2 : X.K = K := by rfl) (h3 : X.mg = mg := by rfl) : ErOk X "InvalidCount" (cl 0) T.fi_InvalidCount "InvalidCount.__init__" "wrong: a count" := ⟨by rw [h1, h2]; exact T.t_InvalidCount, by rw [h3]; exact T.gE_InvalidCount, by rw [h3]; exact T.z_super⟩
theorem Tx.e_InvalidSide (T : Tx K mg cl) {X : Cx} (h1 : X.prog = P_ := by rfl) (h2 : X.K = K := by rfl) (h3 : X.mg = mg := by rfl) : ErOk X "InvalidSide" (cl 1) T.fi_InvalidSide "InvalidSide.__init__" "wrong: a side" := ⟨by rw [h1, h2]; exact T.t_InvalidSide, by rw [h3]; exact T.gE_InvalidSide, by rw [h3]; exact T.z_super⟩
theorem Tx.e_InvalidCouples (T : Tx K mg cl) {X : Cx} (h1 : X.prog = P_ := by rfl) (h2 : X.K = K := by rfl) (h3 : X.mg = mg := by rfl) : ErOk X "InvalidCouples" (cl 2) T.fi_InvalidCouples "InvalidCouples.__init__" "wrong: couples" := ⟨by rw [h1, h2]; exact T.t_InvalidCouples, by rw [h3]; exact T.gE_InvalidCouples, by rw [h3]; exact T.z_super⟩
theorem Tx.e_Refused (T : Tx K mg cl) {X : Cx} (h1 : X.prog = P_ := by rfl) (h2 : X.K = K := by rfl) (h3 : X.mg = mg := by rfl) : ErOk X "Refused" (cl 3) T.fi_Refused "Refused.__init__" "refused" := ⟨by rw [h1, h2]; exact T.t_Refused, by rw [h3]; exact T.gE_Refused, by rw [h3]; exact T.z_super⟩
theorem ok_is_integer (T : Tx K mg cl) : FnOk P_ w K mg base (L2.CX P_ w) 1 T.f_is_integer T.fd_is_integer ["value"] (spF K cl (shOf []) [] .fz 1 d_is_integer) :=
  fn_o (k := 0) [] [] (np := 1) T.F_is_integer sc_is_integer rfl (by decide) rfl rfl (by decide) (by decide) (fun h => (by cases h)) (fun cdv A outer s H vs E hr =>
    (fss_cons (fs_ret (fe_and (fe_isi (T := .int) rfl T.z_isinstance bt_isinstance (fe_var 0 rfl) rfl T.z_int bt_int) (fe_one (fe_not (fe_isi (T := .bool) rfl T.z_isinstance bt_isinstance (fe_var 0 rfl) rfl T.z_bool bt_bool)))))
    fss_nil))
theorem ok_is_below (T : Tx K mg cl) : FnOk P_ w K mg base (L2.CX P_ w) 2 T.f_is_below T.fd_is_below ["value", "limit"] (spF K cl (shOf []) [] .fz 2 d_is_below) :=
  fn_o (k := 1) [] [] (np := 2) T.F_is_below sc_is_below rfl (by decide) rfl rfl (by decide) (by decide) (fun h => (by cases h)) (fun cdv A outer s H vs E hr =>
    (fss_cons (fs_ret (fe_and (fe_call (ok_is_integer T) (hr.mono (by decide)) rfl T.g_is_integer T.F_is_integer.kp T.b_is_integer .nil (fun _ => .nil) (takes_of rfl rfl rfl rfl) runF_outs rfl (shN shZ) (shOut rfl) rfl (fam_fz (fe_var 0 rfl) fam_nil)) (fe_one (fe_chain op_le pI_ok op_lt pI_ok fe_int (fe_var 0 rfl) (fe_var 1 rfl)))))
    fss_nil))
theorem ok_is_between (T : Tx K mg cl) : FnOk P_ w K mg base (L2.CX P_ w) 2 T.f_is_between T.fd_is_between ["value", "least", "most"] (spF K cl (shOf []) [] .fz 3 d_is_between) :=
  fn_o (k := 1) [] [] (np := 3) T.F_is_between sc_is_between rfl (by decide) rfl rfl (by decide) (by decide) (fun h => (by cases h)) (fun cdv A outer s H vs E hr =>
    (fss_cons (fs_ret (fe_and (fe_call (ok_is_integer T) (hr.mono (by decide)) rfl T.g_is_integer T.F_is_integer.kp T.b_is_integer .nil (fun _ => .nil) (takes_of rfl rfl rfl rfl) runF_outs rfl (shN shZ) (shOut rfl) rfl (fam_fz (fe_var 0 rfl) fam_nil)) (fe_one (fe_chain op_le pI_ok op_le pI_ok (fe_var 1 rfl) (fe_var 0 rfl) (fe_var 2 rfl)))))
    fss_nil))
theorem ok_is_sequence (T : Tx K mg cl) : FnOk P_ w K mg base (L2.CX P_ w) 1 T.f_is_sequence T.fd_is_sequence ["value"] (spF K cl (shOf []) [] .fz 1 d_is_sequence) :=
  fn_o (k := 0) [] [] (np := 1) T.F_is_sequence sc_is_sequence rfl (by decide) rfl rfl (by decide) (by decide) (fun h => (by cases h)) (fun cdv A outer s H vs E hr =>
    (fss_cons (fs_ret (fe_isi2 (T := .list) (T' := .tuple) rfl T.z_isinstance bt_isinstance (fe_var 0 rfl) rfl T.z_list bt_list rfl T.z_tuple bt_tuple))
    fss_nil))
theorem ok_is_row_of (T : Tx K mg cl) : FnOk P_ w K mg base (L2.CX P_ w) 2 T.f_is_row_of T.fd_is_row_of ["value", "many"] (spF K cl (shOf []) [] .fz 2 d_is_row_of) :=
  fn_o (k := 1) [] [] (np := 2) T.F_is_row_of sc_is_row_of rfl (by decide) rfl rfl (by decide) (by decide) (fun h => (by cases h)) (fun cdv A outer s H vs E hr =>
    (fss_cons (fs_ret (fe_and (fe_call (ok_is_sequence T) (hr.mono (by decide)) rfl T.g_is_sequence T.F_is_sequence.kp T.b_is_sequence .nil (fun _ => .nil) (takes_of rfl rfl rfl rfl) runF_outs rfl (shN shZ) (shOut rfl) rfl (fam_fz (fe_var 0 rfl) fam_nil)) (fe_one (fe_cmp (op_eqD (hu64 hr)) eq_ok (fe_callB call_len len_look.call rfl T.z_len bt_len (fa_cons (fe_var 0 rfl) fa_nil)) (fe_var 1 rfl) rfl))))
    fss_nil))
theorem ok_side_number (T : Tx K mg cl) : FnOk P_ w K mg base (L2.CX P_ w) 1 T.f_side_number T.fd_side_number ["side"] (spF K cl (shOf []) [] .fz 1 d_side_number) :=
  fn_o (k := 0) [] [] (np := 1) T.F_side_number sc_side_number rfl (by decide) rfl rfl (by decide) (by decide) (fun h => (by cases h)) (fun cdv A outer s H vs E hr =>
    (fss_cons (fs_ret (fe_op op_addA add_ok (fe_op op_mul mul_ok fe_int (fe_ix (fe_var 0 rfl) fe_int)) (fe_ix (fe_var 0 rfl) fe_int)))
    fss_nil))
theorem ok_side_of (T : Tx K mg cl) : FnOk P_ w K mg base (L2.CX P_ w) 1 T.f_side_of T.fd_side_of ["number"] (spF K cl (shOf []) [] .fz 1 d_side_of) :=
  fn_o (k := 0) [] [] (np := 1) T.F_side_of sc_side_of rfl (by decide) rfl rfl (by decide) (by decide) (fun h => (by cases h)) (fun cdv A outer s H vs E hr =>
    (fss_cons (fs_ret (fe_tup (fa_cons (fe_op op_fdiv div_ok (fe_var 0 rfl) fe_int) (fa_cons (fe_op op_mod mod_ok (fe_var 0 rfl) fe_int) fa_nil))))
    fss_nil))
theorem ok_is_side (T : Tx K mg cl) : FnOk P_ w K mg base (L2.CX P_ w) 3 T.f_is_side T.fd_is_side ["value", "hedges"] (spF K cl (shOf []) [] .fz 2 d_is_side) :=
  fn_o (k := 2) [] [] (np := 2) T.F_is_side sc_is_side rfl (by decide) rfl rfl (by decide) (by decide) (fun h => (by cases h)) (fun cdv A outer s H vs E hr =>
    (fss_cons (fs_ret (fe_and (fe_call (ok_is_row_of T) (hr.mono (by decide)) rfl T.g_is_row_of T.F_is_row_of.kp T.b_is_row_of .nil (fun _ => .nil) (takes_of rfl rfl rfl rfl) runF_outs rfl (shN (shN shZ)) (shOut rfl) rfl (fam_fz (fe_var 0 rfl) (fam_fz fe_int fam_nil))) (fe_and (fe_call (ok_is_below T) (hr.mono (by decide)) rfl T.g_is_below T.F_is_below.kp T.b_is_below .nil (fun _ => .nil) (takes_of rfl rfl rfl rfl) runF_outs rfl (shN (shN shZ)) (shOut rfl) rfl (fam_fz (fe_ix (fe_var 0 rfl) fe_int) (fam_fz (fe_var 1 rfl) fam_nil))) (fe_one (fe_call (ok_is_below T) (hr.mono (by decide)) rfl T.g_is_below T.F_is_below.kp T.b_is_below .nil (fun _ => .nil) (takes_of rfl rfl rfl rfl) runF_outs rfl (shN (shN shZ)) (shOut rfl) rfl (fam_fz (fe_ix (fe_var 0 rfl) fe_int) (fam_fz fe_int fam_nil)))))))
    fss_nil))
theorem ok_need_side (T : Tx K mg cl) : FnOk P_ w K mg base (L2.CX P_ w) 4 T.f_need_side T.fd_need_side ["value", "at", "hedges"] (spF K cl (shOf []) [] .fz 3 d_need_side) :=
  fn_o (k := 3) [] [] (np := 3) T.F_need_side sc_need_side rfl (by decide) rfl rfl (by decide) (by decide) (fun h => (by cases h)) (fun cdv A outer s H vs E hr =>
    (fss_cons (fs_if (ft_not (ft_val (fe_call (ok_is_side T) (hr.mono (by decide)) rfl T.g_is_side T.F_is_side.kp T.b_is_side .nil (fun _ => .nil) (takes_of rfl rfl rfl rfl) runF_outs rfl (shN (shN shZ)) (shOut rfl) rfl (fam_fz (fe_var 0 rfl) (fam_fz (fe_var 2 rfl) fam_nil))))) (fss_cons (fs_raise rfl (takes_of rfl rfl rfl rfl) (T.e_InvalidSide) rfl hr (fe_var 1 rfl))
    fss_nil) fss_nil)
    (fss_cons (fs_ret (fe_callTy call_tuple_of tuple_call rfl T.z_tuple bt_tuple (fa_cons (fe_var 0 rfl) fa_nil)))
    fss_nil)))
theorem ok_is_couple (T : Tx K mg cl) : FnOk P_ w K mg base (L2.CX P_ w) 4 T.f_is_couple T.fd_is_couple ["value", "hedges"] (spF K cl (shOf []) [] .fz 2 d_is_couple) :=
  fn_o (k := 3) [] [] (np := 2) T.F_is_couple sc_is_couple rfl (by decide) rfl rfl (by decide) (by decide) (fun h => (by cases h)) (fun cdv A outer s H vs E hr =>
    (fss_cons (fs_if (ft_w (fw_or (ft_not (ft_val (fe_call (ok_is_row_of T) (hr.mono (by decide)) rfl T.g_is_row_of T.F_is_row_of.kp T.b_is_row_of .nil (fun _ => .nil) (takes_of rfl rfl rfl rfl) runF_outs rfl (shN (shN shZ)) (shOut rfl) rfl (fam_fz (fe_var 0 rfl) (fam_fz fe_int fam_nil))))) (fw_or (ft_not (ft_val (fe_call (ok_is_side T) (hr.mono (by decide)) rfl T.g_is_side T.F_is_side.kp T.b_is_side .nil (fun _ => .nil) (takes_of rfl rfl rfl rfl) runF_outs rfl (shN (shN shZ)) (shOut rfl) rfl (fam_fz (fe_ix (fe_var 0 rfl) fe_int) (fam_fz (fe_var 1 rfl) fam_nil))))) (fw_or1 (ft_not (ft_val (fe_call (ok_is_side T) (hr.mono (by decide)) rfl T.g_is_side T.F_is_side.kp T.b_is_side .nil (fun _ => .nil) (takes_of rfl rfl rfl rfl) runF_outs rfl (shN (shN shZ)) (shOut rfl) rfl (fam_fz (fe_ix (fe_var 0 rfl) fe_int) (fam_fz (fe_var 1 rfl) fam_nil))))))))) (fss_cons (fs_ret fe_bl)
    fss_nil) fss_nil)
    (fss_cons (fs_ret (fe_or (fe_cmp (op_neD (hu64 hr)) ne_ok (fe_ix (fe_ix (fe_var 0 rfl) fe_int) fe_int) (fe_ix (fe_ix (fe_var 0 rfl) fe_int) fe_int) rfl) (fe_one (fe_cmp (op_eqD (hu64 hr)) eq_ok (fe_ix (fe_ix (fe_var 0 rfl) fe_int) fe_int) (fe_ix (fe_ix (fe_var 0 rfl) fe_int) fe_int) rfl))))
    fss_nil)))
theorem ok_need_couples (T : Tx K mg cl) : FnOk P_ w K mg base (L2.CX P_ w) 5 T.f_need_couples T.fd_need_couples ["hedges", "value"] (spF K cl (shOf []) [] .fz 2 d_need_couples) :=
  fn_o (k := 4) [] [(2, l1)] (np := 2) T.F_need_couples sc_need_couples rfl (by decide) rfl rfl (by decide) (by decide) (fun h => (by cases h)) (fun cdv A outer s H vs E hr =>
    (fss_cons (fs_if (ft_not (ft_val (fe_call (ok_is_between T) (hr.mono (by decide)) rfl T.g_is_between T.F_is_between.kp T.b_is_between .nil (fun _ => .nil) (takes_of rfl rfl rfl rfl) runF_outs rfl (shN (shN (shN shZ))) (shOut rfl) rfl (fam_fz (fe_var 0 rfl) (fam_fz fe_int (fam_fz (fe_glob (v := .int 24) rfl T.c_MOST_HEDGES ⟨_, rfl⟩ (fun _ => .int _)) fam_nil)))))) (fss_cons (fs_raise rfl (takes_of rfl rfl rfl rfl) (T.e_InvalidCount) rfl hr (fe_un un_neg neg_ok fe_int))
    fss_nil) fss_nil)
    (fss_cons (fs_if (ft_w (fw_or (ft_not (ft_val (fe_call (ok_is_sequence T) (hr.mono (by decide)) rfl T.g_is_sequence T.F_is_sequence.kp T.b_is_sequence .nil (fun _ => .nil) (takes_of rfl rfl rfl rfl) runF_outs rfl (shN shZ) (shOut rfl) rfl (fam_fz (fe_var 1 rfl) fam_nil)))) (fw_or1 (ft_cmp op_gt pI_ok (fe_callB call_len len_look.call rfl T.z_len bt_len (fa_cons (fe_var 1 rfl) fa_nil)) (fe_glob (v := .int 1200) rfl T.c_MOST_COUPLES ⟨_, rfl⟩ (fun _ => .int _)) rfl)))) (fss_cons (fs_raise rfl (takes_of rfl rfl rfl rfl) (T.e_InvalidCouples) rfl hr (fe_un un_neg neg_ok fe_int))
    fss_nil) fss_nil)
    (fss_cons (fs_set 2 rfl rfl sc_need_couples.nd rfl (Or.inl rfl) (fe_lst fa_nil))
    (fss_cons (fs_for (passes_of rfl) rfl (fi_enum rfl T.z_enumerate (fe_var 1 rfl)) (fg_tup rfl (fgs_cons (fg_name 3 rfl rfl sc_need_couples.nd rfl (Or.inl rfl)) (fgs_cons (fg_name 4 rfl rfl sc_need_couples.nd rfl (Or.inl rfl)) fgs_nil))) (fss_cons (fs_if (ft_not (ft_val (fe_call (ok_is_couple T) (hr.mono (by decide)) rfl T.g_is_couple T.F_is_couple.kp T.b_is_couple .nil (fun _ => .nil) (takes_of rfl rfl rfl rfl) runF_outs rfl (shN (shN shZ)) (shOut rfl) rfl (fam_fz (fe_var 4 rfl) (fam_fz (fe_var 0 rfl) fam_nil))))) (fss_cons (fs_raise rfl (takes_of rfl rfl rfl rfl) (T.e_InvalidCouples) rfl hr (fe_var 3 rfl))
    fss_nil) fss_nil)
    (fss_cons (fs_expr (fe_mutN PySem.F.slot_list_append PySem.F.type_list_append mt_append append_ok rfl (fa_cons (fe_tup (fa_cons (fe_call (ok_side_number T) (hr.mono (by decide)) rfl T.g_side_number T.F_side_number.kp T.b_side_number .nil (fun _ => .nil) (takes_of rfl rfl rfl rfl) runF_outs rfl (shN shZ) (shOut rfl) rfl (fam_fz (fe_ix (fe_var 4 rfl) fe_int) fam_nil)) (fa_cons (fe_call (ok_side_number T) (hr.mono (by decide)) rfl T.g_side_number T.F_side_number.kp T.b_side_number .nil (fun _ => .nil) (takes_of rfl rfl rfl rfl) runF_outs rfl (shN shZ) (shOut rfl) rfl (fam_fz (fe_ix (fe_var 4 rfl) fe_int) fam_nil)) fa_nil))) fa_nil)))
    fss_nil)))
    (fss_cons (fs_ret (fe_fz (fe_move 2 rfl)))
    fss_nil))))))
theorem ok_brought (T : Tx K mg cl) : FnOk P_ w K mg base (L2.CX P_ w) 1 T.f_brought T.fd_brought ["hedges", "pairs"] (spF K cl (shOf []) [] .fz 2 d_brought) :=
  fn_o (k := 0) [] [(2, l1)] (np := 2) T.F_brought sc_brought rfl (by decide) rfl rfl (by decide) (by decide) (fun h => (by cases h)) (fun cdv A outer s H vs E hr =>
    (fss_cons (fs_set 2 rfl rfl sc_brought.nd rfl (Or.inl rfl) (fe_rep (fe_lst (fa_cons fe_int fa_nil)) (fe_op op_mul mul_ok fe_int (fe_var 0 rfl))))
    (fss_cons (fs_for (passes_of rfl) rfl (fi_seq (fe_var 1 rfl)) (fg_tup rfl (fgs_cons (fg_name 3 rfl rfl sc_brought.nd rfl (Or.inl rfl)) (fgs_cons (fg_name 4 rfl rfl sc_brought.nd rfl (Or.inl rfl)) fgs_nil))) (fss_cons (fs_store (s := l1) rfl (fe_op op_or or_ok (fe_pl (s := l1) rfl (fpl_ix (s := l1) rfl (fpl_name 2) (fe_var 3 rfl))) (fe_op op_shl shl_ok fe_int (fe_op op_xor xor_ok (fe_var 4 rfl) fe_int))) (fpl_name 2) (fe_var 3 rfl))
    (fss_cons (fs_store (s := l1) rfl (fe_op op_or or_ok (fe_pl (s := l1) rfl (fpl_ix (s := l1) rfl (fpl_name 2) (fe_var 4 rfl))) (fe_op op_shl shl_ok fe_int (fe_op op_xor xor_ok (fe_var 3 rfl) fe_int))) (fpl_name 2) (fe_var 4 rfl))
    fss_nil)))
    (fss_cons (fs_ret (fe_fz (fe_move 2 rfl)))
    fss_nil))))
theorem ok_led_table (T : Tx K mg cl) : FnOk P_ w K mg base (L2.CX P_ w) 2 T.f_led_table T.fd_led_table ["hedges", "pairs"] (spF K cl (shOf []) [] .fz 2 d_led_table) :=
  fn_o (k := 1) [] [(2, l1)] (np := 2) T.F_led_table sc_led_table rfl (by decide) rfl rfl (by decide) (by decide) (fun h => (by cases h)) (fun cdv A outer s H vs E hr =>
    (fss_cons (fs_setLcv [("number", 4), ("mask", 5)] 2 (.inr rfl) rfl rfl rfl rfl rfl rfl rfl rfl sc_led_table.nd (fi_enum rfl T.z_enumerate (fe_call (ok_brought T) (hr.mono (by decide)) rfl T.g_brought T.F_brought.kp T.b_brought .nil (fun _ => .nil) (takes_of rfl rfl rfl rfl) runF_outs rfl (shN (shN shZ)) (shOut rfl) rfl (fam_fz (fe_var 0 rfl) (fam_fz (fe_var 1 rfl) fam_nil)))) (blkOk_by (N := ["hedges", "pairs", "found", "inner", "number", "mask"]) (sc := defScope s_led_table) (own := [("number", 4), ("mask", 5)]) (by decide +kernel)) (by decide) (fun k hk => by simp only [List.mem_cons, List.not_mem_nil, or_false] at hk; rcases hk with rfl | rfl <;> rfl) (fun k hk => by simp only [List.mem_cons, List.not_mem_nil, or_false] at hk; rcases hk with rfl | rfl <;> rfl) (fun _ _ _ _ _ => (fg_tup rfl (fgs_cons (fg_name 4 rfl rfl sc_led_table.nd rfl (Or.inl rfl)) (fgs_cons (fg_name 5 rfl rfl sc_led_table.nd rfl (Or.inl rfl)) fgs_nil)))) (fun _ _ _ _ _ => fts_nil) (fun _ _ _ _ _ => (fe_op op_or or_ok (fe_var 5 rfl) (fe_op op_shl shl_ok fe_int (fe_var 4 rfl)))))
    (fss_cons (fs_for (passes_of rfl) rfl (fi_rng1 rfl T.z_range (fe_op op_mul mul_ok fe_int (fe_var 0 rfl))) (fg_name 3 rfl rfl sc_led_table.nd rfl (Or.inl rfl)) (fss_cons (fs_for (passes_of rfl) rfl (fi_rng1 rfl T.z_range (fe_op op_mul mul_ok fe_int (fe_var 0 rfl))) (fg_name 4 rfl rfl sc_led_table.nd rfl (Or.inl rfl)) (fss_cons (fs_if (ft_tru (fe_op op_and and_ok (fe_op op_shr shr_ok (fe_pl (s := l1) rfl (fpl_ix (s := l1) rfl (fpl_name 2) (fe_var 4 rfl))) (fe_var 3 rfl)) fe_int)) (fss_cons (fs_store (s := l1) rfl (fe_op op_or or_ok (fe_pl (s := l1) rfl (fpl_ix (s := l1) rfl (fpl_name 2) (fe_var 4 rfl))) (fe_pl (s := l1) rfl (fpl_ix (s := l1) rfl (fpl_name 2) (fe_var 3 rfl)))) (fpl_name 2) (fe_var 4 rfl))
    fss_nil) fss_nil)
    fss_nil))
    fss_nil))
    (fss_cons (fs_ret (fe_fz (fe_move 2 rfl)))
    fss_nil))))
theorem ok_numbers_of (T : Tx K mg cl) : FnOk P_ w K mg base (L2.CX P_ w) 1 T.f_numbers_of T.fd_numbers_of ["mask"] (spF K cl (shOf []) [] .fz 1 d_numbers_of) :=
  fn_o (k := 0) [] [] (np := 1) T.F_numbers_of sc_numbers_of rfl (by decide) rfl rfl (by decide) (by decide) (fun h => (by cases h)) (fun cdv A outer s H vs E hr =>
    (fss_cons (fs_ret (fe_fz (fe_lcv [("number", 1)] rfl rfl sc_numbers_of.nd (fi_rng1 rfl T.z_range (fe_bits (fe_var 0 rfl))) (blkOk_by (N := ["mask", "number"]) (sc := defScope s_numbers_of) (own := [("number", 1)]) (by decide +kernel)) (by decide) (fun k hk => by simp only [List.mem_cons, List.not_mem_nil, or_false] at hk; rcases hk with rfl <;> rfl) (fun k hk => by simp only [List.mem_cons, List.not_mem_nil, or_false] at hk; rcases hk with rfl <;> rfl) (fun _ _ _ _ _ => (fg_name 1 rfl rfl sc_numbers_of.nd rfl (Or.inl rfl))) (fun _ _ _ _ _ => (fts_one (ft_tru (fe_op op_and and_ok (fe_op op_shr shr_ok (fe_var 0 rfl) (fe_var 1 rfl)) fe_int)))) (fun _ _ _ _ _ => (fe_var 1 rfl)))))
    fss_nil))
theorem ok_exchanged (T : Tx K mg cl) : FnOk P_ w K mg base (L2.CX P_ w) 2 T.f_exchanged T.fd_exchanged ["mask"] (spF K cl (shOf []) [] .fz 1 d_exchanged) :=
  fn_o (k := 1) [] [] (np := 1) T.F_exchanged sc_exchanged rfl (by decide) rfl rfl (by decide) (by decide) (fun h => (by cases h)) (fun cdv A outer s H vs E hr =>
    (fss_cons (fs_ret (fe_callB (cr_sum rfl) sum_look.call rfl T.z_sum bt_sum (fa_cons (fe_fz (fe_lcv [("number", 1)] rfl rfl sc_exchanged.nd (fi_seq (fe_call (ok_numbers_of T) (hr.mono (by decide)) rfl T.g_numbers_of T.F_numbers_of.kp T.b_numbers_of .nil (fun _ => .nil) (takes_of rfl rfl rfl rfl) runF_outs rfl (shN shZ) (shOut rfl) rfl (fam_fz (fe_var 0 rfl) fam_nil))) (blkOk_by (N := ["mask", "number"]) (sc := defScope s_exchanged) (own := [("number", 1)]) (by decide +kernel)) (by decide) (fun k hk => by simp only [List.mem_cons, List.not_mem_nil, or_false] at hk; rcases hk with rfl <;> rfl) (fun k hk => by simp only [List.mem_cons, List.not_mem_nil, or_false] at hk; rcases hk with rfl <;> rfl) (fun _ _ _ _ _ => (fg_name 1 rfl rfl sc_exchanged.nd rfl (Or.inl rfl))) (fun _ _ _ _ _ => fts_nil) (fun _ _ _ _ _ => (fe_op op_shl shl_ok fe_int (fe_op op_xor xor_ok (fe_var 1 rfl) fe_int))))) fa_nil)))
    fss_nil))
theorem ok_closed_table (T : Tx K mg cl) : FnOk P_ w K mg base (L2.CX P_ w) 3 T.f_closed_table T.fd_closed_table ["hedges", "pairs"] (spF K cl (shOf []) [] .fz 2 d_closed_table) :=
  fn_o (k := 2) [] [(5, l1)] (np := 2) T.F_closed_table sc_closed_table rfl (by decide) rfl rfl (by decide) (by decide) (fun h => (by cases h)) (fun cdv A outer s H vs E hr =>
    (fss_cons (fs_set 2 rfl rfl sc_closed_table.nd rfl (Or.inr rfl) (fe_call (ok_led_table T) (hr.mono (by decide)) rfl T.g_led_table T.F_led_table.kp T.b_led_table .nil (fun _ => .nil) (takes_of rfl rfl rfl rfl) runF_outs rfl (shN (shN shZ)) (shOut rfl) rfl (fam_fz (fe_var 0 rfl) (fam_fz (fe_var 1 rfl) fam_nil))))
    (fss_cons (fs_set 3 rfl rfl sc_closed_table.nd rfl (Or.inr rfl) (fe_op op_sub sub_ok (fe_op op_shl shl_ok fe_int (fe_op op_mul mul_ok fe_int (fe_var 0 rfl))) fe_int))
    (fss_cons (fs_set 4 rfl rfl sc_closed_table.nd rfl (Or.inr rfl) (fe_fz (fe_lcv [("number", 6)] rfl rfl sc_closed_table.nd (fi_rng1 rfl T.z_range (fe_op op_mul mul_ok fe_int (fe_var 0 rfl))) (blkOk_by (N := ["hedges", "pairs", "led", "every", "empty", "found", "number", "other", "mask"]) (sc := defScope s_closed_table) (own := [("number", 6)]) (by decide +kernel)) (by decide) (fun k hk => by simp only [List.mem_cons, List.not_mem_nil, or_false] at hk; rcases hk with rfl <;> rfl) (fun k hk => by simp only [List.mem_cons, List.not_mem_nil, or_false] at hk; rcases hk with rfl <;> rfl) (fun _ _ _ _ _ => (fg_name 6 rfl rfl sc_closed_table.nd rfl (Or.inl rfl))) (fun _ _ _ _ _ => (fts_one (ft_tru (fe_op op_and and_ok (fe_op op_shr shr_ok (fe_ix (fe_var 2 rfl) (fe_var 6 rfl)) (fe_op op_xor xor_ok (fe_var 6 rfl) fe_int)) fe_int)))) (fun _ _ _ _ _ => (fe_var 6 rfl)))))
    (fss_cons (fs_if (ft_val (fe_callB (cr_any rfl) any_look.call rfl T.z_any bt_any (fa_cons (fe_fz (fe_lcv [("number", 6)] rfl rfl sc_closed_table.nd (fi_seq (fe_var 4 rfl)) (blkOk_by (N := ["hedges", "pairs", "led", "every", "empty", "found", "number", "other", "mask"]) (sc := defScope s_closed_table) (own := [("number", 6)]) (by decide +kernel)) (by decide) (fun k hk => by simp only [List.mem_cons, List.not_mem_nil, or_false] at hk; rcases hk with rfl <;> rfl) (fun k hk => by simp only [List.mem_cons, List.not_mem_nil, or_false] at hk; rcases hk with rfl <;> rfl) (fun _ _ _ _ _ => (fg_name 6 rfl rfl sc_closed_table.nd rfl (Or.inl rfl))) (fun _ _ _ _ _ => fts_nil) (fun _ _ _ _ _ => (fe_cmp (op_in2 (hu65 hr)) in2_ok (fe_op op_xor xor_ok (fe_var 6 rfl) fe_int) (fe_var 4 rfl) rfl)))) fa_nil))) (fss_cons (fs_ret (fe_fz (fe_lcv [("number", 6)] rfl rfl sc_closed_table.nd (fi_rng1 rfl T.z_range (fe_op op_mul mul_ok fe_int (fe_var 0 rfl))) (blkOk_by (N := ["hedges", "pairs", "led", "every", "empty", "found", "number", "other", "mask"]) (sc := defScope s_closed_table) (own := [("number", 6)]) (by decide +kernel)) (by decide) (fun k hk => by simp only [List.mem_cons, List.not_mem_nil, or_false] at hk; rcases hk with rfl <;> rfl) (fun k hk => by simp only [List.mem_cons, List.not_mem_nil, or_false] at hk; rcases hk with rfl <;> rfl) (fun _ _ _ _ _ => (fg_name 6 rfl rfl sc_closed_table.nd rfl (Or.inl rfl))) (fun _ _ _ _ _ => fts_nil) (fun _ _ _ _ _ => (fe_op op_and and_ok (fe_var 3 rfl) (fe_un un_inv inv_ok (fe_op op_shl shl_ok fe_int (fe_op op_xor xor_ok (fe_var 6 rfl) fe_int))))))))
    fss_nil) fss_nil)
    (fss_cons (fs_setLcv [("number", 6), ("mask", 8)] 5 (.inr rfl) rfl rfl rfl rfl rfl rfl rfl rfl sc_closed_table.nd (fi_enum rfl T.z_enumerate (fe_var 2 rfl)) (blkOk_by (N := ["hedges", "pairs", "led", "every", "empty", "found", "number", "other", "mask"]) (sc := defScope s_closed_table) (own := [("number", 6), ("mask", 8)]) (by decide +kernel)) (by decide) (fun k hk => by simp only [List.mem_cons, List.not_mem_nil, or_false] at hk; rcases hk with rfl | rfl <;> rfl) (fun k hk => by simp only [List.mem_cons, List.not_mem_nil, or_false] at hk; rcases hk with rfl | rfl <;> rfl) (fun _ _ _ _ _ => (fg_tup rfl (fgs_cons (fg_name 6 rfl rfl sc_closed_table.nd rfl (Or.inl rfl)) (fgs_cons (fg_name 8 rfl rfl sc_closed_table.nd rfl (Or.inl rfl)) fgs_nil)))) (fun _ _ _ _ _ => fts_nil) (fun _ _ _ _ _ => (fe_op op_and and_ok (fe_call (ok_exchanged T) (hr.mono (by decide)) rfl T.g_exchanged T.F_exchanged.kp T.b_exchanged .nil (fun _ => .nil) tkQ runF_outs rfl (shN shZ) (shOut rfl) rfl (fam_fz (fe_var 8 rfl) fam_nil)) (fe_un un_inv inv_ok (fe_op op_shl shl_ok fe_int (fe_op op_xor xor_ok (fe_var 6 rfl) fe_int))))))
    (fss_cons (fs_for (passes_of rfl) rfl (fi_seq (fe_var 4 rfl)) (fg_name 6 rfl rfl sc_closed_table.nd rfl (Or.inl rfl)) (fss_cons (fs_store (s := l1) rfl (fe_op op_and and_ok (fe_var 3 rfl) (fe_un un_inv inv_ok (fe_op op_shl shl_ok fe_int (fe_op op_xor xor_ok (fe_var 6 rfl) fe_int)))) (fpl_name 5) (fe_var 6 rfl))
    (fss_cons (fs_for (passes_of rfl) rfl (fi_rng1 rfl T.z_range (fe_op op_mul mul_ok fe_int (fe_var 0 rfl))) (fg_name 7 rfl rfl sc_closed_table.nd rfl (Or.inl rfl)) (fss_cons (fs_if (ft_cmp (op_neD (hu64 hr)) ne_ok (fe_var 7 rfl) (fe_op op_xor xor_ok (fe_var 6 rfl) fe_int) rfl) (fss_cons (fs_store (s := l1) rfl (fe_op op_or or_ok (fe_pl (s := l1) rfl (fpl_ix (s := l1) rfl (fpl_name 5) (fe_var 7 rfl))) (fe_op op_shl shl_ok fe_int (fe_var 6 rfl))) (fpl_name 5) (fe_var 7 rfl))
    fss_nil) fss_nil)
    fss_nil))
    fss_nil)))
    (fss_cons (fs_ret (fe_fz (fe_move 5 rfl)))
    fss_nil))))))))
theorem ok_couples_told (T : Tx K mg cl) : FnOk P_ w K mg base (L2.CX P_ w) 2 T.f_couples_told T.fd_couples_told ["table"] (spF K cl (shOf []) [] .fz 1 d_couples_told) :=
  fn_o (k := 1) [] [(1, l1)] (np := 1) T.F_couples_told sc_couples_told rfl (by decide) rfl rfl (by decide) (by decide) (fun h => (by cases h)) (fun cdv A outer s H vs E hr =>
    (fss_cons (fs_set 1 rfl rfl sc_couples_told.nd rfl (Or.inl rfl) (fe_lst fa_nil))
    (fss_cons (fs_for (passes_of rfl) rfl (fi_enum rfl T.z_enumerate (fe_var 0 rfl)) (fg_tup rfl (fgs_cons (fg_name 2 rfl rfl sc_couples_told.nd rfl (Or.inr rfl)) (fgs_cons (fg_name 3 rfl rfl sc_couples_told.nd rfl (Or.inl rfl)) fgs_nil))) (fss_cons (fs_expr (fe_ext rfl (fe_lcv [("other", 4)] rfl rfl sc_couples_told.nd (fi_seq (fe_call (ok_numbers_of T) (hr.mono (by decide)) rfl T.g_numbers_of T.F_numbers_of.kp T.b_numbers_of .nil (fun _ => .nil) (takes_of rfl rfl rfl rfl) runF_outs rfl (shN shZ) (shOut rfl) rfl (fam_fz (fe_var 3 rfl) fam_nil))) (blkOk_by (N := ["table", "found", "number", "mask", "other"]) (sc := defScope s_couples_told) (own := [("other", 4)]) (by decide +kernel)) (by decide) (fun k hk => by simp only [List.mem_cons, List.not_mem_nil, or_false] at hk; rcases hk with rfl <;> rfl) (fun k hk => by simp only [List.mem_cons, List.not_mem_nil, or_false] at hk; rcases hk with rfl <;> rfl) (fun _ _ _ _ _ => (fg_name 4 rfl rfl sc_couples_told.nd rfl (Or.inl rfl))) (fun _ _ _ _ _ => (fts_one (ft_cmp op_ge pI_ok (fe_var 4 rfl) (fe_var 2 rfl) rfl))) (fun _ _ _ _ _ => (fe_tup (fa_cons (fe_call (ok_side_of T) (hr.mono (by decide)) rfl T.g_side_of T.F_side_of.kp T.b_side_of .nil (fun _ => .nil) tkQ runF_outs rfl (shN shZ) (shOut rfl) rfl (fam_fz (fe_var 2 rfl) fam_nil)) (fa_cons (fe_call (ok_side_of T) (hr.mono (by decide)) rfl T.g_side_of T.F_side_of.kp T.b_side_of .nil (fun _ => .nil) tkQ runF_outs rfl (shN shZ) (shOut rfl) rfl (fam_fz (fe_var 4 rfl) fam_nil)) fa_nil)))))))
    fss_nil))
    (fss_cons (fs_ret (fe_callTy call_tuple_of tuple_call rfl T.z_tuple bt_tuple (fa_cons (fe_fz (fe_move 1 rfl)) fa_nil)))
    fss_nil))))
theorem ok_closed_couples (T : Tx K mg cl) : FnOk P_ w K mg base (L2.CX P_ w) 6 T.f_closed_couples T.fd_closed_couples ["hedges", "couples"] (spF K cl (shOf []) [] .fz 2 d_closed_couples) :=
  fn_o (k := 5) [] [] (np := 2) T.F_closed_couples sc_closed_couples rfl (by decide) rfl rfl (by decide) (by decide) (fun h => (by cases h)) (fun cdv A outer s H vs E hr =>
    (fss_cons (fs_ret (fe_call (ok_couples_told T) (hr.mono (by decide)) rfl T.g_couples_told T.F_couples_told.kp T.b_couples_told .nil (fun _ => .nil) (takes_of rfl rfl rfl rfl) runF_outs rfl (shN shZ) (shOut rfl) rfl (fam_fz (fe_call (ok_closed_table T) (hr.mono (by decide)) rfl T.g_closed_table T.F_closed_table.kp T.b_closed_table .nil (fun _ => .nil) (takes_of rfl rfl rfl rfl) runF_outs rfl (shN (shN shZ)) (shOut rfl) rfl (fam_fz (fe_var 0 rfl) (fam_fz (fe_call (ok_need_couples T) (hr.mono (by decide)) rfl T.g_need_couples T.F_need_couples.kp T.b_need_couples .nil (fun _ => .nil) (takes_of rfl rfl rfl rfl) runF_outs rfl (shN (shN shZ)) (shOut rfl) rfl (fam_fz (fe_var 0 rfl) (fam_fz (fe_var 1 rfl) fam_nil))) fam_nil))) fam_nil)))
    fss_nil))
theorem ok_need_question (T : Tx K mg cl) : FnOk P_ w K mg base (L2.CX P_ w) 6 T.f_need_question T.fd_need_question ["hedges", "couples", "one", "other"] (spF K cl (shOf []) [] .fz 4 d_need_question) :=
  fn_o (k := 5) [] [] (np := 4) T.F_need_question sc_need_question rfl (by decide) rfl rfl (by decide) (by decide) (fun h => (by cases h)) (fun cdv A outer s H vs E hr =>
    (fss_cons (fs_set 4 rfl rfl sc_need_question.nd rfl (Or.inl rfl) (fe_call (ok_need_couples T) (hr.mono (by decide)) rfl T.g_need_couples T.F_need_couples.kp T.b_need_couples .nil (fun _ => .nil) (takes_of rfl rfl rfl rfl) runF_outs rfl (shN (shN shZ)) (shOut rfl) rfl (fam_fz (fe_var 0 rfl) (fam_fz (fe_var 1 rfl) fam_nil))))
    (fss_cons (fs_par rfl rfl rfl sc_need_question.nd rfl rfl (by decide) rfl rfl (fe_call (ok_need_side T) (hr.mono (by decide)) rfl T.g_need_side T.F_need_side.kp T.b_need_side .nil (fun _ => .nil) (takes_of rfl rfl rfl rfl) runF_outs rfl (shN (shN (shN shZ))) (shOut rfl) rfl (fam_fz (fe_var 2 rfl) (fam_fz fe_int (fam_fz (fe_var 0 rfl) fam_nil)))) (fe_call (ok_need_side T) (hr.mono (by decide)) rfl T.g_need_side T.F_need_side.kp T.b_need_side .nil (fun _ => .nil) (takes_of rfl rfl rfl rfl) runF_outs rfl (shN (shN (shN shZ))) (shOut rfl) rfl (fam_fz (fe_var 3 rfl) (fam_fz fe_int (fam_fz (fe_var 0 rfl) fam_nil)))) rfl)
    (fss_cons (fs_if (ft_w (fw_and (ft_cmp (op_eqD (hu64 hr)) eq_ok (fe_ix (fe_var 5 rfl) fe_int) (fe_ix (fe_var 6 rfl) fe_int) rfl) (fw_and1 (ft_cmp (op_neD (hu64 hr)) ne_ok (fe_ix (fe_var 5 rfl) fe_int) (fe_ix (fe_var 6 rfl) fe_int) rfl)))) (fss_cons (fs_raise rfl (takes_of rfl rfl rfl rfl) (T.e_Refused) rfl hr fe_str)
    fss_nil) fss_nil)
    (fss_cons (fs_ret (fe_tup (fa_cons (fe_var 4 rfl) (fa_cons (fe_call (ok_side_number T) (hr.mono (by decide)) rfl T.g_side_number T.F_side_number.kp T.b_side_number .nil (fun _ => .nil) (takes_of rfl rfl rfl rfl) runF_outs rfl (shN shZ) (shOut rfl) rfl (fam_fz (fe_var 5 rfl) fam_nil)) (fa_cons (fe_call (ok_side_number T) (hr.mono (by decide)) rfl T.g_side_number T.F_side_number.kp T.b_side_number .nil (fun _ => .nil) (takes_of rfl rfl rfl rfl) runF_outs rfl (shN shZ) (shOut rfl) rfl (fam_fz (fe_var 6 rfl) fam_nil)) fa_nil)))))
    fss_nil)))))
theorem ok_follows (T : Tx K mg cl) : FnOk P_ w K mg base (L2.CX P_ w) 7 T.f_follows T.fd_follows ["hedges", "couples", "one", "other"] (spF K cl (shOf []) [] .fz 4 d_follows) :=
  fn_o (k := 6) [] [] (np := 4) T.F_follows sc_follows rfl (by decide) rfl rfl (by decide) (by decide) (fun h => (by cases h)) (fun cdv A outer s H vs E hr =>
    (fss_cons (fs_asg (fe_call (ok_need_question T) (hr.mono (by decide)) rfl T.g_need_question T.F_need_question.kp T.b_need_question .nil (fun _ => .nil) (takes_of rfl rfl rfl rfl) runF_outs rfl (shN (shN (shN (shN shZ)))) (shOut rfl) rfl (fam_fz (fe_var 0 rfl) (fam_fz (fe_var 1 rfl) (fam_fz (fe_var 2 rfl) (fam_fz (fe_var 3 rfl) fam_nil))))) (fg_tup rfl (fgs_cons (fg_name 4 rfl rfl sc_follows.nd rfl (Or.inl rfl)) (fgs_cons (fg_name 5 rfl rfl sc_follows.nd rfl (Or.inl rfl)) (fgs_cons (fg_name 6 rfl rfl sc_follows.nd rfl (Or.inl rfl)) fgs_nil)))))
    (fss_cons (fs_ret (fe_cmp (op_eqD (hu64 hr)) eq_ok (fe_op op_and and_ok (fe_op op_shr shr_ok (fe_ix (fe_call (ok_closed_table T) (hr.mono (by decide)) rfl T.g_closed_table T.F_closed_table.kp T.b_closed_table .nil (fun _ => .nil) (takes_of rfl rfl rfl rfl) runF_outs rfl (shN (shN shZ)) (shOut rfl) rfl (fam_fz (fe_var 0 rfl) (fam_fz (fe_var 4 rfl) fam_nil))) (fe_var 5 rfl)) (fe_var 6 rfl)) fe_int) fe_int rfl))
    fss_nil)))
theorem ok__law_box (T : Tx K mg cl) : FnOk P_ w K mg base (L2.CX P_ w) 1 T.f__law_box T.fd__law_box ["script"] (spF K cl (shOf []) [] boxSh 1 d__law_box) :=
  fn_o (k := 0) [] [] (np := 1) T.F__law_box sc__law_box rfl (by decide) rfl rfl (by decide) (by decide) (fun h => (by cases h)) (fun cdv A outer s H vs E hr =>
    (fss_cons (fs_setLcv [("cell", 3)] 1 (.inl rfl) rfl rfl rfl rfl rfl rfl rfl rfl sc__law_box.nd (fi_seq (fe_sl (fe_var 0 rfl) fo_none (fo_some fe_int))) (blkOk_by (N := ["script", "cells", "blend", "cell"]) (sc := defScope s__law_box) (own := [("cell", 3)]) (by decide +kernel)) (by decide) (fun k hk => by simp only [List.mem_cons, List.not_mem_nil, or_false] at hk; rcases hk with rfl <;> rfl) (fun k hk => by simp only [List.mem_cons, List.not_mem_nil, or_false] at hk; rcases hk with rfl <;> rfl) (fun _ _ _ _ _ => (fg_name 3 rfl rfl sc__law_box.nd rfl (Or.inl rfl))) (fun _ _ _ _ _ => fts_nil) (fun _ _ _ _ _ => (fe_callB call_abs abs_look.call rfl T.z_abs bt_abs (fa_cons (fe_callTy call_int1 int_look.call rfl T.z_int bt_int (fa_cons (fe_var 3 rfl) fa_nil)) fa_nil))))
    (fss_cons (fs_set 2 rfl rfl sc__law_box.nd rfl (Or.inl rfl) fe_int)
    (fss_cons (fs_for (passes_of rfl) rfl (fi_seq (fe_var 1 rfl)) (fg_name 3 rfl rfl sc__law_box.nd rfl (Or.inl rfl)) (fss_cons (fs_set 2 rfl rfl sc__law_box.nd rfl (Or.inl rfl) (fe_op op_mod mod_ok (fe_callTy call_int1 int_look.call rfl T.z_int bt_int (fa_cons (fe_op op_addA add_ok (fe_op op_addA add_ok (fe_op op_mul mul_ok (fe_var 2 rfl) fe_int) (fe_op op_mod mod_ok (fe_callTy call_int1 int_look.call rfl T.z_int bt_int (fa_cons (fe_var 3 rfl) fa_nil)) fe_int)) fe_int) fa_nil)) fe_int))
    fss_nil))
    (fss_cons (fs_ret (fe_lstO (fe_lcv [("cell", 3)] rfl rfl sc__law_box.nd (fi_seq (fe_var 1 rfl)) (blkOk_by (N := ["script", "cells", "blend", "cell"]) (sc := defScope s__law_box) (own := [("cell", 3)]) (by decide +kernel)) (by decide) (fun k hk => by simp only [List.mem_cons, List.not_mem_nil, or_false] at hk; rcases hk with rfl <;> rfl) (fun k hk => by simp only [List.mem_cons, List.not_mem_nil, or_false] at hk; rcases hk with rfl <;> rfl) (fun _ _ _ _ _ => (fg_name 3 rfl rfl sc__law_box.nd rfl (Or.inl rfl))) (fun _ _ _ _ _ => (fts_one (ft_cmp op_ge pI_ok (fe_var 3 rfl) (fe_op op_pow pow_ok fe_int fe_int) rfl))) (fun _ _ _ _ _ => (fe_var 3 rfl))) (fe_var 2 rfl)))
    fss_nil)))))
theorem ok__law_draw (T : Tx K mg cl) : FnOk P_ w K mg base (L2.CX P_ w) 1 T.f__law_draw T.fd__law_draw ["box", "many"] (spF K cl (shOf [(0, boxSh)]) [0] .fz 2 d__law_draw) :=
  fn_o (k := 0) [(0, boxSh)] [] (np := 2) T.F__law_draw sc__law_draw rfl (by decide) rfl rfl (by decide) (by decide) (fun h => (by cases h)) (fun cdv A outer s H vs E hr =>
    (fss_cons (fs_for (passes_of rfl) rfl (fi_rng1 rfl T.z_range fe_int) (fg_name 2 rfl rfl sc__law_draw.nd rfl (Or.inl rfl)) (fss_cons (fs_if (ft_w (fw_and (ft_cmpL (op_neD (hu64 hr)) ne_ok (fk_pl (s := boxSh) rfl (fpl_ix (s := boxSh) rfl (fpl_name 0) fe_int)) still_nil rfl) (fw_and1 (ft_cmp (op_eqD (hu64 hr)) eq_ok (fe_pl (s := boxSh) rfl (fpl_ix (s := boxSh) rfl (fpl_ix (s := boxSh) rfl (fpl_name 0) fe_int) fe_int)) fe_int rfl)))) (fss_cons (fs_expr (fe_mut (s := boxSh) PySem.F.slot_list_pop PySem.F.type_list_pop mt_popAt popAt_ok rfl (fpl_ix (s := boxSh) rfl (fpl_name 0) fe_int) (fa_cons fe_int fa_nil)))
    fss_nil) fss_nil)
    fss_nil))
    (fss_cons (fs_if (ft_cmpL (op_neD (hu64 hr)) ne_ok (fk_pl (s := boxSh) rfl (fpl_ix (s := boxSh) rfl (fpl_name 0) fe_int)) still_nil rfl) (fss_cons (fs_set 3 rfl rfl sc__law_draw.nd rfl (Or.inl rfl) (fe_callTy call_int1 int_look.call rfl T.z_int bt_int (fa_cons (fe_mut (s := boxSh) PySem.F.slot_list_pop PySem.F.type_list_pop mt_popAt popAt_ok rfl (fpl_ix (s := boxSh) rfl (fpl_name 0) fe_int) (fa_cons fe_int fa_nil)) fa_nil)))
    (fss_cons (fs_expr (fe_mut (s := boxSh) PySem.F.slot_list_insert PySem.F.type_list_insert mt_insert insert_ok rfl (fpl_ix (s := boxSh) rfl (fpl_name 0) fe_int) (fa_cons fe_int (fa_cons (fe_op op_fdiv div_ok (fe_var 3 rfl) (fe_var 1 rfl)) fa_nil))))
    (fss_cons (fs_ret (fe_op op_mod mod_ok (fe_callTy call_int1 int_look.call rfl T.z_int bt_int (fa_cons (fe_var 3 rfl) fa_nil)) (fe_var 1 rfl)))
    fss_nil))) fss_nil)
    (fss_cons (fs_store (s := boxSh) rfl (fe_op op_mod mod_ok (fe_callTy call_int1 int_look.call rfl T.z_int bt_int (fa_cons (fe_op op_addA add_ok (fe_op op_mul mul_ok (fe_pl (s := boxSh) rfl (fpl_ix (s := boxSh) rfl (fpl_name 0) fe_int)) fe_int) fe_int) fa_nil)) fe_int) (fpl_name 0) fe_int)
    (fss_cons (fs_set 4 rfl rfl sc__law_draw.nd rfl (Or.inl rfl) (fe_pl (s := boxSh) rfl (fpl_ix (s := boxSh) rfl (fpl_name 0) fe_int)))
    (fss_cons (fs_for (passes_of rfl) rfl (fi_rng1 rfl T.z_range fe_int) (fg_name 2 rfl rfl sc__law_draw.nd rfl (Or.inl rfl)) (fss_cons (fs_if (ft_cmp op_gt pI_ok (fe_var 1 rfl) (fe_op op_pow pow_ok fe_int fe_int) rfl) (fss_cons (fs_store (s := boxSh) rfl (fe_op op_mod mod_ok (fe_callTy call_int1 int_look.call rfl T.z_int bt_int (fa_cons (fe_op op_addA add_ok (fe_op op_mul mul_ok (fe_pl (s := boxSh) rfl (fpl_ix (s := boxSh) rfl (fpl_name 0) fe_int)) fe_int) fe_int) fa_nil)) fe_int) (fpl_name 0) fe_int)
    (fss_cons (fs_set 4 rfl rfl sc__law_draw.nd rfl (Or.inl rfl) (fe_op op_addA add_ok (fe_op op_mul mul_ok (fe_var 4 rfl) fe_int) (fe_pl (s := boxSh) rfl (fpl_ix (s := boxSh) rfl (fpl_name 0) fe_int))))
    fss_nil)) fss_nil)
    fss_nil))
    (fss_cons (fs_ret (fe_op op_mod mod_ok (fe_callTy call_int1 int_look.call rfl T.z_int bt_int (fa_cons (fe_op op_fdiv div_ok (fe_var 4 rfl) fe_int) fa_nil)) (fe_var 1 rfl)))
    fss_nil)))))))
theorem ok__law_pick (T : Tx K mg cl) : FnOk P_ w K mg base (L2.CX P_ w) 2 T.f__law_pick T.fd__law_pick ["box", "some"] (spF K cl (shOf [(0, boxSh)]) [0] .fz 2 d__law_pick) :=
  fn_o (k := 1) [(0, boxSh)] [] (np := 2) T.F__law_pick sc__law_pick rfl (by decide) rfl rfl (by decide) (by decide) (fun h => (by cases h)) (fun cdv A outer s H vs E hr =>
    (fss_cons (fs_ret (fe_ix (fe_var 1 rfl) (fe_call (ok__law_draw T) (hr.mono (by decide)) rfl T.g__law_draw T.F__law_draw.kp T.b__law_draw .nil (fun _ => .nil) (takes_of rfl rfl rfl rfl) runF_outs rfl (shS rfl (shN shZ)) (shOut rfl) rfl (fam_own 0 (fam_fz (fe_callB call_len len_look.call rfl T.z_len bt_len (fa_cons (fe_var 1 rfl) fa_nil)) fam_nil)))))
    fss_nil))
theorem ok__law_tells (T : Tx K mg cl) : FnOk P_ w K mg base (L2.CX P_ w) 1 T.f__law_tells T.fd__law_tells ["value", "due"] (spF K cl (shOf []) [] .fz 2 d__law_tells) :=
  fn_o (k := 0) [] [] (np := 2) T.F__law_tells sc__law_tells rfl (by decide) rfl rfl (by decide) (by decide) (fun h => (by cases h)) (fun cdv A outer s H vs E hr =>
    (fss_cons (fs_ret (fe_if (ft_val (fe_var 1 rfl)) (fe_cmp op_isBool isB_ok (fe_var 0 rfl) fe_bl rfl) (fe_cmp op_isBool isB_ok (fe_var 0 rfl) fe_bl rfl)))
    fss_nil))
theorem ok__law_is_int (T : Tx K mg cl) : FnOk P_ w K mg base (L2.CX P_ w) 1 T.f__law_is_int T.fd__law_is_int ["value"] (spF K cl (shOf []) [] .fz 1 d__law_is_int) :=
  fn_o (k := 0) [] [] (np := 1) T.F__law_is_int sc__law_is_int rfl (by decide) rfl rfl (by decide) (by decide) (fun h => (by cases h)) (fun cdv A outer s H vs E hr =>
    (fss_cons (fs_ret (fe_and (fe_isi (T := .int) rfl T.z_isinstance bt_isinstance (fe_var 0 rfl) rfl T.z_int bt_int) (fe_one (fe_not (fe_isi (T := .bool) rfl T.z_isinstance bt_isinstance (fe_var 0 rfl) rfl T.z_bool bt_bool)))))
    fss_nil))
theorem okq__law_is_int (T : Tx K mg cl) : FnQ P_ w K mg base (L2.CX P_ w) 1 T.f__law_is_int T.fd__law_is_int ["value"] (spF K cl (fun _ => .fz) [] .fz 1 d__law_is_int) :=
  fn_okQ (k := 0) (np := 1) T.F__law_is_int sc__law_is_int rfl (by decide) (fun h => (by cases h)) (fun cdv A outer s H vs E p hr =>
    (fss_cons (fs_ret (fe_and (fe_isi (T := .int) rfl T.z_isinstance bt_isinstance (fe_var 0 rfl) rfl T.z_int bt_int) (fe_one (fe_not (fe_isi (T := .bool) rfl T.z_isinstance bt_isinstance (fe_var 0 rfl) rfl T.z_bool bt_bool)))))
    fss_nil))
theorem okq__law_place (T : Tx K mg cl) : FnQ P_ w K mg base (L2.CX P_ w) 2 T.f__law_place T.fd__law_place ["value"] (spF K cl (fun _ => .fz) [] .fz 1 d__law_place) :=
  fn_okQ (k := 1) (np := 1) T.F__law_place sc__law_place rfl (by decide) (fun h => (by cases h)) (fun cdv A outer s H vs E p hr =>
    (fss_cons (fs_ret (fe_if (ft_w (fw_or (ft_val (fe_callQ (okq__law_is_int T) (hr.mono (by decide)) (q := p) (List.mem_singleton.mpr rfl) rfl T.g__law_is_int T.F__law_is_int.kp T.b__law_is_int (fa_cons (fe_var 0 rfl) fa_nil))) (fw_or1 (ft_val (fe_isi (T := .str) rfl T.z_isinstance bt_isinstance (fe_var 0 rfl) rfl T.z_str bt_str))))) (fe_var 0 rfl) (fe_tup (fa_cons fe_str fa_nil))))
    fss_nil))
theorem ok__law_loose (T : Tx K mg cl) : ∀ n, FnOk P_ w K mg base (L2.CX P_ w) (1 + n) T.f__law_loose T.fd__law_loose ["box", "value"] (spF K cl (shOf [(0, boxSh)]) [0] .fz 2 (d__law_loose n))
  | 0 => fn_er rfl
  | n + 1 => by
    have hrec := ok__law_loose T n
    have hos := do__law_loose n
    exact fn_o (k := 1 + n) [(0, boxSh)] [] (np := 2) T.F__law_loose sc__law_loose rfl (by decide) rfl rfl (by decide) (by decide) (fun h => (by cases h)) (fun cdv A outer s H vs E hr =>
    (fss_cons (fs_if (ft_w (fw_or (ft_val (fe_isi (T := .list) rfl T.z_isinstance bt_isinstance (fe_var 1 rfl) rfl T.z_list bt_list)) (fw_or1 (ft_val (fe_isi (T := .tuple) rfl T.z_isinstance bt_isinstance (fe_var 1 rfl) rfl T.z_tuple bt_tuple))))) (fss_cons (fs_setLcv [("part", 3)] 2 (.inl rfl) rfl rfl rfl rfl rfl rfl rfl rfl sc__law_loose.nd (fi_seq (fe_var 1 rfl)) (blkOk_by (N := ["box", "value", "bits", "part"]) (sc := defScope s__law_loose) (own := [("part", 3)]) (by decide +kernel)) (by decide) (fun k hk => by simp only [List.mem_cons, List.not_mem_nil, or_false] at hk; rcases hk with rfl <;> rfl) (fun k hk => by simp only [List.mem_cons, List.not_mem_nil, or_false] at hk; rcases hk with rfl <;> rfl) (fun _ _ _ _ _ => (fg_name 3 rfl rfl sc__law_loose.nd rfl (Or.inl rfl))) (fun _ _ _ _ _ => fts_nil) (fun _ _ _ _ _ => (fe_call hrec hr rfl T.g__law_loose T.F__law_loose.kp T.b__law_loose .nil (fun _ => .nil) tkQ hos rfl (shS rfl (shN shZ)) (shOut rfl) rfl (fam_own 0 (fam_fz (fe_var 3 rfl) fam_nil)))))
    (fss_cons (fs_ret (fe_if (ft_cmp (op_eqD (hu64 hr)) eq_ok (fe_call (ok__law_draw T) (hr.mono (by omega)) rfl T.g__law_draw T.F__law_draw.kp T.b__law_draw .nil (fun _ => .nil) (takes_of rfl rfl rfl rfl) runF_outs rfl (shS rfl (shN shZ)) (shOut rfl) rfl (fam_own 0 (fam_fz fe_int fam_nil))) fe_int rfl) (fe_var 2 rfl) (fe_callTy call_tuple_of tuple_call rfl T.z_tuple bt_tuple (fa_cons (fe_var 2 rfl) fa_nil))))
    fss_nil)) fss_nil)
    (fss_cons (fs_ret (fe_var 1 rfl))
    fss_nil)))
theorem ok__law_same (T : Tx K mg cl) : ∀ n, FnOk P_ w K mg base (L2.CX P_ w) (1 + n) T.f__law_same T.fd__law_same ["value", "due"] (spF K cl (shOf []) [] .fz 2 (d__law_same n))
  | 0 => fn_er rfl
  | n + 1 => by
    have hrec := ok__law_same T n
    have hos := do__law_same n
    exact fn_o (k := 1 + n) [] [] (np := 2) T.F__law_same sc__law_same rfl (by decide) rfl rfl (by decide) (by decide) (fun h => (by cases h)) (fun cdv A outer s H vs E hr =>
    (fss_cons (fs_if (ft_val (fe_isi (T := .tuple) rfl T.z_isinstance bt_isinstance (fe_var 1 rfl) rfl T.z_tuple bt_tuple)) (fss_cons (fs_if (ft_w (fw_or (ft_not (ft_val (fe_isi (T := .tuple) rfl T.z_isinstance bt_isinstance (fe_var 0 rfl) rfl T.z_tuple bt_tuple))) (fw_or1 (ft_cmp (op_neD (hu64 hr)) ne_ok (fe_callB call_len len_look.call rfl T.z_len bt_len (fa_cons (fe_var 0 rfl) fa_nil)) (fe_callB call_len len_look.call rfl T.z_len bt_len (fa_cons (fe_var 1 rfl) fa_nil)) rfl)))) (fss_cons (fs_ret fe_bl)
    fss_nil) fss_nil)
    (fss_cons (fs_ret (fe_cmp (op_eqD (hu64 hr)) eq_ok (fe_fz (fe_lcv [("at", 2)] rfl rfl sc__law_same.nd (fi_rng1 rfl T.z_range (fe_callB call_len len_look.call rfl T.z_len bt_len (fa_cons (fe_var 1 rfl) fa_nil))) (blkOk_by (N := ["value", "due", "at"]) (sc := defScope s__law_same) (own := [("at", 2)]) (by decide +kernel)) (by decide) (fun k hk => by simp only [List.mem_cons, List.not_mem_nil, or_false] at hk; rcases hk with rfl <;> rfl) (fun k hk => by simp only [List.mem_cons, List.not_mem_nil, or_false] at hk; rcases hk with rfl <;> rfl) (fun _ _ _ _ _ => (fg_name 2 rfl rfl sc__law_same.nd rfl (Or.inl rfl))) (fun _ _ _ _ _ => (fts_one (ft_not (ft_val (fe_call hrec hr rfl T.g__law_same T.F__law_same.kp T.b__law_same .nil (fun _ => .nil) tkQ hos rfl (shN (shN shZ)) (shOut rfl) rfl (fam_fz (fe_ix (fe_var 0 rfl) (fe_var 2 rfl)) (fam_fz (fe_ix (fe_var 1 rfl) (fe_var 2 rfl)) fam_nil))))))) (fun _ _ _ _ _ => (fe_var 2 rfl)))) (fe_fz (fe_lst fa_nil)) rfl))
    fss_nil)) fss_nil)
    (fss_cons (fs_if (ft_cmp op_isN isN_ok (fe_var 1 rfl) fe_non rfl) (fss_cons (fs_ret (fe_cmp op_isN isN_ok (fe_var 0 rfl) fe_non rfl))
    fss_nil) fss_nil)
    (fss_cons (fs_if (ft_val (fe_isi (T := .bool) rfl T.z_isinstance bt_isinstance (fe_var 1 rfl) rfl T.z_bool bt_bool)) (fss_cons (fs_ret (fe_call (ok__law_tells T) (hr.mono (by omega)) rfl T.g__law_tells T.F__law_tells.kp T.b__law_tells .nil (fun _ => .nil) (takes_of rfl rfl rfl rfl) runF_outs rfl (shN (shN shZ)) (shOut rfl) rfl (fam_fz (fe_var 0 rfl) (fam_fz (fe_var 1 rfl) fam_nil))))
    fss_nil) fss_nil)
    (fss_cons (fs_if (ft_val (fe_isi (T := .str) rfl T.z_isinstance bt_isinstance (fe_var 1 rfl) rfl T.z_str bt_str)) (fss_cons (fs_ret (fe_and (fe_isi (T := .str) rfl T.z_isinstance bt_isinstance (fe_var 0 rfl) rfl T.z_str bt_str) (fe_one (fe_cmp (op_eqD (hu64 hr)) eq_ok (fe_var 0 rfl) (fe_var 1 rfl) rfl))))
    fss_nil) fss_nil)
    (fss_cons (fs_ret (fe_and (fe_call (ok__law_is_int T) (hr.mono (by omega)) rfl T.g__law_is_int T.F__law_is_int.kp T.b__law_is_int .nil (fun _ => .nil) (takes_of rfl rfl rfl rfl) runF_outs rfl (shN shZ) (shOut rfl) rfl (fam_fz (fe_var 0 rfl) fam_nil)) (fe_one (fe_cmp (op_eqD (hu64 hr)) eq_ok (fe_var 0 rfl) (fe_var 1 rfl) rfl))))
    fss_nil))))))
theorem ok__law_rows (T : Tx K mg cl) : FnOk P_ w K mg base (L2.CX P_ w) 1 T.f__law_rows T.fd__law_rows ["hedges"] (spF K cl (shOf []) [] .fz 1 d__law_rows) :=
  fn_o (k := 0) [] [] (np := 1) T.F__law_rows sc__law_rows rfl (by decide) rfl rfl (by decide) (by decide) (fun h => (by cases h)) (fun cdv A outer s H vs E hr =>
    (fss_cons (fs_ret (fe_fz (fe_lcv [("mask", 1)] rfl rfl sc__law_rows.nd (fi_rng1 rfl T.z_range (fe_op op_shl shl_ok fe_int (fe_var 0 rfl))) (blkOk_by (N := ["hedges", "mask", "hedge"]) (sc := defScope s__law_rows) (own := [("mask", 1)]) (by decide +kernel)) (by decide) (fun k hk => by simp only [List.mem_cons, List.not_mem_nil, or_false] at hk; rcases hk with rfl <;> rfl) (fun k hk => by simp only [List.mem_cons, List.not_mem_nil, or_false] at hk; rcases hk with rfl <;> rfl) (fun _ _ _ _ _ => (fg_name 1 rfl rfl sc__law_rows.nd rfl (Or.inr rfl))) (fun _ _ _ _ _ => fts_nil) (fun _ _ _ _ _ => (fe_callTy call_tuple_of tuple_call rfl T.z_tuple bt_tuple (fa_cons (fe_fz (fe_lcv [("hedge", 2)] rfl rfl sc__law_rows.nd (fi_rng1 rfl T.z_range (fe_var 0 rfl)) (by dsimp only [compEnvC, Cx.blk]; exact blkOk_in (N := ["hedges", "mask", "hedge"]) (own := [("hedge", 2)]) (defScope s__law_rows) rfl (by decide +kernel)) (by decide) (fun k hk => by simp only [List.mem_cons, List.not_mem_nil, or_false] at hk; rcases hk with rfl <;> rfl) (fun k hk => by simp only [List.mem_cons, List.not_mem_nil, or_false] at hk; rcases hk with rfl <;> rfl) (fun _ _ _ _ _ => (fg_name 2 rfl rfl sc__law_rows.nd rfl (Or.inl rfl))) (fun _ _ _ _ _ => fts_nil) (fun _ _ _ _ _ => (fe_op op_mod mod_ok (fe_op op_shr shr_ok (fe_var 1 rfl) (fe_op op_sub sub_ok (fe_op op_sub sub_ok (fe_var 0 rfl) fe_int) (fe_var 2 rfl))) fe_int)))) fa_nil))))))
    fss_nil))
theorem ok__law_sides (T : Tx K mg cl) : FnOk P_ w K mg base (L2.CX P_ w) 1 T.f__law_sides T.fd__law_sides ["hedges"] (spF K cl (shOf []) [] .fz 1 d__law_sides) :=
  fn_o (k := 0) [] [] (np := 1) T.F__law_sides sc__law_sides rfl (by decide) rfl rfl (by decide) (by decide) (fun h => (by cases h)) (fun cdv A outer s H vs E hr =>
    (fss_cons (fs_set 1 rfl rfl sc__law_sides.nd rfl (Or.inl rfl) (fe_fz (fe_lst fa_nil)))
    (fss_cons (fs_for (passes_of rfl) rfl (fi_rng1 rfl T.z_range (fe_var 0 rfl)) (fg_name 2 rfl rfl sc__law_sides.nd rfl (Or.inl rfl)) (fss_cons (fs_set 1 rfl rfl sc__law_sides.nd rfl (Or.inl rfl) (fe_fz (fe_op op_catL cat_ok (fe_var 1 rfl) (fe_fz (fe_lst (fa_cons (fe_tup (fa_cons (fe_var 2 rfl) (fa_cons fe_int fa_nil))) (fa_cons (fe_tup (fa_cons (fe_var 2 rfl) (fa_cons fe_int fa_nil))) fa_nil)))))))
    fss_nil))
    (fss_cons (fs_ret (fe_var 1 rfl))
    fss_nil))))
theorem ok__law_pairs (T : Tx K mg cl) : FnOk P_ w K mg base (L2.CX P_ w) 2 T.f__law_pairs T.fd__law_pairs ["hedges"] (spF K cl (shOf []) [] .fz 1 d__law_pairs) :=
  fn_o (k := 1) [] [] (np := 1) T.F__law_pairs sc__law_pairs rfl (by decide) rfl rfl (by decide) (by decide) (fun h => (by cases h)) (fun cdv A outer s H vs E hr =>
    (fss_cons (fs_par rfl rfl rfl sc__law_pairs.nd rfl rfl (by decide) rfl rfl (fe_fz (fe_lst fa_nil)) (fe_call (ok__law_sides T) (hr.mono (by decide)) rfl T.g__law_sides T.F__law_sides.kp T.b__law_sides .nil (fun _ => .nil) (takes_of rfl rfl rfl rfl) runF_outs rfl (shN shZ) (shOut rfl) rfl (fam_fz (fe_var 0 rfl) fam_nil)) rfl)
    (fss_cons (fs_for (passes_of rfl) rfl (fi_seq (fe_var 2 rfl)) (fg_name 3 rfl rfl sc__law_pairs.nd rfl (Or.inr rfl)) (fss_cons (fs_set 1 rfl rfl sc__law_pairs.nd rfl (Or.inl rfl) (fe_fz (fe_op op_catL cat_ok (fe_var 1 rfl) (fe_fz (fe_lcv [("other", 4)] rfl rfl sc__law_pairs.nd (fi_seq (fe_var 2 rfl)) (blkOk_by (N := ["hedges", "found", "sides", "one", "other"]) (sc := defScope s__law_pairs) (own := [("other", 4)]) (by decide +kernel)) (by decide) (fun k hk => by simp only [List.mem_cons, List.not_mem_nil, or_false] at hk; rcases hk with rfl <;> rfl) (fun k hk => by simp only [List.mem_cons, List.not_mem_nil, or_false] at hk; rcases hk with rfl <;> rfl) (fun _ _ _ _ _ => (fg_name 4 rfl rfl sc__law_pairs.nd rfl (Or.inl rfl))) (fun _ _ _ _ _ => (fts_one (ft_w (fw_or (ft_cmp (op_eqD (hu64 hr)) eq_ok (fe_var 3 rfl) (fe_var 4 rfl) rfl) (fw_or1 (ft_cmp op_lt pI_ok (fe_ix (fe_var 3 rfl) fe_int) (fe_ix (fe_var 4 rfl) fe_int) rfl)))))) (fun _ _ _ _ _ => (fe_tup (fa_cons (fe_var 3 rfl) (fa_cons (fe_var 4 rfl) fa_nil)))))))))
    fss_nil))
    (fss_cons (fs_ret (fe_var 1 rfl))
    fss_nil))))
theorem ok__law_has (T : Tx K mg cl) : FnOk P_ w K mg base (L2.CX P_ w) 1 T.f__law_has T.fd__law_has ["row", "side"] (spF K cl (shOf []) [] .fz 2 d__law_has) :=
  fn_o (k := 0) [] [] (np := 2) T.F__law_has sc__law_has rfl (by decide) rfl rfl (by decide) (by decide) (fun h => (by cases h)) (fun cdv A outer s H vs E hr =>
    (fss_cons (fs_ret (fe_cmp (op_eqD (hu64 hr)) eq_ok (fe_ix (fe_var 0 rfl) (fe_ix (fe_var 1 rfl) fe_int)) (fe_ix (fe_var 1 rfl) fe_int) rfl))
    fss_nil))
theorem ok__law_has_both (T : Tx K mg cl) : FnOk P_ w K mg base (L2.CX P_ w) 2 T.f__law_has_both T.fd__law_has_both ["row", "couple"] (spF K cl (shOf []) [] .fz 2 d__law_has_both) :=
  fn_o (k := 1) [] [] (np := 2) T.F__law_has_both sc__law_has_both rfl (by decide) rfl rfl (by decide) (by decide) (fun h => (by cases h)) (fun cdv A outer s H vs E hr =>
    (fss_cons (fs_ret (fe_and (fe_call (ok__law_has T) (hr.mono (by decide)) rfl T.g__law_has T.F__law_has.kp T.b__law_has .nil (fun _ => .nil) (takes_of rfl rfl rfl rfl) runF_outs rfl (shN (shN shZ)) (shOut rfl) rfl (fam_fz (fe_var 0 rfl) (fam_fz (fe_ix (fe_var 1 rfl) fe_int) fam_nil))) (fe_one (fe_call (ok__law_has T) (hr.mono (by decide)) rfl T.g__law_has T.F__law_has.kp T.b__law_has .nil (fun _ => .nil) (takes_of rfl rfl rfl rfl) runF_outs rfl (shN (shN shZ)) (shOut rfl) rfl (fam_fz (fe_var 0 rfl) (fam_fz (fe_ix (fe_var 1 rfl) fe_int) fam_nil))))))
    fss_nil))
theorem ok__law_couples (T : Tx K mg cl) : FnOk P_ w K mg base (L2.CX P_ w) 3 T.f__law_couples T.fd__law_couples ["rows", "hedges"] (spF K cl (shOf []) [] .fz 2 d__law_couples) :=
  fn_o (k := 2) [] [] (np := 2) T.F__law_couples sc__law_couples rfl (by decide) rfl rfl (by decide) (by decide) (fun h => (by cases h)) (fun cdv A outer s H vs E hr =>
    (fss_cons (fs_ret (fe_callTy call_tuple_of tuple_call rfl T.z_tuple bt_tuple (fa_cons (fe_fz (fe_lcv [("couple", 2)] rfl rfl sc__law_couples.nd (fi_seq (fe_call (ok__law_pairs T) (hr.mono (by decide)) rfl T.g__law_pairs T.F__law_pairs.kp T.b__law_pairs .nil (fun _ => .nil) (takes_of rfl rfl rfl rfl) runF_outs rfl (shN shZ) (shOut rfl) rfl (fam_fz (fe_var 1 rfl) fam_nil))) (blkOk_by (N := ["rows", "hedges", "couple", "row"]) (sc := defScope s__law_couples) (own := [("couple", 2)]) (by decide +kernel)) (by decide) (fun k hk => by simp only [List.mem_cons, List.not_mem_nil, or_false] at hk; rcases hk with rfl <;> rfl) (fun k hk => by simp only [List.mem_cons, List.not_mem_nil, or_false] at hk; rcases hk with rfl <;> rfl) (fun _ _ _ _ _ => (fg_name 2 rfl rfl sc__law_couples.nd rfl (Or.inr rfl))) (fun _ _ _ _ _ => (fts_one (ft_cmp (op_eqD (hu64 hr)) eq_ok (fe_fz (fe_lcv [("row", 3)] rfl rfl sc__law_couples.nd (fi_seq (fe_var 0 rfl)) (by dsimp only [compEnvC, Cx.blk]; exact blkOk_in (N := ["rows", "hedges", "couple", "row"]) (own := [("row", 3)]) (defScope s__law_couples) rfl (by decide +kernel)) (by decide) (fun k hk => by simp only [List.mem_cons, List.not_mem_nil, or_false] at hk; rcases hk with rfl <;> rfl) (fun k hk => by simp only [List.mem_cons, List.not_mem_nil, or_false] at hk; rcases hk with rfl <;> rfl) (fun _ _ _ _ _ => (fg_name 3 rfl rfl sc__law_couples.nd rfl (Or.inl rfl))) (fun _ _ _ _ _ => (fts_one (ft_val (fe_call (ok__law_has_both T) (hr.mono (by decide)) rfl T.g__law_has_both T.F__law_has_both.kp T.b__law_has_both .nil (fun _ => .nil) tkQ runF_outs rfl (shN (shN shZ)) (shOut rfl) rfl (fam_fz (fe_var 3 rfl) (fam_fz (fe_var 2 rfl) fam_nil)))))) (fun _ _ _ _ _ => (fe_var 3 rfl)))) (fe_fz (fe_lst fa_nil)) rfl))) (fun _ _ _ _ _ => (fe_var 2 rfl)))) fa_nil)))
    fss_nil))
theorem ok__law_without (T : Tx K mg cl) : FnOk P_ w K mg base (L2.CX P_ w) 3 T.f__law_without T.fd__law_without ["hedges", "couples"] (spF K cl (shOf []) [] .fz 2 d__law_without) :=
  fn_o (k := 2) [] [] (np := 2) T.F__law_without sc__law_without rfl (by decide) rfl rfl (by decide) (by decide) (fun h => (by cases h)) (fun cdv A outer s H vs E hr =>
    (fss_cons (fs_ret (fe_fz (fe_lcv [("row", 2)] rfl rfl sc__law_without.nd (fi_seq (fe_call (ok__law_rows T) (hr.mono (by decide)) rfl T.g__law_rows T.F__law_rows.kp T.b__law_rows .nil (fun _ => .nil) (takes_of rfl rfl rfl rfl) runF_outs rfl (shN shZ) (shOut rfl) rfl (fam_fz (fe_var 0 rfl) fam_nil))) (blkOk_by (N := ["hedges", "couples", "row", "couple"]) (sc := defScope s__law_without) (own := [("row", 2)]) (by decide +kernel)) (by decide) (fun k hk => by simp only [List.mem_cons, List.not_mem_nil, or_false] at hk; rcases hk with rfl <;> rfl) (fun k hk => by simp only [List.mem_cons, List.not_mem_nil, or_false] at hk; rcases hk with rfl <;> rfl) (fun _ _ _ _ _ => (fg_name 2 rfl rfl sc__law_without.nd rfl (Or.inr rfl))) (fun _ _ _ _ _ => (fts_one (ft_cmp (op_eqD (hu64 hr)) eq_ok (fe_fz (fe_lcv [("couple", 3)] rfl rfl sc__law_without.nd (fi_seq (fe_var 1 rfl)) (by dsimp only [compEnvC, Cx.blk]; exact blkOk_in (N := ["hedges", "couples", "row", "couple"]) (own := [("couple", 3)]) (defScope s__law_without) rfl (by decide +kernel)) (by decide) (fun k hk => by simp only [List.mem_cons, List.not_mem_nil, or_false] at hk; rcases hk with rfl <;> rfl) (fun k hk => by simp only [List.mem_cons, List.not_mem_nil, or_false] at hk; rcases hk with rfl <;> rfl) (fun _ _ _ _ _ => (fg_name 3 rfl rfl sc__law_without.nd rfl (Or.inl rfl))) (fun _ _ _ _ _ => (fts_one (ft_val (fe_call (ok__law_has_both T) (hr.mono (by decide)) rfl T.g__law_has_both T.F__law_has_both.kp T.b__law_has_both .nil (fun _ => .nil) tkQ runF_outs rfl (shN (shN shZ)) (shOut rfl) rfl (fam_fz (fe_var 2 rfl) (fam_fz (fe_var 3 rfl) fam_nil)))))) (fun _ _ _ _ _ => (fe_var 3 rfl)))) (fe_fz (fe_lst fa_nil)) rfl))) (fun _ _ _ _ _ => (fe_var 2 rfl)))))
    fss_nil))
theorem ok__law_told_of (T : Tx K mg cl) : FnOk P_ w K mg base (L2.CX P_ w) 8 T.f__law_told_of T.fd__law_told_of ["what", "hedges", "couples", "one", "other"] (spF K cl (shOf []) [] .fz 5 d__law_told_of) :=
  fn_o (k := 7) [] [] (np := 5) T.F__law_told_of sc__law_told_of rfl (by decide) rfl rfl (by decide) (by decide) (fun h => (by cases h)) (fun cdv A outer s H vs E hr =>
    (fss_cons (fs_ret (fe_if (ft_cmp (op_eqD (hu64 hr)) eq_ok (fe_var 0 rfl) fe_str rfl) (fe_call (ok_closed_couples T) (hr.mono (by decide)) rfl T.g_closed_couples T.F_closed_couples.kp T.b_closed_couples .nil (fun _ => .nil) (takes_of rfl rfl rfl rfl) runF_outs rfl (shN (shN shZ)) (shOut rfl) rfl (fam_fz (fe_var 1 rfl) (fam_fz (fe_var 2 rfl) fam_nil))) (fe_call (ok_follows T) (hr.mono (by decide)) rfl T.g_follows T.F_follows.kp T.b_follows .nil (fun _ => .nil) (takes_of rfl rfl rfl rfl) runF_outs rfl (shN (shN (shN (shN shZ)))) (shOut rfl) rfl (fam_fz (fe_var 1 rfl) (fam_fz (fe_var 2 rfl) (fam_fz (fe_var 3 rfl) (fam_fz (fe_var 4 rfl) fam_nil)))))))
    fss_nil))
theorem ok__law_asked (T : Tx K mg cl) : FnOk P_ w K mg base (L2.CX P_ w) 9 T.f__law_asked T.fd__law_asked ["what", "hedges", "couples", "one", "other"] (spF K cl (shOf []) [] .fz 5 d__law_asked) :=
  fn_o (k := 8) [] [] (np := 5) T.F__law_asked sc__law_asked rfl (by decide) rfl rfl (by decide) (by decide) (fun h => (by cases h)) (fun cdv A outer s H vs E hr =>
    (fss_cons (fs_try rfl rfl sc__law_asked.nd (takes_of rfl rfl rfl rfl) (fun _ _ _ tk' hp' => (fss_cons (fs_ret (fe_tup (fa_cons fe_str (fa_cons (fe_call (ok__law_told_of T) (hr.mono (by decide)) rfl T.g__law_told_of T.F__law_told_of.kp T.b__law_told_of .nil (fun _ => .nil) tk' runF_outs rfl (shN (shN (shN (shN (shN shZ))))) (shOut rfl) rfl (fam_fz (fe_var 0 rfl) (fam_fz (fe_var 1 rfl) (fam_fz (fe_var 2 rfl) (fam_fz (fe_var 3 rfl) (fam_fz (fe_var 4 rfl) fam_nil)))))) fa_nil))))
    fss_nil)) (.cons ⟨rfl, by decide, Or.inl T.gE_InvalidCount⟩ rfl rfl (fun a oe cls d pn hz hf => su_pl T.kc rfl (Or.inl rfl) (by decide) (by decide) (okq__law_place T) (hr.mono (by decide)) rfl T.g__law_place T.F__law_place.kp T.b__law_place hz hf (by decide) rfl rfl rfl rfl rfl) (.cons ⟨rfl, by decide, Or.inl T.gE_InvalidCouples⟩ rfl rfl (fun a oe cls d pn hz hf => su_pl T.kc rfl (Or.inl rfl) (by decide) (by decide) (okq__law_place T) (hr.mono (by decide)) rfl T.g__law_place T.F__law_place.kp T.b__law_place hz hf (by decide) rfl rfl rfl rfl rfl) (.cons ⟨rfl, by decide, Or.inl T.gE_InvalidSide⟩ rfl rfl (fun a oe cls d pn hz hf => su_pl T.kc rfl (Or.inl rfl) (by decide) (by decide) (okq__law_place T) (hr.mono (by decide)) rfl T.g__law_place T.F__law_place.kp T.b__law_place hz hf (by decide) rfl rfl rfl rfl rfl) (.cons ⟨rfl, by decide, Or.inl T.gE_Refused⟩ rfl rfl (fun a oe cls d pn hz hf => su_pl T.kc rfl (Or.inl rfl) (by decide) (by decide) (okq__law_place T) (hr.mono (by decide)) rfl T.g__law_place T.F__law_place.kp T.b__law_place hz hf (by decide) rfl rfl rfl rfl rfl) .nil)))) (.cons T.x_0 rfl rfl (.cons T.x_2 rfl rfl (.cons T.x_1 rfl rfl (.cons T.x_3 rfl rfl .nil)))))
    fss_nil))
theorem ok_law (T : Tx K mg cl) : FnOk P_ w K mg base (L2.CX P_ w) 11 T.f_law T.fd_law ["script"] (spF K cl (shOf []) [] .fz 1 d_law) :=
  fn_o (k := 10) [] [(1, boxSh)] (np := 1) T.F_law sc_law rfl (by decide) rfl rfl (by decide) (by decide) (fun h => (by cases h)) (fun cdv A outer s H vs E hr =>
    (fss_cons (fs_set 1 rfl rfl sc_law.nd rfl (Or.inr rfl) (fe_call (ok__law_box T) (hr.mono (by decide)) rfl T.g__law_box T.F__law_box.kp T.b__law_box .nil (fun _ => .nil) (takes_of rfl rfl rfl rfl) runF_outs rfl (shN shZ) (shOut rfl) rfl (fam_fz (fe_var 0 rfl) fam_nil)))
    (fss_cons (fs_for (passes_of rfl) rfl (fi_rng1 rfl T.z_range fe_int) (fg_name 2 rfl rfl sc_law.nd rfl (Or.inl rfl)) (fss_cons (fs_set 3 rfl rfl sc_law.nd rfl (Or.inl rfl) (fe_op op_addA add_ok fe_int (fe_call (ok__law_draw T) (hr.mono (by decide)) rfl T.g__law_draw T.F__law_draw.kp T.b__law_draw .nil (fun _ => .nil) (takes_of rfl rfl rfl rfl) runF_outs rfl (shS rfl (shN shZ)) (shOut rfl) rfl (fam_own 1 (fam_fz fe_int fam_nil)))))
    (fss_cons (fs_set 4 rfl rfl sc_law.nd rfl (Or.inr rfl) (fe_call (ok__law_pairs T) (hr.mono (by decide)) rfl T.g__law_pairs T.F__law_pairs.kp T.b__law_pairs .nil (fun _ => .nil) (takes_of rfl rfl rfl rfl) runF_outs rfl (shN shZ) (shOut rfl) rfl (fam_fz (fe_var 3 rfl) fam_nil)))
    (fss_cons (fs_setLcv [("count", 16)] 5 (.inl rfl) rfl rfl rfl rfl rfl rfl rfl rfl sc_law.nd (fi_rng1 rfl T.z_range (fe_call (ok__law_draw T) (hr.mono (by decide)) rfl T.g__law_draw T.F__law_draw.kp T.b__law_draw .nil (fun _ => .nil) (takes_of rfl rfl rfl rfl) runF_outs rfl (shS rfl (shN shZ)) (shOut rfl) rfl (fam_own 1 (fam_fz (fe_op op_addA add_ok (fe_op op_mul mul_ok fe_int (fe_var 3 rfl)) fe_int) fam_nil)))) (blkOk_by (N := ["script", "box", "turn", "hedges", "every", "some", "passed", "left", "due", "couple", "hedge", "bit", "bad", "value", "what", "first", "count"]) (sc := defScope s_law) (own := [("count", 16)]) (by decide +kernel)) (by decide) (fun k hk => by simp only [List.mem_cons, List.not_mem_nil, or_false] at hk; rcases hk with rfl <;> rfl) (fun k hk => by simp only [List.mem_cons, List.not_mem_nil, or_false] at hk; rcases hk with rfl <;> rfl) (fun _ _ _ _ _ => (fg_name 16 rfl rfl sc_law.nd rfl (Or.inl rfl))) (fun _ _ _ _ _ => fts_nil) (fun _ _ _ _ _ => (fe_call (ok__law_pick T) (hr.mono (by decide)) rfl T.g__law_pick T.F__law_pick.kp T.b__law_pick .nil (fun _ => .nil) tkQ runF_outs rfl (shS rfl (shN shZ)) (shOut rfl) rfl (fam_own 1 (fam_fz (fe_var 4 rfl) fam_nil)))))
    (fss_cons (fs_if (ft_cmp (op_eqD (hu64 hr)) eq_ok (fe_call (ok__law_draw T) (hr.mono (by decide)) rfl T.g__law_draw T.F__law_draw.kp T.b__law_draw .nil (fun _ => .nil) (takes_of rfl rfl rfl rfl) runF_outs rfl (shS rfl (shN shZ)) (shOut rfl) rfl (fam_own 1 (fam_fz fe_int fam_nil))) fe_int rfl) (fss_cons (fs_setLcv [("couple", 9)] 5 (.inl rfl) rfl rfl rfl rfl rfl rfl rfl rfl sc_law.nd (fi_seq (fe_var 5 rfl)) (blkOk_by (N := ["script", "box", "turn", "hedges", "every", "some", "passed", "left", "due", "couple", "hedge", "bit", "bad", "value", "what", "first", "count"]) (sc := defScope s_law) (own := [("couple", 9)]) (by decide +kernel)) (by decide) (fun k hk => by simp only [List.mem_cons, List.not_mem_nil, or_false] at hk; rcases hk with rfl <;> rfl) (fun k hk => by simp only [List.mem_cons, List.not_mem_nil, or_false] at hk; rcases hk with rfl <;> rfl) (fun _ _ _ _ _ => (fg_name 9 rfl rfl sc_law.nd rfl (Or.inl rfl))) (fun _ _ _ _ _ => (fts_one (ft_cmp (op_neD (hu64 hr)) ne_ok (fe_ix (fe_var 9 rfl) fe_int) (fe_ix (fe_var 9 rfl) fe_int) rfl))) (fun _ _ _ _ _ => (fe_var 9 rfl)))
    fss_nil) fss_nil)
    (fss_cons (fs_setLcv [("couple", 9)] 6 (.inl rfl) rfl rfl rfl rfl rfl rfl rfl rfl sc_law.nd (fi_seq (fe_var 5 rfl)) (blkOk_by (N := ["script", "box", "turn", "hedges", "every", "some", "passed", "left", "due", "couple", "hedge", "bit", "bad", "value", "what", "first", "count"]) (sc := defScope s_law) (own := [("couple", 9)]) (by decide +kernel)) (by decide) (fun k hk => by simp only [List.mem_cons, List.not_mem_nil, or_false] at hk; rcases hk with rfl <;> rfl) (fun k hk => by simp only [List.mem_cons, List.not_mem_nil, or_false] at hk; rcases hk with rfl <;> rfl) (fun _ _ _ _ _ => (fg_name 9 rfl rfl sc_law.nd rfl (Or.inl rfl))) (fun _ _ _ _ _ => fts_nil) (fun _ _ _ _ _ => (fe_call (ok__law_loose T 8) (hr.mono (by decide)) rfl T.g__law_loose T.F__law_loose.kp T.b__law_loose .nil (fun _ => .nil) tkQ (do__law_loose _) rfl (shS rfl (shN shZ)) (shOut rfl) rfl (fam_own 1 (fam_fz (fe_if (ft_cmp (op_eqD (hu64 hr)) eq_ok (fe_call (ok__law_draw T) (hr.mono (by decide)) rfl T.g__law_draw T.F__law_draw.kp T.b__law_draw .nil (fun _ => .nil) tkQ runF_outs rfl (shS rfl (shN shZ)) (shOut rfl) rfl (fam_own 1 (fam_fz fe_int fam_nil))) fe_int rfl) (fe_var 9 rfl) (fe_tup (fa_cons (fe_ix (fe_var 9 rfl) fe_int) (fa_cons (fe_ix (fe_var 9 rfl) fe_int) fa_nil)))) fam_nil)))))
    (fss_cons (fs_set 7 rfl rfl sc_law.nd rfl (Or.inl rfl) (fe_call (ok__law_without T) (hr.mono (by decide)) rfl T.g__law_without T.F__law_without.kp T.b__law_without .nil (fun _ => .nil) (takes_of rfl rfl rfl rfl) runF_outs rfl (shN (shN shZ)) (shOut rfl) rfl (fam_fz (fe_var 3 rfl) (fam_fz (fe_var 5 rfl) fam_nil))))
    (fss_cons (fs_set 8 rfl rfl sc_law.nd rfl (Or.inl rfl) (fe_call (ok__law_couples T) (hr.mono (by decide)) rfl T.g__law_couples T.F__law_couples.kp T.b__law_couples .nil (fun _ => .nil) (takes_of rfl rfl rfl rfl) runF_outs rfl (shN (shN shZ)) (shOut rfl) rfl (fam_fz (fe_var 7 rfl) (fam_fz (fe_var 3 rfl) fam_nil))))
    (fss_cons (fs_if (ft_not (ft_val (fe_call (ok__law_same T 8) (hr.mono (by decide)) rfl T.g__law_same T.F__law_same.kp T.b__law_same .nil (fun _ => .nil) (takes_of rfl rfl rfl rfl) (do__law_same _) rfl (shN (shN shZ)) (shOut rfl) rfl (fam_fz (fe_call (ok__law_asked T) (hr.mono (by decide)) rfl T.g__law_asked T.F__law_asked.kp T.b__law_asked .nil (fun _ => .nil) (takes_of rfl rfl rfl rfl) runF_outs rfl (shN (shN (shN (shN (shN shZ))))) (shOut rfl) rfl (fam_fz fe_str (fam_fz (fe_var 3 rfl) (fam_fz (fe_var 6 rfl) (fam_fz fe_non (fam_fz fe_non fam_nil)))))) (fam_fz (fe_tup (fa_cons fe_str (fa_cons (fe_var 8 rfl) fa_nil))) fam_nil))))) (fss_cons (fs_ret fe_bl)
    fss_nil) fss_nil)
    (fss_cons (fs_if (ft_not (ft_val (fe_call (ok__law_same T 8) (hr.mono (by decide)) rfl T.g__law_same T.F__law_same.kp T.b__law_same .nil (fun _ => .nil) (takes_of rfl rfl rfl rfl) (do__law_same _) rfl (shN (shN shZ)) (shOut rfl) rfl (fam_fz (fe_call (ok__law_asked T) (hr.mono (by decide)) rfl T.g__law_asked T.F__law_asked.kp T.b__law_asked .nil (fun _ => .nil) (takes_of rfl rfl rfl rfl) runF_outs rfl (shN (shN (shN (shN (shN shZ))))) (shOut rfl) rfl (fam_fz fe_str (fam_fz (fe_var 3 rfl) (fam_fz (fe_call (ok__law_loose T 8) (hr.mono (by decide)) rfl T.g__law_loose T.F__law_loose.kp T.b__law_loose .nil (fun _ => .nil) (takes_of rfl rfl rfl rfl) (do__law_loose _) rfl (shS rfl (shN shZ)) (shOut rfl) rfl (fam_own 1 (fam_fz (fe_var 8 rfl) fam_nil))) (fam_fz fe_non (fam_fz fe_non fam_nil)))))) (fam_fz (fe_tup (fa_cons fe_str (fa_cons (fe_var 8 rfl) fa_nil))) fam_nil))))) (fss_cons (fs_ret fe_bl)
    fss_nil) fss_nil)
    (fss_cons (fs_for (passes_of rfl) rfl (fi_seq (fe_var 4 rfl)) (fg_name 9 rfl rfl sc_law.nd rfl (Or.inl rfl)) (fss_cons (fs_if (ft_not (ft_val (fe_call (ok__law_same T 8) (hr.mono (by decide)) rfl T.g__law_same T.F__law_same.kp T.b__law_same .nil (fun _ => .nil) (takes_of rfl rfl rfl rfl) (do__law_same _) rfl (shN (shN shZ)) (shOut rfl) rfl (fam_fz (fe_call (ok__law_asked T) (hr.mono (by decide)) rfl T.g__law_asked T.F__law_asked.kp T.b__law_asked .nil (fun _ => .nil) (takes_of rfl rfl rfl rfl) runF_outs rfl (shN (shN (shN (shN (shN shZ))))) (shOut rfl) rfl (fam_fz fe_str (fam_fz (fe_var 3 rfl) (fam_fz (fe_var 6 rfl) (fam_fz (fe_ix (fe_var 9 rfl) fe_int) (fam_fz (fe_call (ok__law_loose T 8) (hr.mono (by decide)) rfl T.g__law_loose T.F__law_loose.kp T.b__law_loose .nil (fun _ => .nil) (takes_of rfl rfl rfl rfl) (do__law_loose _) rfl (shS rfl (shN shZ)) (shOut rfl) rfl (fam_own 1 (fam_fz (fe_ix (fe_var 9 rfl) fe_int) fam_nil))) fam_nil)))))) (fam_fz (fe_tup (fa_cons fe_str (fa_cons (fe_cmp (op_in2 (hu65 hr)) in2_ok (fe_var 9 rfl) (fe_var 8 rfl) rfl) fa_nil))) fam_nil))))) (fss_cons (fs_ret fe_bl)
    fss_nil) fss_nil)
    fss_nil))
    (fss_cons (fs_par rfl rfl rfl sc_law.nd rfl rfl (by decide) rfl rfl (fe_call (ok__law_draw T) (hr.mono (by decide)) rfl T.g__law_draw T.F__law_draw.kp T.b__law_draw .nil (fun _ => .nil) (takes_of rfl rfl rfl rfl) runF_outs rfl (shS rfl (shN shZ)) (shOut rfl) rfl (fam_own 1 (fam_fz (fe_var 3 rfl) fam_nil))) (fe_call (ok__law_draw T) (hr.mono (by decide)) rfl T.g__law_draw T.F__law_draw.kp T.b__law_draw .nil (fun _ => .nil) (takes_of rfl rfl rfl rfl) runF_outs rfl (shS rfl (shN shZ)) (shOut rfl) rfl (fam_own 1 (fam_fz fe_int fam_nil))) rfl)
    (fss_cons (fs_if (ft_not (ft_val (fe_call (ok__law_same T 8) (hr.mono (by decide)) rfl T.g__law_same T.F__law_same.kp T.b__law_same .nil (fun _ => .nil) (takes_of rfl rfl rfl rfl) (do__law_same _) rfl (shN (shN shZ)) (shOut rfl) rfl (fam_fz (fe_call (ok__law_asked T) (hr.mono (by decide)) rfl T.g__law_asked T.F__law_asked.kp T.b__law_asked .nil (fun _ => .nil) (takes_of rfl rfl rfl rfl) runF_outs rfl (shN (shN (shN (shN (shN shZ))))) (shOut rfl) rfl (fam_fz fe_str (fam_fz (fe_var 3 rfl) (fam_fz (fe_var 6 rfl) (fam_fz (fe_tup (fa_cons (fe_var 10 rfl) (fa_cons (fe_var 11 rfl) fa_nil))) (fam_fz (fe_fz (fe_lst (fa_cons (fe_var 10 rfl) (fa_cons (fe_op op_sub sub_ok fe_int (fe_var 11 rfl)) fa_nil)))) fam_nil)))))) (fam_fz (fe_tup (fa_cons fe_str (fa_cons fe_str fa_nil))) fam_nil))))) (fss_cons (fs_ret fe_bl)
    fss_nil) fss_nil)
    (fss_cons (fs_for (passes_of rfl) rfl (fi_seq (fe_fz (fe_lst (fa_cons fe_non (fa_cons fe_int (fa_cons (fe_tup fa_nil) (fa_cons (fe_tup (fa_cons fe_int fa_nil)) (fa_cons (fe_tup (fa_cons (fe_var 3 rfl) (fa_cons fe_int fa_nil))) (fa_cons (fe_tup (fa_cons fe_int (fa_cons fe_int fa_nil))) (fa_cons (fe_tup (fa_cons fe_int (fa_cons fe_bl fa_nil))) (fa_cons (fe_tup (fa_cons (fe_op op_sub sub_ok fe_int fe_int) (fa_cons fe_int fa_nil))) (fa_cons fe_str (fa_cons (fe_tup (fa_cons fe_int (fa_cons fe_int (fa_cons fe_int fa_nil)))) (fa_cons (fe_fz (fe_lst (fa_cons fe_non (fa_cons fe_int fa_nil)))) fa_nil)))))))))))))) (fg_name 12 rfl rfl sc_law.nd rfl (Or.inl rfl)) (fss_cons (fs_if (ft_not (ft_val (fe_call (ok__law_same T 8) (hr.mono (by decide)) rfl T.g__law_same T.F__law_same.kp T.b__law_same .nil (fun _ => .nil) (takes_of rfl rfl rfl rfl) (do__law_same _) rfl (shN (shN shZ)) (shOut rfl) rfl (fam_fz (fe_call (ok__law_asked T) (hr.mono (by decide)) rfl T.g__law_asked T.F__law_asked.kp T.b__law_asked .nil (fun _ => .nil) (takes_of rfl rfl rfl rfl) runF_outs rfl (shN (shN (shN (shN (shN shZ))))) (shOut rfl) rfl (fam_fz fe_str (fam_fz (fe_var 3 rfl) (fam_fz (fe_var 6 rfl) (fam_fz (fe_var 12 rfl) (fam_fz (fe_var 12 rfl) fam_nil)))))) (fam_fz (fe_tup (fa_cons fe_str (fa_cons fe_int fa_nil))) fam_nil))))) (fss_cons (fs_ret fe_bl)
    fss_nil) fss_nil)
    (fss_cons (fs_if (ft_not (ft_val (fe_call (ok__law_same T 8) (hr.mono (by decide)) rfl T.g__law_same T.F__law_same.kp T.b__law_same .nil (fun _ => .nil) (takes_of rfl rfl rfl rfl) (do__law_same _) rfl (shN (shN shZ)) (shOut rfl) rfl (fam_fz (fe_call (ok__law_asked T) (hr.mono (by decide)) rfl T.g__law_asked T.F__law_asked.kp T.b__law_asked .nil (fun _ => .nil) (takes_of rfl rfl rfl rfl) runF_outs rfl (shN (shN (shN (shN (shN shZ))))) (shOut rfl) rfl (fam_fz fe_str (fam_fz (fe_var 3 rfl) (fam_fz (fe_var 6 rfl) (fam_fz (fe_tup (fa_cons fe_int (fa_cons fe_int fa_nil))) (fam_fz (fe_var 12 rfl) fam_nil)))))) (fam_fz (fe_tup (fa_cons fe_str (fa_cons fe_int fa_nil))) fam_nil))))) (fss_cons (fs_ret fe_bl)
    fss_nil) fss_nil)
    (fss_cons (fs_for (passes_of rfl) rfl (fi_seq (fe_fz (fe_lst (fa_cons (fe_var 12 rfl) (fa_cons (fe_tup (fa_cons (fe_var 12 rfl) (fa_cons (fe_tup (fa_cons fe_int (fa_cons fe_int fa_nil))) fa_nil))) (fa_cons (fe_tup (fa_cons (fe_tup (fa_cons fe_int (fa_cons fe_int fa_nil))) (fa_cons (fe_var 12 rfl) fa_nil))) (fa_cons (fe_tup (fa_cons (fe_tup (fa_cons fe_int (fa_cons fe_int fa_nil))) fa_nil)) (fa_cons (fe_tup (fa_cons (fe_tup (fa_cons fe_int (fa_cons fe_int fa_nil))) (fa_cons (fe_tup (fa_cons fe_int (fa_cons fe_int fa_nil))) fa_nil))) (fa_cons (fe_tup (fa_cons (fe_tup (fa_cons fe_int (fa_cons fe_int fa_nil))) (fa_cons (fe_tup (fa_cons fe_int (fa_cons fe_int fa_nil))) (fa_cons (fe_tup (fa_cons fe_int (fa_cons fe_int fa_nil))) fa_nil)))) fa_nil))))))))) (fg_name 13 rfl rfl sc_law.nd rfl (Or.inl rfl)) (fss_cons (fs_for (passes_of rfl) rfl (fi_seq (fe_fz (fe_lst (fa_cons fe_str (fa_cons fe_str fa_nil))))) (fg_name 14 rfl rfl sc_law.nd rfl (Or.inl rfl)) (fss_cons (fs_if (ft_not (ft_val (fe_call (ok__law_same T 8) (hr.mono (by decide)) rfl T.g__law_same T.F__law_same.kp T.b__law_same .nil (fun _ => .nil) (takes_of rfl rfl rfl rfl) (do__law_same _) rfl (shN (shN shZ)) (shOut rfl) rfl (fam_fz (fe_call (ok__law_asked T) (hr.mono (by decide)) rfl T.g__law_asked T.F__law_asked.kp T.b__law_asked .nil (fun _ => .nil) (takes_of rfl rfl rfl rfl) runF_outs rfl (shN (shN (shN (shN (shN shZ))))) (shOut rfl) rfl (fam_fz (fe_var 14 rfl) (fam_fz (fe_var 3 rfl) (fam_fz (fe_fz (fe_op op_catL cat_ok (fe_var 6 rfl) (fe_fz (fe_lst (fa_cons (fe_var 13 rfl) fa_nil))))) (fam_fz fe_non (fam_fz fe_non fam_nil)))))) (fam_fz (fe_tup (fa_cons fe_str (fa_cons (fe_callB call_len len_look.call rfl T.z_len bt_len (fa_cons (fe_var 6 rfl) fa_nil)) fa_nil))) fam_nil))))) (fss_cons (fs_ret fe_bl)
    fss_nil) fss_nil)
    fss_nil))
    fss_nil))
    fss_nil))))
    fss_nil))))))))))))))
    (fss_cons (fs_set 15 rfl rfl sc_law.nd rfl (Or.inl rfl) (fe_fz (fe_lst (fa_cons (fe_tup (fa_cons (fe_tup (fa_cons fe_int (fa_cons fe_int fa_nil))) (fa_cons (fe_tup (fa_cons fe_int (fa_cons fe_int fa_nil))) fa_nil))) (fa_cons (fe_tup (fa_cons (fe_tup (fa_cons fe_int (fa_cons fe_int fa_nil))) (fa_cons (fe_tup (fa_cons fe_int (fa_cons fe_int fa_nil))) fa_nil))) fa_nil)))))
    (fss_cons (fs_if (ft_not (ft_val (fe_call (ok__law_same T 8) (hr.mono (by decide)) rfl T.g__law_same T.F__law_same.kp T.b__law_same .nil (fun _ => .nil) (takes_of rfl rfl rfl rfl) (do__law_same _) rfl (shN (shN shZ)) (shOut rfl) rfl (fam_fz (fe_call (ok__law_asked T) (hr.mono (by decide)) rfl T.g__law_asked T.F__law_asked.kp T.b__law_asked .nil (fun _ => .nil) (takes_of rfl rfl rfl rfl) runF_outs rfl (shN (shN (shN (shN (shN shZ))))) (shOut rfl) rfl (fam_fz fe_str (fam_fz fe_int (fam_fz (fe_var 15 rfl) (fam_fz fe_non (fam_fz fe_non fam_nil)))))) (fam_fz (fe_tup (fa_cons fe_str (fa_cons (fe_tup (fa_cons (fe_tup (fa_cons (fe_tup (fa_cons fe_int (fa_cons fe_int fa_nil))) (fa_cons (fe_tup (fa_cons fe_int (fa_cons fe_int fa_nil))) fa_nil))) (fa_cons (fe_tup (fa_cons (fe_tup (fa_cons fe_int (fa_cons fe_int fa_nil))) (fa_cons (fe_tup (fa_cons fe_int (fa_cons fe_int fa_nil))) fa_nil))) (fa_cons (fe_tup (fa_cons (fe_tup (fa_cons fe_int (fa_cons fe_int fa_nil))) (fa_cons (fe_tup (fa_cons fe_int (fa_cons fe_int fa_nil))) fa_nil))) fa_nil)))) fa_nil))) fam_nil))))) (fss_cons (fs_ret fe_bl)
    fss_nil) fss_nil)
    (fss_cons (fs_if (ft_w (fw_or (ft_not (ft_val (fe_call (ok__law_same T 8) (hr.mono (by decide)) rfl T.g__law_same T.F__law_same.kp T.b__law_same .nil (fun _ => .nil) (takes_of rfl rfl rfl rfl) (do__law_same _) rfl (shN (shN shZ)) (shOut rfl) rfl (fam_fz (fe_call (ok__law_asked T) (hr.mono (by decide)) rfl T.g__law_asked T.F__law_asked.kp T.b__law_asked .nil (fun _ => .nil) (takes_of rfl rfl rfl rfl) runF_outs rfl (shN (shN (shN (shN (shN shZ))))) (shOut rfl) rfl (fam_fz fe_str (fam_fz fe_int (fam_fz (fe_fz (fe_lst fa_nil)) (fam_fz fe_non (fam_fz fe_non fam_nil)))))) (fam_fz (fe_tup (fa_cons fe_str (fa_cons (fe_tup fa_nil) fa_nil))) fam_nil))))) (fw_or1 (ft_not (ft_val (fe_call (ok__law_same T 8) (hr.mono (by decide)) rfl T.g__law_same T.F__law_same.kp T.b__law_same .nil (fun _ => .nil) (takes_of rfl rfl rfl rfl) (do__law_same _) rfl (shN (shN shZ)) (shOut rfl) rfl (fam_fz (fe_call (ok__law_asked T) (hr.mono (by decide)) rfl T.g__law_asked T.F__law_asked.kp T.b__law_asked .nil (fun _ => .nil) (takes_of rfl rfl rfl rfl) runF_outs rfl (shN (shN (shN (shN (shN shZ))))) (shOut rfl) rfl (fam_fz fe_str (fam_fz fe_int (fam_fz (fe_var 15 rfl) (fam_fz (fe_tup (fa_cons fe_int (fa_cons fe_int fa_nil))) (fam_fz (fe_tup (fa_cons fe_int (fa_cons fe_int fa_nil))) fam_nil)))))) (fam_fz (fe_tup (fa_cons fe_str (fa_cons fe_bl fa_nil))) fam_nil)))))))) (fss_cons (fs_ret fe_bl)
    fss_nil) fss_nil)
    (fss_cons (fs_if (ft_not (ft_val (fe_call (ok__law_same T 8) (hr.mono (by decide)) rfl T.g__law_same T.F__law_same.kp T.b__law_same .nil (fun _ => .nil) (takes_of rfl rfl rfl rfl) (do__law_same _) rfl (shN (shN shZ)) (shOut rfl) rfl (fam_fz (fe_call (ok__law_asked T) (hr.mono (by decide)) rfl T.g__law_asked T.F__law_asked.kp T.b__law_asked .nil (fun _ => .nil) (takes_of rfl rfl rfl rfl) runF_outs rfl (shN (shN (shN (shN (shN shZ))))) (shOut rfl) rfl (fam_fz fe_str (fam_fz fe_int (fam_fz (fe_var 15 rfl) (fam_fz (fe_tup (fa_cons fe_int (fa_cons fe_int fa_nil))) (fam_fz (fe_tup (fa_cons fe_int (fa_cons fe_int fa_nil))) fam_nil)))))) (fam_fz (fe_tup (fa_cons fe_str (fa_cons fe_bl fa_nil))) fam_nil))))) (fss_cons (fs_ret fe_bl)
    fss_nil) fss_nil)
    (fss_cons (fs_for (passes_of rfl) rfl (fi_seq (fe_fz (fe_lst (fa_cons fe_non (fa_cons (fe_op op_sub sub_ok fe_int fe_int) (fa_cons fe_int (fa_cons fe_bl (fa_cons fe_str (fa_cons (fe_fz (fe_lst (fa_cons fe_int fa_nil))) fa_nil))))))))) (fg_name 13 rfl rfl sc_law.nd rfl (Or.inl rfl)) (fss_cons (fs_for (passes_of rfl) rfl (fi_seq (fe_fz (fe_lst (fa_cons fe_str (fa_cons fe_str fa_nil))))) (fg_name 14 rfl rfl sc_law.nd rfl (Or.inl rfl)) (fss_cons (fs_if (ft_not (ft_val (fe_call (ok__law_same T 8) (hr.mono (by decide)) rfl T.g__law_same T.F__law_same.kp T.b__law_same .nil (fun _ => .nil) (takes_of rfl rfl rfl rfl) (do__law_same _) rfl (shN (shN shZ)) (shOut rfl) rfl (fam_fz (fe_call (ok__law_asked T) (hr.mono (by decide)) rfl T.g__law_asked T.F__law_asked.kp T.b__law_asked .nil (fun _ => .nil) (takes_of rfl rfl rfl rfl) runF_outs rfl (shN (shN (shN (shN (shN shZ))))) (shOut rfl) rfl (fam_fz (fe_var 14 rfl) (fam_fz (fe_var 13 rfl) (fam_fz fe_non (fam_fz fe_non (fam_fz fe_non fam_nil)))))) (fam_fz (fe_tup (fa_cons fe_str (fa_cons (fe_op op_sub sub_ok fe_int fe_int) fa_nil))) fam_nil))))) (fss_cons (fs_ret fe_bl)
    fss_nil) fss_nil)
    fss_nil))
    fss_nil))
    (fss_cons (fs_for (passes_of rfl) rfl (fi_seq (fe_fz (fe_lst (fa_cons fe_non (fa_cons fe_int (fa_cons fe_str (fa_cons (fe_fz (fe_rep (fe_lst (fa_cons (fe_tup (fa_cons (fe_tup (fa_cons fe_int (fa_cons fe_int fa_nil))) (fa_cons (fe_tup (fa_cons fe_int (fa_cons fe_int fa_nil))) fa_nil))) fa_nil)) fe_int)) fa_nil))))))) (fg_name 13 rfl rfl sc_law.nd rfl (Or.inl rfl)) (fss_cons (fs_for (passes_of rfl) rfl (fi_seq (fe_fz (fe_lst (fa_cons fe_str (fa_cons fe_str fa_nil))))) (fg_name 14 rfl rfl sc_law.nd rfl (Or.inl rfl)) (fss_cons (fs_if (ft_not (ft_val (fe_call (ok__law_same T 8) (hr.mono (by decide)) rfl T.g__law_same T.F__law_same.kp T.b__law_same .nil (fun _ => .nil) (takes_of rfl rfl rfl rfl) (do__law_same _) rfl (shN (shN shZ)) (shOut rfl) rfl (fam_fz (fe_call (ok__law_asked T) (hr.mono (by decide)) rfl T.g__law_asked T.F__law_asked.kp T.b__law_asked .nil (fun _ => .nil) (takes_of rfl rfl rfl rfl) runF_outs rfl (shN (shN (shN (shN (shN shZ))))) (shOut rfl) rfl (fam_fz (fe_var 14 rfl) (fam_fz fe_int (fam_fz (fe_var 13 rfl) (fam_fz fe_non (fam_fz fe_non fam_nil)))))) (fam_fz (fe_tup (fa_cons fe_str (fa_cons (fe_op op_sub sub_ok fe_int fe_int) fa_nil))) fam_nil))))) (fss_cons (fs_ret fe_bl)
    fss_nil) fss_nil)
    fss_nil))
    fss_nil))
    (fss_cons (fs_ret fe_bl)
    fss_nil))))))))))
end
end Hk
namespace Hk
/-! ### couples of sides: what follows -/
/-- the other side of the same hedge -/
def op (s : Nat) : Nat := if s % 2 = 0 then s + 1 else s - 1
theorem op_op (s : Nat) : op (op s) = s := by unfold op; split <;> split <;> omega
theorem op_lt {s n : Nat} (h : s < 2 * n) : op s < 2 * n := by unfold op; split <;> omega
theorem op_div (s : Nat) : op s / 2 = s / 2 := by unfold op; split <;> omega
theorem op_ne (s : Nat) : op s ≠ s := by unfold op; split <;> omega
theorem op_inj {s t : Nat} (h : op s = op t) : s = t := by rw [← op_op s, h, op_op]
theorem xor_op (s : Nat) : s ^^^ 1 = op s := by
  have h1 : (s ^^^ 1) / 2 = s / 2 := by
    have := Nat.xor_div_two (a := s) (b := 1)
    simpa using this
  have h2 := Nat.xor_mod_two_eq_one (a := s) (b := 1)
  unfold op
  split <;> omega
def Edge (ps : List (Nat × Nat)) (a b : Nat) : Prop := ∃ p ∈ ps, (a = p.1 ∧ b = op p.2) ∨ (a = p.2 ∧ b = op p.1)
theorem Edge.contra {ps : List (Nat × Nat)} {a b : Nat} (h : Edge ps a b) : Edge ps (op b) (op a) := by
  obtain ⟨p, hp, ⟨rfl, rfl⟩ | ⟨rfl, rfl⟩⟩ := h
  · exact ⟨p, hp, .inr ⟨op_op _, rfl⟩⟩
  · exact ⟨p, hp, .inl ⟨op_op _, rfl⟩⟩
inductive TC (E : Nat → Nat → Prop) : Nat → Nat → Prop
  | refl (a : Nat) : TC E a a
  | step {a b c : Nat} : TC E a b → E b c → TC E a c
theorem TC.trans {E : Nat → Nat → Prop} {a b c : Nat} (h : TC E a b) (k : TC E b c) : TC E a c := by
  induction k with
  | refl => exact h
  | step _ e ih => exact .step ih e
theorem TC.one {E : Nat → Nat → Prop} {a b : Nat} (h : E a b) : TC E a b := .step (.refl a) h
theorem TC.contra {ps : List (Nat × Nat)} {a b : Nat} (h : TC (Edge ps) a b) : TC (Edge ps) (op b) (op a) := by
  induction h with
  | refl => exact .refl _
  | step _ e ih => exact (TC.one e.contra).trans ih
/-- paths whose inner points are below k -/
def PW (R : Nat → Nat → Prop) : Nat → Nat → Nat → Prop
  | 0 => R
  | k + 1 => fun a b => PW R k a b ∨ (PW R k a k ∧ PW R k k b)
theorem PW_mono {R : Nat → Nat → Prop} {a b : Nat} : ∀ {k : Nat}, R a b → PW R k a b
  | 0, h => h
  | k + 1, h => .inl (PW_mono h)
theorem PW_trans {R : Nat → Nat → Prop} : ∀ {k c a b : Nat}, c < k → PW R k a c → PW R k c b → PW R k a b
  | 0, c, _, _, h, _, _ => absurd h (Nat.not_lt_zero _)
  | k + 1, c, a, b, h, h1, h2 => by
    by_cases hc : c = k
    · subst hc
      exact .inr ⟨h1.elim id (·.1), h2.elim id (·.2)⟩
    · have hc : c < k := by omega
      rcases h1 with p | ⟨p1, p2⟩ <;> rcases h2 with q | ⟨q1, q2⟩
      · exact .inl (PW_trans hc p q)
      · exact .inr ⟨PW_trans hc p q1, q2⟩
      · exact .inr ⟨p1, PW_trans hc p2 q⟩
      · exact .inr ⟨p1, q2⟩
theorem PW_self {R : Nat → Nat → Prop} {k b : Nat} : PW R (k + 1) k b ↔ PW R k k b := ⟨fun h => h.elim id (·.2), .inl⟩
theorem PW_tc {E : Nat → Nat → Prop} : ∀ {k a b : Nat}, PW (fun a b => E a b ∨ b = a) k a b → TC E a b
  | 0, a, b, h => h.elim TC.one fun z => z ▸ .refl _
  | k + 1, a, b, h => h.elim PW_tc fun z => (PW_tc z.1).trans (PW_tc z.2)
theorem tc_PW {E : Nat → Nat → Prop} {N : Nat} (hE : ∀ a b, E a b → a < N) {a b : Nat} (h : TC E a b) : PW (fun a b => E a b ∨ b = a) N a b := by
  induction h with
  | refl => exact PW_mono (.inr rfl)
  | step h e ih => exact PW_trans (hE _ _ e) ih (PW_mono (.inl e))
/-- a row has a side -/
def hold (x : Nat → Bool) (s : Nat) : Prop := x (s / 2) = decide (s % 2 = 1)
theorem hold_op {x : Nat → Bool} {s : Nat} : hold x (op s) ↔ ¬ hold x s := by
  unfold hold
  rw [op_div]
  have : decide (op s % 2 = 1) = !decide (s % 2 = 1) := by
    unfold op
    split
    · rename_i h
      have h1 : (s + 1) % 2 = 1 := by omega
      simp [h, h1]
    · rename_i h
      have h1 : s % 2 = 1 := by omega
      have h2 : (s - 1) % 2 = 0 := by omega
      simp [h1, h2]
  rw [this]
  cases x (s / 2) <;> cases decide (s % 2 = 1) <;> simp
/-- no couple has both its sides in a row -/
def Good (ps : List (Nat × Nat)) (x : Nat → Bool) : Prop := ∀ p ∈ ps, ¬ (hold x p.1 ∧ hold x p.2)
theorem Good.led {ps : List (Nat × Nat)} {x : Nat → Bool} {a b : Nat} (g : Good ps x) (h : TC (Edge ps) a b) (ha : hold x a) : hold x b := by
  induction h with
  | refl => exact ha
  | step _ e ih =>
    obtain ⟨p, hp, ⟨rfl, rfl⟩ | ⟨rfl, rfl⟩⟩ := e
    · exact hold_op.mpr fun z => g p hp ⟨ih, z⟩
    · exact hold_op.mpr fun z => g p hp ⟨z, ih⟩
structure Half (ps : List (Nat × Nat)) (S : Nat → Prop) : Prop where
  cl : ∀ s t, S s → Edge ps s t → S t
  co : ∀ s, S s → ¬ S (op s)
theorem Half.tc {ps : List (Nat × Nat)} {S : Nat → Prop} (h : Half ps S) {s t : Nat} (hs : S s) (k : TC (Edge ps) s t) : S t := by
  induction k with
  | refl => exact hs
  | step _ e ih => exact h.cl _ _ ih e
theorem half_more {ps : List (Nat × Nat)} {S : Nat → Prop} {n : Nat} (hs : Half ps S) (hc : ∀ v, ¬ (TC (Edge ps) v (op v) ∧ TC (Edge ps) (op v) v)) : ∃ S', Half ps S' ∧ (∀ s, S s → S' s) ∧ ∀ h, h < n → S' (2 * h) ∨ S' (2 * h + 1) := by
  induction n with
  | zero => exact ⟨S, hs, fun _ h => h, fun h z => absurd z (Nat.not_lt_zero _)⟩
  | succ k ih =>
    obtain ⟨T, hT, sub, tot⟩ := ih
    by_cases h0 : T (2 * k) ∨ T (2 * k + 1)
    · refine ⟨T, hT, sub, fun h hh => ?_⟩
      by_cases e : h = k
      · subst e; exact h0
      · exact tot h (by omega)
    · have n0 : ¬ T (2 * k) := fun z => h0 (.inl z)
      have n1 : ¬ T (2 * k + 1) := fun z => h0 (.inr z)
      have o0 : op (2 * k) = 2 * k + 1 := by unfold op; split <;> omega
      have o1 : op (2 * k + 1) = 2 * k := by unfold op; split <;> omega
      have pick : ∃ v, (v = 2 * k ∨ v = 2 * k + 1) ∧ ¬ TC (Edge ps) v (op v) ∧ ¬ T (op v) := by
        by_cases q : TC (Edge ps) (2 * k) (op (2 * k))
        · refine ⟨2 * k + 1, .inr rfl, fun z => hc (2 * k) ⟨q, ?_⟩, by rw [o1]; exact n0⟩
          rw [o1] at z; rw [o0]; exact z
        · exact ⟨2 * k, .inl rfl, q, by rw [o0]; exact n1⟩
      obtain ⟨v, hv, nv, nT⟩ := pick
      refine ⟨fun s => T s ∨ TC (Edge ps) v s, ⟨?_, ?_⟩, fun s h => .inl (sub s h), fun h hh => ?_⟩
      · rintro s t (z | z) e
        · exact .inl (hT.cl s t z e)
        · exact .inr (.step z e)
      · rintro s (z | z) (w | w)
        · exact hT.co s z w
        · have := w.contra
          rw [op_op] at this
          exact nT (hT.tc z this)
        · exact nT (hT.tc w z.contra)
        · have := w.contra
          rw [op_op] at this
          exact nv (z.trans this)
      · by_cases e : h = k
        · subst e
          rcases hv with rfl | rfl
          · exact .inl (.inr (.refl _))
          · exact .inr (.inr (.refl _))
        · exact (tot h (by omega)).imp .inl .inl
/-- what the table of all couples that follow has -/
def Cl (n : Nat) (ps : List (Nat × Nat)) (a b : Nat) : Prop := b < 2 * n ∧ b ≠ op a ∧
  (TC (Edge ps) a (op b) ∨ TC (Edge ps) a (op a) ∨ TC (Edge ps) b (op b) ∨ ∃ v, v < 2 * n ∧ TC (Edge ps) v (op v) ∧ TC (Edge ps) (op v) v)
theorem tc_lt {ps : List (Nat × Nat)} {n a b : Nat} (hp : ∀ p ∈ ps, p.1 < 2 * n ∧ p.2 < 2 * n) (h : TC (Edge ps) a b) : a = b ∨ (a < 2 * n ∧ b < 2 * n) := by
  induction h with
  | refl => exact .inl rfl
  | step _ e ih =>
    obtain ⟨p, hm, e⟩ := e
    obtain ⟨p1, p2⟩ := hp p hm
    right
    rcases e with ⟨e1, e2⟩ | ⟨e1, e2⟩
    · exact ⟨by rcases ih with z | z <;> omega, by rw [e2]; exact op_lt p2⟩
    · exact ⟨by rcases ih with z | z <;> omega, by rw [e2]; exact op_lt p1⟩
theorem two_sat {ps : List (Nat × Nat)} {n a b : Nat} (hp : ∀ p ∈ ps, p.1 < 2 * n ∧ p.2 < 2 * n) (ha : a < 2 * n) (hb : b < 2 * n) (hab : b ≠ op a) : Cl n ps a b ↔ ¬ ∃ x, Good ps x ∧ hold x a ∧ hold x b := by
  constructor
  · rintro ⟨_, _, h⟩ ⟨x, g, xa, xb⟩
    rcases h with h | h | h | ⟨v, _, h1, h2⟩
    · exact hold_op.mp (g.led h xa) xb
    · exact hold_op.mp (g.led h xa) xa
    · exact hold_op.mp (g.led h xb) xb
    · by_cases hv : hold x v
      · exact hold_op.mp (g.led h1 hv) hv
      · exact hv (g.led h2 (hold_op.mpr hv))
  · intro h
    refine Classical.byContradiction fun k => h ?_
    have k1 : ¬ TC (Edge ps) a (op b) := fun z => k ⟨hb, hab, .inl z⟩
    have k2 : ¬ TC (Edge ps) a (op a) := fun z => k ⟨hb, hab, .inr (.inl z)⟩
    have k3 : ¬ TC (Edge ps) b (op b) := fun z => k ⟨hb, hab, .inr (.inr (.inl z))⟩
    have k4 : ∀ v, ¬ (TC (Edge ps) v (op v) ∧ TC (Edge ps) (op v) v) := fun v z => by
      rcases tc_lt hp z.1 with q | q
      · exact op_ne v q.symm
      · exact k ⟨hb, hab, .inr (.inr (.inr ⟨v, q.1, z⟩))⟩
    have k5 : ¬ TC (Edge ps) b (op a) := fun z => by
      have := z.contra
      rw [op_op] at this
      exact k1 this
    have h0 : Half ps fun s => TC (Edge ps) a s ∨ TC (Edge ps) b s := ⟨fun s t z e => z.imp (.step · e) (.step · e), by
      rintro s (z | z) (w | w)
      · have := w.contra; rw [op_op] at this; exact k2 (z.trans this)
      · have := w.contra; rw [op_op] at this; exact k5.elim (by have := z.contra; exact (w.trans this))
      · have := w.contra; rw [op_op] at this; exact k5 (z.trans this)
      · have := w.contra; rw [op_op] at this; exact k3 (z.trans this)⟩
    obtain ⟨S, hS, sub, tot⟩ := half_more (n := n) h0 k4
    have dec : ∀ s, s < 2 * n → (hold (fun h => @decide (S (2 * h + 1)) (Classical.propDecidable _)) s ↔ S s) := fun s hs => by
      unfold hold
      by_cases e : s % 2 = 1
      · have : 2 * (s / 2) + 1 = s := by omega
        simp only [this, e, decide_true, decide_eq_true_eq]
      · have e1 : 2 * (s / 2) = s := by omega
        have e2 : op s = s + 1 := by unfold op; split <;> omega
        simp only [e1, e, decide_false, decide_eq_false_iff_not]
        constructor
        · intro z
          rcases tot (s / 2) (by omega) with q | q
          · rwa [e1] at q
          · rw [e1] at q; exact absurd q z
        · intro z q
          exact hS.co s z (by rw [e2]; exact q)
    refine ⟨_, fun p hm ⟨z1, z2⟩ => ?_, (dec a ha).mpr (sub a (.inl (.refl _))), (dec b hb).mpr (sub b (.inr (.refl _)))⟩
    obtain ⟨p1, p2⟩ := hp p hm
    exact hS.co p.2 ((dec _ p2).mp z2) (hS.cl p.1 _ ((dec _ p1).mp z1) ⟨p, hm, .inl ⟨rfl, rfl⟩⟩)
end Hk
namespace Hk
open PySem
/-! ### bits -/
theorem band {a b : Nat} : Builtin.bitAnd (a : Int) (b : Int) = ((a &&& b : Nat) : Int) := by
  unfold Builtin.bitAnd
  simp
theorem bor {a b : Nat} : Builtin.bitOr (a : Int) (b : Int) = ((a ||| b : Nat) : Int) := by
  unfold Builtin.bitOr Builtin.bitAnd Builtin.bitNot
  have h1 : decide (0 ≤ -(a : Int) - 1) = false := decide_eq_false (by omega)
  have h2 : decide (0 ≤ -(b : Int) - 1) = false := decide_eq_false (by omega)
  rw [h1, h2]
  have e1 : (-(-(a : Int) - 1) - 1).toNat = a := by omega
  have e2 : (-(-(b : Int) - 1) - 1).toNat = b := by omega
  simp only [e1, e2]
  omega
theorem bxor1 {a : Nat} : Builtin.bitXor (a : Int) 1 = ((op a : Nat) : Int) := by
  rw [PyProof.Rows.bitXor_and, PyProof.Rows.bitAnd_m1]
  unfold op
  split <;> omega
theorem add_or : ∀ (a b : Nat), a &&& b = 0 → a + b = a ||| b := fun a => by
  induction a using Nat.strongRecOn with
  | _ a ih =>
    intro b h
    by_cases ha : a = 0
    · subst ha; simp
    have h2 : a / 2 &&& b / 2 = 0 := by rw [← Nat.and_div_two, h]
    have hm : ¬ (a % 2 = 1 ∧ b % 2 = 1) := fun z => by
      have := Nat.and_mod_two_eq_one.mpr z
      rw [h] at this
      cases this
    have h3 := ih (a / 2) (by omega) (b / 2) h2
    have h4 : (a ||| b) / 2 = a / 2 ||| b / 2 := Nat.or_div_two
    have h5 := Nat.or_mod_two_eq_one (a := a) (b := b)
    omega
theorem bdiff {a k : Nat} : Builtin.bitAnd (a : Int) (Builtin.bitNot (k : Int)) = ((a ^^^ (a &&& k) : Nat) : Int) := by
  unfold Builtin.bitAnd Builtin.bitNot
  have h1 : decide (0 ≤ (a : Int)) = true := decide_eq_true (by omega)
  have h2 : decide (0 ≤ -(k : Int) - 1) = false := decide_eq_false (by omega)
  rw [h1, h2]
  have e2 : (-(-(k : Int) - 1) - 1).toNat = k := by omega
  simp only [e2, Int.toNat_natCast]
  have h3 : (a ^^^ (a &&& k)) + (a &&& k) = a := by
    rw [add_or _ _ (Nat.eq_of_testBit_eq fun i => by
      rw [Nat.testBit_and, Nat.testBit_xor, Nat.testBit_and, Nat.zero_testBit]
      cases a.testBit i <;> cases k.testBit i <;> rfl)]
    refine Nat.eq_of_testBit_eq fun i => ?_
    rw [Nat.testBit_or, Nat.testBit_xor, Nat.testBit_and]
    cases a.testBit i <;> cases k.testBit i <;> rfl
  omega
theorem tb_diff {a k i : Nat} : (a ^^^ (a &&& k)).testBit i = (a.testBit i && !k.testBit i) := by
  rw [Nat.testBit_xor, Nat.testBit_and]
  cases a.testBit i <;> cases k.testBit i <;> rfl
theorem tb_pow {j i : Nat} : (2 ^ j).testBit i = decide (i = j) := by
  rw [Nat.testBit_two_pow]
  by_cases h : j = i
  · subst h; simp
  · rw [decide_eq_false h, decide_eq_false fun z => h z.symm]
theorem tb_full {j i : Nat} : (2 ^ j - 1).testBit i = decide (i < j) := Nat.testBit_two_pow_sub_one j i
theorem shr1 {m k : Nat} : Builtin.bitAnd ((m : Int) / 2 ^ k) 1 = if m.testBit k then 1 else 0 := by
  rw [PyProof.Rows.bitAnd_m1]
  rw [Nat.testBit_eq_decide_div_mod_eq]
  have : ((m : Int) / 2 ^ k) % 2 = ((m / 2 ^ k % 2 : Nat) : Int) := by
    rw [Int.natCast_emod, Int.natCast_ediv, Int.natCast_pow]; rfl
  rw [this]
  by_cases h : m / 2 ^ k % 2 = 1
  · rw [h, if_pos (by simp)]; rfl
  · have : m / 2 ^ k % 2 = 0 := by omega
    rw [this, if_neg (by simp)]; rfl
def sumP (l : List Nat) : Nat := (l.map (2 ^ ·)).sum
theorem tb_sum {i : Nat} : ∀ {l : List Nat}, l.Nodup → ∀ i, (sumP l).testBit i = decide (i ∈ l)
  | [], _, i => by simp [sumP]
  | x :: l, h, i => by
    obtain ⟨h1, h2⟩ := List.nodup_cons.mp h
    have e : sumP (x :: l) = 2 ^ x ||| sumP l := by
      have : sumP (x :: l) = 2 ^ x + sumP l := by simp [sumP]
      rw [this]
      refine add_or _ _ (Nat.eq_of_testBit_eq fun j => ?_)
      rw [Nat.testBit_and, tb_pow, tb_sum (i := 0) h2 j, Nat.zero_testBit]
      by_cases hj : j = x
      · subst hj; simp [h1]
      · simp [hj]
    rw [e, Nat.testBit_or, tb_pow, tb_sum (i := 0) h2 i]
    by_cases hj : i = x <;> simp [hj]
theorem bits_top {m i : Nat} (h : m.testBit i = true) : i < Builtin.Int.intBits (m : Int) := by
  have h1 := Nat.ge_two_pow_of_testBit h
  unfold Builtin.Int.intBits
  have hp : 0 < 2 ^ i := Nat.two_pow_pos i
  rw [if_neg (by simp; omega)]
  have : m.log2 ≥ i := (Nat.le_log2 (by omega)).mpr h1
  simp only [Int.natAbs_natCast]
  omega
theorem bits_most {m n : Nat} (h : m < 2 ^ n) : Builtin.Int.intBits (m : Int) ≤ n := by
  unfold Builtin.Int.intBits
  split
  · omega
  · rename_i hz
    have hz : m ≠ 0 := by simpa using hz
    simp only [Int.natAbs_natCast]
    have : m.log2 < n := (Nat.log2_lt hz).mpr h
    omega
theorem filter_range {p : Nat → Bool} {a b : Nat} (ha : ∀ i, p i = true → i < a) (hb : ∀ i, p i = true → i < b) : (List.range a).filter p = (List.range b).filter p := by
  have key : ∀ {a b : Nat}, a ≤ b → (∀ i, p i = true → i < a) → (List.range a).filter p = (List.range b).filter p := by
    intro a b hab h
    obtain ⟨c, rfl⟩ := Nat.exists_eq_add_of_le hab
    induction c with
    | zero => rfl
    | succ c ih =>
      rw [← Nat.add_assoc, List.range_succ, List.filter_append, ← ih (by omega)]
      have : p (a + c) = false := by
        cases q : p (a + c) with
        | false => rfl
        | true => have := h _ q; omega
      simp [this]
  by_cases h : a ≤ b
  · exact key h ha
  · exact (key (by omega) hb).symm
end Hk
namespace Hk
open PySem FL
def bI (b : Bool) : D := .int (if b then 1 else 0)
def isI : D → Bool | .int _ => true | _ => false
theorem is_integer_ok {v : D} (h : v.easy = true) : d_is_integer [v] = .ok (.bl (isI v)) [] := by
  refine wf_eq (wRun rfl ?_)
  unfold b_is_integer
  (repeat (first | (with_reducible first | refine wSeq ?_ | refine wSIf ?_ | refine wSet ?_ | refine wRet ?_ | refine wExpr ?_ | refine wRaise ?_ | refine wPar ?_ | refine wAsg ?_ | refine wConst ?_ | refine wNil ?_ | refine wCons ?_ | refine wTup ?_ | refine wLst ?_ | refine wCall ?_ | refine wCall1 ?_ | refine wOp1 ?_ | refine wOp2 ?_ | refine wOp3 ?_ | refine wDCmp ?_ | refine wTCmp ?_ | refine wTBl ?_ | refine wTAnd ?_ | refine wTOr ?_ | refine wTNot ?_ | refine wYes ?_ | refine wDAnd ?_ | refine wDOr ?_ | refine wDNot ?_ | refine wDIf ?_ | refine wIs ?_ | refine wIs2 ?_ | refine wCallF ?_ | refine wCallV ?_ | refine wDLen ?_ | refine wItSeq ?_ | refine wItEn ?_ | refine wRng1 ?_ | refine wFor ?_ | refine wLc ?_ | refine wDPart ?_ | refine wNoPart ?_ | refine wSl ?_ | refine wSNil ?_) | ((with_reducible apply wVar); exact rfl) | ((with_reducible apply wMove); exact rfl) | refine ⟨_, rfl, ?_⟩ | refine ⟨Nat.le_of_ble_eq_true rfl, ?_⟩))
  refine ⟨h, _, rfl, fun t => ?_, fun t => ?_⟩
  · (repeat (first | (with_reducible first | refine wSeq ?_ | refine wSIf ?_ | refine wSet ?_ | refine wRet ?_ | refine wExpr ?_ | refine wRaise ?_ | refine wPar ?_ | refine wAsg ?_ | refine wConst ?_ | refine wNil ?_ | refine wCons ?_ | refine wTup ?_ | refine wLst ?_ | refine wCall ?_ | refine wCall1 ?_ | refine wOp1 ?_ | refine wOp2 ?_ | refine wOp3 ?_ | refine wDCmp ?_ | refine wTCmp ?_ | refine wTBl ?_ | refine wTAnd ?_ | refine wTOr ?_ | refine wTNot ?_ | refine wYes ?_ | refine wDAnd ?_ | refine wDOr ?_ | refine wDNot ?_ | refine wDIf ?_ | refine wIs ?_ | refine wIs2 ?_ | refine wCallF ?_ | refine wCallV ?_ | refine wDLen ?_ | refine wItSeq ?_ | refine wItEn ?_ | refine wRng1 ?_ | refine wFor ?_ | refine wLc ?_ | refine wDPart ?_ | refine wNoPart ?_ | refine wSl ?_ | refine wSNil ?_) | ((with_reducible apply wVar); exact rfl) | ((with_reducible apply wMove); exact rfl) | refine ⟨_, rfl, ?_⟩ | refine ⟨Nat.le_of_ble_eq_true rfl, ?_⟩))
    refine ⟨h, ?_⟩
    (repeat (first | (with_reducible first | refine wSeq ?_ | refine wSIf ?_ | refine wSet ?_ | refine wRet ?_ | refine wExpr ?_ | refine wRaise ?_ | refine wPar ?_ | refine wAsg ?_ | refine wConst ?_ | refine wNil ?_ | refine wCons ?_ | refine wTup ?_ | refine wLst ?_ | refine wCall ?_ | refine wCall1 ?_ | refine wOp1 ?_ | refine wOp2 ?_ | refine wOp3 ?_ | refine wDCmp ?_ | refine wTCmp ?_ | refine wTBl ?_ | refine wTAnd ?_ | refine wTOr ?_ | refine wTNot ?_ | refine wYes ?_ | refine wDAnd ?_ | refine wDOr ?_ | refine wDNot ?_ | refine wDIf ?_ | refine wIs ?_ | refine wIs2 ?_ | refine wCallF ?_ | refine wCallV ?_ | refine wDLen ?_ | refine wItSeq ?_ | refine wItEn ?_ | refine wRng1 ?_ | refine wFor ?_ | refine wLc ?_ | refine wDPart ?_ | refine wNoPart ?_ | refine wSl ?_ | refine wSNil ?_) | ((with_reducible apply wVar); exact rfl) | ((with_reducible apply wMove); exact rfl) | refine ⟨_, rfl, ?_⟩ | refine ⟨Nat.le_of_ble_eq_true rfl, ?_⟩))
    cases v <;> simp_all [isI, isT, getS_nil]
  · cases v <;> simp_all [isI, isT, getS_nil]
def below (v : D) (n : Int) : Bool := match v with | .int i => decide (0 ≤ i) && decide (i < n) | _ => false
theorem is_below_ok {v : D} {n : Int} (h : v.easy = true) : d_is_below [v, .int n] = .ok (.bl (below v n)) [] := by
  refine wf_eq (wRun rfl ?_)
  unfold b_is_below
  (repeat (first | (with_reducible first | refine wSeq ?_ | refine wSIf ?_ | refine wSet ?_ | refine wRet ?_ | refine wExpr ?_ | refine wRaise ?_ | refine wPar ?_ | refine wAsg ?_ | refine wConst ?_ | refine wNil ?_ | refine wCons ?_ | refine wTup ?_ | refine wLst ?_ | refine wCall ?_ | refine wCall1 ?_ | refine wOp1 ?_ | refine wOp2 ?_ | refine wOp3 ?_ | refine wDCmp ?_ | refine wTCmp ?_ | refine wTBl ?_ | refine wTAnd ?_ | refine wTOr ?_ | refine wTNot ?_ | refine wYes ?_ | refine wDAnd ?_ | refine wDOr ?_ | refine wDNot ?_ | refine wDIf ?_ | refine wIs ?_ | refine wIs2 ?_ | refine wCallF ?_ | refine wCallV ?_ | refine wDLen ?_ | refine wItSeq ?_ | refine wItEn ?_ | refine wRng1 ?_ | refine wFor ?_ | refine wLc ?_ | refine wDPart ?_ | refine wNoPart ?_ | refine wSl ?_ | refine wSNil ?_) | ((with_reducible apply wVar); exact rfl) | ((with_reducible apply wMove); exact rfl) | refine ⟨_, rfl, ?_⟩ | refine ⟨Nat.le_of_ble_eq_true rfl, ?_⟩))
  refine wf_ok (is_integer_ok h) ?_
  refine ⟨_, rfl, fun t => ?_, fun t => ?_⟩
  · cases v <;> simp [isI] at t
    rename_i i
    by_cases q : 0 ≤ i
    · refine wOk (d := .bl (decide (i < n))) (e := [some (.int i), some (.int n)]) ?_ ?_
      · rw [dChain_ap, dConst_ap, bind_ok, dVar_ap rfl, bind_ok]
        simp [pI, q, R.opt, R.bind, dVar]; rfl
      · refine ⟨?_, rfl⟩
        simp [below, q]
    · refine wOk (d := .bl false) (e := [some (.int i), some (.int n)]) ?_ ?_
      · rw [dChain_ap, dConst_ap, bind_ok, dVar_ap rfl, bind_ok]
        simp [pI, q, R.opt, R.bind, dVar]; rfl
      · refine ⟨?_, rfl⟩
        simp [below, q]
  · refine ⟨?_, rfl⟩
    cases v <;> simp_all [isI, below]
def isSq (v : D) : Bool := (seqOf v).isSome
theorem is_sequence_ok {v : D} (h : v.easy = true) : d_is_sequence [v] = .ok (.bl (isSq v)) [] := by
  refine wf_eq (wRun rfl ?_)
  unfold b_is_sequence
  (repeat (first | (with_reducible first | refine wSeq ?_ | refine wSIf ?_ | refine wSet ?_ | refine wRet ?_ | refine wExpr ?_ | refine wRaise ?_ | refine wPar ?_ | refine wAsg ?_ | refine wConst ?_ | refine wNil ?_ | refine wCons ?_ | refine wTup ?_ | refine wLst ?_ | refine wCall ?_ | refine wCall1 ?_ | refine wOp1 ?_ | refine wOp2 ?_ | refine wOp3 ?_ | refine wDCmp ?_ | refine wTCmp ?_ | refine wTBl ?_ | refine wTAnd ?_ | refine wTOr ?_ | refine wTNot ?_ | refine wYes ?_ | refine wDAnd ?_ | refine wDOr ?_ | refine wDNot ?_ | refine wDIf ?_ | refine wIs ?_ | refine wIs2 ?_ | refine wCallF ?_ | refine wCallV ?_ | refine wDLen ?_ | refine wItSeq ?_ | refine wItEn ?_ | refine wRng1 ?_ | refine wFor ?_ | refine wLc ?_ | refine wDPart ?_ | refine wNoPart ?_ | refine wSl ?_ | refine wSNil ?_) | ((with_reducible apply wVar); exact rfl) | ((with_reducible apply wMove); exact rfl) | refine ⟨_, rfl, ?_⟩ | refine ⟨Nat.le_of_ble_eq_true rfl, ?_⟩))
  refine ⟨h, ?_, rfl⟩
  cases v <;> simp_all [isSq, seqOf, isT]
def Easy (v : D) : Prop := v.easy = true ∧ ∀ ds, seqOf v = some ds → ∀ d ∈ ds, d.easy = true
theorem pne_int {i j : Int} : pNe (.int i) (.int j) = some (!(i == j)) := by simp [pNe, D.fit, D.eqb]
theorem peq_int {i j : Int} : pEq (.int i) (.int j) = some (i == j) := by simp [pEq, D.fit, D.eqb]
theorem easy_of {v : D} {ds : List D} (h : seqOf v = some ds) : v.easy = true := by cases v <;> simp_all [seqOf, D.easy]
abbrev bad (n : Nat) (at_ : Int) : Exn := ⟨n, [(Er.fn, .int at_)]⟩
theorem atI_nat {α : Type} {xs : List α} {i : Nat} (h : i < xs.length) : L2.atI xs (i : Int) = xs[i]? := by
  unfold L2.atI L2.ixN
  simp [h]
theorem append_ok {ds : List D} {y : D} (h : ds.length < line) : gAppend ds [y] = some (.non, ds ++ [y]) := by
  show (if ds.length < line then _ else _) = _
  rw [if_pos h]
def nI (n : Nat) : D := .int n
theorem ix0 {v x : D} {ds : List D} (h : seqOf v = some (x :: ds)) : gIx v (.int 0) = some x := by
  have : L2.atI (x :: ds) (0 : Nat) = some x := atI_nat (xs := x :: ds) (i := 0) (by simp)
  cases v <;> simp [seqOf] at h <;> subst h <;> exact this
theorem ix1 {v x y : D} {ds : List D} (h : seqOf v = some (x :: y :: ds)) : gIx v (.int 1) = some y := by
  have : L2.atI (x :: y :: ds) (1 : Nat) = some y := atI_nat (xs := x :: y :: ds) (i := 1) (by simp)
  cases v <;> simp [seqOf] at h <;> subst h <;> exact this
theorem len_seq {v : D} {ds : List D} (h : seqOf v = some ds) : gLen [v] = some (.int ds.length) := by
  cases v <;> simp [seqOf] at h <;> subst h <;> rfl
theorem tup_seq {v : D} {ds : List D} (h : seqOf v = some ds) : gTuple [v] = some (.tup ds) := by
  cases v <;> simp [seqOf] at h <;> subst h <;> rfl
theorem op2_ap {f : D → D → Option D} {a b : M D} {e : Sl} {x y z : D} (ha : a e = .ok x e) (hb : b e = .ok y e) (h : f x y = some z) : dOp2 f a b e = .ok z e := by rw [dOp2_ap, ha, bind_ok, hb, bind_ok, h]; rfl
theorem int_ap {a : M D} {e : Sl} {i : Int} (ha : a e = .ok (.int i) e) : dCall gInt (dCons a dNil) e = .ok (.int i) e := by rw [dCall_ap, dCons_ap, ha, bind_ok, dNil_ap, bind_ok, bind_ok]; rfl
theorem div_ap {i j : Int} (h1 : 0 < j) (h2 : j < 1073741824) : gDiv (.int i) (.int j) = some (.int (i / j)) := by
  show (if _ then _ else none : Option Int).map _ = _
  rw [if_pos (by simp [h1, h2])]; rfl
theorem mod_ap {i j : Int} (h1 : 0 < j) : gMod (.int i) (.int j) = some (.int (i % j)) := by
  show (if _ then _ else none : Option Int).map _ = _
  rw [if_pos h1]; rfl
theorem mul_ap {i j : Int} (h1 : small64 j = true) : gMul (.int i) (.int j) = some (.int (i * j)) := by
  show (if _ then _ else none : Option Int).map _ = _
  rw [if_pos (by simp [h1])]; rfl
theorem mul_l {i j : Int} (h1 : small64 i = true) : gMul (.int i) (.int j) = some (.int (i * j)) := by
  show (if _ then _ else none : Option Int).map _ = _
  rw [if_pos (by simp [h1])]; rfl
def betw (v : D) (a b : Int) : Bool := match v with | .int i => decide (a ≤ i) && decide (i ≤ b) | _ => false
theorem is_between_ok {v : D} {a b : Int} (h : v.easy = true) : d_is_between [v, .int a, .int b] = .ok (.bl (betw v a b)) [] := by
  refine wf_eq (wRun rfl ?_)
  unfold b_is_between
  (repeat (first | (with_reducible first | refine wSeq ?_ | refine wSIf ?_ | refine wSet ?_ | refine wRet ?_ | refine wExpr ?_ | refine wRaise ?_ | refine wPar ?_ | refine wAsg ?_ | refine wConst ?_ | refine wNil ?_ | refine wCons ?_ | refine wTup ?_ | refine wLst ?_ | refine wCall ?_ | refine wCall1 ?_ | refine wOp1 ?_ | refine wOp2 ?_ | refine wOp3 ?_ | refine wDCmp ?_ | refine wTCmp ?_ | refine wTBl ?_ | refine wTAnd ?_ | refine wTOr ?_ | refine wTNot ?_ | refine wYes ?_ | refine wDAnd ?_ | refine wDOr ?_ | refine wDNot ?_ | refine wDIf ?_ | refine wIs ?_ | refine wIs2 ?_ | refine wCallF ?_ | refine wCallV ?_ | refine wDLen ?_ | refine wItSeq ?_ | refine wItEn ?_ | refine wRng1 ?_ | refine wFor ?_ | refine wLc ?_ | refine wDPart ?_ | refine wNoPart ?_ | refine wSl ?_ | refine wSNil ?_) | ((with_reducible apply wVar); exact rfl) | ((with_reducible apply wMove); exact rfl) | refine ⟨_, rfl, ?_⟩ | refine ⟨Nat.le_of_ble_eq_true rfl, ?_⟩))
  refine wf_ok (is_integer_ok h) ?_
  refine ⟨_, rfl, fun t => ?_, fun t => ?_⟩
  · cases v <;> simp [isI] at t
    rename_i i
    by_cases q : a ≤ i
    · refine wOk (d := .bl (decide (i ≤ b))) (e := [some (.int i), some (.int a), some (.int b)]) ?_ ?_
      · rw [dChain_ap, dVar_ap rfl, bind_ok, dVar_ap rfl, bind_ok]
        simp [pI, q, R.opt, R.bind, dVar]; rfl
      · refine ⟨?_, rfl⟩
        simp [betw, q]
    · refine wOk (d := .bl false) (e := [some (.int i), some (.int a), some (.int b)]) ?_ ?_
      · rw [dChain_ap, dVar_ap rfl, bind_ok, dVar_ap rfl, bind_ok]
        simp [pI, q, R.opt, R.bind, dVar]; rfl
      · refine ⟨?_, rfl⟩
        simp [betw, q]
  · refine ⟨?_, rfl⟩
    cases v <;> simp_all [isI, betw]
def rowOf (v : D) (k : Nat) : Bool := match seqOf v with | some ds => ds.length == k | none => false
theorem is_row_of_ok {v : D} {k : Nat} (h : v.easy = true) : d_is_row_of [v, .int k] = .ok (.bl (rowOf v k)) [] := by
  refine wf_eq (wRun rfl ?_)
  unfold b_is_row_of
  (repeat (first | (with_reducible first | refine wSeq ?_ | refine wSIf ?_ | refine wSet ?_ | refine wRet ?_ | refine wExpr ?_ | refine wRaise ?_ | refine wPar ?_ | refine wAsg ?_ | refine wConst ?_ | refine wNil ?_ | refine wCons ?_ | refine wTup ?_ | refine wLst ?_ | refine wCall ?_ | refine wCall1 ?_ | refine wOp1 ?_ | refine wOp2 ?_ | refine wOp3 ?_ | refine wDCmp ?_ | refine wTCmp ?_ | refine wTBl ?_ | refine wTAnd ?_ | refine wTOr ?_ | refine wTNot ?_ | refine wYes ?_ | refine wDAnd ?_ | refine wDOr ?_ | refine wDNot ?_ | refine wDIf ?_ | refine wIs ?_ | refine wIs2 ?_ | refine wCallF ?_ | refine wCallV ?_ | refine wDLen ?_ | refine wItSeq ?_ | refine wItEn ?_ | refine wRng1 ?_ | refine wFor ?_ | refine wLc ?_ | refine wDPart ?_ | refine wNoPart ?_ | refine wSl ?_ | refine wSNil ?_) | ((with_reducible apply wVar); exact rfl) | ((with_reducible apply wMove); exact rfl) | refine ⟨_, rfl, ?_⟩ | refine ⟨Nat.le_of_ble_eq_true rfl, ?_⟩))
  refine wf_ok (is_sequence_ok h) ⟨_, rfl, fun t => ?_, fun t => ?_⟩
  · unfold isSq at t
    cases q : seqOf v with
    | none => rw [q] at t; cases t
    | some ds =>
      refine wDCmp (wCall (wCons (wVar rfl (wNil ⟨_, len_seq q, wVar rfl ⟨_, peq_int, ?_, rfl⟩⟩))))
      unfold rowOf
      rw [q]
      have : ((ds.length : Int) == (k : Int)) = (ds.length == k) := by rw [Bool.eq_iff_iff]; simp; omega
      rw [this]
  · unfold isSq at t
    unfold rowOf
    cases q : seqOf v with
    | none => exact ⟨rfl, rfl⟩
    | some ds => rw [q] at t; cases t
def sideB (v : D) (n : Nat) : Bool := match seqOf v with
  | some [x, y] => below x n && below y 2
  | _ => false
theorem rowOf2 {v : D} (h : rowOf v 2 = true) : ∃ x y, seqOf v = some [x, y] := by
  unfold rowOf at h
  cases q : seqOf v with
  | none => rw [q] at h; cases h
  | some ds =>
    rw [q] at h
    match ds, h with
    | [x, y], _ => exact ⟨x, y, rfl⟩
theorem is_side_ok {v : D} {n : Nat} (h : Easy v) : d_is_side [v, .int n] = .ok (.bl (sideB v n)) [] := by
  refine wf_eq (wRun rfl ?_)
  unfold b_is_side
  refine wSeq (wRet (wDAnd (wCallF (wCons (wVar rfl (wCons (wConst (wNil ⟨_, rfl, wf_ok (is_row_of_ok (k := 2) h.1) ⟨_, rfl, fun t => ?_, fun t => ?_⟩⟩))))))))
  · obtain ⟨x, y, q⟩ := rowOf2 t
    have ex := h.2 _ q x (by simp)
    have ey := h.2 _ q y (by simp)
    refine wDAnd (wCallF (wCons (wOp2 (wVar rfl (wConst ⟨_, ix0 q, wCons (wVar rfl (wNil ⟨_, rfl, wf_ok (is_below_ok ex) ⟨_, rfl, fun t1 => ?_, fun t1 => ?_⟩⟩))⟩)))))
    · refine wCallF (wCons (wOp2 (wVar rfl (wConst ⟨_, ix1 q, wCons (wConst (wNil ⟨_, rfl, wf_ok (is_below_ok ey) ⟨?_, rfl⟩⟩))⟩))))
      unfold sideB
      rw [q]
      simp [t1]
    · refine ⟨?_, rfl⟩
      unfold sideB
      rw [q]
      simp [t1]
  · refine ⟨?_, rfl⟩
    unfold sideB
    split
    · rename_i x y q
      unfold rowOf at t
      rw [q] at t
      cases t
    · rfl
theorem sideB_inv {v : D} {n : Nat} (h : sideB v n = true) : ∃ s : Nat, s < 2 * n ∧ seqOf v = some [.int ((s / 2 : Nat) : Int), .int ((s % 2 : Nat) : Int)] := by
  unfold sideB at h
  split at h
  · rename_i x y q
    rw [Bool.and_eq_true] at h
    obtain ⟨h1, h2⟩ := h
    cases x <;> simp [below] at h1
    cases y <;> simp [below] at h2
    rename_i i j
    obtain ⟨i, rfl⟩ := Int.eq_ofNat_of_zero_le h1.1
    obtain ⟨j, rfl⟩ := Int.eq_ofNat_of_zero_le h2.1
    refine ⟨2 * i + j, by omega, ?_⟩
    have e1 : (2 * i + j) / 2 = i := by omega
    have e2 : (2 * i + j) % 2 = j := by omega
    rw [q, e1, e2]
  · cases h
def SD (v : D) (s : Nat) : Prop := seqOf v = some [.int ((s / 2 : Nat) : Int), .int ((s % 2 : Nat) : Int)]
def sD (s : Nat) : D := .tup [.int ((s / 2 : Nat) : Int), .int ((s % 2 : Nat) : Int)]
theorem sd_sD {s : Nat} : SD (sD s) s := rfl
theorem SD.easy {v : D} {s : Nat} (h : SD v s) : Easy v := ⟨easy_of h, fun ds e d hd => by
  rw [h] at e; cases e
  simp at hd
  rcases hd with rfl | rfl <;> rfl⟩
theorem SD.side {v : D} {s n : Nat} (h : SD v s) : sideB v n = decide (s < 2 * n) := by
  unfold sideB
  rw [h]
  simp only [below]
  rw [Bool.eq_iff_iff]
  simp only [Bool.and_eq_true, decide_eq_true_eq]
  omega
theorem side_number_ok {v : D} {s : Nat} (h : SD v s) : d_side_number [v] = .ok (nI s) [] := by
  refine wf_eq (wRun rfl ?_)
  unfold b_side_number
  refine wSeq (wRet (wOp2 (wOp2 (wConst (wOp2 (wVar rfl (wConst ⟨_, ix0 h, ⟨.int (2 * ((s / 2 : Nat) : Int)), ?_, wOp2 (wVar rfl (wConst ⟨_, ix1 h, ⟨_, rfl, ?_, rfl⟩⟩))⟩⟩)))))))
  · exact mul_l (by decide)
  · unfold nI
    congr 1
    omega
theorem side_of_ok {s : Nat} : d_side_of [nI s] = .ok (sD s) [] := by
  refine wf_eq (wRun rfl ?_)
  unfold b_side_of
  refine wSeq (wRet (wTup (wCons (wOp2 (wVar rfl (wConst ⟨.int ((s : Int) / 2), ?_, wCons (wOp2 (wVar rfl (wConst ⟨.int ((s : Int) % 2), ?_, wNil ⟨Nat.le_of_ble_eq_true rfl, ?_, rfl⟩⟩)))⟩))))))
  · exact div_ap (by decide) (by decide)
  · exact mod_ap (by decide)
  · unfold sD
    rw [Int.natCast_ediv, Int.natCast_emod]; rfl
theorem need_side_ok {v : D} {s n : Nat} {k : Int} (h : SD v s) (hs : s < 2 * n) : d_need_side [v, .int k, .int n] = .ok (sD s) [] := by
  refine wf_eq (wRun rfl ?_)
  unfold b_need_side
  refine wSeq (wSIf (wTNot (wTBl (wCallF (wCons (wVar rfl (wCons (wVar rfl (wNil ⟨_, rfl, wf_ok (is_side_ok h.easy) ⟨_, rfl, fun t => ?_, fun t => ?_⟩⟩)))))))))
  · rw [h.side, decide_eq_true hs] at t; cases t
  · exact wSNil (wSeq (wRet (wCall (wCons (wVar rfl (wNil ⟨_, tup_seq h, rfl, rfl⟩))))))
theorem need_side_bad {v : D} {n : Nat} {k : Int} (h : Easy v) (hs : sideB v n = false) : d_need_side [v, .int k, .int n] = .rs (bad 1 k) [] := by
  refine wf_eqx (wRun rfl ?_)
  unfold b_need_side
  refine wSeq (wSIf (wTNot (wTBl (wCallF (wCons (wVar rfl (wCons (wVar rfl (wNil ⟨_, rfl, wf_ok (is_side_ok h) ⟨_, rfl, fun t => ?_, fun t => ?_⟩⟩)))))))))
  · exact wSeq (wRaise (wVar rfl ⟨rfl, rfl⟩))
  · rw [hs] at t; cases t
end Hk
namespace Hk
open PySem FL
theorem en_get {ds : List D} {i : Nat} {d : D} (h : ((enD 0 ds).map D.tup)[i]? = some d) : ∃ x, ds[i]? = some x ∧ d = .tup [.int (i : Nat), x] := by
  rw [List.getElem?_map] at h
  cases q : (enD 0 ds)[i]? with
  | none => rw [q] at h; cases h
  | some l =>
    rw [q] at h
    obtain ⟨x, h1, h2⟩ := enD_get q
    cases h
    exact ⟨x, h1, by rw [h2, Nat.zero_add]⟩
def lastB (x y : D) : Bool := match seqOf x, seqOf y with
  | some [.int a, .int b], some [.int c, .int d] => !(a == c) || b == d
  | _, _ => false
def coupB (v : D) (n : Nat) : Bool := match seqOf v with
  | some [x, y] => sideB x n && (sideB y n && lastB x y)
  | _ => false
def Ez2 (v : D) : Prop := v.easy = true ∧ ∀ ds, seqOf v = some ds → ∀ d ∈ ds, Easy d
theorem is_couple_ok {v : D} {n : Nat} (h : Ez2 v) : d_is_couple [v, .int n] = .ok (.bl (coupB v n)) [] := by
  refine wf_eq (wRun rfl ?_)
  unfold b_is_couple
  refine wSeq (wSIf (wTOr (wTNot (wTBl (wCallF (wCons (wVar rfl (wCons (wConst (wNil ⟨_, rfl, wf_ok (is_row_of_ok (k := 2) h.1) ⟨_, rfl, fun t => ?_, fun t => ?_⟩⟩))))))))))
  · refine ⟨fun _ => wSeq (wRet (wConst ⟨?_, rfl⟩)), fun h => by cases h⟩
    unfold coupB
    split
    · rename_i x y q
      unfold rowOf at t
      rw [q] at t
      cases t
    · rfl
  · have t : rowOf v 2 = true := by simpa using t
    obtain ⟨x, y, q⟩ := rowOf2 t
    have ex := h.2 _ q x (by simp)
    have ey := h.2 _ q y (by simp)
    refine wTOr (wTNot (wTBl (wCallF (wCons (wOp2 (wVar rfl (wConst ⟨_, ix0 q, wCons (wVar rfl (wNil ⟨_, rfl, wf_ok (is_side_ok ex) ⟨_, rfl, fun t1 => ?_, fun t1 => ?_⟩⟩))⟩)))))))
    · refine ⟨fun _ => wSeq (wRet (wConst ⟨?_, rfl⟩)), fun h => by cases h⟩
      have t1 : sideB x n = false := by simpa using t1
      unfold coupB
      rw [q]
      simp [t1]
    have t1 : sideB x n = true := by simpa using t1
    refine wTNot (wTBl (wCallF (wCons (wOp2 (wVar rfl (wConst ⟨_, ix1 q, wCons (wVar rfl (wNil ⟨_, rfl, wf_ok (is_side_ok ey) ⟨_, rfl, fun t2 => ?_, fun t2 => wSNil ?_⟩⟩))⟩))))))
    · have t2 : sideB y n = false := by simpa using t2
      refine wSeq (wRet (wConst ⟨?_, rfl⟩))
      unfold coupB
      rw [q]
      simp [t2]
    have t2 : sideB y n = true := by simpa using t2
    obtain ⟨s, hs, q1⟩ := sideB_inv t1
    obtain ⟨u, hu, q2⟩ := sideB_inv t2
    refine wSeq (wRet (wDOr (wDCmp (wOp2 (wOp2 (wVar rfl (wConst ⟨_, ix0 q, wConst ⟨_, ix0 q1, wOp2 (wOp2 (wVar rfl (wConst ⟨_, ix1 q, wConst ⟨_, ix0 q2, _, pne_int, _, rfl, fun t3 => ⟨?_, rfl⟩, fun t3 => ?_⟩⟩)))⟩⟩)))))))
    · unfold coupB lastB
      rw [q]
      dsimp only
      rw [q1, q2]
      dsimp only
      rw [t1, t2, t3]
      rfl
    · refine wDCmp (wOp2 (wOp2 (wVar rfl (wConst ⟨_, ix0 q, wConst ⟨_, ix1 q1, wOp2 (wOp2 (wVar rfl (wConst ⟨_, ix1 q, wConst ⟨_, ix1 q2, _, peq_int, ?_, rfl⟩⟩)))⟩⟩))))
      unfold coupB lastB
      rw [q]
      dsimp only
      rw [q1, q2]
      dsimp only
      rw [t1, t2, t3]
      rfl
def cD (p : Nat × Nat) : D := .tup [sD p.1, sD p.2]
def pD (p : Nat × Nat) : D := .tup [nI p.1, nI p.2]
structure GoodC (n : Nat) (d : D) (p : Nat × Nat) : Prop where
  at_ : ∃ x y, seqOf d = some [x, y] ∧ SD x p.1 ∧ SD y p.2
  l1 : p.1 < 2 * n
  l2 : p.2 < 2 * n
  ne : p.2 ≠ op p.1
theorem GoodC.ez {n : Nat} {d : D} {p : Nat × Nat} (h : GoodC n d p) : Ez2 d := by
  obtain ⟨x, y, q, h1, h2⟩ := h.at_
  refine ⟨easy_of q, fun ds e d hd => ?_⟩
  rw [q] at e; cases e
  simp at hd
  rcases hd with rfl | rfl
  · exact h1.easy
  · exact h2.easy
theorem GoodC.coup {n : Nat} {d : D} {p : Nat × Nat} (h : GoodC n d p) : coupB d n = true := by
  obtain ⟨x, y, q, h1, h2⟩ := h.at_
  have a := h.l1; have b := h.l2; have c := h.ne
  unfold coupB lastB
  rw [q]
  dsimp only
  rw [h1.side, h2.side, decide_eq_true a, decide_eq_true b, show seqOf x = _ from h1, show seqOf y = _ from h2]
  dsimp only
  simp only [Bool.true_and, Bool.or_eq_true, Bool.not_eq_true', beq_eq_false_iff_ne, beq_iff_eq]
  by_cases e : ((p.1 / 2 : Nat) : Int) = ((p.2 / 2 : Nat) : Int)
  · right
    unfold op at c
    split at c <;> omega
  · exact .inl e
section
variable {n : Nat} {v : D} {ds : List D} {ps : List (Nat × Nat)}
/-- a turn of need_couples -/
theorem couple_turn {e : Sl} {N : Sl → Prop} {T : D → Sl → Prop} {X : Exn → Sl → Prop} {i : Nat} {d : D} {p : Nat × Nat} (he : e = [some (.int n), some v, some (.lst ((ps.take i).map pD)), some (.int i), some d]) (g : GoodC n d p) (hp : ps[i]? = some p) (hi : i < 2000) (q : N [some (.int n), some v, some (.lst ((ps.take (i + 1)).map pD)), some (.int i), some d]) :
    RS.wp (sSeq (sIf (tNot (tBl (dCallF d_is_couple [none, none] [] [] (dCons (dVar 4) (dCons (dVar 0) dNil))))) (sSeq (sRaise 2 (dVar 3))
    sNil) sNil)
    (sSeq (sExpr (dMutN 2 gAppend (dCons (dTup (dCons (dCallF d_side_number [none] [] [] (dCons (dOp2 gIx (dVar 4) (dConst (.int 0))) dNil)) (dCons (dCallF d_side_number [none] [] [] (dCons (dOp2 gIx (dVar 4) (dConst (.int 1))) dNil)) dNil))) dNil)))
    sNil) e) N T X := by
  subst he
  obtain ⟨x, y, hs, h1, h2⟩ := g.at_
  refine wSeq (wSIf (wTNot (wTBl (wCallF (wCons (wVar rfl (wCons (wVar rfl (wNil ⟨_, rfl, wf_ok (is_couple_ok g.ez) ⟨_, rfl, fun t => ?_, fun t => wSNil ?_⟩⟩)))))))))
  · rw [g.coup] at t; cases t
  have hl : ((ps.take i).map pD).length ≤ i := by rw [List.length_map, List.length_take]; omega
  refine wSeq (wExpr (wMutN rfl (wCons (wTup (wCons (wCallF (wCons (wOp2 (wVar rfl (wConst ⟨_, ix0 hs, wNil ⟨_, rfl, wf_ok (side_number_ok h1) ?_⟩⟩))))))))))
  refine wCons (wCallF (wCons (wOp2 (wVar rfl (wConst ⟨_, ix1 hs, wNil ⟨_, rfl, wf_ok (side_number_ok h2) (wNil ⟨Nat.le_of_ble_eq_true rfl, wNil ⟨_, _, _, rfl, append_ok (by unfold line; omega), wSNil ?_⟩⟩)⟩⟩)))))
  rw [List.take_add_one, hp] at q
  rw [List.map_append] at q
  exact q
theorem need_couples_in {Q : D → Sl → Prop} {X : Exn → Sl → Prop} (hv : seqOf v = some ds) (hl : ds.length ≤ 1200) (hn : n ≤ 24) (h : RS.wp (sSeq (sFor (itEn (dVar 1)) (gtTup 2 (gtCons (gtName 3) (gtCons (gtName 4) gtNil))) (sSeq (sIf (tNot (tBl (dCallF d_is_couple [none, none] [] [] (dCons (dVar 4) (dCons (dVar 0) dNil))))) (sSeq (sRaise 2 (dVar 3))
    sNil) sNil)
    (sSeq (sExpr (dMutN 2 gAppend (dCons (dTup (dCons (dCallF d_side_number [none] [] [] (dCons (dOp2 gIx (dVar 4) (dConst (.int 0))) dNil)) (dCons (dCallF d_side_number [none] [] [] (dCons (dOp2 gIx (dVar 4) (dConst (.int 1))) dNil)) dNil))) dNil)))
    sNil)))
    (sSeq (sRet (dMove 2))
    sNil) [some (.int n), some v, some (.lst []), none, none]) (fun _ => False) (fun d e => Q d (getS [] e)) (fun x e => X x (getS [] e))) : (d_need_couples [.int n, v]).wp Q X := by
  refine wRun rfl ?_
  unfold b_need_couples
  refine wSeq (wSIf (wTNot (wTBl (wCallF (wCons (wVar rfl (wCons (wConst (wCons (wConst (wNil ⟨_, rfl, wf_ok (is_between_ok rfl) ⟨_, rfl, fun t => ?_, fun t => wSNil ?_⟩⟩)))))))))))
  · simp [betw] at t; omega
  refine wSeq (wSIf (wTOr (wTNot (wTBl (wCallF (wCons (wVar rfl (wNil ⟨_, rfl, wf_ok (is_sequence_ok (easy_of hv)) ⟨_, rfl, fun t => ?_, fun t => ?_⟩⟩))))))))
  · simp [isSq, hv] at t
  refine wTCmp (wCall (wCons (wVar rfl (wNil ⟨_, len_seq hv, wConst ⟨_, rfl, fun t => ?_, fun t => wSNil ?_⟩⟩))))
  · simp at t; omega
  exact wSeq (wSet (wLst (wNil ⟨Nat.le_of_ble_eq_true rfl, h⟩)))
theorem need_couples_ok (hv : seqOf v = some ds) (hl : ds.length ≤ 1200) (hn : n ≤ 24) (hlen : ps.length = ds.length) (h : ∀ (i : Nat) d, ds[i]? = some d → ∃ p, ps[i]? = some p ∧ GoodC n d p) : d_need_couples [.int n, v] = .ok (.lst (ps.map pD)) [] := by
  refine wf_eq (need_couples_in hv hl hn ?_)
  refine wSeq (wFor (wItEn (wVar rfl ⟨ds, hv, ?_⟩)))
  refine wForI (fun i e => ∃ x3 x4, e = [some (.int n), some v, some (.lst ((ps.take i).map pD)), x3, x4]) (n := 0) ?_ ⟨_, _, rfl⟩ ?_
  · rintro i d e hd ⟨x3, x4, rfl⟩
    obtain ⟨x, hx, rfl⟩ := en_get hd
    obtain ⟨p, hp, g⟩ := h i x hx
    have hi := (List.getElem?_eq_some_iff.mp hx).1
    rw [Nat.zero_add]
    exact ⟨_, rfl, couple_turn rfl g hp (by omega) ⟨_, _, rfl⟩⟩
  · rintro e ⟨x3, x4, rfl⟩
    refine wSeq (wRet (wMove rfl ⟨?_, rfl⟩))
    rw [List.length_map, enD_len, Nat.zero_add, List.take_of_length_le (by omega)]
theorem need_couples_bad {k : Nat} {b : D} (hv : seqOf v = some ds) (hl : ds.length ≤ 1200) (hn : n ≤ 24) (hlen : ps.length = k) (h : ∀ (i : Nat) d, i < k → ds[i]? = some d → ∃ p, ps[i]? = some p ∧ GoodC n d p) (hb : ds[k]? = some b) (eb : Ez2 b) (cb : coupB b n = false) : d_need_couples [.int n, v] = .rs (bad 2 k) [] := by
  refine wf_eqx (need_couples_in hv hl hn ?_)
  refine wSeq (wFor (wItEn (wVar rfl ⟨ds, hv, ?_⟩)))
  refine wForI (fun i e => i ≤ k ∧ ∃ x3 x4, e = [some (.int n), some v, some (.lst ((ps.take i).map pD)), x3, x4]) (n := 0) ?_ ⟨Nat.zero_le _, _, _, rfl⟩ ?_
  · rintro i d e hd ⟨hk, x3, x4, rfl⟩
    obtain ⟨x, hx, rfl⟩ := en_get hd
    have hi := (List.getElem?_eq_some_iff.mp hx).1
    rw [Nat.zero_add] at hk ⊢
    refine ⟨_, rfl, ?_⟩
    by_cases e : i = k
    · subst e
      rw [hb] at hx; cases hx
      refine wSeq (wSIf (wTNot (wTBl (wCallF (wCons (wVar rfl (wCons (wVar rfl (wNil ⟨_, rfl, wf_ok (is_couple_ok eb) ⟨_, rfl, fun t => ?_, fun t => ?_⟩⟩)))))))))
      · exact wSeq (wRaise (wVar rfl ⟨rfl, rfl⟩))
      · rw [cb] at t; cases t
    · obtain ⟨p, hp, g⟩ := h i x (by omega) hx
      exact couple_turn rfl g hp (by omega) ⟨by omega, _, _, rfl⟩
  · rintro e ⟨hk, _⟩
    have := (List.getElem?_eq_some_iff.mp hb).1
    rw [List.length_map, enD_len] at hk
    omega
end
end Hk
namespace Hk
open PySem FL
def gn (ms : List Nat) (a : Nat) : Nat := (ms[a]?).getD 0
structure Tab (n : Nat) (R : Nat → Nat → Prop) (ms : List Nat) : Prop where
  len : ms.length = 2 * n
  bit : ∀ a b, a < 2 * n → ((gn ms a).testBit b = true ↔ R a b)
theorem Tab.congr {n : Nat} {R R' : Nat → Nat → Prop} {ms : List Nat} (t : Tab n R ms) (h : ∀ a b, a < 2 * n → (R a b ↔ R' a b)) : Tab n R' ms := ⟨t.len, fun a b ha => (t.bit a b ha).trans (h a b ha)⟩
theorem gn_set {ms : List Nat} {k a M : Nat} (hk : k < ms.length) : gn (ms.set k M) a = if a = k then M else gn ms a := by
  unfold gn
  by_cases h : a = k
  · subst h
    rw [if_pos rfl, List.getElem?_set_self hk]; rfl
  · rw [if_neg h, List.getElem?_set_ne (fun z => h z.symm)]
theorem Tab.set {n : Nat} {R : Nat → Nat → Prop} {ms : List Nat} {k M : Nat} (t : Tab n R ms) (hk : k < 2 * n) : Tab n (fun a b => if a = k then M.testBit b = true else R a b) (ms.set k M) := by
  refine ⟨by rw [List.length_set, t.len], fun a b ha => ?_⟩
  rw [gn_set (by rw [t.len]; exact hk)]
  by_cases h : a = k
  · rw [if_pos h, if_pos h]
  · rw [if_neg h, if_neg h]; exact t.bit a b ha
theorem Tab.orM {n : Nat} {R : Nat → Nat → Prop} {ms : List Nat} {k M : Nat} (t : Tab n R ms) (hk : k < 2 * n) : Tab n (fun a b => R a b ∨ (a = k ∧ M.testBit b = true)) (ms.set k (gn ms k ||| M)) := by
  refine (t.set hk).congr fun a b ha => ?_
  by_cases h : a = k
  · subst h
    rw [if_pos rfl, Nat.testBit_or, Bool.or_eq_true, t.bit a b ha]
    simp
  · rw [if_neg h]; simp [h]
theorem Tab.or1 {n : Nat} {R : Nat → Nat → Prop} {ms : List Nat} {k c : Nat} (t : Tab n R ms) (hk : k < 2 * n) : Tab n (fun a b => R a b ∨ (a = k ∧ b = c)) (ms.set k (gn ms k ||| 2 ^ c)) := (t.orM hk).congr fun a b ha => by rw [tb_pow]; simp
theorem map_get {ms : List Nat} {k : Nat} (h : k < (ms.map nI).length) : (ms.map nI)[k] = nI (gn ms k) := by
  have : k < ms.length := by simpa using h
  simp [gn, this]
theorem orN {a b : Nat} : gOr (nI a) (nI b) = some (nI (a ||| b)) := by
  show some (D.int (Builtin.bitOr a b)) = _
  rw [bor]; rfl
theorem xor1 {a : Nat} : gXor (nI a) (.int 1) = some (nI (op a)) := by
  show some (D.int (Builtin.bitXor a 1)) = _
  rw [bxor1]; rfl
theorem shl1 {k : Nat} (h : k ≤ 100) : gShl (.int 1) (nI k) = some (nI (2 ^ k)) := by
  have e : (decide ((0 : Int) ≤ (k : Int)) && decide ((k : Int) ≤ 1000000) && small64 1) = true := by
    simp [small64]; omega
  show (if (decide ((0 : Int) ≤ (k : Int)) && decide ((k : Int) ≤ 1000000) && small64 1) = true then some ((1 : Int) * 2 ^ (k : Int).toNat) else none).map D.int = _
  rw [if_pos e]
  show some (D.int (1 * 2 ^ (k : Int).toNat)) = _
  rw [Int.toNat_natCast, Int.one_mul]
  unfold nI
  rw [Int.natCast_pow]; rfl
theorem shrN {m k : Nat} : gShr (nI m) (nI k) = some (.int ((m : Int) / 2 ^ k)) := by
  show (if (0 : Int) ≤ (k : Int) then some ((m : Int) / 2 ^ (k : Int).toNat) else none).map D.int = _
  rw [if_pos (by omega), Int.toNat_natCast]; rfl
theorem and1 {m k : Nat} : gAnd (.int ((m : Int) / 2 ^ k)) (.int 1) = some (.int (if m.testBit k then 1 else 0)) := by
  show some (D.int (Builtin.bitAnd _ _)) = _
  rw [shr1]
theorem tru1 {b : Bool} : truD (.int (if b then 1 else 0)) = some b := by cases b <;> rfl
theorem mul2 {n : Nat} : gMul (.int 2) (.int n) = some (nI (2 * n)) := by
  rw [mul_l (by decide)]
  unfold nI
  congr 2
theorem set_nI {ms : List Nat} {k m : Nat} : (ms.map nI).set k (nI m) = (ms.set k m).map nI := by rw [List.map_set]
theorem rep_nI {m k : Nat} (h : m ≤ 1000) : gRep (.lst [nI k]) (nI m) = some (.lst ((List.replicate m k).map nI)) := by
  have e : (decide ((-9223372036854775808 : Int) ≤ (m : Int)) && decide ((m : Int) < 9223372036854775808) && decide ([nI k].length * (m : Int).toNat ≤ line)) = true := by
    unfold line
    simp; omega
  show (if (decide ((-9223372036854775808 : Int) ≤ (m : Int)) && decide ((m : Int) < 9223372036854775808) && decide ([nI k].length * (m : Int).toNat ≤ line)) = true then some (D.lst (repN (m : Int).toNat [nI k])) else none) = _
  rw [if_pos e, Int.toNat_natCast]
  have : repN m [nI k] = (List.replicate m k).map nI := by
    unfold repN
    rw [List.map_replicate]
    induction m with
    | zero => rfl
    | succ m ih => rw [List.replicate_succ, List.flatten_cons, ih (by omega) (by simp [line] at e ⊢; omega)]; rfl
  rw [this]
section
variable {n : Nat} {ps : List (Nat × Nat)}
theorem edge_snoc {p : Nat × Nat} {a b : Nat} : Edge (ps ++ [p]) a b ↔ Edge ps a b ∨ ((a = p.1 ∧ b = op p.2) ∨ (a = p.2 ∧ b = op p.1)) := by
  unfold Edge
  simp [List.mem_append, or_and_right, exists_or]
theorem brought_ok (hn : n ≤ 24) (hp : ∀ p ∈ ps, p.1 < 2 * n ∧ p.2 < 2 * n) : (d_brought [.int n, .lst (ps.map pD)]).wp (fun d os => ∃ ms, d = .lst (ms.map nI) ∧ Tab n (Edge ps) ms) fun _ _ => False := by
  refine wRun rfl ?_
  unfold b_brought
  refine wSeq (wSet (wOp2 (wLst (wCons (wConst (wNil ⟨Nat.le_of_ble_eq_true rfl, wOp2 (wConst (wVar rfl ⟨_, mul2, _, rep_nI (k := 0) (by omega), ?_⟩))⟩))))))
  refine wSeq (wFor (wItSeq (wVar rfl ⟨_, rfl, ?_⟩)))
  refine wForI (fun i e => ∃ ms x3 x4, e = [some (.int n), some (.lst (ps.map pD)), some (.lst (ms.map nI)), x3, x4] ∧ Tab n (Edge (ps.take i)) ms) (n := 0) ?_ ⟨_, _, _, rfl, by rw [List.length_replicate], fun a b ha => ?_⟩ ?_
  · rintro i d e hd ⟨ms, x3, x4, rfl, t⟩
    rw [List.getElem?_map] at hd
    cases q : ps[i]? with
    | none => rw [q] at hd; cases hd
    | some p =>
      rw [q] at hd; cases hd
      obtain ⟨p1, p2⟩ := hp p (List.mem_of_getElem? q)
      have l1 := t.len
      have o1 := op_lt p1
      have o2 := op_lt p2
      have h1 : p.1 < (ms.map nI).length := by rw [List.length_map, l1]; exact p1
      refine ⟨_, rfl, wSeq (wStore1 (wOp2 (wPl1 (k := p.1) rfl rfl h1 (wOp2 (wConst (wOp2 (wVar rfl (wConst ⟨_, xor1, _, shl1 (by omega), _, by rw [map_get h1]; exact orN, _, p.1, rfl, rfl, h1, ?_⟩)))))))) ⟩
      rw [set_nI]
      have t1 := t.or1 (c := op p.2) p1
      generalize ms.set p.1 (gn ms p.1 ||| 2 ^ op p.2) = ms1 at t1
      have h2 : p.2 < (ms1.map nI).length := by rw [List.length_map, t1.len]; exact p2
      refine wSeq (wStore1 (wOp2 (wPl1 (k := p.2) rfl rfl h2 (wOp2 (wConst (wOp2 (wVar rfl (wConst ⟨_, xor1, _, shl1 (by omega), _, by rw [map_get h2]; exact orN, _, p.2, rfl, rfl, h2, wSNil ?_⟩))))))))
      rw [set_nI]
      refine ⟨_, _, _, rfl, ((t1.or1 (c := op p.1) p2)).congr fun a b ha => ?_⟩
      rw [Nat.zero_add, List.take_add_one, q]
      show _ ↔ Edge (ps.take i ++ [p]) a b
      rw [edge_snoc, or_assoc]
  · have z : gn (List.replicate (2 * n) 0) a = 0 := by simp [gn, ha]
    rw [z, Nat.zero_testBit]
    refine ⟨fun h => (by cases h), fun ⟨p, hp, _⟩ => by cases hp⟩
  · rintro e ⟨ms, x3, x4, rfl, t⟩
    refine wSeq (wRet (wMove rfl ⟨ms, rfl, ?_⟩))
    rw [List.length_map, Nat.zero_add, List.take_length] at t
    exact t
/-- the table of what a side leads to -/
theorem led_ok (hn : n ≤ 24) (hp : ∀ p ∈ ps, p.1 < 2 * n ∧ p.2 < 2 * n) : (d_led_table [.int n, .lst (ps.map pD)]).wp (fun d os => ∃ ms, d = .lst (ms.map nI) ∧ Tab n (TC (Edge ps)) ms) fun _ _ => False := by
  refine wRun rfl ?_
  unfold b_led_table
  refine wSeq (wSet (wLc (wItEn (wCallF (wCons (wVar rfl (wCons (wVar rfl (wNil ⟨_, rfl, wf_mono (brought_ok hn hp) ?_ fun _ _ h => h⟩)))))))))
  rintro d os ⟨ms, rfl, t⟩
  refine ⟨_, rfl, ?_, ?_⟩
  · rw [List.length_map, enD_len, List.length_map, t.len]; unfold line; omega
  have hm : ((enD 0 (ms.map nI)).map D.tup) = (List.range (2 * n)).map fun a => D.tup [nI a, nI (gn ms a)] := by
    refine List.ext_getElem? fun i => ?_
    rw [List.getElem?_map, List.getElem?_map]
    by_cases hi : i < 2 * n
    · have h1 : i < (enD 0 (ms.map nI)).length := by rw [enD_len, List.length_map, t.len]; exact hi
      obtain ⟨x, hx, hl⟩ := enD_get (List.getElem?_eq_getElem h1)
      rw [List.getElem?_eq_getElem h1, hl, List.getElem?_range hi]
      have h2 : i < (ms.map nI).length := by rw [List.length_map, t.len]; exact hi
      rw [List.getElem?_eq_getElem h2, map_get h2] at hx
      cases hx
      rw [Nat.zero_add]; rfl
    · rw [List.getElem?_eq_none (by rw [enD_len, List.length_map, t.len]; omega), List.getElem?_eq_none (by simp; omega)]; rfl
  rw [hm]
  refine ⟨_, _, lcM (fun a => nI (gn ms a ||| 2 ^ a)) (fun a ha => ?_), ?_⟩
  · have ha : a < 2 * n := by simpa using ha
    refine ⟨_, rfl, wOp2 (wVar rfl (wOp2 (wConst (wVar rfl ⟨_, shl1 (by omega), _, orN, rfl, rfl⟩))))⟩
  have hm2 : (List.range (2 * n)).map (fun a => nI (gn ms a ||| 2 ^ a)) = ((List.range (2 * n)).map (fun a => gn ms a ||| 2 ^ a)).map nI := by rw [List.map_map]; rfl
  rw [hm2]
  have t1 : Tab n (fun a b => Edge ps a b ∨ b = a) ((List.range (2 * n)).map (fun a => gn ms a ||| 2 ^ a)) := by
    refine ⟨by simp, fun a b ha => ?_⟩
    have : gn ((List.range (2 * n)).map (fun a => gn ms a ||| 2 ^ a)) a = gn ms a ||| 2 ^ a := by
      unfold gn
      rw [List.getElem?_map, List.getElem?_range ha]; rfl
    rw [this, Nat.testBit_or, Bool.or_eq_true, t.bit a b ha, tb_pow]
    simp
  generalize (List.range (2 * n)).map (fun a => gn ms a ||| 2 ^ a) = ms1 at t1
  refine wSeq (wFor (wRng1 (wOp2 (wConst (wVar rfl ⟨_, mul2, 2 * n, rfl, by omega, ?_⟩)))))
  refine wForI (fun i e => ∃ ms x3 x4 x5, e = [some (.int n), some (.lst (ps.map pD)), some (.lst (ms.map nI)), x3, x4, x5] ∧ Tab n (PW (fun a b => Edge ps a b ∨ b = a) i) ms) (n := 0) ?_ ⟨_, _, _, _, rfl, t1⟩ ?_
  · rintro k d e hd ⟨ms, x3, x4, x5, rfl, t⟩
    rw [Nat.zero_add] at t ⊢
    have hk : k < 2 * n := by
      have := (List.getElem?_eq_some_iff.mp hd).1
      simpa using this
    have hd : d = nI k := by
      rw [List.getElem?_map, List.getElem?_range hk] at hd
      cases hd; rfl
    subst hd
    refine ⟨_, rfl, wSeq (wFor (wRng1 (wOp2 (wConst (wVar rfl ⟨_, mul2, 2 * n, rfl, by omega, ?_⟩)))))⟩
    refine wForI (fun m e => ∃ ms x4 x5, e = [some (.int n), some (.lst (ps.map pD)), some (.lst (ms.map nI)), some (nI k), x4, x5] ∧ Tab n (fun a b => if a < m then PW (fun a b => Edge ps a b ∨ b = a) (k + 1) a b else PW (fun a b => Edge ps a b ∨ b = a) k a b) ms) (n := 0) ?_ ⟨_, _, _, rfl, t.congr fun a b ha => by rw [if_neg (Nat.not_lt_zero a)]⟩ ?_
    · rintro m d e hd ⟨ms, x4, x5, rfl, t⟩
      rw [Nat.zero_add] at t ⊢
      have hm : m < 2 * n := by
        have := (List.getElem?_eq_some_iff.mp hd).1
        simpa using this
      have hd : d = nI m := by
        rw [List.getElem?_map, List.getElem?_range hm] at hd
        cases hd; rfl
      subst hd
      have h1 : m < (ms.map nI).length := by rw [List.length_map, t.len]; exact hm
      have h2 : k < (ms.map nI).length := by rw [List.length_map, t.len]; exact hk
      have tm : ∀ b, (gn ms m).testBit b = true ↔ PW (fun a b => Edge ps a b ∨ b = a) k m b := fun b => by
        rw [t.bit m b hm, if_neg (Nat.lt_irrefl m)]
      have tk : ∀ b, (gn ms k).testBit b = true ↔ PW (fun a b => Edge ps a b ∨ b = a) k k b := fun b => by
        rw [t.bit k b hk]
        split
        · exact PW_self
        · exact Iff.rfl
      refine ⟨_, rfl, wSeq (wSIf (wTTr (wOp2 (wOp2 (wPl1 (k := m) rfl rfl h1 (wVar rfl ⟨_, by rw [map_get h1]; exact shrN, wConst ⟨_, and1, _, tru1, fun z => ?_, fun z => ?_⟩⟩))))))⟩
      · refine wSeq (wStore1 (wOp2 (wPl1 (k := m) rfl rfl h1 (wPl1 (k := k) rfl rfl h2 ⟨_, by rw [map_get h1, map_get h2]; exact orN, _, m, rfl, rfl, h1, wSNil (wSNil ?_)⟩))))
        rw [set_nI]
        refine ⟨_, _, _, rfl, (t.orM hm).congr fun a b ha => ?_⟩
        by_cases e : a = m
        · subst e
          rw [if_neg (Nat.lt_irrefl a), if_pos (Nat.lt_succ_self a), tk b]
          have z' := (tm k).mp z
          constructor
          · rintro (q | ⟨_, q⟩)
            · exact .inl q
            · exact .inr ⟨z', q⟩
          · rintro (q | ⟨_, q⟩)
            · exact .inl q
            · exact .inr ⟨rfl, q⟩
        · have : a < m ↔ a < m + 1 := by omega
          simp only [this, e, false_and, or_false]
      · refine wSNil (wSNil ⟨_, _, _, rfl, t.congr fun a b ha => ?_⟩)
        by_cases e : a = m
        · subst e
          rw [if_neg (Nat.lt_irrefl a), if_pos (Nat.lt_succ_self a)]
          refine ⟨.inl, fun q => q.elim id fun ⟨q, _⟩ => ?_⟩
          rw [(tm k).mpr q] at z; cases z
        · have : a < m ↔ a < m + 1 := by omega
          simp only [this]
    · rintro e ⟨ms, x4, x5, rfl, t⟩
      refine wSNil ⟨_, _, _, _, rfl, t.congr fun a b ha => ?_⟩
      rw [if_pos (by simpa using ha)]
  · rintro e ⟨ms, x3, x4, x5, rfl, t⟩
    refine wSeq (wRet (wMove rfl ⟨ms, rfl, t.congr fun a b ha => ?_⟩))
    rw [List.length_map, List.length_range, Nat.zero_add]
    exact ⟨PW_tc, tc_PW fun a b ⟨p, hm, e⟩ => by
      obtain ⟨p1, p2⟩ := hp p hm
      rcases e with ⟨rfl, _⟩ | ⟨rfl, _⟩ <;> assumption⟩
end
end Hk
namespace Hk
open PySem FL
theorem inD_nI {i : Nat} {s : List Nat} : inD (nI i) (s.map nI) = decide (i ∈ s) := by
  unfold inD
  rw [List.any_map, Bool.eq_iff_iff, List.any_eq_true, decide_eq_true_eq]
  constructor
  · rintro ⟨j, hj, h⟩
    have h : ((j : Int) == (i : Int)) = true := h
    simp at h
    have : j = i := by exact_mod_cast h
    exact this ▸ hj
  · intro h
    exact ⟨i, h, by show ((i : Int) == (i : Int)) = true; simp⟩
theorem flat_nI {s : List Nat} : (s.map nI).all D.flat = true := by
  rw [List.all_map, List.all_eq_true]
  intro x _; rfl
theorem in_lst {i : Nat} {s : List Nat} : pIn2 (nI i) (.lst (s.map nI)) = some (decide (i ∈ s)) := by
  have : pIn (nI i) (.lst (s.map nI)) = some (decide (i ∈ s)) := by
    show (if (nI i).flat && (s.map nI).all D.flat then some (inD (nI i) (s.map nI)) else _) = _
    rw [flat_nI, if_pos (by rfl), ← inD_nI]
  unfold pIn2
  rw [this]
theorem any_bl {ds : List Nat} {p : Nat → Bool} : gAny [.lst (ds.map fun d => .bl (p d))] = some (.bl (ds.any p)) := by
  have := blsOf_map (ds.map p)
  rw [List.map_map] at this
  show (blsOf (ds.map (D.bl ∘ p))).map _ = _
  rw [this]
  simp
theorem ints_nI : ∀ {l : List Nat}, intsOf (l.map nI) = some (l.map fun n : Nat => (n : Int))
  | [] => rfl
  | n :: l => by
    show (intsOf (l.map nI)).map _ = _
    rw [ints_nI]; rfl
theorem sum_cast : ∀ {l : List Nat}, (l.map fun n : Nat => (n : Int)).sum = ((l.sum : Nat) : Int)
  | [] => rfl
  | n :: l => by
    rw [List.map_cons, List.sum_cons, List.sum_cons, sum_cast, Int.natCast_add]
theorem sum_nI {l : List Nat} : gSum [.lst (l.map nI)] = some (nI l.sum) := by
  show (intsOf (l.map nI)).map _ = _
  rw [ints_nI]
  show some (D.int _) = _
  rw [sum_cast]; rfl
theorem ixs {ms : List Nat} {a : Nat} (h : a < ms.length) : gIx (.lst (ms.map nI)) (nI a) = some (nI (gn ms a)) := by
  show L2.atI (ms.map nI) (a : Int) = _
  rw [atI_nat (by rw [List.length_map]; exact h)]
  simp [gn, h]
theorem inv1 {k : Nat} : gInv (nI k) = some (.int (Builtin.bitNot k)) := rfl
theorem andI {a k : Nat} : gAnd (nI a) (.int (Builtin.bitNot k)) = some (nI (a ^^^ (a &&& k))) := by
  show some (D.int (Builtin.bitAnd _ _)) = _
  rw [bdiff]; rfl
theorem bits1 {m : Nat} : gBits (nI m) = some (nI (Builtin.Int.intBits m)) := rfl
/-- the numbers of a mask -/
def numb (m : Nat) : List Nat := (List.range (Builtin.Int.intBits (m : Int))).filter m.testBit
theorem numb_range {m N : Nat} (h : ∀ i, m.testBit i = true → i < N) : numb m = (List.range N).filter m.testBit := filter_range (fun i hi => bits_top hi) h
theorem numbers_of_ok {m : Nat} (h : m < 2 ^ 100) : d_numbers_of [nI m] = .ok (.lst ((numb m).map nI)) [] := by
  refine wf_eq (wRun rfl ?_)
  unfold b_numbers_of
  have hb := bits_most h
  refine wSeq (wRet (wLc (wRng1 (wOp1 (wVar rfl ⟨_, bits1, Builtin.Int.intBits (m : Int), rfl, by omega, ?_, _, _, lcF (h := fun i : Nat => D.int i) m.testBit nI (fun i hi => ?_), rfl, rfl⟩)))))
  · rw [List.length_map, List.length_range]; unfold line; omega
  · exact ⟨_, rfl, wTTr (wOp2 (wOp2 (wVar rfl (wVar rfl ⟨_, shrN, wConst ⟨_, and1, _, tru1, rfl, fun _ => wVar rfl ⟨rfl, rfl⟩, fun _ => rfl⟩⟩))))⟩
theorem exchanged_ok {m N : Nat} (h : ∀ i, m.testBit i = true → i < 2 * N) (hN : N ≤ 24) : ∃ k, d_exchanged [nI m] = .ok (nI k) [] ∧ ∀ i, k.testBit i = m.testBit (op i) := by
  have hm : m < 2 ^ 100 := Nat.lt_pow_two_of_testBit m fun i hi => by
    cases q : m.testBit i with
    | false => rfl
    | true => have := h i q; omega
  have nd : ((numb m).map op).Nodup := by
    refine List.Pairwise.map op ?_ (List.Nodup.sublist List.filter_sublist List.nodup_range : (numb m).Nodup)
    intro a b hab e
    exact hab (op_inj e)
  refine ⟨sumP ((numb m).map op), ?_, fun i => ?_⟩
  · refine wf_eq (wRun rfl ?_)
    unfold b_exchanged
    refine wSeq (wRet (wCall (wCons (wLc (wItSeq (wCallF (wCons (wVar rfl (wNil ⟨_, rfl, wf_ok (numbers_of_ok hm) ⟨_, rfl, ?_, _, _, lcM (h := nI) (fun i => nI (2 ^ op i)) (fun i hi => ?_), wNil ⟨_, ?_, rfl, rfl⟩⟩⟩)))))))))
    · have := List.length_filter_le m.testBit (List.range (Builtin.Int.intBits (m : Int)))
      have hb := bits_most hm
      rw [List.length_map]
      unfold numb line
      rw [List.length_range] at this
      omega
    · have hi : i < 2 * N := h i (List.mem_filter.mp hi).2
      have := op_lt hi
      exact ⟨_, rfl, wOp2 (wConst (wOp2 (wVar rfl (wConst ⟨_, xor1, _, shl1 (by omega), rfl, rfl⟩))))⟩
    · have : (numb m).map (fun i => nI (2 ^ op i)) = (((numb m).map op).map (2 ^ ·)).map nI := by
        rw [List.map_map, List.map_map]; rfl
      rw [this, sum_nI]; rfl
  · rw [tb_sum (i := 0) nd i, Bool.eq_iff_iff, decide_eq_true_eq]
    constructor
    · intro hi
      obtain ⟨j, hj, rfl⟩ := List.mem_map.mp hi
      rw [op_op]
      exact (List.mem_filter.mp hj).2
    · intro hi
      exact List.mem_map.mpr ⟨op i, List.mem_filter.mpr ⟨List.mem_range.mpr (bits_top hi), hi⟩, op_op i⟩
theorem en_nI {ms : List Nat} : ((enD 0 (ms.map nI)).map D.tup) = (List.range ms.length).map fun a => D.tup [nI a, nI (gn ms a)] := by
  refine List.ext_getElem? fun i => ?_
  rw [List.getElem?_map, List.getElem?_map]
  by_cases hi : i < ms.length
  · have h1 : i < (enD 0 (ms.map nI)).length := by rw [enD_len, List.length_map]; exact hi
    obtain ⟨x, hx, hl⟩ := enD_get (List.getElem?_eq_getElem h1)
    rw [List.getElem?_eq_getElem h1, hl, List.getElem?_range hi]
    have h2 : i < (ms.map nI).length := by rw [List.length_map]; exact hi
    rw [List.getElem?_eq_getElem h2, map_get h2] at hx
    cases hx
    rw [Nat.zero_add]; rfl
  · rw [List.getElem?_eq_none (by rw [enD_len, List.length_map]; omega), List.getElem?_eq_none (by simp; omega)]; rfl
section
variable {n : Nat} {ps : List (Nat × Nat)}
theorem tab_map {f : Nat → Nat} {R : Nat → Nat → Prop} (h : ∀ a b, a < 2 * n → ((f a).testBit b = true ↔ R a b)) : Tab n R ((List.range (2 * n)).map f) := by
  refine ⟨by simp, fun a b ha => ?_⟩
  have : gn ((List.range (2 * n)).map f) a = f a := by
    unfold gn
    rw [List.getElem?_map, List.getElem?_range ha]; rfl
  rw [this]; exact h a b ha
theorem full_diff {n x b : Nat} : ((2 ^ (2 * n) - 1) ^^^ ((2 ^ (2 * n) - 1) &&& 2 ^ op x)).testBit b = true ↔ b < 2 * n ∧ b ≠ op x := by
  rw [tb_diff, tb_full, tb_pow]
  simp
theorem closed_ok (hn : n ≤ 24) (hp : ∀ p ∈ ps, p.1 < 2 * n ∧ p.2 < 2 * n) : (d_closed_table [.int n, .lst (ps.map pD)]).wp (fun d os => ∃ ms, d = .lst (ms.map nI) ∧ Tab n (Cl n ps) ms) fun _ _ => False := by
  refine wRun rfl ?_
  unfold b_closed_table
  refine wSeq (wSet (wCallF (wCons (wVar rfl (wCons (wVar rfl (wNil ⟨_, rfl, wf_mono (led_ok hn hp) ?_ fun _ _ h => h⟩)))))))
  rintro d os ⟨ms, rfl, t⟩
  have ml := t.len
  have bl : ∀ a, a < 2 * n → ∀ i, (gn ms a).testBit i = true → i < 2 * n := fun a ha i hi => by
    rcases tc_lt hp ((t.bit a i ha).mp hi) with q | q
    · omega
    · exact q.2
  have ev : gSub (nI (2 ^ (2 * n))) (.int 1) = some (nI (2 ^ (2 * n) - 1)) := by
    have := Nat.two_pow_pos (2 * n)
    show some (D.int (((2 ^ (2 * n) : Nat) : Int) - 1)) = _
    unfold nI
    congr 2
    omega
  refine wSeq (wSet (wOp2 (wOp2 (wConst (wOp2 (wConst (wVar rfl ⟨_, mul2, _, shl1 (by omega), wConst ⟨_, ev, ?_⟩⟩)))))))
  refine wSeq (wSet (wLc (wRng1 (wOp2 (wConst (wVar rfl ⟨_, mul2, 2 * n, rfl, by omega, ?_, _, _, lcF (h := fun i : Nat => D.int i) (fun a => (gn ms a).testBit (op a)) nI (fun a ha => ?_), ?_⟩))))))
  · rw [List.length_map, List.length_range]; unfold line; omega
  · have ha : a < ms.length := by rw [ml]; simpa using ha
    exact ⟨_, rfl, wTTr (wOp2 (wOp2 (wOp2 (wVar rfl (wVar rfl ⟨_, ixs ha, wOp2 (wVar rfl (wConst ⟨_, xor1, _, shrN, wConst ⟨_, and1, _, tru1, rfl, fun _ => wVar rfl ⟨rfl, rfl⟩, fun _ => rfl⟩⟩))⟩)))))⟩
  have es_mem : ∀ x, x ∈ (List.range (2 * n)).filter (fun a => (gn ms a).testBit (op a)) ↔ x < 2 * n ∧ TC (Edge ps) x (op x) := fun x => by
    rw [List.mem_filter, List.mem_range]
    exact ⟨fun ⟨h1, h2⟩ => ⟨h1, (t.bit x _ h1).mp h2⟩, fun ⟨h1, h2⟩ => ⟨h1, (t.bit x _ h1).mpr h2⟩⟩
  have es_len : ((List.range (2 * n)).filter (fun a => (gn ms a).testBit (op a))).length ≤ 48 := by
    have := List.length_filter_le (fun a => (gn ms a).testBit (op a)) (List.range (2 * n))
    rw [List.length_range] at this
    omega
  generalize (List.range (2 * n)).filter (fun a => (gn ms a).testBit (op a)) = es at es_mem es_len
  refine wSeq (wSIf (wTBl (wCall (wCons (wLc (wItSeq (wVar rfl ⟨_, rfl, ?_, _, _, lcM (h := nI) (fun i => .bl (decide (op i ∈ es))) (fun i hi => ?_), wNil ⟨_, any_bl, _, rfl, fun z => ?_, fun z => wSNil ?_⟩⟩)))))))
  · rw [List.length_map]; unfold line; omega
  · exact ⟨_, rfl, wDCmp (wOp2 (wVar rfl (wConst ⟨_, xor1, wVar rfl ⟨_, in_lst, rfl, rfl⟩⟩)))⟩
  · -- no row is left
    refine wSeq (wRet (wLc (wRng1 (wOp2 (wConst (wVar rfl ⟨_, mul2, 2 * n, rfl, by omega, ?_, _, _, lcM (h := fun i : Nat => D.int i) (fun a => nI ((2 ^ (2 * n) - 1) ^^^ ((2 ^ (2 * n) - 1) &&& 2 ^ op a))) (fun a ha => ?_), ?_⟩))))))
    · rw [List.length_map, List.length_range]; unfold line; omega
    · have ha : a < 2 * n := by simpa using ha
      have := op_lt ha
      exact ⟨_, rfl, wOp2 (wVar rfl (wOp1 (wOp2 (wConst (wOp2 (wVar rfl (wConst ⟨_, xor1, _, shl1 (by omega), _, inv1, _, andI, rfl, rfl⟩)))))))⟩
    · refine ⟨(List.range (2 * n)).map fun a => (2 ^ (2 * n) - 1) ^^^ ((2 ^ (2 * n) - 1) &&& 2 ^ op a), by rw [List.map_map]; rfl, tab_map fun a b ha => ?_⟩
      rw [full_diff]
      obtain ⟨v, hv, hv2⟩ := List.any_eq_true.mp z
      have hv1 := (es_mem v).mp hv
      have hv3 := (es_mem (op v)).mp (by simpa using hv2)
      rw [op_op] at hv3
      exact ⟨fun ⟨h1, h2⟩ => ⟨h1, h2, .inr (.inr (.inr ⟨v, hv1.1, hv1.2, hv3.2⟩))⟩, fun h => ⟨h.1, h.2.1⟩⟩
  have hno : ∀ v, v < 2 * n → ¬ (TC (Edge ps) v (op v) ∧ TC (Edge ps) (op v) v) := fun v hv ⟨h1, h2⟩ => by
    have m1 : v ∈ es := (es_mem v).mpr ⟨hv, h1⟩
    have m2 : op v ∈ es := (es_mem (op v)).mpr ⟨op_lt hv, by rw [op_op]; exact h2⟩
    have : es.any (fun i => decide (op i ∈ es)) = true := List.any_eq_true.mpr ⟨v, m1, by simpa using m2⟩
    rw [this] at z; cases z
  -- the table by exchange
  have ex : ∃ f : Nat → Nat, (∀ a, a < 2 * n → d_exchanged [nI (gn ms a)] = .ok (nI (f a)) []) ∧ ∀ a, a < 2 * n → ∀ i, (f a).testBit i = (gn ms a).testBit (op i) := by
    refine ⟨fun a => if h : a < 2 * n then (exchanged_ok (N := n) (bl a h) hn).choose else 0, fun a ha => ?_, fun a ha => ?_⟩
    · simp only [dif_pos ha]
      exact (exchanged_ok (N := n) (bl a ha) hn).choose_spec.1
    · simp only [dif_pos ha]
      exact (exchanged_ok (N := n) (bl a ha) hn).choose_spec.2
  obtain ⟨f, f1, f2⟩ := ex
  refine wSeq (wSet (wLc (wItEn (wVar rfl ⟨_, rfl, ?_⟩))))
  rw [en_nI, ml]
  refine ⟨?_, _, _, lcM (fun a => nI (f a ^^^ (f a &&& 2 ^ op a))) (fun a ha => ?_), ?_⟩
  · rw [List.length_map, List.length_range]; unfold line; omega
  · have ha : a < 2 * n := by simpa using ha
    have := op_lt ha
    exact ⟨_, rfl, wOp2 (wCallF (wCons (wVar rfl (wNil ⟨_, rfl, wf_ok (f1 a ha) (wOp1 (wOp2 (wConst (wOp2 (wVar rfl (wConst ⟨_, xor1, _, shl1 (by omega), _, inv1, _, andI, rfl, rfl⟩))))))⟩))))⟩
  have t0 : Tab n (fun a b => b < 2 * n ∧ b ≠ op a ∧ (TC (Edge ps) a (op b) ∨ a ∈ es.take 0 ∨ b ∈ es.take 0)) ((List.range (2 * n)).map fun a => f a ^^^ (f a &&& 2 ^ op a)) := tab_map fun a b ha => by
    rw [tb_diff, f2 a ha, tb_pow, Bool.and_eq_true, t.bit a _ ha]
    simp only [List.take_zero, List.not_mem_nil, or_false, Bool.not_eq_true', decide_eq_false_iff_not]
    constructor
    · rintro ⟨h1, h2⟩
      have := bl a ha _ ((t.bit a _ ha).mpr h1)
      have := op_lt this
      rw [op_op] at this
      exact ⟨this, h2, h1⟩
    · rintro ⟨_, h2, h1⟩
      exact ⟨h1, h2⟩
  have hm2 : (List.range (2 * n)).map (fun a => nI (f a ^^^ (f a &&& 2 ^ op a))) = ((List.range (2 * n)).map fun a => f a ^^^ (f a &&& 2 ^ op a)).map nI := by rw [List.map_map]; rfl
  rw [hm2]
  generalize (List.range (2 * n)).map (fun a => f a ^^^ (f a &&& 2 ^ op a)) = ms0 at t0
  refine wSeq (wFor (wItSeq (wVar rfl ⟨_, rfl, ?_⟩)))
  refine wForI (fun i e => ∃ ms5 x6 x7 x8, e = [some (.int n), some (.lst (ps.map pD)), some (.lst (ms.map nI)), some (nI (2 ^ (2 * n) - 1)), some (.lst (es.map nI)), some (.lst (ms5.map nI)), x6, x7, x8] ∧ Tab n (fun a b => b < 2 * n ∧ b ≠ op a ∧ (TC (Edge ps) a (op b) ∨ a ∈ es.take i ∨ b ∈ es.take i)) ms5) (n := 0) ?_ ⟨_, _, _, _, rfl, t0⟩ ?_
  · rintro i d e hd ⟨ms5, x6, x7, x8, rfl, t5⟩
    rw [Nat.zero_add] at t5 ⊢
    rw [List.getElem?_map] at hd
    cases q : es[i]? with
    | none => rw [q] at hd; cases hd
    | some x =>
      rw [q] at hd; cases hd
      have hx := ((es_mem x).mp (List.mem_of_getElem? q)).1
      have hox := op_lt hx
      have h1 : x < (ms5.map nI).length := by rw [List.length_map, t5.len]; exact hx
      refine ⟨_, rfl, wSeq (wStore1 (wOp2 (wVar rfl (wOp1 (wOp2 (wConst (wOp2 (wVar rfl (wConst ⟨_, xor1, _, shl1 (by omega), _, inv1, _, andI, _, x, rfl, rfl, h1, ?_⟩)))))))))⟩
      rw [set_nI]
      have t6 := t5.set (M := (2 ^ (2 * n) - 1) ^^^ ((2 ^ (2 * n) - 1) &&& 2 ^ op x)) hx
      generalize ms5.set x ((2 ^ (2 * n) - 1) ^^^ ((2 ^ (2 * n) - 1) &&& 2 ^ op x)) = ms6 at t6
      refine wSeq (wFor (wRng1 (wOp2 (wConst (wVar rfl ⟨_, mul2, 2 * n, rfl, by omega, ?_⟩)))))
      refine wForI (fun m e => ∃ ms7 x7 x8, e = [some (.int n), some (.lst (ps.map pD)), some (.lst (ms.map nI)), some (nI (2 ^ (2 * n) - 1)), some (.lst (es.map nI)), some (.lst (ms7.map nI)), some (nI x), x7, x8] ∧ Tab n (fun a b => (if a = x then ((2 ^ (2 * n) - 1) ^^^ ((2 ^ (2 * n) - 1) &&& 2 ^ op x)).testBit b = true else b < 2 * n ∧ b ≠ op a ∧ (TC (Edge ps) a (op b) ∨ a ∈ es.take i ∨ b ∈ es.take i)) ∨ (a < m ∧ a ≠ op x ∧ b = x)) ms7) (n := 0) ?_ ⟨_, _, _, rfl, t6.congr fun a b ha => by simp⟩ ?_
      · rintro m d e hd ⟨ms7, x7, x8, rfl, t7⟩
        rw [Nat.zero_add] at t7 ⊢
        have hm : m < 2 * n := by
          have := (List.getElem?_eq_some_iff.mp hd).1
          simpa using this
        have hd : d = nI m := by
          rw [List.getElem?_map, List.getElem?_range hm] at hd
          cases hd; rfl
        subst hd
        have h2 : m < (ms7.map nI).length := by rw [List.length_map, t7.len]; exact hm
        refine ⟨_, rfl, wSeq (wSIf (wTCmp (wVar rfl (wOp2 (wVar rfl (wConst ⟨_, xor1, _, pne_int, fun z => ?_, fun z => ?_⟩))))))⟩
        · have z : m ≠ op x := fun e => by rw [e] at z; simp at z
          refine wSeq (wStore1 (wOp2 (wPl1 (k := m) rfl rfl h2 (wOp2 (wConst (wVar rfl ⟨_, shl1 (by omega), _, by rw [map_get h2]; exact orN, _, m, rfl, rfl, h2, wSNil (wSNil ?_)⟩))))))
          rw [set_nI]
          refine ⟨_, _, _, rfl, (t7.or1 (c := x) hm).congr fun a b ha => ?_⟩
          have e1 : a < m + 1 ↔ a < m ∨ a = m := by omega
          rw [e1]
          constructor
          · rintro ((h | h) | ⟨h1, h2⟩)
            · exact .inl h
            · exact .inr ⟨.inl h.1, h.2⟩
            · exact .inr ⟨.inr h1, h1 ▸ z, h2⟩
          · rintro (h | ⟨h1 | h1, h2⟩)
            · exact .inl (.inl h)
            · exact .inl (.inr ⟨h1, h2⟩)
            · exact .inr ⟨h1, h2.2⟩
        · have z : (m : Int) = (op x : Int) := by simpa using z
          have z : m = op x := by exact_mod_cast z
          refine wSNil (wSNil ⟨_, _, _, rfl, t7.congr fun a b ha => ?_⟩)
          have e1 : a < m + 1 ↔ a < m ∨ a = m := by omega
          rw [e1]
          constructor
          · rintro (h | h)
            · exact .inl h
            · exact .inr ⟨.inl h.1, h.2⟩
          · rintro (h | ⟨h1 | h1, h2⟩)
            · exact .inl h
            · exact .inr ⟨h1, h2⟩
            · exact absurd (h1.trans z) h2.1
      · rintro e ⟨ms7, x7, x8, rfl, t7⟩
        refine wSNil ⟨_, _, _, _, rfl, t7.congr fun a b ha => ?_⟩
        rw [full_diff, List.take_add_one, q]
        simp only [Option.toList_some, List.mem_append, List.mem_singleton, List.length_map, List.length_range, Nat.zero_add]
        have ob : ∀ y, b = x → (a ≠ op y ↔ y ≠ op a) := fun y _ => ⟨fun h e => h (by rw [e, op_op]), fun h e => h (by rw [e, op_op])⟩
        by_cases e1 : a = x
        · subst e1
          rw [if_pos rfl]
          constructor
          · rintro (h | ⟨h1, h2, h3⟩)
            · exact ⟨h.1, h.2, .inr (.inl (.inr rfl))⟩
            · subst h3
              exact ⟨h1, (ob _ rfl).mp h2, .inr (.inl (.inr rfl))⟩
          · rintro ⟨h1, h2, _⟩
            exact .inl ⟨h1, h2⟩
        · rw [if_neg e1]
          constructor
          · rintro (⟨h1, h2, h3⟩ | ⟨h1, h2, h3⟩)
            · exact ⟨h1, h2, h3.imp id (Or.imp .inl .inl)⟩
            · subst h3
              exact ⟨hx, (ob _ rfl).mp h2, .inr (.inr (.inr rfl))⟩
          · rintro ⟨h1, h2, h3 | (h3 | h3) | (h3 | h3)⟩
            · exact .inl ⟨h1, h2, .inl h3⟩
            · exact .inl ⟨h1, h2, .inr (.inl h3)⟩
            · exact absurd h3 e1
            · exact .inl ⟨h1, h2, .inr (.inr h3)⟩
            · subst h3
              exact .inr ⟨ha, (ob _ rfl).mpr h2, rfl⟩
  · rintro e ⟨ms5, x6, x7, x8, rfl, t5⟩
    refine wSeq (wRet (wMove rfl ⟨ms5, rfl, t5.congr fun a b ha => ?_⟩))
    rw [List.length_map, Nat.zero_add, List.take_length, es_mem, es_mem]
    unfold Cl
    constructor
    · rintro ⟨h1, h2, h3 | h3 | h3⟩
      · exact ⟨h1, h2, .inl h3⟩
      · exact ⟨h1, h2, .inr (.inl h3.2)⟩
      · exact ⟨h1, h2, .inr (.inr (.inl h3.2))⟩
    · rintro ⟨h1, h2, h3 | h3 | h3 | ⟨v, hv, h3⟩⟩
      · exact ⟨h1, h2, .inl h3⟩
      · exact ⟨h1, h2, .inr (.inl ⟨ha, h3⟩)⟩
      · exact ⟨h1, h2, .inr (.inr ⟨h1, h3⟩)⟩
      · exact absurd h3 (hno v hv)
end
end Hk
namespace Hk
open PySem FL
/-! ### rows by number -/
def rb (n m h : Nat) : Nat := m / 2 ^ (n - 1 - h) % 2
def has (n m s : Nat) : Bool := rb n m (s / 2) == s % 2
def goodB (n : Nat) (ps : List (Nat × Nat)) (m : Nat) : Bool := ps.all fun p => !(has n m p.1 && has n m p.2)
def fol (n : Nat) (ps : List (Nat × Nat)) (a b : Nat) : Bool := (List.range (2 ^ n)).all fun m => !(goodB n ps m && (has n m a && has n m b))
theorem row_of (y : Nat → Bool) : ∀ n, ∃ m, m < 2 ^ n ∧ ∀ i, i < n → m.testBit i = y i
  | 0 => ⟨0, by simp, fun i h => absurd h (Nat.not_lt_zero _)⟩
  | n + 1 => by
    obtain ⟨m, hm, h⟩ := row_of y n
    refine ⟨m ||| (if y n then 2 ^ n else 0), Nat.or_lt_two_pow (Nat.lt_trans hm (by rw [Nat.pow_succ]; have := Nat.two_pow_pos n; omega)) ?_, fun i hi => ?_⟩
    · split
      · rw [Nat.pow_succ]; have := Nat.two_pow_pos n; omega
      · exact Nat.two_pow_pos _
    · rw [Nat.testBit_or]
      by_cases e : i = n
      · subst e
        rw [Nat.testBit_lt_two_pow hm]
        cases q : y i
        · simp
        · simp [Nat.testBit_two_pow_self]
      · rw [h i (by omega)]
        have : (if y n then 2 ^ n else 0).testBit i = false := by
          split
          · rw [tb_pow, decide_eq_false e]
          · exact Nat.zero_testBit i
        rw [this, Bool.or_false]
theorem has_hold {n m s : Nat} : has n m s = true ↔ hold (fun h => decide (rb n m h = 1)) s := by
  unfold has hold
  show (rb n m (s / 2) == s % 2) = true ↔ decide (rb n m (s / 2) = 1) = decide (s % 2 = 1)
  have h1 : rb n m (s / 2) < 2 := Nat.mod_lt _ (by decide)
  have h2 : s % 2 < 2 := Nat.mod_lt _ (by decide)
  generalize rb n m (s / 2) = r at h1
  generalize s % 2 = t at h2
  have : r = 0 ∨ r = 1 := by omega
  have : t = 0 ∨ t = 1 := by omega
  rcases ‹r = 0 ∨ r = 1› with rfl | rfl <;> rcases ‹t = 0 ∨ t = 1› with rfl | rfl <;> decide
theorem fol_iff {n a b : Nat} {ps : List (Nat × Nat)} (hp : ∀ p ∈ ps, p.1 < 2 * n ∧ p.2 < 2 * n) (ha : a < 2 * n) (hb : b < 2 * n) (hab : b ≠ op a) : fol n ps a b = true ↔ Cl n ps a b := by
  rw [two_sat hp ha hb hab]
  unfold fol
  rw [List.all_eq_true]
  constructor
  · rintro h ⟨x, g, xa, xb⟩
    obtain ⟨m, hm, hb'⟩ := row_of (fun i => x (n - 1 - i)) n
    have key : ∀ s, s < 2 * n → (has n m s = true ↔ hold x s) := fun s hs => by
      rw [has_hold]
      unfold hold
      have : decide (rb n m (s / 2) = 1) = x (s / 2) := by
        unfold rb
        rw [← Nat.testBit_eq_decide_div_mod_eq, hb' _ (by omega)]
        congr 1
        omega
      show decide (rb n m (s / 2) = 1) = _ ↔ _
      rw [this]
    have := h m (List.mem_range.mpr hm)
    rw [(key a ha).mpr xa, (key b hb).mpr xb] at this
    have gb : goodB n ps m = true := by
      unfold goodB
      rw [List.all_eq_true]
      intro p hm'
      obtain ⟨p1, p2⟩ := hp p hm'
      cases q1 : has n m p.1 with
      | false => rfl
      | true =>
        cases q2 : has n m p.2 with
        | false => rfl
        | true => exact absurd ⟨(key _ p1).mp q1, (key _ p2).mp q2⟩ (g p hm')
    rw [gb] at this
    cases this
  · intro h m _
    cases q : goodB n ps m && (has n m a && has n m b) with
    | false => rfl
    | true =>
      rw [Bool.and_eq_true, Bool.and_eq_true] at q
      obtain ⟨q0, q1, q2⟩ := q
      refine absurd ⟨fun h => decide (rb n m h = 1), fun p hm' ⟨z1, z2⟩ => ?_, has_hold.mp q1, has_hold.mp q2⟩ h
      have := List.all_eq_true.mp q0 p hm'
      rw [has_hold.mpr z1, has_hold.mpr z2] at this
      cases this
/-- the couples that a law asks, in its order -/
def LP (n : Nat) : List (Nat × Nat) := (List.range (2 * n)).flatMap fun a => ((List.range (2 * n)).filter fun b => decide (b = a) || decide (a / 2 < b / 2)).map fun b => (a, b)
def CL (n : Nat) (ps : List (Nat × Nat)) : List (Nat × Nat) := (LP n).filter fun p => fol n ps p.1 p.2
def toldL (n : Nat) (ms : List Nat) (k : Nat) : List (Nat × Nat) := (List.range k).flatMap fun a => ((List.range (2 * n)).filter fun b => (gn ms a).testBit b && decide (a ≤ b)).map fun b => (a, b)
theorem LP_mem {n : Nat} {p : Nat × Nat} (h : p ∈ LP n) : p.1 < 2 * n ∧ p.2 < 2 * n ∧ p.2 ≠ op p.1 := by
  unfold LP at h
  obtain ⟨a, ha, h⟩ := List.mem_flatMap.mp h
  obtain ⟨b, hb, rfl⟩ := List.mem_map.mp h
  obtain ⟨h1, h2⟩ := List.mem_filter.mp hb
  refine ⟨List.mem_range.mp ha, List.mem_range.mp h1, fun e => ?_⟩
  have e : b = op a := e
  subst e
  simp only [op_div, Nat.lt_irrefl, decide_false, Bool.or_false, decide_eq_true_eq] at h2
  exact op_ne a h2
theorem told_CL {n : Nat} {ps : List (Nat × Nat)} {ms : List Nat} (hp : ∀ p ∈ ps, p.1 < 2 * n ∧ p.2 < 2 * n) (t : Tab n (Cl n ps) ms) : toldL n ms (2 * n) = CL n ps := by
  unfold toldL CL LP
  rw [List.filter_flatMap]
  rw [List.flatMap_def, List.flatMap_def]
  congr 1
  refine List.map_congr_left fun a ha => ?_
  have ha := List.mem_range.mp ha
  rw [List.filter_map, List.filter_filter]
  congr 1
  refine List.filter_congr fun b hb => ?_
  have hb := List.mem_range.mp hb
  show _ = (fol n ps a b && (decide (b = a) || decide (a / 2 < b / 2)))
  by_cases e : b = op a
  · subst e
    have h1 : (gn ms a).testBit (op a) = false := by
      cases q : (gn ms a).testBit (op a) with
      | false => rfl
      | true => exact absurd rfl ((t.bit a _ ha).mp q).2.1
    have h2 : decide (op a = a) = false := decide_eq_false (op_ne a)
    rw [h1, h2, op_div]
    simp
  · have h1 : (gn ms a).testBit b = fol n ps a b := by
      rw [Bool.eq_iff_iff, t.bit a b ha, fol_iff hp ha hb e]
    have h2 : decide (a ≤ b) = (decide (b = a) || decide (a / 2 < b / 2)) := by
      rw [Bool.eq_iff_iff]
      simp only [Bool.or_eq_true, decide_eq_true_eq]
      unfold op at e
      split at e <;> omega
    rw [h1, h2]
theorem wExt {i : Nat} {m : M D} {z : D} {e : Sl} {Q : D → Sl → Prop} {X : Exn → Sl → Prop} (h0 : e[i]? = some (some z)) (h : (m e).wp (fun d e2 => ∃ ds ys, d = .lst ys ∧ e2[i]? = some (some (.lst ds)) ∧ ds.length + ys.length ≤ line ∧ Q .non (e2.set i (some (.lst (ds ++ ys))))) X) : (dExt i m e).wp Q X := by
  unfold dExt
  rw [h0]
  refine wp_bind (wp_mono h (fun d e2 ⟨ds, ys, hd, h1, h2, h3⟩ => ?_) fun _ _ h => h)
  subst hd
  rw [h1]
  dsimp only
  rw [if_pos h2]
  exact ⟨h3⟩
section
variable {n : Nat} {ps : List (Nat × Nat)}
theorem couples_told_ok {ms : List Nat} (hn : n ≤ 24) (hl : ms.length = 2 * n) (hb : ∀ a, a < 2 * n → ∀ b, (gn ms a).testBit b = true → b < 2 * n) : d_couples_told [.lst (ms.map nI)] = .ok (.tup ((toldL n ms (2 * n)).map cD)) [] := by
  refine wf_eq (wRun rfl ?_)
  unfold b_couples_told
  refine wSeq (wSet (wLst (wNil ⟨Nat.le_of_ble_eq_true rfl, ?_⟩)))
  refine wSeq (wFor (wItEn (wVar rfl ⟨_, rfl, ?_⟩)))
  rw [en_nI, hl]
  refine wForI (fun i e => ∃ x2 x3 x4, e = [some (.lst (ms.map nI)), some (.lst ((toldL n ms i).map cD)), x2, x3, x4] ∧ (toldL n ms i).length ≤ 48 * i) (n := 0) ?_ ⟨_, _, _, rfl, Nat.le_of_ble_eq_true rfl⟩ ?_
  · rintro a d e hd ⟨x2, x3, x4, rfl, hk⟩
    rw [Nat.zero_add] at hk ⊢
    have ha : a < 2 * n := by
      have := (List.getElem?_eq_some_iff.mp hd).1
      simpa using this
    have hd : d = .tup [nI a, nI (gn ms a)] := by
      rw [List.getElem?_map, List.getElem?_range ha] at hd
      cases hd; rfl
    subst hd
    have hm : gn ms a < 2 ^ 100 := Nat.lt_pow_two_of_testBit _ fun i hi => by
      cases q : (gn ms a).testBit i with
      | false => rfl
      | true => have := hb a ha i q; omega
    have hnl : (numb (gn ms a)).length ≤ 2 * n := by
      rw [numb_range (hb a ha)]
      have := List.length_filter_le (gn ms a).testBit (List.range (2 * n))
      rw [List.length_range] at this
      exact this
    have hs : toldL n ms (a + 1) = toldL n ms a ++ ((numb (gn ms a)).filter fun b => decide (a ≤ b)).map fun b => (a, b) := by
      unfold toldL
      rw [List.range_succ, List.flatMap_append, numb_range (hb a ha), List.filter_filter]
      simp [Bool.and_comm]
    have hsl : (((numb (gn ms a)).filter fun b => decide (a ≤ b)).map fun b => (a, b)).length ≤ 48 := by
      rw [List.length_map]
      have := List.length_filter_le (fun b => decide (a ≤ b)) (numb (gn ms a))
      omega
    refine ⟨_, rfl, wSeq (wExpr (wExt rfl (wLc (wItSeq (wCallF (wCons (wVar rfl (wNil ⟨_, rfl, wf_ok (numbers_of_ok hm) ⟨_, rfl, ?_, _, _, lcF (h := nI) (fun b => decide (a ≤ b)) (fun b => cD (a, b)) (fun b hb => ?_), _, _, rfl, rfl, ?_, wSNil ⟨some (nI a), some (nI (gn ms a)), x4, ?_, ?_⟩⟩⟩))))))))⟩
    · rw [List.length_map]; unfold line; omega
    · refine ⟨_, rfl, wTCmp (wVar rfl (wVar rfl ⟨_, rfl, ?_, fun _ => wTup (wCons (wCallF (wCons (wVar rfl (wNil ⟨_, rfl, wf_ok side_of_ok (wCons (wCallF (wCons (wVar rfl (wNil ⟨_, rfl, wf_ok side_of_ok (wNil ⟨Nat.le_of_ble_eq_true rfl, rfl, rfl⟩)⟩)))))⟩))))), fun _ => rfl⟩))⟩
      rw [Bool.eq_iff_iff]
      simp
    · rw [List.length_map, List.length_map]
      rw [List.length_map] at hsl
      unfold line
      omega
    · rw [hs, List.map_append, List.map_map]
      rfl
    · rw [hs, List.length_append]
      omega
  · rintro e ⟨x2, x3, x4, rfl, hk⟩
    refine wSeq (wRet (wCall (wCons (wMove rfl (wNil ⟨_, rfl, ?_, rfl⟩)))))
    rw [List.length_map, List.length_range, Nat.zero_add]
theorem closed_couples_ok {v : D} (hn : n ≤ 24) (hp : ∀ p ∈ ps, p.1 < 2 * n ∧ p.2 < 2 * n) (h : d_need_couples [.int n, v] = .ok (.lst (ps.map pD)) []) : d_closed_couples [.int n, v] = .ok (.tup ((CL n ps).map cD)) [] := by
  refine wf_eq (wRun rfl ?_)
  unfold b_closed_couples
  refine wSeq (wRet (wCallF (wCons (wCallF (wCons (wVar rfl (wCons (wCallF (wCons (wVar rfl (wCons (wVar rfl (wNil ⟨_, rfl, wf_ok h (wNil ⟨_, rfl, wf_mono (closed_ok hn hp) ?_ fun _ _ h => h⟩)⟩)))))))))))))
  rintro d os ⟨ms, rfl, t⟩
  refine wNil ⟨_, rfl, wf_ok (couples_told_ok hn t.len fun a ha b hb => ((t.bit a b ha).mp hb).1) ⟨?_, rfl⟩⟩
  rw [told_CL hp t]
theorem closed_couples_bad {v w : D} {x : Exn} (h : d_need_couples [w, v] = .rs x []) : d_closed_couples [w, v] = .rs x [] := by
  refine wf_eqx (wRun rfl ?_)
  unfold b_closed_couples
  exact wSeq (wRet (wCallF (wCons (wCallF (wCons (wVar rfl (wCons (wCallF (wCons (wVar rfl (wCons (wVar rfl (wNil ⟨_, rfl, wf_rs h ⟨rfl, rfl⟩⟩)))))))))))))
theorem follows_bad {v w x y : D} {z : Exn} (h : d_need_couples [w, v] = .rs z []) : d_follows [w, v, x, y] = .rs z [] := by
  have hq : d_need_question [w, v, x, y] = .rs z [] := by
    refine wf_eqx (wRun rfl ?_)
    unfold b_need_question
    exact wSeq (wSet (wCallF (wCons (wVar rfl (wCons (wVar rfl (wNil ⟨_, rfl, wf_rs h ⟨rfl, rfl⟩⟩)))))))
  refine wf_eqx (wRun rfl ?_)
  unfold b_follows
  exact wSeq (wAsg (wCallF (wCons (wVar rfl (wCons (wVar rfl (wCons (wVar rfl (wCons (wVar rfl (wNil ⟨_, rfl, wf_rs hq ⟨rfl, rfl⟩⟩)))))))))))
variable {v x y : D} {a b : Nat}
theorem follows_side0 (h : d_need_couples [.int n, v] = .ok (.lst (ps.map pD)) []) (ex : Easy x) (hx : sideB x n = false) : d_follows [.int n, v, x, y] = .rs (bad 1 0) [] := by
  have hq : d_need_question [.int n, v, x, y] = .rs (bad 1 0) [] := by
    refine wf_eqx (wRun rfl ?_)
    unfold b_need_question
    refine wSeq (wSet (wCallF (wCons (wVar rfl (wCons (wVar rfl (wNil ⟨_, rfl, wf_ok h ?_⟩)))))))
    exact wSeq (wPar (wCallF (wCons (wVar rfl (wCons (wConst (wCons (wVar rfl (wNil ⟨_, rfl, wf_rs (need_side_bad ex hx) ⟨rfl, rfl⟩⟩)))))))))
  refine wf_eqx (wRun rfl ?_)
  unfold b_follows
  exact wSeq (wAsg (wCallF (wCons (wVar rfl (wCons (wVar rfl (wCons (wVar rfl (wCons (wVar rfl (wNil ⟨_, rfl, wf_rs hq ⟨rfl, rfl⟩⟩)))))))))))
theorem follows_side1 (h : d_need_couples [.int n, v] = .ok (.lst (ps.map pD)) []) (hx : SD x a) (ha : a < 2 * n) (ey : Easy y) (hy : sideB y n = false) : d_follows [.int n, v, x, y] = .rs (bad 1 1) [] := by
  have hq : d_need_question [.int n, v, x, y] = .rs (bad 1 1) [] := by
    refine wf_eqx (wRun rfl ?_)
    unfold b_need_question
    refine wSeq (wSet (wCallF (wCons (wVar rfl (wCons (wVar rfl (wNil ⟨_, rfl, wf_ok h ?_⟩)))))))
    refine wSeq (wPar (wCallF (wCons (wVar rfl (wCons (wConst (wCons (wVar rfl (wNil ⟨_, rfl, wf_ok (need_side_ok hx ha) ?_⟩)))))))))
    exact wCallF (wCons (wVar rfl (wCons (wConst (wCons (wVar rfl (wNil ⟨_, rfl, wf_rs (need_side_bad ey hy) ⟨rfl, rfl⟩⟩)))))))
  refine wf_eqx (wRun rfl ?_)
  unfold b_follows
  exact wSeq (wAsg (wCallF (wCons (wVar rfl (wCons (wVar rfl (wCons (wVar rfl (wCons (wVar rfl (wNil ⟨_, rfl, wf_rs hq ⟨rfl, rfl⟩⟩)))))))))))
theorem question_in {Q : D → Sl → Prop} {X : Exn → Sl → Prop} (h : d_need_couples [.int n, v] = .ok (.lst (ps.map pD)) []) (hx : SD x a) (ha : a < 2 * n) (hy : SD y b) (hb : b < 2 * n) (ok : b ≠ op a → Q (.tup [.lst (ps.map pD), nI a, nI b]) []) (no : b = op a → X ⟨3, [(Er.fn, .str "sides")]⟩ []) : (d_need_question [.int n, v, x, y]).wp Q X := by
  refine wRun rfl ?_
  unfold b_need_question
  refine wSeq (wSet (wCallF (wCons (wVar rfl (wCons (wVar rfl (wNil ⟨_, rfl, wf_ok h ?_⟩)))))))
  refine wSeq (wPar (wCallF (wCons (wVar rfl (wCons (wConst (wCons (wVar rfl (wNil ⟨_, rfl, wf_ok (need_side_ok hx ha) ?_⟩)))))))))
  refine wCallF (wCons (wVar rfl (wCons (wConst (wCons (wVar rfl (wNil ⟨_, rfl, wf_ok (need_side_ok hy hb) ?_⟩)))))))
  have fin : b ≠ op a → RS.wp (sSeq (sRet (dTup (dCons (dVar 4) (dCons (dCallF d_side_number [none] [] [] (dCons (dVar 5) dNil)) (dCons (dCallF d_side_number [none] [] [] (dCons (dVar 6) dNil)) dNil))))) sNil [some (.int n), some v, some x, some y, some (.lst (ps.map pD)), some (sD a), some (sD b)]) (fun _ => False) (fun d e => Q d (getS [] e)) (fun x e => X x (getS [] e)) := fun e => by
    refine wSeq (wRet (wTup (wCons (wVar rfl (wCons (wCallF (wCons (wVar rfl (wNil ⟨_, rfl, wf_ok (side_number_ok sd_sD) ?_⟩)))))))))
    exact wCons (wCallF (wCons (wVar rfl (wNil ⟨_, rfl, wf_ok (side_number_ok sd_sD) (wNil ⟨Nat.le_of_ble_eq_true rfl, ok e⟩)⟩))))
  refine wSeq (wSIf (wTAnd (wTCmp (wOp2 (wVar rfl (wConst ⟨_, ix0 sd_sD, wOp2 (wVar rfl (wConst ⟨_, ix0 sd_sD, _, peq_int, fun z => ?_, fun z => ⟨fun h => (by cases h), fun _ => wSNil (fin ?_)⟩⟩))⟩))))))
  · refine wTCmp (wOp2 (wVar rfl (wConst ⟨_, ix1 sd_sD, wOp2 (wVar rfl (wConst ⟨_, ix1 sd_sD, _, pne_int, fun w => ?_, fun w => wSNil (fin ?_)⟩))⟩)))
    · refine wSeq (wRaise (wConst (no ?_)))
      simp at z w
      unfold op
      split <;> omega
    · simp at z w
      unfold op
      split <;> omega
  · simp at z
    unfold op
    split <;> omega
theorem follows_ok (hn : n ≤ 24) (hp : ∀ p ∈ ps, p.1 < 2 * n ∧ p.2 < 2 * n) (h : d_need_couples [.int n, v] = .ok (.lst (ps.map pD)) []) (hx : SD x a) (ha : a < 2 * n) (hy : SD y b) (hb : b < 2 * n) (hab : b ≠ op a) : d_follows [.int n, v, x, y] = .ok (.bl (fol n ps a b)) [] := by
  refine wf_eq (wRun rfl ?_)
  unfold b_follows
  refine wSeq (wAsg (wCallF (wCons (wVar rfl (wCons (wVar rfl (wCons (wVar rfl (wCons (wVar rfl (wNil ⟨_, rfl, question_in h hx ha hy hb (fun _ => ?_) fun e => absurd e hab⟩)))))))))))
  refine ⟨_, rfl, wSeq (wRet (wDCmp (wOp2 (wOp2 (wOp2 (wCallF (wCons (wVar rfl (wCons (wVar rfl (wNil ⟨_, rfl, wf_mono (closed_ok hn hp) ?_ fun _ _ h => h⟩)))))))))))⟩
  rintro d os ⟨ms, rfl, t⟩
  refine wVar rfl ⟨_, ixs (by rw [t.len]; exact ha), wVar rfl ⟨_, shrN, wConst ⟨_, and1, wConst ⟨_, peq_int, ?_, rfl⟩⟩⟩⟩
  have h1 : (gn ms a).testBit b = fol n ps a b := by
    rw [Bool.eq_iff_iff, t.bit a b ha, fol_iff hp ha hb hab]
  rw [h1]
  cases fol n ps a b <;> rfl
theorem follows_no (h : d_need_couples [.int n, v] = .ok (.lst (ps.map pD)) []) (hx : SD x a) (ha : a < 2 * n) (hy : SD y (op a)) : d_follows [.int n, v, x, y] = .rs ⟨3, [(Er.fn, .str "sides")]⟩ [] := by
  refine wf_eqx (wRun rfl ?_)
  unfold b_follows
  exact wSeq (wAsg (wCallF (wCons (wVar rfl (wCons (wVar rfl (wCons (wVar rfl (wCons (wVar rfl (wNil ⟨_, rfl, question_in h hx ha hy (op_lt ha) (fun e => absurd rfl e) fun _ => ⟨rfl, rfl⟩⟩)))))))))))
end
end Hk
namespace Hk
open PySem FL
inductive Due : Nat → D → Prop
  | int {n : Nat} {i : Int} : Due n (.int i)
  | bl {n : Nat} {b : Bool} : Due n (.bl b)
  | str {n : Nat} {s : Str} (h : pEq (.str s) (.str s) = some true) : Due n (.str s)
  | tup {n : Nat} {ds : List D} (h : ds.length ≤ 60) (hd : ∀ d ∈ ds, Due n d) : Due (n + 1) (.tup ds)
theorem tells_ok {b : Bool} : d__law_tells [.bl b, .bl b] = .ok (.bl true) [] := by
  cases b <;> rfl
theorem law_is_int_ok {i : Int} : d__law_is_int [.int i] = .ok (.bl true) [] := rfl
theorem same_ok {n m : Nat} {v : D} (h : Due n v) (hm : n < m) : d__law_same m [v, v] = .ok (.bl true) [] := by
  induction h generalizing m with
  | int =>
    obtain ⟨m, rfl⟩ : ∃ k, m = k + 1 := ⟨m - 1, by omega⟩
    refine wf_eq (wRun rfl ?_)
    unfold b__law_same
    refine wSeq (wSIf (wTBl (wIs (wVar rfl ⟨rfl, _, rfl, fun h => (by cases h), fun _ => wSNil ?_⟩))))
    refine wSeq (wSIf (wTCmp (wVar rfl (wConst ⟨_, rfl, fun h => (by cases h), fun _ => wSNil ?_⟩))))
    refine wSeq (wSIf (wTBl (wIs (wVar rfl ⟨rfl, _, rfl, fun h => (by cases h), fun _ => wSNil ?_⟩))))
    refine wSeq (wSIf (wTBl (wIs (wVar rfl ⟨rfl, _, rfl, fun h => (by cases h), fun _ => wSNil ?_⟩))))
    refine wSeq (wRet (wDAnd (wCallF (wCons (wVar rfl (wNil ⟨_, rfl, wf_ok law_is_int_ok ⟨_, rfl, fun _ => ?_, fun h => by cases h⟩⟩))))))
    exact wDCmp (wVar rfl (wVar rfl ⟨true, by rw [peq_int]; simp, rfl, rfl⟩))
  | bl =>
    obtain ⟨m, rfl⟩ : ∃ k, m = k + 1 := ⟨m - 1, by omega⟩
    refine wf_eq (wRun rfl ?_)
    unfold b__law_same
    refine wSeq (wSIf (wTBl (wIs (wVar rfl ⟨rfl, _, rfl, fun h => (by cases h), fun _ => wSNil ?_⟩))))
    refine wSeq (wSIf (wTCmp (wVar rfl (wConst ⟨_, rfl, fun h => (by cases h), fun _ => wSNil ?_⟩))))
    refine wSeq (wSIf (wTBl (wIs (wVar rfl ⟨rfl, _, rfl, fun _ => ?_, fun h => by cases h⟩))))
    exact wSeq (wRet (wCallF (wCons (wVar rfl (wCons (wVar rfl (wNil ⟨_, rfl, wf_ok tells_ok ⟨rfl, rfl⟩⟩)))))))
  | str h =>
    obtain ⟨m, rfl⟩ : ∃ k, m = k + 1 := ⟨m - 1, by omega⟩
    refine wf_eq (wRun rfl ?_)
    unfold b__law_same
    refine wSeq (wSIf (wTBl (wIs (wVar rfl ⟨rfl, _, rfl, fun h => (by cases h), fun _ => wSNil ?_⟩))))
    refine wSeq (wSIf (wTCmp (wVar rfl (wConst ⟨_, rfl, fun h => (by cases h), fun _ => wSNil ?_⟩))))
    refine wSeq (wSIf (wTBl (wIs (wVar rfl ⟨rfl, _, rfl, fun h => (by cases h), fun _ => wSNil ?_⟩))))
    refine wSeq (wSIf (wTBl (wIs (wVar rfl ⟨rfl, _, rfl, fun _ => ?_, fun h => by cases h⟩))))
    refine wSeq (wRet (wDAnd (wIs (wVar rfl ⟨rfl, _, rfl, fun _ => ?_, fun h => by cases h⟩))))
    exact wDCmp (wVar rfl (wVar rfl ⟨true, h, rfl, rfl⟩))
  | @tup n ds hl hd ih =>
    obtain ⟨m, rfl⟩ : ∃ k, m = k + 1 := ⟨m - 1, by omega⟩
    refine wf_eq (wRun rfl ?_)
    unfold b__law_same
    refine wSeq (wSIf (wTBl (wIs (wVar rfl ⟨rfl, _, rfl, fun _ => ?_, fun h => by cases h⟩))))
    refine wSeq (wSIf (wTOr (wTNot (wTBl (wIs (wVar rfl ⟨rfl, _, rfl, fun h => (by cases h), fun _ => ?_⟩))))))
    refine wTCmp (wCall (wCons (wVar rfl (wNil ⟨_, rfl, wCall (wCons (wVar rfl (wNil ⟨_, rfl, _, pne_int, fun h => ?_, fun _ => wSNil ?_⟩)))⟩))))
    · simp at h
    refine wSeq (wRet (wDCmp (wLc (wRng1 (wCall (wCons (wVar rfl (wNil ⟨_, rfl, _, rfl, by omega, ?_, _, _, lcF (fun _ => false) nI fun i hi => ?_, ?_⟩))))))))
    · simp only [List.length_map, List.length_range]; unfold line; omega
    · have hi : i < ds.length := by simpa using hi
      have hx : gIx (.tup ds) (.int i) = some ds[i] := by
        show L2.atI ds (i : Int) = _
        rw [atI_nat hi]; simp [hi]
      refine ⟨_, rfl, wTNot (wTBl (wCallF (wCons (wOp2 (wVar rfl (wVar rfl ⟨_, hx, wCons (wOp2 (wVar rfl (wVar rfl ⟨_, hx, wNil ⟨_, rfl, ?_⟩⟩)))⟩))))))⟩
      refine wf_ok (ih _ (List.getElem_mem hi) (by omega)) ?_
      exact ⟨_, rfl, rfl, fun h => (by cases h), fun _ => rfl⟩
    · rw [List.filter_eq_nil_iff.mpr (fun _ _ h => by cases h)]
      exact wLst (wNil ⟨Nat.zero_le _, true, by decide +kernel, rfl, rfl⟩)
theorem due_two {n : Nat} {s : Str} {x : D} (hs : pEq (.str s) (.str s) = some true) (h : Due n x) : Due (n + 1) (.tup [.str s, x]) := .tup (Nat.le_of_ble_eq_true rfl) fun d hd => by
  simp at hd
  rcases hd with rfl | rfl
  · exact .str hs
  · exact h
theorem st : pEq (.str "told") (.str "told") = some true := by decide +kernel
def Bx (ns : List Int) (b : Int) : D := .lst [.lst (ns.map .int), .int b]
def IsBox (d : D) : Prop := ∃ ns b, d = Bx ns b ∧ ns.length ≤ 60
abbrev pk0 : M D := dPk 0 boxSh (plIx 0 boxSh (plName 0) (dConst (.int 0)))
theorem pk0_ap {ns : List Int} {b : Int} {r : Sl} : pk0 (some (Bx ns b) :: r) = .ok (.lst (ns.map .int)) (some (Bx ns b) :: r) := rfl
theorem pl00_ap {n : Int} {ns : List Int} {b : Int} {r : Sl} : dPl 0 boxSh (plIx 0 boxSh (plIx 0 boxSh (plName 0) (dConst (.int 0))) (dConst (.int 0))) (some (Bx (n :: ns) b) :: r) = .ok (.int n) (some (Bx (n :: ns) b) :: r) := by
  have h : L2.ixN ((n :: ns).map D.int).length 0 = some 0 := by
    unfold L2.ixN; simp
  show R.bind (R.bind (R.ok [0] (some (Bx (n :: ns) b) :: r)) _) _ = _
  rw [bind_ok]
  show R.bind (R.opt ((L2.ixN ((n :: ns).map D.int).length 0).map fun j => [0] ++ [j]) _) _ = _
  rw [h]
  rfl
theorem pl1_ap {ns : List Int} {b : Int} {r : Sl} : dPl 0 boxSh (plIx 0 boxSh (plName 0) (dConst (.int 1))) (some (Bx ns b) :: r) = .ok (.int b) (some (Bx ns b) :: r) := rfl
theorem ne_nil {ns : List Int} : pNe (.lst (ns.map .int)) (.lst []) = some (!ns.isEmpty) := by
  have h : (D.lst (ns.map .int)).fit 60 = true := by
    show fits 59 (ns.map .int) = true
    induction ns with
    | nil => rfl
    | cons n ns ih => rw [List.map_cons]; unfold fits; rw [ih]; rfl
  unfold pNe
  rw [h]
  cases ns <;> rfl
theorem pop0_ap {n : Int} {ns : List Int} {b : Int} {r : Sl} : dMut 0 boxSh gPopAt (plIx 0 boxSh (plName 0) (dConst (.int 0))) (dCons (dConst (.int 0)) dNil) (some (Bx (n :: ns) b) :: r) = .ok (.int n) (some (Bx ns b) :: r) := by
  have h : gPopAt ((n :: ns).map .int) [.int 0] = some (.int n, ns.map .int) := by
    have h0 : (decide ((-9223372036854775808 : Int) ≤ 0) && decide ((0 : Int) < 9223372036854775808)) = true := by decide
    show (if (decide ((-9223372036854775808 : Int) ≤ 0) && decide ((0 : Int) < 9223372036854775808)) = true then (seqIndex? 0 ((n :: ns).map D.int).length).bind (fun k => (((n :: ns).map D.int)[k]?).map fun y => (y, ((n :: ns).map D.int).eraseIdx k)) else none) = _
    rw [if_pos h0]
    have : seqIndex? 0 ((n :: ns).map D.int).length = some 0 := by
      simp [seqIndex?]
    rw [this]
    rfl
  show R.bind (R.ok [0] (some (Bx (n :: ns) b) :: r)) _ = _
  rw [bind_ok]
  show R.bind (R.ok [D.int 0] _) _ = _
  rw [bind_ok]
  show (match ((gPopAt ((n :: ns).map .int) [.int 0]).map fun q => (q.1, setD (Bx (n :: ns) b) [0] (.lst q.2))) with | some (d, d') => R.ok d _ | none => R.er) = _
  rw [h]
  rfl
theorem ins0_ap {n : Int} {ns : List Int} {b : Int} {r : Sl} {m : M D} (hl : ns.length ≤ 60) (hm : m (none :: r) = .ok (.int n) (none :: r)) : dMut 0 boxSh gInsert (plIx 0 boxSh (plName 0) (dConst (.int 0))) (dCons (dConst (.int 0)) (dCons m dNil)) (some (Bx ns b) :: r) = .ok .non (some (Bx (n :: ns) b) :: r) := by
  have h : gInsert (ns.map .int) [.int 0, .int n] = some (.non, (n :: ns).map .int) := by
    show (if _ then _ else _) = _
    rw [if_pos (by simp; unfold line; omega)]
    rfl
  show R.bind (R.ok [0] (some (Bx ns b) :: r)) _ = _
  rw [bind_ok]
  show R.bind (noX (R.bind (R.ok (D.int 0) (none :: r)) _)) _ = _
  rw [bind_ok, dCons_ap, hm, bind_ok, dNil_ap, bind_ok, bind_ok, noX_ok, bind_ok]
  show (match ((gInsert (ns.map .int) [.int 0, .int n]).map fun q => (q.1, setD (Bx ns b) [0] (.lst q.2))) with | some (d, d') => R.ok d _ | none => R.er) = _
  rw [h]
  rfl
theorem store1_ap {ns : List Int} {b n : Int} {r : Sl} {m : M D} (hm : m (some (Bx ns b) :: r) = .ok (.int n) (some (Bx ns b) :: r)) : sStore 0 boxSh m (plName 0) (dConst (.int 1)) (some (Bx ns b) :: r) = .nx (some (Bx ns n) :: r) := by
  unfold sStore
  rw [hm, then_ok]
  rfl
/-- the next blend -/
theorem next_ap {ns : List Int} {b : Int} {r : Sl} : dOp2 gMod (dCall gInt (dCons (dOp2 gAdd (dOp2 gMul (dPl 0 boxSh (plIx 0 boxSh (plName 0) (dConst (.int 1)))) (dConst (.int 16807))) (dConst (.int 41))) dNil)) (dConst (.int 2147483647)) (some (Bx ns b) :: r) = .ok (.int ((b * 16807 + 41) % 2147483647)) (some (Bx ns b) :: r) :=
  op2_ap (int_ap (op2_ap (op2_ap pl1_ap rfl (mul_ap (by decide))) rfl rfl)) rfl (mod_ap (by decide))
theorem pow8 : gPow (.int 10) (.int 8) = some (.int 100000000) := by rfl
/-- what a draw leaves -/
def Drew (many : Int) (d : D) (os : Sl) : Prop := ∃ r bx, d = .int r ∧ 0 ≤ r ∧ r < many ∧ os = [some bx] ∧ IsBox bx
theorem draw_ok {bx : D} {many : Int} (hb : IsBox bx) (h1 : 0 < many) (h2 : many < 100000001) : (d__law_draw [bx, .int many]).wp (Drew many) fun _ _ => False := by
  obtain ⟨ns, b, rfl, hl⟩ := hb
  refine wRun rfl ?_
  unfold b__law_draw
  refine wSeq (wFor (wRng1 (wConst ⟨60, rfl, by omega, ?_⟩)))
  refine wForI (fun _ e => ∃ ns x, e = [some (Bx ns b), some (.int many), x, none, none] ∧ ns.length ≤ 60) (n := 0) ?_ ⟨ns, none, rfl, hl⟩ ?_
  · rintro i d e hd ⟨ns, x, rfl, hl⟩
    refine ⟨_, rfl, wSeq (wSIf (wTAnd (wTCmp (wOk pk0_ap (wConst ⟨_, ne_nil, fun t => ?_, fun t => ⟨fun h => (by cases h), fun _ => wSNil (wSNil ⟨ns, _, rfl, hl⟩)⟩⟩)))))⟩
    match ns, hl with
    | [], _ => cases t
    | n :: ns, hl =>
      refine wTCmp (wOk pl00_ap (wConst ⟨_, peq_int, fun t => ?_, fun t => wSNil (wSNil ⟨_, _, rfl, hl⟩)⟩))
      refine wSeq (wExpr (wOk pop0_ap (wSNil (wSNil ⟨_, _, rfl, ?_⟩))))
      simp at hl; omega
  · rintro e ⟨ns, x, rfl, hl⟩
    refine wSeq (wSIf (wTCmp (wOk pk0_ap (wConst ⟨_, ne_nil, fun t => ?_, fun t => wSNil ?_⟩))))
    · match ns, hl with
      | [], _ => cases t
      | n :: ns, hl =>
        refine wSeq (wSet (wOk (d := .int n) (e := [some (Bx ns b), some (.int many), x, none, none]) ?_ ?_))
        · exact (by rw [dCall_ap, dCons_ap, pop0_ap, bind_ok, dNil_ap, bind_ok, bind_ok]; rfl)
        refine wSeq (wExpr (wOk (ins0_ap (n := n / many) (by simp at hl; omega) ?_) ?_))
        · exact op2_ap rfl rfl (div_ap h1 (by omega))
        refine wSeq (wRet (wOk (op2_ap (int_ap (i := n) rfl) rfl (mod_ap h1)) ?_))
        exact ⟨_, _, rfl, Int.emod_nonneg _ (by omega), Int.emod_lt_of_pos _ h1, rfl, _, _, rfl, by simpa using hl⟩
    · refine wSeq ?_
      rw [store1_ap next_ap]
      refine ⟨?_⟩
      refine wSeq (wSet (wOk pl1_ap ?_))
      generalize (b * 16807 + 41) % 2147483647 = b1
      refine wSeq (wFor (wRng1 (wConst ⟨2, rfl, by omega, ?_⟩)))
      refine wForI (fun _ e => ∃ x, e = [some (Bx ns b1), some (.int many), x, none, some (.int b1)]) (n := 0) ?_ ⟨_, rfl⟩ ?_
      · rintro i d e hd ⟨x, rfl⟩
        refine ⟨_, rfl, wSeq (wSIf (wTCmp (wVar rfl (wOp2 (wConst (wConst ⟨.int 100000000, by rw [pow8], _, rfl, fun t => ?_, fun _ => wSNil (wSNil ⟨_, rfl⟩)⟩))))))⟩
        simp at t; omega
      · rintro e ⟨x, rfl⟩
        refine wSeq (wRet (wOk (op2_ap (int_ap (op2_ap (x := .int b1) rfl rfl (div_ap (j := 101) (by omega) (by omega)))) rfl (mod_ap h1)) ?_))
        exact ⟨_, _, rfl, Int.emod_nonneg _ (by omega), Int.emod_lt_of_pos _ h1, rfl, _, _, rfl, hl⟩
theorem wp_ex {α : Type} {r : R α} {Q : α → Sl → Prop} (h : r.wp Q fun _ _ => False) : ∃ d e, r = .ok d e ∧ Q d e := by
  obtain ⟨h⟩ := h
  cases r with
  | ok d e => exact ⟨d, e, rfl, h⟩
  | rs x e => exact h.elim
  | er => exact h.elim
theorem lcI {t : Tgt} {c : M Bool} {a : M D} {own : List Nat} (I : Sl → Prop) (P : D → D → Prop) {ds : List D} {e : Sl} (H : ∀ d ∈ ds, ∀ e, I e → ∃ e1, t d e = some e1 ∧ ∃ e2, c e1 = .ok true e2 ∧ (a e2).wp (fun y e3 => P d y ∧ I (wipeE e3 own)) fun _ _ => False) (hi : I e) : ∃ ys e', lcL t c a own ds e = .ok ys e' ∧ ys.length = ds.length ∧ (∀ (i : Nat) d y, ds[i]? = some d → ys[i]? = some y → P d y) ∧ I e' :=
  lcL_inv I P (fun d hd e he => by
    obtain ⟨e1, h1, e2, h2, w⟩ := H d hd e he
    obtain ⟨y, e3, h3, h4, h5⟩ := wp_ex w
    exact ⟨e1, h1, e2, h2, y, e3, h3, h4, h5⟩) hi
/-- a box is left -/
def Left (os : Sl) : Prop := ∃ bx, os = [some bx] ∧ IsBox bx
theorem wLstO {a b : M D} {e : Sl} {Q : D → Sl → Prop} {X : Exn → Sl → Prop} (h : (a e).wp (fun x e1 => (b e1).wp (fun y e2 => Q (.lst [x, y]) e2) X) X) : (dLstO a b e).wp Q X := wp_bind (wp_mono h (fun _ _ h => wp_bind (wp_mono h (fun _ _ h => ⟨h⟩) fun _ _ h => h)) fun _ _ h => h)
theorem cut_take' {ds : List D} {k : Nat} : cutD ds none (some (k : Int)) = ds.take k := by
  unfold cutD
  rw [HT.sIx_none, HT.sIx_nat, List.drop_zero, Nat.sub_zero]
  by_cases h : k ≤ ds.length
  · rw [Nat.min_eq_left h]
  · rw [Nat.min_eq_right (by omega), List.take_of_length_le (Nat.le_refl _), List.take_of_length_le (by omega)]
def absD (d : D) : D := match d with
  | .int i => .int (if i < 0 then -i else i)
  | d => d
theorem pow18 : gPow (.int 10) (.int 18) = some (.int 1000000000000000000) := by rfl
theorem law_box_ok {ns : List Int} (hl : ns.length ≤ 63) : (d__law_box [.lst (ns.map .int)]).wp (fun d _ => IsBox d) fun _ _ => False := by
  refine wRun rfl ?_
  unfold b__law_box
  refine wSeq (wSet (wLc (wItSeq (wSl (wVar rfl (wNoPart (wDPart (wConst ⟨60, rfl, _, rfl, _, rfl, ?_⟩))))))))
  have hc : cutD (ns.map D.int) none (some 60) = (ns.take 60).map .int := by
    have := cut_take' (ds := ns.map .int) (k := 60)
    rw [← List.map_take] at this
    exact this
  rw [hc]
  generalize hm : ns.take 60 = ms
  have hms : ms.length ≤ 60 := by rw [← hm, List.length_take]; omega
  refine ⟨by rw [List.length_map]; unfold line; omega, _, _, lcL_map absD (e := [some (.lst (ns.map .int)), none, none, none]) (fun d hd => ?_), ?_⟩
  · obtain ⟨i, _, rfl⟩ := List.mem_map.mp hd
    exact ⟨_, rfl, _, rfl, [some (.lst (ns.map .int)), none, none, some (.int i)], rfl, rfl⟩
  have ha : (ms.map D.int).map absD = (ms.map fun i => if i < 0 then -i else i).map .int := by
    rw [List.map_map, List.map_map]; rfl
  rw [ha]
  generalize hk : (ms.map fun i => if i < 0 then -i else i) = ks
  have hks : ks.length ≤ 60 := by rw [← hk, List.length_map]; exact hms
  refine wSeq (wSet (wConst ?_))
  refine wSeq (wFor (wItSeq (wVar rfl ⟨_, rfl, ?_⟩)))
  refine wForI (fun _ e => ∃ b x, e = [some (.lst (ns.map .int)), some (.lst (ks.map .int)), some (.int b), x]) (n := 0) ?_ ⟨_, _, rfl⟩ ?_
  · rintro i d e hd ⟨b, x, rfl⟩
    rw [List.getElem?_map] at hd
    cases q : ks[i]? with
    | none => rw [q] at hd; cases hd
    | some j =>
      rw [q] at hd; cases hd
      refine ⟨_, rfl, wSeq (wSet (wOk (op2_ap (int_ap (op2_ap (op2_ap (op2_ap (x := .int b) rfl rfl (mul_ap (by decide))) (op2_ap (int_ap (i := j) rfl) rfl (mod_ap (by decide))) rfl) rfl rfl)) rfl (mod_ap (by decide))) (wSNil ⟨_, _, rfl⟩)))⟩
  · rintro e ⟨b, x, rfl⟩
    refine wSeq (wRet (wLstO (wLc (wItSeq (wVar rfl ⟨_, rfl, by rw [List.length_map]; unfold line; omega, _, _, lcL_filter (fun d => match d with | .int i => decide (1000000000000000000 ≤ i) | _ => false) id (e := [some (.lst (ns.map .int)), some (.lst (ks.map .int)), some (.int b), none]) (fun d hd => ?_), ?_⟩)))))
    · obtain ⟨i, _, rfl⟩ := List.mem_map.mp hd
      refine ⟨_, rfl, [some (.lst (ns.map .int)), some (.lst (ks.map .int)), some (.int b), some (.int i)], ?_, fun _ => ⟨_, rfl, rfl⟩, fun _ => rfl⟩
      rw [tCmp_ap]
      show R.bind (R.ok (D.int i) _) _ = _
      rw [bind_ok, dOp2_ap, dConst_ap, bind_ok, dConst_ap, bind_ok, pow18]
      rfl
    · refine wVar rfl ⟨ks.filter (fun i => decide (1000000000000000000 ≤ i)), b, ?_, ?_⟩
      · rw [List.map_id, List.filter_map]; rfl
      · exact Nat.le_trans (List.length_filter_le _ _) hks
theorem loose_int {m : Nat} {bx : D} {i : Int} : d__law_loose (m + 1) [bx, .int i] = .ok (.int i) [some bx] := by
  refine wf_eq (wRun rfl ?_)
  unfold b__law_loose
  refine wSeq (wSIf (wTOr (wTBl (wIs (wVar rfl ⟨rfl, _, rfl, fun h => (by cases h), fun _ => ?_⟩)))))
  refine wTBl (wIs (wVar rfl ⟨rfl, _, rfl, fun h => (by cases h), fun _ => wSNil ?_⟩))
  exact wSeq (wRet (wVar rfl ⟨rfl, rfl⟩))
/-- numbers within lists and tuples -/
inductive Lz : Nat → D → Prop
  | int {k : Nat} {i : Int} : Lz k (.int i)
  | seq {k : Nat} {v : D} {xs : List D} : seqOf v = some xs → xs.length ≤ 100 → (∀ x ∈ xs, Lz k x) → Lz (k + 1) v
/-- the same but for lists and tuples -/
inductive Sim : D → D → Prop
  | int {i : Int} : Sim (.int i) (.int i)
  | seq {v w : D} {xs ys : List D} : seqOf v = some xs → seqOf w = some ys → ys.length = xs.length → (∀ (i : Nat) x y, xs[i]? = some x → ys[i]? = some y → Sim x y) → Sim v w
theorem Sim.int_inv {i : Int} {w : D} (h : Sim (.int i) w) : w = .int i := by
  cases h with
  | int => rfl
  | seq h1 => simp [seqOf] at h1
theorem Sim.seq_inv {v w : D} {xs : List D} (h : Sim v w) (hv : seqOf v = some xs) : ∃ ys, seqOf w = some ys ∧ ys.length = xs.length ∧ ∀ (i : Nat) x y, xs[i]? = some x → ys[i]? = some y → Sim x y := by
  cases h with
  | int => simp [seqOf] at hv
  | seq h1 h2 h3 h4 =>
    rw [h1] at hv; cases hv
    exact ⟨_, h2, h3, h4⟩
theorem loose_ok {k : Nat} : ∀ {m : Nat} {bx v : D}, Lz k v → k < m → IsBox bx → (d__law_loose m [bx, v]).wp (fun d os => Sim v d ∧ Left os) fun _ _ => False := by
  induction k with
  | zero =>
    intro m bx v h hm hb
    obtain ⟨m, rfl⟩ : ∃ j, m = j + 1 := ⟨m - 1, by omega⟩
    cases h with
    | int => exact wf_ok loose_int ⟨.int, bx, rfl, hb⟩
  | succ k ih =>
    intro m bx v h hm hb
    obtain ⟨m, rfl⟩ : ∃ j, m = j + 1 := ⟨m - 1, by omega⟩
    cases h with
    | int => exact wf_ok loose_int ⟨.int, bx, rfl, hb⟩
    | @seq _ _ ds hv hl hd =>
      refine wRun rfl ?_
      unfold b__law_loose
      have ev := easy_of hv
      have go : ∀ e : Sl, e = [some bx, some v, none, none] → RS.wp (sSeq (sSet 2 (dLc (itSeq (dVar 1)) (gtName 3) tYes (dCallF (d__law_loose m) [some 0, none] [0] [] (dCons (dVar 0) (dCons (dVar 3) dNil))) [3]))
        (sSeq (sRet (dIf (tCmp pEq (dCallF d__law_draw [some 0, none] [0] [] (dCons (dVar 0) (dCons (dConst (.int 2)) dNil))) (dConst (.int 0))) (dVar 2) (dCall gTuple (dCons (dVar 2) dNil))))
        sNil) e) (fun e1 => (sSeq (sRet (dVar 1)) sNil e1).wp (fun _ => False) (fun d e => Sim v d ∧ Left (getS [0] e)) fun x e => False) (fun d e => Sim v d ∧ Left (getS [0] e)) fun x e => False := by
        rintro e rfl
        obtain ⟨ys, e', h1, h2, h3, bx', hb', rfl⟩ := lcI (t := gtName 3) (c := tYes) (a := dCallF (d__law_loose m) [some 0, none] [0] [] (dCons (dVar 0) (dCons (dVar 3) dNil))) (own := [3]) (fun e => ∃ bx, IsBox bx ∧ e = [some bx, some v, none, none]) (fun d y => Sim d y) (ds := ds) (e := [some bx, some v, none, none]) (fun d hd' e ⟨bx, hb, he⟩ => by
          subst he
          refine ⟨_, rfl, _, rfl, wCallF (wCons (wVar rfl (wCons (wVar rfl (wNil ⟨_, rfl, ?_⟩)))))⟩
          refine wf_mono (ih (hd d hd') (by omega) hb) ?_ fun _ _ h => h
          rintro y os ⟨hs, bx, rfl, hb⟩
          exact ⟨hs, bx, hb, rfl⟩) ⟨bx, hb, rfl⟩
        refine wSeq (wSet (wLc (wItSeq (wVar rfl ⟨_, hv, by unfold line; omega, _, _, h1, ?_⟩))))
        refine wSeq (wRet (wDIf (wTCmp (wCallF (wCons (wVar rfl (wCons (wConst (wNil ⟨_, rfl, ?_⟩)))))))))
        refine wf_mono (draw_ok (many := 2) hb' (by omega) (by omega)) ?_ fun _ _ h => h
        rintro d os ⟨r, bx, rfl, r1, r2, rfl, hb⟩
        refine wConst ⟨_, peq_int, fun _ => wVar rfl ⟨.seq hv rfl h2 h3, bx, rfl, hb⟩, fun _ => wCall (wCons (wVar rfl (wNil ⟨_, rfl, .seq hv rfl h2 h3, bx, rfl, hb⟩)))⟩
      refine wSeq (wSIf (wTOr (wTBl (wIs (wVar rfl ⟨ev, _, rfl, fun _ => ⟨fun _ => go _ rfl, fun h => (by cases h)⟩, fun h1 => ?_⟩)))))
      refine wTBl (wIs (wVar rfl ⟨ev, _, rfl, fun _ => go _ rfl, fun h2 => ?_⟩))
      cases v <;> simp [seqOf, isT] at hv h1 h2
theorem Sim.sd {v w : D} {s : Nat} (h : Sim v w) (hv : SD v s) : SD w s := by
  obtain ⟨ys, h1, h2, h3⟩ := h.seq_inv hv
  match ys, h2 with
  | [y0, y1], _ =>
    have e0 := (h3 0 _ _ rfl rfl).int_inv
    have e1 := (h3 1 _ _ rfl rfl).int_inv
    subst e0; subst e1
    exact h1
theorem Sim.good {n : Nat} {v w : D} {p : Nat × Nat} (h : Sim v w) (hv : GoodC n v p) : GoodC n w p := by
  obtain ⟨x, y, q, hx, hy⟩ := hv.at_
  obtain ⟨ys, h1, h2, h3⟩ := h.seq_inv q
  match ys, h2 with
  | [y0, y1], _ => exact ⟨⟨y0, y1, h1, (h3 0 _ _ rfl rfl).sd hx, (h3 1 _ _ rfl rfl).sd hy⟩, hv.l1, hv.l2, hv.ne⟩
theorem lz_sD {k s : Nat} : Lz (k + 1) (sD s) := .seq rfl (Nat.le_of_ble_eq_true rfl) fun x hx => by
  simp at hx
  rcases hx with rfl | rfl <;> exact .int
theorem lz_cD {k : Nat} {p : Nat × Nat} : Lz (k + 2) (cD p) := .seq rfl (Nat.le_of_ble_eq_true rfl) fun x hx => by
  simp at hx
  rcases hx with rfl | rfl <;> exact lz_sD
theorem lz_cDs {k : Nat} {L : List (Nat × Nat)} (h : L.length ≤ 100) : Lz (k + 3) (.tup (L.map cD)) := .seq rfl (by rw [List.length_map]; exact h) fun x hx => by
  obtain ⟨p, _, rfl⟩ := List.mem_map.mp hx
  exact lz_cD
theorem due_sD {k s : Nat} : Due (k + 1) (sD s) := .tup (Nat.le_of_ble_eq_true rfl) fun x hx => by
  simp at hx
  rcases hx with rfl | rfl <;> exact .int
theorem due_cD {k : Nat} {p : Nat × Nat} : Due (k + 2) (cD p) := .tup (Nat.le_of_ble_eq_true rfl) fun x hx => by
  simp at hx
  rcases hx with rfl | rfl <;> exact due_sD
theorem due_cDs {k : Nat} {L : List (Nat × Nat)} (h : L.length ≤ 60) : Due (k + 3) (.tup (L.map cD)) := .tup (by rw [List.length_map]; exact h) fun x hx => by
  obtain ⟨p, _, rfl⟩ := List.mem_map.mp hx
  exact due_cD
theorem same_told {x : D} (h : Due 6 x) : d__law_same 8 [.tup [.str "told", x], .tup [.str "told", x]] = .ok (.bl true) [] := same_ok (due_two st h) (by omega)
theorem same_err {s : Str} {x : D} (hs : pEq (.str s) (.str s) = some true) (h : Due 0 x) : d__law_same 8 [.tup [.str s, x], .tup [.str s, x]] = .ok (.bl true) [] := same_ok (due_two hs h) (by omega)
theorem pick_ok {bx : D} {L : List D} (hb : IsBox bx) (h0 : 0 < L.length) (h1 : L.length < 1000) : (d__law_pick [bx, .lst L]).wp (fun d os => d ∈ L ∧ Left os) fun _ _ => False := by
  refine wRun rfl ?_
  unfold b__law_pick
  refine wSeq (wRet (wOp2 (wVar rfl (wCallF (wCons (wVar rfl (wCons (wCall (wCons (wVar rfl (wNil ⟨_, rfl, wNil ⟨_, rfl, ?_⟩⟩)))))))))))
  refine wf_mono (draw_ok (many := L.length) hb (by omega) (by omega)) ?_ fun _ _ h => h
  rintro d os ⟨r, bx, rfl, r1, r2, rfl, hb⟩
  obtain ⟨r, rfl⟩ := Int.eq_ofNat_of_zero_le r1
  have hr : r < L.length := by omega
  refine ⟨L[r], ?_, List.getElem_mem hr, bx, rfl, hb⟩
  show L2.atI L (r : Int) = _
  rw [atI_nat hr, List.getElem?_eq_getElem hr]
end Hk
namespace Hk
open PySem FL
def rowD (n m : Nat) : D := .tup ((List.range n).map fun h => nI (rb n m h))
theorem shl2 {n : Nat} (h : n ≤ 10) : gShl (.int 1) (.int n) = some (nI (2 ^ n)) := shl1 (by omega)
theorem law_rows_ok {n : Nat} (hn : n ≤ 5) : d__law_rows [.int n] = .ok (.lst ((List.range (2 ^ n)).map (rowD n))) [] := by
  have hp : 2 ^ n ≤ 32 := Nat.pow_le_pow_right (by decide) hn
  refine wf_eq (wRun rfl ?_)
  unfold b__law_rows
  refine wSeq (wRet (wLc (wRng1 (wOp2 (wConst (wVar rfl ⟨_, shl2 (by omega), 2 ^ n, rfl, by omega, ?_, _, _, lcM (h := fun i : Nat => D.int i) (rowD n) (fun m hm => ?_), rfl, rfl⟩))))))
  · rw [List.length_map, List.length_range]; unfold line; omega
  · refine ⟨_, rfl, ?_⟩
    refine wCall (wCons (wLc (wRng1 (wVar rfl ⟨n, rfl, by omega, ?_, _, _, lcM (h := fun i : Nat => D.int i) (fun h => nI (rb n m h)) (fun h hh => ?_), wNil ⟨_, rfl, rfl, rfl⟩⟩))))
    · rw [List.length_map, List.length_range]; unfold line; omega
    · have hh : h < n := by simpa using hh
      refine ⟨_, rfl, wOp2 (wOp2 (wVar rfl (wOp2 (wOp2 (wVar rfl (wConst ⟨_, rfl, wVar rfl ⟨nI (n - 1 - h), ?_, _, shrN, wConst ⟨_, mod_ap (by decide), ?_, rfl⟩⟩⟩)))))) ⟩
      · show some (D.int ((n : Int) - 1 - (h : Int))) = _
        unfold nI
        congr 2
        omega
      · unfold nI rb
        rw [Int.natCast_emod, Int.natCast_ediv, Int.natCast_pow]; rfl
theorem row_ix {n m h : Nat} (hh : h < n) : gIx (rowD n m) (.int h) = some (nI (rb n m h)) := by
  show L2.atI ((List.range n).map fun h => nI (rb n m h)) (h : Int) = _
  rw [atI_nat (by simpa using hh), List.getElem?_map, List.getElem?_range hh]; rfl
theorem law_has_ok {n m s : Nat} (hs : s < 2 * n) : d__law_has [rowD n m, sD s] = .ok (.bl (has n m s)) [] := by
  refine wf_eq (wRun rfl ?_)
  unfold b__law_has
  refine wSeq (wRet (wDCmp (wOp2 (wVar rfl (wOp2 (wVar rfl (wConst ⟨_, ix0 sd_sD, _, row_ix (by omega), wOp2 (wVar rfl (wConst ⟨_, ix1 sd_sD, _, peq_int, ?_, rfl⟩))⟩)))))))
  congr 1
  unfold has
  rw [Bool.eq_iff_iff]
  simp
  omega
theorem law_both_ok {n m : Nat} {p : Nat × Nat} (h1 : p.1 < 2 * n) (h2 : p.2 < 2 * n) : d__law_has_both [rowD n m, cD p] = .ok (.bl (has n m p.1 && has n m p.2)) [] := by
  refine wf_eq (wRun rfl ?_)
  unfold b__law_has_both
  have q : seqOf (cD p) = some [sD p.1, sD p.2] := rfl
  refine wSeq (wRet (wDAnd (wCallF (wCons (wVar rfl (wCons (wOp2 (wVar rfl (wConst ⟨_, ix0 q, wNil ⟨_, rfl, wf_ok (law_has_ok h1) ⟨_, rfl, fun t => ?_, fun t => ⟨by rw [t]; rfl, rfl⟩⟩⟩⟩)))))))))
  refine wCallF (wCons (wVar rfl (wCons (wOp2 (wVar rfl (wConst ⟨_, ix1 q, wNil ⟨_, rfl, wf_ok (law_has_ok h2) ⟨by rw [t]; rfl, rfl⟩⟩⟩))))))
theorem law_sides_ok {n : Nat} (hn : n ≤ 5) : d__law_sides [.int n] = .ok (.lst ((List.range (2 * n)).map sD)) [] := by
  refine wf_eq (wRun rfl ?_)
  unfold b__law_sides
  refine wSeq (wSet (wLst (wNil ⟨Nat.le_of_ble_eq_true rfl, ?_⟩)))
  refine wSeq (wFor (wRng1 (wVar rfl ⟨n, rfl, by omega, ?_⟩)))
  refine wForI (fun i e => ∃ x2, e = [some (.int n), some (.lst ((List.range (2 * i)).map sD)), x2]) (n := 0) ?_ ⟨_, rfl⟩ ?_
  · rintro i d e hd ⟨x2, rfl⟩
    have hi : i < n := by
      have := (List.getElem?_eq_some_iff.mp hd).1
      simpa using this
    have hd : d = nI i := by
      rw [List.getElem?_map, List.getElem?_range hi] at hd
      cases hd; rfl
    subst hd
    refine ⟨_, rfl, wSeq (wSet (wOp2 (wVar rfl (wLst (wCons (wTup (wCons (wVar rfl (wCons (wConst (wNil ⟨Nat.le_of_ble_eq_true rfl, wCons (wTup (wCons (wVar rfl (wCons (wConst (wNil ⟨Nat.le_of_ble_eq_true rfl, wNil ⟨Nat.le_of_ble_eq_true rfl, _, ?_, wSNil ⟨_, rfl⟩⟩⟩))))))⟩)))))))))) )⟩
    have e : (List.range (2 * (0 + i + 1))).map sD = (List.range (2 * (0 + i))).map sD ++ [.tup [nI i, .int 0], .tup [nI i, .int 1]] := by
      have : 2 * (0 + i + 1) = (2 * (0 + i) + 1) + 1 := by omega
      rw [this, List.range_succ, List.range_succ, List.map_append, List.map_append, List.append_assoc]
      congr 1
      have e1 : (2 * (0 + i)) / 2 = i := by omega
      have e2 : (2 * (0 + i)) % 2 = 0 := by omega
      have e3 : (2 * (0 + i) + 1) / 2 = i := by omega
      have e4 : (2 * (0 + i) + 1) % 2 = 1 := by omega
      simp only [List.map_cons, List.map_nil, sD, e1, e2, e3, e4]
      rfl
    rw [e]
    show (if ((List.range (2 * (0 + i))).map sD).length + 2 ≤ line then some (D.lst _) else none) = _
    rw [if_pos (by rw [List.length_map, List.length_range]; unfold line; omega)]
  · rintro e ⟨x2, rfl⟩
    refine wSeq (wRet (wVar rfl ⟨?_, rfl⟩))
    rw [List.length_map, List.length_range, Nat.zero_add]
theorem fit_int {k : Nat} {i : Int} : (D.int i).fit k = true := by unfold D.fit; rfl
theorem fit_sD {k s : Nat} : (sD s).fit (k + 1) = true := by
  show fits k [_, _] = true
  unfold fits fits fits
  rw [fit_int, fit_int]; rfl
theorem fit_cD {k : Nat} {p : Nat × Nat} : (cD p).fit (k + 2) = true := by
  show fits (k + 1) [_, _] = true
  unfold fits fits fits
  rw [fit_sD, fit_sD]; rfl
theorem fits_map {α : Type} {f : α → D} {k : Nat} (h : ∀ a, (f a).fit k = true) : ∀ {L : List α}, fits k (L.map f) = true
  | [] => by unfold fits; rfl
  | a :: L => by
    rw [List.map_cons]; unfold fits
    rw [h a, fits_map h]; rfl
theorem eqb_sD {s t : Nat} : (sD s).eqb (sD t) = decide (s = t) := by
  show ((((s / 2 : Nat) : Int) == ((t / 2 : Nat) : Int)) && ((((s % 2 : Nat) : Int) == ((t % 2 : Nat) : Int)) && true)) = _
  rw [Bool.eq_iff_iff]
  simp
  omega
theorem eqb_cD {p q : Nat × Nat} : (cD p).eqb (cD q) = decide (p = q) := by
  show ((sD p.1).eqb (sD q.1) && ((sD p.2).eqb (sD q.2) && true)) = _
  rw [eqb_sD, eqb_sD, Bool.eq_iff_iff]
  simp [Prod.ext_iff]
theorem peq_sD {s t : Nat} : pEq (sD s) (sD t) = some (decide (s = t)) := by
  have h1 : (sD s).fit 60 = true := fit_sD
  have h2 : (sD t).fit 60 = true := fit_sD
  unfold pEq
  rw [h1, h2, eqb_sD]; rfl
theorem pne_sD {s t : Nat} : pNe (sD s) (sD t) = some (!decide (s = t)) := by
  have h1 : (sD s).fit 60 = true := fit_sD
  have h2 : (sD t).fit 60 = true := fit_sD
  unfold pNe
  rw [h1, h2, eqb_sD]; rfl
theorem peq_nil {L : List D} (h : fits 59 L = true) : pEq (.lst L) (.lst []) = some L.isEmpty := by
  have h1 : (D.lst L).fit 60 = true := h
  have h2 : (D.lst []).fit 60 = true := by decide +kernel
  unfold pEq
  rw [h1, h2]
  cases L <;> rfl
theorem in_cD {p : Nat × Nat} {L : List (Nat × Nat)} : pIn2 (cD p) (.tup (L.map cD)) = some (decide (p ∈ L)) := by
  have h0 : pIn (cD p) (.tup (L.map cD)) = none := rfl
  have h1 : (cD p).fit 60 = true := fit_cD
  have h2 : (D.tup (L.map cD)).fit 60 = true := fits_map (fun _ => fit_cD)
  unfold pIn2 pInT
  rw [h0]
  dsimp only
  rw [h1, h2]
  show some (inD (cD p) (L.map cD)) = _
  congr 1
  unfold inD
  rw [List.any_map, Bool.eq_iff_iff, List.any_eq_true, decide_eq_true_eq]
  constructor
  · rintro ⟨q, hq, h⟩
    have h : (cD q).eqb (cD p) = true := h
    rw [eqb_cD] at h
    exact (of_decide_eq_true h) ▸ hq
  · intro h
    exact ⟨p, h, by show (cD p).eqb (cD p) = true; rw [eqb_cD]; simp⟩
theorem law_pairs_ok {n : Nat} (hn : n ≤ 5) : d__law_pairs [.int n] = .ok (.lst ((LP n).map cD)) [] := by
  refine wf_eq (wRun rfl ?_)
  unfold b__law_pairs
  refine wSeq (wPar (wLst (wNil ⟨Nat.le_of_ble_eq_true rfl, wCallF (wCons (wVar rfl (wNil ⟨_, rfl, wf_ok (law_sides_ok hn) ?_⟩)))⟩)))
  refine wSeq (wFor (wItSeq (wVar rfl ⟨_, rfl, ?_⟩)))
  let F : Nat → List (Nat × Nat) := fun i => (List.range i).flatMap fun a => ((List.range (2 * n)).filter fun b => decide (b = a) || decide (a / 2 < b / 2)).map fun b => (a, b)
  refine wForI (fun i e => ∃ x3 x4, e = [some (.int n), some (.lst ((F i).map cD)), some (.lst ((List.range (2 * n)).map sD)), x3, x4] ∧ (F i).length ≤ 10 * i) (n := 0) ?_ ⟨_, _, rfl, Nat.le_of_ble_eq_true rfl⟩ ?_
  · rintro a d e hd ⟨x3, x4, rfl, hk⟩
    rw [Nat.zero_add] at hk ⊢
    have ha : a < 2 * n := by
      have := (List.getElem?_eq_some_iff.mp hd).1
      simpa using this
    have hd : d = sD a := by
      rw [List.getElem?_map, List.getElem?_range ha] at hd
      cases hd; rfl
    subst hd
    have hs : F (a + 1) = F a ++ ((List.range (2 * n)).filter fun b => decide (b = a) || decide (a / 2 < b / 2)).map fun b => (a, b) := by
      show (List.range (a + 1)).flatMap _ = _
      rw [List.range_succ, List.flatMap_append]
      simp [F]
    have hl : (((List.range (2 * n)).filter fun b => decide (b = a) || decide (a / 2 < b / 2)).map fun b => (a, b)).length ≤ 10 := by
      rw [List.length_map]
      have := List.length_filter_le (fun b => decide (b = a) || decide (a / 2 < b / 2)) (List.range (2 * n))
      rw [List.length_range] at this
      omega
    refine ⟨_, rfl, wSeq (wSet (wOp2 (wVar rfl (wLc (wItSeq (wVar rfl ⟨_, rfl, ?_, _, _, lcF (h := sD) (fun b => decide (b = a) || decide (a / 2 < b / 2)) (fun b => cD (a, b)) (fun b hb => ?_), .lst ((F (a + 1)).map cD), ?_, wSNil ⟨some (sD a), x4, rfl, ?_⟩⟩))))))⟩
    · rw [List.length_map, List.length_range]; unfold line; omega
    · refine ⟨_, rfl, wTOr (wTCmp (wVar rfl (wVar rfl ⟨_, peq_sD, fun z => ⟨?_, ?_, ?_⟩, fun z => ?_⟩)))⟩
      · have z : a = b := by simpa using z
        subst z; simp
      · exact fun _ => wTup (wCons (wVar rfl (wCons (wVar rfl (wNil ⟨Nat.le_of_ble_eq_true rfl, rfl, rfl⟩)))))
      · exact fun _ => rfl
      · have z : ¬ a = b := by simpa using z
        refine wTCmp (wOp2 (wVar rfl (wConst ⟨_, ix0 sd_sD, wOp2 (wVar rfl (wConst ⟨_, ix0 sd_sD, _, rfl, ?_, fun _ => wTup (wCons (wVar rfl (wCons (wVar rfl (wNil ⟨Nat.le_of_ble_eq_true rfl, rfl, rfl⟩))))), fun _ => rfl⟩))⟩)))
        rw [Bool.eq_iff_iff]
        simp
        omega
    · rw [hs, List.map_append, List.map_map]
      show (if _ then some (D.lst _) else none) = _
      rw [if_pos (by
        rw [List.length_map, List.length_map]
        rw [List.length_map] at hl
        unfold line
        omega)]
      rfl
    · rw [hs, List.length_append]
      omega
  · rintro e ⟨x3, x4, rfl, hk⟩
    refine wSeq (wRet (wVar rfl ⟨?_, rfl⟩))
    rw [List.length_map, List.length_range, Nat.zero_add]
    rfl
theorem fit_rowD {n m k : Nat} : (rowD n m).fit (k + 1) = true := fits_map (fun _ => fit_int)
theorem lcG {α : Type} {t : Tgt} {s : M Bool} {a : M D} {own : List Nat} {e : Sl} {h : α → D} (p : α → Bool) (f : α → D) : ∀ {is : List α}, (∀ i ∈ is, ∃ e1, t (h i) e = some e1 ∧ (s e1).wp (fun x e2 => x = p i ∧ (p i = true → (a e2).wp (fun y e3 => y = f i ∧ wipeE e3 own = e) fun _ _ => False) ∧ (p i = false → wipeE e2 own = e)) fun _ _ => False) → lcL t s a own (is.map h) e = .ok ((is.filter p).map f) e
  | [], _ => rfl
  | i :: is, H => by
    obtain ⟨e1, h1, w⟩ := H i List.mem_cons_self
    have ih := lcG (h := h) p f (is := is) fun j hj => H j (List.mem_cons_of_mem _ hj)
    rw [List.map_cons]
    unfold lcL
    rw [h1]
    dsimp only
    revert w
    cases s e1 with
    | er => exact fun h => h.out.elim
    | rs x e2 => exact fun h => h.out.elim
    | ok x e2 =>
      rintro ⟨rfl, w1, w2⟩
      rw [bind_ok]
      cases q : p i with
      | false =>
        rw [if_neg Bool.false_ne_true, w2 q, ih, List.filter_cons_of_neg (by rw [q]; exact Bool.false_ne_true)]
      | true =>
        rw [if_pos rfl, List.filter_cons_of_pos q]
        have w1 := w1 q
        revert w1
        cases a e2 with
        | er => exact fun h => h.out.elim
        | rs x e2 => exact fun h => h.out.elim
        | ok y e3 =>
          rintro ⟨rfl, w3⟩
          rw [bind_ok, w3, ih]
          rfl
theorem isE {α : Type} {f : α → D} {q : α → Bool} {L : List α} : ((L.filter q).map f).isEmpty = L.all fun x => !q x := by
  rw [Bool.eq_iff_iff, List.isEmpty_iff, List.map_eq_nil_iff, List.filter_eq_nil_iff, List.all_eq_true]
  simp
theorem law_without_ok {n : Nat} {ps : List (Nat × Nat)} (hn : n ≤ 5) (hp : ∀ p ∈ ps, p.1 < 2 * n ∧ p.2 < 2 * n) (hl : ps.length ≤ 60) : d__law_without [.int n, .lst (ps.map cD)] = .ok (.lst (((List.range (2 ^ n)).filter (goodB n ps)).map (rowD n))) [] := by
  have hp2 : 2 ^ n ≤ 32 := Nat.pow_le_pow_right (by decide) hn
  refine wf_eq (wRun rfl ?_)
  unfold b__law_without
  refine wSeq (wRet (wLc (wItSeq (wCallF (wCons (wVar rfl (wNil ⟨_, rfl, wf_ok (law_rows_ok hn) ⟨_, rfl, ?_, _, _, lcF (h := rowD n) (goodB n ps) (rowD n) (fun m hm => ?_), rfl, rfl⟩⟩)))))))
  · rw [List.length_map, List.length_range]; unfold line; omega
  · refine ⟨_, rfl, wTCmp (wLc (wItSeq (wVar rfl ⟨_, rfl, ?_, _, _, lcG (h := cD) (fun p => has n m p.1 && has n m p.2) cD (fun p hp' => ?_), wLst (wNil ⟨Nat.le_of_ble_eq_true rfl, _, peq_nil (fits_map fun _ => fit_cD), isE, fun _ => wVar rfl ⟨rfl, rfl⟩, fun _ => rfl⟩)⟩)))⟩
    · rw [List.length_map]; unfold line; omega
    · obtain ⟨p1, p2⟩ := hp p hp'
      exact ⟨_, rfl, wTBl (wCallF (wCons (wVar rfl (wCons (wVar rfl (wNil ⟨_, rfl, wf_ok (law_both_ok p1 p2) ⟨_, rfl, rfl, fun _ => wVar rfl ⟨rfl, rfl⟩, fun _ => rfl⟩⟩))))))⟩
theorem LP_len {n : Nat} (hn : n ≤ 5) : (LP n).length ≤ 60 := by
  have : n = 0 ∨ n = 1 ∨ n = 2 ∨ n = 3 ∨ n = 4 ∨ n = 5 := by omega
  rcases this with rfl | rfl | rfl | rfl | rfl | rfl <;> decide +kernel
theorem law_couples_ok {n : Nat} {ps : List (Nat × Nat)} (hn : n ≤ 5) : d__law_couples [.lst (((List.range (2 ^ n)).filter (goodB n ps)).map (rowD n)), .int n] = .ok (.tup ((CL n ps).map cD)) [] := by
  have hp2 : 2 ^ n ≤ 32 := Nat.pow_le_pow_right (by decide) hn
  have hl : ((List.range (2 ^ n)).filter (goodB n ps)).length ≤ 32 := by
    have := List.length_filter_le (goodB n ps) (List.range (2 ^ n))
    rw [List.length_range] at this
    omega
  refine wf_eq (wRun rfl ?_)
  unfold b__law_couples
  refine wSeq (wRet (wCall (wCons (wLc (wItSeq (wCallF (wCons (wVar rfl (wNil ⟨_, rfl, wf_ok (law_pairs_ok hn) ⟨_, rfl, ?_, _, _, lcG (h := cD) (fun p => fol n ps p.1 p.2) cD (fun p hp' => ?_), wNil ⟨_, rfl, rfl, rfl⟩⟩⟩)))))))))
  · have := LP_len hn
    rw [List.length_map]; unfold line; omega
  · obtain ⟨p1, p2, _⟩ := LP_mem hp'
    refine ⟨_, rfl, wTCmp (wLc (wItSeq (wVar rfl ⟨_, rfl, ?_, _, _, lcF (h := rowD n) (fun m => has n m p.1 && has n m p.2) (rowD n) (fun m hm => ?_), wLst (wNil ⟨Nat.le_of_ble_eq_true rfl, _, peq_nil (fits_map fun _ => fit_rowD), ?_, fun _ => wVar rfl ⟨rfl, rfl⟩, fun _ => rfl⟩)⟩)))⟩
    · rw [List.length_map]; unfold line; omega
    · exact ⟨_, rfl, wTBl (wCallF (wCons (wVar rfl (wCons (wVar rfl (wNil ⟨_, rfl, wf_ok (law_both_ok p1 p2) ⟨_, rfl, rfl, fun _ => wVar rfl ⟨rfl, rfl⟩, fun _ => rfl⟩⟩))))))⟩
    · rw [isE, List.all_filter]
      unfold fol
      congr 1
      funext m
      cases goodB n ps m <;> rfl
end Hk
namespace Hk
open PySem FL
theorem cc : pEq (.str "closed") (.str "closed") = some true := by decide +kernel
theorem fc : pEq (.str "follows") (.str "closed") = some false := by decide +kernel
section
variable {a b c d x : D} {k : Int} {z : Exn} {v : D}
theorem told_closed {Q : D → Sl → Prop} {X : Exn → Sl → Prop} (h : (d_closed_couples [a, b]).wp (fun d e => Q d []) fun x e => X x []) : (d__law_told_of [.str "closed", a, b, c, d]).wp Q X := by
  refine wRun rfl ?_
  unfold b__law_told_of
  refine wSeq (wRet (wDIf (wTCmp (wVar rfl (wConst ⟨_, cc, fun _ => ?_, fun h => by cases h⟩)))))
  exact wCallF (wCons (wVar rfl (wCons (wVar rfl (wNil ⟨_, rfl, h⟩)))))
theorem told_follows {Q : D → Sl → Prop} {X : Exn → Sl → Prop} (h : (d_follows [a, b, c, d]).wp (fun d e => Q d []) fun x e => X x []) : (d__law_told_of [.str "follows", a, b, c, d]).wp Q X := by
  refine wRun rfl ?_
  unfold b__law_told_of
  refine wSeq (wRet (wDIf (wTCmp (wVar rfl (wConst ⟨_, fc, fun h => (by cases h), fun _ => ?_⟩)))))
  exact wCallF (wCons (wVar rfl (wCons (wVar rfl (wCons (wVar rfl (wCons (wVar rfl (wNil ⟨_, rfl, h⟩)))))))))
def Hd (z : Exn) (v : D) : Prop := ∀ e : Sl, e.length = 6 → sHand [(5, xs_0, hPl "count" d__law_place), (5, xs_2, hPl "couples" d__law_place), (5, xs_1, hPl "side" d__law_place), (5, xs_3, hPl "refused" d__law_place)] z e = .rt v (e.set 5 none)
theorem hd0 : Hd (bad 0 k) (.tup [.str "count", .int k]) := fun e he => by
  have : hPl "count" d__law_place (bad 0 k) = some (.tup [.str "count", .int k]) := rfl
  unfold sHand
  rw [if_pos (by rfl), if_pos (by rw [he]; decide), this]
theorem hd2 : Hd (bad 2 k) (.tup [.str "couples", .int k]) := fun e he => by
  have : hPl "couples" d__law_place (bad 2 k) = some (.tup [.str "couples", .int k]) := rfl
  unfold sHand
  rw [if_neg (by intro h; cases h)]
  unfold sHand
  rw [if_pos (by rfl), if_pos (by rw [he]; decide), this]
theorem hd1 : Hd (bad 1 k) (.tup [.str "side", .int k]) := fun e he => by
  have : hPl "side" d__law_place (bad 1 k) = some (.tup [.str "side", .int k]) := rfl
  unfold sHand
  rw [if_neg (by intro h; cases h)]
  unfold sHand
  rw [if_neg (by intro h; cases h)]
  unfold sHand
  rw [if_pos (by rfl), if_pos (by rw [he]; decide), this]
theorem hd3 : Hd ⟨3, [(Er.fn, .str "sides")]⟩ (.tup [.str "refused", .str "sides"]) := fun e he => by
  have : hPl "refused" d__law_place ⟨3, [(Er.fn, .str "sides")]⟩ = some (.tup [.str "refused", .str "sides"]) := rfl
  unfold sHand
  rw [if_neg (by intro h; cases h)]
  unfold sHand
  rw [if_neg (by intro h; cases h)]
  unfold sHand
  rw [if_neg (by intro h; cases h)]
  unfold sHand
  rw [if_pos (by rfl), if_pos (by rw [he]; decide), this]
theorem asked_ok {w : D} (h : (d__law_told_of [w, a, b, c, d]).wp (fun y _ => y = x) fun _ _ => False) : d__law_asked [w, a, b, c, d] = .ok (.tup [.str "told", x]) [] := by
  refine wf_eq (wRun rfl ?_)
  unfold b__law_asked
  refine wSeq (wTry ?_)
  refine wSeq (wRet (wTup (wCons (wConst (wCons (wCallF (wCons (wVar rfl (wCons (wVar rfl (wCons (wVar rfl (wCons (wVar rfl (wCons (wVar rfl (wNil ⟨_, rfl, ?_⟩)))))))))))))))))
  refine wf_mono h ?_ fun _ _ h => h.elim
  rintro d e rfl
  exact wNil ⟨Nat.le_of_ble_eq_true rfl, rfl, rfl⟩
theorem asked_err {w : D} (hz : Hd z v) (h : (d__law_told_of [w, a, b, c, d]).wp (fun _ _ => False) fun y _ => y = z) : d__law_asked [w, a, b, c, d] = .ok v [] := by
  refine wf_eq (wRun rfl ?_)
  unfold b__law_asked
  refine wSeq (wTry ?_)
  refine wSeq (wRet (wTup (wCons (wConst (wCons (wCallF (wCons (wVar rfl (wCons (wVar rfl (wCons (wVar rfl (wCons (wVar rfl (wCons (wVar rfl (wNil ⟨_, rfl, ?_⟩)))))))))))))))))
  refine wf_mono h (fun _ _ h => h.elim) ?_
  rintro d e rfl
  rw [hz _ rfl]
  exact ⟨rfl, rfl⟩
theorem ask_closed (h : d_closed_couples [a, b] = .ok x []) : d__law_asked [.str "closed", a, b, c, d] = .ok (.tup [.str "told", x]) [] := asked_ok (told_closed (wf_ok h rfl))
theorem ask_follows (h : d_follows [a, b, c, d] = .ok x []) : d__law_asked [.str "follows", a, b, c, d] = .ok (.tup [.str "told", x]) [] := asked_ok (told_follows (wf_ok h rfl))
theorem ask_fol_err (hz : Hd z v) (h : d_follows [a, b, c, d] = .rs z []) : d__law_asked [.str "follows", a, b, c, d] = .ok v [] := asked_err hz (told_follows (wf_rs h rfl))
theorem ask_need (hz : Hd z v) (h : d_need_couples [a, b] = .rs z []) : d__law_asked [.str "closed", a, b, c, d] = .ok v [] ∧ d__law_asked [.str "follows", a, b, c, d] = .ok v [] :=
  ⟨asked_err hz (told_closed (wf_rs (closed_couples_bad h) rfl)), asked_err hz (told_follows (wf_rs (follows_bad h) rfl))⟩
end
abbrev FF : Exn → Sl → Prop := fun _ _ => False
theorem chk {A B : M D} {x : D} {e : Sl} {p : MS} {N : Sl → Prop} {T : D → Sl → Prop} (hs : d__law_same 8 [x, x] = .ok (.bl true) []) (h : (A e).wp (fun v e1 => v = x ∧ (B e1).wp (fun w e2 => w = x ∧ N e2) FF) FF) : ((sIf (tNot (tBl (dCallF (d__law_same 8) [none, none] [] [] (dCons A (dCons B dNil))))) p sNil) e).wp N T FF := by
  refine wSIf (wTNot (wTBl (wCallF (wCons (wp_mono h ?_ fun _ _ h => h)))))
  rintro v e1 ⟨rfl, h⟩
  refine wCons (wp_mono h ?_ fun _ _ h => h)
  rintro w e2 ⟨rfl, hN⟩
  exact wNil ⟨_, rfl, wf_ok hs ⟨_, rfl, fun h => (by cases h), fun _ => wSNil hN⟩⟩
theorem s_count : pEq (.str "count") (.str "count") = some true := by decide +kernel
theorem s_couples : pEq (.str "couples") (.str "couples") = some true := by decide +kernel
theorem s_side : pEq (.str "side") (.str "side") = some true := by decide +kernel
theorem s_refused : pEq (.str "refused") (.str "refused") = some true := by decide +kernel
theorem s_sides : pEq (.str "sides") (.str "sides") = some true := by decide +kernel
abbrev lw_0 : MS := (sSet 3 (dOp2 gAdd (dConst (.int 1)) (dCallF d__law_draw [some 1, none] [1] [] (dCons (dVar 1) (dCons (dConst (.int 5)) dNil)))))
abbrev lw_1 : MS := (sSet 4 (dCallF d__law_pairs [none] [] [] (dCons (dVar 3) dNil)))
abbrev lw_2 : MS := (sSet 5 (dLc (itRng1 (dCallF d__law_draw [some 1, none] [1] [] (dCons (dVar 1) (dCons (dOp2 gAdd (dOp2 gMul (dConst (.int 2)) (dVar 3)) (dConst (.int 2))) dNil)))) (gtName 16) tYes (dCallF d__law_pick [some 1, none] [1] [] (dCons (dVar 1) (dCons (dVar 4) dNil))) [16]))
abbrev lw_3 : MS := (sIf (tCmp pEq (dCallF d__law_draw [some 1, none] [1] [] (dCons (dVar 1) (dCons (dConst (.int 2)) dNil))) (dConst (.int 0))) (sSeq (sSet 5 (dLc (itSeq (dVar 5)) (gtName 9) (tCmp pNe (dOp2 gIx (dVar 9) (dConst (.int 0))) (dOp2 gIx (dVar 9) (dConst (.int 1)))) (dVar 9) [9])) sNil) sNil)
abbrev lw_4 : MS := (sSet 6 (dLc (itSeq (dVar 5)) (gtName 9) tYes (dCallF (d__law_loose 8) [some 1, none] [1] [] (dCons (dVar 1) (dCons (dIf (tCmp pEq (dCallF d__law_draw [some 1, none] [1] [] (dCons (dVar 1) (dCons (dConst (.int 2)) dNil))) (dConst (.int 0))) (dVar 9) (dTup (dCons (dOp2 gIx (dVar 9) (dConst (.int 1))) (dCons (dOp2 gIx (dVar 9) (dConst (.int 0))) dNil)))) dNil))) [9]))
abbrev lw_5 : MS := (sSet 7 (dCallF d__law_without [none, none] [] [] (dCons (dVar 3) (dCons (dVar 5) dNil))))
abbrev lw_6 : MS := (sSet 8 (dCallF d__law_couples [none, none] [] [] (dCons (dVar 7) (dCons (dVar 3) dNil))))
abbrev lw_7 : MS := (sIf (tNot (tBl (dCallF (d__law_same 8) [none, none] [] [] (dCons (dCallF d__law_asked [none, none, none, none, none] [] [] (dCons (dConst (.str "closed")) (dCons (dVar 3) (dCons (dVar 6) (dCons (dConst .non) (dCons (dConst .non) dNil)))))) (dCons (dTup (dCons (dConst (.str "told")) (dCons (dVar 8) dNil))) dNil))))) (sSeq (sRet (dConst (.bl false))) sNil) sNil)
abbrev lw_8 : MS := (sIf (tNot (tBl (dCallF (d__law_same 8) [none, none] [] [] (dCons (dCallF d__law_asked [none, none, none, none, none] [] [] (dCons (dConst (.str "closed")) (dCons (dVar 3) (dCons (dCallF (d__law_loose 8) [some 1, none] [1] [] (dCons (dVar 1) (dCons (dVar 8) dNil))) (dCons (dConst .non) (dCons (dConst .non) dNil)))))) (dCons (dTup (dCons (dConst (.str "told")) (dCons (dVar 8) dNil))) dNil))))) (sSeq (sRet (dConst (.bl false))) sNil) sNil)
abbrev lw_9 : MS := (sFor (itSeq (dVar 4)) (gtName 9) (sSeq (sIf (tNot (tBl (dCallF (d__law_same 8) [none, none] [] [] (dCons (dCallF d__law_asked [none, none, none, none, none] [] [] (dCons (dConst (.str "follows")) (dCons (dVar 3) (dCons (dVar 6) (dCons (dOp2 gIx (dVar 9) (dConst (.int 1))) (dCons (dCallF (d__law_loose 8) [some 1, none] [1] [] (dCons (dVar 1) (dCons (dOp2 gIx (dVar 9) (dConst (.int 0))) dNil))) dNil)))))) (dCons (dTup (dCons (dConst (.str "told")) (dCons (dCmp pIn2 (dVar 9) (dVar 8)) dNil))) dNil))))) (sSeq (sRet (dConst (.bl false))) sNil) sNil) sNil))
abbrev lw_10 : MS := (sPar 10 11 (dCallF d__law_draw [some 1, none] [1] [] (dCons (dVar 1) (dCons (dVar 3) dNil))) (dCallF d__law_draw [some 1, none] [1] [] (dCons (dVar 1) (dCons (dConst (.int 2)) dNil))))
abbrev lw_11 : MS := (sIf (tNot (tBl (dCallF (d__law_same 8) [none, none] [] [] (dCons (dCallF d__law_asked [none, none, none, none, none] [] [] (dCons (dConst (.str "follows")) (dCons (dVar 3) (dCons (dVar 6) (dCons (dTup (dCons (dVar 10) (dCons (dVar 11) dNil))) (dCons (dLst (dCons (dVar 10) (dCons (dOp2 gSub (dConst (.int 1)) (dVar 11)) dNil))) dNil)))))) (dCons (dTup (dCons (dConst (.str "refused")) (dCons (dConst (.str "sides")) dNil))) dNil))))) (sSeq (sRet (dConst (.bl false))) sNil) sNil)
abbrev lw_12 : MS := (sFor (itSeq (dLst (dCons (dConst .non) (dCons (dConst (.int 3)) (dCons (dTup dNil) (dCons (dTup (dCons (dConst (.int 0)) dNil)) (dCons (dTup (dCons (dVar 3) (dCons (dConst (.int 0)) dNil))) (dCons (dTup (dCons (dConst (.int 0)) (dCons (dConst (.int 2)) dNil))) (dCons (dTup (dCons (dConst (.int 0)) (dCons (dConst (.bl true)) dNil))) (dCons (dTup (dCons (dOp2 gSub (dConst (.int 0)) (dConst (.int 1))) (dCons (dConst (.int 0)) dNil))) (dCons (dConst (.str "00")) (dCons (dTup (dCons (dConst (.int 0)) (dCons (dConst (.int 0)) (dCons (dConst (.int 0)) dNil)))) (dCons (dLst (dCons (dConst .non) (dCons (dConst (.int 0)) dNil))) dNil))))))))))))) (gtName 12) (sSeq (sIf (tNot (tBl (dCallF (d__law_same 8) [none, none] [] [] (dCons (dCallF d__law_asked [none, none, none, none, none] [] [] (dCons (dConst (.str "follows")) (dCons (dVar 3) (dCons (dVar 6) (dCons (dVar 12) (dCons (dVar 12) dNil)))))) (dCons (dTup (dCons (dConst (.str "side")) (dCons (dConst (.int 0)) dNil))) dNil))))) (sSeq (sRet (dConst (.bl false))) sNil) sNil) (sSeq (sIf (tNot (tBl (dCallF (d__law_same 8) [none, none] [] [] (dCons (dCallF d__law_asked [none, none, none, none, none] [] [] (dCons (dConst (.str "follows")) (dCons (dVar 3) (dCons (dVar 6) (dCons (dTup (dCons (dConst (.int 0)) (dCons (dConst (.int 0)) dNil))) (dCons (dVar 12) dNil)))))) (dCons (dTup (dCons (dConst (.str "side")) (dCons (dConst (.int 1)) dNil))) dNil))))) (sSeq (sRet (dConst (.bl false))) sNil) sNil) (sSeq (sFor (itSeq (dLst (dCons (dVar 12) (dCons (dTup (dCons (dVar 12) (dCons (dTup (dCons (dConst (.int 0)) (dCons (dConst (.int 0)) dNil))) dNil))) (dCons (dTup (dCons (dTup (dCons (dConst (.int 0)) (dCons (dConst (.int 0)) dNil))) (dCons (dVar 12) dNil))) (dCons (dTup (dCons (dTup (dCons (dConst (.int 0)) (dCons (dConst (.int 0)) dNil))) dNil)) (dCons (dTup (dCons (dTup (dCons (dConst (.int 0)) (dCons (dConst (.int 0)) dNil))) (dCons (dTup (dCons (dConst (.int 0)) (dCons (dConst (.int 1)) dNil))) dNil))) (dCons (dTup (dCons (dTup (dCons (dConst (.int 0)) (dCons (dConst (.int 0)) dNil))) (dCons (dTup (dCons (dConst (.int 0)) (dCons (dConst (.int 0)) dNil))) (dCons (dTup (dCons (dConst (.int 0)) (dCons (dConst (.int 0)) dNil))) dNil)))) dNil)))))))) (gtName 13) (sSeq (sFor (itSeq (dLst (dCons (dConst (.str "closed")) (dCons (dConst (.str "follows")) dNil)))) (gtName 14) (sSeq (sIf (tNot (tBl (dCallF (d__law_same 8) [none, none] [] [] (dCons (dCallF d__law_asked [none, none, none, none, none] [] [] (dCons (dVar 14) (dCons (dVar 3) (dCons (dOp2 gCat (dVar 6) (dLst (dCons (dVar 13) dNil))) (dCons (dConst .non) (dCons (dConst .non) dNil)))))) (dCons (dTup (dCons (dConst (.str "couples")) (dCons (dCall gLen (dCons (dVar 6) dNil)) dNil))) dNil))))) (sSeq (sRet (dConst (.bl false))) sNil) sNil) sNil)) sNil)) sNil))))
abbrev lw_it : M (List D) := (itRng1 (dConst (.int 3)))
abbrev lt_0 : MS := (sSet 1 (dCallF d__law_box [none] [] [] (dCons (dVar 0) dNil)))
abbrev lt_2 : MS := (sSet 15 (dLst (dCons (dTup (dCons (dTup (dCons (dConst (.int 0)) (dCons (dConst (.int 0)) dNil))) (dCons (dTup (dCons (dConst (.int 1)) (dCons (dConst (.int 1)) dNil))) dNil))) (dCons (dTup (dCons (dTup (dCons (dConst (.int 1)) (dCons (dConst (.int 0)) dNil))) (dCons (dTup (dCons (dConst (.int 2)) (dCons (dConst (.int 0)) dNil))) dNil))) dNil))))
abbrev lt_3 : MS := (sIf (tNot (tBl (dCallF (d__law_same 8) [none, none] [] [] (dCons (dCallF d__law_asked [none, none, none, none, none] [] [] (dCons (dConst (.str "closed")) (dCons (dConst (.int 3)) (dCons (dVar 15) (dCons (dConst .non) (dCons (dConst .non) dNil)))))) (dCons (dTup (dCons (dConst (.str "told")) (dCons (dTup (dCons (dTup (dCons (dTup (dCons (dConst (.int 0)) (dCons (dConst (.int 0)) dNil))) (dCons (dTup (dCons (dConst (.int 1)) (dCons (dConst (.int 1)) dNil))) dNil))) (dCons (dTup (dCons (dTup (dCons (dConst (.int 0)) (dCons (dConst (.int 0)) dNil))) (dCons (dTup (dCons (dConst (.int 2)) (dCons (dConst (.int 0)) dNil))) dNil))) (dCons (dTup (dCons (dTup (dCons (dConst (.int 1)) (dCons (dConst (.int 0)) dNil))) (dCons (dTup (dCons (dConst (.int 2)) (dCons (dConst (.int 0)) dNil))) dNil))) dNil)))) dNil))) dNil))))) (sSeq (sRet (dConst (.bl false))) sNil) sNil)
abbrev lt_4 : MS := (sIf (tOr (tNot (tBl (dCallF (d__law_same 8) [none, none] [] [] (dCons (dCallF d__law_asked [none, none, none, none, none] [] [] (dCons (dConst (.str "closed")) (dCons (dConst (.int 0)) (dCons (dLst dNil) (dCons (dConst .non) (dCons (dConst .non) dNil)))))) (dCons (dTup (dCons (dConst (.str "told")) (dCons (dTup dNil) dNil))) dNil))))) (tNot (tBl (dCallF (d__law_same 8) [none, none] [] [] (dCons (dCallF d__law_asked [none, none, none, none, none] [] [] (dCons (dConst (.str "follows")) (dCons (dConst (.int 3)) (dCons (dVar 15) (dCons (dTup (dCons (dConst (.int 2)) (dCons (dConst (.int 0)) dNil))) (dCons (dTup (dCons (dConst (.int 0)) (dCons (dConst (.int 0)) dNil))) dNil)))))) (dCons (dTup (dCons (dConst (.str "told")) (dCons (dConst (.bl true)) dNil))) dNil)))))) (sSeq (sRet (dConst (.bl false))) sNil) sNil)
abbrev lt_5 : MS := (sIf (tNot (tBl (dCallF (d__law_same 8) [none, none] [] [] (dCons (dCallF d__law_asked [none, none, none, none, none] [] [] (dCons (dConst (.str "follows")) (dCons (dConst (.int 3)) (dCons (dVar 15) (dCons (dTup (dCons (dConst (.int 2)) (dCons (dConst (.int 1)) dNil))) (dCons (dTup (dCons (dConst (.int 0)) (dCons (dConst (.int 0)) dNil))) dNil)))))) (dCons (dTup (dCons (dConst (.str "told")) (dCons (dConst (.bl false)) dNil))) dNil))))) (sSeq (sRet (dConst (.bl false))) sNil) sNil)
abbrev lt_6 : MS := (sFor (itSeq (dLst (dCons (dConst .non) (dCons (dOp2 gSub (dConst (.int 0)) (dConst (.int 1))) (dCons (dConst (.int 25)) (dCons (dConst (.bl true)) (dCons (dConst (.str "3")) (dCons (dLst (dCons (dConst (.int 3)) dNil)) dNil)))))))) (gtName 13) (sSeq (sFor (itSeq (dLst (dCons (dConst (.str "closed")) (dCons (dConst (.str "follows")) dNil)))) (gtName 14) (sSeq (sIf (tNot (tBl (dCallF (d__law_same 8) [none, none] [] [] (dCons (dCallF d__law_asked [none, none, none, none, none] [] [] (dCons (dVar 14) (dCons (dVar 13) (dCons (dConst .non) (dCons (dConst .non) (dCons (dConst .non) dNil)))))) (dCons (dTup (dCons (dConst (.str "count")) (dCons (dOp2 gSub (dConst (.int 0)) (dConst (.int 1))) dNil))) dNil))))) (sSeq (sRet (dConst (.bl false))) sNil) sNil) sNil)) sNil))
abbrev lt_7 : MS := (sFor (itSeq (dLst (dCons (dConst .non) (dCons (dConst (.int 3)) (dCons (dConst (.str "couples")) (dCons (dOp2 gRep (dLst (dCons (dTup (dCons (dTup (dCons (dConst (.int 0)) (dCons (dConst (.int 0)) dNil))) (dCons (dTup (dCons (dConst (.int 1)) (dCons (dConst (.int 1)) dNil))) dNil))) dNil)) (dConst (.int 1201))) dNil)))))) (gtName 13) (sSeq (sFor (itSeq (dLst (dCons (dConst (.str "closed")) (dCons (dConst (.str "follows")) dNil)))) (gtName 14) (sSeq (sIf (tNot (tBl (dCallF (d__law_same 8) [none, none] [] [] (dCons (dCallF d__law_asked [none, none, none, none, none] [] [] (dCons (dVar 14) (dCons (dConst (.int 2)) (dCons (dVar 13) (dCons (dConst .non) (dCons (dConst .non) dNil)))))) (dCons (dTup (dCons (dConst (.str "couples")) (dCons (dOp2 gSub (dConst (.int 0)) (dConst (.int 1))) dNil))) dNil))))) (sSeq (sRet (dConst (.bl false))) sNil) sNil) sNil)) sNil))
abbrev lt_8 : MS := (sRet (dConst (.bl true)))
end Hk
namespace Hk
open PySem FL
def E0 (e : Sl) : Prop := ∃ (x0 : Option D) (bx : D) (x2 x3 x4 x5 x6 x7 x8 x9 x10 x11 x12 x13 x14 x15 x16 : Option D), IsBox bx ∧ e = [x0, some bx, x2, x3, x4, x5, x6, x7, x8, x9, x10, x11, x12, x13, x14, x15, x16]
def E1 (n : Nat) (e : Sl) : Prop := ∃ (x0 : Option D) (bx : D) (x2 : Option D) (x5 x6 x7 x8 x9 x10 x11 x12 x13 x14 x15 x16 : Option D), IsBox bx ∧ e = [x0, some bx, x2, some (nI n), some (.lst ((LP n).map cD)), x5, x6, x7, x8, x9, x10, x11, x12, x13, x14, x15, x16]
def E2 (n : Nat) (ps : List (Nat × Nat)) (e : Sl) : Prop := ∃ (x0 : Option D) (bx : D) (x2 : Option D) (x6 x7 x8 x9 x10 x11 x12 x13 x14 x15 x16 : Option D), IsBox bx ∧ e = [x0, some bx, x2, some (nI n), some (.lst ((LP n).map cD)), some (.lst (ps.map cD)), x6, x7, x8, x9, x10, x11, x12, x13, x14, x15, x16]
def E3 (n : Nat) (ps : List (Nat × Nat)) (ds : List D) (e : Sl) : Prop := ∃ (x0 : Option D) (bx : D) (x2 : Option D) (x7 x8 x9 x10 x11 x12 x13 x14 x15 x16 : Option D), IsBox bx ∧ e = [x0, some bx, x2, some (nI n), some (.lst ((LP n).map cD)), some (.lst (ps.map cD)), some (.lst ds), x7, x8, x9, x10, x11, x12, x13, x14, x15, x16]
def E4 (n : Nat) (ps : List (Nat × Nat)) (ds : List D) (e : Sl) : Prop := ∃ (x0 : Option D) (bx : D) (x2 x5 x7 : Option D) (x9 x10 x11 x12 x13 x14 x15 x16 : Option D), IsBox bx ∧ e = [x0, some bx, x2, some (nI n), some (.lst ((LP n).map cD)), x5, some (.lst ds), x7, some (.tup ((CL n ps).map cD)), x9, x10, x11, x12, x13, x14, x15, x16]
def E5 (n : Nat) (ds : List D) (e : Sl) : Prop := ∃ (x0 : Option D) (bx : D) (x2 x4 x5 : Option D) (x7 x8 x9 x10 x11 x12 x13 x14 x15 x16 : Option D), IsBox bx ∧ e = [x0, some bx, x2, some (nI n), x4, x5, some (.lst ds), x7, x8, x9, x10, x11, x12, x13, x14, x15, x16]
def E6 (n h b : Nat) (ds : List D) (e : Sl) : Prop := ∃ (x0 : Option D) (bx : D) (x2 x4 x5 : Option D) (x7 x8 x9 x12 x13 x14 x15 x16 : Option D), IsBox bx ∧ e = [x0, some bx, x2, some (nI n), x4, x5, some (.lst ds), x7, x8, x9, some (nI h), some (nI b), x12, x13, x14, x15, x16]
/-- what is passed is the couples of qs -/
structure Pas (n : Nat) (ps : List (Nat × Nat)) (ds : List D) (qs : List (Nat × Nat)) : Prop where
  len : qs.length = ds.length
  most : ds.length ≤ 60
  at_ : ∀ (i : Nat) d, ds[i]? = some d → ∃ q, qs[i]? = some q ∧ GoodC n d q
  same : goodB n qs = goodB n ps
theorem Pas.lt {n : Nat} {ps qs : List (Nat × Nat)} {ds : List D} (h : Pas n ps ds qs) : ∀ q ∈ qs, q.1 < 2 * n ∧ q.2 < 2 * n := fun q hq => by
  obtain ⟨i, hi⟩ := List.mem_iff_getElem?.mp hq
  have hl : i < ds.length := by rw [← h.len]; exact (List.getElem?_eq_some_iff.mp hi).1
  obtain ⟨q', h1, h2⟩ := h.at_ i ds[i] (List.getElem?_eq_getElem hl)
  rw [hi] at h1; cases h1
  exact ⟨h2.l1, h2.l2⟩
theorem Pas.need {n : Nat} {ps qs : List (Nat × Nat)} {ds : List D} {v : D} (h : Pas n ps ds qs) (hn : n ≤ 5) (hv : seqOf v = some ds) : d_need_couples [nI n, v] = .ok (.lst (qs.map pD)) [] := need_couples_ok hv (by have := h.most; omega) (by omega) h.len h.at_
theorem Pas.fol {n a b : Nat} {ps qs : List (Nat × Nat)} {ds : List D} (h : Pas n ps ds qs) : fol n qs a b = fol n ps a b := by
  unfold Hk.fol
  rw [h.same]
theorem Pas.CL {n : Nat} {ps qs : List (Nat × Nat)} {ds : List D} (h : Pas n ps ds qs) : CL n qs = CL n ps := by
  unfold Hk.CL
  congr 1
  funext p
  exact h.fol
theorem fol_comm {n a b : Nat} {ps : List (Nat × Nat)} : fol n ps b a = fol n ps a b := by
  unfold fol
  congr 1
  funext m
  rw [Bool.and_comm (has n m b)]
theorem CL_sub {n : Nat} {ps : List (Nat × Nat)} {p : Nat × Nat} (h : p ∈ CL n ps) : p ∈ LP n ∧ fol n ps p.1 p.2 = true := List.mem_filter.mp h
theorem CL_len {n : Nat} {ps : List (Nat × Nat)} (hn : n ≤ 5) : (CL n ps).length ≤ 60 := Nat.le_trans (List.length_filter_le _ _) (LP_len hn)
/-- closed couples are closed -/
theorem CL_CL {n : Nat} {ps : List (Nat × Nat)} (hp : ∀ p ∈ ps, p ∈ LP n) : CL n (CL n ps) = CL n ps := by
  have key : ∀ m, m < 2 ^ n → goodB n (CL n ps) m = goodB n ps m := fun m hm => by
    unfold goodB
    rw [Bool.eq_iff_iff, List.all_eq_true, List.all_eq_true]
    constructor
    · intro h p hm'
      refine h p (List.mem_filter.mpr ⟨hp p hm', ?_⟩)
      unfold fol
      rw [List.all_eq_true]
      intro j _
      cases q : goodB n ps j with
      | false => rfl
      | true =>
        have := List.all_eq_true.mp q p hm'
        simpa using this
    · intro h p hm'
      have := (CL_sub hm').2
      unfold fol at this
      have := List.all_eq_true.mp this m (List.mem_range.mpr hm)
      have g : goodB n ps m = true := List.all_eq_true.mpr h
      rw [g] at this
      simpa using this
  have kf : ∀ a b, fol n (CL n ps) a b = fol n ps a b := fun a b => by
    unfold fol
    rw [Bool.eq_iff_iff, List.all_eq_true, List.all_eq_true]
    constructor
    · intro h m hm
      rw [← key m (List.mem_range.mp hm)]; exact h m hm
    · intro h m hm
      rw [key m (List.mem_range.mp hm)]; exact h m hm
  show (LP n).filter _ = (LP n).filter _
  congr 1
  funext p
  exact kf _ _
theorem goodC_cD {n : Nat} {p : Nat × Nat} (h : p ∈ LP n) : GoodC n (cD p) p := by
  obtain ⟨h1, h2, h3⟩ := LP_mem h
  exact ⟨⟨_, _, rfl, sd_sD, sd_sD⟩, h1, h2, h3⟩
theorem goodC_sw {n : Nat} {p : Nat × Nat} (h : p ∈ LP n) : GoodC n (.tup [sD p.2, sD p.1]) (p.2, p.1) := by
  obtain ⟨h1, h2, h3⟩ := LP_mem h
  refine ⟨⟨_, _, rfl, sd_sD, sd_sD⟩, h2, h1, fun e => h3 ?_⟩
  have e : p.1 = op p.2 := e
  rw [e, op_op]
theorem pas_of {n : Nat} {ps : List (Nat × Nat)} {ds : List D} (hl : ds.length = ps.length) (hm : ps.length ≤ 60) (h : ∀ (i : Nat) p d, ps[i]? = some p → ds[i]? = some d → ∃ q, GoodC n d q ∧ (q = p ∨ q = (p.2, p.1))) : ∃ qs, Pas n ps ds qs := by
  have H : ∃ qs : List (Nat × Nat), qs.length = ps.length ∧ ∀ (i : Nat) p d, ps[i]? = some p → ds[i]? = some d → ∃ q, qs[i]? = some q ∧ GoodC n d q ∧ (q = p ∨ q = (p.2, p.1)) := by
    clear hm
    induction ps generalizing ds with
    | nil => exact ⟨[], rfl, fun i p d hp => by simp at hp⟩
    | cons p ps ih =>
      match ds, hl with
      | d :: ds, hl =>
        obtain ⟨q, g, e⟩ := h 0 p d rfl rfl
        obtain ⟨qs, h1, h2⟩ := ih (ds := ds) (by simpa using hl) (fun i p d hp hd => h (i + 1) p d (by simpa using hp) (by simpa using hd))
        refine ⟨q :: qs, by simp [h1], fun i p' d' hp hd => ?_⟩
        cases i with
        | zero =>
          simp at hp hd
          subst hp; subst hd
          exact ⟨q, rfl, g, e⟩
        | succ i => exact (h2 i p' d' (by simpa using hp) (by simpa using hd)).imp fun q hq => ⟨by simpa using hq.1, hq.2⟩
  obtain ⟨qs, h1, h2⟩ := H
  refine ⟨qs, by omega, by omega, fun i d hd => ?_, ?_⟩
  · have hi : i < ps.length := by rw [← hl]; exact (List.getElem?_eq_some_iff.mp hd).1
    obtain ⟨q, a, b, _⟩ := h2 i ps[i] d (List.getElem?_eq_getElem hi) hd
    exact ⟨q, a, b⟩
  · funext m
    unfold goodB
    rw [Bool.eq_iff_iff, List.all_eq_true, List.all_eq_true]
    constructor
    · intro k p hp
      obtain ⟨i, hi⟩ := List.mem_iff_getElem?.mp hp
      have hl' : i < ds.length := by rw [hl]; exact (List.getElem?_eq_some_iff.mp hi).1
      obtain ⟨q, a, _, e⟩ := h2 i p ds[i] hi (List.getElem?_eq_getElem hl')
      have := k q (List.mem_of_getElem? a)
      rcases e with rfl | rfl
      · exact this
      · rw [Bool.and_comm] at this; exact this
    · intro k q hq
      obtain ⟨i, hi⟩ := List.mem_iff_getElem?.mp hq
      have hl' : i < ps.length := by rw [← h1]; exact (List.getElem?_eq_some_iff.mp hi).1
      have hl2 : i < ds.length := by rw [hl]; exact hl'
      obtain ⟨q', a, _, e⟩ := h2 i ps[i] ds[i] (List.getElem?_eq_getElem hl') (List.getElem?_eq_getElem hl2)
      rw [hi] at a; cases a
      have := k ps[i] (List.getElem_mem hl')
      rcases e with e | e
      · rw [e]; exact this
      · rw [e, Bool.and_comm]; exact this
section
variable {n : Nat} {ps qs : List (Nat × Nat)} {ds : List D} {e : Sl} {N : Sl → Prop} {T : D → Sl → Prop}
theorem c0 (hE : E0 e) (q : ∀ n e, 1 ≤ n → n ≤ 5 → E1 n e → N e) : (sSeq lw_0 (sSeq lw_1 sNil) e).wp N T FF := by
  obtain ⟨x0, bx, x2, x3, x4, x5, x6, x7, x8, x9, x10, x11, x12, x13, x14, x15, x16, hb, rfl⟩ := hE
  refine wSeq (wSet (wOp2 (wConst (wCallF (wCons (wVar rfl (wCons (wConst (wNil ⟨_, rfl, ?_⟩)))))))))
  refine wf_mono (draw_ok (many := 5) hb (by omega) (by omega)) ?_ fun _ _ h => h
  rintro d os ⟨r, bx, rfl, r1, r2, rfl, hb⟩
  obtain ⟨r, rfl⟩ := Int.eq_ofNat_of_zero_le r1
  refine ⟨nI (1 + r), ?_, ?_⟩
  · show some (D.int (1 + (r : Int))) = _
    unfold nI
    congr 2
  · refine wSeq (wSet (wCallF (wCons (wVar rfl (wNil ⟨_, rfl, wf_ok (law_pairs_ok (n := 1 + r) (by omega)) (wSNil (q (1 + r) _ (by omega) (by omega) ⟨_, _, _, _, _, _, _, _, _, _, _, _, _, _, _, hb, rfl⟩))⟩)))))
theorem LP_pos (hn : 1 ≤ n) : 0 < (LP n).length := by
  refine List.length_pos_of_mem (a := (0, 0)) ?_
  unfold LP
  refine List.mem_flatMap.mpr ⟨0, List.mem_range.mpr (by omega), List.mem_map.mpr ⟨0, List.mem_filter.mpr ⟨List.mem_range.mpr (by omega), by simp⟩, rfl⟩⟩
theorem c2 (hE : E1 n e) (h1 : 1 ≤ n) (hn : n ≤ 5) (q : ∀ ps e, ps.length ≤ 11 → (∀ p ∈ ps, p ∈ LP n) → E2 n ps e → N e) : (lw_2 e).wp N T FF := by
  obtain ⟨x0, bx, x2, x5, x6, x7, x8, x9, x10, x11, x12, x13, x14, x15, x16, hb, rfl⟩ := hE
  refine wSet (wLc (wRng1 (wCallF (wCons (wVar rfl (wCons (wOp2 (wOp2 (wConst (wVar rfl ⟨_, mul2, wConst ⟨.int (2 * n + 2 : Nat), ?_, wNil ⟨_, rfl, ?_⟩⟩⟩))))))))))
  · show some (D.int (((2 * n : Nat) : Int) + 2)) = _
    congr 2
  refine wf_mono (draw_ok (many := (2 * n + 2 : Nat)) hb (by omega) (by omega)) ?_ fun _ _ h => h
  rintro d os ⟨r, bx, rfl, r1, r2, rfl, hb⟩
  obtain ⟨r, rfl⟩ := Int.eq_ofNat_of_zero_le r1
  refine ⟨r, rfl, by omega, ?_, ?_⟩
  · rw [List.length_map, List.length_range]; unfold line; omega
  obtain ⟨ys, e', h1', h2, h3, bx', hb', rfl⟩ := lcI (t := gtName 16) (c := tYes) (a := dCallF d__law_pick [some 1, none] [1] [] (dCons (dVar 1) (dCons (dVar 4) dNil))) (own := [16]) (fun e => ∃ bx, IsBox bx ∧ e = [x0, some bx, x2, some (nI n), some (.lst ((LP n).map cD)), x5, x6, x7, x8, x9, x10, x11, x12, x13, x14, x15, none]) (fun _ y => ∃ p, p ∈ LP n ∧ y = cD p) (ds := (List.range r).map fun i : Nat => .int i) (e := [x0, some bx, x2, some (nI n), some (.lst ((LP n).map cD)), x5, x6, x7, x8, x9, x10, x11, x12, x13, x14, x15, none]) (fun d hd e ⟨bx, hb, he⟩ => by
    subst he
    refine ⟨_, rfl, _, rfl, wCallF (wCons (wVar rfl (wCons (wVar rfl (wNil ⟨_, rfl, ?_⟩)))))⟩
    refine wf_mono (pick_ok hb (by rw [List.length_map]; exact LP_pos h1) (by have := LP_len hn; rw [List.length_map]; omega)) ?_ fun _ _ h => h
    rintro y os ⟨hy, bx, rfl, hb⟩
    obtain ⟨p, hp, rfl⟩ := List.mem_map.mp hy
    exact ⟨⟨p, hp, rfl⟩, bx, hb, rfl⟩) ⟨bx, hb, rfl⟩
  refine ⟨ys, _, h1', ?_⟩
  have hl : ys.length = r := by rw [h2]; simp
  have : ∃ ps : List (Nat × Nat), ys = ps.map cD ∧ ∀ p ∈ ps, p ∈ LP n := by
    have h3' : ∀ y ∈ ys, ∃ p, p ∈ LP n ∧ y = cD p := fun y hy => by
      obtain ⟨i, hi⟩ := List.mem_iff_getElem?.mp hy
      have hi' : i < ys.length := (List.getElem?_eq_some_iff.mp hi).1
      exact h3 i (.int i) y (by rw [List.getElem?_map, List.getElem?_range (by omega)]; rfl) hi
    clear h1' h2 h3 hl
    induction ys with
    | nil => exact ⟨[], rfl, fun p h => by cases h⟩
    | cons y ys ih =>
      obtain ⟨p, hp, rfl⟩ := h3' y List.mem_cons_self
      obtain ⟨ps, rfl, hps⟩ := ih fun y hy => h3' y (List.mem_cons_of_mem _ hy)
      exact ⟨p :: ps, rfl, fun p' h => (List.mem_cons.mp h).elim (fun e => e ▸ hp) (hps p')⟩
  obtain ⟨ps, rfl, hps⟩ := this
  rw [List.length_map] at hl
  exact q ps _ (by omega) hps ⟨_, _, _, _, _, _, _, _, _, _, _, _, _, _, hb', rfl⟩
theorem c3 (hE : E2 n ps e) (hl : ps.length ≤ 11) (hp : ∀ p ∈ ps, p ∈ LP n) (q : ∀ ps e, ps.length ≤ 11 → (∀ p ∈ ps, p ∈ LP n) → E2 n ps e → N e) : (lw_3 e).wp N T FF := by
  obtain ⟨x0, bx, x2, x6, x7, x8, x9, x10, x11, x12, x13, x14, x15, x16, hb, rfl⟩ := hE
  refine wSIf (wTCmp (wCallF (wCons (wVar rfl (wCons (wConst (wNil ⟨_, rfl, ?_⟩)))))))
  refine wf_mono (draw_ok (many := 2) hb (by omega) (by omega)) ?_ fun _ _ h => h
  rintro d os ⟨r, bx, rfl, r1, r2, rfl, hb⟩
  refine wConst ⟨_, peq_int, fun _ => ?_, fun _ => wSNil (q ps _ hl hp ⟨_, _, _, _, _, _, _, _, _, _, _, _, _, _, hb, rfl⟩)⟩
  refine wSeq (wSet (wLc (wItSeq (wVar rfl ⟨_, rfl, ?_, _, _, lcG (h := cD) (fun p => !decide (p.1 = p.2)) cD (fun p hp' => ?_), wSNil (q (ps.filter fun p => !decide (p.1 = p.2)) _ (Nat.le_trans (List.length_filter_le _ _) hl) (fun p hp' => hp p (List.mem_filter.mp hp').1) ⟨_, _, _, _, _, _, _, _, _, _, _, _, _, _, hb, rfl⟩)⟩))))
  · rw [List.length_map]; unfold line; omega
  · have qd : seqOf (cD p) = some [sD p.1, sD p.2] := rfl
    exact ⟨_, rfl, wTCmp (wOp2 (wVar rfl (wConst ⟨_, ix0 qd, wOp2 (wVar rfl (wConst ⟨_, ix1 qd, _, pne_sD, rfl, fun _ => wVar rfl ⟨rfl, rfl⟩, fun _ => rfl⟩))⟩)))⟩
theorem c4 (hE : E2 n ps e) (hl : ps.length ≤ 11) (hp : ∀ p ∈ ps, p ∈ LP n) (q : ∀ ds qs e, Pas n ps ds qs → E3 n ps ds e → N e) : (lw_4 e).wp N T FF := by
  obtain ⟨x0, bx, x2, x6, x7, x8, x9, x10, x11, x12, x13, x14, x15, x16, hb, rfl⟩ := hE
  obtain ⟨ys, e', h1', h2, h3, bx', hb', rfl⟩ := lcI (t := gtName 9) (c := tYes) (a := dCallF (d__law_loose 8) [some 1, none] [1] [] (dCons (dVar 1) (dCons (dIf (tCmp pEq (dCallF d__law_draw [some 1, none] [1] [] (dCons (dVar 1) (dCons (dConst (.int 2)) dNil))) (dConst (.int 0))) (dVar 9) (dTup (dCons (dOp2 gIx (dVar 9) (dConst (.int 1))) (dCons (dOp2 gIx (dVar 9) (dConst (.int 0))) dNil)))) dNil))) (own := [9]) (fun e => ∃ bx, IsBox bx ∧ e = [x0, some bx, x2, some (nI n), some (.lst ((LP n).map cD)), some (.lst (ps.map cD)), x6, x7, x8, none, x10, x11, x12, x13, x14, x15, x16]) (fun d y => ∀ p, p ∈ LP n → d = cD p → ∃ q, GoodC n y q ∧ (q = p ∨ q = (p.2, p.1))) (ds := ps.map cD) (e := [x0, some bx, x2, some (nI n), some (.lst ((LP n).map cD)), some (.lst (ps.map cD)), x6, x7, x8, none, x10, x11, x12, x13, x14, x15, x16]) (fun d hd e ⟨bx, hb, he⟩ => by
    subst he
    obtain ⟨p, hpm, rfl⟩ := List.mem_map.mp hd
    have hL := hp p hpm
    refine ⟨_, rfl, _, rfl, wCallF (wCons (wVar rfl (wCons (wDIf (wTCmp (wCallF (wCons (wVar rfl (wCons (wConst (wNil ⟨_, rfl, ?_⟩)))))))))))⟩
    refine wf_mono (draw_ok (many := 2) hb (by omega) (by omega)) ?_ fun _ _ h => h
    rintro d os ⟨r, bx, rfl, r1, r2, rfl, hb⟩
    have inj : ∀ p', cD p = cD p' → p = p' := fun p' e => by
      have := eqb_cD (p := p) (q := p')
      rw [← e, eqb_cD] at this
      simpa using this
    refine wConst ⟨_, peq_int, fun _ => wVar rfl (wNil ⟨_, rfl, wf_mono (loose_ok (lz_cD (k := 0)) (by omega) hb) ?_ fun _ _ h => h⟩), fun _ => ?_⟩
    · rintro y os ⟨hs, bx, rfl, hb⟩
      exact ⟨fun p' _ e => ⟨p, hs.good (goodC_cD hL), .inl (inj p' e)⟩, bx, hb, rfl⟩
    · have qd : seqOf (cD p) = some [sD p.1, sD p.2] := rfl
      refine wTup (wCons (wOp2 (wVar rfl (wConst ⟨_, ix1 qd, wCons (wOp2 (wVar rfl (wConst ⟨_, ix0 qd, wNil ⟨Nat.le_of_ble_eq_true rfl, wNil ⟨_, rfl, wf_mono (loose_ok (lz_cD (k := 0) (p := (p.2, p.1))) (by omega) hb) ?_ fun _ _ h => h⟩⟩⟩)))⟩))))
      rintro y os ⟨hs, bx, rfl, hb⟩
      exact ⟨fun p' _ e => ⟨(p.2, p.1), hs.good (goodC_sw hL), .inr (by rw [inj p' e])⟩, bx, hb, rfl⟩) ⟨bx, hb, rfl⟩
  refine wSet (wLc (wItSeq (wVar rfl ⟨_, rfl, ?_, _, _, h1', ?_⟩)))
  · rw [List.length_map]; unfold line; omega
  obtain ⟨qs, hq⟩ := pas_of (n := n) (ps := ps) (ds := ys) (by rw [h2, List.length_map]) (by omega) (fun i p d hi hd => h3 i (cD p) d (by rw [List.getElem?_map, hi]; rfl) hd p (hp p (List.mem_of_getElem? hi)) rfl)
  exact q ys qs _ hq ⟨_, _, _, _, _, _, _, _, _, _, _, _, _, hb', rfl⟩
theorem c5 (hE : E3 n ps ds e) (hn : n ≤ 5) (hl : ps.length ≤ 11) (hp : ∀ p ∈ ps, p ∈ LP n) (q : ∀ e, E4 n ps ds e → N e) : (sSeq lw_5 (sSeq lw_6 sNil) e).wp N T FF := by
  obtain ⟨x0, bx, x2, x7, x8, x9, x10, x11, x12, x13, x14, x15, x16, hb, rfl⟩ := hE
  refine wSeq (wSet (wCallF (wCons (wVar rfl (wCons (wVar rfl (wNil ⟨_, rfl, wf_ok (law_without_ok hn (fun p h => let h := LP_mem (hp p h); ⟨h.1, h.2.1⟩) (by omega)) ?_⟩)))))))
  refine wSeq (wSet (wCallF (wCons (wVar rfl (wCons (wVar rfl (wNil ⟨_, rfl, wf_ok (law_couples_ok hn) (wSNil (q _ ⟨_, _, _, _, _, _, _, _, _, _, _, _, _, hb, rfl⟩))⟩)))))))
end
end Hk
namespace Hk
open PySem FL
section
variable {n : Nat} {ps qs : List (Nat × Nat)} {ds : List D} {e : Sl} {N : Sl → Prop} {T : D → Sl → Prop}
theorem c7 (hE : E4 n ps ds e) (hn : n ≤ 5) (hP : Pas n ps ds qs) (q : ∀ e, E4 n ps ds e → N e) : (lw_7 e).wp N T FF := by
  obtain ⟨x0, bx, x2, x5, x7, x9, x10, x11, x12, x13, x14, x15, x16, hb, rfl⟩ := hE
  have h : d__law_asked [.str "closed", nI n, .lst ds, .non, .non] = .ok (.tup [.str "told", .tup ((CL n ps).map cD)]) [] := by
    rw [← hP.CL]
    exact ask_closed (closed_couples_ok (by omega) hP.lt (hP.need hn rfl))
  refine chk (x := .tup [.str "told", .tup ((CL n ps).map cD)]) (same_told (due_cDs (CL_len hn))) ?_
  refine wCallF (wCons (wConst (wCons (wVar rfl (wCons (wVar rfl (wCons (wConst (wCons (wConst (wNil ⟨_, rfl, wf_ok h ⟨rfl, ?_⟩⟩)))))))))))
  exact wTup (wCons (wConst (wCons (wVar rfl (wNil ⟨Nat.le_of_ble_eq_true rfl, rfl, q _ ⟨_, _, _, _, _, _, _, _, _, _, _, _, _, hb, rfl⟩⟩)))))
theorem pas_CL {v : D} {xs : List D} (hn : n ≤ 5) (hv : seqOf v = some xs) (hs : Sim (.tup ((CL n ps).map cD)) v) : Pas n (CL n ps) xs (CL n ps) := by
  obtain ⟨ys, h1, h2, h3⟩ := hs.seq_inv rfl
  rw [hv] at h1; cases h1
  rw [List.length_map] at h2
  refine ⟨h2.symm, by have := CL_len (ps := ps) hn; omega, fun i d hd => ?_, rfl⟩
  have hi : i < (CL n ps).length := by rw [← h2]; exact (List.getElem?_eq_some_iff.mp hd).1
  refine ⟨(CL n ps)[i], List.getElem?_eq_getElem hi, ?_⟩
  exact (h3 i (cD (CL n ps)[i]) d (by rw [List.getElem?_map, List.getElem?_eq_getElem hi]; rfl) hd).good (goodC_cD (CL_sub (List.getElem_mem hi)).1)
theorem c8 (hE : E4 n ps ds e) (hn : n ≤ 5) (hp : ∀ p ∈ ps, p ∈ LP n) (q : ∀ e, E4 n ps ds e → N e) : (lw_8 e).wp N T FF := by
  obtain ⟨x0, bx, x2, x5, x7, x9, x10, x11, x12, x13, x14, x15, x16, hb, rfl⟩ := hE
  refine chk (x := .tup [.str "told", .tup ((CL n ps).map cD)]) (same_told (due_cDs (CL_len hn))) ?_
  refine wCallF (wCons (wConst (wCons (wVar rfl (wCons (wCallF (wCons (wVar rfl (wCons (wVar rfl (wNil ⟨_, rfl, ?_⟩)))))))))))
  refine wf_mono (loose_ok (lz_cDs (k := 0) (by have := CL_len (ps := ps) hn; omega)) (by omega) hb) ?_ fun _ _ h => h
  rintro v os ⟨hs, bx, rfl, hb⟩
  obtain ⟨xs, hv, _⟩ := hs.seq_inv rfl
  have hP := pas_CL hn hv hs
  have h : d__law_asked [.str "closed", nI n, v, .non, .non] = .ok (.tup [.str "told", .tup ((CL n ps).map cD)]) [] := by
    have := ask_closed (c := .non) (d := .non) (closed_couples_ok (by omega) hP.lt (hP.need hn hv))
    rw [CL_CL hp] at this
    exact this
  refine wCons (wConst (wCons (wConst (wNil ⟨_, rfl, wf_ok h ⟨rfl, ?_⟩⟩))))
  exact wTup (wCons (wConst (wCons (wVar rfl (wNil ⟨Nat.le_of_ble_eq_true rfl, rfl, q _ ⟨_, _, _, _, _, _, _, _, _, _, _, _, _, hb, rfl⟩⟩)))))
theorem c9 (hE : E4 n ps ds e) (hn : n ≤ 5) (hP : Pas n ps ds qs) (q : ∀ e, E4 n ps ds e → N e) : (lw_9 e).wp N T FF := by
  have hE' := hE
  obtain ⟨x0, bx, x2, x5, x7, x9, x10, x11, x12, x13, x14, x15, x16, hb, rfl⟩ := hE
  refine wFor (wItSeq (wVar rfl ⟨_, rfl, ?_⟩))
  refine wForI (fun _ e => E4 n ps ds e) (n := 0) ?_ hE' fun e he => q e he
  rintro i d e hd ⟨x0, bx, x2, x5, x7, x9, x10, x11, x12, x13, x14, x15, x16, hb, rfl⟩
  obtain ⟨p, hp, rfl⟩ := List.mem_map.mp (List.mem_of_getElem? hd)
  obtain ⟨p1, p2, p3⟩ := LP_mem hp
  have qd : seqOf (cD p) = some [sD p.1, sD p.2] := rfl
  refine ⟨_, rfl, wSeq (chk (x := .tup [.str "told", .bl (fol n ps p.1 p.2)]) (same_told .bl) ?_)⟩
  refine wCallF (wCons (wConst (wCons (wVar rfl (wCons (wVar rfl (wCons (wOp2 (wVar rfl (wConst ⟨_, ix1 qd, ?_⟩))))))))))
  refine wCons (wCallF (wCons (wVar rfl (wCons (wOp2 (wVar rfl (wConst ⟨_, ix0 qd, wNil ⟨_, rfl, ?_⟩⟩)))))))
  refine wf_mono (loose_ok (lz_sD (k := 0)) (by omega) hb) ?_ fun _ _ h => h
  rintro v os ⟨hs, bx, rfl, hb⟩
  have h : d__law_asked [.str "follows", nI n, .lst ds, sD p.2, v] = .ok (.tup [.str "told", .bl (fol n ps p.1 p.2)]) [] := by
    rw [← fol_comm, ← hP.fol]
    exact ask_follows (follows_ok (by omega) hP.lt (hP.need hn rfl) sd_sD p2 (hs.sd sd_sD) p1 fun e => p3 (by rw [e, op_op]))
  refine wNil ⟨_, rfl, wf_ok h ⟨rfl, ?_⟩⟩
  refine wTup (wCons (wConst (wCons (wDCmp (wVar rfl (wVar rfl ⟨_, in_cD, wNil ⟨Nat.le_of_ble_eq_true rfl, ?_, wSNil ⟨_, _, _, _, _, _, _, _, _, _, _, _, _, hb, rfl⟩⟩⟩))))))
  have : decide (p ∈ CL n ps) = fol n ps p.1 p.2 := by
    rw [Bool.eq_iff_iff, decide_eq_true_eq]
    exact ⟨fun h => (CL_sub h).2, fun h => List.mem_filter.mpr ⟨hp, h⟩⟩
  rw [this]
theorem c10 (hE : E4 n ps ds e) (h1 : 1 ≤ n) (hn : n ≤ 5) (q : ∀ h b e, h < n → b < 2 → E6 n h b ds e → N e) : (lw_10 e).wp N T FF := by
  obtain ⟨x0, bx, x2, x5, x7, x9, x10, x11, x12, x13, x14, x15, x16, hb, rfl⟩ := hE
  refine wPar (wCallF (wCons (wVar rfl (wCons (wVar rfl (wNil ⟨_, rfl, ?_⟩))))))
  refine wf_mono (draw_ok (many := n) hb (by omega) (by omega)) ?_ fun _ _ h => h
  rintro d os ⟨r, bx, rfl, r1, r2, rfl, hb⟩
  obtain ⟨r, rfl⟩ := Int.eq_ofNat_of_zero_le r1
  refine wCallF (wCons (wVar rfl (wCons (wConst (wNil ⟨_, rfl, ?_⟩)))))
  refine wf_mono (draw_ok (many := 2) hb (by omega) (by omega)) ?_ fun _ _ h => h
  rintro d os ⟨b, bx, rfl, b1, b2, rfl, hb⟩
  obtain ⟨b, rfl⟩ := Int.eq_ofNat_of_zero_le b1
  exact q r b _ (by omega) (by omega) ⟨_, _, _, _, _, _, _, _, _, _, _, _, _, hb, rfl⟩
theorem c11 {h b : Nat} (hE : E6 n h b ds e) (hn : n ≤ 5) (hh : h < n) (hb2 : b < 2) (hP : Pas n ps ds qs) (q : ∀ e, E5 n ds e → N e) : (lw_11 e).wp N T FF := by
  obtain ⟨x0, bx, x2, x4, x5, x7, x8, x9, x12, x13, x14, x15, x16, hb, rfl⟩ := hE
  have e1 : (2 * h + b) / 2 = h := by omega
  have e2 : (2 * h + b) % 2 = b := by omega
  have sx : SD (.tup [nI h, nI b]) (2 * h + b) := by
    show some [nI h, nI b] = some [_, _]
    rw [e1, e2]; rfl
  have sy : SD (.lst [nI h, .int (1 - (b : Int))]) (op (2 * h + b)) := by
    show some [nI h, D.int (1 - (b : Int))] = some [_, _]
    rw [op_div, e1]
    have : ((op (2 * h + b) % 2 : Nat) : Int) = 1 - (b : Int) := by
      unfold op
      split <;> omega
    rw [this]; rfl
  have hk : d__law_asked [.str "follows", nI n, .lst ds, .tup [nI h, nI b], .lst [nI h, .int (1 - (b : Int))]] = .ok (.tup [.str "refused", .str "sides"]) [] := ask_fol_err hd3 (follows_no (hP.need hn rfl) sx (by omega) sy)
  refine chk (x := .tup [.str "refused", .str "sides"]) (same_err s_refused (.str s_sides)) ?_
  refine wCallF (wCons (wConst (wCons (wVar rfl (wCons (wVar rfl (wCons (wTup (wCons (wVar rfl (wCons (wVar rfl (wNil ⟨Nat.le_of_ble_eq_true rfl, ?_⟩)))))))))))))
  refine wCons (wLst (wCons (wVar rfl (wCons (wOp2 (wConst (wVar rfl ⟨_, rfl, wNil ⟨Nat.le_of_ble_eq_true rfl, wNil ⟨_, rfl, wf_ok hk ⟨rfl, ?_⟩⟩⟩⟩)))))))
  exact wTup (wCons (wConst (wCons (wConst (wNil ⟨Nat.le_of_ble_eq_true rfl, rfl, q _ ⟨_, _, _, _, _, _, _, _, _, _, _, _, _, _, _, hb, rfl⟩⟩)))))
/-! ### what is refused -/
def ezB (v : D) : Bool := v.easy && (match seqOf v with
  | some ds => ds.all fun d => d.easy && (match seqOf d with | some es => es.all D.easy | none => true)
  | none => true)
theorem ez_of {v : D} (h : ezB v = true) : Easy v ∧ Ez2 v := by
  unfold ezB at h
  rw [Bool.and_eq_true] at h
  obtain ⟨h1, h2⟩ := h
  refine ⟨⟨h1, fun ds e d hd => ?_⟩, h1, fun ds e d hd => ?_⟩
  · rw [e] at h2
    have := List.all_eq_true.mp h2 d hd
    rw [Bool.and_eq_true] at this
    exact this.1
  · rw [e] at h2
    have := List.all_eq_true.mp h2 d hd
    rw [Bool.and_eq_true] at this
    refine ⟨this.1, fun es e2 x hx => ?_⟩
    have h3 := this.2
    rw [e2] at h3
    exact List.all_eq_true.mp h3 x hx
structure BadS (n : Nat) (v : D) : Prop where
  ez : Easy v ∧ Ez2 v
  side : sideB v n = false
  coup : coupB v n = false
theorem pas_bad {v : D} (hP : Pas n ps ds qs) (hn : n ≤ 5) (ev : Ez2 v) (cv : coupB v n = false) : d_need_couples [nI n, .lst (ds ++ [v])] = .rs (bad 2 ds.length) [] := by
  have hm := hP.most
  refine need_couples_bad (ps := qs) (k := ds.length) (b := v) rfl (by rw [List.length_append]; simp; omega) (by omega) hP.len (fun i d hi hd => ?_) (by simp) ev cv
  rw [List.getElem?_append_left hi] at hd
  exact hP.at_ i d hd
def E7 (n : Nat) (ds : List D) (v : D) (e : Sl) : Prop := ∃ (x0 : Option D) (bx : D) (x2 x4 x5 : Option D) (x7 x8 x9 x10 x11 x12 x14 x15 x16 : Option D), IsBox bx ∧ e = [x0, some bx, x2, some (nI n), x4, x5, some (.lst ds), x7, x8, x9, x10, x11, x12, some v, x14, x15, x16]
def E8 (n : Nat) (ds : List D) (v : D) (e : Sl) : Prop := ∃ (x0 : Option D) (bx : D) (x2 x4 x5 : Option D) (x7 x8 x9 x10 x11 x13 x14 x15 x16 : Option D), IsBox bx ∧ e = [x0, some bx, x2, some (nI n), x4, x5, some (.lst ds), x7, x8, x9, x10, x11, some v, x13, x14, x15, x16]
abbrev lw_12w : MS := (sSeq (sFor (itSeq (dLst (dCons (dConst (.str "closed")) (dCons (dConst (.str "follows")) dNil)))) (gtName 14) (sSeq (sIf (tNot (tBl (dCallF (d__law_same 8) [none, none] [] [] (dCons (dCallF d__law_asked [none, none, none, none, none] [] [] (dCons (dVar 14) (dCons (dVar 3) (dCons (dOp2 gCat (dVar 6) (dLst (dCons (dVar 13) dNil))) (dCons (dConst .non) (dCons (dConst .non) dNil)))))) (dCons (dTup (dCons (dConst (.str "couples")) (dCons (dCall gLen (dCons (dVar 6) dNil)) dNil))) dNil))))) (sSeq (sRet (dConst (.bl false))) sNil) sNil) sNil)) sNil)
theorem c12w {v : D} (hE : E7 n ds v e) (hn : n ≤ 5) (hP : Pas n ps ds qs) (ev : Ez2 v) (cv : coupB v n = false) (q : ∀ e, E5 n ds e → N e) : (lw_12w e).wp N T FF := by
  obtain ⟨x0, bx, x2, x4, x5, x7, x8, x9, x10, x11, x12, x14, x15, x16, hb, rfl⟩ := hE
  have hm := hP.most
  obtain ⟨k1, k2⟩ := ask_need (c := .non) (d := .non) hd2 (pas_bad hP hn ev cv)
  have hc : gCat (.lst ds) (.lst [v]) = some (.lst (ds ++ [v])) := by
    show (if ds.length + [v].length ≤ line then _ else _) = _
    rw [if_pos (by unfold line; simp; omega)]
  refine wSeq (wFor (wItSeq (wLst (wCons (wConst (wCons (wConst (wNil ⟨Nat.le_of_ble_eq_true rfl, _, rfl, ?_⟩))))))))
  refine wForCons rfl (wSeq (chk (x := .tup [.str "couples", .int ds.length]) (same_err s_couples .int) ?_))
  · refine wCallF (wCons (wVar rfl (wCons (wVar rfl (wCons (wOp2 (wVar rfl (wLst (wCons (wVar rfl (wNil ⟨Nat.le_of_ble_eq_true rfl, _, hc, ?_⟩)))))))))))
    refine wCons (wConst (wCons (wConst (wNil ⟨_, rfl, wf_ok k1 ⟨rfl, ?_⟩⟩))))
    refine wTup (wCons (wConst (wCons (wCall (wCons (wVar rfl (wNil ⟨_, rfl, wNil ⟨Nat.le_of_ble_eq_true rfl, rfl, wSNil ?_⟩⟩)))))))
    refine wForCons rfl (wSeq (chk (x := .tup [.str "couples", .int ds.length]) (same_err s_couples .int) ?_))
    refine wCallF (wCons (wVar rfl (wCons (wVar rfl (wCons (wOp2 (wVar rfl (wLst (wCons (wVar rfl (wNil ⟨Nat.le_of_ble_eq_true rfl, _, hc, ?_⟩)))))))))))
    refine wCons (wConst (wCons (wConst (wNil ⟨_, rfl, wf_ok k2 ⟨rfl, ?_⟩⟩))))
    refine wTup (wCons (wConst (wCons (wCall (wCons (wVar rfl (wNil ⟨_, rfl, wNil ⟨Nat.le_of_ble_eq_true rfl, rfl, wSNil ?_⟩⟩)))))))
    exact wForNil (wSNil (q _ ⟨_, _, _, _, _, _, _, _, _, _, _, _, _, _, _, hb, rfl⟩))
abbrev lw_12b : MS := (sSeq (sIf (tNot (tBl (dCallF (d__law_same 8) [none, none] [] [] (dCons (dCallF d__law_asked [none, none, none, none, none] [] [] (dCons (dConst (.str "follows")) (dCons (dVar 3) (dCons (dVar 6) (dCons (dVar 12) (dCons (dVar 12) dNil)))))) (dCons (dTup (dCons (dConst (.str "side")) (dCons (dConst (.int 0)) dNil))) dNil))))) (sSeq (sRet (dConst (.bl false))) sNil) sNil) (sSeq (sIf (tNot (tBl (dCallF (d__law_same 8) [none, none] [] [] (dCons (dCallF d__law_asked [none, none, none, none, none] [] [] (dCons (dConst (.str "follows")) (dCons (dVar 3) (dCons (dVar 6) (dCons (dTup (dCons (dConst (.int 0)) (dCons (dConst (.int 0)) dNil))) (dCons (dVar 12) dNil)))))) (dCons (dTup (dCons (dConst (.str "side")) (dCons (dConst (.int 1)) dNil))) dNil))))) (sSeq (sRet (dConst (.bl false))) sNil) sNil) (sSeq (sFor (itSeq (dLst (dCons (dVar 12) (dCons (dTup (dCons (dVar 12) (dCons (dTup (dCons (dConst (.int 0)) (dCons (dConst (.int 0)) dNil))) dNil))) (dCons (dTup (dCons (dTup (dCons (dConst (.int 0)) (dCons (dConst (.int 0)) dNil))) (dCons (dVar 12) dNil))) (dCons (dTup (dCons (dTup (dCons (dConst (.int 0)) (dCons (dConst (.int 0)) dNil))) dNil)) (dCons (dTup (dCons (dTup (dCons (dConst (.int 0)) (dCons (dConst (.int 0)) dNil))) (dCons (dTup (dCons (dConst (.int 0)) (dCons (dConst (.int 1)) dNil))) dNil))) (dCons (dTup (dCons (dTup (dCons (dConst (.int 0)) (dCons (dConst (.int 0)) dNil))) (dCons (dTup (dCons (dConst (.int 0)) (dCons (dConst (.int 0)) dNil))) (dCons (dTup (dCons (dConst (.int 0)) (dCons (dConst (.int 0)) dNil))) dNil)))) dNil)))))))) (gtName 13) (sSeq (sFor (itSeq (dLst (dCons (dConst (.str "closed")) (dCons (dConst (.str "follows")) dNil)))) (gtName 14) (sSeq (sIf (tNot (tBl (dCallF (d__law_same 8) [none, none] [] [] (dCons (dCallF d__law_asked [none, none, none, none, none] [] [] (dCons (dVar 14) (dCons (dVar 3) (dCons (dOp2 gCat (dVar 6) (dLst (dCons (dVar 13) dNil))) (dCons (dConst .non) (dCons (dConst .non) dNil)))))) (dCons (dTup (dCons (dConst (.str "couples")) (dCons (dCall gLen (dCons (dVar 6) dNil)) dNil))) dNil))))) (sSeq (sRet (dConst (.bl false))) sNil) sNil) sNil)) sNil)) sNil)))
abbrev z00 : D := .tup [.int 0, .int 0]
theorem c12b {v : D} (hE : E8 n ds v e) (h1 : 1 ≤ n) (hn : n ≤ 5) (hP : Pas n ps ds qs) (hB : BadS n v) (q : ∀ e, E5 n ds e → N e) : (lw_12b e).wp N T FF := by
  obtain ⟨x0, bx, x2, x4, x5, x7, x8, x9, x10, x11, x13, x14, x15, x16, hb, rfl⟩ := hE
  have k0 : d__law_asked [.str "follows", nI n, .lst ds, v, v] = .ok (.tup [.str "side", .int 0]) [] := ask_fol_err hd1 (follows_side0 (hP.need hn rfl) hB.ez.1 hB.side)
  have k1 : d__law_asked [.str "follows", nI n, .lst ds, z00, v] = .ok (.tup [.str "side", .int 1]) [] := ask_fol_err hd1 (follows_side1 (a := 0) (hP.need hn rfl) rfl (by omega) hB.ez.1 hB.side)
  refine wSeq (chk (x := .tup [.str "side", .int 0]) (same_err s_side .int) ?_)
  refine wCallF (wCons (wConst (wCons (wVar rfl (wCons (wVar rfl (wCons (wVar rfl (wCons (wVar rfl (wNil ⟨_, rfl, wf_ok k0 ⟨rfl, ?_⟩⟩)))))))))))
  refine wTup (wCons (wConst (wCons (wConst (wNil ⟨Nat.le_of_ble_eq_true rfl, rfl, ?_⟩)))))
  refine wSeq (chk (x := .tup [.str "side", .int 1]) (same_err s_side .int) ?_)
  refine wCallF (wCons (wConst (wCons (wVar rfl (wCons (wVar rfl (wCons (wTup (wCons (wConst (wCons (wConst (wNil ⟨Nat.le_of_ble_eq_true rfl, ?_⟩)))))))))))))
  refine wCons (wVar rfl (wNil ⟨_, rfl, wf_ok k1 ⟨rfl, ?_⟩⟩))
  refine wTup (wCons (wConst (wCons (wConst (wNil ⟨Nat.le_of_ble_eq_true rfl, rfl, ?_⟩)))))
  refine wSeq (wFor (wItSeq (wLst ?_)))
  (repeat (first | (with_reducible first | refine wSeq ?_ | refine wSIf ?_ | refine wSet ?_ | refine wRet ?_ | refine wExpr ?_ | refine wRaise ?_ | refine wPar ?_ | refine wAsg ?_ | refine wConst ?_ | refine wNil ?_ | refine wCons ?_ | refine wTup ?_ | refine wLst ?_ | refine wCall ?_ | refine wCall1 ?_ | refine wOp1 ?_ | refine wOp2 ?_ | refine wOp3 ?_ | refine wDCmp ?_ | refine wTCmp ?_ | refine wTBl ?_ | refine wTAnd ?_ | refine wTOr ?_ | refine wTNot ?_ | refine wYes ?_ | refine wDAnd ?_ | refine wDOr ?_ | refine wDNot ?_ | refine wDIf ?_ | refine wIs ?_ | refine wIs2 ?_ | refine wCallF ?_ | refine wCallV ?_ | refine wDLen ?_ | refine wItSeq ?_ | refine wItEn ?_ | refine wRng1 ?_ | refine wFor ?_ | refine wLc ?_ | refine wDPart ?_ | refine wNoPart ?_ | refine wSl ?_ | refine wSNil ?_) | ((with_reducible apply wVar); exact rfl) | ((with_reducible apply wMove); exact rfl) | refine ⟨_, rfl, ?_⟩ | refine ⟨Nat.le_of_ble_eq_true rfl, ?_⟩))
  have key : ∀ d ∈ [v, .tup [v, z00], .tup [z00, v], .tup [z00], .tup [z00, .tup [.int 0, .int 1]], .tup [z00, z00, z00]], Ez2 d ∧ coupB d n = false := by
    have ez0 : Easy z00 := (ez_of (v := z00) rfl).1
    have pair : ∀ a b : D, Easy a → Easy b → Ez2 (.tup [a, b]) := fun a b ha hb => ⟨rfl, fun ds e d hd => by
      cases e
      simp at hd
      rcases hd with rfl | rfl <;> assumption⟩
    have s0 : sideB z00 n = true := by simp [sideB, seqOf, below]; omega
    intro d hd
    simp only [List.mem_cons, List.not_mem_nil, or_false] at hd
    rcases hd with rfl | rfl | rfl | rfl | rfl | rfl
    · exact ⟨hB.ez.2, hB.coup⟩
    · exact ⟨pair _ _ hB.ez.1 ez0, by simp [coupB, seqOf, hB.side]⟩
    · exact ⟨pair _ _ ez0 hB.ez.1, by simp [coupB, seqOf, hB.side]⟩
    · exact ⟨(ez_of rfl).2, rfl⟩
    · exact ⟨(ez_of rfl).2, by simp [coupB, seqOf, lastB]⟩
    · exact ⟨(ez_of rfl).2, rfl⟩
  refine wForI (fun _ e => E5 n ds e) (n := 0) ?_ ⟨_, _, _, _, _, _, _, _, _, _, _, _, _, _, _, hb, rfl⟩ fun e he => wSNil (q e he)
  rintro i d e hd ⟨x0, bx, x2, x4, x5, x7, x8, x9, x10, x11, x12, x13, x14, x15, x16, hb, rfl⟩
  obtain ⟨ed, cd⟩ := key d (List.mem_of_getElem? hd)
  exact ⟨_, rfl, c12w ⟨_, _, _, _, _, _, _, _, _, _, _, _, _, _, hb, rfl⟩ hn hP ed cd fun e h => h⟩
theorem c12 (hE : E5 n ds e) (h1 : 1 ≤ n) (hn : n ≤ 5) (hP : Pas n ps ds qs) (q : ∀ e, E5 n ds e → N e) : (lw_12 e).wp N T FF := by
  have hE' := hE
  obtain ⟨x0, bx, x2, x4, x5, x7, x8, x9, x10, x11, x12, x13, x14, x15, x16, hb, rfl⟩ := hE
  refine wFor (wItSeq (wLst ?_))
  (repeat (first | (with_reducible first | refine wSeq ?_ | refine wSIf ?_ | refine wSet ?_ | refine wRet ?_ | refine wExpr ?_ | refine wRaise ?_ | refine wPar ?_ | refine wAsg ?_ | refine wConst ?_ | refine wNil ?_ | refine wCons ?_ | refine wTup ?_ | refine wLst ?_ | refine wCall ?_ | refine wCall1 ?_ | refine wOp1 ?_ | refine wOp2 ?_ | refine wOp3 ?_ | refine wDCmp ?_ | refine wTCmp ?_ | refine wTBl ?_ | refine wTAnd ?_ | refine wTOr ?_ | refine wTNot ?_ | refine wYes ?_ | refine wDAnd ?_ | refine wDOr ?_ | refine wDNot ?_ | refine wDIf ?_ | refine wIs ?_ | refine wIs2 ?_ | refine wCallF ?_ | refine wCallV ?_ | refine wDLen ?_ | refine wItSeq ?_ | refine wItEn ?_ | refine wRng1 ?_ | refine wFor ?_ | refine wLc ?_ | refine wDPart ?_ | refine wNoPart ?_ | refine wSl ?_ | refine wSNil ?_) | ((with_reducible apply wVar); exact rfl) | ((with_reducible apply wMove); exact rfl) | refine ⟨_, rfl, ?_⟩ | refine ⟨Nat.le_of_ble_eq_true rfl, ?_⟩))
  have key : ∀ d ∈ [D.non, .int 3, .tup [], .tup [.int 0], .tup [nI n, .int 0], .tup [.int 0, .int 2], .tup [.int 0, .bl true], .tup [.int (-1), .int 0], .str "00", .tup [.int 0, .int 0, .int 0], .lst [.non, .int 0]], BadS n d := by
    intro d hd
    simp only [List.mem_cons, List.not_mem_nil, or_false] at hd
    rcases hd with rfl | rfl | rfl | rfl | rfl | rfl | rfl | rfl | rfl | rfl | rfl
    · exact ⟨ez_of rfl, rfl, rfl⟩
    · exact ⟨ez_of rfl, rfl, rfl⟩
    · exact ⟨ez_of rfl, rfl, rfl⟩
    · exact ⟨ez_of rfl, rfl, rfl⟩
    · exact ⟨ez_of rfl, by simp [sideB, seqOf, below, nI], by simp [coupB, sideB, seqOf, nI]⟩
    · exact ⟨ez_of rfl, by simp [sideB, seqOf, below], by simp [coupB, sideB, seqOf]⟩
    · exact ⟨ez_of rfl, by simp [sideB, seqOf, below], by simp [coupB, sideB, seqOf]⟩
    · exact ⟨ez_of rfl, by simp [sideB, seqOf, below], by simp [coupB, sideB, seqOf]⟩
    · exact ⟨ez_of rfl, rfl, rfl⟩
    · exact ⟨ez_of rfl, rfl, rfl⟩
    · exact ⟨ez_of rfl, by simp [sideB, seqOf, below], by simp [coupB, sideB, seqOf]⟩
  refine wForI (fun _ e => E5 n ds e) (n := 0) ?_ hE' fun e he => q e he
  rintro i d e hd ⟨x0, bx, x2, x4, x5, x7, x8, x9, x10, x11, x12, x13, x14, x15, x16, hb, rfl⟩
  exact ⟨_, rfl, c12b ⟨_, _, _, _, _, _, _, _, _, _, _, _, _, _, hb, rfl⟩ h1 hn hP (key d (List.mem_of_getElem? hd)) fun e h => h⟩
end
end Hk
namespace Hk
open PySem FL
theorem wSeq2 {a b r : MS} {e : Sl} {N : Sl → Prop} {T : D → Sl → Prop} {X : Exn → Sl → Prop} (h : (sSeq a (sSeq b sNil) e).wp (fun e1 => (r e1).wp N T X) T X) : (sSeq a (sSeq b r) e).wp N T X := by
  rw [sSeq_ap] at h ⊢
  revert h
  cases a e with
  | nx e1 =>
    intro h
    have h : ((sSeq b sNil) e1).wp (fun e1 => (r e1).wp N T X) T X := h
    show ((sSeq b r) e1).wp N T X
    rw [sSeq_ap] at h ⊢
    revert h
    cases b e1 with
    | nx e2 => exact fun h => h.out
    | bk e2 => exact fun h => ⟨h.out⟩
    | ct e2 => exact fun h => ⟨h.out⟩
    | rt d e2 => exact fun h => ⟨h.out⟩
    | rs d e2 => exact fun h => ⟨h.out⟩
    | er => exact fun h => ⟨h.out⟩
  | bk e2 => exact fun h => ⟨h.out⟩
  | ct e2 => exact fun h => ⟨h.out⟩
  | rt d e2 => exact fun h => ⟨h.out⟩
  | rs d e2 => exact fun h => ⟨h.out⟩
  | er => exact fun h => ⟨h.out⟩
abbrev lw_b : MS := (sSeq lw_0 (sSeq lw_1 (sSeq lw_2 (sSeq lw_3 (sSeq lw_4 (sSeq lw_5 (sSeq lw_6 (sSeq lw_7 (sSeq lw_8 (sSeq lw_9 (sSeq lw_10 (sSeq lw_11 (sSeq lw_12 sNil)))))))))))))
section
variable {n : Nat} {e : Sl} {N : Sl → Prop} {T : D → Sl → Prop}
theorem E5.e0 {ds : List D} (h : E5 n ds e) : E0 e := by
  obtain ⟨x0, bx, x2, x4, x5, x7, x8, x9, x10, x11, x12, x13, x14, x15, x16, hb, rfl⟩ := h
  exact ⟨_, _, _, _, _, _, _, _, _, _, _, _, _, _, _, _, _, hb, rfl⟩
theorem bAll (hE : E0 e) (q : ∀ e, E0 e → N e) : (lw_b e).wp N T FF := by
  refine wSeq2 (c0 hE fun n e h1 hn hE => ?_)
  refine wSeq (c2 hE h1 hn fun ps e hl hp hE => ?_)
  refine wSeq (c3 hE hl hp fun ps e hl hp hE => ?_)
  refine wSeq (c4 hE hl hp fun ds qs e hP hE => ?_)
  refine wSeq2 (c5 hE hn hl hp fun e hE => ?_)
  refine wSeq (c7 hE hn hP fun e hE => ?_)
  refine wSeq (c8 hE hn hp fun e hE => ?_)
  refine wSeq (c9 hE hn hP fun e hE => ?_)
  refine wSeq (c10 hE h1 hn fun h b e hh hb hE => ?_)
  refine wSeq (c11 hE hn hh hb hP fun e hE => ?_)
  refine wSeq (c12 hE h1 hn hP fun e hE => ?_)
  exact wSNil (q e hE.e0)
theorem loopAll (hE : E0 e) (q : ∀ e, E0 e → N e) : (sFor lw_it (gtName 2) lw_b e).wp N T FF := by
  refine wFor (wRng1 (wConst ⟨3, rfl, by omega, ?_⟩))
  refine wForI (fun _ e => E0 e) (n := 0) ?_ hE fun e he => q e he
  rintro i d e hd ⟨x0, bx, x2, x3, x4, x5, x6, x7, x8, x9, x10, x11, x12, x13, x14, x15, x16, hb, rfl⟩
  exact ⟨_, rfl, bAll ⟨_, _, _, _, _, _, _, _, _, _, _, _, _, _, _, _, _, hb, rfl⟩ fun e h => h⟩
/-! ### the end of the law -/
def EF (e : Sl) : Prop := ∃ (x0 x1 x2 x3 x4 x5 x6 x7 x8 x9 x10 x11 x12 x13 x14 x16 : Option D), e = [x0, x1, x2, x3, x4, x5, x6, x7, x8, x9, x10, x11, x12, x13, x14, some (.lst [cD (0, 3), cD (2, 4)]), x16]
def ps0 : List (Nat × Nat) := [(0, 3), (2, 4)]
theorem need0 : d_need_couples [.int 3, .lst [cD (0, 3), cD (2, 4)]] = .ok (.lst (ps0.map pD)) [] := by
  refine need_couples_ok (n := 3) (ps := ps0) rfl (Nat.le_of_ble_eq_true rfl) (by omega) rfl fun i d hd => ?_
  have m1 : ((0, 3) : Nat × Nat) ∈ LP 3 := by decide +kernel
  have m2 : ((2, 4) : Nat × Nat) ∈ LP 3 := by decide +kernel
  match i, hd with
  | 0, hd => cases hd; exact ⟨_, rfl, goodC_cD m1⟩
  | 1, hd => cases hd; exact ⟨_, rfl, goodC_cD m2⟩
theorem lt0 : ∀ p ∈ ps0, p.1 < 2 * 3 ∧ p.2 < 2 * 3 := by decide +kernel
theorem CL0 : CL 3 ps0 = [(0, 3), (0, 4), (2, 4)] := by decide +kernel
theorem f40 : fol 3 ps0 4 0 = true := by decide +kernel
theorem f50 : fol 3 ps0 5 0 = false := by decide +kernel
theorem CLe : CL 0 [] = [] := by decide +kernel
theorem d2 (hE : E0 e) (q : ∀ e, EF e → N e) : (lt_2 e).wp N T FF := by
  obtain ⟨x0, bx, x2, x3, x4, x5, x6, x7, x8, x9, x10, x11, x12, x13, x14, x15, x16, hb, rfl⟩ := hE
  refine wSet (wLst ?_)
  (repeat (first | (with_reducible first | refine wSeq ?_ | refine wSIf ?_ | refine wSet ?_ | refine wRet ?_ | refine wExpr ?_ | refine wRaise ?_ | refine wPar ?_ | refine wAsg ?_ | refine wConst ?_ | refine wNil ?_ | refine wCons ?_ | refine wTup ?_ | refine wLst ?_ | refine wCall ?_ | refine wCall1 ?_ | refine wOp1 ?_ | refine wOp2 ?_ | refine wOp3 ?_ | refine wDCmp ?_ | refine wTCmp ?_ | refine wTBl ?_ | refine wTAnd ?_ | refine wTOr ?_ | refine wTNot ?_ | refine wYes ?_ | refine wDAnd ?_ | refine wDOr ?_ | refine wDNot ?_ | refine wDIf ?_ | refine wIs ?_ | refine wIs2 ?_ | refine wCallF ?_ | refine wCallV ?_ | refine wDLen ?_ | refine wItSeq ?_ | refine wItEn ?_ | refine wRng1 ?_ | refine wFor ?_ | refine wLc ?_ | refine wDPart ?_ | refine wNoPart ?_ | refine wSl ?_ | refine wSNil ?_) | ((with_reducible apply wVar); exact rfl) | ((with_reducible apply wMove); exact rfl) | refine ⟨_, rfl, ?_⟩ | refine ⟨Nat.le_of_ble_eq_true rfl, ?_⟩))
  exact q _ ⟨_, _, _, _, _, _, _, _, _, _, _, _, _, _, _, _, rfl⟩
theorem d3 (hE : EF e) (q : ∀ e, EF e → N e) : (lt_3 e).wp N T FF := by
  obtain ⟨x0, x1, x2, x3, x4, x5, x6, x7, x8, x9, x10, x11, x12, x13, x14, x16, rfl⟩ := hE
  have h : d__law_asked [.str "closed", .int 3, .lst [cD (0, 3), cD (2, 4)], .non, .non] = .ok (.tup [.str "told", .tup ([(0, 3), (0, 4), (2, 4)].map cD)]) [] := by
    rw [← CL0]
    exact ask_closed (closed_couples_ok (n := 3) (by omega) lt0 need0)
  refine chk (x := .tup [.str "told", .tup ([(0, 3), (0, 4), (2, 4)].map cD)]) (same_told (due_cDs (Nat.le_of_ble_eq_true rfl))) ?_
  refine wCallF (wCons (wConst (wCons (wConst (wCons (wVar rfl (wCons (wConst (wCons (wConst (wNil ⟨_, rfl, wf_ok h ⟨rfl, ?_⟩⟩)))))))))))
  refine wTup ?_
  (repeat (first | (with_reducible first | refine wSeq ?_ | refine wSIf ?_ | refine wSet ?_ | refine wRet ?_ | refine wExpr ?_ | refine wRaise ?_ | refine wPar ?_ | refine wAsg ?_ | refine wConst ?_ | refine wNil ?_ | refine wCons ?_ | refine wTup ?_ | refine wLst ?_ | refine wCall ?_ | refine wCall1 ?_ | refine wOp1 ?_ | refine wOp2 ?_ | refine wOp3 ?_ | refine wDCmp ?_ | refine wTCmp ?_ | refine wTBl ?_ | refine wTAnd ?_ | refine wTOr ?_ | refine wTNot ?_ | refine wYes ?_ | refine wDAnd ?_ | refine wDOr ?_ | refine wDNot ?_ | refine wDIf ?_ | refine wIs ?_ | refine wIs2 ?_ | refine wCallF ?_ | refine wCallV ?_ | refine wDLen ?_ | refine wItSeq ?_ | refine wItEn ?_ | refine wRng1 ?_ | refine wFor ?_ | refine wLc ?_ | refine wDPart ?_ | refine wNoPart ?_ | refine wSl ?_ | refine wSNil ?_) | ((with_reducible apply wVar); exact rfl) | ((with_reducible apply wMove); exact rfl) | refine ⟨_, rfl, ?_⟩ | refine ⟨Nat.le_of_ble_eq_true rfl, ?_⟩))
  exact ⟨rfl, q _ ⟨_, _, _, _, _, _, _, _, _, _, _, _, _, _, _, _, rfl⟩⟩
theorem chkT {A B : M D} {x : D} {Q : Bool → Sl → Prop} (hs : d__law_same 8 [x, x] = .ok (.bl true) []) (h : (A e).wp (fun v e1 => v = x ∧ (B e1).wp (fun w e2 => w = x ∧ Q false e2) FF) FF) : ((tNot (tBl (dCallF (d__law_same 8) [none, none] [] [] (dCons A (dCons B dNil))))) e).wp Q FF := by
  refine wTNot (wTBl (wCallF (wCons (wp_mono h ?_ fun _ _ h => h))))
  rintro v e1 ⟨rfl, h⟩
  refine wCons (wp_mono h ?_ fun _ _ h => h)
  rintro w e2 ⟨rfl, hN⟩
  exact wNil ⟨_, rfl, wf_ok hs ⟨_, rfl, hN⟩⟩
theorem d4 (hE : EF e) (q : ∀ e, EF e → N e) : (lt_4 e).wp N T FF := by
  obtain ⟨x0, x1, x2, x3, x4, x5, x6, x7, x8, x9, x10, x11, x12, x13, x14, x16, rfl⟩ := hE
  have h : d__law_asked [.str "closed", .int 0, .lst [], .non, .non] = .ok (.tup [.str "told", .tup []]) [] := by
    have n0 : d_need_couples [.int (0 : Nat), .lst []] = .ok (.lst (([] : List (Nat × Nat)).map pD)) [] := need_couples_ok (n := 0) (ds := []) (ps := []) rfl (Nat.zero_le _) (by omega) rfl fun i d hd => by simp at hd
    have := ask_closed (c := .non) (d := .non) (closed_couples_ok (n := 0) (ps := []) (by omega) (fun p h => by cases h) n0)
    rw [CLe] at this
    exact this
  have h2 : d__law_asked [.str "follows", .int 3, .lst [cD (0, 3), cD (2, 4)], .tup [.int 2, .int 0], .tup [.int 0, .int 0]] = .ok (.tup [.str "told", .bl true]) [] := by
    rw [← f40]
    exact ask_follows (follows_ok (n := 3) (a := 4) (b := 0) (by omega) lt0 need0 rfl (by omega) rfl (by omega) (by decide))
  refine wSIf (wTOr (chkT (x := .tup [.str "told", .tup []]) (same_told (.tup (Nat.zero_le _) fun _ h => by cases h)) ?_))
  refine wCallF (wCons (wConst (wCons (wConst (wCons (wLst (wNil ⟨Nat.le_of_ble_eq_true rfl, wCons (wConst (wCons (wConst (wNil ⟨_, rfl, wf_ok h ⟨rfl, ?_⟩⟩))))⟩)))))))
  refine wTup (wCons (wConst (wCons (wTup (wNil ⟨Nat.le_of_ble_eq_true rfl, wNil ⟨Nat.le_of_ble_eq_true rfl, rfl, fun h => (by cases h), fun _ => ?_⟩⟩)))))
  refine chkT (x := .tup [.str "told", .bl true]) (same_told .bl) ?_
  refine wCallF (wCons (wConst (wCons (wConst (wCons (wVar rfl (wCons (wTup (wCons (wConst (wCons (wConst (wNil ⟨Nat.le_of_ble_eq_true rfl, ?_⟩)))))))))))))
  refine wCons (wTup (wCons (wConst (wCons (wConst (wNil ⟨Nat.le_of_ble_eq_true rfl, wNil ⟨_, rfl, wf_ok h2 ⟨rfl, ?_⟩⟩⟩))))))
  refine wTup (wCons (wConst (wCons (wConst (wNil ⟨Nat.le_of_ble_eq_true rfl, rfl, fun h => (by cases h), fun _ => wSNil (q _ ⟨_, _, _, _, _, _, _, _, _, _, _, _, _, _, _, _, rfl⟩)⟩)))))
theorem d5 (hE : EF e) (q : ∀ e, EF e → N e) : (lt_5 e).wp N T FF := by
  obtain ⟨x0, x1, x2, x3, x4, x5, x6, x7, x8, x9, x10, x11, x12, x13, x14, x16, rfl⟩ := hE
  have h2 : d__law_asked [.str "follows", .int 3, .lst [cD (0, 3), cD (2, 4)], .tup [.int 2, .int 1], .tup [.int 0, .int 0]] = .ok (.tup [.str "told", .bl false]) [] := by
    rw [← f50]
    exact ask_follows (follows_ok (n := 3) (a := 5) (b := 0) (by omega) lt0 need0 rfl (by omega) rfl (by omega) (by decide))
  refine chk (x := .tup [.str "told", .bl false]) (same_told .bl) ?_
  refine wCallF (wCons (wConst (wCons (wConst (wCons (wVar rfl (wCons (wTup (wCons (wConst (wCons (wConst (wNil ⟨Nat.le_of_ble_eq_true rfl, ?_⟩)))))))))))))
  refine wCons (wTup (wCons (wConst (wCons (wConst (wNil ⟨Nat.le_of_ble_eq_true rfl, wNil ⟨_, rfl, wf_ok h2 ⟨rfl, ?_⟩⟩⟩))))))
  refine wTup (wCons (wConst (wCons (wConst (wNil ⟨Nat.le_of_ble_eq_true rfl, rfl, q _ ⟨_, _, _, _, _, _, _, _, _, _, _, _, _, _, _, _, rfl⟩⟩)))))
theorem need_cnt {v w : D} (ev : v.easy = true) (hb : betw v 0 24 = false) : d_need_couples [v, w] = .rs (bad 0 (-1)) [] := by
  refine wf_eqx (wRun rfl ?_)
  unfold b_need_couples
  refine wSeq (wSIf (wTNot (wTBl (wCallF (wCons (wVar rfl (wCons (wConst (wCons (wConst (wNil ⟨_, rfl, wf_ok (is_between_ok ev) ⟨_, rfl, fun t => ?_, fun t => ?_⟩⟩)))))))))))
  · exact wSeq (wRaise (wOp1 (wConst ⟨_, rfl, rfl, rfl⟩)))
  · rw [hb] at t; cases t
theorem need_no {v : D} (ev : v.easy = true) (h : ∀ ds, seqOf v = some ds → 1200 < ds.length) : d_need_couples [.int 2, v] = .rs (bad 2 (-1)) [] := by
  refine wf_eqx (wRun rfl ?_)
  unfold b_need_couples
  refine wSeq (wSIf (wTNot (wTBl (wCallF (wCons (wVar rfl (wCons (wConst (wCons (wConst (wNil ⟨_, rfl, wf_ok (is_between_ok rfl) ⟨_, rfl, fun t => ?_, fun t => wSNil ?_⟩⟩)))))))))))
  · simp [betw] at t
  refine wSeq (wSIf (wTOr (wTNot (wTBl (wCallF (wCons (wVar rfl (wNil ⟨_, rfl, wf_ok (is_sequence_ok ev) ⟨_, rfl, fun t => ?_, fun t => ?_⟩⟩))))))))
  · exact ⟨fun _ => wSeq (wRaise (wOp1 (wConst ⟨_, rfl, rfl, rfl⟩))), fun h => by cases h⟩
  · have t : isSq v = true := by simpa using t
    unfold isSq at t
    obtain ⟨ds, hv⟩ := Option.isSome_iff_exists.mp t
    have hl := h ds hv
    refine wTCmp (wCall (wCons (wVar rfl (wNil ⟨_, len_seq hv, wConst ⟨_, rfl, fun t => ?_, fun t => ?_⟩⟩))))
    · exact wSeq (wRaise (wOp1 (wConst ⟨_, rfl, rfl, rfl⟩)))
    · simp at t; omega
def EV (v : D) (e : Sl) : Prop := ∃ (x0 x1 x2 x3 x4 x5 x6 x7 x8 x9 x10 x11 x12 x14 x15 x16 : Option D), e = [x0, x1, x2, x3, x4, x5, x6, x7, x8, x9, x10, x11, x12, some v, x14, x15, x16]
def EA (e : Sl) : Prop := ∃ (x0 x1 x2 x3 x4 x5 x6 x7 x8 x9 x10 x11 x12 x13 x14 x15 x16 : Option D), e = [x0, x1, x2, x3, x4, x5, x6, x7, x8, x9, x10, x11, x12, x13, x14, x15, x16]
theorem d6b {v : D} (hE : EV v e) (ev : v.easy = true) (hb : betw v 0 24 = false) (q : ∀ e, EA e → N e) : ((sSeq (sFor (itSeq (dLst (dCons (dConst (.str "closed")) (dCons (dConst (.str "follows")) dNil)))) (gtName 14) (sSeq (sIf (tNot (tBl (dCallF (d__law_same 8) [none, none] [] [] (dCons (dCallF d__law_asked [none, none, none, none, none] [] [] (dCons (dVar 14) (dCons (dVar 13) (dCons (dConst .non) (dCons (dConst .non) (dCons (dConst .non) dNil)))))) (dCons (dTup (dCons (dConst (.str "count")) (dCons (dOp2 gSub (dConst (.int 0)) (dConst (.int 1))) dNil))) dNil))))) (sSeq (sRet (dConst (.bl false))) sNil) sNil) sNil)) sNil) e).wp N T FF := by
  obtain ⟨x0, x1, x2, x3, x4, x5, x6, x7, x8, x9, x10, x11, x12, x14, x15, x16, rfl⟩ := hE
  obtain ⟨k1, k2⟩ := ask_need (c := .non) (d := .non) hd0 (need_cnt (w := .non) ev hb)
  refine wSeq (wFor (wItSeq (wLst (wCons (wConst (wCons (wConst (wNil ⟨Nat.le_of_ble_eq_true rfl, _, rfl, ?_⟩))))))))
  refine wForCons rfl (wSeq (chk (x := .tup [.str "count", .int (-1)]) (same_err s_count .int) ?_))
  refine wCallF (wCons (wVar rfl (wCons (wVar rfl (wCons (wConst (wCons (wConst (wCons (wConst (wNil ⟨_, rfl, wf_ok k1 ⟨rfl, ?_⟩⟩)))))))))))
  refine wTup (wCons (wConst (wCons (wOp2 (wConst (wConst ⟨_, rfl, wNil ⟨Nat.le_of_ble_eq_true rfl, rfl, wSNil ?_⟩⟩))))))
  refine wForCons rfl (wSeq (chk (x := .tup [.str "count", .int (-1)]) (same_err s_count .int) ?_))
  refine wCallF (wCons (wVar rfl (wCons (wVar rfl (wCons (wConst (wCons (wConst (wCons (wConst (wNil ⟨_, rfl, wf_ok k2 ⟨rfl, ?_⟩⟩)))))))))))
  refine wTup (wCons (wConst (wCons (wOp2 (wConst (wConst ⟨_, rfl, wNil ⟨Nat.le_of_ble_eq_true rfl, rfl, wSNil ?_⟩⟩))))))
  exact wForNil (wSNil (q _ ⟨_, _, _, _, _, _, _, _, _, _, _, _, _, _, _, _, _, rfl⟩))
theorem d7b {v : D} (hE : EV v e) (ev : v.easy = true) (h : ∀ ds, seqOf v = some ds → 1200 < ds.length) (q : ∀ e, EA e → N e) : ((sSeq (sFor (itSeq (dLst (dCons (dConst (.str "closed")) (dCons (dConst (.str "follows")) dNil)))) (gtName 14) (sSeq (sIf (tNot (tBl (dCallF (d__law_same 8) [none, none] [] [] (dCons (dCallF d__law_asked [none, none, none, none, none] [] [] (dCons (dVar 14) (dCons (dConst (.int 2)) (dCons (dVar 13) (dCons (dConst .non) (dCons (dConst .non) dNil)))))) (dCons (dTup (dCons (dConst (.str "couples")) (dCons (dOp2 gSub (dConst (.int 0)) (dConst (.int 1))) dNil))) dNil))))) (sSeq (sRet (dConst (.bl false))) sNil) sNil) sNil)) sNil) e).wp N T FF := by
  obtain ⟨x0, x1, x2, x3, x4, x5, x6, x7, x8, x9, x10, x11, x12, x14, x15, x16, rfl⟩ := hE
  obtain ⟨k1, k2⟩ := ask_need (c := .non) (d := .non) hd2 (need_no ev h)
  refine wSeq (wFor (wItSeq (wLst (wCons (wConst (wCons (wConst (wNil ⟨Nat.le_of_ble_eq_true rfl, _, rfl, ?_⟩))))))))
  refine wForCons rfl (wSeq (chk (x := .tup [.str "couples", .int (-1)]) (same_err s_couples .int) ?_))
  refine wCallF (wCons (wVar rfl (wCons (wConst (wCons (wVar rfl (wCons (wConst (wCons (wConst (wNil ⟨_, rfl, wf_ok k1 ⟨rfl, ?_⟩⟩)))))))))))
  refine wTup (wCons (wConst (wCons (wOp2 (wConst (wConst ⟨_, rfl, wNil ⟨Nat.le_of_ble_eq_true rfl, rfl, wSNil ?_⟩⟩))))))
  refine wForCons rfl (wSeq (chk (x := .tup [.str "couples", .int (-1)]) (same_err s_couples .int) ?_))
  refine wCallF (wCons (wVar rfl (wCons (wConst (wCons (wVar rfl (wCons (wConst (wCons (wConst (wNil ⟨_, rfl, wf_ok k2 ⟨rfl, ?_⟩⟩)))))))))))
  refine wTup (wCons (wConst (wCons (wOp2 (wConst (wConst ⟨_, rfl, wNil ⟨Nat.le_of_ble_eq_true rfl, rfl, wSNil ?_⟩⟩))))))
  exact wForNil (wSNil (q _ ⟨_, _, _, _, _, _, _, _, _, _, _, _, _, _, _, _, _, rfl⟩))
theorem d6 (hE : EA e) (q : ∀ e, EA e → N e) : (lt_6 e).wp N T FF := by
  have hE' := hE
  obtain ⟨x0, x1, x2, x3, x4, x5, x6, x7, x8, x9, x10, x11, x12, x13, x14, x15, x16, rfl⟩ := hE
  refine wFor (wItSeq (wLst ?_))
  (repeat (first | (with_reducible first | refine wSeq ?_ | refine wSIf ?_ | refine wSet ?_ | refine wRet ?_ | refine wExpr ?_ | refine wRaise ?_ | refine wPar ?_ | refine wAsg ?_ | refine wConst ?_ | refine wNil ?_ | refine wCons ?_ | refine wTup ?_ | refine wLst ?_ | refine wCall ?_ | refine wCall1 ?_ | refine wOp1 ?_ | refine wOp2 ?_ | refine wOp3 ?_ | refine wDCmp ?_ | refine wTCmp ?_ | refine wTBl ?_ | refine wTAnd ?_ | refine wTOr ?_ | refine wTNot ?_ | refine wYes ?_ | refine wDAnd ?_ | refine wDOr ?_ | refine wDNot ?_ | refine wDIf ?_ | refine wIs ?_ | refine wIs2 ?_ | refine wCallF ?_ | refine wCallV ?_ | refine wDLen ?_ | refine wItSeq ?_ | refine wItEn ?_ | refine wRng1 ?_ | refine wFor ?_ | refine wLc ?_ | refine wDPart ?_ | refine wNoPart ?_ | refine wSl ?_ | refine wSNil ?_) | ((with_reducible apply wVar); exact rfl) | ((with_reducible apply wMove); exact rfl) | refine ⟨_, rfl, ?_⟩ | refine ⟨Nat.le_of_ble_eq_true rfl, ?_⟩))
  have key : ∀ d ∈ [D.non, .int (-1), .int 25, .bl true, .str "3", .lst [.int 3]], d.easy = true ∧ betw d 0 24 = false := by
    intro d hd
    simp only [List.mem_cons, List.not_mem_nil, or_false] at hd
    rcases hd with rfl | rfl | rfl | rfl | rfl | rfl <;> exact ⟨rfl, rfl⟩
  refine wForI (fun _ e => EA e) (n := 0) ?_ hE' fun e he => q e he
  rintro i d e hd ⟨x0, x1, x2, x3, x4, x5, x6, x7, x8, x9, x10, x11, x12, x13, x14, x15, x16, rfl⟩
  obtain ⟨k1, k2⟩ := key d (List.mem_of_getElem? hd)
  exact ⟨_, rfl, d6b ⟨_, _, _, _, _, _, _, _, _, _, _, _, _, _, _, _, rfl⟩ k1 k2 fun e h => h⟩
theorem rep_len {k : Nat} {x : D} : (repN k [x]).length = k := by
  unfold repN
  simp
theorem rep_big {x : D} : gRep (.lst [x]) (.int 1201) = some (.lst (repN 1201 [x])) := by
  have e : (decide ((-9223372036854775808 : Int) ≤ (1201 : Int)) && decide ((1201 : Int) < 9223372036854775808) && decide ([x].length * (1201 : Int).toNat ≤ line)) = true := rfl
  show (if (decide ((-9223372036854775808 : Int) ≤ (1201 : Int)) && decide ((1201 : Int) < 9223372036854775808) && decide ([x].length * (1201 : Int).toNat ≤ line)) = true then some (D.lst (repN (1201 : Int).toNat [x])) else none) = _
  rw [if_pos e]
  rfl
theorem d7 (hE : EA e) (q : ∀ e, EA e → N e) : (lt_7 e).wp N T FF := by
  have hE' := hE
  obtain ⟨x0, x1, x2, x3, x4, x5, x6, x7, x8, x9, x10, x11, x12, x13, x14, x15, x16, rfl⟩ := hE
  refine wFor (wItSeq (wLst (wCons (wConst (wCons (wConst (wCons (wConst (wCons (wOp2 (wLst (wCons (wTup (wCons (wTup ?_)))))))))))))))
  refine wCons (wConst (wCons (wConst (wNil ⟨Nat.le_of_ble_eq_true rfl, ?_⟩))))
  refine wCons (wTup (wCons (wConst (wCons (wConst (wNil ⟨Nat.le_of_ble_eq_true rfl, wNil ⟨Nat.le_of_ble_eq_true rfl, wNil ⟨Nat.le_of_ble_eq_true rfl, ?_⟩⟩⟩))))))
  refine wConst ⟨_, rep_big, wNil ⟨Nat.le_of_ble_eq_true rfl, _, rfl, ?_⟩⟩
  have key : ∀ d ∈ [D.non, .int 3, .str "couples", .lst (repN 1201 [.tup [.tup [.int 0, .int 0], .tup [.int 1, .int 1]]])], d.easy = true ∧ ∀ ds, seqOf d = some ds → 1200 < ds.length := by
    intro d hd
    simp only [List.mem_cons, List.not_mem_nil, or_false] at hd
    rcases hd with rfl | rfl | rfl | rfl
    · exact ⟨rfl, fun _ h => by cases h⟩
    · exact ⟨rfl, fun _ h => by cases h⟩
    · exact ⟨rfl, fun _ h => by cases h⟩
    · refine ⟨rfl, fun ds h => ?_⟩
      have h : some (repN 1201 [D.tup [.tup [.int 0, .int 0], .tup [.int 1, .int 1]]]) = some ds := h
      cases h
      rw [rep_len]; omega
  refine wForI (fun _ e => EA e) (n := 0) ?_ hE' fun e he => q e he
  rintro i d e hd ⟨x0, x1, x2, x3, x4, x5, x6, x7, x8, x9, x10, x11, x12, x13, x14, x15, x16, rfl⟩
  obtain ⟨k1, k2⟩ := key d (List.mem_of_getElem? hd)
  exact ⟨_, rfl, d7b ⟨_, _, _, _, _, _, _, _, _, _, _, _, _, _, _, _, rfl⟩ k1 k2 fun e h => h⟩
theorem EF.ea (h : EF e) : EA e := by
  obtain ⟨x0, x1, x2, x3, x4, x5, x6, x7, x8, x9, x10, x11, x12, x13, x14, x16, rfl⟩ := h
  exact ⟨_, _, _, _, _, _, _, _, _, _, _, _, _, _, _, _, _, rfl⟩
end
theorem law_wp {ns : List Int} (hl : ns.length ≤ 63) : (d_law [.lst (ns.map D.int)]).wp (fun d _ => d = .bl true) fun _ _ => False := by
  refine wRun rfl ?_
  unfold b_law
  refine wSeq (wSet (wCallF (wCons (wVar rfl (wNil ⟨_, rfl, ?_⟩)))))
  refine wf_mono (law_box_ok hl) ?_ fun _ _ h => h
  intro d os hb
  refine wSeq (loopAll ⟨_, _, _, _, _, _, _, _, _, _, _, _, _, _, _, _, _, hb, rfl⟩ fun e hE => ?_)
  refine wSeq (d2 hE fun e hE => ?_)
  refine wSeq (d3 hE fun e hE => ?_)
  refine wSeq (d4 hE fun e hE => ?_)
  refine wSeq (d5 hE fun e hE => ?_)
  refine wSeq (d6 hE.ea fun e hE => ?_)
  refine wSeq (d7 hE fun e hE => ?_)
  exact wSeq (wRet (wConst rfl))
theorem law_ok_ {ns : List Int} (hl : ns.length ≤ 63) : ∃ os, d_law [.lst (ns.map D.int)] = .ok (.bl true) os := by
  obtain ⟨h⟩ := law_wp hl
  revert h
  cases d_law [.lst (ns.map D.int)] with
  | ok d e => rintro rfl; exact ⟨_, rfl⟩
  | rs d e => exact False.elim
  | er => exact False.elim
open PySem.Spec L2 in
open PyProof.Rows hiding St in
theorem law_true {K : PySem.W.Frag} {cl : Nat → Addr} {H : Hp} {a : Addr} {ns : List Int} (hl : ns.length ≤ 63) (hO : Only H) (hS : SqL K H a (ns.map V.int)) : spF K cl (shOf []) [] .fz 1 d_law [.ref a] H (fun v _ => v = .bl true) fun _ _ _ => False := by
  obtain ⟨os, h⟩ := law_ok_ hl
  exact law_sp hO hS h
end Hk
namespace Hk
open PySem PySem.Spec L2 FL
open PyProof.Rows hiding St
theorem exm_of {K : PySem.W.Frag} {C S : Addr} {b : Bool} (h1 : PySem.W.subIn K (.ref C) (.type "BaseException") = some true) (h2 : PySem.W.isClsIn K S = true) (h3 : PySem.W.typeIn K (.ref S) = some (.type "type")) (h4 : PySem.W.subIn K (.ref C) (.ref S) = some b) (h5 : PySem.W.subIn K (.ref S) (.type "BaseException") = some true) :
    PySem.W.exmOne K (.ref C) (.ref S) = some b := by
  have e1 : (PySem.W.subIn K (.ref S) (.type "BaseException") == some true) = true := by rw [h5] <;> rfl
  have e2 : ((PySem.W.clsIn K S).isSome && PySem.W.typeIn K (.ref S) == some (.type "type")) = true := by
    have z : (PySem.W.clsIn K S).isSome = true := h2
    rw [z, h3] <;> rfl
  show (if (PySem.W.subIn K (.ref S) (.type "BaseException") == some true) = true then (if ((PySem.W.clsIn K S).isSome && PySem.W.typeIn K (.ref S) == some (.type "type")) = true then PySem.W.subIn K (.ref C) (.ref S) else none) else none) = some b
  rw [if_pos e1, if_pos e2]
  exact h4
def spLaw (K : PySem.W.Frag) : Sp := fun vs H Q E => ∀ cl, spF K cl (shOf []) [] .fz 1 d_law vs H Q E
theorem all_mk {w : World} {K : PySem.W.Frag} {h : Heap} {mg : Str → Option Value} {fa : Addr} (X : K.In h) (G : h.Ns mainGlobals mg) (hfa : mg "law" = some (.ref fa))
    {oc_0 kV_0 dc_0 pm_0 cd_0 ct_0 : Value} {od_0 an_0 : Option Addr} {sl_0 : Array (Option Value)} {f_0 : Addr}
    {oc_1 kV_1 dc_1 pm_1 cd_1 ct_1 : Value} {od_1 an_1 : Option Addr} {sl_1 : Array (Option Value)} {f_1 : Addr}
    {oc_2 kV_2 dc_2 pm_2 cd_2 ct_2 : Value} {od_2 an_2 : Option Addr} {sl_2 : Array (Option Value)} {f_2 : Addr}
    {oc_3 kV_3 dc_3 pm_3 cd_3 ct_3 : Value} {od_3 an_3 : Option Addr} {sl_3 : Array (Option Value)} {f_3 : Addr}
    {oc_4 kV_4 dc_4 pm_4 cd_4 ct_4 : Value} {od_4 an_4 : Option Addr} {sl_4 : Array (Option Value)} {f_4 : Addr}
    {oc_5 kV_5 dc_5 pm_5 cd_5 ct_5 : Value} {od_5 an_5 : Option Addr} {sl_5 : Array (Option Value)} {f_5 : Addr}
    {oc_6 kV_6 dc_6 pm_6 cd_6 ct_6 : Value} {od_6 an_6 : Option Addr} {sl_6 : Array (Option Value)} {f_6 : Addr}
    {oc_7 kV_7 dc_7 pm_7 cd_7 ct_7 : Value} {od_7 an_7 : Option Addr} {sl_7 : Array (Option Value)} {f_7 : Addr}
    {oc_8 kV_8 dc_8 pm_8 cd_8 ct_8 : Value} {od_8 an_8 : Option Addr} {sl_8 : Array (Option Value)} {f_8 : Addr}
    {oc_9 kV_9 dc_9 pm_9 cd_9 ct_9 : Value} {od_9 an_9 : Option Addr} {sl_9 : Array (Option Value)} {f_9 : Addr}
    {oc_10 kV_10 dc_10 pm_10 cd_10 ct_10 : Value} {od_10 an_10 : Option Addr} {sl_10 : Array (Option Value)} {f_10 : Addr}
    {oc_11 kV_11 dc_11 pm_11 cd_11 ct_11 : Value} {od_11 an_11 : Option Addr} {sl_11 : Array (Option Value)} {f_11 : Addr}
    {oc_12 kV_12 dc_12 pm_12 cd_12 ct_12 : Value} {od_12 an_12 : Option Addr} {sl_12 : Array (Option Value)} {f_12 : Addr}
    {oc_13 kV_13 dc_13 pm_13 cd_13 ct_13 : Value} {od_13 an_13 : Option Addr} {sl_13 : Array (Option Value)} {f_13 : Addr}
    {oc_14 kV_14 dc_14 pm_14 cd_14 ct_14 : Value} {od_14 an_14 : Option Addr} {sl_14 : Array (Option Value)} {f_14 : Addr}
    {oc_15 kV_15 dc_15 pm_15 cd_15 ct_15 : Value} {od_15 an_15 : Option Addr} {sl_15 : Array (Option Value)} {f_15 : Addr}
    {oc_16 kV_16 dc_16 pm_16 cd_16 ct_16 : Value} {od_16 an_16 : Option Addr} {sl_16 : Array (Option Value)} {f_16 : Addr}
    {oc_17 kV_17 dc_17 pm_17 cd_17 ct_17 : Value} {od_17 an_17 : Option Addr} {sl_17 : Array (Option Value)} {f_17 : Addr}
    {oc_18 kV_18 dc_18 pm_18 cd_18 ct_18 : Value} {od_18 an_18 : Option Addr} {sl_18 : Array (Option Value)} {f_18 : Addr}
    {oc_19 kV_19 dc_19 pm_19 cd_19 ct_19 : Value} {od_19 an_19 : Option Addr} {sl_19 : Array (Option Value)} {f_19 : Addr}
    {oc_20 kV_20 dc_20 pm_20 cd_20 ct_20 : Value} {od_20 an_20 : Option Addr} {sl_20 : Array (Option Value)} {f_20 : Addr}
    {oc_21 kV_21 dc_21 pm_21 cd_21 ct_21 : Value} {od_21 an_21 : Option Addr} {sl_21 : Array (Option Value)} {f_21 : Addr}
    {oc_22 kV_22 dc_22 pm_22 cd_22 ct_22 : Value} {od_22 an_22 : Option Addr} {sl_22 : Array (Option Value)} {f_22 : Addr}
    {oc_23 kV_23 dc_23 pm_23 cd_23 ct_23 : Value} {od_23 an_23 : Option Addr} {sl_23 : Array (Option Value)} {f_23 : Addr}
    {oc_24 kV_24 dc_24 pm_24 cd_24 ct_24 : Value} {od_24 an_24 : Option Addr} {sl_24 : Array (Option Value)} {f_24 : Addr}
    {oc_25 kV_25 dc_25 pm_25 cd_25 ct_25 : Value} {od_25 an_25 : Option Addr} {sl_25 : Array (Option Value)} {f_25 : Addr}
    {oc_26 kV_26 dc_26 pm_26 cd_26 ct_26 : Value} {od_26 an_26 : Option Addr} {sl_26 : Array (Option Value)} {f_26 : Addr}
    {oc_27 kV_27 dc_27 pm_27 cd_27 ct_27 : Value} {od_27 an_27 : Option Addr} {sl_27 : Array (Option Value)} {f_27 : Addr}
    {oc_28 kV_28 dc_28 pm_28 cd_28 ct_28 : Value} {od_28 an_28 : Option Addr} {sl_28 : Array (Option Value)} {f_28 : Addr}
    {oc_29 kV_29 dc_29 pm_29 cd_29 ct_29 : Value} {od_29 an_29 : Option Addr} {sl_29 : Array (Option Value)} {f_29 : Addr}
    {oc_30 kV_30 dc_30 pm_30 cd_30 ct_30 : Value} {od_30 an_30 : Option Addr} {sl_30 : Array (Option Value)} {f_30 : Addr}
    {oc_31 kV_31 dc_31 pm_31 cd_31 ct_31 : Value} {od_31 an_31 : Option Addr} {sl_31 : Array (Option Value)} {f_31 : Addr}
    {oc_32 kV_32 dc_32 pm_32 cd_32 ct_32 : Value} {od_32 an_32 : Option Addr} {sl_32 : Array (Option Value)} {f_32 : Addr}
    {oc_33 kV_33 dc_33 pm_33 cd_33 ct_33 : Value} {od_33 an_33 : Option Addr} {sl_33 : Array (Option Value)} {f_33 : Addr}
    {oc_34 kV_34 dc_34 pm_34 cd_34 ct_34 : Value} {od_34 an_34 : Option Addr} {sl_34 : Array (Option Value)} {f_34 : Addr}
    {oc_35 kV_35 dc_35 pm_35 cd_35 ct_35 : Value} {od_35 an_35 : Option Addr} {sl_35 : Array (Option Value)} {f_35 : Addr}
    {oc_36 kV_36 dc_36 pm_36 cd_36 ct_36 : Value} {od_36 an_36 : Option Addr} {sl_36 : Array (Option Value)} {f_36 : Addr}
    {oc_37 kV_37 dc_37 pm_37 cd_37 ct_37 : Value} {od_37 an_37 : Option Addr} {sl_37 : Array (Option Value)} {f_37 : Addr}
    {C_0 fI_0 cda_0 cc_0 : Addr} {xoc_0 xdc_0 xpm_0 xct_0 yc_0 zc_0 : Value} {xod_0 xan_0 yd_0 zd_0 : Option Addr} {xsl_0 ysl_0 zsl_0 : Array (Option Value)} {yv_0 : Array Value} {fl_0 : Str} {ft_0 : Tok}
    {C_1 fI_1 cda_1 cc_1 : Addr} {xoc_1 xdc_1 xpm_1 xct_1 yc_1 zc_1 : Value} {xod_1 xan_1 yd_1 zd_1 : Option Addr} {xsl_1 ysl_1 zsl_1 : Array (Option Value)} {yv_1 : Array Value} {fl_1 : Str} {ft_1 : Tok}
    {C_2 fI_2 cda_2 cc_2 : Addr} {xoc_2 xdc_2 xpm_2 xct_2 yc_2 zc_2 : Value} {xod_2 xan_2 yd_2 zd_2 : Option Addr} {xsl_2 ysl_2 zsl_2 : Array (Option Value)} {yv_2 : Array Value} {fl_2 : Str} {ft_2 : Tok}
    {C_3 fI_3 cda_3 cc_3 : Addr} {xoc_3 xdc_3 xpm_3 xct_3 yc_3 zc_3 : Value} {xod_3 xan_3 yd_3 zd_3 : Option Addr} {xsl_3 ysl_3 zsl_3 : Array (Option Value)} {yv_3 : Array Value} {fl_3 : Str} {ft_3 : Tok}
    {k_MOST_HEDGES : Tok}
    {k_MOST_COUPLES : Tok}
    (a_0 : PySem.W.nsIn K mainGlobals "is_integer" = some (some (.ref f_0)))
    (l_0 : K.lookup f_0 = some ⟨oc_0, od_0, .func (PySem.W.fnOf "is_integer" "is_integer" (defArgs s_is_integer) (defBody s_is_integer) (defScope s_is_integer) .none kV_0 dc_0 pm_0 an_0 cd_0 ct_0), sl_0⟩)
    (c_0 : PySem.W.codeIn K cd_0 "is_integer" = true)
    (k_0 : PySem.W.keepIn K (.ref f_0) = true)
    (a_1 : PySem.W.nsIn K mainGlobals "is_below" = some (some (.ref f_1)))
    (l_1 : K.lookup f_1 = some ⟨oc_1, od_1, .func (PySem.W.fnOf "is_below" "is_below" (defArgs s_is_below) (defBody s_is_below) (defScope s_is_below) .none kV_1 dc_1 pm_1 an_1 cd_1 ct_1), sl_1⟩)
    (c_1 : PySem.W.codeIn K cd_1 "is_below" = true)
    (k_1 : PySem.W.keepIn K (.ref f_1) = true)
    (a_2 : PySem.W.nsIn K mainGlobals "is_between" = some (some (.ref f_2)))
    (l_2 : K.lookup f_2 = some ⟨oc_2, od_2, .func (PySem.W.fnOf "is_between" "is_between" (defArgs s_is_between) (defBody s_is_between) (defScope s_is_between) .none kV_2 dc_2 pm_2 an_2 cd_2 ct_2), sl_2⟩)
    (c_2 : PySem.W.codeIn K cd_2 "is_between" = true)
    (k_2 : PySem.W.keepIn K (.ref f_2) = true)
    (a_3 : PySem.W.nsIn K mainGlobals "is_sequence" = some (some (.ref f_3)))
    (l_3 : K.lookup f_3 = some ⟨oc_3, od_3, .func (PySem.W.fnOf "is_sequence" "is_sequence" (defArgs s_is_sequence) (defBody s_is_sequence) (defScope s_is_sequence) .none kV_3 dc_3 pm_3 an_3 cd_3 ct_3), sl_3⟩)
    (c_3 : PySem.W.codeIn K cd_3 "is_sequence" = true)
    (k_3 : PySem.W.keepIn K (.ref f_3) = true)
    (a_4 : PySem.W.nsIn K mainGlobals "is_row_of" = some (some (.ref f_4)))
    (l_4 : K.lookup f_4 = some ⟨oc_4, od_4, .func (PySem.W.fnOf "is_row_of" "is_row_of" (defArgs s_is_row_of) (defBody s_is_row_of) (defScope s_is_row_of) .none kV_4 dc_4 pm_4 an_4 cd_4 ct_4), sl_4⟩)
    (c_4 : PySem.W.codeIn K cd_4 "is_row_of" = true)
    (k_4 : PySem.W.keepIn K (.ref f_4) = true)
    (a_5 : PySem.W.nsIn K mainGlobals "side_number" = some (some (.ref f_5)))
    (l_5 : K.lookup f_5 = some ⟨oc_5, od_5, .func (PySem.W.fnOf "side_number" "side_number" (defArgs s_side_number) (defBody s_side_number) (defScope s_side_number) .none kV_5 dc_5 pm_5 an_5 cd_5 ct_5), sl_5⟩)
    (c_5 : PySem.W.codeIn K cd_5 "side_number" = true)
    (k_5 : PySem.W.keepIn K (.ref f_5) = true)
    (a_6 : PySem.W.nsIn K mainGlobals "side_of" = some (some (.ref f_6)))
    (l_6 : K.lookup f_6 = some ⟨oc_6, od_6, .func (PySem.W.fnOf "side_of" "side_of" (defArgs s_side_of) (defBody s_side_of) (defScope s_side_of) .none kV_6 dc_6 pm_6 an_6 cd_6 ct_6), sl_6⟩)
    (c_6 : PySem.W.codeIn K cd_6 "side_of" = true)
    (k_6 : PySem.W.keepIn K (.ref f_6) = true)
    (a_7 : PySem.W.nsIn K mainGlobals "is_side" = some (some (.ref f_7)))
    (l_7 : K.lookup f_7 = some ⟨oc_7, od_7, .func (PySem.W.fnOf "is_side" "is_side" (defArgs s_is_side) (defBody s_is_side) (defScope s_is_side) .none kV_7 dc_7 pm_7 an_7 cd_7 ct_7), sl_7⟩)
    (c_7 : PySem.W.codeIn K cd_7 "is_side" = true)
    (k_7 : PySem.W.keepIn K (.ref f_7) = true)
    (a_8 : PySem.W.nsIn K mainGlobals "need_side" = some (some (.ref f_8)))
    (l_8 : K.lookup f_8 = some ⟨oc_8, od_8, .func (PySem.W.fnOf "need_side" "need_side" (defArgs s_need_side) (defBody s_need_side) (defScope s_need_side) .none kV_8 dc_8 pm_8 an_8 cd_8 ct_8), sl_8⟩)
    (c_8 : PySem.W.codeIn K cd_8 "need_side" = true)
    (k_8 : PySem.W.keepIn K (.ref f_8) = true)
    (a_9 : PySem.W.nsIn K mainGlobals "is_couple" = some (some (.ref f_9)))
    (l_9 : K.lookup f_9 = some ⟨oc_9, od_9, .func (PySem.W.fnOf "is_couple" "is_couple" (defArgs s_is_couple) (defBody s_is_couple) (defScope s_is_couple) .none kV_9 dc_9 pm_9 an_9 cd_9 ct_9), sl_9⟩)
    (c_9 : PySem.W.codeIn K cd_9 "is_couple" = true)
    (k_9 : PySem.W.keepIn K (.ref f_9) = true)
    (a_10 : PySem.W.nsIn K mainGlobals "need_couples" = some (some (.ref f_10)))
    (l_10 : K.lookup f_10 = some ⟨oc_10, od_10, .func (PySem.W.fnOf "need_couples" "need_couples" (defArgs s_need_couples) (defBody s_need_couples) (defScope s_need_couples) .none kV_10 dc_10 pm_10 an_10 cd_10 ct_10), sl_10⟩)
    (c_10 : PySem.W.codeIn K cd_10 "need_couples" = true)
    (k_10 : PySem.W.keepIn K (.ref f_10) = true)
    (a_11 : PySem.W.nsIn K mainGlobals "brought" = some (some (.ref f_11)))
    (l_11 : K.lookup f_11 = some ⟨oc_11, od_11, .func (PySem.W.fnOf "brought" "brought" (defArgs s_brought) (defBody s_brought) (defScope s_brought) .none kV_11 dc_11 pm_11 an_11 cd_11 ct_11), sl_11⟩)
    (c_11 : PySem.W.codeIn K cd_11 "brought" = true)
    (k_11 : PySem.W.keepIn K (.ref f_11) = true)
    (a_12 : PySem.W.nsIn K mainGlobals "led_table" = some (some (.ref f_12)))
    (l_12 : K.lookup f_12 = some ⟨oc_12, od_12, .func (PySem.W.fnOf "led_table" "led_table" (defArgs s_led_table) (defBody s_led_table) (defScope s_led_table) .none kV_12 dc_12 pm_12 an_12 cd_12 ct_12), sl_12⟩)
    (c_12 : PySem.W.codeIn K cd_12 "led_table" = true)
    (k_12 : PySem.W.keepIn K (.ref f_12) = true)
    (a_13 : PySem.W.nsIn K mainGlobals "numbers_of" = some (some (.ref f_13)))
    (l_13 : K.lookup f_13 = some ⟨oc_13, od_13, .func (PySem.W.fnOf "numbers_of" "numbers_of" (defArgs s_numbers_of) (defBody s_numbers_of) (defScope s_numbers_of) .none kV_13 dc_13 pm_13 an_13 cd_13 ct_13), sl_13⟩)
    (c_13 : PySem.W.codeIn K cd_13 "numbers_of" = true)
    (k_13 : PySem.W.keepIn K (.ref f_13) = true)
    (a_14 : PySem.W.nsIn K mainGlobals "exchanged" = some (some (.ref f_14)))
    (l_14 : K.lookup f_14 = some ⟨oc_14, od_14, .func (PySem.W.fnOf "exchanged" "exchanged" (defArgs s_exchanged) (defBody s_exchanged) (defScope s_exchanged) .none kV_14 dc_14 pm_14 an_14 cd_14 ct_14), sl_14⟩)
    (c_14 : PySem.W.codeIn K cd_14 "exchanged" = true)
    (k_14 : PySem.W.keepIn K (.ref f_14) = true)
    (a_15 : PySem.W.nsIn K mainGlobals "closed_table" = some (some (.ref f_15)))
    (l_15 : K.lookup f_15 = some ⟨oc_15, od_15, .func (PySem.W.fnOf "closed_table" "closed_table" (defArgs s_closed_table) (defBody s_closed_table) (defScope s_closed_table) .none kV_15 dc_15 pm_15 an_15 cd_15 ct_15), sl_15⟩)
    (c_15 : PySem.W.codeIn K cd_15 "closed_table" = true)
    (k_15 : PySem.W.keepIn K (.ref f_15) = true)
    (a_16 : PySem.W.nsIn K mainGlobals "couples_told" = some (some (.ref f_16)))
    (l_16 : K.lookup f_16 = some ⟨oc_16, od_16, .func (PySem.W.fnOf "couples_told" "couples_told" (defArgs s_couples_told) (defBody s_couples_told) (defScope s_couples_told) .none kV_16 dc_16 pm_16 an_16 cd_16 ct_16), sl_16⟩)
    (c_16 : PySem.W.codeIn K cd_16 "couples_told" = true)
    (k_16 : PySem.W.keepIn K (.ref f_16) = true)
    (a_17 : PySem.W.nsIn K mainGlobals "closed_couples" = some (some (.ref f_17)))
    (l_17 : K.lookup f_17 = some ⟨oc_17, od_17, .func (PySem.W.fnOf "closed_couples" "closed_couples" (defArgs s_closed_couples) (defBody s_closed_couples) (defScope s_closed_couples) .none kV_17 dc_17 pm_17 an_17 cd_17 ct_17), sl_17⟩)
    (c_17 : PySem.W.codeIn K cd_17 "closed_couples" = true)
    (k_17 : PySem.W.keepIn K (.ref f_17) = true)
    (a_18 : PySem.W.nsIn K mainGlobals "need_question" = some (some (.ref f_18)))
    (l_18 : K.lookup f_18 = some ⟨oc_18, od_18, .func (PySem.W.fnOf "need_question" "need_question" (defArgs s_need_question) (defBody s_need_question) (defScope s_need_question) .none kV_18 dc_18 pm_18 an_18 cd_18 ct_18), sl_18⟩)
    (c_18 : PySem.W.codeIn K cd_18 "need_question" = true)
    (k_18 : PySem.W.keepIn K (.ref f_18) = true)
    (a_19 : PySem.W.nsIn K mainGlobals "follows" = some (some (.ref f_19)))
    (l_19 : K.lookup f_19 = some ⟨oc_19, od_19, .func (PySem.W.fnOf "follows" "follows" (defArgs s_follows) (defBody s_follows) (defScope s_follows) .none kV_19 dc_19 pm_19 an_19 cd_19 ct_19), sl_19⟩)
    (c_19 : PySem.W.codeIn K cd_19 "follows" = true)
    (k_19 : PySem.W.keepIn K (.ref f_19) = true)
    (a_20 : PySem.W.nsIn K mainGlobals "_law_box" = some (some (.ref f_20)))
    (l_20 : K.lookup f_20 = some ⟨oc_20, od_20, .func (PySem.W.fnOf "_law_box" "_law_box" (defArgs s__law_box) (defBody s__law_box) (defScope s__law_box) .none kV_20 dc_20 pm_20 an_20 cd_20 ct_20), sl_20⟩)
    (c_20 : PySem.W.codeIn K cd_20 "_law_box" = true)
    (k_20 : PySem.W.keepIn K (.ref f_20) = true)
    (a_21 : PySem.W.nsIn K mainGlobals "_law_draw" = some (some (.ref f_21)))
    (l_21 : K.lookup f_21 = some ⟨oc_21, od_21, .func (PySem.W.fnOf "_law_draw" "_law_draw" (defArgs s__law_draw) (defBody s__law_draw) (defScope s__law_draw) .none kV_21 dc_21 pm_21 an_21 cd_21 ct_21), sl_21⟩)
    (c_21 : PySem.W.codeIn K cd_21 "_law_draw" = true)
    (k_21 : PySem.W.keepIn K (.ref f_21) = true)
    (a_22 : PySem.W.nsIn K mainGlobals "_law_pick" = some (some (.ref f_22)))
    (l_22 : K.lookup f_22 = some ⟨oc_22, od_22, .func (PySem.W.fnOf "_law_pick" "_law_pick" (defArgs s__law_pick) (defBody s__law_pick) (defScope s__law_pick) .none kV_22 dc_22 pm_22 an_22 cd_22 ct_22), sl_22⟩)
    (c_22 : PySem.W.codeIn K cd_22 "_law_pick" = true)
    (k_22 : PySem.W.keepIn K (.ref f_22) = true)
    (a_23 : PySem.W.nsIn K mainGlobals "_law_tells" = some (some (.ref f_23)))
    (l_23 : K.lookup f_23 = some ⟨oc_23, od_23, .func (PySem.W.fnOf "_law_tells" "_law_tells" (defArgs s__law_tells) (defBody s__law_tells) (defScope s__law_tells) .none kV_23 dc_23 pm_23 an_23 cd_23 ct_23), sl_23⟩)
    (c_23 : PySem.W.codeIn K cd_23 "_law_tells" = true)
    (k_23 : PySem.W.keepIn K (.ref f_23) = true)
    (a_24 : PySem.W.nsIn K mainGlobals "_law_is_int" = some (some (.ref f_24)))
    (l_24 : K.lookup f_24 = some ⟨oc_24, od_24, .func (PySem.W.fnOf "_law_is_int" "_law_is_int" (defArgs s__law_is_int) (defBody s__law_is_int) (defScope s__law_is_int) .none kV_24 dc_24 pm_24 an_24 cd_24 ct_24), sl_24⟩)
    (c_24 : PySem.W.codeIn K cd_24 "_law_is_int" = true)
    (k_24 : PySem.W.keepIn K (.ref f_24) = true)
    (a_25 : PySem.W.nsIn K mainGlobals "_law_place" = some (some (.ref f_25)))
    (l_25 : K.lookup f_25 = some ⟨oc_25, od_25, .func (PySem.W.fnOf "_law_place" "_law_place" (defArgs s__law_place) (defBody s__law_place) (defScope s__law_place) .none kV_25 dc_25 pm_25 an_25 cd_25 ct_25), sl_25⟩)
    (c_25 : PySem.W.codeIn K cd_25 "_law_place" = true)
    (k_25 : PySem.W.keepIn K (.ref f_25) = true)
    (a_26 : PySem.W.nsIn K mainGlobals "_law_loose" = some (some (.ref f_26)))
    (l_26 : K.lookup f_26 = some ⟨oc_26, od_26, .func (PySem.W.fnOf "_law_loose" "_law_loose" (defArgs s__law_loose) (defBody s__law_loose) (defScope s__law_loose) .none kV_26 dc_26 pm_26 an_26 cd_26 ct_26), sl_26⟩)
    (c_26 : PySem.W.codeIn K cd_26 "_law_loose" = true)
    (k_26 : PySem.W.keepIn K (.ref f_26) = true)
    (a_27 : PySem.W.nsIn K mainGlobals "_law_same" = some (some (.ref f_27)))
    (l_27 : K.lookup f_27 = some ⟨oc_27, od_27, .func (PySem.W.fnOf "_law_same" "_law_same" (defArgs s__law_same) (defBody s__law_same) (defScope s__law_same) .none kV_27 dc_27 pm_27 an_27 cd_27 ct_27), sl_27⟩)
    (c_27 : PySem.W.codeIn K cd_27 "_law_same" = true)
    (k_27 : PySem.W.keepIn K (.ref f_27) = true)
    (a_28 : PySem.W.nsIn K mainGlobals "_law_rows" = some (some (.ref f_28)))
    (l_28 : K.lookup f_28 = some ⟨oc_28, od_28, .func (PySem.W.fnOf "_law_rows" "_law_rows" (defArgs s__law_rows) (defBody s__law_rows) (defScope s__law_rows) .none kV_28 dc_28 pm_28 an_28 cd_28 ct_28), sl_28⟩)
    (c_28 : PySem.W.codeIn K cd_28 "_law_rows" = true)
    (k_28 : PySem.W.keepIn K (.ref f_28) = true)
    (a_29 : PySem.W.nsIn K mainGlobals "_law_sides" = some (some (.ref f_29)))
    (l_29 : K.lookup f_29 = some ⟨oc_29, od_29, .func (PySem.W.fnOf "_law_sides" "_law_sides" (defArgs s__law_sides) (defBody s__law_sides) (defScope s__law_sides) .none kV_29 dc_29 pm_29 an_29 cd_29 ct_29), sl_29⟩)
    (c_29 : PySem.W.codeIn K cd_29 "_law_sides" = true)
    (k_29 : PySem.W.keepIn K (.ref f_29) = true)
    (a_30 : PySem.W.nsIn K mainGlobals "_law_pairs" = some (some (.ref f_30)))
    (l_30 : K.lookup f_30 = some ⟨oc_30, od_30, .func (PySem.W.fnOf "_law_pairs" "_law_pairs" (defArgs s__law_pairs) (defBody s__law_pairs) (defScope s__law_pairs) .none kV_30 dc_30 pm_30 an_30 cd_30 ct_30), sl_30⟩)
    (c_30 : PySem.W.codeIn K cd_30 "_law_pairs" = true)
    (k_30 : PySem.W.keepIn K (.ref f_30) = true)
    (a_31 : PySem.W.nsIn K mainGlobals "_law_has" = some (some (.ref f_31)))
    (l_31 : K.lookup f_31 = some ⟨oc_31, od_31, .func (PySem.W.fnOf "_law_has" "_law_has" (defArgs s__law_has) (defBody s__law_has) (defScope s__law_has) .none kV_31 dc_31 pm_31 an_31 cd_31 ct_31), sl_31⟩)
    (c_31 : PySem.W.codeIn K cd_31 "_law_has" = true)
    (k_31 : PySem.W.keepIn K (.ref f_31) = true)
    (a_32 : PySem.W.nsIn K mainGlobals "_law_has_both" = some (some (.ref f_32)))
    (l_32 : K.lookup f_32 = some ⟨oc_32, od_32, .func (PySem.W.fnOf "_law_has_both" "_law_has_both" (defArgs s__law_has_both) (defBody s__law_has_both) (defScope s__law_has_both) .none kV_32 dc_32 pm_32 an_32 cd_32 ct_32), sl_32⟩)
    (c_32 : PySem.W.codeIn K cd_32 "_law_has_both" = true)
    (k_32 : PySem.W.keepIn K (.ref f_32) = true)
    (a_33 : PySem.W.nsIn K mainGlobals "_law_couples" = some (some (.ref f_33)))
    (l_33 : K.lookup f_33 = some ⟨oc_33, od_33, .func (PySem.W.fnOf "_law_couples" "_law_couples" (defArgs s__law_couples) (defBody s__law_couples) (defScope s__law_couples) .none kV_33 dc_33 pm_33 an_33 cd_33 ct_33), sl_33⟩)
    (c_33 : PySem.W.codeIn K cd_33 "_law_couples" = true)
    (k_33 : PySem.W.keepIn K (.ref f_33) = true)
    (a_34 : PySem.W.nsIn K mainGlobals "_law_without" = some (some (.ref f_34)))
    (l_34 : K.lookup f_34 = some ⟨oc_34, od_34, .func (PySem.W.fnOf "_law_without" "_law_without" (defArgs s__law_without) (defBody s__law_without) (defScope s__law_without) .none kV_34 dc_34 pm_34 an_34 cd_34 ct_34), sl_34⟩)
    (c_34 : PySem.W.codeIn K cd_34 "_law_without" = true)
    (k_34 : PySem.W.keepIn K (.ref f_34) = true)
    (a_35 : PySem.W.nsIn K mainGlobals "_law_told_of" = some (some (.ref f_35)))
    (l_35 : K.lookup f_35 = some ⟨oc_35, od_35, .func (PySem.W.fnOf "_law_told_of" "_law_told_of" (defArgs s__law_told_of) (defBody s__law_told_of) (defScope s__law_told_of) .none kV_35 dc_35 pm_35 an_35 cd_35 ct_35), sl_35⟩)
    (c_35 : PySem.W.codeIn K cd_35 "_law_told_of" = true)
    (k_35 : PySem.W.keepIn K (.ref f_35) = true)
    (a_36 : PySem.W.nsIn K mainGlobals "_law_asked" = some (some (.ref f_36)))
    (l_36 : K.lookup f_36 = some ⟨oc_36, od_36, .func (PySem.W.fnOf "_law_asked" "_law_asked" (defArgs s__law_asked) (defBody s__law_asked) (defScope s__law_asked) .none kV_36 dc_36 pm_36 an_36 cd_36 ct_36), sl_36⟩)
    (c_36 : PySem.W.codeIn K cd_36 "_law_asked" = true)
    (k_36 : PySem.W.keepIn K (.ref f_36) = true)
    (a_37 : PySem.W.nsIn K mainGlobals "law" = some (some (.ref f_37)))
    (l_37 : K.lookup f_37 = some ⟨oc_37, od_37, .func (PySem.W.fnOf "law" "law" (defArgs s_law) (defBody s_law) (defScope s_law) .none kV_37 dc_37 pm_37 an_37 cd_37 ct_37), sl_37⟩)
    (c_37 : PySem.W.codeIn K cd_37 "law" = true)
    (k_37 : PySem.W.keepIn K (.ref f_37) = true)
    (g_C0 : PySem.W.nsIn K mainGlobals "InvalidCount" = some (some (.ref C_0)))
    (cls_0 : PySem.W.excInitIn K C_0 Er.bmE "Exception.__new__" = true)
    (over_0 : PySem.W.excOver K C_0 Er.bmE = true)
    (mem_0 : PySem.W.mroIn K C_0 (.ref C_0) = some true)
    (sup_0 : PySem.W.ks_superIn K C_0 C_0 "__init__" = some (some (.builtin "Exception.__init__")))
    (sa_0 : PySem.W.findIn K (.ref C_0) "__setattr__" = some (some (.builtin "object.__setattr__")))
    (ga_0 : PySem.W.findIn K (.ref C_0) "__getattribute__" = some (some (.builtin "BaseException.__getattribute__")))
    (gg_0 : PySem.W.findIn K (.ref C_0) "__getattr__" = some none)
    (noN_0 : PySem.W.findIn K (.ref C_0) Er.fn = some none)
    (tk_0 : PySem.W.takerIn K C_0 Er.fn = some none)
    (iC_0 : PySem.W.findIn K (.ref C_0) "__init__" = some (some (.ref fI_0)))
    (tC_0 : PySem.W.typeIn K (.ref fI_0) = some (.type "function"))
    (kC_0 : PySem.W.keepIn K (.ref C_0) = true)
    (exE_0 : PySem.W.subIn K (.ref C_0) (.type "Exception") = some true)
    (exC_0 : PySem.W.subIn K (.ref C_0) (.type "BaseException") = some true)
    (tyC_0 : PySem.W.typeIn K (.ref C_0) = some (.type "type"))
    (hdC_0 : PySem.W.hasDictIn K C_0 = true)
    (isC_0 : PySem.W.isClsIn K C_0 = true)
    (xl_0 : K.lookup fI_0 = some ⟨xoc_0, xod_0, .func (PySem.W.ksFn "__init__" "InvalidCount.__init__" (Er.iA ⟨6, 17, 6, 21⟩ ⟨6, 23, 6, 25⟩) (Er.iB "wrong: a count" 0 ⟨7, 8, 7, 13⟩ ⟨7, 8, 7, 15⟩ ⟨7, 8, 7, 24⟩ ⟨7, 25, 7, 41⟩ ⟨7, 8, 7, 42⟩ ⟨7, 8, 7, 42⟩ ⟨8, 8, 8, 12⟩ ⟨8, 8, 8, 15⟩ ⟨8, 18, 8, 20⟩ ⟨8, 8, 8, 20⟩) Er.iS .none .none xdc_0 xpm_0 xan_0 (.ref cda_0) xct_0 cc_0), xsl_0⟩)
    (xc_0 : PySem.W.codeIn K (.ref cda_0) "InvalidCount.__init__" = true)
    (xy_0 : K.lookup cda_0 = some ⟨yc_0, yd_0, .fields yv_0, ysl_0⟩)
    (xv_0 : yv_0[2]? = some (.str fl_0 ft_0))
    (xf_0 : ((P_.main.file : Str) == fl_0) = true)
    (xz_0 : K.lookup cc_0 = some ⟨zc_0, zd_0, .cell (some (.ref C_0)), zsl_0⟩)
    (g_C1 : PySem.W.nsIn K mainGlobals "InvalidSide" = some (some (.ref C_1)))
    (cls_1 : PySem.W.excInitIn K C_1 Er.bmE "Exception.__new__" = true)
    (over_1 : PySem.W.excOver K C_1 Er.bmE = true)
    (mem_1 : PySem.W.mroIn K C_1 (.ref C_1) = some true)
    (sup_1 : PySem.W.ks_superIn K C_1 C_1 "__init__" = some (some (.builtin "Exception.__init__")))
    (sa_1 : PySem.W.findIn K (.ref C_1) "__setattr__" = some (some (.builtin "object.__setattr__")))
    (ga_1 : PySem.W.findIn K (.ref C_1) "__getattribute__" = some (some (.builtin "BaseException.__getattribute__")))
    (gg_1 : PySem.W.findIn K (.ref C_1) "__getattr__" = some none)
    (noN_1 : PySem.W.findIn K (.ref C_1) Er.fn = some none)
    (tk_1 : PySem.W.takerIn K C_1 Er.fn = some none)
    (iC_1 : PySem.W.findIn K (.ref C_1) "__init__" = some (some (.ref fI_1)))
    (tC_1 : PySem.W.typeIn K (.ref fI_1) = some (.type "function"))
    (kC_1 : PySem.W.keepIn K (.ref C_1) = true)
    (exE_1 : PySem.W.subIn K (.ref C_1) (.type "Exception") = some true)
    (exC_1 : PySem.W.subIn K (.ref C_1) (.type "BaseException") = some true)
    (tyC_1 : PySem.W.typeIn K (.ref C_1) = some (.type "type"))
    (hdC_1 : PySem.W.hasDictIn K C_1 = true)
    (isC_1 : PySem.W.isClsIn K C_1 = true)
    (xl_1 : K.lookup fI_1 = some ⟨xoc_1, xod_1, .func (PySem.W.ksFn "__init__" "InvalidSide.__init__" (Er.iA ⟨11, 17, 11, 21⟩ ⟨11, 23, 11, 25⟩) (Er.iB "wrong: a side" 0 ⟨12, 8, 12, 13⟩ ⟨12, 8, 12, 15⟩ ⟨12, 8, 12, 24⟩ ⟨12, 25, 12, 40⟩ ⟨12, 8, 12, 41⟩ ⟨12, 8, 12, 41⟩ ⟨13, 8, 13, 12⟩ ⟨13, 8, 13, 15⟩ ⟨13, 18, 13, 20⟩ ⟨13, 8, 13, 20⟩) Er.iS .none .none xdc_1 xpm_1 xan_1 (.ref cda_1) xct_1 cc_1), xsl_1⟩)
    (xc_1 : PySem.W.codeIn K (.ref cda_1) "InvalidSide.__init__" = true)
    (xy_1 : K.lookup cda_1 = some ⟨yc_1, yd_1, .fields yv_1, ysl_1⟩)
    (xv_1 : yv_1[2]? = some (.str fl_1 ft_1))
    (xf_1 : ((P_.main.file : Str) == fl_1) = true)
    (xz_1 : K.lookup cc_1 = some ⟨zc_1, zd_1, .cell (some (.ref C_1)), zsl_1⟩)
    (g_C2 : PySem.W.nsIn K mainGlobals "InvalidCouples" = some (some (.ref C_2)))
    (cls_2 : PySem.W.excInitIn K C_2 Er.bmE "Exception.__new__" = true)
    (over_2 : PySem.W.excOver K C_2 Er.bmE = true)
    (mem_2 : PySem.W.mroIn K C_2 (.ref C_2) = some true)
    (sup_2 : PySem.W.ks_superIn K C_2 C_2 "__init__" = some (some (.builtin "Exception.__init__")))
    (sa_2 : PySem.W.findIn K (.ref C_2) "__setattr__" = some (some (.builtin "object.__setattr__")))
    (ga_2 : PySem.W.findIn K (.ref C_2) "__getattribute__" = some (some (.builtin "BaseException.__getattribute__")))
    (gg_2 : PySem.W.findIn K (.ref C_2) "__getattr__" = some none)
    (noN_2 : PySem.W.findIn K (.ref C_2) Er.fn = some none)
    (tk_2 : PySem.W.takerIn K C_2 Er.fn = some none)
    (iC_2 : PySem.W.findIn K (.ref C_2) "__init__" = some (some (.ref fI_2)))
    (tC_2 : PySem.W.typeIn K (.ref fI_2) = some (.type "function"))
    (kC_2 : PySem.W.keepIn K (.ref C_2) = true)
    (exE_2 : PySem.W.subIn K (.ref C_2) (.type "Exception") = some true)
    (exC_2 : PySem.W.subIn K (.ref C_2) (.type "BaseException") = some true)
    (tyC_2 : PySem.W.typeIn K (.ref C_2) = some (.type "type"))
    (hdC_2 : PySem.W.hasDictIn K C_2 = true)
    (isC_2 : PySem.W.isClsIn K C_2 = true)
    (xl_2 : K.lookup fI_2 = some ⟨xoc_2, xod_2, .func (PySem.W.ksFn "__init__" "InvalidCouples.__init__" (Er.iA ⟨16, 17, 16, 21⟩ ⟨16, 23, 16, 25⟩) (Er.iB "wrong: couples" 0 ⟨17, 8, 17, 13⟩ ⟨17, 8, 17, 15⟩ ⟨17, 8, 17, 24⟩ ⟨17, 25, 17, 41⟩ ⟨17, 8, 17, 42⟩ ⟨17, 8, 17, 42⟩ ⟨18, 8, 18, 12⟩ ⟨18, 8, 18, 15⟩ ⟨18, 18, 18, 20⟩ ⟨18, 8, 18, 20⟩) Er.iS .none .none xdc_2 xpm_2 xan_2 (.ref cda_2) xct_2 cc_2), xsl_2⟩)
    (xc_2 : PySem.W.codeIn K (.ref cda_2) "InvalidCouples.__init__" = true)
    (xy_2 : K.lookup cda_2 = some ⟨yc_2, yd_2, .fields yv_2, ysl_2⟩)
    (xv_2 : yv_2[2]? = some (.str fl_2 ft_2))
    (xf_2 : ((P_.main.file : Str) == fl_2) = true)
    (xz_2 : K.lookup cc_2 = some ⟨zc_2, zd_2, .cell (some (.ref C_2)), zsl_2⟩)
    (g_C3 : PySem.W.nsIn K mainGlobals "Refused" = some (some (.ref C_3)))
    (cls_3 : PySem.W.excInitIn K C_3 Er.bmE "Exception.__new__" = true)
    (over_3 : PySem.W.excOver K C_3 Er.bmE = true)
    (mem_3 : PySem.W.mroIn K C_3 (.ref C_3) = some true)
    (sup_3 : PySem.W.ks_superIn K C_3 C_3 "__init__" = some (some (.builtin "Exception.__init__")))
    (sa_3 : PySem.W.findIn K (.ref C_3) "__setattr__" = some (some (.builtin "object.__setattr__")))
    (ga_3 : PySem.W.findIn K (.ref C_3) "__getattribute__" = some (some (.builtin "BaseException.__getattribute__")))
    (gg_3 : PySem.W.findIn K (.ref C_3) "__getattr__" = some none)
    (noN_3 : PySem.W.findIn K (.ref C_3) Er.fn = some none)
    (tk_3 : PySem.W.takerIn K C_3 Er.fn = some none)
    (iC_3 : PySem.W.findIn K (.ref C_3) "__init__" = some (some (.ref fI_3)))
    (tC_3 : PySem.W.typeIn K (.ref fI_3) = some (.type "function"))
    (kC_3 : PySem.W.keepIn K (.ref C_3) = true)
    (exE_3 : PySem.W.subIn K (.ref C_3) (.type "Exception") = some true)
    (exC_3 : PySem.W.subIn K (.ref C_3) (.type "BaseException") = some true)
    (tyC_3 : PySem.W.typeIn K (.ref C_3) = some (.type "type"))
    (hdC_3 : PySem.W.hasDictIn K C_3 = true)
    (isC_3 : PySem.W.isClsIn K C_3 = true)
    (xl_3 : K.lookup fI_3 = some ⟨xoc_3, xod_3, .func (PySem.W.ksFn "__init__" "Refused.__init__" (Er.iA ⟨21, 17, 21, 21⟩ ⟨21, 23, 21, 25⟩) (Er.iB "refused" 0 ⟨22, 8, 22, 13⟩ ⟨22, 8, 22, 15⟩ ⟨22, 8, 22, 24⟩ ⟨22, 25, 22, 34⟩ ⟨22, 8, 22, 35⟩ ⟨22, 8, 22, 35⟩ ⟨23, 8, 23, 12⟩ ⟨23, 8, 23, 15⟩ ⟨23, 18, 23, 20⟩ ⟨23, 8, 23, 20⟩) Er.iS .none .none xdc_3 xpm_3 xan_3 (.ref cda_3) xct_3 cc_3), xsl_3⟩)
    (xc_3 : PySem.W.codeIn K (.ref cda_3) "Refused.__init__" = true)
    (xy_3 : K.lookup cda_3 = some ⟨yc_3, yd_3, .fields yv_3, ysl_3⟩)
    (xv_3 : yv_3[2]? = some (.str fl_3 ft_3))
    (xf_3 : ((P_.main.file : Str) == fl_3) = true)
    (xz_3 : K.lookup cc_3 = some ⟨zc_3, zd_3, .cell (some (.ref C_3)), zsl_3⟩)
    (sub_0_0 : PySem.W.subIn K (.ref C_0) (.ref C_0) = some true)
    (sub_0_1 : PySem.W.subIn K (.ref C_0) (.ref C_1) = some false)
    (sub_0_2 : PySem.W.subIn K (.ref C_0) (.ref C_2) = some false)
    (sub_0_3 : PySem.W.subIn K (.ref C_0) (.ref C_3) = some false)
    (sub_1_0 : PySem.W.subIn K (.ref C_1) (.ref C_0) = some false)
    (sub_1_1 : PySem.W.subIn K (.ref C_1) (.ref C_1) = some true)
    (sub_1_2 : PySem.W.subIn K (.ref C_1) (.ref C_2) = some false)
    (sub_1_3 : PySem.W.subIn K (.ref C_1) (.ref C_3) = some false)
    (sub_2_0 : PySem.W.subIn K (.ref C_2) (.ref C_0) = some false)
    (sub_2_1 : PySem.W.subIn K (.ref C_2) (.ref C_1) = some false)
    (sub_2_2 : PySem.W.subIn K (.ref C_2) (.ref C_2) = some true)
    (sub_2_3 : PySem.W.subIn K (.ref C_2) (.ref C_3) = some false)
    (sub_3_0 : PySem.W.subIn K (.ref C_3) (.ref C_0) = some false)
    (sub_3_1 : PySem.W.subIn K (.ref C_3) (.ref C_1) = some false)
    (sub_3_2 : PySem.W.subIn K (.ref C_3) (.ref C_2) = some false)
    (sub_3_3 : PySem.W.subIn K (.ref C_3) (.ref C_3) = some true)
    (opq : PySem.W.nsIn K cStatics "thirdparty.any" = some none)
    (z_abs : PySem.W.nsIn K mainGlobals "abs" = some none)
    (z_any : PySem.W.nsIn K mainGlobals "any" = some none)
    (z_bool : PySem.W.nsIn K mainGlobals "bool" = some none)
    (z_enumerate : PySem.W.nsIn K mainGlobals "enumerate" = some none)
    (z_int : PySem.W.nsIn K mainGlobals "int" = some none)
    (z_isinstance : PySem.W.nsIn K mainGlobals "isinstance" = some none)
    (z_len : PySem.W.nsIn K mainGlobals "len" = some none)
    (z_list : PySem.W.nsIn K mainGlobals "list" = some none)
    (z_range : PySem.W.nsIn K mainGlobals "range" = some none)
    (z_str : PySem.W.nsIn K mainGlobals "str" = some none)
    (z_sum : PySem.W.nsIn K mainGlobals "sum" = some none)
    (z_super : PySem.W.nsIn K mainGlobals "super" = some none)
    (z_tuple : PySem.W.nsIn K mainGlobals "tuple" = some none)
    (cn_MOST_HEDGES : PySem.W.nsIn K mainGlobals "MOST_HEDGES" = some (some (.int 24 k_MOST_HEDGES)))
    (cn_MOST_COUPLES : PySem.W.nsIn K mainGlobals "MOST_COUPLES" = some (some (.int 1200 k_MOST_COUPLES))) :
    ∃ fd : FuncData, (∀ (s : Shared) (v : Value), BindsTo s fd ⟨[v], []⟩ [("script", v)]) ∧ ∀ base : Heap, K.In base → base.Ns mainGlobals mg → FnOk P_ w K mg base (L2.CX P_ w) 11 fa fd ["script"] (spLaw K) := by
  have e := hfa.symm.trans (PySem.W.mg_of X G a_37)
  cases e
  let cl : Nat → Addr := fun n => if n = 0 then C_0 else if n = 1 then C_1 else if n = 2 then C_2 else C_3
  have cl_0 : cl 0 = C_0 := rfl
  have cl_1 : cl 1 = C_1 := rfl
  have cl_2 : cl 2 = C_2 := rfl
  have cl_3 : cl 3 = C_3 := rfl
  have F_0 := fun_mk (st := s_is_integer) l_0 c_0 k_0
  have b_0 := F_0.binds (ps := ["value"]) fun _ _ _ _ _ _ us hl => match us, hl with | [_], _ => rfl
  have F_1 := fun_mk (st := s_is_below) l_1 c_1 k_1
  have b_1 := F_1.binds (ps := ["value", "limit"]) fun _ _ _ _ _ _ us hl => match us, hl with | [_, _], _ => rfl
  have F_2 := fun_mk (st := s_is_between) l_2 c_2 k_2
  have b_2 := F_2.binds (ps := ["value", "least", "most"]) fun _ _ _ _ _ _ us hl => match us, hl with | [_, _, _], _ => rfl
  have F_3 := fun_mk (st := s_is_sequence) l_3 c_3 k_3
  have b_3 := F_3.binds (ps := ["value"]) fun _ _ _ _ _ _ us hl => match us, hl with | [_], _ => rfl
  have F_4 := fun_mk (st := s_is_row_of) l_4 c_4 k_4
  have b_4 := F_4.binds (ps := ["value", "many"]) fun _ _ _ _ _ _ us hl => match us, hl with | [_, _], _ => rfl
  have F_5 := fun_mk (st := s_side_number) l_5 c_5 k_5
  have b_5 := F_5.binds (ps := ["side"]) fun _ _ _ _ _ _ us hl => match us, hl with | [_], _ => rfl
  have F_6 := fun_mk (st := s_side_of) l_6 c_6 k_6
  have b_6 := F_6.binds (ps := ["number"]) fun _ _ _ _ _ _ us hl => match us, hl with | [_], _ => rfl
  have F_7 := fun_mk (st := s_is_side) l_7 c_7 k_7
  have b_7 := F_7.binds (ps := ["value", "hedges"]) fun _ _ _ _ _ _ us hl => match us, hl with | [_, _], _ => rfl
  have F_8 := fun_mk (st := s_need_side) l_8 c_8 k_8
  have b_8 := F_8.binds (ps := ["value", "at", "hedges"]) fun _ _ _ _ _ _ us hl => match us, hl with | [_, _, _], _ => rfl
  have F_9 := fun_mk (st := s_is_couple) l_9 c_9 k_9
  have b_9 := F_9.binds (ps := ["value", "hedges"]) fun _ _ _ _ _ _ us hl => match us, hl with | [_, _], _ => rfl
  have F_10 := fun_mk (st := s_need_couples) l_10 c_10 k_10
  have b_10 := F_10.binds (ps := ["hedges", "value"]) fun _ _ _ _ _ _ us hl => match us, hl with | [_, _], _ => rfl
  have F_11 := fun_mk (st := s_brought) l_11 c_11 k_11
  have b_11 := F_11.binds (ps := ["hedges", "pairs"]) fun _ _ _ _ _ _ us hl => match us, hl with | [_, _], _ => rfl
  have F_12 := fun_mk (st := s_led_table) l_12 c_12 k_12
  have b_12 := F_12.binds (ps := ["hedges", "pairs"]) fun _ _ _ _ _ _ us hl => match us, hl with | [_, _], _ => rfl
  have F_13 := fun_mk (st := s_numbers_of) l_13 c_13 k_13
  have b_13 := F_13.binds (ps := ["mask"]) fun _ _ _ _ _ _ us hl => match us, hl with | [_], _ => rfl
  have F_14 := fun_mk (st := s_exchanged) l_14 c_14 k_14
  have b_14 := F_14.binds (ps := ["mask"]) fun _ _ _ _ _ _ us hl => match us, hl with | [_], _ => rfl
  have F_15 := fun_mk (st := s_closed_table) l_15 c_15 k_15
  have b_15 := F_15.binds (ps := ["hedges", "pairs"]) fun _ _ _ _ _ _ us hl => match us, hl with | [_, _], _ => rfl
  have F_16 := fun_mk (st := s_couples_told) l_16 c_16 k_16
  have b_16 := F_16.binds (ps := ["table"]) fun _ _ _ _ _ _ us hl => match us, hl with | [_], _ => rfl
  have F_17 := fun_mk (st := s_closed_couples) l_17 c_17 k_17
  have b_17 := F_17.binds (ps := ["hedges", "couples"]) fun _ _ _ _ _ _ us hl => match us, hl with | [_, _], _ => rfl
  have F_18 := fun_mk (st := s_need_question) l_18 c_18 k_18
  have b_18 := F_18.binds (ps := ["hedges", "couples", "one", "other"]) fun _ _ _ _ _ _ us hl => match us, hl with | [_, _, _, _], _ => rfl
  have F_19 := fun_mk (st := s_follows) l_19 c_19 k_19
  have b_19 := F_19.binds (ps := ["hedges", "couples", "one", "other"]) fun _ _ _ _ _ _ us hl => match us, hl with | [_, _, _, _], _ => rfl
  have F_20 := fun_mk (st := s__law_box) l_20 c_20 k_20
  have b_20 := F_20.binds (ps := ["script"]) fun _ _ _ _ _ _ us hl => match us, hl with | [_], _ => rfl
  have F_21 := fun_mk (st := s__law_draw) l_21 c_21 k_21
  have b_21 := F_21.binds (ps := ["box", "many"]) fun _ _ _ _ _ _ us hl => match us, hl with | [_, _], _ => rfl
  have F_22 := fun_mk (st := s__law_pick) l_22 c_22 k_22
  have b_22 := F_22.binds (ps := ["box", "some"]) fun _ _ _ _ _ _ us hl => match us, hl with | [_, _], _ => rfl
  have F_23 := fun_mk (st := s__law_tells) l_23 c_23 k_23
  have b_23 := F_23.binds (ps := ["value", "due"]) fun _ _ _ _ _ _ us hl => match us, hl with | [_, _], _ => rfl
  have F_24 := fun_mk (st := s__law_is_int) l_24 c_24 k_24
  have b_24 := F_24.binds (ps := ["value"]) fun _ _ _ _ _ _ us hl => match us, hl with | [_], _ => rfl
  have F_25 := fun_mk (st := s__law_place) l_25 c_25 k_25
  have b_25 := F_25.binds (ps := ["value"]) fun _ _ _ _ _ _ us hl => match us, hl with | [_], _ => rfl
  have F_26 := fun_mk (st := s__law_loose) l_26 c_26 k_26
  have b_26 := F_26.binds (ps := ["box", "value"]) fun _ _ _ _ _ _ us hl => match us, hl with | [_, _], _ => rfl
  have F_27 := fun_mk (st := s__law_same) l_27 c_27 k_27
  have b_27 := F_27.binds (ps := ["value", "due"]) fun _ _ _ _ _ _ us hl => match us, hl with | [_, _], _ => rfl
  have F_28 := fun_mk (st := s__law_rows) l_28 c_28 k_28
  have b_28 := F_28.binds (ps := ["hedges"]) fun _ _ _ _ _ _ us hl => match us, hl with | [_], _ => rfl
  have F_29 := fun_mk (st := s__law_sides) l_29 c_29 k_29
  have b_29 := F_29.binds (ps := ["hedges"]) fun _ _ _ _ _ _ us hl => match us, hl with | [_], _ => rfl
  have F_30 := fun_mk (st := s__law_pairs) l_30 c_30 k_30
  have b_30 := F_30.binds (ps := ["hedges"]) fun _ _ _ _ _ _ us hl => match us, hl with | [_], _ => rfl
  have F_31 := fun_mk (st := s__law_has) l_31 c_31 k_31
  have b_31 := F_31.binds (ps := ["row", "side"]) fun _ _ _ _ _ _ us hl => match us, hl with | [_, _], _ => rfl
  have F_32 := fun_mk (st := s__law_has_both) l_32 c_32 k_32
  have b_32 := F_32.binds (ps := ["row", "couple"]) fun _ _ _ _ _ _ us hl => match us, hl with | [_, _], _ => rfl
  have F_33 := fun_mk (st := s__law_couples) l_33 c_33 k_33
  have b_33 := F_33.binds (ps := ["rows", "hedges"]) fun _ _ _ _ _ _ us hl => match us, hl with | [_, _], _ => rfl
  have F_34 := fun_mk (st := s__law_without) l_34 c_34 k_34
  have b_34 := F_34.binds (ps := ["hedges", "couples"]) fun _ _ _ _ _ _ us hl => match us, hl with | [_, _], _ => rfl
  have F_35 := fun_mk (st := s__law_told_of) l_35 c_35 k_35
  have b_35 := F_35.binds (ps := ["what", "hedges", "couples", "one", "other"]) fun _ _ _ _ _ _ us hl => match us, hl with | [_, _, _, _, _], _ => rfl
  have F_36 := fun_mk (st := s__law_asked) l_36 c_36 k_36
  have b_36 := F_36.binds (ps := ["what", "hedges", "couples", "one", "other"]) fun _ _ _ _ _ _ us hl => match us, hl with | [_, _, _, _, _], _ => rfl
  have F_37 := fun_mk (st := s_law) l_37 c_37 k_37
  have b_37 := F_37.binds (ps := ["script"]) fun _ _ _ _ _ _ us hl => match us, hl with | [_], _ => rfl
  let T : Tx K mg cl :=
    { f_is_integer := _,
      fd_is_integer := _,
      F_is_integer := F_0,
      b_is_integer := b_0,
      g_is_integer := PySem.W.mg_of X G a_0,
      f_is_below := _,
      fd_is_below := _,
      F_is_below := F_1,
      b_is_below := b_1,
      g_is_below := PySem.W.mg_of X G a_1,
      f_is_between := _,
      fd_is_between := _,
      F_is_between := F_2,
      b_is_between := b_2,
      g_is_between := PySem.W.mg_of X G a_2,
      f_is_sequence := _,
      fd_is_sequence := _,
      F_is_sequence := F_3,
      b_is_sequence := b_3,
      g_is_sequence := PySem.W.mg_of X G a_3,
      f_is_row_of := _,
      fd_is_row_of := _,
      F_is_row_of := F_4,
      b_is_row_of := b_4,
      g_is_row_of := PySem.W.mg_of X G a_4,
      f_side_number := _,
      fd_side_number := _,
      F_side_number := F_5,
      b_side_number := b_5,
      g_side_number := PySem.W.mg_of X G a_5,
      f_side_of := _,
      fd_side_of := _,
      F_side_of := F_6,
      b_side_of := b_6,
      g_side_of := PySem.W.mg_of X G a_6,
      f_is_side := _,
      fd_is_side := _,
      F_is_side := F_7,
      b_is_side := b_7,
      g_is_side := PySem.W.mg_of X G a_7,
      f_need_side := _,
      fd_need_side := _,
      F_need_side := F_8,
      b_need_side := b_8,
      g_need_side := PySem.W.mg_of X G a_8,
      f_is_couple := _,
      fd_is_couple := _,
      F_is_couple := F_9,
      b_is_couple := b_9,
      g_is_couple := PySem.W.mg_of X G a_9,
      f_need_couples := _,
      fd_need_couples := _,
      F_need_couples := F_10,
      b_need_couples := b_10,
      g_need_couples := PySem.W.mg_of X G a_10,
      f_brought := _,
      fd_brought := _,
      F_brought := F_11,
      b_brought := b_11,
      g_brought := PySem.W.mg_of X G a_11,
      f_led_table := _,
      fd_led_table := _,
      F_led_table := F_12,
      b_led_table := b_12,
      g_led_table := PySem.W.mg_of X G a_12,
      f_numbers_of := _,
      fd_numbers_of := _,
      F_numbers_of := F_13,
      b_numbers_of := b_13,
      g_numbers_of := PySem.W.mg_of X G a_13,
      f_exchanged := _,
      fd_exchanged := _,
      F_exchanged := F_14,
      b_exchanged := b_14,
      g_exchanged := PySem.W.mg_of X G a_14,
      f_closed_table := _,
      fd_closed_table := _,
      F_closed_table := F_15,
      b_closed_table := b_15,
      g_closed_table := PySem.W.mg_of X G a_15,
      f_couples_told := _,
      fd_couples_told := _,
      F_couples_told := F_16,
      b_couples_told := b_16,
      g_couples_told := PySem.W.mg_of X G a_16,
      f_closed_couples := _,
      fd_closed_couples := _,
      F_closed_couples := F_17,
      b_closed_couples := b_17,
      g_closed_couples := PySem.W.mg_of X G a_17,
      f_need_question := _,
      fd_need_question := _,
      F_need_question := F_18,
      b_need_question := b_18,
      g_need_question := PySem.W.mg_of X G a_18,
      f_follows := _,
      fd_follows := _,
      F_follows := F_19,
      b_follows := b_19,
      g_follows := PySem.W.mg_of X G a_19,
      f__law_box := _,
      fd__law_box := _,
      F__law_box := F_20,
      b__law_box := b_20,
      g__law_box := PySem.W.mg_of X G a_20,
      f__law_draw := _,
      fd__law_draw := _,
      F__law_draw := F_21,
      b__law_draw := b_21,
      g__law_draw := PySem.W.mg_of X G a_21,
      f__law_pick := _,
      fd__law_pick := _,
      F__law_pick := F_22,
      b__law_pick := b_22,
      g__law_pick := PySem.W.mg_of X G a_22,
      f__law_tells := _,
      fd__law_tells := _,
      F__law_tells := F_23,
      b__law_tells := b_23,
      g__law_tells := PySem.W.mg_of X G a_23,
      f__law_is_int := _,
      fd__law_is_int := _,
      F__law_is_int := F_24,
      b__law_is_int := b_24,
      g__law_is_int := PySem.W.mg_of X G a_24,
      f__law_place := _,
      fd__law_place := _,
      F__law_place := F_25,
      b__law_place := b_25,
      g__law_place := PySem.W.mg_of X G a_25,
      f__law_loose := _,
      fd__law_loose := _,
      F__law_loose := F_26,
      b__law_loose := b_26,
      g__law_loose := PySem.W.mg_of X G a_26,
      f__law_same := _,
      fd__law_same := _,
      F__law_same := F_27,
      b__law_same := b_27,
      g__law_same := PySem.W.mg_of X G a_27,
      f__law_rows := _,
      fd__law_rows := _,
      F__law_rows := F_28,
      b__law_rows := b_28,
      g__law_rows := PySem.W.mg_of X G a_28,
      f__law_sides := _,
      fd__law_sides := _,
      F__law_sides := F_29,
      b__law_sides := b_29,
      g__law_sides := PySem.W.mg_of X G a_29,
      f__law_pairs := _,
      fd__law_pairs := _,
      F__law_pairs := F_30,
      b__law_pairs := b_30,
      g__law_pairs := PySem.W.mg_of X G a_30,
      f__law_has := _,
      fd__law_has := _,
      F__law_has := F_31,
      b__law_has := b_31,
      g__law_has := PySem.W.mg_of X G a_31,
      f__law_has_both := _,
      fd__law_has_both := _,
      F__law_has_both := F_32,
      b__law_has_both := b_32,
      g__law_has_both := PySem.W.mg_of X G a_32,
      f__law_couples := _,
      fd__law_couples := _,
      F__law_couples := F_33,
      b__law_couples := b_33,
      g__law_couples := PySem.W.mg_of X G a_33,
      f__law_without := _,
      fd__law_without := _,
      F__law_without := F_34,
      b__law_without := b_34,
      g__law_without := PySem.W.mg_of X G a_34,
      f__law_told_of := _,
      fd__law_told_of := _,
      F__law_told_of := F_35,
      b__law_told_of := b_35,
      g__law_told_of := PySem.W.mg_of X G a_35,
      f__law_asked := _,
      fd__law_asked := _,
      F__law_asked := F_36,
      b__law_asked := b_36,
      g__law_asked := PySem.W.mg_of X G a_36,
      f_law := _,
      fd_law := _,
      F_law := F_37,
      b_law := b_37,
      g_law := PySem.W.mg_of X G a_37,
      fi_InvalidCount := fI_0,
      t_InvalidCount := { cls := cls_0, over := over_0, mem := mem_0, sup := sup_0, opq := opq, sa := sa_0, ga := ga_0, gg := gg_0, noN := noN_0, tk := tk_0, iC := iC_0, tC := tC_0, kC := kC_0, exE := exE_0, exC := exC_0, tyC := tyC_0, hdC := hdC_0, top := by decide +kernel, fn_ := ⟨_, _, _, _, _, _, _, _, _, _, _, _, _, _, _, _, _, _, _, _, _, _, xl_0, xc_0, rfl, ⟨_, _, _, _, _, _, xy_0, xv_0, xf_0⟩, ⟨_, _, _, xz_0⟩⟩ },
      gE_InvalidCount := PySem.W.mg_of X G g_C0,
      x_0 := by
        intro n
        match n with
        | 0 => exact exm_of exC_0 isC_0 tyC_0 sub_0_0 exC_0
        | 1 => exact exm_of exC_1 isC_0 tyC_0 sub_1_0 exC_0
        | 2 => exact exm_of exC_2 isC_0 tyC_0 sub_2_0 exC_0
        | m + 3 =>
          have e : cl (m + 3) = C_3 := by show (if m + 3 = 0 then C_0 else if m + 3 = 1 then C_1 else if m + 3 = 2 then C_2 else C_3) = _; simp
          have x : xs_0 (m + 3) = false := by unfold xs_0; simp
          rw [e, x]; exact exm_of exC_3 isC_0 tyC_0 sub_3_0 exC_0,
      fi_InvalidSide := fI_1,
      t_InvalidSide := { cls := cls_1, over := over_1, mem := mem_1, sup := sup_1, opq := opq, sa := sa_1, ga := ga_1, gg := gg_1, noN := noN_1, tk := tk_1, iC := iC_1, tC := tC_1, kC := kC_1, exE := exE_1, exC := exC_1, tyC := tyC_1, hdC := hdC_1, top := by decide +kernel, fn_ := ⟨_, _, _, _, _, _, _, _, _, _, _, _, _, _, _, _, _, _, _, _, _, _, xl_1, xc_1, rfl, ⟨_, _, _, _, _, _, xy_1, xv_1, xf_1⟩, ⟨_, _, _, xz_1⟩⟩ },
      gE_InvalidSide := PySem.W.mg_of X G g_C1,
      x_1 := by
        intro n
        match n with
        | 0 => exact exm_of exC_0 isC_1 tyC_1 sub_0_1 exC_1
        | 1 => exact exm_of exC_1 isC_1 tyC_1 sub_1_1 exC_1
        | 2 => exact exm_of exC_2 isC_1 tyC_1 sub_2_1 exC_1
        | m + 3 =>
          have e : cl (m + 3) = C_3 := by show (if m + 3 = 0 then C_0 else if m + 3 = 1 then C_1 else if m + 3 = 2 then C_2 else C_3) = _; simp
          have x : xs_1 (m + 3) = false := by unfold xs_1; simp
          rw [e, x]; exact exm_of exC_3 isC_1 tyC_1 sub_3_1 exC_1,
      fi_InvalidCouples := fI_2,
      t_InvalidCouples := { cls := cls_2, over := over_2, mem := mem_2, sup := sup_2, opq := opq, sa := sa_2, ga := ga_2, gg := gg_2, noN := noN_2, tk := tk_2, iC := iC_2, tC := tC_2, kC := kC_2, exE := exE_2, exC := exC_2, tyC := tyC_2, hdC := hdC_2, top := by decide +kernel, fn_ := ⟨_, _, _, _, _, _, _, _, _, _, _, _, _, _, _, _, _, _, _, _, _, _, xl_2, xc_2, rfl, ⟨_, _, _, _, _, _, xy_2, xv_2, xf_2⟩, ⟨_, _, _, xz_2⟩⟩ },
      gE_InvalidCouples := PySem.W.mg_of X G g_C2,
      x_2 := by
        intro n
        match n with
        | 0 => exact exm_of exC_0 isC_2 tyC_2 sub_0_2 exC_2
        | 1 => exact exm_of exC_1 isC_2 tyC_2 sub_1_2 exC_2
        | 2 => exact exm_of exC_2 isC_2 tyC_2 sub_2_2 exC_2
        | m + 3 =>
          have e : cl (m + 3) = C_3 := by show (if m + 3 = 0 then C_0 else if m + 3 = 1 then C_1 else if m + 3 = 2 then C_2 else C_3) = _; simp
          have x : xs_2 (m + 3) = false := by unfold xs_2; simp
          rw [e, x]; exact exm_of exC_3 isC_2 tyC_2 sub_3_2 exC_2,
      fi_Refused := fI_3,
      t_Refused := { cls := cls_3, over := over_3, mem := mem_3, sup := sup_3, opq := opq, sa := sa_3, ga := ga_3, gg := gg_3, noN := noN_3, tk := tk_3, iC := iC_3, tC := tC_3, kC := kC_3, exE := exE_3, exC := exC_3, tyC := tyC_3, hdC := hdC_3, top := by decide +kernel, fn_ := ⟨_, _, _, _, _, _, _, _, _, _, _, _, _, _, _, _, _, _, _, _, _, _, xl_3, xc_3, rfl, ⟨_, _, _, _, _, _, xy_3, xv_3, xf_3⟩, ⟨_, _, _, xz_3⟩⟩ },
      gE_Refused := PySem.W.mg_of X G g_C3,
      x_3 := by
        intro n
        match n with
        | 0 => exact exm_of exC_0 isC_3 tyC_3 sub_0_3 exC_3
        | 1 => exact exm_of exC_1 isC_3 tyC_3 sub_1_3 exC_3
        | 2 => exact exm_of exC_2 isC_3 tyC_3 sub_2_3 exC_3
        | m + 3 =>
          have e : cl (m + 3) = C_3 := by show (if m + 3 = 0 then C_0 else if m + 3 = 1 then C_1 else if m + 3 = 2 then C_2 else C_3) = _; simp
          have x : xs_3 (m + 3) = true := by unfold xs_3; simp
          rw [e, x]; exact exm_of exC_3 isC_3 tyC_3 sub_3_3 exC_3,
      z_super := PySem.W.mg_none_of X G z_super,
      kc := ⟨fun n => by
        show XfC K (if n = 0 then C_0 else if n = 1 then C_1 else if n = 2 then C_2 else C_3)
        split
        · exact ⟨ga_0, gg_0, exC_0, hdC_0⟩
        split
        · exact ⟨ga_1, gg_1, exC_1, hdC_1⟩
        split
        · exact ⟨ga_2, gg_2, exC_2, hdC_2⟩
        exact ⟨ga_3, gg_3, exC_3, hdC_3⟩, fun n => by
        show PySem.W.findIn K (.ref (if n = 0 then C_0 else if n = 1 then C_1 else if n = 2 then C_2 else C_3)) Er.fn = some none
        split
        · exact noN_0
        split
        · exact noN_1
        split
        · exact noN_2
        exact noN_3⟩,
      k_MOST_HEDGES := k_MOST_HEDGES,
      c_MOST_HEDGES := PySem.W.mg_of X G cn_MOST_HEDGES,
      k_MOST_COUPLES := k_MOST_COUPLES,
      c_MOST_COUPLES := PySem.W.mg_of X G cn_MOST_COUPLES,
      z_abs := PySem.W.mg_none_of X G z_abs,
      z_any := PySem.W.mg_none_of X G z_any,
      z_bool := PySem.W.mg_none_of X G z_bool,
      z_enumerate := PySem.W.mg_none_of X G z_enumerate,
      z_int := PySem.W.mg_none_of X G z_int,
      z_isinstance := PySem.W.mg_none_of X G z_isinstance,
      z_len := PySem.W.mg_none_of X G z_len,
      z_list := PySem.W.mg_none_of X G z_list,
      z_range := PySem.W.mg_none_of X G z_range,
      z_str := PySem.W.mg_none_of X G z_str,
      z_sum := PySem.W.mg_none_of X G z_sum,
      z_tuple := PySem.W.mg_none_of X G z_tuple }
  exact ⟨PySem.W.fnOf "law" "law" (defArgs s_law) (defBody s_law) (defScope s_law) .none kV_37 dc_37 pm_37 an_37 cd_37 ct_37, fun s v => .of_eq rfl, fun base _ _ => (ok_law T).imp (sp' := spLaw K) fun vs H Q E h => h cl⟩
end Hk
open PySem PySem.W PyProof.Rows
set_option maxHeartbeats 0 in
theorem PySem.Challenge.cw_hedgetown_k08_whole_couples_that_follow_holds : PySem.Challenge.rw_hedgetown_k08_whole_couples_that_follow.Holds := by
  w_on; o_law; k_head; (case hw => w_witness2)
  k_fill
  refine L2.walk_of (l := PySem.Challenge.rw_hedgetown_k08_whole_couples_that_follow) (n := 63) (k := 11) (x := "script") (CX := fun w => L2.CX Hk.P_ w) (sp := fun w => Hk.spLaw _) rfl (by decide) rfl ⟨rfl, by decide, by decide⟩ (fun w h Y => PySem.W.kIn_of Y) ?F (fun _ H a ns hl hO hS cl => Hk.law_true hl hO hS) (fun _ _ _ _ _ ⟨_, _, _, _, _, _, _, _, _, _, _, _, h⟩ => h)
  case F =>
    intro w mg fa h KX G hmg
    refine' Hk.all_mk KX G hmg ?a_0 ?l_0 ?c_0 ?k_0 ?a_1 ?l_1 ?c_1 ?k_1 ?a_2 ?l_2 ?c_2 ?k_2 ?a_3 ?l_3 ?c_3 ?k_3 ?a_4 ?l_4 ?c_4 ?k_4 ?a_5 ?l_5 ?c_5 ?k_5 ?a_6 ?l_6 ?c_6 ?k_6 ?a_7 ?l_7 ?c_7 ?k_7 ?a_8 ?l_8 ?c_8 ?k_8 ?a_9 ?l_9 ?c_9 ?k_9 ?a_10 ?l_10 ?c_10 ?k_10 ?a_11 ?l_11 ?c_11 ?k_11 ?a_12 ?l_12 ?c_12 ?k_12 ?a_13 ?l_13 ?c_13 ?k_13 ?a_14 ?l_14 ?c_14 ?k_14 ?a_15 ?l_15 ?c_15 ?k_15 ?a_16 ?l_16 ?c_16 ?k_16 ?a_17 ?l_17 ?c_17 ?k_17 ?a_18 ?l_18 ?c_18 ?k_18 ?a_19 ?l_19 ?c_19 ?k_19 ?a_20 ?l_20 ?c_20 ?k_20 ?a_21 ?l_21 ?c_21 ?k_21 ?a_22 ?l_22 ?c_22 ?k_22 ?a_23 ?l_23 ?c_23 ?k_23 ?a_24 ?l_24 ?c_24 ?k_24 ?a_25 ?l_25 ?c_25 ?k_25 ?a_26 ?l_26 ?c_26 ?k_26 ?a_27 ?l_27 ?c_27 ?k_27 ?a_28 ?l_28 ?c_28 ?k_28 ?a_29 ?l_29 ?c_29 ?k_29 ?a_30 ?l_30 ?c_30 ?k_30 ?a_31 ?l_31 ?c_31 ?k_31 ?a_32 ?l_32 ?c_32 ?k_32 ?a_33 ?l_33 ?c_33 ?k_33 ?a_34 ?l_34 ?c_34 ?k_34 ?a_35 ?l_35 ?c_35 ?k_35 ?a_36 ?l_36 ?c_36 ?k_36 ?a_37 ?l_37 ?c_37 ?k_37 ?g_C0 ?cls_0 ?over_0 ?mem_0 ?sup_0 ?sa_0 ?ga_0 ?gg_0 ?noN_0 ?tk_0 ?iC_0 ?tC_0 ?kC_0 ?exE_0 ?exC_0 ?tyC_0 ?hdC_0 ?isC_0 ?xl_0 ?xc_0 ?xy_0 ?xv_0 ?xf_0 ?xz_0 ?g_C1 ?cls_1 ?over_1 ?mem_1 ?sup_1 ?sa_1 ?ga_1 ?gg_1 ?noN_1 ?tk_1 ?iC_1 ?tC_1 ?kC_1 ?exE_1 ?exC_1 ?tyC_1 ?hdC_1 ?isC_1 ?xl_1 ?xc_1 ?xy_1 ?xv_1 ?xf_1 ?xz_1 ?g_C2 ?cls_2 ?over_2 ?mem_2 ?sup_2 ?sa_2 ?ga_2 ?gg_2 ?noN_2 ?tk_2 ?iC_2 ?tC_2 ?kC_2 ?exE_2 ?exC_2 ?tyC_2 ?hdC_2 ?isC_2 ?xl_2 ?xc_2 ?xy_2 ?xv_2 ?xf_2 ?xz_2 ?g_C3 ?cls_3 ?over_3 ?mem_3 ?sup_3 ?sa_3 ?ga_3 ?gg_3 ?noN_3 ?tk_3 ?iC_3 ?tC_3 ?kC_3 ?exE_3 ?exC_3 ?tyC_3 ?hdC_3 ?isC_3 ?xl_3 ?xc_3 ?xy_3 ?xv_3 ?xf_3 ?xz_3 ?sub_0_0 ?sub_0_1 ?sub_0_2 ?sub_0_3 ?sub_1_0 ?sub_1_1 ?sub_1_2 ?sub_1_3 ?sub_2_0 ?sub_2_1 ?sub_2_2 ?sub_2_3 ?sub_3_0 ?sub_3_1 ?sub_3_2 ?sub_3_3 ?opq ?z_abs ?z_any ?z_bool ?z_enumerate ?z_int ?z_isinstance ?z_len ?z_list ?z_range ?z_str ?z_sum ?z_super ?z_tuple ?cn_MOST_HEDGES ?cn_MOST_COUPLES
    (case a_0 => k_is)
    (case l_0 => k_is)
    (case c_0 => k_is)
    (case k_0 => k_is)
    (case a_1 => k_is)
    (case l_1 => k_is)
    (case c_1 => k_is)
    (case k_1 => k_is)
    (case a_2 => k_is)
    (case l_2 => k_is)
    (case c_2 => k_is)
    (case k_2 => k_is)
    (case a_3 => k_is)
    (case l_3 => k_is)
    (case c_3 => k_is)
    (case k_3 => k_is)
    (case a_4 => k_is)
    (case l_4 => k_is)
    (case c_4 => k_is)
    (case k_4 => k_is)
    (case a_5 => k_is)
    (case l_5 => k_is)
    (case c_5 => k_is)
    (case k_5 => k_is)
    (case a_6 => k_is)
    (case l_6 => k_is)
    (case c_6 => k_is)
    (case k_6 => k_is)
    (case a_7 => k_is)
    (case l_7 => k_is)
    (case c_7 => k_is)
    (case k_7 => k_is)
    (case a_8 => k_is)
    (case l_8 => k_is)
    (case c_8 => k_is)
    (case k_8 => k_is)
    (case a_9 => k_is)
    (case l_9 => k_is)
    (case c_9 => k_is)
    (case k_9 => k_is)
    (case a_10 => k_is)
    (case l_10 => k_is)
    (case c_10 => k_is)
    (case k_10 => k_is)
    (case a_11 => k_is)
    (case l_11 => k_is)
    (case c_11 => k_is)
    (case k_11 => k_is)
    (case a_12 => k_is)
    (case l_12 => k_is)
    (case c_12 => k_is)
    (case k_12 => k_is)
    (case a_13 => k_is)
    (case l_13 => k_is)
    (case c_13 => k_is)
    (case k_13 => k_is)
    (case a_14 => k_is)
    (case l_14 => k_is)
    (case c_14 => k_is)
    (case k_14 => k_is)
    (case a_15 => k_is)
    (case l_15 => k_is)
    (case c_15 => k_is)
    (case k_15 => k_is)
    (case a_16 => k_is)
    (case l_16 => k_is)
    (case c_16 => k_is)
    (case k_16 => k_is)
    (case a_17 => k_is)
    (case l_17 => k_is)
    (case c_17 => k_is)
    (case k_17 => k_is)
    (case a_18 => k_is)
    (case l_18 => k_is)
    (case c_18 => k_is)
    (case k_18 => k_is)
    (case a_19 => k_is)
    (case l_19 => k_is)
    (case c_19 => k_is)
    (case k_19 => k_is)
    (case a_20 => k_is)
    (case l_20 => k_is)
    (case c_20 => k_is)
    (case k_20 => k_is)
    (case a_21 => k_is)
    (case l_21 => k_is)
    (case c_21 => k_is)
    (case k_21 => k_is)
    (case a_22 => k_is)
    (case l_22 => k_is)
    (case c_22 => k_is)
    (case k_22 => k_is)
    (case a_23 => k_is)
    (case l_23 => k_is)
    (case c_23 => k_is)
    (case k_23 => k_is)
    (case a_24 => k_is)
    (case l_24 => k_is)
    (case c_24 => k_is)
    (case k_24 => k_is)
    (case a_25 => k_is)
    (case l_25 => k_is)
    (case c_25 => k_is)
    (case k_25 => k_is)
    (case a_26 => k_is)
    (case l_26 => k_is)
    (case c_26 => k_is)
    (case k_26 => k_is)
    (case a_27 => k_is)
    (case l_27 => k_is)
    (case c_27 => k_is)
    (case k_27 => k_is)
    (case a_28 => k_is)
    (case l_28 => k_is)
    (case c_28 => k_is)
    (case k_28 => k_is)
    (case a_29 => k_is)
    (case l_29 => k_is)
    (case c_29 => k_is)
    (case k_29 => k_is)
    (case a_30 => k_is)
    (case l_30 => k_is)
    (case c_30 => k_is)
    (case k_30 => k_is)
    (case a_31 => k_is)
    (case l_31 => k_is)
    (case c_31 => k_is)
    (case k_31 => k_is)
    (case a_32 => k_is)
    (case l_32 => k_is)
    (case c_32 => k_is)
    (case k_32 => k_is)
    (case a_33 => k_is)
    (case l_33 => k_is)
    (case c_33 => k_is)
    (case k_33 => k_is)
    (case a_34 => k_is)
    (case l_34 => k_is)
    (case c_34 => k_is)
    (case k_34 => k_is)
    (case a_35 => k_is)
    (case l_35 => k_is)
    (case c_35 => k_is)
    (case k_35 => k_is)
    (case a_36 => k_is)
    (case l_36 => k_is)
    (case c_36 => k_is)
    (case k_36 => k_is)
    (case a_37 => k_is)
    (case l_37 => k_is)
    (case c_37 => k_is)
    (case k_37 => k_is)
    (case g_C0 => k_is)
    (case cls_0 => first | kernel_rfl | rfl)
    (case over_0 => first | kernel_rfl | rfl)
    (case mem_0 => k_is)
    (case sup_0 => first | kernel_rfl | rfl)
    (case sa_0 => k_is)
    (case ga_0 => k_is)
    (case gg_0 => k_is)
    (case noN_0 => k_is)
    (case tk_0 => k_is)
    (case iC_0 => k_is)
    (case tC_0 => k_is)
    (case kC_0 => k_is)
    (case exE_0 => k_is)
    (case exC_0 => k_is)
    (case tyC_0 => k_is)
    (case hdC_0 => k_is)
    (case isC_0 => k_is)
    (case xl_0 => k_is)
    (case xc_0 => k_is)
    (case xy_0 => k_is)
    (case xv_0 => rfl)
    (case xf_0 => decide +kernel)
    (case xz_0 => k_is)
    (case g_C1 => k_is)
    (case cls_1 => first | kernel_rfl | rfl)
    (case over_1 => first | kernel_rfl | rfl)
    (case mem_1 => k_is)
    (case sup_1 => first | kernel_rfl | rfl)
    (case sa_1 => k_is)
    (case ga_1 => k_is)
    (case gg_1 => k_is)
    (case noN_1 => k_is)
    (case tk_1 => k_is)
    (case iC_1 => k_is)
    (case tC_1 => k_is)
    (case kC_1 => k_is)
    (case exE_1 => k_is)
    (case exC_1 => k_is)
    (case tyC_1 => k_is)
    (case hdC_1 => k_is)
    (case isC_1 => k_is)
    (case xl_1 => k_is)
    (case xc_1 => k_is)
    (case xy_1 => k_is)
    (case xv_1 => rfl)
    (case xf_1 => decide +kernel)
    (case xz_1 => k_is)
    (case g_C2 => k_is)
    (case cls_2 => first | kernel_rfl | rfl)
    (case over_2 => first | kernel_rfl | rfl)
    (case mem_2 => k_is)
    (case sup_2 => first | kernel_rfl | rfl)
    (case sa_2 => k_is)
    (case ga_2 => k_is)
    (case gg_2 => k_is)
    (case noN_2 => k_is)
    (case tk_2 => k_is)
    (case iC_2 => k_is)
    (case tC_2 => k_is)
    (case kC_2 => k_is)
    (case exE_2 => k_is)
    (case exC_2 => k_is)
    (case tyC_2 => k_is)
    (case hdC_2 => k_is)
    (case isC_2 => k_is)
    (case xl_2 => k_is)
    (case xc_2 => k_is)
    (case xy_2 => k_is)
    (case xv_2 => rfl)
    (case xf_2 => decide +kernel)
    (case xz_2 => k_is)
    (case g_C3 => k_is)
    (case cls_3 => first | kernel_rfl | rfl)
    (case over_3 => first | kernel_rfl | rfl)
    (case mem_3 => k_is)
    (case sup_3 => first | kernel_rfl | rfl)
    (case sa_3 => k_is)
    (case ga_3 => k_is)
    (case gg_3 => k_is)
    (case noN_3 => k_is)
    (case tk_3 => k_is)
    (case iC_3 => k_is)
    (case tC_3 => k_is)
    (case kC_3 => k_is)
    (case exE_3 => k_is)
    (case exC_3 => k_is)
    (case tyC_3 => k_is)
    (case hdC_3 => k_is)
    (case isC_3 => k_is)
    (case xl_3 => k_is)
    (case xc_3 => k_is)
    (case xy_3 => k_is)
    (case xv_3 => rfl)
    (case xf_3 => decide +kernel)
    (case xz_3 => k_is)
    (case sub_0_0 => first | rfl | k_is)
    (case sub_0_1 => first | rfl | k_is)
    (case sub_0_2 => first | rfl | k_is)
    (case sub_0_3 => first | rfl | k_is)
    (case sub_1_0 => first | rfl | k_is)
    (case sub_1_1 => first | rfl | k_is)
    (case sub_1_2 => first | rfl | k_is)
    (case sub_1_3 => first | rfl | k_is)
    (case sub_2_0 => first | rfl | k_is)
    (case sub_2_1 => first | rfl | k_is)
    (case sub_2_2 => first | rfl | k_is)
    (case sub_2_3 => first | rfl | k_is)
    (case sub_3_0 => first | rfl | k_is)
    (case sub_3_1 => first | rfl | k_is)
    (case sub_3_2 => first | rfl | k_is)
    (case sub_3_3 => first | rfl | k_is)
    (case opq => k_is)
    (case z_abs => k_is)
    (case z_any => k_is)
    (case z_bool => k_is)
    (case z_enumerate => k_is)
    (case z_int => k_is)
    (case z_isinstance => k_is)
    (case z_len => k_is)
    (case z_list => k_is)
    (case z_range => k_is)
    (case z_str => k_is)
    (case z_sum => k_is)
    (case z_super => k_is)
    (case z_tuple => k_is)
    (case cn_MOST_HEDGES => k_is)
    (case cn_MOST_COUPLES => k_is)
