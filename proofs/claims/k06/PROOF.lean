import PyProof.Rows.All
import Wide.All
import OpenK.AllK
import Wide.FinOn
import HandS.ForMost
import HandS.ForExc
import HandS.Lambda
import HandS.EndTab
import HandS.IsInst
import HandS.TupAny
import HandS.TupMul
import HandS.Deep
import HandS.Style
import HandS.Wide
import HandS.Zip
import HandS.Conv
import HandS.ExcInit
import HandS.ExcOwn
import HandS.WordsExc
import KE.KExcSuper
import HandS.AnyAll
import HandS.GenList
import HandS.ExcField
import HandS.EndOwn
import KE.KNestM
import HandS.CallLocal
import KE.GoesEnum
import KE.GoesMore
import KE.KDictZip
import HandS.RevTup
import PySem.Challenge.RW_rainkept_k06_whole_smallest
set_option Elab.async false
set_option linter.all false
set_option maxRecDepth 100000
set_option maxHeartbeats 4000000
/-! DLa: plain data over the hand layer's heap: what represents what, worlds, steps. -/
namespace DL
open PySem PySem.Spec L2
open PyProof.Rows hiding St

abbrev D := PyData
/-- the one mutable list of ints that is handed around (the dice) -/
def dcell : D := .dict [(.none, .none)]
/-- the script (a list that is read alone) -/
def dscr (xs : List D) : D := .dict [(.bool true, .list xs)]
/-- a def, as a value -/
def dfn (x : Str) : D := .dict [(.none, .str x)]
def keyD : Key → D
  | .inl i => .int i
  | .inr x => .str x

/-- a written list -/
def InK (K : PySem.W.Frag) (a : Addr) (xs : List V) : Prop := ∃ (o : Obj) (its : Array Value) (n : Nat), K.lookup a = some o ∧ o.cls = .type "list" ∧ o.dict = none ∧ o.data = .seq its n ∧ its.size ≤ sizeLine ∧ Vals xs its.toList
section
variable (K : PySem.W.Frag) (H : Hp) (O : Addr → Prop) (δ : Option Addr)
mutual
/-- the value v is the data d; O: the lists that may still change -/
inductive RepD : V → D → Prop
  | non : RepD .non .none
  | bl (b : Bool) : RepD (.bl b) (.bool b)
  | int (i : Int) : RepD (.int i) (.int i)
  | str (x : Str) : RepD (.str x) (.str x)
  | tup {a : Addr} {vs : List V} {ds : List D} : SqT K H a vs → RepDs vs ds → RepD (.ref a) (.tuple ds)
  | lst {a : Addr} {vs : List V} {ds : List D} : H a = some (.lst vs) → ¬ O a → RepDs vs ds → RepD (.ref a) (.list ds)
  | cell {a : Addr} : δ = some a → RepD (.ref a) dcell
  | scr {a : Addr} {vs : List V} {ds : List D} : (Rd H a (.lst vs) ∧ ¬ O a) ∨ InK K a vs → RepDs vs ds → RepD (.ref a) (dscr ds)
  | fn {a : Addr} {x : Str} : PySem.W.nsIn K mainGlobals x = some (some (.ref a)) → RepD (.ref a) (dfn x)
  | dic {a : Addr} {kvs : List (Key × V)} {ds : List D} : H a = some (.dK kvs) → ¬ O a → RepDs (kvs.map (·.2)) ds → RepD (.ref a) (.dict ((kvs.map fun p => keyD p.1).zip ds))
inductive RepDs : List V → List D → Prop
  | nil : RepDs [] []
  | cons {v : V} {vs : List V} {d : D} {ds : List D} : RepD v d → RepDs vs ds → RepDs (v :: vs) (d :: ds)
end
end

/-- a slot of a frame: nothing known, data, a list of one's own that may change -/
inductive Sl where
  | un | val (d : D) | own (xs : List D)
def Sl.d : Sl → D
  | .un => .none
  | .val d => d
  | .own xs => .list xs
structure S where
  e : List Sl
  c : List Int
/-- an exception: which class, its fields -/
structure Er where
  k : Nat
  fs : List (Str × V)
inductive RE where
  | ok (x : Sl) (s : S) | er (e : Er) (c : List Int) | stuck
inductive RS where
  | nx (s : S) | bk (s : S) | ct (s : S) | rt (x : Sl) (c : List Int) | er (e : Er) (c : List Int) | stuck
inductive RF where
  | ok (x : Sl) (c : List Int) | er (e : Er) (c : List Int) | stuck
abbrev DE := S → RE
abbrev DT := S → RE
abbrev DS := S → RS
abbrev Fn := List D → List Int → RF

/-- what is fixed through a law: the tables (a lambda's with its name), the exceptions' classes -/
structure Pm where
  K : PySem.W.Frag
  T : List (Addr × Option Str)
  cl : Nat → Option Addr

def TabP (H : Hp) (p : Addr × Option Str) : Prop := match p.2 with
  | none => ∃ ps : Array Value, H p.1 = some (.tbl ps) ∧ TriplesOk ps.toList
  | some q => LamX.TabS H p.1 q
def Tb (T : List (Addr × Option Str)) (H : Hp) : Prop := ∀ p ∈ T, TabP H p

/-- the world: O holds lists, the cell is one of them with the ints c -/
structure Wd (m : Pm) (δ : Option Addr) (H : Hp) (O : Addr → Prop) (c : List Int) : Prop where
  src : ∀ a, O a → ∃ xs, H a = some (.lst xs)
  cel : ∀ a, δ = some a → O a ∧ H a = some (.lst (c.map V.int))
  tab : Tb m.T H

def isTbl (o : HO) : Prop := ∃ ps, o = .tbl ps
/-- a def's step: what was known is as it was, but for the cell and the tables -/
structure StF (δ : Option Addr) (H : Hp) (O : Addr → Prop) (H' : Hp) (O' : Addr → Prop) : Prop where
  keep : ∀ a o, δ ≠ some a → ¬ isTbl o → H a = some o → H' a = some o
  there : ∀ a, H a ≠ none → H' a ≠ none
  fresh : ∀ a, O' a → O a ∨ H a = none
  stay : ∀ a, O a → O' a
def Mine (σ : St) (e : List Sl) (a : Addr) : Prop := ∃ (i : Nat) (xs : List D), e[i]? = some (.own xs) ∧ σ[i]? = some (some (.ref a))
/-- an expression's step: lists of one's own may have come to rest -/
structure StE (δ : Option Addr) (σ : St) (H : Hp) (O : Addr → Prop) (e : List Sl) (H' : Hp) (O' : Addr → Prop) (e' : List Sl) : Prop where
  keep : ∀ a o, δ ≠ some a → ¬ isTbl o → H a = some o → H' a = some o
  there : ∀ a, H a ≠ none → H' a ≠ none
  fresh : ∀ a, O' a → O a ∨ H a = none
  stay : ∀ a, O a → ¬ Mine σ e a → O' a
  mine : ∀ a, Mine σ e' a → Mine σ e a

variable {K : PySem.W.Frag} {m : Pm} {H H' H1 H2 H0 : Hp} {O O' O1 O2 O0 : Addr → Prop} {δ : Option Addr} {v : V} {d : D} {vs : List V} {ds : List D} {σ : St} {e e1 e2 : List Sl} {c c' : List Int}

theorem nt_lst {xs : List V} : ¬ isTbl (.lst xs) := fun ⟨_, h⟩ => nomatch h
theorem nt_tup {xs : List V} : ¬ isTbl (.tup xs) := fun ⟨_, h⟩ => nomatch h
theorem nt_dK {xs : List (Key × V)} : ¬ isTbl (.dK xs) := fun ⟨_, h⟩ => nomatch h
theorem nt_frz {o : Obj} {u : HO} : ¬ isTbl (.frz o u) := fun ⟨_, h⟩ => nomatch h
theorem nt_xd {xs : List (Str × V)} : ¬ isTbl (.xd xs) := fun ⟨_, h⟩ => nomatch h

theorem StF.refl : StF δ H O H O := ⟨fun _ _ _ _ h => h, fun _ h => h, fun _ h => .inl h, fun _ h => h⟩
theorem StF.trans (a : StF δ H O H1 O1) (b : StF δ H1 O1 H2 O2) : StF δ H O H2 O2 :=
  ⟨fun x o n t h => b.keep x o n t (a.keep x o n t h), fun x h => b.there x (a.there x h), fun x h => (b.fresh x h).elim (a.fresh x) (fun n => .inr (by
      cases q : H x with
      | none => rfl
      | some o => exact absurd n (a.there x (by rw [q]; simp)))), fun x h => b.stay x (a.stay x h)⟩
theorem StF.toE (a : StF δ H O H1 O1) : StE δ σ H O e H1 O1 e := ⟨a.keep, a.there, a.fresh, fun x h _ => a.stay x h, fun _ h => h⟩
theorem StE.refl : StE δ σ H O e H O e := StF.refl.toE
theorem StE.trans (a : StE δ σ H O e H1 O1 e1) (b : StE δ σ H1 O1 e1 H2 O2 e2) : StE δ σ H O e H2 O2 e2 :=
  ⟨fun x o n t h => b.keep x o n t (a.keep x o n t h), fun x h => b.there x (a.there x h), fun x h => (b.fresh x h).elim (a.fresh x) (fun n => .inr (by
      cases q : H x with
      | none => rfl
      | some o => exact absurd n (a.there x (by rw [q]; simp)))), fun x h n => b.stay x (a.stay x h n) (fun z => n (a.mine x z)), fun x h => a.mine x (b.mine x h)⟩

theorem Wd.ne_cell {o : HO} {a : Addr} (w : Wd m δ H O c) (h : ¬ O a) : δ ≠ some a := fun e => h (w.cel a e).1
theorem Wd.not {o : HO} {a : Addr} (w : Wd m δ H O c) (h : H a = some o) (n : ∀ xs, o ≠ .lst xs) : ¬ O a := fun z => by
  obtain ⟨xs, q⟩ := w.src a z
  rw [h] at q
  exact n xs (Option.some.inj q)

theorem rd_step {u : HO} {a : Addr} (k : ∀ a o, δ ≠ some a → ¬ isTbl o → H a = some o → H' a = some o) (n : δ ≠ some a) (t : ¬ isTbl u) (r : Rd H a u) : Rd H' a u := by
  rcases r with r | ⟨o, r⟩
  · exact .inl (k a u n t r)
  · exact .inr ⟨o, k a _ n nt_frz r⟩
theorem rd_some {u : HO} {a : Addr} (r : Rd H a u) : H a ≠ none := by
  rcases r with r | ⟨o, r⟩ <;> rw [r] <;> simp

/-- data stays data through a step -/
structure Stp (δ : Option Addr) (H : Hp) (O : Addr → Prop) (H' : Hp) (O' : Addr → Prop) : Prop where
  keep : ∀ a o, δ ≠ some a → ¬ isTbl o → H a = some o → H' a = some o
  fresh : ∀ a, O' a → O a ∨ H a = none
theorem StE.stp (a : StE δ σ H O e H1 O1 e1) : Stp δ H O H1 O1 := ⟨a.keep, a.fresh⟩
theorem StF.stp (a : StF δ H O H1 O1) : Stp δ H O H1 O1 := ⟨a.keep, a.fresh⟩

theorem Stp.nO {a : Addr} (s : Stp δ H O H' O') (h : H a ≠ none) (n : ¬ O a) : ¬ O' a := fun z => (s.fresh a z).elim n h
theorem Stp.sqT {a : Addr} {xs : List V} (s : Stp δ H O H' O') (w : Wd m δ H O c) (h : SqT K H a xs) : SqT K H' a xs := by
  rcases h with h | h
  · refine .inl (rd_step s.keep (fun e => ?_) nt_tup h)
    obtain ⟨_, q⟩ := w.cel a e
    rcases h with h | ⟨o, h⟩ <;> rw [q] at h <;> cases h
  · exact .inr h
theorem sqL_of {a : Addr} {xs : List V} (h : (Rd H a (.lst xs) ∧ ¬ O a) ∨ InK K a xs) : SqL K H a xs := h.elim (fun h => .inl h.1) .inr
theorem Stp.sqL {a : Addr} {xs : List V} (s : Stp δ H O H' O') (w : Wd m δ H O c) (n : ¬ O a) (h : SqL K H a xs) : SqL K H' a xs := by
  rcases h with h | h
  · exact .inl (rd_step s.keep (fun e => n (w.cel a e).1) nt_lst h)
  · exact .inr h
mutual
theorem RepD.step (s : Stp δ H O H' O') (w : Wd m δ H O c) : ∀ {v : V} {d : D}, RepD K H O δ v d → RepD K H' O' δ v d
  | _, _, .non => .non
  | _, _, .bl b => .bl b
  | _, _, .int i => .int i
  | _, _, .str x => .str x
  | _, _, .tup h r => .tup (s.sqT w h) (RepDs.step s w r)
  | _, _, .lst h n r => .lst (s.keep _ _ (w.ne_cell (o := .lst []) n) nt_lst h) (s.nO (by rw [h]; simp) n) (RepDs.step s w r)
  | _, _, .cell h => .cell h
  | _, _, .fn h => .fn h
  | _, _, .scr (.inl ⟨h, n⟩) r => .scr (.inl ⟨rd_step s.keep (w.ne_cell (o := .lst []) n) nt_lst h, s.nO (rd_some h) n⟩) (RepDs.step s w r)
  | _, _, .scr (.inr h) r => .scr (.inr h) (RepDs.step s w r)
  | _, _, .dic h n r => .dic (s.keep _ _ (w.ne_cell (o := .lst []) n) nt_dK h) (s.nO (by rw [h]; simp) n) (RepDs.step s w r)
theorem RepDs.step (s : Stp δ H O H' O') (w : Wd m δ H O c) : ∀ {vs : List V} {ds : List D}, RepDs K H O δ vs ds → RepDs K H' O' δ vs ds
  | _, _, .nil => .nil
  | _, _, .cons h r => .cons (RepD.step s w h) (RepDs.step s w r)
end
end DL

set_option Elab.async false
set_option linter.all false
set_option maxRecDepth 100000
set_option maxHeartbeats 4000000
/-! DLb: states, judgements, the rules of expressions. -/
namespace DL
open PySem PySem.Spec L2
open PyProof.Rows hiding St

section
variable {K : PySem.W.Frag} {m : Pm} {H H' H1 H2 H0 : Hp} {O O' O1 O2 O0 : Addr → Prop} {δ : Option Addr} {v : V} {d : D} {vs : List V} {ds : List D} {σ : St} {e e1 e2 : List Sl} {c c' : List Int}
mutual
theorem RepD.mono (s : ∀ a, O' a → O a) : ∀ {v : V} {d : D}, RepD K H O δ v d → RepD K H O' δ v d
  | _, _, .non => .non
  | _, _, .bl b => .bl b
  | _, _, .int i => .int i
  | _, _, .str x => .str x
  | _, _, .tup h r => .tup h (RepDs.mono s r)
  | _, _, .lst h n r => .lst h (fun z => n (s _ z)) (RepDs.mono s r)
  | _, _, .cell h => .cell h
  | _, _, .fn h => .fn h
  | _, _, .scr (.inl ⟨h, n⟩) r => .scr (.inl ⟨h, fun z => n (s _ z)⟩) (RepDs.mono s r)
  | _, _, .scr (.inr h) r => .scr (.inr h) (RepDs.mono s r)
  | _, _, .dic h n r => .dic h (fun z => n (s _ z)) (RepDs.mono s r)
theorem RepDs.mono (s : ∀ a, O' a → O a) : ∀ {vs : List V} {ds : List D}, RepDs K H O δ vs ds → RepDs K H O' δ vs ds
  | _, _, .nil => .nil
  | _, _, .cons h r => .cons (RepD.mono s h) (RepDs.mono s r)
end
theorem RepDs.length : ∀ {vs : List V} {ds : List D}, RepDs K H O δ vs ds → vs.length = ds.length
  | _, _, .nil => rfl
  | _, _, .cons _ r => by rw [List.length_cons, List.length_cons, RepDs.length r]
theorem RepDs.get : ∀ {vs : List V} {ds : List D} {i : Nat} {d : D}, RepDs K H O δ vs ds → ds[i]? = some d → ∃ v, vs[i]? = some v ∧ RepD K H O δ v d
  | _, _, _, _, .nil, h => by simp at h
  | _, _, 0, _, .cons h _, e => by simp at e; subst e; exact ⟨_, rfl, h⟩
  | _, _, i + 1, d, .cons _ r, e => by
    obtain ⟨v, h1, h2⟩ := RepDs.get (i := i) (d := d) r (by simpa using e)
    exact ⟨v, by simpa using h1, h2⟩
theorem RepDs.append : ∀ {vs ws : List V} {ds es : List D}, RepDs K H O δ vs ds → RepDs K H O δ ws es → RepDs K H O δ (vs ++ ws) (ds ++ es)
  | _, _, _, _, .nil, s => s
  | _, _, _, _, .cons r t, s => .cons r (RepDs.append t s)
theorem RepDs.take : ∀ {vs : List V} {ds : List D} (n : Nat), RepDs K H O δ vs ds → RepDs K H O δ (vs.take n) (ds.take n)
  | _, _, 0, _ => .nil
  | _, _, _ + 1, .nil => .nil
  | _, _, n + 1, .cons r t => .cons r (RepDs.take n t)
theorem RepDs.drop : ∀ {vs : List V} {ds : List D} (n : Nat), RepDs K H O δ vs ds → RepDs K H O δ (vs.drop n) (ds.drop n)
  | _, _, 0, r => r
  | _, _, _ + 1, .nil => .nil
  | _, _, n + 1, .cons _ t => RepDs.drop n t
theorem RepDs.set {x : V} {u : D} (r : RepD K H O δ x u) : ∀ {xs : List V} {us : List D} (i : Nat), RepDs K H O δ xs us → RepDs K H O δ (xs.set i x) (us.set i u)
  | _, _, _, .nil => .nil
  | _, _, 0, .cons _ t => .cons r t
  | _, _, i + 1, .cons q t => .cons q (RepDs.set r i t)
theorem RepDs.reverse {vs : List V} {ds : List D} (r : RepDs K H O δ vs ds) : RepDs K H O δ vs.reverse ds.reverse := by
  induction vs generalizing ds with
  | nil => cases r; exact .nil
  | cons v vs ih => cases r with | cons h t => rw [List.reverse_cons, List.reverse_cons]; exact (ih t).append (.cons h .nil)
theorem RepDs.rep {vs : List V} {ds : List D} (r : RepDs K H O δ vs ds) : ∀ k : Nat, RepDs K H O δ (List.replicate k vs).flatten (List.replicate k ds).flatten
  | 0 => .nil
  | k + 1 => by rw [List.replicate_succ, List.flatten_cons, List.replicate_succ, List.flatten_cons]; exact r.append (RepDs.rep r k)
theorem RepDs.ints : ∀ (ns : List Int), RepDs K H O δ (ns.map V.int) (ns.map PyData.int)
  | [] => .nil
  | n :: ns => .cons (.int n) (RepDs.ints ns)
theorem RepDs.of_ints : ∀ {vs : List V} {ns : List Int}, RepDs K H O δ vs (ns.map PyData.int) → vs = ns.map V.int
  | _, [], .nil => rfl
  | _, _ :: _, .cons (.int _) r => by rw [RepDs.of_ints r]; rfl
theorem RepDs.of_bools : ∀ {vs : List V} {ns : List Bool}, RepDs K H O δ vs (ns.map PyData.bool) → vs = ns.map V.bl
  | _, [], .nil => rfl
  | _, _ :: _, .cons (.bl _) r => by rw [RepDs.of_bools r]; rfl
theorem RepDs.of_strs : ∀ {vs : List V} {ns : List Str}, RepDs K H O δ vs (ns.map PyData.str) → vs = ns.map V.str
  | _, [], .nil => rfl
  | _, _ :: _, .cons (.str _) r => by rw [RepDs.of_strs r]; rfl

/-- more objects, nothing else -/
def Ext (H H' : Hp) : Prop := ∀ a o, H a = some o → H' a = some o
theorem Ext.refl : Ext H H := fun _ _ h => h
theorem Ext.upd {p : Addr} {o : HO} (h : H p = none) : Ext H (upd H p o) := fun a u q => by rw [upd_ne (ne_of_none q h)]; exact q
theorem Ext.there (x : Ext H H') (a : Addr) (h : H a ≠ none) : H' a ≠ none := by
  cases q : H a with
  | none => exact absurd q h
  | some o => rw [x a o q]; simp
theorem Ext.stF (x : Ext H H') : StF δ H O H' O := ⟨fun a o _ _ h => x a o h, x.there, fun _ h => .inl h, fun _ h => h⟩
theorem TabP.ext {p : Addr × Option Str} (t : TabP H p) (x : Ext H H') : TabP H' p := by
  unfold TabP at t ⊢
  split
  · rename_i e
    rw [e] at t
    obtain ⟨ps, h, q⟩ := t
    exact ⟨ps, x _ _ h, q⟩
  · rename_i q e
    rw [e] at t
    exact LamX.TabS.ext t x
theorem Wd.ext (w : Wd m δ H O c) (x : Ext H H') : Wd m δ H' O c :=
  ⟨fun a h => let ⟨xs, q⟩ := w.src a h; ⟨xs, x _ _ q⟩, fun a h => let ⟨q, r⟩ := w.cel a h; ⟨q, x _ _ r⟩, fun p hp => (w.tab p hp).ext x⟩
/-- with p among the lists that may change -/
def OAdd (O : Addr → Prop) (p : Addr) : Addr → Prop := fun a => O a ∨ a = p
/-- without p -/
def ODel (O : Addr → Prop) (p : Addr) : Addr → Prop := fun a => O a ∧ a ≠ p
theorem Wd.new {p : Addr} {xs : List V} (w : Wd m δ H O c) (h : H p = none) : Wd m δ (upd H p (.lst xs)) (OAdd O p) c :=
  ⟨fun a z => by
    rcases z with z | z
    · obtain ⟨ys, q⟩ := w.src a z
      exact ⟨ys, Ext.upd h _ _ q⟩
    · exact ⟨xs, by rw [z]; exact upd_same⟩, fun a z => let ⟨q, r⟩ := w.cel a z; ⟨.inl q, Ext.upd h _ _ r⟩, fun p hp => (w.tab p hp).ext (Ext.upd h)⟩
theorem StF.new {p : Addr} {xs : List V} (h : H p = none) : StF δ H O (upd H p (.lst xs)) (OAdd O p) :=
  ⟨fun a o _ _ q => Ext.upd h a o q, (Ext.upd h).there, fun a z => z.elim .inl (fun z => .inr (by rw [z]; exact h)), fun _ z => .inl z⟩
end

/-- what is fixed within a def's run: the cell, the entry, what is wished of an exception -/
structure Fx where
  m : Pm
  δ : Option Addr
  H0 : Hp
  O0 : Addr → Prop
  E : XK
  src : ∀ a, O0 a → H0 a ≠ none
structure EnvR (F : Fx) (H : Hp) (O : Addr → Prop) (σ : St) (e : List Sl) : Prop where
  len : σ.length = e.length
  vals : ∀ (i : Nat) (d : D), e[i]? = some (.val d) → ∃ v, σ[i]? = some (some v) ∧ RepD F.m.K H O F.δ v d
  owns : ∀ (i : Nat) (xs : List D), e[i]? = some (.own xs) → ∃ (a : Addr) (vs : List V), σ[i]? = some (some (.ref a)) ∧ O a ∧ F.δ ≠ some a ∧ H a = some (.lst vs) ∧ RepDs F.m.K H O F.δ vs xs ∧ F.H0 a = none
  uniq : ∀ (i j : Nat) (a : Addr) (xs ys : List D), i ≠ j → e[i]? = some (.own xs) → e[j]? = some (.own ys) → σ[i]? = some (some (.ref a)) → σ[j]? = some (some (.ref a)) → False
structure Est (F : Fx) (σ : St) (H : Hp) (O : Addr → Prop) (s : S) : Prop where
  wd : Wd F.m F.δ H O s.c
  env : EnvR F H O σ s.e
  base : StF F.δ F.H0 F.O0 H O
/-- a result: data, or a new list that may change -/
def SlXK (K : PySem.W.Frag) (δ : Option Addr) (H0 H : Hp) (O : Addr → Prop) (v : V) : Sl → Prop
  | .un => False
  | .val d => RepD K H O δ v d
  | .own xs => ∃ (a : Addr) (vs : List V), v = .ref a ∧ O a ∧ δ ≠ some a ∧ H a = some (.lst vs) ∧ RepDs K H O δ vs xs ∧ H0 a = none
abbrev SlX (F : Fx) := SlXK F.m.K F.δ
def ErR (m : Pm) (e : Er) (cls : Value) (dd : Option Addr) (H : Hp) : Prop := ∃ C d, m.cl e.k = some C ∧ cls = .ref C ∧ dd = some d ∧ H d = some (.xd e.fs)
def KEr (F : Fx) (e : Er) (c : List Int) : Prop := ∀ cls dd H' O', StF F.δ F.H0 F.O0 H' O' → Wd F.m F.δ H' O' c → ErR F.m e cls dd H' → F.E cls dd H'
def KE (F : Fx) (σ : St) (H : Hp) (O : Addr → Prop) (s : S) (Q : VK) : RE → Prop
  | .ok x s' => ∀ v H' O', StE F.δ σ H O s.e H' O' s'.e → Est F σ H' O' s' → SlX F H H' O' v x → Q v H'
  | .er e c => KEr F e c
  | .stuck => False
def KD (F : Fx) (σ : St) (H : Hp) (O : Addr → Prop) (s : S) (Q : VK) : RE → Prop
  | .ok x s' => ∀ v H' O', StE F.δ σ H O s.e H' O' s'.e → Est F σ H' O' s' → RepD F.m.K H' O' F.δ v x.d → Q v H'
  | .er e c => KEr F e c
  | .stuck => False
def KT (F : Fx) (σ : St) (H : Hp) (O : Addr → Prop) (s : S) (Q : Bool → Hp → Prop) : RE → Prop
  | .ok x s' => match x.d with
    | .bool b => ∀ H' O', StE F.δ σ H O s.e H' O' s'.e → Est F σ H' O' s' → Q b H'
    | _ => False
  | .er e c => KEr F e c
  | .stuck => False
def SE (F : Fx) (t : TE) (f : DE) : Prop := ∀ σ H O s Q, Est F σ H O s → KE F σ H O s Q (f s) → t σ H Q
def ST (F : Fx) (t : TT) (f : DE) : Prop := ∀ σ H O s Q, Est F σ H O s → KT F σ H O s Q (f s) → t σ H Q
def EO (F : Fx) (X : Cx) (e : Expr) (f : DE) : Prop := ∃ t, PE X e t ∧ SE F t f
def TO (F : Fx) (X : Cx) (e : Expr) (f : DE) : Prop := ∃ t, PT X e t ∧ ST F t f
def WO (F : Fx) (X : Cx) (e : Expr) (f : DE) : Prop := ∃ t, PW X e t ∧ ST F t f

section
variable {F : Fx} {X : Cx} {H H' H1 H2 : Hp} {O O' O1 O2 : Addr → Prop} {σ : St} {s s1 s2 : S} {Q : VK} {t : TE} {f g : DE} {v : V} {d : D}

theorem StE.repD {e e' : List Sl} {c : List Int} (st : StE F.δ σ H O e H' O' e') (w : Wd F.m F.δ H O c) (r : RepD F.m.K H O F.δ v d) : RepD F.m.K H' O' F.δ v d := r.step st.stp w
theorem StE.repDs {e e' : List Sl} {c : List Int} {vs : List V} {ds : List D} (st : StE F.δ σ H O e H' O' e') (w : Wd F.m F.δ H O c) (r : RepDs F.m.K H O F.δ vs ds) : RepDs F.m.K H' O' F.δ vs ds := r.step st.stp w

theorem EnvR.mine {e : List Sl} (r : EnvR F H O σ e) {a : Addr} (h : Mine σ e a) : H a ≠ none := by
  obtain ⟨i, xs, h1, h2⟩ := h
  obtain ⟨b, vs, h3, _, _, h4, _⟩ := r.owns i xs h1
  rw [h2] at h3
  cases h3
  rw [h4]
  simp
/-- an own list p comes out of the changing ones; no slot holds it -/
theorem Est.del (I : Est F σ H O s) {p : Addr} (hp : F.δ ≠ some p) (h0 : F.H0 p = none) (hm : ¬ Mine σ s.e p) : Est F σ H (ODel O p) s where
  wd := ⟨fun a z => I.wd.src a z.1, fun a z => ⟨⟨(I.wd.cel a z).1, fun q => hp (q ▸ z)⟩, (I.wd.cel a z).2⟩, I.wd.tab⟩
  env := ⟨I.env.len, fun i d h => let ⟨v, h1, h2⟩ := I.env.vals i d h; ⟨v, h1, h2.mono fun _ z => z.1⟩,
    fun i xs h => let ⟨a, vs, h1, h2, h3, h4, h5, h6⟩ := I.env.owns i xs h; ⟨a, vs, h1, ⟨h2, fun q => hm (q ▸ ⟨i, xs, h, h1⟩)⟩, h3, h4, h5.mono fun _ z => z.1, h6⟩, I.env.uniq⟩
  base := ⟨I.base.keep, I.base.there, fun a z => I.base.fresh a z.1, fun a z => ⟨I.base.stay a z, fun q => F.src a z (q ▸ h0)⟩⟩

theorem sl_eq {e : List Sl} {i : Nat} {x y : Sl} (h : (e.set i x)[i]? = some y) : y = x ∧ i < e.length := by
  by_cases hi : i < e.length
  · rw [List.getElem?_set_self hi] at h
    exact ⟨(Option.some.inj h).symm, hi⟩
  · rw [List.getElem?_eq_none (by simpa using hi)] at h
    cases h
theorem sl_ne {α : Type} {e : List α} {i j : Nat} {x : α} (h : j ≠ i) : (e.set i x)[j]? = e[j]? := List.getElem?_set_ne (Ne.symm h)
theorem mine_set {e : List Sl} {i : Nat} {x : Sl} (hx : ∀ xs, x ≠ .own xs) {a : Addr} (h : Mine σ (e.set i x) a) : Mine σ e a := by
  obtain ⟨j, xs, h1, h2⟩ := h
  by_cases q : j = i
  · subst q
    exact absurd (sl_eq h1).1.symm (hx xs)
  · rw [sl_ne q] at h1
    exact ⟨j, xs, h1, h2⟩

/-- the own list of slot i comes to rest: it is data from now on -/
theorem Est.rest (I : Est F σ H O s) {i : Nat} {xs : List D} (h : s.e[i]? = some (.own xs)) :
    ∃ a, σ[i]? = some (some (.ref a)) ∧ Est F σ H (ODel O a) { s with e := s.e.set i (.val (.list xs)) } ∧ StE F.δ σ H O s.e H (ODel O a) (s.e.set i (.val (.list xs))) ∧ RepD F.m.K H (ODel O a) F.δ (.ref a) (.list xs) := by
  obtain ⟨a, vs, h1, h2, h3, h4, h5, h6⟩ := I.env.owns i xs h
  have hr : RepD F.m.K H (ODel O a) F.δ (.ref a) (.list xs) := .lst h4 (fun z => z.2 rfl) (h5.mono fun _ z => z.1)
  have hu : ∀ j ys, j ≠ i → s.e[j]? = some (.own ys) → σ[j]? ≠ some (some (.ref a)) := fun j ys hj q r => I.env.uniq j i a ys xs hj q h r h1
  refine ⟨a, h1, ⟨⟨fun b z => I.wd.src b z.1, fun b z => ⟨⟨(I.wd.cel b z).1, fun q => h3 (q ▸ z)⟩, (I.wd.cel b z).2⟩, I.wd.tab⟩, ⟨?_, fun j d q => ?_, fun j ys q => ?_, fun j k b ys zs hjk q1 q2 r1 r2 => ?_⟩,
    ⟨I.base.keep, I.base.there, fun b z => I.base.fresh b z.1, fun b z => ⟨I.base.stay b z, fun q => F.src b z (q ▸ h6)⟩⟩⟩,
    ⟨fun _ _ _ _ q => q, fun _ q => q, fun b z => .inl z.1, fun b z n => ⟨z, fun q => n (q ▸ ⟨i, xs, h, h1⟩)⟩, fun b z => mine_set (x := .val (.list xs)) (fun _ q => by cases q) z⟩, hr⟩
  · show σ.length = (s.e.set i (.val (.list xs))).length
    rw [List.length_set]; exact I.env.len
  · have q : (s.e.set i (.val (.list xs)))[j]? = some (.val d) := q
    by_cases hj : j = i
    · subst hj
      cases (sl_eq q).1
      exact ⟨_, h1, hr⟩
    · rw [sl_ne hj] at q
      obtain ⟨v, r1, r2⟩ := I.env.vals j d q
      exact ⟨v, r1, r2.mono fun _ z => z.1⟩
  · have q : (s.e.set i (.val (.list xs)))[j]? = some (.own ys) := q
    by_cases hj : j = i
    · subst hj
      cases (sl_eq q).1
    · rw [sl_ne hj] at q
      obtain ⟨b, ws, r1, r2, r3, r4, r5, r6⟩ := I.env.owns j ys q
      exact ⟨b, ws, r1, ⟨r2, fun z => hu j ys hj q (z ▸ r1)⟩, r3, r4, r5.mono fun _ z => z.1, r6⟩
  · have q1 : (s.e.set i (.val (.list xs)))[j]? = some (.own ys) := q1
    have q2 : (s.e.set i (.val (.list xs)))[k]? = some (.own zs) := q2
    by_cases hj : j = i
    · subst hj
      cases (sl_eq q1).1
    · by_cases hk : k = i
      · subst hk
        cases (sl_eq q2).1
      · rw [sl_ne hj] at q1
        rw [sl_ne hk] at q2
        exact I.env.uniq j k b ys zs hjk q1 q2 r1 r2

/-- what is wanted of an expression, told of its data alone -/
theorem SE.use (h : SE F t f) (I : Est F σ H O s) (k : KD F σ H O s Q (f s)) : t σ H Q := by
  refine h σ H O s Q I ?_
  cases q : f s with
  | stuck => rw [q] at k; exact k
  | er e c => rw [q] at k; exact k
  | ok x s' =>
    rw [q] at k
    intro v H' O' st I' hx
    cases x with
    | un => exact hx.elim
    | val d => exact k v H' O' st I' hx
    | own xs =>
      obtain ⟨a, vs, rfl, ha, hd, hH, hr, hn⟩ := hx
      have h0 : F.H0 a = none := by
        cases q0 : F.H0 a with
        | none => rfl
        | some o => exact absurd hn (I.base.there a (by rw [q0]; simp))
      have hm : ¬ Mine σ s'.e a := fun z => I.env.mine (st.mine a z) hn
      refine k (.ref a) H' (ODel O' a) ⟨st.keep, st.there, fun b z => st.fresh b z.1, fun b z n => ⟨st.stay b z n, fun q => ?_⟩, st.mine⟩ (I'.del hd h0 hm) (.lst hH (fun z => z.2 rfl) (hr.mono fun _ z => z.1))
      obtain ⟨ys, r⟩ := I.wd.src b z
      rw [q, hn] at r
      cases r

theorem Est.ext (I : Est F σ H O s) (x : Ext H H') : Est F σ H' O s where
  wd := I.wd.ext x
  env := ⟨I.env.len, fun i d h => let ⟨v, h1, h2⟩ := I.env.vals i d h; ⟨v, h1, h2.step (StF.stp (x.stF (O := O))) I.wd⟩,
    fun i xs h => let ⟨a, vs, h1, h2, h3, h4, h5, h6⟩ := I.env.owns i xs h; ⟨a, vs, h1, h2, h3, x _ _ h4, h5.step (StF.stp (x.stF (O := O))) I.wd, h6⟩, I.env.uniq⟩
  base := I.base.trans x.stF
theorem Est.new (I : Est F σ H O s) {p : Addr} {xs : List V} (h : H p = none) : Est F σ (upd H p (.lst xs)) (OAdd O p) s where
  wd := I.wd.new h
  env := ⟨I.env.len, fun i d h1 => let ⟨v, h1, h2⟩ := I.env.vals i d h1; ⟨v, h1, h2.step (StF.new (O := O) h).stp I.wd⟩,
    fun i xs h1 => let ⟨a, vs, h1, h2, h3, h4, h5, h6⟩ := I.env.owns i xs h1; ⟨a, vs, h1, .inl h2, h3, Ext.upd h _ _ h4, h5.step (StF.new (O := O) h).stp I.wd, h6⟩, I.env.uniq⟩
  base := I.base.trans (StF.new h)
/-- behind a def's call -/
theorem Est.call (I : Est F σ H O s) {c : List Int} (st : StF F.δ H O H' O') (w : Wd F.m F.δ H' O' c) : Est F σ H' O' { s with c := c } where
  wd := w
  env := ⟨I.env.len, fun i d h1 => let ⟨v, h1, h2⟩ := I.env.vals i d h1; ⟨v, h1, h2.step st.stp I.wd⟩,
    fun i xs h1 => let ⟨a, vs, h1, h2, h3, h4, h5, h6⟩ := I.env.owns i xs h1; ⟨a, vs, h1, st.stay a h2, h3, st.keep a _ h3 nt_lst h4, h5.step st.stp I.wd, h6⟩, I.env.uniq⟩
  base := I.base.trans st

/-- what a built-in hands back: data (objects may have been laid), or a new list -/
def Res (F : Fx) (H : Hp) (O : Addr → Prop) (Q : VK) : Sl → Prop
  | .un => False
  | .val d => ∀ v H', Ext H H' → RepD F.m.K H' O F.δ v d → Q v H'
  | .own xs => ∀ p vs, H p = none → RepDs F.m.K H O F.δ vs xs → Q (.ref p) (upd H p (.lst vs))
def liftR (o : Option Sl) (s : S) : RE := match o with
  | some (.val d) => .ok (.val d) s
  | some (.own xs) => .ok (.own xs) s
  | _ => .stuck
theorem KE_lift {s' : S} {o : Option Sl} (k : KE F σ H O s Q (liftR o s')) : ∃ z, o = some z ∧ z ≠ .un ∧ KE F σ H O s Q (.ok z s') := by
  unfold liftR at k
  split at k
  · exact ⟨_, rfl, (fun q => by cases q), k⟩
  · exact ⟨_, rfl, (fun q => by cases q), k⟩
  · exact k.elim
theorem Res.of {s0 : S} {H0 : Hp} {O0 : Addr → Prop} {x : Sl} (I0 : Est F σ H0 O0 s0) (st : StE F.δ σ H0 O0 s0.e H O s.e) (I : Est F σ H O s) (k : KE F σ H0 O0 s0 Q (.ok x s)) (hx : x ≠ .un) : Res F H O Q x := by
  cases x with
  | un => exact hx rfl
  | val d => exact fun v H' e r => k v H' O (st.trans e.stF.toE) (I.ext e) r
  | own xs =>
    intro p vs hp hr
    have hd : F.δ ≠ some p := fun z => by rw [(I.wd.cel p z).2] at hp; cases hp
    have h0 : H0 p = none := by
      cases q0 : H0 p with
      | none => rfl
      | some o => exact absurd hp (st.there p (by rw [q0]; simp))
    exact k (.ref p) _ (OAdd O p) (st.trans (StF.new hp).toE) (I.new hp) ⟨p, vs, rfl, .inr rfl, hd, upd_same, hr.step (StF.new (O := O) hp).stp I.wd, h0⟩

/-! ### names, constants -/
def eC (d : D) : DE := fun s => .ok (.val d) s
theorem e_of {e : Expr} (h : PE X e (tC v)) (r : ∀ H O, RepD F.m.K H O F.δ v d) : EO F X e (eC d) :=
  ⟨_, h, fun σ H O s Q I k => k v H O .refl I (r H O)⟩
theorem e_int {i : Int} {j pos} : EO F X (.Constant (.int i) j pos) (eC (.int i)) := e_of pe_int fun _ _ => .int i
theorem e_bl {b j pos} : EO F X (.Constant (.bool b) j pos) (eC (.bool b)) := e_of pe_bl fun _ _ => .bl b
theorem e_non {j pos} : EO F X (.Constant .none j pos) (eC .none) := e_of pe_non fun _ _ => .non
theorem e_str {x j pos} : EO F X (.Constant (.str x) j pos) (eC (.str x)) := e_of pe_str fun _ _ => .str x
/-- a module's constant -/
theorem e_glob {x : Str} {i : Int} {t : Tok} {pos : Pos} (hg : Gl X x) (hm : X.mg x = some (.int i t)) (hd : (x == ("__debug__" : Str)) = false := by decide) : EO F X (.Name x pos) (eC (.int i)) :=
  e_of (pe_glob hg hm (v := .int i) ⟨_, rfl⟩ hd) fun _ _ => .int i
theorem e_globS {x y : Str} {t : Tok} {pos : Pos} (hg : Gl X x) (hm : X.mg x = some (.str y t)) (hd : (x == ("__debug__" : Str)) = false := by decide) : EO F X (.Name x pos) (eC (.str y)) :=
  e_of (pe_glob hg hm (v := .str y) ⟨_, rfl⟩ hd) fun _ _ => .str y
def eVar (i : Nat) : DE := fun s => match s.e[i]? with
  | some (.val d) => .ok (.val d) s
  | some (.own xs) => .ok (.val (.list xs)) { s with e := s.e.set i (.val (.list xs)) }
  | _ => .stuck
theorem e_var (i : Nat) {x : Str} {pos : Pos} (hN : X.N[i]? = some x := by rfl) (hv : Vis X.env.scope x := by first | exact Or.inl rfl | exact Or.inr (Or.inl rfl) | exact Or.inr (Or.inr rfl)) (hd : (x == ("__debug__" : Str)) = false := by decide)
    (hcd : (x == ("__classdict__" : Str)) = false := by decide) : EO F X (.Name x pos) (eVar i) := by
  refine ⟨_, pe_var hN hv hd hcd, fun σ H O s Q I k => ?_⟩
  unfold eVar at k
  split at k
  · rename_i d h
    obtain ⟨v, h1, h2⟩ := I.env.vals i d h
    exact ⟨v, h1, k v H O .refl I h2⟩
  · rename_i xs h
    obtain ⟨a, h1, I', st, r⟩ := I.rest h
    exact ⟨_, h1, k _ H _ st I' r⟩
  · exact k.elim

/-! ### two parts, then an operation by values -/
def RE.bind (r : RE) (k : D → S → RE) : RE := match r with
  | .ok x s => k x.d s
  | .er e c => .er e c
  | .stuck => .stuck
def eOp (g : D → D → Option Sl) (a b : DE) : DE := fun s => (a s).bind fun x s1 => (b s1).bind fun y s2 => liftR (g x y) s2
/-- the rule r of the layer does g -/
def OpS (F : Fx) (r : R2) (g : D → D → Option Sl) : Prop := ∀ H O c x y dx dy z Q, Wd F.m F.δ H O c → RepD F.m.K H O F.δ x dx → RepD F.m.K H O F.δ y dy → g dx dy = some z → Res F H O Q z → r x y H Q
/-- the first part -/
theorem SE.bind {k : D → S → RE} {a : DE} {ta : TE} {R : VK} (ha : SE F ta a) (I : Est F σ H O s) (h : KE F σ H O s Q ((a s).bind k))
    (hk : ∀ x s1 v H1 O1, StE F.δ σ H O s.e H1 O1 s1.e → Est F σ H1 O1 s1 → RepD F.m.K H1 O1 F.δ v x → KE F σ H O s Q (k x s1) → R v H1) : ta σ H R := by
  refine ha.use I ?_
  cases q : a s with
  | stuck => rw [q] at h; exact h
  | er e c => rw [q] at h; exact h
  | ok x s1 => rw [q] at h; exact fun v H1 O1 st I1 r => hk x.d s1 v H1 O1 st I1 r h
theorem SE.bindT {k : D → S → RE} {a : DE} {ta : TE} {R : VK} {QT : Bool → Hp → Prop} (ha : SE F ta a) (I : Est F σ H O s) (h : KT F σ H O s QT ((a s).bind k))
    (hk : ∀ x s1 v H1 O1, StE F.δ σ H O s.e H1 O1 s1.e → Est F σ H1 O1 s1 → RepD F.m.K H1 O1 F.δ v x → KT F σ H O s QT (k x s1) → R v H1) : ta σ H R := by
  refine ha.use I ?_
  cases q : a s with
  | stuck => rw [q] at h; exact h
  | er e c => rw [q] at h; exact h
  | ok x s1 => rw [q] at h; exact fun v H1 O1 st I1 r => hk x.d s1 v H1 O1 st I1 r h
theorem s_op {r : R2} {op : D → D → Option Sl} {ta tb : TE} {a b : DE} (ha : SE F ta a) (hb : SE F tb b) (hs : OpS F r op) : SE F (tOp r ta tb) (eOp op a b) := by
  intro σ H O s Q I k
  refine ha.bind I k fun x s1 v1 H1 O1 st1 I1 r1 k => ?_
  refine hb.use I1 ?_
  cases qb : b s1 with
  | stuck => rw [qb] at k; exact k
  | er e c => rw [qb] at k; exact k
  | ok y s2 =>
    rw [qb] at k
    intro v2 H2 O2 st2 I2 r2
    obtain ⟨z, qo, zn, k⟩ := KE_lift k
    exact hs H2 O2 s2.c v1 v2 x y.d z Q I2.wd (r1.step st2.stp I1.wd) r2 qo (Res.of I (st1.trans st2) I2 k zn)
theorem e_op {r : R2} {g : D → D → Option Sl} {op : Operator} {a b : Expr} {fa fb : DE} {pos : Pos} (ho : OpR X (binaryOp op) r) (hs : OpS F r g) (ha : EO F X a fa) (hb : EO F X b fb) : EO F X (.BinOp a op b pos) (eOp g fa fb) :=
  let ⟨_, pa, sa⟩ := ha
  let ⟨_, pb, sb⟩ := hb
  ⟨_, pe_op ho pa pb, s_op sa sb hs⟩
end
end DL

set_option Elab.async false
set_option linter.all false
set_option maxRecDepth 100000
set_option maxHeartbeats 4000000
/-! DLc: operations by values. -/
namespace DL
open PySem PySem.Spec L2
open PyProof.Rows hiding St

section
variable {F : Fx} {X : Cx} {H H' H1 H2 : Hp} {O O' O1 O2 : Addr → Prop} {σ : St} {s s1 s2 : S} {Q : VK} {t : TE} {f g : DE} {v : V} {d : D} {K : PySem.W.Frag} {δ : Option Addr}

theorem RepD.int_inv {i : Int} (r : RepD K H O δ v (.int i)) : v = .int i := by cases r; rfl
theorem RepD.bool_inv {i : Bool} (r : RepD K H O δ v (.bool i)) : v = .bl i := by cases r; rfl
theorem RepD.str_inv {i : Str} (r : RepD K H O δ v (.str i)) : v = .str i := by cases r; rfl
theorem RepD.none_inv (r : RepD K H O δ v .none) : v = .non := by cases r; rfl
theorem RepD.tup_inv {xs : List D} (r : RepD K H O δ v (.tuple xs)) : ∃ a vs, v = .ref a ∧ SqT K H a vs ∧ RepDs K H O δ vs xs := by cases r with | tup h r => exact ⟨_, _, rfl, h, r⟩
theorem RepD.list_inv {xs : List D} (r : RepD K H O δ v (.list xs)) : ∃ a vs, v = .ref a ∧ H a = some (.lst vs) ∧ ¬ O a ∧ RepDs K H O δ vs xs := by cases r with | lst h n r => exact ⟨_, _, rfl, h, n, r⟩
theorem keyD_none (k : Key) : keyD k ≠ .none := by cases k <;> intro h <;> cases h
theorem keyD_bool (k : Key) (b : Bool) : keyD k ≠ .bool b := by cases k <;> intro h <;> cases h
theorem RepD.cell_inv (r : RepD K H O δ v dcell) : ∃ a, v = .ref a ∧ δ = some a := by
  generalize e : dcell = d at r
  cases r with
  | cell h => exact ⟨_, rfl, h⟩
  | dic h n q =>
    exfalso
    unfold dcell at e
    injection e with e
    rename_i kvs ds
    cases kvs with
    | nil => simp at e
    | cons p l =>
      cases ds with
      | nil => simp at e
      | cons x r =>
        simp only [List.map_cons, List.zip_cons_cons, List.cons.injEq, Prod.mk.injEq] at e
        exact keyD_none _ e.1.1.symm
  | scr h q => unfold dcell dscr at e; simp at e
  | fn h => unfold dcell dfn at e; simp at e
  | _ => unfold dcell at e; cases e
theorem RepD.scr_inv {xs : List D} (r : RepD K H O δ v (dscr xs)) : ∃ a vs, v = .ref a ∧ SqL K H a vs ∧ RepDs K H O δ vs xs := by
  generalize e : dscr xs = d at r
  cases r with
  | scr h q =>
    unfold dscr at e
    simp at e
    subst e
    exact ⟨_, _, rfl, sqL_of h, q⟩
  | cell h => unfold dcell dscr at e; simp at e
  | fn h => unfold dfn dscr at e; simp at e
  | dic h n q =>
    exfalso
    unfold dscr at e
    injection e with e
    rename_i kvs ds
    cases kvs with
    | nil => simp at e
    | cons p l =>
      cases ds with
      | nil => simp at e
      | cons x r =>
        simp only [List.map_cons, List.zip_cons_cons, List.cons.injEq, Prod.mk.injEq] at e
        exact keyD_bool _ _ e.1.1.symm
  | _ => unfold dscr at e; cases e

theorem OpS.or {r r' : R2} {g g' : D → D → Option Sl} (h : OpS F r g) (h' : OpS F r' g') : OpS F (fun x y H Q => r x y H Q ∨ r' x y H Q) (fun x y => match g x y with | some z => some z | none => g' x y) := by
  intro H O c x y dx dy z Q w rx ry hg hq
  have hg : (match g dx dy with | some z => some z | none => g' dx dy) = some z := hg
  split at hg
  · rename_i z' e
    cases hg
    exact .inl (h H O c x y dx dy z Q w rx ry e hq)
  · exact .inr (h' H O c x y dx dy z Q w rx ry hg hq)

/-! ### ints -/
def gI (C : Int → Int → Bool) (f : Int → Int → D) : D → D → Option Sl
  | .int i, .int j => if C i j then some (.val (f i j)) else none
  | _, _ => none
theorem s_rI {C : Int → Int → Prop} {C' : Int → Int → Bool} {gv : Int → Int → V} {gd : Int → Int → D} (hc : ∀ i j, C' i j = true → C i j) (hv : ∀ (H : Hp) (O : Addr → Prop) i j, RepD F.m.K H O F.δ (gv i j) (gd i j)) : OpS F (rI C gv) (gI C' gd) := by
  intro H O c x y dx dy z Q w rx ry hg hq
  unfold gI at hg
  split at hg
  · rename_i i j
    split at hg
    · rename_i hC
      cases hg
      exact ⟨i, j, rx.int_inv, ry.int_inv, hc i j hC, hq _ H .refl (hv _ _ i j)⟩
    · cases hg
  · cases hg
theorem s_rI0 {gv : Int → Int → V} {gd : Int → Int → D} (hv : ∀ (H : Hp) (O : Addr → Prop) i j, RepD F.m.K H O F.δ (gv i j) (gd i j)) : OpS F (rI0 gv) (gI (fun _ _ => true) gd) := by
  intro H O c x y dx dy z Q w rx ry hg hq
  unfold gI at hg
  split at hg
  · rename_i i j
    simp only [if_true] at hg
    cases hg
    exact ⟨i, j, rx.int_inv, ry.int_inv, hq _ H .refl (hv _ _ i j)⟩
  · cases hg
abbrev lim64 (i : Int) : Bool := decide (-(2 ^ 64) < i) && decide (i < 2 ^ 64)
/-! ### + -/
def addD : D → D → Option Sl
  | .int i, .int j => some (.val (.int (i + j)))
  | .str a, .str b => if a.length + b.length ≤ sizeLine then some (.val (.str (a ++ b))) else none
  | .tuple a, .tuple b => if a.length + b.length ≤ sizeLine then some (.val (.tuple (a ++ b))) else none
  | .list a, .list b => if a.length + b.length ≤ sizeLine then some (.own (a ++ b)) else none
  | _, _ => none
def rAddD (K : PySem.W.Frag) : R2 := fun x y H Q => rI0 (fun i j => .int (i + j)) x y H Q ∨ (∃ i j, x = .str i ∧ y = .str j ∧ i.length + j.length ≤ sizeLine ∧ Q (.str (i ++ j)) H) ∨ rCatA K x y H Q ∨ rCat x y H Q
theorem op_addD : OpR X (binaryOp .Add) (rAddD X.K) := op_add.or (op_add_str.or (op_catA.or op_cat))
theorem s_addD : OpS F (rAddD F.m.K) addD := by
  intro H O c x y dx dy z Q w rx ry hg hq
  unfold addD at hg
  split at hg
  · cases hg
    exact .inl ⟨_, _, rx.int_inv, ry.int_inv, hq _ H .refl (.int _)⟩
  · split at hg
    · cases hg
      exact .inr (.inl ⟨_, _, rx.str_inv, ry.str_inv, by assumption, hq _ H .refl (.str _)⟩)
    · cases hg
  · split at hg
    · cases hg
      obtain ⟨a, vs, rfl, ha, ra⟩ := rx.tup_inv
      obtain ⟨b, ws, rfl, hb, rb⟩ := ry.tup_inv
      refine .inr (.inr (.inl ⟨a, b, vs, ws, rfl, rfl, ha, hb, by rw [ra.length, rb.length]; assumption, fun e => ?_, fun _ e => ?_, fun _ _ p hp => ?_⟩))
      · subst e
        cases ra
        exact hq _ H .refl (.tup hb rb)
      · subst e
        cases rb
        rw [List.append_nil] at hq
        exact hq _ H .refl (.tup ha ra)
      · exact hq _ _ (Ext.upd hp) (.tup (.of upd_same) ((ra.append rb).step (StF.stp ((Ext.upd hp).stF (O := O))) w))
    · cases hg
  · split at hg
    · cases hg
      obtain ⟨a, vs, rfl, ha, _, ra⟩ := rx.list_inv
      obtain ⟨b, ws, rfl, hb, _, rb⟩ := ry.list_inv
      exact .inr (.inr (.inr ⟨a, b, vs, ws, rfl, rfl, ha, hb, by rw [ra.length, rb.length]; assumption, fun p hp => hq p _ hp (ra.append rb)⟩))
    · cases hg
  · cases hg
def eAdd (a b : DE) : DE := eOp addD a b
theorem e_add {a b : Expr} {fa fb : DE} {pos : Pos} (hK : F.m.K = X.K) (ha : EO F X a fa) (hb : EO F X b fb) : EO F X (.BinOp a .Add b pos) (eAdd fa fb) := e_op op_addD (hK ▸ s_addD) ha hb
def subD : D → D → Option Sl := gI (fun _ _ => true) fun i j => .int (i - j)
def eSub (a b : DE) : DE := eOp subD a b
theorem e_sub {a b : Expr} {fa fb : DE} {pos : Pos} (ha : EO F X a fa) (hb : EO F X b fb) : EO F X (.BinOp a .Sub b pos) (eSub fa fb) := e_op op_sub (s_rI0 fun _ _ _ _ => .int _) ha hb
def divD : D → D → Option Sl := gI (fun _ j => decide (0 < j) && decide (j < 1073741824)) fun i j => .int (i / j)
def eDiv (a b : DE) : DE := eOp divD a b
theorem e_div {a b : Expr} {fa fb : DE} {pos : Pos} (ha : EO F X a fa) (hb : EO F X b fb) : EO F X (.BinOp a .FloorDiv b pos) (eDiv fa fb) :=
  e_op op_fdiv (s_rI (fun i j h => by simpa [CDiv] using h) fun _ _ _ _ => .int _) ha hb
def modD : D → D → Option Sl := gI (fun _ j => decide (0 < j)) fun i j => .int (i % j)
def eMod (a b : DE) : DE := eOp modD a b
theorem e_mod {a b : Expr} {fa fb : DE} {pos : Pos} (ha : EO F X a fa) (hb : EO F X b fb) : EO F X (.BinOp a .Mod b pos) (eMod fa fb) :=
  e_op op_mod (s_rI (fun i j h => by simpa using h) fun _ _ _ _ => .int _) ha hb
def powD : D → D → Option Sl := gI (fun i j => decide (0 ≤ j) && decide (j ≤ 1000000) && decide (i.natAbs < 2 ^ 64)) fun i j => .int (i ^ j.toNat)
def ePow (a b : DE) : DE := eOp powD a b
theorem e_pow {a b : Expr} {fa fb : DE} {pos : Pos} (ha : EO F X a fa) (hb : EO F X b fb) : EO F X (.BinOp a .Pow b pos) (ePow fa fb) :=
  e_op op_pow (s_rI (fun i j h => by simp only [Bool.and_eq_true, decide_eq_true_eq] at h; exact ⟨h.1.1, h.1.2, h.2⟩) fun _ _ _ _ => .int _) ha hb

/-! ### * -/
theorem tuple_mul1 (l : Addr) (items : Array Value) (n : Nat) (dd : Option Addr) (sl : Array (Option Value)) (u : Tok) :
    Meets (Builtin.«tuple.__mul__» ⟨[.ref l, .int 1 u], []⟩) (fun _ R s => s.heap.get? l = some { cls := .type "tuple", dict := dd, data := .seq items n, slots := sl } ∧ R (.ok (.ret (Value.ref l))) s) :=
  .of_wp fun prog w A R s h => by
    obtain ⟨hp, g, d, tk, os⟩ := s
    obtain ⟨hl, h⟩ := h
    have f1 := AutoSeq1.idx_int
    have c1 : (items.isEmpty || (1 : Int) == 1) = true := by simp
    wp_walk using wpAny_loadPart' hl
    repeat (first
      | (refine wpAny_ite_false (decide_eq_false (by decide)) ?_; wp_walk using wpAny_loadPart' hl)
      | (refine wpAny_ite_true (decide_eq_true c1) ?_; wp_walk using wpAny_loadPart' hl))
    exact ⟨_, rfl, h⟩
def rRepT1 (K : PySem.W.Frag) : R2 := fun x y H Q => ∃ l xs, x = .ref l ∧ y = .int 1 ∧ SqT K H l xs ∧ Q (.ref l) H
theorem op_repT1 : OpR X (binaryOp .Mult) (rRepT1 X.K) := by
  intro pins s σ H x y v u Q I rx ry h
  obtain ⟨l, xs, rfl, rfl, hT, q⟩ := h
  cases rx
  obtain ⟨t, rfl⟩ := ry
  obtain ⟨its, r, ⟨⟨cls, dd, data, sl⟩, ho, hc, n, hd⟩, hs⟩ := I.tuple hT
  simp only at hc hd
  subst hc hd
  refine wpAny_binaryOp_repeat_ref (T := "tuple") (U := "int") (by decide) ⟨_, ho, rfl⟩ (fun s' => typeIs_int s' 1 t) noFill_tuple_mul F.fills_int_mul F.slot_int_rmul repeat_tuple F.slot_int_index.lookup
    (call_meets F.slot_int_rmul (typeIs_int s 1 t) F.entry_int_rmul (F.args_int_rmul_2 _ _) (int_rmul_tuple 1 t l its.toArray n dd sl)
      ⟨ho, rfl, ⟨_, ho, rfl⟩, call_meets F.slot_tuple_mul ⟨_, ho, rfl⟩ F.entry_tuple_mul (F.args_tuple_mul_2 _ _) (tuple_mul1 l its.toArray n dd sl t) ⟨ho, ?_⟩⟩)
  exact ⟨.ref l, _, I, rfl, q⟩
def mulD : D → D → Option Sl
  | .int i, .int j => if lim64 i || lim64 j then some (.val (.int (i * j))) else none
  | .tuple a, .int k => if k = 1 then some (.val (.tuple a)) else if a ≠ [] ∧ 2 ≤ k ∧ k ≤ 1000 ∧ a.length ≤ 1000 then some (.val (.tuple (List.replicate k.toNat a).flatten)) else none
  | .list a, .int k => if 0 ≤ k ∧ k < 2 ^ 62 ∧ a.length * k.toNat ≤ sizeLine then some (.own (List.replicate k.toNat a).flatten) else none
  | _, _ => none
def rMulD (K : PySem.W.Frag) : R2 := fun x y H Q => rI CMul (fun i j => .int (i * j)) x y H Q ∨ rRepT1 K x y H Q ∨ rRepT K x y H Q ∨ rRep x y H Q
theorem op_mulD : OpR X (binaryOp .Mult) (rMulD X.K) := op_mul.or (op_repT1.or (op_repT.or op_rep))
theorem s_mulD : OpS F (rMulD F.m.K) mulD := by
  intro H O c x y dx dy z Q w rx ry hg hq
  unfold mulD at hg
  split at hg
  · split at hg
    · rename_i i j hl
      cases hg
      refine .inl ⟨_, _, rx.int_inv, ry.int_inv, ?_, hq _ H .refl (.int _)⟩
      simp only [lim64, Bool.or_eq_true, Bool.and_eq_true, decide_eq_true_eq] at hl
      exact hl
    · cases hg
  · split at hg
    · rename_i hk
      subst hk
      cases hg
      obtain ⟨a, vs, rfl, ha, ra⟩ := rx.tup_inv
      exact .inr (.inl ⟨a, vs, rfl, ry.int_inv, ha, hq _ H .refl (.tup ha ra)⟩)
    · split at hg
      · rename_i hk hc
        cases hg
        obtain ⟨a, vs, rfl, ha, ra⟩ := rx.tup_inv
        refine .inr (.inr (.inl ⟨a, _, vs, rfl, ry.int_inv, ha, fun e => ?_, hc.2.1, hc.2.2.1, by rw [ra.length]; exact hc.2.2.2, fun p hp => ?_⟩))
        · subst e
          cases ra
          exact hc.1 rfl
        · exact hq _ _ (Ext.upd hp) (.tup (.of upd_same) ((ra.rep _).step (StF.stp ((Ext.upd hp).stF (O := O))) w))
      · cases hg
  · split at hg
    · rename_i hc
      cases hg
      obtain ⟨a, vs, rfl, ha, _, ra⟩ := rx.list_inv
      exact .inr (.inr (.inr ⟨a, _, vs, rfl, ry.int_inv, ha, by omega, by omega, by rw [ra.length]; exact hc.2.2, fun p hp => hq p _ hp (ra.rep _)⟩))
    · cases hg
  · cases hg
def eMul (a b : DE) : DE := eOp mulD a b
theorem e_mul {a b : Expr} {fa fb : DE} {pos : Pos} (hK : F.m.K = X.K) (ha : EO F X a fa) (hb : EO F X b fb) : EO F X (.BinOp a .Mult b pos) (eMul fa fb) := e_op op_mulD (hK ▸ s_mulD) ha hb

/-! ### comparisons -/
mutual
theorem RepD.dp : ∀ {d : D} {v : V}, d.canLay0 = true → RepD K H O δ v d → Dp K H v d
  | .none, _, _, r => by cases r.none_inv; exact .non
  | .bool b, _, _, r => by cases r.bool_inv; exact .bl b
  | .int i, _, _, r => by cases r.int_inv; exact .int i
  | .str x, _, _, r => by cases r.str_inv; exact .str x
  | .tuple xs, _, h, r => by
    obtain ⟨a, vs, rfl, ha, ra⟩ := r.tup_inv
    exact .tup ha (RepDs.dp (by simpa [PyData.canLay0] using h) ra)
  | .list xs, _, h, r => by
    obtain ⟨a, vs, rfl, ha, _, ra⟩ := r.list_inv
    exact .lst (.of ha) (RepDs.dp (by simpa [PyData.canLay0] using h) ra)
  | .dict _, _, h, _ => by simp [PyData.canLay0] at h
theorem RepDs.dp : ∀ {ds : List D} {vs : List V}, PyData.canLayAll0 ds = true → RepDs K H O δ vs ds → DpAll K H vs ds
  | [], _, _, .nil => .nil
  | x :: xs, _, h, .cons r t => by
    have h' : PyData.canLay0 x = true ∧ PyData.canLayAll0 xs = true := by simpa [PyData.canLayAll0] using h
    exact .cons (RepD.dp h'.1 r) (RepDs.dp h'.2 t)
end
theorem shaped_lay {d : D} (h : SeqAt.shaped d = true) : d.canLay0 = true := SeqAt.canLay_of_shaped h
def eqD (x y : D) : Option Sl := if SeqAt.shaped x && SeqAt.shaped y then some (.val (.bool (PyData.eqv x y))) else none
def neD (x y : D) : Option Sl := if SeqAt.shaped x && SeqAt.shaped y then some (.val (.bool (!PyData.eqv x y))) else none
theorem s_eqD : OpS F (rEqD F.m.K) eqD := by
  intro H O c x y dx dy z Q w rx ry hg hq
  unfold eqD at hg
  split at hg
  · rename_i h
    simp only [Bool.and_eq_true] at h
    cases hg
    exact ⟨dx, dy, rx.dp (shaped_lay h.1), ry.dp (shaped_lay h.2), h.1, h.2, hq _ H .refl (.bl _)⟩
  · cases hg
theorem s_neD : OpS F (rNeD F.m.K) neD := by
  intro H O c x y dx dy z Q w rx ry hg hq
  unfold neD at hg
  split at hg
  · rename_i h
    simp only [Bool.and_eq_true] at h
    cases hg
    exact ⟨dx, dy, rx.dp (shaped_lay h.1), ry.dp (shaped_lay h.2), h.1, h.2, hq _ H .refl (.bl _)⟩
  · cases hg
theorem s_cmpT {r : R2} {g : D → D → Option Sl} {ta tb : TE} {a b : DE} (ha : SE F ta a) (hb : SE F tb b) (hs : OpS F r g) (hg : ∀ x y z, g x y = some z → ∃ k, z = .val (.bool k)) : ST F (tTest (tOp r ta tb)) (eOp g a b) := by
  intro σ H O s Q I k
  show tOp r ta tb σ H fun x H' => ∃ k, x = .bl k ∧ Q k H'
  refine s_op ha hb hs σ H O s _ I ?_
  cases q : eOp g a b s with
  | stuck => rw [q] at k; exact k
  | er e c => rw [q] at k; exact k
  | ok x s' =>
    rw [q] at k
    have hx : ∃ k, x = .val (.bool k) := by
      unfold eOp at q
      cases qa : a s with
      | stuck => rw [qa] at q; cases q
      | er e c => rw [qa] at q; cases q
      | ok y s1 =>
        rw [qa] at q
        have q : (b s1).bind (fun y' s2 => liftR (g y.d y') s2) = .ok x s' := q
        cases qb : b s1 with
        | stuck => rw [qb] at q; cases q
        | er e c => rw [qb] at q; cases q
        | ok w s2 =>
          rw [qb] at q
          have q : liftR (g y.d w.d) s2 = .ok x s' := q
          unfold liftR at q
          split at q
          · rename_i d e
            obtain ⟨k', e2⟩ := hg _ _ _ e
            cases q
            exact ⟨k', e2⟩
          · rename_i xs e
            obtain ⟨k', e2⟩ := hg _ _ _ e
            cases e2
          · cases q
    obtain ⟨b', rfl⟩ := hx
    intro v H' O' st I' r
    exact ⟨b', RepD.bool_inv (show RepD F.m.K H' O' F.δ v (.bool b') from r), k H' O' st I'⟩
theorem e_cmp {r : R2} {g : D → D → Option Sl} {op : CmpOp} {a b : Expr} {fa fb : DE} {pos : Pos} (ho : OpR X (compareOp op) r) (hs : OpS F r g) (hm : behindInMarks op b = false) (ha : EO F X a fa) (hb : EO F X b fb) : EO F X (.Compare a [op] [b] pos) (eOp g fa fb) :=
  let ⟨_, pa, sa⟩ := ha
  let ⟨_, pb, sb⟩ := hb
  ⟨_, pe_cmpR ho pa pb hm, s_op sa sb hs⟩
theorem t_cmp {r : R2} {g : D → D → Option Sl} {op : CmpOp} {a b : Expr} {fa fb : DE} {pos : Pos} (ho : OpR X (compareOp op) r) (hs : OpS F r g) (hg : ∀ x y z, g x y = some z → ∃ k, z = .val (.bool k)) (hm : behindInMarks op b = false) (ha : EO F X a fa) (hb : EO F X b fb) :
    TO F X (.Compare a [op] [b] pos) (eOp g fa fb) :=
  let ⟨_, pa, sa⟩ := ha
  let ⟨_, pb, sb⟩ := hb
  ⟨_, pt_cmpR ho pa pb hm, s_cmpT sa sb hs hg⟩
theorem gI_bool {C : Int → Int → Bool} {p : Int → Int → Bool} : ∀ x y z, gI C (fun i j => .bool (p i j)) x y = some z → ∃ k, z = .val (.bool k) := by
  intro x y z h
  unfold gI at h
  split at h
  · split at h
    · cases h; exact ⟨_, rfl⟩
    · cases h
  · cases h
theorem eqD_bool : ∀ x y z, eqD x y = some z → ∃ k, z = .val (.bool k) := by
  intro x y z h
  unfold eqD at h
  split at h
  · cases h; exact ⟨_, rfl⟩
  · cases h
theorem neD_bool : ∀ x y z, neD x y = some z → ∃ k, z = .val (.bool k) := by
  intro x y z h
  unfold neD at h
  split at h
  · cases h; exact ⟨_, rfl⟩
  · cases h
def ltD : D → D → Option Sl := gI (fun _ _ => true) fun i j => .bool (decide (i < j))
def leD : D → D → Option Sl := gI (fun _ _ => true) fun i j => .bool (decide (i ≤ j))
def gtD : D → D → Option Sl := gI (fun _ _ => true) fun i j => .bool (decide (j < i))
def geD : D → D → Option Sl := gI (fun _ _ => true) fun i j => .bool (decide (j ≤ i))
theorem s_lt : OpS F (rI0 fun i j => .bl (decide (i < j))) ltD := s_rI0 fun _ _ _ _ => .bl _
theorem s_le : OpS F (rI0 fun i j => .bl (decide (i ≤ j))) leD := s_rI0 fun _ _ _ _ => .bl _
theorem s_gt : OpS F (rI0 fun i j => .bl (decide (j < i))) gtD := s_rI0 fun _ _ _ _ => .bl _
theorem s_ge : OpS F (rI0 fun i j => .bl (decide (j ≤ i))) geD := s_rI0 fun _ _ _ _ => .bl _
def eLt (a b : DE) : DE := eOp ltD a b
def eLe (a b : DE) : DE := eOp leD a b
def eGt (a b : DE) : DE := eOp gtD a b
def eGe (a b : DE) : DE := eOp geD a b
def eEq (a b : DE) : DE := eOp eqD a b
def eNe (a b : DE) : DE := eOp neD a b
section
variable {a b : Expr} {fa fb : DE} {pos : Pos}
theorem e_lt (ha : EO F X a fa) (hb : EO F X b fb) : EO F X (.Compare a [.Lt] [b] pos) (eLt fa fb) := e_cmp op_lt s_lt (nomark _) ha hb
theorem e_le (ha : EO F X a fa) (hb : EO F X b fb) : EO F X (.Compare a [.LtE] [b] pos) (eLe fa fb) := e_cmp op_le s_le (nomark _) ha hb
theorem e_gt (ha : EO F X a fa) (hb : EO F X b fb) : EO F X (.Compare a [.Gt] [b] pos) (eGt fa fb) := e_cmp op_gt s_gt (nomark _) ha hb
theorem e_ge (ha : EO F X a fa) (hb : EO F X b fb) : EO F X (.Compare a [.GtE] [b] pos) (eGe fa fb) := e_cmp op_ge s_ge (nomark _) ha hb
theorem e_eq {k : Nat} (hr : Room k X.A) (hK : F.m.K = X.K) (ha : EO F X a fa) (hb : EO F X b fb) : EO F X (.Compare a [.Eq] [b] pos) (eEq fa fb) := e_cmp (op_eqD hr.units) (hK ▸ s_eqD) (nomark _) ha hb
theorem e_ne {k : Nat} (hr : Room k X.A) (hK : F.m.K = X.K) (ha : EO F X a fa) (hb : EO F X b fb) : EO F X (.Compare a [.NotEq] [b] pos) (eNe fa fb) := e_cmp (op_neD hr.units) (hK ▸ s_neD) (nomark _) ha hb
theorem t_lt (ha : EO F X a fa) (hb : EO F X b fb) : TO F X (.Compare a [.Lt] [b] pos) (eLt fa fb) := t_cmp op_lt s_lt gI_bool (nomark _) ha hb
theorem t_le (ha : EO F X a fa) (hb : EO F X b fb) : TO F X (.Compare a [.LtE] [b] pos) (eLe fa fb) := t_cmp op_le s_le gI_bool (nomark _) ha hb
theorem t_gt (ha : EO F X a fa) (hb : EO F X b fb) : TO F X (.Compare a [.Gt] [b] pos) (eGt fa fb) := t_cmp op_gt s_gt gI_bool (nomark _) ha hb
theorem t_ge (ha : EO F X a fa) (hb : EO F X b fb) : TO F X (.Compare a [.GtE] [b] pos) (eGe fa fb) := t_cmp op_ge s_ge gI_bool (nomark _) ha hb
theorem t_eq {k : Nat} (hr : Room k X.A) (hK : F.m.K = X.K) (ha : EO F X a fa) (hb : EO F X b fb) : TO F X (.Compare a [.Eq] [b] pos) (eEq fa fb) := t_cmp (op_eqD hr.units) (hK ▸ s_eqD) eqD_bool (nomark _) ha hb
theorem t_ne {k : Nat} (hr : Room k X.A) (hK : F.m.K = X.K) (ha : EO F X a fa) (hb : EO F X b fb) : TO F X (.Compare a [.NotEq] [b] pos) (eNe fa fb) := t_cmp (op_neD hr.units) (hK ▸ s_neD) neD_bool (nomark _) ha hb
end
/-- x is None, x is not None -/
def isNo : D → Bool
  | .none => true
  | _ => false
def isNd (x y : D) : Option Sl := match y with
  | .none => some (.val (.bool (isNo x)))
  | _ => none
def notNd (x y : D) : Option Sl := match y with
  | .none => some (.val (.bool (!isNo x)))
  | _ => none
theorem RepD.isN (r : RepD K H O δ v d) : decide (v = .non) = isNo d := by
  cases r <;> first | rfl | (unfold dcell; rfl) | (unfold dscr; rfl) | (unfold dfn; rfl)
theorem s_isN : OpS F (fun x y H Q => y = .non ∧ Q (.bl (decide (x = .non))) H) isNd := by
  intro H O c x y dx dy z Q w rx ry hg hq
  unfold isNd at hg
  split at hg
  · cases hg
    exact ⟨ry.none_inv, hq _ H .refl (by rw [rx.isN]; exact .bl _)⟩
  · cases hg
theorem s_notN : OpS F (fun x y H Q => y = .non ∧ Q (.bl (!decide (x = .non))) H) notNd := by
  intro H O c x y dx dy z Q w rx ry hg hq
  unfold notNd at hg
  split at hg
  · cases hg
    refine ⟨ry.none_inv, hq _ H .refl ?_⟩
    rw [rx.isN]
    exact .bl _
  · cases hg
def eIsN (a b : DE) : DE := eOp isNd a b
def eNotN (a b : DE) : DE := eOp notNd a b
theorem isNd_bool : ∀ x y z, isNd x y = some z → ∃ k, z = .val (.bool k) := by
  intro x y z h
  unfold isNd at h
  split at h
  · cases h; exact ⟨_, rfl⟩
  · cases h
theorem notNd_bool : ∀ x y z, notNd x y = some z → ∃ k, z = .val (.bool k) := by
  intro x y z h
  unfold notNd at h
  split at h
  · cases h; exact ⟨_, rfl⟩
  · cases h
section
variable {a b : Expr} {fa fb : DE} {pos : Pos}
theorem e_isN (ha : EO F X a fa) (hb : EO F X b fb) : EO F X (.Compare a [.Is] [b] pos) (eIsN fa fb) := e_cmp op_isN s_isN (nomark _) ha hb
theorem t_isN (ha : EO F X a fa) (hb : EO F X b fb) : TO F X (.Compare a [.Is] [b] pos) (eIsN fa fb) := t_cmp op_isN s_isN isNd_bool (nomark _) ha hb
theorem e_notN (ha : EO F X a fa) (hb : EO F X b fb) : EO F X (.Compare a [.IsNot] [b] pos) (eNotN fa fb) := e_cmp op_notN s_notN (nomark _) ha hb
theorem t_notN (ha : EO F X a fa) (hb : EO F X b fb) : TO F X (.Compare a [.IsNot] [b] pos) (eNotN fa fb) := t_cmp op_notN s_notN notNd_bool (nomark _) ha hb
end
end
end DL

set_option Elab.async false
set_option linter.all false
set_option maxRecDepth 100000
set_option maxHeartbeats 4000000
/-! DLd: tests, places, slices, displays, arguments, built-ins. -/
namespace DL
open PySem PySem.Spec L2
open PyProof.Rows hiding St

section
variable {F : Fx} {X : Cx} {H H' H1 H2 : Hp} {O O' O1 O2 : Addr → Prop} {σ : St} {s s1 s2 : S} {Q : VK} {QT : Bool → Hp → Prop} {t : TE} {f g : DE} {v : V} {d : D} {K : PySem.W.Frag} {δ : Option Addr}

theorem KEr.any {e : Er} {c : List Int} (h : KEr F e c) : KEr F e c := h
/-! ### tests -/
def RE.test (r : RE) (k : Bool → S → RE) : RE := match r with
  | .ok (.val (.bool b)) s => k b s
  | .ok _ _ => .stuck
  | .er e c => .er e c
  | .stuck => .stuck
/-- behind a first step -/
theorem KE.trans {r : RE} (st : StE F.δ σ H O s.e H1 O1 s1.e) (h : Hp → Prop) (k : KE F σ H O s Q r) : KE F σ H1 O1 s1 Q r := by
  cases r with
  | stuck => exact k
  | er e c => exact k
  | ok x s' =>
    intro v H' O' st' I' r
    refine k v H' O' (st.trans st') I' ?_
    cases x with
    | un => exact r
    | val d => exact r
    | own xs =>
      obtain ⟨a, vs, h1, h2, h3, h4, h5, h6⟩ := r
      refine ⟨a, vs, h1, h2, h3, h4, h5, ?_⟩
      cases q : H a with
      | none => rfl
      | some o => exact absurd h6 (st.there a (by rw [q]; simp))
theorem KT.trans {r : RE} (st : StE F.δ σ H O s.e H1 O1 s1.e) (k : KT F σ H O s QT r) : KT F σ H1 O1 s1 QT r := by
  cases r with
  | stuck => exact k
  | er e c => exact k
  | ok x s' =>
    cases hd : x.d with
    | bool b =>
      simp only [KT, hd] at k ⊢
      exact fun H' O' st' I' => k H' O' (st.trans st') I'
    | _ => simp only [KT, hd] at k
theorem ST.bind {k : Bool → S → RE} {a : DE} {ta : TT} {R : Bool → Hp → Prop} (ha : ST F ta a) (I : Est F σ H O s) (h : KE F σ H O s Q ((a s).test k))
    (hk : ∀ b s1 H1 O1, StE F.δ σ H O s.e H1 O1 s1.e → Est F σ H1 O1 s1 → KE F σ H1 O1 s1 Q (k b s1) → R b H1) : ta σ H R := by
  refine ha σ H O s R I ?_
  cases q : a s with
  | stuck => rw [q] at h; exact h
  | er e c => rw [q] at h; exact h
  | ok x s1 =>
    rw [q] at h
    unfold RE.test at h
    split at h
    · rename_i b s' e
      cases e
      exact fun H1 O1 st I1 => hk b s1 H1 O1 st I1 (h.trans st (fun _ => True))
    · exact h.elim
    · cases ‹RE.ok x s1 = _›
    · cases ‹RE.ok x s1 = _›
theorem ST.bindT {k : Bool → S → RE} {a : DE} {ta : TT} {R : Bool → Hp → Prop} (ha : ST F ta a) (I : Est F σ H O s) (h : KT F σ H O s QT ((a s).test k))
    (hk : ∀ b s1 H1 O1, StE F.δ σ H O s.e H1 O1 s1.e → Est F σ H1 O1 s1 → KT F σ H1 O1 s1 QT (k b s1) → R b H1) : ta σ H R := by
  refine ha σ H O s R I ?_
  cases q : a s with
  | stuck => rw [q] at h; exact h
  | er e c => rw [q] at h; exact h
  | ok x s1 =>
    rw [q] at h
    unfold RE.test at h
    split at h
    · rename_i b s' e
      cases e
      exact fun H1 O1 st I1 => hk b s1 H1 O1 st I1 (h.trans st)
    · exact h.elim
    · cases ‹RE.ok x s1 = _›
    · cases ‹RE.ok x s1 = _›
theorem t_val {e : Expr} {fe : DE} (h : EO F X e fe) (he : ∀ whole, isTrue e X.env whole = (do let v ← whole; standAt e.pos; holding [v] (truthy v)) := by intro _; rfl) : TO F X e fe := by
  obtain ⟨t, p, se⟩ := h
  refine ⟨_, pt_val p he, fun σ H O s Q I k => ?_⟩
  show t σ H fun x H1 => ∃ c, x = .bl c ∧ Q c H1
  refine se.use I ?_
  cases q : fe s with
  | stuck => rw [q] at k; exact k
  | er e c => rw [q] at k; exact k
  | ok x s1 =>
    rw [q] at k
    cases hd : x.d with
    | bool b =>
      simp only [KT, hd] at k
      intro v H' O' st I' r
      rw [hd] at r
      exact ⟨b, r.bool_inv, k H' O' st I'⟩
    | _ => simp only [KT, hd] at k
def eNot (a : DE) : DE := fun s => (a s).test fun b s1 => .ok (.val (.bool (!b))) s1
def eIf (c a b : DE) : DE := fun s => (c s).test fun k s1 => if k = true then a s1 else b s1
def eAnd (a b : DE) : DE := fun s => (a s).test fun k s1 => if k = true then b s1 else .ok (.val (.bool false)) s1
def eOr (a b : DE) : DE := fun s => (a s).test fun k s1 => if k = true then .ok (.val (.bool true)) s1 else b s1
section
variable {a b c : Expr} {fa fb fc : DE} {pos : Pos} {rest : List Expr}
theorem t_not (ha : TO F X a fa) : TO F X (.UnaryOp .Not a pos) (eNot fa) :=
  let ⟨_, p, sa⟩ := ha
  ⟨_, pt_not p, fun σ H O s Q I k => sa.bindT I k fun b s1 H1 O1 st I1 k => k H1 O1 .refl I1⟩
theorem w_and1 (ha : TO F X a fa) : WO F X (.BoolOp .And [a] pos) fa := let ⟨_, p, sa⟩ := ha; ⟨_, pw_and1 p, sa⟩
theorem w_or1 (ha : TO F X a fa) : WO F X (.BoolOp .Or [a] pos) fa := let ⟨_, p, sa⟩ := ha; ⟨_, pw_or1 p, sa⟩
theorem w_and (ha : TO F X a fa) (hb : WO F X (.BoolOp .And (b :: rest) pos) fb) : WO F X (.BoolOp .And (a :: b :: rest) pos) (eAnd fa fb) :=
  let ⟨_, pa, sa⟩ := ha
  let ⟨_, pb, sb⟩ := hb
  ⟨_, pw_and pa pb, fun σ H O s Q I k => sa.bindT I k fun b s1 H1 O1 st I1 k => by
    cases b with
    | true => exact sb σ H1 O1 s1 Q I1 k
    | false => exact k H1 O1 .refl I1⟩
theorem w_or (ha : TO F X a fa) (hb : WO F X (.BoolOp .Or (b :: rest) pos) fb) : WO F X (.BoolOp .Or (a :: b :: rest) pos) (eOr fa fb) :=
  let ⟨_, pa, sa⟩ := ha
  let ⟨_, pb, sb⟩ := hb
  ⟨_, pw_or pa pb, fun σ H O s Q I k => sa.bindT I k fun b s1 H1 O1 st I1 k => by
    cases b with
    | true => exact k H1 O1 .refl I1
    | false => exact sb σ H1 O1 s1 Q I1 k⟩
theorem t_w {e : Expr} {fe : DE} (h : WO F X e fe) : TO F X e fe := let ⟨_, p, sa⟩ := h; ⟨_, p.pt, sa⟩
theorem e_if (hc : TO F X c fc) (ha : EO F X a fa) (hb : EO F X b fb) : EO F X (.IfExp c a b pos) (eIf fc fa fb) :=
  let ⟨_, pc, sc⟩ := hc
  let ⟨_, pa, sa⟩ := ha
  let ⟨_, pb, sb⟩ := hb
  ⟨_, pe_ifExp pc pa pb, fun σ H O s Q I k => sc.bind I k fun b s1 H1 O1 st I1 k => by
    cases b with
    | true => exact sa σ H1 O1 s1 Q I1 k
    | false => exact sb σ H1 O1 s1 Q I1 k⟩
/-- a value that is True or False -/
theorem SE.bindB {k : Bool → S → RE} {a : DE} {ta : TE} {R : VK} (ha : SE F ta a) (I : Est F σ H O s) (h : KE F σ H O s Q ((a s).test k))
    (hk : ∀ b s1 H1 O1, StE F.δ σ H O s.e H1 O1 s1.e → Est F σ H1 O1 s1 → KE F σ H1 O1 s1 Q (k b s1) → R (.bl b) H1) : ta σ H R := by
  refine ha.use I ?_
  cases q : a s with
  | stuck => rw [q] at h; exact h
  | er e c => rw [q] at h; exact h
  | ok x s1 =>
    rw [q] at h
    unfold RE.test at h
    split at h
    · rename_i b s' e
      cases e
      intro v H1 O1 st I1 r
      rw [RepD.bool_inv (show RepD F.m.K H1 O1 F.δ v (.bool b) from r)]
      exact hk b s1 H1 O1 st I1 (h.trans st (fun _ => True))
    · exact h.elim
    · cases ‹RE.ok x s1 = _›
    · cases ‹RE.ok x s1 = _›
theorem e_not (ha : EO F X a fa) : EO F X (.UnaryOp .Not a pos) (eNot fa) :=
  let ⟨_, p, sa⟩ := ha
  ⟨_, pe_not p, fun σ H O s Q I k => sa.bindB I k fun b s1 H1 O1 st I1 k => ⟨b, rfl, k _ H1 O1 .refl I1 (.bl _)⟩⟩
theorem e_one {op} (ha : EO F X a fa) : EO F X (.BoolOp op [a] pos) fa := let ⟨_, p, sa⟩ := ha; ⟨_, pe_one p, sa⟩
theorem e_and (ha : EO F X a fa) (hb : EO F X (.BoolOp .And (b :: rest) pos) fb) : EO F X (.BoolOp .And (a :: b :: rest) pos) (eAnd fa fb) :=
  let ⟨_, pa, sa⟩ := ha
  let ⟨_, pb, sb⟩ := hb
  ⟨_, pe_and pa pb, fun σ H O s Q I k => sa.bindB I k fun b s1 H1 O1 st I1 k => ⟨b, rfl, by
    cases b with
    | true => exact sb σ H1 O1 s1 Q I1 k
    | false => exact k _ H1 O1 .refl I1 (.bl _)⟩⟩
theorem e_or (ha : EO F X a fa) (hb : EO F X (.BoolOp .Or (b :: rest) pos) fb) : EO F X (.BoolOp .Or (a :: b :: rest) pos) (eOr fa fb) :=
  let ⟨_, pa, sa⟩ := ha
  let ⟨_, pb, sb⟩ := hb
  ⟨_, pe_or pa pb, fun σ H O s Q I k => sa.bindB I k fun b s1 H1 O1 st I1 k => ⟨b, rfl, by
    cases b with
    | true => exact k _ H1 O1 .refl I1 (.bl _)
    | false => exact sb σ H1 O1 s1 Q I1 k⟩⟩
end
end
end DL

set_option Elab.async false
set_option linter.all false
set_option maxRecDepth 100000
set_option maxHeartbeats 4000000
/-! DLe: places, slices, displays, arguments, built-ins, calls. -/
namespace DL
open PySem PySem.Spec L2
open PyProof.Rows hiding St

section
variable {F : Fx} {X : Cx} {H H' H1 H2 : Hp} {O O' O1 O2 : Addr → Prop} {σ : St} {s s1 s2 : S} {Q : VK} {QT : Bool → Hp → Prop} {t : TE} {f g : DE} {v : V} {d : D} {K : PySem.W.Frag} {δ : Option Addr}

/-! ### a place -/
def ixD : D → D → Option Sl
  | .list xs, .int i => (atI xs i).map .val
  | .tuple xs, .int i => (atI xs i).map .val
  | .str z, .int i => if z.length ≤ sizeLine then (atI z.cps.toList i).map fun c => .val (.str ⟨#[c]⟩) else none
  | .dict [(.bool true, .list xs)], .int i => (atI xs i).map .val
  | _, _ => none
theorem atI_rep {vs : List V} {ds : List D} {i : Int} {d : D} (r : RepDs K H O δ vs ds) (h : atI ds i = some d) : ∃ v, atI vs i = some v ∧ RepD K H O δ v d := by
  unfold atI at h ⊢
  rw [r.length]
  cases q : ixN ds.length i with
  | none => rw [q] at h; cases h
  | some j =>
    rw [q] at h
    exact r.get h
theorem map_val {o : Option D} {z : Sl} (h : o.map Sl.val = some z) : ∃ d, o = some d ∧ z = .val d := by
  cases o with
  | none => cases h
  | some d => exact ⟨d, rfl, (Option.some.inj h).symm⟩
theorem s_ixD : OpS F (rIx F.m.K) ixD := by
  intro H O c x y dx dy z Q w rx ry hg hq
  unfold ixD at hg
  split at hg
  · obtain ⟨d, h1, rfl⟩ := map_val hg
    obtain ⟨a, vs, rfl, ha, _, ra⟩ := rx.list_inv
    obtain ⟨v, h2, r⟩ := atI_rep ra h1
    exact .inl ⟨a, vs, _, v, rfl, ry.int_inv, .of ha, h2, hq v H .refl r⟩
  · obtain ⟨d, h1, rfl⟩ := map_val hg
    obtain ⟨a, vs, rfl, ha, ra⟩ := rx.tup_inv
    obtain ⟨v, h2, r⟩ := atI_rep ra h1
    exact .inr (.inl ⟨a, vs, _, v, rfl, ry.int_inv, ha, h2, hq v H .refl r⟩)
  · split at hg
    · rename_i z i hz
      cases q : atI z.cps.toList i with
      | none => rw [q] at hg; cases hg
      | some c =>
        rw [q] at hg
        cases hg
        exact .inr (.inr ⟨z, i, c, rx.str_inv, ry.int_inv, hz, q, hq _ H .refl (.str _)⟩)
    · cases hg
  · obtain ⟨d, h1, rfl⟩ := map_val hg
    obtain ⟨a, vs, rfl, ha, ra⟩ := RepD.scr_inv rx
    obtain ⟨v, h2, r⟩ := atI_rep ra h1
    exact .inl ⟨a, vs, _, v, rfl, ry.int_inv, ha, h2, hq v H .refl r⟩
  · cases hg
def eIx (a b : DE) : DE := eOp ixD a b
theorem e_ix {a b : Expr} {fa fb : DE} {pos : Pos} (hK : F.m.K = X.K) (ha : EO F X a fa) (hb : EO F X b fb) (hs : PlainIx b := by exact fun _ _ => rfl) : EO F X (.Subscript a b pos) (eIx fa fb) :=
  let ⟨_, pa, sa⟩ := ha
  let ⟨_, pb, sb⟩ := hb
  ⟨_, pe_ix ix_seq pa pb hs, s_op sa sb (hK ▸ s_ixD)⟩
/-- x[i], x a name: its list does not come to rest; the cell's ints -/
def ixC (d y : D) (c : List Int) : Option Sl := match d, y with
  | .dict [(.none, .none)], .int i => (atI c i).map fun n => .val (.int n)
  | d, y => ixD d y
theorem s_ixC {c : List Int} {x y : V} {dx dy : D} {z : Sl} (w : Wd F.m F.δ H O c) (rx : RepD F.m.K H O F.δ x dx) (ry : RepD F.m.K H O F.δ y dy) (hg : ixC dx dy c = some z) (hq : Res F H O Q z) : rIx F.m.K x y H Q := by
  unfold ixC at hg
  split at hg
  · rename_i n
    cases q : atI c n with
    | none => rw [q] at hg; cases hg
    | some m =>
      rw [q] at hg
      cases hg
      obtain ⟨a, rfl, ea⟩ := RepD.cell_inv rx
      refine .inl ⟨a, c.map V.int, n, .int m, rfl, ry.int_inv, .of (w.cel a ea).2, ?_, hq _ H .refl (.int m)⟩
      unfold atI at q ⊢
      rw [List.length_map]
      cases q' : ixN c.length n with
      | none => rw [q'] at q; cases q
      | some j =>
        rw [q'] at q
        have q : c[j]? = some m := q
        show (c.map V.int)[j]? = some (.int m)
        rw [List.getElem?_map, q]; rfl
  · exact s_ixD H O c x y dx dy z Q w rx ry hg hq
def eIxN (i : Nat) (b : DE) : DE := fun s => match s.e[i]? with
  | some (.val d) => (b s).bind fun y s2 => liftR (ixC d y s2.c) s2
  | some (.own _) => (b s).bind fun y s2 => match s2.e[i]? with
    | some (.own xs) => liftR (ixD (.list xs) y) s2
    | _ => .stuck
  | _ => .stuck
theorem e_ixN (i : Nat) {x : Str} {b : Expr} {fb : DE} {px pos : Pos} (hK : F.m.K = X.K) (hb : EO F X b fb) (hN : X.N[i]? = some x := by rfl) (hv : Vis X.env.scope x := by first | exact Or.inl rfl | exact Or.inr (Or.inl rfl) | exact Or.inr (Or.inr rfl))
    (hd : (x == ("__debug__" : Str)) = false := by decide) (hcd : (x == ("__classdict__" : Str)) = false := by decide) (hs : PlainIx b := by exact fun _ _ => rfl) : EO F X (.Subscript (.Name x px) b pos) (eIxN i fb) := by
  obtain ⟨tb, pb, sb⟩ := hb
  refine ⟨_, pe_ix ix_seq (pe_var hN hv hd hcd) pb hs, fun σ H O s Q I k => ?_⟩
  unfold eIxN at k
  split at k
  · rename_i d h
    obtain ⟨v, h1, h2⟩ := I.env.vals i d h
    refine ⟨v, h1, sb.bind I k fun y s2 w H2 O2 st2 I2 r2 kz => ?_⟩
    obtain ⟨z, qo, zn, kq⟩ := KE_lift kz
    exact hK ▸ s_ixC I2.wd (h2.step st2.stp I.wd) r2 qo (Res.of I st2 I2 kq zn)
  · rename_i xs h
    obtain ⟨a, vs, h1, h2, h3, h4, h5, h6⟩ := I.env.owns i xs h
    refine ⟨.ref a, h1, sb.bind I k fun y s2 w H2 O2 st2 I2 r2 kz => ?_⟩
    split at kz
    · rename_i ys h'
      obtain ⟨a', vs', g1, g2, g3, g4, g5, g6⟩ := I2.env.owns i ys h'
      rw [h1] at g1
      cases g1
      obtain ⟨z, qo, zn, kq⟩ := KE_lift kz
      obtain ⟨n, rfl, hz⟩ : ∃ n, y = .int n ∧ (atI ys n).map Sl.val = some z := by
        cases y <;> first | exact ⟨_, rfl, qo⟩ | cases qo
      obtain ⟨d, q1, rfl⟩ := map_val hz
      obtain ⟨u, q2, r⟩ := atI_rep g5 q1
      exact .inl ⟨a, vs', n, u, rfl, r2.int_inv, .of g4, q2, kq u H2 O2 st2 I2 r⟩
    · exact kz.elim
  · exact k.elim

/-! ### slices -/
def cutD (xs : List D) (lo hi : Option Int) : List D := (xs.drop (HT.sIx xs.length 0 lo)).take (HT.sIx xs.length xs.length hi - HT.sIx xs.length 0 lo)
theorem cut_rep {vs : List V} {ds : List D} {lo hi : Option Int} (r : RepDs K H O δ vs ds) : RepDs K H O δ (cutV vs lo hi) (cutD ds lo hi) := by
  unfold cutV cutD
  rw [r.length]
  exact (r.drop _).take _
def slD : D → Option Int → Option Int → Option Sl
  | .list xs, lo, hi => some (.own (cutD xs lo hi))
  | .tuple xs, lo, hi => some (.val (.tuple (cutD xs lo hi)))
  | .str z, lo, hi => if z.length ≤ sizeLine then some (.val (.str (cutS z lo hi))) else none
  | .dict [(.bool true, .list xs)], lo, hi => some (.own (cutD xs lo hi))
  | _, _, _ => none
def rSlD (K : PySem.W.Frag) : V → Option Int → Option Int → Hp → VK → Prop := fun x lo hi H Q => rSlL K x lo hi H Q ∨ rSlA K x lo hi H Q ∨ rSlS x lo hi H Q
theorem sl_D : SlR X (rSlD X.K) := sl_list.or (sl_tupA.or sl_str)
theorem s_slD {x : V} {dx : D} {lo hi : Option Int} {z : Sl} {c : List Int} (w : Wd F.m F.δ H O c) (rx : RepD F.m.K H O F.δ x dx) (hg : slD dx lo hi = some z) (hq : Res F H O Q z) : rSlD F.m.K x lo hi H Q := by
  unfold slD at hg
  split at hg
  · cases hg
    obtain ⟨a, vs, rfl, ha, _, ra⟩ := rx.list_inv
    exact .inl ⟨a, vs, rfl, .of ha, fun p hp => hq p _ hp (cut_rep ra)⟩
  · cases hg
    obtain ⟨a, vs, rfl, ha, ra⟩ := rx.tup_inv
    refine .inr (.inl ⟨a, vs, rfl, ha, fun h => ?_, fun _ p hp => ?_⟩)
    · refine hq _ H .refl (.tup ha ?_)
      have e : cutV vs lo hi = vs := by
        unfold cutV
        rw [h.1, h.2, List.drop_zero, Nat.sub_zero, List.take_length]
      have r := cut_rep (lo := lo) (hi := hi) ra
      rw [e] at r
      exact r
    · exact hq _ _ (Ext.upd hp) (.tup (.of upd_same) ((cut_rep ra).step (StF.stp ((Ext.upd hp).stF (O := O))) w))
  · split at hg
    · cases hg
      exact .inr (.inr ⟨_, rx.str_inv, by assumption, hq _ H .refl (.str _)⟩)
    · cases hg
  · cases hg
    obtain ⟨a, vs, rfl, ha, ra⟩ := RepD.scr_inv rx
    exact .inl ⟨a, vs, rfl, ha, fun p hp => hq p _ hp (cut_rep ra)⟩
  · cases hg
/-- a part of a slice -/
def PartO (F : Fx) (X : Cx) (e : Option Expr) (f : Option DE) : Prop := ∃ t : L2.TO, PO X e t ∧ match f with
  | none => t = tNoPart
  | some fe => ∃ te, t = tPart te ∧ SE F te fe
theorem p_none : PartO F X none none := ⟨_, po_none, rfl⟩
theorem p_some {e : Expr} {fe : DE} (h : EO F X e fe) : PartO F X (some e) (some fe) := let ⟨t, p, s⟩ := h; ⟨_, po_some p, t, rfl, s⟩
def partD (f : Option DE) (s : S) (k : Option Int → S → RE) : RE := match f with
  | none => k none s
  | some fe => (fe s).bind fun y s' => match y with
    | .int i => k (some i) s'
    | _ => .stuck
def eSl (a : DE) (lo hi : Option DE) : DE := fun s => (a s).bind fun x s1 => partD lo s1 fun l s2 => partD hi s2 fun h s3 => liftR (slD x l h) s3
theorem part_bind {f : Option DE} {t : L2.TO} {k : Option Int → S → RE} {R : Option Int → Hp → Prop} (h : match f with | none => t = tNoPart | some fe => ∃ te, t = tPart te ∧ SE F te fe) (I : Est F σ H O s) (q : KE F σ H O s Q (partD f s k))
    (hk : ∀ o s1 H1 O1, StE F.δ σ H O s.e H1 O1 s1.e → Est F σ H1 O1 s1 → KE F σ H1 O1 s1 Q (k o s1) → R o H1) : t σ H R := by
  cases f with
  | none =>
    have h : t = tNoPart := h
    subst h
    exact hk none s H O .refl I q
  | some fe =>
    obtain ⟨te, rfl, se⟩ := h
    show te σ H fun x H1 => ∃ i, x = .int i ∧ R (some i) H1
    have q : KE F σ H O s Q ((fe s).bind fun y s' => match y with
      | .int i => k (some i) s'
      | _ => .stuck) := q
    refine se.bind I q fun y s1 v H1 O1 st I1 r kz => ?_
    split at kz
    · exact ⟨_, r.int_inv, hk _ s1 H1 O1 st I1 (kz.trans st fun _ => True)⟩
    · exact kz.elim
theorem e_sl {a : Expr} {fa : DE} {lo hi : Option Expr} {fl fh : Option DE} {p2 pos : Pos} (hK : F.m.K = X.K) (ha : EO F X a fa) (hl : PartO F X lo fl) (hh : PartO F X hi fh) : EO F X (.Subscript a (.Slice lo hi none p2) pos) (eSl fa fl fh) := by
  obtain ⟨ta, pa, sa⟩ := ha
  obtain ⟨tl, pl, sl⟩ := hl
  obtain ⟨th, ph, sh⟩ := hh
  refine ⟨_, pe_slice sl_D pa pl ph, fun σ H O s Q I k => ?_⟩
  refine sa.bind I k fun x s1 v H1 O1 st1 I1 r1 k => ?_
  refine part_bind sl I1 (k.trans st1 fun _ => True) fun l s2 H2 O2 st2 I2 k => ?_
  refine part_bind sh I2 k fun h s3 H3 O3 st3 I3 k => ?_
  obtain ⟨z, qo, zn, k⟩ := KE_lift k
  exact hK ▸ s_slD I3.wd ((r1.step st2.stp I1.wd).step st3.stp I2.wd) qo (Res.of I3 .refl I3 k zn)

/-! ### arguments, displays -/
inductive RA where
  | ok (ds : List D) (s : S) | er (e : Er) (c : List Int) | stuck
abbrev DA := S → RA
def KA (F : Fx) (σ : St) (H : Hp) (O : Addr → Prop) (s : S) (Q : List V → Hp → Prop) : RA → Prop
  | .ok ds s' => ∀ vs H' O', StE F.δ σ H O s.e H' O' s'.e → Est F σ H' O' s' → RepDs F.m.K H' O' F.δ vs ds → Q vs H'
  | .er e c => KEr F e c
  | .stuck => False
def SA (F : Fx) (t : TA) (f : DA) : Prop := ∀ σ H O s Q, Est F σ H O s → KA F σ H O s Q (f s) → t σ H Q
def AO (F : Fx) (X : Cx) (es : List Expr) (f : DA) : Prop := ∃ t, PA X es t ∧ SA F t f ∧ ∀ s ds s', f s = .ok ds s' → ds.length = es.length
def aNil : DA := fun s => .ok [] s
def aCons (a : DE) (as : DA) : DA := fun s => match a s with
  | .ok x s1 => match as s1 with
    | .ok xs s2 => .ok (x.d :: xs) s2
    | r => r
  | .er e c => .er e c
  | .stuck => .stuck
theorem a_nil : AO F X [] aNil := ⟨_, pa_nil, fun σ H O s Q I k => k [] H O .refl I .nil, fun s ds s' h => by cases h; rfl⟩
theorem s_cons {te : TE} {ta : TA} {fe : DE} {fa : DA} (he : SE F te fe) (ha : SA F ta fa) : SA F (tCons te ta) (aCons fe fa) := by
  intro σ H O s Q I k
  refine he.use I ?_
  unfold aCons at k
  cases qe : fe s with
  | stuck => rw [qe] at k; exact k
  | er e c => rw [qe] at k; exact k
  | ok x s1 =>
    rw [qe] at k
    intro v H1 O1 st1 I1 r1
    refine ha σ H1 O1 s1 _ I1 ?_
    cases qa : fa s1 with
    | stuck => simp only [qa] at k; exact k
    | er e c => simp only [qa] at k; exact k
    | ok xs s2 =>
      simp only [qa] at k
      intro vs H2 O2 st2 I2 r2
      exact k (v :: vs) H2 O2 (st1.trans st2) I2 (.cons (r1.step st2.stp I1.wd) r2)
theorem a_cons {e : Expr} {es : List Expr} {fe : DE} {fa : DA} (he : EO F X e fe) (ha : AO F X es fa) (hs : starEach (e :: es) X.env = (false, eval e X.env) :: starEach es X.env := by rfl) : AO F X (e :: es) (aCons fe fa) := by
  obtain ⟨te, pe, se⟩ := he
  obtain ⟨ta, pa, sa, la⟩ := ha
  refine ⟨_, pa_cons pe pa hs, s_cons se sa, fun s ds s' h => ?_⟩
  unfold aCons at h
  cases qe : fe s with
  | stuck => rw [qe] at h; cases h
  | er e c => rw [qe] at h; cases h
  | ok x s1 =>
    simp only [qe] at h
    cases qa : fa s1 with
    | stuck => simp only [qa] at h; cases h
    | er e c => simp only [qa] at h; cases h
    | ok xs s2 =>
      simp only [qa] at h
      cases h
      rw [List.length_cons, List.length_cons, la s1 xs _ qa]
def RA.bind (r : RA) (k : List D → S → RE) : RE := match r with
  | .ok ds s => k ds s
  | .er e c => .er e c
  | .stuck => .stuck
theorem SA.bind {k : List D → S → RE} {a : DA} {ta : TA} {R : List V → Hp → Prop} (ha : SA F ta a) (I : Est F σ H O s) (h : KE F σ H O s Q ((a s).bind k))
    (hk : ∀ ds s1 vs H1 O1, a s = .ok ds s1 → StE F.δ σ H O s.e H1 O1 s1.e → Est F σ H1 O1 s1 → RepDs F.m.K H1 O1 F.δ vs ds → KE F σ H1 O1 s1 Q (k ds s1) → R vs H1) : ta σ H R := by
  refine ha σ H O s R I ?_
  cases q : a s with
  | stuck => rw [q] at h; exact h
  | er e c => rw [q] at h; exact h
  | ok ds s1 => rw [q] at h; exact fun vs H1 O1 st I1 r => hk ds s1 vs H1 O1 q st I1 r (KE.trans st (fun _ => True) h)
def eTup (as : DA) : DE := fun s => (as s).bind fun ds s1 => .ok (.val (.tuple ds)) s1
def eLst (as : DA) : DE := fun s => (as s).bind fun ds s1 => .ok (.own ds) s1
theorem e_tup {es : List Expr} {fa : DA} {x1 pos} (ha : AO F X es fa) (hl : es.length ≤ 10000 := by decide) : EO F X (.Tuple es x1 pos) (eTup fa) := by
  obtain ⟨ta, pa, sa, la⟩ := ha
  refine ⟨_, pe_tup pa, fun σ H O s Q I k => sa.bind I k fun ds s1 vs H1 O1 q st I1 r k => ?_⟩
  have hz : vs.length ≤ sizeLine := by rw [r.length, la s ds s1 q, sizeLine_eq]; omega
  exact ⟨hz, fun p hp => k _ _ O1 (Ext.upd hp).stF.toE (I1.ext (Ext.upd hp)) (.tup (.of upd_same) (r.step (StF.stp ((Ext.upd hp).stF (O := O1))) I1.wd))⟩
theorem e_lst {es : List Expr} {fa : DA} {pos} (ha : AO F X es fa) (hl : es.length ≤ 10000 := by decide) : EO F X (.List es pos) (eLst fa) := by
  obtain ⟨ta, pa, sa, la⟩ := ha
  refine ⟨_, pe_lst pa, fun σ H O s Q I k => sa.bind I k fun ds s1 vs H1 O1 q st I1 r k => ?_⟩
  have hz : vs.length ≤ sizeLine := by rw [r.length, la s ds s1 q, sizeLine_eq]; omega
  exact ⟨hz, fun p hp => Res.of (x := .own ds) I1 .refl I1 k (fun z => by cases z) p vs hp r⟩

/-! ### built-ins by values -/
def PrimS (F : Fx) (r : List V → Hp → VK → Prop) (g : List D → Option Sl) : Prop := ∀ H O c vs ds z Q, Wd F.m F.δ H O c → RepDs F.m.K H O F.δ vs ds → g ds = some z → Res F H O Q z → r vs H Q
def eB (g : List D → Option Sl) (as : DA) : DE := fun s => (as s).bind fun ds s1 => liftR (g ds) s1
theorem s_B {r : List V → Hp → VK → Prop} {g : List D → Option Sl} {ta : TA} {fa : DA} (ha : SA F ta fa) (hs : PrimS F r g) : SE F (tCB r ta) (eB g fa) := by
  intro σ H O s Q I k
  refine ha.bind I k fun ds s1 vs H1 O1 q st I1 r k => ?_
  obtain ⟨z, qo, zn, k⟩ := KE_lift k
  exact hs H1 O1 s1.c vs ds z Q I1.wd r qo (Res.of I1 .refl I1 k zn)
section
variable {r : List V → Hp → VK → Prop} {gb : List D → Option Sl} {id x : Str} {bi T : String} {e : Expr} {es : List Expr} {fa : DA} {p pos : Pos}
theorem e_B (hc : CallR X (.builtin bi) r) (hs : PrimS F r gb) (hg : Gl X x) (hm : X.mg x = none) (hv : bootBuiltins x = some (.builtin bi)) (ha : AO F X (e :: es) fa) (hn : x ≠ "__name__" := by decide) (hdb : (x == ("__debug__" : Str)) = false := by decide)
    (he : starEach (e :: es) X.env = (false, eval e X.env) :: starEach es X.env := by rfl) (hpl : (backTo pos (starEach es X.env)).any (·.1) = false := by rfl) :
    EO F X (.Call (.Name x p) (e :: es) [] pos) (eB gb fa) :=
  let ⟨_, pa, sa, _⟩ := ha
  ⟨_, pe_callB hc hg hm hv pa hn hdb he hpl, s_B sa hs⟩
theorem e_Ty (hc : CallR X (.type T) r) (hs : PrimS F r gb) (hg : Gl X x) (hm : X.mg x = none) (hv : bootBuiltins x = some (.type T)) (ha : AO F X (e :: es) fa) (hn : x ≠ "__name__" := by decide) (hdb : (x == ("__debug__" : Str)) = false := by decide)
    (he : starEach (e :: es) X.env = (false, eval e X.env) :: starEach es X.env := by rfl) (hpl : (backTo pos (starEach es X.env)).any (·.1) = false := by rfl) :
    EO F X (.Call (.Name x p) (e :: es) [] pos) (eB gb fa) :=
  let ⟨_, pa, sa, _⟩ := ha
  ⟨_, pe_callTy hc hg hm hv pa hn hdb he hpl, s_B sa hs⟩
end
theorem PrimS.or {r r' : List V → Hp → VK → Prop} {g g' : List D → Option Sl} (h : PrimS F r g) (h' : PrimS F r' g') : PrimS F (fun xs H Q => r xs H Q ∨ r' xs H Q) (fun ds => match g ds with | some z => some z | none => g' ds) := by
  intro H O c vs ds z Q w rx hg hq
  have hg : (match g ds with | some z => some z | none => g' ds) = some z := hg
  split at hg
  · rename_i z' e
    cases hg
    exact .inl (h H O c vs ds _ Q w rx e hq)
  · exact .inr (h' H O c vs ds _ Q w rx hg hq)
theorem one_inv {vs : List V} {d : D} (r : RepDs K H O δ vs [d]) : ∃ v, vs = [v] ∧ RepD K H O δ v d := by
  cases r with | cons h t => cases t; exact ⟨_, rfl, h⟩
theorem two_inv {vs : List V} {d d' : D} (r : RepDs K H O δ vs [d, d']) : ∃ v v', vs = [v, v'] ∧ RepD K H O δ v d ∧ RepD K H O δ v' d' := by
  cases r with | cons h t => obtain ⟨v, rfl, h'⟩ := one_inv t; exact ⟨_, _, rfl, h, h'⟩
def intsD : List D → Option (List Int)
  | [] => some []
  | .int i :: r => (intsD r).map (i :: ·)
  | _ => none
theorem intsD_eq : ∀ {ds : List D} {ns : List Int}, intsD ds = some ns → ds = ns.map PyData.int
  | [], _, h => by cases h; rfl
  | .int i :: r, ns, h => by
    simp only [intsD, Option.map_eq_some_iff] at h
    obtain ⟨ms, h1, rfl⟩ := h
    rw [intsD_eq h1]; rfl
  | .none :: _, _, h => by cases h
  | .bool _ :: _, _, h => by cases h
  | .str _ :: _, _, h => by cases h
  | .list _ :: _, _, h => by cases h
  | .tuple _ :: _, _, h => by cases h
  | .dict _ :: _, _, h => by cases h
theorem intsD_map (ns : List Int) : intsD (ns.map PyData.int) = some ns := by
  induction ns with
  | nil => rfl
  | cons n ns ih => rw [List.map_cons, intsD, ih]; rfl
def absB : List D → Option Sl
  | [.int i] => some (.val (.int (if i < 0 then -i else i)))
  | _ => none
theorem s_abs : PrimS F (fun xs H Q => ∃ i, xs = [.int i] ∧ Q (.int (if i < 0 then -i else i)) H) absB := by
  intro H O c vs ds z Q w rx hg hq
  unfold absB at hg
  split at hg
  · cases hg
    obtain ⟨v, rfl, r⟩ := one_inv rx
    cases r.int_inv
    exact ⟨_, rfl, hq _ H .refl (.int _)⟩
  · cases hg
def intB : List D → Option Sl
  | [.int i] => some (.val (.int i))
  | _ => none
theorem s_int : PrimS F (fun xs H Q => (∃ i, xs = [.int i] ∧ Q (.int i) H) ∨ ∃ k, xs = [.bl k] ∧ Q (.int (if k then 1 else 0)) H) intB := by
  intro H O c vs ds z Q w rx hg hq
  unfold intB at hg
  split at hg
  · cases hg
    obtain ⟨v, rfl, r⟩ := one_inv rx
    cases r.int_inv
    exact .inl ⟨_, rfl, hq _ H .refl (.int _)⟩
  · cases hg
def maxI : List Int → Int
  | [] => 0
  | [x] => x
  | x :: r => let m := maxI r; if m > x then m else x
def minI : List Int → Int
  | [] => 0
  | [x] => x
  | x :: r => let m := minI r; if m < x then m else x
theorem maxI_mem : ∀ {ns : List Int}, ns ≠ [] → maxI ns ∈ ns ∧ ∀ y ∈ ns, y ≤ maxI ns
  | [], h => absurd rfl h
  | [x], _ => ⟨by simp [maxI], by simp [maxI]⟩
  | x :: y :: r, _ => by
    obtain ⟨h1, h2⟩ := maxI_mem (ns := y :: r) (by simp)
    have e : maxI (x :: y :: r) = if maxI (y :: r) > x then maxI (y :: r) else x := rfl
    rw [e]
    split
    · refine ⟨List.mem_cons_of_mem _ h1, fun z hz => ?_⟩
      rcases List.mem_cons.mp hz with rfl | hz
      · omega
      · exact h2 z hz
    · refine ⟨List.mem_cons_self .., fun z hz => ?_⟩
      rcases List.mem_cons.mp hz with rfl | hz
      · omega
      · have := h2 z hz; omega
theorem minI_mem : ∀ {ns : List Int}, ns ≠ [] → minI ns ∈ ns ∧ ∀ y ∈ ns, minI ns ≤ y
  | [], h => absurd rfl h
  | [x], _ => ⟨by simp [minI], by simp [minI]⟩
  | x :: y :: r, _ => by
    obtain ⟨h1, h2⟩ := minI_mem (ns := y :: r) (by simp)
    have e : minI (x :: y :: r) = if minI (y :: r) < x then minI (y :: r) else x := rfl
    rw [e]
    split
    · refine ⟨List.mem_cons_of_mem _ h1, fun z hz => ?_⟩
      rcases List.mem_cons.mp hz with rfl | hz
      · omega
      · exact h2 z hz
    · refine ⟨List.mem_cons_self .., fun z hz => ?_⟩
      rcases List.mem_cons.mp hz with rfl | hz
      · omega
      · have := h2 z hz; omega
def maxB : List D → Option Sl
  | [.int i, .int j] => some (.val (.int (if j > i then j else i)))
  | [.list xs] => match intsD xs with
    | some (n :: ns) => some (.val (.int (maxI (n :: ns))))
    | _ => none
  | _ => none
def minB : List D → Option Sl
  | [.int i, .int j] => some (.val (.int (if j < i then j else i)))
  | [.list xs] => match intsD xs with
    | some (n :: ns) => some (.val (.int (minI (n :: ns))))
    | _ => none
  | _ => none
theorem s_max : PrimS F (fun xs H Q => (∃ i j, xs = [.int i, .int j] ∧ Q (.int (if j > i then j else i)) H) ∨ rMax F.m.K xs H Q) maxB := by
  intro H O c vs ds z Q w rx hg hq
  unfold maxB at hg
  split at hg
  · cases hg
    obtain ⟨v, v', rfl, r, r'⟩ := two_inv rx
    cases r.int_inv
    cases r'.int_inv
    exact .inl ⟨_, _, rfl, hq _ H .refl (.int _)⟩
  · split at hg
    · rename_i n ns e
      cases hg
      obtain ⟨v, rfl, r⟩ := one_inv rx
      obtain ⟨a, us, rfl, ha, _, ra⟩ := r.list_inv
      rw [intsD_eq e] at ra
      refine .inr ⟨a, n :: ns, rfl, .of (by rw [← ra.of_ints]; exact ha), by simp, fun m hm hl => ?_⟩
      obtain ⟨h1, h2⟩ := maxI_mem (ns := n :: ns) (by simp)
      have : m = maxI (n :: ns) := by have := hl _ h1; have := h2 _ hm; omega
      rw [this]
      exact hq _ H .refl (.int _)
    · cases hg
  · cases hg
theorem s_min : PrimS F (fun xs H Q => (∃ i j, xs = [.int i, .int j] ∧ Q (.int (if j < i then j else i)) H) ∨ rMin F.m.K xs H Q) minB := by
  intro H O c vs ds z Q w rx hg hq
  unfold minB at hg
  split at hg
  · cases hg
    obtain ⟨v, v', rfl, r, r'⟩ := two_inv rx
    cases r.int_inv
    cases r'.int_inv
    exact .inl ⟨_, _, rfl, hq _ H .refl (.int _)⟩
  · split at hg
    · rename_i n ns e
      cases hg
      obtain ⟨v, rfl, r⟩ := one_inv rx
      obtain ⟨a, us, rfl, ha, _, ra⟩ := r.list_inv
      rw [intsD_eq e] at ra
      refine .inr ⟨a, n :: ns, rfl, .of (by rw [← ra.of_ints]; exact ha), by simp, fun m hm hl => ?_⟩
      obtain ⟨h1, h2⟩ := minI_mem (ns := n :: ns) (by simp)
      have : m = minI (n :: ns) := by have := hl _ h1; have := h2 _ hm; omega
      rw [this]
      exact hq _ H .refl (.int _)
    · cases hg
  · cases hg
end
end DL

set_option Elab.async false
set_option linter.all false
set_option maxRecDepth 100000
set_option maxHeartbeats 4000000
/-! DLf: len, sum, tuple, list, any, all, chains of comparisons, isinstance, calls of defs. -/
namespace DL
open PySem PySem.Spec L2
open PyProof.Rows hiding St

section
variable {F : Fx} {X : Cx} {H H' H1 H2 : Hp} {O O' O1 O2 : Addr → Prop} {σ : St} {s s1 s2 : S} {Q : VK} {QT : Bool → Hp → Prop} {t : TE} {f g : DE} {v : V} {d : D} {K : PySem.W.Frag} {δ : Option Addr}

/-! ### len -/
def lenB : List D → Option Sl
  | [.list xs] => some (.val (.int xs.length))
  | [.tuple xs] => some (.val (.int xs.length))
  | [.str z] => if z.length ≤ sizeLine then some (.val (.int z.length)) else none
  | [.dict [(.bool true, .list xs)]] => some (.val (.int xs.length))
  | _ => none
def rLenB (K : PySem.W.Frag) : List V → Hp → VK → Prop := fun xs H Q => (∃ p ys, xs = [.ref p] ∧ (SqL K H p ys ∨ SqT K H p ys) ∧ Q (.int ys.length) H) ∨ ∃ z, xs = [.str z] ∧ z.length ≤ sizeLine ∧ Q (.int z.length) H
theorem call_lenB : CallR X (.builtin "len") (rLenB X.K) := call_len_seq.or call_len_str
theorem s_len : PrimS F (rLenB F.m.K) lenB := by
  intro H O c vs ds z Q w rx hg hq
  unfold lenB at hg
  split at hg
  · cases hg
    obtain ⟨v, rfl, r⟩ := one_inv rx
    obtain ⟨a, us, rfl, ha, _, ra⟩ := r.list_inv
    exact .inl ⟨a, us, rfl, .inl (.of ha), by rw [ra.length]; exact hq _ H .refl (.int _)⟩
  · cases hg
    obtain ⟨v, rfl, r⟩ := one_inv rx
    obtain ⟨a, us, rfl, ha, ra⟩ := r.tup_inv
    exact .inl ⟨a, us, rfl, .inr ha, by rw [ra.length]; exact hq _ H .refl (.int _)⟩
  · split at hg
    · cases hg
      obtain ⟨v, rfl, r⟩ := one_inv rx
      cases r.str_inv
      exact .inr ⟨_, rfl, by assumption, hq _ H .refl (.int _)⟩
    · cases hg
  · cases hg
    obtain ⟨v, rfl, r⟩ := one_inv rx
    obtain ⟨a, us, rfl, ha, ra⟩ := RepD.scr_inv r
    exact .inl ⟨a, us, rfl, .inl ha, by rw [ra.length]; exact hq _ H .refl (.int _)⟩
  · cases hg
/-- len(x), x a name: its list does not come to rest -/
def eLenN (i : Nat) : DE := fun s => match s.e[i]? with
  | some (.val d) => liftR (lenB [d]) s
  | some (.own xs) => .ok (.val (.int xs.length)) s
  | _ => .stuck
theorem e_lenN (i : Nat) {x : Str} {p px pos : Pos} (hK : F.m.K = X.K) (hg : Gl X "len") (hm : X.mg "len" = none) (hN : X.N[i]? = some x := by rfl) (hv : Vis X.env.scope x := by first | exact Or.inl rfl | exact Or.inr (Or.inl rfl) | exact Or.inr (Or.inr rfl))
    (hd : (x == ("__debug__" : Str)) = false := by decide) (hcd : (x == ("__classdict__" : Str)) = false := by decide)
    (he : starEach [.Name x px] X.env = (false, eval (.Name x px) X.env) :: starEach [] X.env := by rfl) : EO F X (.Call (.Name "len" p) [.Name x px] [] pos) (eLenN i) := by
  refine ⟨_, pe_callB call_lenB hg hm PySem.boot_len (pa_cons (pe_var hN hv hd hcd) pa_nil he) (by decide) (by decide) he rfl, fun σ H O s Q I k => ?_⟩
  unfold eLenN at k
  split at k
  · rename_i d h
    obtain ⟨v, h1, h2⟩ := I.env.vals i d h
    obtain ⟨z, qo, zn, kq⟩ := KE_lift k
    exact ⟨v, h1, hK ▸ s_len H O s.c [v] [d] z Q I.wd (.cons h2 .nil) qo (Res.of I .refl I kq zn)⟩
  · rename_i xs h
    obtain ⟨a, vs, h1, h2, h3, h4, h5, h6⟩ := I.env.owns i xs h
    exact ⟨_, h1, .inl ⟨a, vs, rfl, .inl (.of h4), by rw [h5.length]; exact k _ H O .refl I (.int _)⟩⟩
  · exact k.elim

/-! ### sum, any, all, tuple, list -/
theorem sum_tup {prog : Program} {w : World} {A : Around} {E : Value → Shared → Prop} {s : Shared} {l : Addr} {its : List Value} {ns : List Int} {Q : Value → Shared → Prop} (hh : A.handled = none) (hl : IsTup s.heap l its.toArray) (hi : IntsAre its ns)
    (h : ∀ h' tk t', (∀ b o, s.heap.get? b = some o → h'.get? b = some o) → Q (.int ns.sum t') { s with heap := h', toks := tk }) : wpAny (model prog w) A (call (.builtin "sum") [.ref l]) Q E s := by
  obtain ⟨xs, e⟩ := hi.allInts.items
  have hn : numsOf (intItems xs).toList = ns := by rw [← e]; exact hi.numsOf
  rw [nums_intItems] at hn
  rw [e] at hl
  have hlt : l < s.heap.objs.size := by obtain ⟨o, ho, _⟩ := hl; exact Heap.lt_size ho
  have hl : s.heap.IsTuple l (intItems xs) := hl
  refine call_sum_walkG (wpAny_pyIter_tuple hl ?_)
  refine ⟨_, _, _, _, _, _, numAt xs, rfl, Walks.tuple (A := A.in1) hh _ l (Nat.ne_of_lt hlt) (intItems xs), ⟨⟨_, Heap.get?_push_size _ rfl, rfl, rfl⟩, hl.push _⟩, fun b hb => ?_, (fun _ _ => intItems_at), fun h' tk t' hk => ?_⟩
  · show b < (s.heap.push _).objs.size
    rw [Heap.size_push]
    rcases List.mem_cons.mp hb with rfl | hb
    · exact Nat.lt_succ_self _
    · rcases List.mem_cons.mp hb with rfl | hb
      · exact Nat.lt_succ_of_lt hlt
      · cases hb
  · have := h h' tk t' (fun b o hb => hk b o (by
      have hlt2 := Heap.lt_size hb
      intro z
      rcases List.mem_cons.mp z with rfl | z
      · exact Nat.lt_irrefl _ hlt2
      · cases z) (Heap.get?_push_of_some _ hb))
    have e2 : preSum (numAt xs) (intItems xs).size = ns.sum := by
      have e3 : (intItems xs).size = xs.size := by simp [intItems]
      rw [e3, preSum_eq, List.take_of_length_le (by simp), hn]
    rw [e2]
    exact this
def rSumB (K : PySem.W.Frag) : List V → Hp → VK → Prop := fun vs H Q => rSum K vs H Q ∨ ∃ (a : Addr) (ns : List Int), vs = [V.ref a] ∧ SqT K H a (ns.map V.int) ∧ Q (.int ns.sum) H
theorem cr_sumB (hc : X.calm = true) : CallR X (.builtin "sum") (rSumB X.K) := by
  refine (cr_sum hc).or ?_
  intro pins s σ H vs us Q I r h
  obtain ⟨a, ns, rfl, hs, q⟩ := h
  obtain ⟨its, rv, hl, _⟩ := I.tuple hs
  rw [Vals.ref1 r]
  exact sum_tup (I.ok.hd hc) hl rv.ints fun h' tk t' hk => ⟨.int _, H, I.kept hk, ⟨_, rfl⟩, q⟩
def sumB : List D → Option Sl
  | [.list xs] => (intsD xs).map fun ns => .val (.int ns.sum)
  | [.tuple xs] => (intsD xs).map fun ns => .val (.int ns.sum)
  | _ => none
theorem s_sum : PrimS F (rSumB F.m.K) sumB := by
  intro H O c vs ds z Q w rx hg hq
  unfold sumB at hg
  split at hg
  · simp only [Option.map_eq_some_iff] at hg
    obtain ⟨ns, e, rfl⟩ := hg
    obtain ⟨v, rfl, r⟩ := one_inv rx
    obtain ⟨a, us, rfl, ha, _, ra⟩ := r.list_inv
    rw [intsD_eq e] at ra
    exact .inl ⟨a, ns, rfl, .of (by rw [← ra.of_ints]; exact ha), hq _ H .refl (.int _)⟩
  · simp only [Option.map_eq_some_iff] at hg
    obtain ⟨ns, e, rfl⟩ := hg
    obtain ⟨v, rfl, r⟩ := one_inv rx
    obtain ⟨a, us, rfl, ha, ra⟩ := r.tup_inv
    rw [intsD_eq e] at ra
    exact .inr ⟨a, ns, rfl, by rw [← ra.of_ints]; exact ha, hq _ H .refl (.int _)⟩
  · cases hg
def boolsD : List D → Option (List Bool)
  | [] => some []
  | .bool i :: r => (boolsD r).map (i :: ·)
  | _ => none
theorem boolsD_eq : ∀ {ds : List D} {ns : List Bool}, boolsD ds = some ns → ds = ns.map PyData.bool
  | [], _, h => by cases h; rfl
  | .bool i :: r, ns, h => by
    simp only [boolsD, Option.map_eq_some_iff] at h
    obtain ⟨ms, h1, rfl⟩ := h
    rw [boolsD_eq h1]; rfl
  | .none :: _, _, h => by cases h
  | .int _ :: _, _, h => by cases h
  | .str _ :: _, _, h => by cases h
  | .list _ :: _, _, h => by cases h
  | .tuple _ :: _, _, h => by cases h
  | .dict _ :: _, _, h => by cases h
theorem boolsD_map (ns : List Bool) : boolsD (ns.map PyData.bool) = some ns := by
  induction ns with
  | nil => rfl
  | cons n ns ih => rw [List.map_cons, boolsD, ih]; rfl
def anyB : List D → Option Sl
  | [.list xs] => (boolsD xs).map fun ns => .val (.bool (ns.any id))
  | _ => none
def allB : List D → Option Sl
  | [.list xs] => (boolsD xs).map fun ns => .val (.bool (ns.all id))
  | _ => none
theorem s_any : PrimS F (rAny F.m.K) anyB := by
  intro H O c vs ds z Q w rx hg hq
  unfold anyB at hg
  split at hg
  · simp only [Option.map_eq_some_iff] at hg
    obtain ⟨ns, e, rfl⟩ := hg
    obtain ⟨v, rfl, r⟩ := one_inv rx
    obtain ⟨a, us, rfl, ha, _, ra⟩ := r.list_inv
    rw [boolsD_eq e] at ra
    exact ⟨a, ns, rfl, .of (by rw [← ra.of_bools]; exact ha), hq _ H .refl (.bl _)⟩
  · cases hg
theorem s_all : PrimS F (rAll F.m.K) allB := by
  intro H O c vs ds z Q w rx hg hq
  unfold allB at hg
  split at hg
  · simp only [Option.map_eq_some_iff] at hg
    obtain ⟨ns, e, rfl⟩ := hg
    obtain ⟨v, rfl, r⟩ := one_inv rx
    obtain ⟨a, us, rfl, ha, _, ra⟩ := r.list_inv
    rw [boolsD_eq e] at ra
    exact ⟨a, ns, rfl, .of (by rw [← ra.of_bools]; exact ha), hq _ H .refl (.bl _)⟩
  · cases hg
def tupB : List D → Option Sl
  | [.list xs] => some (.val (.tuple xs))
  | [.tuple xs] => some (.val (.tuple xs))
  | _ => none
theorem s_tup : PrimS F (fun xs H Q => ∃ p ys, xs = [.ref p] ∧ ((SqL F.m.K H p ys ∧ ∀ l, H l = none → Q (.ref l) (upd H l (.tup ys))) ∨ (SqT F.m.K H p ys ∧ Q (.ref p) H))) tupB := by
  intro H O c vs ds z Q w rx hg hq
  unfold tupB at hg
  split at hg
  · cases hg
    obtain ⟨v, rfl, r⟩ := one_inv rx
    obtain ⟨a, us, rfl, ha, _, ra⟩ := r.list_inv
    exact ⟨a, us, rfl, .inl ⟨.of ha, fun p hp => hq _ _ (Ext.upd hp) (.tup (.of upd_same) (ra.step (StF.stp ((Ext.upd hp).stF (O := O))) w))⟩⟩
  · cases hg
    obtain ⟨v, rfl, r⟩ := one_inv rx
    obtain ⟨a, us, rfl, ha, ra⟩ := r.tup_inv
    exact ⟨a, us, rfl, .inr ⟨ha, hq _ H .refl (.tup ha ra)⟩⟩
  · cases hg
def lstB : List D → Option Sl
  | [.list xs] => some (.own xs)
  | [.tuple xs] => some (.own xs)
  | _ => none
theorem s_lst : PrimS F (fun xs H Q => ∃ p ys, xs = [.ref p] ∧ (SqL F.m.K H p ys ∨ SqT F.m.K H p ys) ∧ ∀ l, H l = none → Q (.ref l) (upd H l (.lst ys))) lstB := by
  intro H O c vs ds z Q w rx hg hq
  unfold lstB at hg
  split at hg
  · cases hg
    obtain ⟨v, rfl, r⟩ := one_inv rx
    obtain ⟨a, us, rfl, ha, _, ra⟩ := r.list_inv
    exact ⟨a, us, rfl, .inl (.of ha), fun p hp => hq p _ hp ra⟩
  · cases hg
    obtain ⟨v, rfl, r⟩ := one_inv rx
    obtain ⟨a, us, rfl, ha, ra⟩ := r.tup_inv
    exact ⟨a, us, rfl, .inr ha, fun p hp => hq p _ hp ra⟩
  · cases hg

/-! ### -a, a < b < c -/
def eNeg (a : DE) : DE := fun s => (a s).bind fun x s1 => match x with
  | .int i => .ok (.val (.int (-i))) s1
  | _ => .stuck
theorem e_neg {a : Expr} {fa : DE} {pos : Pos} (ha : EO F X a fa) : EO F X (.UnaryOp .USub a pos) (eNeg fa) := by
  obtain ⟨ta, pa, sa⟩ := ha
  refine ⟨_, pe_un un_neg pa, fun σ H O s Q I k => ?_⟩
  refine sa.bind I k fun x s1 v H1 O1 st I1 r kz => ?_
  split at kz
  · exact ⟨_, r.int_inv, kz _ H1 O1 st I1 (.int _)⟩
  · exact kz.elim
def eChain (g g' : D → D → Option Sl) (a b c : DE) : DE := fun s => (a s).bind fun x s1 => (b s1).bind fun y s2 => match g x y with
  | some (.val (.bool true)) => (c s2).bind fun z s3 => liftR (g' y z) s3
  | some (.val (.bool false)) => .ok (.val (.bool false)) s2
  | _ => .stuck
theorem s_chain {r r' : R2} {g g' : D → D → Option Sl} {ta tb tc : TE} {a b c : DE} (ha : SE F ta a) (hb : SE F tb b) (hc : SE F tc c) (hs : OpS F r g) (hs' : OpS F r' g') : SE F (tChain r r' ta tb tc) (eChain g g' a b c) := by
  intro σ H O s Q I k
  refine ha.bind I k fun x s1 v1 H1 O1 st1 I1 r1 k1 => ?_
  have k1 := k1.trans st1 (fun _ => True)
  refine hb.bind I1 k1 fun y s2 v2 H2 O2 st2 I2 r2 k2 => ?_
  have k2 := k2.trans st2 (fun _ => True)
  split at k2
  · rename_i e
    refine hs H2 O2 s2.c v1 v2 x y _ _ I2.wd (r1.step st2.stp I1.wd) r2 e fun w H3 ex rw' => ⟨true, rw'.bool_inv, ?_⟩
    rw [if_pos rfl]
    refine hc.bind (I2.ext ex) (k2.trans ex.stF.toE fun _ => True) fun z s4 v4 H4 O4 st4 I4 r4 k4 => ?_
    obtain ⟨zz, qo, zn, kq⟩ := KE_lift k4
    exact hs' H4 O4 s4.c v2 v4 y z zz Q I4.wd ((r2.step (ex.stF (O := O2)).stp I2.wd).step st4.stp (I2.ext ex).wd) r4 qo (Res.of (I2.ext ex) st4 I4 kq zn)
  · rename_i e
    refine hs H2 O2 s2.c v1 v2 x y _ _ I2.wd (r1.step st2.stp I1.wd) r2 e fun w H3 ex rw' => ⟨false, rw'.bool_inv, ?_⟩
    rw [if_neg Bool.false_ne_true]
    exact k2 _ H3 O2 ex.stF.toE (I2.ext ex) (.bl _)
  · exact k2.elim
section
variable {r r' : R2} {g g' : D → D → Option Sl} {op op' : CmpOp} {a b c : Expr} {fa fb fc : DE} {pos : Pos}
theorem e_chain (ho : OpR X (compareOp op) r) (ho' : OpR X (compareOp op') r') (hs : OpS F r g) (hs' : OpS F r' g') (ha : EO F X a fa) (hb : EO F X b fb) (hc : EO F X c fc) (hm : lastMarks [op, op'] [b, c] = false := by with_unfolding_all rfl) : EO F X (.Compare a [op, op'] [b, c] pos) (eChain g g' fa fb fc) :=
  let ⟨_, pa, sa⟩ := ha
  let ⟨_, pb, sb⟩ := hb
  let ⟨_, pc, sc⟩ := hc
  ⟨_, pe_chain ho ho' pa pb pc hm, s_chain sa sb sc hs hs'⟩
theorem t_chain (ho : OpR X (compareOp op) r) (ho' : OpR X (compareOp op') r') (hs : OpS F r g) (hs' : OpS F r' g') (hg' : ∀ x y z, g' x y = some z → ∃ k, z = .val (.bool k)) (ha : EO F X a fa) (hb : EO F X b fb) (hc : EO F X c fc) (hm : lastMarks [op, op'] [b, c] = false := by with_unfolding_all rfl) :
    TO F X (.Compare a [op, op'] [b, c] pos) (eChain g g' fa fb fc) := by
  obtain ⟨_, pa, sa⟩ := ha
  obtain ⟨_, pb, sb⟩ := hb
  obtain ⟨_, pc, sc⟩ := hc
  refine ⟨_, pt_chain ho ho' pa pb pc hm, fun σ H O s Q I k => ?_⟩
  show tChain r r' _ _ _ σ H fun x H' => ∃ k, x = .bl k ∧ Q k H'
  refine s_chain sa sb sc hs hs' σ H O s _ I ?_
  cases q : eChain g g' fa fb fc s with
  | stuck => rw [q] at k; exact k
  | er e c => rw [q] at k; exact k
  | ok x s' =>
    rw [q] at k
    cases hd : x.d with
    | bool b' =>
      simp only [KT, hd] at k
      intro v H' O' st I' rr
      refine ⟨b', ?_, k H' O' st I'⟩
      cases x with
      | un => exact rr.elim
      | val d => cases hd; exact RepD.bool_inv rr
      | own xs => cases hd
    | _ => simp only [KT, hd] at k
def eLeLe (a b c : DE) : DE := eChain leD leD a b c
def eLeLt (a b c : DE) : DE := eChain leD ltD a b c
theorem e_lele (ha : EO F X a fa) (hb : EO F X b fb) (hc : EO F X c fc) (hm : lastMarks [.LtE, .LtE] [b, c] = false := by with_unfolding_all rfl) : EO F X (.Compare a [.LtE, .LtE] [b, c] pos) (eLeLe fa fb fc) := e_chain op_le op_le s_le s_le ha hb hc hm
theorem e_lelt (ha : EO F X a fa) (hb : EO F X b fb) (hc : EO F X c fc) (hm : lastMarks [.LtE, .Lt] [b, c] = false := by with_unfolding_all rfl) : EO F X (.Compare a [.LtE, .Lt] [b, c] pos) (eLeLt fa fb fc) := e_chain op_le op_lt s_le s_lt ha hb hc hm
theorem t_lele (ha : EO F X a fa) (hb : EO F X b fb) (hc : EO F X c fc) (hm : lastMarks [.LtE, .LtE] [b, c] = false := by with_unfolding_all rfl) : TO F X (.Compare a [.LtE, .LtE] [b, c] pos) (eLeLe fa fb fc) := t_chain op_le op_le s_le s_le gI_bool ha hb hc hm
theorem t_lelt (ha : EO F X a fa) (hb : EO F X b fb) (hc : EO F X c fc) (hm : lastMarks [.LtE, .Lt] [b, c] = false := by with_unfolding_all rfl) : TO F X (.Compare a [.LtE, .Lt] [b, c] pos) (eLeLt fa fb fc) := t_chain op_le op_lt s_le s_lt gI_bool ha hb hc hm
end

/-! ### isinstance(x, T), T a built-in type -/
inductive Ty4 where
  | int | bool | str | tuple | list
def Ty4.nm : Ty4 → String
  | .int => "int" | .bool => "bool" | .str => "str" | .tuple => "tuple" | .list => "list"
def isiD : Ty4 → D → Bool
  | .int, .int _ => true
  | .int, .bool _ => true
  | .bool, .bool _ => true
  | .str, .str _ => true
  | .tuple, .tuple _ => true
  | .list, .list _ => true
  | _, _ => false
/-- data, but for the cell, the script and dicts -/
def plainD : D → Bool
  | .dict _ => false
  | _ => true
def eIsi (T : Ty4) (a : DE) : DE := fun s => (a s).bind fun x s1 => if plainD x then .ok (.val (.bool (isiD T x))) s1 else .stuck
theorem RepD.ty {T : Ty4} (r : RepD K H O δ v d) (p : plainD d = true) : ∃ t, TyX K H v t ∧ PySem.W.kitOne K t (.type T.nm) = some (isiD T d) := by
  cases r with
  | non => exact ⟨_, .base .non, by cases T <;> first | exact kit_ty (r := true) (by decide +kernel) | exact kit_ty (r := false) (by decide +kernel)⟩
  | bl b => exact ⟨_, .base (.bl b), by cases T <;> first | exact kit_ty (r := true) (by decide +kernel) | exact kit_ty (r := false) (by decide +kernel)⟩
  | int i => exact ⟨_, .base (.int i), by cases T <;> first | exact kit_ty (r := true) (by decide +kernel) | exact kit_ty (r := false) (by decide +kernel)⟩
  | str x => exact ⟨_, .base (.str x), by cases T <;> first | exact kit_ty (r := true) (by decide +kernel) | exact kit_ty (r := false) (by decide +kernel)⟩
  | tup h _ =>
    rcases h with (h | ⟨o, h⟩) | ⟨o, its, n, h, hc, _⟩
    · exact ⟨_, .base (.tup h), by cases T <;> first | exact kit_ty (r := true) (by decide +kernel) | exact kit_ty (r := false) (by decide +kernel)⟩
    · exact ⟨_, .fTuple h, by cases T <;> first | exact kit_ty (r := true) (by decide +kernel) | exact kit_ty (r := false) (by decide +kernel)⟩
    · exact ⟨_, .kTuple h hc, by cases T <;> first | exact kit_ty (r := true) (by decide +kernel) | exact kit_ty (r := false) (by decide +kernel)⟩
  | lst h _ _ => exact ⟨_, .base (.lst h), by cases T <;> first | exact kit_ty (r := true) (by decide +kernel) | exact kit_ty (r := false) (by decide +kernel)⟩
  | cell h => exact absurd p (by unfold dcell plainD; simp)
  | scr h _ => exact absurd p (by unfold dscr plainD; simp)
  | fn h => exact absurd p (by unfold dfn plainD; simp)
  | dic h _ _ => exact absurd p (by unfold plainD; simp)
theorem e_isi (T : Ty4) {x : Str} {a : Expr} {fa : DE} {p p2 pos : Pos} (hK : F.m.K = X.K) (hg : Gl X "isinstance") (hm : X.mg "isinstance" = none) (hgT : Gl X x) (hmT : X.mg x = none) (hx : bootBuiltins x = some (.type T.nm)) (ha : EO F X a fa)
    (hn : x ≠ "__name__" := by decide) (hdb : (x == ("__debug__" : Str)) = false := by decide)
    (he : starEach [a, .Name x p2] X.env = (false, eval a X.env) :: starEach [.Name x p2] X.env := by rfl) (he2 : starEach [.Name x p2] X.env = (false, eval (.Name x p2) X.env) :: starEach [] X.env := by rfl) (hpl : (backTo pos (starEach [.Name x p2] X.env)).any (·.1) = false := by rfl) :
    EO F X (.Call (.Name "isinstance" p) [a, .Name x p2] [] pos) (eIsi T fa) := by
  obtain ⟨ta, pa, sa⟩ := ha
  refine ⟨_, pe_callB call_isi hg hm (by decide +kernel) (pa_cons pa (pa_cons (pe_bltn (v := .ty T.nm) hgT hmT hx rfl hn hdb) pa_nil he2) he) (by decide) (by decide) he hpl, fun σ H O s Q I k => ?_⟩
  refine sa.bind I k fun d s1 v H1 O1 st I1 r kz => ?_
  split at kz
  · rename_i hp
    obtain ⟨t, h1, h2⟩ := r.ty (T := T) hp
    exact ⟨v, .ty T.nm, t, .type T.nm, isiD T d, rfl, .ty _, hK ▸ h1, hK ▸ h2, kz _ H1 O1 st I1 (.bl _)⟩
  · exact kz.elim

/-! ### calls of defs -/
def KF (m : Pm) (δ : Option Addr) (H : Hp) (O : Addr → Prop) (Q : VK) (E : XK) : RF → Prop
  | .ok x c' => ∀ v H' O', StF δ H O H' O' → Wd m δ H' O' c' → SlXK m.K δ H H' O' v x → Q v H'
  | .er e c' => ∀ cls dd H' O', StF δ H O H' O' → Wd m δ H' O' c' → ErR m e cls dd H' → E cls dd H'
  | .stuck => False
/-- THE promise of a def: it hands back what G says -/
def spD (m : Pm) (n : Nat) (G : Fn) : Sp := fun vs H Q E => ∃ δ O c ds, ds.length = n ∧ Wd m δ H O c ∧ RepDs m.K H O δ vs ds ∧ KF m δ H O Q E (G ds c)
theorem spD_len {m : Pm} {n : Nat} {G : Fn} {vs : List V} {H : Hp} {Q : VK} {E : XK} (h : spD m n G vs H Q E) : vs.length = n := by
  obtain ⟨δ, O, c, ds, hl, _, r, _⟩ := h
  rw [r.length, hl]
def callR (G : Fn) (ds : List D) (s : S) : RE := match G ds s.c with
  | .ok x c => .ok x { s with c := c }
  | .er e c => .er e c
  | .stuck => .stuck
def eCall (G : Fn) (as : DA) : DE := fun s => (as s).bind fun ds s1 => callR G ds s1
theorem spD_of {n : Nat} {G : Fn} {vs : List V} {ds : List D} (I : Est F σ H O s) (r : RepDs F.m.K H O F.δ vs ds) (hl : ds.length = n) (k : KE F σ H O s Q (callR G ds s)) : spD F.m n G vs H Q F.E := by
  refine ⟨F.δ, O, s.c, ds, hl, I.wd, r, ?_⟩
  unfold callR at k
  cases q : G ds s.c with
  | stuck => rw [q] at k; exact k
  | er e c => rw [q] at k; exact fun cls dd H' O' st w er => k cls dd H' O' (I.base.trans st) w er
  | ok x c => rw [q] at k; exact fun v H' O' st w sx => k v H' O' st.toE (I.call st w) sx
section
variable {n k : Nat} {fa : Addr} {fd : FuncData} {ps : List Str} {G : Fn} {x : Str} {p pos : Pos} {e : Expr} {es : List Expr} {as : DA}
theorem e_call (hP : FnOk X.prog X.w X.K X.mg X.base (L2.CX X.prog X.w) k fa fd ps (spD F.m n G)) (hr : Room k X.A) (hg : Gl X x) (hm : X.mg x = some (.ref fa)) (hk : PySem.W.keepIn X.K (.ref fa) = true) (hb : Binds X.K fd ps []) (hx : Passes (L2.CX X.prog X.w) X F.E)
    (ha : AO F X (e :: es) as) (hn : (e :: es).length = n := by rfl) (hdb : (x == ("__debug__" : Str)) = false := by decide)
    (he : starEach (e :: es) X.env = (false, eval e X.env) :: starEach es X.env := by rfl) (hpl : (backTo pos (starEach es X.env)).any (·.1) = false := by rfl) :
    EO F X (.Call (.Name x p) (e :: es) [] pos) (eCall G as) := by
  obtain ⟨ta, pa, sa, la⟩ := ha
  refine ⟨_, pe_call hP hr hg hm hk hb .nil hx pa hdb he hpl, fun σ H O s Q I k => ?_⟩
  refine sa.bind I k fun ds s1 vs H1 O1 q st I1 r kz => ?_
  rw [List.append_nil]
  exact spD_of I1 r ((la _ _ _ q).trans hn) kz
end
end
end DL

set_option Elab.async false
set_option linter.all false
set_option maxRecDepth 100000
set_option maxHeartbeats 4000000
/-! DLg: statements. -/
namespace DL
open PySem PySem.Spec L2
open PyProof.Rows hiding St

/-- a statement's step: what may no longer change is as it was -/
structure StS (H : Hp) (O : Addr → Prop) (H' : Hp) (O' : Addr → Prop) : Prop where
  keep : ∀ a o, ¬ O a → ¬ isTbl o → H a = some o → H' a = some o
  there : ∀ a, H a ≠ none → H' a ≠ none
  fresh : ∀ a, O' a → O a ∨ H a = none
section
variable {F : Fx} {X : Cx} {H H' H1 H2 : Hp} {O O' O1 O2 : Addr → Prop} {σ σ' : St} {s s' s1 s2 : S} {Q : VK} {QT : Bool → Hp → Prop} {t : TE} {f g : DE} {v : V} {d : D} {K : PySem.W.Frag} {δ : Option Addr} {m : Pm} {c : List Int} {e e' : List Sl} {vs : List V} {ds : List D}
theorem StS.refl : StS H O H O := ⟨fun _ _ _ _ h => h, fun _ h => h, fun _ h => .inl h⟩
theorem StS.trans (a : StS H O H1 O1) (b : StS H1 O1 H2 O2) : StS H O H2 O2 :=
  ⟨fun x o n t h => b.keep x o (fun z => (a.fresh x z).elim n (fun q => by rw [h] at q; cases q)) t (a.keep x o n t h), fun x h => b.there x (a.there x h), fun x h => (b.fresh x h).elim (a.fresh x) (fun n => .inr (by
      cases q : H x with
      | none => rfl
      | some o => exact absurd n (a.there x (by rw [q]; simp))))⟩
theorem StE.stS (a : StE δ σ H O e H1 O1 e') (w : Wd m δ H O c) : StS H O H1 O1 := ⟨fun x o n t h => a.keep x o (fun z => n (w.cel x z).1) t h, a.there, a.fresh⟩
theorem StF.stS (a : StF δ H O H1 O1) (w : Wd m δ H O c) : StS H O H1 O1 := ⟨fun x o n t h => a.keep x o (fun z => n (w.cel x z).1) t h, a.there, a.fresh⟩
theorem StS.nO {a : Addr} (s : StS H O H' O') (h : H a ≠ none) (n : ¬ O a) : ¬ O' a := fun z => (s.fresh a z).elim n h
theorem rd_stS {u : HO} {a : Addr} (s : StS H O H' O') (n : ¬ O a) (t : ¬ isTbl u) (r : Rd H a u) : Rd H' a u := by
  rcases r with r | ⟨o, r⟩
  · exact .inl (s.keep a u n t r)
  · exact .inr ⟨o, s.keep a _ n nt_frz r⟩
theorem StS.sqT {a : Addr} {xs : List V} (s : StS H O H' O') (w : Wd m δ H O c) (h : SqT K H a xs) : SqT K H' a xs := by
  rcases h with h | h
  · refine .inl (rd_stS s (fun z => ?_) nt_tup h)
    obtain ⟨_, q⟩ := w.src a z
    rcases h with h | ⟨o, h⟩ <;> rw [q] at h <;> cases h
  · exact .inr h
mutual
theorem RepD.stS (s : StS H O H' O') (w : Wd m δ H O c) : ∀ {v : V} {d : D}, RepD K H O δ v d → RepD K H' O' δ v d
  | _, _, .non => .non
  | _, _, .bl b => .bl b
  | _, _, .int i => .int i
  | _, _, .str x => .str x
  | _, _, .tup h r => .tup (s.sqT w h) (RepDs.stS s w r)
  | _, _, .lst h n r => .lst (s.keep _ _ n nt_lst h) (s.nO (by rw [h]; simp) n) (RepDs.stS s w r)
  | _, _, .cell h => .cell h
  | _, _, .fn h => .fn h
  | _, _, .scr (.inl ⟨h, n⟩) r => .scr (.inl ⟨rd_stS s n nt_lst h, s.nO (rd_some h) n⟩) (RepDs.stS s w r)
  | _, _, .scr (.inr h) r => .scr (.inr h) (RepDs.stS s w r)
  | _, _, .dic h n r => .dic (s.keep _ _ n nt_dK h) (s.nO (by rw [h]; simp) n) (RepDs.stS s w r)
theorem RepDs.stS (s : StS H O H' O') (w : Wd m δ H O c) : ∀ {vs : List V} {ds : List D}, RepDs K H O δ vs ds → RepDs K H' O' δ vs ds
  | _, _, .nil => .nil
  | _, _, .cons h r => .cons (RepD.stS s w h) (RepDs.stS s w r)
end

def KS (F : Fx) (H : Hp) (O : Addr → Prop) (Q : Ends) : RS → Prop
  | .nx s => ∀ σ' H' O', StS H O H' O' → Est F σ' H' O' s → Q.nx σ' H'
  | .bk s => ∀ σ' H' O', StS H O H' O' → Est F σ' H' O' s → Q.bk σ' H'
  | .ct s => ∀ σ' H' O', StS H O H' O' → Est F σ' H' O' s → Q.ct σ' H'
  | .rt x c => ∀ v H' O', StF F.δ F.H0 F.O0 H' O' → Wd F.m F.δ H' O' c → SlXK F.m.K F.δ F.H0 H' O' v x → Q.rt v H'
  | .er e c => KEr F e c
  | .stuck => False
def SS (F : Fx) (t : TS) (g : DS) : Prop := ∀ Q σ H O s, Est F σ H O s → KS F H O Q (g s) → t Q σ H
def SO (F : Fx) (X : Cx) (st : Stmt) (g : DS) : Prop := ∃ t, PS X st t ∧ SS F t g
def BO (F : Fx) (X : Cx) (sts : List Stmt) (g : DS) : Prop := ∃ t, PSs X sts t ∧ SS F t g
variable {Qe : Ends}
theorem KS.trans {r : RS} (st : StS H O H1 O1) (k : KS F H O Qe r) : KS F H1 O1 Qe r := by
  cases r with
  | nx s => exact fun σ' H' O' st' I => k σ' H' O' (st.trans st') I
  | bk s => exact fun σ' H' O' st' I => k σ' H' O' (st.trans st') I
  | ct s => exact fun σ' H' O' st' I => k σ' H' O' (st.trans st') I
  | rt x c => exact k
  | er e c => exact k
  | stuck => exact k

/-! ### blocks -/
def RS.seq (r : RS) (k : S → RS) : RS := match r with
  | .nx s => k s
  | r => r
def dNil : DS := fun s => .nx s
def dSeq (a b : DS) : DS := fun s => (a s).seq b
theorem KS.seq {r : RS} {k : S → RS} {u : TS} (h : KS F H O Qe (r.seq k)) (hu : ∀ σ' H' O' s', StS H O H' O' → Est F σ' H' O' s' → KS F H' O' Qe (k s') → u Qe σ' H') : KS F H O { Qe with nx := u Qe } r := by
  cases r with
  | nx s => exact fun σ' H' O' st I => hu σ' H' O' s st I (h.trans st)
  | bk s => exact h
  | ct s => exact h
  | rt x c => exact h
  | er e c => exact h
  | stuck => exact h
theorem b_nil : BO F X [] dNil := ⟨_, pss_nil, fun Q σ H O s I k => k σ H O .refl I⟩
theorem b_one {st : Stmt} {g : DS} (h : SO F X st g) : BO F X [st] g := let ⟨_, p, s⟩ := h; ⟨_, pss_one p, s⟩
theorem b_cons {st : Stmt} {rest : List Stmt} {g r : DS} (h : SO F X st g) (hr : BO F X rest r) : BO F X (st :: rest) (dSeq g r) :=
  let ⟨_, p, sg⟩ := h
  let ⟨_, q, sr⟩ := hr
  ⟨_, pss_cons p q, fun Q σ H O s I k => sg _ σ H O s I (KS.seq k fun σ' H' O' s' st I' k' => sr Q σ' H' O' s' I' k')⟩
theorem s_pass {pos : Pos} : SO F X (.Pass pos) dNil := ⟨_, ps_pass, fun Q σ H O s I k => k σ H O .refl I⟩
def dBreak : DS := fun s => .bk s
theorem s_break {pos : Pos} : SO F X (.Break pos) dBreak := ⟨_, ps_break, fun Q σ H O s I k => k σ H O .refl I⟩
def dCont : DS := fun s => .ct s
theorem s_cont {pos : Pos} : SO F X (.Continue pos) dCont := ⟨_, ps_continue, fun Q σ H O s I k => k σ H O .refl I⟩
theorem s_doc {x : Str} {j : Nat} {pos pos' : Pos} : SO F X (.Expr (.Constant (.str x) j pos) pos') dNil := ⟨_, ps_doc, fun Q σ H O s I k => k σ H O .refl I⟩

/-! ### an expression's outcome within a statement -/
def RE.st (r : RE) (k : Sl → S → RS) : RS := match r with
  | .ok x s => k x s
  | .er e c => .er e c
  | .stuck => .stuck
/-- an expression, its result with what may change -/
theorem SE.stX {a : DE} {ta : TE} {k : Sl → S → RS} {R : VK} (ha : SE F ta a) (I : Est F σ H O s) (h : KS F H O Qe ((a s).st k))
    (hk : ∀ x s1 v H1 O1, StE F.δ σ H O s.e H1 O1 s1.e → Est F σ H1 O1 s1 → SlX F H H1 O1 v x → KS F H1 O1 Qe (k x s1) → R v H1) : ta σ H R := by
  refine ha σ H O s R I ?_
  cases q : a s with
  | stuck => rw [q] at h; exact h
  | er e c => rw [q] at h; exact h
  | ok x s1 => rw [q] at h; exact fun v H1 O1 st I1 r => hk x s1 v H1 O1 st I1 r (KS.trans (st.stS I.wd) h)
/-- .. its data alone -/
theorem SE.stD {a : DE} {ta : TE} {k : Sl → S → RS} {R : VK} (ha : SE F ta a) (I : Est F σ H O s) (h : KS F H O Qe ((a s).st k))
    (hk : ∀ x s1 v H1 O1, StE F.δ σ H O s.e H1 O1 s1.e → Est F σ H1 O1 s1 → RepD F.m.K H1 O1 F.δ v x.d → KS F H1 O1 Qe (k x s1) → R v H1) : ta σ H R := by
  refine ha.use I ?_
  cases q : a s with
  | stuck => rw [q] at h; exact h
  | er e c => rw [q] at h; exact h
  | ok x s1 => rw [q] at h; exact fun v H1 O1 st I1 r => hk x s1 v H1 O1 st I1 r (KS.trans (st.stS I.wd) h)
def RE.stT (r : RE) (k : Bool → S → RS) : RS := match r with
  | .ok (.val (.bool b)) s => k b s
  | .ok _ _ => .stuck
  | .er e c => .er e c
  | .stuck => .stuck
theorem ST.stT {a : DE} {ta : TT} {k : Bool → S → RS} {R : Bool → Hp → Prop} (ha : ST F ta a) (I : Est F σ H O s) (h : KS F H O Qe ((a s).stT k))
    (hk : ∀ b s1 H1 O1, StE F.δ σ H O s.e H1 O1 s1.e → Est F σ H1 O1 s1 → KS F H1 O1 Qe (k b s1) → R b H1) : ta σ H R := by
  refine ha σ H O s R I ?_
  cases q : a s with
  | stuck => rw [q] at h; exact h
  | er e c => rw [q] at h; exact h
  | ok x s1 =>
    rw [q] at h
    unfold RE.stT at h
    split at h
    · rename_i b s' e
      cases e
      exact fun H1 O1 st I1 => hk b s1 H1 O1 st I1 (KS.trans (st.stS I.wd) h)
    · exact h.elim
    · cases ‹RE.ok x s1 = _›
    · cases ‹RE.ok x s1 = _›
def dIf (c : DE) (a b : DS) : DS := fun s => (c s).stT fun k s1 => if k = true then a s1 else b s1
theorem s_if {c : Expr} {a b : List Stmt} {fc : DE} {ga gb : DS} {pos : Pos} (hc : TO F X c fc) (ha : BO F X a ga) (hb : BO F X b gb) : SO F X (.If c a b pos) (dIf fc ga gb) :=
  let ⟨_, pc, sc⟩ := hc
  let ⟨_, pa, sa⟩ := ha
  let ⟨_, pb, sb⟩ := hb
  ⟨_, ps_if pc pa pb, fun Q σ H O s I k => sc.stT I k fun b s1 H1 O1 st I1 k => by
    cases b with
    | true => exact sa Q σ H1 O1 s1 I1 k
    | false => exact sb Q σ H1 O1 s1 I1 k⟩
def dRet (a : DE) : DS := fun s => (a s).st fun x s1 => .rt x s1.c
theorem h0_none {F : Fx} {a : Addr} (I : Est F σ H O s) (h : H a = none) : F.H0 a = none := by
  cases q0 : F.H0 a with
  | none => rfl
  | some o => exact absurd h (I.base.there a (by rw [q0]; simp))
theorem SlX.base {x : Sl} (I : Est F σ H O s) (h : SlX F H H1 O1 v x) : SlXK F.m.K F.δ F.H0 H1 O1 v x := by
  cases x with
  | un => exact h
  | val d => exact h
  | own xs =>
    obtain ⟨a, vs, h1, h2, h3, h4, h5, h6⟩ := h
    exact ⟨a, vs, h1, h2, h3, h4, h5, h0_none I h6⟩
theorem s_ret {a : Expr} {fa : DE} {pos : Pos} (ha : EO F X a fa) : SO F X (.Return (some a) pos) (dRet fa) :=
  let ⟨_, p, sa⟩ := ha
  ⟨_, ps_ret p, fun Q σ H O s I k => sa.stX I k fun x s1 v H1 O1 st I1 r k => k v H1 O1 I1.base I1.wd (SlX.base I r)⟩
def dRetN : DS := fun s => .rt (.val .none) s.c
theorem s_retN {pos : Pos} : SO F X (.Return none pos) dRetN := ⟨_, ps_retN, fun Q σ H O s I k => k .non H O I.base I.wd .non⟩
/-- return x, x a name: its list is handed out as it is -/
def dRetV (i : Nat) : DS := fun s => match s.e[i]? with
  | some (.val d) => .rt (.val d) s.c
  | some (.own xs) => .rt (.own xs) s.c
  | _ => .stuck
theorem s_retV (i : Nat) {x : Str} {px pos : Pos} (hN : X.N[i]? = some x := by rfl) (hv : Vis X.env.scope x := by first | exact Or.inl rfl | exact Or.inr (Or.inl rfl) | exact Or.inr (Or.inr rfl)) (hd : (x == ("__debug__" : Str)) = false := by decide)
    (hcd : (x == ("__classdict__" : Str)) = false := by decide) : SO F X (.Return (some (.Name x px)) pos) (dRetV i) := by
  refine ⟨_, ps_ret (pe_var hN hv hd hcd), fun Q σ H O s I k => ?_⟩
  unfold dRetV at k
  split at k
  · rename_i d h
    obtain ⟨v, h1, h2⟩ := I.env.vals i d h
    exact ⟨v, h1, k v H O I.base I.wd h2⟩
  · rename_i xs h
    obtain ⟨a, vs, h1, h2, h3, h4, h5, h6⟩ := I.env.owns i xs h
    exact ⟨_, h1, k _ H O I.base I.wd ⟨a, vs, rfl, h2, h3, h4, h5, h6⟩⟩
  · exact k.elim
def dExpr (a : DE) : DS := fun s => (a s).st fun _ s1 => .nx s1
theorem s_expr {a : Expr} {fa : DE} {pos : Pos} (ha : EO F X a fa) (hs : swapsWith a none pos.line X.env = pure false := by rfl) : SO F X (.Expr a pos) (dExpr fa) :=
  let ⟨_, p, sa⟩ := ha
  ⟨_, ps_expr p hs, fun Q σ H O s I k => sa.stD I k fun x s1 v H1 O1 st I1 r k => k σ H1 O1 .refl I1⟩

/-! ### stores -/
/-- a value that may be put into slot i -/
theorem Est.set (I : Est F σ H O s) {x : Sl} (i : Nat) (hx : SlXK F.m.K F.δ F.H0 H O v x) (hm : ∀ a xs, x = .own xs → v = .ref a → ¬ Mine σ s.e a) : Est F (σ.set i (some v)) H O { s with e := s.e.set i x } := by
  refine ⟨I.wd, ⟨?_, fun j d q => ?_, fun j ys q => ?_, fun j k b ys zs hjk q1 q2 r1 r2 => ?_⟩, I.base⟩
  · show (σ.set i (some v)).length = (s.e.set i x).length
    rw [List.length_set, List.length_set]; exact I.env.len
  · have q : (s.e.set i x)[j]? = some (.val d) := q
    by_cases hj : j = i
    · subst hj
      obtain ⟨e, hl⟩ := sl_eq q
      subst e
      exact ⟨v, by rw [List.getElem?_set_self (by rw [I.env.len]; exact hl)], hx⟩
    · rw [sl_ne hj] at q
      obtain ⟨w, r1, r2⟩ := I.env.vals j d q
      exact ⟨w, by rw [sl_ne hj]; exact r1, r2⟩
  · have q : (s.e.set i x)[j]? = some (.own ys) := q
    by_cases hj : j = i
    · subst hj
      obtain ⟨e, hl⟩ := sl_eq q
      subst e
      obtain ⟨a, vs, h1, h2, h3, h4, h5, h6⟩ := hx
      exact ⟨a, vs, by rw [List.getElem?_set_self (by rw [I.env.len]; exact hl), h1], h2, h3, h4, h5, h6⟩
    · rw [sl_ne hj] at q
      obtain ⟨b, ws, r1, rr⟩ := I.env.owns j ys q
      exact ⟨b, ws, by rw [sl_ne hj]; exact r1, rr⟩
  · have q1 : (s.e.set i x)[j]? = some (.own ys) := q1
    have q2 : (s.e.set i x)[k]? = some (.own zs) := q2
    by_cases hj : j = i
    · subst hj
      obtain ⟨e, hl⟩ := sl_eq q1
      subst e
      rw [List.getElem?_set_self (by rw [I.env.len]; exact hl)] at r1
      rw [sl_ne (Ne.symm hjk)] at q2 r2
      exact hm b ys rfl (Option.some.inj (Option.some.inj r1)) ⟨k, zs, q2, r2⟩
    · by_cases hk : k = i
      · subst hk
        obtain ⟨e, hl⟩ := sl_eq q2
        subst e
        rw [List.getElem?_set_self (by rw [I.env.len]; exact hl)] at r2
        rw [sl_ne hjk] at q1 r1
        exact hm b zs rfl (Option.some.inj (Option.some.inj r2)) ⟨j, ys, q1, r1⟩
      · rw [sl_ne hj] at q1 r1
        rw [sl_ne hk] at q2 r2
        exact I.env.uniq j k b ys zs hjk q1 q2 r1 r2
theorem Est.setD (I : Est F σ H O s) (i : Nat) (r : RepD F.m.K H O F.δ v d) : Est F (σ.set i (some v)) H O { s with e := s.e.set i (.val d) } :=
  I.set (x := .val d) i r fun a xs h => by cases h
/-- the result of an expression into slot i -/
theorem Est.setX (I0 : Est F σ H O s) (st : StE F.δ σ H O s.e H1 O1 s1.e) (I : Est F σ H1 O1 s1) {x : Sl} (i : Nat) (hx : SlX F H H1 O1 v x) : Est F (σ.set i (some v)) H1 O1 { s1 with e := s1.e.set i x } := by
  refine I.set i (SlX.base I0 hx) fun a xs e ev hm => ?_
  subst e
  obtain ⟨b, vs, h1, h2, h3, h4, h5, h6⟩ := hx
  rw [h1] at ev
  cases ev
  exact I0.env.mine (st.mine _ hm) h6
def dSet (i : Nat) (a : DE) : DS := fun s => (a s).st fun x s1 => .nx { s1 with e := s1.e.set i x }
theorem s_set (i : Nat) {x : Str} {a : Expr} {fa : DE} {pos' pos : Pos} (hnd : X.N.Nodup) (ha : EO F X a fa) (hi : X.N[i]? = some x := by rfl) (hx : Loc X.env.scope x := by first | exact Or.inl rfl | exact Or.inr rfl)
    (hs : swapsWith a (some (.Name x pos')) pos.line X.env = pure false := by rfl) (hf : X.fn x = true ∨ X.env.scope.names.lookup x = some .local := by first | exact .inl rfl | exact .inr rfl | assumption) : SO F X (.Assign [.Name x pos'] a pos) (dSet i fa) :=
  let ⟨_, p, sa⟩ := ha
  ⟨_, ps_set hnd hi hx p hs hf, fun Q σ H O s I k => sa.stX I k fun y s1 v H1 O1 st I1 r k => k _ H1 O1 .refl (I.setX st I1 i r)⟩
def dAug (gop : D → D → Option Sl) (i : Nat) (a : DE) : DS := fun s => match s.e[i]? with
  | some (.val x) => (a s).st fun y s1 => match gop x y.d with
    | some (.val z) => .nx { s1 with e := s1.e.set i (.val z) }
    | _ => .stuck
  | _ => .stuck
def augD : D → D → Option Sl
  | .int i, .int j => some (.val (.int (i + j)))
  | .str a, .str b => if a.length + b.length ≤ sizeLine then some (.val (.str (a ++ b))) else none
  | _, _ => none
theorem ip_of {op : Operator} {r : R2} (h : OpR X (inplaceOp op) r) : PIp X op r := fun pins s σ H x y v u Q I r1 r2 hq => h pins s σ H x y v u Q I r1 r2 hq
theorem s_augD : OpS F (fun x y H Q => rI0 (fun i j => .int (i + j)) x y H Q ∨ (∃ i j, x = .str i ∧ y = .str j ∧ i.length + j.length ≤ sizeLine ∧ Q (.str (i ++ j)) H)) augD := by
  intro H O c x y dx dy z Q w rx ry hg hq
  unfold augD at hg
  split at hg
  · cases hg
    exact .inl ⟨_, _, rx.int_inv, ry.int_inv, hq _ H .refl (.int _)⟩
  · split at hg
    · cases hg
      exact .inr ⟨_, _, rx.str_inv, ry.str_inv, by assumption, hq _ H .refl (.str _)⟩
    · cases hg
  · cases hg
theorem s_aug {op : Operator} {r : R2} {gop : D → D → Option Sl} (i : Nat) {x : Str} {a : Expr} {fa : DE} {pos' pos : Pos} (hnd : X.N.Nodup) (ho : PIp X op r) (hop : OpS F r gop) (ha : EO F X a fa) (hi : X.N[i]? = some x := by rfl) (hx : Loc X.env.scope x := by first | exact Or.inl rfl | exact Or.inr rfl)
    (hf : X.fn x = true ∨ X.env.scope.names.lookup x = some .local := by first | exact .inl rfl | exact .inr rfl | assumption) : SO F X (.AugAssign (.Name x pos') op a pos) (dAug gop i fa) := by
  obtain ⟨t, p, sa⟩ := ha
  refine ⟨_, ps_aug hnd hi hx p ho hf, fun Q σ H O s I k => ?_⟩
  unfold dAug at k
  split at k
  · rename_i d h
    obtain ⟨v, h1, h2⟩ := I.env.vals i d h
    refine ⟨v, h1, sa.stD I k fun y s1 w H1 O1 st I1 r1 k => ?_⟩
    split at k
    · rename_i z e
      exact hop H1 O1 s1.c v w d y.d (.val z) _ I1.wd (h2.step st.stp I.wd) r1 e fun u H2 ex r2 => k _ H2 O1 (ex.stF.stS I1.wd) ((I1.ext ex).setD i r2)
    · exact k.elim
  · exact k.elim
theorem s_augAdd (i : Nat) {x : Str} {a : Expr} {fa : DE} {pos' pos : Pos} (hnd : X.N.Nodup) (ha : EO F X a fa) (hi : X.N[i]? = some x := by rfl) (hx : Loc X.env.scope x := by first | exact Or.inl rfl | exact Or.inr rfl)
    (hf : X.fn x = true ∨ X.env.scope.names.lookup x = some .local := by first | exact .inl rfl | exact .inr rfl | assumption) : SO F X (.AugAssign (.Name x pos') .Add a pos) (dAug augD i fa) := s_aug i hnd (ip_of (iop_add.or iop_add_str)) s_augD ha hi hx hf
theorem s_augSub (i : Nat) {x : Str} {a : Expr} {fa : DE} {pos' pos : Pos} (hnd : X.N.Nodup) (ha : EO F X a fa) (hi : X.N[i]? = some x := by rfl) (hx : Loc X.env.scope x := by first | exact Or.inl rfl | exact Or.inr rfl)
    (hf : X.fn x = true ∨ X.env.scope.names.lookup x = some .local := by first | exact .inl rfl | exact .inr rfl | assumption) : SO F X (.AugAssign (.Name x pos') .Sub a pos) (dAug subD i fa) := s_aug i hnd (ip_of iop_sub) (s_rI0 fun _ _ _ _ => .int _) ha hi hx hf
end
end DL

set_option Elab.async false
set_option linter.all false
set_option maxRecDepth 100000
set_option maxHeartbeats 4000000
/-! DLh: lists changed, several targets, loops. -/
namespace DL
open PySem PySem.Spec L2
open PyProof.Rows hiding St

section
variable {F : Fx} {X : Cx} {H H' H1 H2 : Hp} {O O' O1 O2 : Addr → Prop} {σ σ' : St} {s s' s1 s2 : S} {Q : VK} {QT : Bool → Hp → Prop} {t : TE} {f g : DE} {v : V} {d : D} {K : PySem.W.Frag} {δ : Option Addr} {m : Pm} {c : List Int} {e e' : List Sl} {vs : List V} {ds : List D} {Qe : Ends}

/-! ### a list that may change is changed -/
theorem StS.upd {a : Addr} {o : HO} (w : Wd m δ H O c) (ha : O a) : StS H O (upd H a o) O :=
  ⟨fun b u n _ q => by rw [upd_ne (fun z => n (by rw [z]; exact ha))]; exact q, fun b h => by
    by_cases hb : b = a
    · subst hb; rw [upd_same]; simp
    · rw [upd_ne hb]; exact h, fun b z => .inl z⟩
theorem TabP.upd {p : Addr × Option Str} {a : Addr} {xs ys : List V} (t : TabP H p) (h : H a = some (.lst xs)) : TabP (upd H a (.lst ys)) p := by
  have ne : ∀ {b : Addr} {o : HO}, H b = some o → (∀ zs, o ≠ .lst zs) → b ≠ a := fun {b o} q n z => by
    rw [z, h] at q
    exact n xs (Option.some.inj q).symm
  unfold TabP at t ⊢
  split
  · rename_i e
    rw [e] at t
    obtain ⟨ps, h1, q⟩ := t
    exact ⟨ps, by rw [upd_ne (ne h1 (fun _ z => nomatch z))]; exact h1, q⟩
  · rename_i q e
    rw [e] at t
    obtain ⟨ps, h1, h2, h3⟩ := t
    refine ⟨ps, by rw [upd_ne (ne h1 (fun _ z => nomatch z))]; exact h1, h2, fun pos cv hc => ?_⟩
    obtain ⟨c', h4, h5⟩ := h3 pos cv hc
    refine ⟨c', h4, ?_⟩
    rw [upd_ne (ne h5 (fun zs z => ?_))]
    · exact h5
    · unfold LamX.CodeO at z
      cases z
/-- the own list of slot i becomes ws -/
theorem Est.mut (I : Est F σ H O s) {i : Nat} {xs ys : List D} {a : Addr} {ws : List V} (h : s.e[i]? = some (.own xs)) (ha : σ[i]? = some (some (.ref a))) (r : RepDs F.m.K H O F.δ ws ys) :
    Est F σ (upd H a (.lst ws)) O { s with e := s.e.set i (.own ys) } ∧ StS H O (upd H a (.lst ws)) O := by
  obtain ⟨b, vs, h1, h2, h3, h4, h5, h6⟩ := I.env.owns i xs h
  rw [ha] at h1
  cases h1
  have st : StS H O (upd H a (.lst ws)) O := StS.upd I.wd h2
  refine ⟨⟨⟨fun b z => ?_, fun b z => ⟨(I.wd.cel b z).1, ?_⟩, fun p hp => (I.wd.tab p hp).upd h4⟩, ⟨?_, fun j d q => ?_, fun j zs q => ?_, fun j k b zs us hjk q1 q2 r1 r2 => ?_⟩, ⟨fun b o n t q => ?_, fun b q => st.there b (I.base.there b q), I.base.fresh, I.base.stay⟩⟩, st⟩
  · by_cases hb : b = a
    · subst hb; exact ⟨ws, upd_same⟩
    · rw [upd_ne hb]; exact I.wd.src b z
  · rw [upd_ne (fun q => h3 (by rw [← q]; exact z))]
    exact (I.wd.cel b z).2
  · show σ.length = (s.e.set i (.own ys)).length
    rw [List.length_set]; exact I.env.len
  · have q : (s.e.set i (.own ys))[j]? = some (.val d) := q
    by_cases hj : j = i
    · subst hj; cases (sl_eq q).1
    · rw [sl_ne hj] at q
      obtain ⟨v, r1, r2⟩ := I.env.vals j d q
      exact ⟨v, r1, r2.stS st I.wd⟩
  · have q : (s.e.set i (.own ys))[j]? = some (.own zs) := q
    by_cases hj : j = i
    · subst hj
      cases (sl_eq q).1
      exact ⟨a, ws, ha, h2, h3, upd_same, r.stS st I.wd, h6⟩
    · rw [sl_ne hj] at q
      obtain ⟨b, us, r1, r2, r3, r4, r5, r6⟩ := I.env.owns j zs q
      exact ⟨b, us, r1, r2, r3, by rw [upd_ne (fun z => I.env.uniq j i a zs xs hj q h (by rw [← z]; exact r1) ha)]; exact r4, r5.stS st I.wd, r6⟩
  · have q1 : (s.e.set i (.own ys))[j]? = some (.own zs) := q1
    have q2 : (s.e.set i (.own ys))[k]? = some (.own us) := q2
    have old : ∀ {j : Nat} {zs : List D}, (s.e.set i (.own ys))[j]? = some (.own zs) → ∃ zs', s.e[j]? = some (.own zs') := fun {j zs} q => by
      by_cases hj : j = i
      · subst hj; exact ⟨xs, h⟩
      · rw [sl_ne hj] at q; exact ⟨zs, q⟩
    obtain ⟨zs', q1'⟩ := old q1
    obtain ⟨us', q2'⟩ := old q2
    exact I.env.uniq j k b zs' us' hjk q1' q2' r1 r2
  · rw [upd_ne (fun z => by rw [z, h6] at q; cases q)]
    exact I.base.keep b o n t q
/-- the cell's ints become c' -/
theorem Est.mutC (I : Est F σ H O s) {a : Addr} (ha : F.δ = some a) (c' : List Int) : Est F σ (upd H a (.lst (c'.map V.int))) O { s with c := c' } ∧ StS H O (upd H a (.lst (c'.map V.int))) O := by
  obtain ⟨h2, h4⟩ := I.wd.cel a ha
  have st : StS H O (upd H a (.lst (c'.map V.int))) O := StS.upd I.wd h2
  refine ⟨⟨⟨fun b z => ?_, fun b z => ⟨(I.wd.cel b z).1, ?_⟩, fun p hp => (I.wd.tab p hp).upd h4⟩, ⟨I.env.len, fun j d q => ?_, fun j zs q => ?_, I.env.uniq⟩, ⟨fun b o n t q => ?_, fun b q => st.there b (I.base.there b q), I.base.fresh, I.base.stay⟩⟩, st⟩
  · by_cases hb : b = a
    · subst hb; exact ⟨_, upd_same⟩
    · rw [upd_ne hb]; exact I.wd.src b z
  · have z : F.δ = some b := z
    rw [ha] at z
    cases z
    exact upd_same
  · obtain ⟨v, r1, r2⟩ := I.env.vals j d q
    exact ⟨v, r1, r2.stS st I.wd⟩
  · obtain ⟨b, us, r1, r2, r3, r4, r5, r6⟩ := I.env.owns j zs q
    exact ⟨b, us, r1, r2, r3, by rw [upd_ne (fun z => r3 (by rw [z]; exact ha))]; exact r4, r5.stS st I.wd, r6⟩
  · rw [upd_ne (fun z => n (by rw [z]; exact ha))]
    exact I.base.keep b o n t q
def dApp (i : Nat) (a : DE) : DS := fun s => match s.e[i]? with
  | some (.own _) => (a s).st fun x s1 => match s1.e[i]? with
    | some (.own xs) => if xs.length < sizeLine then .nx { s1 with e := s1.e.set i (.own (xs ++ [x.d])) } else .stuck
    | _ => .stuck
  | _ => .stuck
theorem s_app (i : Nat) {x : Str} {a : Expr} {fa : DE} {px apos cpos pos : Pos} (ha : EO F X a fa) (hN : X.N[i]? = some x := by rfl) (hv : Vis X.env.scope x := by first | exact Or.inl rfl | exact Or.inr (Or.inl rfl) | exact Or.inr (Or.inr rfl))
    (hd : (x == ("__debug__" : Str)) = false := by decide) (hcd : (x == ("__classdict__" : Str)) = false := by decide) (hs : starEach [a] X.env = (false, eval a X.env) :: starEach [] X.env := by rfl)
    (hbase : attributeBase (.Name x px) "append" X.env (eval (.Name x px) X.env) = eval (.Name x px) X.env := by rfl)
    (hfew : ((backTo cpos (starEach [a] X.env)).all (fun x => !x.1) && (backToKw cpos (keywordEach [] X.env)).all (fun x => x.1.isSome)
      && decide ([a].length + ([] : List Keyword).length + (if ([] : List Keyword).isEmpty then 0 else 1) < 30)) = true := by rfl)
    (hline : (apos.endLine == cpos.line) = true := by rfl)
    (hsw : swapsWith (.Call (.Attribute (.Name x px) "append" apos) [a] [] cpos) none pos.line X.env = pure false := by rfl) :
    SO F X (.Expr (.Call (.Attribute (.Name x px) "append" apos) [a] [] cpos) pos) (dApp i fa) := by
  obtain ⟨ta, pa, sa⟩ := ha
  refine ⟨_, ps_expr (pe_bm PySem.F.plainAttrs_list PySem.F.slot_list_append PySem.F.type_list_append mt_append (pe_var hN hv hd hcd) (pa_cons pa pa_nil hs) hbase hfew hline hs rfl) hsw, fun Q σ H O s I k => ?_⟩
  unfold dApp at k
  split at k
  · rename_i xs h
    obtain ⟨p, vs, h1, h2, h3, h4, h5, h6⟩ := I.env.owns i xs h
    refine ⟨.ref p, h1, .inl ⟨rfl, vs, .inl (.inl h4)⟩, sa.stD I k fun y s1 w H1 O1 st I1 r k => ?_⟩
    split at k
    · rename_i ys h'
      split at k
      · rename_i hz
        obtain ⟨p', vs', g1, g2, g3, g4, g5, g6⟩ := I1.env.owns i ys h'
        rw [h1] at g1
        cases g1
        obtain ⟨I2, st2⟩ := I1.mut h' h1 (g5.append (.cons r .nil))
        exact ⟨p, vs', w, rfl, rfl, g4, by rw [g5.length]; exact hz, k _ _ O1 st2 I2⟩
      · exact k.elim
    · exact k.elim
  · exact k.elim
def dExt (i : Nat) (a : DE) : DS := fun s => match s.e[i]? with
  | some (.own _) => (a s).st fun x s1 => match s1.e[i]?, x.d with
    | some (.own xs), .list ys => if xs.length + ys.length ≤ sizeLine then .nx { s1 with e := s1.e.set i (.own (xs ++ ys)) } else .stuck
    | _, _ => .stuck
  | _ => .stuck
theorem s_ext (i : Nat) {x : Str} {a : Expr} {fa : DE} {px apos cpos pos : Pos} (ha : EO F X a fa) (hN : X.N[i]? = some x := by rfl) (hv : Vis X.env.scope x := by first | exact Or.inl rfl | exact Or.inr (Or.inl rfl) | exact Or.inr (Or.inr rfl))
    (hd : (x == ("__debug__" : Str)) = false := by decide) (hcd : (x == ("__classdict__" : Str)) = false := by decide) (hs : starEach [a] X.env = (false, eval a X.env) :: starEach [] X.env := by rfl)
    (hbase : attributeBase (.Name x px) "extend" X.env (eval (.Name x px) X.env) = eval (.Name x px) X.env := by rfl)
    (hfew : ((backTo cpos (starEach [a] X.env)).all (fun x => !x.1) && (backToKw cpos (keywordEach [] X.env)).all (fun x => x.1.isSome)
      && decide ([a].length + ([] : List Keyword).length + (if ([] : List Keyword).isEmpty then 0 else 1) < 30)) = true := by rfl)
    (hline : (apos.endLine == cpos.line) = true := by rfl)
    (hsw : swapsWith (.Call (.Attribute (.Name x px) "extend" apos) [a] [] cpos) none pos.line X.env = pure false := by rfl) :
    SO F X (.Expr (.Call (.Attribute (.Name x px) "extend" apos) [a] [] cpos) pos) (dExt i fa) := by
  obtain ⟨ta, pa, sa⟩ := ha
  refine ⟨_, ps_expr (pe_bm PySem.F.plainAttrs_list PySem.F.slot_list_extend PySem.F.type_list_extend mt_extend (pe_var hN hv hd hcd) (pa_cons pa pa_nil hs) hbase hfew hline hs rfl) hsw, fun Q σ H O s I k => ?_⟩
  unfold dExt at k
  split at k
  · rename_i xs h
    obtain ⟨p, vs, h1, h2, h3, h4, h5, h6⟩ := I.env.owns i xs h
    refine ⟨.ref p, h1, .inl ⟨rfl, vs, .inl (.inl h4)⟩, sa.stD I k fun y s1 w H1 O1 st I1 r k => ?_⟩
    split at k
    · rename_i ys zs h' ey
      split at k
      · rename_i hz
        obtain ⟨p', vs', g1, g2, g3, g4, g5, g6⟩ := I1.env.owns i ys h'
        rw [h1] at g1
        cases g1
        rw [ey] at r
        obtain ⟨b, us, rfl, hb, _, rb⟩ := r.list_inv
        obtain ⟨I2, st2⟩ := I1.mut h' h1 (g5.append rb)
        exact ⟨p, b, vs', us, rfl, rfl, g4, hb, by rw [g5.length, rb.length]; exact hz, k _ _ O1 st2 I2⟩
      · exact k.elim
    · exact k.elim
  · exact k.elim
/-- x[k] = e, x a name: its own list, or the cell -/
def dStore (i : Nat) (ix a : DE) : DS := fun s => (a s).st fun x s1 => match s1.e[i]? with
  | some (.own _) => (ix s1).st fun y s2 => match s2.e[i]?, y.d with
    | some (.own xs), .int n => match ixN xs.length n with
      | some j => .nx { s2 with e := s2.e.set i (.own (xs.set j x.d)) }
      | none => .stuck
    | _, _ => .stuck
  | some (.val (.dict [(.none, .none)])) => (ix s1).st fun y s2 => match y.d, x.d with
    | .int n, .int z => match ixN s2.c.length n with
      | some j => .nx { s2 with c := s2.c.set j z }
      | none => .stuck
    | _, _ => .stuck
  | _ => .stuck
theorem s_store (i : Nat) {x : Str} {ix a : Expr} {fi fa : DE} {px spos pos : Pos} (hi : EO F X ix fi) (ha : EO F X a fa) (hN : X.N[i]? = some x := by rfl) (hv : Vis X.env.scope x := by first | exact Or.inl rfl | exact Or.inr (Or.inl rfl) | exact Or.inr (Or.inr rfl))
    (hd : (x == ("__debug__" : Str)) = false := by decide) (hcd : (x == ("__classdict__" : Str)) = false := by decide)
    (hst : ∀ v, assign (.Subscript (.Name x px) ix spos) X.env v = (do
      let ov ← holding [v] (eval (.Name x px) X.env)
      let iv ← holding [v, ov] (eval ix X.env)
      standAt spos
      holding [v, ov, iv] (setItem ov iv v)
      release [v, ov, iv] []) := by intro _; rfl)
    (hs : swapsWithSole [.Subscript (.Name x px) ix spos] a pos.line X.env = pure false := by rfl) (hw : swappedStores [.Subscript (.Name x px) ix spos] a X.env = pure none := by rfl)
    (h1 : (assignEach [.Subscript (.Name x px) ix spos] X.env).map (·.2) = [assign (.Subscript (.Name x px) ix spos) X.env] := by rfl) :
    SO F X (.Assign [.Subscript (.Name x px) ix spos] a pos) (dStore i fi fa) := by
  obtain ⟨ti, pi, si⟩ := hi
  obtain ⟨ta, pa, sa⟩ := ha
  refine ⟨_, ps_asg pa (pg_sub (pe_var hN hv hd hcd) pi set_list hst) hs hw h1, fun Q σ H O s I k => ?_⟩
  unfold dStore at k
  refine sa.stD I k fun y s1 w H1 O1 st I1 r k => ?_
  split at k
  · rename_i xs h
    obtain ⟨p, vs, g1, g2, g3, g4, g5, g6⟩ := I1.env.owns i xs h
    refine ⟨.ref p, g1, si.stD I1 k fun n s2 u H2 O2 st2 I2 r2 k => ?_⟩
    split at k
    · rename_i ys n' h' en
      split at k
      · rename_i j ej
        obtain ⟨p', vs', f1, f2, f3, f4, f5, f6⟩ := I2.env.owns i ys h'
        rw [g1] at f1
        cases f1
        rw [en] at r2
        obtain ⟨I3, st3⟩ := I2.mut h' g1 (RepDs.set (r.step st2.stp I1.wd) j f5)
        exact ⟨p, vs', n', j, rfl, r2.int_inv, f4, by rw [f5.length]; exact ej, k _ _ O2 st3 I3⟩
      · exact k.elim
    · exact k.elim
  · rename_i h
    obtain ⟨v, g1, g2⟩ := I1.env.vals i _ h
    obtain ⟨p, rfl, ep⟩ := RepD.cell_inv g2
    refine ⟨.ref p, g1, si.stD I1 k fun n s2 u H2 O2 st2 I2 r2 k => ?_⟩
    split at k
    · rename_i n' z en ez
      split at k
      · rename_i j ej
        rw [en] at r2
        rw [ez] at r
        cases r.int_inv
        obtain ⟨I3, st3⟩ := I2.mutC ep (s2.c.set j z)
        refine ⟨p, s2.c.map V.int, n', j, rfl, r2.int_inv, (I2.wd.cel p ep).2, by rw [List.length_map]; exact ej, ?_⟩
        have e : (s2.c.map V.int).set j (.int z) = (s2.c.set j z).map V.int := by rw [List.map_set]
        rw [e]
        exact k _ _ O2 st3 I3
      · exact k.elim
    · exact k.elim
  · exact k.elim

/-! ### several targets -/
def GO (F : Fx) (X : Cx) (tg : Expr) (g : D → S → Option S) : Prop := ∃ t : TG, PG X tg t ∧ ∀ v d σ H O s s' Q, Est F σ H O s → RepD F.m.K H O F.δ v d → g d s = some s' → (∀ σ', Est F σ' H O s' → Q σ' H) → t v σ H Q
def gSet (i : Nat) : D → S → Option S := fun d s => some { s with e := s.e.set i (.val d) }
theorem g_name (i : Nat) {x : Str} {pos : Pos} (hnd : X.N.Nodup) (hi : X.N[i]? = some x := by rfl) (hx : Loc X.env.scope x := by first | exact Or.inl rfl | exact Or.inr rfl)
    (hf : X.fn x = true ∨ X.env.scope.names.lookup x = some .local := by first | exact .inl rfl | exact .inr rfl | assumption) : GO F X (.Name x pos) (gSet i) :=
  ⟨_, pg_name hnd hi hx hf, fun v d σ H O s s' Q I r e k => by cases e; exact k _ (I.setD i r)⟩
def GsO (F : Fx) (X : Cx) (ts : List Expr) (g : List D → S → Option S) : Prop := ∃ t : TGs, PGs X ts t ∧ ∀ vs ds σ H O s s' Q, Est F σ H O s → RepDs F.m.K H O F.δ vs ds → g ds s = some s' → (∀ σ', Est F σ' H O s' → Q σ' H) → t vs σ H Q
def gsNil : List D → S → Option S
  | [], s => some s
  | _, _ => none
def gsCons (g : D → S → Option S) (gs : List D → S → Option S) : List D → S → Option S
  | d :: ds, s => (g d s).bind (gs ds)
  | _, _ => none
theorem gs_nil : GsO F X [] gsNil := ⟨_, pgs_nil, fun vs ds σ H O s s' Q I r e k => by
  unfold gsNil at e
  split at e
  · cases r
    cases e
    exact ⟨rfl, k σ I⟩
  · cases e⟩
theorem gs_cons {e : Expr} {es : List Expr} {g : D → S → Option S} {gs : List D → S → Option S} (h1 : GO F X e g) (h2 : GsO F X es gs)
    (hs : (assignEach (e :: es) X.env).map (·.2) = assign e X.env :: (assignEach es X.env).map (·.2) := by rfl) : GsO F X (e :: es) (gsCons g gs) := by
  obtain ⟨t1, p1, s1⟩ := h1
  obtain ⟨t2, p2, s2⟩ := h2
  refine ⟨_, pgs_cons p1 p2 hs, fun vs ds σ H O s s' Q I r e k => ?_⟩
  unfold gsCons at e
  split at e
  · rename_i d ds'
    cases r with
    | cons r rs =>
      rename_i v vs'
      rw [Option.bind_eq_some_iff] at e
      obtain ⟨s1', e1, e2⟩ := e
      exact ⟨v, vs', rfl, s1 v d σ H O s s1' _ I r e1 fun σ1 I1 => s2 vs' ds' σ1 H O s1' s' Q I1 rs e2 k⟩
  · cases e
def gTupD (gs : List D → S → Option S) : D → S → Option S
  | .tuple ds, s => gs ds s
  | _, _ => none
theorem g_tup {es : List Expr} {kk : Nat} {pos : Pos} {gs : List D → S → Option S} (hc : X.calm = true) (hK : F.m.K = X.K) (h : GsO F X es gs) (hl : ∀ ds s s', gs ds s = some s' → ds.length = es.length)
    (hn : (assignEach es X.env).length = es.length := by rfl) (hst : (assignEach es X.env).findIdx? (·.1) = none := by rfl) : GO F X (.Tuple es kk pos) (gTupD gs) := by
  obtain ⟨t, p, sg⟩ := h
  refine ⟨_, pg_tup hc p hn hst, fun v d σ H O s s' Q I r e k => ?_⟩
  unfold gTupD at e
  split at e
  · rename_i ds
    obtain ⟨a, vs, rfl, ha, ra⟩ := r.tup_inv
    exact ⟨a, vs, rfl, hK ▸ ha, by rw [ra.length, hl ds s s' e], sg vs ds σ H O s s' Q I ra e k⟩
  · cases e
theorem gsNil_len : ∀ ds s s', gsNil ds s = some s' → ds.length = ([] : List Expr).length := by
  intro ds s s' h
  unfold gsNil at h
  split at h
  · rfl
  · cases h
theorem gsCons_len {g : D → S → Option S} {gs : List D → S → Option S} {e : Expr} {es : List Expr} (h : ∀ ds s s', gs ds s = some s' → ds.length = es.length) : ∀ ds s s', gsCons g gs ds s = some s' → ds.length = (e :: es).length := by
  intro ds s s' hh
  unfold gsCons at hh
  split at hh
  · rw [Option.bind_eq_some_iff] at hh
    obtain ⟨s1, e1, e2⟩ := hh
    rw [List.length_cons, List.length_cons, h _ _ _ e2]
  · cases hh
/-- target = value, several names -/
def dAsg (g : D → S → Option S) (a : DE) : DS := fun s => (a s).st fun x s1 => match g x.d s1 with
  | some s2 => .nx s2
  | none => .stuck
theorem s_asg {tg a : Expr} {fa : DE} {g : D → S → Option S} {pos : Pos} (hg : GO F X tg g) (ha : EO F X a fa) (hs : swapsWithSole [tg] a pos.line X.env = pure false := by rfl) (hw : swappedStores [tg] a X.env = pure none := by rfl)
    (h1 : (assignEach [tg] X.env).map (·.2) = [assign tg X.env] := by rfl) : SO F X (.Assign [tg] a pos) (dAsg g fa) := by
  obtain ⟨t, p, sg⟩ := hg
  obtain ⟨ta, pa, sa⟩ := ha
  refine ⟨_, ps_asg pa p hs hw h1, fun Q σ H O s I k => ?_⟩
  unfold dAsg at k
  refine sa.stD I k fun y s1 w H1 O1 st I1 r k => ?_
  split at k
  · rename_i s2 e
    exact sg w y.d σ H1 O1 s1 s2 _ I1 r e fun σ' I2 => k σ' H1 O1 .refl I2
  · exact k.elim
/-- a, b = x, y (names of the def alone): each keeps what may change -/
def dPar (i j : Nat) (a b : DE) : DS := fun s => (a s).st fun x s1 => (b s1).st fun y s2 => .nx { s2 with e := (s2.e.set i x).set j y }
/-- a pending result behind a further expression -/
theorem SlX.step {x : Sl} (I0 : Est F σ H O s) (st1 : StE F.δ σ H O s.e H1 O1 s1.e) (I1 : Est F σ H1 O1 s1) (st2 : StE F.δ σ H1 O1 s1.e H2 O2 s2.e) (h : SlX F H H1 O1 v x) : SlX F H H2 O2 v x := by
  cases x with
  | un => exact h
  | val d => exact RepD.step st2.stp I1.wd h
  | own xs =>
    obtain ⟨a, vs, h1, h2, h3, h4, h5, h6⟩ := h
    exact ⟨a, vs, h1, st2.stay a h2 (fun z => I0.env.mine (st1.mine a z) h6), h3, st2.keep a _ h3 nt_lst h4, h5.step st2.stp I1.wd, h6⟩
theorem s_par (i j : Nat) {x y : Str} {a b : Expr} {fa fb : DE} {px py pt pos : Pos} {kt k2 pt2} (hc : X.calm = true) (hnd : X.N.Nodup) (ha : EO F X a fa) (hb : EO F X b fb) (hi : X.N[i]? = some x := by rfl) (hj : X.N[j]? = some y := by rfl) (hij : i ≠ j := by decide)
    (hx : X.env.scope.names.lookup x = some .local := by rfl) (hy : X.env.scope.names.lookup y = some .local := by rfl) (hst : starEach [a, b] X.env = (false, eval a X.env) :: starEach [b] X.env := by rfl) (hst2 : starEach [b] X.env = (false, eval b X.env) :: starEach [] X.env := by rfl)
    (hw : swappedStores [.Tuple [.Name x px, .Name y py] kt pt] (.Tuple [a, b] k2 pt2) X.env = pure (some [x, y]) := by rfl)
    (hs : swapsWithSole [.Tuple [.Name x px, .Name y py] kt pt] (.Tuple [a, b] k2 pt2) pos.line X.env = pure false := by rfl) :
    SO F X (.Assign [.Tuple [.Name x px, .Name y py] kt pt] (.Tuple [a, b] k2 pt2) pos) (dPar i j fa fb) := by
  obtain ⟨ta, pa, sa⟩ := ha
  obtain ⟨tb, pb, sb⟩ := hb
  refine ⟨_, ps_par hc hnd hi hj hij hx hy (pa_cons pa (pa_cons pb pa_nil hst2) hst) hw hs, fun Q σ H O s I k => ?_⟩
  refine sa.stX I k fun x s1 v H1 O1 st1 I1 r1 k => ?_
  refine sb.stX I1 k fun y s2 w H2 O2 st2 I2 r2 k => ?_
  refine ⟨v, w, rfl, k _ H2 O2 .refl ?_⟩
  have r1' := r1.step I st1 I1 st2
  have I3 := I.setX (st1.trans st2) I2 i r1'
  refine I3.set (x := y) j (SlX.base I1 r2) fun b ys e ev hm => ?_
  subst e
  obtain ⟨b', us, f1, f2, f3, f4, f5, f6⟩ := r2
  rw [f1] at ev
  cases ev
  obtain ⟨l, zs, q1, q2⟩ := hm
  have q1 : (s2.e.set i x)[l]? = some (.own zs) := q1
  by_cases hl : l = i
  · subst hl
    obtain ⟨e, hlt⟩ := sl_eq q1
    subst e
    obtain ⟨a', vs', g1, g2, g3, g4, g5, g6⟩ := r1
    rw [List.getElem?_set_self (by rw [I2.env.len]; exact hlt), g1] at q2
    cases q2
    rw [g4] at f6
    cases f6
  · rw [sl_ne hl] at q1 q2
    exact I1.env.mine (st2.mine _ ⟨l, zs, q1, q2⟩) f6
def dPar3 (i j l : Nat) (a b c : DE) : DS := fun s => (a s).st fun x s1 => (b s1).st fun y s2 => (c s2).st fun z s3 => .nx { s3 with e := ((s3.e.set i x).set j y).set l z }
theorem mine_of {e : List Sl} {i : Nat} {x : Sl} {w : V} {a : Addr} (hl : σ.length = e.length) (h : Mine (σ.set i (some w)) (e.set i x) a) : Mine σ e a ∨ (w = .ref a ∧ ∃ xs, x = .own xs) := by
  obtain ⟨l, zs, q1, q2⟩ := h
  by_cases hh : l = i
  · subst hh
    obtain ⟨e1, hlt⟩ := sl_eq q1
    rw [List.getElem?_set_self (by rw [hl]; exact hlt)] at q2
    exact .inr ⟨Option.some.inj (Option.some.inj q2), zs, e1.symm⟩
  · rw [sl_ne hh] at q1 q2
    exact .inl ⟨l, zs, q1, q2⟩
theorem s_par3 (i j l : Nat) {x y z : Str} {a b c : Expr} {fa fb fc : DE} {px py pz pt pos : Pos} {kt k2 pt2} (hc : X.calm = true) (hnd : X.N.Nodup) (ha : EO F X a fa) (hb : EO F X b fb) (hcc : EO F X c fc) (hi : X.N[i]? = some x := by rfl) (hj : X.N[j]? = some y := by rfl) (hl : X.N[l]? = some z := by rfl)
    (hij : i ≠ j := by decide) (hil : i ≠ l := by decide) (hjl : j ≠ l := by decide)
    (hx : X.env.scope.names.lookup x = some .local := by rfl) (hy : X.env.scope.names.lookup y = some .local := by rfl) (hz : X.env.scope.names.lookup z = some .local := by rfl)
    (hst : starEach [a, b, c] X.env = (false, eval a X.env) :: starEach [b, c] X.env := by rfl) (hst2 : starEach [b, c] X.env = (false, eval b X.env) :: starEach [c] X.env := by rfl) (hst3 : starEach [c] X.env = (false, eval c X.env) :: starEach [] X.env := by rfl)
    (hw : swappedStores [.Tuple [.Name x px, .Name y py, .Name z pz] kt pt] (.Tuple [a, b, c] k2 pt2) X.env = pure (some [x, y, z]) := by rfl)
    (hs : swapsWithSole [.Tuple [.Name x px, .Name y py, .Name z pz] kt pt] (.Tuple [a, b, c] k2 pt2) pos.line X.env = pure false := by rfl) :
    SO F X (.Assign [.Tuple [.Name x px, .Name y py, .Name z pz] kt pt] (.Tuple [a, b, c] k2 pt2) pos) (dPar3 i j l fa fb fc) := by
  obtain ⟨ta, pa, sa⟩ := ha
  obtain ⟨tb, pb, sb⟩ := hb
  obtain ⟨tc, pc, sc⟩ := hcc
  refine ⟨_, ps_par3 hc hnd hi hj hl hij hil hjl hx hy hz (pa_cons pa (pa_cons pb (pa_cons pc pa_nil hst3) hst2) hst) hw hs, fun Q σ H O s I k => ?_⟩
  refine sa.stX I k fun x s1 v H1 O1 st1 I1 r1 k => ?_
  refine sb.stX I1 k fun y s2 w H2 O2 st2 I2 r2 k => ?_
  refine sc.stX I2 k fun z s3 u H3 O3 st3 I3 r3 k => ?_
  refine ⟨v, w, u, rfl, k _ H3 O3 .refl ?_⟩
  have q1 := (r1.step I st1 I1 st2).step I (st1.trans st2) I2 st3
  have q2 := r2.step I1 st2 I2 st3
  have J1 := I.setX ((st1.trans st2).trans st3) I3 i q1
  have own_some : ∀ {H H1 : Hp} {O1 : Addr → Prop} {v : V} {x : Sl} {a : Addr} {xs : List D}, SlX F H H1 O1 v x → x = .own xs → v = .ref a → H1 a ≠ none ∧ H a = none := fun {H H1 O1 v x a xs} r e ev => by
    subst e
    obtain ⟨a', vs', g1, g2, g3, g4, g5, g6⟩ := r
    rw [g1] at ev
    cases ev
    exact ⟨by rw [g4]; simp, g6⟩
  have J2 := J1.set (x := y) j (SlX.base I1 q2) fun b ys e ev hm => by
    rcases mine_of I3.env.len hm with hm | ⟨e1, xs, e2⟩
    · exact I1.env.mine (st2.mine _ (st3.mine _ hm)) (own_some q2 e ev).2
    · exact (own_some r1 e2 e1).1 (own_some q2 e ev).2
  refine J2.set (x := z) l (SlX.base I2 r3) fun b ys e ev hm => ?_
  rcases mine_of J1.env.len hm with hm | ⟨e1, xs, e2⟩
  · rcases mine_of I3.env.len hm with hm | ⟨e1, xs, e2⟩
    · exact I2.env.mine (st3.mine _ hm) (own_some r3 e ev).2
    · exact st2.there _ (own_some r1 e2 e1).1 (own_some r3 e ev).2
  · exact (own_some r2 e2 e1).1 (own_some r3 e ev).2
end
end DL

set_option Elab.async false
set_option linter.all false
set_option maxRecDepth 100000
set_option maxHeartbeats 4000000
/-! DLi: while, for, comprehensions. -/
namespace DL
open PySem PySem.Spec L2
open PyProof.Rows hiding St

section
variable {F : Fx} {X : Cx} {H H' H1 H2 : Hp} {O O' O1 O2 : Addr → Prop} {σ σ' : St} {s s' s1 s2 : S} {Q : VK} {QT : Bool → Hp → Prop} {t : TE} {f g : DE} {v : V} {d : D} {K : PySem.W.Frag} {δ : Option Addr} {m : Pm} {c : List Int} {e e' : List Sl} {vs : List V} {ds : List D} {Qe : Ends}

/-! ### while -/
def dWhile (c : DE) (b : DS) : Nat → DS
  | 0 => fun _ => .stuck
  | n + 1 => fun s => (c s).stT fun k s1 => if k = true then (match b s1 with
      | .nx s2 => dWhile c b n s2
      | .ct s2 => dWhile c b n s2
      | .bk s2 => .nx s2
      | r => r) else .nx s1
theorem s_while (n : Nat) {c : Expr} {body : List Stmt} {fc : DE} {gb : DS} {pos : Pos} (hp : PassesOwn (model X.prog X.w) X.A X.env X.xe) (hc : TO F X c fc) (hb : BO F X body gb) : SO F X (.While c body [] pos) (dWhile fc gb n) := by
  obtain ⟨tc, pc, sc⟩ := hc
  obtain ⟨tb, pb, sb⟩ := hb
  refine ⟨_, ps_while hp pc pb, fun Q σ H O s I k => ?_⟩
  refine ⟨fun m σ H => ∃ O s, Est F σ H O s ∧ KS F H O Q (dWhile fc gb m s), ⟨n, O, s, I, k⟩, ?_⟩
  rintro m σ H ⟨O, s, I, k⟩
  cases m with
  | zero => exact k.elim
  | succ m =>
    have k : KS F H O Q ((fc s).stT fun k s1 => if k = true then (match gb s1 with
      | .nx s2 => dWhile fc gb m s2
      | .ct s2 => dWhile fc gb m s2
      | .bk s2 => .nx s2
      | r => r) else .nx s1) := k
    refine sc.stT I k fun b s1 H1 O1 st I1 k => ?_
    cases b with
    | false =>
      rw [if_neg Bool.false_ne_true]
      rw [if_neg Bool.false_ne_true] at k
      exact k σ H1 O1 .refl I1
    | true =>
      rw [if_pos rfl]
      rw [if_pos rfl] at k
      refine ⟨fun σ H => ∃ O s, Est F σ H O s ∧ KS F H O Q (dWhile fc gb m s), fun σ' H' h => ⟨m, Nat.lt_succ_self _, h⟩, ?_⟩
      refine sb _ σ H1 O1 s1 I1 ?_
      cases q : gb s1 with
      | nx s2 => rw [q] at k; exact fun σ' H' O' st' I' => ⟨O', s2, I', KS.trans st' k⟩
      | ct s2 => rw [q] at k; exact fun σ' H' O' st' I' => ⟨O', s2, I', KS.trans st' k⟩
      | bk s2 => rw [q] at k; exact fun σ' H' O' st' I' => k σ' H' O' st' I'
      | rt x c => rw [q] at k; exact k
      | er e c => rw [q] at k; exact k
      | stuck => rw [q] at k; exact k

/-! ### what is walked -/
structure WalkS (F : Fx) (J : It) (ds : List D) (P : Hp → (Addr → Prop) → Prop) : Prop where
  go : ∀ i H O c, i < ds.length → Wd F.m F.δ H O c → P H O → J.go i H
  stop : ∀ H O c, Wd F.m F.δ H O c → P H O → J.stop ds.length H
  yld : ∀ i H O c x H' d, Wd F.m F.δ H O c → P H O → J.yld i H x H' → ds[i]? = some d → Ext H H' ∧ RepD F.m.K H' O F.δ x d
  keep : ∀ H O c H' O', Wd F.m F.δ H O c → P H O → StS H O H' O' → P H' O'
def KI (F : Fx) (σ : St) (H : Hp) (O : Addr → Prop) (s : S) (R : It → Hp → Prop) : RA → Prop
  | .ok ds s' => ∀ J P H' O', StE F.δ σ H O s.e H' O' s'.e → Est F σ H' O' s' → WalkS F J ds P → P H' O' → R J H'
  | .er e c => KEr F e c
  | .stuck => False
def IO (F : Fx) (X : Cx) (tg iter : Expr) (f : DA) : Prop := ∃ wi, PI X tg iter wi ∧ ∀ σ H O s R, Est F σ H O s → KI F σ H O s R (f s) → wi σ H R
theorem walk_lst {a : Addr} {ds : List D} : WalkS F (Itl F.m.K a) ds (fun H O => ∃ vs, H a = some (.lst vs) ∧ ¬ O a ∧ RepDs F.m.K H O F.δ vs ds) where
  go := fun i H O c h w ⟨vs, h1, _, r⟩ => by
    obtain ⟨v, h2, _⟩ := r.get (i := i) (List.getElem?_eq_getElem h)
    exact ⟨vs, v, .of h1, h2⟩
  stop := fun H O c w ⟨vs, h1, _, r⟩ => ⟨vs, .of h1, by rw [r.length]; exact Nat.le_refl _⟩
  yld := fun i H O c x H' d w ⟨vs, h1, _, r⟩ ⟨e, y⟩ hd => by
    subst e
    obtain ⟨v, h2, h3⟩ := r.get hd
    have := y vs (.of h1)
    rw [h2] at this
    cases this
    exact ⟨.refl, h3⟩
  keep := fun H O c H' O' w ⟨vs, h1, n, r⟩ st => ⟨vs, st.keep _ _ n nt_lst h1, st.nO (by rw [h1]; simp) n, r.stS st w⟩
theorem walk_tup {a : Addr} {ds : List D} : WalkS F (Itt F.m.K a) ds (fun H O => ∃ vs, SqT F.m.K H a vs ∧ RepDs F.m.K H O F.δ vs ds) where
  go := fun i H O c h w ⟨vs, h1, r⟩ => by
    obtain ⟨v, h2, _⟩ := r.get (i := i) (List.getElem?_eq_getElem h)
    exact ⟨vs, v, h1, h2⟩
  stop := fun H O c w ⟨vs, h1, r⟩ => ⟨vs, h1, by rw [r.length]; exact Nat.le_refl _⟩
  yld := fun i H O c x H' d w ⟨vs, h1, r⟩ ⟨e, y⟩ hd => by
    subst e
    obtain ⟨v, h2, h3⟩ := r.get hd
    have := y vs h1
    rw [h2] at this
    cases this
    exact ⟨.refl, h3⟩
  keep := fun H O c H' O' w ⟨vs, h1, r⟩ st => ⟨vs, st.sqT w h1, r.stS st w⟩
def signsD (x : Str) : List D := x.cps.toList.map fun c => .str ⟨#[c]⟩
theorem walk_str {x : Str} : WalkS F (Its x) (signsD x) (fun _ _ => True) where
  go := fun i H O c h w _ => by
    show i < x.cps.size
    unfold signsD at h
    simpa using h
  stop := fun H O c w _ => by
    show x.cps.size ≤ (signsD x).length
    unfold signsD
    simp
  yld := fun i H O c v H' d w _ ⟨e, c', h1, h2⟩ hd => by
    subst e h2
    unfold signsD at hd
    rw [List.getElem?_map, Array.getElem?_toList, h1] at hd
    cases hd
    exact ⟨.refl, .str _⟩
  keep := fun _ _ _ _ _ _ _ _ => True.intro
def rangeD (lo : Int) (n : Nat) : List D := (List.range n).map fun i => .int (lo + (i : Nat))
theorem walk_rng {lo : Int} {n : Nat} : WalkS F (Itr lo n) (rangeD lo n) (fun _ _ => True) where
  go := fun i H O c h w _ => by
    show i < n
    unfold rangeD at h
    simpa using h
  stop := fun H O c w _ => by
    show n ≤ (rangeD lo n).length
    unfold rangeD
    simp
  yld := fun i H O c v H' d w _ ⟨e, h1⟩ hd => by
    subst e h1
    unfold rangeD at hd
    rw [List.getElem?_map] at hd
    simp only [Option.map_eq_some_iff] at hd
    obtain ⟨j, h2, rfl⟩ := hd
    rw [List.getElem?_range (by
      rcases Nat.lt_or_ge i n with h | h
      · exact h
      · rw [List.getElem?_eq_none (by simpa using h)] at h2; cases h2)] at h2
    cases h2
    exact ⟨.refl, .int _⟩
  keep := fun _ _ _ _ _ _ _ _ => True.intro
/-- range(a, b, -1) -/
def downD (hi : Int) (n : Nat) : List D := (List.range n).map fun i => .int (hi - (i : Nat))
theorem walk_down {hi : Int} {n : Nat} : WalkS F (Itc hi (-1) n) (downD hi n) (fun _ _ => True) where
  go := fun i H O c h w _ => by
    show i < n
    unfold downD at h
    simpa using h
  stop := fun H O c w _ => by
    show n ≤ (downD hi n).length
    unfold downD
    simp
  yld := fun i H O c v H' d w _ ⟨e, h1⟩ hd => by
    subst e h1
    unfold downD at hd
    rw [List.getElem?_map] at hd
    simp only [Option.map_eq_some_iff] at hd
    obtain ⟨j, h2, rfl⟩ := hd
    rw [List.getElem?_range (by
      rcases Nat.lt_or_ge i n with h | h
      · exact h
      · rw [List.getElem?_eq_none (by simpa using h)] at h2; cases h2)] at h2
    cases h2
    have e : hi + (i : Int) * -1 = hi - i := by omega
    rw [e]
    exact ⟨.refl, .int _⟩
  keep := fun _ _ _ _ _ _ _ _ => True.intro
def zipD (xs ys : List D) : List D := List.zipWith (fun x y => .tuple [x, y]) xs ys
theorem zipD_get {xs ys : List D} {i : Nat} {d : D} (h : (zipD xs ys)[i]? = some d) : ∃ x y, xs[i]? = some x ∧ ys[i]? = some y ∧ d = .tuple [x, y] := by
  unfold zipD at h
  rw [List.getElem?_zipWith] at h
  split at h
  · rename_i x y h1 h2
    exact ⟨x, y, h1, h2, (Option.some.inj h).symm⟩
  · cases h
theorem zip_yld {i : Nat} {xs ys : List D} {us ws : List V} {x y : V} {T : Addr} {d : D} (w : Wd m δ H O c) (rx : RepDs K H O δ us xs) (ry : RepDs K H O δ ws ys) (hT : H T = none) (hx : us[i]? = some x) (hy : ws[i]? = some y) (hd : (zipD xs ys)[i]? = some d) :
    Ext H (upd H T (.tup [x, y])) ∧ RepD K (upd H T (.tup [x, y])) O δ (.ref T) d := by
  obtain ⟨a, b, h1, h2, rfl⟩ := zipD_get hd
  obtain ⟨x', g1, r1⟩ := rx.get h1
  obtain ⟨y', g2, r2⟩ := ry.get h2
  rw [hx] at g1
  rw [hy] at g2
  cases g1
  cases g2
  exact ⟨.upd hT, .tup (.of upd_same) ((RepDs.cons r1 (.cons r2 .nil)).step (StF.stp ((Ext.upd hT).stF (O := O))) w)⟩
theorem walk_zipL {a b : Addr} {xs ys : List D} : WalkS F (Itz F.m.K a b) (zipD xs ys) (fun H O => (∃ us, H a = some (.lst us) ∧ ¬ O a ∧ RepDs F.m.K H O F.δ us xs) ∧ ∃ ws, H b = some (.lst ws) ∧ ¬ O b ∧ RepDs F.m.K H O F.δ ws ys) where
  go := fun i H O c h w ⟨⟨us, h1, _, r1⟩, ws, h2, _, r2⟩ => by
    have hl : i < xs.length ∧ i < ys.length := by unfold zipD at h; simp at h; omega
    obtain ⟨x, g1, _⟩ := r1.get (i := i) (List.getElem?_eq_getElem hl.1)
    obtain ⟨y, g2, _⟩ := r2.get (i := i) (List.getElem?_eq_getElem hl.2)
    exact ⟨us, ws, x, y, .of h1, .of h2, g1, g2⟩
  stop := fun H O c w ⟨⟨us, h1, _, r1⟩, ws, h2, _, r2⟩ => ⟨us, ws, .of h1, .of h2, by
    rw [r1.length, r2.length]
    unfold zipD
    simp
    omega⟩
  yld := fun i H O c x H' d w ⟨⟨us, h1, _, r1⟩, ws, h2, _, r2⟩ ⟨T, x1, y1, e1, e2, e3, e4, e5⟩ hd => by
    subst e1 e3
    exact zip_yld w r1 r2 e2 (e4 us (.of h1)) (e5 ws (.of h2)) hd
  keep := fun H O c H' O' w ⟨⟨us, h1, n1, r1⟩, ws, h2, n2, r2⟩ st => ⟨⟨us, st.keep _ _ n1 nt_lst h1, st.nO (by rw [h1]; simp) n1, r1.stS st w⟩, ws, st.keep _ _ n2 nt_lst h2, st.nO (by rw [h2]; simp) n2, r2.stS st w⟩
theorem walk_zipT {a b : Addr} {xs ys : List D} : WalkS F (RZ.ItzT F.m.K a b) (zipD xs ys) (fun H O => (∃ us, SqT F.m.K H a us ∧ RepDs F.m.K H O F.δ us xs) ∧ ∃ ws, SqT F.m.K H b ws ∧ RepDs F.m.K H O F.δ ws ys) where
  go := fun i H O c h w ⟨⟨us, h1, r1⟩, ws, h2, r2⟩ => by
    have hl : i < xs.length ∧ i < ys.length := by unfold zipD at h; simp at h; omega
    obtain ⟨x, g1, _⟩ := r1.get (i := i) (List.getElem?_eq_getElem hl.1)
    obtain ⟨y, g2, _⟩ := r2.get (i := i) (List.getElem?_eq_getElem hl.2)
    exact ⟨us, ws, x, y, h1, h2, g1, g2⟩
  stop := fun H O c w ⟨⟨us, h1, r1⟩, ws, h2, r2⟩ => ⟨us, ws, h1, h2, by
    rw [r1.length, r2.length]
    unfold zipD
    simp
    omega⟩
  yld := fun i H O c x H' d w ⟨⟨us, h1, r1⟩, ws, h2, r2⟩ ⟨T, x1, y1, e1, e2, e3, e4, e5⟩ hd => by
    subst e1 e3
    exact zip_yld w r1 r2 e2 (e4 us h1) (e5 ws h2) hd
  keep := fun H O c H' O' w ⟨⟨us, h1, r1⟩, ws, h2, r2⟩ st => ⟨⟨us, st.sqT w h1, r1.stS st w⟩, ws, st.sqT w h2, r2.stS st w⟩

theorem PI_or {tg iter : Expr} {w1 w2 : TI} (h1 : PI X tg iter w1) (h2 : PI X tg iter w2) : PI X tg iter (fun σ H R => w1 σ H R ∨ w2 σ H R) :=
  ⟨fun pins s σ H R I h => h.elim (h1.run pins s σ H R I) (h2.run pins s σ H R I)⟩
/-- a list, a tuple, a text -/
def itD : D → Option (List D)
  | .list xs => some xs
  | .tuple xs => some xs
  | .str z => some (signsD z)
  | _ => none
def RE.ra (r : RE) (k : D → S → RA) : RA := match r with
  | .ok x s => k x.d s
  | .er e c => .er e c
  | .stuck => .stuck
def iSeq (a : DE) : DA := fun s => (a s).ra fun x s1 => match itD x with
  | some ds => .ok ds s1
  | none => .stuck
theorem i_seq {tg a : Expr} {fa : DE} (hK : F.m.K = X.K) (ha : EO F X a fa) : IO F X tg a (iSeq fa) := by
  obtain ⟨ta, pa, sa⟩ := ha
  refine ⟨_, PI_or (pi_list pa) (PI_or (pi_tup pa) (pi_str pa)), fun σ H O s R I k => ?_⟩
  unfold iSeq at k
  cases q : fa s with
  | stuck => rw [q] at k; exact k.elim
  | er e c =>
    refine .inl (sa.use I ?_)
    rw [q] at k ⊢
    exact k
  | ok x s1 =>
    rw [q] at k
    have k : KI F σ H O s R (match itD x.d with | some ds => .ok ds s1 | none => .stuck) := k
    cases hx : x.d with
    | list xs =>
      rw [hx] at k
      refine .inl (sa.use I ?_)
      rw [q]
      intro v H1 O1 st I1 r
      rw [hx] at r
      obtain ⟨a, vs, rfl, h1, n, rs⟩ := r.list_inv
      exact ⟨a, rfl, ⟨vs, .of h1⟩, hK ▸ k _ _ H1 O1 st I1 walk_lst ⟨vs, h1, n, rs⟩⟩
    | tuple xs =>
      rw [hx] at k
      refine .inr (.inl (sa.use I ?_))
      rw [q]
      intro v H1 O1 st I1 r
      rw [hx] at r
      obtain ⟨a, vs, rfl, h1, rs⟩ := r.tup_inv
      exact ⟨a, rfl, ⟨vs, hK ▸ h1⟩, hK ▸ k _ _ H1 O1 st I1 walk_tup ⟨vs, h1, rs⟩⟩
    | str z =>
      rw [hx] at k
      refine .inr (.inr (sa.use I ?_))
      rw [q]
      intro v H1 O1 st I1 r
      rw [hx] at r
      exact ⟨z, r.str_inv, k _ _ H1 O1 st I1 walk_str True.intro⟩
    | _ => rw [hx] at k; exact k.elim
abbrev lim62 (i : Int) : Bool := decide (-(2 ^ 62) ≤ i) && decide (i < 2 ^ 62)
theorem SE.ra {k : D → S → RA} {a : DE} {ta : TE} {R : It → Hp → Prop} {R' : VK} (ha : SE F ta a) (I : Est F σ H O s) (h : KI F σ H O s R ((a s).ra k))
    (hk : ∀ x s1 v H1 O1, StE F.δ σ H O s.e H1 O1 s1.e → Est F σ H1 O1 s1 → RepD F.m.K H1 O1 F.δ v x → KI F σ H1 O1 s1 R (k x s1) → R' v H1) : ta σ H R' := by
  refine ha.use I ?_
  cases q : a s with
  | stuck => rw [q] at h; exact h
  | er e c => rw [q] at h; exact h
  | ok x s1 =>
    rw [q] at h
    intro v H1 O1 st I1 r
    refine hk x.d s1 v H1 O1 st I1 r ?_
    have h : KI F σ H O s R (k x.d s1) := h
    cases qq : k x.d s1 with
    | stuck => rw [qq] at h; exact h
    | er e c => rw [qq] at h; exact h
    | ok ds s2 => rw [qq] at h; exact fun J P H' O' st' => h J P H' O' (st.trans st')
def iRng1 (a : DE) : DA := fun s => (a s).ra fun x s1 => match x with
  | .int j => if lim62 j then .ok (rangeD 0 j.toNat) s1 else .stuck
  | _ => .stuck
def iRng2 (a b : DE) : DA := fun s => (a s).ra fun x s1 => (b s1).ra fun y s2 => match x, y with
  | .int i, .int j => if lim62 i && lim62 j then .ok (rangeD i (j - i).toNat) s2 else .stuck
  | _, _ => .stuck
/-- range(a, b, -1) -/
def iDown (a b : DE) : DA := fun s => (a s).ra fun x s1 => (b s1).ra fun y s2 => match x, y with
  | .int i, .int j => if lim62 i && lim62 j then .ok (downD i (i - j).toNat) s2 else .stuck
  | _, _ => .stuck
section
variable {tg a b : Expr} {fa fb : DE} {p pos : Pos}
theorem i_rng1 (hg : Gl X "range") (hm : X.mg "range" = none) (ha : EO F X a fa) (hs : starEach [a] X.env = [(false, eval a X.env)] := by rfl) : IO F X tg (.Call (.Name "range" p) [a] [] pos) (DL.iRng1 fa) := by
  obtain ⟨ta, pa, sa⟩ := ha
  refine ⟨_, pi_range1 hg hm (pa_cons pa pa_nil hs) hs, fun σ H O s R I k => ?_⟩
  refine sa.ra I k fun x s1 v H1 O1 st I1 r k => ?_
  split at k
  · rename_i j
    split at k
    · rename_i hl
      simp only [lim62, Bool.and_eq_true, decide_eq_true_eq] at hl
      cases r.int_inv
      exact ⟨j, rfl, hl.1, hl.2, k _ _ H1 O1 .refl I1 walk_rng True.intro⟩
    · exact k.elim
  · exact k.elim
theorem i_rng2 (hg : Gl X "range") (hm : X.mg "range" = none) (ha : EO F X a fa) (hb : EO F X b fb) (hs : starEach [a, b] X.env = [(false, eval a X.env), (false, eval b X.env)] := by rfl) (hs2 : starEach [b] X.env = [(false, eval b X.env)] := by rfl) :
    IO F X tg (.Call (.Name "range" p) [a, b] [] pos) (DL.iRng2 fa fb) := by
  obtain ⟨ta, pa, sa⟩ := ha
  obtain ⟨tb, pb, sb⟩ := hb
  refine ⟨_, pi_range2 hg hm (pa_cons pa (pa_cons pb pa_nil hs2) (by rw [hs, hs2])) hs hs2, fun σ H O s R I k => ?_⟩
  refine sa.ra I k fun x s1 v H1 O1 st I1 r k1 => ?_
  clear k
  refine sb.ra I1 k1 fun y s2 w H2 O2 st2 I2 r2 k => ?_
  clear k1
  split at k
  · rename_i i j
    split at k
    · rename_i hl
      simp only [lim62, Bool.and_eq_true, decide_eq_true_eq] at hl
      cases r.int_inv
      cases r2.int_inv
      exact ⟨i, j, rfl, ⟨hl.1.1, hl.1.2, hl.2.1, hl.2.2⟩, k _ _ H2 O2 .refl I2 walk_rng True.intro⟩
    · exact k.elim
  · exact k.elim
theorem i_down {j : Nat} {p1 p2 : Pos} (hg : Gl X "range") (hm : X.mg "range" = none) (ha : EO F X a fa) (hb : EO F X b fb)
    (hs : starEach [a, b, .UnaryOp .USub (.Constant (.int 1) j p1) p2] X.env = (false, eval a X.env) :: starEach [b, .UnaryOp .USub (.Constant (.int 1) j p1) p2] X.env := by rfl)
    (hs2 : starEach [b, .UnaryOp .USub (.Constant (.int 1) j p1) p2] X.env = (false, eval b X.env) :: starEach [.UnaryOp .USub (.Constant (.int 1) j p1) p2] X.env := by rfl)
    (hs3 : starEach [.UnaryOp .USub (.Constant (.int 1) j p1) p2] X.env = (false, eval (.UnaryOp .USub (.Constant (.int 1) j p1) p2) X.env) :: starEach [] X.env := by rfl)
    (hpl : (backTo pos (starEach [b, .UnaryOp .USub (.Constant (.int 1) j p1) p2] X.env)).any (·.1) = false := by rfl) :
    IO F X tg (.Call (.Name "range" p) [a, b, .UnaryOp .USub (.Constant (.int 1) j p1) p2] [] pos) (iDown fa fb) := by
  obtain ⟨ta, pa, sa⟩ := ha
  obtain ⟨tb, pb, sb⟩ := hb
  refine ⟨_, pi_range3 hg hm (pa_cons pa (pa_cons pb (pa_cons (pe_un un_neg pe_int) pa_nil hs3) hs2) hs) hs hpl, fun σ H O s R I k => ?_⟩
  refine sa.ra I k fun x s1 v H1 O1 st I1 r k1 => ?_
  clear k
  refine sb.ra I1 k1 fun y s2 w H2 O2 st2 I2 r2 k => ⟨1, rfl, ?_⟩
  clear k1
  split at k
  · rename_i i j
    split at k
    · rename_i hl
      simp only [lim62, Bool.and_eq_true, decide_eq_true_eq] at hl
      cases r.int_inv
      cases r2.int_inv
      exact ⟨i, j, -1, _, rfl, RgC.neg hl.1.1 hl.1.2 hl.2.1 hl.2.2, k _ _ H2 O2 .refl I2 walk_down True.intro⟩
    · exact k.elim
  · exact k.elim
/-- zip(a, b): two lists, or two tuples -/
def iZip2 (a b : DE) : DA := fun s => (a s).ra fun x s1 => (b s1).ra fun y s2 => match x, y with
  | .list xs, .list ys => .ok (zipD xs ys) s2
  | .tuple xs, .tuple ys => .ok (zipD xs ys) s2
  | _, _ => .stuck
theorem i_zip2 {elts : List Expr} {kk : Nat} {tpos : Pos} (hK : F.m.K = X.K) (hg : Gl X "zip") (hm : X.mg "zip" = none) (ha : EO F X a fa) (hb : EO F X b fb)
    (hs : starEach [a, b] X.env = (false, eval a X.env) :: starEach [b] X.env := by rfl) (hs2 : starEach [b] X.env = (false, eval b X.env) :: starEach [] X.env := by rfl) (hpl : (backTo pos (starEach [b] X.env)).any (·.1) = false := by rfl) :
    IO F X (.Tuple elts kk tpos) (.Call (.Name "zip" p) [a, b] [] pos) (iZip2 fa fb) := by
  obtain ⟨ta, pa, sa⟩ := ha
  obtain ⟨tb, pb, sb⟩ := hb
  refine ⟨_, RZ.pi_zipA hg hm (pa_cons pa (pa_cons pb pa_nil hs2) hs) hs hpl, fun σ H O s R I k => ?_⟩
  refine sa.ra I k fun x s1 v H1 O1 st I1 r k1 => ?_
  clear k
  refine sb.ra I1 k1 fun y s2 w H2 O2 st2 I2 r2 k => ?_
  clear k1
  have r1 := r.step st2.stp I1.wd
  split at k
  · obtain ⟨a1, us, rfl, h1, n1, rs1⟩ := r1.list_inv
    obtain ⟨a2, ws, rfl, h2, n2, rs2⟩ := r2.list_inv
    exact ⟨a1, a2, us, ws, rfl, .inl ⟨.of h1, .of h2, hK ▸ k _ _ H2 O2 .refl I2 walk_zipL ⟨⟨us, h1, n1, rs1⟩, ws, h2, n2, rs2⟩⟩⟩
  · obtain ⟨a1, us, rfl, h1, rs1⟩ := r1.tup_inv
    obtain ⟨a2, ws, rfl, h2, rs2⟩ := r2.tup_inv
    exact ⟨a1, a2, us, ws, rfl, .inr ⟨hK ▸ h1, hK ▸ h2, hK ▸ k _ _ H2 O2 .refl I2 walk_zipT ⟨⟨us, h1, rs1⟩, ws, h2, rs2⟩⟩⟩
  · exact k.elim
end

/-! ### for -/
def forL (g : D → S → Option S) (b : DS) : List D → S → RS
  | [], s => .nx s
  | d :: ds, s => match g d s with
    | none => .stuck
    | some s1 => match b s1 with
      | .nx s2 => forL g b ds s2
      | .ct s2 => forL g b ds s2
      | .bk s2 => .nx s2
      | r => r
def dFor (f : DA) (g : D → S → Option S) (b : DS) : DS := fun s => match f s with
  | .ok ds s1 => forL g b ds s1
  | .er e c => .er e c
  | .stuck => .stuck
theorem s_for {tg iter : Expr} {body : List Stmt} {f : DA} {gt : D → S → Option S} {gb : DS} {pos : Pos} (hp : PassesOwn (model X.prog X.w) X.A X.env X.xe) (hc : X.calm = true) (hi : IO F X tg iter f) (hg : GO F X tg gt) (hb : BO F X body gb)
    (hs : ∀ x, foldedSetIterable iter X.env x = pure x := by intro _; rfl) : SO F X (.For tg iter body [] pos) (dFor f gt gb) := by
  obtain ⟨wi, pi, si⟩ := hi
  obtain ⟨tg', pg, sg⟩ := hg
  obtain ⟨tb, pb, sb⟩ := hb
  refine ⟨_, ps_for hp hc pi pg pb hs, fun Q σ H O s I k => ?_⟩
  refine si σ H O s _ I ?_
  unfold dFor at k
  cases q : f s with
  | stuck => rw [q] at k; exact k
  | er e c => rw [q] at k; exact k
  | ok ds s1 =>
    rw [q] at k
    intro J P H1 O1 st I1 W w1
    have k : KS F H1 O1 Q (forL gt gb ds s1) := KS.trans (st.stS I.wd) k
    refine ⟨fun i m σ H => m = ds.length - i ∧ i ≤ ds.length ∧ ∃ O s, Est F σ H O s ∧ P H O ∧ KS F H O Q (forL gt gb (ds.drop i) s), ⟨ds.length, by simp, Nat.zero_le _, O1, s1, I1, w1, by simpa using k⟩, ?_⟩
    rintro i m σ H ⟨rfl, hi, O, s, I, p, k⟩
    by_cases hlt : i < ds.length
    · refine .inr ⟨W.go i H O s.c hlt I.wd p, fun σ' H' => ∃ O s, Est F σ' H' O s ∧ P H' O ∧ KS F H' O Q (forL gt gb (ds.drop (i + 1)) s), fun σ' H' h => ⟨ds.length - (i + 1), by omega, rfl, hlt, h⟩, fun x H' y => ?_⟩
      obtain ⟨ex, r⟩ := W.yld i H O s.c x H' ds[i] I.wd p y (List.getElem?_eq_getElem hlt)
      rw [List.drop_eq_getElem_cons hlt] at k
      have k : KS F H O Q (match gt ds[i] s with
        | none => .stuck
        | some s1 => match gb s1 with
          | .nx s2 => forL gt gb (ds.drop (i + 1)) s2
          | .ct s2 => forL gt gb (ds.drop (i + 1)) s2
          | .bk s2 => .nx s2
          | r => r) := k
      cases qg : gt ds[i] s with
      | none => rw [qg] at k; exact k.elim
      | some s2 =>
        rw [qg] at k
        have p' := W.keep H O s.c H' O I.wd p (ex.stF.stS I.wd)
        have k := KS.trans (ex.stF.stS I.wd) k
        refine sg x ds[i] σ H' O s s2 _ (I.ext ex) r qg fun σ2 I2 => ?_
        refine sb _ σ2 H' O s2 I2 ?_
        cases qb : gb s2 with
        | nx s3 => simp only [qb] at k; exact fun σ' H'' O' st' I' => ⟨O', s3, I', W.keep H' O s2.c H'' O' I2.wd p' st', KS.trans st' k⟩
        | ct s3 => simp only [qb] at k; exact fun σ' H'' O' st' I' => ⟨O', s3, I', W.keep H' O s2.c H'' O' I2.wd p' st', KS.trans st' k⟩
        | bk s3 => simp only [qb] at k; exact fun σ' H'' O' st' I' => k σ' H'' O' st' I'
        | rt x c => simp only [qb] at k; exact k
        | er e c => simp only [qb] at k; exact k
        | stuck => simp only [qb] at k; exact k
    · have e : i = ds.length := by omega
      subst e
      rw [List.drop_length] at k
      exact .inl ⟨W.stop H O s.c I.wd p, k σ H O .refl I⟩
end
end DL

set_option Elab.async false
set_option linter.all false
set_option maxRecDepth 100000
set_option maxHeartbeats 4000000
/-! DLj: list comprehensions. -/
namespace DL
open PySem PySem.Spec L2
open PyProof.Rows hiding St

def wipeE (e : List Sl) : List Nat → List Sl
  | [] => e
  | v :: vs => (wipeE e vs).set v .un
/-- e, with e0's slots at vs -/
def mg (vs : List Nat) (e0 e : List Sl) : List Sl := match vs with
  | [] => e
  | v :: r => (mg r e0 e).set v ((e0[v]?).getD .un)
theorem wipeE_len (e : List Sl) : ∀ vs, (wipeE e vs).length = e.length
  | [] => rfl
  | v :: vs => by unfold wipeE; rw [List.length_set, wipeE_len e vs]
theorem mg_len (e0 e : List Sl) : ∀ vs, (mg vs e0 e).length = e.length
  | [] => rfl
  | v :: vs => by unfold mg; rw [List.length_set, mg_len e0 e vs]
theorem wipeE_out {e : List Sl} {j : Nat} : ∀ {vs : List Nat}, j ∉ vs → (wipeE e vs)[j]? = e[j]?
  | [], _ => rfl
  | v :: vs, h => by
    unfold wipeE
    rw [sl_ne (fun z => h (by rw [z]; exact List.mem_cons_self ..)), wipeE_out (fun z => h (List.mem_cons_of_mem _ z))]
theorem wipeE_in {e : List Sl} {j : Nat} {x : Sl} : ∀ {vs : List Nat}, j ∈ vs → (wipeE e vs)[j]? = some x → x = .un
  | [], h, _ => by cases h
  | v :: vs, h, q => by
    unfold wipeE at q
    by_cases hj : j = v
    · subst hj; exact (sl_eq q).1
    · rw [sl_ne hj] at q
      exact wipeE_in ((List.mem_cons.mp h).resolve_left hj) q
theorem mg_out {e0 e : List Sl} {j : Nat} : ∀ {vs : List Nat}, j ∉ vs → (mg vs e0 e)[j]? = e[j]?
  | [], _ => rfl
  | v :: vs, h => by
    unfold mg
    rw [sl_ne (fun z => h (by rw [z]; exact List.mem_cons_self ..)), mg_out (fun z => h (List.mem_cons_of_mem _ z))]
theorem mg_in {e0 e : List Sl} {j : Nat} {x : Sl} (hl : e0.length = e.length) : ∀ {vs : List Nat}, j ∈ vs → (mg vs e0 e)[j]? = some x → e0[j]? = some x
  | [], h, _ => by cases h
  | v :: vs, h, q => by
    unfold mg at q
    by_cases hj : j = v
    · subst hj
      obtain ⟨e1, hlt⟩ := sl_eq q
      rw [mg_len, ← hl] at hlt
      rw [List.getElem?_eq_getElem hlt] at e1 ⊢
      rw [e1]; rfl
    · rw [sl_ne hj] at q
      exact mg_in hl ((List.mem_cons.mp h).resolve_left hj) q

section
variable {F : Fx} {X : Cx} {H H' H1 H2 : Hp} {O O' O1 O2 : Addr → Prop} {σ σ' σ2 : St} {s s' s1 s2 : S} {Q : VK} {t : TE} {f g : DE} {v : V} {d : D} {vs : List Nat} {e2 : List Sl}

theorem wipe_out' {i : Nat} {vs : List Nat} (h : i ∉ vs) : (wipe σ vs)[i]? = σ[i]? := wipe_out h
theorem wipe_eq_out (hw : wipe σ2 vs = wipe σ vs) {j : Nat} (h : j ∉ vs) : σ2[j]? = σ[j]? := by
  rw [← wipe_out (σ := σ2) h, hw, wipe_out h]
/-- the block's own names forgotten -/
theorem Est.wipe (I : Est F σ H O s) (vs : List Nat) : Est F (wipe σ vs) H O { s with e := wipeE s.e vs } := by
  refine ⟨I.wd, ⟨by show (L2.wipe σ vs).length = (wipeE s.e vs).length; rw [wipe_length, wipeE_len]; exact I.env.len, fun i d q => ?_, fun i xs q => ?_, fun i j a xs ys hij q1 q2 r1 r2 => ?_⟩, I.base⟩
  · have q : (wipeE s.e vs)[i]? = some (.val d) := q
    by_cases hi : i ∈ vs
    · cases wipeE_in hi q
    · rw [wipeE_out hi] at q
      obtain ⟨v, h1, h2⟩ := I.env.vals i d q
      exact ⟨v, by rw [wipe_out hi]; exact h1, h2⟩
  · have q : (wipeE s.e vs)[i]? = some (.own xs) := q
    by_cases hi : i ∈ vs
    · cases wipeE_in hi q
    · rw [wipeE_out hi] at q
      obtain ⟨a, ws, h1, h2⟩ := I.env.owns i xs q
      exact ⟨a, ws, by rw [wipe_out hi]; exact h1, h2⟩
  · have q1 : (wipeE s.e vs)[i]? = some (.own xs) := q1
    have q2 : (wipeE s.e vs)[j]? = some (.own ys) := q2
    by_cases hi : i ∈ vs
    · cases wipeE_in hi q1
    · by_cases hj : j ∈ vs
      · cases wipeE_in hj q2
      · rw [wipeE_out hi] at q1
        rw [wipeE_out hj] at q2
        rw [wipe_out hi] at r1
        rw [wipe_out hj] at r2
        exact I.env.uniq i j a xs ys hij q1 q2 r1 r2
/-- behind a turn of the block: back in the def -/
theorem Est.back (I : Est F σ H O s) (hw : L2.wipe σ2 vs = L2.wipe σ vs) (hl2 : e2.length = s.e.length) (ho : ∀ j, j ∉ vs → e2[j]? = s.e[j]?) (hi : ∀ j xs, j ∈ vs → e2[j]? ≠ some (.own xs))
    (st : StE F.δ σ2 H O e2 H' O' s'.e) (I' : Est F σ2 H' O' s') : Est F σ H' O' { s' with e := mg vs s.e s'.e } ∧ StE F.δ σ H O s.e H' O' (mg vs s.e s'.e) := by
  have hl : s.e.length = s'.e.length := by
    have h1 : (L2.wipe σ2 vs).length = (L2.wipe σ vs).length := by rw [hw]
    rw [wipe_length, wipe_length, I.env.len, I'.env.len] at h1
    exact h1.symm
  have mine2 : ∀ {a}, Mine σ2 e2 a → ∃ j xs, j ∉ vs ∧ s.e[j]? = some (.own xs) ∧ σ[j]? = some (some (.ref a)) := fun {a} ⟨j, xs, h1, h2⟩ => by
    by_cases hj : j ∈ vs
    · exact absurd h1 (hi j xs hj)
    · exact ⟨j, xs, hj, by rw [← ho j hj]; exact h1, by rw [← wipe_eq_out hw hj]; exact h2⟩
  have mineO : ∀ {a j xs}, j ∉ vs → s'.e[j]? = some (.own xs) → σ2[j]? = some (some (.ref a)) → Mine σ s.e a := fun {a j xs} hj h1 h2 => by
    obtain ⟨k, ys, _, h3, h4⟩ := mine2 (st.mine a ⟨j, xs, h1, h2⟩)
    exact ⟨k, ys, h3, h4⟩
  refine ⟨⟨I'.wd, ⟨?_, fun j d q => ?_, fun j xs q => ?_, fun j k a xs ys hjk q1 q2 r1 r2 => ?_⟩, I'.base⟩, ⟨st.keep, st.there, st.fresh, fun a ha hn => st.stay a ha fun z => hn ?_, fun a h => ?_⟩⟩
  · show σ.length = (mg vs s.e s'.e).length
    rw [mg_len, ← hl]; exact I.env.len
  · have q : (mg vs s.e s'.e)[j]? = some (.val d) := q
    by_cases hj : j ∈ vs
    · obtain ⟨v, h1, h2⟩ := I.env.vals j d (mg_in hl hj q)
      exact ⟨v, h1, h2.step st.stp I.wd⟩
    · rw [mg_out hj] at q
      obtain ⟨v, h1, h2⟩ := I'.env.vals j d q
      exact ⟨v, by rw [← wipe_eq_out hw hj]; exact h1, h2⟩
  · have q : (mg vs s.e s'.e)[j]? = some (.own xs) := q
    by_cases hj : j ∈ vs
    · have q0 := mg_in hl hj q
      obtain ⟨a, ws, h1, h2, h3, h4, h5, h6⟩ := I.env.owns j xs q0
      refine ⟨a, ws, h1, st.stay a h2 fun z => ?_, h3, st.keep a _ h3 nt_lst h4, h5.step st.stp I.wd, h6⟩
      obtain ⟨k, ys, hk, g1, g2⟩ := mine2 z
      exact I.env.uniq j k a xs ys (fun z => hk (z ▸ hj)) q0 g1 h1 g2
    · rw [mg_out hj] at q
      obtain ⟨a, ws, h1, h2⟩ := I'.env.owns j xs q
      exact ⟨a, ws, by rw [← wipe_eq_out hw hj]; exact h1, h2⟩
  · have q1 : (mg vs s.e s'.e)[j]? = some (.own xs) := q1
    have q2 : (mg vs s.e s'.e)[k]? = some (.own ys) := q2
    have key : ∀ {j k : Nat} {xs ys : List D}, j ≠ k → j ∈ vs → k ∉ vs → (mg vs s.e s'.e)[j]? = some (.own xs) → (mg vs s.e s'.e)[k]? = some (.own ys) → σ[j]? = some (some (.ref a)) → σ[k]? = some (some (.ref a)) → False := fun {j k xs ys} hjk hj hk q1 q2 r1 r2 => by
      rw [mg_out hk] at q2
      have r2' : σ2[k]? = some (some (.ref a)) := by rw [wipe_eq_out hw hk]; exact r2
      obtain ⟨l, zs, hl', g1, g2⟩ := mine2 (st.mine a ⟨k, ys, q2, r2'⟩)
      exact I.env.uniq j l a xs zs (fun z => hl' (z ▸ hj)) (mg_in hl hj q1) g1 r1 g2
    by_cases hj : j ∈ vs
    · by_cases hk : k ∈ vs
      · exact I.env.uniq j k a xs ys hjk (mg_in hl hj q1) (mg_in hl hk q2) r1 r2
      · exact key hjk hj hk q1 q2 r1 r2
    · by_cases hk : k ∈ vs
      · exact key (Ne.symm hjk) hk hj q2 q1 r2 r1
      · rw [mg_out hj] at q1
        rw [mg_out hk] at q2
        exact I'.env.uniq j k a xs ys hjk q1 q2 (by rw [wipe_eq_out hw hj]; exact r1) (by rw [wipe_eq_out hw hk]; exact r2)
  · obtain ⟨j, xs, _, h1, h2⟩ := mine2 z
    exact ⟨j, xs, h1, h2⟩
  · obtain ⟨j, xs, h1, h2⟩ := h
    by_cases hj : j ∈ vs
    · exact ⟨j, xs, mg_in hl hj h1, h2⟩
    · rw [mg_out hj] at h1
      exact mineO hj h1 (by rw [wipe_eq_out hw hj]; exact h2)

/-- without exceptions -/
abbrev Fx.no (F : Fx) : Fx := { F with E := E0 }
theorem Est.no (I : Est F σ H O s) : Est F.no σ H O s := ⟨I.wd, ⟨I.env.len, I.env.vals, I.env.owns, I.env.uniq⟩, I.base⟩
theorem Est.yes (I : Est F.no σ H O s) : Est F σ H O s := ⟨I.wd, ⟨I.env.len, I.env.vals, I.env.owns, I.env.uniq⟩, I.base⟩

/-- a comprehension's target: its own names alone -/
def GC (F : Fx) (X : Cx) (tg : Expr) (vs : List Nat) (g : D → S → Option S) : Prop := ∃ t : TG, PG X tg t ∧
  (∀ v d σ H O s s' Q, Est F σ H O s → RepD F.m.K H O F.δ v d → g d s = some s' → (∀ σ', Est F σ' H O s' → L2.wipe σ' vs = L2.wipe σ vs → Q σ' H) → t v σ H Q) ∧
  ∀ d s s', g d s = some s' → s'.e.length = s.e.length ∧ s'.c = s.c ∧ (∀ j, j ∉ vs → s'.e[j]? = s.e[j]?) ∧ ∀ (j : Nat) (xs : List D), s'.e[j]? = some (Sl.own xs) → s.e[j]? = some (Sl.own xs)
theorem wipe_in {τ : St} {j : Nat} : ∀ {vs : List Nat}, j ∈ vs → (L2.wipe τ vs)[j]? = if j < τ.length then some none else none
  | [], h => by cases h
  | w :: vs, h => by
    unfold L2.wipe
    by_cases hj : j = w
    · subst hj
      rw [List.getElem?_set, wipe_length]
      simp
    · rw [sl_ne hj]
      exact wipe_in ((List.mem_cons.mp h).resolve_left hj)
theorem wipe_set {i : Nat} {x : Option V} {vs : List Nat} (h : i ∈ vs) : L2.wipe (σ.set i x) vs = L2.wipe σ vs := by
  apply List.ext_getElem?
  intro j
  by_cases hj : j ∈ vs
  · rw [wipe_in hj, wipe_in hj, List.length_set]
  · rw [wipe_out hj, wipe_out hj, sl_ne (fun z => hj (by rw [z]; exact h))]
theorem wipe_idem {vs : List Nat} : L2.wipe (L2.wipe σ vs) vs = L2.wipe σ vs := by
  apply List.ext_getElem?
  intro j
  by_cases hj : j ∈ vs
  · rw [wipe_in hj, wipe_in hj, wipe_length]
  · rw [wipe_out hj]
/-- a list outside the slots changes -/
theorem Est.mutO (I : Est F σ H O s) {a : Addr} {us ws : List V} (ha : O a) (hd : F.δ ≠ some a) (hH : H a = some (.lst us)) (hm : ¬ Mine σ s.e a) (h0 : F.H0 a = none) : Est F σ (upd H a (.lst ws)) O s ∧ StS H O (upd H a (.lst ws)) O := by
  have st : StS H O (upd H a (.lst ws)) O := StS.upd I.wd ha
  refine ⟨⟨⟨fun b z => ?_, fun b z => ⟨(I.wd.cel b z).1, ?_⟩, fun p hp => (I.wd.tab p hp).upd hH⟩, ⟨I.env.len, fun j d q => ?_, fun j zs q => ?_, I.env.uniq⟩, ⟨fun b o n t q => ?_, fun b q => st.there b (I.base.there b q), I.base.fresh, I.base.stay⟩⟩, st⟩
  · by_cases hb : b = a
    · subst hb; exact ⟨ws, upd_same⟩
    · rw [upd_ne hb]; exact I.wd.src b z
  · rw [upd_ne (fun q => hd (by rw [← q]; exact z))]
    exact (I.wd.cel b z).2
  · obtain ⟨v, r1, r2⟩ := I.env.vals j d q
    exact ⟨v, r1, r2.stS st I.wd⟩
  · obtain ⟨b, us, r1, r2, r3, r4, r5, r6⟩ := I.env.owns j zs q
    exact ⟨b, us, r1, r2, r3, by rw [upd_ne (fun z => hm ⟨j, zs, q, by rw [← z]; exact r1⟩)]; exact r4, r5.stS st I.wd, r6⟩
  · rw [upd_ne (fun z => by rw [z, h0] at q; cases q)]
    exact I.base.keep b o n t q
theorem gc_name (i : Nat) {x : Str} {pos : Pos} {vs : List Nat} (hnd : X.N.Nodup) (hm : i ∈ vs := by decide) (hi : X.N[i]? = some x := by rfl) (hx : Loc X.env.scope x := by first | exact Or.inl rfl | exact Or.inr rfl)
    (hf : X.fn x = true ∨ X.env.scope.names.lookup x = some .local := by first | exact .inl rfl | exact .inr rfl | assumption) : GC F X (.Name x pos) vs (gSet i) := by
  refine ⟨_, pg_name hnd hi hx hf, fun v d σ H O s s' Q I r e k => by cases e; exact k _ (I.setD i r) (wipe_set hm), fun d s s' e => ?_⟩
  cases e
  refine ⟨by simp, rfl, fun j hj => sl_ne (fun z => hj (z ▸ hm)), fun j xs q => ?_⟩
  have q : (s.e.set i (.val d))[j]? = some (.own xs) := q
  by_cases hji : j = i
  · subst hji; cases (sl_eq q).1
  · rw [sl_ne hji] at q; exact q
def GsC (F : Fx) (X : Cx) (ts : List Expr) (vs : List Nat) (g : List D → S → Option S) : Prop := ∃ t : TGs, PGs X ts t ∧
  (∀ us ds σ H O s s' Q, Est F σ H O s → RepDs F.m.K H O F.δ us ds → g ds s = some s' → (∀ σ', Est F σ' H O s' → L2.wipe σ' vs = L2.wipe σ vs → Q σ' H) → t us σ H Q) ∧
  ∀ ds s s', g ds s = some s' → ds.length = ts.length ∧ s'.e.length = s.e.length ∧ s'.c = s.c ∧ (∀ j, j ∉ vs → s'.e[j]? = s.e[j]?) ∧ ∀ (j : Nat) (xs : List D), s'.e[j]? = some (Sl.own xs) → s.e[j]? = some (Sl.own xs)
theorem gsc_nil {vs : List Nat} : GsC F X [] vs gsNil := by
  refine ⟨_, pgs_nil, fun us ds σ H O s s' Q I r e k => ?_, fun ds s s' e => ?_⟩
  · unfold gsNil at e
    split at e
    · cases r
      cases e
      exact ⟨rfl, k σ I rfl⟩
    · cases e
  · unfold gsNil at e
    split at e
    · cases e; exact ⟨rfl, rfl, rfl, fun _ _ => rfl, fun _ _ q => q⟩
    · cases e
theorem gsc_cons {e : Expr} {es : List Expr} {vs : List Nat} {g : D → S → Option S} {gs : List D → S → Option S} (h1 : GC F X e vs g) (h2 : GsC F X es vs gs)
    (hs : (assignEach (e :: es) X.env).map (·.2) = assign e X.env :: (assignEach es X.env).map (·.2) := by rfl) : GsC F X (e :: es) vs (gsCons g gs) := by
  obtain ⟨t1, p1, a1, b1⟩ := h1
  obtain ⟨t2, p2, a2, b2⟩ := h2
  refine ⟨_, pgs_cons p1 p2 hs, fun us ds σ H O s s' Q I r e k => ?_, fun ds s s' e => ?_⟩
  · unfold gsCons at e
    split at e
    · cases r with
      | cons r rs =>
        rename_i v us'
        rw [Option.bind_eq_some_iff] at e
        obtain ⟨s1', e1, e2⟩ := e
        exact ⟨v, us', rfl, a1 v _ σ H O s s1' _ I r e1 fun σ1 I1 w1 => a2 us' _ σ1 H O s1' s' Q I1 rs e2 fun σ2 I2 w2 => k σ2 I2 (w2.trans w1)⟩
    · cases e
  · unfold gsCons at e
    split at e
    · rw [Option.bind_eq_some_iff] at e
      obtain ⟨s1', e1, e2⟩ := e
      obtain ⟨c1, c2, c3, c4⟩ := b1 _ _ _ e1
      obtain ⟨d0, d1, d2, d3, d4⟩ := b2 _ _ _ e2
      exact ⟨by rw [List.length_cons, List.length_cons, d0], d1.trans c1, d2.trans c2, fun j hj => (d3 j hj).trans (c3 j hj), fun j xs q => c4 j xs (d4 j xs q)⟩
    · cases e
theorem gc_tup {es : List Expr} {kk : Nat} {pos : Pos} {vs : List Nat} {gs : List D → S → Option S} (hc : X.calm = true) (hK : F.m.K = X.K) (h : GsC F X es vs gs)
    (hn : (assignEach es X.env).length = es.length := by rfl) (hst : (assignEach es X.env).findIdx? (·.1) = none := by rfl) : GC F X (.Tuple es kk pos) vs (gTupD gs) := by
  obtain ⟨t, p, a1, b1⟩ := h
  refine ⟨_, pg_tup hc p hn hst, fun v d σ H O s s' Q I r e k => ?_, fun d s s' e => ?_⟩
  · unfold gTupD at e
    split at e
    · obtain ⟨a, us, rfl, ha, ra⟩ := r.tup_inv
      exact ⟨a, us, rfl, hK ▸ ha, by rw [ra.length, (b1 _ _ _ e).1], a1 us _ σ H O s s' Q I ra e k⟩
    · cases e
  · unfold gTupD at e
    split at e
    · exact (b1 _ _ _ e).2
    · cases e

def compL (g : D → S → Option S) (tt te : DE) (vs : List Nat) : List D → List D → S → RA
  | [], acc, s => .ok acc s
  | d :: ds, acc, s => match g d { s with e := wipeE s.e vs } with
    | none => .stuck
    | some s1 => match tt s1 with
      | .ok (.val (.bool true)) s2 => match te s2 with
        | .ok y s3 => compL g tt te vs ds (acc ++ [y.d]) { s3 with e := mg vs s.e s3.e }
        | _ => .stuck
      | .ok (.val (.bool false)) s2 => compL g tt te vs ds acc { s2 with e := mg vs s.e s2.e }
      | _ => .stuck
def eComp (vs : List Nat) (f : DA) (g : D → S → Option S) (tt te : DE) : DE := fun s => match f s with
  | .ok ds s1 => if ds.length < sizeLine then (match compL g tt te vs ds [] s1 with
    | .ok acc s2 => .ok (.own acc) s2
    | _ => .stuck) else .stuck
  | .er e c => .er e c
  | .stuck => .stuck
/-- a comprehension's tests -/
def TsO (F : Fx) (X : Cx) (ifs : List Expr) (f : DE) : Prop := ∃ t, PTs X ifs t ∧ ST F t f
def tTrue : DE := fun s => .ok (.val (.bool true)) s
theorem ts_nil : TsO F X [] tTrue := ⟨_, pts_nil, fun σ H O s Q I k => k H O .refl I⟩
theorem ts_one {e : Expr} {fe : DE} (h : TO F X e fe) : TsO F X [e] fe := let ⟨_, p, s⟩ := h; ⟨_, pts_one p, s⟩
theorem comp_sound {wi : TI} {gt : TG} {tt : TT} {te : TE} {vs : List Nat} {f : DA} {g : D → S → Option S} {ft fe : DE} (si : ∀ σ H O s R, Est F σ H O s → KI F σ H O s R (f s) → wi σ H R)
    (sg : ∀ v d σ H O s s' Q, Est F.no σ H O s → RepD F.m.K H O F.δ v d → g d s = some s' → (∀ σ', Est F.no σ' H O s' → L2.wipe σ' vs = L2.wipe σ vs → Q σ' H) → gt v σ H Q)
    (pg : ∀ d s s', g d s = some s' → s'.e.length = s.e.length ∧ s'.c = s.c ∧ (∀ j, j ∉ vs → s'.e[j]? = s.e[j]?) ∧ ∀ (j : Nat) (xs : List D), s'.e[j]? = some (Sl.own xs) → s.e[j]? = some (Sl.own xs))
    (st : ST F.no tt ft) (se : SE F.no te fe) : SE F (tLc wi gt tt te vs) (eComp vs f g ft fe) := by
  intro σ H O s Q I k
  refine si σ H O s _ I ?_
  unfold eComp at k
  cases q : f s with
  | stuck => rw [q] at k; exact k
  | er e c => rw [q] at k; exact k
  | ok ds s1 =>
    simp only [q] at k
    intro J P H1 O1 st1 I1 W w1 D hD
    split at k
    · rename_i hsz
      cases qc : compL g ft fe vs ds [] s1 with
      | stuck => simp only [qc] at k; exact k.elim
      | er e c => simp only [qc] at k; exact k.elim
      | ok acc0 s9 =>
        simp only [qc] at k
        have hHD : H D = none := by
          cases qq : H D with
          | none => rfl
          | some o => exact absurd hD (st1.there D (by rw [qq]; simp))
        have hδ : F.δ ≠ some D := fun z => by rw [(I1.wd.cel D z).2] at hD; cases hD
        refine ⟨fun i m H => m = ds.length - i ∧ i ≤ ds.length ∧ ∃ O s acc us, Est F σ H O s ∧ StE F.δ σ H1 O1 s1.e H O s.e ∧ P H O ∧ H D = some (.lst us) ∧ O D ∧ RepDs F.m.K H O F.δ us acc ∧ acc.length ≤ i ∧ compL g ft fe vs (ds.drop i) acc s = .ok acc0 s9,
          ⟨ds.length, by simp, Nat.zero_le _, OAdd O1 D, s1, [], [], I1.new hD, (StF.new hD).toE, W.keep H1 O1 s1.c _ _ I1.wd w1 ((StF.new hD).stS I1.wd), upd_same, .inr rfl, .nil, Nat.le_refl _, by simpa using qc⟩, ?_⟩
        rintro i m H2 ⟨rfl, hi, O2, s2, acc, us, I2, st2, p2, hD2, oD, ra, hla, qc2⟩
        by_cases hlt : i < ds.length
        · refine .inr ⟨W.go i H2 O2 s2.c hlt I2.wd p2, fun H => ∃ O s acc us, Est F σ H O s ∧ StE F.δ σ H1 O1 s1.e H O s.e ∧ P H O ∧ H D = some (.lst us) ∧ O D ∧ RepDs F.m.K H O F.δ us acc ∧ acc.length ≤ i + 1 ∧ compL g ft fe vs (ds.drop (i + 1)) acc s = .ok acc0 s9,
            fun H' h => ⟨ds.length - (i + 1), by omega, rfl, hlt, h⟩, fun x H3 y => ?_⟩
          obtain ⟨ex, rx⟩ := W.yld i H2 O2 s2.c x H3 ds[i] I2.wd p2 y (List.getElem?_eq_getElem hlt)
          rw [List.drop_eq_getElem_cons hlt] at qc2
          have I3 := I2.ext ex
          have st3 := st2.trans (ex.stF (δ := F.δ) (O := O2)).toE
          have p3 := W.keep H2 O2 s2.c H3 O2 I2.wd p2 (ex.stF.stS I2.wd)
          have ra3 := ra.step (ex.stF (δ := F.δ) (O := O2)).stp I2.wd
          unfold compL at qc2
          cases qg : g ds[i] { s2 with e := wipeE s2.e vs } with
          | none => rw [qg] at qc2; cases qc2
          | some s4 =>
            simp only [qg] at qc2
            obtain ⟨c1, c2, c3, c4⟩ := pg _ _ _ qg
            refine sg x ds[i] (L2.wipe σ vs) H3 O2 { s2 with e := wipeE s2.e vs } s4 _ (I3.wipe vs).no rx qg fun σ4 I4 hw4 => ?_
            have hw : L2.wipe σ4 vs = L2.wipe σ vs := hw4.trans wipe_idem
            have hl4 : s4.e.length = s2.e.length := by rw [c1, wipeE_len]
            have ho4 : ∀ j, j ∉ vs → s4.e[j]? = s2.e[j]? := fun j hj => by rw [c3 j hj]; exact wipeE_out hj
            have hi4 : ∀ j xs, j ∈ vs → s4.e[j]? ≠ some (.own xs) := fun j xs hj h => by cases wipeE_in hj (c4 j xs h)
            -- an object that stays through the block
            have dn : ∀ {σ' : St} {H' : Hp} {O' : Addr → Prop} {e' : List Sl}, StE F.δ σ4 H3 O2 s4.e H' O' e' → H' D = some (.lst us) ∧ O' D := fun {σ' H' O' e'} st => by
              refine ⟨st.keep D _ hδ nt_lst (ex _ _ hD2), st.stay D oD fun ⟨j, xs, g1, g2⟩ => ?_⟩
              have hj : j ∉ vs := fun hj => hi4 j xs hj g1
              rw [ho4 j hj] at g1
              rw [wipe_eq_out hw hj] at g2
              exact I1.env.mine (st2.mine D ⟨j, xs, g1, g2⟩) hD
            refine ⟨hw, st σ4 H3 O2 s4 _ I4 ?_⟩
            cases qt : ft s4 with
            | stuck => rw [qt] at qc2; cases qc2
            | er e c => rw [qt] at qc2; cases qc2
            | ok x5 s5 =>
              simp only [qt] at qc2
              split at qc2
              · rename_i s5' e5
                cases e5
                intro H5 O5 st5 I5
                rw [if_pos rfl]
                refine se.use I5 ?_
                cases qe : fe s5 with
                | stuck => rw [qe] at qc2; cases qc2
                | er e c => rw [qe] at qc2; cases qc2
                | ok y6 s6 =>
                  simp only [qe] at qc2
                  intro v6 H6 O6 st6 I6 r6
                  have st46 := st5.trans st6
                  obtain ⟨hD6, oD6⟩ := dn (σ' := σ4) st46
                  obtain ⟨J1, J2⟩ := I3.back hw hl4 ho4 hi4 st46 I6.yes
                  have hmD : ¬ Mine σ (mg vs s2.e s6.e) D := fun z => I1.env.mine (st3.mine D (J2.mine D z)) hD
                  obtain ⟨M1, M2⟩ := J1.mutO (us := us) (ws := us ++ [v6]) oD6 hδ hD6 hmD (h0_none I hHD)
                  have st36 := st3.trans J2
                  have p6 := W.keep H3 O2 s2.c H6 O6 I3.wd p3 (st46.stS I3.wd)
                  refine ⟨us, hD6, by rw [ra.length]; omega, O6, _, acc ++ [y6.d], us ++ [v6], M1, ⟨fun a o n t h => ?_, fun a h => M2.there a (st36.there a h), st36.fresh, st36.stay, st36.mine⟩, W.keep H6 O6 s6.c _ _ I6.wd p6 M2, upd_same, oD6, ?_, by rw [List.length_append]; simp; omega, qc2⟩
                  · rw [upd_ne (fun z => by rw [z, hD] at h; cases h)]
                    exact st36.keep a o n t h
                  · exact (RepDs.append (ra3.step st46.stp I3.wd) (.cons r6 .nil)).stS M2 I6.wd
              · rename_i s5' e5
                cases e5
                intro H5 O5 st5 I5
                rw [if_neg Bool.false_ne_true]
                obtain ⟨hD5, oD5⟩ := dn (σ' := σ4) st5
                obtain ⟨J1, J2⟩ := I3.back hw hl4 ho4 hi4 st5 I5.yes
                exact ⟨O5, _, acc, us, J1, st3.trans J2, W.keep H3 O2 s2.c H5 O5 I3.wd p3 (st5.stS I3.wd), hD5, oD5, ra3.step st5.stp I3.wd, by omega, qc2⟩
              · cases qc2
        · have e : i = ds.length := by omega
          subst e
          rw [List.drop_length] at qc2
          cases qc2
          exact .inl ⟨W.stop H2 O2 _ I2.wd p2, k (.ref D) H2 O2 (st1.trans st2) I2 ⟨D, us, rfl, oD, hδ, hD2, ra, hHD⟩⟩
    · exact k.elim
/-! ### the weakest readings -/
def canE (F : Fx) (f : DE) : TE := fun σ H Q => ∃ O s, Est F σ H O s ∧ KE F σ H O s Q (f s)
theorem canE_s : SE F (canE F f) f := fun σ H O s Q I k => ⟨O, s, I, k⟩
theorem EO.can {e : Expr} (h : EO F X e f) : PE X e (canE F f) := by
  obtain ⟨t, p, se⟩ := h
  exact ⟨fun pins s σ H Q I ⟨O, s0, I0, k⟩ => p.run pins s σ H Q I (se σ H O s0 Q I0 k)⟩
def canT (F : Fx) (f : DE) : TT := fun σ H Q => ∃ O s, Est F σ H O s ∧ KT F σ H O s Q (f s)
theorem canT_s : ST F (canT F f) f := fun σ H O s Q I k => ⟨O, s, I, k⟩
theorem TsO.can {es : List Expr} (h : TsO F X es f) : PTs X es (canT F f) := by
  obtain ⟨t, p, se⟩ := h
  exact ⟨fun pins s σ H Q I ⟨O, s0, I0, k⟩ => p.run pins s σ H Q I (se σ H O s0 Q I0 k)⟩
def canG (F : Fx) (vs : List Nat) (g : D → S → Option S) : TG := fun v σ H Q => ∃ O s s' d, Est F σ H O s ∧ RepD F.m.K H O F.δ v d ∧ g d s = some s' ∧ ∀ σ', Est F σ' H O s' → L2.wipe σ' vs = L2.wipe σ vs → Q σ' H
theorem GC.can {tg : Expr} {g : D → S → Option S} (h : GC F X tg vs g) : PG X tg (canG F vs g) := by
  obtain ⟨t, p, sg, _⟩ := h
  exact ⟨fun pins s σ H v u Q I r ⟨O, s0, s1, d, I0, rd, e, k⟩ => p.run pins s σ H v u Q I r (sg v d σ H O s0 s1 Q I0 rd e k)⟩
theorem GC.law {tg : Expr} {g : D → S → Option S} (h : GC F X tg vs g) : ∀ d s s', g d s = some s' → s'.e.length = s.e.length ∧ s'.c = s.c ∧ (∀ j, j ∉ vs → s'.e[j]? = s.e[j]?) ∧ ∀ (j : Nat) (xs : List D), s'.e[j]? = some (Sl.own xs) → s.e[j]? = some (Sl.own xs) := h.choose_spec.2.2
section
variable {elt tg iter : Expr} {ifs : List Expr} {scope : Scope} {own : List (Str × Nat)} {pos : Pos} {fi : DA} {gt : D → S → Option S} {ft fe : DE}
theorem e_comp (hc : X.calm = true) (hnd : X.N.Nodup) (hi : IO F X tg iter fi) (ok : BlkOk X.N X.env.scope scope own)
    (hg : ∀ (s : Shared) (H : Hp) (C : Addr) (cl : List (Str × Addr)) (fp : List Addr), GC F.no (X.blk s H scope (compEnvC scope cl C X.env) fp) tg (own.map (·.2)) gt)
    (hl : ∀ d s s', gt d s = some s' → s'.e.length = s.e.length ∧ s'.c = s.c ∧ (∀ j, j ∉ own.map (·.2) → s'.e[j]? = s.e[j]?) ∧ ∀ (j : Nat) (xs : List D), s'.e[j]? = some (Sl.own xs) → s.e[j]? = some (Sl.own xs))
    (ht : ∀ (s : Shared) (H : Hp) (C : Addr) (cl : List (Str × Addr)) (fp : List Addr), TsO F.no (X.blk s H scope (compEnvC scope cl C X.env) fp) ifs ft)
    (he : ∀ (s : Shared) (H : Hp) (C : Addr) (cl : List (Str × Addr)) (fp : List Addr), EO F.no (X.blk s H scope (compEnvC scope cl C X.env) fp) elt fe)
    (hs : ∀ x, foldedSetIterable iter X.env x = pure x := by intro _; rfl) : EO F X (.ListComp elt [⟨tg, iter, ifs, 0⟩] scope pos) (eComp (own.map (·.2)) fi gt ft fe) := by
  obtain ⟨wi, pi, si⟩ := hi
  exact ⟨_, pe_lc hc hnd pi ok (fun s H C cl fp => (hg s H C cl fp).can) (fun s H C cl fp => (ht s H C cl fp).can) (fun s H C cl fp => (he s H C cl fp).can) hs,
    comp_sound si (fun v d σ H O s s' Q I r e k => ⟨O, s, s', d, I, r, e, k⟩) hl canT_s canE_s⟩
/-- name = [..] on one line, the name a local one -/
theorem s_setLc (i : Nat) {y : Str} {py spos : Pos} (hc : X.calm = true) (hnd : X.N.Nodup) (hi : IO F X tg iter fi) (ok : BlkOk X.N X.env.scope scope own)
    (hg : ∀ (s : Shared) (H : Hp) (C : Addr) (cl : List (Str × Addr)) (fp : List Addr), GC F.no (X.blk s H scope (compEnvC scope cl C X.env) fp) tg (own.map (·.2)) gt)
    (hl : ∀ d s s', gt d s = some s' → s'.e.length = s.e.length ∧ s'.c = s.c ∧ (∀ j, j ∉ own.map (·.2) → s'.e[j]? = s.e[j]?) ∧ ∀ (j : Nat) (xs : List D), s'.e[j]? = some (Sl.own xs) → s.e[j]? = some (Sl.own xs))
    (ht : ∀ (s : Shared) (H : Hp) (C : Addr) (cl : List (Str × Addr)) (fp : List Addr), TsO F.no (X.blk s H scope (compEnvC scope cl C X.env) fp) ifs ft)
    (he : ∀ (s : Shared) (H : Hp) (C : Addr) (cl : List (Str × Addr)) (fp : List Addr), EO F.no (X.blk s H scope (compEnvC scope cl C X.env) fp) elt fe)
    (hsw : swapsWith (.ListComp elt [⟨tg, iter, ifs, 0⟩] scope pos) (some (.Name y py)) spos.line X.env = pure true) (hy : X.N[i]? = some y := by rfl) (hyl : X.env.scope.names.lookup y = some .local := by rfl)
    (hs : ∀ x, foldedSetIterable iter X.env x = pure x := by intro _; rfl) : SO F X (.Assign [.Name y py] (.ListComp elt [⟨tg, iter, ifs, 0⟩] scope pos) spos) (dSet i (eComp (own.map (·.2)) fi gt ft fe)) := by
  obtain ⟨wi, pi, si⟩ := hi
  have S := comp_sound (F := F) (wi := wi) (f := fi) (g := gt) (gt := canG F.no (own.map (·.2)) gt) (vs := own.map (·.2)) (tt := canT F.no ft) (te := canE F.no fe) si (fun v d σ H O s s' Q I r e k => ⟨O, s, s', d, I, r, e, k⟩) hl canT_s canE_s
  refine ⟨_, ps_setLc hc hnd hy hyl hsw pi ok (fun s H C cl fp => (hg s H C cl fp).can) (fun s H C cl fp => (ht s H C cl fp).can) (fun s H C cl fp => (he s H C cl fp).can) hs, fun Q σ H O s I k => ?_⟩
  exact S.stX I k fun y s1 v H1 O1 st I1 r k => k _ H1 O1 .refl (I.setX st I1 i r)
end
end
end DL

set_option Elab.async false
set_option linter.all false
set_option maxRecDepth 100000
set_option maxHeartbeats 4000000
/-! DLk: an own exception over ValueError: super().__init__(text); self.name = name. -/
namespace DL
open PySem PySem.Spec L2
open PyProof.Rows hiding St
open PySem.Calls

/-- the text of such an __init__ -/
def badArgs (q1 q2 : Pos) : Arguments := { posonlyargs := [], args := [{ arg := "self", annotation := none, pos := q1 }, { arg := "name", annotation := none, pos := q2 }], vararg := none, kwonlyargs := [], kw_defaults := [], kwarg := none, defaults := [] }
def badBody (w : Str) (p0 p1 p2 p3 p4 p5 p6 p7 p8 p9 p10 p11 : Pos) : List Stmt :=
  [.Expr (.Call (.Attribute (.Call (.Name "super" p0) [] [] p1) "__init__" p2) [.BinOp (.Constant (.str w) 0 p3) .Add (.Name "name" p4) p5] [] p6) p7, .Assign [.Attribute (.Name "self" p8) "name" p9] (.Name "name" p10) p11]
def badScope : Scope := { kind := .function, names := [(Str.ofString "self", .local), (Str.ofString "name", .local), (Str.ofString "__class__", .free), (Str.ofString "super", .globalImplicit)], isGenerator := false, isCoroutine := false, more := [] }

/-- what the top has written of the class -/
structure BadC (K : PySem.W.Frag) (P : Program) (mg : Str → Option Value) (C fI : Addr) : Prop where
  ox : OexC K C
  fi : PySem.W.findIn K (.ref C) "__init__" = some (some (.ref fI))
  ti : PySem.W.typeIn K (.ref fI) = some (.type "function")
  fn : ∃ (w : Str) (q1 q2 p0 p1 p2 p3 p4 p5 p6 p7 p8 p9 p10 p11 : Pos) (oc kV doc pm ct : Value) (od an : Option Addr) (osl : Array (Option Value)) (cda cc : Addr) (qn : Str), w.length ≤ 1000 ∧ (p2.endLine == p6.line) = true ∧
    K.lookup fI = some ⟨oc, od, .func (PySem.W.ksFn "__init__" qn (badArgs q1 q2) (badBody w p0 p1 p2 p3 p4 p5 p6 p7 p8 p9 p10 p11) badScope .none kV doc pm an (.ref cda) ct cc), osl⟩ ∧ PySem.W.codeIn K (.ref cda) qn = true ∧
    (∃ (ccl : Value) (cdd : Option Addr) (vs : Array Value) (ccs : Array (Option Value)) (file : Str) (tf : Tok), K.lookup cda = some ⟨ccl, cdd, .fields vs, ccs⟩ ∧ vs[2]? = some (.str file tf) ∧ ((P.main.file : Str) == file) = true) ∧
    ∃ (cl : Value) (cld : Option Addr) (csl : Array (Option Value)), K.lookup cc = some ⟨cl, cld, .cell (some (.ref C)), csl⟩
  su : PySem.W.ks_superIn K C C "__init__" = some (some (.builtin "ValueError.__init__"))
  sub : PySem.W.mroIn K C (.ref C) = some true
  sV : PySem.W.subIn K (.ref C) (.type "ValueError") = some true
  op : PySem.W.nsIn K cStatics "thirdparty.any" = some none
  nm : PySem.W.findIn K (.ref C) "name" = some none
  ms : mg "super" = none
  top : (P.main.scope.names.lookup ("super" : Str)).isSome = false

theorem bs_super : badScope.names.lookup ("super" : Str) = some .globalImplicit := by decide +kernel
theorem bs_class : badScope.names.lookup ("__class__" : Str) = some .free := by decide +kernel
theorem bs_self : badScope.names.lookup ("self" : Str) = some .local := by decide +kernel
theorem bs_name : badScope.names.lookup ("name" : Str) = some .local := by decide +kernel
section
variable {prog : Program} {w : World} {M : Model} {A : Around} {E : Value → Shared → Prop} {h : Heap} {g : Array GenState} {d : Drawn} {t : Nat} {os : OsState}
variable {nm q : Str} {C N : Addr} {bs bm : List Value} {hdct : Bool} {sn : List Str} {sub : List Value} {ab : Bool} {col : Option Bool} {dd : Option Addr} {k0 k1 k2 k3 k5 : Option Value}
/-- the bound built-in, called -/
theorem bad_wrap {u e t0 : Addr} {rest : List Value} {Q : Value → Shared → Prop} (hC : h.get? C = some (excClassObj nm q C N bs bm hdct sn sub ab col dd k0 k1 k2 k3 k5 "ValueError.__new__"))
    (he : h.get? e = some (PySem.HandSPX.excO C t0)) (hu : h.get? u = some (PySem.W.kxs_mw "ValueError.__init__" e)) (hz : rest.length ≤ sizeLine)
    (hq : ∀ h' t1, (∀ b o, b ≠ e → h.get? b = some o → h'.get? b = some o) → h'.get? e = some (PySem.HandSPX.excO C t1) → Q .none ⟨h', g, d, t, os⟩) :
    wpAny (model prog w) A (call (.ref u) rest) Q E ⟨h, g, d, t, os⟩ := by
  refine wpAny_call (codeAny_of_tree ?_)
  show wpAny _ A.in1 (callAny (.ref u) ⟨rest, []⟩) _ _ _
  simp only [callAny]
  refine wpAny_bind (wpAny_load hu ?_)
  simp only [PySem.W.kxs_mw, show (Value.type "method-wrapper" == Value.type "method" || Value.type "method-wrapper" == Value.type "builtin_function_or_method" || Value.type "method-wrapper" == Value.type "method-wrapper") = true by decide, if_true]
  refine PySem.W.KFB.if_so (by decide) ?_
  refine wpAny_bind (PySem.W.check_bound_init PySem.F.excBase_ValueError.toExcCallFacts hC he rfl ?_)
  refine wpAny_bind (wpAny_pure (wpAny_pure ?_))
  refine ⟨plainId_quiet PySem.F.excBase_ValueError.init.plain _, codeAny_builtin PySem.F.excBase_ValueError.initEntry ?_⟩
  refine PySem.W.exc_init_tree (cls := .ref C) (t0 := t0) (dv := none) (c2 := .none) (c3 := .none) (b4 := .bool false) he hz fun h' k e' t' => ?_
  exact hq h' _ k e'
end
section
variable {prog : Program} {w : World} {A : Around} {R : Result → Shared → Prop} {hp : Heap} {g : Array GenState} {d : Drawn} {t : Nat} {os : OsState} {K : PySem.W.Frag} {mg mb : Str → Option Value} {C fI e t0 : Addr} {x : Str} {tk : Tok}
theorem bad_ns {h0 h1 : Heap} {L : Addr} {m : Str → Option Value} (n : h0.Ns L m) (k : ∀ b o, h0.get? b = some o → h1.get? b = some o) : h1.Ns L m := n.keeps k
/-- its __init__, called -/
theorem bad_init (T : BadC K prog mg C fI) (X : K.In hp) (hg : hp.Ns mainGlobals mg) (hb : hp.Ns builtinsNs mb) (hbm : mb "super" = some (.type "super")) (lim : hp.NoLimit) (hr : A.depth < recursionLimit)
    (he : hp.get? e = some (PySem.HandSPX.excO C t0)) (hKe : K.lookup e = none) (hx : x.length ≤ 1000000)
    (hq : ∀ h' tk' dx t1, (∀ b o, b ≠ e → hp.get? b = some o → h'.get? b = some o) → hp.objs.size ≤ dx → dx ≠ e → h'.get? e = some ({ cls := .ref C, dict := some dx, data := .fields #[.ref t1, .none, .none, .none, .bool false, .none] } : Obj) →
      h'.Ns1 dx (fun y => if y = "name" then some (.str x tk) else none) → R (.ok (.ret .none)) ⟨h', g, d, tk', os⟩) :
    codeAny (model prog w) A (.call (.ref fI) ⟨[.ref e, .str x tk], []⟩) R ⟨hp, g, d, t, os⟩ := by
  obtain ⟨wd, q1, q2, p0, p1, p2, p3, p4, p5, p6, p7, p8, p9, p10, p11, oc, kV, doc, pm, ct, od, an, osl, cda, cc, qn, hwd, hli, lf, hcd, ⟨ccl, cdd, vs, ccs, file, tf, lc, hvs, hfile⟩, cl, cld, csl, lcell⟩ := T.fn
  obtain ⟨nm, q, N, bs, bm, sn, sub, ab, col, dd, k0, k1, k2, k3, k5, hC, hbmm⟩ := T.ox.cls
  have hcl : PySem.W.clsIn K C = some { name := nm, bases := bs, mro := .ref C :: bm, ns := N, qualname := q, hasDict := true, slotNames := sn, subclasses := sub, abstract := ab, collection := col, hasDel := false } := by unfold PySem.W.clsIn; rw [hC] <;> rfl
  refine ks_codeAny_call_defAt (fd := PySem.W.ksFn "__init__" qn (badArgs q1 q2) (badBody wd p0 p1 p2 p3 p4 p5 p6 p7 p8 p9 p10 p11) badScope .none kV doc pm an (.ref cda) ct cc) (body := badBody wd p0 p1 p2 p3 p4 p5 p6 p7 p8 p9 p10 p11) (binds := [("self", .ref e), ("name", .str x tk)])
    hr (X _ _ lf) rfl lim (PySem.W.codeRec_of X hcd) rfl (.of_eq rfl) (show ∀ x ∈ badScope.names, x.2 ≠ .cell by decide +kernel) (fun y hy => by rcases List.mem_cons.mp hy with rfl | hy; exact (rfl : badScope.names.lookup ("self" : Str) = some .local); rcases List.mem_cons.mp hy with rfl | hy; exact (rfl : badScope.names.lookup ("name" : Str) = some .local); cases hy) (fun h0 hns k0' => ?_)
  have KX0 : K.In h0 := X.keeps k0'
  have e0 := k0' _ _ he
  have ne : ∀ {h : Heap}, K.In h → h.get? e = some (PySem.HandSPX.excO C t0) → e ≠ C := fun {h} Y he z => by
    have y := Y _ _ hC
    rw [z] at he
    rw [he] at y
    cases y
  have I0 : PySem.W.InstAt h0 e (PySem.HandSPX.excO C t0) C none := ⟨e0, rfl, rfl, trivial⟩
  refine ks_wpAt_execs_cons (ks_wpAt_Expr_any (ks_wpAt_MethodCall (pl := (do return (← importBound (.Call (.Name "super" p0) [] [] p1) (callEnv (PySem.W.ksFn "__init__" qn (badArgs q1 q2) (badBody wd p0 p1 p2 p3 p4 p5 p6 p7 p8 p9 p10 p11) badScope .none kV doc pm an (.ref cda) ct cc) hp.objs.size fI)).getD true)) ?_ (by
    show (do
      let ov ← attributeBase _ _ _ _
      standAt _
      methodCall _ _ p2 p6 _ ov _ _ _) = _
    unfold methodCall methodCallPos
    rw [hli]
    rfl)))
  refine ks_wpAt_super_base (f := fI) (cc := cda) (fd := PySem.W.ksFn "__init__" qn (badArgs q1 q2) (badBody wd p0 p1 p2 p3 p4 p5 p6 p7 p8 p9 p10 p11) badScope .none kV doc pm an (.ref cda) ct cc) (ar := { arg := "self", annotation := none, pos := q1 })
    bs_super bs_class (by decide +kernel) rfl (KX0 _ _ lf) rfl rfl rfl (KX0 _ _ lc) rfl hvs hfile T.top ?_
  refine PySem.W.ks_loadName_global rfl bs_super (Calls.loadGlobal_builtin (hg.keeps k0') T.ms (hb.keeps k0') hbm ⟨rfl, ?_⟩)
  refine wpAny_loadName_free (c := cc) rfl bs_class rfl ⟨_, KX0 _ _ lcell, rfl⟩ ?_
  refine wpAny_loadName_local rfl bs_self hns (v := .ref e) rfl ?_
  refine ks_wpAny_isType_cls (KX0 _ _ hC) rfl ⟨rfl, ?_⟩
  refine ks_wpAny_call_super (KX0 _ _ hC) rfl e0 rfl (fun c z => by cases z) (PySem.W.looks_mroIn KX0 T.sub) (fun h1 eso k1' => ?_)
  have KX1 : K.In h1 := KX0.keeps k1'
  have e1 := k1' _ _ e0
  have I1 : PySem.W.InstAt h1 e (PySem.HandSPX.excO C t0) C none := ⟨e1, rfl, rfl, trivial⟩
  have hsu := T.su
  unfold PySem.W.ks_superIn at hsu
  rw [hcl] at hsu
  refine PySem.W.kxs_getMethod (K := K) PySem.W.kxs_ValueError eso (PySem.W.looks_opaque KX1 T.op) (l₀ := .ref C :: bm) (fun A Q E s k q => wpAny_bind ((PySem.W.looks_clsIn KX1 hcl) A _ E s k (wpAny_pure q))) rfl KX1 hsu (I1.type.andThen (PySem.W.looks_subIn KX1 T.sV)) (ne KX1 e1) (by decide +kernel) ?_
  have k2 : ∀ b o, h1.get? b = some o → (h1.push (PySem.W.kxs_mw "ValueError.__init__" e)).get? b = some o := fun b o z => Heap.get?_push_of_some _ z
  have hu : (h1.push (PySem.W.kxs_mw "ValueError.__init__" e)).get? h1.objs.size = some (PySem.W.kxs_mw "ValueError.__init__" e) := Heap.get?_push_at rfl rfl
  have e2 := k2 _ _ e1
  have n2 : (h1.push (PySem.W.kxs_mw "ValueError.__init__" e)).Ns hp.objs.size (fun y => List.lookup y [("name", Value.str x tk), ("self", Value.ref e)]) := bad_ns (bad_ns hns k1') k2
  have KX2 := KX1.keeps k2
  refine PySem.W.kxs_callWith (i := "ValueError.__init__") (x := e) rfl ?_
  show wpAny _ _ (evalArgs _ true ((false, eval _ _) :: []) []) _ _ _
  refine evalArgs_plain (Calls.spliced_cons ?_)
  refine wpAny_BinOp ?_
  refine Calls.Constant_str ?_
  refine wpAny_Name ?_
  refine wpAny_loadName_local rfl bs_name n2 (v := .str x tk) rfl ?_
  refine PyProof.Rows.add_str (fun t' tk' => ?_) (by rw [sizeLine_eq]; omega)
  refine Calls.spliced_nil ⟨hu, ?_⟩
  refine bad_wrap (KX2 _ _ hC) e2 hu (by show 1 ≤ sizeLine; rw [sizeLine_eq]; omega) fun h3 t1 k3' e3 => ?_
  -- self.name = name
  have KX3 : K.In h3 := fun b o z => k3' b o (fun y => by rw [y, hKe] at z; cases z) (KX2 _ _ z)
  have hLe : hp.objs.size ≠ e := fun y => by
    have z := Heap.lt_size he
    rw [← y] at z
    exact absurd z (Nat.lt_irrefl _)
  have n3 : h3.Ns hp.objs.size (fun y => List.lookup y [("name", Value.str x tk), ("self", Value.ref e)]) := by
    obtain ⟨oL, es, ep, hL, r⟩ := n2
    exact ⟨oL, es, ep, k3' _ _ hLe hL, r⟩
  refine ks_wpAt_execs_cons (wpAt_of_wpAny (plainObj_wpAny_Assign_Attribute ?_))
  refine wpAny_Name (wpAny_loadName_local rfl bs_name n3 (v := .str x tk) rfl ?_)
  refine wpAny_Name (wpAny_loadName_local rfl bs_self n3 (v := .ref e) rfl ?_)
  refine PySem.W.set_plain KX3 (ox := PySem.HandSPX.excO C t1) (od := none) ⟨e3, rfl, rfl, trivial⟩ T.ox.sa ?_
  refine PySem.HandSPX.exc_osa KX3 e3 hcl (show PySem.HandSPX.refsVE (.ref C :: bm) = true from hbmm) rfl T.nm (fun h4 tk4 dx k4 dn dne e4 hn => ?_)
  refine wpAt_of_wpAny (wpAny_execs_nil ?_)
  have kk : ∀ b o, b ≠ e → hp.get? b = some o → h3.get? b = some o := fun b o n z => k3' b o n (k2 _ _ (k1' _ _ (k0' _ _ z)))
  refine hq h4 _ dx t1 (fun b o n z => k4 b o n (kk b o n z)) (Nat.le_trans ?_ dn) dne e4 hn
  exact Nat.le_of_not_lt fun z => absurd (Heap.lt_size (show h3.get? hp.objs.size = some _ from n3.choose_spec.choose_spec.choose_spec.1)) (Nat.not_lt.mpr (Nat.le_of_lt z))
end
/-- C(e), C such a class -/
def tBad (C : Addr) (ta : TA) : St → Hp → XK → Prop := fun σ H Q => ta σ H fun vs H1 => ∃ x : Str, vs = [.str x] ∧ x.length ≤ 1000000 ∧ ∀ dx, H1 dx = none → Q (.ref C) (some dx) (upd H1 dx (.xd [("name", .str x)]))
section
variable {X : Cx} {C fI : Addr} {nx : Str} {p pos : Pos} {e : Expr} {es : List Expr} {ta : TA} {k : Nat}
theorem pmk_bad (T : BadC X.K X.prog X.mg C fI) (hr : Room (k + 1) X.A) (hg : Gl X nx) (hm : X.mg nx = some (.ref C)) (ha : PA X (e :: es) ta)
    (hdb : (nx == ("__debug__" : Str)) = false := by decide) (he : starEach (e :: es) X.env = (false, eval e X.env) :: starEach es X.env := by rfl) (hpl : (backTo pos (starEach es X.env)).any (·.1) = false := by rfl) :
    PMk X (.Call (.Name nx p) (e :: es) [] pos) (tBad C ta) := by
  intro pins s σ H Q I h
  obtain ⟨nm, q, N, bs, bm, sn, sub, ab, col, dd, k0, k1, k2, k3, k5, hC, hbm⟩ := T.ox.cls
  refine wpAny_Call_Name_kw (ld_glob I hg hm ?_ hdb)
  refine PySem.W.callWith_K (h₀ := X.base) I.ok.mod.kin T.ox.kC (thn (ha.run pos pins s σ H _ I h) fun us s1 ⟨vs, H1, I1, r1, x, ev, hx, q1⟩ => ⟨I1.kIn, ?_⟩) he hpl
  subst ev
  show wpAny _ _ (call (.ref C) us) _ _ _
  cases r1 with
  | @cons _ u0 _ ur ra rn =>
    cases rn
    obtain ⟨tk0, eu⟩ := ra
    subst eu
    obtain ⟨hp, g, dr, tk, os⟩ := s1
    have hsz : hp.objs.size ≤ hp.objs.size + 1 := Nat.le_succ _
    have hn : H1 (hp.objs.size + 1) = none := I1.hok.fresh hsz
    have kk : ∀ b o, hp.get? b = some o → ((hp.push (PySem.W.kdv_tup [.str x tk0])).push (PySem.HandSPX.excO C hp.objs.size)).get? b = some o := fun b o z => Heap.get?_push_of_some _ (Heap.get?_push_of_some _ z)
    have hget : ((hp.push (PySem.W.kdv_tup [.str x tk0])).push (PySem.HandSPX.excO C hp.objs.size)).get? (hp.objs.size + 1) = some (PySem.HandSPX.excO C hp.objs.size) := by heap_get
    have I2 : Inv X pins σ (upd H1 (hp.objs.size + 1) (exo (hp.objs.size + 1) C none)) ⟨(hp.push (PySem.W.kdv_tup [.str x tk0])).push (PySem.HandSPX.excO C hp.objs.size), g, dr, tk, os⟩ :=
      I1.laid (t' := tk) (a := hp.objs.size + 1) (o := exo (hp.objs.size + 1) C none) kk hsz (exo_ok hget)
    obtain ⟨mb, hb1, hb2⟩ := I2.mod.blt
    have hKe : X.K.lookup (hp.objs.size + 1) = none := by
      cases z : X.K.lookup (hp.objs.size + 1) with
      | none => rfl
      | some o => exact absurd (Heap.lt_size (I1.kIn _ _ z)) (by show ¬ (hp.objs.size + 1 < hp.objs.size); omega)
    refine wpAny_call (PySem.HandSPX.call_own PySem.F.excBase_ValueError (fun Y => PySem.HandSPX.refsVE_contains Y bm hbm) (I1.kIn _ _ hC) (PySem.W.looks_findIn I1.kIn T.fi) (fun self => PySem.W.bind_fn I1.kIn self T.ti) (by show 1 ≤ sizeLine; rw [sizeLine_eq]; omega) ?_)
    refine bad_init T I2.kIn (I2.mod.glob.keeps I2.bk) (hb1.keeps I2.bk) ((hb2 _ (by decide +kernel)).trans PyProof.Rows.Boot.«super») (I2.mod.nolimit.keeps I2.bk) (hr.make C [.str x tk0] []).depth hget hKe hx fun h' tk' dx t1 k4 dn dne ho hn4 => ?_
    have hdx : hp.objs.size ≤ dx := Nat.le_trans (by show hp.objs.size ≤ (hp.objs.push _ |>.push _).size; simp; omega) dn
    have nd : H1 dx = none := I1.hok.fresh hdx
    have hna : ∀ {b : Addr} {o : Obj}, hp.get? b = some o → b ≠ hp.objs.size + 1 := fun {b o} z y => absurd (Heap.lt_size z) (by rw [y]; show ¬ (hp.objs.size + 1 < hp.objs.size); omega)
    have hE : ∀ o, (upd H1 (hp.objs.size + 1) (exo (hp.objs.size + 1) C none)) (hp.objs.size + 1) = some o → o = exo (hp.objs.size + 1) C none := fun o z => by
      rw [upd_same] at z
      exact (Option.some.inj z).symm
    have eA : (upd H1 (hp.objs.size + 1) (exo (hp.objs.size + 1) C none)) (hp.objs.size + 1) = some (exo (hp.objs.size + 1) C none) := upd_same
    have nA : ∀ {b : Addr}, (upd H1 (hp.objs.size + 1) (exo (hp.objs.size + 1) C none)) b = none → b ≠ hp.objs.size + 1 := fun {b} n z => by
      rw [z, eA] at n
      cases n
    have ndx : (upd H1 (hp.objs.size + 1) (exo (hp.objs.size + 1) C none)) dx = none := by rw [upd_ne dne]; exact nd
    have ndh : ∀ {b : Addr} {o : Obj}, ((hp.push (PySem.W.kdv_tup [.str x tk0])).push (PySem.HandSPX.excO C hp.objs.size)).get? b = some o → b ≠ dx := fun {b o} z => Nat.ne_of_lt (Nat.lt_of_lt_of_le (Heap.lt_size z) dn)
    have ry : RelV (V.str x) (Value.str x tk0) := ⟨tk0, rfl⟩
    have U : Un (frs X.stack) [] (upd H1 (hp.objs.size + 1) (exo (hp.objs.size + 1) C none)) (upd (upd (upd H1 (hp.objs.size + 1) (exo (hp.objs.size + 1) C none)) dx (exd dx [("name", .str x)])) (hp.objs.size + 1) (exo (hp.objs.size + 1) C (some dx)))
        ((hp.push (PySem.W.kdv_tup [.str x tk0])).push (PySem.HandSPX.excO C hp.objs.size)) h' := {
      keep := fun b o z n _ _ => k4 b o (nA n) z
      slot := fun b o z n _ _ => ⟨o.slots, k4 b o (nA n) z⟩
      free := fun b o z n _ => by rw [upd_ne (nA n), upd_ne (ndh z)]; exact n
      there := fun b o z _ => by
        by_cases hb : b = hp.objs.size + 1
        · exact ⟨_, by rw [hb]; exact ho⟩
        · exact ⟨o, k4 b o hb z⟩
      tups := fun b xs z => by rw [upd_ne (at_ne eA z exo_tup), upd_ne (ne_of_none z ndx)]; exact z
      frzs := fun b o v z => by rw [upd_ne (at_ne eA z exo_frz), upd_ne (ne_of_none z ndx)]; exact z
      tbls := fun b ps z => ⟨#[], by rw [upd_ne (at_ne eA z exo_tbl), upd_ne (ne_of_none z ndx), z]; simp⟩ }
    have hok : HOk X.prog X.w (upd (upd (upd H1 (hp.objs.size + 1) (exo (hp.objs.size + 1) C none)) dx (exd dx [("name", .str x)])) (hp.objs.size + 1) (exo (hp.objs.size + 1) C (some dx))) h' := fun b o z => by
      by_cases hb : b = hp.objs.size + 1
      · subst hb
        rw [upd_same] at z
        cases z
        exact exo_ok ho
      · rw [upd_ne hb] at z
        by_cases hd : b = dx
        · subst hd
          rw [upd_same] at z
          cases z
          exact exd_ok hn4 (relO_put (fs := []) ry fun g => True.intro)
        · rw [upd_ne hd] at z
          exact (I2.hok b o z).stay (fun c v hc y => k4 c v (by
              rcases hc with hc | hc
              · rw [hc]
                exact hb
              · exact at_ne eA hc exo_own) y)
            (fun c hc => by rw [upd_ne (at_ne eA hc exo_own), upd_ne (ne_of_none hc ndx)]; exact hc) (fun c xs hc => by rw [upd_ne (at_ne eA hc exo_tup), upd_ne (ne_of_none hc ndx)]; exact hc)
    refine ⟨rfl, mk_end (raises_own T.ox.exC T.ox.tyC) I1 hsz kk U hok rfl I1.bare upd_same (by rw [upd_ne dne, upd_same]) nd ?_⟩
    have ex : upd (del (upd (upd (upd H1 (hp.objs.size + 1) (exo (hp.objs.size + 1) C none)) dx (exd dx [("name", .str x)])) (hp.objs.size + 1) (exo (hp.objs.size + 1) C (some dx))) (hp.objs.size + 1)) dx (.xd [("name", .str x)]) = upd H1 dx (.xd [("name", .str x)]) := by
      funext b
      by_cases hd : b = dx
      · rw [hd, upd_same, upd_same]
      · rw [upd_ne hd, upd_ne hd]
        by_cases hb : b = hp.objs.size + 1
        · rw [hb, del_same, hn]
        · rw [del_ne hb, upd_ne hb, upd_ne hd, upd_ne hb]
    rw [ex]
    exact q1 dx nd
end
end DL

set_option Elab.async false
set_option linter.all false
set_option maxRecDepth 100000
set_option maxHeartbeats 4000000
/-! DLl: raise, defs, calls with keywords. -/
namespace DL
open PySem PySem.Spec L2
open PyProof.Rows hiding St

section
variable {F : Fx} {X : Cx} {H H' H1 H2 : Hp} {O O' O1 O2 : Addr → Prop} {σ : St} {s s1 s2 : S} {Q : VK} {Qe : Ends}

/-! ### raise C(e) -/
def dRaise (k : Nat) (a : DA) : DS := fun s => match a s with
  | .ok [.str y] s1 => if y.length ≤ 1000000 then .er ⟨k, [("name", .str y)]⟩ s1.c else .stuck
  | .ok _ _ => .stuck
  | .er e c => .er e c
  | .stuck => .stuck
section
variable {C fI : Addr} {nx : Str} {p pos rpos : Pos} {e : Expr} {fa : DA} {k j : Nat}
theorem s_raise (hc : X.calm = true) (tk : Takes X fun cls d _ H => F.E cls d H) (T : BadC X.K X.prog X.mg C fI) (hcl : F.m.cl j = some C) (hr : Room (k + 1) X.A) (hg : Gl X nx) (hm : X.mg nx = some (.ref C)) (ha : AO F X [e] fa)
    (hdb : (nx == ("__debug__" : Str)) = false := by decide) (he : starEach [e] X.env = (false, eval e X.env) :: starEach [] X.env := by rfl) :
    SO F X (.Raise (some (.Call (.Name nx p) [e] [] pos)) none rpos) (dRaise j fa) := by
  obtain ⟨ta, pa, sa, _⟩ := ha
  refine ⟨_, ps_raise hc tk (pmk_bad T hr hg hm pa hdb he rfl), fun Q σ H O s I h => ?_⟩
  refine sa σ H O s _ I ?_
  unfold dRaise at h
  cases q : fa s with
  | stuck => rw [q] at h; exact h
  | er e c => rw [q] at h; exact h
  | ok ds s1 =>
    rw [q] at h
    intro vs H1 O1 st I1 r
    cases r with
    | nil => exact h.elim
    | cons r1 r2 =>
      cases r2 with
      | cons _ _ => cases r1 <;> exact h.elim
      | nil =>
        cases r1 with
        | str y =>
          by_cases hy : y.length ≤ 1000000
          · simp only [if_pos hy] at h
            refine ⟨y, rfl, hy, fun dx hdx => ?_⟩
            have e1 : Ext H1 (upd H1 dx (.xd [("name", .str y)])) := Ext.upd hdx
            exact h _ _ _ O1 (I1.ext e1).base (I1.ext e1).wd ⟨C, dx, hcl, rfl, rfl, upd_same⟩
          · simp only [if_neg hy] at h
            exact h.elim
        | _ => exact h.elim
end

/-! ### defs -/
def startS (n : Nat) (ds : List D) (c : List Int) : S := ⟨ds.map .val ++ List.replicate (n - ds.length) .un, c⟩
def RS.fin : RS → RF
  | .nx s => .ok (.val .none) s.c
  | .rt x c => .ok x c
  | .er e c => .er e c
  | _ => .stuck
def fnD (n : Nat) (g : DS) : Fn := fun ds c => (g (startS n ds c)).fin
def fxOf (m : Pm) (δ : Option Addr) (H : Hp) (O : Addr → Prop) (E : XK) (h : ∀ a, O a → H a ≠ none) : Fx := ⟨m, δ, H, O, E, h⟩

theorem vals_un : ∀ {vs : List V} {ds : List D} {K : PySem.W.Frag} {δ : Option Addr} (n : Nat), RepDs K H O δ vs ds → ∀ (i : Nat) (d : D), (ds.map Sl.val ++ List.replicate n Sl.un)[i]? = some (.val d) → ∃ v, (vs.map some ++ List.replicate n none)[i]? = some (some v) ∧ RepD K H O δ v d
  | _, _, _, _, n, .nil, i, d, h => by
    cases (List.mem_replicate.mp (List.mem_of_getElem? (show (List.replicate n Sl.un)[i]? = some (Sl.val d) from h))).2
  | _, _, _, _, n, .cons h r, 0, d, e => by
    simp at e
    subst e
    exact ⟨_, by simp, h⟩
  | _, _, _, _, n, .cons h r, i + 1, d, e => by
    obtain ⟨v, h1, h2⟩ := vals_un n r i d (by simpa using e)
    exact ⟨v, by simpa using h1, h2⟩
theorem own_un {ds : List D} {n i : Nat} {xs : List D} (h : (ds.map Sl.val ++ List.replicate n Sl.un)[i]? = some (.own xs)) : False := by
  rcases List.mem_append.mp (List.mem_of_getElem? h) with z | z
  · obtain ⟨_, _, z⟩ := List.mem_map.mp z
    cases z
  · cases (List.mem_replicate.mp z).2
theorem est_start {m : Pm} {δ : Option Addr} {H : Hp} {O : Addr → Prop} {E : XK} {c : List Int} {vs : List V} {ds : List D} {N : List Str} (w : Wd m δ H O c) (r : RepDs m.K H O δ vs ds) (hs : ∀ a, O a → H a ≠ none) :
    Est (fxOf m δ H O E hs) (L2.start N vs) H O (startS N.length ds c) := by
  refine ⟨w, ⟨?_, fun i d h => ?_, fun i xs h => (own_un h).elim, fun i j a xs ys _ h => (own_un h).elim⟩, .refl⟩
  · show (L2.start N vs).length = _
    unfold L2.start startS
    simp [r.length]
  · have q := vals_un (N.length - ds.length) r i d h
    unfold L2.start
    rw [r.length]
    exact q
section
variable {P : Program} {w : World} {K : PySem.W.Frag} {mg : Str → Option Value} {base : Heap} {m : Pm} {x qual : Str} {st : Stmt} {f : Addr} {fd : FuncData} {N ps : List Str} {k n l : Nat} {g : DS}
/-- THE RULE for a def -/
theorem okD (Fu : Fun K x qual st f fd) (Sc : FnScope N ps (defScope st)) (hK : m.K = K) (hn : ps.length = n) (hl : N.length = l)
    (hb : ∀ (cdv : Value) (A : Around) (outer : List Env) (s : Shared) (H : Hp) (E : XK) (F : Fx), F.m = m → F.E = E → Room k (A.deeper (envOfC qual (defScope st) s.heap.objs.size f cdv)) →
      BO F (cxOf (L2.CX P w) P w K mg base N qual (defScope st) f cdv A outer s H E) (defBody st) g) : FnOk P w K mg base (L2.CX P w) (k + 1) f fd ps (spD m n (fnD l g)) := by
  subst hn
  subst hl
  refine Fu.okX Sc (fun vs H Q E h => spD_len h) fun cdv A outer s H vs Q E hr h => ?_
  obtain ⟨δ, O, c, ds, hlen, wd, r, h⟩ := h
  have hs : ∀ a, O a → H a ≠ none := fun a z => by
    obtain ⟨xs, q⟩ := wd.src a z
    rw [q]
    simp
  obtain ⟨t, pt, sg⟩ := hb cdv A outer s H E (fxOf m δ H O E hs) rfl rfl hr
  refine ⟨t, pt, sg _ _ H O (startS N.length ds c) (est_start wd r hs) ?_⟩
  unfold fnD at h
  cases q : g (startS N.length ds c) with
  | nx s' =>
    rw [q] at h
    exact fun σ' H' O' _ I => h .non H' O' I.base I.wd .non
  | rt x c' =>
    rw [q] at h
    exact fun v H' O' st w' sx => h v H' O' st w' sx
  | er e c' =>
    rw [q] at h
    exact fun cls dd H' O' st w' er => h cls dd H' O' st w' er
  | bk s' => rw [q] at h; exact h.elim
  | ct s' => rw [q] at h; exact h.elim
  | stuck => rw [q] at h; exact h.elim
end

/-! ### calls with keywords -/
def gJ {α : Type} (n j : Nat) (us ws : List α) : List α := if us.length = j ∧ ws.length = n - j then us ++ ws else []
theorem kb_of {K : PySem.W.Frag} {fd : FuncData} {ps ks : List Str} {n j : Nat} (hn : ps.length = n + 1) (h : ∀ us ws : List Value, us.length = j → ws.length = n + 1 - j → bindArgs fd ⟨us, ks.zip ws⟩ = pure (ps.zip (us ++ ws))) : KBinds K fd ps ks (gJ (n + 1) j) (gJ (n + 1) j) where
  to := fun s us ws _ hl => by
    unfold gJ at hl ⊢
    by_cases hc : us.length = j ∧ ws.length = n + 1 - j
    · rw [if_pos hc]
      exact .of_eq (h us ws hc.1 hc.2)
    · rw [if_neg hc, hn] at hl
      cases hl
  rel := fun {vs us zs ws} r rz => by
    unfold gJ
    rw [r.length, rz.length]
    split
    · exact r.append rz
    · exact .nil
/-- keyword values -/
def PO (F : Fx) (X : Cx) (ks : List Keyword) (f : DA) : Prop := ∃ t, PK X ks t ∧ SA F t f ∧ ∀ s ds s', f s = .ok ds s' → ds.length = ks.length
theorem k_nil : PO F X [] aNil := ⟨_, pk_nil, fun σ H O s Q I k => k [] H O .refl I .nil, fun s ds s' h => by cases h; rfl⟩
theorem k_cons {nm : Option Str} {e : Expr} {kp : Pos} {es : List Keyword} {fe : DE} {fa : DA} (he : EO F X e fe) (ha : PO F X es fa) : PO F X (⟨nm, e, kp⟩ :: es) (aCons fe fa) := by
  obtain ⟨te, pe, se⟩ := he
  obtain ⟨ta, pa, sa, la⟩ := ha
  refine ⟨_, pk_cons pe pa, s_cons se sa, fun s ds s' h => ?_⟩
  unfold aCons at h
  cases qe : fe s with
  | stuck => rw [qe] at h; cases h
  | er e c => rw [qe] at h; cases h
  | ok x s1 =>
    simp only [qe] at h
    cases qa : fa s1 with
    | stuck => simp only [qa] at h; cases h
    | er e c => simp only [qa] at h; cases h
    | ok xs s2 =>
      simp only [qa] at h
      cases h
      rw [List.length_cons, List.length_cons, la s1 xs _ qa]
def eCallK (G : Fn) (as ks : DA) : DE := fun s => (as s).bind fun ds s1 => (ks s1).bind fun es s2 => callR G (ds ++ es) s2
/-- f(k = e, ..) alone, and f(e, .., k = v, ..) -/
theorem pe_callK0 {CX : CXT} {k : Nat} {f : Addr} {fd : FuncData} {ps ks : List Str} {sp : Sp} {E : XK} {x : Str} {p pos : Pos} {kws : List Keyword} {tk : TA} {g : List Value → List Value → List Value} {gV : List V → List V → List V}
    (Fn : FnOk X.prog X.w X.K X.mg X.base CX k f fd ps sp) (hr : Room k X.A) (hg : Gl X x) (hm : X.mg x = some (.ref f)) (hk : PySem.W.keepIn X.K (.ref f) = true) (hb : KBinds X.K fd ps ks g gV) (hx : Passes CX X E)
    (hkw : PK X kws tk) (hall : (backToKw pos (keywordEach kws X.env)).all (·.1.isSome) = true := by rfl) (hks : (backToKw pos (keywordEach kws X.env)).filterMap (·.1) = ks := by rfl)
    (hdb : (x == ("__debug__" : Str)) = false := by decide)
    (hpl : ((backTo pos (starEach [] X.env)).any (·.1) || (backToKw pos (keywordEach kws X.env)).any (·.1.isNone)) = false := by rfl) :
    PE X (.Call (.Name x p) [] kws pos) (fun σ H Q => tk σ H fun zs H2 => sp (gV [] zs) H2 Q E) := by
  refine ⟨fun pins s σ H Q I h => ?_⟩
  refine wpAny_Call_Name_kw (ld_glob I hg hm ?_ hdb)
  refine PySem.W.callWith_KW0 (h₀ := X.base) I.ok.mod.kin hk hall ?_ hpl
  refine thn (hkw.run pos pins s σ H _ I h) fun ws s2 ⟨zs, H2, I2, rz, q2⟩ => ⟨I2.kIn, ?_⟩
  rw [hks]
  exact run_fnk Fn hr hb hx I2 .nil rz q2
section
variable {n j k : Nat} {fa : Addr} {fd : FuncData} {ps ks : List Str} {G : Fn} {x : Str} {p pos : Pos} {e : Expr} {es : List Expr} {kws : List Keyword} {as ak : DA}
theorem e_callK (hP : FnOk X.prog X.w X.K X.mg X.base (L2.CX X.prog X.w) k fa fd ps (spD F.m (n + 1) G)) (hr : Room k X.A) (hg : Gl X x) (hm : X.mg x = some (.ref fa)) (hk : PySem.W.keepIn X.K (.ref fa) = true) (hb : KBinds X.K fd ps ks (gJ (n + 1) j) (gJ (n + 1) j)) (hx : Passes (L2.CX X.prog X.w) X F.E)
    (ha : AO F X (e :: es) as) (hkw : PO F X kws ak) (hj : (e :: es).length = j := by rfl) (hi : kws.length = n + 1 - j := by rfl)
    (hall : (backToKw pos (keywordEach kws X.env)).all (·.1.isSome) = true := by rfl) (hks : (backToKw pos (keywordEach kws X.env)).filterMap (·.1) = ks := by rfl)
    (hdb : (x == ("__debug__" : Str)) = false := by decide) (he : starEach (e :: es) X.env = (false, eval e X.env) :: starEach es X.env := by rfl)
    (hpl : ((backTo pos (starEach (e :: es) X.env)).any (·.1) || (backToKw pos (keywordEach kws X.env)).any (·.1.isNone)) = false := by rfl) (hle : j ≤ n + 1 := by decide) :
    EO F X (.Call (.Name x p) (e :: es) kws pos) (eCallK G as ak) := by
  obtain ⟨ta, pa, sa, la⟩ := ha
  obtain ⟨tk, pk, sk, lk⟩ := hkw
  refine ⟨_, pe_callK hP hr hg hm hk hb hx pa pk hall hks hdb he hpl, fun σ H O s Q I k => ?_⟩
  refine sa.bind I k fun ds s1 vs H1 O1 q st I1 r kz => ?_
  refine sk.bind I1 kz fun es' s2 zs H2 O2 q2 st2 I2 r2 kz2 => ?_
  have h1 : vs.length = j := by rw [r.length, la _ _ _ q, hj]
  have h2 : zs.length = n + 1 - j := by rw [r2.length, lk _ _ _ q2, hi]
  show spD F.m (n + 1) G (gJ (n + 1) j vs zs) H2 Q F.E
  rw [gJ, if_pos ⟨h1, h2⟩]
  refine spD_of I2 ((r.step st2.stp I1.wd).append r2) ?_ kz2
  rw [List.length_append, la _ _ _ q, lk _ _ _ q2, hj, hi]
  omega
theorem e_callK0 (hP : FnOk X.prog X.w X.K X.mg X.base (L2.CX X.prog X.w) k fa fd ps (spD F.m (n + 1) G)) (hr : Room k X.A) (hg : Gl X x) (hm : X.mg x = some (.ref fa)) (hk : PySem.W.keepIn X.K (.ref fa) = true) (hb : KBinds X.K fd ps ks (gJ (n + 1) 0) (gJ (n + 1) 0)) (hx : Passes (L2.CX X.prog X.w) X F.E)
    (hkw : PO F X kws ak) (hi : kws.length = n + 1 := by rfl)
    (hall : (backToKw pos (keywordEach kws X.env)).all (·.1.isSome) = true := by rfl) (hks : (backToKw pos (keywordEach kws X.env)).filterMap (·.1) = ks := by rfl)
    (hdb : (x == ("__debug__" : Str)) = false := by decide)
    (hpl : ((backTo pos (starEach [] X.env)).any (·.1) || (backToKw pos (keywordEach kws X.env)).any (·.1.isNone)) = false := by rfl) :
    EO F X (.Call (.Name x p) [] kws pos) (eCall G ak) := by
  obtain ⟨tk, pk, sk, lk⟩ := hkw
  refine ⟨_, pe_callK0 hP hr hg hm hk hb hx pk hall hks hdb hpl, fun σ H O s Q I k => ?_⟩
  refine sk.bind I k fun es' s2 zs H2 O2 q2 st2 I2 r2 kz2 => ?_
  have h2 : zs.length = n + 1 - 0 := by rw [r2.length, lk _ _ _ q2, hi] <;> rfl
  show spD F.m (n + 1) G (gJ (n + 1) 0 [] zs) H2 Q F.E
  rw [gJ, if_pos ⟨rfl, h2⟩]
  exact spD_of I2 r2 (by rw [lk _ _ _ q2, hi]) kz2
end
end
end DL

set_option Elab.async false
set_option linter.all false
set_option maxRecDepth 100000
set_option maxHeartbeats 4000000
/-! DLm: all(e for x in xs), e any expression of ours that raises nothing. -/
namespace DL
open PySem PySem.Spec L2
open PyProof.Rows hiding St

/-- the context of a generator expression's code -/
abbrev gen (X : Cx) (s : Shared) (H : Hp) (env : Env) (fp : List Addr) (A : Around) : Cx := { X with A := A, s_0 := s, H_0 := H, env := env, outer := X.stack, stack := env :: X.stack, ex := fp, fn := fun _ => false, calm := true, pn := [], xe := fun _ _ => False }
structure GenOk (N : List Str) (sc scope : Scope) (own : List (Str × Nat)) : Prop where
  blk : BlkOk N sc scope own
  co : scope.isCoroutine = false
  cell : ∀ y ∈ scope.names, y.2 ≠ .cell
  dot : scope.names.lookup (".0" : Str) = some NameKind.local
section
variable {X : Cx} {pins : List (Addr × Obj)} {σ : St} {H : Hp} {s : Shared}
theorem gen_start {scope : Scope} {own : List (Str × Nat)} {fp : List Addr} {A : Around} {h5 : Heap} {g5 : Array GenState} {t5 : Nat} {code : Value} {it : Value} (I : Inv X pins σ H s) (ok : GenOk X.N X.env.scope scope own) (hN : X.N.Nodup) (hfp : ∀ b ∈ fp, FpOk X pins H b ∧ b < s.heap.objs.size)
    (hd : A.handled = none) (hfr : A.frames = some (genEnv scope (cloFrom X.env.cells scope.names []) s.heap.objs.size code builtinsNs X.env :: X.stack))
    (hns : h5.Ns s.heap.objs.size fun y => if y = ".0" then some it else none) (kp : ∀ b o, s.heap.get? b = some o → h5.get? b = some o) (hb : AllBare g5) :
    Inv (gen X s H (genEnv scope (cloFrom X.env.cells scope.names []) s.heap.objs.size code builtinsNs X.env) fp A) [] (wipe σ (own.map (·.2))) H { s with heap := h5, gens := g5, toks := t5 } := by
  have hfree : ∀ y ∈ scope.names, y.2 = .free → ∃ c, X.env.cells.lookup y.1 = some c := fun y hy e => by
    rcases ok.blk.free y hy e with k | k
    · exact I.ok.has _ (.inl k)
    · exact I.ok.has _ (.inr k)
  have cm : ∀ {y c}, (cloFrom X.env.cells scope.names []).lookup y = some c → X.env.cells.lookup y = some c := fun {y c} e => by
    rcases cloFrom_mem (PySem.mem_of_lookup e) with hm | ⟨h1, h2⟩
    · cases hm
    · obtain ⟨c1, hc⟩ := hfree _ h1 rfl
      have hc : X.env.cells.lookup y = some c1 := hc
      rw [hc] at h2
      rw [hc, h2] <;> rfl
  have look : ∀ {y}, scope.names.lookup y = some .free → ∃ c, (cloFrom X.env.cells scope.names []).lookup y = some c ∧ X.env.cells.lookup y = some c := fun {y} hl => by
    obtain ⟨c, hc⟩ := mem_lookup (cloFrom_has (cells := X.env.cells) (acc := []) (PySem.mem_of_lookup hl))
    exact ⟨c, hc, cm hc⟩
  have cold : ∀ {y c}, X.env.cells.lookup y = some c → c < s.heap.objs.size := fun {y c} e => by
    obtain ⟨v, o, ho, _⟩ := I.cell y c e
    exact Heap.lt_size ho
  have cellK : ∀ {c : Addr} {v : Option Value}, s.heap.IsCell c v → h5.IsCell c v := fun {c v} ⟨o, ho, hd⟩ => ⟨o, kp _ _ ho, hd⟩
  refine ⟨⟨I.ok.mod, ok.blk.kind, I.ok.glob, rfl, Nat.le_refl _, fun y z c e1 e2 => I.ok.inj y z c (cm e1) (cm e2), fun y hy => ?_, fun y c z _ => (by cases z), fun _ => hd, hfr, .inr ⟨rfl, rfl⟩, fun b hb => ⟨Nat.ne_of_lt (hfp b hb).2, fun y c e z => (hfp b hb).1.2.2.2.2.1 y c (cm e) z⟩,
      I.bs, Nat.le_trans I.ok.bsz I.sz, fun b o e hb => ?_, fun b hb z => ?_, I.stack, I.stkFree⟩, rfl, hb, Un.kept kp, ⟨_, hns, fun i y av e1 e2 e3 => ?_⟩, fun y c e => ?_, I.hok.fresh (Nat.le_refl _), fun y c e => I.freeC y c (cm e), fun p hp => absurd (show p ∈ ([] : List (Addr × Obj)) ++ [] from hp) (by simp), I.hok.kept kp, by rw [wipe_length]; exact I.len⟩
  · have hy : scope.names.lookup y = some .cell ∨ scope.names.lookup y = some .free := hy
    rcases hy with hy | hy
    · exact absurd rfl (ok.cell _ (PySem.mem_of_lookup hy))
    · obtain ⟨c, h1, _⟩ := look hy
      exact ⟨c, h1⟩
  · rcases (hfp b hb).1.2.2.2.1 with z | z
    · exact I.ok.noex b o e z
    · exact absurd (Nat.lt_of_lt_of_le (Heap.lt_size e) (Nat.le_trans I.ok.bsz z)) (Nat.lt_irrefl _)
  · rcases List.mem_cons.mp (I.stkSub b z) with z | z
    · exact (hfp b hb).1.2.1 z
    · exact (hfp b hb).1.2.2.1 z
  · obtain ⟨e2, hne⟩ := wipe_some e2
    have e1 : X.N[i]? = some y := e1
    have no : ∀ {k}, scope.names.lookup y = some k → k = .local ∨ k = .cell → False := fun {k} e hh => by
      rcases ok.blk.own _ (PySem.mem_of_lookup e) hh with e' | e'
      · obtain ⟨p, hp, hpy⟩ := List.mem_map.mp e'
        have e3 := ok.blk.ix p hp
        have q : p.1 = y := hpy
        rw [q] at e3
        exact hne (List.mem_map.mpr ⟨p, hp, nodup_ix hN e3 e1⟩)
      · exact e' (List.mem_of_getElem? e1)
    have e3 : Vis scope y := e3
    rcases e3 with e3 | e3 | e3
    · exact (no e3 (.inl rfl)).elim
    · exact (no e3 (.inr rfl)).elim
    · obtain ⟨m, hn, hl⟩ := I.loc
      have hvis : Vis X.env.scope y := (ok.blk.free _ (PySem.mem_of_lookup e3) rfl).elim (fun k => .inr (.inl k)) (fun k => .inr (.inr k))
      obtain ⟨w, r, q⟩ := hl i y av e1 e2 hvis
      obtain ⟨c, h1, h2⟩ := look e3
      refine ⟨w, r, .inr ⟨.inr e3, c, h1, ?_⟩⟩
      rcases q with ⟨k, _⟩ | ⟨_, c', e', z⟩
      · have k : X.env.scope.names.lookup y = some .local := k
        rcases ok.blk.free _ (PySem.mem_of_lookup e3) rfl with k' | k' <;> rw [show X.env.scope.names.lookup y = _ from k'] at k <;> cases k
      · rw [h2] at e'; cases e'
        exact cellK z
  · obtain ⟨v, z⟩ := I.cell y c (cm e)
    exact ⟨v, cellK z⟩
end

/-- the code runs: m bounds the turns that are left -/
def GT (Y : Cx) (p : Addr × Obj) (τ : St) (fp : List Addr) (tn : Nat → Heap → Prop) (W : Nat → Nat → Hp → Prop) (m : Nat) (s : Shared) : Prop := ∃ i H, Inv Y [p] τ H s ∧ tn i s.heap ∧ (∀ b ∈ fp, H b = none) ∧ W i m H
/-- the answer is known -/
def GFin (Y : Cx) (p : Addr × Obj) (Q : VK) (b : Bool) (s : Shared) : Prop := ∃ τ H, Inv Y [p] τ H s ∧ Q (.bl b) H
def GREnd (Y : Cx) (p : Addr × Obj) (Q : VK) : GenEnd := fun _ _ r s => ((r = .ok (.ret .none) ∨ r = .ok .next) ∧ GFin Y p Q true s) ∨ ∃ e, r = .error e ∧ False
def GPro (Y : Cx) (p : Addr × Obj) (Q : VK) : Protocol := fun _ _ v s kap => ∃ b, v = .bool b ∧ (∃ τ H, Inv Y [p] τ H s) ∧ (b = false → GFin Y p Q false s) ∧ (b = true → ∀ gs, AllBare gs → kap (.send .none) { s with gens := gs })
/-- what a turn is to do -/
def GStep (vs : List Nat) (σ : St) (J : It) (g : TG) (te : TE) (Q : VK) (W : Nat → Nat → Hp → Prop) : Prop := ∀ i m H, W i m H →
  (J.stop i H ∧ Q (.bl true) H) ∨ (0 < m ∧ J.go i H ∧ ∃ Nx : Hp → Prop, (∀ H', Nx H' → ∃ m', m' < m ∧ W (i + 1) m' H') ∧ ∀ x H', J.yld i H x H' → g x (wipe σ vs) H' fun σ2 H2 => wipe σ2 vs = wipe σ vs ∧ te σ2 H2 fun y H3 => ∃ b, y = .bl b ∧ (if b = true then Nx H3 else Q (.bl false) H3))
theorem Inv.gens' {Y : Cx} {pl : List (Addr × Obj)} {τ : St} {H : Hp} {s : Shared} {gs : Array GenState} (I : Inv Y pl τ H s) (h : AllBare gs) : Inv Y pl τ H { s with gens := gs } :=
  ⟨I.ok, I.os, h, I.base, I.loc, I.cell, I.free, I.freeC, I.pin, I.hok, I.len⟩
section
variable {Y : Cx} {p : Addr × Obj} {σ : St} {vs : List Nat} {fp : List Addr} {tn : Nat → Heap → Prop} {W : Nat → Nat → Hp → Prop} {J : It} {g : TG} {te : TE} {Q : VK} {B : Around} {elt tg iter : Expr} {scope : Scope} {pos : Pos} {it : Addr}
theorem seg_gen (hc : Y.calm = true) (hov : B.over (.compLoop (.GeneratorExp elt [⟨tg, iter, [], 0⟩] scope pos) 0 (.ref it) .none Y.env) [] = Y.A) (hxe : Y.xe = fun _ _ => False) (hpn : Y.pn = []) (hex : Y.ex = fp) (hco : Y.env.scope.isCoroutine = false)
    (T : Turn Y.prog Y.w Y.K tg J fp it tn) (hp : p.1 ∉ fp) (pg : PG Y tg g) (pe : PE Y elt te) (hS : GStep vs σ J g te Q W) :
    ∀ (m n : Nat), m ≤ n → ∀ (s₀ s : Shared), GT Y p (wipe σ vs) fp tn W m s →
      Seg (model Y.prog Y.w) B (GREnd Y p Q) (GPro Y p Q) n s₀ (.compLoop (.GeneratorExp elt [⟨tg, iter, [], 0⟩] scope pos) 0 (.ref it) .none Y.env)
        ((model Y.prog Y.w).den (.compLoop (.GeneratorExp elt [⟨tg, iter, [], 0⟩] scope pos) 0 (.ref it) .none Y.env)) [] s := by
  intro m
  induction m using Nat.strongRecOn with
  | ind m ih =>
    intro n hmn s₀ s ⟨i, H, I, st, nf, w0⟩
    have stat : ∀ {τ' : St} {H' : Hp} {s' : Shared}, Inv Y [p] τ' H' s' → (∀ b ∈ fp, H' b = none) → ∀ b ∈ fp, FpOk Y [p] H' b := fun {τ' H' s'} I' hn b hb =>
      ⟨hn b hb, (I'.ok.exf b (hex ▸ hb)).1, I'.ok.exfs b (hex ▸ hb), .inl (hex ▸ hb), fun x c e => (I'.ok.exf b (hex ▸ hb)).2 x c e, fun q hq => by
        rw [hpn, List.nil_append, List.mem_singleton] at hq
        rw [hq]
        exact fun z => hp (z ▸ hb)⟩
    show Seg _ B _ _ _ s₀ _ ((compTurn (.GeneratorExp elt [⟨tg, iter, [], 0⟩] scope pos) 0 (.ref it) .none Y.env).onRaise (leaving Y.env)) [] s
    rw [compTurn_gen, Sem.onRaise_eq_wrap]
    refine seg_bind_wrap (wpAny_standAt ?_)
    rcases hS i m H w0 with ⟨stop, qq⟩ | ⟨hm0, go, Nx, hNx, step⟩
    · refine seg_bind_wrap ?_
      rw [hov]
      refine thnF (T.done Y rfl rfl rfl hc i [p] s _ H (fun _ _ => False) I (stat I nf) st stop) fun r s6 ⟨hr, I6⟩ => ?_
      subst hr
      exact seg_end (.ok .next) (.inl ⟨.inr rfl, _, H, I6, qq⟩)
    · obtain ⟨n', rfl⟩ : ∃ n', n = n' + 1 := ⟨n - 1, by omega⟩
      refine seg_bind_wrap ?_
      rw [hov]
      refine thnF (T.item Y rfl rfl rfl hc i [p] s _ H (fun _ _ => False) I (stat I nf) st go) fun r s6 ⟨u, hr, h6⟩ => ?_
      subst hr
      refine seg_bind_wrap ?_
      rw [hov]
      refine thnF h6 fun _ s7 ⟨x, H7, I7, r7, y7, st7, n7⟩ => ?_
      have J7 := I7.pinned (stat I7 n7) (T.obj _ _ st7)
      refine seg_bind_wrap ?_
      rw [hov]
      have pr := pg.run _ s7 _ H7 x u _ J7 r7 (step x H7 y7)
      rw [hxe] at pr
      refine thnF pr fun _ s8 ⟨σ8, H8, I8, hw8, q8⟩ => ?_
      refine seg_bind_wrap ?_
      simp only [List.forIn_nil]
      refine wpAny_pure ?_
      simp only [if_true]
      have hy : ∀ v, yieldOut Y.env v = yieldValue v := fun v => by simp only [yieldOut, hco, Bool.false_eq_true, if_false]
      simp only [hy]
      rw [Sem.bind_eq_wrap', Sem.bind_eq_wrap', Sem.wrap_wrap, Sem.wrap_wrap]
      refine seg_wrap ?_
      rw [hov]
      have er := pe.run _ s8 σ8 H8 _ I8 q8
      rw [hxe] at er
      refine thnF er fun v s9 ⟨y, H9, I9, r9, b, eb, q9⟩ => ?_
      subst eb
      obtain rfl : v = .bool b := r9
      refine seg_at (seg_yield rfl rfl rfl ⟨b, rfl, ⟨_, _, I9.unpinned⟩, fun e => ⟨_, _, I9.unpinned, by rw [e] at q9; simpa using q9⟩, fun e gs hgs => ?_⟩)
      rw [e, if_pos rfl] at q9
      obtain ⟨m', hm', w'⟩ := hNx H9 q9
      have hl : (wipe σ vs).length = σ8.length := by rw [← hw8, wipe_length]
      have at7 : ∀ b ∈ fp, ∀ o, s7.heap.get? b = some o → s9.heap.get? b = some o ∧ H9 b = none := fun b hb o eo =>
        let z := I9.pin (b, o) (List.mem_append_right _ (List.mem_append_right _ (mem_pinsAt hb eo)))
        ⟨z.1, z.2.1⟩
      refine seg_again rfl (ih m' hm' n' (by omega) _ _ ⟨i + 1, H9, Inv.gens' ((I9.unpinned (pins := [p])).weak hl fun j v ej => ?_) hgs, T.keep _ _ _ st7 fun b hb o eo => (at7 b hb o eo).1, fun b hb => ?_, w'⟩)
      · rw [← hw8] at ej
        exact (wipe_some ej).1
      · obtain ⟨o, eo, _⟩ := T.obj _ _ st7 b hb
        exact (at7 b hb o eo).2
end

section
variable {Y : Cx} {p : Addr × Obj} {Q : VK} {A : Around} {R : Result → Shared → Prop} {a : Addr} {g : Nat}
theorem Inv.grown {pl : List (Addr × Obj)} {τ : St} {H : Hp} {s : Shared} {h' : Heap} {gs : Array GenState} {d' : Drawn} {t' : Nat} (I : Inv Y pl τ H s) (k : ∀ b o, s.heap.get? b = some o → h'.get? b = some o) (hb : AllBare gs) : Inv Y pl τ H { s with heap := h', gens := gs, drawn := d', toks := t' } :=
  I.call' (ch := []) rfl (Un.kept k) (I.hok.kept k) hb fun b z => by simp at z
/-- all's loop over such a generator -/
theorem all_drain (hh : A.handled = none) (hd : A.depth < recursionLimit) (ha : ∀ h : Heap, h.get? p.1 = some p.2 → h.IsGen a g) (hend : ∀ b s', GFin Y p Q b s' → R (.ok (.ret (.bool b))) s') :
    ∀ (n : Nat) (s : Shared), (∃ τ H, Inv Y [p] τ H s) → (∃ gs, s.gens[g]? = some gs ∧ gs.Goes (model Y.prog Y.w) A.in1.in1 (GREnd Y p Q) (GPro Y p Q) n (.send .none) (s.setGen g .running)) →
      codeAny (model Y.prog Y.w) A (.builtin "all.loop" ⟨[.ref a], []⟩) R s := by
  have pinned : ∀ {s : Shared}, (∃ τ H, Inv Y [p] τ H s) → s.heap.IsGen a g ∧ s.heap.NoLimit ∧ AllBare s.gens := fun {s} ⟨τ, H, I⟩ =>
    ⟨ha _ (I.pin p (List.mem_append_right _ (List.mem_singleton.mpr rfl))).1, I.nolimit, I.bare⟩
  have goes : ∀ {gs : GenState} {n : Nat} {s : Shared}, gs.Goes (model Y.prog Y.w) A.in1.in1 (GREnd Y p Q) (GPro Y p Q) n (.send .none) s →
      gs.Goes (model Y.prog Y.w) A.in1.in1 (fun n s₀ r s => ((r = .ok (.ret .none) ∨ r = .ok .next) ∧ GFin Y p Q true s) ∨ ∃ e, r = .error e ∧ False) (GPro Y p Q) n (.send .none) s := fun h => h
  intro n
  induction n with
  | zero =>
    intro s hI ⟨gs, hgs, hgo⟩
    obtain ⟨hg, hl, hb⟩ := pinned hI
    refine codeAny_builtin F.entry_all_loop ?_
    rw [Around.under_plainId F.plain_all_loop _]
    show wpAny _ A.in1 (pyNext (.ref a) >>= _) _ _ s
    refine wpAny_bind (next_genG (A := A.in1) (F := fun _ _ s => GFin Y p Q true s) (Er := fun _ _ => False) hh hl hd hg hgs (goes hgo) (fun v s₁ gs' hbare hv => ?_) (fun s₁ hp h' hk => ?_) fun e s₁ he => he.elim)
    · obtain ⟨b, rfl, hI1, hF, hT⟩ := hv
      cases b with
      | true => exact (hT rfl _ (pinned hI1).2.2).elim
      | false =>
        refine wpAny_bind (wpAny_holding (wpAny_truthy_bool ?_))
        refine wpAny_bind (wpAny_letGo ?_)
        simp only [Bool.false_eq_true, if_false]
        refine wpAny_bind (wpAny_rule (wpAny_pure ?_))
        obtain ⟨τ, H, I, q⟩ := hF rfl
        exact hend false _ ⟨τ, H, Inv.gens' I (allBare_setGen I.bare hbare), q⟩
    · obtain ⟨τ, H, I, q⟩ := hp
      refine wpAny_bind (wpAny_rule (wpAny_pure ?_))
      exact hend true _ ⟨τ, H, Inv.grown (Inv.gens' I (allBare_setGen I.bare rfl)) hk (allBare_setGen I.bare rfl), q⟩
  | succ n ih =>
    intro s hI ⟨gs, hgs, hgo⟩
    obtain ⟨hg, hl, hb⟩ := pinned hI
    have hgl : g < s.gens.size := (Array.getElem?_eq_some_iff.mp hgs).1
    refine codeAny_builtin F.entry_all_loop ?_
    rw [Around.under_plainId F.plain_all_loop _]
    show wpAny _ A.in1 (pyNext (.ref a) >>= _) _ _ s
    refine wpAny_bind (GenW.wpAny_gsz (n := g + 1) hgl (next_genG (A := A.in1) (F := fun _ _ s => GFin Y p Q true s) (Er := fun _ _ => False) hh hl hd hg hgs (goes hgo) (fun v s₁ gs' hbare hv => ?_) (fun s₁ hp h' hk => ?_) fun e s₁ he => he.elim))
    · intro hsz
      obtain ⟨b, rfl, hI1, hF, hT⟩ := hv
      refine wpAny_bind (wpAny_holding (wpAny_truthy_bool ?_))
      refine wpAny_bind (wpAny_letGo ?_)
      cases b with
      | true =>
        simp only [if_true]
        have hs1 : g < s₁.gens.size := by
          have q : (s₁.setGen g gs').gens.size = s₁.gens.size := GenW.setGen_size _ _ _
          have hz : g + 1 ≤ (s₁.setGen g gs').gens.size := hsz
          omega
        obtain ⟨τ, H, I⟩ := hI1
        refine wpAny_pure ⟨plainId_quiet F.plain_all_loop _, ih (s₁.setGen g gs') ⟨τ, H, Inv.gens' I (allBare_setGen I.bare hbare)⟩ ⟨gs', setGen_at hs1, ?_⟩⟩
        exact hT rfl _ (allBare_setGen (s := s₁.setGen g gs') (allBare_setGen I.bare hbare) rfl)
      | false =>
        simp only [Bool.false_eq_true, if_false]
        refine wpAny_bind (wpAny_rule (wpAny_pure ?_))
        obtain ⟨τ, H, I, q⟩ := hF rfl
        exact hend false _ ⟨τ, H, Inv.gens' I (allBare_setGen I.bare hbare), q⟩
    · intro hsz
      obtain ⟨τ, H, I, q⟩ := hp
      refine wpAny_bind (wpAny_rule (wpAny_pure ?_))
      exact hend true _ ⟨τ, H, Inv.grown (Inv.gens' I (allBare_setGen I.bare rfl)) hk (allBare_setGen I.bare rfl), q⟩
end

theorem over_room {B : Around} {k : Nat} {c : Code} (hw : c.weight = 1) (hu : c.cUnits = 3) (hh : B.handled = none) (hd : B.depth + 1 + 3 * k + 5 < recursionLimit) (hn : B.units + 3 + 16 * k + 200 < cLine) : Room k (B.over c []) :=
  ⟨hh, by show B.depth + 0 + c.weight + 3 * k + 5 < _; rw [hw]; exact hd, by show B.units + 0 + c.cUnits + 16 * k + 200 < _; rw [hu]; exact hn⟩
theorem over_frames {B : Around} {c : Code} {env : Env} {l : List Env} (hc : c.envs = [env]) (h : B.frames = some l) : (B.over c []).frames = some (env :: l) := by
  unfold Around.over
  simp only [hc, h]
  rfl
theorem compStart_seg {M : Model} {B : Around} {R : GenEnd} {Pr : Protocol} {n : Nat} {s₀ s : Shared} {elt tg iter : Expr} {scope : Scope} {pos : Pos} {it : Addr} {env : Env} {tn : Nat → Heap → Prop} {G : Shared → Prop}
    (loop : ∀ s', G s' → Seg M B R Pr n s₀ (.compLoop (.GeneratorExp elt [⟨tg, iter, [], 0⟩] scope pos) 0 (.ref it) .none env) (M.den (.compLoop (.GeneratorExp elt [⟨tg, iter, [], 0⟩] scope pos) 0 (.ref it) .none env)) [] s')
    (self : ∀ (A' : Around) (s' : Shared) (Q' : Value → Shared → Prop) (E' : Value → Shared → Prop), tn 0 s'.heap → Q' (.ref it) s' → wpAny M A' (pyIter (.ref it)) Q' E' s') (hst : tn 0 s.heap) (hG : G s)
    (hden : M.den (.compStart (.GeneratorExp elt [⟨tg, iter, [], 0⟩] scope pos) 0 (.ref it) .none env) = (compStart (.GeneratorExp elt [⟨tg, iter, [], 0⟩] scope pos) 0 (.ref it) .none env).onRaise (leaving env) := by rfl) :
    Seg M B R Pr n s₀ (.compStart (.GeneratorExp elt [⟨tg, iter, [], 0⟩] scope pos) 0 (.ref it) .none env) (M.den (.compStart (.GeneratorExp elt [⟨tg, iter, [], 0⟩] scope pos) 0 (.ref it) .none env)) [] s := by
  have lp := loop s hG
  rw [hden]
  unfold compStart
  rw [Sem.onRaise_eq_wrap]
  show Seg _ B _ _ _ s₀ _ ((ask >>= _).wrap _ _ _ _) [] s
  refine seg_bind_wrap (wpAny_askSetting ?_)
  split
  · exact seg_again rfl lp
  · refine seg_bind_wrap (wpAny_rule ?_)
    show Seg _ B _ _ _ s₀ _ ((standAt iter.pos >>= _).wrap _ _ _ _) [] s
    exact seg_bind_wrap (wpAny_standAt (seg_bind_wrap (self _ s _ _ hst (seg_again rfl lp))))
/-- all(e for x in xs) -/
def tAllG (P : Addr) (wi : TI) (g : TG) (te : TE) (vs : List Nat) : TE := fun σ H Q => wi σ H fun J H1 => GxR.TabG H1 P ∧ ∀ H2, GxR.Tabbed P H1 H2 → ∃ W : Nat → Nat → Hp → Prop, (∃ m, W 0 m H2) ∧ GStep vs σ J g te Q W
section
variable {X : Cx} {k : Nat} {elt tg iter : Expr} {scope : Scope} {own : List (Str × Nat)} {p pos gpos : Pos} {wi : TI} {g : TG} {te : TE} {c P : Addr}
theorem pe_allG (hc : X.calm = true) (hN : X.N.Nodup) (hr : Room (k + 1) X.A) (hg : Gl X "all") (hm : X.mg "all" = none) (TB : GxR.TabB X.base X.mg c P) (hcode : X.env.code = .ref c) (ok : GenOk X.N X.env.scope scope own) (hi : PI X tg iter wi)
    (hpg : ∀ (s : Shared) (H : Hp) (C : Addr) (cl : List (Str × Addr)) (code : Value) (bi : Addr) (fp : List Addr) (A : Around), PG (gen X s H (genEnv scope cl C code bi X.env) fp A) tg g)
    (hpe : ∀ (s : Shared) (H : Hp) (C : Addr) (cl : List (Str × Addr)) (code : Value) (bi : Addr) (fp : List Addr) (A : Around), Room k A → PE (gen X s H (genEnv scope cl C code bi X.env) fp A) elt te)
    (hs : ∀ v, genFold iter X.env v = pure v := by intro _; rfl) (he : starEach [.GeneratorExp elt [⟨tg, iter, [], 0⟩] scope gpos] X.env = (false, eval (.GeneratorExp elt [⟨tg, iter, [], 0⟩] scope gpos) X.env) :: starEach [] X.env := by rfl) :
    PE X (.Call (.Name "all" p) [.GeneratorExp elt [⟨tg, iter, [], 0⟩] scope gpos] [] pos) (tAllG P wi g te (own.map (·.2))) := by
  refine ⟨fun pins s σ H Q I h => ?_⟩
  refine wpAny_Call_Name_kw (ld_blt I hg hm PyProof.Rows.Boot.«all» ?_)
  refine PyProof.Rows.callWith_builtin1 ?_ he (by rfl)
  rw [he]
  show wpAny _ _ (spliced ((false, eval (.GeneratorExp elt [⟨tg, iter, [], 0⟩] scope gpos) X.env) :: backTo pos (starEach [] X.env))) _ _ s
  refine Calls.spliced_cons ?_
  have hfree : ∀ y ∈ scope.names, y.2 = .free → ∃ c, X.env.cells.lookup y.1 = some c := fun y hy e => by
    rcases ok.blk.free y hy e with k | k
    · exact I.ok.has _ (.inl k)
    · exact I.ok.has _ (.inr k)
  refine wpAny_GeneratorExp_make ok.co (closure_ok hfree) ok.cell ok.dot ok.blk.kind (by have := hr.dp; omega) ?_ hs
  refine thn (hi.run pins s σ H _ I h) fun xv s1 hx => thn hx fun itv s2 h2 => ?_
  obtain ⟨it, fp, tn, J, H2, e, I2, T, st2, f2, ⟨ps, hP, ht⟩, q⟩ := h2
  subst e
  refine ⟨I2.nolimit, ?_⟩
  have hPs : s2.heap.get? P = some { cls := .none, data := .fields ps } := I2.hok P _ hP
  have cd : PySem.W.CodeHd s2.heap c P := TB.code.keeps I2.bk
  have cont : ∀ (code : Value) (h3 : Heap) (tk : Nat) (ps' : Array Value), Heap.ExtBut P s2.heap h3 → h3.get? P = some { cls := .none, data := .fields ps' } → (∃ more, ps' = ps ++ more) → TriplesOk ps'.toList →
      wpAny (model X.prog X.w) X.A (builtinsFor X.env.globals X.env.builtins) (fun bi s₄ =>
        ∀ h', h'.Ns s₄.heap.objs.size (fun y => if y = ".0" then some (.ref it) else none) → Heap.SameBut s₄.heap.objs.size (s₄.heap.push { cls := .type "frame", data := .dict #[] }) h' →
          wpAny (model X.prog X.w) X.A (spliced (backTo pos (starEach [] X.env))) (fun vs s₂ => wpAny (model X.prog X.w) X.A (call (.builtin "all") (.ref h'.objs.size :: vs)) (EP X pins σ Q) X.xe s₂) X.xe { s₄ with
            gens := s₄.gens.push (.fresh (.compStart (.GeneratorExp elt [⟨tg, iter, [], 0⟩] scope gpos) 0 (.ref it) .none (genEnv scope (cloFrom X.env.cells scope.names []) s₄.heap.objs.size code bi X.env))),
            toks := s₄.toks + 1 + 1 + 1,
            heap := h'.push { cls := .type "generator", data := .fields #[.int s₄.gens.size 0, .str "<genexpr>" (s₄.toks + 1), .str (X.env.qual ++ "<genexpr>") (s₄.toks + 1 + 1)] } }) X.xe { s2 with heap := h3, toks := tk } := by
    intro code h3 tk ps' hx hP3 hmore ht3
    obtain ⟨bm, ob, e1, e2, e3, e4, e5, e6, e7, e8⟩ := TB.bm
    have keep3 : ∀ b u, b ≠ P → s2.heap.get? b = some u → h3.get? b = some u := fun b u hb z => hx b u hb z
    refine wpAny_builtinsFor (m := X.mg) (by rw [I2.ok.glob]; exact (I2.mod.glob.keeps I2.bk).extBut hx TB.gP) e1 e2 (keep3 _ _ e4 (I2.bk _ _ e5)) e6 e7 e8 ?_
    intro h' hns hsb
    refine Calls.spliced_nil ?_
    obtain ⟨more, rfl⟩ := hmore
    have I3 : Inv X pins σ (upd H2 P (.tbl (ps ++ more))) { s2 with heap := h3, toks := tk } := GxR.inv_tab (g' := s2.gens) (d' := s2.drawn) (t' := tk) I2 hP keep3 hP3 I2.bare
    obtain ⟨W, ⟨m0, w0⟩, hS⟩ := q (upd H2 P (.tbl (ps ++ more))) ⟨⟨ps ++ more, upd_same, ht3⟩, fun b hb => upd_ne hb⟩
    have hsz : h'.objs.size = h3.objs.size + 1 := by rw [hsb.1, Heap.size_push]
    have kp' : ∀ b o, h3.get? b = some o → h'.get? b = some o := fun b o z => hsb.extBut b o (Nat.ne_of_lt (Heap.lt_size z)) (Heap.get?_push_of_some _ z)
    have main : ∀ (go : Obj) (nm qn : Value) (tk2 : Nat), go.cls = .type "generator" → go.data = .fields #[.int s2.gens.size 0, nm, qn] → go.slots = #[] → (∀ h : Heap, (h.push go).get? h.objs.size = some go) →
        wpAny (model X.prog X.w) X.A (call (.builtin "all") [.ref h'.objs.size]) (EP X pins σ Q) X.xe { s2 with heap := h'.push go, gens := s2.gens.push (.fresh (.compStart (.GeneratorExp elt [⟨tg, iter, [], 0⟩] scope gpos) 0 (.ref it) .none (genEnv scope (cloFrom X.env.cells scope.names []) h3.objs.size code builtinsNs X.env))), toks := tk2 } := by
      intro go nm qn tk2 g1 g2 g3 g4
      have kp5 : ∀ b o, h3.get? b = some o → (h'.push go).get? b = some o := fun b o z => Heap.get?_push_of_some _ (kp' b o z)
      have neP : ∀ b ∈ fp, b ≠ P := fun b hb z => by
        have z2 := (f2 b hb).1
        rw [z, hP] at z2
        cases z2
      have st3 : tn 0 h3 := T.keep _ _ _ st2 fun b hb o eo => keep3 b o (neP b hb) eo
      have st5 : tn 0 (h'.push go) := T.keep _ _ _ st3 fun b _ o eo => kp5 b o eo
      have f3 : ∀ b ∈ fp, FpOk X pins (upd H2 P (.tbl (ps ++ more))) b ∧ b < h3.objs.size := fun b hb => by
        obtain ⟨o, eo, _⟩ := T.obj _ _ st3 b hb
        exact ⟨⟨by rw [upd_ne (neP b hb)]; exact (f2 b hb).1, (f2 b hb).2⟩, Heap.lt_size eo⟩
      have hgen : ∀ h : Heap, h.get? h'.objs.size = some go → h.IsGen h'.objs.size s2.gens.size := fun h z => ⟨go, nm, qn, z, g1, g2, g3⟩
      have hpushed : (h'.push go).get? h'.objs.size = some go := g4 _
      have bare5 : AllBare (s2.gens.push (.fresh (.compStart (.GeneratorExp elt [⟨tg, iter, [], 0⟩] scope gpos) 0 (.ref it) .none (genEnv scope (cloFrom X.env.cells scope.names []) h3.objs.size code builtinsNs X.env)))) := AllBare.push I2.bare rfl
      have hfr : (X.A.in1.in1.over (.compLoop (.GeneratorExp elt [⟨tg, iter, [], 0⟩] scope gpos) 0 (.ref it) .none (genEnv scope (cloFrom X.env.cells scope.names []) h3.objs.size code builtinsNs X.env)) []).frames = some (genEnv scope (cloFrom X.env.cells scope.names []) h3.objs.size code builtinsNs X.env :: X.stack) := by
        exact over_frames rfl I3.ok.frames
      have I5 := gen_start (t5 := tk2) (it := .ref it) (code := code) I3 ok hN f3 (show (X.A.in1.in1.over (.compLoop (.GeneratorExp elt [⟨tg, iter, [], 0⟩] scope gpos) 0 (.ref it) .none (genEnv scope (cloFrom X.env.cells scope.names []) h3.objs.size code builtinsNs X.env)) []).handled = none from hr.hd) hfr (hns.push go) kp5 bare5
      have Rm : Room k (X.A.in1.in1.over (.compLoop (.GeneratorExp elt [⟨tg, iter, [], 0⟩] scope gpos) 0 (.ref it) .none (genEnv scope (cloFrom X.env.cells scope.names []) h3.objs.size code builtinsNs X.env)) []) :=
        over_room rfl rfl hr.hd (by have := hr.dp; show X.A.depth + 1 + 3 * k + 5 < _; omega) (by have := hr.un; show X.A.units + 1 + 1 + 3 + 16 * k + 200 < _; omega)
      have pg := hpg { s2 with heap := h3, toks := tk } (upd H2 P (.tbl (ps ++ more))) h3.objs.size (cloFrom X.env.cells scope.names []) code builtinsNs fp (X.A.in1.in1.over (.compLoop (.GeneratorExp elt [⟨tg, iter, [], 0⟩] scope gpos) 0 (.ref it) .none (genEnv scope (cloFrom X.env.cells scope.names []) h3.objs.size code builtinsNs X.env)) [])
      have pe := hpe { s2 with heap := h3, toks := tk } (upd H2 P (.tbl (ps ++ more))) h3.objs.size (cloFrom X.env.cells scope.names []) code builtinsNs fp _ Rm
      have haC : h3.objs.size ≤ h'.objs.size := by rw [hsz]; exact Nat.le_succ _
      have I6 : Inv _ [(h'.objs.size, go)] (wipe σ (own.map (·.2))) (upd H2 P (.tbl (ps ++ more))) _ := I5.pins_of fun p hp => by
        rw [List.mem_singleton.mp hp]
        refine ⟨hpushed, I3.hok.fresh haC, ?_, fun z => ?_, fun v z => by rw [g2] at z; cases z⟩
        · show h'.objs.size ≠ h3.objs.size
          rw [hsz]
          exact Nat.succ_ne_self _
        · rcases List.mem_cons.mp (I3.stkSub _ z) with z | z
          · have l := I3.lt
            rw [← z] at l
            exact absurd (Nat.lt_of_lt_of_le l haC) (Nat.lt_irrefl _)
          · exact I3.nofs haC z
      have hpf : h'.objs.size ∉ fp := fun z => absurd (Nat.lt_of_lt_of_le (f3 _ z).2 haC) (Nat.lt_irrefl _)
      refine call_function_tree F.kind_all F.plain_all F.entry_all (F.args_all1 _) ?_
      unfold Builtin.«all»
      refine wpAny_bind (m := oneArg "all" _) (wpAny_pure ?_)
      refine wpAny_bind (wpAny_pyIter_gen (hgen _ hpushed) ?_)
      refine wpAny_pure ⟨plainId_quiet F.plain_all_loop _, ?_⟩
      refine all_drain (Y := gen X { s2 with heap := h3, toks := tk } (upd H2 P (.tbl (ps ++ more))) (genEnv scope (cloFrom X.env.cells scope.names []) h3.objs.size code builtinsNs X.env) fp (X.A.in1.in1.over (.compLoop (.GeneratorExp elt [⟨tg, iter, [], 0⟩] scope gpos) 0 (.ref it) .none (genEnv scope (cloFrom X.env.cells scope.names []) h3.objs.size code builtinsNs X.env)) [])) (p := (h'.objs.size, go)) (Q := Q) (A := X.A) hr.hd (by have := hr.dp; omega) hgen (fun b s' hF => ?_) m0 _ ⟨_, _, I6⟩ ⟨_, Array.getElem?_push_size .., rfl, ?_⟩
      · obtain ⟨τ, H', J', qq⟩ := hF
        exact ⟨.bl b, H', I3.call' (ch := fp) J'.os J'.base J'.hok J'.bare fun b hb => ⟨(f3 b hb).1.2.2.2.1, (f3 b hb).1.2.1, (f3 b hb).1.2.2.2.2.1, (f3 b hb).1.2.2.2.2.2⟩, rfl, qq⟩
      · have loop := seg_gen (Y := gen X { s2 with heap := h3, toks := tk } (upd H2 P (.tbl (ps ++ more))) (genEnv scope (cloFrom X.env.cells scope.names []) h3.objs.size code builtinsNs X.env) fp (X.A.in1.in1.over (.compLoop (.GeneratorExp elt [⟨tg, iter, [], 0⟩] scope gpos) 0 (.ref it) .none (genEnv scope (cloFrom X.env.cells scope.names []) h3.objs.size code builtinsNs X.env)) [])) (B := X.A.in1.in1) (p := (h'.objs.size, go)) (it := it) (pos := gpos) (scope := scope) (iter := iter) (fp := fp) (Q := Q) (W := W) (σ := σ) (vs := own.map (·.2)) rfl rfl rfl rfl rfl ok.co T hpf pg pe hS m0 m0 (Nat.le_refl _)
        refine compStart_seg (loop := fun s' hs' => loop _ s' hs') (self := fun A' s' Q' E' z => T.self A' 0 s' Q' E' z) (s := Shared.setGen _ _ .running) st5 ⟨0, _, Inv.gens' I6 (allBare_setGen bare5 rfl), st5, fun b hb => (f3 b hb).1.1, w0⟩
    exact main _ _ _ _ rfl rfl rfl fun h => Heap.get?_push_size _ rfl
  cases hf : codeAmong gpos ps.toList with
  | none =>
    refine wpAny_genexprCodeX hcode (cd.code hPs ht) (cd.tab hPs) hf fun c' h' tk hx hge hlt hco' _ htab' _ => ?_
    obtain ⟨o1, vs, f1, tf, fl, tg1, inF, tx, tt, op, _, _, _, _, _, _, _, _, _, htr, _⟩ := hco'
    exact cont _ h' tk _ hx htab'.2 ⟨_, rfl⟩ htr
  | some cv =>
    refine wpAny_genexprCode_hit hcode (cd.code hPs ht) hf ?_
    exact cont cv s2.heap s2.toks ps (Heap.ExtBut.refl _ _) hPs ⟨#[], by simp⟩ ht
end
end DL

set_option Elab.async false
set_option linter.all false
set_option maxRecDepth 100000
set_option maxHeartbeats 4000000
/-! DLn: all(..) as data. -/
namespace DL
open PySem PySem.Spec L2
open PyProof.Rows hiding St

section
variable {F : Fx} {X : Cx} {H H' H1 H2 : Hp} {O O' O1 O2 : Addr → Prop} {σ σ' σ2 : St} {s s' s1 s2 : S} {Q : VK} {t : TE} {f g : DE} {v : V} {d : D} {vs : List Nat} {e2 : List Sl} {P : Addr} {m : Pm} {δ : Option Addr} {c : List Int}
theorem code_nt {c : Addr} {q : Str} : ¬ isTbl (LamX.CodeO c q) := fun ⟨ps, h⟩ => by
  unfold LamX.CodeO at h
  cases h
theorem tab_keep (h1 : GxR.TabG H P) (h2 : GxR.Tabbed P H H') {a : Addr} {o : HO} (n : ¬ isTbl o) (e : H a = some o) : H' a = some o := by
  rw [h2.2 a (fun z => by
    obtain ⟨ps, q, _⟩ := h1
    rw [z, q] at e
    cases e
    exact n ⟨_, rfl⟩)]
  exact e
theorem Tb.tab {T : List (Addr × Option Str)} (t : Tb T H) (hu : ∀ p ∈ T, p.1 = P → p.2 = none) (h1 : GxR.TabG H P) (h2 : GxR.Tabbed P H H') : Tb T H' := fun p hp => by
  have q := t p hp
  by_cases hP : p.1 = P
  · unfold TabP
    rw [hu p hp hP, hP]
    exact h2.1
  · unfold TabP at q ⊢
    split
    · rename_i e
      rw [e] at q
      obtain ⟨ps, z, r⟩ := q
      exact ⟨ps, by rw [h2.2 _ hP]; exact z, r⟩
    · rename_i nm e
      rw [e] at q
      obtain ⟨ps, z, r, w⟩ := q
      exact ⟨ps, by rw [h2.2 _ hP]; exact z, r, fun pos cv hc => let ⟨c, e1, e2⟩ := w pos cv hc; ⟨c, e1, tab_keep h1 h2 code_nt e2⟩⟩
theorem Wd.tabbed (w : Wd m δ H O c) (hu : ∀ p ∈ m.T, p.1 = P → p.2 = none) (h1 : GxR.TabG H P) (h2 : GxR.Tabbed P H H') : Wd m δ H' O c :=
  ⟨fun a z => let ⟨xs, q⟩ := w.src a z; ⟨xs, tab_keep h1 h2 nt_lst q⟩, fun a z => let ⟨q, r⟩ := w.cel a z; ⟨q, tab_keep h1 h2 nt_lst r⟩, Tb.tab w.tab hu h1 h2⟩
theorem tab_stF (h1 : GxR.TabG H P) (h2 : GxR.Tabbed P H H') : StF δ H O H' O :=
  ⟨fun a o _ n e => tab_keep h1 h2 n e, fun a z => by
    by_cases hP : a = P
    · obtain ⟨ps, q, _⟩ := h2.1
      rw [hP, q]
      simp
    · rw [h2.2 a hP]
      exact z, fun _ z => .inl z, fun _ z => z⟩
theorem Est.tabbed (I : Est F σ H O s) (hu : ∀ p ∈ F.m.T, p.1 = P → p.2 = none) (h1 : GxR.TabG H P) (h2 : GxR.Tabbed P H H') : Est F σ H' O s :=
  I.call (tab_stF h1 h2) (I.wd.tabbed hu h1 h2)

def allL (g : D → S → Option S) (te : DE) (vs : List Nat) : List D → S → RE
  | [], s => .ok (.val (.bool true)) s
  | d :: ds, s => match g d { s with e := wipeE s.e vs } with
    | none => .stuck
    | some s1 => match te s1 with
      | .ok (.val (.bool true)) s2 => allL g te vs ds { s2 with e := mg vs s.e s2.e }
      | .ok (.val (.bool false)) s2 => .ok (.val (.bool false)) { s2 with e := mg vs s.e s2.e }
      | _ => .stuck
def eAll (vs : List Nat) (f : DA) (g : D → S → Option S) (te : DE) : DE := fun s => match f s with
  | .ok ds s1 => match allL g te vs ds s1 with
    | .ok (.val d) s2 => .ok (.val d) s2
    | _ => .stuck
  | .er e c => .er e c
  | .stuck => .stuck
theorem all_sound {wi : TI} {gt : TG} {te : TE} {vs : List Nat} {f : DA} {g : D → S → Option S} {fe : DE} (hu : ∀ p ∈ F.m.T, p.1 = P → p.2 = none) (hT : (P, none) ∈ F.m.T) (si : ∀ σ H O s R, Est F σ H O s → KI F σ H O s R (f s) → wi σ H R)
    (sg : ∀ v d σ H O s s' Q, Est F.no σ H O s → RepD F.m.K H O F.δ v d → g d s = some s' → (∀ σ', Est F.no σ' H O s' → L2.wipe σ' vs = L2.wipe σ vs → Q σ' H) → gt v σ H Q)
    (pg : ∀ d s s', g d s = some s' → s'.e.length = s.e.length ∧ s'.c = s.c ∧ (∀ j, j ∉ vs → s'.e[j]? = s.e[j]?) ∧ ∀ (j : Nat) (xs : List D), s'.e[j]? = some (Sl.own xs) → s.e[j]? = some (Sl.own xs))
    (se : SE F.no te fe) : SE F (tAllG P wi gt te vs) (eAll vs f g fe) := by
  intro σ H O s Q I k
  refine si σ H O s _ I ?_
  unfold eAll at k
  cases q : f s with
  | stuck => rw [q] at k; exact k
  | er e c => rw [q] at k; exact k
  | ok ds s1 =>
    simp only [q] at k
    intro J Pi H1 O1 st1 I1 W w1
    have tg : GxR.TabG H1 P := I1.wd.tab (P, none) hT
    refine ⟨tg, fun H2 h2 => ?_⟩
    have I2 := I1.tabbed hu tg h2
    have st2 : StF F.δ H1 O1 H2 O1 := tab_stF tg h2
    have w2 := W.keep H1 O1 s1.c H2 O1 I1.wd w1 (st2.stS I1.wd)
    cases qa : allL g fe vs ds s1 with
    | stuck => simp only [qa] at k; exact k.elim
    | er e c => simp only [qa] at k; exact k.elim
    | ok y9 s9 =>
      simp only [qa] at k
      cases y9 with
      | un => exact k.elim
      | own xs => exact k.elim
      | val d9 =>
        simp only at k
        refine ⟨fun i m H => m = ds.length - i ∧ i ≤ ds.length ∧ ∃ O s, Est F σ H O s ∧ StE F.δ σ H1 O1 s1.e H O s.e ∧ Pi H O ∧ allL g fe vs (ds.drop i) s = .ok (.val d9) s9,
          ⟨ds.length, by simp, Nat.zero_le _, O1, s1, I2, st2.toE, w2, by simpa using qa⟩, ?_⟩
        rintro i m H3 ⟨rfl, hi, O3, s3, I3, st3, p3, qa3⟩
        by_cases hlt : i < ds.length
        · refine .inr ⟨by omega, W.go i H3 O3 s3.c hlt I3.wd p3, fun H => ∃ O s, Est F σ H O s ∧ StE F.δ σ H1 O1 s1.e H O s.e ∧ Pi H O ∧ allL g fe vs (ds.drop (i + 1)) s = .ok (.val d9) s9,
            fun H' h => ⟨ds.length - (i + 1), by omega, rfl, hlt, h⟩, fun x H4 y => ?_⟩
          obtain ⟨ex, rx⟩ := W.yld i H3 O3 s3.c x H4 ds[i] I3.wd p3 y (List.getElem?_eq_getElem hlt)
          rw [List.drop_eq_getElem_cons hlt] at qa3
          have I4 := I3.ext ex
          have st4 := st3.trans (ex.stF (δ := F.δ) (O := O3)).toE
          have p4 := W.keep H3 O3 s3.c H4 O3 I3.wd p3 (ex.stF.stS I3.wd)
          unfold allL at qa3
          cases qg : g ds[i] { s3 with e := wipeE s3.e vs } with
          | none => rw [qg] at qa3; cases qa3
          | some s5 =>
            simp only [qg] at qa3
            obtain ⟨c1, c2, c3, c4⟩ := pg _ _ _ qg
            refine sg x ds[i] (L2.wipe σ vs) H4 O3 { s3 with e := wipeE s3.e vs } s5 _ (I4.wipe vs).no rx qg fun σ5 I5 hw5 => ?_
            have hw : L2.wipe σ5 vs = L2.wipe σ vs := hw5.trans wipe_idem
            have hl5 : s5.e.length = s3.e.length := by rw [c1, wipeE_len]
            have ho5 : ∀ j, j ∉ vs → s5.e[j]? = s3.e[j]? := fun j hj => by rw [c3 j hj]; exact wipeE_out hj
            have hi5 : ∀ j xs, j ∈ vs → s5.e[j]? ≠ some (.own xs) := fun j xs hj h => by cases wipeE_in hj (c4 j xs h)
            refine ⟨hw, se.use I5 ?_⟩
            cases qe : fe s5 with
            | stuck => rw [qe] at qa3; cases qa3
            | er e c => rw [qe] at qa3; cases qa3
            | ok y6 s6 =>
              simp only [qe] at qa3
              intro v6 H6 O6 st6 I6 r6
              obtain ⟨J1, J2⟩ := I4.back hw hl5 ho5 hi5 st6 I6.yes
              split at qa3
              · rename_i s6' e6
                cases e6
                cases r6.bool_inv
                refine ⟨true, rfl, ?_⟩
                rw [if_pos rfl]
                exact ⟨O6, _, J1, st4.trans J2, W.keep H4 O3 s3.c H6 O6 I4.wd p4 (st6.stS I4.wd), qa3⟩
              · rename_i s6' e6
                cases e6
                cases r6.bool_inv
                refine ⟨false, rfl, ?_⟩
                rw [if_neg Bool.false_ne_true]
                cases qa3
                exact k (.bl false) H6 O6 (st1.trans (st4.trans J2)) J1 (.bl false)
              · cases qa3
        · have e : i = ds.length := by omega
          subst e
          rw [List.drop_length] at qa3
          cases qa3
          exact .inl ⟨W.stop H3 O3 _ I3.wd p3, k (.bl true) H3 O3 (st1.trans st3) I3 (.bl true)⟩
section
variable {elt tg iter : Expr} {scope : Scope} {own : List (Str × Nat)} {p pos gpos : Pos} {fi : DA} {gt : D → S → Option S} {fe : DE} {k : Nat} {c : Addr}
theorem e_all (hc : X.calm = true) (hnd : X.N.Nodup) (hr : Room (k + 1) X.A) (hg : Gl X "all") (hm : X.mg "all" = none) (TB : GxR.TabB X.base X.mg c P) (hcode : X.env.code = .ref c) (hu : ∀ p ∈ F.m.T, p.1 = P → p.2 = none) (hT : (P, none) ∈ F.m.T)
    (ok : GenOk X.N X.env.scope scope own) (hi : IO F X tg iter fi)
    (hpg : ∀ (s : Shared) (H : Hp) (C : Addr) (cl : List (Str × Addr)) (code : Value) (bi : Addr) (fp : List Addr) (A : Around), GC F.no (gen X s H (genEnv scope cl C code bi X.env) fp A) tg (own.map (·.2)) gt)
    (hl : ∀ d s s', gt d s = some s' → s'.e.length = s.e.length ∧ s'.c = s.c ∧ (∀ j, j ∉ own.map (·.2) → s'.e[j]? = s.e[j]?) ∧ ∀ (j : Nat) (xs : List D), s'.e[j]? = some (Sl.own xs) → s.e[j]? = some (Sl.own xs))
    (hpe : ∀ (s : Shared) (H : Hp) (C : Addr) (cl : List (Str × Addr)) (code : Value) (bi : Addr) (fp : List Addr) (A : Around), Room k A → EO F.no (gen X s H (genEnv scope cl C code bi X.env) fp A) elt fe)
    (hs : ∀ v, genFold iter X.env v = pure v := by intro _; rfl) (he : starEach [.GeneratorExp elt [⟨tg, iter, [], 0⟩] scope gpos] X.env = (false, eval (.GeneratorExp elt [⟨tg, iter, [], 0⟩] scope gpos) X.env) :: starEach [] X.env := by rfl) :
    EO F X (.Call (.Name "all" p) [.GeneratorExp elt [⟨tg, iter, [], 0⟩] scope gpos] [] pos) (eAll (own.map (·.2)) fi gt fe) := by
  obtain ⟨wi, pi, si⟩ := hi
  exact ⟨_, pe_allG hc hnd hr hg hm TB hcode ok pi (fun s H C cl code bi fp A => (hpg s H C cl code bi fp A).can) (fun s H C cl code bi fp A r => (hpe s H C cl code bi fp A r).can) hs he,
    all_sound hu hT si (fun v d σ H O s s' Q I r e k => ⟨O, s, s', d, I, r, e, k⟩) hl canE_s⟩
end
end
end DL

set_option Elab.async false
set_option linter.all false
set_option maxRecDepth 100000
set_option maxHeartbeats 4000000
/-! DLo: a lambda handed to a def that calls it and tells the refused name. -/
namespace DL
open PySem PySem.Spec L2
open PyProof.Rows hiding St
open LamX hiding takes0

/-- the table at P may have grown, and a code object come; all else stands -/
def TStep (P : Addr) (H H' : Hp) : Prop := (∃ ps, H' P = some (.tbl ps)) ∧ ∀ b o, b ≠ P → H b = some o → H' b = some o
section
variable {X : Cx} {pins : List (Addr × Obj)} {σ : St} {H : Hp} {s : Shared}
theorem lam_made {c P : Addr} {params : Arguments} {body : Expr} {scope : Scope} {pos : Pos} {E : Value → Shared → Prop} {Q : Value → Shared → Prop} (I : Inv X pins σ H s) (TB : LamX.TabB X.base X.mg c P) (hcode : X.env.code = .ref c)
    (hT : TabS H P (X.env.qual ++ "<lambda>")) (hdef : defaultsOf params X.env = ([], [])) (hfree : ∀ y ∈ scope.names, y.2 = .free → ∃ c, X.env.cells.lookup y.1 = some c)
    (h : ∀ (f c' : Addr) (pm ctv : Value) (H1 : Hp) (s' : Shared), Inv X pins σ H1 s' → TStep P H H1 → TabS H1 P (X.env.qual ++ "<lambda>") →
      s'.heap.get? f = some (PySem.W.kla_obj "<lambda>" (X.env.qual ++ "<lambda>") params body scope (cloFrom X.env.cells scope.names []) pm c' ctv) → H1 f = none → f ∉ frs X.stack → H1 c' = some (CodeO c' (X.env.qual ++ "<lambda>")) → Q (.ref f) s') :
    wpAny (model X.prog X.w) X.A (eval (.Lambda params body scope pos) X.env) Q E s := by
  obtain ⟨ps, e0, ht, ha⟩ := hT
  have hT : TabS H P (X.env.qual ++ "<lambda>") := ⟨ps, e0, ht, ha⟩
  refine PySem.W.kla_eval hdef ?_
  have eP : s.heap.get? P = some { cls := .none, data := .fields ps } := I.hok P _ e0
  have young : ∀ f, s.heap.objs.size ≤ f → f ∉ frs X.stack := fun f hf z => by
    rcases List.mem_cons.mp (I.stkSub _ z) with y | y
    · have l := I.lt
      rw [← y] at l
      exact absurd (Nat.lt_of_lt_of_le l hf) (Nat.lt_irrefl _)
    · exact I.nofs hf y
  cases hc : codeAmong pos ps.toList with
  | none =>
    refine PySem.W.kla_makeFunction (mg := X.mg) (c := c) (P := P) (ps := ps) (closure_ok hfree) I.ok.glob (I.mod.glob.keeps I.bk) hcode (TB.code.keeps I.bk) eP ht hc TB.gP (TB.bm.keeps I.bk) fun c1 ctv h1 tk hx hge hlt hrec htb => ?_
    obtain ⟨c2, oc, vs, t, e2, hoc, hd, hv⟩ := hrec
    cases e2
    have hsz : s.heap.objs.size ≤ h1.objs.size := Nat.le_trans hge (Nat.le_of_lt hlt)
    have n1 : H c1 = none := I.hok.fresh hge
    have J := inv_table (t' := tk) (q := X.env.qual ++ "<lambda>") (c := c1) (more := #[rawInt pos.line, rawInt pos.col, .ref c1]) (h' := h1.push (PySem.W.kla_obj "<lambda>" (X.env.qual ++ "<lambda>") params body scope (cloFrom X.env.cells scope.names []) ((X.mg "__name__").getD .none) c1 ctv)) I e0
      (fun b o hb z => Heap.get?_push_of_some _ (hx b o hb z)) (Heap.get?_push_of_some _ htb) hge ⟨oc, vs, t, Heap.get?_push_of_some _ hoc, hd, hv⟩
    have nPc : P ≠ c1 := ne_of_none e0 n1
    have st : ∀ b o, b ≠ P → H b = some o → (upd (upd H P (.tbl (ps ++ #[rawInt pos.line, rawInt pos.col, .ref c1]))) c1 (CodeO c1 (X.env.qual ++ "<lambda>"))) b = some o := fun b o hb z => by
      rw [upd_ne (ne_of_none z n1), upd_ne hb]
      exact z
    have at_P : (upd (upd H P (.tbl (ps ++ #[rawInt pos.line, rawInt pos.col, .ref c1]))) c1 (CodeO c1 (X.env.qual ++ "<lambda>"))) P = some (.tbl (ps ++ #[rawInt pos.line, rawInt pos.col, .ref c1])) := by rw [upd_ne nPc, upd_same]
    have lst : (ps ++ #[rawInt pos.line, rawInt pos.col, .ref c1]).toList = ps.toList ++ [rawInt pos.line, rawInt pos.col, .ref c1] := by simp
    refine h h1.objs.size c1 ((X.mg "__name__").getD .none) ctv _ _ J ⟨⟨_, at_P⟩, st⟩ ⟨_, at_P, by rw [lst]; exact PySem.TriplesOk_snoc _ _ _ _ ht, fun p1 cv hcv => ?_⟩ (Heap.get?_push_size _ rfl) ?_ (young _ hsz) upd_same
    · rw [lst] at hcv
      rcases among_app _ ht hcv with z | z
      · obtain ⟨c0, z1, z2⟩ := ha p1 cv z
        refine ⟨c0, z1, st _ _ (fun y => ?_) z2⟩
        rw [y, e0] at z2
        exact codeO_ne _ (Option.some.inj z2).symm
      · exact ⟨c1, z, upd_same⟩
    · rw [upd_ne (Nat.ne_of_gt hlt), upd_ne (Nat.ne_of_gt (Nat.lt_of_lt_of_le (Heap.lt_size eP) hsz))]
      exact I.hok.fresh hsz
  | some cv =>
    obtain ⟨c1, z, hco⟩ := ha pos cv hc
    subst z
    refine PySem.W.kla_makeFunctionHit (mg := X.mg) (c := c) (P := P) (ps := ps) (closure_ok hfree) I.ok.glob (I.mod.glob.keeps I.bk) hcode (TB.code.keeps I.bk) eP ht hc (TB.bm.keeps I.bk) fun ctv h1 tk hx hsz => ?_
    have J : Inv X pins σ H { s with heap := h1.push (PySem.W.kla_obj "<lambda>" (X.env.qual ++ "<lambda>") params body scope (cloFrom X.env.cells scope.names []) ((X.mg "__name__").getD .none) c1 ctv), toks := tk } := I.kept fun b o y => Heap.get?_push_of_some _ (hx b o y)
    exact h h1.objs.size c1 ((X.mg "__name__").getD .none) ctv H _ J ⟨⟨ps, e0⟩, fun _ _ _ y => y⟩ hT (Heap.get?_push_size _ rfl) (I.hok.fresh hsz) (young _ hsz) hco
end
def tLamD (P : Addr) (q : Str) (TT : (XK → Hp → VK → Prop) → Hp → VK → Prop) (t : XK → TE) : TE := fun σ H Q => TabS H P q ∧ ∀ H1, TStep P H H1 → TabS H1 P q → TT (fun E H' Q' => t E σ H' Q') H1 Q
section
variable {X : Cx}
/-- x(lambda: body) -/
theorem pe_lamD {TT : (XK → Hp → VK → Prop) → Hp → VK → Prop} {x a : Str} {g c P : Addr} {k : Nat} {pg : Arguments} {bg : List Stmt} {sg : Scope} {dV kV doc pm cdv ct oc : Value} {an od : Option Addr} {osl : Array (Option Value)} {Ng : List Str}
    {params : Arguments} {body : Expr} {scope : Scope} {t : XK → TE} {p lpos pos : Pos} (hg : Gl X x) (hm : X.mg x = some (.ref g)) (hk : PySem.W.keepIn X.K (.ref g) = true)
    (lk : X.K.lookup g = some ⟨oc, od, .func (PySem.W.fnOf x x pg bg sg dV kV doc pm an cdv ct), osl⟩) (hcg : PySem.W.codeIn X.K cdv x = true) (hb : L2.Binds X.K (PySem.W.fnOf x x pg bg sg dV kV doc pm an cdv ct) [a] []) (Sg : FnScope Ng [a] sg) (hNg : Ng[0]? = some a) (hva : Vis sg a)
    (hG : GivesTo X Ng x sg g cdv bg a (X.env.qual ++ "<lambda>") TT)
    (TB : LamX.TabB X.base X.mg c P) (hcode : X.env.code = .ref c) (hr : Room (k + 2) X.A) (L : LamS X.env.scope scope) (hdef : defaultsOf params X.env = ([], []))
    (hbind : ∀ (q : Str) (cl : List (Str × Addr)) (pm cv ctv : Value), bindArgs (PySem.W.kla_fn "<lambda>" q params body scope cl pm cv ctv) ⟨[], []⟩ = pure [])
    (hbody : ∀ (A : Around) (outer : List Env) (s : Shared) (H : Hp) (E : XK) (f c' : Addr), Room k (A.deeper (lamEnv X scope s.heap.objs.size f c')) → PE (lamCx X A outer s H E scope f c') body (t E))
    (hdb : (x == ("__debug__" : Str)) = false := by decide) (hd : (a == ("__debug__" : Str)) = false := by decide) (hcd : (a == ("__classdict__" : Str)) = false := by decide) :
    PE X (.Call (.Name x p) [.Lambda params body scope lpos] [] pos) (tLamD P (X.env.qual ++ "<lambda>") TT t) := by
  refine ⟨fun pins s σ H Q I ⟨hT, h⟩ => ?_⟩
  refine wpAny_Call_Name_kw (ld_glob I hg hm ?_ hdb)
  refine PySem.W.callWith_K (h₀ := X.base) I.ok.mod.kin hk ?_ (by rfl) (by rfl)
  show wpAny _ _ (spliced ((false, eval (.Lambda params body scope lpos) X.env) :: backTo pos (starEach [] X.env))) _ _ s
  refine Calls.spliced_cons (lam_made I TB hcode hT hdef (L.has I.ok) fun f c' pm' ctv H1 s' I1 eN T1 hf hfn hfr hco => ?_)
  refine Calls.spliced_nil ⟨I1.kIn, ?_⟩
  have rc : codeAny (model X.prog X.w) X.A (.call (.ref g) ⟨[.ref f], []⟩) (CR C8.CX0 X.stack X.prog X.w H1 s' Q C8.E0) s' := by
    refine run_ofS (N := Ng) (ps := [a]) (us := [.ref f]) (vs := [.ref f]) lk hcg Sg hr I1.env0 (hb s' [.ref f] I1.kIn rfl) (.cons rfl .nil) rfl fun hr' => ?_
    obtain ⟨t', ht', hq'⟩ := hG f c' s' H1 Q (fun E H' Q' => t E σ H' Q') (fun W pn xe E p1 p2 tk hW => pe_act (i := 0) I1 L hf hfn hfr (hbind _ _ _ _ _) tk hW hr' (fun A outer s H hr2 => hbody A outer s H E f c' hr2) hNg hva hd hcd) hco (h H1 eN T1)
    exact ⟨t', ht'.nox, hq'⟩
  refine wpAny_call (codeAny_mono rc fun r s2 hq => ?_)
  cases r with
  | error e => exact (show False from hq).elim
  | ok fl =>
    cases fl with
    | ret u => exact I1.after hq
    | next => exact False.elim hq
    | brk => exact False.elim hq
    | cont => exact False.elim hq
theorem takes_len {X : Cx} {W : WX} {l : Nat} (hl : X.N.length = l) (tk : Takes X W) : Takes X fun cls d σ H => σ.length = l → W cls d σ H := fun u s' ⟨a, B, sI, pins, σ, H, cls, d, e, I, nb, up, sky, na, os, ag, w⟩ =>
  tk u s' ⟨a, B, sI, pins, σ, H, cls, d, e, I, nb, up, sky, na, os, ag, w (I.len.trans hl)⟩
/-- try: a() / except e as n: return n.name; return '' -/
def TRef (C : Addr) : (XK → Hp → VK → Prop) → Hp → VK → Prop := fun tl H Q =>
  tl (fun cls d H' => cls = .ref C ∧ ∃ (dd : Addr) (fs : List (Str × V)) (v : V), d = some dd ∧ H' dd = some (.xd fs) ∧ fs.lookup ("name" : Str) = some v ∧ Q v H') H fun _ H' => Q (.str "") H'
theorem ref_gives {x a e n q : Str} {sg : Scope} {g C : Addr} {cdg : Value} {j : Nat} {p1 p2 p3 p4 p5 p6 p7 p8 p9 p10 p11 : Pos} (hge : sg.names.lookup e = some .globalImplicit) (hme : X.mg e = some (.ref C)) (hde : (e == ("__debug__" : Str)) = false) (hnd : [a, n].Nodup) (hln : sg.names.lookup n = some .local)
    (hdn : (n == ("__debug__" : Str)) = false) (hcn : (n == ("__classdict__" : Str)) = false) (xm : PySem.W.exmOne X.K (.ref C) (.ref C) = some true) (XF : XfC X.K C) (hno : PySem.W.findIn X.K (.ref C) "name" = some none) :
    GivesTo X [a, n] x sg g cdg [.Try [.Expr (.Call (.Name a p1) [] [] p2) p3] [.ExceptHandler (some (.Name e p4)) (some n) [.Return (some (.Attribute (.Name n p5) "name" p6)) p7] p8] [] [] p9, .Return (some (.Constant (.str "") j p10)) p11] a q (TRef C) := by
  intro f c' s H Q tl act hc h
  have hgl : Gl (cxOf C8.CX0 X.prog X.w X.K X.mg X.base [a, n] x sg g cdg X.A X.stack s H C8.E0).nox e := hge
  refine ⟨_, pss_cons (ps_try_as (X := (cxOf C8.CX0 X.prog X.w X.K X.mg X.base [a, n] x sg g cdg X.A X.stack s H C8.E0).nox) (i := 1) (c := .ref C)
      (tb := fun W D σ H => ∃ Ech : XK, (∀ cls d σ' H', σ'.length = 2 → Ech cls d H' → W cls d σ' H') ∧ σ[0]? = some (some (.ref f)) ∧ H c' = some (CodeO c' q) ∧ tl Ech H fun _ H' => D.nx σ H')
      rfl rfl hnd rfl hln ⟨hgl, hde, .inl hme⟩ LamX.takes0 (fun W pn xe tk _ => ?_) (fun ax oe cls d pn hz hf => pss_one (ps_ret (pe_xf XF hno hz hf (pe_var (i := 1) rfl (.inl hln) hdn hcn))))) (pss_one (ps_ret pe_str)), ?_⟩
  · refine ⟨fun pins s' σ H' D I h' => ?_⟩
    obtain ⟨Ech, hW, h1, h2, h3⟩ := h'
    have hp := act (fun cls d σ H => σ.length = 2 → W cls d σ H) pn xe Ech p1 p2 (takes_len rfl tk) fun cls d σ' H' z l => hW cls d σ' H' l z
    have hq := pss_one (ps_expr (pos := p3) hp)
    exact hq.run pins s' σ H' D I ⟨h1, h2, h3⟩
  · refine ⟨fun cls d H' => cls = .ref C ∧ ∃ (dd : Addr) (fs : List (Str × V)) (v : V), d = some dd ∧ H' dd = some (.xd fs) ∧ fs.lookup ("name" : Str) = some v ∧ Q v H', fun cls d σ' H' hl ⟨e1, dd, fs, v, e2, e3, e4, q4⟩ => ?_, rfl, hc, h⟩
    subst e1
    refine ⟨true, xm, fun _ ax hax => ?_, fun z => by cases z⟩
    exact ⟨.ref ax, by rw [List.getElem?_set_self (by omega)], rfl, rfl, dd, fs, v, e2, e3, e4, q4⟩
end
end DL

set_option Elab.async false
set_option linter.all false
set_option maxRecDepth 100000
set_option maxHeartbeats 4000000
/-! DLp: the refused lambda as data. -/
namespace DL
open PySem PySem.Spec L2
open PyProof.Rows hiding St
open LamX hiding takes0

section
variable {F : Fx} {X : Cx} {H H' H1 H2 : Hp} {O O' O1 O2 : Addr → Prop} {σ σ' σ2 : St} {s s' s1 s2 : S} {Q : VK} {P : Addr} {m : Pm} {δ : Option Addr} {c : List Int} {q : Str}
theorem ts_keep (h1 : TabS H P q) (h2 : TStep P H H') {a : Addr} {o : HO} (n : ¬ isTbl o) (e : H a = some o) : H' a = some o :=
  h2.2 a o (fun z => by
    obtain ⟨ps, y, _⟩ := h1
    rw [z, y] at e
    cases e
    exact n ⟨_, rfl⟩) e
theorem ts_stF (h1 : TabS H P q) (h2 : TStep P H H') : StF δ H O H' O :=
  ⟨fun a o _ n e => ts_keep h1 h2 n e, fun a z => by
    by_cases hP : a = P
    · obtain ⟨ps, y⟩ := h2.1
      rw [hP, y]
      simp
    · cases y : H a with
      | none => exact absurd y z
      | some o => rw [h2.2 a o hP y]; simp, fun _ z => .inl z, fun _ z => z⟩
theorem Wd.stepped (w : Wd m δ H O c) (hu : ∀ p ∈ m.T, p.1 = P → p.2 = some q) (h1 : TabS H P q) (h2 : TStep P H H') (h3 : TabS H' P q) : Wd m δ H' O c :=
  ⟨fun a z => let ⟨xs, y⟩ := w.src a z; ⟨xs, ts_keep h1 h2 nt_lst y⟩, fun a z => let ⟨y, r⟩ := w.cel a z; ⟨y, ts_keep h1 h2 nt_lst r⟩, fun p hp => by
    have t := w.tab p hp
    by_cases hP : p.1 = P
    · unfold TabP
      rw [hu p hp hP, hP]
      exact h3
    · unfold TabP at t ⊢
      split
      · rename_i e
        rw [e] at t
        obtain ⟨ps, z, r⟩ := t
        exact ⟨ps, h2.2 _ _ hP z, r⟩
      · rename_i nm e
        rw [e] at t
        obtain ⟨ps, z, r, w⟩ := t
        exact ⟨ps, h2.2 _ _ hP z, r, fun pos cv hc => let ⟨c, e1, e2⟩ := w pos cv hc; ⟨c, e1, ts_keep h1 h2 code_nt e2⟩⟩⟩
def hide : Sl → Sl
  | .own _ => .un
  | x => x
def S.hide (s : S) : S := ⟨s.e.map DL.hide, s.c⟩
theorem hide_own {e : List Sl} {i : Nat} {xs : List D} : (e.map DL.hide)[i]? ≠ some (.own xs) := fun h => by
  rw [List.getElem?_map] at h
  cases z : e[i]? with
  | none => rw [z] at h; cases h
  | some x => rw [z] at h; cases x <;> cases h
theorem hide_val {e : List Sl} {i : Nat} {d : D} (h : (e.map DL.hide)[i]? = some (.val d)) : e[i]? = some (.val d) := by
  rw [List.getElem?_map] at h
  cases z : e[i]? with
  | none => rw [z] at h; cases h
  | some x => rw [z] at h; cases x <;> cases h; rfl
/-- seen from the lambda -/
theorem Est.seen (I : Est F σ H O s) {E : XK} (hs : ∀ a, O a → H a ≠ none) : Est (fxOf F.m F.δ H O E hs) σ H O s.hide :=
  ⟨I.wd, ⟨by show σ.length = (s.e.map DL.hide).length; rw [List.length_map]; exact I.env.len, fun i d h => I.env.vals i d (hide_val h), fun i xs h => (hide_own h).elim, fun i j a xs ys _ h => (hide_own h).elim⟩, .refl⟩
def eRef (j : Nat) (f : DE) : DE := fun s => match f s.hide with
  | .ok _ s1 => .ok (.val (.str "")) { s with c := s1.c }
  | .er ⟨k, [(n, .str y)]⟩ c => if k = j ∧ n = ("name" : Str) then .ok (.val (.str y)) { s with c := c } else .stuck
  | _ => .stuck
section
variable {k j : Nat} {x a e n : Str} {g C c : Addr} {pg params : Arguments} {body : Expr} {bg : List Stmt} {sg scope : Scope} {dV kV doc pm cdv ct oc : Value} {an od : Option Addr} {osl : Array (Option Value)} {p lpos pos p1 p2 p3 p4 p5 p6 p7 p8 p9 p10 p11 : Pos} {jj : Nat} {fe : DE}
theorem e_ref (hg : Gl X x) (hm : X.mg x = some (.ref g)) (hk : PySem.W.keepIn X.K (.ref g) = true)
    (lk : X.K.lookup g = some ⟨oc, od, .func (PySem.W.fnOf x x pg [.Try [.Expr (.Call (.Name a p1) [] [] p2) p3] [.ExceptHandler (some (.Name e p4)) (some n) [.Return (some (.Attribute (.Name n p5) "name" p6)) p7] p8] [] [] p9, .Return (some (.Constant (.str "") jj p10)) p11] sg dV kV doc pm an cdv ct), osl⟩)
    (hcg : PySem.W.codeIn X.K cdv x = true) (hb : L2.Binds X.K (PySem.W.fnOf x x pg [.Try [.Expr (.Call (.Name a p1) [] [] p2) p3] [.ExceptHandler (some (.Name e p4)) (some n) [.Return (some (.Attribute (.Name n p5) "name" p6)) p7] p8] [] [] p9, .Return (some (.Constant (.str "") jj p10)) p11] sg dV kV doc pm an cdv ct) [a] [])
    (Sg : FnScope [a, n] [a] sg) (hva : Vis sg a)
    (hge : sg.names.lookup e = some .globalImplicit) (hme : X.mg e = some (.ref C)) (hde : (e == ("__debug__" : Str)) = false) (hnd : [a, n].Nodup) (hln : sg.names.lookup n = some .local)
    (hdn : (n == ("__debug__" : Str)) = false) (hcn : (n == ("__classdict__" : Str)) = false) (xm : PySem.W.exmOne X.K (.ref C) (.ref C) = some true) (XF : XfC X.K C) (hno : PySem.W.findIn X.K (.ref C) "name" = some none) (hcl : F.m.cl j = some C)
    (TB : LamX.TabB X.base X.mg c P) (hcode : X.env.code = .ref c) (hT : (P, some (X.env.qual ++ "<lambda>")) ∈ F.m.T) (hu : ∀ p ∈ F.m.T, p.1 = P → p.2 = some (X.env.qual ++ "<lambda>")) (hr : Room (k + 2) X.A) (L : LamS X.env.scope scope) (hdef : defaultsOf params X.env = ([], []))
    (hbind : ∀ (q : Str) (cl : List (Str × Addr)) (pm cv ctv : Value), bindArgs (PySem.W.kla_fn "<lambda>" q params body scope cl pm cv ctv) ⟨[], []⟩ = pure [])
    (hbody : ∀ (F' : Fx) (A : Around) (outer : List Env) (s : Shared) (H : Hp) (f c' : Addr), F'.m = F.m → Room k (A.deeper (lamEnv X scope s.heap.objs.size f c')) → EO F' (lamCx X A outer s H F'.E scope f c') body fe)
    (hdb : (x == ("__debug__" : Str)) = false := by decide) (hd : (a == ("__debug__" : Str)) = false := by decide) (hcd : (a == ("__classdict__" : Str)) = false := by decide) :
    EO F X (.Call (.Name x p) [.Lambda params body scope lpos] [] pos) (eRef j fe) := by
  refine ⟨_, pe_lamD (t := fun E σ H Q => ∃ (F' : Fx) (O : Addr → Prop) (s : S), F'.E = E ∧ F'.m = F.m ∧ Est F' σ H O s ∧ KE F' σ H O s Q (fe s)) hg hm hk lk hcg hb Sg rfl hva (ref_gives hge hme hde hnd hln hdn hcn xm XF hno) TB hcode hr L hdef hbind
    (fun A outer s H E f c' hr' => ⟨fun pins sh σ H3 Q I ⟨F', O1, s1, hE, hm', I', k'⟩ => ?_⟩) hdb hd hcd, fun σ H O s Q I h => ?_⟩
  · subst hE
    obtain ⟨t, pt, st⟩ := hbody F' A outer s H f c' hm' hr'
    exact pt.run pins sh σ H3 Q I (st σ H3 O1 s1 Q I' k')
  · have t0 : TabS H P (X.env.qual ++ "<lambda>") := I.wd.tab _ hT
    refine ⟨t0, fun H1 t1 t2 => ?_⟩
    have st1 : StF F.δ H O H1 O := ts_stF t0 t1
    have I1 : Est F σ H1 O s := I.call st1 (I.wd.stepped hu t0 t1 t2)
    have hs : ∀ a, O a → H1 a ≠ none := fun a z => by
      obtain ⟨xs, y⟩ := I1.wd.src a z
      rw [y]
      simp
    unfold eRef at h
    refine ⟨fxOf F.m F.δ H1 O (fun cls d H' => cls = .ref C ∧ ∃ (dd : Addr) (fs : List (Str × V)) (v : V), d = some dd ∧ H' dd = some (.xd fs) ∧ fs.lookup ("name" : Str) = some v ∧ Q v H') hs, O, s.hide, rfl, rfl, I1.seen hs, ?_⟩
    cases y : fe s.hide with
    | stuck => rw [y] at h; exact h.elim
    | ok x s1 =>
      rw [y] at h
      intro v H' O' st I' r
      have st2 : StF F.δ H1 O H' O' := ⟨st.keep, st.there, st.fresh, fun b z => st.stay b z fun ⟨i, xs, z1, _⟩ => hide_own z1⟩
      exact h (.str "") H' O' (st1.trans st2).toE (I1.call st2 I'.wd) (.str "")
    | er e c =>
      rw [y] at h
      split at h
      · rename_i z; cases z
      · rename_i k0 n0 y0 c0 z
        cases z
        split at h
        · rename_i z
          obtain ⟨z1, z2⟩ := z
          subst z1
          subst z2
          intro cls dd H' O' st w ⟨C', d', e1, e2, e3, e4⟩
          have e1 : F.m.cl k0 = some C' := e1
          rw [hcl] at e1
          cases e1
          refine ⟨e2, d', _, .str y0, e3, e4, by simp [List.lookup], ?_⟩
          exact h (.str y0) H' O' (st1.trans st).toE (I1.call st w) (.str y0)
        · exact h.elim
      · exact h.elim
end
end
end DL

set_option Elab.async false
set_option linter.all false
set_option maxRecDepth 100000
set_option maxHeartbeats 4000000
/-! DLq: the law's call of its turn, the law's end. -/
namespace DL
open PySem PySem.Spec L2
open PyProof.Rows hiding St

section
variable {F : Fx} {X : Cx} {H H' H1 H2 : Hp} {O O' O1 O2 : Addr → Prop} {σ σ' σ2 : St} {s s' s1 s2 : S} {Q : VK}
/-- f(e), e a new list of ints: it is the cell of the call -/
def eCell (G : Fn) (f : DE) : DE := fun s => match f s with
  | .ok (.own ds) s1 => match intsD ds with
    | some c => match G [dcell] c with
      | .ok (.val (.bool b)) _ => .ok (.val (.bool b)) s1
      | _ => .stuck
    | none => .stuck
  | .er e c => .er e c
  | _ => .stuck
section
variable {k : Nat} {fa : Addr} {fd : FuncData} {ps : List Str} {G : Fn} {x : Str} {p pos : Pos} {e : Expr} {fe : DE}
theorem e_cell (hδ : F.δ = none) (hP : FnOk X.prog X.w X.K X.mg X.base (L2.CX X.prog X.w) k fa fd ps (spD F.m 1 G)) (hr : Room k X.A) (hg : Gl X x) (hm : X.mg x = some (.ref fa)) (hk : PySem.W.keepIn X.K (.ref fa) = true) (hb : Binds X.K fd ps []) (hx : Passes (L2.CX X.prog X.w) X F.E)
    (he : EO F X e fe) (hdb : (x == ("__debug__" : Str)) = false := by decide) (hs : starEach [e] X.env = (false, eval e X.env) :: starEach [] X.env := by rfl) :
    EO F X (.Call (.Name x p) [e] [] pos) (eCell G fe) := by
  obtain ⟨te, pe, se⟩ := he
  refine ⟨_, pe_call hP hr hg hm hk hb .nil hx (pa_cons pe pa_nil hs) hdb hs rfl, fun σ H O s Q I h => ?_⟩
  refine se σ H O s _ I ?_
  unfold eCell at h
  cases q : fe s with
  | stuck => rw [q] at h; exact h
  | er e c => rw [q] at h; exact h
  | ok y s1 =>
    rw [q] at h
    cases y with
    | un => exact h.elim
    | val d => exact h.elim
    | own ds =>
      simp only at h
      intro v H1 O1 st I1 sx
      obtain ⟨a, vs, rfl, ha, hd, hH, hr1, hn⟩ := sx
      cases qi : intsD ds with
      | none => rw [qi] at h; exact h.elim
      | some c =>
        simp only [qi] at h
        have ev : vs = c.map V.int := by
          rw [intsD_eq qi] at hr1
          exact hr1.of_ints
        subst ev
        show spD F.m 1 G ([V.ref a] ++ []) H1 Q F.E
        have wd : Wd F.m (some a) H1 O1 c := ⟨I1.wd.src, fun b z => (by cases z; exact ⟨ha, hH⟩), I1.wd.tab⟩
        refine ⟨some a, O1, c, [dcell], rfl, wd, .cons (.cell rfl) .nil, ?_⟩
        cases qg : G [dcell] c with
        | stuck => rw [qg] at h; exact h.elim
        | er e c => rw [qg] at h; exact h.elim
        | ok z c2 =>
          rw [qg] at h
          cases z with
          | un => exact h.elim
          | own _ => exact h.elim
          | val z =>
            cases z with
            | bool b =>
              simp only at h
              intro v2 H2 O2 st2 w2 r2
              have r2 : RepD F.m.K H2 O2 (some a) v2 (.bool b) := r2
              have hmn : ¬ Mine σ s1.e a := fun z => by
                have := I.env.mine (st.mine a z)
                exact this hn
              have stS : StS H1 O1 H2 O2 := st2.stS wd
              have w0 : Wd F.m F.δ H2 O2 s1.c := ⟨w2.src, fun b z => (by rw [hδ] at z; cases z), w2.tab⟩
              have keepF : ∀ b o, b ≠ a → ¬ isTbl o → H1 b = some o → H2 b = some o := fun b o n t q => st2.keep b o (fun z => n (by cases z; rfl)) t q
              have stE : StE F.δ σ H1 O1 s1.e H2 O2 s1.e → StE F.δ σ H O s.e H2 O2 s1.e := fun z => st.trans z
              have keepH : ∀ b o, F.δ ≠ some b → ¬ isTbl o → H b = some o → H2 b = some o := fun b o n t q => keepF b o (fun z => by rw [z, hn] at q; cases q) t (st.keep b o n t q)
              have Hend : StE F.δ σ H O s.e H2 O2 s1.e := ⟨keepH, fun b z => st2.there b (st.there b z), fun b z => (st2.fresh b z).elim (st.fresh b) (fun n => .inr (by
                cases q : H b with
                | none => rfl
                | some o => exact absurd n (st.there b (by rw [q]; simp)))), fun b z n => st2.stay b (st.stay b z n), st.mine⟩
              have Iend : Est F σ H2 O2 s1 := ⟨w0, ⟨I1.env.len, fun i d q => let ⟨v, q1, q2⟩ := I1.env.vals i d q; ⟨v, q1, q2.stS stS I1.wd⟩, fun i xs q => ?_, I1.env.uniq⟩, ⟨fun b o n t q => keepF b o (fun z => ?_) t (I1.base.keep b o n t q), fun b z => st2.there b (I1.base.there b z), fun b z => (st2.fresh b z).elim (I1.base.fresh b) (fun n => .inr (by
                cases q : F.H0 b with
                | none => rfl
                | some o => exact absurd n (I1.base.there b (by rw [q]; simp)))), fun b z => st2.stay b (I1.base.stay b z)⟩⟩
              · exact h v2 H2 O2 Hend Iend (by cases r2.bool_inv; exact .bl b)
              · obtain ⟨b, us, q1, q2, q3, q4, q5, q6⟩ := I1.env.owns i xs q
                exact ⟨b, us, q1, st2.stay b q2, q3, keepF b _ (fun z => hmn ⟨i, xs, q, by rw [← z]; exact q1⟩) nt_lst q4, q5.stS stS I1.wd, q6⟩
              · have h0 : F.H0 a = none := by
                  cases q0 : F.H0 a with
                  | none => rfl
                  | some o => exact absurd hn (I.base.there a (by rw [q0]; simp))
                rw [z, h0] at q
                cases q
            | _ => exact h.elim
end
end
end DL

set_option Elab.async false
set_option linter.all false
set_option maxRecDepth 100000
set_option maxHeartbeats 4000000
/-! DLr: the law's def, the law's end. -/
namespace DL
open PySem PySem.Spec L2
open PyProof.Rows hiding St

/-- the promise of law: the script alone, nothing changes -/
def spLaw (m : Pm) (G : Fn) : Sp := fun vs H Q E => ∃ v d, vs = [v] ∧ Wd m none H (fun _ => False) [] ∧ RepD m.K H (fun _ => False) none v d ∧ KF m none H (fun _ => False) Q E (G [d] [])
section
variable {P : Program} {w : World} {K : PySem.W.Frag} {mg : Str → Option Value} {base : Heap} {m : Pm} {x qual : Str} {st : Stmt} {f : Addr} {fd : FuncData} {N : List Str} {k l : Nat} {g : DS} {p0 : Str}
theorem okLaw (Fu : Fun K x qual st f fd) (Sc : FnScope N [p0] (defScope st)) (hK : m.K = K) (hl : N.length = l)
    (hb : ∀ (cdv : Value) (A : Around) (outer : List Env) (s : Shared) (H : Hp) (E : XK) (F : Fx), F.m = m → F.E = E → F.δ = none → Room k (A.deeper (envOfC qual (defScope st) s.heap.objs.size f cdv)) →
      BO F (cxOf (L2.CX P w) P w K mg base N qual (defScope st) f cdv A outer s H E) (defBody st) g) : FnOk P w K mg base (L2.CX P w) (k + 1) f fd [p0] (spLaw m (fnD l g)) := by
  subst hl
  refine Fu.okX Sc (fun vs H Q E h => ?_) fun cdv A outer s H vs Q E hr h => ?_
  · obtain ⟨v, d, rfl, _⟩ := h
    rfl
  obtain ⟨v, d, rfl, wd, r, h⟩ := h
  have hs : ∀ a, (fun _ : Addr => False) a → H a ≠ none := fun a z => z.elim
  obtain ⟨t, pt, sg⟩ := hb cdv A outer s H E (fxOf m none H (fun _ => False) E hs) rfl rfl rfl hr
  refine ⟨t, pt, sg _ _ H (fun _ => False) (startS N.length [d] []) (est_start wd (.cons r .nil) hs) ?_⟩
  unfold fnD at h
  cases q : g (startS N.length [d] []) with
  | nx s' =>
    rw [q] at h
    exact fun σ' H' O' _ I => h .non H' O' I.base I.wd .non
  | rt x c' =>
    rw [q] at h
    exact fun v H' O' st w' sx => h v H' O' st w' sx
  | er e c' =>
    rw [q] at h
    exact fun cls dd H' O' st w' er => h cls dd H' O' st w' er
  | bk s' => rw [q] at h; exact h.elim
  | ct s' => rw [q] at h; exact h.elim
  | stuck => rw [q] at h; exact h.elim
end
theorem repDs_ints {K : PySem.W.Frag} {H : Hp} {O : Addr → Prop} {δ : Option Addr} (ns : List Int) : RepDs K H O δ (ns.map V.int) (ns.map PyData.int) := RepDs.ints ns
theorem lawAt_dl {l : PySem.W.OpenLaw} {w : World} {K : PySem.W.Frag} {mg : Str → Option Value} {fa : Addr} {h : Heap} {k : Nat} {fd : FuncData} {x : Str} {G : Fn} (m : Pm) (cs : List (Addr × Addr)) (hK : m.K = K) (hT : ∀ t ∈ m.T, t.1 ∈ cs.map (·.2))
    (h1 : ∀ p ∈ cs, h.get? p.2 = some { cls := .none, data := .fields #[] }) (h2 : ∀ p ∈ cs, K.lookup p.2 = none) (h3 : ∀ p ∈ cs, PySem.W.CodeHd h p.1 p.2) (hb : ∀ (s : Shared) (u : Value), BindsTo s fd ⟨[u], []⟩ [(x, u)])
    (hF : ∀ base : Heap, K.In base → base.Ns mainGlobals mg → (∀ p ∈ cs, LamX.TabB base mg p.1 p.2) → FnOk l.prog w K mg base (L2.CX l.prog w) k fa fd [x] (spLaw m G))
    (hG : ∀ ns : List Int, ns.length ≤ 63 → (∀ z ∈ ns, Builtin.Int.intBits z ≤ 1048576) → ∃ c, G [dscr (ns.map .int)] [] = .ok (.val (.bool true)) c) : LamX.LawAtS l w K (L2.CX l.prog w) k 63 x mg fa h := by
  refine ⟨fd, cs, spLaw m G, h1, h2, h3, hb, fun H a ns hl hbits hH hS => ?_, hF⟩
  obtain ⟨c, e⟩ := hG ns hl hbits
  refine ⟨.ref a, dscr (ns.map .int), rfl, ⟨fun _ z => z.elim, fun a z => (by cases z), fun t ht => ?_⟩, .scr (vs := ns.map V.int) ?_ (RepDs.ints ns), ?_⟩
  · obtain ⟨p, hp, e⟩ := List.mem_map.mp (hT t ht)
    have q := hH p hp
    rw [e] at q
    unfold TabP
    split
    · exact ⟨#[], q, True.intro⟩
    · exact LamX.TabS.nil q
  · rcases hS with z | z
    · exact .inl ⟨z, fun q => q⟩
    · exact .inr (by rw [hK]; exact z)
  · rw [e]
    exact fun v H' O' st w' r => by cases (show RepD m.K H' O' none v (.bool true) from r); rfl
/-- the end -/
theorem walk_dl {l : PySem.W.OpenLaw} {n k : Nat} {q : Program} {loose : List Str} {XP : (Str → Option Value) → Heap → Prop} {YP : World → Heap → Prop} {d : DefRec} {K : Params → PySem.W.Frag} {x : Str}
    (hn : l.most = some n) (hn2 : n ≤ sizeLine) (hdf : d.params.defaults = []) (hr : Room k callerA) (hY : ∀ (w : World) (h : Heap), YP w h → (K w.params).In h)
    (F : ∀ (w : World) (mg : Str → Option Value) (fa : Addr) (h : Heap), (K w.params).In h → h.Ns mainGlobals mg → mg d.name = some (.ref fa) →
      (∀ (y : Str) (c P : Addr), ((recsOf q).find? fun e => e.name == y).isSome = true → PySem.W.tabIn (K w.params) y = some (c, P) → PySem.W.CodeHd h c P ∧ h.get? P = some { cls := .none, data := .fields #[] }) → LamX.LawAtS l w (K w.params) (L2.CX l.prog w) k n x mg fa h) :
    PySem.W.WalkO q loose XP YP l.row.toRowW d [] (fun f vs => PySem.call f vs) := by
  refine Att.attach_callB hn hdf fun w s₀ s₁ mg mb fa o pm cd doc a vs ns G Y ho hd hcd hmg hobj hints hlen hbits hg => ?_
  have KX := hY w _ Y
  have tb : ∀ (y : Str) (c P : Addr), ((recsOf q).find? fun e => e.name == y).isSome = true → PySem.W.tabIn (K w.params) y = some (c, P) → PySem.W.CodeHd s₁.heap c P ∧ s₁.heap.get? P = some { cls := .none, data := .fields #[] } := fun y c P hy ht => by
    obtain ⟨dr, hdr⟩ := Option.isSome_iff_exists.mp hy
    exact PySem.W.tab_of G.T KX hdr ht
  obtain ⟨fd, cs, sp, hT, nT, C, hb, hsp, hF⟩ := F w mg fa _ KX G.T.g hmg tb
  exact LamX.law_callTs KX G.T.g G.T.b G.T.builtins G.T.nolimit hg hT nT C G.T.bmain hobj hints (Nat.le_trans hlen hn2) hr hF hb (fun H hH hS => hsp H a ns hlen hbits hH hS) fun H e s' z => by
    obtain ⟨_, _, _, _, _, _, _, _, _, _, _, _, y⟩ := z
    exact y.elim
theorem tabIn_of {K : PySem.W.Frag} {x : Str} {f c P : Addr} {fd : FuncData} {oc cc : Value} {od cdd : Option Addr} {sl ccs : Array (Option Value)} {vs : Array Value} (h1 : PySem.W.nsIn K mainGlobals x = some (some (.ref f))) (h2 : K.lookup f = some ⟨oc, od, .func fd, sl⟩) (h3 : fd.code = .ref c)
    (h4 : K.lookup c = some ⟨cc, cdd, .fields vs, ccs⟩) (h5 : vs[11]? = some (.ref P)) : PySem.W.tabIn K x = some (c, P) := by
  unfold PySem.W.tabIn
  simp only [h1, h2, h3, h4, h5]
end DL

set_option Elab.async false
set_option linter.all false
set_option maxRecDepth 100000
set_option maxHeartbeats 4000000
/-! DLs: short words for what a printed derivation says. -/
namespace DL
open PySem PySem.Spec L2
open PyProof.Rows hiding St

/-- a def of n + 1 parameters that stands at the name x: what it computes; kws: how many values go ahead of keywords, the keywords -/
structure Cal (P : Program) (w : World) (K : PySem.W.Frag) (mg : Str → Option Value) (base : Heap) (m : Pm) (k : Nat) (x : Str) (n : Nat) (G : Fn) (kws : List (Nat × List Str)) : Prop where
  ex : ∃ (fa : Addr) (fd : FuncData) (ps : List Str), FnOk P w K mg base (L2.CX P w) k fa fd ps (spD m (n + 1) G) ∧ mg x = some (.ref fa) ∧ PySem.W.keepIn K (.ref fa) = true ∧ Binds K fd ps [] ∧ ∀ q ∈ kws, KBinds K fd ps q.2 (gJ (n + 1) q.1) (gJ (n + 1) q.1)
theorem kb_nil {K : PySem.W.Frag} {fd : FuncData} {ps : List Str} {n : Nat} : ∀ q ∈ ([] : List (Nat × List Str)), KBinds K fd ps q.2 (gJ (n + 1) q.1) (gJ (n + 1) q.1) := fun q h => by cases h
theorem kb_cons {K : PySem.W.Frag} {fd : FuncData} {ps ks : List Str} {n j : Nat} {r : List (Nat × List Str)} (h : KBinds K fd ps ks (gJ (n + 1) j) (gJ (n + 1) j)) (hr : ∀ q ∈ r, KBinds K fd ps q.2 (gJ (n + 1) q.1) (gJ (n + 1) q.1)) : ∀ q ∈ (j, ks) :: r, KBinds K fd ps q.2 (gJ (n + 1) q.1) (gJ (n + 1) q.1) := fun q hq => by
  rcases List.mem_cons.mp hq with rfl | hq
  · exact h
  · exact hr q hq
theorem Fun.kb {K : PySem.W.Frag} {x qual : Str} {st : Stmt} {f : Addr} {fd : FuncData} {ps ks : List Str} {n j : Nat} (F : Fun K x qual st f fd) (hn : ps.length = n + 1)
    (h : ∀ (kV doc pm : Value) (an : Option Addr) (cdv ct : Value) (us ws : List Value), us.length = j → ws.length = n + 1 - j → bindArgs (PySem.W.fnOf x qual (defArgs st) (defBody st) (defScope st) .none kV doc pm an cdv ct) ⟨us, ks.zip ws⟩ = pure (ps.zip (us ++ ws))) : KBinds K fd ps ks (gJ (n + 1) j) (gJ (n + 1) j) := by
  obtain ⟨oc, od, kV, doc, pm, an, cdv, ct, osl, rfl, lk, hcd⟩ := F.ex
  exact kb_of hn (h kV doc pm an cdv ct)
section
variable {F : Fx} {X : Cx} {k j n i : Nat} {G : Fn} {x : Str} {p pos : Pos} {e : Expr} {es : List Expr} {kws : List Keyword} {as ak : DA} {ks : List Str} {kl : List (Nat × List Str)}
theorem e_c (h : Cal X.prog X.w X.K X.mg X.base F.m k x n G kl) (hr : Room j X.A) (hx : Passes (L2.CX X.prog X.w) X F.E) (ha : AO F X (e :: es) as) (hkj : k ≤ j := by decide) (hg : Gl X x := by rfl) (hn : (e :: es).length = n + 1 := by rfl) (hdb : (x == ("__debug__" : Str)) = false := by decide)
    (he : starEach (e :: es) X.env = (false, eval e X.env) :: starEach es X.env := by rfl) (hpl : (backTo pos (starEach es X.env)).any (·.1) = false := by rfl) : EO F X (.Call (.Name x p) (e :: es) [] pos) (eCall G as) := by
  obtain ⟨fa, fd, ps, h1, h2, h3, h4, _⟩ := h.ex
  exact e_call h1 (hr.mono hkj) hg h2 h3 h4 hx ha hn hdb he hpl
theorem e_ck (h : Cal X.prog X.w X.K X.mg X.base F.m k x n G kl) (hr : Room j X.A) (hx : Passes (L2.CX X.prog X.w) X F.E) (ha : AO F X (e :: es) as) (hkw : PO F X kws ak) (hm : (i, ks) ∈ kl) (hkj : k ≤ j := by decide) (hg : Gl X x := by rfl) (hj : (e :: es).length = i := by rfl) (hi : kws.length = n + 1 - i := by rfl)
    (hall : (backToKw pos (keywordEach kws X.env)).all (·.1.isSome) = true := by rfl) (hks : (backToKw pos (keywordEach kws X.env)).filterMap (·.1) = ks := by rfl) (hdb : (x == ("__debug__" : Str)) = false := by decide) (he : starEach (e :: es) X.env = (false, eval e X.env) :: starEach es X.env := by rfl)
    (hpl : ((backTo pos (starEach (e :: es) X.env)).any (·.1) || (backToKw pos (keywordEach kws X.env)).any (·.1.isNone)) = false := by rfl) (hle : i ≤ n + 1 := by decide) : EO F X (.Call (.Name x p) (e :: es) kws pos) (eCallK G as ak) := by
  obtain ⟨fa, fd, ps, h1, h2, h3, h4, h5⟩ := h.ex
  exact e_callK h1 (hr.mono hkj) hg h2 h3 (h5 _ hm) hx ha hkw hj hi hall hks hdb he hpl hle
theorem e_ck0 (h : Cal X.prog X.w X.K X.mg X.base F.m k x n G kl) (hr : Room j X.A) (hx : Passes (L2.CX X.prog X.w) X F.E) (hkw : PO F X kws ak) (hm : (0, ks) ∈ kl) (hkj : k ≤ j := by decide) (hg : Gl X x := by rfl) (hi : kws.length = n + 1 := by rfl)
    (hall : (backToKw pos (keywordEach kws X.env)).all (·.1.isSome) = true := by rfl) (hks : (backToKw pos (keywordEach kws X.env)).filterMap (·.1) = ks := by rfl) (hdb : (x == ("__debug__" : Str)) = false := by decide)
    (hpl : ((backTo pos (starEach [] X.env)).any (·.1) || (backToKw pos (keywordEach kws X.env)).any (·.1.isNone)) = false := by rfl) : EO F X (.Call (.Name x p) [] kws pos) (eCall G ak) := by
  obtain ⟨fa, fd, ps, h1, h2, h3, h4, h5⟩ := h.ex
  exact e_callK0 h1 (hr.mono hkj) hg h2 h3 (h5 _ hm) hx hkw hi hall hks hdb hpl
theorem e_cell' {fe : DE} (hδ : F.δ = none) (h : Cal X.prog X.w X.K X.mg X.base F.m k x 0 G kl) (hr : Room j X.A) (hx : Passes (L2.CX X.prog X.w) X F.E) (he : EO F X e fe) (hkj : k ≤ j := by decide) (hg : Gl X x := by rfl) (hdb : (x == ("__debug__" : Str)) = false := by decide) (hs : starEach [e] X.env = (false, eval e X.env) :: starEach [] X.env := by rfl) :
    EO F X (.Call (.Name x p) [e] [] pos) (eCell G fe) := by
  obtain ⟨fa, fd, ps, h1, h2, h3, h4, _⟩ := h.ex
  exact e_cell hδ h1 (hr.mono hkj) hg h2 h3 h4 hx he hdb hs
theorem e_gI {z : Int} (h : ∃ t, X.mg x = some (.int z t)) (hg : Gl X x := by rfl) (hd : (x == ("__debug__" : Str)) = false := by decide) : EO F X (.Name x pos) (eC (.int z)) := let ⟨_, h⟩ := h; e_glob hg h hd
theorem e_gS {z : Str} (h : ∃ t, X.mg x = some (.str z t)) (hg : Gl X x := by rfl) (hd : (x == ("__debug__" : Str)) = false := by decide) : EO F X (.Name x pos) (eC (.str z)) := let ⟨_, h⟩ := h; e_globS hg h hd
section
variable {elt tg iter : Expr} {ifs : List Expr} {scope : Scope} {own : List (Str × Nat)} {vs : List Nat} {gpos : Pos} {fi : DA} {gt : D → S → Option S} {ft fe : DE} {c P : Addr}
theorem e_lc (hc : X.calm = true) (hnd : X.N.Nodup) (hi : IO F X tg iter fi) (ok : BlkOk X.N X.env.scope scope own)
    (hg : ∀ (s : Shared) (H : Hp) (C : Addr) (cl : List (Str × Addr)) (fp : List Addr), GC F.no (X.blk s H scope (compEnvC scope cl C X.env) fp) tg (vs) gt)
    (ht : ∀ (s : Shared) (H : Hp) (C : Addr) (cl : List (Str × Addr)) (fp : List Addr), TsO F.no (X.blk s H scope (compEnvC scope cl C X.env) fp) ifs ft)
    (he : ∀ (s : Shared) (H : Hp) (C : Addr) (cl : List (Str × Addr)) (fp : List Addr), EO F.no (X.blk s H scope (compEnvC scope cl C X.env) fp) elt fe)
    (hs : ∀ x, foldedSetIterable iter X.env x = pure x := by intro _; rfl) (hvs : own.map (·.2) = vs := by rfl) : EO F X (.ListComp elt [⟨tg, iter, ifs, 0⟩] scope pos) (eComp (vs) fi gt ft fe) := by
  subst hvs
  exact e_comp hc hnd hi ok hg (hg X.s_0 X.H_0 0 [] []).law ht he hs
theorem s_lc (i : Nat) {y : Str} {py spos : Pos} (hc : X.calm = true) (hnd : X.N.Nodup) (hi : IO F X tg iter fi) (ok : BlkOk X.N X.env.scope scope own)
    (hg : ∀ (s : Shared) (H : Hp) (C : Addr) (cl : List (Str × Addr)) (fp : List Addr), GC F.no (X.blk s H scope (compEnvC scope cl C X.env) fp) tg (vs) gt)
    (ht : ∀ (s : Shared) (H : Hp) (C : Addr) (cl : List (Str × Addr)) (fp : List Addr), TsO F.no (X.blk s H scope (compEnvC scope cl C X.env) fp) ifs ft)
    (he : ∀ (s : Shared) (H : Hp) (C : Addr) (cl : List (Str × Addr)) (fp : List Addr), EO F.no (X.blk s H scope (compEnvC scope cl C X.env) fp) elt fe)
    (hsw : swapsWith (.ListComp elt [⟨tg, iter, ifs, 0⟩] scope pos) (some (.Name y py)) spos.line X.env = pure true) (hy : X.N[i]? = some y := by rfl) (hyl : X.env.scope.names.lookup y = some .local := by rfl)
    (hs : ∀ x, foldedSetIterable iter X.env x = pure x := by intro _; rfl) (hvs : own.map (·.2) = vs := by rfl) : SO F X (.Assign [.Name y py] (.ListComp elt [⟨tg, iter, ifs, 0⟩] scope pos) spos) (dSet i (eComp (vs) fi gt ft fe)) := by
  subst hvs
  exact s_setLc i hc hnd hi ok hg (hg X.s_0 X.H_0 0 [] []).law ht he hsw hy hyl hs
theorem e_ag (hc : X.calm = true) (hnd : X.N.Nodup) (hr : Room (k + 1) X.A) (hm : X.mg "all" = none) (TB : GxR.TabB X.base X.mg c P) (hcode : X.env.code = .ref c) (hu : ∀ p ∈ F.m.T, p.1 = P → p.2 = none) (hT : (P, none) ∈ F.m.T)
    (ok : GenOk X.N X.env.scope scope own) (hi : IO F X tg iter fi)
    (hpg : ∀ (s : Shared) (H : Hp) (C : Addr) (cl : List (Str × Addr)) (code : Value) (bi : Addr) (fp : List Addr) (A : Around), GC F.no (gen X s H (genEnv scope cl C code bi X.env) fp A) tg (vs) gt)
    (hpe : ∀ (s : Shared) (H : Hp) (C : Addr) (cl : List (Str × Addr)) (code : Value) (bi : Addr) (fp : List Addr) (A : Around), Room k A → EO F.no (gen X s H (genEnv scope cl C code bi X.env) fp A) elt fe)
    (hg : Gl X "all" := by rfl) (hs : ∀ v, genFold iter X.env v = pure v := by intro _; rfl) (he : starEach [.GeneratorExp elt [⟨tg, iter, [], 0⟩] scope gpos] X.env = (false, eval (.GeneratorExp elt [⟨tg, iter, [], 0⟩] scope gpos) X.env) :: starEach [] X.env := by rfl) (hvs : own.map (·.2) = vs := by rfl) :
    EO F X (.Call (.Name "all" p) [.GeneratorExp elt [⟨tg, iter, [], 0⟩] scope gpos] [] pos) (eAll (vs) fi gt fe) := by
  subst hvs
  exact e_all hc hnd hr hg hm TB hcode hu hT ok hi hpg (hpg X.s_0 X.H_0 0 [] .none 0 [] X.A).law hpe hs he
end
/-- decided -/
def genB (N : List Str) (sc scope : Scope) (own : List (Str × Nat)) : Bool := blkC N sc scope own && !scope.isCoroutine && scope.names.all (fun y => !decide (y.2 = .cell)) && decide (scope.names.lookup (".0" : Str) = some NameKind.local)
theorem gen_by {N : List Str} {sc scope : Scope} {own : List (Str × Nat)} (h : genB N sc scope own = true) : GenOk N sc scope own := by
  unfold genB at h
  simp only [Bool.and_eq_true, Bool.not_eq_true', decide_eq_true_eq, List.all_eq_true, decide_eq_false_iff_not] at h
  obtain ⟨⟨⟨h1, h2⟩, h3⟩, h4⟩ := h
  exact ⟨blkOk_by h1, h2, h3, h4⟩
theorem takesD {P : Program} {w : World} {K : PySem.W.Frag} {mg : Str → Option Value} {base : Heap} {N : List Str} {qual : Str} {sc : Scope} {f : Addr} {cd : Value} {A : Around} {outer : List Env} {s : Shared} {H : Hp} {E : XK} :
    Takes (cxOf (L2.CX P w) P w K mg base N qual sc f cd A outer s H E) (fun cls d _ H => E cls d H) := takes_of rfl rfl rfl rfl
theorem passD {P : Program} {w : World} {K : PySem.W.Frag} {mg : Str → Option Value} {base : Heap} {N : List Str} {qual : Str} {sc : Scope} {f : Addr} {cd : Value} {A : Around} {outer : List Env} {s : Shared} {H : Hp} {E : XK} :
    Passes (L2.CX P w) (cxOf (L2.CX P w) P w K mg base N qual sc f cd A outer s H E) E := passes_call (takes_of rfl rfl rfl rfl) fun _ _ _ _ h => h
theorem ownD {P : Program} {w : World} {K : PySem.W.Frag} {mg : Str → Option Value} {base : Heap} {N : List Str} {qual : Str} {sc : Scope} {f : Addr} {cd : Value} {A : Around} {outer : List Env} {s : Shared} {H : Hp} {E : XK} :
    PassesOwn (model P w) (cxOf (L2.CX P w) P w K mg base N qual sc f cd A outer s H E).A (cxOf (L2.CX P w) P w K mg base N qual sc f cd A outer s H E).env (cxOf (L2.CX P w) P w K mg base N qual sc f cd A outer s H E).xe := passes_of rfl
theorem passLam {X : Cx} {A : Around} {outer : List Env} {s : Shared} {H : Hp} {E : XK} {sc : Scope} {f c : Addr} : Passes (L2.CX (LamX.lamCx X A outer s H E sc f c).prog (LamX.lamCx X A outer s H E sc f c).w) (LamX.lamCx X A outer s H E sc f c) E := passes_call (takes_of rfl rfl rfl rfl) fun _ _ _ _ h => h
end
end DL

set_option Elab.async false
set_option linter.all false
set_option maxRecDepth 100000
set_option maxHeartbeats 4000000
/-! DLt: short words: built-ins; a def whose code object is told. -/
namespace DL
open PySem PySem.Spec L2
open PyProof.Rows hiding St

section
variable {F : Fx} {X : Cx} {e : Expr} {es : List Expr} {fa : DA} {p pos : Pos}
theorem e_len (hK : F.m.K = X.K) (hm : X.mg "len" = none) (ha : AO F X (e :: es) fa) (hg : Gl X "len" := by rfl) (he : starEach (e :: es) X.env = (false, eval e X.env) :: starEach es X.env := by rfl) (hpl : (backTo pos (starEach es X.env)).any (·.1) = false := by rfl) : EO F X (.Call (.Name "len" p) (e :: es) [] pos) (eB lenB fa) :=
  e_B call_lenB (hK ▸ s_len) hg hm PySem.boot_len ha (by decide) (by decide) he hpl
theorem e_abs (hm : X.mg "abs" = none) (ha : AO F X (e :: es) fa) (hg : Gl X "abs" := by rfl) (he : starEach (e :: es) X.env = (false, eval e X.env) :: starEach es X.env := by rfl) (hpl : (backTo pos (starEach es X.env)).any (·.1) = false := by rfl) : EO F X (.Call (.Name "abs" p) (e :: es) [] pos) (eB absB fa) :=
  e_B call_abs s_abs hg hm PyProof.Rows.Boot.«abs» ha (by decide) (by decide) he hpl
theorem e_int' (hm : X.mg "int" = none) (ha : AO F X (e :: es) fa) (hg : Gl X "int" := by rfl) (he : starEach (e :: es) X.env = (false, eval e X.env) :: starEach es X.env := by rfl) (hpl : (backTo pos (starEach es X.env)).any (·.1) = false := by rfl) : EO F X (.Call (.Name "int" p) (e :: es) [] pos) (eB intB fa) :=
  e_Ty call_int1 s_int hg hm PyProof.Rows.Boot.«int» ha (by decide) (by decide) he hpl
theorem e_max (hK : F.m.K = X.K) (hc : X.calm = true) (hm : X.mg "max" = none) (ha : AO F X (e :: es) fa) (hg : Gl X "max" := by rfl) (he : starEach (e :: es) X.env = (false, eval e X.env) :: starEach es X.env := by rfl) (hpl : (backTo pos (starEach es X.env)).any (·.1) = false := by rfl) : EO F X (.Call (.Name "max" p) (e :: es) [] pos) (eB maxB fa) :=
  e_B ((call_max2 hc).or (cr_max hc)) (hK ▸ s_max) hg hm PyProof.Rows.Boot.«max» ha (by decide) (by decide) he hpl
theorem e_min (hK : F.m.K = X.K) (hc : X.calm = true) (hm : X.mg "min" = none) (ha : AO F X (e :: es) fa) (hg : Gl X "min" := by rfl) (he : starEach (e :: es) X.env = (false, eval e X.env) :: starEach es X.env := by rfl) (hpl : (backTo pos (starEach es X.env)).any (·.1) = false := by rfl) : EO F X (.Call (.Name "min" p) (e :: es) [] pos) (eB minB fa) :=
  e_B ((call_min2 hc).or (cr_min hc)) (hK ▸ s_min) hg hm PyProof.Rows.Boot.«min» ha (by decide) (by decide) he hpl
theorem e_sum (hK : F.m.K = X.K) (hc : X.calm = true) (hm : X.mg "sum" = none) (ha : AO F X (e :: es) fa) (hg : Gl X "sum" := by rfl) (he : starEach (e :: es) X.env = (false, eval e X.env) :: starEach es X.env := by rfl) (hpl : (backTo pos (starEach es X.env)).any (·.1) = false := by rfl) : EO F X (.Call (.Name "sum" p) (e :: es) [] pos) (eB sumB fa) :=
  e_B (cr_sumB hc) (hK ▸ s_sum) hg hm PyProof.Rows.Boot.«sum» ha (by decide) (by decide) he hpl
theorem e_any (hK : F.m.K = X.K) (hc : X.calm = true) (hm : X.mg "any" = none) (ha : AO F X (e :: es) fa) (hg : Gl X "any" := by rfl) (he : starEach (e :: es) X.env = (false, eval e X.env) :: starEach es X.env := by rfl) (hpl : (backTo pos (starEach es X.env)).any (·.1) = false := by rfl) : EO F X (.Call (.Name "any" p) (e :: es) [] pos) (eB anyB fa) :=
  e_B (cr_any hc) (hK ▸ s_any) hg hm PyProof.Rows.Boot.«any» ha (by decide) (by decide) he hpl
theorem e_allB (hK : F.m.K = X.K) (hc : X.calm = true) (hm : X.mg "all" = none) (ha : AO F X (e :: es) fa) (hg : Gl X "all" := by rfl) (he : starEach (e :: es) X.env = (false, eval e X.env) :: starEach es X.env := by rfl) (hpl : (backTo pos (starEach es X.env)).any (·.1) = false := by rfl) : EO F X (.Call (.Name "all" p) (e :: es) [] pos) (eB allB fa) :=
  e_B (cr_all hc) (hK ▸ s_all) hg hm PyProof.Rows.Boot.«all» ha (by decide) (by decide) he hpl
theorem e_tuple (hK : F.m.K = X.K) (hm : X.mg "tuple" = none) (ha : AO F X (e :: es) fa) (hg : Gl X "tuple" := by rfl) (he : starEach (e :: es) X.env = (false, eval e X.env) :: starEach es X.env := by rfl) (hpl : (backTo pos (starEach es X.env)).any (·.1) = false := by rfl) : EO F X (.Call (.Name "tuple" p) (e :: es) [] pos) (eB tupB fa) :=
  e_Ty call_tuple_of (hK ▸ s_tup) hg hm PyProof.Rows.Boot.«tuple» ha (by decide) (by decide) he hpl
theorem e_list (hK : F.m.K = X.K) (hm : X.mg "list" = none) (ha : AO F X (e :: es) fa) (hg : Gl X "list" := by rfl) (he : starEach (e :: es) X.env = (false, eval e X.env) :: starEach es X.env := by rfl) (hpl : (backTo pos (starEach es X.env)).any (·.1) = false := by rfl) : EO F X (.Call (.Name "list" p) (e :: es) [] pos) (eB lstB fa) :=
  e_Ty call_list_of (hK ▸ s_lst) hg hm PyProof.Rows.Boot.«list» ha (by decide) (by decide) he hpl
theorem e_ln (i : Nat) {x : Str} {px : Pos} (hK : F.m.K = X.K) (hm : X.mg "len" = none) (hg : Gl X "len" := by rfl) (hN : X.N[i]? = some x := by rfl) (hv : Vis X.env.scope x := by first | exact Or.inl rfl | exact Or.inr (Or.inl rfl) | exact Or.inr (Or.inr rfl))
    (hd : (x == ("__debug__" : Str)) = false := by decide) (hcd : (x == ("__classdict__" : Str)) = false := by decide)
    (he : starEach [.Name x px] X.env = (false, eval (.Name x px) X.env) :: starEach [] X.env := by rfl) : EO F X (.Call (.Name "len" p) [.Name x px] [] pos) (eLenN i) := e_lenN i hK hg hm hN hv hd hcd he
section
variable {a : Expr} {ga : DE} {p2 : Pos}
theorem e_isI (hK : F.m.K = X.K) (hm : X.mg "isinstance" = none) (hT : X.mg "int" = none) (ha : EO F X a ga) (hg : Gl X "isinstance" := by rfl) (hgT : Gl X "int" := by rfl)
    (he : starEach [a, .Name "int" p2] X.env = (false, eval a X.env) :: starEach [.Name "int" p2] X.env := by rfl) (he2 : starEach [.Name "int" p2] X.env = (false, eval (.Name "int" p2) X.env) :: starEach [] X.env := by rfl) (hpl : (backTo pos (starEach [.Name "int" p2] X.env)).any (·.1) = false := by rfl) :
    EO F X (.Call (.Name "isinstance" p) [a, .Name "int" p2] [] pos) (eIsi .int ga) := e_isi .int hK hg hm hgT hT PyProof.Rows.Boot.«int» ha (by decide) (by decide) he he2 hpl
theorem e_isB (hK : F.m.K = X.K) (hm : X.mg "isinstance" = none) (hT : X.mg "bool" = none) (ha : EO F X a ga) (hg : Gl X "isinstance" := by rfl) (hgT : Gl X "bool" := by rfl)
    (he : starEach [a, .Name "bool" p2] X.env = (false, eval a X.env) :: starEach [.Name "bool" p2] X.env := by rfl) (he2 : starEach [.Name "bool" p2] X.env = (false, eval (.Name "bool" p2) X.env) :: starEach [] X.env := by rfl) (hpl : (backTo pos (starEach [.Name "bool" p2] X.env)).any (·.1) = false := by rfl) :
    EO F X (.Call (.Name "isinstance" p) [a, .Name "bool" p2] [] pos) (eIsi .bool ga) := e_isi .bool hK hg hm hgT hT PyProof.Rows.Boot.«bool» ha (by decide) (by decide) he he2 hpl
theorem e_isS (hK : F.m.K = X.K) (hm : X.mg "isinstance" = none) (hT : X.mg "str" = none) (ha : EO F X a ga) (hg : Gl X "isinstance" := by rfl) (hgT : Gl X "str" := by rfl)
    (he : starEach [a, .Name "str" p2] X.env = (false, eval a X.env) :: starEach [.Name "str" p2] X.env := by rfl) (he2 : starEach [.Name "str" p2] X.env = (false, eval (.Name "str" p2) X.env) :: starEach [] X.env := by rfl) (hpl : (backTo pos (starEach [.Name "str" p2] X.env)).any (·.1) = false := by rfl) :
    EO F X (.Call (.Name "isinstance" p) [a, .Name "str" p2] [] pos) (eIsi .str ga) := e_isi .str hK hg hm hgT hT PyProof.Rows.Boot.«str» ha (by decide) (by decide) he he2 hpl
theorem e_isT (hK : F.m.K = X.K) (hm : X.mg "isinstance" = none) (hT : X.mg "tuple" = none) (ha : EO F X a ga) (hg : Gl X "isinstance" := by rfl) (hgT : Gl X "tuple" := by rfl)
    (he : starEach [a, .Name "tuple" p2] X.env = (false, eval a X.env) :: starEach [.Name "tuple" p2] X.env := by rfl) (he2 : starEach [.Name "tuple" p2] X.env = (false, eval (.Name "tuple" p2) X.env) :: starEach [] X.env := by rfl) (hpl : (backTo pos (starEach [.Name "tuple" p2] X.env)).any (·.1) = false := by rfl) :
    EO F X (.Call (.Name "isinstance" p) [a, .Name "tuple" p2] [] pos) (eIsi .tuple ga) := e_isi .tuple hK hg hm hgT hT PyProof.Rows.Boot.«tuple» ha (by decide) (by decide) he he2 hpl
end
end
/-- a def whose code object is told -/
structure FunC (K : PySem.W.Frag) (x qual : Str) (st : Stmt) (f : Addr) (fd : FuncData) (c : Addr) : Prop where
  ex : ∃ (oc : Value) (od : Option Addr) (kV doc pm : Value) (an : Option Addr) (ct : Value) (osl : Array (Option Value)),
    fd = PySem.W.fnOf x qual (defArgs st) (defBody st) (defScope st) .none kV doc pm an (.ref c) ct ∧ K.lookup f = some ⟨oc, od, .func fd, osl⟩ ∧ PySem.W.codeIn K (.ref c) qual = true
  kp : PySem.W.keepIn K (.ref f) = true
theorem FunC.fun {K : PySem.W.Frag} {x qual : Str} {st : Stmt} {f : Addr} {fd : FuncData} {c : Addr} (F : FunC K x qual st f fd c) : Fun K x qual st f fd :=
  let ⟨oc, od, kV, doc, pm, an, ct, osl, h1, h2, h3⟩ := F.ex
  ⟨⟨oc, od, kV, doc, pm, an, .ref c, ct, osl, h1, h2, h3⟩, F.kp⟩
theorem funC_mk {K : PySem.W.Frag} {x qual : Str} {st : Stmt} {f c : Addr} {oc : Value} {od an : Option Addr} {osl : Array (Option Value)} {kV doc pm ct : Value} (l : K.lookup f = some ⟨oc, od, .func (PySem.W.fnOf x qual (defArgs st) (defBody st) (defScope st) .none kV doc pm an (.ref c) ct), osl⟩)
    (h : PySem.W.codeIn K (.ref c) qual = true) (k : PySem.W.keepIn K (.ref f) = true) : FunC K x qual st f (PySem.W.fnOf x qual (defArgs st) (defBody st) (defScope st) .none kV doc pm an (.ref c) ct) c := ⟨⟨oc, od, kV, doc, pm, an, ct, osl, rfl, l, h⟩, k⟩
section
variable {P : Program} {w : World} {K : PySem.W.Frag} {mg : Str → Option Value} {base : Heap} {m : Pm} {x qual : Str} {st : Stmt} {f c : Addr} {fd : FuncData} {N ps : List Str} {k n l : Nat} {g : DS}
theorem okDC (Fu : FunC K x qual st f fd c) (Sc : FnScope N ps (defScope st)) (hK : m.K = K) (hn : ps.length = n) (hl : N.length = l)
    (hb : ∀ (A : Around) (outer : List Env) (s : Shared) (H : Hp) (E : XK) (F : Fx), F.m = m → F.E = E → Room k (A.deeper (envOfC qual (defScope st) s.heap.objs.size f (.ref c))) →
      BO F (cxOf (L2.CX P w) P w K mg base N qual (defScope st) f (.ref c) A outer s H E) (defBody st) g) : FnOk P w K mg base (L2.CX P w) (k + 1) f fd ps (spD m n (fnD l g)) := by
  subst hn
  subst hl
  obtain ⟨oc, od, kV, doc, pm, an, ct, osl, rfl, lk, hcd⟩ := Fu.ex
  refine fn_of lk hcd Sc (fun vs H Q E h => spD_len h) fun A outer s H vs Q E hr h => ?_
  obtain ⟨δ, O, c, ds, hlen, wd, r, h⟩ := h
  have hs : ∀ a, O a → H a ≠ none := fun a z => by
    obtain ⟨xs, q⟩ := wd.src a z
    rw [q]
    simp
  obtain ⟨t, pt, sg⟩ := hb A outer s H E (fxOf m δ H O E hs) rfl rfl hr
  refine ⟨t, pt, sg _ _ H O (startS N.length ds c) (est_start wd r hs) ?_⟩
  unfold fnD at h
  cases q : g (startS N.length ds c) with
  | nx s' =>
    rw [q] at h
    exact fun σ' H' O' _ I => h .non H' O' I.base I.wd .non
  | rt x c' =>
    rw [q] at h
    exact fun v H' O' st w' sx => h v H' O' st w' sx
  | er e c' =>
    rw [q] at h
    exact fun cls dd H' O' st w' er => h cls dd H' O' st w' er
  | bk s' => rw [q] at h; exact h.elim
  | ct s' => rw [q] at h; exact h.elim
  | stuck => rw [q] at h; exact h.elim
end
theorem cal_mk {P : Program} {w : World} {K : PySem.W.Frag} {mg : Str → Option Value} {base : Heap} {m : Pm} {k n : Nat} {x : Str} {G : Fn} {kws : List (Nat × List Str)} {fa : Addr} {fd : FuncData} {ps : List Str} (h1 : FnOk P w K mg base (L2.CX P w) k fa fd ps (spD m (n + 1) G)) (h2 : mg x = some (.ref fa)) (h3 : PySem.W.keepIn K (.ref fa) = true)
    (h4 : Binds K fd ps []) (h5 : ∀ q ∈ kws, KBinds K fd ps q.2 (gJ (n + 1) q.1) (gJ (n + 1) q.1)) : Cal P w K mg base m k x n G kws := ⟨fa, fd, ps, h1, h2, h3, h4, h5⟩
def scp (l : List (Str × NameKind)) : Scope := { kind := .function, names := l, isGenerator := false, isCoroutine := false, more := [] }
def scpG (l : List (Str × NameKind)) : Scope := { kind := .function, names := l, isGenerator := true, isCoroutine := false, more := [] }
end DL

set_option Elab.async false
set_option linter.all false
set_option maxRecDepth 100000
set_option maxHeartbeats 4000000
/-! DLu: the law's own helper that tells the refused name. -/
namespace DL
open PySem PySem.Spec L2
open PyProof.Rows hiding St

def refBody (p1 p2 p3 p4 p5 p6 p7 p8 p9 p10 p11 : Pos) (jj : Nat) : List Stmt := [.Try [.Expr (.Call (.Name "call" p1) [] [] p2) p3] [.ExceptHandler (some (.Name "BadArgument" p4)) (some ("e" : Str)) [.Return (some (.Attribute (.Name "e" p5) "name" p6)) p7] p8] [] [] p9, .Return (some (.Constant (.str "") jj p10)) p11]
structure RefAt (K : PySem.W.Frag) (mg : Str → Option Value) (C : Addr) : Prop where
  ex : ∃ (g : Addr) (pg : Arguments) (p1 p2 p3 p4 p5 p6 p7 p8 p9 p10 p11 : Pos) (jj : Nat) (sg : Scope) (dV kV doc pm cdv ct oc : Value) (od an : Option Addr) (osl : Array (Option Value)), mg "_law_refused" = some (.ref g) ∧ PySem.W.keepIn K (.ref g) = true ∧
    K.lookup g = some ⟨oc, od, .func (PySem.W.fnOf "_law_refused" "_law_refused" pg (refBody p1 p2 p3 p4 p5 p6 p7 p8 p9 p10 p11 jj) sg dV kV doc pm an cdv ct), osl⟩ ∧ PySem.W.codeIn K cdv "_law_refused" = true ∧
    L2.Binds K (PySem.W.fnOf "_law_refused" "_law_refused" pg (refBody p1 p2 p3 p4 p5 p6 p7 p8 p9 p10 p11 jj) sg dV kV doc pm an cdv ct) ["call"] [] ∧ FnScope ["call", "e"] ["call"] sg ∧ Vis sg "call" ∧ sg.names.lookup ("BadArgument" : Str) = some .globalImplicit ∧ sg.names.lookup ("e" : Str) = some .local
  mB : mg "BadArgument" = some (.ref C)
  xm : PySem.W.exmOne K (.ref C) (.ref C) = some true
  XF : XfC K C
  no : PySem.W.findIn K (.ref C) "name" = some none
theorem exm_own {K : PySem.W.Frag} {C : Addr} (h1 : PySem.W.subIn K (.ref C) (.type "BaseException") = some true) (h2 : (PySem.W.clsIn K C).isSome = true) (h3 : PySem.W.typeIn K (.ref C) = some (.type "type")) (h4 : PySem.W.subIn K (.ref C) (.ref C) = some true) : PySem.W.exmOne K (.ref C) (.ref C) = some true := by
  have e1 : (PySem.W.subIn K (.ref C) (.type "BaseException") == some true) = true := by rw [h1] <;> rfl
  have e2 : ((PySem.W.clsIn K C).isSome && PySem.W.typeIn K (.ref C) == some (.type "type")) = true := by rw [h2, h3] <;> rfl
  unfold PySem.W.exmOne
  simp only [e1, if_true]
  unfold PySem.W.kitCls
  simp only [e2, if_true]
  exact h4
section
variable {F : Fx} {X : Cx} {k j : Nat} {C c P : Addr} {params : Arguments} {body : Expr} {scope : Scope} {p lpos pos : Pos} {fe : DE}
theorem e_rf (R : RefAt X.K X.mg C) (hcl : F.m.cl j = some C) (TB : LamX.TabB X.base X.mg c P) (hcode : X.env.code = .ref c) (hT : (P, some (X.env.qual ++ "<lambda>")) ∈ F.m.T) (hu : ∀ p ∈ F.m.T, p.1 = P → p.2 = some (X.env.qual ++ "<lambda>")) (hr : Room (k + 2) X.A) (L : LamX.LamS X.env.scope scope)
    (hbody : ∀ (F' : Fx) (A : Around) (outer : List Env) (s : Shared) (H : Hp) (f c' : Addr), F'.m = F.m → Room k (A.deeper (LamX.lamEnv X scope s.heap.objs.size f c')) → EO F' (LamX.lamCx X A outer s H F'.E scope f c') body fe)
    (hdef : defaultsOf params X.env = ([], []) := by rfl) (hbind : ∀ (q : Str) (cl : List (Str × Addr)) (pm cv ctv : Value), bindArgs (PySem.W.kla_fn "<lambda>" q params body scope cl pm cv ctv) ⟨[], []⟩ = pure [] := by exact fun _ _ _ _ _ => rfl) (hg : Gl X "_law_refused" := by rfl) :
    EO F X (.Call (.Name "_law_refused" p) [.Lambda params body scope lpos] [] pos) (eRef j fe) := by
  obtain ⟨g, pg, p1, p2, p3, p4, p5, p6, p7, p8, p9, p10, p11, jj, sg, dV, kV, doc, pm, cdv, ct, oc, od, an, osl, h1, h2, h3, h4, h5, h6, h7, h8, h9⟩ := R.ex
  exact e_ref hg h1 h2 h3 h4 h5 h6 h7 h8 R.mB (by decide) (by decide +kernel) h9 (by decide) (by decide) R.xm R.XF R.no hcl TB hcode hT hu hr L hdef hbind hbody
end
theorem Cal.to {P : Program} {w : World} {K : PySem.W.Frag} {mg : Str → Option Value} {base : Heap} {m m' : Pm} {k : Nat} {x : Str} {n : Nat} {G : Fn} {kws : List (Nat × List Str)} (h : Cal P w K mg base m k x n G kws) (e : m' = m) : Cal P w K mg base m' k x n G kws := by
  rw [e]
  exact h
end DL

set_option Elab.async false
set_option linter.all false
set_option maxRecDepth 100000
set_option maxHeartbeats 4000000
/-! DLv: running the readings: equations for simp. -/
namespace DL
open PySem PySem.Spec L2
open PyProof.Rows hiding St

section
variable {d y : D} {x : Sl} {s s1 : S} {c : List Int} {e : Er} {a b f : DE} {as : DA} {g h : DS} {i : Nat} {G : Fn} {ds : List D}
@[simp] theorem Sl.d_val : (Sl.val d).d = d := rfl
@[simp] theorem Sl.d_own {xs : List D} : (Sl.own xs).d = .list xs := rfl
@[simp] theorem bind_ok {k : D → S → RE} : (RE.ok x s).bind k = k x.d s := rfl
@[simp] theorem bind_er {k : D → S → RE} : (RE.er e c).bind k = .er e c := rfl
@[simp] theorem st_ok {k : Sl → S → RS} : (RE.ok x s).st k = k x s := rfl
@[simp] theorem st_er {k : Sl → S → RS} : (RE.er e c).st k = .er e c := rfl
@[simp] theorem stT_ok {k : Bool → S → RS} {t : Bool} : (RE.ok (.val (.bool t)) s).stT k = k t s := rfl
@[simp] theorem stT_er {k : Bool → S → RS} : (RE.er e c).stT k = .er e c := rfl
@[simp] theorem test_ok {k : Bool → S → RE} {t : Bool} : (RE.ok (.val (.bool t)) s).test k = k t s := rfl
@[simp] theorem test_er {k : Bool → S → RE} : (RE.er e c).test k = .er e c := rfl
@[simp] theorem ra_ok {k : D → S → RA} : (RE.ok x s).ra k = k x.d s := rfl
@[simp] theorem ra_er {k : D → S → RA} : (RE.er e c).ra k = .er e c := rfl
@[simp] theorem abind_ok {k : List D → S → RE} : (RA.ok ds s).bind k = k ds s := rfl
@[simp] theorem abind_er {k : List D → S → RE} : (RA.er e c).bind k = .er e c := rfl
@[simp] theorem seq_nx {k : S → RS} : (RS.nx s).seq k = k s := rfl
@[simp] theorem seq_rt {k : S → RS} : (RS.rt x c).seq k = .rt x c := rfl
@[simp] theorem seq_er {k : S → RS} : (RS.er e c).seq k = .er e c := rfl
@[simp] theorem seq_bk {k : S → RS} : (RS.bk s).seq k = .bk s := rfl
@[simp] theorem seq_ct {k : S → RS} : (RS.ct s).seq k = .ct s := rfl
@[simp] theorem fin_nx : (RS.nx s).fin = .ok (.val .none) s.c := rfl
@[simp] theorem fin_rt : (RS.rt x c).fin = .ok x c := rfl
@[simp] theorem fin_er : (RS.er e c).fin = .er e c := rfl
@[simp] theorem liftR_val : liftR (some (.val d)) s = .ok (.val d) s := rfl
@[simp] theorem liftR_own {xs : List D} : liftR (some (.own xs)) s = .ok (.own xs) s := rfl
@[simp] theorem dSeq_eq : dSeq g h s = (g s).seq h := rfl
@[simp] theorem dNil_eq : dNil s = .nx s := rfl
@[simp] theorem dBreak_eq : dBreak s = .bk s := rfl
@[simp] theorem dCont_eq : dCont s = .ct s := rfl
@[simp] theorem dIf_eq : dIf a g h s = (a s).stT fun k s1 => if k = true then g s1 else h s1 := rfl
@[simp] theorem dRet_eq : dRet a s = (a s).st fun x s1 => .rt x s1.c := rfl
@[simp] theorem dRetN_eq : dRetN s = .rt (.val .none) s.c := rfl
@[simp] theorem dExpr_eq : dExpr a s = (a s).st fun _ s1 => .nx s1 := rfl
@[simp] theorem dSet_eq : dSet i a s = (a s).st fun x s1 => .nx { s1 with e := s1.e.set i x } := rfl
@[simp] theorem dPar_eq {j : Nat} : dPar i j a b s = (a s).st fun x s1 => (b s1).st fun y s2 => .nx { s2 with e := (s2.e.set i x).set j y } := rfl
@[simp] theorem dPar3_eq {j l : Nat} : dPar3 i j l a b f s = (a s).st fun x s1 => (b s1).st fun y s2 => (f s2).st fun z s3 => .nx { s3 with e := ((s3.e.set i x).set j y).set l z } := rfl
@[simp] theorem eC_eq : eC d s = .ok (.val d) s := rfl
@[simp] theorem eOp_eq {op : D → D → Option Sl} : eOp op a b s = (a s).bind fun x s1 => (b s1).bind fun y s2 => liftR (op x y) s2 := rfl
@[simp] theorem eAdd_eq : eAdd a b = eOp addD a b := rfl
@[simp] theorem eSub_eq : eSub a b = eOp subD a b := rfl
@[simp] theorem eMul_eq : eMul a b = eOp mulD a b := rfl
@[simp] theorem eDiv_eq : eDiv a b = eOp divD a b := rfl
@[simp] theorem eMod_eq : eMod a b = eOp modD a b := rfl
@[simp] theorem ePow_eq : ePow a b = eOp powD a b := rfl
@[simp] theorem eLt_eq : eLt a b = eOp ltD a b := rfl
@[simp] theorem eLe_eq : eLe a b = eOp leD a b := rfl
@[simp] theorem eGt_eq : eGt a b = eOp gtD a b := rfl
@[simp] theorem eGe_eq : eGe a b = eOp geD a b := rfl
@[simp] theorem eEq_eq : eEq a b = eOp eqD a b := rfl
@[simp] theorem eNe_eq : eNe a b = eOp neD a b := rfl
@[simp] theorem eIsN_eq : eIsN a b = eOp isNd a b := rfl
@[simp] theorem eNotN_eq : eNotN a b = eOp notNd a b := rfl
@[simp] theorem eIx_eq : eIx a b = eOp ixD a b := rfl
@[simp] theorem eNot_eq : eNot a s = (a s).test fun b s1 => .ok (.val (.bool (!b))) s1 := rfl
@[simp] theorem eIf_eq : eIf f a b s = (f s).test fun k s1 => if k = true then a s1 else b s1 := rfl
@[simp] theorem eAnd_eq : eAnd a b s = (a s).test fun k s1 => if k = true then b s1 else .ok (.val (.bool false)) s1 := rfl
@[simp] theorem eOr_eq : eOr a b s = (a s).test fun k s1 => if k = true then .ok (.val (.bool true)) s1 else b s1 := rfl
@[simp] theorem eChain_eq {p q : D → D → Option Sl} : eChain p q a b f s = (a s).bind fun x s1 => (b s1).bind fun y s2 => match p x y with
  | some (.val (.bool true)) => (f s2).bind fun z s3 => liftR (q y z) s3
  | some (.val (.bool false)) => .ok (.val (.bool false)) s2
  | _ => .stuck := rfl
@[simp] theorem eLeLe_eq : eLeLe a b f = eChain leD leD a b f := rfl
@[simp] theorem eLeLt_eq : eLeLt a b f = eChain leD ltD a b f := rfl
@[simp] theorem aNil_eq : aNil s = .ok [] s := rfl
@[simp] theorem aCons_eq : aCons a as s = match a s with
  | .ok x s1 => match as s1 with
    | .ok xs s2 => .ok (x.d :: xs) s2
    | r => r
  | .er e c => .er e c
  | .stuck => .stuck := rfl
@[simp] theorem eTup_eq : eTup as s = (as s).bind fun ds s1 => .ok (.val (.tuple ds)) s1 := rfl
@[simp] theorem eLst_eq : eLst as s = (as s).bind fun ds s1 => .ok (.own ds) s1 := rfl
@[simp] theorem eB_eq {p : List D → Option Sl} : eB p as s = (as s).bind fun ds s1 => liftR (p ds) s1 := rfl
@[simp] theorem eCall_eq : eCall G as s = (as s).bind fun ds s1 => callR G ds s1 := rfl
@[simp] theorem eCallK_eq {ks : DA} : eCallK G as ks s = (as s).bind fun ds s1 => (ks s1).bind fun es s2 => callR G (ds ++ es) s2 := rfl
@[simp] theorem eSl_eq {lo hi : Option DE} : eSl a lo hi s = (a s).bind fun x s1 => partD lo s1 fun l s2 => partD hi s2 fun h s3 => liftR (slD x l h) s3 := rfl
@[simp] theorem partD_none {k : Option Int → S → RE} : partD none s k = k none s := rfl
@[simp] theorem eNeg_eq : eNeg a s = (a s).bind fun x s1 => match x with
  | .int i => .ok (.val (.int (-i))) s1
  | _ => .stuck := rfl
@[simp] theorem eIsi_eq {T : Ty4} : eIsi T a s = (a s).bind fun x s1 => if plainD x then .ok (.val (.bool (isiD T x))) s1 else .stuck := rfl
@[simp] theorem iSeq_eq : iSeq a s = (a s).ra fun x s1 => match itD x with
  | some ds => .ok ds s1
  | none => .stuck := rfl
@[simp] theorem dFor_eq {gt : D → S → Option S} : dFor as gt g s = match as s with
  | .ok ds s1 => forL gt g ds s1
  | .er e c => .er e c
  | .stuck => .stuck := rfl
@[simp] theorem dAsg_eq {gt : D → S → Option S} : dAsg gt a s = (a s).st fun x s1 => match gt x.d s1 with
  | some s2 => .nx s2
  | none => .stuck := rfl
end
theorem eVar_val {i : Nat} {s : S} {d : D} (h : s.e[i]? = some (.val d)) : eVar i s = .ok (.val d) s := by unfold eVar; rw [h]
theorem eVar_own {i : Nat} {s : S} {xs : List D} (h : s.e[i]? = some (.own xs)) : eVar i s = .ok (.val (.list xs)) { s with e := s.e.set i (.val (.list xs)) } := by unfold eVar; rw [h]
theorem fnD_eq {n : Nat} {g : DS} {ds : List D} {c : List Int} : fnD n g ds c = (g (startS n ds c)).fin := rfl
end DL

set_option Elab.async false
set_option linter.all false
set_option maxRecDepth 100000
set_option maxHeartbeats 4000000
/-! DLw: the readings' operations on numbers, places, loops. -/
namespace DL
open PySem PySem.Spec L2
open PyProof.Rows hiding St

section
variable {i j k : Int} {xs ys : List D} {b : Bool} {d : D}
@[simp] theorem addD_ii : addD (.int i) (.int j) = some (.val (.int (i + j))) := rfl
@[simp] theorem subD_ii : subD (.int i) (.int j) = some (.val (.int (i - j))) := rfl
@[simp] theorem ltD_ii : ltD (.int i) (.int j) = some (.val (.bool (decide (i < j)))) := rfl
@[simp] theorem leD_ii : leD (.int i) (.int j) = some (.val (.bool (decide (i ≤ j)))) := rfl
@[simp] theorem gtD_ii : gtD (.int i) (.int j) = some (.val (.bool (decide (j < i)))) := rfl
@[simp] theorem geD_ii : geD (.int i) (.int j) = some (.val (.bool (decide (j ≤ i)))) := rfl
@[simp] theorem eqv_ii : PyData.eqv (.int i) (.int j) = decide (i = j) := by
  unfold PyData.eqv
  by_cases h : i = j
  · simp [h]
  · simp [h]
theorem shaped_int : SeqAt.shaped (.int i) = true := by
  unfold SeqAt.shaped PyData.canLay0 PyData.depth
  simp
@[simp] theorem eqD_ii : eqD (.int i) (.int j) = some (.val (.bool (decide (i = j)))) := by unfold eqD; rw [shaped_int, shaped_int, eqv_ii]; rfl
@[simp] theorem neD_ii : neD (.int i) (.int j) = some (.val (.bool (!decide (i = j)))) := by unfold neD; rw [shaped_int, shaped_int, eqv_ii]; rfl
theorem mulD_ii (h : (lim64 i || lim64 j) = true) : mulD (.int i) (.int j) = some (.val (.int (i * j))) := by unfold mulD; simp only [h, if_true]
theorem divD_ii (h : 0 < j) (h' : j < 1073741824) : divD (.int i) (.int j) = some (.val (.int (i / j))) := by unfold divD gI; simp [h, h']
theorem modD_ii (h : 0 < j) : modD (.int i) (.int j) = some (.val (.int (i % j))) := by unfold modD gI; simp [h]
@[simp] theorem absB_i : absB [.int i] = some (.val (.int (if i < 0 then -i else i))) := rfl
@[simp] theorem intB_i : intB [.int i] = some (.val (.int i)) := rfl
@[simp] theorem minB_ii : minB [.int i, .int j] = some (.val (.int (if j < i then j else i))) := rfl
@[simp] theorem maxB_ii : maxB [.int i, .int j] = some (.val (.int (if j > i then j else i))) := rfl
@[simp] theorem lenB_list : lenB [.list xs] = some (.val (.int xs.length)) := rfl
@[simp] theorem lenB_tuple : lenB [.tuple xs] = some (.val (.int xs.length)) := rfl
@[simp] theorem lenB_scr : lenB [dscr xs] = some (.val (.int xs.length)) := rfl
theorem atI_ok {α : Type} {l : List α} (h0 : 0 ≤ i) (h1 : i < l.length) : atI l i = l[i.toNat]? := by
  unfold atI ixN
  rw [if_pos h0, if_pos h1]
  rfl
theorem atI_neg {α : Type} {l : List α} (h : l ≠ []) : atI l (-1) = l.getLast? := by
  unfold atI ixN
  have hl : 0 < l.length := List.length_pos_iff.mpr h
  rw [if_neg (by decide), if_pos (by omega)]
  have e : (-1 + (l.length : Int)).toNat = l.length - 1 := by omega
  show l[(-1 + (l.length : Int)).toNat]? = _
  rw [e, List.getLast?_eq_getElem?]
theorem ixN_ok {n : Nat} (h0 : 0 ≤ i) (h1 : i < n) : ixN n i = some i.toNat := by unfold ixN; rw [if_pos h0, if_pos h1]
@[simp] theorem ixC_cell {c : List Int} : ixC dcell (.int i) c = (atI c i).map fun n => .val (.int n) := rfl
@[simp] theorem ixC_tup {c : List Int} : ixC (.tuple xs) (.int i) c = (atI xs i).map .val := rfl
@[simp] theorem ixC_lst {c : List Int} : ixC (.list xs) (.int i) c = (atI xs i).map .val := rfl
@[simp] theorem ixC_scr {c : List Int} : ixC (dscr xs) (.int i) c = (atI xs i).map .val := rfl
@[simp] theorem ixD_tup : ixD (.tuple xs) (.int i) = (atI xs i).map .val := rfl
@[simp] theorem ixD_lst : ixD (.list xs) (.int i) = (atI xs i).map .val := rfl
end
theorem eIxN_val {i : Nat} {b : DE} {s : S} {d : D} (h : s.e[i]? = some (.val d)) : eIxN i b s = (b s).bind fun y s2 => liftR (ixC d y s2.c) s2 := by unfold eIxN; rw [h]
theorem eIxN_own {i : Nat} {b : DE} {s : S} {xs : List D} (h : s.e[i]? = some (.own xs)) : eIxN i b s = (b s).bind fun y s2 => match s2.e[i]? with
    | some (.own xs) => liftR (ixD (.list xs) y) s2
    | _ => .stuck := by unfold eIxN; simp only [h] <;> rfl
theorem eLenN_val {i : Nat} {s : S} {d : D} (h : s.e[i]? = some (.val d)) : eLenN i s = liftR (lenB [d]) s := by unfold eLenN; rw [h]
theorem eLenN_own {i : Nat} {s : S} {xs : List D} (h : s.e[i]? = some (.own xs)) : eLenN i s = .ok (.val (.int xs.length)) s := by unfold eLenN; rw [h]
theorem dRetV_val {i : Nat} {s : S} {d : D} (h : s.e[i]? = some (.val d)) : dRetV i s = .rt (.val d) s.c := by unfold dRetV; rw [h]
theorem dRetV_own {i : Nat} {s : S} {xs : List D} (h : s.e[i]? = some (.own xs)) : dRetV i s = .rt (.own xs) s.c := by unfold dRetV; rw [h]
theorem callR_ok {G : Fn} {ds : List D} {s : S} {x : Sl} {c : List Int} (h : G ds s.c = .ok x c) : callR G ds s = .ok x { s with c := c } := by unfold callR; rw [h]
theorem callR_er {G : Fn} {ds : List D} {s : S} {e : Er} {c : List Int} (h : G ds s.c = .er e c) : callR G ds s = .er e c := by unfold callR; rw [h]
theorem dStore_cell {i : Nat} {ix a : DE} {s s1 s2 : S} {x y : Sl} {n z : Int} {j : Nat} (ha : a s = .ok x s1) (h : s1.e[i]? = some (.val dcell)) (hi : ix s1 = .ok y s2) (hy : y.d = .int n) (hx : x.d = .int z) (hj : ixN s2.c.length n = some j) :
    dStore i ix a s = .nx { s2 with c := s2.c.set j z } := by
  unfold dStore
  rw [ha]
  show (match s1.e[i]? with
    | some (.own _) => _
    | some (.val (.dict [(.none, .none)])) => _
    | _ => _) = _
  rw [h]
  show (ix s1).st _ = _
  rw [hi]
  simp only [st_ok, hy, hx, hj]
def storeK (i : Nat) (ix : DE) (x : Sl) (s1 : S) : RS := match s1.e[i]? with
  | some (.own _) => (ix s1).st fun y s2 => match s2.e[i]?, y.d with
    | some (.own xs), .int n => match ixN xs.length n with
      | some j => .nx { s2 with e := s2.e.set i (.own (xs.set j x.d)) }
      | none => .stuck
    | _, _ => .stuck
  | some (.val (.dict [(.none, .none)])) => (ix s1).st fun y s2 => match y.d, x.d with
    | .int n, .int z => match ixN s2.c.length n with
      | some j => .nx { s2 with c := s2.c.set j z }
      | none => .stuck
    | _, _ => .stuck
  | _ => .stuck
@[simp] theorem dStore_eq {i : Nat} {ix a : DE} {s : S} : dStore i ix a s = (a s).st (storeK i ix) := rfl
def storeC (y x : D) (s2 : S) : RS := match y, x with
    | .int n, .int z => match ixN s2.c.length n with
      | some j => .nx { s2 with c := s2.c.set j z }
      | none => .stuck
    | _, _ => .stuck
theorem storeK_cell {i : Nat} {ix : DE} {x : Sl} {s1 : S} (h : s1.e[i]? = some (.val dcell)) : storeK i ix x s1 = (ix s1).st fun y s2 => storeC y.d x.d s2 := by
  unfold storeK
  rw [h]
  rfl
@[simp] theorem storeC_ii {n z : Int} {s2 : S} : storeC (.int n) (.int z) s2 = match ixN s2.c.length n with
      | some j => .nx { s2 with c := s2.c.set j z }
      | none => .stuck := rfl
def storeO (i : Nat) (y x : D) (s2 : S) : RS := match s2.e[i]?, y with
    | some (.own xs), .int n => match ixN xs.length n with
      | some j => .nx { s2 with e := s2.e.set i (.own (xs.set j x)) }
      | none => .stuck
    | _, _ => .stuck
theorem storeK_own {i : Nat} {ix : DE} {x : Sl} {xs : List D} {s1 : S} (h : s1.e[i]? = some (.own xs)) : storeK i ix x s1 = (ix s1).st fun y s2 => storeO i y.d x.d s2 := by
  unfold storeK
  rw [h]
  rfl
theorem rangeD_zero {lo : Int} : rangeD lo 0 = [] := rfl
theorem rangeD_succ {lo : Int} {n : Nat} : rangeD lo (n + 1) = .int lo :: rangeD (lo + 1) n := by
  unfold rangeD
  rw [List.range_succ_eq_map, List.map_cons, List.map_map]
  congr 1
  · simp
  · apply List.map_congr_left
    intro a _
    show PyData.int (lo + ((a + 1 : Nat) : Int)) = PyData.int (lo + 1 + (a : Int))
    congr 1
    omega
theorem rangeD_len {lo : Int} {n : Nat} : (rangeD lo n).length = n := by simp [rangeD]
theorem intsD_ok (ns : List Int) : intsD (ns.map PyData.int) = some ns := intsD_map ns
@[simp] theorem tupB_list {xs : List D} (h : xs.length ≤ sizeLine := by first | assumption | simp [sizeLine_eq]) : tupB [.list xs] = some (.val (.tuple xs)) := by
  unfold tupB
  first
  | rfl
  | simp [h]
end DL

set_option Elab.async false
set_option linter.all false
set_option maxRecDepth 100000
set_option maxHeartbeats 4000000
/-! DLx: ranges, comprehensions, equality of data, loops. -/
namespace DL
open PySem PySem.Spec L2
open PyProof.Rows hiding St

section
variable {i j k : Int} {xs ys ds acc : List D} {b : Bool} {d : D} {s s1 s2 : S} {a f tt te c : DE} {as bs : DA} {vs : List Nat} {g : D → S → Option S} {n : Nat} {gb : DS} {x y : Sl}
def rng1K (x : D) (s1 : S) : RA := match x with
  | .int j => if lim62 j then .ok (rangeD 0 j.toNat) s1 else .stuck
  | _ => .stuck
@[simp] theorem iRng1_eq : DL.iRng1 a s = (a s).ra rng1K := rfl
theorem rng1K_int (h1 : -4611686018427387904 ≤ j) (h2 : j < 4611686018427387904) : rng1K (.int j) s = .ok (rangeD 0 j.toNat) s := by
  have h : lim62 j = true := by simp [lim62]; omega
  unfold rng1K
  simp only [h, if_true]
def rng2K (x y : D) (s2 : S) : RA := match x, y with
  | .int i, .int j => if lim62 i && lim62 j then .ok (rangeD i (j - i).toNat) s2 else .stuck
  | _, _ => .stuck
@[simp] theorem iRng2_eq : DL.iRng2 a c s = (a s).ra fun x s1 => (c s1).ra (rng2K x) := rfl
theorem rng2K_int (h1 : -4611686018427387904 ≤ i ∧ i < 4611686018427387904) (h2 : -4611686018427387904 ≤ j ∧ j < 4611686018427387904) : rng2K (.int i) (.int j) s = .ok (rangeD i (j - i).toNat) s := by
  have h : (lim62 i && lim62 j) = true := by simp [lim62]; omega
  unfold rng2K
  simp only [h, if_true]
def compK (vs : List Nat) (g : D → S → Option S) (tt te : DE) (ds : List D) (s1 : S) : RE := if ds.length < sizeLine then (match compL g tt te vs ds [] s1 with
    | .ok acc s2 => .ok (.own acc) s2
    | _ => .stuck) else .stuck
def RA.ere (r : RA) (k : List D → S → RE) : RE := match r with
  | .ok ds s1 => k ds s1
  | .er e c => .er e c
  | .stuck => .stuck
@[simp] theorem ere_ok {k : List D → S → RE} : (RA.ok ds s).ere k = k ds s := rfl
@[simp] theorem eComp_eq : eComp vs as g tt te s = (as s).ere (compK vs g tt te) := rfl
theorem compK_ok (hl : ds.length < sizeLine) (e : compL g tt te vs ds [] s1 = .ok acc s2) : compK vs g tt te ds s1 = .ok (.own acc) s2 := by
  unfold compK
  rw [if_pos hl, e]
@[simp] theorem compL_nil : compL g tt te vs [] acc s = .ok acc s := rfl
def allK (vs : List Nat) (g : D → S → Option S) (te : DE) (ds : List D) (s1 : S) : RE := match allL g te vs ds s1 with
    | .ok (.val d) s2 => .ok (.val d) s2
    | _ => .stuck
@[simp] theorem eAll_eq : eAll vs as g te s = (as s).ere (allK vs g te) := rfl
theorem allK_ok (e : allL g te vs ds s1 = .ok (.val d) s2) : allK vs g te ds s1 = .ok (.val d) s2 := by
  unfold allK
  rw [e]
@[simp] theorem itD_tup : itD (.tuple xs) = some xs := rfl
@[simp] theorem itD_lst : itD (.list xs) = some xs := rfl
@[simp] theorem gSet_eq {i : Nat} : gSet i d s = some { s with e := s.e.set i (.val d) } := rfl
@[simp] theorem tTrue_eq : tTrue s = .ok (.val (.bool true)) s := rfl
@[simp] theorem gTupD_eq {gs : List D → S → Option S} : gTupD gs (.tuple ds) s = gs ds s := rfl
@[simp] theorem gsCons_eq {gs : List D → S → Option S} : gsCons g gs (d :: ds) s = (g d s).bind (gs ds) := rfl
@[simp] theorem gsNil_eq : gsNil [] s = some s := rfl
@[simp] theorem forL_nil {g : D → S → Option S} : forL g gb [] s = .nx s := rfl
theorem dApp_own {i : Nat} (h : s.e[i]? = some (.own xs)) : dApp i a s = (a s).st fun x s1 => match s1.e[i]? with
    | some (.own xs) => if xs.length < sizeLine then .nx { s1 with e := s1.e.set i (.own (xs ++ [x.d])) } else .stuck
    | _ => .stuck := by unfold dApp; simp only [h] <;> rfl
theorem dRaise_eq {k : Nat} : dRaise k as s = match as s with
  | .ok [.str y] s1 => if y.length ≤ 1000000 then .er ⟨k, [("name", .str y)]⟩ s1.c else .stuck
  | .ok _ _ => .stuck
  | .er e c => .er e c
  | .stuck => .stuck := rfl
end

/-! ### shapes and equality -/
def Sh (k : Nat) (d : D) : Prop := d.canLay0 = true ∧ d.depth ≤ k
theorem Sh.int {k : Nat} {i : Int} : Sh k (.int i) := ⟨by simp only [PyData.canLay0], by simp only [PyData.depth]; omega⟩
theorem Sh.bool {k : Nat} {i : Bool} : Sh k (.bool i) := ⟨by simp only [PyData.canLay0], by simp only [PyData.depth]; omega⟩
theorem Sh.none {k : Nat} : Sh k .none := ⟨by simp only [PyData.canLay0], by simp only [PyData.depth]; omega⟩
theorem Sh.str {k : Nat} {x : Str} (h : PyData.strOk x = true) : Sh k (.str x) := ⟨by simp only [PyData.canLay0]; exact h, by simp only [PyData.depth]; omega⟩
theorem Sh.all {k : Nat} : ∀ {xs : List D}, (∀ x ∈ xs, Sh k x) → PyData.canLayAll0 xs = true ∧ PyData.depthAll xs ≤ k
  | [], _ => ⟨by simp only [PyData.canLayAll0], by simp only [PyData.depthAll]; omega⟩
  | x :: xs, h => by
    have h1 := h x (by simp)
    have h2 := Sh.all fun y hy => h y (List.mem_cons_of_mem _ hy)
    refine ⟨?_, ?_⟩
    · simp only [PyData.canLayAll0, h1.1, h2.1, Bool.and_self]
    · simp only [PyData.depthAll]
      have := h1.2
      have := h2.2
      omega
theorem Sh.tup {k : Nat} {xs : List D} (h : ∀ x ∈ xs, Sh k x) : Sh (k + 1) (.tuple xs) := ⟨by simp only [PyData.canLay0]; exact (Sh.all h).1, by simp only [PyData.depth]; have := (Sh.all h).2; omega⟩
theorem Sh.lst {k : Nat} {xs : List D} (h : ∀ x ∈ xs, Sh k x) : Sh (k + 1) (.list xs) := ⟨by simp only [PyData.canLay0]; exact (Sh.all h).1, by simp only [PyData.depth]; have := (Sh.all h).2; omega⟩
theorem Sh.ints {k : Nat} {ns : List Int} : ∀ x ∈ ns.map PyData.int, Sh k x := fun x h => by
  obtain ⟨n, _, rfl⟩ := List.mem_map.mp h
  exact .int
theorem Sh.sh {k : Nat} {d : D} (h : Sh k d) (hk : k ≤ 64) : SeqAt.shaped d = true := by
  have := h.2
  unfold SeqAt.shaped
  rw [h.1, Bool.true_and]
  exact decide_eq_true (by omega)
theorem eqD_self {k : Nat} {d : D} (h : Sh k d) (hk : k ≤ 64 := by decide) : eqD d d = some (.val (.bool true)) := by
  unfold eqD
  rw [h.sh hk, SeqAt.eqv_refl d h.1]
  rfl
theorem neD_self {k : Nat} {d : D} (h : Sh k d) (hk : k ≤ 64 := by decide) : neD d d = some (.val (.bool false)) := by
  unfold neD
  rw [h.sh hk, SeqAt.eqv_refl d h.1]
  rfl
end DL

set_option Elab.async false
set_option linter.all false
set_option maxRecDepth 100000
set_option maxHeartbeats 4000000
/-! DLy: augmented stores, loops' steps. -/
namespace DL
open PySem PySem.Spec L2
open PyProof.Rows hiding St

section
variable {i j k : Int} {xs ys ds acc : List D} {b : Bool} {d x : D} {s s1 s2 : S} {a f : DE} {g : D → S → Option S} {gop : D → D → Option Sl} {y : Sl} {m : Nat}
def augK (gop : D → D → Option Sl) (m : Nat) (x : D) (y : Sl) (s1 : S) : RS := match gop x y.d with
  | some (.val z) => .nx { s1 with e := s1.e.set m (.val z) }
  | _ => .stuck
theorem dAug_val (h : s.e[m]? = some (.val x)) : dAug gop m a s = (a s).st (augK gop m x) := by
  unfold dAug
  rw [h] <;> rfl
@[simp] theorem augK_ii : augK augD m (.int i) (.val (.int j)) s = .nx { s with e := s.e.set m (.val (.int (i + j))) } := rfl
@[simp] theorem isNd_none : isNd .none .none = some (.val (.bool true)) := rfl
@[simp] theorem isNd_int : isNd (.int i) .none = some (.val (.bool false)) := rfl
@[simp] theorem isNd_tup : isNd (.tuple xs) .none = some (.val (.bool false)) := rfl
@[simp] theorem isNd_lst : isNd (.list xs) .none = some (.val (.bool false)) := rfl
@[simp] theorem notNd_none : notNd .none .none = some (.val (.bool false)) := rfl
@[simp] theorem notNd_int : notNd (.int i) .none = some (.val (.bool true)) := rfl
@[simp] theorem notNd_tup : notNd (.tuple xs) .none = some (.val (.bool true)) := rfl
@[simp] theorem notNd_lst : notNd (.list xs) .none = some (.val (.bool true)) := rfl
theorem mulD_nn {i j : Int} (h : -9223372036854775808 ≤ j ∧ j < 9223372036854775808) : mulD (.int i) (.int j) = some (.val (.int (i * j))) := mulD_ii (by simp [lim64]; omega)
theorem forL_rt {gb : DS} {x : Sl} {c : List Int} (h : g d s = some s1) (hb : gb s1 = .rt x c) : forL g gb (d :: ds) s = .rt x c := by
  conv => lhs; unfold forL
  simp only [h, hb]
theorem forL_er {gb : DS} {x : Er} {c : List Int} (h : g d s = some s1) (hb : gb s1 = .er x c) : forL g gb (d :: ds) s = .er x c := by
  conv => lhs; unfold forL
  simp only [h, hb]
theorem forL_ct {gb : DS} (h : g d s = some s1) (hb : gb s1 = .ct s2) : forL g gb (d :: ds) s = forL g gb ds s2 := by
  conv => lhs; unfold forL
  simp only [h, hb]
end
end DL

set_option Elab.async false
set_option linter.all false
set_option maxRecDepth 100000
set_option maxHeartbeats 4000000
/-! DLz: defs as values. -/
namespace DL
open PySem PySem.Spec L2
open PyProof.Rows hiding St

def FnAt (K : PySem.W.Frag) (mg : Str → Option Value) (x : Str) : Prop := ∃ a, PySem.W.nsIn K mainGlobals x = some (some (.ref a)) ∧ mg x = some (.ref a)
section
variable {K : PySem.W.Frag} {H : Hp} {O : Addr → Prop} {δ : Option Addr} {v : V} {d : D}
theorem RepD.fn_inv {x : Str} (r : RepD K H O δ v (dfn x)) : ∃ a, v = .ref a ∧ PySem.W.nsIn K mainGlobals x = some (some (.ref a)) := by
  generalize e : dfn x = d at r
  cases r with
  | fn h =>
    unfold dfn at e
    simp at e
    subst e
    exact ⟨_, rfl, h⟩
  | cell h => unfold dcell dfn at e; simp at e
  | scr h q => unfold dscr dfn at e; simp at e
  | dic h n q =>
    exfalso
    unfold dfn at e
    injection e with e
    rename_i kvs ds
    cases kvs with
    | nil => simp at e
    | cons p l =>
      cases ds with
      | nil => simp at e
      | cons x r =>
        simp only [List.map_cons, List.zip_cons_cons, List.cons.injEq, Prod.mk.injEq] at e
        exact keyD_none _ e.1.1.symm
  | _ => unfold dfn at e; cases e
end
/-- of several defs that the slot may hold -/
structure HeldE (P : Program) (w : World) (K : PySem.W.Frag) (mg : Str → Option Value) (base : Heap) (CX : CXT) (k : Nat) (f : Addr) (sp : Sp) : Prop where
  ex : ∃ (fd : FuncData) (ps : List Str), FnOk P w K mg base CX k f fd ps sp ∧ PySem.W.keepIn K (.ref f) = true ∧ Binds K fd ps []
def tCallV (i : Nat) (S : Addr → Sp → Prop) (E : XK) (t : TA) : TE := fun σ H Q => ∃ f sp, σ[i]? = some (some (.ref f)) ∧ S f sp ∧ t σ H fun vs H1 => sp vs H1 Q E
section
variable {X : Cx} {CX : CXT} {k i : Nat} {E : XK} {x : Str} {p pos : Pos} {e : Expr} {es : List Expr} {t : TA}
theorem pe_callV {S : Addr → Sp → Prop} (A : ∀ f sp, S f sp → HeldE X.prog X.w X.K X.mg X.base CX k f sp) (hr : Room k X.A) (hN : X.N[i]? = some x) (hv : Vis X.env.scope x) (hx : Passes CX X E) (ha : PA X (e :: es) t)
    (hdb : (x == ("__debug__" : Str)) = false := by decide) (hcd : (x == ("__classdict__" : Str)) = false := by decide)
    (he : starEach (e :: es) X.env = (false, eval e X.env) :: starEach es X.env := by rfl) (hpl : (backTo pos (starEach es X.env)).any (·.1) = false := by rfl) : PE X (.Call (.Name x p) (e :: es) [] pos) (tCallV i S E t) := by
  refine ⟨fun pins s σ H Q I h => ?_⟩
  obtain ⟨f, sp, hs, hS, ht⟩ := h
  obtain ⟨fd, ps, F, hk, hb⟩ := (A f sp hS).ex
  refine (pe_callL (i := i) (f := f) (sp := sp) (dvs := []) (E := E) F hr hN hv hk hb .nil hx ha hdb hcd he hpl).run pins s σ H Q I ⟨hs, ?_⟩
  have e0 : (fun (vs : List V) (H1 : Hp) => sp (vs ++ []) H1 Q E) = fun vs H1 => sp vs H1 Q E := by
    funext vs H1
    rw [List.append_nil]
  show t σ H (fun vs H1 => sp (vs ++ []) H1 Q E)
  rw [e0]
  exact ht
end
def fnX (tab : List (Str × Fn)) : D → Option Fn
  | .dict [(.none, .str x)] => tab.lookup x
  | _ => none
def eCallV (i : Nat) (tab : List (Str × Fn)) (as : DA) : DE := fun s => match s.e[i]? with
  | some (.val d) => match fnX tab d with
    | some G => (as s).bind fun ds s1 => callR G ds s1
    | none => .stuck
  | _ => .stuck
theorem fnX_some {tab : List (Str × Fn)} {d : D} {G : Fn} (h : fnX tab d = some G) : ∃ x, d = dfn x ∧ tab.lookup x = some G := by
  unfold fnX at h
  split at h
  · exact ⟨_, rfl, h⟩
  · cases h
section
variable {F : Fx} {X : Cx} {k j n i : Nat} {G : Fn} {x : Str} {p pos : Pos} {e : Expr} {es : List Expr} {as : DA} {kl : List (Nat × List Str)} {tab : List (Str × Fn)}
/-- a def's name as a value -/
theorem e_fn (hK : F.m.K = X.K) (h : FnAt X.K X.mg x) (hg : Gl X x := by rfl) (hd : (x == ("__debug__" : Str)) = false := by decide) : EO F X (.Name x pos) (eC (dfn x)) := by
  obtain ⟨a, h1, h2⟩ := h
  exact e_of (pe_glob hg h2 (v := .ref a) rfl hd) fun _ _ => .fn (hK ▸ h1)
def TabOk (P : Program) (w : World) (K : PySem.W.Frag) (mg : Str → Option Value) (base : Heap) (m : Pm) (k n : Nat) (tab : List (Str × Fn)) : Prop := ∀ x G, tab.lookup x = some G → FnAt K mg x ∧ ∃ j kl, j ≤ k ∧ Cal P w K mg base m j x n G kl
theorem tab_nil {P : Program} {w : World} {K : PySem.W.Frag} {mg : Str → Option Value} {base : Heap} {m : Pm} : TabOk P w K mg base m k n [] := fun x G h => by cases h
theorem tab_cons {P : Program} {w : World} {K : PySem.W.Frag} {mg : Str → Option Value} {base : Heap} {m : Pm} (hf : FnAt K mg x) (h : Cal P w K mg base m j x n G kl) (hr : TabOk P w K mg base m k n tab) (hj : j ≤ k := by decide) : TabOk P w K mg base m k n ((x, G) :: tab) := fun y G' e => by
  rw [List.lookup_cons] at e
  split at e
  · rename_i q
    have q := eq_of_beq q
    subst q
    cases e
    exact ⟨hf, j, kl, hj, h⟩
  · exact hr y G' e
theorem e_callV (hK : F.m.K = X.K) (ht : TabOk X.prog X.w X.K X.mg X.base F.m k n tab) (hr : Room j X.A) (hx : Passes (L2.CX X.prog X.w) X F.E) (ha : AO F X (e :: es) as) (hkj : k ≤ j := by decide) (hN : X.N[i]? = some x := by rfl)
    (hv : Vis X.env.scope x := by first | exact Or.inl rfl | exact Or.inr (Or.inl rfl) | exact Or.inr (Or.inr rfl)) (hn : (e :: es).length = n + 1 := by rfl) (hdb : (x == ("__debug__" : Str)) = false := by decide) (hcd : (x == ("__classdict__" : Str)) = false := by decide)
    (he : starEach (e :: es) X.env = (false, eval e X.env) :: starEach es X.env := by rfl) (hpl : (backTo pos (starEach es X.env)).any (·.1) = false := by rfl) : EO F X (.Call (.Name x p) (e :: es) [] pos) (eCallV i tab as) := by
  obtain ⟨ta, pa, sa, la⟩ := ha
  refine ⟨_, pe_callV (k := k) (S := fun f sp => ∃ y G, tab.lookup y = some G ∧ sp = spD F.m (n + 1) G ∧ X.mg y = some (.ref f)) (fun f sp h => ?_) (hr.mono hkj) hN hv hx pa hdb hcd he hpl, fun σ H O s Q I kk => ?_⟩
  · obtain ⟨y, G, h1, rfl, h2⟩ := h
    obtain ⟨_, jj, kl, hjk, hC⟩ := ht y G h1
    obtain ⟨fa, fd, ps, f1, f2, f3, f4, _⟩ := hC.ex
    rw [h2] at f2
    cases f2
    exact ⟨fd, ps, f1.mono hjk, f3, f4⟩
  · unfold eCallV at kk
    split at kk
    · rename_i d hd
      split at kk
      · rename_i G hG
        obtain ⟨y, rfl, hl⟩ := fnX_some hG
        obtain ⟨v, h1, h2⟩ := I.env.vals i _ hd
        obtain ⟨a, rfl, h3⟩ := h2.fn_inv
        obtain ⟨⟨a', g1, g2⟩, _⟩ := ht y G hl
        rw [hK, g1] at h3
        cases h3
        refine ⟨_, _, h1, ⟨y, G, hl, rfl, g2⟩, ?_⟩
        refine sa.bind I kk fun ds s1 vs H1 O1 q st I1 r kz => ?_
        exact spD_of I1 r ((la _ _ _ q).trans hn) kz
      · exact kk.elim
    · exact kk.elim
end
end DL

set_option Elab.async false
set_option linter.all false
set_option maxRecDepth 100000
set_option maxHeartbeats 4000000
/-! DLA: tools for the plain laws: loops by an invariant, comprehensions as filter and map, equality of data. -/
namespace DL
open PySem PySem.Spec L2
open PyProof.Rows hiding St

/-! ### comprehensions -/
theorem compL_filter {α : Type} {g : D → S → Option S} {tt te : DE} {vs : List Nat} {s : S} {p : α → Bool} {f h : α → D} : ∀ (as : List α) (acc : List D),
    (∀ d ∈ as, ∃ s1 s2, g (f d) { s with e := wipeE s.e vs } = some s1 ∧ tt s1 = .ok (.val (.bool (p d))) s2 ∧ (p d = false → { s2 with e := mg vs s.e s2.e } = s) ∧ (p d = true → ∃ y s3, te s2 = .ok y s3 ∧ y.d = h d ∧ { s3 with e := mg vs s.e s3.e } = s)) →
    compL g tt te vs (as.map f) acc s = .ok (acc ++ (as.filter p).map h) s
  | [], acc, _ => by simp [compL]
  | d :: ds, acc, h0 => by
    obtain ⟨s1, s2, h1, h2, h3, h4⟩ := h0 d (by simp)
    have ih := fun acc => compL_filter ds acc fun d hd => h0 d (List.mem_cons_of_mem _ hd)
    rw [List.map_cons]
    unfold compL
    simp only [h1]
    cases q : p d with
    | false =>
      rw [q] at h2
      simp only [h2]
      rw [h3 q, ih, List.filter_cons_of_neg (by simp [q])]
    | true =>
      obtain ⟨y, s3, h5, h6, h7⟩ := h4 q
      rw [q] at h2
      simp only [h2, h5]
      rw [h7, ih, List.filter_cons_of_pos q, h6]
      simp
theorem compL_map {α : Type} {g : D → S → Option S} {te : DE} {vs : List Nat} {s : S} {f h : α → D} (as : List α) (acc : List D)
    (h0 : ∀ d ∈ as, ∃ s1 y s3, g (f d) { s with e := wipeE s.e vs } = some s1 ∧ te s1 = .ok y s3 ∧ y.d = h d ∧ { s3 with e := mg vs s.e s3.e } = s) :
    compL g tTrue te vs (as.map f) acc s = .ok (acc ++ as.map h) s := by
  have e := compL_filter (g := g) (tt := tTrue) (te := te) (vs := vs) (s := s) (p := fun _ => true) (f := f) (h := h) as acc fun d hd => by
    obtain ⟨s1, y, s3, h1, h2, h3, h4⟩ := h0 d hd
    exact ⟨s1, s1, h1, rfl, (fun q => nomatch q), fun _ => ⟨y, s3, h2, h3, h4⟩⟩
  rw [e, List.filter_eq_self.mpr fun _ _ => rfl]
theorem compK_filter {α : Type} {g : D → S → Option S} {tt te : DE} {vs : List Nat} {s : S} {p : α → Bool} {f h : α → D} {as : List α} (hl : as.length < sizeLine)
    (h0 : ∀ d ∈ as, ∃ s1 s2, g (f d) { s with e := wipeE s.e vs } = some s1 ∧ tt s1 = .ok (.val (.bool (p d))) s2 ∧ (p d = false → { s2 with e := mg vs s.e s2.e } = s) ∧ (p d = true → ∃ y s3, te s2 = .ok y s3 ∧ y.d = h d ∧ { s3 with e := mg vs s.e s3.e } = s)) :
    compK vs g tt te (as.map f) s = .ok (.own ((as.filter p).map h)) s := compK_ok (by rw [List.length_map]; exact hl) (by rw [compL_filter as [] h0]; rfl)
theorem compK_map {α : Type} {g : D → S → Option S} {te : DE} {vs : List Nat} {s : S} {f h : α → D} {as : List α} (hl : as.length < sizeLine)
    (h0 : ∀ d ∈ as, ∃ s1 y s3, g (f d) { s with e := wipeE s.e vs } = some s1 ∧ te s1 = .ok y s3 ∧ y.d = h d ∧ { s3 with e := mg vs s.e s3.e } = s) :
    compK vs g tTrue te (as.map f) s = .ok (.own (as.map h)) s := compK_ok (by rw [List.length_map]; exact hl) (by rw [compL_map as [] h0]; rfl)

/-- a comprehension whose parts leave the state as it is -/
theorem compK_map0 {α : Type} {g : D → S → Option S} {te : DE} {vs : List Nat} {s : S} {f h : α → D} {as : List α} (s1 : α → S) (hl : as.length < sizeLine)
    (h0 : ∀ d ∈ as, g (f d) { s with e := wipeE s.e vs } = some (s1 d) ∧ te (s1 d) = .ok (.val (h d)) (s1 d) ∧ { s1 d with e := mg vs s.e (s1 d).e } = s) :
    compK vs g tTrue te (as.map f) s = .ok (.own (as.map h)) s := compK_map hl fun d hd => let ⟨a, b, c⟩ := h0 d hd; ⟨_, _, _, a, b, rfl, c⟩
theorem compK_filter0 {α : Type} {g : D → S → Option S} {tt te : DE} {vs : List Nat} {s : S} {p : α → Bool} {f h : α → D} {as : List α} (s1 : α → S) (hl : as.length < sizeLine)
    (h0 : ∀ d ∈ as, g (f d) { s with e := wipeE s.e vs } = some (s1 d) ∧ tt (s1 d) = .ok (.val (.bool (p d))) (s1 d) ∧ te (s1 d) = .ok (.val (h d)) (s1 d) ∧ { s1 d with e := mg vs s.e (s1 d).e } = s) :
    compK vs g tt te (as.map f) s = .ok (.own ((as.filter p).map h)) s := compK_filter hl fun d hd => let ⟨a, b, c, e⟩ := h0 d hd; ⟨_, _, a, b, fun _ => e, fun _ => ⟨_, _, c, rfl, e⟩⟩
/-- the first part brings a list of one's own to rest -/
theorem compK_filter_to {α : Type} {g : D → S → Option S} {tt te : DE} {vs : List Nat} {s s' : S} {p : α → Bool} {f h : α → D} {as : List α} (sa s1 : α → S) (hl : as.length < sizeLine) (hne : as ≠ [])
    (ha : ∀ d ∈ as, g (f d) { s with e := wipeE s.e vs } = some (sa d) ∧ tt (sa d) = .ok (.val (.bool (p d))) (s1 d))
    (h0 : ∀ d ∈ as, g (f d) { s' with e := wipeE s'.e vs } = some (s1 d) ∧ tt (s1 d) = .ok (.val (.bool (p d))) (s1 d) ∧ te (s1 d) = .ok (.val (h d)) (s1 d) ∧ { s1 d with e := mg vs s.e (s1 d).e } = s' ∧ { s1 d with e := mg vs s'.e (s1 d).e } = s') :
    compK vs g tt te (as.map f) s = .ok (.own ((as.filter p).map h)) s' := by
  refine compK_ok (by rw [List.length_map]; exact hl) ?_
  cases as with
  | nil => exact absurd rfl hne
  | cons d ds =>
    obtain ⟨a1, a2⟩ := ha d (by simp)
    obtain ⟨b1, b2, b3, b4, b5⟩ := h0 d (by simp)
    have rest : ∀ acc, compL g tt te vs (ds.map f) acc s' = .ok (acc ++ (ds.filter p).map h) s' := fun acc => compL_filter ds acc fun x hx => by
      obtain ⟨b1, b2, b3, b4, b5⟩ := h0 x (List.mem_cons_of_mem _ hx)
      exact ⟨_, _, b1, b2, fun _ => b5, fun _ => ⟨_, _, b3, rfl, b5⟩⟩
    rw [List.map_cons]
    unfold compL
    simp only [a1]
    cases q : p d with
    | false =>
      rw [q] at a2
      simp only [a2]
      rw [b4, rest, List.filter_cons_of_neg (by simp [q])]
      rfl
    | true =>
      rw [q] at a2
      simp only [a2, b3]
      rw [b4, rest, List.filter_cons_of_pos q]
      simp
/-! ### loops -/
theorem forL_nx {g : D → S → Option S} {b : DS} {d : D} {ds : List D} {s s1 s2 : S} (h : g d s = some s1) (hb : b s1 = .nx s2) : forL g b (d :: ds) s = forL g b ds s2 := by
  conv => lhs; unfold forL
  simp only [h, hb]
theorem forL_bk {g : D → S → Option S} {b : DS} {d : D} {ds : List D} {s s1 s2 : S} (h : g d s = some s1) (hb : b s1 = .bk s2) : forL g b (d :: ds) s = .nx s2 := by
  conv => lhs; unfold forL
  simp only [h, hb]
theorem forL_inv {g : D → S → Option S} {gb : DS} {P : Nat → S → Prop} : ∀ (ds : List D) (o : Nat), (∀ i d s, ds[i]? = some d → P (o + i) s → ∃ s1 s2, g d s = some s1 ∧ (gb s1 = .nx s2 ∨ gb s1 = .ct s2) ∧ P (o + i + 1) s2) → ∀ s, P o s → ∃ s', forL g gb ds s = .nx s' ∧ P (o + ds.length) s'
  | [], o, _, s, h0 => ⟨s, rfl, h0⟩
  | d :: ds, o, h, s, h0 => by
    obtain ⟨s1, s2, h1, h2, h3⟩ := h 0 d s rfl h0
    obtain ⟨s', e, q⟩ := forL_inv ds (o + 1) (fun i d s hi hp => by
      have := h (i + 1) d s (by simpa using hi) (by rw [show o + (i + 1) = o + 1 + i by omega]; exact hp)
      rw [show o + (i + 1) + 1 = o + 1 + i + 1 by omega] at this
      exact this) s2 h3
    refine ⟨s', ?_, by rw [List.length_cons, show o + (ds.length + 1) = o + 1 + ds.length by omega]; exact q⟩
    rcases h2 with h2 | h2
    · rw [forL_nx h1 h2, e]
    · rw [forL_ct h1 h2, e]
theorem forL_app {g : D → S → Option S} {gb : DS} {s' : S} : ∀ (as bs : List D) (s : S), forL g gb as s = .nx s' → (∀ d ∈ as, ∀ s s1, g d s = some s1 → ∀ s2, gb s1 ≠ .bk s2) → forL g gb (as ++ bs) s = forL g gb bs s'
  | [], bs, s, h, _ => by
    rw [forL_nil] at h
    cases h
    rfl
  | d :: as, bs, s, h, hb => by
    rw [List.cons_append]
    cases q : g d s with
    | none => unfold forL at h; simp only [q] at h; cases h
    | some s1 =>
      cases r : gb s1 with
      | nx s2 => rw [forL_nx q r] at h ⊢; exact forL_app as bs s2 h fun d hd => hb d (List.mem_cons_of_mem _ hd)
      | ct s2 => rw [forL_ct q r] at h ⊢; exact forL_app as bs s2 h fun d hd => hb d (List.mem_cons_of_mem _ hd)
      | bk s2 => exact absurd r (hb d (by simp) s s1 q s2)
      | rt x c => rw [forL_rt q r] at h; cases h
      | er e c => rw [forL_er q r] at h; cases h
      | stuck => unfold forL at h; simp only [q, r] at h; cases h
theorem rangeD_get {lo : Int} {n i : Nat} {d : D} : (rangeD lo n)[i]? = some d ↔ i < n ∧ d = .int (lo + i) := by
  unfold rangeD
  rw [List.getElem?_map]
  by_cases h : i < n
  · rw [List.getElem?_eq_getElem (by simpa using h)]
    simp
    constructor
    · rintro rfl
      exact ⟨h, rfl⟩
    · rintro ⟨_, rfl⟩
      rfl
  · rw [List.getElem?_eq_none (by simpa using h)]
    simp
    omega
theorem rangeD_mem {lo : Int} {n : Nat} {d : D} : d ∈ rangeD lo n ↔ ∃ i : Nat, i < n ∧ d = .int (lo + i) := by
  rw [List.mem_iff_getElem?]
  simp only [rangeD_get]
theorem rangeD_nat {lo n : Nat} : rangeD (lo : Int) n = (List.range' lo n).map fun i : Nat => PyData.int i := by
  apply List.ext_getElem?
  intro i
  rw [List.getElem?_map]
  by_cases h : i < n
  · rw [rangeD_get.mpr ⟨h, rfl⟩, List.getElem?_range' h]
    simp
  · rw [List.getElem?_eq_none (by rw [rangeD_len]; omega), List.getElem?_eq_none (by simpa using h)]
    rfl
theorem dWhile_t {c : DE} {b : DS} {n : Nat} {s s1 s2 : S} (h : c s = .ok (.val (.bool true)) s1) (hb : b s1 = .nx s2) : dWhile c b (n + 1) s = dWhile c b n s2 := by
  show (c s).stT _ = _
  rw [h]
  rw [stT_ok, if_pos rfl, hb]
theorem dWhile_f {c : DE} {b : DS} {n : Nat} {s s1 : S} (h : c s = .ok (.val (.bool false)) s1) : dWhile c b (n + 1) s = .nx s1 := by
  show (c s).stT _ = _
  rw [h]
  rfl

/-! ### equality of data -/
structure EqF {α : Type} [DecidableEq α] (f : α → D) : Prop where
  eq : ∀ a b, PyData.eqv (f a) (f b) = decide (a = b)
theorem eqvAll_map {α : Type} [DecidableEq α] {f : α → D} (h : EqF f) : ∀ a b : List α, PyData.eqvAll (a.map f) (b.map f) = decide (a = b)
  | [], [] => by simp [PyData.eqvAll]
  | [], _ :: _ => by simp [PyData.eqvAll]
  | _ :: _, [] => by simp [PyData.eqvAll]
  | x :: a, y :: b => by
    simp only [List.map_cons, PyData.eqvAll, eqvAll_map h a b, h.eq]
    by_cases h : x = y <;> simp [h]
theorem EqF.int : EqF PyData.int := ⟨fun a b => eqv_ii⟩
theorem EqF.str : EqF PyData.str := ⟨fun a b => by simp only [PyData.eqv]; rw [Bool.eq_iff_iff]; simp⟩
theorem EqF.tup {α : Type} [DecidableEq α] {f : α → D} (h : EqF f) : EqF fun l : List α => PyData.tuple (l.map f) := ⟨fun a b => by
  show PyData.eqv (.tuple _) (.tuple _) = _
  unfold PyData.eqv
  exact eqvAll_map h a b⟩
theorem EqF.lst {α : Type} [DecidableEq α] {f : α → D} (h : EqF f) : EqF fun l : List α => PyData.list (l.map f) := ⟨fun a b => by
  show PyData.eqv (.list _) (.list _) = _
  unfold PyData.eqv
  exact eqvAll_map h a b⟩
theorem EqF.pair {α β : Type} [DecidableEq α] [DecidableEq β] {f : α → D} {g : β → D} (h : EqF f) (k : EqF g) : EqF fun p : α × β => PyData.tuple [f p.1, g p.2] := ⟨fun a b => by
  show PyData.eqv (.tuple _) (.tuple _) = _
  simp only [PyData.eqv, PyData.eqvAll, h.eq, k.eq]
  obtain ⟨a1, a2⟩ := a
  obtain ⟨b1, b2⟩ := b
  simp⟩
theorem EqF.trip {α β γ : Type} [DecidableEq α] [DecidableEq β] [DecidableEq γ] {f : α → D} {g : β → D} {j : γ → D} (h : EqF f) (k : EqF g) (l : EqF j) : EqF fun p : α × β × γ => PyData.tuple [f p.1, g p.2.1, j p.2.2] := ⟨fun a b => by
  show PyData.eqv (.tuple _) (.tuple _) = _
  simp only [PyData.eqv, PyData.eqvAll, h.eq, k.eq, l.eq]
  obtain ⟨a1, a2, a3⟩ := a
  obtain ⟨b1, b2, b3⟩ := b
  simp⟩
theorem eqD_F {α : Type} [DecidableEq α] {f : α → D} (h : EqF f) {k : Nat} {a b : α} (ha : Sh k (f a)) (hb : Sh k (f b)) (hk : k ≤ 64 := by decide) : eqD (f a) (f b) = some (.val (.bool (decide (a = b)))) := by
  unfold eqD
  rw [ha.sh hk, hb.sh hk, h.eq]
  rfl
theorem neD_F {α : Type} [DecidableEq α] {f : α → D} (h : EqF f) {k : Nat} {a b : α} (ha : Sh k (f a)) (hb : Sh k (f b)) (hk : k ≤ 64 := by decide) : neD (f a) (f b) = some (.val (.bool (!decide (a = b)))) := by
  unfold neD
  rw [ha.sh hk, hb.sh hk, h.eq]
  rfl
theorem Sh.map {α : Type} {f : α → D} {k : Nat} (h : ∀ a, Sh k (f a)) {xs : List α} : ∀ x ∈ xs.map f, Sh k x := fun x hx => by
  obtain ⟨a, _, rfl⟩ := List.mem_map.mp hx
  exact h a
theorem Sh.mono {j k : Nat} {d : D} (h : Sh j d) (q : j ≤ k) : Sh k d := ⟨h.1, Nat.le_trans h.2 q⟩
/-! ### slices -/
theorem cutD_nn {xs : List D} {a b : Nat} : cutD xs (some (a : Int)) (some (b : Int)) = (xs.take b).drop a := by
  unfold cutD
  rw [HT.sIx_nat, HT.sIx_nat]
  apply List.ext_getElem?
  intro i
  simp only [List.getElem?_take, List.getElem?_drop]
  by_cases h1 : a ≤ xs.length
  · rw [Nat.min_eq_left h1]
    by_cases h2 : a + i < xs.length
    · by_cases h3 : a + i < b
      · rw [if_pos (by omega), if_pos h3]
      · rw [if_neg (by omega), if_neg h3]
    · rw [List.getElem?_eq_none (show xs.length ≤ a + i by omega)]
      split <;> split <;> rfl
  · rw [List.getElem?_eq_none (show xs.length ≤ min a xs.length + i by omega), List.getElem?_eq_none (show xs.length ≤ a + i by omega)]
    split <;> split <;> rfl
theorem cutD_n {xs : List D} {a : Nat} : cutD xs (some (a : Int)) none = xs.drop a := by
  unfold cutD
  rw [HT.sIx_nat, HT.sIx_none]
  rcases Nat.le_total a xs.length with h | h
  · rw [Nat.min_eq_left h, List.take_of_length_le (by rw [List.length_drop]; omega)]
  · rw [Nat.min_eq_right h, List.drop_eq_nil_of_le (Nat.le_refl _), List.drop_eq_nil_of_le h, List.take_nil]
theorem slD_lnn {xs : List D} {a b : Nat} : slD (.list xs) (some (a : Int)) (some (b : Int)) = some (.own ((xs.take b).drop a)) := by
  show some (Sl.own (cutD xs _ _)) = _
  rw [cutD_nn]
theorem slD_ln {xs : List D} {a : Nat} : slD (.list xs) (some (a : Int)) none = some (.own (xs.drop a)) := by
  show some (Sl.own (cutD xs _ _)) = _
  rw [cutD_n]
theorem atI_n {α : Type} {xs : List α} {i : Nat} {x : α} (h : xs[i]? = some x) : atI xs (i : Int) = some x := by
  have hl : i < xs.length := by
    rcases Nat.lt_or_ge i xs.length with q | q
    · exact q
    · rw [List.getElem?_eq_none q] at h
      cases h
  rw [atI_ok (by omega) (by omega), Int.toNat_natCast, h]
@[simp] theorem augS_ii {i j : Int} {m : Nat} {s : S} : augK subD m (.int i) (.val (.int j)) s = .nx { s with e := s.e.set m (.val (.int (i - j))) } := rfl
/-! ### defs as values -/
theorem eCallV_at {i : Nat} {tab : List (Str × Fn)} {as : DA} {s : S} {d : D} {G : Fn} (h : s.e[i]? = some (.val d)) (hG : fnX tab d = some G) : eCallV i tab as s = (as s).bind fun ds s1 => callR G ds s1 := by
  unfold eCallV
  simp only [h, hG]
end DL

set_option Elab.async false
set_option linter.all false
set_option maxRecDepth 100000
set_option maxHeartbeats 4000000
/-! DLB: x[::-1], x in y. -/
namespace DL
open PySem PySem.Spec L2
open PyProof.Rows hiding St
open HT

section
variable {prog : Program} {w : World} {A : Around} {E : Value → Shared → Prop} {s : Shared}
theorem sliceApplied_rev {sl : Addr} {vs : Value} {n : Nat} {Q : Int × Int × Nat → Shared → Prop} (hs : s.heap.IsSliceOf sl .none .none vs) (ps : IsPart vs (some (-1)))
    (h : Q (((n : Int) - 1), -1, n) s) : wpAny (model prog w) A (Builtin.Slice.sliceApplied (.ref sl) (pure (n : Int))) Q E s := by
  obtain ⟨os, hos, hcs, hds⟩ := id hs
  unfold Builtin.Slice.sliceApplied Builtin.Slice.sliceFields
  refine wpAny_bind (wpAny_bind (wpAny_field hos hds (x := .none) rfl (wpAny_bind (wpAny_field hos hds (x := .none) rfl (wpAny_bind (wpAny_field hos hds (x := vs) rfl (wpAny_pure ?_)))))))
  refine wpAny_bind (slicePart_ ps ?_)
  show wpAny _ _ (if ((-1 : Int) == 0) = true then _ else _) _ _ s
  rw [if_neg (by decide)]
  refine wpAny_bind (slicePart_none (wpAny_bind (slicePart_none (wpAny_bind (wpAny_pure ?_)))))
  show wpAny _ _ (pure ((n : Int) - 1, (-1 : Int), Builtin.Slice.slicePlaces ((n : Int) - 1) (-1) (-1))) _ _ s
  have e : Builtin.Slice.slicePlaces ((n : Int) - 1) (-1) (-1) = n := by
    unfold Builtin.Slice.slicePlaces
    have h1 : ¬ ((-1 : Int) > 0) := by omega
    rw [if_neg h1]
    simp only [Int.neg_neg, Int.ediv_one]
    split <;> omega
  rw [e]
  exact wpAny_pure h
theorem fm_congr {α β : Type} {f g : α → Option β} : ∀ l : List α, (∀ m ∈ l, f m = g m) → l.filterMap f = l.filterMap g
  | [], _ => rfl
  | x :: l, h => by
    have e := h x (by simp)
    have ih := fm_congr l fun m hm => h m (List.mem_cons_of_mem _ hm)
    simp only [List.filterMap_cons, e, ih]
theorem pick_rev (xs : Array Value) : ((List.range xs.size).filterMap fun (m : Nat) => xs[(((xs.size : Int) - 1) + (m : Int) * (-1)).toNat]?).toArray = xs.toList.reverse.toArray := by
  congr 1
  have e : ∀ m ∈ List.range xs.size, (fun (m : Nat) => xs[(((xs.size : Int) - 1) + (m : Int) * (-1)).toNat]?) m = (some ∘ fun m : Nat => xs.toList.reverse.getD m .none) m := by
    intro m hm
    rw [List.mem_range] at hm
    simp only [Function.comp]
    rw [show (((xs.size : Int) - 1) + (m : Int) * (-1)).toNat = xs.size - 1 - m by omega, Array.getElem?_eq_getElem (by omega)]
    congr 1
    rw [List.getD_eq_getElem?_getD, List.getElem?_reverse (by simpa using hm)]
    simp only [Array.length_toList]
    rw [Array.getElem?_toList, Array.getElem?_eq_getElem (by omega)]
    rfl
  rw [fm_congr _ e, List.filterMap_eq_map]
  apply List.ext_getElem?
  intro i
  rw [List.getElem?_map]
  by_cases h : i < xs.size
  · rw [List.getElem?_range h, Option.map_some, List.getD_eq_getElem?_getD, List.getElem?_eq_getElem (by simpa using h)]
    rfl
  · rw [List.getElem?_eq_none (by simpa using h), List.getElem?_eq_none (by simpa using h)]
    rfl
theorem getItem_tuple_rev {t sl : Addr} {items : Array Value} {vs : Value} {Q : Value → Shared → Prop} (ht : IsTup s.heap t items) (hs : s.heap.IsSliceOf sl .none .none vs) (ps : IsPart vs (some (-1)))
    (h : Q (.ref s.heap.objs.size) { s with heap := s.heap.push { cls := .type "tuple", data := .seq items.toList.reverse.toArray } })
    (hsz : items.size ≤ sizeLine) : wpAny (model prog w) A (getItem (.ref t) (.ref sl)) Q E s := by
  have htake : sizeOk (.seq items.toList.reverse.toArray) := by
    show items.toList.reverse.toArray.size ≤ sizeLine
    rw [List.size_toArray, List.length_reverse, Array.length_toList]
    omega
  obtain ⟨os, hos, hcs, hds⟩ := id hs
  have hTs : s.TypeIs (.ref sl) "slice" := ⟨os, hos, hcs⟩
  unfold getItem
  try with_reducible refine wpAny_holding ?_
  first | refine wpAny_bind (wpAny_pure ?_) | skip
  refine wpAny_bind (wpAny_sequenceKey ht.typeIs (by decide) ?_)
  refine wpAny_bind (wpAny_callSpecial?_slot (name := Str.ofString "__getitem__") ht.typeIs PyProof.Rows.slot_tuple_getitem
    (wpAny_call_entry PyProof.Rows.slot_tuple_getitem ht.typeIs entry_tuple_getitem ?_ (args_tuple_getitem _ _)))
  show wpAny _ _ (Builtin.Tuple.tupleItemsOf (.ref t) >>= _) _ _ s
  refine wpAny_bind (tupleItemsOf_ ht ?_)
  refine wpAny_bind (wpAny_typeOf hTs ?_)
  rw [if_pos (by decide)]
  refine wpAny_bind (sliceApplied_rev hs ps ?_)
  have hno : ¬ ((((items.size : Int) - 1) == 0 && (-1 : Int) == 1 && items.size == items.size) = true) := by
    rw [show ((-1 : Int) == 1) = false from rfl, Bool.and_false, Bool.false_and]
    exact Bool.false_ne_true
  show wpAny _ _ (if (((items.size : Int) - 1) == 0 && (-1 : Int) == 1 && items.size == items.size) = true then _ else _) _ _ s
  rw [if_neg hno, pick_rev]
  first
    | exact wpAny_bind (m := Builtin.Tuple.tupleExact _) (wpAny_newObj_type (wpAny_pure ⟨_, rfl, wpAny_pure h⟩) htake)
    | exact wpAny_bind (m := Builtin.Tuple.tupleExact _) (wpAny_newObj_type (wpAny_bind (wpAny_pure (wpAny_pure ⟨_, rfl, wpAny_pure h⟩))) htake)
    | exact wpAny_bind (wpAny_bind (m := Builtin.Tuple.tupleExact _) (wpAny_newObj_type (wpAny_pure (wpAny_pure ⟨_, rfl, wpAny_pure h⟩)) htake))
    | exact wpAny_bind (wpAny_bind (m := Builtin.Tuple.tupleExact _) (wpAny_newObj_type (wpAny_pure ⟨_, rfl, wpAny_pure h⟩) htake))
end
/-- the value, or a list or tuple the other way round -/
def tRevA (K : PySem.W.Frag) (te : TE) : TE := fun σ H Q => te σ H fun x H1 => ∃ a xs, x = .ref a ∧ ((SqL K H1 a xs ∧ ∀ p, H1 p = none → Q (.ref p) (upd H1 p (.lst xs.reverse))) ∨ (SqT K H1 a xs ∧ ∀ p, H1 p = none → Q (.ref p) (upd H1 p (.tup xs.reverse))))
section
variable {X : Cx}
theorem pe_revA {e : Expr} {te : TE} {k : Nat} {p1 p2 p3 pos : Pos} (he : PE X e te) : PE X (.Subscript e (.Slice none none (some (.UnaryOp .USub (.Constant (.int 1) k p1) p2)) p3) pos) (tRevA X.K te) := by
  refine ⟨fun pins s σ H Q I h => ?_⟩
  refine Subscript_ (thn (he.run pins s σ H _ I h) fun v s1 ⟨x, H1, I1, r1, q1⟩ => ?_)
  obtain ⟨a, xs, ex, hx⟩ := q1
  subst ex
  cases r1
  have hst : L2.PO X (some (.UnaryOp .USub (.Constant (.int 1) k p1) p2)) (tPart (tUn (rU fun i => .int (-i)) (tC (.int 1)))) := po_some (pe_un un_neg pe_int)
  refine wpAny_Slice ?_
  rw [evalPart_none]
  refine wpAny_pure ?_
  refine wpAny_pure ?_
  refine thn (hst.run pins s1 σ H1 (fun o H4 => o = some (-1) ∧ H4 = H1) I1 ⟨1, rfl, -1, rfl, rfl, rfl⟩) fun vs s4 ⟨o, H4, I4, ps, eo, e4⟩ => ?_
  subst eo e4
  have I5 : Inv X pins σ H4 { s4 with heap := s4.heap.push { cls := .type "slice", data := .fields #[.none, .none, vs] } } := I4.kept (t' := s4.toks) fun b ob q => Heap.get?_push_of_some _ q
  show wpAny (model X.prog X.w) X.A (subscriptTail e (.Slice none none (some (.UnaryOp .USub (.Constant (.int 1) k p1) p2)) p3) (.ref a) (.ref s4.heap.objs.size)) (EP X pins σ Q) X.xe { s4 with heap := s4.heap.push { cls := .type "slice", data := .fields #[.none, .none, vs] } }
  rcases hx with ⟨hx, q⟩ | ⟨hx, q⟩
  · obtain ⟨its, r, ht, hz⟩ := I5.list hx
    have hlen := r.length
    refine tail_any (ops := [.ref a, .ref s4.heap.objs.size]) ht.isList.typeIs (PySem.slot_list_getitem.lookup) ?_ (by with_unfolding_all rfl)
    refine wpAny_getItem_list_slice ht.isList (Heap.IsSliceOf.new _ .none .none vs) .none .none ps (by decide) ?_ (by rw [List.size_toArray]; omega)
    rw [PySem.W.krv_pick]
    refine ⟨.ref _, _, I5.laid (t' := s4.toks) (o := .lst xs.reverse) (fun b ob q => Heap.get?_push_of_some _ q) (Nat.le_refl _) ?_, rfl, q _ (I5.hok.fresh (Nat.le_refl _))⟩
    exact ⟨by rw [List.length_reverse]; exact hz, _, 0, r.reverse, Heap.get?_push_size _ rfl⟩
  · obtain ⟨its, r, ht, hz⟩ := I5.tuple hx
    have hlen := r.length
    refine tail_any (ops := [.ref a, .ref s4.heap.objs.size]) ht.typeIs (PyProof.Rows.slot_tuple_getitem.lookup) ?_ (by with_unfolding_all rfl)
    refine getItem_tuple_rev ht (Heap.IsSliceOf.new _ .none .none vs) ps ?_ (by rw [List.size_toArray]; omega)
    refine ⟨.ref _, _, I5.laid (t' := s4.toks) (o := .tup xs.reverse) (fun b ob q => Heap.get?_push_of_some _ q) (Nat.le_refl _) ?_, rfl, q _ (I5.hok.fresh (Nat.le_refl _))⟩
    exact ⟨by rw [List.length_reverse]; exact hz, _, r.reverse, IsTup.new _ _⟩
end
def revD : D → Option Sl
  | .list xs => some (.own xs.reverse)
  | .tuple xs => some (.val (.tuple xs.reverse))
  | _ => none
def eRev (a : DE) : DE := fun s => (a s).bind fun x s1 => liftR (revD x) s1
section
variable {F : Fx} {X : Cx} {a b : Expr} {fa fb : DE} {p1 p2 p3 pos : Pos} {j : Nat}
theorem e_rev (hK : F.m.K = X.K) (ha : EO F X a fa) : EO F X (.Subscript a (.Slice none none (some (.UnaryOp .USub (.Constant (.int 1) j p1) p2)) p3) pos) (eRev fa) := by
  obtain ⟨ta, pa, sa⟩ := ha
  refine ⟨_, pe_revA pa, fun σ H O s Q I k => ?_⟩
  refine sa.bind I k fun x s1 v H1 O1 st1 I1 r1 k => ?_
  obtain ⟨z, qo, zn, k⟩ := KE_lift k
  have hq := Res.of I1 .refl I1 (k.trans st1 fun _ => True) zn
  unfold revD at qo
  split at qo
  · cases qo
    obtain ⟨a, vs, rfl, ha, hn, hr⟩ := r1.list_inv
    exact ⟨a, vs, rfl, .inl ⟨.inl (.inl ha), fun p hp => hq p _ hp hr.reverse⟩⟩
  · cases qo
    obtain ⟨a, vs, rfl, ha, hr⟩ := r1.tup_inv
    exact ⟨a, vs, rfl, .inr ⟨hK ▸ ha, fun p hp => hq (.ref p) _ (.upd hp) (.tup (.inl (.inl upd_same)) (hr.reverse.step (StF.stp ((Ext.upd hp).stF (O := O1))) I1.wd))⟩⟩
  · cases qo
end
/-! ### x in y -/
def flatD : D → Bool
  | .none => true
  | .bool _ => true
  | .int _ => true
  | .str _ => true
  | _ => false
def inB : D → D → Option Bool
  | x, .tuple ys => if flatD x && ys.all flatD then some (ys.any fun y => PyData.eqv y x) else none
  | x, .list ys => if SeqAt.shaped x && SeqAt.shaped (.list ys) then some (ys.any fun y => PyData.eqv y x) else none
  | .str i, .str j => some (!(Builtin.Str.occurrences j i 0 j.length 1).isEmpty)
  | _, _ => none
def inD (x y : D) : Option Sl := (inB x y).map fun b => .val (.bool b)
def ninD (x y : D) : Option Sl := (inB x y).map fun b => .val (.bool (!b))
section
variable {K : PySem.W.Frag} {H : Hp} {O : Addr → Prop} {δ : Option Addr} {v u : V} {x y : D} {vs : List V} {ys : List D}
theorem RepD.flat (r : RepD K H O δ v x) (h : flatD x = true) : flatV v = true := by
  cases r <;> first | rfl | (unfold flatD at h; cases h) | (unfold dcell flatD at h; cases h) | (unfold dscr flatD at h; cases h) | (unfold dfn flatD at h; cases h)
theorem RepD.flat4 (r : RepD K H O δ v x) (h : flatD x = true) : (v = .non ∧ x = .none) ∨ (∃ b, v = .bl b ∧ x = .bool b) ∨ (∃ i, v = .int i ∧ x = .int i) ∨ (∃ i, v = .str i ∧ x = .str i) := by
  cases r with
  | non => exact .inl ⟨rfl, rfl⟩
  | bl b => exact .inr (.inl ⟨b, rfl, rfl⟩)
  | int i => exact .inr (.inr (.inl ⟨i, rfl, rfl⟩))
  | str i => exact .inr (.inr (.inr ⟨i, rfl, rfl⟩))
  | tup _ _ => unfold flatD at h; cases h
  | lst _ _ _ => unfold flatD at h; cases h
  | cell _ => unfold dcell flatD at h; cases h
  | scr _ _ => unfold dscr flatD at h; cases h
  | fn _ => unfold dfn flatD at h; cases h
  | dic _ _ _ => unfold flatD at h; cases h
theorem RepD.eqv (r : RepD K H O δ v x) (q : RepD K H O δ u y) (h : flatD x = true) (k : flatD y = true) : eqV u v = PyData.eqv y x := by
  rcases r.flat4 h with ⟨rfl, rfl⟩ | ⟨b, rfl, rfl⟩ | ⟨i, rfl, rfl⟩ | ⟨i, rfl, rfl⟩ <;> rcases q.flat4 k with ⟨rfl, rfl⟩ | ⟨b', rfl, rfl⟩ | ⟨i', rfl, rfl⟩ | ⟨i', rfl, rfl⟩ <;> simp only [eqV, PyData.eqv]
theorem RepDs.flats (h : flatD x = true) (r : RepD K H O δ v x) : ∀ {vs : List V} {ys : List D}, RepDs K H O δ vs ys → ys.all flatD = true → vs.all flatV = true ∧ inV v vs = ys.any fun y => PyData.eqv y x
  | _, _, .nil, _ => ⟨rfl, rfl⟩
  | _, _, .cons q t, hy => by
    rw [List.all_cons, Bool.and_eq_true] at hy
    obtain ⟨a, b⟩ := RepDs.flats h r t hy.2
    unfold inV at b ⊢
    rw [List.all_cons, List.any_cons, List.any_cons, a, b, q.flat hy.1, r.eqv q h hy.1]
    exact ⟨rfl, rfl⟩
end
def rStrIn (neg : Bool) : R2 := fun x y H Q => ∃ i j, x = .str i ∧ y = .str j ∧ Q (.bl (if neg then !(!(Builtin.Str.occurrences j i 0 j.length 1).isEmpty) else !(Builtin.Str.occurrences j i 0 j.length 1).isEmpty)) H
def rInA (K : PySem.W.Frag) (neg : Bool) : R2 := fun x y H Q => rIn K neg x y H Q ∨ (if neg then rNotInD K x y H Q else rInD K x y H Q) ∨ rStrIn neg x y H Q
section
variable {F : Fx} {X : Cx}
theorem op_inA (hu : X.A.units + 65 < cLine) : OpR X (compareOp .In) (rInA X.K false) := fun pins s σ H x y v u Q I rx ry h => by
  rcases h with h | h | ⟨i, j, h1, h2, h3⟩
  · exact op_in_seq pins s σ H x y v u Q I rx ry h
  · exact op_inD hu pins s σ H x y v u Q I rx ry h
  · exact op_in_str pins s σ H x y v u Q I rx ry ⟨i, j, h1, h2, h3⟩
theorem op_ninA (hu : X.A.units + 65 < cLine) : OpR X (compareOp .NotIn) (rInA X.K true) := fun pins s σ H x y v u Q I rx ry h => by
  rcases h with h | h | ⟨i, j, h1, h2, h3⟩
  · exact op_notIn_seq pins s σ H x y v u Q I rx ry h
  · exact op_notInD hu pins s σ H x y v u Q I rx ry h
  · exact op_notin_str pins s σ H x y v u Q I rx ry ⟨i, j, h1, h2, h3⟩
theorem s_inAny {neg : Bool} : OpS F (rInA F.m.K neg) (fun x y => (inB x y).map fun b => .val (.bool (if neg then !b else b))) := by
  intro H O c x y dx dy z Q w rx ry hg hq
  simp only [Option.map_eq_some_iff] at hg
  obtain ⟨b, hb, rfl⟩ := hg
  have hQ : ∀ b', b' = (if neg then !b else b) → Q (.bl b') H := fun b' e => e ▸ hq _ H .refl (.bl _)
  unfold inB at hb
  split at hb
  · split at hb
    · rename_i h
      rw [Bool.and_eq_true] at h
      cases hb
      obtain ⟨a, vs, rfl, ha, hr⟩ := ry.tup_inv
      obtain ⟨h1, h2⟩ := RepDs.flats h.1 rx hr h.2
      exact .inl ⟨a, vs, rfl, .inr ha, rx.flat h.1, h1, hQ _ (by rw [h2])⟩
    · cases hb
  · split at hb
    · rename_i h
      rw [Bool.and_eq_true] at h
      cases hb
      cases neg with
      | false => exact .inr (.inl ⟨_, _, rx.dp (shaped_lay h.1), ry.dp (shaped_lay h.2), h.1, h.2, hQ _ rfl⟩)
      | true => exact .inr (.inl ⟨_, _, rx.dp (shaped_lay h.1), ry.dp (shaped_lay h.2), h.1, h.2, hQ _ rfl⟩)
    · cases hb
  · cases hb
    exact .inr (.inr ⟨_, _, rx.str_inv, ry.str_inv, hQ _ rfl⟩)
  · cases hb
theorem s_inD : OpS F (rInA F.m.K false) inD := s_inAny
theorem s_ninD : OpS F (rInA F.m.K true) ninD := s_inAny
theorem inD_bool : ∀ x y z, inD x y = some z → ∃ k, z = .val (.bool k) := fun x y z h => by
  unfold inD at h
  rw [Option.map_eq_some_iff] at h
  obtain ⟨b, _, rfl⟩ := h
  exact ⟨b, rfl⟩
theorem ninD_bool : ∀ x y z, ninD x y = some z → ∃ k, z = .val (.bool k) := fun x y z h => by
  unfold ninD at h
  rw [Option.map_eq_some_iff] at h
  obtain ⟨b, _, rfl⟩ := h
  exact ⟨_, rfl⟩
def eIn (a b : DE) : DE := eOp inD a b
def eNin (a b : DE) : DE := eOp ninD a b
theorem room65 {k : Nat} {A : Around} (r : Room k A) : A.units + 65 < cLine := by have := r.un; omega
variable {a b : Expr} {fa fb : DE} {pos : Pos} {k : Nat}
theorem e_in (hr : Room k X.A) (hK : F.m.K = X.K) (ha : EO F X a fa) (hb : EO F X b fb) (hm : behindInMarks .In b = false := by with_unfolding_all rfl) : EO F X (.Compare a [.In] [b] pos) (eIn fa fb) := e_cmp (op_inA (room65 hr)) (hK ▸ s_inD) hm ha hb
theorem e_nin (hr : Room k X.A) (hK : F.m.K = X.K) (ha : EO F X a fa) (hb : EO F X b fb) (hm : behindInMarks .NotIn b = false := by with_unfolding_all rfl) : EO F X (.Compare a [.NotIn] [b] pos) (eNin fa fb) := e_cmp (op_ninA (room65 hr)) (hK ▸ s_ninD) hm ha hb
theorem t_in (hr : Room k X.A) (hK : F.m.K = X.K) (ha : EO F X a fa) (hb : EO F X b fb) (hm : behindInMarks .In b = false := by with_unfolding_all rfl) : TO F X (.Compare a [.In] [b] pos) (eIn fa fb) := t_cmp (op_inA (room65 hr)) (hK ▸ s_inD) inD_bool hm ha hb
theorem t_nin (hr : Room k X.A) (hK : F.m.K = X.K) (ha : EO F X a fa) (hb : EO F X b fb) (hm : behindInMarks .NotIn b = false := by with_unfolding_all rfl) : TO F X (.Compare a [.NotIn] [b] pos) (eNin fa fb) := t_cmp (op_ninA (room65 hr)) (hK ▸ s_ninD) ninD_bool hm ha hb
end
@[simp] theorem eRev_eq {a : DE} {s : S} : eRev a s = (a s).bind fun x s1 => liftR (revD x) s1 := rfl
@[simp] theorem eIn_eq {a b : DE} : eIn a b = eOp inD a b := rfl
@[simp] theorem eNin_eq {a b : DE} : eNin a b = eOp ninD a b := rfl
@[simp] theorem revD_l {xs : List D} : revD (.list xs) = some (.own xs.reverse) := rfl
@[simp] theorem revD_t {xs : List D} : revD (.tuple xs) = some (.val (.tuple xs.reverse)) := rfl
end DL

set_option Elab.async false
set_option linter.all false
set_option maxRecDepth 100000
set_option maxHeartbeats 4000000
/-! DLC: a, b = x, y where a name is a cell. -/
namespace DL
open PySem PySem.Spec L2
open PyProof.Rows hiding St

section
variable {F : Fx} {X : Cx} {H H' H1 H2 : Hp} {O O' O1 O2 : Addr → Prop} {σ σ' σ2 : St} {s s' s1 s2 : S} {Q : VK}
theorem s_parT (i j : Nat) {x y : Str} {a b : Expr} {fa fb : DE} {px py pt pos : Pos} {kt k2 pt2} (hc : X.calm = true) (hnd : X.N.Nodup) (ha : EO F X a fa) (hb : EO F X b fb) (hi : X.N[i]? = some x := by rfl) (hj : X.N[j]? = some y := by rfl) (hij : i ≠ j := by decide)
    (hx : Loc X.env.scope x := by first | exact Or.inl rfl | exact Or.inr rfl) (hy : Loc X.env.scope y := by first | exact Or.inl rfl | exact Or.inr rfl)
    (hfx : X.fn x = true ∨ X.env.scope.names.lookup x = some .local := by first | exact .inl rfl | exact .inr rfl) (hfy : X.fn y = true ∨ X.env.scope.names.lookup y = some .local := by first | exact .inl rfl | exact .inr rfl)
    (hst : starEach [a, b] X.env = (false, eval a X.env) :: starEach [b] X.env := by rfl) (hst2 : starEach [b] X.env = (false, eval b X.env) :: starEach [] X.env := by rfl)
    (hw : swappedStores [.Tuple [.Name x px, .Name y py] kt pt] (.Tuple [a, b] k2 pt2) X.env = pure none := by rfl)
    (hs : swapsWithSole [.Tuple [.Name x px, .Name y py] kt pt] (.Tuple [a, b] k2 pt2) pos.line X.env = pure false := by rfl)
    (h1 : (assignEach [.Tuple [.Name x px, .Name y py] kt pt] X.env).map (·.2) = [assign (.Tuple [.Name x px, .Name y py] kt pt) X.env] := by rfl)
    (hn : (assignEach [.Name x px, .Name y py] X.env).length = [Expr.Name x px, Expr.Name y py].length := by rfl) (hfi : (assignEach [.Name x px, .Name y py] X.env).findIdx? (·.1) = none := by rfl)
    (he1 : (assignEach [.Name x px, .Name y py] X.env).map (·.2) = assign (.Name x px) X.env :: (assignEach [.Name y py] X.env).map (·.2) := by rfl) (he2 : (assignEach [.Name y py] X.env).map (·.2) = assign (.Name y py) X.env :: (assignEach [] X.env).map (·.2) := by rfl) :
    SO F X (.Assign [.Tuple [.Name x px, .Name y py] kt pt] (.Tuple [a, b] k2 pt2) pos) (dPar i j fa fb) := by
  obtain ⟨ta, pa, sa⟩ := ha
  obtain ⟨tb, pb, sb⟩ := hb
  refine ⟨_, ps_asg (pe_tup (pa_cons pa (pa_cons pb pa_nil hst2) hst)) (pg_tup hc (pgs_cons (pg_name hnd hi hx hfx) (pgs_cons (pg_name hnd hj hy hfy) pgs_nil he2) he1) hn hfi) hs hw h1, fun Q σ H O s I k => ?_⟩
  refine sa.stX I k fun x s1 v H1 O1 st1 I1 r1 k => ?_
  refine sb.stX I1 k fun y s2 w H2 O2 st2 I2 r2 k => ?_
  refine ⟨by show 2 ≤ sizeLine; rw [sizeLine_eq]; omega, fun p hp => ?_⟩
  refine ⟨p, [v, w], rfl, .of upd_same, rfl, v, [w], rfl, w, [], rfl, rfl, ?_⟩
  refine k _ _ O2 ((Ext.upd hp).stF.stS I2.wd) (Est.ext ?_ (Ext.upd hp))
  have r1' := r1.step I st1 I1 st2
  have I3 := I.setX (st1.trans st2) I2 i r1'
  refine I3.set (x := y) j (SlX.base I1 r2) fun b ys e ev hm => ?_
  subst e
  obtain ⟨b', us, f1, f2, f3, f4, f5, f6⟩ := r2
  rw [f1] at ev
  cases ev
  obtain ⟨l, zs, q1, q2⟩ := hm
  have q1 : (s2.e.set i x)[l]? = some (.own zs) := q1
  by_cases hl : l = i
  · subst hl
    obtain ⟨e, hlt⟩ := sl_eq q1
    subst e
    obtain ⟨a', vs', g1, g2, g3, g4, g5, g6⟩ := r1
    rw [List.getElem?_set_self (by rw [I2.env.len]; exact hlt), g1] at q2
    cases q2
    rw [g4] at f6
    cases f6
  · rw [sl_ne hl] at q1 q2
    exact I1.env.mine (st2.mine _ ⟨l, zs, q1, q2⟩) f6
end
end DL

set_option Elab.async false
set_option linter.all false
set_option maxRecDepth 100000
set_option maxHeartbeats 4000000
/-! DLD: zip of a tuple, a list and a tuple. -/
namespace DL
open PySem PySem.Spec L2
open PyProof.Rows hiding St

def Itz3 (K : PySem.W.Frag) (a b d : Addr) : It :=
  ⟨fun i H => ∃ (xs ys zs : List V) (x y z : V), SqT K H a xs ∧ SqL K H b ys ∧ SqT K H d zs ∧ xs[i]? = some x ∧ ys[i]? = some y ∧ zs[i]? = some z,
    fun i H v H' => ∃ T x y z, v = .ref T ∧ H T = none ∧ H' = upd H T (.tup [x, y, z]) ∧ (∀ xs, SqT K H a xs → xs[i]? = some x) ∧ (∀ ys, SqL K H b ys → ys[i]? = some y) ∧ ∀ zs, SqT K H d zs → zs[i]? = some z,
    fun i H => ∃ xs ys zs : List V, SqT K H a xs ∧ SqL K H b ys ∧ SqT K H d zs ∧ i = min (min xs.length ys.length) zs.length⟩
section
variable {prog : Program} {w : World} {A : Around} {E : Value → Shared → Prop} {s : Shared} {z TI TO i1 i2 i3 : Addr} {fp1 fp2 fp3 : List Addr} {n1 n2 n3 i : Nat} {P1 P2 P3 : Nat → Value → Prop} {St1 St2 St3 : Nat → Heap → Prop} {a1 a2 a3 : Value}
theorem pyNext_zip3_item {Q : Option Value → Shared → Prop} (S : ZipSep3 z TI TO i1 i2 i3 fp1 fp2 fp3) (D1 : Draws prog w A.in1 i1 fp1 n1 P1 St1) (D2 : Draws prog w A.in1 i2 fp2 n2 P2 St2) (D3 : Draws prog w A.in1 i3 fp3 n3 P3 St3)
    (hz : IsZip s.heap z TI TO .none) (hTI : IsTupOf3 s.heap TI (.ref i1) (.ref i2) (.ref i3)) (hTO : IsTupOf3 s.heap TO a1 a2 a3) (st1 : St1 i s.heap) (st2 : St2 i s.heap) (st3 : St3 i s.heap) (hlt1 : i < n1) (hlt2 : i < n2) (hlt3 : i < n3)
    (hQ : ∀ x1 x2 x3 h' tk, P1 i x1 → P2 i x2 → P3 i x3 → IsZip h' z TI TO (rawInt s.heap.objs.size) → IsTupOf3 h' TO x1 x2 x3 → St1 (i + 1) h' → St2 (i + 1) h' → St3 (i + 1) h' → IsTupOf3 h' s.heap.objs.size x1 x2 x3 → h'.objs.size = s.heap.objs.size + 1 →
      (∀ c o, c ≠ z → c ≠ TO → c ≠ i1 → c ≠ i2 → c ≠ i3 → s.heap.get? c = some o → h'.get? c = some o) → Q (some (.ref s.heap.objs.size)) { s with heap := h', toks := tk }) :
    wpAny (model prog w) A (pyNext (.ref z)) Q E s := by
  have hT : s.TypeIs (.ref z) "zip" := ⟨_, hz, rfl⟩
  unfold pyNext
  exact wpAny_bind (wpAny_attempt (wpAny_callSpecial?_slot (name := Str.ofString "__next__") hT F.slot_zip_next
    (wpAny_call_entry F.slot_zip_next hT F.entry_zip_next
      (zipD3_next_item S D1 D2 D3 hz hTI hTO st1 st2 st3 hlt1 hlt2 hlt3 fun x1 x2 x3 h' tk p1 p2 p3 b1 b2 b3 b4 b5 b6 b7 b8 => wpAny_pure (hQ x1 x2 x3 h' tk p1 p2 p3 b1 b2 b3 b4 b5 b6 b7 b8)) (F.args_zip_next_1 _))))
end
theorem turn_zip3 {P : Program} {w : World} {K : PySem.W.Frag} {elts : List Expr} {kk : Nat} {tpos : Pos} {a b d z TI TO i1 i2 i3 : Addr} (D : ZipSep3 z TI TO i1 i2 i3 [i1, a] [i2, b] [i3, d]) :
    Turn P w K (.Tuple elts kk tpos) (Itz3 K a b d) [z, TI, TO, i1, i2, i3] z (fun i h => IsZip h z TI TO .none ∧ IsTupOf3 h TI (.ref i1) (.ref i2) (.ref i3) ∧ (∃ x y u, IsTupOf3 h TO x y u) ∧ h.IsTupleIter i1 a i ∧ h.IsListIter i2 b i ∧ h.IsTupleIter i3 d i) where
  mem := by simp
  obj := fun i h st c hc => by
    obtain ⟨hz, hTI, ⟨x, y, u, hTO⟩, ⟨o1, e1, _, d1⟩, ⟨o2, e2, _, d2⟩, ⟨o3, e3, _, d3⟩⟩ := st
    have e' : c = z ∨ c = TI ∨ c = TO ∨ c = i1 ∨ c = i2 ∨ c = i3 := by simpa using hc
    rcases e' with q | q | q | q | q | q
    · rw [q]; exact ⟨_, hz, fun v q => nomatch q⟩
    · rw [q]; exact ⟨_, hTI, fun v q => nomatch q⟩
    · rw [q]; exact ⟨_, hTO, fun v q => nomatch q⟩
    · rw [q]; exact ⟨o1, e1, fun v q => by rw [d1] at q; cases q⟩
    · rw [q]; exact ⟨o2, e2, fun v q => by rw [d2] at q; cases q⟩
    · rw [q]; exact ⟨o3, e3, fun v q => by rw [d3] at q; cases q⟩
  keep := fun i h h' st k => by
    obtain ⟨hz, hTI, ⟨x, y, u, hTO⟩, h1, h2, h3⟩ := st
    exact ⟨k z (by simp) _ hz, k TI (by simp) _ hTI, ⟨x, y, u, k TO (by simp) _ hTO⟩, h1.at fun o q => k i1 (by simp) o q, h2.at fun o q => k i2 (by simp) o q, h3.at fun o q => k i3 (by simp) o q⟩
  item := by
    intro X hP hw hK hc i pins s σ H E I hf st hg
    subst hP hw hK
    obtain ⟨hz, hTI, ⟨x0, y0, u0, hTO⟩, h1, h2, h3⟩ := st
    obtain ⟨xs, ys, zs, x, y, u, hqx, hqy, hqz, hx, hy, hu⟩ := hg
    obtain ⟨its, rv, p, _⟩ := I.tuple hqx
    obtain ⟨its2, rv2, p2, _⟩ := I.list hqy
    obtain ⟨its3, rv3, p3, _⟩ := I.tuple hqz
    obtain ⟨v1, hv1, ru1⟩ := rv.get hx
    obtain ⟨v2, hv2, ru2⟩ := rv2.get hy
    obtain ⟨v3, hv3, ru3⟩ := rv3.get hu
    have hzl : z < s.heap.objs.size := Heap.lt_size hz
    have ha : a ≠ i1 := fun e => by
      subst e
      obtain ⟨o, ho, hc1, _⟩ := h1
      obtain ⟨o', ho', hc2, _⟩ := p
      rw [ho] at ho'
      cases ho'
      rw [hc1] at hc2
      simp at hc2
    have hb : b ≠ i2 := fun e => by
      subst e
      obtain ⟨o, ho, hc1, _⟩ := h2
      obtain ⟨o', ho', hc2, _⟩ := p2.isList
      rw [ho] at ho'
      cases ho'
      rw [hc1] at hc2
      simp at hc2
    have hd : d ≠ i3 := fun e => by
      subst e
      obtain ⟨o, ho, hc1, _⟩ := h3
      obtain ⟨o', ho', hc2, _⟩ := p3
      rw [ho] at ho'
      cases ho'
      rw [hc1] at hc2
      simp at hc2
    have hh : X.A.in1.handled = none := I.ok.hd hc
    refine pyNext_zip3_item D (Draws.tuple hh i1 a ha its.toArray) (Draws.list hh i2 b hb its2.toArray) (Draws.tuple hh i3 d hd its3.toArray) hz hTI hTO (i := i) ⟨h1, p⟩ ⟨h2, p2.isList⟩ ⟨h3, p3⟩
      (by rw [List.size_toArray]; exact (List.getElem?_eq_some_iff.mp hv1).1) (by rw [List.size_toArray]; exact (List.getElem?_eq_some_iff.mp hv2).1) (by rw [List.size_toArray]; exact (List.getElem?_eq_some_iff.mp hv3).1)
      fun w1 w2 w3 h' tk q1 q2 q3 z' TO' s1' s2' s3' hT hsz hk => ?_
    obtain rfl : w1 = v1 := by simpa [hv1] using q1.symm
    obtain rfl : w2 = v2 := by simpa [hv2] using q2.symm
    obtain rfl : w3 = v3 := by simpa [hv3] using q3.symm
    refine ⟨_, rfl, wpAny_letOwnedTupleGo_zip (s := { s with heap := h', toks := tk }) z' fun h'' z'' sb => ?_⟩
    have hT2 : h''.get? s.heap.objs.size = some { cls := .type "tuple", data := .seq #[w1, w2, w3] } := (sb.2 _ (Nat.ne_of_gt hzl)).trans hT
    have new : ObjOk X.prog X.w (upd H s.heap.objs.size (.tup [x, y, u])) h'' s.heap.objs.size (.tup [x, y, u]) :=
      ⟨by show 3 ≤ sizeLine; decide, [w1, w2, w3], .cons ru1 (.cons ru2 (.cons ru3 .nil)), ⟨_, hT2, rfl, _, rfl⟩⟩
    have I1 : Inv X pins σ (upd H s.heap.objs.size (.tup [x, y, u])) { s with heap := h'', toks := tk } :=
      I.turnedNew (t' := tk) (ch := [z, TI, TO, i1, i2, i3]) (fun c o hb q => (sb.2 c (fun q' => hb (by simp [q']))).trans (hk c o (fun q' => hb (by simp [q'])) (fun q' => hb (by simp [q'])) (fun q' => hb (by simp [q'])) (fun q' => hb (by simp [q'])) (fun q' => hb (by simp [q'])) q)) hf (Nat.le_refl _) new
    refine ⟨.ref s.heap.objs.size, _, I1, rfl, ⟨_, x, y, u, rfl, I.hok.fresh (Nat.le_refl _), rfl, fun l hl => by rw [I.tuple_inj hl hqx]; exact hx, fun l hl => by rw [I.list_inj hl hqy]; exact hy, fun l hl => by rw [I.tuple_inj hl hqz]; exact hu⟩, ⟨z'', ?_, ⟨w1, w2, w3, ?_⟩, ?_, ?_, ?_⟩, fun c hcm => ?_⟩
    · exact (sb.2 _ D.TIz).trans (hk _ _ D.TIz D.TITO D.TIi1 D.TIi2 D.TIi3 hTI)
    · exact (sb.2 _ D.TOz).trans TO'
    · exact s1'.1.at fun o q => (sb.2 _ D.zi1.symm).trans q
    · exact s2'.1.at fun o q => (sb.2 _ D.zi2.symm).trans q
    · exact s3'.1.at fun o q => (sb.2 _ D.zi3.symm).trans q
    · have hlt : c < s.heap.objs.size := by
        have e' : c = z ∨ c = TI ∨ c = TO ∨ c = i1 ∨ c = i2 ∨ c = i3 := by simpa using hcm
        rcases e' with q | q | q | q | q | q
        · rw [q]; exact hzl
        · rw [q]; exact Heap.lt_size hTI
        · rw [q]; exact Heap.lt_size hTO
        · rw [q]; obtain ⟨_, e1, _⟩ := h1; exact Heap.lt_size e1
        · rw [q]; obtain ⟨_, e2, _⟩ := h2; exact Heap.lt_size e2
        · rw [q]; obtain ⟨_, e3, _⟩ := h3; exact Heap.lt_size e3
      rw [upd_ne (Nat.ne_of_lt hlt)]
      exact (hf c hcm).1
  done := by
    intro X hP hw hK hc i pins s σ H E I hf st hg
    subst hP hw hK
    obtain ⟨hz, hTI, ⟨x0, y0, u0, hTO⟩, h1, h2, h3⟩ := st
    obtain ⟨xs, ys, zs, hqx, hqy, hqz, hend⟩ := hg
    obtain ⟨its, rv, p, _⟩ := I.tuple hqx
    obtain ⟨its2, rv2, p2, _⟩ := I.list hqy
    obtain ⟨its3, rv3, p3, _⟩ := I.tuple hqz
    have l1 := rv.length
    have l2 := rv2.length
    have l3 := rv3.length
    have ha : a ≠ i1 := fun e => by
      subst e
      obtain ⟨o, ho, hc1, _⟩ := h1
      obtain ⟨o', ho', hc2, _⟩ := p
      rw [ho] at ho'
      cases ho'
      rw [hc1] at hc2
      simp at hc2
    have hb : b ≠ i2 := fun e => by
      subst e
      obtain ⟨o, ho, hc1, _⟩ := h2
      obtain ⟨o', ho', hc2, _⟩ := p2.isList
      rw [ho] at ho'
      cases ho'
      rw [hc1] at hc2
      simp at hc2
    have hd : d ≠ i3 := fun e => by
      subst e
      obtain ⟨o, ho, hc1, _⟩ := h3
      obtain ⟨o', ho', hc2, _⟩ := p3
      rw [ho] at ho'
      cases ho'
      rw [hc1] at hc2
      simp at hc2
    have hh : X.A.in1.handled = none := I.ok.hd hc
    have G := Goes.zip3 (elts := elts) (x1 := kk) (pos := tpos) D (Draws.tuple (prog := X.prog) (w := X.w) hh i1 a ha its.toArray) (Draws.list hh i2 b hb its2.toArray) (Draws.tuple hh i3 d hd its3.toArray)
    have hi : i = min (min its.toArray.size its2.toArray.size) its3.toArray.size := by
      rw [List.size_toArray, List.size_toArray, List.size_toArray, ← l1, ← l2, ← l3]
      exact hend
    subst hi
    refine G.stops s _ E ⟨hz, hTI, ⟨x0, y0, u0, hTO⟩, ⟨h1, p⟩, ⟨h2, p2.isList⟩, ⟨h3, p3⟩⟩ fun h' tk hk _ => ?_
    exact I.turnedL (t' := tk) (ch := [z, TI, TO, i1, i2, i3]) (fun c o hb q => hk c o (fun q' => hb (by simp at q' ⊢; rcases q' with q' | q' | q' | q' | q' <;> simp [q'])) q) hf
  self := fun A i s Q E st h => wpAny_pyIter_zip st.1 h
end DL

set_option Elab.async false
set_option linter.all false
set_option maxRecDepth 100000
set_option maxHeartbeats 4000000
/-! DLE: the loop over zip of a tuple, a list and a tuple: its rule. -/
namespace DL
open PySem PySem.Spec L2
open PyProof.Rows hiding St

def iZip3A (K : PySem.W.Frag) (ta : TA) : TI := fun σ H R => ta σ H fun vs H1 => ∃ a b d xs ys zs, vs = [.ref a, .ref b, .ref d] ∧ SqT K H1 a xs ∧ SqL K H1 b ys ∧ SqT K H1 d zs ∧ R (Itz3 K a b d) H1
theorem pi_zip3 {X : Cx} {e e2 e3 : Expr} {ta : TA} {p pos tpos : Pos} {elts : List Expr} {kk : Nat} (hg : Gl X "zip") (hm : X.mg "zip" = none) (ha : PA X [e, e2, e3] ta)
    (hs : starEach [e, e2, e3] X.env = (false, eval e X.env) :: starEach [e2, e3] X.env := by rfl) (hpl : (backTo pos (starEach [e2, e3] X.env)).any (·.1) = false := by rfl) :
    PI X (.Tuple elts kk tpos) (.Call (.Name "zip" p) [e, e2, e3] [] pos) (iZip3A X.K ta) := by
  refine ⟨fun pins s σ H R I h => ?_⟩
  refine Call_ (ld_blt I hg hm PyProof.Rows.boot_zip (PyProof.Rows.callWith_type1 (thn (ha.run pos pins s σ H _ I h) fun us s1 ⟨vs, H1, I1, r1, q1⟩ => ?_) hs hpl))
  obtain ⟨a, b, d, xs, ys, zs, ex, hqx, hqy, hqz, q⟩ := q1
  subst ex
  cases r1 with
  | cons r rr =>
    cases rr with
    | cons r' rr =>
      cases rr with
      | cons r'' rr =>
        cases rr
        cases r
        cases r'
        cases r''
        obtain ⟨its, rv, p1, _⟩ := I1.tuple hqx
        obtain ⟨its2, rv2, p2, _⟩ := I1.list hqy
        obtain ⟨its3, rv3, p3, _⟩ := I1.tuple hqz
        obtain ⟨o1, ho1, hc1, hd1⟩ := id p1
        obtain ⟨o3, ho3, hc3, hd3⟩ := id p3
        have l1 : a < s1.heap.objs.size := Heap.lt_size ho1
        have l2 : b < s1.heap.objs.size := p2.lt
        have l3 : d < s1.heap.objs.size := Heap.lt_size ho3
        have fresh6 : ∀ c, c ∈ [s1.heap.objs.size + 5, s1.heap.objs.size + 3, s1.heap.objs.size + 4, s1.heap.objs.size, s1.heap.objs.size + 1, s1.heap.objs.size + 2] → FpOk X pins H1 c := fun c hcm => by
          have e' : c = s1.heap.objs.size + 5 ∨ c = s1.heap.objs.size + 3 ∨ c = s1.heap.objs.size + 4 ∨ c = s1.heap.objs.size ∨ c = s1.heap.objs.size + 1 ∨ c = s1.heap.objs.size + 2 := by simpa using hcm
          have hle : s1.heap.objs.size ≤ c := by
            rcases e' with z | z | z | z | z | z
            · rw [z]; exact Nat.le_add_right _ _
            · rw [z]; exact Nat.le_add_right _ _
            · rw [z]; exact Nat.le_add_right _ _
            · rw [z]; exact Nat.le_refl _
            · rw [z]; exact Nat.le_add_right _ _
            · rw [z]; exact Nat.le_add_right _ _
          exact I1.fpOk hle (I1.hok.fresh hle)
        have D : ZipSep3 (s1.heap.objs.size + 5) (s1.heap.objs.size + 3) (s1.heap.objs.size + 4) s1.heap.objs.size (s1.heap.objs.size + 1) (s1.heap.objs.size + 2) [s1.heap.objs.size, a] [s1.heap.objs.size + 1, b] [s1.heap.objs.size + 2, d] :=
          zip_sep3 (fun c h => by rw [List.mem_singleton.mp h]; exact l1) (fun c h => by rw [List.mem_singleton.mp h]; exact l2) (fun c h => by rw [List.mem_singleton.mp h]; exact l3)
        refine zip_begins3 (begins_tuple a its.toArray) (begins_list b its2.toArray) (begins_tuple d its3.toArray) p1 p2.isList p3 fun h' hz hTI hTO h1 h2 h3 hsz hk => wpAny_pyIter_zip hz ?_
        have I2 : Inv X pins σ H1 { s1 with heap := h' } := I1.kept (t' := s1.toks) hk
        exact ⟨s1.heap.objs.size + 5, [s1.heap.objs.size + 5, s1.heap.objs.size + 3, s1.heap.objs.size + 4, s1.heap.objs.size, s1.heap.objs.size + 1, s1.heap.objs.size + 2], _, _, H1, rfl, I2, turn_zip3 D, ⟨hz, hTI, ⟨_, _, _, hTO⟩, ⟨_, h1, rfl, rfl⟩, ⟨_, h2, rfl, rfl⟩, ⟨_, h3, rfl, rfl⟩⟩, fresh6, q⟩

def zip3D : List D → List D → List D → List D
  | x :: xs, y :: ys, z :: zs => .tuple [x, y, z] :: zip3D xs ys zs
  | _, _, _ => []
theorem zip3D_length : ∀ xs ys zs : List D, (zip3D xs ys zs).length = min (min xs.length ys.length) zs.length
  | [], _, _ => by simp [zip3D]
  | _ :: _, [], _ => by simp [zip3D]
  | _ :: _, _ :: _, [] => by simp [zip3D]
  | x :: xs, y :: ys, z :: zs => by
    have := zip3D_length xs ys zs
    simp only [zip3D, List.length_cons]
    omega
theorem zip3D_get : ∀ (xs ys zs : List D) (i : Nat) (d : D), (zip3D xs ys zs)[i]? = some d → ∃ x y z, xs[i]? = some x ∧ ys[i]? = some y ∧ zs[i]? = some z ∧ d = .tuple [x, y, z]
  | [], _, _, i, d, h => by simp [zip3D] at h
  | _ :: _, [], _, i, d, h => by simp [zip3D] at h
  | _ :: _, _ :: _, [], i, d, h => by simp [zip3D] at h
  | x :: xs, y :: ys, z :: zs, 0, d, h => by
    simp only [zip3D, List.getElem?_cons_zero, Option.some.injEq] at h
    exact ⟨x, y, z, rfl, rfl, rfl, h.symm⟩
  | x :: xs, y :: ys, z :: zs, i + 1, d, h => by
    simp only [zip3D, List.getElem?_cons_succ] at h ⊢
    exact zip3D_get xs ys zs i d h
section
variable {F : Fx} {X : Cx} {fa fb fc : DE}
theorem walk_zip3 {a b d : Addr} {xs ys zs : List D} : WalkS F (Itz3 F.m.K a b d) (zip3D xs ys zs) (fun H O => (∃ us, SqT F.m.K H a us ∧ RepDs F.m.K H O F.δ us xs) ∧ (∃ ws, H b = some (.lst ws) ∧ ¬ O b ∧ RepDs F.m.K H O F.δ ws ys) ∧ ∃ vs, SqT F.m.K H d vs ∧ RepDs F.m.K H O F.δ vs zs) where
  go := fun i H O c h w ⟨⟨us, h1, r1⟩, ⟨ws, h2, _, r2⟩, vs, h3, r3⟩ => by
    rw [zip3D_length] at h
    obtain ⟨x, g1, _⟩ := r1.get (i := i) (List.getElem?_eq_getElem (by omega : i < xs.length))
    obtain ⟨y, g2, _⟩ := r2.get (i := i) (List.getElem?_eq_getElem (by omega : i < ys.length))
    obtain ⟨z, g3, _⟩ := r3.get (i := i) (List.getElem?_eq_getElem (by omega : i < zs.length))
    exact ⟨us, ws, vs, x, y, z, h1, .of h2, h3, g1, g2, g3⟩
  stop := fun H O c w ⟨⟨us, h1, r1⟩, ⟨ws, h2, _, r2⟩, vs, h3, r3⟩ => ⟨us, ws, vs, h1, .of h2, h3, by
    rw [r1.length, r2.length, r3.length, zip3D_length]⟩
  yld := fun i H O c x H' e w ⟨⟨us, h1, r1⟩, ⟨ws, h2, _, r2⟩, vs, h3, r3⟩ ⟨T, x1, y1, z1, e1, e2, e3, e4, e5, e6⟩ hd => by
    subst e1 e3
    obtain ⟨dx, dy, dz, q1, q2, q3, rfl⟩ := zip3D_get _ _ _ _ _ hd
    obtain ⟨x', g1, s1⟩ := r1.get q1
    obtain ⟨y', g2, s2⟩ := r2.get q2
    obtain ⟨z', g3, s3⟩ := r3.get q3
    have f1 := e4 us h1
    have f2 := e5 ws (.of h2)
    have f3 := e6 vs h3
    rw [f1] at g1
    rw [f2] at g2
    rw [f3] at g3
    cases g1
    cases g2
    cases g3
    exact ⟨.upd e2, .tup (.of upd_same) ((RepDs.cons s1 (.cons s2 (.cons s3 .nil))).step (StF.stp ((Ext.upd e2).stF (O := O))) w)⟩
  keep := fun H O c H' O' w ⟨⟨us, h1, r1⟩, ⟨ws, h2, n2, r2⟩, vs, h3, r3⟩ st => ⟨⟨us, st.sqT w h1, r1.stS st w⟩, ⟨ws, st.keep _ _ n2 nt_lst h2, st.nO (by rw [h2]; simp) n2, r2.stS st w⟩, vs, st.sqT w h3, r3.stS st w⟩
/-- zip(a, b, c): a tuple, a list, a tuple -/
def iZip3 (a b c : DE) : DA := fun s => (a s).ra fun x s1 => (b s1).ra fun y s2 => (c s2).ra fun z s3 => match x, y, z with
  | .tuple xs, .list ys, .tuple zs => .ok (zip3D xs ys zs) s3
  | _, _, _ => .stuck
theorem i_zip3 {a b c : Expr} {p pos : Pos} {elts : List Expr} {kk : Nat} {tpos : Pos} (hK : F.m.K = X.K) (hg : Gl X "zip") (hm : X.mg "zip" = none) (ha : EO F X a fa) (hb : EO F X b fb) (hc : EO F X c fc)
    (hs : starEach [a, b, c] X.env = (false, eval a X.env) :: starEach [b, c] X.env := by rfl) (hs2 : starEach [b, c] X.env = (false, eval b X.env) :: starEach [c] X.env := by rfl) (hs3 : starEach [c] X.env = (false, eval c X.env) :: starEach [] X.env := by rfl) (hpl : (backTo pos (starEach [b, c] X.env)).any (·.1) = false := by rfl) :
    IO F X (.Tuple elts kk tpos) (.Call (.Name "zip" p) [a, b, c] [] pos) (iZip3 fa fb fc) := by
  obtain ⟨ta, pa, sa⟩ := ha
  obtain ⟨tb, pb, sb⟩ := hb
  obtain ⟨tc, pc, sc⟩ := hc
  refine ⟨_, pi_zip3 hg hm (pa_cons pa (pa_cons pb (pa_cons pc pa_nil hs3) hs2) hs) hs hpl, fun σ H O s R I k => ?_⟩
  refine sa.ra I k fun x s1 v H1 O1 st I1 r k1 => ?_
  clear k
  refine sb.ra I1 k1 fun y s2 w H2 O2 st2 I2 r2 k2 => ?_
  clear k1
  refine sc.ra I2 k2 fun z s3 u H3 O3 st3 I3 r3 k => ?_
  clear k2
  have q1 := (r.step st2.stp I1.wd).step st3.stp I2.wd
  have q2 := r2.step st3.stp I2.wd
  split at k
  · obtain ⟨a1, us, rfl, h1, rs1⟩ := q1.tup_inv
    obtain ⟨a2, ws, rfl, h2, n2, rs2⟩ := q2.list_inv
    obtain ⟨a3, vs, rfl, h3, rs3⟩ := r3.tup_inv
    exact ⟨a1, a2, a3, us, ws, vs, rfl, hK ▸ h1, .of h2, hK ▸ h3, hK ▸ k _ _ H3 O3 .refl I3 walk_zip3 ⟨⟨us, h1, rs1⟩, ⟨ws, h2, n2, rs2⟩, vs, h3, rs3⟩⟩
  · exact k.elim
end
end DL

set_option Elab.async false
set_option linter.all false
set_option maxRecDepth 100000
set_option maxHeartbeats 4000000
/-! DLF: tuple(zip(a, b)) of two tuples. -/
namespace DL
open PySem PySem.Spec L2
open PyProof.Rows hiding St

theorem nolen_zp : typeLookup (.type "zip") "__len__" = pure none := by rw [typeLookup_type, builtinLookup_eq_fast]; kernel_rfl
theorem nohint_zp : typeLookup (.type "zip") "__length_hint__" = pure none := by rw [typeLookup_type, builtinLookup_eq_fast]; kernel_rfl

section
variable {prog : Program} {w : World} {A : Around} {E : Value → Shared → Prop} {s : Shared} {z TI TO i1 i2 T : Addr} {fp1 fp2 : List Addr} {n1 n2 i : Nat} {P1 P2 : Nat → Value → Prop} {St1 St2 : Nat → Heap → Prop} {f : Bool} {oT : Obj}
/-- the next pair while an earlier one is still held -/
theorem zipD2_held_item {Q : Value → Shared → Prop} (S : ZipSep2 z TI TO i1 i2 fp1 fp2) (D1 : Draws prog w A i1 fp1 n1 P1 St1) (D2 : Draws prog w A i2 fp2 n2 P2 St2)
    (hz : IsZipHeld s.heap z TI TO T f) (hT : s.heap.get? T = some oT) (hTI : IsTupOf2 s.heap TI (.ref i1) (.ref i2)) (st1 : St1 i s.heap) (st2 : St2 i s.heap) (hlt1 : i < n1) (hlt2 : i < n2)
    (hQ : ∀ x1 x2 h' tk, P1 i x1 → P2 i x2 → IsZipHeld h' z TI TO T true → St1 (i + 1) h' → St2 (i + 1) h' → IsTupOf2 h' s.heap.objs.size x1 x2 →
      (∀ c o, c ≠ z → c ≠ i1 → c ≠ i2 → s.heap.get? c = some o → h'.get? c = some o) → Q (.ref s.heap.objs.size) { s with heap := h', toks := tk }) :
    wpAny (model prog w) A (Builtin.«zip.__next__» ⟨[.ref z], []⟩) (fun fin s' => ∃ v, fin = .done (.ret v) ∧ Q v s') E s := by
  obtain ⟨hp, g, d, tk0, os⟩ := s
  show wpAny _ _ (field (.ref z) 2 >>= _) _ _ _
  refine wpAny_bind (wpAny_field hz rfl (x := .bool false) rfl ?_)
  show wpAny _ _ (field (.ref z) 3 >>= _) _ _ _
  refine wpAny_bind (wpAny_field hz rfl (x := .ref TI) rfl ?_)
  refine wpAny_bind (wpAny_seqItems hTI rfl ?_)
  show wpAny _ _ (Builtin.SmallTypes.ownedTupleIsFree (.ref z) >>= _) _ _ _
  refine wpAny_bind (wpAny_tupleHeld_zip hz hT fun g0 hz0 hs0 => ?_)
  replace hs0 : Heap.SameBut z hp g0 := hs0
  simp only [Bool.false_eq_true, if_false]
  refine wpAny_bind ?_
  rw [← Array.forIn_toList]
  simp only [List.forIn_cons, List.forIn_nil]
  refine wpAny_bind (wpAny_bind (wpAny_holding ?_))
  show wpAny _ _ (Builtin.SmallTypes.nextOf (.ref i1) >>= _) _ _ ⟨g0, g, d, tk0, os⟩
  refine wpAny_bind (D1.item i _ _ _ hlt1 (D1.over st1 hs0 S.zf1) fun x1 p1 tk1 hx1 sn1 hp1 => wpAny_pure ?_)
  replace hp1 : Heap.SameBut i1 g0 p1 := hp1
  refine wpAny_pure ?_
  refine wpAny_bind (wpAny_bind (wpAny_holding ?_))
  show wpAny _ _ (Builtin.SmallTypes.nextOf (.ref i2) >>= _) _ _ ⟨p1, g, d, tk1, os⟩
  refine wpAny_bind (D2.item i _ _ _ hlt2 (D2.over (D2.over st2 hs0 S.zf2) hp1 S.sep1_2) fun x2 p2 tk2 hx2 sn2 hp2 => wpAny_pure ?_)
  replace hp2 : Heap.SameBut i2 p1 p2 := hp2
  refine wpAny_pure (wpAny_pure ?_)
  show wpAny _ _ (newTuple [x1, x2] >>= _) _ _ _
  refine wpAny_bind (wpAny_newTuple ?_)
  have hsz : p2.objs.size = hp.objs.size := by rw [hp2.1, hp1.1, hs0.1]
  have hz3 : IsZipHeld p2 z TI TO T true := hp2.extBut _ _ S.zi2 (hp1.extBut _ _ S.zi1 hz0)
  have sn1' : St1 (i + 1) p2 := D1.over sn1 hp2 S.sep2_1
  have hk : ∀ c o, c ≠ z → c ≠ i1 → c ≠ i2 → hp.get? c = some o → p2.get? c = some o := fun c o c1 c2 c3 e => hp2.extBut _ _ c3 (hp1.extBut _ _ c2 (hs0.extBut _ _ c1 e))
  refine wpAny_pure ⟨_, rfl, ?_⟩
  show Q (.ref p2.objs.size) ⟨p2.push { cls := .type "tuple", data := .seq #[x1, x2] }, g, d, tk2, os⟩
  have hpT : IsTupOf2 (p2.push { cls := .type "tuple", data := .seq #[x1, x2] }) p2.objs.size x1 x2 := Heap.get?_push_size _ rfl
  rw [hsz] at hpT ⊢
  exact hQ x1 x2 _ tk2 hx1 hx2 (Heap.get?_push_of_some _ hz3) (D1.frame _ _ _ sn1' fun b _ o e => Heap.get?_push_of_some _ e) (D2.frame _ _ _ sn2 fun b _ o e => Heap.get?_push_of_some _ e) hpT fun c o c1 c2 c3 e => Heap.get?_push_of_some _ (hk c o c1 c2 c3 e)
theorem zipD2_held_end {Q : Fin → Shared → Prop} (S : ZipSep2 z TI TO i1 i2 fp1 fp2) (D1 : Draws prog w A i1 fp1 n1 P1 St1) (D2 : Draws prog w A i2 fp2 n2 P2 St2)
    (hz : IsZipHeld s.heap z TI TO T f) (hT : s.heap.get? T = some oT) (hTI : IsTupOf2 s.heap TI (.ref i1) (.ref i2)) (st1 : St1 i s.heap) (st2 : St2 i s.heap) (hle1 : i ≤ n1) (hle2 : i ≤ n2) (hend : i = n1 ∨ i = n2)
    (hE : ∀ h' tk e, (∀ c o, c ≠ z → c ≠ i1 → c ≠ i2 → s.heap.get? c = some o → h'.get? c = some o) → (∃ o, h'.get? e = some o ∧ o.cls = .type "StopIteration") → E (.ref e) { s with heap := h', toks := tk }) :
    wpAny (model prog w) A (Builtin.«zip.__next__» ⟨[.ref z], []⟩) Q E s := by
  obtain ⟨hp, g, d, tk0, os⟩ := s
  show wpAny _ _ (field (.ref z) 2 >>= _) _ _ _
  refine wpAny_bind (wpAny_field hz rfl (x := .bool false) rfl ?_)
  show wpAny _ _ (field (.ref z) 3 >>= _) _ _ _
  refine wpAny_bind (wpAny_field hz rfl (x := .ref TI) rfl ?_)
  refine wpAny_bind (wpAny_seqItems hTI rfl ?_)
  show wpAny _ _ (Builtin.SmallTypes.ownedTupleIsFree (.ref z) >>= _) _ _ _
  refine wpAny_bind (wpAny_tupleHeld_zip hz hT fun g0 hz0 hs0 => ?_)
  replace hs0 : Heap.SameBut z hp g0 := hs0
  simp only [Bool.false_eq_true, if_false]
  refine wpAny_bind ?_
  rw [← Array.forIn_toList]
  simp only [List.forIn_cons, List.forIn_nil]
  refine wpAny_bind (wpAny_bind (wpAny_holding ?_))
  show wpAny _ _ (Builtin.SmallTypes.nextOf (.ref i1) >>= _) _ _ ⟨g0, g, d, tk0, os⟩
  by_cases hlt1 : i < n1
  · refine wpAny_bind (D1.item i _ _ _ hlt1 (D1.over st1 hs0 S.zf1) fun x1 p1 tk1 hx1 sn1 hp1 => wpAny_pure ?_)
    replace hp1 : Heap.SameBut i1 g0 p1 := hp1
    have hi2 : i = n2 := by omega
    refine wpAny_pure ?_
    refine wpAny_bind (wpAny_bind (wpAny_holding ?_))
    show wpAny _ _ (Builtin.SmallTypes.nextOf (.ref i2) >>= _) _ _ ⟨p1, g, d, tk1, os⟩
    refine wpAny_bind (D2.done ⟨p1, g, d, tk1, os⟩ _ _ (by rw [← hi2]; exact D2.over (D2.over st2 hs0 S.zf2) hp1 S.sep1_2) fun q e hq he => ?_)
    replace hq : Heap.ExtBut i2 p1 q := hq
    exact hE q tk1 e (fun c o cz c1 c2 x => hq _ _ c2 (hp1.extBut _ _ c1 (hs0.extBut _ _ cz x))) he
  · have hi1 : i = n1 := by omega
    refine wpAny_bind (D1.done ⟨g0, g, d, tk0, os⟩ _ _ (by rw [← hi1]; exact (D1.over st1 hs0 S.zf1)) fun q e hq he => ?_)
    replace hq : Heap.ExtBut i1 g0 q := hq
    exact hE q tk0 e (fun c o cz c1 c2 x => hq _ _ c1 (hs0.extBut _ _ cz x)) he
theorem pyNext_zipD2_held {Q : Option Value → Shared → Prop} (S : ZipSep2 z TI TO i1 i2 fp1 fp2) (D1 : Draws prog w A.in1 i1 fp1 n1 P1 St1) (D2 : Draws prog w A.in1 i2 fp2 n2 P2 St2)
    (hz : IsZipHeld s.heap z TI TO T f) (hT : s.heap.get? T = some oT) (hTI : IsTupOf2 s.heap TI (.ref i1) (.ref i2)) (st1 : St1 i s.heap) (st2 : St2 i s.heap) (hlt1 : i < n1) (hlt2 : i < n2)
    (hQ : ∀ x1 x2 h' tk, P1 i x1 → P2 i x2 → IsZipHeld h' z TI TO T true → St1 (i + 1) h' → St2 (i + 1) h' → IsTupOf2 h' s.heap.objs.size x1 x2 →
      (∀ c o, c ≠ z → c ≠ i1 → c ≠ i2 → s.heap.get? c = some o → h'.get? c = some o) → Q (some (.ref s.heap.objs.size)) { s with heap := h', toks := tk }) :
    wpAny (model prog w) A (pyNext (.ref z)) Q E s := by
  have hTy : s.TypeIs (.ref z) "zip" := ⟨_, hz, rfl⟩
  unfold pyNext
  exact wpAny_bind (wpAny_attempt (wpAny_callSpecial?_slot (name := Str.ofString "__next__") hTy F.slot_zip_next
    (wpAny_call_entry F.slot_zip_next hTy F.entry_zip_next
      (zipD2_held_item S D1 D2 hz hT hTI st1 st2 hlt1 hlt2 fun x1 x2 h' tk p1 p2 b1 b2 b3 b4 b5 => wpAny_pure (hQ x1 x2 h' tk p1 p2 b1 b2 b3 b4 b5)) (F.args_zip_next_1 _))))
theorem pyNext_zipD2_held_end {Q : Option Value → Shared → Prop} (S : ZipSep2 z TI TO i1 i2 fp1 fp2) (D1 : Draws prog w A.in1 i1 fp1 n1 P1 St1) (D2 : Draws prog w A.in1 i2 fp2 n2 P2 St2)
    (hz : IsZipHeld s.heap z TI TO T f) (hT : s.heap.get? T = some oT) (hTI : IsTupOf2 s.heap TI (.ref i1) (.ref i2)) (st1 : St1 i s.heap) (st2 : St2 i s.heap) (hle1 : i ≤ n1) (hle2 : i ≤ n2) (hend : i = n1 ∨ i = n2)
    (hQ : ∀ h' tk, (∀ c o, c ≠ z → c ≠ i1 → c ≠ i2 → s.heap.get? c = some o → h'.get? c = some o) → Q none { s with heap := h', toks := tk }) : wpAny (model prog w) A (pyNext (.ref z)) Q E s := by
  have hTy : s.TypeIs (.ref z) "zip" := ⟨_, hz, rfl⟩
  unfold pyNext
  refine wpAny_bind (wpAny_attempt (wpAny_callSpecial?_slot (name := Str.ofString "__next__") hTy F.slot_zip_next
    (wpAny_call_entry F.slot_zip_next hTy F.entry_zip_next (zipD2_held_end S D1 D2 hz hT hTI st1 st2 hle1 hle2 hend fun h' tk e hk he => ?_) (F.args_zip_next_1 _))))
  obtain ⟨o, ho, hc⟩ := he
  refine wpAny_bind (wpAny_isInstance (T := "StopIteration") (b := true) ⟨o, ho, hc⟩ isSubtype_stop ?_)
  exact wpAny_pure (hQ _ _ hk)

/-- the zip at its i-th turn, held or not -/
def ZS (z TI TO i1 i2 S : Addr) (i : Nat) (St1 St2 : Nat → Heap → Prop) (h : Heap) : Prop :=
  IsTupOf2 h TI (.ref i1) (.ref i2) ∧ St1 i h ∧ St2 i h ∧ ((IsZip h z TI TO .none ∧ ∃ x y, IsTupOf2 h TO x y) ∨ ∃ T f oT, IsZipHeld h z TI TO T f ∧ h.get? T = some oT ∧ T ≠ z ∧ T ≠ i1 ∧ T ≠ i2 ∧ T ≠ S)
theorem ZS.typeIs {S : Addr} {i : Nat} (h : ZS z TI TO i1 i2 S i St1 St2 s.heap) : s.TypeIs (.ref z) "zip" := by
  obtain ⟨_, _, _, ⟨h, _⟩ | ⟨T, f, oT, h, _⟩⟩ := h
  · exact ⟨_, h, rfl⟩
  · exact ⟨_, h, rfl⟩
theorem ZS.over {S : Addr} {i : Nat} {h h' : Heap} (D1 : Draws prog w A i1 fp1 n1 P1 St1) (D2 : Draws prog w A i2 fp2 n2 P2 St2) (hd : ZS z TI TO i1 i2 S i St1 St2 h) (hk : ∀ b o, b ≠ S → h.get? b = some o → h'.get? b = some o) (h1 : S ∉ fp1) (h2 : S ∉ fp2) (hz : S ≠ z) (hTI : S ≠ TI) (hTO : S ≠ TO) : ZS z TI TO i1 i2 S i St1 St2 h' := by
  obtain ⟨a, b, c, d⟩ := hd
  refine ⟨hk _ _ hTI.symm a, D1.frame _ _ _ b fun b hb o e => hk b o (fun q => h1 (q ▸ hb)) e, D2.frame _ _ _ c fun b hb o e => hk b o (fun q => h2 (q ▸ hb)) e, ?_⟩
  rcases d with ⟨d, x, y, e⟩ | ⟨T, f, oT, d, e, r1, r2, r3, r4⟩
  · exact .inl ⟨hk _ _ hz.symm d, x, y, hk _ _ hTO.symm e⟩
  · exact .inr ⟨T, f, oT, hk _ _ hz.symm d, hk _ _ r4 e, r1, r2, r3, r4⟩
theorem ZS.item {S : Addr} {Q : Option Value → Shared → Prop} (Z : ZipSep2 z TI TO i1 i2 fp1 fp2) (D1 : Draws prog w A.in1 i1 fp1 n1 P1 St1) (D2 : Draws prog w A.in1 i2 fp2 n2 P2 St2)
    (hd : ZS z TI TO i1 i2 S i St1 St2 s.heap) (hlt1 : i < n1) (hlt2 : i < n2) (hS : S < s.heap.objs.size)
    (hQ : ∀ x1 x2 h' tk, P1 i x1 → P2 i x2 → ZS z TI TO i1 i2 S (i + 1) St1 St2 h' → IsTupOf2 h' s.heap.objs.size x1 x2 → (∀ c o, c ≠ z → c ≠ TO → c ≠ i1 → c ≠ i2 → s.heap.get? c = some o → h'.get? c = some o) → Q (some (.ref s.heap.objs.size)) { s with heap := h', toks := tk }) :
    wpAny (model prog w) A (pyNext (.ref z)) Q E s := by
  obtain ⟨hTI, s1, s2, d⟩ := hd
  obtain ⟨o1, ho1⟩ := D1.live _ _ s1
  obtain ⟨o2, ho2⟩ := D2.live _ _ s2
  rcases d with ⟨hz, x, y, hTO⟩ | ⟨T, f, oT, hz, hT, r1, r2, r3, r4⟩
  · refine wpAny_pyNext_zipD2_item Z D1 D2 hz hTI hTO s1 s2 hlt1 hlt2 fun x1 x2 h' tk p1 p2 b1 b2 b3 b4 b5 b6 b7 => ?_
    exact hQ x1 x2 h' tk p1 p2 ⟨b7 _ _ Z.TIz Z.TITO Z.TIi1 Z.TIi2 hTI, b3, b4, .inr ⟨_, false, _, b1, b5, Nat.ne_of_gt (Heap.lt_size hz), Nat.ne_of_gt (Heap.lt_size ho1), Nat.ne_of_gt (Heap.lt_size ho2), Nat.ne_of_gt hS⟩⟩ b5 b7
  · refine pyNext_zipD2_held Z D1 D2 hz hT hTI s1 s2 hlt1 hlt2 fun x1 x2 h' tk p1 p2 b1 b3 b4 b5 b7 => ?_
    exact hQ x1 x2 h' tk p1 p2 ⟨b7 _ _ Z.TIz Z.TIi1 Z.TIi2 hTI, b3, b4, .inr ⟨T, true, oT, b1, b7 _ _ r1 r2 r3 hT, r1, r2, r3, r4⟩⟩ b5 fun c o c1 _ c3 c4 e => b7 c o c1 c3 c4 e
theorem ZS.done {S : Addr} {Q : Option Value → Shared → Prop} (Z : ZipSep2 z TI TO i1 i2 fp1 fp2) (D1 : Draws prog w A.in1 i1 fp1 n1 P1 St1) (D2 : Draws prog w A.in1 i2 fp2 n2 P2 St2)
    (hd : ZS z TI TO i1 i2 S (min n1 n2) St1 St2 s.heap)
    (hQ : ∀ h' tk, (∀ c o, c ≠ z → c ≠ TO → c ≠ i1 → c ≠ i2 → s.heap.get? c = some o → h'.get? c = some o) → Q none { s with heap := h', toks := tk }) :
    wpAny (model prog w) A (pyNext (.ref z)) Q E s := by
  obtain ⟨hTI, s1, s2, d⟩ := hd
  have hend : min n1 n2 = n1 ∨ min n1 n2 = n2 := by omega
  rcases d with ⟨hz, x, y, hTO⟩ | ⟨T, f, oT, hz, hT, r1, r2, r3, r4⟩
  · exact wpAny_pyNext_zipD2_end Z D1 D2 hz hTI hTO s1 s2 (Nat.min_le_left ..) (Nat.min_le_right ..) hend hQ
  · exact pyNext_zipD2_held_end Z D1 D2 hz hT hTI s1 s2 (Nat.min_le_left ..) (Nat.min_le_right ..) hend fun h' tk k => hQ h' tk fun c o c1 _ c3 c4 e => k c o c1 c3 c4 e
end

/-! ### collecting with an invariant that may speak of the heap -/
section
variable {prog : Program} {w : World} {A : Around} {E : Value → Shared → Prop} {s : Shared} {R : Result → Shared → Prop} {S I : Addr} {n : Nat} {J : Nat → Shared → List Value → Prop} {J' : Shared → List Value → Prop}
theorem extend_loopJ {res : Value} (hn : n ≤ sizeLine)
    (item : ∀ i s acc (Q : Option Value → Shared → Prop) (E : Value → Shared → Prop), i < n → J i s acc → (∀ v s', s'.heap.get? S = s.heap.get? S → (∀ h', Heap.SameBut S s'.heap h' → (∃ o, h'.get? S = some o) → J (i + 1) { s' with heap := h' } (acc ++ [v])) → Q (some v) s') → wpAny (model prog w) A.in1 (pyNext (.ref I)) Q E s)
    (done : ∀ s acc (Q : Option Value → Shared → Prop) (E : Value → Shared → Prop), J n s acc → (∀ s', s'.heap.get? S = s.heap.get? S → J' s' acc → Q none s') → wpAny (model prog w) A.in1 (pyNext (.ref I)) Q E s) :
    ∀ (k i : Nat) (s : Shared) (acc : Array Value) (c : Nat), n - i = k → i ≤ n → J i s acc.toList → acc.size = i → s.heap.get? S = some { cls := .type "list", dict := none, data := .seq acc c, slots := #[] } →
    (∀ s' acc' c', J' s' acc'.toList → s'.heap.get? S = some { cls := .type "list", dict := none, data := .seq acc' c', slots := #[] } → R (.ok (.ret res)) s') →
    codeAny (model prog w) A (.builtin "list.extend.loop" ⟨[.ref S, .ref I, res], []⟩) R s := by
  intro k
  induction k with
  | zero =>
    intro i s acc c hk hi hst ha hS hR
    have hin : i = n := by omega
    subst hin
    refine codeAny_builtin F.entry_extend_loop ?_
    rw [Around.under_plainId F.plain_extend_loop _]
    show wpAny _ A.in1 (pyNext (.ref I) >>= _) _ _ s
    refine wpAny_bind (done s _ _ _ hst fun s' hm j => ?_)
    exact wpAny_pure (hR s' acc c j (hm.trans hS))
  | succ k ih =>
    intro i s acc c hk hi hst ha hS hR
    have hlt : i < n := by omega
    refine codeAny_builtin F.entry_extend_loop ?_
    rw [Around.under_plainId F.plain_extend_loop _]
    show wpAny _ A.in1 (pyNext (.ref I) >>= _) _ _ s
    refine wpAny_bind (item i s _ _ _ hlt hst fun v s' hm hJ => ?_)
    have hS' := hm.trans hS
    show wpAny _ A.in1 (updateSeq S (·.push v) >>= _) _ _ _
    refine wpAny_bind ?_
    refine wpAny_updateSeq hS' rfl (wpAny_pure ⟨plainId_quiet F.plain_extend_loop _, ih (i + 1) _ (acc.push v) _ (by omega) hlt (by rw [Array.toList_push]; exact hJ _ (Heap.SameBut.update ..) ⟨_, Heap.get?_update_self _ hS' rfl⟩) (by rw [Array.size_push, ha]) (Heap.get?_update_self _ hS' rfl) hR⟩)
      (by rw [ha]; omega) (by show (acc.push v).size ≤ sizeLine + 1; rw [Array.size_push, ha]; omega)
theorem collectJ {T : String} {Q : List Value → Shared → Prop} (hl : typeLookup (.type T) "__len__" = pure none) (hn0 : typeLookup (.type T) "__length_hint__" = pure none)
    (h2 : (Value.type T == Value.type "list") = false) (h3 : (Value.type T == Value.type "tuple") = false) (hI : I < s.heap.objs.size) (hn : n ≤ sizeLine)
    (hT : ∀ i s acc, J i s acc → s.TypeIs (.ref I) T)
    (self : ∀ (s : Shared) (Q : Value → Shared → Prop) (E : Value → Shared → Prop), J 0 s [] → Q (.ref I) s → wpAny (model prog w) A.in1 (pyIter (.ref I)) Q E s)
    (h0 : ∀ h', (∀ b o, s.heap.get? b = some o → h'.get? b = some o) → (∃ o, h'.get? s.heap.objs.size = some o) → J 0 { s with heap := h' } [])
    (item : ∀ i s' acc (Q : Option Value → Shared → Prop) (E : Value → Shared → Prop), i < n → J i s' acc → (∀ v s'', s''.heap.get? s.heap.objs.size = s'.heap.get? s.heap.objs.size → (∀ h', Heap.SameBut s.heap.objs.size s''.heap h' → (∃ o, h'.get? s.heap.objs.size = some o) → J (i + 1) { s'' with heap := h' } (acc ++ [v])) → Q (some v) s'') → wpAny (model prog w) A.in1 (pyNext (.ref I)) Q E s')
    (done : ∀ s' acc (Q : Option Value → Shared → Prop) (E : Value → Shared → Prop), J n s' acc → (∀ s'', s''.heap.get? s.heap.objs.size = s'.heap.get? s.heap.objs.size → J' s'' acc → Q none s'') → wpAny (model prog w) A.in1 (pyNext (.ref I)) Q E s')
    (hQ : ∀ s' acc, J' s' acc → Q acc s') : wpAny (model prog w) A (collect (.ref I)) Q E s := by
  have hSI : s.heap.objs.size ≠ I := Nat.ne_of_gt hI
  unfold collect
  refine wpAny_bind (wpAny_runValue (codeAny_builtin F.entry_proto_collect ?_))
  rw [Around.under_plainId F.plain_proto_collect _]
  show wpAny _ A.in1 (newList [] >>= fun l => again (.builtin "list.__iadd__" ⟨[l, .ref I], []⟩)) _ _ s
  refine wpAny_bind (wpAny_newObj_type ?_)
  refine wpAny_pure ⟨plainId_quiet F.plain_list_iadd _, codeAny_builtin F.entry_list_iadd ?_⟩
  rw [Around.under_plainId F.plain_list_iadd _]
  have hst1 := h0 (s.heap.push { cls := .type "list", data := .seq ([] : List Value).toArray }) (fun b o e => Heap.get?_push_of_some _ e) ⟨_, Heap.get?_push_size _ rfl⟩
  show wpAny _ A.in1 (Builtin.List.listExtendWith (.ref s.heap.objs.size) (.ref I) (.ref s.heap.objs.size)) _ _ _
  unfold Builtin.List.listExtendWith
  refine wpAny_bind (wpAny_typeOf (hT 0 _ _ hst1) ?_)
  have h1 : Builtin.List.listSameRef (.ref s.heap.objs.size) (.ref I) = false := by simp [Builtin.List.listSameRef, hSI]
  simp only [h1, h2, h3, Bool.or_false, Bool.false_eq_true, if_false]
  refine wpAny_bind (self _ _ _ hst1 ?_)
  refine wpAny_bind (wpAny_holding ?_)
  unfold Builtin.List.listLengthHint
  refine wpAny_bind (wpAny_specialOf (hT 0 _ _ hst1) hl ?_)
  show wpAny _ A.in1 (specialOf (Value.ref I) (Str.ofString "__length_hint__") >>= _) _ _ _
  refine wpAny_bind (wpAny_specialOf (hT 0 _ _ hst1) hn0 ?_)
  refine wpAny_pure ?_
  show wpAny _ A.in1 (rule "list.extend.makes-room" >>= fun _ => Builtin.List.listTouch (.ref s.heap.objs.size) >>= fun _ =>
    again (.builtin "list.extend.loop" ⟨[.ref s.heap.objs.size, .ref I, .ref s.heap.objs.size], []⟩)) _ _ _
  refine wpAny_bind (wpAny_rule ?_)
  have hS1 : (s.heap.push { cls := .type "list", data := .seq ([] : List Value).toArray }).get? s.heap.objs.size = some { cls := .type "list", data := .seq ([] : List Value).toArray } := Heap.get?_push_size _ rfl
  refine wpAny_bind ?_
  show wpAny _ A.in1 (updateSeq s.heap.objs.size (·.push .none) >>= fun _ => updateSeq s.heap.objs.size (·.pop)) _ _ _
  refine wpAny_bind (wpAny_updateSeq hS1 rfl ?_)
  have hS2 := Heap.get?_update_self (Obj.mapSeq (·.push Value.none)) hS1 rfl
  refine wpAny_updateSeq hS2 rfl ?_
  have hS3 := Heap.get?_update_self (Obj.mapSeq (·.pop)) hS2 rfl
  have oth : ∀ b o, b ≠ s.heap.objs.size → (s.heap.push { cls := .type "list", data := .seq ([] : List Value).toArray }).get? b = some o →
      (((s.heap.push { cls := .type "list", data := .seq ([] : List Value).toArray }).update s.heap.objs.size (Obj.mapSeq (·.push Value.none))).update s.heap.objs.size (Obj.mapSeq (·.pop))).get? b = some o :=
    fun b o hb e => (Heap.get?_update_other _ _ (Ne.symm hb)).trans ((Heap.get?_update_other _ _ (Ne.symm hb)).trans e)
  refine wpAny_pure ⟨plainId_quiet F.plain_extend_loop _, extend_loopJ hn item done n 0 _ _ _ rfl (Nat.zero_le _)
    (h0 _ (fun b o e => oth b o (Nat.ne_of_lt (Heap.lt_size e)) (Heap.get?_push_of_some _ e)) ⟨_, hS3⟩) rfl hS3 fun s' acc' c' hJ hS' => ?_⟩
  show wpAny _ A (load s.heap.objs.size >>= _) _ _ s'
  refine wpAny_bind (wpAny_load hS' ?_)
  exact wpAny_pure (hQ s' _ hJ)
end
end DL

set_option Elab.async false
set_option linter.all false
set_option maxRecDepth 100000
set_option maxHeartbeats 4000000
/-! DLG: tuple(zip(a, b)) of two tuples: the call, the rule. -/
namespace DL
open PySem PySem.Spec L2
open PyProof.Rows hiding St

section
variable {prog : Program} {w : World} {A : Around} {E : Value → Shared → Prop} {s : Shared} {it : Addr} {J' : Shared → List Value → Prop}
theorem code_tuple_newJ {Q₁ : Value → Shared → Prop} (hTI : s.TypeIs (.ref it) "zip")
    (hc : ∀ (Q : List Value → Shared → Prop), (∀ s' acc, J' s' acc → Q acc s') → wpAny (model prog w) A.in1 (collect (.ref it)) Q E s) (hz : ∀ s' acc, J' s' acc → acc.length ≤ sizeLine)
    (h : ∀ s' acc, J' s' acc → Q₁ (.ref s'.heap.objs.size) { s' with heap := s'.heap.push { cls := .type "tuple", data := .seq acc.toArray } }) :
    codeAny (model prog w) A (.call (.builtin "tuple.__new__") ⟨[.type "tuple", .ref it], []⟩) (wants Q₁ E) s := by
  refine codeAny_of_tree ?_
  show wpAny _ A.in1 (do checkBuiltinCall "tuple.__new__" ⟨[.type "tuple", .ref it], []⟩; again (.builtin "tuple.__new__" ⟨[.type "tuple", .ref it], []⟩)) _ _ s
  refine wpAny_bind (wpAny_of_eq (F.newCall_tuple_1 _) (wpAny_pure ⟨plainId_quiet F.plain_tuple_new _, codeAny_builtin F.entry_tuple_new ?_⟩))
  rw [Around.under_plainId F.plain_tuple_new _]
  have hsub := sub_tuple_self
  have hinit := init_tuple_lookup
  have hmh := madeHere_tuple
  have hc' : ∀ (Q : List Value → Shared → Prop), (∀ s' acc, J' s' acc → Q acc s') → wpAny (model prog w) A.in1 (collect (.ref it)) Q E s := hc
  wp_walk using wpAny_typeOf hTI, hc'
  intro s' acc hJ
  show wpAny _ _ (Builtin.Tuple.tupleExact acc.toArray >>= fun v => ret v) _ _ _
  unfold Builtin.Tuple.tupleExact
  refine wpAny_bind (wpAny_newObj_type ?_ (by show acc.toArray.size ≤ sizeLine; rw [List.size_toArray]; exact hz s' acc hJ))
  refine wpAny_pure ?_
  exact h s' acc hJ
theorem iter_zp {z : Addr} {Q : Value → Shared → Prop} (hT : s.TypeIs (.ref z) "zip") (h : Q (.ref z) s) : wpAny (model prog w) A (pyIter (.ref z)) Q E s := by
  refine wpAny_pyIter_slot hT F.slot_zip_iter (wpAny_call_entry F.slot_zip_iter hT F.entry_zip_iter ?_ (F.args_zip_iter_1 _))
  show wpAny _ _ (ret (.ref z)) _ _ s
  exact wpAny_pure ⟨_, rfl, "zip", _, hT, F.slot_zip_next.lookup, h⟩
theorem call_tuple_newJ {Q : Value → Shared → Prop} (hTI : s.TypeIs (.ref it) "zip")
    (hc : ∀ (Q : List Value → Shared → Prop), (∀ s' acc, J' s' acc → Q acc s') → wpAny (model prog w) A.in1.in1 (collect (.ref it)) Q E s) (hz : ∀ s' acc, J' s' acc → acc.length ≤ sizeLine)
    (h : ∀ s' acc, J' s' acc → Q (.ref s'.heap.objs.size) { s' with heap := s'.heap.push { cls := .type "tuple", data := .seq acc.toArray } }) :
    wpAny (model prog w) A (call (.type "tuple") [.ref it]) Q E s := by
  refine callType_codes (Q₁ := fun obj s₁ => s₁.TypeIs obj "tuple" ∧ Q obj s₁) F.called_tuple (F.typeCall_tuple_1 _) F.entry_object_init
    (code_tuple_newJ (A := A.in1) hTI hc hz fun s' acc hJ => ⟨⟨_, Heap.get?_push_size _ rfl, rfl⟩, h s' acc hJ⟩) fun obj s₁ h₁ => ?_
  exact ⟨h₁.1, F.args_object_init_2 obj _, object_init_meets F.called_tuple.init.lookup F.called_tuple.made (by decide) prog w A.in1 _ s₁ ⟨h₁.1, rfl, h₁.2⟩⟩
end

section
variable {X : Cx} {pins : List (Addr × Obj)} {σ : St} {H0 : Hp} {z TI TO i1 i2 S a b : Addr} {xs ys : List V}
theorem fp_upd {H : Hp} {T c : Addr} {o : HO} (h : FpOk X pins H c) (ne : c ≠ T) : FpOk X pins (upd H T o) c := by
  obtain ⟨h1, h2⟩ := h
  exact ⟨by rw [upd_ne ne]; exact h1, h2⟩
/-- what was given out so far: pairs, each a new tuple -/
def ZJp (X : Cx) (pins : List (Addr × Obj)) (σ : St) (H0 : Hp) (xs ys : List V) (i : Nat) (s : Shared) (acc : List Value) (H : Hp) (vs : List V) : Prop :=
  Inv X pins σ H s ∧ Ext H0 H ∧ Vals vs acc ∧ vs.length = i ∧ ∀ (j : Nat) (v : V), vs[j]? = some v → ∃ (T : Addr) (x y : V), v = .ref T ∧ H T = some (.tup [x, y]) ∧ xs[j]? = some x ∧ ys[j]? = some y
def ZJ (X : Cx) (pins : List (Addr × Obj)) (σ : St) (H0 : Hp) (xs ys : List V) (z TI TO i1 i2 S : Addr) (St1 St2 : Nat → Heap → Prop) (i : Nat) (s : Shared) (acc : List Value) : Prop :=
  ∃ H vs, ZJp X pins σ H0 xs ys i s acc H vs ∧ (∀ c ∈ [z, TI, TO, i1, i2, S], FpOk X pins H c ∧ c < s.heap.objs.size) ∧ ZS z TI TO i1 i2 S i St1 St2 s.heap ∧ ∃ o, s.heap.get? S = some o
theorem vals_got : ∀ {xs : List V} {us : List Value} {i : Nat} {u : Value}, Vals xs us → us[i]? = some u → ∃ x, xs[i]? = some x ∧ RelV x u
  | _, _, i, _, .nil, h => by simp at h
  | _ :: _, _, 0, _, .cons r t, h => ⟨_, rfl, by cases h; exact r⟩
  | _ :: _, _, i + 1, _, .cons r t, h => vals_got (i := i) t (by simpa using h)
theorem vals_snoc : ∀ {vs : List V} {us : List Value} {v : V} {u : Value}, Vals vs us → RelV v u → Vals (vs ++ [v]) (us ++ [u])
  | [], _, _, _, .nil, r => .cons r .nil
  | _ :: _, _, _, _, .cons r t, r' => .cons r (vals_snoc t r')
theorem zj_item {A : Around} {i : Nat} {s : Shared} {acc : List Value} {its its2 : List Value} {fp1 fp2 : List Addr} {St1 St2 : Nat → Heap → Prop} {Q : Option Value → Shared → Prop} {E : Value → Shared → Prop}
    (Z : ZipSep2 z TI TO i1 i2 fp1 fp2) (D1 : Draws X.prog X.w A.in1 i1 fp1 its.toArray.size (fun i v => its.toArray[i]? = some v) St1) (D2 : Draws X.prog X.w A.in1 i2 fp2 its2.toArray.size (fun i v => its2.toArray[i]? = some v) St2)
    (rx : Vals xs its) (ry : Vals ys its2) (ne1 : S ∉ fp1) (ne2 : S ∉ fp2) (nez : S ≠ z) (neTI : S ≠ TI) (neTO : S ≠ TO) (nei1 : S ≠ i1) (nei2 : S ≠ i2)
    (hi : i < min its.toArray.size its2.toArray.size) (hJ : ZJ X pins σ H0 xs ys z TI TO i1 i2 S St1 St2 i s acc)
    (hQ : ∀ v s', s'.heap.get? S = s.heap.get? S → (∀ h', Heap.SameBut S s'.heap h' → (∃ o, h'.get? S = some o) → ZJ X pins σ H0 xs ys z TI TO i1 i2 S St1 St2 (i + 1) { s' with heap := h' } (acc ++ [v])) → Q (some v) s') :
    wpAny (model X.prog X.w) A (pyNext (.ref z)) Q E s := by
  obtain ⟨H, vs, ⟨I, ex, rv, hl, hp⟩, hf, hz, oS, hS⟩ := hJ
  have hSl := Heap.lt_size hS
  refine ZS.item Z D1 D2 hz (by omega) (by omega) hSl fun x1 x2 h' tk p1 p2 zs' hT hk => ?_
  obtain ⟨x, hx, r1⟩ := vals_got (i := i) rx (by simpa using p1)
  obtain ⟨y, hy, r2⟩ := vals_got (i := i) ry (by simpa using p2)
  have hS' : h'.get? S = some oS := hk _ _ nez neTO nei1 nei2 hS
  have new : ObjOk X.prog X.w (upd H s.heap.objs.size (.tup [x, y])) h' s.heap.objs.size (.tup [x, y]) :=
    ⟨by show 2 ≤ sizeLine; decide, [x1, x2], .cons r1 (.cons r2 .nil), ⟨_, hT, rfl, _, rfl⟩⟩
  have I1 : Inv X pins σ (upd H s.heap.objs.size (.tup [x, y])) { s with heap := h', toks := tk } :=
    I.turnedNew (t' := tk) (ch := [z, TI, TO, i1, i2, S]) (fun c o hb q => hk c o (fun q' => hb (by simp [q'])) (fun q' => hb (by simp [q'])) (fun q' => hb (by simp [q'])) (fun q' => hb (by simp [q'])) q) (fun c hc => (hf c hc).1) (Nat.le_refl _) new
  have hn : H s.heap.objs.size = none := I.hok.fresh (Nat.le_refl _)
  refine hQ _ { s with heap := h', toks := tk } (hS'.trans hS.symm) fun h'' sb oS' => ?_
  have fS := hf S (by simp)
  obtain ⟨f0, f1, f2, f3, f4, f5⟩ := fp_upd (o := .tup [x, y]) fS.1 (Nat.ne_of_lt fS.2)
  have I2 : Inv X pins σ (upd H s.heap.objs.size (.tup [x, y])) { s with heap := h'', toks := tk } := I1.turned (t' := tk) (fun c o hb q => (sb.2 c hb).trans q) f0 f1 f3 f4 f5
  have hsz : s.heap.objs.size < h''.objs.size := by
    have e : h''.objs.size = h'.objs.size := sb.1
    rw [e]
    exact Heap.lt_size hT
  refine ⟨_, vs ++ [.ref s.heap.objs.size], ⟨I2, fun c o e => by rw [upd_ne (ne_of_none (ex c o e) hn)]; exact ex c o e, vals_snoc rv (show RelV (.ref s.heap.objs.size) (.ref s.heap.objs.size) from rfl), by rw [List.length_append, hl]; rfl, fun j v hj => ?_⟩, fun c hc => ⟨fp_upd (hf c hc).1 (Nat.ne_of_lt (hf c hc).2), Nat.lt_trans (hf c hc).2 hsz⟩, zs'.over D1 D2 (fun b o hb e => (sb.2 b hb).trans e) ne1 ne2 nez neTI neTO, oS'⟩
  rw [List.getElem?_append] at hj
  split at hj
  · obtain ⟨T, x', y', e1, e2, e3, e4⟩ := hp j v hj
    exact ⟨T, x', y', e1, by rw [upd_ne (ne_of_none e2 hn)]; exact e2, e3, e4⟩
  · have : j - vs.length = 0 := by
      rcases Nat.eq_zero_or_pos (j - vs.length) with q | q
      · exact q
      · rw [List.getElem?_eq_none (by simp only [List.length_singleton]; omega)] at hj; cases hj
    rw [this] at hj
    have ej : j = i := by omega
    cases hj
    subst ej
    exact ⟨_, x, y, rfl, upd_same, hx, hy⟩
theorem zj_done {A : Around} {s : Shared} {acc : List Value} {its its2 : List Value} {fp1 fp2 : List Addr} {St1 St2 : Nat → Heap → Prop} {Q : Option Value → Shared → Prop} {E : Value → Shared → Prop}
    (Z : ZipSep2 z TI TO i1 i2 fp1 fp2) (D1 : Draws X.prog X.w A.in1 i1 fp1 its.toArray.size (fun i v => its.toArray[i]? = some v) St1) (D2 : Draws X.prog X.w A.in1 i2 fp2 its2.toArray.size (fun i v => its2.toArray[i]? = some v) St2)
    (nez : S ≠ z) (neTO : S ≠ TO) (nei1 : S ≠ i1) (nei2 : S ≠ i2)
    (hJ : ZJ X pins σ H0 xs ys z TI TO i1 i2 S St1 St2 (min its.toArray.size its2.toArray.size) s acc)
    (hQ : ∀ s', s'.heap.get? S = s.heap.get? S → (∃ H vs, ZJp X pins σ H0 xs ys (min its.toArray.size its2.toArray.size) s' acc H vs) → Q none s') :
    wpAny (model X.prog X.w) A (pyNext (.ref z)) Q E s := by
  obtain ⟨H, vs, ⟨I, ex, rv, hl, hp⟩, hf, hz, oS, hS⟩ := hJ
  refine ZS.done Z D1 D2 hz fun h' tk hk => ?_
  refine hQ { s with heap := h', toks := tk } ((hk _ _ nez neTO nei1 nei2 hS).trans hS.symm) ⟨H, vs, ?_, ex, rv, hl, hp⟩
  exact I.turnedL (t' := tk) (ch := [z, TI, TO, i1, i2, S]) (fun c o hb q => hk c o (fun q' => hb (by simp [q'])) (fun q' => hb (by simp [q'])) (fun q' => hb (by simp [q'])) (fun q' => hb (by simp [q'])) q) fun c hc => (hf c hc).1
theorem at_tup {h h' : Heap} {t : Addr} {items : Array Value} (x : h.IsTuple t items) (k : ∀ o, h.get? t = some o → h'.get? t = some o) : h'.IsTuple t items := let ⟨o, ho, r⟩ := x; ⟨o, k _ ho, r⟩
/-- tuple(zip(a, b)), a and b tuples: a new tuple of new pairs -/
def tTupZip (K : PySem.W.Frag) (ta : TA) : TE := fun σ H Q => ta σ H fun us H1 => ∃ a b xs ys, us = [.ref a, .ref b] ∧ SqT K H1 a xs ∧ SqT K H1 b ys ∧
  ∀ H2 q vs, Ext H1 H2 → H2 q = some (.tup vs) → vs.length = min xs.length ys.length → (∀ (j : Nat) (v : V), vs[j]? = some v → ∃ (T : Addr) (x y : V), v = .ref T ∧ H2 T = some (.tup [x, y]) ∧ xs[j]? = some x ∧ ys[j]? = some y) → Q (.ref q) H2
theorem pe_tupZip {e e2 : Expr} {ta : TA} {p p2 pos pos2 : Pos} (hc : X.calm = true) (hg : Gl X "tuple") (hm : X.mg "tuple" = none) (hg2 : Gl X "zip") (hm2 : X.mg "zip" = none) (ha : PA X [e, e2] ta)
    (hs : starEach [e, e2] X.env = (false, eval e X.env) :: starEach [e2] X.env := by rfl) (hpl : (backTo pos2 (starEach [e2] X.env)).any (·.1) = false := by rfl)
    (hs2 : starEach [.Call (.Name "zip" p2) [e, e2] [] pos2] X.env = (false, eval (.Call (.Name "zip" p2) [e, e2] [] pos2) X.env) :: starEach [] X.env := by rfl) :
    PE X (.Call (.Name "tuple" p) [.Call (.Name "zip" p2) [e, e2] [] pos2] [] pos) (tTupZip X.K ta) := by
  refine ⟨fun pins s σ H Q I h => ?_⟩
  refine Call_ (ld_blt I hg hm boot_tuple (PyProof.Rows.callWith_type1 (args_cons (Call_ (ld_blt I hg2 hm2 PyProof.Rows.boot_zip (PyProof.Rows.callWith_type1 (thn (ha.run pos2 pins s σ H _ I h) fun us s1 ⟨vs, H1, I1, r1, q1⟩ => ?_) hs hpl))) hs2) hs2 rfl))
  obtain ⟨a, b, xs, ys, ex, hqx, hqy, q⟩ := q1
  subst ex
  cases r1 with
  | cons r rr =>
    cases rr with
    | cons r' rr =>
      cases rr
      cases r
      cases r'
      obtain ⟨its, rv, p1, hz1⟩ := I1.tuple hqx
      obtain ⟨its2, rv2, p2', hz2⟩ := I1.tuple hqy
      obtain ⟨o1, ho1, hc1, hd1⟩ := id p1
      obtain ⟨o2, ho2, hc2, hd2⟩ := id p2'
      have l1 : a < s1.heap.objs.size := Heap.lt_size ho1
      have l2 : b < s1.heap.objs.size := Heap.lt_size ho2
      have Z : ZipSep2 (s1.heap.objs.size + 4) (s1.heap.objs.size + 2) (s1.heap.objs.size + 3) s1.heap.objs.size (s1.heap.objs.size + 1) [s1.heap.objs.size, a] [s1.heap.objs.size + 1, b] :=
        zip_sep2 (fun c h => by rw [List.mem_singleton.mp h]; exact l1) (fun c h => by rw [List.mem_singleton.mp h]; exact l2)
      refine zip_begins2 (begins_tuple a its.toArray) (begins_tuple b its2.toArray) p1 p2' fun h' hz hTI hTO h1 h2 hsz hk => args_nil ?_
      have I2 : Inv X pins σ H1 { s1 with heap := h' } := I1.kept (t' := s1.toks) hk
      have hh : X.A.handled = none := I1.ok.hd hc
      have len1 := rv.length
      have len2 := rv2.length
      have hlim : min its.toArray.size its2.toArray.size ≤ sizeLine := by
        rw [List.size_toArray, List.size_toArray]
        omega
      have nS : h'.objs.size = s1.heap.objs.size + 5 := hsz
      have hle : ∀ k : Nat, k < 5 → s1.heap.objs.size + k < h'.objs.size := fun k hk => by
        rw [nS]
        exact Nat.add_lt_add_left hk _
      have D1 := fun (A : Around) (hh : A.handled = none) => Draws.tuple (prog := X.prog) (w := X.w) (A := A) hh s1.heap.objs.size a (Nat.ne_of_lt l1) its.toArray
      have D2 := fun (A : Around) (hh : A.handled = none) => Draws.tuple (prog := X.prog) (w := X.w) (A := A) hh (s1.heap.objs.size + 1) b (Nat.ne_of_lt (Nat.lt_succ_of_lt l2)) its2.toArray
      have ne0 : h'.objs.size ≠ s1.heap.objs.size := Nat.ne_of_gt (hle 0 (by omega))
      have ne1 : h'.objs.size ≠ s1.heap.objs.size + 1 := Nat.ne_of_gt (hle 1 (by omega))
      have ne2 : h'.objs.size ≠ s1.heap.objs.size + 2 := Nat.ne_of_gt (hle 2 (by omega))
      have ne3 : h'.objs.size ≠ s1.heap.objs.size + 3 := Nat.ne_of_gt (hle 3 (by omega))
      have ne4 : h'.objs.size ≠ s1.heap.objs.size + 4 := Nat.ne_of_gt (hle 4 (by omega))
      have nea : h'.objs.size ≠ a := Nat.ne_of_gt (Nat.lt_trans l1 (hle 0 (by omega)))
      have neb : h'.objs.size ≠ b := Nat.ne_of_gt (Nat.lt_trans l2 (hle 0 (by omega)))
      have hm1 : h'.objs.size ∉ [s1.heap.objs.size, a] := by simp only [List.mem_cons, List.not_mem_nil, or_false, not_or]; exact ⟨ne0, nea⟩
      have hm2 : h'.objs.size ∉ [s1.heap.objs.size + 1, b] := by simp only [List.mem_cons, List.not_mem_nil, or_false, not_or]; exact ⟨ne1, neb⟩
      refine call_tuple_newJ (s := { s1 with heap := h' }) (J' := fun s' acc => ∃ H vs, ZJp X pins σ H1 xs ys (min its.toArray.size its2.toArray.size) s' acc H vs) ⟨_, hz, rfl⟩ (fun Q hQ => ?_) (fun s' acc ⟨H, vs, hj⟩ => ?_) fun s' acc ⟨H, vs, I3, hex, hv, hl, hpr⟩ => ?_
      · refine collectJ (n := min its.toArray.size its2.toArray.size) (J := ZJ X pins σ H1 xs ys (s1.heap.objs.size + 4) (s1.heap.objs.size + 2) (s1.heap.objs.size + 3) s1.heap.objs.size (s1.heap.objs.size + 1) h'.objs.size (fun i h => h.IsTupleIter s1.heap.objs.size a i ∧ h.IsTuple a its.toArray) (fun i h => h.IsTupleIter (s1.heap.objs.size + 1) b i ∧ h.IsTuple b its2.toArray))
          nolen_zp nohint_zp (by decide) (by decide) (hle 4 (by omega)) hlim (fun i s acc hJ => ?_) (fun s Q E hJ hq => ?_) (fun h'' hk2 hS => ?_) (fun i s' acc Q E hi hJ hq => ?_) (fun s' acc Q E hJ hq => ?_) hQ
        · obtain ⟨H, vs, _, _, hz, _⟩ := hJ
          exact hz.typeIs
        · obtain ⟨H, vs, _, _, hz, _⟩ := hJ
          exact iter_zp hz.typeIs hq
        · have I3 : Inv X pins σ H1 { s1 with heap := h'' } := I2.kept (t' := s1.toks) hk2
          have hlt : ∀ c, c < h'.objs.size → c < h''.objs.size := fun c hc => by
            obtain ⟨o, e⟩ := hS
            exact Nat.lt_trans hc (Heap.lt_size e)
          have fr : ∀ c, s1.heap.objs.size ≤ c → c < h''.objs.size → FpOk X pins H1 c ∧ c < h''.objs.size := fun c hc hc2 => ⟨I1.fpOk hc (I1.hok.fresh hc), hc2⟩
          have lS : h'.objs.size < h''.objs.size := by
            obtain ⟨o, e⟩ := hS
            exact Heap.lt_size e
          refine ⟨H1, [], ⟨I3, .refl, .nil, rfl, fun j v hj => by simp at hj⟩, fun c hcm => ?_, ⟨hk2 _ _ hTI, ⟨⟨_, hk2 _ _ h1, rfl, rfl⟩, at_tup p1 fun o e => hk2 _ _ (hk _ _ e)⟩, ⟨⟨_, hk2 _ _ h2, rfl, rfl⟩, at_tup p2' fun o e => hk2 _ _ (hk _ _ e)⟩, .inl ⟨hk2 _ _ hz, _, _, hk2 _ _ hTO⟩⟩, hS⟩
          have e' : c = s1.heap.objs.size + 4 ∨ c = s1.heap.objs.size + 2 ∨ c = s1.heap.objs.size + 3 ∨ c = s1.heap.objs.size ∨ c = s1.heap.objs.size + 1 ∨ c = h'.objs.size := by simpa using hcm
          rcases e' with q | q | q | q | q | q
          · rw [q]; exact fr _ (Nat.le_add_right _ _) (hlt _ (hle 4 (by omega)))
          · rw [q]; exact fr _ (Nat.le_add_right _ _) (hlt _ (hle 2 (by omega)))
          · rw [q]; exact fr _ (Nat.le_add_right _ _) (hlt _ (hle 3 (by omega)))
          · rw [q]; exact fr _ (Nat.le_refl _) (hlt _ (hle 0 (by omega)))
          · rw [q]; exact fr _ (Nat.le_add_right _ _) (hlt _ (hle 1 (by omega)))
          · rw [q]; exact fr _ (by rw [nS]; exact Nat.le_add_right _ _) lS
        · exact zj_item Z (D1 _ hh) (D2 _ hh) rv rv2 hm1 hm2 ne4 ne2 ne3 ne0 ne1 hi hJ hq
        · exact zj_done Z (D1 _ hh) (D2 _ hh) ne4 ne3 ne0 ne1 hJ hq
      · obtain ⟨_, _, hv, hl, _⟩ := hj
        rw [← hv.length, hl]
        exact hlim
      · have hlim2 : vs.length ≤ sizeLine := by rw [hl]; exact hlim
        refine ⟨.ref s'.heap.objs.size, upd H s'.heap.objs.size (.tup vs), I3.laid (t' := s'.toks) (fun c o e => Heap.get?_push_of_some _ e) (Nat.le_refl _) (show ObjOk X.prog X.w _ _ _ (.tup vs) from ⟨hlim2, acc, hv, IsTup.new _ _⟩), rfl, ?_⟩
        have hn : H s'.heap.objs.size = none := I3.hok.fresh (Nat.le_refl _)
        refine q _ _ vs (fun c o e => by rw [upd_ne (ne_of_none (hex c o e) hn)]; exact hex c o e) upd_same ?_ fun j v hj => ?_
        · rw [hl, List.size_toArray, List.size_toArray, len1, len2]
        · obtain ⟨T, x, y, e1, e2, e3, e4⟩ := hpr j v hj
          exact ⟨T, x, y, e1, by rw [upd_ne (ne_of_none e2 hn)]; exact e2, e3, e4⟩
end
section
variable {F : Fx} {X : Cx} {fa fb : DE}
/-- tuple(zip(a, b)) of two tuples -/
def eTupZip (a b : DE) : DE := fun s => (a s).bind fun x s1 => (b s1).bind fun y s2 => match x, y with
  | .tuple xs, .tuple ys => .ok (.val (.tuple (zipD xs ys))) s2
  | _, _ => .stuck
theorem repDs_of {K : PySem.W.Frag} {H : Hp} {O : Addr → Prop} {δ : Option Addr} : ∀ {vs : List V} {ds : List D}, vs.length = ds.length → (∀ (j : Nat) (v : V) (d : D), vs[j]? = some v → ds[j]? = some d → RepD K H O δ v d) → RepDs K H O δ vs ds
  | [], [], _, _ => .nil
  | [], _ :: _, h, _ => by simp at h
  | _ :: _, [], h, _ => by simp at h
  | v :: vs, d :: ds, h, k => .cons (k 0 v d rfl rfl) (repDs_of (by simpa using h) fun j v' d' h1 h2 => k (j + 1) v' d' (by simpa using h1) (by simpa using h2))
theorem e_tupZip {a b : Expr} {p p2 pos pos2 : Pos} (hK : F.m.K = X.K) (hc : X.calm = true) (hg : Gl X "tuple") (hm : X.mg "tuple" = none) (hg2 : Gl X "zip") (hm2 : X.mg "zip" = none) (ha : EO F X a fa) (hb : EO F X b fb)
    (hs : starEach [a, b] X.env = (false, eval a X.env) :: starEach [b] X.env := by rfl) (hs1 : starEach [b] X.env = (false, eval b X.env) :: starEach [] X.env := by rfl) (hpl : (backTo pos2 (starEach [b] X.env)).any (·.1) = false := by rfl)
    (hs2 : starEach [.Call (.Name "zip" p2) [a, b] [] pos2] X.env = (false, eval (.Call (.Name "zip" p2) [a, b] [] pos2) X.env) :: starEach [] X.env := by rfl) :
    EO F X (.Call (.Name "tuple" p) [.Call (.Name "zip" p2) [a, b] [] pos2] [] pos) (eTupZip fa fb) := by
  obtain ⟨ta, pa, sa⟩ := ha
  obtain ⟨tb, pb, sb⟩ := hb
  refine ⟨_, pe_tupZip hc hg hm hg2 hm2 (pa_cons pa (pa_cons pb pa_nil hs1) hs) hs hpl hs2, fun σ H O s Q I k => ?_⟩
  refine sa.bind I k fun x s1 v H1 O1 st I1 r k1 => ?_
  clear k
  refine sb.bind I1 (k1.trans st fun _ => True) fun y s2 w H2 O2 st2 I2 r2 k => ?_
  clear k1
  have r1 := r.step st2.stp I1.wd
  split at k
  · obtain ⟨a1, us, rfl, h1, rs1⟩ := r1.tup_inv
    obtain ⟨a2, ws, rfl, h2, rs2⟩ := r2.tup_inv
    refine ⟨a1, a2, us, ws, rfl, hK ▸ h1, hK ▸ h2, fun H3 q vs e hq hl hv => ?_⟩
    have st3 : StF F.δ H2 O2 H3 O2 := e.stF
    refine k (.ref q) H3 O2 (st2.trans st3.toE) (I2.ext e) (.tup (.of hq) (repDs_of ?_ fun j v d hj hd => ?_))
    · rw [hl, rs1.length, rs2.length]
      unfold zipD
      rw [List.length_zipWith]
    · obtain ⟨T, x, y, rfl, hT, hx, hy⟩ := hv j v hj
      obtain ⟨dx, dy, q1, q2, rfl⟩ := zipD_get hd
      obtain ⟨x', g1, s1⟩ := rs1.get q1
      obtain ⟨y', g2, s2⟩ := rs2.get q2
      rw [hx] at g1
      rw [hy] at g2
      cases g1
      cases g2
      exact .tup (.of hT) ((RepDs.cons s1 (.cons s2 .nil)).step st3.stp I2.wd)
  · exact k.elim
end
end DL

set_option Elab.async false
set_option linter.all false
set_option maxRecDepth 100000
set_option maxHeartbeats 4000000
/-! DLH: zip of a list and a tuple; a def that promises nothing (recursion's end). -/
namespace DL
open PySem PySem.Spec L2
open PyProof.Rows hiding St

def ItzLT (K : PySem.W.Frag) (a b : Addr) : It :=
  ⟨fun i H => ∃ (xs ys : List V) (x y : V), SqL K H a xs ∧ SqT K H b ys ∧ xs[i]? = some x ∧ ys[i]? = some y,
    fun i H v H' => ∃ T x y, v = .ref T ∧ H T = none ∧ H' = upd H T (.tup [x, y]) ∧ (∀ xs, SqL K H a xs → xs[i]? = some x) ∧ ∀ ys, SqT K H b ys → ys[i]? = some y,
    fun i H => ∃ xs ys : List V, SqL K H a xs ∧ SqT K H b ys ∧ i = min xs.length ys.length⟩
theorem turn_zipLT {P : Program} {w : World} {K : PySem.W.Frag} {elts : List Expr} {kk : Nat} {tpos : Pos} {a b z TI TO i1 i2 : Addr} (D : ZipSep2 z TI TO i1 i2 [i1, a] [i2, b]) :
    Turn P w K (.Tuple elts kk tpos) (ItzLT K a b) [z, TI, TO, i1, i2] z (fun i h => IsZip h z TI TO .none ∧ IsTupOf2 h TI (.ref i1) (.ref i2) ∧ (∃ x y, IsTupOf2 h TO x y) ∧ h.IsListIter i1 a i ∧ h.IsTupleIter i2 b i) where
  mem := by simp
  obj := fun i h st c hc => by
    obtain ⟨hz, hTI, ⟨x, y, hTO⟩, ⟨o1, e1, _, d1⟩, ⟨o2, e2, _, d2⟩⟩ := st
    have e' : c = z ∨ c = TI ∨ c = TO ∨ c = i1 ∨ c = i2 := by simpa using hc
    rcases e' with q | q | q | q | q
    · rw [q]; exact ⟨_, hz, fun v q => nomatch q⟩
    · rw [q]; exact ⟨_, hTI, fun v q => nomatch q⟩
    · rw [q]; exact ⟨_, hTO, fun v q => nomatch q⟩
    · rw [q]; exact ⟨o1, e1, fun v q => by rw [d1] at q; cases q⟩
    · rw [q]; exact ⟨o2, e2, fun v q => by rw [d2] at q; cases q⟩
  keep := fun i h h' st k => by
    obtain ⟨hz, hTI, ⟨x, y, hTO⟩, h1, h2⟩ := st
    exact ⟨k z (by simp) _ hz, k TI (by simp) _ hTI, ⟨x, y, k TO (by simp) _ hTO⟩, h1.at fun o q => k i1 (by simp) o q, h2.at fun o q => k i2 (by simp) o q⟩
  item := by
    intro X hP hw hK hc i pins s σ H E I hf st hg
    subst hP hw hK
    obtain ⟨hz, hTI, ⟨x0, y0, hTO⟩, h1, h2⟩ := st
    obtain ⟨xs, ys, x, y, hqx, hqy, hx, hy⟩ := hg
    obtain ⟨its, rv, p, _⟩ := I.list hqx
    obtain ⟨its2, rv2, p2, _⟩ := I.tuple hqy
    obtain ⟨v1, hv1, ru1⟩ := rv.get hx
    obtain ⟨v2, hv2, ru2⟩ := rv2.get hy
    have hzl : z < s.heap.objs.size := Heap.lt_size hz
    have ha : a ≠ i1 := fun e => by
      subst e
      obtain ⟨o, ho, hc1, _⟩ := h1
      obtain ⟨o', ho', hc2, _⟩ := p.isList
      rw [ho] at ho'
      cases ho'
      rw [hc1] at hc2
      simp at hc2
    have hb : b ≠ i2 := fun e => by
      subst e
      obtain ⟨o, ho, hc1, _⟩ := h2
      obtain ⟨o', ho', hc2, _⟩ := p2
      rw [ho] at ho'
      cases ho'
      rw [hc1] at hc2
      simp at hc2
    have hh : X.A.in1.handled = none := I.ok.hd hc
    refine wpAny_pyNext_zipD2_item D (Draws.list hh i1 a ha its.toArray) (Draws.tuple hh i2 b hb its2.toArray) hz hTI hTO (i := i) ⟨h1, p.isList⟩ ⟨h2, p2⟩
      (by rw [List.size_toArray]; exact (List.getElem?_eq_some_iff.mp hv1).1) (by rw [List.size_toArray]; exact (List.getElem?_eq_some_iff.mp hv2).1)
      fun w1 w2 h' tk q1 q2 z' TO' s1' s2' hT hsz hk => ?_
    obtain rfl : w1 = v1 := by simpa [hv1] using q1.symm
    obtain rfl : w2 = v2 := by simpa [hv2] using q2.symm
    refine ⟨_, rfl, wpAny_letOwnedTupleGo_zip (s := { s with heap := h', toks := tk }) z' fun h'' z'' sb => ?_⟩
    have hT2 : h''.get? s.heap.objs.size = some { cls := .type "tuple", data := .seq #[w1, w2] } := (sb.2 _ (Nat.ne_of_gt hzl)).trans hT
    have new : ObjOk X.prog X.w (upd H s.heap.objs.size (.tup [x, y])) h'' s.heap.objs.size (.tup [x, y]) :=
      ⟨by show 2 ≤ sizeLine; decide, [w1, w2], .cons ru1 (.cons ru2 .nil), ⟨_, hT2, rfl, _, rfl⟩⟩
    have I1 : Inv X pins σ (upd H s.heap.objs.size (.tup [x, y])) { s with heap := h'', toks := tk } :=
      I.turnedNew (t' := tk) (ch := [z, TI, TO, i1, i2]) (fun c o hb q => (sb.2 c (fun q' => hb (by simp [q']))).trans (hk c o (fun q' => hb (by simp [q'])) (fun q' => hb (by simp [q'])) (fun q' => hb (by simp [q'])) (fun q' => hb (by simp [q'])) q)) hf (Nat.le_refl _) new
    refine ⟨.ref s.heap.objs.size, _, I1, rfl, ⟨_, x, y, rfl, I.hok.fresh (Nat.le_refl _), rfl, fun l hl => by rw [I.list_inj hl hqx]; exact hx, fun l hl => by rw [I.tuple_inj hl hqy]; exact hy⟩, ⟨z'', ?_, ⟨w1, w2, ?_⟩, ?_, ?_⟩, fun c hcm => ?_⟩
    · exact (sb.2 _ D.TIz).trans (hk _ _ D.TIz D.TITO D.TIi1 D.TIi2 hTI)
    · exact (sb.2 _ D.TOz).trans TO'
    · exact s1'.1.at fun o q => (sb.2 _ D.zi1.symm).trans q
    · exact s2'.1.at fun o q => (sb.2 _ D.zi2.symm).trans q
    · have hlt : c < s.heap.objs.size := by
        have e' : c = z ∨ c = TI ∨ c = TO ∨ c = i1 ∨ c = i2 := by simpa using hcm
        rcases e' with q | q | q | q | q
        · rw [q]; exact hzl
        · rw [q]; exact Heap.lt_size hTI
        · rw [q]; exact Heap.lt_size hTO
        · rw [q]; obtain ⟨_, e1, _⟩ := h1; exact Heap.lt_size e1
        · rw [q]; obtain ⟨_, e2, _⟩ := h2; exact Heap.lt_size e2
      rw [upd_ne (Nat.ne_of_lt hlt)]
      exact (hf c hcm).1
  done := by
    intro X hP hw hK hc i pins s σ H E I hf st hg
    subst hP hw hK
    obtain ⟨hz, hTI, ⟨x0, y0, hTO⟩, h1, h2⟩ := st
    obtain ⟨xs, ys, hqx, hqy, hend⟩ := hg
    obtain ⟨its, rv, p, _⟩ := I.list hqx
    obtain ⟨its2, rv2, p2, _⟩ := I.tuple hqy
    have l1 := rv.length
    have l2 := rv2.length
    have ha : a ≠ i1 := fun e => by
      subst e
      obtain ⟨o, ho, hc1, _⟩ := h1
      obtain ⟨o', ho', hc2, _⟩ := p.isList
      rw [ho] at ho'
      cases ho'
      rw [hc1] at hc2
      simp at hc2
    have hb : b ≠ i2 := fun e => by
      subst e
      obtain ⟨o, ho, hc1, _⟩ := h2
      obtain ⟨o', ho', hc2, _⟩ := p2
      rw [ho] at ho'
      cases ho'
      rw [hc1] at hc2
      simp at hc2
    have hh : X.A.in1.handled = none := I.ok.hd hc
    have hi : i = min its.toArray.size its2.toArray.size := by
      rw [List.size_toArray, List.size_toArray, ← l1, ← l2]
      exact hend
    subst hi
    refine wpAny_pyNext_zipD2_end D (Draws.list (prog := X.prog) (w := X.w) hh i1 a ha its.toArray) (Draws.tuple (prog := X.prog) (w := X.w) hh i2 b hb its2.toArray) hz hTI hTO ⟨h1, p.isList⟩ ⟨h2, p2⟩ (Nat.min_le_left ..) (Nat.min_le_right ..) (by omega) fun h' tk hk => ?_
    exact ⟨rfl, I.turnedL (t' := tk) (ch := [z, TI, TO, i1, i2]) (fun c o hb q => hk c o (fun q' => hb (by simp [q'])) (fun q' => hb (by simp [q'])) (fun q' => hb (by simp [q'])) (fun q' => hb (by simp [q'])) q) hf⟩
  self := fun A i s Q E st h => wpAny_pyIter_zip st.1 h
def iZipLTA (K : PySem.W.Frag) (ta : TA) : TI := fun σ H R => ta σ H fun vs H1 => ∃ a b xs ys, vs = [.ref a, .ref b] ∧ SqL K H1 a xs ∧ SqT K H1 b ys ∧ R (ItzLT K a b) H1
theorem pi_zipLT {X : Cx} {e e2 : Expr} {ta : TA} {p pos tpos : Pos} {elts : List Expr} {kk : Nat} (hg : Gl X "zip") (hm : X.mg "zip" = none) (ha : PA X [e, e2] ta)
    (hs : starEach [e, e2] X.env = (false, eval e X.env) :: starEach [e2] X.env := by rfl) (hpl : (backTo pos (starEach [e2] X.env)).any (·.1) = false := by rfl) :
    PI X (.Tuple elts kk tpos) (.Call (.Name "zip" p) [e, e2] [] pos) (iZipLTA X.K ta) := by
  refine ⟨fun pins s σ H R I h => ?_⟩
  refine Call_ (ld_blt I hg hm PyProof.Rows.boot_zip (PyProof.Rows.callWith_type1 (thn (ha.run pos pins s σ H _ I h) fun us s1 ⟨vs, H1, I1, r1, q1⟩ => ?_) hs hpl))
  obtain ⟨a, b, xs, ys, ex, hqx, hqy, q⟩ := q1
  subst ex
  cases r1 with
  | cons r rr =>
    cases rr with
    | cons r' rr =>
      cases rr
      cases r
      cases r'
      obtain ⟨its, rv, p1, _⟩ := I1.list hqx
      obtain ⟨its2, rv2, p2, _⟩ := I1.tuple hqy
      obtain ⟨o2, ho2, hc2, hd2⟩ := id p2
      have l1 : a < s1.heap.objs.size := p1.lt
      have l2 : b < s1.heap.objs.size := Heap.lt_size ho2
      have fresh5 : ∀ c, c ∈ [s1.heap.objs.size + 4, s1.heap.objs.size + 2, s1.heap.objs.size + 3, s1.heap.objs.size, s1.heap.objs.size + 1] → FpOk X pins H1 c := fun c hcm => by
        have e' : c = s1.heap.objs.size + 4 ∨ c = s1.heap.objs.size + 2 ∨ c = s1.heap.objs.size + 3 ∨ c = s1.heap.objs.size ∨ c = s1.heap.objs.size + 1 := by simpa using hcm
        have hle : s1.heap.objs.size ≤ c := by
          rcases e' with z | z | z | z | z
          · rw [z]; exact Nat.le_add_right _ _
          · rw [z]; exact Nat.le_add_right _ _
          · rw [z]; exact Nat.le_add_right _ _
          · rw [z]; exact Nat.le_refl _
          · rw [z]; exact Nat.le_add_right _ _
        exact I1.fpOk hle (I1.hok.fresh hle)
      have D : ZipSep2 (s1.heap.objs.size + 4) (s1.heap.objs.size + 2) (s1.heap.objs.size + 3) s1.heap.objs.size (s1.heap.objs.size + 1) [s1.heap.objs.size, a] [s1.heap.objs.size + 1, b] :=
        zip_sep2 (fun c h => by rw [List.mem_singleton.mp h]; exact l1) (fun c h => by rw [List.mem_singleton.mp h]; exact l2)
      refine zip_begins2 (begins_list a its.toArray) (begins_tuple b its2.toArray) p1.isList p2 fun h' hz hTI hTO h1 h2 hsz hk => wpAny_pyIter_zip hz ?_
      have I2 : Inv X pins σ H1 { s1 with heap := h' } := I1.kept (t' := s1.toks) hk
      exact ⟨s1.heap.objs.size + 4, [s1.heap.objs.size + 4, s1.heap.objs.size + 2, s1.heap.objs.size + 3, s1.heap.objs.size, s1.heap.objs.size + 1], _, _, H1, rfl, I2, turn_zipLT D, ⟨hz, hTI, ⟨_, _, hTO⟩, ⟨_, h1, rfl, rfl⟩, ⟨_, h2, rfl, rfl⟩⟩, fresh5, q⟩
section
variable {F : Fx} {X : Cx} {fa fb : DE}
theorem walk_zipLT {a b : Addr} {xs ys : List D} : WalkS F (ItzLT F.m.K a b) (zipD xs ys) (fun H O => (∃ us, H a = some (.lst us) ∧ ¬ O a ∧ RepDs F.m.K H O F.δ us xs) ∧ ∃ ws, SqT F.m.K H b ws ∧ RepDs F.m.K H O F.δ ws ys) where
  go := fun i H O c h w ⟨⟨us, h1, _, r1⟩, ws, h2, r2⟩ => by
    have hl : i < xs.length ∧ i < ys.length := by unfold zipD at h; simp at h; omega
    obtain ⟨x, g1, _⟩ := r1.get (i := i) (List.getElem?_eq_getElem hl.1)
    obtain ⟨y, g2, _⟩ := r2.get (i := i) (List.getElem?_eq_getElem hl.2)
    exact ⟨us, ws, x, y, .of h1, h2, g1, g2⟩
  stop := fun H O c w ⟨⟨us, h1, _, r1⟩, ws, h2, r2⟩ => ⟨us, ws, .of h1, h2, by
    rw [r1.length, r2.length]
    unfold zipD
    rw [List.length_zipWith]⟩
  yld := fun i H O c x H' d w ⟨⟨us, h1, _, r1⟩, ws, h2, r2⟩ ⟨T, x1, y1, e1, e2, e3, e4, e5⟩ hd => by
    subst e1 e3
    exact zip_yld w r1 r2 e2 (e4 us (.of h1)) (e5 ws h2) hd
  keep := fun H O c H' O' w ⟨⟨us, h1, n1, r1⟩, ws, h2, r2⟩ st => ⟨⟨us, st.keep _ _ n1 nt_lst h1, st.nO (by rw [h1]; simp) n1, r1.stS st w⟩, ws, st.sqT w h2, r2.stS st w⟩
/-- zip(a, b): a list, a tuple -/
def iZipLT (a b : DE) : DA := fun s => (a s).ra fun x s1 => (b s1).ra fun y s2 => match x, y with
  | .list xs, .tuple ys => .ok (zipD xs ys) s2
  | _, _ => .stuck
theorem i_zipLT {a b : Expr} {p pos : Pos} {elts : List Expr} {kk : Nat} {tpos : Pos} (hK : F.m.K = X.K) (hg : Gl X "zip") (hm : X.mg "zip" = none) (ha : EO F X a fa) (hb : EO F X b fb)
    (hs : starEach [a, b] X.env = (false, eval a X.env) :: starEach [b] X.env := by rfl) (hs2 : starEach [b] X.env = (false, eval b X.env) :: starEach [] X.env := by rfl) (hpl : (backTo pos (starEach [b] X.env)).any (·.1) = false := by rfl) :
    IO F X (.Tuple elts kk tpos) (.Call (.Name "zip" p) [a, b] [] pos) (iZipLT fa fb) := by
  obtain ⟨ta, pa, sa⟩ := ha
  obtain ⟨tb, pb, sb⟩ := hb
  refine ⟨_, pi_zipLT hg hm (pa_cons pa (pa_cons pb pa_nil hs2) hs) hs hpl, fun σ H O s R I k => ?_⟩
  refine sa.ra I k fun x s1 v H1 O1 st I1 r k1 => ?_
  clear k
  refine sb.ra I1 k1 fun y s2 w H2 O2 st2 I2 r2 k => ?_
  clear k1
  have r1 := r.step st2.stp I1.wd
  split at k
  · obtain ⟨a1, us, rfl, h1, n1, rs1⟩ := r1.list_inv
    obtain ⟨a2, ws, rfl, h2, rs2⟩ := r2.tup_inv
    exact ⟨a1, a2, us, ws, rfl, .of h1, hK ▸ h2, hK ▸ k _ _ H2 O2 .refl I2 walk_zipLT ⟨⟨us, h1, n1, rs1⟩, ws, h2, rs2⟩⟩
  · exact k.elim
end
/-- a promise of nothing -/
def stuckF : Fn := fun _ _ => .stuck
theorem okStuck {P : Program} {w : World} {K : PySem.W.Frag} {mg : Str → Option Value} {base : Heap} {CX : CXT} {k n : Nat} {f : Addr} {fd : FuncData} {ps : List Str} {m : Pm} (hp : ps.length = n) : FnOk P w K mg base CX k f fd ps (spD m n stuckF) :=
  ⟨fun vs H Q E h => (spD_len h).trans hp.symm, fun A outer s H args us vs Q E _ _ _ _ h => by
    obtain ⟨δ, O, c, ds, _, _, _, k⟩ := h
    exact k.elim⟩
end DL

set_option Elab.async false
set_option linter.all false
set_option maxRecDepth 100000
set_option maxHeartbeats 40000000
/-! K06a: what the defs of rainkept_k06_whole_smallest compute, printed by gen.py. -/
namespace K06
open PySem PySem.Spec L2 DL
open PyProof.Rows hiding St
def F_parted_0 : Fn := stuckF
def d_is_integer : DS := dRet (eAnd (eIsi .int (eVar 0)) (eNot (eIsi .bool (eVar 0))))
def F_is_integer : Fn := fnD 1 d_is_integer
def d_need_integer : DS := dIf (eOr (eNot (eCall F_is_integer (aCons (eVar 0) aNil))) (eOr (eLt (eVar 0) (eVar 2)) (eGt (eVar 0) (eVar 3)))) (dRaise 0 (aCons (eVar 1) aNil)) dNil
def F_need_integer : Fn := fnD 4 d_need_integer
def d_is_row_e2 : DE := eAnd (eCall F_is_integer (aCons (eVar 1) aNil)) (eLeLe (eC (.int 0)) (eVar 1) (eC (.int 200)))
def d_is_row : DS := dSeq (dIf (eOr (eNot (eIsi .tuple (eVar 0))) (eNot (eLeLe (eC (.int 1)) (eLenN 0) (eC (.int 24))))) (dRet (eC (.bool false))) dNil) (dRet (eAll [1] (iSeq (eVar 0)) (gSet 1) d_is_row_e2))
def F_is_row : Fn := fnD 2 d_is_row
def d_need_row : DS := dIf (eNot (eCall F_is_row (aCons (eVar 0) aNil))) (dRaise 0 (aCons (eVar 1) aNil)) dNil
def F_need_row : Fn := fnD 2 d_need_row
def d_common_c1 : DE := eGt (eVar 1) (eC (.int 0))
def d_common_b2 : DS := dPar 0 1 (eVar 1) (eMod (eVar 0) (eVar 1))
def d_common : DS := dSeq (dWhile d_common_c1 d_common_b2 1000000000000000) (dRetV 0)
def F_common : Fn := fnD 2 d_common
def d_least_common : DS := dRet (eMul (eDiv (eVar 0) (eCall F_common (aCons (eVar 0) (aCons (eVar 1) aNil)))) (eVar 1))
def F_least_common : Fn := fnD 2 d_least_common
def d_amount_at : DS := dRet (eIxN 0 (eMod (eVar 1) (eLenN 0)))
def F_amount_at : Fn := fnD 2 d_amount_at
def d_after : DS := dSeq (dSet 4 (eB minB (aCons (eVar 0) (aCons (eAdd (eVar 1) (eVar 2)) aNil)))) (dSeq (dSet 5 (eB minB (aCons (eVar 4) (aCons (eVar 3) aNil)))) (dRet (eTup (aCons (eSub (eVar 4) (eVar 5)) (aCons (eSub (eAdd (eVar 1) (eVar 2)) (eVar 4)) (aCons (eSub (eVar 3) (eVar 5)) aNil))))))
def F_after : Fn := fnD 6 d_after
def d_is_stage_e2 : DE := eCall F_is_integer (aCons (eVar 1) aNil)
def d_is_stage : DS := dSeq (dIf (eOr (eNot (eIsi .tuple (eVar 0))) (eOr (eNe (eLenN 0) (eC (.int 3))) (eNot (eAll [1] (iSeq (eVar 0)) (gSet 1) d_is_stage_e2)))) (dRet (eC (.bool false))) dNil) (dRet (eAnd (eLeLe (eC (.int 1)) (eIxN 0 (eC (.int 0))) (eC (.int 300))) (eAnd (eLeLe (eC (.int 0)) (eIxN 0 (eC (.int 1))) (eIxN 0 (eC (.int 0)))) (eLeLe (eC (.int 0)) (eIxN 0 (eC (.int 2))) (eC (.int 5))))))
def F_is_stage : Fn := fnD 2 d_is_stage
def d_is_chain_e2 : DE := eCall F_is_stage (aCons (eVar 1) aNil)
def d_is_chain : DS := dRet (eAnd (eIsi .tuple (eVar 0)) (eAnd (eLeLe (eC (.int 1)) (eLenN 0) (eC (.int 4))) (eAll [1] (iSeq (eVar 0)) (gSet 1) d_is_chain_e2)))
def F_is_chain : Fn := fnD 2 d_is_chain
def d_are_needs_e2 : DE := eAnd (eCall F_is_row (aCons (eVar 2) aNil)) (eLe (eLenN 2) (eC (.int 12)))
def d_are_needs : DS := dSeq (dIf (eOr (eNot (eIsi .tuple (eVar 0))) (eNe (eLenN 0) (eVar 1))) (dRet (eC (.bool false))) dNil) (dRet (eAll [2] (iSeq (eVar 0)) (gSet 2) d_are_needs_e2))
def F_are_needs : Fn := fnD 3 d_are_needs
def d_need_chain : DS := dSeq (dIf (eNot (eCall F_is_chain (aCons (eVar 0) aNil))) (dRaise 0 (aCons (eC (.str "chain")) aNil)) dNil) (dSeq (dExpr (eCall F_need_row (aCons (eVar 1) (aCons (eC (.str "rains")) aNil)))) (dSeq (dIf (eGt (eLenN 1) (eC (.int 12))) (dRaise 0 (aCons (eC (.str "rains")) aNil)) dNil) (dIf (eNot (eCall F_are_needs (aCons (eVar 2) (aCons (eLenN 0) aNil)))) (dRaise 0 (aCons (eC (.str "needs")) aNil)) dNil)))
def F_need_chain : Fn := fnD 3 d_need_chain
def d_step_of_b1 : DS := dSeq (dAsg (gTupD (gsCons (gSet 8) (gsCons (gSet 9) (gsCons (gSet 10) gsNil)))) (eIxN 0 (eVar 7))) (dSeq (dSet 11 (eCall F_after (aCons (eVar 8) (aCons (eIxN 1 (eVar 7)) (aCons (eAdd (eMul (eVar 10) (eVar 2)) (eVar 6)) (aCons (eCall F_amount_at (aCons (eIxN 3 (eVar 7)) (aCons (eVar 4) aNil))) aNil)))))) (dSeq (dApp 5 (eVar 11)) (dSet 6 (eIxN 11 (eC (.int 1))))))
def d_step_of : DS := dSeq (dSet 5 (eLst aNil)) (dSeq (dSet 6 (eC (.int 0))) (dSeq (dFor (iRng1 (eLenN 0)) (gSet 7) d_step_of_b1) (dRet (eB tupB (aCons (eVar 5) aNil)))))
def F_step_of : Fn := fnD 12 d_step_of
def d_chain_turn_b1 : DS := dSet 2 (eCall F_least_common (aCons (eVar 2) (aCons (eLenN 3) aNil)))
def d_chain_turn : DS := dSeq (dSet 2 (eLenN 0)) (dSeq (dFor (iSeq (eVar 1)) (gSet 3) d_chain_turn_b1) (dRetV 2))
def F_chain_turn : Fn := fnD 4 d_chain_turn
def d_chain_settled_e2 : DE := eIxN 10 (eC (.int 1))
def d_chain_settled_e4 : DE := eIxN 11 (eC (.int 0))
def d_chain_settled_b5 : DS := dSeq (dSet 9 (eCall F_step_of (aCons (eVar 0) (aCons (eVar 4) (aCons (eCall F_amount_at (aCons (eVar 1) (aCons (eVar 8) aNil))) (aCons (eVar 2) (aCons (eVar 8) aNil))))))) (dSeq (dApp 5 (eVar 9)) (dSet 4 (eComp [11] (iSeq (eVar 9)) (gSet 11) tTrue d_chain_settled_e4)))
def d_chain_settled_c6 : DE := eNot (eVar 6)
def d_chain_settled_b7 : DS := dSeq (dSet 7 (eVar 4)) (dSeq (dFor (iRng1 (eVar 3)) (gSet 8) d_chain_settled_b5) (dSet 6 (eEq (eVar 4) (eVar 7))))
def d_chain_settled : DS := dSeq (dSet 3 (eCall F_chain_turn (aCons (eVar 1) (aCons (eVar 2) aNil)))) (dSeq (dSet 4 (eComp [10] (iSeq (eVar 0)) (gSet 10) tTrue d_chain_settled_e2)) (dSeq (dSet 5 (eLst aNil)) (dSeq (dSet 6 (eC (.bool false))) (dSeq (dWhile d_chain_settled_c6 d_chain_settled_b7 1000000000000000) (dRet (eTup (aCons (eVar 5) (aCons (eVar 3) aNil))))))))
def F_chain_settled : Fn := fnD 12 d_chain_settled
def d_is_kept_e3 : DE := eIxN 6 (eC (.int 2))
def d_is_kept_e4 : DE := eEq (eB sumB (aCons (eComp [6] (iSeq (eVar 5)) (gSet 6) tTrue d_is_kept_e3) aNil)) (eC (.int 0))
def d_is_kept : DS := dSeq (dAsg (gTupD (gsCons (gSet 3) (gsCons (gSet 4) gsNil))) (eCall F_chain_settled (aCons (eVar 0) (aCons (eVar 1) (aCons (eVar 2) aNil))))) (dRet (eB allB (aCons (eComp [5] (iSeq (eVar 3)) (gSet 5) tTrue d_is_kept_e4) aNil)))
def F_is_kept : Fn := fnD 7 d_is_kept
def d_full_chain_e2 : DE := eTup (aCons (eVar 2) (aCons (eVar 2) (aCons (eVar 3) aNil)))
def d_full_chain : DS := dRet (eB tupB (aCons (eComp [2, 3] (iZipLT (eVar 0) (eVar 1)) (gTupD (gsCons (gSet 2) (gsCons (gSet 3) gsNil))) tTrue d_full_chain_e2) aNil))
def F_full_chain : Fn := fnD 4 d_full_chain
def d__law_dice_b1 : DS := dSet 3 (eMod (eB intB (aCons (eAdd (eMul (eVar 3) (eC (.int 48271))) (eMod (eB intB (aCons (eVar 4) aNil)) (eC (.int 2147480009)))) aNil)) (eC (.int 2147480009)))
def d__law_dice : DS := dSeq (dSet 2 (eIf (eLt (eVar 1) (eLenN 0)) (eIxN 0 (eVar 1)) (eAdd (eMul (eC (.int 733)) (eVar 1)) (eC (.int 29))))) (dSeq (dSet 3 (eAdd (eC (.int 930011)) (eMul (eC (.int 7907)) (eVar 1)))) (dSeq (dFor (iSeq (eAdd (eSl (eVar 0) none (some (eC (.int 6)))) (eLst (aCons (eVar 2) aNil)))) (gSet 4) d__law_dice_b1) (dRet (eLst (aCons (eIf (eOr (eLt (eVar 2) (eC (.int 0))) (eGe (eVar 2) (ePow (eC (.int 10)) (eC (.int 16))))) (eB absB (aCons (eVar 2) aNil)) (eC (.int 0))) (aCons (eVar 3) (aCons (eC (.int 0)) aNil)))))))
def F__law_dice : Fn := fnD 5 d__law_dice
def d__law_roll : DS := dSeq (dIf (eGt (eIxN 0 (eC (.int 0))) (eC (.int 0))) (dSeq (dSet 2 (eMod (eB intB (aCons (eIxN 0 (eC (.int 0))) aNil)) (eVar 1))) (dSeq (dStore 0 (eC (.int 0)) (eDiv (eIxN 0 (eC (.int 0))) (eVar 1))) (dRetV 2))) dNil) (dSeq (dStore 0 (eC (.int 2)) (eAdd (eIxN 0 (eC (.int 2))) (eC (.int 1)))) (dSeq (dStore 0 (eC (.int 1)) (eMod (eB intB (aCons (eAdd (eAdd (eMul (eIxN 0 (eC (.int 1))) (eC (.int 52501))) (eMul (eMul (eIxN 0 (eC (.int 2))) (eIxN 0 (eC (.int 2)))) (eC (.int 1009)))) (eC (.int 77))) aNil)) (eC (.int 2147480009)))) (dRet (eMod (eB intB (aCons (eDiv (eIxN 0 (eC (.int 1))) (eC (.int 211))) aNil)) (eVar 1)))))
def F__law_roll : Fn := fnD 3 d__law_roll
def d__law_pick : DS := dRet (eIxN 1 (eCall F__law_roll (aCons (eVar 0) (aCons (eLenN 1) aNil))))
def F__law_pick : Fn := fnD 2 d__law_pick
def d__law_gcd_b1 : DS := dSeq (dIf (eEq (eVar 1) (eC (.int 0))) dBreak dNil) (dPar 0 1 (eVar 1) (eMod (eVar 0) (eVar 1)))
def d__law_gcd : DS := dSeq (dPar 0 1 (eB absB (aCons (eVar 0) aNil)) (eB absB (aCons (eVar 1) aNil))) (dSeq (dFor (iRng1 (eC (.int 400))) (gSet 2) d__law_gcd_b1) (dRetV 0))
def F__law_gcd : Fn := fnD 3 d__law_gcd
def d__law_row_e2 : DE := eCall F__law_pick (aCons (eVar 0) (aCons (eLst (aCons (eC (.int 0)) (aCons (eCall F__law_roll (aCons (eVar 0) (aCons (eAdd (eVar 2) (eC (.int 1))) aNil))) aNil))) aNil))
def d__law_row : DS := dRet (eB tupB (aCons (eComp [3] (iRng1 (eAdd (eC (.int 1)) (eCall F__law_roll (aCons (eVar 0) (aCons (eVar 1) aNil))))) (gSet 3) tTrue d__law_row_e2) aNil))
def F__law_row : Fn := fnD 4 d__law_row
def d__law_step : DS := dSeq (dPar3 4 5 6 (eAdd (eVar 1) (eVar 2)) (eC (.int 0)) (eC (.int 0))) (dSeq (dIf (eGt (eVar 4) (eVar 0)) (dPar 4 5 (eVar 0) (eSub (eVar 4) (eVar 0))) dNil) (dSeq (dSet 4 (eSub (eVar 4) (eVar 3))) (dSeq (dIf (eLt (eVar 4) (eC (.int 0))) (dPar 4 6 (eC (.int 0)) (eSub (eC (.int 0)) (eVar 4))) dNil) (dRet (eTup (aCons (eVar 4) (aCons (eVar 5) (aCons (eVar 6) aNil))))))))
def F__law_step : Fn := fnD 7 d__law_step
def d__law_turn : DS := dRet (eMul (eDiv (eVar 0) (eCall F__law_gcd (aCons (eVar 0) (aCons (eVar 1) aNil)))) (eVar 1))
def F__law_turn : Fn := fnD 2 d__law_turn
def d__law_flow_b1 : DS := dSeq (dApp 5 (eCall F__law_step (aCons (eIxN 7 (eC (.int 0))) (aCons (eVar 8) (aCons (eAdd (eMul (eIxN 7 (eC (.int 2))) (eVar 2)) (eVar 6)) (aCons (eIxN 9 (eMod (eVar 4) (eLenN 9))) aNil)))))) (dSet 6 (eIx (eIxN 5 (eNeg (eC (.int 1)))) (eC (.int 1))))
def d__law_flow : DS := dSeq (dPar 5 6 (eLst aNil) (eC (.int 0))) (dSeq (dFor (iZip3 (eVar 0) (eVar 1) (eVar 3)) (gTupD (gsCons (gSet 7) (gsCons (gSet 8) (gsCons (gSet 9) gsNil)))) d__law_flow_b1) (dRet (eB tupB (aCons (eVar 5) aNil))))
def F__law_flow : Fn := fnD 10 d__law_flow
def d__law_stream_e2 : DE := eIxN 10 (eC (.int 1))
def d__law_stream_b3 : DS := dSet 3 (eCall F__law_turn (aCons (eVar 3) (aCons (eLenN 6) aNil)))
def d__law_stream_e5 : DE := eIxN 11 (eC (.int 0))
def d__law_stream_b6 : DS := dSeq (dApp 4 (eCall F__law_flow (aCons (eVar 0) (aCons (eVar 5) (aCons (eIxN 1 (eMod (eVar 9) (eLenN 1))) (aCons (eVar 2) (aCons (eVar 9) aNil))))))) (dSet 5 (eComp [11] (iSeq (eIxN 4 (eNeg (eC (.int 1))))) (gSet 11) tTrue d__law_stream_e5))
def d__law_stream_b7 : DS := dSeq (dSet 8 (eVar 5)) (dSeq (dFor (iRng1 (eVar 3)) (gSet 9) d__law_stream_b6) (dIf (eEq (eVar 5) (eVar 8)) dBreak dNil))
def d__law_stream : DS := dSeq (dPar3 3 4 5 (eLenN 1) (eLst aNil) (eComp [10] (iSeq (eVar 0)) (gSet 10) tTrue d__law_stream_e2)) (dSeq (dFor (iSeq (eVar 2)) (gSet 6) d__law_stream_b3) (dSeq (dFor (iRng1 (eC (.int 2000))) (gSet 7) d__law_stream_b7) (dRet (eTup (aCons (eVar 4) (aCons (eVar 3) aNil))))))
def F__law_stream : Fn := fnD 12 d__law_stream
def d__law_keeps_e2 : DE := eTup (aCons (eVar 8) (aCons (eVar 8) (aCons (eVar 9) aNil)))
def d__law_keeps_e4 : DE := eIxN 10 (eC (.int 2))
def d__law_keeps_b5 : DS := dIf (eGt (eB maxB (aCons (eComp [10] (iSeq (eVar 7)) (gSet 10) tTrue d__law_keeps_e4) aNil)) (eC (.int 0))) (dRet (eC (.bool false))) dNil
def d__law_keeps : DS := dSeq (dSet 4 (eB tupB (aCons (eComp [8, 9] (iZip2 (eVar 0) (eVar 1)) (gTupD (gsCons (gSet 8) (gsCons (gSet 9) gsNil))) tTrue d__law_keeps_e2) aNil))) (dSeq (dAsg (gTupD (gsCons (gSet 5) (gsCons (gSet 6) gsNil))) (eCall F__law_stream (aCons (eVar 4) (aCons (eVar 2) (aCons (eVar 3) aNil))))) (dSeq (dFor (iSeq (eVar 5)) (gSet 7) d__law_keeps_b5) (dRet (eC (.bool true)))))
def F__law_keeps : Fn := fnD 11 d__law_keeps
def d__law_all_e2 : DE := eAdd (eVar 5) (eTup (aCons (eVar 8) aNil))
def d__law_all_b3 : DS := dSet 4 (eAdd (eVar 4) (eComp [8] (iRng2 (eC (.int 1)) (eAdd (eVar 1) (eC (.int 1)))) (gSet 8) tTrue d__law_all_e2))
def d__law_all_b4 : DS := dSeq (dSet 4 (eLst aNil)) (dSeq (dFor (iSeq (eVar 2)) (gSet 5) d__law_all_b3) (dSet 2 (eVar 4)))
def d__law_all_t6 : DE := eEq (eB sumB (aCons (eVar 5) aNil)) (eVar 7)
def d__law_all_b7 : DS := dSet 6 (eAdd (eVar 6) (eComp [5] (iSeq (eVar 2)) (gSet 5) d__law_all_t6 (eVar 5)))
def d__law_all : DS := dSeq (dSet 2 (eLst (aCons (eTup aNil) aNil))) (dSeq (dFor (iRng1 (eVar 0)) (gSet 3) d__law_all_b4) (dSeq (dSet 6 (eLst aNil)) (dSeq (dFor (iRng1 (eAdd (eVar 1) (eC (.int 1)))) (gSet 7) d__law_all_b7) (dRetV 6))))
def F__law_all : Fn := fnD 9 d__law_all
def d_parted_1_e2 : DE := eAdd (eLst (aCons (eVar 3) aNil)) (eVar 4)
def d_parted_1_b3 : DS := dExt 2 (eComp [4] (iSeq (eCall F_parted_0 (aCons (eSub (eVar 0) (eVar 3)) (aCons (eSub (eVar 1) (eC (.int 1))) aNil)))) (gSet 4) tTrue d_parted_1_e2)
def d_parted_1 : DS := dSeq (dIf (eEq (eVar 1) (eC (.int 1))) (dRet (eIf (eGt (eVar 0) (eC (.int 0))) (eLst (aCons (eLst (aCons (eVar 0) aNil)) aNil)) (eLst aNil))) dNil) (dSeq (dSet 2 (eLst aNil)) (dSeq (dFor (iRng2 (eC (.int 1)) (eAdd (eSub (eVar 0) (eVar 1)) (eC (.int 2)))) (gSet 3) d_parted_1_b3) (dRetV 2)))
def F_parted_1 : Fn := fnD 5 d_parted_1
def d_parted_2_e2 : DE := eAdd (eLst (aCons (eVar 3) aNil)) (eVar 4)
def d_parted_2_b3 : DS := dExt 2 (eComp [4] (iSeq (eCall F_parted_1 (aCons (eSub (eVar 0) (eVar 3)) (aCons (eSub (eVar 1) (eC (.int 1))) aNil)))) (gSet 4) tTrue d_parted_2_e2)
def d_parted_2 : DS := dSeq (dIf (eEq (eVar 1) (eC (.int 1))) (dRet (eIf (eGt (eVar 0) (eC (.int 0))) (eLst (aCons (eLst (aCons (eVar 0) aNil)) aNil)) (eLst aNil))) dNil) (dSeq (dSet 2 (eLst aNil)) (dSeq (dFor (iRng2 (eC (.int 1)) (eAdd (eSub (eVar 0) (eVar 1)) (eC (.int 2)))) (gSet 3) d_parted_2_b3) (dRetV 2)))
def F_parted_2 : Fn := fnD 5 d_parted_2
def d_parted_3_e2 : DE := eAdd (eLst (aCons (eVar 3) aNil)) (eVar 4)
def d_parted_3_b3 : DS := dExt 2 (eComp [4] (iSeq (eCall F_parted_2 (aCons (eSub (eVar 0) (eVar 3)) (aCons (eSub (eVar 1) (eC (.int 1))) aNil)))) (gSet 4) tTrue d_parted_3_e2)
def d_parted_3 : DS := dSeq (dIf (eEq (eVar 1) (eC (.int 1))) (dRet (eIf (eGt (eVar 0) (eC (.int 0))) (eLst (aCons (eLst (aCons (eVar 0) aNil)) aNil)) (eLst aNil))) dNil) (dSeq (dSet 2 (eLst aNil)) (dSeq (dFor (iRng2 (eC (.int 1)) (eAdd (eSub (eVar 0) (eVar 1)) (eC (.int 2)))) (gSet 3) d_parted_3_b3) (dRetV 2)))
def F_parted_3 : Fn := fnD 5 d_parted_3
def d_parted_4_e2 : DE := eAdd (eLst (aCons (eVar 3) aNil)) (eVar 4)
def d_parted_4_b3 : DS := dExt 2 (eComp [4] (iSeq (eCall F_parted_3 (aCons (eSub (eVar 0) (eVar 3)) (aCons (eSub (eVar 1) (eC (.int 1))) aNil)))) (gSet 4) tTrue d_parted_4_e2)
def d_parted_4 : DS := dSeq (dIf (eEq (eVar 1) (eC (.int 1))) (dRet (eIf (eGt (eVar 0) (eC (.int 0))) (eLst (aCons (eLst (aCons (eVar 0) aNil)) aNil)) (eLst aNil))) dNil) (dSeq (dSet 2 (eLst aNil)) (dSeq (dFor (iRng2 (eC (.int 1)) (eAdd (eSub (eVar 0) (eVar 1)) (eC (.int 2)))) (gSet 3) d_parted_4_b3) (dRetV 2)))
def F_parted_4 : Fn := fnD 5 d_parted_4
def d_smallest_chain_e2 : DE := eAnd (eCall F_is_integer (aCons (eVar 6) aNil)) (eLeLe (eC (.int 0)) (eVar 6) (eC (.int 5)))
def d_smallest_chain_b3 : DS := dIf (eCall F_is_kept (aCons (eCall F_full_chain (aCons (eVar 5) (aCons (eVar 0) aNil))) (aCons (eVar 1) (aCons (eVar 2) aNil)))) (dRet (eB tupB (aCons (eVar 5) aNil))) dNil
def d_smallest_chain_b4 : DS := dFor (iSeq (eCall F_parted_4 (aCons (eVar 4) (aCons (eLenN 0) aNil)))) (gSet 5) d_smallest_chain_b3
def d_smallest_chain : DS := dSeq (dIf (eOr (eNot (eIsi .tuple (eVar 0))) (eNot (eLeLe (eC (.int 1)) (eLenN 0) (eC (.int 3))))) (dRaise 0 (aCons (eC (.str "shares")) aNil)) dNil) (dSeq (dIf (eNot (eAll [6] (iSeq (eVar 0)) (gSet 6) d_smallest_chain_e2)) (dRaise 0 (aCons (eC (.str "shares")) aNil)) dNil) (dSeq (dExpr (eCall F_need_chain (aCons (eCall F_full_chain (aCons (eMul (eLst (aCons (eC (.int 1)) aNil)) (eLenN 0)) (aCons (eVar 0) aNil))) (aCons (eVar 1) (aCons (eVar 2) aNil))))) (dSeq (dExpr (eCall F_need_integer (aCons (eVar 3) (aCons (eC (.str "most")) (aCons (eC (.int 0)) (aCons (eC (.int 30)) aNil)))))) (dSeq (dFor (iRng2 (eLenN 0) (eAdd (eVar 3) (eC (.int 1)))) (gSet 4) d_smallest_chain_b4) (dRet (eC .none))))))
def F_smallest_chain : Fn := fnD 7 d_smallest_chain
def d__law_right_e2 : DE := eCall F__law_roll (aCons (eVar 0) (aCons (eC (.int 3)) aNil))
def d__law_right_e4 : DE := eCall F__law_row (aCons (eVar 0) (aCons (eC (.int 2)) (aCons (eC (.int 2)) aNil)))
def d__law_right_t6 : DE := eCall F__law_keeps (aCons (eVar 9) (aCons (eVar 7) (aCons (eVar 6) (aCons (eVar 5) aNil))))
def d__law_right : DS := dSeq (dSet 1 (eAdd (eC (.int 1)) (eCall F__law_roll (aCons (eVar 0) (aCons (eC (.int 3)) aNil))))) (dSeq (dSet 7 (eB tupB (aCons (eComp [8] (iRng1 (eVar 1)) (gSet 8) tTrue d__law_right_e2) aNil))) (dSeq (dSet 6 (eAdd (eCall F__law_row (aCons (eVar 0) (aCons (eC (.int 3)) (aCons (eC (.int 4)) aNil)))) (eTup (aCons (eCall F__law_roll (aCons (eVar 0) (aCons (eC (.int 8)) aNil))) aNil)))) (dSeq (dSet 5 (eB tupB (aCons (eComp [8] (iRng1 (eVar 1)) (gSet 8) tTrue d__law_right_e4) aNil))) (dSeq (dSet 2 (eCall F__law_pick (aCons (eVar 0) (aCons (eLst (aCons (eC (.int 0)) (aCons (eC (.int 3)) (aCons (eC (.int 6)) (aCons (eC (.int 8)) (aCons (eIf (eLt (eVar 1) (eC (.int 3))) (eC (.int 9)) (eC (.int 7))) aNil)))))) aNil)))) (dSeq (dSet 3 (eComp [9] (iSeq (eCall F__law_all (aCons (eVar 1) (aCons (eVar 2) aNil)))) (gSet 9) d__law_right_t6 (eVar 9))) (dSeq (dIf (eNe (eCallK F_smallest_chain (aCons (eVar 7) (aCons (eVar 6) (aCons (eVar 5) aNil))) (aCons (eVar 2) aNil)) (eIx (eAdd (eVar 3) (eLst (aCons (eC .none) aNil))) (eC (.int 0)))) (dRet (eC (.bool false))) dNil) (dSeq (dSet 4 (eLst (aCons (eRef 0 (eCall F_smallest_chain (aCons (eTup aNil) (aCons (eC .none) (aCons (eC .none) (aCons (eC .none) aNil)))))) (aCons (eRef 0 (eCall F_smallest_chain (aCons (eTup (aCons (eC (.int 6)) aNil)) (aCons (eC .none) (aCons (eC .none) (aCons (eC .none) aNil)))))) (aCons (eRef 0 (eCall F_smallest_chain (aCons (eMul (eTup (aCons (eC (.int 1)) aNil)) (eC (.int 4))) (aCons (eC .none) (aCons (eC .none) (aCons (eC .none) aNil)))))) (aCons (eRef 0 (eCall F_smallest_chain (aCons (eVar 7) (aCons (eC .none) (aCons (eC .none) (aCons (eC .none) aNil)))))) (aCons (eRef 0 (eCall F_smallest_chain (aCons (eVar 7) (aCons (eVar 6) (aCons (eTup aNil) (aCons (eC .none) aNil)))))) (aCons (eRef 0 (eCall F_smallest_chain (aCons (eVar 7) (aCons (eVar 6) (aCons (eVar 5) (aCons (eC (.int 31)) aNil)))))) aNil)))))))) (dRet (eEq (eVar 4) (eLst (aCons (eC (.str "shares")) (aCons (eC (.str "shares")) (aCons (eC (.str "shares")) (aCons (eC (.str "rains")) (aCons (eC (.str "needs")) (aCons (eC (.str "most")) aNil))))))))))))))))
def F__law_right : Fn := fnD 10 d__law_right
def d_law_b1 : DS := dIf (eNot (eCell F__law_right (eCall F__law_dice (aCons (eVar 0) (aCons (eVar 1) aNil))))) (dRet (eC (.bool false))) dNil
def d_law : DS := dSeq (dFor (iRng1 (eB maxB (aCons (eC (.int 1)) (aCons (eB minB (aCons (eC (.int 3)) (aCons (eLenN 0) aNil))) aNil)))) (gSet 1) d_law_b1) (dRet (eC (.bool true)))
def F_law : Fn := fnD 2 d_law
end K06

set_option Elab.async false
set_option linter.all false
set_option maxRecDepth 100000
set_option maxHeartbeats 4000000
namespace K06
open PySem PySem.Spec L2 DL
open PyProof.Rows hiding St

/-- the dice's list; k more throws are within bounds -/
def Dice (k : Nat) (c : List Int) : Prop := ∃ a b n : Int, c = [a, b, n] ∧ 0 ≤ n ∧ n + k ≤ 1099511627776
theorem Dice.mono {j k : Nat} {c : List Int} (h : Dice k c) (q : j ≤ k) : Dice j c := by
  obtain ⟨a, b, n, e, h0, h1⟩ := h
  exact ⟨a, b, n, e, h0, by omega⟩
theorem atI3 {a b n : Int} : atI [a, b, n] 0 = some a ∧ atI [a, b, n] 1 = some b ∧ atI [a, b, n] 2 = some n := ⟨rfl, rfl, rfl⟩
theorem roll {k : Nat} {c : List Int} {m : Int} (h : Dice (k + 1) c) (h1 : 1 ≤ m) (h2 : m < 1073741824) :
    ∃ (r : Int) (c' : List Int), F__law_roll [dcell, .int m] c = .ok (.val (.int r)) c' ∧ 0 ≤ r ∧ r < m ∧ Dice k c' := by
  obtain ⟨a, b, n, rfl, hn, hk⟩ := h
  have e : startS 3 [dcell, .int m] [a, b, n] = ⟨[.val dcell, .val (.int m), .un], [a, b, n]⟩ := rfl
  rw [F__law_roll, fnD_eq, e]
  unfold d__law_roll
  have hm : 0 < m := by omega
  have l64 : ∀ z : Int, (lim64 z || lim64 52501) = true := fun z => by simp [lim64]
  have l64' : ∀ z : Int, (lim64 z || lim64 1009) = true := fun z => by simp [lim64]
  have ln : (lim64 (n + 1) || lim64 (n + 1)) = true := by simp [lim64]; omega
  by_cases ha : 0 < a
  · refine ⟨a % m, [a / m, b, n], ?_, Int.emod_nonneg _ (by omega), Int.emod_lt_of_pos _ hm, a / m, b, n, rfl, hn, by omega⟩
    simp [eIxN_val, eVar_val, atI3, ha, modD_ii hm, divD_ii hm h2, dRetV_val, storeK_cell, ixN]
  · refine ⟨_, _, ?_, Int.emod_nonneg ((b * 52501 + (n + 1) * (n + 1) * 1009 + 77) % 2147480009 / 211) (by omega), Int.emod_lt_of_pos _ hm, a, (b * 52501 + (n + 1) * (n + 1) * 1009 + 77) % 2147480009, n + 1, rfl, by omega, by omega⟩
    simp [eIxN_val, eVar_val, atI3, ha, modD_ii, modD_ii hm, divD_ii, divD_ii hm h2, storeK_cell, ixN, mulD_ii (i := n + 1) (j := n + 1) ln, mulD_ii (l64 _), mulD_ii (l64' _)]
theorem atI_mem {α : Type} {l : List α} {i : Int} (h0 : 0 ≤ i) (h1 : i < l.length) : ∃ x ∈ l, atI l i = some x := by
  have hl : i.toNat < l.length := by omega
  exact ⟨l[i.toNat], List.getElem_mem hl, by rw [atI_ok h0 h1, List.getElem?_eq_getElem hl]⟩
theorem pick {k : Nat} {c : List Int} {ds : List D} (h : Dice (k + 1) c) (h1 : 1 ≤ ds.length) (h2 : ds.length < 1073741824) :
    ∃ (d : D) (c' : List Int), d ∈ ds ∧ F__law_pick [dcell, .list ds] c = .ok (.val d) c' ∧ Dice k c' := by
  obtain ⟨r, c', e, r0, r1, hd⟩ := roll (m := ds.length) h (by omega) (by omega)
  obtain ⟨x, hx, ex⟩ := atI_mem (l := ds) r0 r1
  refine ⟨x, c', hx, ?_, hd⟩
  have es : startS 2 [dcell, .list ds] c = ⟨[.val dcell, .val (.list ds)], c⟩ := rfl
  rw [F__law_pick, fnD_eq, es]
  unfold d__law_pick
  simp [eIxN_val, eVar_val, eLenN_val, callR, e, ex]
/-- the draws of a row of numbers 0..most -/
theorem row_comp {k : Nat} {size most : Int} (hm : 0 ≤ most) (hm2 : most < 1000000) : ∀ (n : Nat) (lo : Int) (c : List Int) (acc : List D) , Dice (2 * n + k) c →
    ∃ (ys : List Int) (c' : List Int), compL (gSet 3) tTrue d__law_row_e2 [3] (rangeD lo n) acc ⟨[.val dcell, .val (.int size), .val (.int most), .un], c⟩ = .ok (acc ++ ys.map .int) ⟨[.val dcell, .val (.int size), .val (.int most), .un], c'⟩ ∧
      ys.length = n ∧ (∀ y ∈ ys, 0 ≤ y ∧ y ≤ most) ∧ Dice k c'
  | 0, lo, c, acc, h => ⟨[], c, by simp [rangeD, compL], rfl, by simp, by simpa using h⟩
  | n + 1, lo, c, acc, h => by
    obtain ⟨r, c1, e1, r0, r1, h1⟩ := roll (k := 2 * n + k + 1) (m := most + 1) (h.mono (by omega)) (by omega) (by omega)
    obtain ⟨x, c2, hx, e2, h2⟩ := pick (k := 2 * n + k) (ds := [.int 0, .int r]) h1 (by simp) (by simp)
    have hxi : ∃ z : Int, x = .int z ∧ 0 ≤ z ∧ z ≤ most := by
      rcases List.mem_cons.mp hx with rfl | hx
      · exact ⟨0, rfl, by omega, hm⟩
      · rw [List.mem_singleton.mp hx]
        exact ⟨r, rfl, r0, by omega⟩
    obtain ⟨z, rfl, z0, z1⟩ := hxi
    obtain ⟨ys, c3, e3, l3, b3, h3⟩ := row_comp (size := size) hm hm2 n (lo + 1) c2 (acc ++ [.int z]) h2
    refine ⟨z :: ys, c3, ?_, by simp [l3], fun y hy => ?_, h3⟩
    · rw [rangeD_succ]
      unfold compL
      have ee : d__law_row_e2 ⟨[.val dcell, .val (.int size), .val (.int most), .val (.int lo)], c⟩ = .ok (.val (.int z)) ⟨[.val dcell, .val (.int size), .val (.int most), .val (.int lo)], c2⟩ := by
        unfold d__law_row_e2
        simp [eVar_val, callR, e1, e2]
      simp only [wipeE, gSet, tTrue, List.set_cons_zero, List.set_cons_succ, ee, Sl.d_val, mg]
      simp only [List.getElem?_cons_zero, List.getElem?_cons_succ, Option.getD_some, List.set_cons_zero, List.set_cons_succ, e3, List.map_cons, List.append_assoc, List.singleton_append]
    · rcases List.mem_cons.mp hy with rfl | hy
      · exact ⟨z0, z1⟩
      · exact b3 y hy
/-- a row of 1..size numbers 0..most -/
theorem law_row {k : Nat} {c : List Int} {size : Nat} {most : Int} (h : Dice (2 * size + 1 + k) c) (hs : 1 ≤ size) (hs2 : size ≤ 1000) (hm : 0 ≤ most) (hm2 : most < 1000000) :
    ∃ (ys : List Int) (c' : List Int), F__law_row [dcell, .int size, .int most] c = .ok (.val (.tuple (ys.map .int))) c' ∧ 1 ≤ ys.length ∧ ys.length ≤ size ∧ (∀ y ∈ ys, 0 ≤ y ∧ y ≤ most) ∧ Dice k c' := by
  obtain ⟨r, c1, e1, r0, r1, h1⟩ := roll (k := 2 * size + k) (m := size) (h.mono (by omega)) (by omega) (by omega)
  obtain ⟨ys, c2, e2, l2, b2, h2⟩ := row_comp (size := size) (k := k) hm hm2 (1 + r).toNat 0 c1 [] (h1.mono (by omega))
  refine ⟨ys, c2, ?_, by omega, by omega, b2, h2⟩
  have es : startS 4 [dcell, .int size, .int most] c = ⟨[.val dcell, .val (.int size), .val (.int most), .un], c⟩ := rfl
  have hl : (ys.map PyData.int).length ≤ sizeLine := by rw [List.length_map, sizeLine_eq]; omega
  have hl2 : (rangeD 0 (1 + r).toNat).length < sizeLine := by rw [rangeD_len, sizeLine_eq]; omega
  rw [F__law_row, fnD_eq, es]
  unfold d__law_row
  simp [eVar_val, callR, e1, rng1K_int (j := 1 + r) (by omega) (by omega), compK_ok hl2 e2, tupB_list hl]
def isI : D → Bool
  | .int _ => true
  | _ => false
abbrev bad (x : Str) : Er := ⟨0, [("name", .str x)]⟩
theorem is_integer_eq {d : D} {c : List Int} (p : plainD d = true) : F_is_integer [d] c = .ok (.val (.bool (isI d))) c := by
  cases d <;> first | rfl | cases p
theorem is_integer_int {v : Int} {c : List Int} : F_is_integer [.int v] c = .ok (.val (.bool true)) c := rfl
theorem need_integer_eq {v lo hi : Int} {x : Str} {c : List Int} (hx : x.length ≤ 1000000) : F_need_integer [.int v, .str x, .int lo, .int hi] c = if v < lo ∨ hi < v then .er (bad x) c else .ok (.val .none) c := by
  have es : startS 4 [.int v, .str x, .int lo, .int hi] c = ⟨[.val (.int v), .val (.str x), .val (.int lo), .val (.int hi)], c⟩ := rfl
  rw [F_need_integer, fnD_eq, es]
  unfold d_need_integer
  by_cases h1 : v < lo
  · simp [eVar_val, callR, is_integer_int, dRaise_eq, hx, h1]
  · by_cases h2 : hi < v
    · simp [eVar_val, callR, is_integer_int, dRaise_eq, hx, h1, h2]
    · simp [eVar_val, callR, is_integer_int, dRaise_eq, hx, h1, h2]
/-- a row -/
def RowOk (ns : List Int) : Prop := 1 ≤ ns.length ∧ ns.length ≤ 24 ∧ ∀ y ∈ ns, 0 ≤ y ∧ y ≤ 200
abbrev rowD (ns : List Int) : D := .tuple (ns.map .int)
theorem is_row_all {d : D} {x : Sl} {c : List Int} : ∀ ns : List Int, (∀ y ∈ ns, 0 ≤ y ∧ y ≤ 200) → allL (gSet 1) d_is_row_e2 [1] (ns.map .int) ⟨[.val d, x], c⟩ = .ok (.val (.bool true)) ⟨[.val d, x], c⟩
  | [], _ => rfl
  | n :: ns, h => by
    have hn := h n (by simp)
    have ih := is_row_all (d := d) (x := x) (c := c) ns fun y hy => h y (List.mem_cons_of_mem _ hy)
    have e : d_is_row_e2 ⟨[.val d, .val (.int n)], c⟩ = .ok (.val (.bool true)) ⟨[.val d, .val (.int n)], c⟩ := by
      unfold d_is_row_e2
      simp [eVar_val, callR, is_integer_int, hn]
    rw [List.map_cons]
    unfold allL
    simp only [wipeE, gSet, mg, List.set_cons_zero, List.set_cons_succ, e]
    exact ih
theorem is_row_eq {ns : List Int} {c : List Int} (h : RowOk ns) : F_is_row [rowD ns] c = .ok (.val (.bool true)) c := by
  obtain ⟨h1, h2, h3⟩ := h
  have es : startS 2 [rowD ns] c = ⟨[.val (rowD ns), .un], c⟩ := rfl
  have e : allK [1] (gSet 1) d_is_row_e2 (ns.map .int) ⟨[.val (.tuple (ns.map .int)), .un], c⟩ = _ := allK_ok (is_row_all ns h3)
  have g1 : (1 : Int) ≤ (ns.length : Int) := by omega
  have g2 : (ns.length : Int) ≤ 24 := by omega
  rw [F_is_row, fnD_eq, es]
  unfold d_is_row
  simp [eVar_val, eLenN_val, plainD, isiD, g1, g2, e]
theorem need_row_eq {ns : List Int} {x : Str} {c : List Int} (h : RowOk ns) : F_need_row [rowD ns, .str x] c = .ok (.val .none) c := by
  have es : startS 2 [rowD ns, .str x] c = ⟨[.val (rowD ns), .val (.str x)], c⟩ := rfl
  have e := is_row_eq h (c := c)
  rw [F_need_row, fnD_eq, es]
  unfold d_need_row
  simp [eVar_val, callR, e]
theorem need_row_no {d : D} {x : Str} {c : List Int} (h : F_is_row [d] c = .ok (.val (.bool false)) c) (hx : x.length ≤ 1000000) : F_need_row [d, .str x] c = .er (bad x) c := by
  have es : startS 2 [d, .str x] c = ⟨[.val d, .val (.str x)], c⟩ := rfl
  rw [F_need_row, fnD_eq, es]
  unfold d_need_row
  simp [eVar_val, callR, h, dRaise_eq, hx]
/-- a barrel -/
abbrev barD (z l : Int) : D := .tuple [.int z, .int l]
def BarOk (z l : Int) : Prop := 1 ≤ z ∧ z ≤ 2000 ∧ 0 ≤ l ∧ l ≤ z
/-- (level, spilt, lacking) after a step -/
def stepI (z l r n : Int) : Int × Int × Int :=
  let a := min z (l + r)
  let b := min a n
  (a - b, l + r - a, n - b)
abbrev stepD (t : Int × Int × Int) : D := .tuple [.int t.1, .int t.2.1, .int t.2.2]
theorem after_eq {z l r n : Int} {c : List Int} : F_after [.int z, .int l, .int r, .int n] c = .ok (.val (stepD (stepI z l r n))) c := by
  have es : startS 6 [.int z, .int l, .int r, .int n] c = ⟨[.val (.int z), .val (.int l), .val (.int r), .val (.int n), .un, .un], c⟩ := rfl
  rw [F_after, fnD_eq, es]
  unfold d_after
  have m : ∀ i j : Int, minB [.int i, .int j] = some (.val (.int (min i j))) := fun i j => by
    show some (Sl.val (.int (if j < i then j else i))) = _
    congr 3
    split <;> omega
  simp [eVar_val, m, stepI]
theorem law_step_eq {z l r n : Int} {c : List Int} (hz : 0 ≤ z) (hl : 0 ≤ l) (hr : 0 ≤ r) (hn : 0 ≤ n) : F__law_step [.int z, .int l, .int r, .int n] c = .ok (.val (stepD (stepI z l r n))) c := by
  have es : startS 7 [.int z, .int l, .int r, .int n] c = ⟨[.val (.int z), .val (.int l), .val (.int r), .val (.int n), .un, .un, .un], c⟩ := rfl
  rw [F__law_step, fnD_eq, es]
  unfold d__law_step
  by_cases h1 : z < l + r
  · by_cases h2 : z - n < 0
    · simp [eVar_val, h1, h2, stepI]
      omega
    · simp [eVar_val, h1, h2, stepI]
      omega
  · by_cases h2 : l + r - n < 0
    · simp [eVar_val, h1, h2, stepI]
      omega
    · simp [eVar_val, h1, h2, stepI]
      omega
def am (ns : List Int) (i : Nat) : Int := (ns[i % ns.length]?).getD 0
theorem am_at {ns : List Int} (h : 1 ≤ ns.length) (i : Nat) : atI (ns.map PyData.int) ((i : Int) % (ns.length : Int)) = some (.int (am ns i)) := by
  have hl : i % ns.length < ns.length := Nat.mod_lt _ h
  have e : (i : Int) % (ns.length : Int) = ((i % ns.length : Nat) : Int) := by omega
  rw [e, atI_ok (by omega) (by rw [List.length_map]; omega)]
  unfold am
  rw [Int.toNat_natCast, List.getElem?_map, List.getElem?_eq_getElem hl]
  rfl
theorem am_mem {ns : List Int} (h : 1 ≤ ns.length) (i : Nat) : am ns i ∈ ns := by
  have hl : i % ns.length < ns.length := Nat.mod_lt _ h
  unfold am
  rw [List.getElem?_eq_getElem hl, Option.getD_some]
  exact List.getElem_mem hl
theorem am_row {ns : List Int} (h : RowOk ns) (i : Nat) : 0 ≤ am ns i ∧ am ns i ≤ 200 := h.2.2 _ (am_mem h.1 i)
theorem amount_at_eq {ns : List Int} {i : Nat} {c : List Int} (h : 1 ≤ ns.length) (h2 : ns.length ≤ 24) : F_amount_at [rowD ns, .int i] c = .ok (.val (.int (am ns i))) c := by
  have es : startS 2 [rowD ns, .int i] c = ⟨[.val (rowD ns), .val (.int i)], c⟩ := rfl
  have e := am_at h i
  have hm := modD_ii (i := i) (j := ns.length) (by omega)
  rw [F_amount_at, fnD_eq, es]
  unfold d_amount_at
  simp [eVar_val, eLenN_val, eIxN_val, hm, e]
section
variable (z : Int) (rs ns : List Int)
def stp (t : Nat) (l : Int) : Int × Int × Int := stepI z l (am rs t) (am ns t)
def lvl : Nat → Int → Nat → Int
  | _, l, 0 => l
  | t, l, n + 1 => lvl (t + 1) (stp z rs ns t l).1 n
def rows : Nat → Int → Nat → List D
  | _, _, 0 => []
  | t, l, n + 1 => stepD (stp z rs ns t l) :: rows (t + 1) (stp z rs ns t l).1 n
variable {z rs ns}
theorem rows_len : ∀ (n t : Nat) (l : Int), (rows z rs ns t l n).length = n
  | 0, _, _ => rfl
  | n + 1, t, l => by simp [rows, rows_len n]
theorem lvl_add : ∀ (a b t : Nat) (l : Int), lvl z rs ns t l (a + b) = lvl z rs ns (t + a) (lvl z rs ns t l a) b
  | 0, b, t, l => by simp [lvl]
  | a + 1, b, t, l => by
    have := lvl_add a b (t + 1) (stp z rs ns t l).1
    rw [show a + 1 + b = (a + b) + 1 by omega, show t + (a + 1) = t + 1 + a by omega]
    simpa [lvl] using this
theorem rows_add : ∀ (a b t : Nat) (l : Int), rows z rs ns t l (a + b) = rows z rs ns t l a ++ rows z rs ns (t + a) (lvl z rs ns t l a) b
  | 0, b, t, l => by simp [rows, lvl]
  | a + 1, b, t, l => by
    have := rows_add a b (t + 1) (stp z rs ns t l).1
    rw [show a + 1 + b = (a + b) + 1 by omega, show t + (a + 1) = t + 1 + a by omega]
    simp [rows, lvl, this]
theorem rows_at : ∀ (n i t : Nat) (l : Int), i < n → ∃ p q : Int, (rows z rs ns t l n)[i]? = some (stepD (lvl z rs ns t l (i + 1), p, q))
  | n + 1, 0, t, l, _ => ⟨(stp z rs ns t l).2.1, (stp z rs ns t l).2.2, by simp [rows, lvl]⟩
  | n + 1, i + 1, t, l, h => by
    obtain ⟨p, q, e⟩ := rows_at n i (t + 1) (stp z rs ns t l).1 (by omega)
    exact ⟨p, q, by simpa [rows, lvl] using e⟩
theorem am_shift {xs : List Int} {k : Nat} (h : xs.length ∣ k) (t : Nat) : am xs (t + k) = am xs t := by
  unfold am
  rw [Nat.add_mod, Nat.mod_eq_zero_of_dvd h, Nat.add_zero, Nat.mod_mod]
theorem stp_shift {k : Nat} (h1 : rs.length ∣ k) (h2 : ns.length ∣ k) (t : Nat) (l : Int) : stp z rs ns (t + k) l = stp z rs ns t l := by
  unfold stp
  rw [am_shift h1, am_shift h2]
theorem lvl_shift {k : Nat} (h1 : rs.length ∣ k) (h2 : ns.length ∣ k) : ∀ (n t : Nat) (l : Int), lvl z rs ns (t + k) l n = lvl z rs ns t l n
  | 0, _, _ => rfl
  | n + 1, t, l => by
    unfold lvl
    rw [stp_shift h1 h2, show t + k + 1 = t + 1 + k by omega, lvl_shift h1 h2 n]
theorem rows_shift {k : Nat} (h1 : rs.length ∣ k) (h2 : ns.length ∣ k) : ∀ (n t : Nat) (l : Int), rows z rs ns (t + k) l n = rows z rs ns t l n
  | 0, _, _ => rfl
  | n + 1, t, l => by
    unfold rows
    rw [stp_shift h1 h2, show t + k + 1 = t + 1 + k by omega, rows_shift h1 h2 n]
theorem stp_mono {t : Nat} {l m : Int} (h : l ≤ m) : (stp z rs ns t l).1 ≤ (stp z rs ns t m).1 := by
  simp only [stp, stepI]
  omega
theorem lvl_mono : ∀ (n t : Nat) (l m : Int), l ≤ m → lvl z rs ns t l n ≤ lvl z rs ns t m n
  | 0, _, _, _, h => h
  | n + 1, t, l, m, h => lvl_mono n _ _ _ (stp_mono h)
/-- all as it should be -/
structure Fit (z : Int) (rs ns : List Int) : Prop where
  z1 : 1 ≤ z
  z2 : z ≤ 2000
  r : RowOk rs
  n : RowOk ns
theorem stp_in (F : Fit z rs ns) {t : Nat} {l : Int} (h : 0 ≤ l ∧ l ≤ z) : 0 ≤ (stp z rs ns t l).1 ∧ (stp z rs ns t l).1 ≤ z := by
  have h1 := am_row F.r t
  have h2 := am_row F.n t
  have := F.z1
  simp only [stp, stepI]
  omega
theorem lvl_in (F : Fit z rs ns) : ∀ (n t : Nat) (l : Int), 0 ≤ l ∧ l ≤ z → 0 ≤ lvl z rs ns t l n ∧ lvl z rs ns t l n ≤ z
  | 0, _, _, h => h
  | n + 1, t, l, h => lvl_in F n _ _ (stp_in F h)
/-- the level after j turns -/
def V (z : Int) (rs ns : List Int) (T : Nat) (l : Int) (j : Nat) : Int := lvl z rs ns 0 l (j * T)
theorem V_zero {T : Nat} {l : Int} : V z rs ns T l 0 = l := by simp [V, lvl]
theorem V_succ {T : Nat} {l : Int} (h1 : rs.length ∣ T) (h2 : ns.length ∣ T) (j : Nat) : V z rs ns T l (j + 1) = lvl z rs ns 0 (V z rs ns T l j) T := by
  unfold V
  rw [show (j + 1) * T = j * T + T by rw [Nat.add_mul, Nat.one_mul], lvl_add, lvl_shift (Nat.dvd_mul_left_of_dvd h1 j) (Nat.dvd_mul_left_of_dvd h2 j)]
theorem V_up {T : Nat} {l : Int} (h1 : rs.length ∣ T) (h2 : ns.length ∣ T) (h : l ≤ V z rs ns T l 1) : ∀ j, V z rs ns T l j ≤ V z rs ns T l (j + 1)
  | 0 => by rw [V_zero]; exact h
  | j + 1 => by
    rw [V_succ h1 h2 (j + 1), V_succ h1 h2 j]
    exact lvl_mono _ _ _ _ (by rw [← V_succ h1 h2 j]; exact V_up h1 h2 h j)
theorem V_down {T : Nat} {l : Int} (h1 : rs.length ∣ T) (h2 : ns.length ∣ T) (h : V z rs ns T l 1 ≤ l) : ∀ j, V z rs ns T l (j + 1) ≤ V z rs ns T l j
  | 0 => by rw [V_zero]; exact h
  | j + 1 => by
    rw [V_succ h1 h2 (j + 1), V_succ h1 h2 j]
    exact lvl_mono _ _ _ _ (by rw [← V_succ h1 h2 j]; exact V_down h1 h2 h j)
theorem V_in (F : Fit z rs ns) {T : Nat} {l : Int} (h : 0 ≤ l ∧ l ≤ z) (j : Nat) : 0 ≤ V z rs ns T l j ∧ V z rs ns T l j ≤ z := lvl_in F _ _ _ h
/-- after at most z turns it is settled -/
theorem V_settles (F : Fit z rs ns) {T : Nat} {l : Int} (h : 0 ≤ l ∧ l ≤ z) (h1 : rs.length ∣ T) (h2 : ns.length ∣ T) : ∃ j, j ≤ z.toNat ∧ V z rs ns T l (j + 1) = V z rs ns T l j := by
  have hz := F.z1
  refine Classical.byContradiction fun hn => ?_
  have hn : ∀ j, j ≤ z.toNat → V z rs ns T l (j + 1) ≠ V z rs ns T l j := fun j hj e => hn ⟨j, hj, e⟩
  rcases Int.le_total l (V z rs ns T l 1) with u | u
  · have k : ∀ j, j ≤ z.toNat + 1 → (j : Int) ≤ V z rs ns T l j := by
      intro j
      induction j with
      | zero => intro _; rw [V_zero]; exact h.1
      | succ j ih =>
        intro hj
        have a := ih (by omega)
        have b := V_up h1 h2 u j
        have e := hn j (by omega)
        omega
    have a := k (z.toNat + 1) (by omega)
    have b := (V_in F h (T := T) (z.toNat + 1)).2
    omega
  · have k : ∀ j, j ≤ z.toNat + 1 → V z rs ns T l j ≤ z - j := by
      intro j
      induction j with
      | zero => intro _; rw [V_zero]; have := h.2; omega
      | succ j ih =>
        intro hj
        have a := ih (by omega)
        have b := V_down h1 h2 u j
        have e := hn j (by omega)
        omega
    have a := k (z.toNat + 1) (by omega)
    have b := (V_in F h (T := T) (z.toNat + 1)).1
    omega
/-- the first turn that brings nothing new -/
theorem V_first (F : Fit z rs ns) {T : Nat} {l : Int} (h : 0 ≤ l ∧ l ≤ z) (h1 : rs.length ∣ T) (h2 : ns.length ∣ T) :
    ∃ J, J ≤ z.toNat ∧ V z rs ns T l (J + 1) = V z rs ns T l J ∧ ∀ j, j < J → V z rs ns T l (j + 1) ≠ V z rs ns T l j := by
  obtain ⟨j, hj, e⟩ := V_settles F h h1 h2
  clear h
  induction j using Nat.strongRecOn with
  | ind j ih =>
    by_cases q : ∃ i, i < j ∧ V z rs ns T l (i + 1) = V z rs ns T l i
    · obtain ⟨i, hi, ei⟩ := q
      exact ih i hi (by omega) ei
    · exact ⟨j, hj, e, fun i hi ei => q ⟨i, hi, ei⟩⟩
theorem V_stays {T : Nat} {l : Int} {J : Nat} (h1 : rs.length ∣ T) (h2 : ns.length ∣ T) (e : V z rs ns T l (J + 1) = V z rs ns T l J) : ∀ k, V z rs ns T l (J + k) = V z rs ns T l J
  | 0 => rfl
  | k + 1 => by rw [← Nat.add_assoc, V_succ h1 h2, V_stays h1 h2 e k, ← V_succ h1 h2, e]
/-- the level after s steps, by turns -/
theorem lvl_turns {T : Nat} {l : Int} (h1 : rs.length ∣ T) (h2 : ns.length ∣ T) (j k : Nat) : lvl z rs ns 0 l (j * T + k) = lvl z rs ns 0 (V z rs ns T l j) k := by
  rw [lvl_add, lvl_shift (Nat.dvd_mul_left_of_dvd h1 j) (Nat.dvd_mul_left_of_dvd h2 j)]
  rfl
theorem rows_turns {T : Nat} {l : Int} (h1 : rs.length ∣ T) (h2 : ns.length ∣ T) (j k : Nat) : rows z rs ns 0 l (j * T + k) = rows z rs ns 0 l (j * T) ++ rows z rs ns 0 (V z rs ns T l j) k := by
  rw [rows_add, rows_shift (Nat.dvd_mul_left_of_dvd h1 j) (Nat.dvd_mul_left_of_dvd h2 j)]
  rfl
/-- a late step's level, by the tail of the rows -/
theorem lvl_late {T : Nat} {l : Int} {J s : Nat} (hT : 0 < T) (h1 : rs.length ∣ T) (h2 : ns.length ∣ T) (e : V z rs ns T l (J + 1) = V z rs ns T l J) (hs : J * T ≤ s) :
    lvl z rs ns 0 l (s + 1) = lvl z rs ns 0 l (J * T + (s - J * T) % T + 1) := by
  have k : s + 1 = (J + (s - J * T) / T) * T + ((s - J * T) % T + 1) := by
    have := Nat.div_add_mod (s - J * T) T
    have hm := Nat.mul_comm ((s - J * T) / T) T
    rw [Nat.add_mul]
    omega
  rw [k, lvl_turns h1 h2, V_stays h1 h2 e, Nat.add_assoc (J * T), lvl_turns h1 h2]
end
theorem while_t {c : DE} {b : DS} {n : Nat} {s s1 s2 : S} (h : c s = .ok (.val (.bool true)) s1) (hb : b s1 = .nx s2) : dWhile c b (n + 1) s = dWhile c b n s2 := by
  show (c s).stT _ = _
  rw [h]
  rw [stT_ok, if_pos rfl, hb]
theorem while_f {c : DE} {b : DS} {n : Nat} {s s1 : S} (h : c s = .ok (.val (.bool false)) s1) : dWhile c b (n + 1) s = .nx s1 := by
  show (c s).stT _ = _
  rw [h]
  rfl
theorem common_loop {c : List Int} : ∀ (m : Nat) (a b : Nat) , b < m → dWhile d_common_c1 d_common_b2 m ⟨[.val (.int a), .val (.int b)], c⟩ = .nx ⟨[.val (.int (Nat.gcd a b : Nat)), .val (.int 0)], c⟩
  | m + 1, a, b, h => by
    by_cases hb : b = 0
    · subst hb
      have e : d_common_c1 ⟨[.val (.int a), .val (.int (0 : Nat))], c⟩ = .ok (.val (.bool false)) ⟨[.val (.int a), .val (.int (0 : Nat))], c⟩ := by
        unfold d_common_c1
        simp [eVar_val]
      rw [while_f e, Nat.gcd_zero_right]
      rfl
    · have hb' : (0 : Int) < b := by omega
      have e : d_common_c1 ⟨[.val (.int a), .val (.int b)], c⟩ = .ok (.val (.bool true)) ⟨[.val (.int a), .val (.int b)], c⟩ := by
        unfold d_common_c1
        simp [eVar_val]
        omega
      have e2 : d_common_b2 ⟨[.val (.int a), .val (.int b)], c⟩ = .nx ⟨[.val (.int b), .val (.int (a % b : Nat))], c⟩ := by
        unfold d_common_b2
        simp [eVar_val, modD_ii hb']
      have hm : a % b < b := Nat.mod_lt _ (by omega)
      rw [while_t e e2, common_loop m b (a % b) (by omega), Nat.gcd_comm a b, Nat.gcd_rec b a, Nat.gcd_comm]
theorem common_eq {a b : Nat} {c : List Int} (h : b < 1000000000000000) : F_common [.int a, .int b] c = .ok (.val (.int (Nat.gcd a b : Nat))) c := by
  have es : startS 2 [.int a, .int b] c = ⟨[.val (.int a), .val (.int b)], c⟩ := rfl
  have e := common_loop (c := c) 1000000000000000 a b h
  rw [F_common, fnD_eq, es]
  unfold d_common
  rw [dSeq_eq, e]
  simp [dRetV_val]
theorem gcd_loop {c : List Int} : ∀ (m : Nat) (lo : Int) (x : Sl) (a b : Nat), b < m → ∃ x' y', forL (gSet 2) d__law_gcd_b1 (rangeD lo m) ⟨[.val (.int a), .val (.int b), x], c⟩ = .nx ⟨[.val (.int (Nat.gcd a b : Nat)), y', x'], c⟩
  | m + 1, lo, x, a, b, h => by
    rw [rangeD_succ]
    unfold forL
    by_cases hb : b = 0
    · subst hb
      refine ⟨.val (.int lo), .val (.int (0 : Nat)), ?_⟩
      unfold d__law_gcd_b1
      simp [eVar_val, Nat.gcd_zero_right]
    · have hb' : (0 : Int) < b := by omega
      have hm : a % b < b := Nat.mod_lt _ (by omega)
      obtain ⟨x', y', e⟩ := gcd_loop (c := c) m (lo + 1) (.val (.int lo)) b (a % b) (by omega)
      have e2 : d__law_gcd_b1 ⟨[.val (.int a), .val (.int b), .val (.int lo)], c⟩ = .nx ⟨[.val (.int b), .val (.int (a % b : Nat)), .val (.int lo)], c⟩ := by
        have hb0 : ¬ (b : Int) = 0 := by omega
        unfold d__law_gcd_b1
        simp [eVar_val, modD_ii hb', hb]
      refine ⟨x', y', ?_⟩
      simp only [gSet, List.set_cons_zero, List.set_cons_succ, e2]
      rw [e, Nat.gcd_comm a b, Nat.gcd_rec b a, Nat.gcd_comm]
theorem gcd_eq {a b : Nat} {c : List Int} (h : b < 400) : F__law_gcd [.int a, .int b] c = .ok (.val (.int (Nat.gcd a b : Nat))) c := by
  have es : startS 3 [.int a, .int b] c = ⟨[.val (.int a), .val (.int b), .un], c⟩ := rfl
  obtain ⟨x', y', e⟩ := gcd_loop (c := c) 400 0 .un a b h
  have ab : ∀ k : Nat, absB [.int k] = some (.val (.int k)) := fun k => by
    show some (Sl.val (.int (k : Int).natAbs)) = _
    congr 3
  have r : rng1K (.int 400) ⟨[.val (.int a), .val (.int b), .un], c⟩ = .ok (rangeD 0 400) ⟨[.val (.int a), .val (.int b), .un], c⟩ := rng1K_int (by decide) (by decide)
  rw [F__law_gcd, fnD_eq, es]
  unfold d__law_gcd
  simp [eVar_val, ab, r, e, dRetV_val]
theorem gcd_bd {a b : Nat} (h : 1 ≤ b) (h2 : b < 1000) : (0 : Int) < (Nat.gcd a b : Nat) ∧ ((Nat.gcd a b : Nat) : Int) < 1073741824 := by
  have h3 := Nat.gcd_pos_of_pos_right a (n := b) h
  have h4 := Nat.gcd_le_right a (n := b) h
  omega
theorem lcm_eq {a b : Nat} {c : List Int} (ha : a < 1000) (h : 1 ≤ b) (h2 : b < 1000) : F_least_common [.int a, .int b] c = .ok (.val (.int (Nat.lcm a b : Nat))) c := by
  have es : startS 2 [.int a, .int b] c = ⟨[.val (.int a), .val (.int b)], c⟩ := rfl
  have e := common_eq (a := a) (b := b) (c := c) (by omega)
  obtain ⟨h3, h4⟩ := gcd_bd (a := a) h h2
  have m := mulD_ii (i := (a : Int) / (Nat.gcd a b : Nat)) (j := b) (by simp [lim64]; omega)
  have q : (a : Int) / (Nat.gcd a b : Nat) * b = (Nat.lcm a b : Nat) := by
    unfold Nat.lcm
    rw [← Int.natCast_ediv, ← Int.natCast_mul, Nat.div_mul_right_comm (Nat.gcd_dvd_left a b)]
  rw [F_least_common, fnD_eq, es]
  unfold d_least_common
  simp [eVar_val, callR, e, divD_ii h3 h4, m]
  rw [q]
theorem turn_eq {a b : Nat} {c : List Int} (ha : a < 1000) (h : 1 ≤ b) (h2 : b < 400) : F__law_turn [.int a, .int b] c = .ok (.val (.int (Nat.lcm a b : Nat))) c := by
  have es : startS 2 [.int a, .int b] c = ⟨[.val (.int a), .val (.int b)], c⟩ := rfl
  have e := gcd_eq (a := a) (b := b) (c := c) (by omega)
  obtain ⟨h3, h4⟩ := gcd_bd (a := a) h (by omega)
  have m := mulD_ii (i := (a : Int) / (Nat.gcd a b : Nat)) (j := b) (by simp [lim64]; omega)
  have q : (a : Int) / (Nat.gcd a b : Nat) * b = (Nat.lcm a b : Nat) := by
    unfold Nat.lcm
    rw [← Int.natCast_ediv, ← Int.natCast_mul, Nat.div_mul_right_comm (Nat.gcd_dvd_left a b)]
  rw [F__law_turn, fnD_eq, es]
  unfold d__law_turn
  simp [eVar_val, callR, e, divD_ii h3 h4, m]
  rw [q]
theorem callR_mk {G : Fn} {ds : List D} {es : List Sl} {x : Sl} {c c' : List Int} (h : G ds c = .ok x c') : callR G ds ⟨es, c⟩ = .ok x ⟨es, c'⟩ := by
  unfold callR
  rw [h]
theorem callR_me {G : Fn} {ds : List D} {es : List Sl} {x : Er} {c c' : List Int} (h : G ds c = .er x c') : callR G ds ⟨es, c⟩ = .er x c' := by
  unfold callR
  rw [h]
theorem atz {α : Type} {x : α} {xs : List α} : atI (x :: xs) 0 = some x := by simp [atI, ixN]
section
variable {z : Int} {rs ns : List Int} {c : List Int}
end
section
variable {z : Int} {rs ns : List Int} {c : List Int}
end
theorem forL_nx {g : D → S → Option S} {b : DS} {d : D} {ds : List D} {s s1 s2 : S} (h : g d s = some s1) (hb : b s1 = .nx s2) : forL g b (d :: ds) s = forL g b ds s2 := by
  conv => lhs; unfold forL
  simp only [h, hb]
theorem forL_bk {g : D → S → Option S} {b : DS} {d : D} {ds : List D} {s s1 s2 : S} (h : g d s = some s1) (hb : b s1 = .bk s2) : forL g b (d :: ds) s = .nx s2 := by
  conv => lhs; unfold forL
  simp only [h, hb]
def idx (len T s : Nat) : Nat := if s < len then s else (len - T) + (s - (len - T)) % T
theorem atI_nat {α : Type} {xs : List α} {i : Nat} {x : α} (h : xs[i]? = some x) : atI xs (i : Int) = some x := by
  have hl : i < xs.length := by
    rcases Nat.lt_or_ge i xs.length with q | q
    · exact q
    · rw [List.getElem?_eq_none q] at h
      cases h
  rw [atI_ok (by omega) (by omega), Int.toNat_natCast, h]
section
variable {z : Int} {rs ns : List Int} {c : List Int}
theorem late_row (F : Fit z rs ns) {l : Int} {T J s : Nat} (h1 : rs.length ∣ T) (h2 : ns.length ∣ T) (hT : 0 < T) (eJ : V z rs ns T l (J + 1) = V z rs ns T l J) :
    ∃ p q : Int, (rows z rs ns 0 l ((J + 1) * T))[idx ((J + 1) * T) T s]? = some (stepD (lvl z rs ns 0 l (s + 1), p, q)) := by
  have hsucc : (J + 1) * T = J * T + T := by rw [Nat.add_mul, Nat.one_mul]
  have hm := Nat.mod_lt (s - J * T) hT
  unfold idx
  by_cases h : s < (J + 1) * T
  · rw [if_pos h]
    exact rows_at _ _ _ _ h
  · rw [if_neg h, hsucc, Nat.add_sub_cancel]
    rw [lvl_late hT h1 h2 eJ (by omega)]
    exact rows_at _ _ _ _ (by omega)
theorem last_at {l : Int} {n : Nat} (h : 1 ≤ n) : ∃ p q : Int, atI (rows z rs ns 0 l n) (-1) = some (stepD (lvl z rs ns 0 l n, p, q)) := by
  obtain ⟨p, q, e⟩ := rows_at (z := z) (rs := rs) (ns := ns) n (n - 1) 0 l (by omega)
  rw [show n - 1 + 1 = n by omega] at e
  refine ⟨p, q, ?_⟩
  have hl : (rows z rs ns 0 l n).length = n := rows_len _ _ _
  unfold atI ixN
  rw [hl, if_neg (by omega), if_pos (by omega)]
  show (rows z rs ns 0 l n)[((-1 : Int) + (n : Int)).toNat]? = _
  rw [show ((-1 : Int) + (n : Int)).toNat = n - 1 by omega, e]
end
def sm (xs : List Int) : Nat → Int
  | 0 => 0
  | k + 1 => sm xs k + am xs k
theorem sm_take {xs : List Int} : ∀ r, r ≤ xs.length → sm xs r = (xs.take r).sum
  | 0, _ => by simp [sm]
  | r + 1, h => by
    have hr : r < xs.length := by omega
    rw [sm, sm_take r (by omega), List.take_add_one, List.getElem?_eq_getElem hr]
    unfold am
    rw [Nat.mod_eq_of_lt hr, List.getElem?_eq_getElem hr]
    rw [List.sum_append]
    simp
theorem sm_add {xs : List Int} {t : Nat} (h : xs.length ∣ t) : ∀ r, sm xs (t + r) = sm xs t + sm xs r
  | 0 => by simp [sm]
  | r + 1 => by
    rw [← Nat.add_assoc, sm, sm_add h r, sm, Nat.add_comm t r, am_shift h, Int.add_assoc]
theorem sm_mul {xs : List Int} : ∀ q : Nat, sm xs (xs.length * q) = q * xs.sum
  | 0 => by simp [sm]
  | q + 1 => by
    rw [Nat.mul_add, Nat.mul_one, sm_add (Nat.dvd_mul_right _ _), sm_mul q, sm_take _ (Nat.le_refl _), List.take_length]
    rw [show ((q + 1 : Nat) : Int) = (q : Int) + 1 by omega, Int.add_mul, Int.one_mul]
theorem sm_div {xs : List Int} (h : 1 ≤ xs.length) (k : Nat) : sm xs k = ((k / xs.length : Nat) : Int) * xs.sum + (xs.take (k % xs.length)).sum := by
  have e := Nat.div_add_mod k xs.length
  rw [← sm_take _ (Nat.le_of_lt (Nat.mod_lt _ h)), ← sm_mul, ← sm_add (Nat.dvd_mul_right _ _), e]
theorem cut_take {xs : List D} {k : Nat} : DL.cutD xs none (some (k : Int)) = xs.take k := by
  unfold DL.cutD
  rw [HT.sIx_none, HT.sIx_nat, List.drop_zero, Nat.sub_zero]
  rcases Nat.le_total k xs.length with h | h
  · rw [Nat.min_eq_left h]
  · rw [Nat.min_eq_right h, List.take_length, List.take_of_length_le h]
theorem slD_tup {xs : List D} {k : Nat} : slD (.tuple xs) none (some (k : Int)) = some (.val (.tuple (xs.take k))) := by
  show some (Sl.val (.tuple (DL.cutD xs none (some (k : Int))))) = _
  rw [cut_take]
theorem sumB_tup {ns : List Int} : sumB [.tuple (ns.map .int)] = some (.val (.int ns.sum)) := by
  show (intsD (ns.map PyData.int)).map (fun ns => Sl.val (.int ns.sum)) = _
  rw [intsD_ok]
  rfl
theorem sumB_lst {ns : List Int} : sumB [.list (ns.map .int)] = some (.val (.int ns.sum)) := by
  show (intsD (ns.map PyData.int)).map (fun ns => Sl.val (.int ns.sum)) = _
  rw [intsD_ok]
  rfl
theorem eqv_ints : ∀ a b : List Int, PyData.eqvAll (a.map PyData.int) (b.map PyData.int) = decide (a = b)
  | [], [] => by simp [PyData.eqvAll]
  | [], _ :: _ => by simp [PyData.eqvAll]
  | _ :: _, [] => by simp [PyData.eqvAll]
  | x :: a, y :: b => by
    simp only [List.map_cons, PyData.eqvAll, eqv_ints a b, eqv_ii]
    by_cases h : x = y <;> simp [h]
theorem neD_tups {a b : List Int} : neD (rowD a) (rowD b) = some (.val (.bool (!decide (a = b)))) := by
  unfold neD
  rw [(Sh.tup (k := 1) Sh.ints).sh (by decide), (Sh.tup (k := 1) Sh.ints).sh (by decide)]
  show some (Sl.val (.bool (!PyData.eqv (.tuple (a.map .int)) (.tuple (b.map .int))))) = _
  unfold PyData.eqv
  rw [eqv_ints]
theorem eqD_lsts {a b : List Int} : eqD (.list (a.map .int)) (.list (b.map .int)) = some (.val (.bool (decide (a = b)))) := by
  unfold eqD
  rw [(Sh.lst (k := 1) Sh.ints).sh (by decide), (Sh.lst (k := 1) Sh.ints).sh (by decide)]
  show some (Sl.val (.bool (PyData.eqv (.list (a.map .int)) (.list (b.map .int))))) = _
  unfold PyData.eqv
  rw [eqv_ints]
/-- the first t places come again and again, seen at 60 places -/
def Pt (xs : List Int) (t : Nat) : Prop := ∀ i, i < 60 → xs[i % t]? = xs[i % xs.length]?
/-- the first t places make up the row -/
def Qt (xs : List Int) (t : Nat) : Prop := xs.length % t = 0 ∧ (List.replicate (xs.length / t) (xs.take t)).flatten = xs
theorem fill : ∀ n, n < 6 → ∀ t, t < n → ¬ n % t = 0 → 1 ≤ t → ∀ j, j < n → (List.range 60).any (fun i => i % t == 0 && i % n == j) = true := by decide +kernel
theorem Pt_one {xs : List Int} (h : 1 ≤ xs.length) (h5 : xs.length ≤ 5) {t : Nat} (ht : 1 ≤ t) (hl : t < xs.length) (hd : ¬ xs.length % t = 0) (P : Pt xs t) : Pt xs 1 := by
  intro i _
  obtain ⟨k, hk, kk⟩ := List.any_eq_true.mp (fill xs.length (by omega) t hl hd ht (i % xs.length) (Nat.mod_lt _ (by omega)))
  rw [List.mem_range] at hk
  rw [Bool.and_eq_true, beq_iff_eq, beq_iff_eq] at kk
  obtain ⟨k0, kj⟩ := kk
  have e := P k hk
  rw [k0, kj] at e
  rw [Nat.mod_one, e]
theorem rep_at {α : Type} {l : List α} (hl : 0 < l.length) : ∀ k i, i < k * l.length → (List.replicate k l).flatten[i]? = l[i % l.length]?
  | 0, i, h => by omega
  | k + 1, i, h => by
    rw [Nat.add_mul, Nat.one_mul] at h
    rw [List.replicate_succ, List.flatten_cons]
    by_cases q : i < l.length
    · rw [List.getElem?_append_left q, Nat.mod_eq_of_lt q]
    · rw [List.getElem?_append_right (by omega), rep_at hl k (i - l.length) (by omega), ← Nat.mod_eq_sub_mod (by omega)]
theorem rep_len {α : Type} {l : List α} (k : Nat) : (List.replicate k l).flatten.length = k * l.length := by
  induction k with
  | zero => simp
  | succ k ih => rw [List.replicate_succ, List.flatten_cons, List.length_append, ih, Nat.add_mul, Nat.one_mul, Nat.add_comm]
theorem Qt_iff {xs : List Int} (h : 1 ≤ xs.length) (h5 : xs.length ≤ 5) {t : Nat} (ht : 1 ≤ t) (hl : t ≤ xs.length) : Qt xs t ↔ xs.length % t = 0 ∧ Pt xs t := by
  have htl : (xs.take t).length = t := by rw [List.length_take]; omega
  have hdm := Nat.div_add_mod xs.length t
  have tk : ∀ j, j < t → (xs.take t)[j]? = xs[j]? := fun j hj => by rw [List.getElem?_take, if_pos hj]
  constructor
  · rintro ⟨d, q⟩
    refine ⟨d, fun i hi => ?_⟩
    have hlt := Nat.mod_lt i (show 0 < xs.length by omega)
    have e := rep_at (l := xs.take t) (by omega) (xs.length / t) (i % xs.length) (by rw [htl, Nat.mul_comm]; omega)
    rw [q, htl, Nat.mod_mod_of_dvd _ (Nat.dvd_of_mod_eq_zero d), tk _ (Nat.mod_lt _ (by omega))] at e
    exact e.symm
  · rintro ⟨d, p⟩
    refine ⟨d, ?_⟩
    apply List.ext_getElem?
    intro i
    have hlen := rep_len (l := xs.take t) (xs.length / t)
    rw [htl, Nat.mul_comm] at hlen
    by_cases hi : i < xs.length
    · rw [rep_at (by omega) _ _ (by rw [htl, Nat.mul_comm]; omega), htl, tk _ (Nat.mod_lt _ (by omega)), p i (by omega), Nat.mod_eq_of_lt hi]
    · rw [List.getElem?_eq_none (by omega), List.getElem?_eq_none (by omega)]
theorem Pt_all {xs : List Int} : Pt xs xs.length := fun i _ => rfl
/-- the least one -/
theorem least_ex {xs : List Int} (h : 1 ≤ xs.length) (h5 : xs.length ≤ 5) : ∃ t, 1 ≤ t ∧ t ≤ xs.length ∧ Pt xs t ∧ Qt xs t ∧ ∀ u, 1 ≤ u → u < t → ¬ Pt xs u ∧ ¬ Qt xs u := by
  have key : ∀ n t, n = t → 1 ≤ t → t ≤ xs.length → Pt xs t → ∃ t, 1 ≤ t ∧ t ≤ xs.length ∧ Pt xs t ∧ ∀ u, 1 ≤ u → u < t → ¬ Pt xs u := by
    intro n
    induction n using Nat.strongRecOn with
    | ind n ih =>
      intro t hn h1 h2 P
      by_cases q : ∃ u, 1 ≤ u ∧ u < t ∧ Pt xs u
      · obtain ⟨u, u1, u2, Pu⟩ := q
        exact ih u (by omega) u rfl u1 (by omega) Pu
      · exact ⟨t, h1, h2, P, fun u u1 u2 Pu => q ⟨u, u1, u2, Pu⟩⟩
  obtain ⟨t, t1, t2, P, hm⟩ := key _ xs.length rfl h (Nat.le_refl _) Pt_all
  have hd : xs.length % t = 0 := by
    refine Classical.byContradiction fun hd => ?_
    have hlt : t < xs.length := by
      rcases Nat.lt_or_ge t xs.length with q | q
      · exact q
      · exact (hd (by rw [show t = xs.length by omega, Nat.mod_self])).elim
    have P1 := Pt_one h h5 t1 hlt hd P
    rcases Nat.lt_or_ge 1 t with q | q
    · exact hm 1 (by omega) q P1
    · exact hd (by rw [show t = 1 by omega, Nat.mod_one])
  exact ⟨t, t1, t2, P, (Qt_iff h h5 t1 t2).mpr ⟨hd, P⟩, fun u u1 u2 => ⟨hm u u1 u2, fun q => hm u u1 u2 ((Qt_iff h h5 u1 (by omega)).mp q).2⟩⟩
theorem mulD_row {l : List Int} {k : Nat} (h1 : 1 ≤ k) (h2 : k ≤ 1000) (hl : l ≠ []) (hl2 : l.length ≤ 1000) : mulD (rowD l) (.int k) = some (.val (rowD (List.replicate k l).flatten)) := by
  show (if (k : Int) = 1 then some (Sl.val (.tuple (l.map PyData.int))) else if l.map PyData.int ≠ [] ∧ 2 ≤ (k : Int) ∧ (k : Int) ≤ 1000 ∧ (l.map PyData.int).length ≤ 1000 then some (.val (.tuple (List.replicate (k : Int).toNat (l.map PyData.int)).flatten)) else none) = _
  by_cases h : k = 1
  · subst h
    rw [if_pos (by decide)]
    simp
  · rw [if_neg (by omega), if_pos ⟨by simpa using hl, by omega, by omega, by simpa using hl2⟩, Int.toNat_natCast]
    simp [List.map_flatten]
theorem compL_y {g : D → S → Option S} {tt te : DE} {vs : List Nat} {d : D} {ds acc : List D} {s s1 s2 s3 : S} {y : Sl} (h : g d { s with e := wipeE s.e vs } = some s1) (ht : tt s1 = .ok (.val (.bool true)) s2) (he : te s2 = .ok y s3) :
    compL g tt te vs (d :: ds) acc s = compL g tt te vs ds (acc ++ [y.d]) { s3 with e := mg vs s.e s3.e } := by
  conv => lhs; unfold compL
  simp only [h, ht, he]
theorem compL_n {g : D → S → Option S} {tt te : DE} {vs : List Nat} {d : D} {ds acc : List D} {s s1 s2 : S} (h : g d { s with e := wipeE s.e vs } = some s1) (ht : tt s1 = .ok (.val (.bool false)) s2) :
    compL g tt te vs (d :: ds) acc s = compL g tt te vs ds acc { s2 with e := mg vs s.e s2.e } := by
  conv => lhs; unfold compL
  simp only [h, ht]
section
variable {a0 a1 a2 a3 a4 a5 a6 a7 a8 a9 a10 a12 a13 : Sl} {xs : List Int} {c : List Int}
abbrev st14 (a0 a1 a2 a3 a4 a5 a6 a7 a8 a9 a10 : Sl) (xs : List Int) (a12 a13 : Sl) (c : List Int) : S := ⟨[a0, a1, a2, a3, a4, a5, a6, a7, a8, a9, a10, .val (rowD xs), a12, a13], c⟩
end
section
variable {a0 a1 a2 a3 a4 a5 a6 a7 a8 a9 a10 a12 a13 : Sl} {xs : List Int} {c : List Int}
theorem comp_gen {te : DE} {f : Nat → Int} (he : ∀ t : Nat, te (st14 a0 a1 a2 a3 a4 a5 a6 a7 a8 a9 a10 xs (.val (.int t)) a13 c) = .ok (.val (.int (f t))) (st14 a0 a1 a2 a3 a4 a5 a6 a7 a8 a9 a10 xs (.val (.int t)) a13 c)) :
    ∀ (n t : Nat) (acc : List D), compL (gSet 12) tTrue te [12] (rangeD t n) acc (st14 a0 a1 a2 a3 a4 a5 a6 a7 a8 a9 a10 xs a12 a13 c) = .ok (acc ++ ((List.range' t n).map f).map .int) (st14 a0 a1 a2 a3 a4 a5 a6 a7 a8 a9 a10 xs a12 a13 c)
  | 0, t, acc => by simp [rangeD_zero]
  | n + 1, t, acc => by
    rw [rangeD_succ]
    have st : compL (gSet 12) tTrue te [12] (.int t :: rangeD ((t : Int) + 1) n) acc (st14 a0 a1 a2 a3 a4 a5 a6 a7 a8 a9 a10 xs a12 a13 c) = compL (gSet 12) tTrue te [12] (rangeD ((t : Int) + 1) n) (acc ++ [.int (f t)]) (st14 a0 a1 a2 a3 a4 a5 a6 a7 a8 a9 a10 xs a12 a13 c) :=
      compL_y (s1 := st14 a0 a1 a2 a3 a4 a5 a6 a7 a8 a9 a10 xs (.val (.int t)) a13 c) rfl rfl (he t)
    rw [st, show ((t : Int) + 1) = ((t + 1 : Nat) : Int) by omega, comp_gen he n (t + 1), List.range'_succ]
    simp
def amt (xs : List Int) (t i : Nat) : Int := (xs[i % t]?).getD 0
theorem amt_at {t : Nat} (h1 : 1 ≤ t) (h2 : t ≤ xs.length) (i : Nat) : atI (xs.map PyData.int) ((i : Int) % (t : Int)) = some (.int (amt xs t i)) := by
  have hl : i % t < t := Nat.mod_lt _ h1
  rw [← Int.natCast_emod]
  apply atI_nat
  rw [List.getElem?_map, List.getElem?_eq_getElem (by omega)]
  unfold amt
  rw [List.getElem?_eq_getElem (by omega)]
  rfl
theorem Pt_amt (h : 1 ≤ xs.length) {t : Nat} (h1 : 1 ≤ t) (h2 : t ≤ xs.length) : (List.range' 0 60).map (amt xs t) = (List.range' 0 60).map (amt xs xs.length) ↔ Pt xs t := by
  rw [List.map_inj_left]
  have q : ∀ i, (amt xs t i = amt xs xs.length i) ↔ xs[i % t]? = xs[i % xs.length]? := fun i => by
    have l1 := Nat.mod_lt i (show 0 < t by omega)
    have l2 := Nat.mod_lt i (show 0 < xs.length by omega)
    unfold amt
    rw [List.getElem?_eq_getElem (show i % t < xs.length by omega), List.getElem?_eq_getElem l2]
    simp
  constructor
  · intro hh i hi
    exact (q i).mp (hh i (by rw [List.mem_range'_1]; omega))
  · intro hh i hi
    rw [List.mem_range'_1] at hi
    exact (q i).mpr (hh i (by omega))
end
section
variable {a0 a1 a2 a3 a4 a5 a6 a7 a8 a9 a10 a12 a13 : Sl} {xs : List Int} {c : List Int}
end
/-- the ten wrong rows are no rows -/
abbrev badRows : List D := [.none, .tuple [], .list [.int 1, .int 2], .tuple [.int 1, .int (-1)], .tuple [.int 201], .tuple [.bool true], .tuple (List.replicate 25 (.int 1)), .tuple [.int 1, .str "a"], .int 5]
abbrev badBars : List D := [.none, .tuple [.int 0, .int 0], .tuple [.int 5, .int 6], .tuple [.int 5, .int (-1)], .tuple [.int 2001, .int 0], .list [.int 5, .int 5], .tuple [.int 5], .tuple [.int 5, .bool true]]
theorem bad_row {d : D} (h : d ∈ badRows) (c : List Int) : F_is_row [d] c = .ok (.val (.bool false)) c := by
  simp only [badRows, List.mem_cons, List.not_mem_nil, or_false] at h
  rcases h with rfl | rfl | rfl | rfl | rfl | rfl | rfl | rfl | rfl <;> rfl
section
variable {z l : Int} {rs ns : List Int} {c : List Int} {d b r n m : D}
end
theorem eRef_bad {j : Nat} {f : DE} {s : S} {x : Str} {c : List Int} (h : f s.hide = .er ⟨j, [("name", .str x)]⟩ c) : eRef j f s = .ok (.val (.str x)) { s with c := c } := by
  unfold eRef
  rw [h]
  simp
def refK (j : Nat) (r : RE) (s : S) : RE := match r with
  | .ok _ s1 => .ok (.val (.str "")) { s with c := s1.c }
  | .er ⟨k, [(n, .str y)]⟩ c => if k = j ∧ n = ("name" : Str) then .ok (.val (.str y)) { s with c := c } else .stuck
  | _ => .stuck
theorem eRef_eq {j : Nat} {f : DE} {s : S} : eRef j f s = refK j (f s.hide) s := rfl
theorem refK_bad {x : Str} {c : List Int} {s : S} : refK 0 (.er (bad x) c) s = .ok (.val (.str x)) { s with c := c } := by
  unfold refK
  simp
theorem hide_mk {e : List Sl} {c : List Int} : S.hide ⟨e, c⟩ = ⟨e.map DL.hide, c⟩ := rfl
theorem rows_sh {z : Int} {rs ns : List Int} : ∀ (n t : Nat) (l : Int), ∀ x ∈ rows z rs ns t l n, Sh 1 x
  | 0, _, _, x, h => by cases h
  | n + 1, t, l, x, h => by
    unfold rows at h
    rcases List.mem_cons.mp h with rfl | h
    · exact Sh.tup (k := 0) (Sh.ints (ns := [_, _, _]))
    · exact rows_sh n _ _ x h
theorem dice_loop {a0 a1 a2 : Sl} {c : List Int} : ∀ (ns : List Int) (x : Int) (a4 : Sl), ∃ (y : Int) (b4 : Sl), forL (gSet 4) d__law_dice_b1 (ns.map .int) ⟨[a0, a1, a2, .val (.int x), a4], c⟩ = .nx ⟨[a0, a1, a2, .val (.int y), b4], c⟩
  | [], x, a4 => ⟨x, a4, rfl⟩
  | n :: ns, x, a4 => by
    have m1 := mulD_ii (i := x) (j := 48271) (by simp [lim64])
    have d1 := fun i : Int => modD_ii (i := i) (j := 2147480009) (by decide)
    have e1 : d__law_dice_b1 ⟨[a0, a1, a2, .val (.int x), .val (.int n)], c⟩ = .nx ⟨[a0, a1, a2, .val (.int ((x * 48271 + n % 2147480009) % 2147480009)), .val (.int n)], c⟩ := by
      unfold d__law_dice_b1
      simp -implicitDefEqProofs [eVar_val, m1, d1]
    obtain ⟨y, b4, e⟩ := dice_loop ns _ (.val (.int n))
    exact ⟨y, b4, by rw [List.map_cons, forL_nx (by rfl) e1, e]⟩
/-- the rest, once the seed is drawn -/
theorem dice_t {ns : List Int} {i : Nat} (hi : i < 5) : ∃ a b : Int, F__law_dice [dscr (ns.map .int), .int i] [] = .ok (.own [.int a, .int b, .int 0]) [] := by
  have es : startS 5 [dscr (ns.map .int), .int i] [] = ⟨[.val (dscr (ns.map .int)), .val (.int i), .un, .un, .un], []⟩ := rfl
  have l : lenB [dscr (ns.map PyData.int)] = some (.val (.int (ns.length))) := by
    simp [lenB, dscr]
  have m1 := mulD_ii (i := 733) (j := (i : Int)) (by simp [lim64])
  have m2 := mulD_ii (i := 7907) (j := (i : Int)) (by simp [lim64])
  have sl : slD (dscr (ns.map PyData.int)) none (some 6) = some (.own ((ns.take 6).map .int)) := by
    show some (Sl.own (DL.cutD (ns.map PyData.int) none (some ((6 : Nat) : Int)))) = _
    rw [cut_take, List.map_take]
  have ad : ∀ v : Int, addD (.list ((ns.take 6).map .int)) (.list [.int v]) = some (.own (((ns.take 6) ++ [v]).map .int)) := fun v => by
    have h1 : ((ns.take 6).map PyData.int).length + [PyData.int v].length ≤ sizeLine := by
      rw [sizeLine_eq, List.length_map, List.length_take]
      simp
      omega
    show (if ((ns.take 6).map PyData.int).length + [PyData.int v].length ≤ sizeLine then some (Sl.own ((ns.take 6).map PyData.int ++ [PyData.int v])) else none) = _
    rw [if_pos h1, List.map_append]
    rfl
  have pw : powD (.int 10) (.int 16) = some (.val (.int 10000000000000000)) := rfl
  have ab : ∀ v : Int, absB [.int v] = some (.val (.int (if v < 0 then -v else v))) := fun v => rfl
  have fin : ∀ v : Int, ∃ a b : Int, (((dSeq (dSet 3 (eAdd (eC (.int 930011)) (eMul (eC (.int 7907)) (eVar 1)))) (dSeq (dFor (iSeq (eAdd (eSl (eVar 0) none (some (eC (.int 6)))) (eLst (aCons (eVar 2) aNil)))) (gSet 4) d__law_dice_b1) (dRet (eLst (aCons (eIf (eOr (eLt (eVar 2) (eC (.int 0))) (eGe (eVar 2) (ePow (eC (.int 10)) (eC (.int 16))))) (eB absB (aCons (eVar 2) aNil)) (eC (.int 0))) (aCons (eVar 3) (aCons (eC (.int 0)) aNil))))))) ⟨[.val (dscr (ns.map .int)), .val (.int i), .val (.int v), .un, .un], []⟩).fin) = .ok (.own [.int a, .int b, .int 0]) [] := fun v => by
    obtain ⟨y, b4, e⟩ := dice_loop (a0 := .val (dscr (ns.map .int))) (a1 := .val (.int i)) (a2 := .val (.int v)) (c := []) (ns.take 6 ++ [v]) (930011 + 7907 * i) .un
    have adv := ad v
    generalize (ns.take 6 ++ [v]).map PyData.int = W at e adv
    generalize (ns.take 6).map PyData.int = U at sl adv
    by_cases g : v < 0
    · refine ⟨-v, y, ?_⟩
      simp -implicitDefEqProofs [eVar_val, m2, partD, sl, adv, e, g]
    · by_cases g2 : 10000000000000000 ≤ v
      · refine ⟨v, y, ?_⟩
        simp -implicitDefEqProofs [eVar_val, m2, partD, sl, adv, e, g, g2, pw]
      · refine ⟨0, y, ?_⟩
        simp -implicitDefEqProofs [eVar_val, m2, partD, sl, adv, e, g, g2, pw]
  rw [F__law_dice, fnD_eq, es]
  unfold d__law_dice
  by_cases hl : i < ns.length
  · have e := atI_nat (xs := ns.map PyData.int) (i := i) (x := .int (ns[i])) (by rw [List.getElem?_map, List.getElem?_eq_getElem hl]; rfl)
    obtain ⟨a, b, f⟩ := fin ns[i]
    refine ⟨a, b, ?_⟩
    rw [← f, dSeq_eq]
    have s0 : dSet 2 (eIf (eLt (eVar 1) (eLenN 0)) (eIxN 0 (eVar 1)) (eAdd (eMul (eC (.int 733)) (eVar 1)) (eC (.int 29)))) ⟨[.val (dscr (ns.map .int)), .val (.int i), .un, .un, .un], []⟩ = .nx ⟨[.val (dscr (ns.map .int)), .val (.int i), .val (.int ns[i]), .un, .un], []⟩ := by
      simp -implicitDefEqProofs [eVar_val, eLenN_val, eIxN_val, l, hl, e]
    rw [s0, seq_nx]
  · obtain ⟨a, b, f⟩ := fin (733 * i + 29)
    refine ⟨a, b, ?_⟩
    rw [← f, dSeq_eq]
    have s0 : dSet 2 (eIf (eLt (eVar 1) (eLenN 0)) (eIxN 0 (eVar 1)) (eAdd (eMul (eC (.int 733)) (eVar 1)) (eC (.int 29)))) ⟨[.val (dscr (ns.map .int)), .val (.int i), .un, .un, .un], []⟩ = .nx ⟨[.val (dscr (ns.map .int)), .val (.int i), .val (.int (733 * i + 29)), .un, .un], []⟩ := by
      simp -implicitDefEqProofs [eVar_val, eLenN_val, l, hl, m1]
    rw [s0, seq_nx]
section
variable {α : Type} (R : Nat → α) (B T : Nat)
/-- from B on all comes again after u -/
def Per (u : Nat) : Prop := ∀ t, B ≤ t → R (t + u) = R t
variable {R B T}
theorem Per.mul {u : Nat} (h : Per R B u) : ∀ (k t : Nat), B ≤ t → R (t + u * k) = R t
  | 0, t, _ => rfl
  | k + 1, t, ht => by rw [Nat.mul_succ, ← Nat.add_assoc, h _ (by omega), Per.mul h k t ht]
theorem Per.mod {u : Nat} (h : Per R B u) (s : Nat) : R (B + s) = R (B + s % u) := by
  have := h.mul (s / u) (B + s % u) (by omega)
  rw [Nat.add_assoc, Nat.mod_add_div] at this
  exact this
/-- the least one -/
structure Lst (R : Nat → α) (B a : Nat) : Prop where
  pos : 1 ≤ a
  per : Per R B a
  min : ∀ u, 1 ≤ u → u < a → ¬ Per R B u
theorem lst_ex (hT : 1 ≤ T) (h : Per R B T) : ∃ a, Lst R B a := by
  induction T using Nat.strongRecOn with
  | ind T ih =>
    by_cases q : ∃ u, 1 ≤ u ∧ u < T ∧ Per R B u
    · obtain ⟨u, u1, u2, p⟩ := q
      exact ih u u2 u1 p
    · exact ⟨T, hT, h, fun u u1 u2 p => q ⟨u, u1, u2, p⟩⟩
theorem Lst.le {a : Nat} (l : Lst R B a) (hT : 1 ≤ T) (h : Per R B T) : a ≤ T := Nat.le_of_not_lt fun q => l.min T hT q h
theorem Lst.dvd {a : Nat} (l : Lst R B a) (hT : 1 ≤ T) (h : Per R B T) : T % a = 0 := by
  refine Classical.byContradiction fun q => ?_
  have hlt := Nat.mod_lt T (show 0 < a from l.pos)
  refine l.min (T % a) (by omega) hlt fun t ht => ?_
  have e1 := l.per.mul (T / a) (t + T % a) (by omega)
  rw [Nat.add_assoc, Nat.mod_add_div, h t ht] at e1
  exact e1.symm
/-- seen at one turn alone -/
theorem per_turn (hT : 1 ≤ T) (h : Per R B T) {u : Nat} (hu : 1 ≤ u) (hd : T % u = 0) : Per R B u ↔ ∀ i, i < T → R (B + i % u) = R (B + i) := by
  constructor
  · intro p i _
    exact (p.mod i).symm
  · intro q t ht
    obtain ⟨s, rfl⟩ : ∃ s, t = B + s := ⟨t - B, by omega⟩
    have key : ∀ s, R (B + s) = R (B + s % u) := fun s => by
      rw [h.mod s, ← q (s % T) (Nat.mod_lt _ (by omega)), Nat.mod_mod_of_dvd _ (Nat.dvd_of_mod_eq_zero hd)]
    rw [Nat.add_assoc, key (s + u), key s, Nat.add_mod_right]
theorem per_two (hT : 1 ≤ T) (h : Per R B T) {u : Nat} : Per R B u ↔ ∀ i, i < 2 * T → R (B + i % T) = R (B + (u + i) % T) := by
  have key : ∀ s, R (B + s % T) = R (B + s) := fun s => (h.mod s).symm
  constructor
  · intro p i _
    rw [key, key, ← p (B + i) (by omega), Nat.add_assoc, Nat.add_comm i u]
  · intro q t ht
    obtain ⟨s, rfl⟩ : ∃ s, t = B + s := ⟨t - B, by omega⟩
    have hl := Nat.mod_lt s (show 0 < T by omega)
    have e := q (s % T) (by omega)
    rw [key, key, key] at e
    rw [Nat.add_assoc, e, h.mod (s + u), h.mod (u + s % T)]
    rw [Nat.add_comm u, Nat.mod_add_mod]
/-- where it begins -/
structure Bgn (R : Nat → α) (B a b : Nat) : Prop where
  le : b ≤ B
  same : ∀ t, b ≤ t → t < B → R t = R (t + a)
  edge : b = 0 ∨ R (b - 1) ≠ R (b - 1 + a)
theorem bgn_ex (a : Nat) : ∃ b, Bgn R B a b := by
  have key : ∀ b, b ≤ B → (∀ t, b ≤ t → t < B → R t = R (t + a)) → ∃ b, Bgn R B a b := by
    intro b
    induction b with
    | zero => exact fun h1 h2 => ⟨0, h1, h2, .inl rfl⟩
    | succ b ih =>
      intro h1 h2
      by_cases q : R b = R (b + a)
      · refine ih (by omega) fun t t1 t2 => ?_
        by_cases e : t = b
        · subst e
          exact q
        · exact h2 t (by omega) t2
      · exact ⟨b + 1, h1, h2, .inr (by simpa using q)⟩
  exact key B (Nat.le_refl _) fun t t1 t2 => by omega
theorem Bgn.iff {a b n : Nat} (g : Bgn R B a b) (p : Per R B a) (hn : B < n) {s : Nat} (hs : s < n) : (∀ t, s ≤ t → t < n → R t = R (t + a)) ↔ b ≤ s := by
  constructor
  · intro h
    refine Nat.le_of_not_lt fun q => ?_
    rcases g.edge with e | e
    · omega
    · exact e (h (b - 1) (by omega) (by have := g.le; omega))
  · intro h t t1 t2
    by_cases q : t < B
    · exact g.same t (by omega) q
    · exact (p t (by omega)).symm
end
theorem filter_first {α : Type} {p : α → Bool} {x : α} : ∀ {as bs : List α}, (∀ a ∈ as, p a = false) → p x = true → ∃ r, ((as ++ x :: bs).filter p) = x :: r
  | [], bs, _, hx => ⟨bs.filter p, by rw [List.nil_append, List.filter_cons_of_pos hx]⟩
  | a :: as, bs, h, hx => by
    obtain ⟨r, e⟩ := filter_first (as := as) (bs := bs) (fun y hy => h y (List.mem_cons_of_mem _ hy)) hx
    exact ⟨r, by rw [List.cons_append, List.filter_cons_of_neg (by rw [h a (by simp)]; decide), e]⟩
theorem range_first {p : Nat → Bool} {lo n a : Nat} (h1 : lo ≤ a) (h2 : a < lo + n) (hp : p a = true) (hm : ∀ u, lo ≤ u → u < a → p u = false) : ∃ r, (List.range' lo n).filter p = a :: r := by
  have e : List.range' lo n = List.range' lo (a - lo) ++ a :: List.range' (a + 1) (n - (a - lo) - 1) := by
    have e1 := List.range'_append (s := lo) (m := a - lo) (n := n - (a - lo)) (step := 1)
    rw [show lo + 1 * (a - lo) = a by omega, show a - lo + (n - (a - lo)) = n by omega] at e1
    rw [← e1]
    congr 1
    obtain ⟨k, hk⟩ : ∃ k, n - (a - lo) = k + 1 := ⟨n - (a - lo) - 1, by omega⟩
    rw [hk, List.range'_succ]
    rfl
  rw [e]
  exact filter_first (fun u hu => hm u (by rw [List.mem_range'_1] at hu; omega) (by rw [List.mem_range'_1] at hu; omega)) hp
theorem range_none {p : Nat → Bool} {lo n : Nat} (hm : ∀ u, lo ≤ u → u < lo + n → p u = false) : (List.range' lo n).filter p = [] := by
  rw [List.filter_eq_nil_iff]
  intro u hu
  rw [List.mem_range'_1] at hu
  rw [hm u hu.1 hu.2]
  decide
section
variable {α : Type} [DecidableEq α] {f : α → D} {R : Nat → α} {B T : Nat} {c : List Int} {p0 p1 p2 : Sl}
abbrev FL (R : Nat → α) (n : Nat) : List α := (List.range' 0 n).map R
theorem FL_at {n i : Nat} : (FL R n)[i]? = if i < n then some (R i) else none := by
  unfold FL
  rw [List.getElem?_map]
  by_cases h : i < n
  · rw [List.getElem?_range' h, if_pos h]
    simp
  · rw [List.getElem?_eq_none (by simpa using h), if_neg h]
    rfl
theorem FL_len {n : Nat} : (FL R n).length = n := by simp [FL]
theorem FL_drop_at {i : Nat} : ((FL R (B + T)).drop B)[i]? = if i < T then some (R (B + i)) else none := by
  rw [List.getElem?_drop, FL_at]
  by_cases h : i < T
  · rw [if_pos h, if_pos (by omega)]
  · rw [if_neg h, if_neg (by omega)]
theorem FL_drop_len : ((FL R (B + T)).drop B).length = T := by rw [List.length_drop, FL_len]; omega
def Qs (R : Nat → α) (B T u : Nat) : Prop := T % u = 0 ∧ (List.replicate (T / u) (((FL R (B + T)).drop B).take u)).flatten = (FL R (B + T)).drop B
theorem Qs_iff (hT : 1 ≤ T) (p : Per R B T) {u : Nat} (h1 : 1 ≤ u) (h2 : u ≤ T) : Qs R B T u ↔ T % u = 0 ∧ Per R B u := by
  have htl : (((FL R (B + T)).drop B).take u).length = u := by rw [List.length_take, FL_drop_len]; omega
  have hdm := Nat.div_add_mod T u
  have tk : ∀ j, j < u → (((FL R (B + T)).drop B).take u)[j]? = some (R (B + j)) := fun j hj => by rw [List.getElem?_take, if_pos hj, FL_drop_at, if_pos (by omega)]
  have rp : ∀ i, i < T → T % u = 0 → (List.replicate (T / u) (((FL R (B + T)).drop B).take u)).flatten[i]? = some (R (B + i % u)) := fun i hi hd => by
    rw [rep_at (by omega) _ _ (by rw [htl, Nat.mul_comm]; omega), htl, tk _ (Nat.mod_lt _ (by omega))]
  unfold Qs
  constructor
  · rintro ⟨hd, e⟩
    refine ⟨hd, (per_turn hT p h1 hd).mpr fun i hi => ?_⟩
    have := rp i hi hd
    rw [e, FL_drop_at, if_pos hi] at this
    exact (Option.some.inj this).symm
  · rintro ⟨hd, q⟩
    refine ⟨hd, ?_⟩
    have q := (per_turn hT p h1 hd).mp q
    apply List.ext_getElem?
    intro i
    by_cases hi : i < T
    · rw [rp i hi hd, FL_drop_at, if_pos hi, q i hi]
    · have hlen := rep_len (l := ((FL R (B + T)).drop B).take u) (T / u)
      rw [htl, Nat.mul_comm] at hlen
      rw [List.getElem?_eq_none (by omega), FL_drop_at, if_neg hi]
theorem mulD_lst {xs : List D} {k : Nat} (hk : k < 1000000) (h : xs.length * k ≤ sizeLine) : mulD (.list xs) (.int k) = some (.own (List.replicate k xs).flatten) := by
  have h62 : (k : Int) < 2 ^ 62 := Int.lt_trans (show (k : Int) < 1000000 by omega) (by simp)
  have h0 : (0 : Int) ≤ k := by omega
  have hn : (k : Int).toNat = k := Int.toNat_natCast k
  unfold mulD
  simp only [h0, h62, hn, h, and_self, if_true]
end
abbrev Stg := Int × Int × Int
abbrev Tri := Int × Int × Int
def stepC : List Stg → List Int → List (List Int) → Int → Int → Nat → List Tri
  | (z, _, h) :: cs, l :: ls, n :: ns, r, f, t => stepI z l (h * r + f) (am n t) :: stepC cs ls ns r (stepI z l (h * r + f) (am n t)).2.1 t
  | _, _, _, _, _, _ => []
def lvs (ch : List Stg) (rs : List Int) (ns : List (List Int)) : Nat → List Int
  | 0 => ch.map (·.2.1)
  | t + 1 => (stepC ch (lvs ch rs ns t) ns (am rs t) 0 t).map (·.1)
def row (ch : List Stg) (rs : List Int) (ns : List (List Int)) (t : Nat) : List Tri := stepC ch (lvs ch rs ns t) ns (am rs t) 0 t
theorem lvs_succ {ch : List Stg} {rs : List Int} {ns : List (List Int)} {t : Nat} : lvs ch rs ns (t + 1) = (row ch rs ns t).map (·.1) := rfl
def sl (z s : Int) (fl : Nat → Int) (n : List Int) : Nat → Int
  | 0 => s
  | t + 1 => (stepI z (sl z s fl n t) (fl t) (am n t)).1
def sp (z s : Int) (fl : Nat → Int) (n : List Int) (t : Nat) : Int := (stepI z (sl z s fl n t) (fl t) (am n t)).2.1
def lvS (rs : List Int) : List Stg → List (List Int) → (Nat → Int) → Nat → List Int
  | (z, s, h) :: cs, n :: ns, f, t => sl z s (fun t => h * am rs t + f t) n t :: lvS rs cs ns (sp z s (fun t => h * am rs t + f t) n) t
  | _, _, _, _ => []
theorem stepC_lvS {rs : List Int} : ∀ (cs : List Stg) (ns : List (List Int)) (f : Nat → Int) (t : Nat), (stepC cs (lvS rs cs ns f t) ns (am rs t) (f t) t).map (·.1) = lvS rs cs ns f (t + 1)
  | [], _, _, _ => rfl
  | (z, s, h) :: cs, [], _, _ => rfl
  | (z, s, h) :: cs, n :: ns, f, t => by
    show _ :: _ = _ :: _
    congr 1
    exact stepC_lvS cs ns (sp z s (fun t => h * am rs t + f t) n) t
theorem lvS_zero {rs : List Int} : ∀ (cs : List Stg) (ns : List (List Int)) (f : Nat → Int), cs.length = ns.length → lvS rs cs ns f 0 = cs.map (·.2.1)
  | [], _, _, _ => rfl
  | (z, s, h) :: cs, [], _, e => by simp at e
  | (z, s, h) :: cs, n :: ns, f, e => by
    show _ :: _ = _ :: _
    congr 1
    exact lvS_zero cs ns _ (by simpa using e)
theorem lvs_S {rs : List Int} {cs : List Stg} {ns : List (List Int)} (e : cs.length = ns.length) : ∀ t, lvs cs rs ns t = lvS rs cs ns (fun _ => 0) t
  | 0 => (lvS_zero cs ns _ e).symm
  | t + 1 => by
    rw [lvs, lvs_S e t]
    exact stepC_lvS cs ns (fun _ => 0) t
def w (z : Int) (fl : Nat → Int) (n : List Int) : Nat → Int → Nat → Int
  | _, l, 0 => l
  | t, l, k + 1 => w z fl n (t + 1) (stepI z l (fl t) (am n t)).1 k
section
variable {z s : Int} {fl : Nat → Int} {n : List Int} {B T : Nat}
theorem sl_add : ∀ (k t : Nat), sl z s fl n (t + k) = w z fl n t (sl z s fl n t) k
  | 0, t => rfl
  | k + 1, t => by
    rw [show t + (k + 1) = t + 1 + k by omega, sl_add k (t + 1)]
    rfl
theorem w_shift (hf : ∀ t, B ≤ t → fl (t + T) = fl t) (hn : n.length ∣ T) : ∀ (k t : Nat) (l : Int), B ≤ t → w z fl n (t + T) l k = w z fl n t l k
  | 0, _, _, _ => rfl
  | k + 1, t, l, h => by
    rw [w, w, hf t h, am_shift hn, show t + T + 1 = t + 1 + T by omega]
    exact w_shift hf hn k (t + 1) _ (by omega)
theorem w_shifts (hf : ∀ t, B ≤ t → fl (t + T) = fl t) (hn : n.length ∣ T) : ∀ (j k t : Nat) (l : Int), B ≤ t → w z fl n (t + j * T) l k = w z fl n t l k
  | 0, k, t, l, h => by rw [Nat.zero_mul, Nat.add_zero]
  | j + 1, k, t, l, h => by
    rw [show t + (j + 1) * T = t + j * T + T by rw [Nat.add_mul, Nat.one_mul]; omega, w_shift hf hn _ _ _ (by omega), w_shifts hf hn j k t l h]
theorem w_mono : ∀ (k t : Nat) (l m : Int), l ≤ m → w z fl n t l k ≤ w z fl n t m k
  | 0, _, _, _, h => h
  | k + 1, t, l, m, h => by
    rw [w, w]
    exact w_mono k _ _ _ (by simp only [stepI]; omega)
theorem sl_in (hf : ∀ t, 0 ≤ fl t) (hn : ∀ t, 0 ≤ am n t) (h : 0 ≤ s ∧ s ≤ z) : ∀ t, 0 ≤ sl z s fl n t ∧ sl z s fl n t ≤ z
  | 0 => h
  | t + 1 => by
    have := sl_in hf hn h t
    have := hf t
    have := hn t
    simp only [sl, stepI]
    omega
theorem sp_pos (t : Nat) : 0 ≤ sp z s fl n t := by
  simp only [sp, stepI]
  omega
theorem mono_settles {x : Nat → Int} {g : Int → Int} (hg : ∀ j, x (j + 1) = g (x j)) (mono : ∀ a b, a ≤ b → g a ≤ g b) (hx : ∀ j, 0 ≤ x j ∧ x j ≤ z) : ∃ j, j ≤ z.toNat ∧ x (j + 1) = x j := by
  have hz := hx 0
  refine Classical.byContradiction fun hn => ?_
  have hn : ∀ j, j ≤ z.toNat → x (j + 1) ≠ x j := fun j hj e => hn ⟨j, hj, e⟩
  rcases Int.le_total (x 0) (x 1) with u | u
  · have up : ∀ j, x j ≤ x (j + 1) := fun j => by
      induction j with
      | zero => exact u
      | succ j ih =>
        have q := mono _ _ ih
        rw [← hg j, ← hg (j + 1)] at q
        exact q
    have k : ∀ j, j ≤ z.toNat + 1 → (j : Int) ≤ x j := by
      intro j
      induction j with
      | zero => intro _; exact hz.1
      | succ j ih =>
        intro hj
        have a := ih (by omega)
        have b := up j
        have e := hn j (by omega)
        omega
    have a := k (z.toNat + 1) (by omega)
    have b := (hx (z.toNat + 1)).2
    omega
  · have dn : ∀ j, x (j + 1) ≤ x j := fun j => by
      induction j with
      | zero => exact u
      | succ j ih =>
        have q := mono _ _ ih
        rw [← hg j, ← hg (j + 1)] at q
        exact q
    have k : ∀ j, j ≤ z.toNat + 1 → x j ≤ z - j := by
      intro j
      induction j with
      | zero => intro _; have := hz.2; omega
      | succ j ih =>
        intro hj
        have a := ih (by omega)
        have b := dn j
        have e := hn j (by omega)
        omega
    have a := k (z.toNat + 1) (by omega)
    have b := (hx (z.toNat + 1)).1
    omega
theorem sl_settles {J : Nat} (hf : ∀ t, J * T ≤ t → fl (t + T) = fl t) (hd : n.length ∣ T) (hp : ∀ t, 0 ≤ fl t) (hn : ∀ t, 0 ≤ am n t) (h : 0 ≤ s ∧ s ≤ z) :
    ∃ j, j ≤ z.toNat ∧ ∀ t, (J + j) * T ≤ t → sl z s fl n (t + T) = sl z s fl n t := by
  have hg : ∀ j, sl z s fl n ((J + (j + 1)) * T) = w z fl n (J * T) (sl z s fl n ((J + j) * T)) T := fun j => by
    rw [show (J + (j + 1)) * T = (J + j) * T + T by rw [← Nat.add_assoc, Nat.add_mul _ 1, Nat.one_mul], sl_add]
    have e := w_shifts (z := z) hf hd j T (J * T) (sl z s fl n ((J + j) * T)) (Nat.le_refl _)
    rw [← Nat.add_mul] at e
    exact e
  obtain ⟨j, hj, e⟩ := mono_settles (z := z) (x := fun j => sl z s fl n ((J + j) * T)) (g := fun l => w z fl n (J * T) l T) hg (fun a b hab => w_mono _ _ _ _ hab) fun j => sl_in hp hn h _
  refine ⟨j, hj, fun t ht => ?_⟩
  obtain ⟨r, rfl⟩ : ∃ r, t = (J + j) * T + r := ⟨t - (J + j) * T, by omega⟩
  have e : sl z s fl n ((J + j) * T + T) = sl z s fl n ((J + j) * T) := by
    rw [show (J + j) * T + T = (J + (j + 1)) * T by rw [← Nat.add_assoc, Nat.add_mul _ 1, Nat.one_mul]]
    exact e
  have hle : J * T ≤ (J + j) * T := Nat.mul_le_mul_right _ (by omega)
  rw [show (J + j) * T + r + T = (J + j) * T + T + r by omega, sl_add r, e, sl_add r, w_shift hf hd _ _ _ hle]
end
def StOk (m : Int) (p : Stg) : Prop := 1 ≤ p.1 ∧ p.1 ≤ m ∧ 0 ≤ p.2.1 ∧ p.2.1 ≤ p.1 ∧ 0 ≤ p.2.2 ∧ p.2.2 ≤ 5
theorem lvS_settles {rs : List Int} {T : Nat} (hr : rs.length ∣ T) (hrp : ∀ t, 0 ≤ am rs t) {m : Int} : ∀ (cs : List Stg) (ns : List (List Int)) (f : Nat → Int) (J : Nat), (∀ p ∈ cs, StOk m p) → (∀ n ∈ ns, n.length ∣ T ∧ ∀ t, 0 ≤ am n t) →
    (∀ t, 0 ≤ f t) → (∀ t, J * T ≤ t → f (t + T) = f t) → ∃ J', J' ≤ J + cs.length * m.toNat ∧ ∀ t, J' * T ≤ t → lvS rs cs ns f (t + T) = lvS rs cs ns f t
  | [], _, _, J, _, _, _, _ => ⟨J, by simp, fun _ _ => rfl⟩
  | (z, s, h) :: cs, [], _, J, _, _, _, _ => ⟨J, by omega, fun _ _ => rfl⟩
  | (z, s, h) :: cs, n :: ns, f, J, hc, hn, hp, hf => by
    obtain ⟨z1, z2, s1, s2, h1, h2⟩ := hc (z, s, h) (by simp)
    obtain ⟨d1, d2⟩ := hn n (by simp)
    have fp : ∀ t, 0 ≤ h * am rs t + f t := fun t => by
      have := Int.mul_nonneg h1 (hrp t)
      have := hp t
      simp only at *
      omega
    have fs : ∀ t, J * T ≤ t → h * am rs (t + T) + f (t + T) = h * am rs t + f t := fun t ht => by rw [am_shift hr, hf t ht]
    obtain ⟨j, hj, e⟩ := sl_settles (z := z) (s := s) (fl := fun t => h * am rs t + f t) (n := n) fs d1 fp d2 ⟨s1, s2⟩
    have hle : J * T ≤ (J + j) * T := Nat.mul_le_mul_right _ (by omega)
    have spe : ∀ t, (J + j) * T ≤ t → sp z s (fun t => h * am rs t + f t) n (t + T) = sp z s (fun t => h * am rs t + f t) n t := fun t ht => by
      simp only [sp]
      rw [e t ht, fs t (by omega), am_shift d1]
    obtain ⟨J', hJ', e'⟩ := lvS_settles hr hrp cs ns (sp z s (fun t => h * am rs t + f t) n) (J + j) (fun p hp => hc p (List.mem_cons_of_mem _ hp)) (fun n hn' => hn n (List.mem_cons_of_mem _ hn')) (fun t => sp_pos t) spe
    refine ⟨max J' (J + j), ?_, fun t ht => ?_⟩
    · have : (cs.length + 1) * m.toNat = cs.length * m.toNat + m.toNat := by rw [Nat.add_mul, Nat.one_mul]
      simp only [List.length_cons]
      simp only at z2
      rw [this]
      have : z.toNat ≤ m.toNat := by omega
      have h1 : J' ≤ J + (cs.length * m.toNat + m.toNat) := by omega
      have h2 : J + j ≤ J + (cs.length * m.toNat + m.toNat) := by omega
      exact Nat.max_le.mpr ⟨h1, h2⟩
    · have a : J' * T ≤ max J' (J + j) * T := Nat.mul_le_mul_right _ (Nat.le_max_left _ _)
      have b : (J + j) * T ≤ max J' (J + j) * T := Nat.mul_le_mul_right _ (Nat.le_max_right _ _)
      show _ :: _ = _ :: _
      rw [e t (by omega), e' t (by omega)]
section
variable {ch : List Stg} {rs : List Int} {ns : List (List Int)} {T J : Nat}
theorem stepC_shift : ∀ (cs : List Stg) (ls : List Int) (ns : List (List Int)) (r f : Int) (t : Nat), (∀ n ∈ ns, n.length ∣ T) → stepC cs ls ns r f (t + T) = stepC cs ls ns r f t
  | [], _, _, _, _, _, _ => rfl
  | (z, s, h) :: cs, [], _, _, _, _, _ => rfl
  | (z, s, h) :: cs, l :: ls, [], _, _, _, _ => rfl
  | (z, s, h) :: cs, l :: ls, n :: ns, r, f, t, hn => by
    show _ :: _ = _ :: _
    rw [am_shift (hn n (by simp)), stepC_shift cs ls ns r _ t fun m hm => hn m (List.mem_cons_of_mem _ hm)]
theorem lvs_stays (hr : rs.length ∣ T) (hn : ∀ n ∈ ns, n.length ∣ T) (e : lvs ch rs ns ((J + 1) * T) = lvs ch rs ns (J * T)) : ∀ r, lvs ch rs ns (J * T + r + T) = lvs ch rs ns (J * T + r)
  | 0 => by
    rw [Nat.add_zero, ← e, Nat.add_mul, Nat.one_mul]
  | r + 1 => by
    have ih := lvs_stays hr hn e r
    rw [show J * T + (r + 1) + T = J * T + r + T + 1 by omega, show J * T + (r + 1) = J * T + r + 1 by omega, lvs, lvs, ih, am_shift hr, stepC_shift _ _ _ _ _ _ hn]
theorem row_per (hr : rs.length ∣ T) (hn : ∀ n ∈ ns, n.length ∣ T) (e : lvs ch rs ns ((J + 1) * T) = lvs ch rs ns (J * T)) : Per (row ch rs ns) (J * T) T := by
  intro t ht
  obtain ⟨r, rfl⟩ : ∃ r, t = J * T + r := ⟨t - J * T, by omega⟩
  unfold row
  rw [lvs_stays hr hn e, am_shift hr, stepC_shift _ _ _ _ _ _ hn]
theorem lvs_first {m : Int} (hr : rs.length ∣ T) (hrp : ∀ t, 0 ≤ am rs t) (hl : ch.length = ns.length) (hc : ∀ p ∈ ch, StOk m p) (hn : ∀ n ∈ ns, n.length ∣ T ∧ ∀ t, 0 ≤ am n t) :
    ∃ J, J ≤ ch.length * m.toNat ∧ lvs ch rs ns ((J + 1) * T) = lvs ch rs ns (J * T) ∧ ∀ j, j < J → lvs ch rs ns ((j + 1) * T) ≠ lvs ch rs ns (j * T) := by
  obtain ⟨J, hJ, e⟩ := lvS_settles hr hrp ch ns (fun _ => 0) 0 hc hn (fun _ => Int.le_refl _) (fun _ _ => rfl)
  have e : lvs ch rs ns ((J + 1) * T) = lvs ch rs ns (J * T) := by
    rw [lvs_S hl, lvs_S hl, Nat.add_mul, Nat.one_mul]
    exact e _ (Nat.le_refl _)
  rw [Nat.zero_add] at hJ
  rename_i e0
  clear hc hn hrp hr hl e0
  induction J using Nat.strongRecOn with
  | ind J ih =>
    by_cases q : ∃ i, i < J ∧ lvs ch rs ns ((i + 1) * T) = lvs ch rs ns (i * T)
    · obtain ⟨i, hi, ei⟩ := q
      exact ih i hi (by omega) ei
    · exact ⟨J, hJ, e, fun i hi ei => q ⟨i, hi, ei⟩⟩
end
theorem stepC_len : ∀ (cs : List Stg) (ls : List Int) (ns : List (List Int)) (r f : Int) (t : Nat), cs.length = ls.length → cs.length = ns.length → (stepC cs ls ns r f t).length = cs.length
  | [], _, _, _, _, _, _, _ => rfl
  | (z, s, h) :: cs, [], _, _, _, _, e, _ => by simp at e
  | (z, s, h) :: cs, l :: ls, [], _, _, _, _, e => by simp at e
  | (z, s, h) :: cs, l :: ls, n :: ns, r, f, t, e, e' => by
    show (_ :: _).length = _
    rw [List.length_cons, stepC_len cs ls ns r _ t (by simpa using e) (by simpa using e'), List.length_cons]
theorem lvs_len {ch : List Stg} {rs : List Int} {ns : List (List Int)} (h : ch.length = ns.length) : ∀ t, (lvs ch rs ns t).length = ch.length
  | 0 => by simp [lvs]
  | t + 1 => by rw [lvs, List.length_map, stepC_len _ _ _ _ _ _ (lvs_len h t).symm h]
theorem row_len {ch : List Stg} {rs : List Int} {ns : List (List Int)} (h : ch.length = ns.length) (t : Nat) : (row ch rs ns t).length = ch.length := stepC_len _ _ _ _ _ _ (lvs_len h t).symm h
theorem allL_t {α : Type} {g : D → S → Option S} {te : DE} {vs : List Nat} {s : S} {f : α → D} : ∀ as : List α, (∀ a ∈ as, ∃ s1, g (f a) { s with e := wipeE s.e vs } = some s1 ∧ te s1 = .ok (.val (.bool true)) s1 ∧ { s1 with e := mg vs s.e s1.e } = s) →
    allL g te vs (as.map f) s = .ok (.val (.bool true)) s
  | [], _ => rfl
  | a :: as, h => by
    obtain ⟨s1, h1, h2, h3⟩ := h a (by simp)
    rw [List.map_cons]
    unfold allL
    simp only [h1, h2]
    rw [h3]
    exact allL_t as fun b hb => h b (List.mem_cons_of_mem _ hb)
def chD (ch : List Stg) : D := .tuple (ch.map stepD)
def lsD (ls : List Int) : D := .list (ls.map .int)
def nsD (ns : List (List Int)) : D := .tuple (ns.map rowD)
def rowT (ts : List Tri) : D := .tuple (ts.map stepD)
section
variable {c : List Int}
theorem is_stage_eq {p : Stg} (h : StOk 300 p) : F_is_stage [stepD p] c = .ok (.val (.bool true)) c := by
  obtain ⟨h1, h2, h3, h4, h5, h6⟩ := h
  have es : startS 2 [stepD p] c = ⟨[.val (stepD p), .un], c⟩ := rfl
  have ii : ∀ i : Int, F_is_integer [.int i] c = .ok (.val (.bool true)) c := fun i => is_integer_int
  obtain ⟨z, s, k⟩ := p
  simp only at h1 h2 h3 h4 h5 h6
  have e : allK [1] (gSet 1) d_is_stage_e2 [.int z, .int s, .int k] ⟨[.val (.tuple [.int z, .int s, .int k]), .un], c⟩ = .ok (.val (.bool true)) ⟨[.val (.tuple [.int z, .int s, .int k]), .un], c⟩ := by
    refine allK_ok ?_
    exact allL_t (f := PyData.int) [z, s, k] fun a _ => ⟨_, rfl, by unfold d_is_stage_e2; simp -implicitDefEqProofs [eVar_val, wipeE, callR_mk (ii a)], rfl⟩
  have a0 : atI [PyData.int z, .int s, .int k] 0 = some (.int z) := rfl
  have a1 : atI [PyData.int z, .int s, .int k] 1 = some (.int s) := rfl
  have a2 : atI [PyData.int z, .int s, .int k] 2 = some (.int k) := rfl
  rw [F_is_stage, fnD_eq, es]
  unfold d_is_stage
  simp -implicitDefEqProofs [eVar_val, eLenN_val, eIxN_val, plainD, isiD, neD_ii, e, a0, a1, a2, h1, h2, h3, h4, h5, h6]
theorem is_chain_eq {ch : List Stg} (h : ∀ p ∈ ch, StOk 300 p) (h1 : 1 ≤ ch.length) (h2 : ch.length ≤ 4) : F_is_chain [chD ch] c = .ok (.val (.bool true)) c := by
  have es : startS 2 [chD ch] c = ⟨[.val (chD ch), .un], c⟩ := rfl
  have e : allK [1] (gSet 1) d_is_chain_e2 (ch.map stepD) ⟨[.val (.tuple (ch.map stepD)), .un], c⟩ = .ok (.val (.bool true)) ⟨[.val (.tuple (ch.map stepD)), .un], c⟩ :=
    allK_ok (allL_t ch fun p hp => ⟨_, rfl, by
      have := is_stage_eq (c := c) (h p hp)
      generalize ch.map stepD = CH
      generalize stepD p = P at this ⊢
      unfold d_is_chain_e2
      simp -implicitDefEqProofs [eVar_val, wipeE, callR_mk this], rfl⟩)
  have hl : ((ch.map stepD).length : Int) = ch.length := by rw [List.length_map]
  have g1 : (1 : Int) ≤ (ch.length : Int) := by omega
  have g2 : (ch.length : Int) ≤ 4 := by omega
  unfold chD at es ⊢
  generalize ch.map stepD = CH at es e hl ⊢
  rw [F_is_chain, fnD_eq, es]
  unfold d_is_chain
  simp -implicitDefEqProofs [eVar_val, eLenN_val, plainD, isiD, hl, g1, g2, e]
def NsOk (ns : List (List Int)) : Prop := ∀ n ∈ ns, RowOk n ∧ n.length ≤ 12
theorem are_needs_eq {ns : List (List Int)} (h : NsOk ns) : F_are_needs [nsD ns, .int ns.length] c = .ok (.val (.bool true)) c := by
  have es : startS 3 [nsD ns, .int ns.length] c = ⟨[.val (nsD ns), .val (.int ns.length), .un], c⟩ := rfl
  have e : allK [2] (gSet 2) d_are_needs_e2 (ns.map rowD) ⟨[.val (.tuple (ns.map rowD)), .val (.int ns.length), .un], c⟩ = .ok (.val (.bool true)) ⟨[.val (.tuple (ns.map rowD)), .val (.int ns.length), .un], c⟩ :=
    allK_ok (allL_t ns fun p hp => ⟨_, rfl, by
      have e1 := is_row_eq (c := c) (h p hp).1
      have e2 : ((p.map PyData.int).length : Int) ≤ 12 := by
        have := (h p hp).2
        rw [List.length_map]
        omega
      unfold rowD at e1 ⊢
      generalize p.map PyData.int = P at e1 e2 ⊢
      generalize (ns.map fun ns => PyData.tuple (ns.map PyData.int)) = NS
      unfold d_are_needs_e2
      simp -implicitDefEqProofs [eVar_val, eLenN_val, wipeE, callR_mk e1, e2], rfl⟩)
  have hl : ((ns.map rowD).length : Int) = ns.length := by rw [List.length_map]
  unfold nsD at es ⊢
  generalize ns.map rowD = NS at es e hl ⊢
  generalize (ns.length : Int) = N at es e hl ⊢
  rw [F_are_needs, fnD_eq, es]
  unfold d_are_needs
  simp -implicitDefEqProofs [eVar_val, eLenN_val, plainD, isiD, neD_ii, hl, e]
theorem need_chain_eq {ch : List Stg} {rs : List Int} {ns : List (List Int)} (h : ∀ p ∈ ch, StOk 300 p) (h1 : 1 ≤ ch.length) (h2 : ch.length ≤ 4) (hr : RowOk rs) (hr2 : rs.length ≤ 12) (hn : NsOk ns) (hl : ch.length = ns.length) : F_need_chain [chD ch, rowD rs, nsD ns] c = .ok (.val .none) c := by
  have es : startS 3 [chD ch, rowD rs, nsD ns] c = ⟨[.val (chD ch), .val (rowD rs), .val (nsD ns)], c⟩ := rfl
  have e1 := is_chain_eq (c := c) h h1 h2
  have e2 := need_row_eq (c := c) (x := "rains") hr
  have e3 := are_needs_eq (c := c) hn
  have l1 : ((ch.map stepD).length : Int) = ns.length := by rw [List.length_map, hl]
  have l2 : ¬ (12 : Int) < ((rs.map PyData.int).length : Int) := by rw [List.length_map]; omega
  unfold chD at es e1 ⊢
  unfold rowD at es e2 ⊢
  generalize ch.map stepD = CH at es e1 l1 ⊢
  generalize rs.map PyData.int = RS at es e2 l2 ⊢
  generalize nsD ns = NS at es e3 ⊢
  generalize (ns.length : Int) = N at e3 l1
  rw [F_need_chain, fnD_eq, es]
  unfold d_need_chain
  simp -implicitDefEqProofs [eVar_val, eLenN_val, callR_mk e1, callR_mk e2, l1, l2, callR_mk e3]
theorem drop_cons {α : Type} {xs ys : List α} {x : α} {i : Nat} (h : xs.drop i = x :: ys) : xs[i]? = some x ∧ xs.drop (i + 1) = ys := by
  refine ⟨?_, ?_⟩
  · have := List.getElem?_drop (xs := xs) (i := i) (j := 0)
    rw [h] at this
    simpa using this.symm
  · rw [← List.drop_drop, h]
    rfl
abbrev s12 (a0 a1 a2 a3 a4 a5 a6 a7 a8 a9 a10 a11 : Sl) (c : List Int) : S := ⟨[a0, a1, a2, a3, a4, a5, a6, a7, a8, a9, a10, a11], c⟩
theorem step_of_b {CH LS NS : List D} {p : Stg} {l r f : Int} {n : List Int} {t i : Nat} {acc : List D} {x8 x9 x10 x11 : Sl} (h1 : CH[i]? = some (stepD p)) (h2 : LS[i]? = some (.int l)) (h3 : NS[i]? = some (rowD n)) (hn : 1 ≤ n.length ∧ n.length ≤ 24) (ha : acc.length < sizeLine)
    (hb : -9223372036854775808 ≤ r ∧ r < 9223372036854775808) :
    ∃ y8 y9 y10 y11, d_step_of_b1 (s12 (.val (.tuple CH)) (.val (.list LS)) (.val (.int r)) (.val (.tuple NS)) (.val (.int t)) (.own acc) (.val (.int f)) (.val (.int i)) x8 x9 x10 x11 c) =
      .nx (s12 (.val (.tuple CH)) (.val (.list LS)) (.val (.int r)) (.val (.tuple NS)) (.val (.int t)) (.own (acc ++ [stepD (stepI p.1 l (p.2.2 * r + f) (am n t))])) (.val (.int (stepI p.1 l (p.2.2 * r + f) (am n t)).2.1)) (.val (.int i)) y8 y9 y10 y11 c) := by
  have a1 := atI_n h1
  have a2 := atI_n h2
  have a3 := atI_n h3
  have e1 := amount_at_eq (c := c) (i := t) hn.1 hn.2
  have e2 := after_eq (c := c) (z := p.1) (l := l) (r := p.2.2 * r + f) (n := am n t)
  have mu := mulD_nn (i := p.2.2) (j := r) hb
  obtain ⟨z, s, h⟩ := p
  generalize stepI z l (h * r + f) (am n t) = X at e2 ⊢
  generalize am n t = M at e1 e2
  generalize rowD n = N at a3 e1
  simp only [stepD] at a1 e2 mu ⊢
  have b1 : atI [PyData.int X.1, .int X.2.1, .int X.2.2] 1 = some (.int X.2.1) := rfl
  refine ⟨.val (.int z), .val (.int s), .val (.int h), .val (.tuple [.int X.1, .int X.2.1, .int X.2.2]), ?_⟩
  generalize h * r = HR at e2 mu
  generalize (i : Int) = I at a1 a2 a3 ⊢
  generalize (t : Int) = T at e1 ⊢
  unfold d_step_of_b1
  simp -implicitDefEqProofs [eVar_val, eIxN_val, a1, a2, a3, callR_mk e1, mu, callR_mk e2, dApp_own, ha, b1]
theorem step_of_l {CH LS NS : List D} {r : Int} {t : Nat} (hb : -9223372036854775808 ≤ r ∧ r < 9223372036854775808) : ∀ (cs : List Stg) (ls : List Int) (ns : List (List Int)) (i : Nat) (f : Int) (acc : List D) (x7 x8 x9 x10 x11 : Sl), CH.drop i = cs.map stepD → LS.drop i = ls.map .int → NS.drop i = ns.map rowD →
    cs.length = ls.length → cs.length = ns.length → (∀ n ∈ ns, 1 ≤ n.length ∧ n.length ≤ 24) → acc.length + cs.length < sizeLine →
    ∃ y6 y7 y8 y9 y10 y11, forL (gSet 7) d_step_of_b1 (rangeD i cs.length) (s12 (.val (.tuple CH)) (.val (.list LS)) (.val (.int r)) (.val (.tuple NS)) (.val (.int t)) (.own acc) (.val (.int f)) x7 x8 x9 x10 x11 c) =
      .nx (s12 (.val (.tuple CH)) (.val (.list LS)) (.val (.int r)) (.val (.tuple NS)) (.val (.int t)) (.own (acc ++ (stepC cs ls ns r f t).map stepD)) y6 y7 y8 y9 y10 y11 c)
  | [], _, _, i, f, acc, x7, x8, x9, x10, x11, _, _, _, _, _, _, _ => ⟨.val (.int f), x7, x8, x9, x10, x11, by simp [rangeD_zero, stepC]⟩
  | p :: cs, [], _, _, _, _, _, _, _, _, _, _, _, _, e, _, _, _ => by simp at e
  | p :: cs, l :: ls, [], _, _, _, _, _, _, _, _, _, _, _, _, e, _, _ => by simp at e
  | p :: cs, l :: ls, n :: ns, i, f, acc, x7, x8, x9, x10, x11, h1, h2, h3, e1, e2, hn, ha => by
    obtain ⟨g1, g2⟩ := drop_cons h1
    obtain ⟨g3, g4⟩ := drop_cons h2
    obtain ⟨g5, g6⟩ := drop_cons h3
    simp only [List.length_cons] at ha
    obtain ⟨y8, y9, y10, y11, eb⟩ := step_of_b (c := c) (r := r) (f := f) (t := t) (acc := acc) (x8 := x8) (x9 := x9) (x10 := x10) (x11 := x11) g1 g3 g5 (hn n (by simp)) (by omega) hb
    obtain ⟨z6, z7, z8, z9, z10, z11, ih⟩ := step_of_l (t := t) hb cs ls ns (i + 1) (stepI p.1 l (p.2.2 * r + f) (am n t)).2.1 (acc ++ [stepD (stepI p.1 l (p.2.2 * r + f) (am n t))]) (.val (.int i)) y8 y9 y10 y11 g2 g4 g6 (by simpa using e1) (by simpa using e2) (fun m hm => hn m (List.mem_cons_of_mem _ hm)) (by simp; omega)
    refine ⟨z6, z7, z8, z9, z10, z11, ?_⟩
    rw [List.length_cons, rangeD_succ, forL_nx (by rfl) eb, show ((i : Int) + 1) = ((i + 1 : Nat) : Int) by omega, ih]
    obtain ⟨z, s, h⟩ := p
    rw [stepC, List.map_cons, List.append_assoc]
    rfl
theorem step_of_eq {ch : List Stg} {ls : List Int} {ns : List (List Int)} {r : Int} {t : Nat} (hb : -9223372036854775808 ≤ r ∧ r < 9223372036854775808) (e1 : ch.length = ls.length) (e2 : ch.length = ns.length) (hn : ∀ n ∈ ns, 1 ≤ n.length ∧ n.length ≤ 24) (h4 : ch.length ≤ 1000) :
    F_step_of [chD ch, lsD ls, .int r, nsD ns, .int t] c = .ok (.val (rowT (stepC ch ls ns r 0 t))) c := by
  have hs := sizeLine_eq
  have es : startS 12 [chD ch, lsD ls, .int r, nsD ns, .int t] c = s12 (.val (chD ch)) (.val (lsD ls)) (.val (.int r)) (.val (nsD ns)) (.val (.int t)) .un .un .un .un .un .un .un c := rfl
  obtain ⟨y6, y7, y8, y9, y10, y11, e⟩ := step_of_l (c := c) (CH := ch.map stepD) (LS := ls.map .int) (NS := ns.map rowD) (t := t) hb ch ls ns 0 0 [] .un .un .un .un .un rfl rfl rfl e1 e2 hn (by simp; omega)
  have hl : ((ch.map stepD).length : Int) = ch.length := by rw [List.length_map]
  have r1 : ∀ st : S, rng1K (.int (ch.length : Int)) st = .ok (rangeD (0 : Nat) ch.length) st := fun st => by
    rw [rng1K_int (by omega) (by omega), Int.toNat_natCast]
    rfl
  unfold chD lsD nsD rowT at *
  rw [List.nil_append] at e
  generalize (stepC ch ls ns r 0 t).map stepD = X at e ⊢
  generalize ch.map stepD = CH at es e hl ⊢
  generalize ls.map PyData.int = LS at es e ⊢
  generalize ns.map rowD = NS at es e ⊢
  generalize rangeD ((0 : Nat) : Int) ch.length = rg at e r1
  generalize (ch.length : Int) = N at hl r1
  generalize (t : Int) = T at es e ⊢
  have tb : tupB [.list X] = some (.val (.tuple X)) := rfl
  rw [F_step_of, fnD_eq, es]
  unfold d_step_of
  simp -implicitDefEqProofs [eVar_val, eVar_own, eLenN_val, hl, r1, e, tb]
end
def turnC (rs : List Int) (ns : List (List Int)) : Nat := ns.foldl (fun a n => Nat.lcm a n.length) rs.length
theorem fold_dvd : ∀ (ns : List (List Int)) (a : Nat), a ∣ ns.foldl (fun a n => Nat.lcm a n.length) a ∧ ∀ n ∈ ns, n.length ∣ ns.foldl (fun a n => Nat.lcm a n.length) a
  | [], a => ⟨Nat.dvd_refl _, by simp⟩
  | n :: ns, a => by
    obtain ⟨h1, h2⟩ := fold_dvd ns (Nat.lcm a n.length)
    rw [List.foldl_cons]
    refine ⟨Nat.dvd_trans (Nat.dvd_lcm_left _ _) h1, fun m hm => ?_⟩
    rcases List.mem_cons.mp hm with rfl | hm
    · exact Nat.dvd_trans (Nat.dvd_lcm_right _ _) h1
    · exact h2 m hm
theorem fold_12 : ∀ (ns : List (List Int)) (a : Nat), a ∣ 12 → (∀ n ∈ ns, n.length ∣ 12) → ns.foldl (fun a n => Nat.lcm a n.length) a ∣ 12
  | [], a, h, _ => h
  | n :: ns, a, h, hn => by
    rw [List.foldl_cons]
    exact fold_12 ns _ (Nat.lcm_dvd h (hn n (by simp))) fun m hm => hn m (List.mem_cons_of_mem _ hm)
structure CW (ch : List Stg) (rs : List Int) (ns : List (List Int)) (J T : Nat) : Prop where
  hc : ∀ p ∈ ch, StOk 300 p
  c1 : 1 ≤ ch.length
  c2 : ch.length ≤ 4
  hl : ch.length = ns.length
  hr : RowOk rs
  hn : NsOk ns
  tE : turnC rs ns = T
  dr : rs.length ∣ 12
  dn : ∀ n ∈ ns, n.length ∣ 12
  hJ : J ≤ 1999
  eJ : lvs ch rs ns ((J + 1) * T) = lvs ch rs ns (J * T)
  nJ : ∀ j, j < J → lvs ch rs ns ((j + 1) * T) ≠ lvs ch rs ns (j * T)
section
variable {ch : List Stg} {rs : List Int} {ns : List (List Int)} {T J : Nat} {c : List Int}
theorem CW.d1 (W : CW ch rs ns J T) : rs.length ∣ T := W.tE ▸ (fold_dvd ns _).1
theorem CW.d2 (W : CW ch rs ns J T) : ∀ n ∈ ns, n.length ∣ T := W.tE ▸ (fold_dvd ns _).2
theorem CW.d3 (W : CW ch rs ns J T) : T ∣ 12 := W.tE ▸ fold_12 ns _ W.dr W.dn
theorem CW.t2 (W : CW ch rs ns J T) : T ≤ 12 := Nat.le_of_dvd (by omega) W.d3
theorem CW.t1 (W : CW ch rs ns J T) : 1 ≤ T := Nat.pos_of_dvd_of_pos W.d3 (by omega)
theorem CW.r2 (W : CW ch rs ns J T) : rs.length ≤ 12 := Nat.le_of_dvd (by omega) W.dr
theorem CW.per (W : CW ch rs ns J T) : Per (row ch rs ns) (J * T) T := row_per W.d1 W.d2 W.eJ
theorem CW.le (W : CW ch rs ns J T) : J * T + T ≤ 24000 := by
  have := Nat.mul_le_mul W.hJ W.t2
  have := W.t2
  omega
theorem CW.n24 (W : CW ch rs ns J T) : ∀ n ∈ ns, 1 ≤ n.length ∧ n.length ≤ 24 := fun n h => ⟨(W.hn n h).1.1, (W.hn n h).1.2.1⟩
theorem CW.need (W : CW ch rs ns J T) : F_need_chain [chD ch, rowD rs, nsD ns] c = .ok (.val .none) c := need_chain_eq W.hc W.c1 W.c2 W.hr W.r2 W.hn W.hl
theorem cw_ex {m : Int} (hc : ∀ p ∈ ch, StOk m p) (hm : m ≤ 300) (c1 : 1 ≤ ch.length) (c2 : ch.length ≤ 4) (hl : ch.length = ns.length) (hr : RowOk rs) (hn : NsOk ns) (dr : rs.length ∣ 12) (dn : ∀ n ∈ ns, n.length ∣ 12) (hb : ch.length * m.toNat ≤ 1999) : ∃ J T, CW ch rs ns J T := by
  have a1 := (fold_dvd ns rs.length).1
  have a2 := (fold_dvd ns rs.length).2
  obtain ⟨J, hJ, eJ, nJ⟩ := lvs_first (T := turnC rs ns) (m := m) a1 (fun t => (am_row hr t).1) hl hc fun n h => ⟨a2 n h, fun t => (am_row (hn n h).1 t).1⟩
  exact ⟨J, _, fun p h => ⟨(hc p h).1, by have := (hc p h).2.1; omega, (hc p h).2.2⟩, c1, c2, hl, hr, hn, rfl, dr, dn, by omega, eJ, nJ⟩
theorem turn_l {a0 a1 : Sl} : ∀ (ns : List (List Int)) (a : Nat) (x : Sl), a ∣ 12 → (∀ n ∈ ns, n.length ∣ 12) → ∃ y, forL (gSet 3) d_chain_turn_b1 (ns.map rowD) ⟨[a0, a1, .val (.int a), x], c⟩ = .nx ⟨[a0, a1, .val (.int (ns.foldl (fun a n => Nat.lcm a n.length) a : Nat)), y], c⟩
  | [], a, x, _, _ => ⟨x, rfl⟩
  | n :: ns, a, x, ha, hn => by
    have h1 := hn n (by simp)
    obtain ⟨y, e⟩ := turn_l (a0 := a0) (a1 := a1) ns (Nat.lcm a n.length) (.val (rowD n)) (Nat.lcm_dvd ha h1) fun m hm => hn m (List.mem_cons_of_mem _ hm)
    refine ⟨y, ?_⟩
    have b1 := Nat.le_of_dvd (by omega) ha
    have b2 := Nat.le_of_dvd (by omega) h1
    have b3 := Nat.pos_of_dvd_of_pos h1 (by omega)
    have el := lcm_eq (a := a) (b := n.length) (c := c) (by omega) b3 (by omega)
    have eb : d_chain_turn_b1 ⟨[a0, a1, .val (.int a), .val (rowD n)], c⟩ = .nx ⟨[a0, a1, .val (.int (Nat.lcm a n.length : Nat)), .val (rowD n)], c⟩ := by
      have hl : ((n.map PyData.int).length : Int) = n.length := by rw [List.length_map]
      generalize ((Nat.lcm a n.length : Nat) : Int) = L at el ⊢
      unfold rowD
      generalize n.map PyData.int = N at hl ⊢
      generalize (n.length : Int) = K at el hl
      generalize (a : Int) = A at el ⊢
      unfold d_chain_turn_b1
      simp -implicitDefEqProofs [eVar_val, eLenN_val, hl, callR_mk el]
    rw [List.map_cons, forL_nx (by rfl) eb, e, List.foldl_cons]
theorem chain_turn_eq (hr : RowOk rs) (dr : rs.length ∣ 12) (dn : ∀ n ∈ ns, n.length ∣ 12) : F_chain_turn [rowD rs, nsD ns] c = .ok (.val (.int (turnC rs ns : Nat))) c := by
  have es : startS 4 [rowD rs, nsD ns] c = ⟨[.val (rowD rs), .val (nsD ns), .un, .un], c⟩ := rfl
  obtain ⟨y, e⟩ := turn_l (c := c) (a0 := .val (rowD rs)) (a1 := .val (nsD ns)) ns rs.length .un dr dn
  have hl : ((rs.map PyData.int).length : Int) = rs.length := by rw [List.length_map]
  unfold turnC
  unfold rowD nsD at *
  generalize ((ns.foldl (fun a n => Nat.lcm a n.length) rs.length : Nat) : Int) = X at e ⊢
  generalize rs.map PyData.int = RS at es e hl ⊢
  generalize (ns.map fun ns => PyData.tuple (ns.map PyData.int)) = NS at es e ⊢
  generalize (rs.length : Int) = K at e hl
  rw [F_chain_turn, fnD_eq, es]
  unfold d_chain_turn
  simp -implicitDefEqProofs [eVar_val, eLenN_val, hl, e, dRetV_val]
def IsL (x : Sl) (ls : List Int) : Prop := x = .own (ls.map .int) ∨ x = .val (lsD ls)
theorem FL_succ {α : Type} {R : Nat → α} (n : Nat) : FL R (n + 1) = FL R n ++ [R n] := by
  simp [FL, List.range'_concat]
theorem fst_comp {g : D → S → Option S} {te : DE} {vs : List Nat} {s : S} {ts : List Tri} (s1 : Tri → S) (hl : ts.length < 1000)
    (h0 : ∀ d ∈ ts, g (stepD d) { s with e := wipeE s.e vs } = some (s1 d) ∧ te (s1 d) = .ok (.val (.int d.1)) (s1 d) ∧ { s1 d with e := mg vs s.e (s1 d).e } = s) : compK vs g tTrue te (ts.map stepD) s = .ok (.own ((ts.map (·.1)).map PyData.int)) s := by
  rw [List.map_map]
  exact compK_map0 s1 (by rw [sizeLine_eq]; omega) h0
theorem settled_b {x3 x4 x6 x7 x9 x10 x11 : Sl} {ls : List Int} {i : Nat} {acc : List D} (hr : RowOk rs) (hn : ∀ n ∈ ns, 1 ≤ n.length ∧ n.length ≤ 24) (e1 : ch.length = ls.length) (e2 : ch.length = ns.length) (h4 : ch.length ≤ 100) (h : IsL x4 ls) (ha : acc.length < sizeLine) :
    ∃ y9, d_chain_settled_b5 (s12 (.val (chD ch)) (.val (rowD rs)) (.val (nsD ns)) x3 x4 (.own acc) x6 x7 (.val (.int i)) x9 x10 x11 c) =
      .nx (s12 (.val (chD ch)) (.val (rowD rs)) (.val (nsD ns)) x3 (.own (((stepC ch ls ns (am rs i) 0 i).map (·.1)).map .int)) (.own (acc ++ [rowT (stepC ch ls ns (am rs i) 0 i)])) x6 x7 (.val (.int i)) y9 x10 x11 c) := by
  have ar := am_row hr i
  have q1 := amount_at_eq (c := c) (i := i) hr.1 hr.2.1
  have q2 := step_of_eq (c := c) (t := i) (r := am rs i) (by omega) e1 e2 hn (by omega)
  have ql := stepC_len ch ls ns (am rs i) 0 i e1 e2
  generalize stepC ch ls ns (am rs i) 0 i = X at q2 ql ⊢
  generalize am rs i = A at q1 q2
  refine ⟨.val (rowT X), ?_⟩
  have k1 : compK [11] (gSet 11) tTrue d_chain_settled_e4 (X.map stepD) (s12 (.val (chD ch)) (.val (rowD rs)) (.val (nsD ns)) x3 (.val (lsD ls)) (.own (acc ++ [rowT X])) x6 x7 (.val (.int i)) (.val (rowT X)) x10 x11 c) = .ok (.own ((X.map (·.1)).map PyData.int)) (s12 (.val (chD ch)) (.val (rowD rs)) (.val (nsD ns)) x3 (.val (lsD ls)) (.own (acc ++ [rowT X])) x6 x7 (.val (.int i)) (.val (rowT X)) x10 x11 c) := by
    refine fst_comp (fun p => s12 (.val (chD ch)) (.val (rowD rs)) (.val (nsD ns)) x3 (.val (lsD ls)) (.own (acc ++ [rowT X])) x6 x7 (.val (.int i)) (.val (rowT X)) x10 (.val (stepD p)) c) (by omega) fun p _ => ⟨rfl, ?_, rfl⟩
    have a0 : atI [PyData.int p.1, .int p.2.1, .int p.2.2] 0 = some (.int p.1) := rfl
    generalize chD ch = CH
    generalize nsD ns = NS
    generalize rowD rs = RS
    generalize lsD ls = LS
    generalize rowT X = XX
    unfold d_chain_settled_e4
    simp -implicitDefEqProofs [eVar_val, eIxN_val, a0]
  unfold rowT at k1 q2 ⊢
  unfold lsD at k1 q2
  generalize (X.map (·.1)).map PyData.int = L2 at k1 ⊢
  generalize X.map stepD = XX at q2 k1 ⊢
  unfold IsL lsD at h
  generalize ls.map PyData.int = LS at q2 k1 h
  generalize chD ch = CH at q2 k1 ⊢
  generalize nsD ns = NS at q2 k1 ⊢
  generalize rowD rs = RS at q1 k1 ⊢
  generalize (i : Int) = I at q1 q2 k1 ⊢
  unfold d_chain_settled_b5
  rcases h with rfl | rfl
  · simp -implicitDefEqProofs [eVar_val, eVar_own, callR_mk q1, callR_mk q2, dApp_own, ha, k1]
  · simp -implicitDefEqProofs [eVar_val, callR_mk q1, callR_mk q2, dApp_own, ha, k1]
theorem row_at_T {B : Nat} (h1 : rs.length ∣ T) (h2 : ∀ n ∈ ns, n.length ∣ T) (j i : Nat) : stepC ch (lvs ch rs ns (j * T + i)) ns (am rs i) 0 i = row ch rs ns (j * T + i) := by
  unfold row
  rw [show j * T + i = i + j * T by omega, am_shift (Nat.dvd_mul_left_of_dvd h1 j), stepC_shift (T := j * T) _ _ _ _ _ _ fun n h => Nat.dvd_mul_left_of_dvd (h2 n h) j]
theorem settled_l (W : CW ch rs ns J T) {x3 x6 x7 x10 x11 : Sl} {j : Nat} (hj : j ≤ J) : ∀ (n i : Nat) (x4 x8 x9 : Sl), i + n ≤ T → IsL x4 (lvs ch rs ns (j * T + i)) →
    ∃ y4 y8 y9, IsL y4 (lvs ch rs ns (j * T + (i + n))) ∧ forL (gSet 8) d_chain_settled_b5 (rangeD i n) (s12 (.val (chD ch)) (.val (rowD rs)) (.val (nsD ns)) x3 x4 (.own ((FL (row ch rs ns) (j * T + i)).map rowT)) x6 x7 x8 x9 x10 x11 c) =
      .nx (s12 (.val (chD ch)) (.val (rowD rs)) (.val (nsD ns)) x3 y4 (.own ((FL (row ch rs ns) (j * T + (i + n))).map rowT)) x6 x7 y8 y9 x10 x11 c)
  | 0, i, x4, x8, x9, _, h => ⟨x4, x8, x9, h, by rw [rangeD_zero, forL_nil]; rfl⟩
  | n + 1, i, x4, x8, x9, hi, h => by
    have hs := sizeLine_eq
    have hle := W.le
    have hjT : j * T ≤ J * T := Nat.mul_le_mul_right _ hj
    obtain ⟨y9, e⟩ := settled_b (c := c) (x3 := x3) (x6 := x6) (x7 := x7) (x9 := x9) (x10 := x10) (x11 := x11) (i := i) (acc := (FL (row ch rs ns) (j * T + i)).map rowT) W.hr W.n24 (lvs_len W.hl _).symm W.hl (by have := W.c2; omega) h (by rw [List.length_map, FL_len]; omega)
    rw [row_at_T (B := 0) W.d1 W.d2, ← lvs_succ] at e
    have ea : (FL (row ch rs ns) (j * T + i)).map rowT ++ [rowT (row ch rs ns (j * T + i))] = (FL (row ch rs ns) (j * T + (i + 1))).map rowT := by
      rw [show j * T + (i + 1) = j * T + i + 1 by omega, FL_succ, List.map_append]
      rfl
    rw [ea] at e
    obtain ⟨z4, z8, z9, g1, g2⟩ := settled_l W hj n (i + 1) (.own ((lvs ch rs ns (j * T + i + 1)).map .int)) (.val (.int i)) y9 (by omega) (.inl rfl)
    refine ⟨z4, z8, z9, by rw [show i + (n + 1) = i + 1 + n by omega]; exact g1, ?_⟩
    rw [rangeD_succ, forL_nx (by rfl) e, show ((i : Int) + 1) = ((i + 1 : Nat) : Int) by omega, g2, show i + (n + 1) = i + 1 + n by omega]
theorem lsE : EqF (fun ls : List Int => lsD ls) := EqF.lst EqF.int
theorem lsS (ls : List Int) : Sh 1 (lsD ls) := Sh.lst (k := 0) Sh.ints
theorem settled_t (W : CW ch rs ns J T) {x6 x10 x11 x4 x7 x8 x9 : Sl} {j : Nat} (hj : j ≤ J) (h : IsL x4 (lvs ch rs ns (j * T))) :
    ∃ y4 y7 y8 y9, IsL y4 (lvs ch rs ns ((j + 1) * T)) ∧ d_chain_settled_b7 (s12 (.val (chD ch)) (.val (rowD rs)) (.val (nsD ns)) (.val (.int T)) x4 (.own ((FL (row ch rs ns) (j * T)).map rowT)) x6 x7 x8 x9 x10 x11 c) =
      .nx (s12 (.val (chD ch)) (.val (rowD rs)) (.val (nsD ns)) (.val (.int T)) y4 (.own ((FL (row ch rs ns) ((j + 1) * T)).map rowT)) (.val (.bool (decide (lvs ch rs ns ((j + 1) * T) = lvs ch rs ns (j * T))))) y7 y8 y9 x10 x11 c) := by
  obtain ⟨y4, y8, y9, g1, g2⟩ := settled_l W (c := c) (x3 := .val (.int T)) (x6 := x6) (x7 := .val (lsD (lvs ch rs ns (j * T)))) (x10 := x10) (x11 := x11) hj T 0 (.val (lsD (lvs ch rs ns (j * T)))) x8 x9 (by omega) (.inr rfl)
  have t2 := W.t2
  have e0 : j * T + (0 + T) = (j + 1) * T := by rw [Nat.add_mul, Nat.one_mul]; omega
  rw [e0] at g1 g2
  rw [Nat.add_zero] at g2
  have r1 : ∀ st : S, rng1K (.int (T : Int)) st = .ok (rangeD (0 : Nat) T) st := fun st => by
    rw [rng1K_int (by omega) (by omega), Int.toNat_natCast]
    rfl
  have eq := eqD_F lsE (lsS (lvs ch rs ns ((j + 1) * T))) (lsS (lvs ch rs ns (j * T)))
  refine ⟨.val (lsD (lvs ch rs ns ((j + 1) * T))), .val (lsD (lvs ch rs ns (j * T))), y8, y9, .inr rfl, ?_⟩
  generalize decide (lvs ch rs ns ((j + 1) * T) = lvs ch rs ns (j * T)) = P at eq ⊢
  generalize lvs ch rs ns ((j + 1) * T) = L2 at g1 eq ⊢
  generalize lvs ch rs ns (j * T) = L1 at h g2 eq ⊢
  generalize (FL (row ch rs ns) ((j + 1) * T)).map rowT = F2 at g2 ⊢
  generalize (FL (row ch rs ns) (j * T)).map rowT = F1 at g2 ⊢
  unfold IsL lsD at *
  generalize L1.map PyData.int = M1 at *
  generalize L2.map PyData.int = M2 at *
  generalize chD ch = CH at g2 ⊢
  generalize nsD ns = NS at g2 ⊢
  generalize rowD rs = RS at g2 ⊢
  generalize rangeD ((0 : Nat) : Int) T = rg at g2 r1
  generalize (T : Int) = K at g2 r1 ⊢
  unfold d_chain_settled_b7
  rcases h with rfl | rfl <;> rcases g1 with rfl | rfl <;> simp -implicitDefEqProofs [eVar_val, eVar_own, r1, g2, eq]
theorem settled_w (W : CW ch rs ns J T) {x10 x11 : Sl} : ∀ (m j : Nat) (x4 x7 x8 x9 : Sl), j ≤ J → J - j + 2 ≤ m → IsL x4 (lvs ch rs ns (j * T)) → ∃ y4 y7 y8 y9, dWhile d_chain_settled_c6 d_chain_settled_b7 m (s12 (.val (chD ch)) (.val (rowD rs)) (.val (nsD ns)) (.val (.int T)) x4 (.own ((FL (row ch rs ns) (j * T)).map rowT)) (.val (.bool false)) x7 x8 x9 x10 x11 c) =
      .nx (s12 (.val (chD ch)) (.val (rowD rs)) (.val (nsD ns)) (.val (.int T)) y4 (.own ((FL (row ch rs ns) (J * T + T)).map rowT)) (.val (.bool true)) y7 y8 y9 x10 x11 c)
  | 0, j, x4, x7, x8, x9, _, hm, _ => by omega
  | m + 1, j, x4, x7, x8, x9, hj, hm, h => by
    obtain ⟨y4, y7, y8, y9, g1, e⟩ := settled_t W (c := c) (x6 := .val (.bool false)) (x10 := x10) (x11 := x11) (x7 := x7) (x8 := x8) (x9 := x9) hj h
    have et : d_chain_settled_c6 (s12 (.val (chD ch)) (.val (rowD rs)) (.val (nsD ns)) (.val (.int T)) x4 (.own ((FL (row ch rs ns) (j * T)).map rowT)) (.val (.bool false)) x7 x8 x9 x10 x11 c) = .ok (.val (.bool true)) (s12 (.val (chD ch)) (.val (rowD rs)) (.val (nsD ns)) (.val (.int T)) x4 (.own ((FL (row ch rs ns) (j * T)).map rowT)) (.val (.bool false)) x7 x8 x9 x10 x11 c) := rfl
    by_cases q : j = J
    · subst q
      obtain ⟨m, rfl⟩ : ∃ k, m = k + 1 := ⟨m - 1, by omega⟩
      rw [decide_eq_true W.eJ, show (j + 1) * T = j * T + T by rw [Nat.add_mul, Nat.one_mul]] at e
      refine ⟨y4, y7, y8, y9, ?_⟩
      rw [while_t et e]
      exact while_f rfl
    · rw [decide_eq_false (W.nJ j (by omega))] at e
      obtain ⟨z4, z7, z8, z9, f⟩ := settled_w W (x10 := x10) (x11 := x11) m (j + 1) y4 y7 y8 y9 (by omega) (by omega) g1
      exact ⟨z4, z7, z8, z9, by rw [while_t et e, f]⟩
abbrev FD (ch : List Stg) (rs : List Int) (ns : List (List Int)) (n : Nat) : List D := (FL (row ch rs ns) n).map rowT
theorem start_comp {g : D → S → Option S} {te : DE} {vs : List Nat} {s : S} (s1 : Stg → S) (hl : ch.length < 1000)
    (h0 : ∀ d ∈ ch, g (stepD d) { s with e := wipeE s.e vs } = some (s1 d) ∧ te (s1 d) = .ok (.val (.int d.2.1)) (s1 d) ∧ { s1 d with e := mg vs s.e (s1 d).e } = s) : compK vs g tTrue te (ch.map stepD) s = .ok (.own ((lvs ch rs ns 0).map PyData.int)) s := by
  show _ = RE.ok (.own ((ch.map (·.2.1)).map PyData.int)) s
  rw [List.map_map]
  exact compK_map0 s1 (by rw [sizeLine_eq]; omega) h0
theorem CW.settled (W : CW ch rs ns J T) : F_chain_settled [chD ch, rowD rs, nsD ns] c = .ok (.val (.tuple [.list (FD ch rs ns (J * T + T)), .int T])) c := by
  have es : startS 12 [chD ch, rowD rs, nsD ns] c = s12 (.val (chD ch)) (.val (rowD rs)) (.val (nsD ns)) .un .un .un .un .un .un .un .un .un c := rfl
  have et := chain_turn_eq (c := c) W.hr W.dr W.dn
  rw [W.tE] at et
  have c2 := W.c2
  have k1 : compK [10] (gSet 10) tTrue d_chain_settled_e2 (ch.map stepD) (s12 (.val (chD ch)) (.val (rowD rs)) (.val (nsD ns)) (.val (.int T)) .un .un .un .un .un .un .un .un c) = .ok (.own ((lvs ch rs ns 0).map PyData.int)) (s12 (.val (chD ch)) (.val (rowD rs)) (.val (nsD ns)) (.val (.int T)) .un .un .un .un .un .un .un .un c) := by
    refine start_comp (fun p => s12 (.val (chD ch)) (.val (rowD rs)) (.val (nsD ns)) (.val (.int T)) .un .un .un .un .un .un (.val (stepD p)) .un c) (by omega) fun p _ => ⟨rfl, ?_, rfl⟩
    have a0 : atI [PyData.int p.1, .int p.2.1, .int p.2.2] 1 = some (.int p.2.1) := rfl
    generalize chD ch = CH
    generalize nsD ns = NS
    generalize rowD rs = RS
    unfold d_chain_settled_e2
    simp -implicitDefEqProofs [eVar_val, eIxN_val, a0]
  obtain ⟨y4, y7, y8, y9, e⟩ := settled_w W (c := c) (x10 := .un) (x11 := .un) 1000000000000000 0 (.own ((lvs ch rs ns 0).map .int)) .un .un .un (by omega) (by have := W.hJ; omega) (by rw [Nat.zero_mul]; exact .inl rfl)
  rw [Nat.zero_mul] at e
  have e0 : (FL (row ch rs ns) 0).map rowT = [] := rfl
  rw [e0] at e
  unfold FD
  generalize (FL (row ch rs ns) (J * T + T)).map rowT = F at e ⊢
  generalize (lvs ch rs ns 0).map PyData.int = L0 at e k1
  have ic : itD (chD ch) = some (ch.map stepD) := rfl
  generalize ch.map stepD = CL at k1 ic
  generalize chD ch = CH at es e k1 ic ⊢
  generalize nsD ns = NS at es e et k1 ⊢
  generalize rowD rs = RS at es e et k1 ⊢
  generalize (T : Int) = K at et e k1 ⊢
  rw [F_chain_settled, fnD_eq, es]
  unfold d_chain_settled
  simp -implicitDefEqProofs [eVar_val, eVar_own, callR_mk et, ic, k1, e]
end
section
variable {ch : List Stg} {rs : List Int} {ns : List (List Int)} {T J : Nat} {c : List Int}
abbrev s10 (a0 a1 a2 a3 a4 a5 a6 a7 a8 a9 : Sl) (c : List Int) : S := ⟨[a0, a1, a2, a3, a4, a5, a6, a7, a8, a9], c⟩
theorem rowE : EqF rowT := by
  have e : EqF stepD := EqF.trip EqF.int EqF.int EqF.int
  exact EqF.tup e
theorem stepS (t : Tri) : Sh 1 (stepD t) := Sh.tup (k := 0) (Sh.ints (ns := [_, _, _]))
theorem rowS (ts : List Tri) : Sh 2 (rowT ts) := Sh.tup (Sh.map stepS)
def lv (ch : List Stg) (rs : List Int) (ns : List (List Int)) (J T s : Nat) : List Int := if s = 0 then lvs ch rs ns 0 else (row ch rs ns (idx (J * T + T) T (s - 1))).map (·.1)
abbrev lvT (ls : List Int) : D := .tuple (ls.map .int)
theorem FD_at {n i : Nat} (h : i < n) : atI (FD ch rs ns n) (i : Int) = some (rowT (row ch rs ns i)) := atI_n (by rw [List.getElem?_map, FL_at, if_pos h]; rfl)
end
section
variable {ch : List Stg} {rs : List Int} {ns : List (List Int)} {T J : Nat} {c : List Int}
def tg (ts : List Tri) (i : Nat) : Tri := (ts[i]?).getD (0, 0, 0)
theorem tg_at {ts : List Tri} {i : Nat} (h : i < ts.length) : atI (ts.map stepD) (i : Int) = some (stepD (tg ts i)) := by
  apply atI_n
  rw [List.getElem?_map, tg, List.getElem?_eq_getElem h]
  rfl
def hdD : List Nat → D
  | [] => .none
  | i :: _ => .int i
abbrev natsD (xs : List Nat) : List D := xs.map fun i : Nat => PyData.int i
def shN (ch : List Stg) (rs : List Int) (ns : List (List Int)) (N a : Nat) : List Nat := (List.range' 0 N).filter fun t => decide (0 < (tg (row ch rs ns t) a).2.2)
abbrev s9 (a0 a1 a2 a3 a4 a5 a6 a7 a8 : Sl) (c : List Int) : S := ⟨[a0, a1, a2, a3, a4, a5, a6, a7, a8], c⟩
theorem rN (n : Nat) (h : n ≤ 100000) : ((FD ch rs ns n).length : Int) = (n : Int) ∧ ∀ st : S, rng1K (.int (n : Int)) st = .ok (rangeD (0 : Nat) n) st := by
  refine ⟨by rw [List.length_map, FL_len], fun st => ?_⟩
  rw [rng1K_int (by omega) (by omega), Int.toNat_natCast]
  rfl
def firL (ch : List Stg) (rs : List Int) (ns : List (List Int)) (N : Nat) : List D := (List.range' 0 ch.length).map fun a => hdD (shN ch rs ns N a)
abbrev frD (s T : Nat) : D := .tuple [.int (s / Nat.gcd s T : Nat), .int (T / Nat.gcd s T : Nat)]
/-- the last turn -/
abbrev LT (ch : List Stg) (rs : List Int) (ns : List (List Int)) (J T : Nat) : List (List Tri) := (FL (row ch rs ns) (J * T + T)).drop (J * T)
theorem LT_mem {x : List Tri} (h : x ∈ LT ch rs ns J T) : ∃ t, x = row ch rs ns t := by
  obtain ⟨i, _, rfl⟩ := List.mem_map.mp (List.mem_of_mem_drop h)
  exact ⟨i, rfl⟩
def spl (ch : List Stg) (ts : List Tri) : Int := (tg ts (ch.length - 1)).2.1
theorem stepC_pos : ∀ (cs : List Stg) (ls : List Int) (ns : List (List Int)) (r f : Int) (t : Nat), ∀ x ∈ stepC cs ls ns r f t, 0 ≤ x.1 ∧ 0 ≤ x.2.1 ∧ 0 ≤ x.2.2
  | [], _, _, _, _, _, x, h => by simp [stepC] at h
  | (z, s, h) :: cs, [], _, _, _, _, x, hx => by simp [stepC] at hx
  | (z, s, h) :: cs, l :: ls, [], _, _, _, x, hx => by simp [stepC] at hx
  | (z, s, h) :: cs, l :: ls, n :: ns, r, f, t, x, hx => by
    rw [stepC] at hx
    rcases List.mem_cons.mp hx with rfl | hx
    · simp only [stepI]
      omega
    · exact stepC_pos cs ls ns _ _ t x hx
theorem tg_pos {t : Nat} {a : Nat} : 0 ≤ (tg (row ch rs ns t) a).2.1 := by
  unfold tg
  cases h : (row ch rs ns t)[a]? with
  | none => simp
  | some x => exact (stepC_pos _ _ _ _ _ _ x (List.mem_of_getElem? h)).2.1
theorem sum_pos : ∀ {xs : List Int}, (∀ x ∈ xs, 0 ≤ x) → 0 ≤ xs.sum
  | [], _ => by simp
  | x :: xs, h => by
    have a := h x (by simp)
    have b := sum_pos fun y hy => h y (List.mem_cons_of_mem _ hy)
    rw [List.sum_cons]
    omega
theorem lostS_ex : ∃ s : Nat, ((LT ch rs ns J T).map (spl ch)).sum = s := by
  have : 0 ≤ ((LT ch rs ns J T).map (spl ch)).sum := sum_pos fun x hx => by
    obtain ⟨y, hy, rfl⟩ := List.mem_map.mp hx
    obtain ⟨t, rfl⟩ := LT_mem hy
    exact tg_pos
  exact ⟨_, (Int.toNat_of_nonneg this).symm⟩
structure WeOk (lo hi : List Int) : Prop where
  l : RowOk lo
  h : RowOk hi
  e : lo.length = hi.length
  le : ∀ p ∈ lo.zip hi, p.1 ≤ p.2
abbrev weD (lo hi : List Int) : D := .tuple [rowD lo, rowD hi]
theorem zipD_ints (a b : List Int) : zipD (a.map .int) (b.map .int) = (a.zip b).map fun p => .tuple [.int p.1, .int p.2] := by
  unfold zipD
  rw [List.zipWith_map, List.zip_eq_zipWith, List.map_zipWith]
/-- levels in weather: a pair for each stage -/
def btD (a b : List Int) : D := .tuple (zipD (a.map .int) (b.map .int))
end
section
variable {ch : List Stg} {rs : List Int} {ns : List (List Int)} {T J : Nat} {c : List Int}
theorem atI_last {α : Type} {xs : List α} {x : α} : atI (xs ++ [x]) (-1) = some x := by
  rw [atI_neg (by simp)]
  simp
theorem flow_b {x0 x1 x3 : Sl} {p : Stg} {l r f : Int} {n : List Int} {t : Nat} {acc : List D} (hp : StOk 300 p) (hl : 0 ≤ l) (hr : 0 ≤ r ∧ r ≤ 200) (hf : 0 ≤ f) (hn : RowOk n) (ha : acc.length < sizeLine) :
    d__law_flow_b1 (s10 x0 x1 (.val (.int r)) x3 (.val (.int t)) (.own acc) (.val (.int f)) (.val (stepD p)) (.val (.int l)) (.val (rowD n)) c) =
      .nx (s10 x0 x1 (.val (.int r)) x3 (.val (.int t)) (.own (acc ++ [stepD (stepI p.1 l (p.2.2 * r + f) (am n t))])) (.val (.int (stepI p.1 l (p.2.2 * r + f) (am n t)).2.1)) (.val (stepD p)) (.val (.int l)) (.val (rowD n)) c) := by
  obtain ⟨z1, z2, s1, s2, h1, h2⟩ := hp
  have a1 := am_at hn.1 t
  have a2 := am_row hn t
  have hm := Int.mul_nonneg h1 hr.1
  have e2 := law_step_eq (c := c) (z := p.1) (l := l) (r := p.2.2 * r + f) (n := am n t) (by omega) hl (by omega) a2.1
  have mu := mulD_nn (i := p.2.2) (j := r) (by omega)
  have md := modD_ii (i := (t : Int)) (j := (n.length : Int)) (by have := hn.1; omega)
  have hln : ((n.map PyData.int).length : Int) = n.length := by rw [List.length_map]
  obtain ⟨z, s, h⟩ := p
  simp only at e2 mu ⊢
  generalize stepI z l (h * r + f) (am n t) = X at e2 ⊢
  generalize am n t = M at a1 e2
  have al := atI_last (xs := acc) (x := stepD X)
  have b1 : atI [PyData.int X.1, .int X.2.1, .int X.2.2] 1 = some (.int X.2.1) := rfl
  have c0 : atI [PyData.int z, .int s, .int h] 0 = some (.int z) := rfl
  have c2 : atI [PyData.int z, .int s, .int h] 2 = some (.int h) := rfl
  unfold rowD
  simp only [stepD] at e2 al ⊢
  generalize n.map PyData.int = N at a1 hln ⊢
  generalize h * r = HR at e2 mu
  generalize (n.length : Int) = K at a1 md hln
  generalize (t : Int) = T at a1 md ⊢
  unfold d__law_flow_b1
  simp -implicitDefEqProofs [eVar_val, eIxN_val, eIxN_own, eLenN_val, c0, c2, mu, hln, md, a1, callR_mk e2, dApp_own, ha, al, b1]
theorem flow_l {x0 x1 x3 : Sl} {r : Int} {t : Nat} (hr : 0 ≤ r ∧ r ≤ 200) : ∀ (cs : List Stg) (ls : List Int) (ns : List (List Int)) (f : Int) (acc : List D) (x7 x8 x9 : Sl), (∀ p ∈ cs, StOk 300 p) → (∀ l ∈ ls, 0 ≤ l) → (∀ n ∈ ns, RowOk n) → 0 ≤ f →
    cs.length = ls.length → cs.length = ns.length → acc.length + cs.length < sizeLine →
    ∃ y6 y7 y8 y9, forL (gTupD (gsCons (gSet 7) (gsCons (gSet 8) (gsCons (gSet 9) gsNil)))) d__law_flow_b1 (zip3D (cs.map stepD) (ls.map .int) (ns.map rowD)) (s10 x0 x1 (.val (.int r)) x3 (.val (.int t)) (.own acc) (.val (.int f)) x7 x8 x9 c) =
      .nx (s10 x0 x1 (.val (.int r)) x3 (.val (.int t)) (.own (acc ++ (stepC cs ls ns r f t).map stepD)) y6 y7 y8 y9 c)
  | [], _, _, f, acc, x7, x8, x9, _, _, _, _, _, _, _ => ⟨.val (.int f), x7, x8, x9, by simp [zip3D, stepC]⟩
  | p :: cs, [], _, _, _, _, _, _, _, _, _, _, e, _, _ => by simp at e
  | p :: cs, l :: ls, [], _, _, _, _, _, _, _, _, _, _, e, _ => by simp at e
  | p :: cs, l :: ls, n :: ns, f, acc, x7, x8, x9, hp, hl, hn, hf, e1, e2, ha => by
    simp only [List.length_cons] at ha
    have eb := flow_b (c := c) (x0 := x0) (x1 := x1) (x3 := x3) (t := t) (acc := acc) (hp p (by simp)) (hl l (by simp)) hr hf (hn n (by simp)) (by omega)
    obtain ⟨z6, z7, z8, z9, ih⟩ := flow_l (x0 := x0) (x1 := x1) (x3 := x3) (t := t) hr cs ls ns (stepI p.1 l (p.2.2 * r + f) (am n t)).2.1 (acc ++ [stepD (stepI p.1 l (p.2.2 * r + f) (am n t))]) (.val (stepD p)) (.val (.int l)) (.val (rowD n))
      (fun q hq => hp q (List.mem_cons_of_mem _ hq)) (fun q hq => hl q (List.mem_cons_of_mem _ hq)) (fun q hq => hn q (List.mem_cons_of_mem _ hq)) (by simp only [stepI]; omega) (by simpa using e1) (by simpa using e2) (by simp; omega)
    refine ⟨z6, z7, z8, z9, ?_⟩
    rw [List.map_cons, List.map_cons, List.map_cons, zip3D, forL_nx (by rfl) eb, ih]
    obtain ⟨z, s, h⟩ := p
    rw [stepC, List.map_cons, List.append_assoc]
    rfl
theorem law_flow_eq {ls : List Int} {r : Int} {t : Nat} (hr : 0 ≤ r ∧ r ≤ 200) (hp : ∀ p ∈ ch, StOk 300 p) (hl : ∀ l ∈ ls, 0 ≤ l) (hn : ∀ n ∈ ns, RowOk n) (e1 : ch.length = ls.length) (e2 : ch.length = ns.length) (h4 : ch.length ≤ 100) :
    F__law_flow [chD ch, lsD ls, .int r, nsD ns, .int t] c = .ok (.val (rowT (stepC ch ls ns r 0 t))) c := by
  have hs := sizeLine_eq
  have es : startS 10 [chD ch, lsD ls, .int r, nsD ns, .int t] c = s10 (.val (chD ch)) (.val (lsD ls)) (.val (.int r)) (.val (nsD ns)) (.val (.int t)) .un .un .un .un .un c := rfl
  obtain ⟨y6, y7, y8, y9, e⟩ := flow_l (c := c) (x0 := .val (chD ch)) (x1 := .val (lsD ls)) (x3 := .val (nsD ns)) (t := t) hr ch ls ns 0 [] .un .un .un hp hl hn (by omega) e1 e2 (by simp; omega)
  unfold chD lsD nsD rowT at *
  rw [List.nil_append] at e
  generalize (stepC ch ls ns r 0 t).map stepD = X at e ⊢
  generalize ch.map stepD = CH at es e ⊢
  generalize ls.map PyData.int = LS at es e ⊢
  generalize ns.map rowD = NS at es e ⊢
  generalize (t : Int) = T at es e ⊢
  have tb : tupB [.list X] = some (.val (.tuple X)) := rfl
  have iz : iZip3 (eVar 0) (eVar 1) (eVar 3) (s10 (.val (.tuple CH)) (.val (.list LS)) (.val (.int r)) (.val (.tuple NS)) (.val (.int T)) (.own []) (.val (.int 0)) .un .un .un c) = .ok (zip3D CH LS NS) (s10 (.val (.tuple CH)) (.val (.list LS)) (.val (.int r)) (.val (.tuple NS)) (.val (.int T)) (.own []) (.val (.int 0)) .un .un .un c) := rfl
  rw [F__law_flow, fnD_eq, es]
  unfold d__law_flow
  simp -implicitDefEqProofs [eVar_val, eVar_own, iz, e, tb]
theorem lturn_l {a0 a1 a2 a4 a5 a7 a8 a9 a10 a11 : Sl} : ∀ (ns : List (List Int)) (a : Nat) (x : Sl), a ∣ 12 → (∀ n ∈ ns, n.length ∣ 12) → ∃ y, forL (gSet 6) d__law_stream_b3 (ns.map rowD) (s12 a0 a1 a2 (.val (.int a)) a4 a5 x a7 a8 a9 a10 a11 c) = .nx (s12 a0 a1 a2 (.val (.int (ns.foldl (fun a n => Nat.lcm a n.length) a : Nat))) a4 a5 y a7 a8 a9 a10 a11 c)
  | [], a, x, _, _ => ⟨x, rfl⟩
  | n :: ns, a, x, ha, hn => by
    have h1 := hn n (by simp)
    obtain ⟨y, e⟩ := lturn_l (a0 := a0) (a1 := a1) (a2 := a2) (a4 := a4) (a5 := a5) (a7 := a7) (a8 := a8) (a9 := a9) (a10 := a10) (a11 := a11) ns (Nat.lcm a n.length) (.val (rowD n)) (Nat.lcm_dvd ha h1) fun m hm => hn m (List.mem_cons_of_mem _ hm)
    refine ⟨y, ?_⟩
    have b1 := Nat.le_of_dvd (by omega) ha
    have b2 := Nat.le_of_dvd (by omega) h1
    have b3 := Nat.pos_of_dvd_of_pos h1 (by omega)
    have el := turn_eq (a := a) (b := n.length) (c := c) (by omega) b3 (by omega)
    have eb : d__law_stream_b3 (s12 a0 a1 a2 (.val (.int a)) a4 a5 (.val (rowD n)) a7 a8 a9 a10 a11 c) = .nx (s12 a0 a1 a2 (.val (.int (Nat.lcm a n.length : Nat))) a4 a5 (.val (rowD n)) a7 a8 a9 a10 a11 c) := by
      have hl : ((n.map PyData.int).length : Int) = n.length := by rw [List.length_map]
      generalize ((Nat.lcm a n.length : Nat) : Int) = L at el ⊢
      unfold rowD
      generalize n.map PyData.int = N at hl ⊢
      generalize (n.length : Int) = K at el hl
      generalize (a : Int) = A at el ⊢
      unfold d__law_stream_b3
      simp -implicitDefEqProofs [eVar_val, eLenN_val, hl, callR_mk el]
    rw [List.map_cons, forL_nx (by rfl) eb, e, List.foldl_cons]
theorem lvs_pos (W : CW ch rs ns J T) : ∀ t, ∀ l ∈ lvs ch rs ns t, 0 ≤ l
  | 0, l, h => by
    obtain ⟨p, hp, rfl⟩ := List.mem_map.mp h
    exact (W.hc p hp).2.2.1
  | t + 1, l, h => by
    rw [lvs_succ] at h
    obtain ⟨p, hp, rfl⟩ := List.mem_map.mp h
    exact (stepC_pos _ _ _ _ _ _ p hp).1
theorem stream_b (W : CW ch rs ns J T) {x3 x6 x7 x8 x10 x11 x5 : Sl} {j i : Nat} {acc : List D} (h : IsL x5 (lvs ch rs ns (j * T + i))) (ha : acc.length < sizeLine) :
    d__law_stream_b6 (s12 (.val (chD ch)) (.val (rowD rs)) (.val (nsD ns)) x3 (.own acc) x5 x6 x7 x8 (.val (.int i)) x10 x11 c) =
      .nx (s12 (.val (chD ch)) (.val (rowD rs)) (.val (nsD ns)) x3 (.own (acc ++ [rowT (row ch rs ns (j * T + i))])) (.own ((lvs ch rs ns (j * T + i + 1)).map .int)) x6 x7 x8 (.val (.int i)) x10 x11 c) := by
  have ar := am_row W.hr i
  have a1 := am_at W.hr.1 i
  have h4 := W.c2
  have md := modD_ii (i := (i : Int)) (j := (rs.length : Int)) (by have := W.hr.1; omega)
  have hln : ((rs.map PyData.int).length : Int) = rs.length := by rw [List.length_map]
  have q2 := law_flow_eq (c := c) (t := i) (ls := lvs ch rs ns (j * T + i)) ar W.hc (lvs_pos W _) (fun n hn => (W.hn n hn).1) (lvs_len W.hl _).symm W.hl (by omega)
  have ql := row_len (ch := ch) (rs := rs) W.hl (j * T + i)
  rw [row_at_T (B := 0) W.d1 W.d2] at q2
  rw [lvs_succ]
  generalize row ch rs ns (j * T + i) = X at q2 ql ⊢
  generalize lvs ch rs ns (j * T + i) = ls at q2 h
  generalize am rs i = A at a1 q2
  have k1 : compK [11] (gSet 11) tTrue d__law_stream_e5 (X.map stepD) (s12 (.val (chD ch)) (.val (rowD rs)) (.val (nsD ns)) x3 (.own (acc ++ [rowT X])) (.val (lsD ls)) x6 x7 x8 (.val (.int i)) x10 x11 c) = .ok (.own ((X.map (·.1)).map PyData.int)) (s12 (.val (chD ch)) (.val (rowD rs)) (.val (nsD ns)) x3 (.own (acc ++ [rowT X])) (.val (lsD ls)) x6 x7 x8 (.val (.int i)) x10 x11 c) := by
    refine fst_comp (fun p => s12 (.val (chD ch)) (.val (rowD rs)) (.val (nsD ns)) x3 (.own (acc ++ [rowT X])) (.val (lsD ls)) x6 x7 x8 (.val (.int i)) x10 (.val (stepD p)) c) (by omega) fun p _ => ⟨rfl, ?_, rfl⟩
    have a0 : atI [PyData.int p.1, .int p.2.1, .int p.2.2] 0 = some (.int p.1) := rfl
    generalize chD ch = CH
    generalize nsD ns = NS
    generalize rowD rs = RS
    generalize lsD ls = LS
    generalize rowT X = XX
    unfold d__law_stream_e5
    simp -implicitDefEqProofs [eVar_val, eIxN_val, a0]
  have al := atI_last (xs := acc) (x := rowT X)
  unfold rowT at k1 q2 al ⊢
  unfold lsD at k1 q2
  generalize (X.map (·.1)).map PyData.int = L2 at k1 ⊢
  generalize X.map stepD = XX at q2 k1 al ⊢
  unfold IsL lsD at h
  generalize ls.map PyData.int = LS at q2 k1 h
  generalize chD ch = CH at q2 k1 ⊢
  generalize nsD ns = NS at q2 k1 ⊢
  unfold rowD at k1 ⊢
  generalize rs.map PyData.int = RS at a1 hln k1 ⊢
  generalize (rs.length : Int) = K at a1 md hln
  generalize (i : Int) = I at a1 md q2 k1 ⊢
  unfold d__law_stream_b6
  rcases h with rfl | rfl
  · simp -implicitDefEqProofs [eVar_val, eVar_own, eLenN_val, eIxN_val, eIxN_own, hln, md, a1, callR_mk q2, dApp_own, ha, al, k1]
  · simp -implicitDefEqProofs [eVar_val, eLenN_val, eIxN_val, eIxN_own, hln, md, a1, callR_mk q2, dApp_own, ha, al, k1]
theorem stream_l (W : CW ch rs ns J T) {x3 x6 x7 x8 x10 x11 : Sl} {j : Nat} (hj : j ≤ J) : ∀ (n i : Nat) (x5 x9 : Sl), i + n ≤ T → IsL x5 (lvs ch rs ns (j * T + i)) →
    ∃ y5 y9, IsL y5 (lvs ch rs ns (j * T + (i + n))) ∧ forL (gSet 9) d__law_stream_b6 (rangeD i n) (s12 (.val (chD ch)) (.val (rowD rs)) (.val (nsD ns)) x3 (.own (FD ch rs ns (j * T + i))) x5 x6 x7 x8 x9 x10 x11 c) =
      .nx (s12 (.val (chD ch)) (.val (rowD rs)) (.val (nsD ns)) x3 (.own (FD ch rs ns (j * T + (i + n)))) y5 x6 x7 x8 y9 x10 x11 c)
  | 0, i, x5, x9, _, h => ⟨x5, x9, h, by rw [rangeD_zero, forL_nil]; rfl⟩
  | n + 1, i, x5, x9, hi, h => by
    have hs := sizeLine_eq
    have hle := W.le
    have hjT : j * T ≤ J * T := Nat.mul_le_mul_right _ hj
    have e := stream_b W (c := c) (x3 := x3) (x6 := x6) (x7 := x7) (x8 := x8) (x10 := x10) (x11 := x11) (acc := FD ch rs ns (j * T + i)) h (by rw [List.length_map, FL_len]; omega)
    have ea : FD ch rs ns (j * T + i) ++ [rowT (row ch rs ns (j * T + i))] = FD ch rs ns (j * T + (i + 1)) := by
      unfold FD
      rw [show j * T + (i + 1) = j * T + i + 1 by omega, FL_succ, List.map_append]
      rfl
    rw [ea] at e
    obtain ⟨z5, z9, g1, g2⟩ := stream_l W (x3 := x3) (x6 := x6) (x7 := x7) (x8 := x8) (x10 := x10) (x11 := x11) hj n (i + 1) (.own ((lvs ch rs ns (j * T + i + 1)).map .int)) (.val (.int i)) (by omega) (.inl rfl)
    refine ⟨z5, z9, by rw [show i + (n + 1) = i + 1 + n by omega]; exact g1, ?_⟩
    rw [rangeD_succ, forL_nx (by rfl) e, show ((i : Int) + 1) = ((i + 1 : Nat) : Int) by omega, g2, show i + (n + 1) = i + 1 + n by omega]
theorem stream_t (W : CW ch rs ns J T) {x6 x7 x8 x9 x10 x11 x5 : Sl} {j : Nat} (hj : j ≤ J) (h : IsL x5 (lvs ch rs ns (j * T))) :
    ∃ y5 y8 y9, IsL y5 (lvs ch rs ns ((j + 1) * T)) ∧ d__law_stream_b7 (s12 (.val (chD ch)) (.val (rowD rs)) (.val (nsD ns)) (.val (.int T)) (.own (FD ch rs ns (j * T))) x5 x6 x7 x8 x9 x10 x11 c) =
      if j = J then .bk (s12 (.val (chD ch)) (.val (rowD rs)) (.val (nsD ns)) (.val (.int T)) (.own (FD ch rs ns ((j + 1) * T))) y5 x6 x7 y8 y9 x10 x11 c)
      else .nx (s12 (.val (chD ch)) (.val (rowD rs)) (.val (nsD ns)) (.val (.int T)) (.own (FD ch rs ns ((j + 1) * T))) y5 x6 x7 y8 y9 x10 x11 c) := by
  obtain ⟨y5, y9, g1, g2⟩ := stream_l W (c := c) (x3 := .val (.int T)) (x6 := x6) (x7 := x7) (x8 := .val (lsD (lvs ch rs ns (j * T)))) (x10 := x10) (x11 := x11) hj T 0 (.val (lsD (lvs ch rs ns (j * T)))) x9 (by omega) (.inr rfl)
  have t2 := W.t2
  have e0 : j * T + (0 + T) = (j + 1) * T := by rw [Nat.add_mul, Nat.one_mul]; omega
  rw [e0] at g1 g2
  rw [Nat.add_zero] at g2
  have r1 : ∀ st : S, rng1K (.int (T : Int)) st = .ok (rangeD (0 : Nat) T) st := fun st => by
    rw [rng1K_int (by omega) (by omega), Int.toNat_natCast]
    rfl
  have eq := eqD_F lsE (lsS (lvs ch rs ns ((j + 1) * T))) (lsS (lvs ch rs ns (j * T)))
  have hP : decide (lvs ch rs ns ((j + 1) * T) = lvs ch rs ns (j * T)) = decide (j = J) := by
    by_cases q : j = J
    · subst q
      rw [decide_eq_true W.eJ, decide_eq_true rfl]
    · rw [decide_eq_false (W.nJ j (by omega)), decide_eq_false q]
  rw [hP] at eq
  refine ⟨.val (lsD (lvs ch rs ns ((j + 1) * T))), .val (lsD (lvs ch rs ns (j * T))), y9, .inr rfl, ?_⟩
  generalize lvs ch rs ns ((j + 1) * T) = L2 at g1 eq ⊢
  generalize lvs ch rs ns (j * T) = L1 at h g2 eq ⊢
  generalize FD ch rs ns ((j + 1) * T) = F2 at g2 ⊢
  generalize FD ch rs ns (j * T) = F1 at g2 ⊢
  unfold IsL lsD at *
  generalize L1.map PyData.int = M1 at *
  generalize L2.map PyData.int = M2 at *
  generalize chD ch = CH at g2 ⊢
  generalize nsD ns = NS at g2 ⊢
  generalize rowD rs = RS at g2 ⊢
  generalize rangeD ((0 : Nat) : Int) T = rg at g2 r1
  generalize (T : Int) = K at g2 r1 ⊢
  clear hP
  unfold d__law_stream_b7
  by_cases q : j = J
  · rw [if_pos q]
    rw [decide_eq_true q] at eq
    rcases h with rfl | rfl <;> rcases g1 with rfl | rfl <;> simp -implicitDefEqProofs [eVar_val, eVar_own, r1, g2, eq]
  · rw [if_neg q]
    rw [decide_eq_false q] at eq
    rcases h with rfl | rfl <;> rcases g1 with rfl | rfl <;> simp -implicitDefEqProofs [eVar_val, eVar_own, r1, g2, eq]
theorem stream_w (W : CW ch rs ns J T) {x6 x10 x11 : Sl} : ∀ (m j : Nat) (x5 x7 x8 x9 : Sl), j ≤ J → J - j + 1 ≤ m → IsL x5 (lvs ch rs ns (j * T)) → ∃ y5 y7 y8 y9, forL (gSet 7) d__law_stream_b7 (rangeD j m) (s12 (.val (chD ch)) (.val (rowD rs)) (.val (nsD ns)) (.val (.int T)) (.own (FD ch rs ns (j * T))) x5 x6 x7 x8 x9 x10 x11 c) =
      .nx (s12 (.val (chD ch)) (.val (rowD rs)) (.val (nsD ns)) (.val (.int T)) (.own (FD ch rs ns (J * T + T))) y5 x6 y7 y8 y9 x10 x11 c)
  | 0, j, x5, x7, x8, x9, _, hm, _ => by omega
  | m + 1, j, x5, x7, x8, x9, hj, hm, h => by
    obtain ⟨y5, y8, y9, g1, e⟩ := stream_t W (c := c) (x6 := x6) (x7 := .val (.int j)) (x10 := x10) (x11 := x11) (x8 := x8) (x9 := x9) hj h
    by_cases q : j = J
    · subst q
      rw [if_pos rfl, show (j + 1) * T = j * T + T by rw [Nat.add_mul, Nat.one_mul]] at e
      exact ⟨y5, _, y8, y9, by rw [rangeD_succ, forL_bk (by rfl) e]⟩
    · rw [if_neg q] at e
      obtain ⟨z5, z7, z8, z9, f⟩ := stream_w W (x6 := x6) (x10 := x10) (x11 := x11) m (j + 1) y5 (.val (.int j)) y8 y9 (by omega) (by omega) g1
      exact ⟨z5, z7, z8, z9, by rw [rangeD_succ, forL_nx (by rfl) e, show ((j : Int) + 1) = ((j + 1 : Nat) : Int) by omega, f]⟩
theorem law_stream_eq (W : CW ch rs ns J T) : F__law_stream [chD ch, rowD rs, nsD ns] c = .ok (.val (.tuple [.list (FD ch rs ns (J * T + T)), .int T])) c := by
  have es : startS 12 [chD ch, rowD rs, nsD ns] c = s12 (.val (chD ch)) (.val (rowD rs)) (.val (nsD ns)) .un .un .un .un .un .un .un .un .un c := rfl
  have c2 := W.c2
  have hln : ((rs.map PyData.int).length : Int) = rs.length := by rw [List.length_map]
  have k1 : compK [10] (gSet 10) tTrue d__law_stream_e2 (ch.map stepD) (s12 (.val (chD ch)) (.val (rowD rs)) (.val (nsD ns)) .un .un .un .un .un .un .un .un .un c) = .ok (.own ((lvs ch rs ns 0).map PyData.int)) (s12 (.val (chD ch)) (.val (rowD rs)) (.val (nsD ns)) .un .un .un .un .un .un .un .un .un c) := by
    refine start_comp (fun p => s12 (.val (chD ch)) (.val (rowD rs)) (.val (nsD ns)) .un .un .un .un .un .un .un (.val (stepD p)) .un c) (by omega) fun p _ => ⟨rfl, ?_, rfl⟩
    have a0 : atI [PyData.int p.1, .int p.2.1, .int p.2.2] 1 = some (.int p.2.1) := rfl
    generalize chD ch = CH
    generalize nsD ns = NS
    generalize rowD rs = RS
    unfold d__law_stream_e2
    simp -implicitDefEqProofs [eVar_val, eIxN_val, a0]
  obtain ⟨y6, et⟩ := lturn_l (c := c) (a0 := .val (chD ch)) (a1 := .val (rowD rs)) (a2 := .val (nsD ns)) (a4 := .own []) (a5 := .own ((lvs ch rs ns 0).map .int)) (a7 := .un) (a8 := .un) (a9 := .un) (a10 := .un) (a11 := .un) ns rs.length .un W.dr W.dn
  have tE := W.tE
  unfold turnC at tE
  rw [tE] at et
  obtain ⟨y5, y7, y8, y9, e⟩ := stream_w W (c := c) (x6 := y6) (x10 := .un) (x11 := .un) 2000 0 (.own ((lvs ch rs ns 0).map .int)) .un .un .un (by omega) (by have := W.hJ; omega) (by rw [Nat.zero_mul]; exact .inl rfl)
  rw [Nat.zero_mul] at e
  have e0 : FD ch rs ns 0 = [] := rfl
  rw [e0] at e
  have r1 : ∀ st : S, rng1K (.int 2000) st = .ok (rangeD (0 : Nat) 2000) st := fun st => by
    rw [rng1K_int (by omega) (by omega)]
    rfl
  generalize FD ch rs ns (J * T + T) = F at e ⊢
  generalize (lvs ch rs ns 0).map PyData.int = L0 at e k1 et
  have ic : itD (chD ch) = some (ch.map stepD) := rfl
  have ic2 : itD (nsD ns) = some (ns.map rowD) := rfl
  generalize ch.map stepD = CL at k1 ic
  generalize ns.map rowD = NL at et ic2
  generalize chD ch = CH at es e et k1 ic ⊢
  generalize nsD ns = NS at es e et k1 ic2 ⊢
  unfold rowD at *
  generalize rs.map PyData.int = RS at *
  generalize rangeD ((0 : Nat) : Int) 2000 = rg at e r1
  generalize (rs.length : Int) = K0 at hln et
  generalize (T : Int) = K at et e ⊢
  rw [F__law_stream, fnD_eq, es]
  unfold d__law_stream
  simp -implicitDefEqProofs [eVar_val, eVar_own, eLenN_val, hln, ic, k1, ic2, et, r1, e]
abbrev s7 (a0 a1 a2 a3 a4 a5 a6 : Sl) (c : List Int) : S := ⟨[a0, a1, a2, a3, a4, a5, a6], c⟩
end
/-- a comprehension that throws dice -/
theorem compL_draw {α β : Type} {g : D → S → Option S} {te : DE} {vs : List Nat} {f : α → D} {h : β → D} {P : α → β → Prop} {m : Nat} (st : List Int → S)
    (step : ∀ (a : α) (k : Nat) (c : List Int), Dice (m + k) c → ∃ b c', P a b ∧ Dice k c' ∧ ∃ s1 y s3, g (f a) { st c with e := wipeE (st c).e vs } = some s1 ∧ te s1 = .ok y s3 ∧ y.d = h b ∧ { s3 with e := mg vs (st c).e s3.e } = st c') :
    ∀ (as : List α) (k : Nat) (c : List Int) (acc : List D), Dice (m * as.length + k) c → ∃ (bs : List β) (c' : List Int), compL g tTrue te vs (as.map f) acc (st c) = .ok (acc ++ bs.map h) (st c') ∧ bs.length = as.length ∧ (∀ b ∈ bs, ∃ a ∈ as, P a b) ∧ (∀ p ∈ as.zip bs, P p.1 p.2) ∧ Dice k c'
  | [], k, c, acc, hd => ⟨[], c, by simp, rfl, by simp, by simp, by simpa using hd⟩
  | a :: as, k, c, acc, hd => by
    obtain ⟨b, c1, p, h1, s1, y, s3, e1, e2, e3, e4⟩ := step a (m * as.length + k) c (hd.mono (by simp only [List.length_cons, Nat.mul_succ]; omega))
    obtain ⟨bs, c2, f2, l2, p2, q2, h2⟩ := compL_draw st step as k c1 (acc ++ [h b]) h1
    refine ⟨b :: bs, c2, ?_, by simp [l2], fun x hx => ?_, fun x hx => ?_, h2⟩
    · rw [List.map_cons, show compL g tTrue te vs (f a :: as.map f) acc (st c) = compL g tTrue te vs (as.map f) (acc ++ [y.d]) { s3 with e := mg vs (st c).e s3.e } from compL_y e1 (s2 := s1) rfl e2, e3, e4, f2, List.map_cons, List.append_assoc]
      rfl
    · rcases List.mem_cons.mp hx with rfl | hx
      · exact ⟨a, by simp, p⟩
      · obtain ⟨z, hz, pz⟩ := p2 x hx
        exact ⟨z, List.mem_cons_of_mem _ hz, pz⟩
    · rw [List.zip_cons_cons] at hx
      rcases List.mem_cons.mp hx with rfl | hx
      · exact p
      · exact q2 x hx
section
variable {ch : List Stg} {rs : List Int} {ns : List (List Int)} {T J : Nat} {c c' : List Int}
end
end K06

set_option Elab.async false
set_option linter.all false
set_option maxRecDepth 100000
set_option maxHeartbeats 4000000
/-! K06m1: rows of sizes; whether a chain is ever short; the program's and the law's tests. -/
namespace K06
open PySem PySem.Spec L2 DL
open PyProof.Rows hiding St

def al (most : Nat) : Nat → List (List Nat)
  | 0 => [[]]
  | n + 1 => (al most n).flatMap fun r => (List.range' 1 most).map fun s => r ++ [s]
def ordA (most many : Nat) : List (List Nat) := (List.range' 0 (most + 1)).flatMap fun w => (al most many).filter fun r => r.sum == w
def pt : Nat → Nat → List (List Nat)
  | 0, _ => []
  | 1, w => if 0 < w then [[w]] else []
  | n + 2, w => (List.range' 1 (w + 1 - (n + 2))).flatMap fun f => (pt (n + 1) (w - f)).map fun r => f :: r
def ordP (most many : Nat) : List (List Nat) := (List.range' many (most + 1 - many)).flatMap (pt many)
def mms : List (Nat × Nat) := [(1, 0), (1, 3), (1, 6), (1, 8), (1, 9), (2, 0), (2, 3), (2, 6), (2, 8), (2, 9), (3, 0), (3, 3), (3, 6), (3, 8), (3, 7)]
theorem ord_eq : ∀ p ∈ mms, ordA p.2 p.1 = ordP p.2 p.1 := by decide +kernel
theorem ord_ok : ∀ p ∈ mms, ∀ r ∈ ordA p.2 p.1, r.length = p.1 ∧ ∀ s ∈ r, 1 ≤ s ∧ s ≤ 9 := by decide +kernel
abbrev nI (n : Nat) : D := .int (n : Int)
def tD (r : List Nat) : D := .tuple (r.map nI)
def lD (r : List Nat) : D := .list (r.map nI)
def chS (r : List Nat) (sh : List Int) : List Stg := (r.zip sh).map fun p => ((p.1 : Int), (p.1 : Int), p.2)
theorem chS_len {r : List Nat} {sh : List Int} (h : r.length = sh.length) : (chS r sh).length = sh.length := by
  rw [chS, List.length_map, List.length_zip, h, Nat.min_self]
theorem chS_ok {m : Nat} {r : List Nat} {sh : List Int} (h : ∀ s ∈ r, 1 ≤ s ∧ s ≤ m) (h2 : ∀ x ∈ sh, 0 ≤ x ∧ x ≤ 5) : ∀ p ∈ chS r sh, StOk m p := fun p hp => by
  obtain ⟨q, hq, rfl⟩ := List.mem_map.mp hp
  have a := h q.1 (List.of_mem_zip hq).1
  have b := h2 q.2 (List.of_mem_zip hq).2
  exact ⟨by simp only; omega, by simp only; omega, by simp only; omega, by simp only; omega, b.1, b.2⟩
open Classical in
/-- never short -/
noncomputable def kb (ch : List Stg) (rs : List Int) (ns : List (List Int)) : Bool := decide (∀ t, ∀ x ∈ row ch rs ns t, x.2.2 = 0)
section
variable {ch : List Stg} {rs : List Int} {ns : List (List Int)} {T J : Nat} {c : List Int}
theorem kb_iff (W : CW ch rs ns J T) : kb ch rs ns = true ↔ ∀ ts ∈ FL (row ch rs ns) (J * T + T), ∀ x ∈ ts, x.2.2 = 0 := by
  have e : kb ch rs ns = true ↔ ∀ t, ∀ x ∈ row ch rs ns t, x.2.2 = 0 := by
    unfold kb
    exact @decide_eq_true_iff _ (Classical.propDecidable _)
  rw [e]
  have t1 := W.t1
  constructor
  · intro h ts hts
    obtain ⟨i, _, rfl⟩ := List.mem_map.mp hts
    exact h i
  · intro h t
    by_cases q : t < J * T + T
    · exact h _ (List.mem_map.mpr ⟨t, by rw [List.mem_range'_1]; omega, rfl⟩)
    · obtain ⟨r, rfl⟩ : ∃ r, t = J * T + r := ⟨t - J * T, by omega⟩
      rw [W.per.mod r]
      have := Nat.mod_lt r (show 0 < T by omega)
      exact h _ (List.mem_map.mpr ⟨J * T + r % T, by rw [List.mem_range'_1]; omega, rfl⟩)
theorem FL_pos {N : Nat} : ∀ ts ∈ FL (row ch rs ns) N, ∀ x ∈ ts, 0 ≤ x.2.2 := fun ts hts => by
  obtain ⟨i, _, rfl⟩ := List.mem_map.mp hts
  exact fun x hx => (stepC_pos _ _ _ _ _ _ x hx).2.2
theorem sum_zero : ∀ {xs : List Int}, (∀ x ∈ xs, 0 ≤ x) → (xs.sum = 0 ↔ ∀ x ∈ xs, x = 0)
  | [], _ => by simp
  | x :: xs, h => by
    have a := h x (by simp)
    have b := sum_pos fun y hy => h y (List.mem_cons_of_mem _ hy)
    have ih := sum_zero fun y hy => h y (List.mem_cons_of_mem _ hy)
    rw [List.sum_cons]
    constructor
    · intro e y hy
      rcases List.mem_cons.mp hy with rfl | hy
      · omega
      · exact ih.mp (by omega) y hy
    · intro e
      have e1 := e x (by simp)
      have e2 := ih.mpr fun y hy => e y (List.mem_cons_of_mem _ hy)
      omega
theorem allB_bools (bs : List Bool) : allB [.list (bs.map PyData.bool)] = some (.val (.bool (bs.all id))) := by
  show (boolsD (bs.map PyData.bool)).map _ = _
  have : boolsD (bs.map PyData.bool) = some bs := by
    induction bs with
    | nil => rfl
    | cons b bs ih => simp [boolsD, ih]
  rw [this]
  rfl
abbrev s7k (a0 a1 a2 a3 a4 a5 a6 : Sl) (c : List Int) : S := ⟨[a0, a1, a2, a3, a4, a5, a6], c⟩
theorem is_kept_eq (W : CW ch rs ns J T) : F_is_kept [chD ch, rowD rs, nsD ns] c = .ok (.val (.bool (kb ch rs ns))) c := by
  have hs := sizeLine_eq
  have hle := W.le
  have c2 := W.c2
  have es : startS 7 [chD ch, rowD rs, nsD ns] c = s7k (.val (chD ch)) (.val (rowD rs)) (.val (nsD ns)) .un .un .un .un c := rfl
  have q2 := W.settled (c := c)
  have k1 : compK [5] (gSet 5) tTrue d_is_kept_e4 (FD ch rs ns (J * T + T)) (s7k (.val (chD ch)) (.val (rowD rs)) (.val (nsD ns)) (.val (.list (FD ch rs ns (J * T + T)))) (.val (.int T)) .un .un c) =
      .ok (.own ((FL (row ch rs ns) (J * T + T)).map fun ts => PyData.bool (decide ((ts.map (·.2.2)).sum = 0)))) (s7k (.val (chD ch)) (.val (rowD rs)) (.val (nsD ns)) (.val (.list (FD ch rs ns (J * T + T)))) (.val (.int T)) .un .un c) := by
    refine compK_map0 (fun ts => s7k (.val (chD ch)) (.val (rowD rs)) (.val (nsD ns)) (.val (.list (FD ch rs ns (J * T + T)))) (.val (.int T)) (.val (rowT ts)) .un c) (by rw [FL_len]; omega) fun ts hts => ⟨rfl, ?_, rfl⟩
    have hlen : ts.length < 1000 := by
      obtain ⟨i, _, rfl⟩ := List.mem_map.mp hts
      rw [row_len W.hl]
      omega
    have k2 : compK [6] (gSet 6) tTrue d_is_kept_e3 (ts.map stepD) (s7k (.val (chD ch)) (.val (rowD rs)) (.val (nsD ns)) (.val (.list (FD ch rs ns (J * T + T)))) (.val (.int T)) (.val (rowT ts)) .un c) = .ok (.own ((ts.map (·.2.2)).map PyData.int)) (s7k (.val (chD ch)) (.val (rowD rs)) (.val (nsD ns)) (.val (.list (FD ch rs ns (J * T + T)))) (.val (.int T)) (.val (rowT ts)) .un c) := by
      rw [List.map_map]
      refine compK_map0 (fun p => s7k (.val (chD ch)) (.val (rowD rs)) (.val (nsD ns)) (.val (.list (FD ch rs ns (J * T + T)))) (.val (.int T)) (.val (rowT ts)) (.val (stepD p)) c) (by omega) fun p _ => ⟨rfl, ?_, rfl⟩
      have a0 : atI [PyData.int p.1, .int p.2.1, .int p.2.2] 2 = some (.int p.2.2) := rfl
      generalize chD ch = CH
      generalize nsD ns = NS
      generalize rowD rs = RS
      generalize rowT ts = TS
      generalize FD ch rs ns (J * T + T) = F
      unfold d_is_kept_e3
      simp -implicitDefEqProofs [eVar_val, eIxN_val, a0]
    have sm := sumB_lst (ns := ts.map (·.2.2))
    unfold rowT at k2 ⊢
    generalize (ts.map (·.2.2)).sum = S1 at sm ⊢
    generalize (ts.map (·.2.2)).map PyData.int = X at k2 sm
    generalize ts.map stepD = TS at k2 ⊢
    generalize FD ch rs ns (J * T + T) = F at k2 ⊢
    generalize chD ch = CH at k2 ⊢
    generalize nsD ns = NS at k2 ⊢
    generalize rowD rs = RS at k2 ⊢
    unfold d_is_kept_e4
    simp -implicitDefEqProofs [eVar_val, k2, sm]
  have an := allB_bools ((FL (row ch rs ns) (J * T + T)).map fun ts => decide ((ts.map (·.2.2)).sum = 0))
  rw [List.map_map] at an
  change allB [.list ((FL (row ch rs ns) (J * T + T)).map fun ts => PyData.bool (decide ((ts.map (·.2.2)).sum = 0)))] = _ at an
  have e : ((FL (row ch rs ns) (J * T + T)).map fun ts => decide ((ts.map (·.2.2)).sum = 0)).all id = kb ch rs ns := by
    have fp := FL_pos (ch := ch) (rs := rs) (ns := ns) (N := J * T + T)
    rw [Bool.eq_iff_iff, kb_iff W]
    generalize FL (row ch rs ns) (J * T + T) = L at fp ⊢
    simp only [List.all_map, List.all_eq_true, Function.comp, id, decide_eq_true_eq]
    constructor
    · intro h ts hts x hx
      exact (sum_zero (fun y hy => by
        obtain ⟨z, hz, rfl⟩ := List.mem_map.mp hy
        exact fp ts hts z hz)).mp (h ts hts) _ (List.mem_map.mpr ⟨x, hx, rfl⟩)
    · intro h ts hts
      refine (sum_zero (fun y hy => by
        obtain ⟨z, hz, rfl⟩ := List.mem_map.mp hy
        exact fp ts hts z hz)).mpr fun y hy => ?_
      obtain ⟨z, hz, rfl⟩ := List.mem_map.mp hy
      exact h ts hts z hz
  rw [e] at an
  generalize (FL (row ch rs ns) (J * T + T)).map (fun ts => PyData.bool (decide ((ts.map (·.2.2)).sum = 0))) = X at k1 an
  generalize kb ch rs ns = P at an ⊢
  generalize FD ch rs ns (J * T + T) = F at k1 q2
  generalize (T : Int) = T1 at k1 q2
  generalize chD ch = CH at es k1 q2 ⊢
  generalize nsD ns = NS at es k1 q2 ⊢
  generalize rowD rs = RS at es k1 q2 ⊢
  rw [F_is_kept, fnD_eq, es]
  unfold d_is_kept
  simp -implicitDefEqProofs [eVar_val, callR_mk q2, k1, an]
/-! ### the law's test -/
theorem maxI_pos : ∀ {xs : List Int}, (∀ x ∈ xs, 0 ≤ x) → (0 < maxI xs ↔ ∃ x ∈ xs, x ≠ 0)
  | [], _ => by simp [maxI]
  | [x], h => by
    have := h x (by simp)
    simp only [maxI, List.mem_singleton, exists_eq_left]
    omega
  | x :: y :: r, h => by
    have hx := h x (by simp)
    have ih := maxI_pos (xs := y :: r) fun z hz => h z (List.mem_cons_of_mem _ hz)
    rw [show maxI (x :: y :: r) = if maxI (y :: r) > x then maxI (y :: r) else x from rfl]
    constructor
    · intro q
      by_cases g : maxI (y :: r) > x
      · rw [if_pos g] at q
        obtain ⟨z, hz, e⟩ := ih.mp q
        exact ⟨z, List.mem_cons_of_mem _ hz, e⟩
      · rw [if_neg g] at q
        exact ⟨x, by simp, by omega⟩
    · rintro ⟨z, hz, e⟩
      rcases List.mem_cons.mp hz with rfl | hz
      · split <;> omega
      · have := ih.mpr ⟨z, hz, e⟩
        split <;> omega
theorem intsD_map : ∀ ns : List Int, intsD (ns.map PyData.int) = some ns
  | [] => rfl
  | n :: ns => by simp [intsD, intsD_map ns]
theorem maxB_ints {ns : List Int} (h : ns ≠ []) : maxB [.list (ns.map .int)] = some (.val (.int (maxI ns))) := by
  cases ns with
  | nil => exact absurd rfl h
  | cons n ns =>
    show (match intsD ((n :: ns).map PyData.int) with
      | some (n :: ns) => some (Sl.val (.int (maxI (n :: ns))))
      | _ => none) = _
    rw [intsD_map]
abbrev s11 (a0 a1 a2 a3 a4 a5 a6 a7 a8 a9 a10 : Sl) (c : List Int) : S := ⟨[a0, a1, a2, a3, a4, a5, a6, a7, a8, a9, a10], c⟩
theorem keeps_b {x0 x1 x2 x3 x4 x5 x6 x8 x9 x10 : Sl} {ts : List Tri} (h1 : 1 ≤ ts.length) (h2 : ts.length < 1000) (hp : ∀ x ∈ ts, 0 ≤ x.2.2) :
    d__law_keeps_b5 (s11 x0 x1 x2 x3 x4 x5 x6 (.val (rowT ts)) x8 x9 x10 c) = if ∃ x ∈ ts, x.2.2 ≠ 0 then .rt (.val (.bool false)) c else .nx (s11 x0 x1 x2 x3 x4 x5 x6 (.val (rowT ts)) x8 x9 x10 c) := by
  have hs := sizeLine_eq
  have k2 : compK [10] (gSet 10) tTrue d__law_keeps_e4 (ts.map stepD) (s11 x0 x1 x2 x3 x4 x5 x6 (.val (rowT ts)) x8 x9 x10 c) = .ok (.own ((ts.map (·.2.2)).map PyData.int)) (s11 x0 x1 x2 x3 x4 x5 x6 (.val (rowT ts)) x8 x9 x10 c) := by
    rw [List.map_map]
    refine compK_map0 (fun p => s11 x0 x1 x2 x3 x4 x5 x6 (.val (rowT ts)) x8 x9 (.val (stepD p)) c) (by omega) fun p _ => ⟨rfl, ?_, rfl⟩
    have a0 : atI [PyData.int p.1, .int p.2.1, .int p.2.2] 2 = some (.int p.2.2) := rfl
    generalize rowT ts = TS
    unfold d__law_keeps_e4
    simp -implicitDefEqProofs [eVar_val, eIxN_val, a0]
  have mb := maxB_ints (ns := ts.map (·.2.2)) (by
    intro q
    have := congrArg List.length q
    simp only [List.length_map, List.length_nil] at this
    omega)
  have mi := maxI_pos (xs := ts.map (·.2.2)) fun y hy => by
    obtain ⟨z, hz, rfl⟩ := List.mem_map.mp hy
    exact hp z hz
  have e : (∃ x ∈ ts.map (·.2.2), x ≠ 0) ↔ ∃ x ∈ ts, x.2.2 ≠ 0 := by
    constructor
    · rintro ⟨y, hy, q⟩
      obtain ⟨z, hz, rfl⟩ := List.mem_map.mp hy
      exact ⟨z, hz, q⟩
    · rintro ⟨z, hz, q⟩
      exact ⟨_, List.mem_map.mpr ⟨z, hz, rfl⟩, q⟩
  rw [e] at mi
  generalize maxI (ts.map (·.2.2)) = M at mb mi
  unfold rowT at k2 ⊢
  generalize (ts.map (·.2.2)).map PyData.int = X at k2 mb
  generalize ts.map stepD = TS at k2 ⊢
  unfold d__law_keeps_b5
  by_cases g : ∃ x ∈ ts, x.2.2 ≠ 0
  · have q := mi.mpr g
    rw [if_pos g]
    simp -implicitDefEqProofs [eVar_val, k2, mb, q]
  · have q : ¬ 0 < M := fun q => g (mi.mp q)
    rw [if_neg g]
    simp -implicitDefEqProofs [eVar_val, k2, mb, q]
theorem keeps_l {x0 x1 x2 x3 x4 x5 x6 x8 x9 x10 : Sl} : ∀ (L : List (List Tri)) (x7 : Sl), (∀ ts ∈ L, 1 ≤ ts.length ∧ ts.length < 1000 ∧ ∀ x ∈ ts, 0 ≤ x.2.2) →
    if ∀ ts ∈ L, ∀ x ∈ ts, x.2.2 = 0 then ∃ y7, forL (gSet 7) d__law_keeps_b5 (L.map rowT) (s11 x0 x1 x2 x3 x4 x5 x6 x7 x8 x9 x10 c) = .nx (s11 x0 x1 x2 x3 x4 x5 x6 y7 x8 x9 x10 c)
    else forL (gSet 7) d__law_keeps_b5 (L.map rowT) (s11 x0 x1 x2 x3 x4 x5 x6 x7 x8 x9 x10 c) = .rt (.val (.bool false)) c
  | [], x7, _ => by
    rw [if_pos (by simp)]
    exact ⟨x7, rfl⟩
  | ts :: L, x7, h => by
    obtain ⟨h1, h2, h3⟩ := h ts (by simp)
    have eb := keeps_b (c := c) (x0 := x0) (x1 := x1) (x2 := x2) (x3 := x3) (x4 := x4) (x5 := x5) (x6 := x6) (x8 := x8) (x9 := x9) (x10 := x10) h1 h2 h3
    have ih := keeps_l (x0 := x0) (x1 := x1) (x2 := x2) (x3 := x3) (x4 := x4) (x5 := x5) (x6 := x6) (x8 := x8) (x9 := x9) (x10 := x10) L (.val (rowT ts)) fun u hu => h u (List.mem_cons_of_mem _ hu)
    rw [List.map_cons]
    by_cases g : ∃ x ∈ ts, x.2.2 ≠ 0
    · rw [if_pos g] at eb
      rw [if_neg (by
        intro q
        obtain ⟨x, hx, e⟩ := g
        exact e (q ts (by simp) x hx)), forL_rt (by rfl) eb]
    · rw [if_neg g] at eb
      have g' : ∀ x ∈ ts, x.2.2 = 0 := fun x hx => Classical.byContradiction fun q => g ⟨x, hx, q⟩
      by_cases r : ∀ u ∈ L, ∀ x ∈ u, x.2.2 = 0
      · rw [if_pos r] at ih
        obtain ⟨y7, e⟩ := ih
        rw [if_pos (by
          intro u hu
          rcases List.mem_cons.mp hu with rfl | hu
          · exact g'
          · exact r u hu)]
        exact ⟨y7, by rw [forL_nx (by rfl) eb, e]⟩
      · rw [if_neg r] at ih
        rw [if_neg (fun q => r fun u hu => q u (List.mem_cons_of_mem _ hu)), forL_nx (by rfl) eb, ih]
end
end K06

set_option Elab.async false
set_option linter.all false
set_option maxRecDepth 100000
set_option maxHeartbeats 4000000
/-! K06m2: chains of sizes; rows of sizes, the program's and the law's. -/
namespace K06
open PySem PySem.Spec L2 DL
open PyProof.Rows hiding St

section
variable {rs : List Int} {ns : List (List Int)} {T J : Nat} {c : List Int} {r : List Nat} {sh : List Int}
theorem zipD_ns : zipD (r.map nI) (sh.map .int) = (r.zip sh).map fun p => .tuple [nI p.1, .int p.2] := by
  unfold zipD
  rw [List.zipWith_map, List.zip_eq_zipWith, List.map_zipWith]
theorem full_chain_eq (h : r.length ≤ 100) : F_full_chain [lD r, rowD sh] c = .ok (.val (chD (chS r sh))) c := by
  have hs := sizeLine_eq
  have es : startS 4 [lD r, rowD sh] c = ⟨[.val (lD r), .val (rowD sh), .un, .un], c⟩ := rfl
  have k1 : compK [2, 3] (gTupD (gsCons (gSet 2) (gsCons (gSet 3) gsNil))) tTrue d_full_chain_e2 (zipD (r.map nI) (sh.map .int)) ⟨[.val (lD r), .val (rowD sh), .un, .un], c⟩ = .ok (.own ((chS r sh).map stepD)) ⟨[.val (lD r), .val (rowD sh), .un, .un], c⟩ := by
    rw [zipD_ns, chS, List.map_map]
    refine compK_map0 (fun p => ⟨[.val (lD r), .val (rowD sh), .val (nI p.1), .val (.int p.2)], c⟩) (by rw [List.length_zip]; omega) fun p _ => ⟨rfl, ?_, rfl⟩
    show _ = RE.ok (.val (.tuple [nI p.1, nI p.1, .int p.2])) _
    generalize lD r = R
    generalize rowD sh = SH
    unfold d_full_chain_e2
    simp -implicitDefEqProofs [eVar_val]
  have iz : iZipLT (eVar 0) (eVar 1) ⟨[.val (lD r), .val (rowD sh), .un, .un], c⟩ = .ok (zipD (r.map nI) (sh.map .int)) ⟨[.val (lD r), .val (rowD sh), .un, .un], c⟩ := rfl
  unfold chD
  generalize (chS r sh).map stepD = X at k1 ⊢
  have tb : tupB [.list X] = some (.val (.tuple X)) := rfl
  generalize zipD (r.map nI) (sh.map .int) = Z at k1 iz
  generalize lD r = R at *
  generalize rowD sh = SH at *
  rw [F_full_chain, fnD_eq, es]
  unfold d_full_chain
  simp -implicitDefEqProofs [iz, k1, tb]
theorem law_keeps_eq (h : r.length ≤ 100) (W : CW (chS r sh) rs ns J T) : F__law_keeps [tD r, rowD sh, rowD rs, nsD ns] c = .ok (.val (.bool (kb (chS r sh) rs ns))) c := by
  have hs := sizeLine_eq
  have hle := W.le
  have c1 := W.c1
  have c2 := W.c2
  have es : startS 11 [tD r, rowD sh, rowD rs, nsD ns] c = s11 (.val (tD r)) (.val (rowD sh)) (.val (rowD rs)) (.val (nsD ns)) .un .un .un .un .un .un .un c := rfl
  have k1 : compK [8, 9] (gTupD (gsCons (gSet 8) (gsCons (gSet 9) gsNil))) tTrue d__law_keeps_e2 (zipD (r.map nI) (sh.map .int)) (s11 (.val (tD r)) (.val (rowD sh)) (.val (rowD rs)) (.val (nsD ns)) .un .un .un .un .un .un .un c) = .ok (.own ((chS r sh).map stepD)) (s11 (.val (tD r)) (.val (rowD sh)) (.val (rowD rs)) (.val (nsD ns)) .un .un .un .un .un .un .un c) := by
    rw [zipD_ns, chS, List.map_map]
    refine compK_map0 (fun p => s11 (.val (tD r)) (.val (rowD sh)) (.val (rowD rs)) (.val (nsD ns)) .un .un .un .un (.val (nI p.1)) (.val (.int p.2)) .un c) (by rw [List.length_zip]; omega) fun p _ => ⟨rfl, ?_, rfl⟩
    show _ = RE.ok (.val (.tuple [nI p.1, nI p.1, .int p.2])) _
    generalize tD r = R
    generalize rowD sh = SH
    generalize rowD rs = RS
    generalize nsD ns = NS
    unfold d__law_keeps_e2
    simp -implicitDefEqProofs [eVar_val]
  have iz : iZip2 (eVar 0) (eVar 1) (s11 (.val (tD r)) (.val (rowD sh)) (.val (rowD rs)) (.val (nsD ns)) .un .un .un .un .un .un .un c) = .ok (zipD (r.map nI) (sh.map .int)) (s11 (.val (tD r)) (.val (rowD sh)) (.val (rowD rs)) (.val (nsD ns)) .un .un .un .un .un .un .un c) := rfl
  have q2 := law_stream_eq W (c := c)
  have e := keeps_l (c := c) (x0 := .val (tD r)) (x1 := .val (rowD sh)) (x2 := .val (rowD rs)) (x3 := .val (nsD ns)) (x4 := .val (chD (chS r sh))) (x5 := .val (.list (FD (chS r sh) rs ns (J * T + T)))) (x6 := .val (.int T)) (x8 := .un) (x9 := .un) (x10 := .un) (FL (row (chS r sh) rs ns) (J * T + T)) .un fun ts hts => by
    refine ⟨?_, ?_, FL_pos ts hts⟩
    · obtain ⟨i, _, rfl⟩ := List.mem_map.mp hts
      rw [row_len W.hl]
      exact c1
    · obtain ⟨i, _, rfl⟩ := List.mem_map.mp hts
      rw [row_len W.hl]
      omega
  have kI := kb_iff W
  have ifD : itD (.list (FD (chS r sh) rs ns (J * T + T))) = some (FD (chS r sh) rs ns (J * T + T)) := rfl
  change (if _ then ∃ y7, forL (gSet 7) d__law_keeps_b5 (FD (chS r sh) rs ns (J * T + T)) _ = _ else forL (gSet 7) d__law_keeps_b5 (FD (chS r sh) rs ns (J * T + T)) _ = _) at e
  generalize FD (chS r sh) rs ns (J * T + T) = F at *
  unfold chD at *
  generalize (chS r sh).map stepD = X at *
  have tb : tupB [.list X] = some (.val (.tuple X)) := rfl
  generalize zipD (r.map nI) (sh.map .int) = Z at *
  generalize tD r = R at *
  generalize rowD sh = SH at *
  generalize rowD rs = RS at *
  generalize nsD ns = NS at *
  generalize (T : Int) = T1 at *
  rw [F__law_keeps, fnD_eq, es]
  unfold d__law_keeps
  cases hk : kb (chS r sh) rs ns with
  | true =>
    rw [if_pos (kI.mp hk)] at e
    obtain ⟨y7, e⟩ := e
    simp -implicitDefEqProofs [eVar_val, iz, k1, tb, callR_mk q2, e]
  | false =>
    rw [if_neg (fun q => by rw [kI.mpr q] at hk; cases hk)] at e
    simp -implicitDefEqProofs [eVar_val, iz, k1, tb, callR_mk q2, e]
end
/-! ### rows of sizes with a sum -/
def pb (G : Fn) : DS := dExt 2 (eComp [4] (iSeq (eCall G (aCons (eSub (eVar 0) (eVar 3)) (aCons (eSub (eVar 1) (eC (.int 1))) aNil)))) (gSet 4) tTrue d_parted_1_e2)
def pd (G : Fn) : DS := dSeq (dIf (eEq (eVar 1) (eC (.int 1))) (dRet (eIf (eGt (eVar 0) (eC (.int 0))) (eLst (aCons (eLst (aCons (eVar 0) aNil)) aNil)) (eLst aNil))) dNil) (dSeq (dSet 2 (eLst aNil)) (dSeq (dFor (iRng2 (eC (.int 1)) (eAdd (eSub (eVar 0) (eVar 1)) (eC (.int 2)))) (gSet 3) (pb G)) (dRetV 2)))
theorem fp2 : F_parted_2 = fnD 5 (pd F_parted_1) := rfl
theorem fp3 : F_parted_3 = fnD 5 (pd F_parted_2) := rfl
theorem fp4 : F_parted_4 = fnD 5 (pd F_parted_3) := rfl
section
variable {c : List Int}
def PtOk (G : Fn) (n : Nat) : Prop := ∀ (w : Nat) (c : List Int), w ≤ 9 → G [.int w, .int n] c = .ok (.own ((pt n w).map lD)) c
theorem pt_len : ∀ n, n < 4 → ∀ w, w < 10 → (pt n w).length ≤ 100 := by decide +kernel
theorem pt_in : ∀ n, n ≤ 1 → ∀ w, w < 10 → ∀ r ∈ pt (n + 1) w, r.length ≤ 10 := by
  intro n hn
  rcases (by omega : n = 0 ∨ n = 1) with rfl | rfl <;> decide +kernel
theorem addL {xs ys : List D} (h : xs.length + ys.length ≤ sizeLine) : addD (.list xs) (.list ys) = some (.own (xs ++ ys)) := by
  show (if _ then some (Sl.own (_ ++ _)) else none) = _
  rw [if_pos h]
theorem pt_one (G : Fn) : PtOk (fnD 5 (pd G)) 1 := fun w c h => by
  have es : startS 5 [.int w, .int (1 : Nat)] c = ⟨[.val (.int w), .val (.int 1), .un, .un, .un], c⟩ := rfl
  rw [fnD_eq, es]
  unfold pd
  by_cases g : 0 < w
  · have e : (pt 1 w).map lD = [.list [.int w]] := by
      unfold pt
      rw [if_pos g]
      rfl
    have g' : (0 : Int) < w := by omega
    rw [e]
    generalize (w : Int) = W at g' ⊢
    simp -implicitDefEqProofs [eVar_val, g']
  · have e : (pt 1 w).map lD = [] := by
      unfold pt
      rw [if_neg g]
      rfl
    have g' : ¬ (0 : Int) < w := by omega
    rw [e]
    generalize (w : Int) = W at g' ⊢
    simp -implicitDefEqProofs [eVar_val, g']
theorem pb_eq {G : Fn} {n w f : Nat} {acc : List D} {x4 : Sl} (hG : PtOk G (n + 1)) (hn : n ≤ 1) (hw : w ≤ 9) (hf : f ≤ w) (ha : acc.length ≤ 10000) :
    pb G ⟨[.val (.int w), .val (.int (n + 2 : Nat)), .own acc, .val (.int f), x4], c⟩ = .nx ⟨[.val (.int w), .val (.int (n + 2 : Nat)), .own (acc ++ ((pt (n + 1) (w - f)).map fun r => f :: r).map lD), .val (.int f), x4], c⟩ := by
  have hs := sizeLine_eq
  have hl := pt_len (n + 1) (by omega) (w - f) (by omega)
  have e := hG (w - f) c (by omega)
  have k1 : compK [4] (gSet 4) tTrue d_parted_1_e2 ((pt (n + 1) (w - f)).map lD) ⟨[.val (.int w), .val (.int (n + 2 : Nat)), .own acc, .val (.int f), x4], c⟩ = .ok (.own (((pt (n + 1) (w - f)).map fun r => f :: r).map lD)) ⟨[.val (.int w), .val (.int (n + 2 : Nat)), .own acc, .val (.int f), x4], c⟩ := by
    rw [List.map_map]
    refine compK_map (by omega) fun r hr => ⟨⟨[.val (.int w), .val (.int (n + 2 : Nat)), .own acc, .val (.int f), .val (lD r)], c⟩, .own (nI f :: r.map nI), ⟨[.val (.int w), .val (.int (n + 2 : Nat)), .own acc, .val (.int f), .val (lD r)], c⟩, rfl, ?_, rfl, rfl⟩
    have hr2 : r.length ≤ 10 := pt_in n (by omega) (w - f) (by omega) r hr
    have ad : addD (.list [nI f]) (.list (r.map nI)) = some (.own (nI f :: r.map nI)) := by
      rw [addL (by simp; omega)]
      rfl
    unfold lD
    generalize r.map nI = R at ad ⊢
    unfold d_parted_1_e2
    simp -implicitDefEqProofs [eVar_val, ad]
  have hl2 : acc.length + (((pt (n + 1) (w - f)).map fun r => f :: r).map lD).length ≤ sizeLine := by
    rw [List.length_map, List.length_map]
    omega
  rw [show ((w - f : Nat) : Int) = (w : Int) - f by omega, show ((n + 1 : Nat) : Int) = ((n + 2 : Nat) : Int) - 1 by omega] at e
  generalize ((pt (n + 1) (w - f)).map fun r => f :: r).map lD = X at k1 hl2 ⊢
  generalize (pt (n + 1) (w - f)).map lD = Y at e k1
  generalize ((n + 2 : Nat) : Int) = N at e k1 ⊢
  generalize (w : Int) = W at e k1 ⊢
  generalize (f : Int) = F at e k1 ⊢
  unfold pb dExt
  simp -implicitDefEqProofs [eVar_val, callR_mk e, k1, hl2]
theorem pb_l {G : Fn} {n w : Nat} (hG : PtOk G (n + 1)) (hn : n ≤ 1) (hw : w ≤ 9) : ∀ (m f : Nat) (acc : List (List Nat)) (x3 x4 : Sl), f + m ≤ w + 1 → acc.length + 100 * m ≤ 10000 →
    ∃ y3, forL (gSet 3) (pb G) (rangeD f m) ⟨[.val (.int w), .val (.int (n + 2 : Nat)), .own (acc.map lD), x3, x4], c⟩ = .nx ⟨[.val (.int w), .val (.int (n + 2 : Nat)), .own ((acc ++ (List.range' f m).flatMap fun f => (pt (n + 1) (w - f)).map fun r => f :: r).map lD), y3, x4], c⟩
  | 0, f, acc, x3, x4, _, _ => ⟨x3, by rw [rangeD_zero, forL_nil]; simp⟩
  | m + 1, f, acc, x3, x4, hf, ha => by
    have hl := pt_len (n + 1) (by omega) (w - f) (by omega)
    have e := pb_eq (c := c) (x4 := x4) (acc := acc.map lD) hG hn hw (show f ≤ w by omega) (by rw [List.length_map]; omega)
    rw [← List.map_append] at e
    obtain ⟨y3, ih⟩ := pb_l hG hn hw m (f + 1) (acc ++ (pt (n + 1) (w - f)).map fun r => f :: r) (.val (.int f)) x4 (by omega) (by rw [List.length_append, List.length_map]; omega)
    refine ⟨y3, ?_⟩
    rw [rangeD_succ, forL_nx (by rfl) e, show ((f : Int) + 1) = ((f + 1 : Nat) : Int) by omega, ih, List.range'_succ, List.flatMap_cons, List.append_assoc]
theorem pt_step {G : Fn} {n : Nat} (hG : PtOk G (n + 1)) (hn : n ≤ 1) : PtOk (fnD 5 (pd G)) (n + 2) := fun w c h => by
  have es : startS 5 [.int w, .int (n + 2 : Nat)] c = ⟨[.val (.int w), .val (.int (n + 2 : Nat)), .un, .un, .un], c⟩ := rfl
  obtain ⟨y3, e⟩ := pb_l (c := c) hG hn h (w + 1 - (n + 2)) 1 [] .un .un (by omega) (by simp; omega)
  rw [List.nil_append, List.map_nil] at e
  change forL _ _ _ _ = .nx ⟨[_, _, .own ((pt (n + 2) w).map lD), _, _], c⟩ at e
  have r2 : ∀ st : S, rng2K (.int 1) (.int ((w : Int) - (n + 2 : Nat) + 2)) st = .ok (rangeD (1 : Nat) (w + 1 - (n + 2))) st := fun st => by
    rw [rng2K_int (by omega) (by omega), show ((w : Int) - (n + 2 : Nat) + 2 - 1).toNat = w + 1 - (n + 2) by omega]
    rfl
  have n1 : ¬ ((n + 2 : Nat) : Int) = 1 := by omega
  generalize (pt (n + 2) w).map lD = X at e ⊢
  generalize rangeD ((1 : Nat) : Int) (w + 1 - (n + 2)) = rg at e r2
  generalize ((n + 2 : Nat) : Int) = N at *
  generalize (w : Int) = W at *
  rw [fnD_eq, es]
  unfold pd
  simp -implicitDefEqProofs [eVar_val, n1, r2, e, dRetV_own]
theorem parted_eq {n w : Nat} (h1 : 1 ≤ n) (h2 : n ≤ 3) (hw : w ≤ 9) : F_parted_4 [.int w, .int n] c = .ok (.own ((pt n w).map lD)) c := by
  have a1 : PtOk F_parted_2 1 := by rw [fp2]; exact pt_one _
  have b1 : PtOk F_parted_3 1 := by rw [fp3]; exact pt_one _
  have c1 : PtOk F_parted_4 1 := by rw [fp4]; exact pt_one _
  have b2 : PtOk F_parted_3 2 := by rw [fp3]; exact pt_step a1 (by omega)
  have c2 : PtOk F_parted_4 2 := by rw [fp4]; exact pt_step b1 (by omega)
  have c3 : PtOk F_parted_4 3 := by rw [fp4]; exact pt_step b2 (by omega)
  rcases (by omega : n = 1 ∨ n = 2 ∨ n = 3) with rfl | rfl | rfl
  · exact c1 w c hw
  · exact c2 w c hw
  · exact c3 w c hw
end
end K06

set_option Elab.async false
set_option linter.all false
set_option maxRecDepth 100000
set_option maxHeartbeats 4000000
/-! K06m3: all rows of sizes; the smallest chain. -/
namespace K06
open PySem PySem.Spec L2 DL
open PyProof.Rows hiding St

abbrev s9a (a0 a1 a2 a3 a4 a5 a6 a7 a8 : Sl) (c : List Int) : S := ⟨[a0, a1, a2, a3, a4, a5, a6, a7, a8], c⟩
section
variable {c : List Int} {x0 x3 x6 x7 x8 : Sl} {most : Nat}
theorem al_len (m : Nat) : ∀ n, (al m n).length = m ^ n
  | 0 => rfl
  | n + 1 => by
    rw [al, List.length_flatMap]
    have e : (al m n).map (fun r => ((List.range' 1 m).map fun s => r ++ [s]).length) = List.replicate (al m n).length m := by
      rw [List.eq_replicate_iff]
      refine ⟨by rw [List.length_map], fun b hb => ?_⟩
      obtain ⟨r, _, rfl⟩ := List.mem_map.mp hb
      rw [List.length_map, List.length_range']
    rw [e, List.sum_replicate_nat, al_len m n, Nat.pow_succ]
theorem al_in (m : Nat) : ∀ n, ∀ r ∈ al m n, r.length = n
  | 0, r, h => by rw [al, List.mem_singleton] at h; rw [h]; rfl
  | n + 1, r, h => by
    rw [al, List.mem_flatMap] at h
    obtain ⟨q, hq, h⟩ := h
    obtain ⟨s, _, rfl⟩ := List.mem_map.mp h
    rw [List.length_append, al_in m n q hq]
    rfl
theorem all_b {x2 : Sl} {r : List Nat} {acc : List (List Nat)} (hm : most ≤ 9) (hr : r.length ≤ 10) (ha : acc.length ≤ 100000) :
    d__law_all_b3 (s9a x0 (.val (.int most)) x2 x3 (.own (acc.map tD)) (.val (tD r)) x6 x7 x8 c) = .nx (s9a x0 (.val (.int most)) x2 x3 (.own ((acc ++ (List.range' 1 most).map fun s => r ++ [s]).map tD)) (.val (tD r)) x6 x7 x8 c) := by
  have hs := sizeLine_eq
  have k1 : compK [8] (gSet 8) tTrue d__law_all_e2 (rangeD (1 : Nat) most) (s9a x0 (.val (.int most)) x2 x3 (.val (.list (acc.map tD))) (.val (tD r)) x6 x7 x8 c) = .ok (.own (((List.range' 1 most).map fun s => r ++ [s]).map tD)) (s9a x0 (.val (.int most)) x2 x3 (.val (.list (acc.map tD))) (.val (tD r)) x6 x7 x8 c) := by
    rw [rangeD_nat, List.map_map]
    refine compK_map0 (fun i : Nat => s9a x0 (.val (.int most)) x2 x3 (.val (.list (acc.map tD))) (.val (tD r)) x6 x7 (.val (.int i)) c) (by simp; omega) fun i _ => ⟨rfl, ?_, rfl⟩
    have ad : addD (.tuple (r.map nI)) (.tuple [.int i]) = some (.val (.tuple ((r ++ [i]).map nI))) := by
      show (if _ then some (Sl.val (.tuple (_ ++ _))) else none) = _
      rw [if_pos (by simp; omega), List.map_append]
      rfl
    show _ = RE.ok (.val (.tuple ((r ++ [i]).map nI))) _
    unfold tD
    generalize (r ++ [i]).map nI = R2 at ad ⊢
    generalize r.map nI = R at ad ⊢
    generalize acc.map (fun r => PyData.tuple (r.map nI)) = A
    unfold d__law_all_e2
    simp -implicitDefEqProofs [eVar_val, ad]
  have r2 : ∀ st : S, rng2K (.int 1) (.int ((most : Int) + 1)) st = .ok (rangeD (1 : Nat) most) st := fun st => by
    rw [rng2K_int (by omega) (by omega), show ((most : Int) + 1 - 1).toNat = most by omega]
    rfl
  have ad := addL (xs := acc.map tD) (ys := ((List.range' 1 most).map fun s => r ++ [s]).map tD) (by simp; omega)
  rw [← List.map_append] at ad
  generalize (acc ++ (List.range' 1 most).map fun s => r ++ [s]).map tD = X at ad ⊢
  generalize ((List.range' 1 most).map fun s => r ++ [s]).map tD = Y at ad k1
  generalize acc.map tD = A at ad k1 ⊢
  generalize tD r = R at k1 ⊢
  generalize rangeD ((1 : Nat) : Int) most = rg at k1 r2
  generalize (most : Int) = M at k1 r2 ⊢
  unfold d__law_all_b3
  simp -implicitDefEqProofs [eVar_val, eVar_own, r2, k1, ad]
theorem all_l {x2 : Sl} (hm : most ≤ 9) : ∀ (L acc : List (List Nat)) (x5 : Sl), (∀ r ∈ L, r.length ≤ 10) → acc.length + 9 * L.length ≤ 100000 →
    ∃ y5, forL (gSet 5) d__law_all_b3 (L.map tD) (s9a x0 (.val (.int most)) x2 x3 (.own (acc.map tD)) x5 x6 x7 x8 c) = .nx (s9a x0 (.val (.int most)) x2 x3 (.own ((acc ++ L.flatMap fun r => (List.range' 1 most).map fun s => r ++ [s]).map tD)) y5 x6 x7 x8 c)
  | [], acc, x5, _, _ => ⟨x5, by simp⟩
  | r :: L, acc, x5, hr, ha => by
    simp only [List.length_cons] at ha
    have e := all_b (c := c) (x0 := x0) (x2 := x2) (x3 := x3) (x6 := x6) (x7 := x7) (x8 := x8) (r := r) (acc := acc) hm (hr r (by simp)) (by omega)
    obtain ⟨y5, ih⟩ := all_l (x2 := x2) hm L (acc ++ (List.range' 1 most).map fun s => r ++ [s]) (.val (tD r)) (fun q hq => hr q (List.mem_cons_of_mem _ hq)) (by simp; omega)
    exact ⟨y5, by rw [List.map_cons, forL_nx (by rfl) e, ih, List.flatMap_cons, List.append_assoc]⟩
def IsR (x : Sl) (L : List (List Nat)) : Prop := x = .own (L.map tD) ∨ x = .val (.list (L.map tD))
theorem all_t (hm : most ≤ 9) {n : Nat} (hn : n ≤ 2) {x2 x4 x5 : Sl} (h : IsR x2 (al most n)) :
    ∃ y4 y5, d__law_all_b4 (s9a x0 (.val (.int most)) x2 x3 x4 x5 x6 x7 x8 c) = .nx (s9a x0 (.val (.int most)) (.val (.list ((al most (n + 1)).map tD))) x3 y4 y5 x6 x7 x8 c) := by
  have hl := al_len most n
  have hp : most ^ n ≤ 9 ^ 2 := Nat.le_trans (Nat.pow_le_pow_left hm n) (Nat.pow_le_pow_right (by omega) hn)
  obtain ⟨y5, e⟩ := all_l (c := c) (x0 := x0) (x2 := .val (.list ((al most n).map tD))) (x3 := x3) (x6 := x6) (x7 := x7) (x8 := x8) hm (al most n) [] x5 (fun r hr => by rw [al_in most n r hr]; omega) (by simp; omega)
  rw [List.nil_append, List.map_nil] at e
  change forL _ _ _ _ = .nx (s9a _ _ _ _ (.own ((al most (n + 1)).map tD)) _ _ _ _ c) at e
  refine ⟨.val (.list ((al most (n + 1)).map tD)), y5, ?_⟩
  unfold IsR at h
  generalize (al most (n + 1)).map tD = X at e ⊢
  generalize (al most n).map tD = Y at e h
  generalize (most : Int) = M at e ⊢
  unfold d__law_all_b4
  rcases h with rfl | rfl <;> simp -implicitDefEqProofs [eVar_val, eVar_own, e]
theorem all_w (hm : most ≤ 9) : ∀ (k n : Nat) (x2 x3 x4 x5 : Sl), n + k ≤ 3 → IsR x2 (al most n) → ∃ y2 y3 y4 y5, IsR y2 (al most (n + k)) ∧ forL (gSet 3) d__law_all_b4 (rangeD n k) (s9a x0 (.val (.int most)) x2 x3 x4 x5 x6 x7 x8 c) = .nx (s9a x0 (.val (.int most)) y2 y3 y4 y5 x6 x7 x8 c)
  | 0, n, x2, x3, x4, x5, _, h => ⟨x2, x3, x4, x5, h, by rw [rangeD_zero, forL_nil]⟩
  | k + 1, n, x2, x3, x4, x5, hk, h => by
    obtain ⟨y4, y5, e⟩ := all_t (c := c) (x0 := x0) (x3 := .val (.int n)) (x6 := x6) (x7 := x7) (x8 := x8) (x4 := x4) (x5 := x5) hm (show n ≤ 2 by omega) h
    obtain ⟨z2, z3, z4, z5, g, f⟩ := all_w hm k (n + 1) _ (.val (.int n)) y4 y5 (by omega) (.inr rfl)
    refine ⟨z2, z3, z4, z5, by rw [show n + (k + 1) = n + 1 + k by omega]; exact g, ?_⟩
    rw [rangeD_succ, forL_nx (by rfl) e, show ((n : Int) + 1) = ((n + 1 : Nat) : Int) by omega, f]
theorem sum_nI : ∀ r : List Nat, (r.map fun n : Nat => (n : Int)).sum = (r.sum : Nat)
  | [] => rfl
  | n :: r => by
    rw [List.map_cons, List.sum_cons, List.sum_cons, sum_nI r]
    omega
theorem found_b {x1 x4 x5 : Sl} {x2 : Sl} {L acc : List (List Nat)} {w : Nat} (h : IsR x2 L) (hl : L.length ≤ 10000) (ha : acc.length ≤ 1000000) :
    d__law_all_b7 (s9a x0 x1 x2 x3 x4 x5 (.own (acc.map tD)) (.val (.int w)) x8 c) = .nx (s9a x0 x1 (.val (.list (L.map tD))) x3 x4 x5 (.own ((acc ++ L.filter fun r => r.sum == w).map tD)) (.val (.int w)) x8 c) := by
  have hs := sizeLine_eq
  have k1 : compK [5] (gSet 5) d__law_all_t6 (eVar 5) (L.map tD) (s9a x0 x1 (.val (.list (L.map tD))) x3 x4 x5 (.val (.list (acc.map tD))) (.val (.int w)) x8 c) = .ok (.own ((L.filter fun r => r.sum == w).map tD)) (s9a x0 x1 (.val (.list (L.map tD))) x3 x4 x5 (.val (.list (acc.map tD))) (.val (.int w)) x8 c) := by
    refine compK_filter0 (fun r => s9a x0 x1 (.val (.list (L.map tD))) x3 x4 (.val (tD r)) (.val (.list (acc.map tD))) (.val (.int w)) x8 c) (by omega) fun r _ => ⟨rfl, ?_, eVar_val rfl, rfl⟩
    have sm := sumB_tup (ns := r.map fun n : Nat => (n : Int))
    rw [sum_nI, List.map_map] at sm
    change sumB [.tuple (r.map nI)] = _ at sm
    have e : (r.sum == w) = decide ((r.sum : Int) = (w : Int)) := by
      rw [Bool.eq_iff_iff, beq_iff_eq, decide_eq_true_iff]
      omega
    rw [e]
    unfold tD
    generalize ((r.sum : Nat) : Int) = S1 at sm ⊢
    generalize r.map nI = R at sm ⊢
    generalize L.map (fun r => PyData.tuple (r.map nI)) = LL
    generalize acc.map (fun r => PyData.tuple (r.map nI)) = A
    generalize (w : Int) = W
    unfold d__law_all_t6
    simp -implicitDefEqProofs [eVar_val, sm]
  have ad := addL (xs := acc.map tD) (ys := (L.filter fun r => r.sum == w).map tD) (by
    have := List.length_filter_le (fun r : List Nat => r.sum == w) L
    simp only [List.length_map]
    omega)
  rw [← List.map_append] at ad
  generalize (acc ++ L.filter fun r => r.sum == w).map tD = X at ad ⊢
  generalize (L.filter fun r => r.sum == w).map tD = Y at ad k1
  generalize acc.map tD = A at ad k1 ⊢
  unfold IsR at h
  generalize L.map tD = LL at h k1 ⊢
  generalize (w : Int) = W at k1 ⊢
  unfold d__law_all_b7
  rcases h with rfl | rfl <;> simp -implicitDefEqProofs [eVar_val, eVar_own, k1, ad]
theorem found_l {x1 x4 x5 : Sl} {L : List (List Nat)} (hl : L.length ≤ 10000) : ∀ (k w : Nat) (x2 x7 : Sl) (acc : List (List Nat)), IsR x2 L → acc.length + 10000 * k ≤ 1000000 →
    ∃ y2 y7, forL (gSet 7) d__law_all_b7 (rangeD w k) (s9a x0 x1 x2 x3 x4 x5 (.own (acc.map tD)) x7 x8 c) = .nx (s9a x0 x1 y2 x3 x4 x5 (.own ((acc ++ (List.range' w k).flatMap fun w => L.filter fun r => r.sum == w).map tD)) y7 x8 c)
  | 0, w, x2, x7, acc, _, _ => ⟨x2, x7, by rw [rangeD_zero, forL_nil]; simp⟩
  | k + 1, w, x2, x7, acc, h, ha => by
    have e := found_b (c := c) (x0 := x0) (x1 := x1) (x3 := x3) (x4 := x4) (x5 := x5) (x8 := x8) (w := w) (acc := acc) h hl (by omega)
    have hf := List.length_filter_le (fun r : List Nat => r.sum == w) L
    obtain ⟨y2, y7, f⟩ := found_l (x1 := x1) (x4 := x4) (x5 := x5) hl k (w + 1) (.val (.list (L.map tD))) (.val (.int w)) (acc ++ L.filter fun r => r.sum == w) (.inr rfl) (by rw [List.length_append]; omega)
    refine ⟨y2, y7, ?_⟩
    rw [rangeD_succ, forL_nx (by rfl) e, show ((w : Int) + 1) = ((w + 1 : Nat) : Int) by omega, f, List.range'_succ, List.flatMap_cons, List.append_assoc]
theorem law_all_eq {many : Nat} (hn : many ≤ 3) (hm : most ≤ 9) : F__law_all [.int many, .int most] c = .ok (.own ((ordA most many).map tD)) c := by
  have es : startS 9 [.int many, .int most] c = s9a (.val (.int many)) (.val (.int most)) .un .un .un .un .un .un .un c := rfl
  obtain ⟨y2, y3, y4, y5, g, e⟩ := all_w (c := c) (x0 := .val (.int many)) (x6 := .un) (x7 := .un) (x8 := .un) hm many 0 (.own [.tuple []]) .un .un .un (by omega) (.inl rfl)
  rw [Nat.zero_add] at g
  have hl := al_len most many
  have hp : most ^ many ≤ 9 ^ 3 := Nat.le_trans (Nat.pow_le_pow_left hm many) (Nat.pow_le_pow_right (by omega) hn)
  obtain ⟨z2, z7, f⟩ := found_l (c := c) (x0 := .val (.int many)) (x1 := .val (.int most)) (x3 := y3) (x4 := y4) (x5 := y5) (x8 := .un) (L := al most many) (by omega) (most + 1) 0 y2 .un [] g (by simp; omega)
  rw [List.nil_append, List.map_nil] at f
  change forL _ _ _ _ = .nx (s9a _ _ _ _ _ _ (.own ((ordA most many).map tD)) _ _ c) at f
  have r1 : ∀ st : S, rng1K (.int (many : Int)) st = .ok (rangeD (0 : Nat) many) st := fun st => by
    rw [rng1K_int (by omega) (by omega), Int.toNat_natCast]
    rfl
  have r3 : ∀ st : S, rng1K (.int ((most : Int) + 1)) st = .ok (rangeD (0 : Nat) (most + 1)) st := fun st => by
    rw [rng1K_int (by omega) (by omega), show ((most : Int) + 1).toNat = most + 1 by omega]
    rfl
  generalize (ordA most many).map tD = X at f ⊢
  generalize rangeD ((0 : Nat) : Int) many = rg at e r1
  generalize rangeD ((0 : Nat) : Int) (most + 1) = rg2 at f r3
  generalize (many : Int) = N at *
  generalize (most : Int) = M at *
  rw [F__law_all, fnD_eq, es]
  unfold d__law_all
  simp -implicitDefEqProofs [eVar_val, r1, e, r3, f, dRetV_own]
end
/-! ### the smallest chain -/
section
variable {rs : List Int} {ns : List (List Int)} {c : List Int} {sh : List Int} {many most : Nat}
structure Sit (sh rs : List Int) (ns : List (List Int)) (many : Nat) : Prop where
  m1 : 1 ≤ many
  m3 : many ≤ 3
  hs : sh.length = many
  hv : ∀ x ∈ sh, 0 ≤ x ∧ x ≤ 5
  hr : RowOk rs
  dr : rs.length ∣ 12
  hn : NsOk ns
  dn : ∀ n ∈ ns, n.length ∣ 12
  hl : ns.length = many
def Good (many : Nat) (r : List Nat) : Prop := r.length = many ∧ ∀ s ∈ r, 1 ≤ s ∧ s ≤ 9
theorem sit_cw (S : Sit sh rs ns many) {r : List Nat} (g : Good many r) : ∃ J T, CW (chS r sh) rs ns J T := by
  have hl := chS_len (r := r) (sh := sh) (g.1.trans S.hs.symm)
  have m3 := S.m3
  have h1 := S.m1
  have h2 := S.hs
  have h3 := S.hl
  refine cw_ex (m := (9 : Nat)) (chS_ok g.2 S.hv) (by omega) (by omega) (by omega) (by omega) S.hr S.hn S.dr S.dn ?_
  rw [hl, Int.toNat_natCast]
  omega
noncomputable def kS (sh rs : List Int) (ns : List (List Int)) (r : List Nat) : Bool := kb (chS r sh) rs ns
abbrev s7a (a0 a1 a2 a3 a4 a5 a6 : Sl) (c : List Int) : DL.S := ⟨[a0, a1, a2, a3, a4, a5, a6], c⟩
theorem sm_b (S : Sit sh rs ns many) {r : List Nat} (g : Good many r) {x3 x4 x6 : Sl} :
    d_smallest_chain_b3 (s7a (.val (rowD sh)) (.val (rowD rs)) (.val (nsD ns)) x3 x4 (.val (lD r)) x6 c) = if kS sh rs ns r = true then .rt (.val (tD r)) c else .nx (s7a (.val (rowD sh)) (.val (rowD rs)) (.val (nsD ns)) x3 x4 (.val (lD r)) x6 c) := by
  obtain ⟨J, T, W⟩ := sit_cw S g
  have e1 := full_chain_eq (c := c) (r := r) (sh := sh) (by have := g.1; have := S.m3; omega)
  have e2 := is_kept_eq (c := c) W
  change F_is_kept _ c = .ok (.val (.bool (kS sh rs ns r))) c at e2
  have tb : tupB [lD r] = some (.val (tD r)) := rfl
  generalize chD (chS r sh) = CH at e1 e2
  generalize tD r = TR at tb ⊢
  generalize lD r = LR at e1 tb ⊢
  generalize rowD sh = SH at e1 ⊢
  generalize rowD rs = RS at e2 ⊢
  generalize nsD ns = NS at e2 ⊢
  unfold d_smallest_chain_b3
  cases h : kS sh rs ns r with
  | true =>
    rw [h] at e2
    simp -implicitDefEqProofs [eVar_val, callR_mk e1, callR_mk e2, tb]
  | false =>
    rw [h] at e2
    simp -implicitDefEqProofs [eVar_val, callR_mk e1, callR_mk e2]
def Ends (k : List (List Nat)) (r : RS) (a0 a1 a2 a3 : Sl) (c : List Int) : Prop := match k with
  | [] => ∃ y4 y5 y6, r = .nx (s7a a0 a1 a2 a3 y4 y5 y6 c)
  | q :: _ => r = .rt (.val (tD q)) c
theorem sm_l (S : Sit sh rs ns many) {x3 x4 x6 : Sl} : ∀ (L : List (List Nat)) (x5 : Sl), (∀ r ∈ L, Good many r) →
    Ends (L.filter (kS sh rs ns)) (forL (gSet 5) d_smallest_chain_b3 (L.map lD) (s7a (.val (rowD sh)) (.val (rowD rs)) (.val (nsD ns)) x3 x4 x5 x6 c)) (.val (rowD sh)) (.val (rowD rs)) (.val (nsD ns)) x3 c
  | [], x5, _ => ⟨x4, x5, x6, rfl⟩
  | r :: L, x5, h => by
    have eb := sm_b (c := c) S (h r (by simp)) (x3 := x3) (x4 := x4) (x6 := x6)
    have ih := sm_l S (x3 := x3) (x4 := x4) (x6 := x6) L (.val (lD r)) fun q hq => h q (List.mem_cons_of_mem _ hq)
    rw [List.map_cons]
    cases g : kS sh rs ns r with
    | true =>
      rw [g, if_pos rfl] at eb
      rw [List.filter_cons_of_pos g, forL_rt (by rfl) eb]
      rfl
    | false =>
      rw [g, if_neg (by decide)] at eb
      rw [List.filter_cons_of_neg (by rw [g]; decide), forL_nx (by rfl) eb]
      exact ih
theorem sm_o (S : Sit sh rs ns many) {x3 : Sl} : ∀ (k w : Nat) (x4 x5 x6 : Sl), w + k ≤ 10 → (∀ u, w ≤ u → u < w + k → ∀ r ∈ pt many u, Good many r) →
    Ends (((List.range' w k).flatMap (pt many)).filter (kS sh rs ns)) (forL (gSet 4) d_smallest_chain_b4 (rangeD w k) (s7a (.val (rowD sh)) (.val (rowD rs)) (.val (nsD ns)) x3 x4 x5 x6 c)) (.val (rowD sh)) (.val (rowD rs)) (.val (nsD ns)) x3 c
  | 0, w, x4, x5, x6, _, _ => by
    rw [rangeD_zero, forL_nil]
    exact ⟨x4, x5, x6, rfl⟩
  | k + 1, w, x4, x5, x6, hk, hg => by
    have e1 := parted_eq (c := c) (n := many) (w := w) S.m1 S.m3 (by omega)
    have ei := sm_l S (x3 := x3) (x4 := .val (.int w)) (x6 := x6) (c := c) (pt many w) x5 (hg w (by omega) (by omega))
    have hl : ((sh.map PyData.int).length : Int) = many := by rw [List.length_map, S.hs]
    have ic : itD (.list ((pt many w).map lD)) = some ((pt many w).map lD) := rfl
    have eb : ∀ r, forL (gSet 5) d_smallest_chain_b3 ((pt many w).map lD) (s7a (.val (rowD sh)) (.val (rowD rs)) (.val (nsD ns)) x3 (.val (.int w)) x5 x6 c) = r → d_smallest_chain_b4 (s7a (.val (rowD sh)) (.val (rowD rs)) (.val (nsD ns)) x3 (.val (.int w)) x5 x6 c) = r := fun r hr => by
      clear ei
      unfold rowD at hr ⊢
      generalize (pt many w).map lD = P at e1 hr
      generalize sh.map PyData.int = SH at hl hr ⊢
      generalize rs.map PyData.int = RS at hr ⊢
      generalize nsD ns = NS at hr ⊢
      generalize (many : Int) = M at e1 hl
      generalize (w : Int) = W at e1 hr ⊢
      unfold d_smallest_chain_b4
      simp -implicitDefEqProofs [eVar_val, eLenN_val, hl, callR_mk e1, hr]
    rw [List.range'_succ, List.flatMap_cons, List.filter_append]
    unfold Ends at ei
    cases q : (pt many w).filter (kS sh rs ns) with
    | nil =>
      rw [q] at ei
      obtain ⟨y4, y5, y6, ei⟩ := ei
      have ih := sm_o S (x3 := x3) k (w + 1) y4 y5 y6 (by omega) fun u h1 h2 => hg u (by omega) (by omega)
      rw [List.nil_append, rangeD_succ, forL_nx (by rfl) (eb _ ei), show ((w : Int) + 1) = ((w + 1 : Nat) : Int) by omega]
      exact ih
    | cons r L =>
      rw [q] at ei
      change _ = RS.rt (.val (tD r)) c at ei
      rw [List.cons_append, rangeD_succ, forL_rt (by rfl) (eb _ ei)]
      rfl
def fstD : List (List Nat) → D
  | [] => .none
  | r :: _ => tD r
theorem sh_all : ∀ {xs : List Int} {d1 d2 d3 : Sl} {x : Sl}, (∀ y ∈ xs, 0 ≤ y ∧ y ≤ 5) → ∀ a0 a4 a5 : Sl, allL (gSet 6) d_smallest_chain_e2 [6] (xs.map .int) (s7a a0 d1 d2 d3 a4 a5 x c) = .ok (.val (.bool true)) (s7a a0 d1 d2 d3 a4 a5 x c) := fun {xs} {d1 d2 d3 x} h a0 a4 a5 =>
  allL_t xs fun n hn => ⟨s7a a0 d1 d2 d3 a4 a5 (.val (.int n)) c, rfl, by
    have q := h n hn
    have ii : F_is_integer [.int n] c = .ok (.val (.bool true)) c := is_integer_int
    unfold d_smallest_chain_e2
    simp -implicitDefEqProofs [eVar_val, callR_mk ii, q], rfl⟩
theorem ones_len {many : Nat} : (List.replicate many (1 : Nat)).length = many := List.length_replicate ..
theorem need_full (S : Sit sh rs ns many) : F_need_chain [chD (chS (List.replicate many 1) sh), rowD rs, nsD ns] c = .ok (.val .none) c := by
  obtain ⟨J, T, W⟩ := sit_cw S (r := List.replicate many 1) ⟨ones_len, fun s hs => by rw [List.eq_of_mem_replicate hs]; omega⟩
  exact W.need
theorem ones_eq (h1 : 1 ≤ many) (h3 : many ≤ 3) : mulD (.list [.int 1]) (.int many) = some (.own ((List.replicate many 1).map nI)) := by
  rcases (by omega : many = 1 ∨ many = 2 ∨ many = 3) with rfl | rfl | rfl <;> rfl
theorem smallest_eq (S : Sit sh rs ns many) (hp : (many, most) ∈ mms) : F_smallest_chain [rowD sh, rowD rs, nsD ns, .int most] c = .ok (.val (fstD ((ordA most many).filter (kS sh rs ns)))) c := by
  have es : startS 7 [rowD sh, rowD rs, nsD ns, .int most] c = s7a (.val (rowD sh)) (.val (rowD rs)) (.val (nsD ns)) (.val (.int most)) .un .un .un c := rfl
  have hm : most ≤ 9 := by
    have : ∀ p ∈ mms, p.2 ≤ 9 := by decide
    exact this _ hp
  have m1 := S.m1
  have m3 := S.m3
  have oe := ord_eq _ hp
  have ok := ord_ok _ hp
  simp only at oe ok
  rw [oe] at ok ⊢
  have e := sm_o (c := c) S (x3 := .val (.int most)) (most + 1 - many) many .un .un .un (by omega) fun u h1 h2 r hr => ok r (List.mem_flatMap.mpr ⟨u, by rw [List.mem_range'_1]; omega, hr⟩)
  change Ends ((ordP most many).filter (kS sh rs ns)) _ _ _ _ _ c at e
  have q1 := need_integer_eq (c := c) (v := most) (lo := 0) (hi := 30) (x := "most") (by decide)
  rw [if_neg (by omega)] at q1
  have q2 := need_full (c := c) S
  have q3 := full_chain_eq (c := c) (r := List.replicate many 1) (sh := sh) (by rw [ones_len]; omega)
  have q4 := ones_eq m1 m3
  have al : allK [6] (gSet 6) d_smallest_chain_e2 (sh.map .int) (s7a (.val (rowD sh)) (.val (rowD rs)) (.val (nsD ns)) (.val (.int most)) .un .un .un c) = .ok (.val (.bool true)) (s7a (.val (rowD sh)) (.val (rowD rs)) (.val (nsD ns)) (.val (.int most)) .un .un .un c) := allK_ok (sh_all S.hv _ _ _)
  have hl : ((sh.map PyData.int).length : Int) = many := by rw [List.length_map, S.hs]
  have g1 : (1 : Int) ≤ many := by omega
  have g2 : (many : Int) ≤ 3 := by omega
  have r2 : ∀ st : DL.S, rng2K (.int (many : Int)) (.int ((most : Int) + 1)) st = .ok (rangeD (many : Nat) (most + 1 - many)) st := fun st => by
    rw [rng2K_int (by omega) (by omega), show ((most : Int) + 1 - many).toNat = most + 1 - many by omega]
  unfold lD at q3
  generalize (List.replicate many 1).map nI = O at q3 q4
  generalize chD (chS (List.replicate many 1) sh) = CH at q2 q3
  unfold rowD at *
  generalize sh.map PyData.int = SH at *
  generalize rs.map PyData.int = RA at *
  generalize nsD ns = NS at *
  generalize rangeD ((many : Nat) : Int) (most + 1 - many) = rg at e r2
  generalize (many : Int) = N at *
  generalize (most : Int) = M at *
  rw [F_smallest_chain, fnD_eq, es]
  unfold d_smallest_chain
  unfold Ends at e
  cases q : (ordP most many).filter (kS sh rs ns) with
  | nil =>
    rw [q] at e
    obtain ⟨y4, y5, y6, e⟩ := e
    simp -implicitDefEqProofs [eVar_val, eLenN_val, plainD, isiD, hl, g1, g2, al, q4, callR_mk q3, callR_mk q2, callR_mk q1, r2, e, fstD]
  | cons r L =>
    rw [q] at e
    change _ = DL.RS.rt (.val (tD r)) c at e
    simp -implicitDefEqProofs [eVar_val, eLenN_val, plainD, isiD, hl, g1, g2, al, q4, callR_mk q3, callR_mk q2, callR_mk q1, r2, e, fstD]
end
end K06

set_option Elab.async false
set_option linter.all false
set_option maxRecDepth 100000
set_option maxHeartbeats 4000000
/-! K06m4: _law_right. -/
namespace K06
open PySem PySem.Spec L2 DL
open PyProof.Rows hiding St
def rp1 : DS := dSet 1 (eAdd (eC (.int 1)) (eCall F__law_roll (aCons (eVar 0) (aCons (eC (.int 3)) aNil))))
def rp2 : DS := dSet 7 (eB tupB (aCons (eComp [8] (iRng1 (eVar 1)) (gSet 8) tTrue d__law_right_e2) aNil))
def rp3 : DS := dSet 6 (eAdd (eCall F__law_row (aCons (eVar 0) (aCons (eC (.int 3)) (aCons (eC (.int 4)) aNil)))) (eTup (aCons (eCall F__law_roll (aCons (eVar 0) (aCons (eC (.int 8)) aNil))) aNil)))
def rp4 : DS := dSet 5 (eB tupB (aCons (eComp [8] (iRng1 (eVar 1)) (gSet 8) tTrue d__law_right_e4) aNil))
def rp5 : DS := dSet 2 (eCall F__law_pick (aCons (eVar 0) (aCons (eLst (aCons (eC (.int 0)) (aCons (eC (.int 3)) (aCons (eC (.int 6)) (aCons (eC (.int 8)) (aCons (eIf (eLt (eVar 1) (eC (.int 3))) (eC (.int 9)) (eC (.int 7))) aNil)))))) aNil)))
def rp6 : DS := dSet 3 (eComp [9] (iSeq (eCall F__law_all (aCons (eVar 1) (aCons (eVar 2) aNil)))) (gSet 9) d__law_right_t6 (eVar 9))
def rp7 : DS := dIf (eNe (eCallK F_smallest_chain (aCons (eVar 7) (aCons (eVar 6) (aCons (eVar 5) aNil))) (aCons (eVar 2) aNil)) (eIx (eAdd (eVar 3) (eLst (aCons (eC .none) aNil))) (eC (.int 0)))) (dRet (eC (.bool false))) dNil
def rp8 : DS := dSet 4 (eLst (aCons (eRef 0 (eCall F_smallest_chain (aCons (eTup aNil) (aCons (eC .none) (aCons (eC .none) (aCons (eC .none) aNil)))))) (aCons (eRef 0 (eCall F_smallest_chain (aCons (eTup (aCons (eC (.int 6)) aNil)) (aCons (eC .none) (aCons (eC .none) (aCons (eC .none) aNil)))))) (aCons (eRef 0 (eCall F_smallest_chain (aCons (eMul (eTup (aCons (eC (.int 1)) aNil)) (eC (.int 4))) (aCons (eC .none) (aCons (eC .none) (aCons (eC .none) aNil)))))) (aCons (eRef 0 (eCall F_smallest_chain (aCons (eVar 7) (aCons (eC .none) (aCons (eC .none) (aCons (eC .none) aNil)))))) (aCons (eRef 0 (eCall F_smallest_chain (aCons (eVar 7) (aCons (eVar 6) (aCons (eTup aNil) (aCons (eC .none) aNil)))))) (aCons (eRef 0 (eCall F_smallest_chain (aCons (eVar 7) (aCons (eVar 6) (aCons (eVar 5) (aCons (eC (.int 31)) aNil)))))) aNil)))))))
def rp9 : DS := dRet (eEq (eVar 4) (eLst (aCons (eC (.str "shares")) (aCons (eC (.str "shares")) (aCons (eC (.str "shares")) (aCons (eC (.str "rains")) (aCons (eC (.str "needs")) (aCons (eC (.str "most")) aNil))))))))
theorem rp_eq : d__law_right = dSeq rp1 (dSeq rp2 (dSeq rp3 (dSeq rp4 (dSeq rp5 (dSeq rp6 (dSeq rp7 (dSeq rp8 rp9))))))) := rfl
abbrev st10 (a1 a2 a3 a4 a5 a6 a7 a8 a9 : Sl) (c : List Int) : S := ⟨[.val dcell, a1, a2, a3, a4, a5, a6, a7, a8, a9], c⟩
section
variable {ch : List Stg} {rs : List Int} {ns : List (List Int)} {T J : Nat} {c c' : List Int} {a1 a2 a3 a4 a5 a6 a7 a8 a9 : Sl} {sh : List Int} {many most : Nat}
theorem nc2 {d x y : D} (h1 : F_is_chain [d] c = .ok (.val (.bool true)) c) (h : F_need_row [x, .str "rains"] c = .er (bad "rains") c) : F_need_chain [d, x, y] c = .er (bad "rains") c := by
  have es : startS 3 [d, x, y] c = ⟨[.val d, .val x, .val y], c⟩ := rfl
  rw [F_need_chain, fnD_eq, es]
  unfold d_need_chain
  simp -implicitDefEqProofs [eVar_val, callR_mk h1, callR_me h]
theorem nc4 {y : D} (W : CW ch rs ns J T) (h : F_are_needs [y, .int ch.length] c = .ok (.val (.bool false)) c) : F_need_chain [chD ch, rowD rs, y] c = .er (bad "needs") c := by
  have es : startS 3 [chD ch, rowD rs, y] c = ⟨[.val (chD ch), .val (rowD rs), .val y], c⟩ := rfl
  have hx : ("needs" : Str).length ≤ 1000000 := by decide
  have e1 := is_chain_eq (c := c) W.hc W.c1 W.c2
  have e2 := need_row_eq (c := c) (x := "rains") W.hr
  have l1 : ((ch.map stepD).length : Int) = ch.length := by rw [List.length_map]
  have l2 : ¬ (12 : Int) < ((rs.map PyData.int).length : Int) := by have := W.r2; rw [List.length_map]; omega
  unfold chD at es e1 ⊢
  unfold rowD at es e2 ⊢
  generalize ch.map stepD = CH at es e1 l1 ⊢
  generalize rs.map PyData.int = RS at es e2 l2 ⊢
  generalize (ch.length : Int) = N at h l1
  rw [F_need_chain, fnD_eq, es]
  unfold d_need_chain
  simp -implicitDefEqProofs [eVar_val, eLenN_val, callR_mk e1, callR_mk e2, l1, l2, callR_mk h, dRaise_eq, hx]
theorem an_len {xs : List D} {n : Nat} (h : xs.length ≠ n) : F_are_needs [.tuple xs, .int n] c = .ok (.val (.bool false)) c := by
  have es : startS 3 [.tuple xs, .int n] c = ⟨[.val (.tuple xs), .val (.int n), .un], c⟩ := rfl
  have hl : ¬ (xs.length : Int) = n := by omega
  generalize (n : Int) = N at es hl ⊢
  rw [F_are_needs, fnD_eq, es]
  unfold d_are_needs
  simp -implicitDefEqProofs [eVar_val, eLenN_val, plainD, isiD, neD_ii, hl]

theorem pc1 {r : Int} (e1 : F__law_roll [dcell, .int 3] c = .ok (.val (.int r)) c') : rp1 (st10 a1 a2 a3 a4 a5 a6 a7 a8 a9 c) = .nx (st10 (.val (.int (1 + r))) a2 a3 a4 a5 a6 a7 a8 a9 c') := by
  unfold rp1
  simp -implicitDefEqProofs [eVar_val, callR_mk e1]
theorem pc2 {k : Nat} {c : List Int} (hd : Dice (many + k) c) (hm : many ≤ 3) : ∃ (sh : List Int) (c' : List Int), rp2 (st10 (.val (.int many)) a2 a3 a4 a5 a6 a7 a8 a9 c) = .nx (st10 (.val (.int many)) a2 a3 a4 a5 a6 (.val (rowD sh)) a8 a9 c') ∧ sh.length = many ∧ (∀ x ∈ sh, 0 ≤ x ∧ x ≤ 5) ∧ Dice k c' := by
  have h0 := sizeLine_eq
  obtain ⟨sh, c2, e2, l2, q, p2, h2⟩ := compL_draw (g := gSet 8) (te := d__law_right_e2) (vs := [8]) (f := nI) (h := PyData.int) (P := fun _ b => 0 ≤ b ∧ b ≤ 5) (m := 1)
    (fun c => (st10 (.val (.int many)) a2 a3 a4 a5 a6 a7 a8 a9 c)) (fun a k c hd => by
      obtain ⟨r, c', e, r0, r1, h⟩ := roll (k := k) (m := 3) (hd.mono (by omega)) (by omega) (by omega)
      refine ⟨r, c', ⟨r0, by omega⟩, h, (st10 (.val (.int many)) a2 a3 a4 a5 a6 a7 (.val (nI a)) a9 c), .val (.int r), (st10 (.val (.int many)) a2 a3 a4 a5 a6 a7 (.val (nI a)) a9 c'), rfl, ?_, rfl, rfl⟩
      unfold d__law_right_e2
      simp -implicitDefEqProofs [eVar_val, callR_mk e]) (List.range' 0 many) k c [] (hd.mono (by simp))
  rw [List.length_range'] at l2
  refine ⟨sh, c2, ?_, l2, fun x hx => (q x hx).elim fun a h => h.2, h2⟩
  have k1 : compK [8] (gSet 8) tTrue d__law_right_e2 (rangeD (0 : Nat) many) (st10 (.val (.int many)) a2 a3 a4 a5 a6 a7 a8 a9 c) = .ok (.own (sh.map .int)) (st10 (.val (.int many)) a2 a3 a4 a5 a6 a7 a8 a9 c2) := by
    rw [rangeD_nat]
    exact compK_ok (by simp; omega) e2
  have r1 : ∀ st : S, rng1K (.int (many : Int)) st = .ok (rangeD (0 : Nat) many) st := fun st => by
    rw [rng1K_int (by omega) (by omega), Int.toNat_natCast]
    rfl
  unfold rowD
  generalize sh.map PyData.int = SH at k1 ⊢
  have tb : tupB [.list SH] = some (.val (.tuple SH)) := rfl
  generalize rangeD ((0 : Nat) : Int) many = rg at k1 r1
  generalize (many : Int) = N at k1 r1 ⊢
  unfold rp2
  simp -implicitDefEqProofs [eVar_val, eVar_own, r1, k1, tb]
theorem pc3 {ys : List Int} {r : Int} {c1 : List Int} (e1 : F__law_row [dcell, .int 3, .int 4] c = .ok (.val (rowD ys)) c1) (e2 : F__law_roll [dcell, .int 8] c1 = .ok (.val (.int r)) c') (hl : ys.length ≤ 100) : rp3 (st10 a1 a2 a3 a4 a5 a6 a7 a8 a9 c) = .nx (st10 a1 a2 a3 a4 a5 (.val (rowD (ys ++ [r]))) a7 a8 a9 c') := by
  have h0 := sizeLine_eq
  have ad : addD (rowD ys) (.tuple [.int r]) = some (.val (rowD (ys ++ [r]))) := by
    show (if _ then some (Sl.val (.tuple (_ ++ _))) else none) = _
    rw [if_pos (by simp; omega)]
    unfold rowD
    rw [List.map_append]
    rfl
  generalize rowD (ys ++ [r]) = R2 at ad ⊢
  generalize rowD ys = R1 at ad e1
  unfold rp3
  simp -implicitDefEqProofs [eVar_val, callR_mk e1, callR_mk e2, ad]
theorem pc4 {k : Nat} {c : List Int} (hd : Dice (5 * many + k) c) (hm : many ≤ 3) : ∃ (ns : List (List Int)) (c' : List Int), rp4 (st10 (.val (.int many)) a2 a3 a4 a5 a6 a7 a8 a9 c) = .nx (st10 (.val (.int many)) a2 a3 a4 (.val (nsD ns)) a6 a7 a8 a9 c') ∧ ns.length = many ∧ (∀ n ∈ ns, RowOk n ∧ n.length ≤ 2) ∧ Dice k c' := by
  have h0 := sizeLine_eq
  obtain ⟨ns, c2, e2, l2, q, p2, h2⟩ := compL_draw (g := gSet 8) (te := d__law_right_e4) (vs := [8]) (f := nI) (h := rowD) (P := fun _ b => RowOk b ∧ b.length ≤ 2) (m := 5)
    (fun c => (st10 (.val (.int many)) a2 a3 a4 a5 a6 a7 a8 a9 c)) (fun a k c hd => by
      obtain ⟨n, c', e, n1, n2, n3, h⟩ := law_row (k := k) (size := 2) (most := 2) (hd.mono (by omega)) (by omega) (by omega) (by omega) (by omega)
      refine ⟨n, c', ⟨⟨n1, by omega, fun y hy => by have := n3 y hy; omega⟩, n2⟩, h, (st10 (.val (.int many)) a2 a3 a4 a5 a6 a7 (.val (nI a)) a9 c), .val (rowD n), (st10 (.val (.int many)) a2 a3 a4 a5 a6 a7 (.val (nI a)) a9 c'), rfl, ?_, rfl, rfl⟩
      change F__law_row [dcell, .int 2, .int 2] c = .ok (.val (rowD n)) c' at e
      generalize rowD n = N at e ⊢
      unfold d__law_right_e4
      simp -implicitDefEqProofs [eVar_val, callR_mk e]) (List.range' 0 many) k c [] (hd.mono (by simp))
  rw [List.length_range'] at l2
  refine ⟨ns, c2, ?_, l2, fun x hx => (q x hx).elim fun a h => h.2, h2⟩
  have k1 : compK [8] (gSet 8) tTrue d__law_right_e4 (rangeD (0 : Nat) many) (st10 (.val (.int many)) a2 a3 a4 a5 a6 a7 a8 a9 c) = .ok (.own (ns.map rowD)) (st10 (.val (.int many)) a2 a3 a4 a5 a6 a7 a8 a9 c2) := by
    rw [rangeD_nat]
    exact compK_ok (by simp; omega) e2
  have r1 : ∀ st : S, rng1K (.int (many : Int)) st = .ok (rangeD (0 : Nat) many) st := fun st => by
    rw [rng1K_int (by omega) (by omega), Int.toNat_natCast]
    rfl
  unfold nsD
  generalize ns.map rowD = SH at k1 ⊢
  have tb : tupB [.list SH] = some (.val (.tuple SH)) := rfl
  generalize rangeD ((0 : Nat) : Int) many = rg at k1 r1
  generalize (many : Int) = N at k1 r1 ⊢
  unfold rp4
  simp -implicitDefEqProofs [eVar_val, eVar_own, r1, k1, tb]
theorem pc5 {k : Nat} {c : List Int} (hd : Dice (1 + k) c) (h1 : 1 ≤ many) (hm : many ≤ 3) : ∃ (most : Nat) (c' : List Int), (many, most) ∈ mms ∧ Dice k c' ∧ ∀ a2 a3 a4 a5 a6 a7 a8 a9 : Sl, rp5 (st10 (.val (.int many)) a2 a3 a4 a5 a6 a7 a8 a9 c) = .nx (st10 (.val (.int many)) (.val (.int most)) a3 a4 a5 a6 a7 a8 a9 c') := by
  obtain ⟨d, c1, hd, e1, h1'⟩ := pick (k := k) (c := c) (ds := [.int 0, .int 3, .int 6, .int 8, .int (if many < 3 then 9 else 7)]) (hd.mono (by omega)) (by simp) (by simp)
  obtain ⟨m, rfl, hmm⟩ : ∃ m : Nat, d = .int m ∧ (many, m) ∈ mms := by
    simp only [List.mem_cons, List.not_mem_nil, or_false] at hd
    rcases (by omega : many = 1 ∨ many = 2 ∨ many = 3) with rfl | rfl | rfl
    · rcases hd with rfl | rfl | rfl | rfl | rfl
      · exact ⟨0, rfl, by decide⟩
      · exact ⟨3, rfl, by decide⟩
      · exact ⟨6, rfl, by decide⟩
      · exact ⟨8, rfl, by decide⟩
      · exact ⟨9, rfl, by decide⟩
    · rcases hd with rfl | rfl | rfl | rfl | rfl
      · exact ⟨0, rfl, by decide⟩
      · exact ⟨3, rfl, by decide⟩
      · exact ⟨6, rfl, by decide⟩
      · exact ⟨8, rfl, by decide⟩
      · exact ⟨9, rfl, by decide⟩
    · rcases hd with rfl | rfl | rfl | rfl | rfl
      · exact ⟨0, rfl, by decide⟩
      · exact ⟨3, rfl, by decide⟩
      · exact ⟨6, rfl, by decide⟩
      · exact ⟨8, rfl, by decide⟩
      · exact ⟨7, rfl, by decide⟩
  refine ⟨m, c1, hmm, h1', fun a2 a3 a4 a5 a6 a7 a8 a9 => ?_⟩
  by_cases g : many < 3
  · have g' : (many : Int) < 3 := by omega
    rw [if_pos g] at e1
    generalize (many : Int) = N at g' ⊢
    generalize (m : Int) = M at e1 ⊢
    unfold rp5
    simp -implicitDefEqProofs [eVar_val, g', callR_mk e1]
  · have g' : ¬ (many : Int) < 3 := by omega
    rw [if_neg g] at e1
    generalize (many : Int) = N at g' ⊢
    generalize (m : Int) = M at e1 ⊢
    unfold rp5
    simp -implicitDefEqProofs [eVar_val, g', callR_mk e1]
noncomputable abbrev due (sh rs : List Int) (ns : List (List Int)) (many most : Nat) : List (List Nat) := (ordA most many).filter (kS sh rs ns)
theorem ord_len : ∀ p ∈ mms, (ordA p.2 p.1).length ≤ 1000 := by decide +kernel
theorem pc6 (S : Sit sh rs ns many) (hp : (many, most) ∈ mms) : rp6 (st10 (.val (.int many)) (.val (.int most)) a3 a4 (.val (nsD ns)) (.val (rowD rs)) (.val (rowD sh)) a8 a9 c) = .nx (st10 (.val (.int many)) (.val (.int most)) (.own ((due sh rs ns many most).map tD)) a4 (.val (nsD ns)) (.val (rowD rs)) (.val (rowD sh)) a8 a9 c) := by
  have h0 := sizeLine_eq
  have hm : most ≤ 9 := by
    have : ∀ p ∈ mms, p.2 ≤ 9 := by decide
    exact this _ hp
  have e1 := law_all_eq (c := c) (many := many) (most := most) S.m3 hm
  have ok := ord_ok _ hp
  have hl := ord_len _ hp
  simp only at ok hl
  have k1 : compK [9] (gSet 9) d__law_right_t6 (eVar 9) ((ordA most many).map tD) (st10 (.val (.int many)) (.val (.int most)) a3 a4 (.val (nsD ns)) (.val (rowD rs)) (.val (rowD sh)) a8 a9 c) = .ok (.own ((due sh rs ns many most).map tD)) (st10 (.val (.int many)) (.val (.int most)) a3 a4 (.val (nsD ns)) (.val (rowD rs)) (.val (rowD sh)) a8 a9 c) := by
    refine compK_filter0 (fun r => (st10 (.val (.int many)) (.val (.int most)) a3 a4 (.val (nsD ns)) (.val (rowD rs)) (.val (rowD sh)) a8 (.val (tD r)) c)) (by omega) fun r hr => ⟨rfl, ?_, eVar_val rfl, rfl⟩
    obtain ⟨J, T, W⟩ := sit_cw S (ok r hr)
    have e2 := law_keeps_eq (c := c) (by have := (ok r hr).1; have := S.m3; omega) W
    change F__law_keeps _ c = .ok (.val (.bool (kS sh rs ns r))) c at e2
    generalize kS sh rs ns r = P at e2 ⊢
    generalize tD r = R at e2 ⊢
    generalize rowD sh = SH at e2 ⊢
    generalize rowD rs = RA at e2 ⊢
    generalize nsD ns = NS at e2 ⊢
    unfold d__law_right_t6
    simp -implicitDefEqProofs [eVar_val, callR_mk e2]
  generalize (due sh rs ns many most).map tD = X at k1 ⊢
  generalize (ordA most many).map tD = Y at e1 k1
  generalize rowD sh = SH at *
  generalize rowD rs = RA at *
  generalize nsD ns = NS at *
  generalize (many : Int) = N at *
  generalize (most : Int) = M at *
  unfold rp6
  simp -implicitDefEqProofs [eVar_val, callR_mk e1, k1]
theorem fst_at (xs : List (List Nat)) : atI (xs.map tD ++ [PyData.none]) 0 = some (fstD xs) := by
  cases xs with
  | nil => exact atz
  | cons x xs => exact atz
theorem fst_sh (xs : List (List Nat)) : Sh 1 (fstD xs) := by
  cases xs with
  | nil => exact Sh.none
  | cons x xs =>
    refine Sh.tup (k := 0) fun y hy => ?_
    obtain ⟨i, _, rfl⟩ := List.mem_map.mp hy
    exact Sh.int
theorem pc7 (S : Sit sh rs ns many) (hp : (many, most) ∈ mms) : rp7 (st10 a1 (.val (.int most)) (.own ((due sh rs ns many most).map tD)) a4 (.val (nsD ns)) (.val (rowD rs)) (.val (rowD sh)) a8 a9 c) = .nx (st10 a1 (.val (.int most)) (.val (.list ((due sh rs ns many most).map tD))) a4 (.val (nsD ns)) (.val (rowD rs)) (.val (rowD sh)) a8 a9 c) := by
  have h0 := sizeLine_eq
  have e1 := smallest_eq (c := c) S hp
  change F_smallest_chain _ c = .ok (.val (fstD (due sh rs ns many most))) c at e1
  have hl : (due sh rs ns many most).length ≤ 1000 := Nat.le_trans (List.length_filter_le _ _) (ord_len _ hp)
  have at0 := fst_at (due sh rs ns many most)
  have ne := neD_self (fst_sh (due sh rs ns many most))
  have ad := addL (xs := (due sh rs ns many most).map tD) (ys := [.none]) (by simp only [List.length_map, List.length_singleton]; omega)
  generalize fstD (due sh rs ns many most) = F at e1 at0 ne
  generalize (due sh rs ns many most).map tD = X at at0 ad ⊢
  generalize X ++ [PyData.none] = X2 at at0 ad
  generalize rowD sh = SH at *
  generalize rowD rs = RA at *
  generalize nsD ns = NS at *
  generalize (most : Int) = M at *
  unfold rp7
  simp -implicitDefEqProofs [eVar_val, eVar_own, callR_mk e1, ad, at0, ne]
/-! ### what is refused -/
theorem ref1 : F_smallest_chain [.tuple [], .none, .none, .none] c = .er (bad "shares") c := by rfl
theorem ref2 : F_smallest_chain [.tuple [.int 6], .none, .none, .none] c = .er (bad "shares") c := by rfl
theorem ref3 : F_smallest_chain [.tuple (List.replicate 4 (.int 1)), .none, .none, .none] c = .er (bad "shares") c := by rfl
theorem sm_er {d x y : D} {e : Er} (S : Sit sh rs ns many) (h : F_need_chain [chD (chS (List.replicate many 1) sh), x, y] c = .er e c) : F_smallest_chain [rowD sh, x, y, d] c = .er e c := by
  have es : startS 7 [rowD sh, x, y, d] c = s7a (.val (rowD sh)) (.val x) (.val y) (.val d) .un .un .un c := rfl
  have m1 := S.m1
  have m3 := S.m3
  have q3 := full_chain_eq (c := c) (r := List.replicate many 1) (sh := sh) (by rw [ones_len]; omega)
  have q4 := ones_eq m1 m3
  have al : allK [6] (gSet 6) d_smallest_chain_e2 (sh.map .int) (s7a (.val (rowD sh)) (.val x) (.val y) (.val d) .un .un .un c) = .ok (.val (.bool true)) (s7a (.val (rowD sh)) (.val x) (.val y) (.val d) .un .un .un c) := allK_ok (sh_all S.hv _ _ _)
  have hl : ((sh.map PyData.int).length : Int) = many := by rw [List.length_map, S.hs]
  have g1 : (1 : Int) ≤ many := by omega
  have g2 : (many : Int) ≤ 3 := by omega
  unfold lD at q3
  generalize (List.replicate many 1).map nI = O at q3 q4
  generalize chD (chS (List.replicate many 1) sh) = CH at h q3
  unfold rowD at *
  generalize sh.map PyData.int = SH at *
  generalize (many : Int) = N at *
  rw [F_smallest_chain, fnD_eq, es]
  unfold d_smallest_chain
  simp -implicitDefEqProofs [eVar_val, eLenN_val, plainD, isiD, hl, g1, g2, al, q4, callR_mk q3, callR_me h]
theorem ones_chain (S : Sit sh rs ns many) : F_is_chain [chD (chS (List.replicate many 1) sh)] c = .ok (.val (.bool true)) c := by
  obtain ⟨J, T, W⟩ := sit_cw S (r := List.replicate many 1) ⟨ones_len, fun s hs => by rw [List.eq_of_mem_replicate hs]; omega⟩
  exact is_chain_eq W.hc W.c1 W.c2
theorem ref4 (S : Sit sh rs ns many) : F_smallest_chain [rowD sh, .none, .none, .none] c = .er (bad "rains") c :=
  sm_er S (nc2 (ones_chain S) (need_row_no (bad_row (by simp) c) (by decide)))
theorem ref5 (S : Sit sh rs ns many) : F_smallest_chain [rowD sh, rowD rs, .tuple [], .none] c = .er (bad "needs") c := by
  obtain ⟨J, T, W⟩ := sit_cw S (r := List.replicate many 1) ⟨ones_len, fun s hs => by rw [List.eq_of_mem_replicate hs]; omega⟩
  exact sm_er S (nc4 W (an_len (by have := W.c1; simp; omega)))
theorem ref6 (S : Sit sh rs ns many) : F_smallest_chain [rowD sh, rowD rs, nsD ns, .int 31] c = .er (bad "most") c := by
  have es : startS 7 [rowD sh, rowD rs, nsD ns, .int 31] c = s7a (.val (rowD sh)) (.val (rowD rs)) (.val (nsD ns)) (.val (.int 31)) .un .un .un c := rfl
  have m1 := S.m1
  have m3 := S.m3
  have q1 := need_integer_eq (c := c) (v := 31) (lo := 0) (hi := 30) (x := "most") (by decide)
  rw [if_pos (by omega)] at q1
  have q2 := need_full (c := c) S
  have q3 := full_chain_eq (c := c) (r := List.replicate many 1) (sh := sh) (by rw [ones_len]; omega)
  have q4 := ones_eq m1 m3
  have al : allK [6] (gSet 6) d_smallest_chain_e2 (sh.map .int) (s7a (.val (rowD sh)) (.val (rowD rs)) (.val (nsD ns)) (.val (.int 31)) .un .un .un c) = .ok (.val (.bool true)) (s7a (.val (rowD sh)) (.val (rowD rs)) (.val (nsD ns)) (.val (.int 31)) .un .un .un c) := allK_ok (sh_all S.hv _ _ _)
  have hl : ((sh.map PyData.int).length : Int) = many := by rw [List.length_map, S.hs]
  have g1 : (1 : Int) ≤ many := by omega
  have g2 : (many : Int) ≤ 3 := by omega
  unfold lD at q3
  generalize (List.replicate many 1).map nI = O at q3 q4
  generalize chD (chS (List.replicate many 1) sh) = CH at q2 q3
  unfold rowD at *
  generalize sh.map PyData.int = SH at *
  generalize rs.map PyData.int = RA at *
  generalize nsD ns = NS at *
  generalize (many : Int) = N at *
  rw [F_smallest_chain, fnD_eq, es]
  unfold d_smallest_chain
  simp -implicitDefEqProofs [eVar_val, eLenN_val, plainD, isiD, hl, g1, g2, al, q4, callR_mk q3, callR_mk q2, callR_me q1]
abbrev toldD : List D := [.str "shares", .str "shares", .str "shares", .str "rains", .str "needs", .str "most"]
theorem pc8 (S : Sit sh rs ns many) : rp8 (st10 a1 a2 a3 a4 (.val (nsD ns)) (.val (rowD rs)) (.val (rowD sh)) a8 a9 c) = .nx (st10 a1 a2 a3 (.own toldD) (.val (nsD ns)) (.val (rowD rs)) (.val (rowD sh)) a8 a9 c) := by
  have r1 := ref1 (c := c)
  have r2 := ref2 (c := c)
  have r3 := ref3 (c := c)
  have r4 := ref4 (c := c) S
  have r5 := ref5 (c := c) S
  have r6 := ref6 (c := c) S
  have mu : mulD (.tuple [.int 1]) (.int 4) = some (.val (.tuple (List.replicate 4 (.int 1)))) := rfl
  generalize PyData.tuple (List.replicate 4 (.int 1)) = X4 at r3 mu
  generalize rowD sh = SH at *
  generalize rowD rs = RA at *
  generalize nsD ns = NS at *
  unfold rp8 toldD
  simp -implicitDefEqProofs [eVar_val, eRef_eq, refK_bad, hide_mk, DL.hide, mu, callR_me r1, callR_me r2, callR_me r3, callR_me r4, callR_me r5, callR_me r6]
theorem pc9 : rp9 (st10 a1 a2 a3 (.own toldD) a5 a6 a7 a8 a9 c) = .rt (.val (.bool true)) c := by
  have hq : eqD (.list toldD) (.list toldD) = some (.val (.bool true)) := eqD_self (k := 1) ⟨by decide +kernel, by decide +kernel⟩
  have e : (eLst (aCons (eC (.str "shares")) (aCons (eC (.str "shares")) (aCons (eC (.str "shares")) (aCons (eC (.str "rains")) (aCons (eC (.str "needs")) (aCons (eC (.str "most")) aNil))))))) (st10 a1 a2 a3 (.val (.list toldD)) a5 a6 a7 a8 a9 c) = .ok (.own toldD) (st10 a1 a2 a3 (.val (.list toldD)) a5 a6 a7 a8 a9 c) := rfl
  generalize toldD = X at hq e ⊢
  unfold rp9
  generalize (eLst (aCons (eC (.str "shares")) (aCons (eC (.str "shares")) (aCons (eC (.str "shares")) (aCons (eC (.str "rains")) (aCons (eC (.str "needs")) (aCons (eC (.str "most")) aNil))))))) = E at e ⊢
  simp -implicitDefEqProofs [eVar_own, e, hq]
theorem d12 {n : Nat} (h1 : 1 ≤ n) (h2 : n ≤ 4) : n ∣ 12 := by
  rcases (by omega : n = 1 ∨ n = 2 ∨ n = 3 ∨ n = 4) with rfl | rfl | rfl | rfl <;> decide
theorem right_eq (h : Dice 60 c) : ∃ c', F__law_right [dcell] c = .ok (.val (.bool true)) c' := by
  have es : startS 10 [dcell] c = st10 .un .un .un .un .un .un .un .un .un c := rfl
  have sq : ∀ (r : RS) (f g : DL.S → RS), (r.seq f).seq g = r.seq fun s => (f s).seq g := fun r f g => by cases r <;> rfl
  have rp : ∀ s, d__law_right s = (((((((((rp1 s).seq rp2).seq rp3).seq rp4).seq rp5).seq rp6).seq rp7).seq rp8).seq rp9) := fun s => by
    rw [rp_eq]
    simp only [sq]
    rfl
  obtain ⟨q, c1, e1, q0, q1, h1⟩ := roll (k := 50) (c := c) (m := 3) (h.mono (by omega)) (by omega) (by omega)
  obtain ⟨many, hmany⟩ : ∃ k : Nat, 1 + q = k := ⟨(1 + q).toNat, by omega⟩
  obtain ⟨sh, c2, e2, s1, s2, h2⟩ := pc2 (k := 40) (many := many) (h1.mono (by omega)) (by omega) (a2 := .un) (a3 := .un) (a4 := .un) (a5 := .un) (a6 := .un) (a7 := .un) (a8 := .un) (a9 := .un)
  obtain ⟨ys, c3, e3, r1, r2, r3, h3⟩ := law_row (k := 30) (size := 3) (most := 4) (h2.mono (by omega)) (by omega) (by omega) (by omega) (by omega)
  obtain ⟨rr, c4, e4, t0, t1, h4⟩ := roll (k := 25) (c := c3) (m := 8) (h3.mono (by omega)) (by omega) (by omega)
  obtain ⟨ns, c5, e5, n1, n2, h5⟩ := pc4 (k := 5) (many := many) (h4.mono (by omega)) (by omega) (a2 := .un) (a3 := .un) (a4 := .un) (a5 := .un) (a6 := .val (rowD (ys ++ [rr]))) (a7 := .val (rowD sh)) (a8 := .un) (a9 := .un)
  obtain ⟨most, c6, hmm, h6, e6⟩ := pc5 (k := 2) (many := many) (h5.mono (by omega)) (by omega) (by omega)
  have S : Sit sh (ys ++ [rr]) ns many := ⟨by omega, by omega, s1, s2, ⟨by simp, by simp; omega, fun y hy => by
      rcases List.mem_append.mp hy with hy | hy
      · have := r3 y hy
        omega
      · rw [List.mem_singleton.mp hy]
        omega⟩, d12 (by simp) (by simp; omega), fun n hn => ⟨(n2 n hn).1, by have := (n2 n hn).2; omega⟩, fun n hn => d12 (n2 n hn).1.1 (by have := (n2 n hn).2; omega), n1⟩
  refine ⟨c6, ?_⟩
  rw [F__law_right, fnD_eq, es, rp, pc1 e1, seq_nx, hmany, e2, seq_nx, pc3 e3 e4 (by omega), seq_nx, e5, seq_nx, e6, seq_nx, pc6 S hmm, seq_nx, pc7 S hmm, seq_nx, pc8 S, seq_nx, pc9]
  rfl
end
end K06

set_option Elab.async false
set_option linter.all false
set_option maxRecDepth 100000
set_option maxHeartbeats 4000000
/-! K06m: the plain law. -/
namespace K06
open PySem PySem.Spec L2 DL
open PyProof.Rows hiding St

theorem cell_eq {ns : List Int} {i : Nat} (hi : i < 5) : d_law_b1 ⟨[.val (dscr (ns.map .int)), .val (.int i)], []⟩ = .nx ⟨[.val (dscr (ns.map .int)), .val (.int i)], []⟩ := by
  obtain ⟨a, b, e⟩ := dice_t (ns := ns) hi
  obtain ⟨c', r⟩ := right_eq (c := [a, b, 0]) ⟨a, b, 0, rfl, by omega, by omega⟩
  have ec : eCell F__law_right (eCall F__law_dice (aCons (eVar 0) (aCons (eVar 1) aNil))) ⟨[.val (dscr (ns.map .int)), .val (.int i)], []⟩ = .ok (.val (.bool true)) ⟨[.val (dscr (ns.map .int)), .val (.int i)], []⟩ := by
    have e2 : eCall F__law_dice (aCons (eVar 0) (aCons (eVar 1) aNil)) ⟨[.val (dscr (ns.map .int)), .val (.int i)], []⟩ = .ok (.own [.int a, .int b, .int 0]) ⟨[.val (dscr (ns.map .int)), .val (.int i)], []⟩ := by
      simp -implicitDefEqProofs [eVar_val, callR_mk e]
    have ei : intsD [.int a, .int b, .int 0] = some [a, b, 0] := rfl
    unfold eCell
    rw [e2]
    simp -implicitDefEqProofs only [ei, r]
  unfold d_law_b1
  simp -implicitDefEqProofs [ec]
theorem cells {ns : List Int} : ∀ (n t : Nat) (x : Sl), t + n ≤ 5 → ∃ y, forL (gSet 1) d_law_b1 (rangeD t n) ⟨[.val (dscr (ns.map .int)), x], []⟩ = .nx ⟨[.val (dscr (ns.map .int)), y], []⟩
  | 0, t, x, _ => ⟨x, by rw [rangeD_zero, forL_nil]⟩
  | n + 1, t, x, h => by
    obtain ⟨y, e⟩ := cells (ns := ns) n (t + 1) (.val (.int t)) (by omega)
    refine ⟨y, ?_⟩
    rw [rangeD_succ, forL_nx (by rfl) (cell_eq (by omega)), show ((t : Int) + 1) = ((t + 1 : Nat) : Int) by omega, e]
theorem plain (ns : List Int) (h1 : ns.length ≤ 63) (h2 : ∀ z ∈ ns, Builtin.Int.intBits z ≤ 1048576) : ∃ c, F_law [dscr (ns.map .int)] [] = .ok (.val (.bool true)) c := by
  have es : startS 2 [dscr (ns.map .int)] [] = ⟨[.val (dscr (ns.map .int)), .un], []⟩ := rfl
  have l : lenB [dscr (ns.map PyData.int)] = some (.val (.int (ns.length))) := by
    simp [lenB, dscr]
  have mn : ∀ i j : Int, minB [.int i, .int j] = some (.val (.int (if j < i then j else i))) := fun _ _ => rfl
  have mx : ∀ i j : Int, maxB [.int i, .int j] = some (.val (.int (if j > i then j else i))) := fun _ _ => rfl
  obtain ⟨k, hk, k5⟩ : ∃ k : Nat, (if (if (ns.length : Int) < 3 then (ns.length : Int) else 3) > 1 then (if (ns.length : Int) < 3 then (ns.length : Int) else 3) else 1) = (k : Int) ∧ k ≤ 5 := by
    refine ⟨(if (if (ns.length : Int) < 3 then (ns.length : Int) else 3) > 1 then (if (ns.length : Int) < 3 then (ns.length : Int) else 3) else 1).toNat, ?_, ?_⟩ <;> split <;> split <;> omega
  obtain ⟨y, e⟩ := cells (ns := ns) k 0 .un (by omega)
  have r : ∀ st : S, rng1K (.int k) st = .ok (rangeD (0 : Nat) k) st := fun st => by
    rw [rng1K_int (by omega) (by omega), Int.toNat_natCast]
    rfl
  generalize rangeD ((0 : Nat) : Int) k = rg at e r
  have mm : (eB maxB (aCons (eC (.int 1)) (aCons (eB minB (aCons (eC (.int 3)) (aCons (eLenN 0) aNil))) aNil))) ⟨[.val (dscr (ns.map .int)), .un], []⟩ = .ok (.val (.int k)) ⟨[.val (dscr (ns.map .int)), .un], []⟩ := by
    rw [← hk]
    simp only [eB_eq, aCons_eq, aNil_eq, eC_eq, eLenN_val (s := ⟨[.val (dscr (ns.map .int)), .un], []⟩) (i := 0) (d := dscr (ns.map .int)) rfl, l, liftR_val, abind_ok, Sl.d_val, mn, mx]
  generalize (k : Int) = K at mm r
  refine ⟨[], ?_⟩
  rw [F_law, fnD_eq, es]
  unfold d_law
  rw [dSeq_eq, dFor_eq, iRng1_eq, mm, ra_ok, Sl.d_val, r]
  simp -implicitDefEqProofs [e]
end K06

set_option Elab.async false
set_option linter.all false
set_option maxRecDepth 100000
set_option maxHeartbeats 40000000
/-! K06d: the defs of rainkept_k06_whole_smallest keep their readings, printed by gen.py. -/
namespace K06
open PySem PySem.Spec L2 DL
open PyProof.Rows hiding St
def top (i : Nat) : Stmt := PySem.Challenge.pw_rainkept_k06_whole_smallest.main.body.getD i (.Pass ⟨0, 0, 0, 0⟩)
structure Txt (P : Program) (K : PySem.W.Frag) (mg : Str → Option Value) (C fI : Addr) : Prop where
  bad : BadC K P mg C fI
  mB : mg "BadArgument" = some (.ref C)
  k_MOST_AMOUNT : ∃ t, mg "MOST_AMOUNT" = some (.int 200 t)
  k_MOST_CHAIN_ROW : ∃ t, mg "MOST_CHAIN_ROW" = some (.int 12 t)
  k_MOST_ROW : ∃ t, mg "MOST_ROW" = some (.int 24 t)
  k_MOST_SHARE : ∃ t, mg "MOST_SHARE" = some (.int 5 t)
  k_MOST_STAGE : ∃ t, mg "MOST_STAGE" = some (.int 300 t)
  k_MOST_STAGES : ∃ t, mg "MOST_STAGES" = some (.int 4 t)
  z_abs : mg "abs" = none
  z_all : mg "all" = none
  z_bool : mg "bool" = none
  z_int : mg "int" = none
  z_isinstance : mg "isinstance" = none
  z_len : mg "len" = none
  z_max : mg "max" = none
  z_min : mg "min" = none
  z_range : mg "range" = none
  z_sum : mg "sum" = none
  z_tuple : mg "tuple" = none
  z_zip : mg "zip" = none
abbrev s_is_integer : Stmt := top 5
abbrev N_is_integer : List Str := ["value"]
theorem sc_is_integer : FnScope N_is_integer ["value"] (defScope s_is_integer) := ⟨rfl, rfl, rfl, by decide +kernel, rfl, by decide +kernel, by decide +kernel⟩
abbrev s_need_integer : Stmt := top 6
abbrev N_need_integer : List Str := ["value", "name", "least", "most"]
theorem sc_need_integer : FnScope N_need_integer ["value", "name", "least", "most"] (defScope s_need_integer) := ⟨rfl, rfl, rfl, by decide +kernel, rfl, by decide +kernel, by decide +kernel⟩
abbrev s_is_row : Stmt := top 7
abbrev N_is_row : List Str := ["value", "one"]
theorem sc_is_row : FnScope N_is_row ["value"] (defScope s_is_row) := ⟨rfl, rfl, rfl, by decide +kernel, rfl, by decide +kernel, by decide +kernel⟩
abbrev s_need_row : Stmt := top 8
abbrev N_need_row : List Str := ["value", "name"]
theorem sc_need_row : FnScope N_need_row ["value", "name"] (defScope s_need_row) := ⟨rfl, rfl, rfl, by decide +kernel, rfl, by decide +kernel, by decide +kernel⟩
abbrev s_common : Stmt := top 9
abbrev N_common : List Str := ["one", "other"]
theorem sc_common : FnScope N_common ["one", "other"] (defScope s_common) := ⟨rfl, rfl, rfl, by decide +kernel, rfl, by decide +kernel, by decide +kernel⟩
abbrev s_least_common : Stmt := top 10
abbrev N_least_common : List Str := ["one", "other"]
theorem sc_least_common : FnScope N_least_common ["one", "other"] (defScope s_least_common) := ⟨rfl, rfl, rfl, by decide +kernel, rfl, by decide +kernel, by decide +kernel⟩
abbrev s_amount_at : Stmt := top 11
abbrev N_amount_at : List Str := ["row", "step"]
theorem sc_amount_at : FnScope N_amount_at ["row", "step"] (defScope s_amount_at) := ⟨rfl, rfl, rfl, by decide +kernel, rfl, by decide +kernel, by decide +kernel⟩
abbrev s_after : Stmt := top 13
abbrev N_after : List Str := ["size", "level", "rain", "need", "held", "taken"]
theorem sc_after : FnScope N_after ["size", "level", "rain", "need"] (defScope s_after) := ⟨rfl, rfl, rfl, by decide +kernel, rfl, by decide +kernel, by decide +kernel⟩
abbrev s_is_stage : Stmt := top 19
abbrev N_is_stage : List Str := ["value", "one"]
theorem sc_is_stage : FnScope N_is_stage ["value"] (defScope s_is_stage) := ⟨rfl, rfl, rfl, by decide +kernel, rfl, by decide +kernel, by decide +kernel⟩
abbrev s_is_chain : Stmt := top 20
abbrev N_is_chain : List Str := ["value", "one"]
theorem sc_is_chain : FnScope N_is_chain ["value"] (defScope s_is_chain) := ⟨rfl, rfl, rfl, by decide +kernel, rfl, by decide +kernel, by decide +kernel⟩
abbrev s_are_needs : Stmt := top 21
abbrev N_are_needs : List Str := ["value", "many", "row"]
theorem sc_are_needs : FnScope N_are_needs ["value", "many"] (defScope s_are_needs) := ⟨rfl, rfl, rfl, by decide +kernel, rfl, by decide +kernel, by decide +kernel⟩
abbrev s_need_chain : Stmt := top 22
abbrev N_need_chain : List Str := ["chain", "rains", "needs"]
theorem sc_need_chain : FnScope N_need_chain ["chain", "rains", "needs"] (defScope s_need_chain) := ⟨rfl, rfl, rfl, by decide +kernel, rfl, by decide +kernel, by decide +kernel⟩
abbrev s_step_of : Stmt := top 23
abbrev N_step_of : List Str := ["chain", "levels", "rain", "needs", "step", "found", "flow", "at", "size", "start", "share", "row"]
theorem sc_step_of : FnScope N_step_of ["chain", "levels", "rain", "needs", "step"] (defScope s_step_of) := ⟨rfl, rfl, rfl, by decide +kernel, rfl, by decide +kernel, by decide +kernel⟩
abbrev s_chain_turn : Stmt := top 24
abbrev N_chain_turn : List Str := ["rains", "needs", "turn", "row"]
theorem sc_chain_turn : FnScope N_chain_turn ["rains", "needs"] (defScope s_chain_turn) := ⟨rfl, rfl, rfl, by decide +kernel, rfl, by decide +kernel, by decide +kernel⟩
abbrev s_chain_settled : Stmt := top 25
abbrev N_chain_settled : List Str := ["chain", "rains", "needs", "turn", "levels", "found", "is_done", "begin", "step", "row", "stage", "one"]
theorem sc_chain_settled : FnScope N_chain_settled ["chain", "rains", "needs"] (defScope s_chain_settled) := ⟨rfl, rfl, rfl, by decide +kernel, rfl, by decide +kernel, by decide +kernel⟩
abbrev s_is_kept : Stmt := top 26
abbrev N_is_kept : List Str := ["chain", "rains", "needs", "found", "turn", "row", "one"]
theorem sc_is_kept : FnScope N_is_kept ["chain", "rains", "needs"] (defScope s_is_kept) := ⟨rfl, rfl, rfl, by decide +kernel, rfl, by decide +kernel, by decide +kernel⟩
abbrev s_full_chain : Stmt := top 27
abbrev N_full_chain : List Str := ["sizes", "shares", "size", "share"]
theorem sc_full_chain : FnScope N_full_chain ["sizes", "shares"] (defScope s_full_chain) := ⟨rfl, rfl, rfl, by decide +kernel, rfl, by decide +kernel, by decide +kernel⟩
abbrev s__law_dice : Stmt := top 31
abbrev N__law_dice : List Str := ["script", "spot", "own", "mixed", "cell"]
theorem sc__law_dice : FnScope N__law_dice ["script", "spot"] (defScope s__law_dice) := ⟨rfl, rfl, rfl, by decide +kernel, rfl, by decide +kernel, by decide +kernel⟩
abbrev s__law_roll : Stmt := top 32
abbrev N__law_roll : List Str := ["dice", "many", "found"]
theorem sc__law_roll : FnScope N__law_roll ["dice", "many"] (defScope s__law_roll) := ⟨rfl, rfl, rfl, by decide +kernel, rfl, by decide +kernel, by decide +kernel⟩
abbrev s__law_pick : Stmt := top 33
abbrev N__law_pick : List Str := ["dice", "things"]
theorem sc__law_pick : FnScope N__law_pick ["dice", "things"] (defScope s__law_pick) := ⟨rfl, rfl, rfl, by decide +kernel, rfl, by decide +kernel, by decide +kernel⟩
abbrev s__law_gcd : Stmt := top 35
abbrev N__law_gcd : List Str := ["one", "other", "turn"]
theorem sc__law_gcd : FnScope N__law_gcd ["one", "other"] (defScope s__law_gcd) := ⟨rfl, rfl, rfl, by decide +kernel, rfl, by decide +kernel, by decide +kernel⟩
abbrev s__law_row : Stmt := top 36
abbrev N__law_row : List Str := ["dice", "size", "most", "turn"]
theorem sc__law_row : FnScope N__law_row ["dice", "size", "most"] (defScope s__law_row) := ⟨rfl, rfl, rfl, by decide +kernel, rfl, by decide +kernel, by decide +kernel⟩
abbrev s__law_step : Stmt := top 37
abbrev N__law_step : List Str := ["size", "level", "rain", "need", "held", "spilled", "short"]
theorem sc__law_step : FnScope N__law_step ["size", "level", "rain", "need"] (defScope s__law_step) := ⟨rfl, rfl, rfl, by decide +kernel, rfl, by decide +kernel, by decide +kernel⟩
abbrev s__law_turn : Stmt := top 38
abbrev N__law_turn : List Str := ["one", "other"]
theorem sc__law_turn : FnScope N__law_turn ["one", "other"] (defScope s__law_turn) := ⟨rfl, rfl, rfl, by decide +kernel, rfl, by decide +kernel, by decide +kernel⟩
abbrev s__law_flow : Stmt := top 39
abbrev N__law_flow : List Str := ["chain", "levels", "rain", "needs", "step", "found", "flow", "stage", "level", "row"]
theorem sc__law_flow : FnScope N__law_flow ["chain", "levels", "rain", "needs", "step"] (defScope s__law_flow) := ⟨rfl, rfl, rfl, by decide +kernel, rfl, by decide +kernel, by decide +kernel⟩
abbrev s__law_stream : Stmt := top 40
abbrev N__law_stream : List Str := ["chain", "rains", "needs", "turn", "found", "levels", "row", "count", "begin", "step", "stage", "one"]
theorem sc__law_stream : FnScope N__law_stream ["chain", "rains", "needs"] (defScope s__law_stream) := ⟨rfl, rfl, rfl, by decide +kernel, rfl, by decide +kernel, by decide +kernel⟩
abbrev s__law_keeps : Stmt := top 41
abbrev N__law_keeps : List Str := ["sizes", "shares", "rains", "needs", "chain", "found", "turn", "row", "size", "share", "one"]
theorem sc__law_keeps : FnScope N__law_keeps ["sizes", "shares", "rains", "needs"] (defScope s__law_keeps) := ⟨rfl, rfl, rfl, by decide +kernel, rfl, by decide +kernel, by decide +kernel⟩
abbrev s__law_all : Stmt := top 42
abbrev N__law_all : List Str := ["many", "most", "rows", "turn", "longer", "row", "found", "whole", "size"]
theorem sc__law_all : FnScope N__law_all ["many", "most"] (defScope s__law_all) := ⟨rfl, rfl, rfl, by decide +kernel, rfl, by decide +kernel, by decide +kernel⟩
abbrev s_parted_1 : Stmt := top 29
abbrev N_parted_1 : List Str := ["whole", "many", "found", "first", "rest"]
theorem sc_parted_1 : FnScope N_parted_1 ["whole", "many"] (defScope s_parted_1) := ⟨rfl, rfl, rfl, by decide +kernel, rfl, by decide +kernel, by decide +kernel⟩
abbrev s_parted_2 : Stmt := top 29
abbrev N_parted_2 : List Str := ["whole", "many", "found", "first", "rest"]
theorem sc_parted_2 : FnScope N_parted_2 ["whole", "many"] (defScope s_parted_2) := ⟨rfl, rfl, rfl, by decide +kernel, rfl, by decide +kernel, by decide +kernel⟩
abbrev s_parted_3 : Stmt := top 29
abbrev N_parted_3 : List Str := ["whole", "many", "found", "first", "rest"]
theorem sc_parted_3 : FnScope N_parted_3 ["whole", "many"] (defScope s_parted_3) := ⟨rfl, rfl, rfl, by decide +kernel, rfl, by decide +kernel, by decide +kernel⟩
abbrev s_parted_4 : Stmt := top 29
abbrev N_parted_4 : List Str := ["whole", "many", "found", "first", "rest"]
theorem sc_parted_4 : FnScope N_parted_4 ["whole", "many"] (defScope s_parted_4) := ⟨rfl, rfl, rfl, by decide +kernel, rfl, by decide +kernel, by decide +kernel⟩
abbrev s_smallest_chain : Stmt := top 28
abbrev N_smallest_chain : List Str := ["shares", "rains", "needs", "most", "whole", "sizes", "one"]
theorem sc_smallest_chain : FnScope N_smallest_chain ["shares", "rains", "needs", "most"] (defScope s_smallest_chain) := ⟨rfl, rfl, rfl, by decide +kernel, rfl, by decide +kernel, by decide +kernel⟩
abbrev s__law_right : Stmt := top 43
abbrev N__law_right : List Str := ["dice", "many", "most", "due", "told", "needs", "rains", "shares", "turn", "row"]
theorem sc__law_right : FnScope N__law_right ["dice"] (defScope s__law_right) := ⟨rfl, rfl, rfl, by decide +kernel, rfl, by decide +kernel, by decide +kernel⟩
abbrev s_law : Stmt := top 44
abbrev N_law : List Str := ["script", "spot"]
theorem sc_law : FnScope N_law ["script"] (defScope s_law) := ⟨rfl, rfl, rfl, by decide +kernel, rfl, by decide +kernel, by decide +kernel⟩
section
variable {P : Program} {w : World} {K : PySem.W.Frag} {mg : Str → Option Value} {base : Heap} {m : Pm} {C fI : Addr}
theorem ok_is_integer {f : Addr} {fd : FuncData} (Fu : Fun K "is_integer" "is_integer" s_is_integer f fd) (T : Txt P K mg C fI) (hK : m.K = K) (hcl : m.cl 0 = some C)  :
    FnOk P w K mg base (L2.CX P w) 2 f fd ["value"] (spD m 1 F_is_integer) :=
  okD Fu sc_is_integer hK rfl rfl fun cdv A outer s H E F hm hE hr => by
    subst hm
    subst hE
    exact b_one (s_ret (e_and (e_isI hK T.z_isinstance T.z_int (e_var 0)) (e_one (e_not (e_isB hK T.z_isinstance T.z_bool (e_var 0))))))
theorem ok_need_integer {f : Addr} {fd : FuncData} (Fu : Fun K "need_integer" "need_integer" s_need_integer f fd) (T : Txt P K mg C fI) (hK : m.K = K) (hcl : m.cl 0 = some C) (C_is_integer : Cal P w K mg base m 2 "is_integer" 0 F_is_integer []) :
    FnOk P w K mg base (L2.CX P w) 3 f fd ["value", "name", "least", "most"] (spD m 4 F_need_integer) :=
  okD Fu sc_need_integer hK rfl rfl fun cdv A outer s H E F hm hE hr => by
    subst hm
    subst hE
    exact b_one (s_if (t_w (w_or (t_not (t_val (e_c C_is_integer hr passD (a_cons (e_var 0) a_nil)))) (w_or (t_lt (e_var 0) (e_var 2)) (w_or1 (t_gt (e_var 0) (e_var 3)))))) (b_one (s_raise rfl takesD T.bad hcl hr rfl T.mB (a_cons (e_var 1) a_nil))) b_nil)
theorem gk_is_row_1 : GenOk N_is_row (defScope s_is_row) (scpG [(".0", .local), ("one", .local), ("is_integer", .globalImplicit), ("MOST_AMOUNT", .globalImplicit)]) [("one", 1)] := gen_by (by decide +kernel)
theorem ok_is_row {f : Addr} {fd : FuncData} {c Pt : Addr} (Fu : FunC K "is_row" "is_row" s_is_row f fd c) (TB : GxR.TabB base mg c Pt) (hT : (Pt, none) ∈ m.T) (hu : ∀ p ∈ m.T, p.1 = Pt → p.2 = none) (T : Txt P K mg C fI) (hK : m.K = K) (hcl : m.cl 0 = some C) (C_is_integer : Cal P w K mg base m 2 "is_integer" 0 F_is_integer []) :
    FnOk P w K mg base (L2.CX P w) 4 f fd ["value"] (spD m 1 F_is_row) :=
  okDC Fu sc_is_row hK rfl rfl fun A outer s H E F hm hE hr => by
    subst hm
    subst hE
    exact b_cons (s_if (t_w (w_or (t_not (t_val (e_isT hK T.z_isinstance T.z_tuple (e_var 0)))) (w_or1 (t_not (t_lele e_int (e_ln 0 hK T.z_len) (e_gI T.k_MOST_ROW)))))) (b_one (s_ret e_bl)) b_nil) (b_one (s_ret (e_ag rfl sc_is_row.nd hr T.z_all TB rfl hu hT gk_is_row_1 (i_seq hK (e_var 0)) (fun _ _ _ _ _ _ _ _ => gc_name 1 sc_is_row.nd) (fun _ _ _ _ _ _ _ _ hr2 => e_and (e_c C_is_integer hr2 passL (a_cons (e_var 1) a_nil)) (e_one (e_lele e_int (e_var 1) (e_gI T.k_MOST_AMOUNT)))))))
theorem ok_need_row {f : Addr} {fd : FuncData} (Fu : Fun K "need_row" "need_row" s_need_row f fd) (T : Txt P K mg C fI) (hK : m.K = K) (hcl : m.cl 0 = some C) (C_is_row : Cal P w K mg base m 4 "is_row" 0 F_is_row []) :
    FnOk P w K mg base (L2.CX P w) 5 f fd ["value", "name"] (spD m 2 F_need_row) :=
  okD Fu sc_need_row hK rfl rfl fun cdv A outer s H E F hm hE hr => by
    subst hm
    subst hE
    exact b_one (s_if (t_not (t_val (e_c C_is_row hr passD (a_cons (e_var 0) a_nil)))) (b_one (s_raise rfl takesD T.bad hcl hr rfl T.mB (a_cons (e_var 1) a_nil))) b_nil)
theorem ok_common {f : Addr} {fd : FuncData} (Fu : Fun K "common" "common" s_common f fd) (T : Txt P K mg C fI) (hK : m.K = K) (hcl : m.cl 0 = some C)  :
    FnOk P w K mg base (L2.CX P w) 2 f fd ["one", "other"] (spD m 2 F_common) :=
  okD Fu sc_common hK rfl rfl fun cdv A outer s H E F hm hE hr => by
    subst hm
    subst hE
    exact b_cons (s_while 1000000000000000 ownD (t_gt (e_var 1) e_int) (b_one (s_par 0 1 rfl sc_common.nd (e_var 1) (e_mod (e_var 0) (e_var 1))))) (b_one (s_retV 0))
theorem ok_least_common {f : Addr} {fd : FuncData} (Fu : Fun K "least_common" "least_common" s_least_common f fd) (T : Txt P K mg C fI) (hK : m.K = K) (hcl : m.cl 0 = some C) (C_common : Cal P w K mg base m 2 "common" 1 F_common []) :
    FnOk P w K mg base (L2.CX P w) 3 f fd ["one", "other"] (spD m 2 F_least_common) :=
  okD Fu sc_least_common hK rfl rfl fun cdv A outer s H E F hm hE hr => by
    subst hm
    subst hE
    exact b_one (s_ret (e_mul hK (e_div (e_var 0) (e_c C_common hr passD (a_cons (e_var 0) (a_cons (e_var 1) a_nil)))) (e_var 1)))
theorem ok_amount_at {f : Addr} {fd : FuncData} (Fu : Fun K "amount_at" "amount_at" s_amount_at f fd) (T : Txt P K mg C fI) (hK : m.K = K) (hcl : m.cl 0 = some C)  :
    FnOk P w K mg base (L2.CX P w) 2 f fd ["row", "step"] (spD m 2 F_amount_at) :=
  okD Fu sc_amount_at hK rfl rfl fun cdv A outer s H E F hm hE hr => by
    subst hm
    subst hE
    exact b_one (s_ret (e_ixN 0 hK (e_mod (e_var 1) (e_ln 0 hK T.z_len))))
theorem ok_after {f : Addr} {fd : FuncData} (Fu : Fun K "after" "after" s_after f fd) (T : Txt P K mg C fI) (hK : m.K = K) (hcl : m.cl 0 = some C)  :
    FnOk P w K mg base (L2.CX P w) 2 f fd ["size", "level", "rain", "need"] (spD m 4 F_after) :=
  okD Fu sc_after hK rfl rfl fun cdv A outer s H E F hm hE hr => by
    subst hm
    subst hE
    exact b_cons (s_set 4 sc_after.nd (e_min hK rfl T.z_min (a_cons (e_var 0) (a_cons (e_add hK (e_var 1) (e_var 2)) a_nil)))) (b_cons (s_set 5 sc_after.nd (e_min hK rfl T.z_min (a_cons (e_var 4) (a_cons (e_var 3) a_nil)))) (b_one (s_ret (e_tup (a_cons (e_sub (e_var 4) (e_var 5)) (a_cons (e_sub (e_add hK (e_var 1) (e_var 2)) (e_var 4)) (a_cons (e_sub (e_var 3) (e_var 5)) a_nil)))))))
theorem gk_is_stage_1 : GenOk N_is_stage (defScope s_is_stage) (scpG [(".0", .local), ("one", .local), ("is_integer", .globalImplicit)]) [("one", 1)] := gen_by (by decide +kernel)
theorem ok_is_stage {f : Addr} {fd : FuncData} {c Pt : Addr} (Fu : FunC K "is_stage" "is_stage" s_is_stage f fd c) (TB : GxR.TabB base mg c Pt) (hT : (Pt, none) ∈ m.T) (hu : ∀ p ∈ m.T, p.1 = Pt → p.2 = none) (T : Txt P K mg C fI) (hK : m.K = K) (hcl : m.cl 0 = some C) (C_is_integer : Cal P w K mg base m 2 "is_integer" 0 F_is_integer []) :
    FnOk P w K mg base (L2.CX P w) 4 f fd ["value"] (spD m 1 F_is_stage) :=
  okDC Fu sc_is_stage hK rfl rfl fun A outer s H E F hm hE hr => by
    subst hm
    subst hE
    exact b_cons (s_if (t_w (w_or (t_not (t_val (e_isT hK T.z_isinstance T.z_tuple (e_var 0)))) (w_or (t_ne hr hK (e_ln 0 hK T.z_len) e_int) (w_or1 (t_not (t_val (e_ag rfl sc_is_stage.nd hr T.z_all TB rfl hu hT gk_is_stage_1 (i_seq hK (e_var 0)) (fun _ _ _ _ _ _ _ _ => gc_name 1 sc_is_stage.nd) (fun _ _ _ _ _ _ _ _ hr2 => e_c C_is_integer hr2 passL (a_cons (e_var 1) a_nil))))))))) (b_one (s_ret e_bl)) b_nil) (b_one (s_ret (e_and (e_lele e_int (e_ixN 0 hK e_int) (e_gI T.k_MOST_STAGE)) (e_and (e_lele e_int (e_ixN 0 hK e_int) (e_ixN 0 hK e_int)) (e_one (e_lele e_int (e_ixN 0 hK e_int) (e_gI T.k_MOST_SHARE)))))))
theorem gk_is_chain_1 : GenOk N_is_chain (defScope s_is_chain) (scpG [(".0", .local), ("one", .local), ("is_stage", .globalImplicit)]) [("one", 1)] := gen_by (by decide +kernel)
theorem ok_is_chain {f : Addr} {fd : FuncData} {c Pt : Addr} (Fu : FunC K "is_chain" "is_chain" s_is_chain f fd c) (TB : GxR.TabB base mg c Pt) (hT : (Pt, none) ∈ m.T) (hu : ∀ p ∈ m.T, p.1 = Pt → p.2 = none) (T : Txt P K mg C fI) (hK : m.K = K) (hcl : m.cl 0 = some C) (C_is_stage : Cal P w K mg base m 4 "is_stage" 0 F_is_stage []) :
    FnOk P w K mg base (L2.CX P w) 6 f fd ["value"] (spD m 1 F_is_chain) :=
  okDC Fu sc_is_chain hK rfl rfl fun A outer s H E F hm hE hr => by
    subst hm
    subst hE
    exact b_one (s_ret (e_and (e_isT hK T.z_isinstance T.z_tuple (e_var 0)) (e_and (e_lele e_int (e_ln 0 hK T.z_len) (e_gI T.k_MOST_STAGES)) (e_one (e_ag rfl sc_is_chain.nd hr T.z_all TB rfl hu hT gk_is_chain_1 (i_seq hK (e_var 0)) (fun _ _ _ _ _ _ _ _ => gc_name 1 sc_is_chain.nd) (fun _ _ _ _ _ _ _ _ hr2 => e_c C_is_stage hr2 passL (a_cons (e_var 1) a_nil)))))))
theorem gk_are_needs_1 : GenOk N_are_needs (defScope s_are_needs) (scpG [(".0", .local), ("row", .local), ("is_row", .globalImplicit), ("len", .globalImplicit), ("MOST_CHAIN_ROW", .globalImplicit)]) [("row", 2)] := gen_by (by decide +kernel)
theorem ok_are_needs {f : Addr} {fd : FuncData} {c Pt : Addr} (Fu : FunC K "are_needs" "are_needs" s_are_needs f fd c) (TB : GxR.TabB base mg c Pt) (hT : (Pt, none) ∈ m.T) (hu : ∀ p ∈ m.T, p.1 = Pt → p.2 = none) (T : Txt P K mg C fI) (hK : m.K = K) (hcl : m.cl 0 = some C) (C_is_row : Cal P w K mg base m 4 "is_row" 0 F_is_row []) :
    FnOk P w K mg base (L2.CX P w) 6 f fd ["value", "many"] (spD m 2 F_are_needs) :=
  okDC Fu sc_are_needs hK rfl rfl fun A outer s H E F hm hE hr => by
    subst hm
    subst hE
    exact b_cons (s_if (t_w (w_or (t_not (t_val (e_isT hK T.z_isinstance T.z_tuple (e_var 0)))) (w_or1 (t_ne hr hK (e_ln 0 hK T.z_len) (e_var 1))))) (b_one (s_ret e_bl)) b_nil) (b_one (s_ret (e_ag rfl sc_are_needs.nd hr T.z_all TB rfl hu hT gk_are_needs_1 (i_seq hK (e_var 0)) (fun _ _ _ _ _ _ _ _ => gc_name 2 sc_are_needs.nd) (fun _ _ _ _ _ _ _ _ hr2 => e_and (e_c C_is_row hr2 passL (a_cons (e_var 2) a_nil)) (e_one (e_le (e_ln 2 hK T.z_len) (e_gI T.k_MOST_CHAIN_ROW)))))))
theorem ok_need_chain {f : Addr} {fd : FuncData} (Fu : Fun K "need_chain" "need_chain" s_need_chain f fd) (T : Txt P K mg C fI) (hK : m.K = K) (hcl : m.cl 0 = some C) (C_is_chain : Cal P w K mg base m 6 "is_chain" 0 F_is_chain []) (C_need_row : Cal P w K mg base m 5 "need_row" 1 F_need_row []) (C_are_needs : Cal P w K mg base m 6 "are_needs" 1 F_are_needs []) :
    FnOk P w K mg base (L2.CX P w) 7 f fd ["chain", "rains", "needs"] (spD m 3 F_need_chain) :=
  okD Fu sc_need_chain hK rfl rfl fun cdv A outer s H E F hm hE hr => by
    subst hm
    subst hE
    exact b_cons (s_if (t_not (t_val (e_c C_is_chain hr passD (a_cons (e_var 0) a_nil)))) (b_one (s_raise rfl takesD T.bad hcl hr rfl T.mB (a_cons e_str a_nil))) b_nil) (b_cons (s_expr (e_c C_need_row hr passD (a_cons (e_var 1) (a_cons e_str a_nil)))) (b_cons (s_if (t_gt (e_ln 1 hK T.z_len) (e_gI T.k_MOST_CHAIN_ROW)) (b_one (s_raise rfl takesD T.bad hcl hr rfl T.mB (a_cons e_str a_nil))) b_nil) (b_one (s_if (t_not (t_val (e_c C_are_needs hr passD (a_cons (e_var 2) (a_cons (e_ln 0 hK T.z_len) a_nil))))) (b_one (s_raise rfl takesD T.bad hcl hr rfl T.mB (a_cons e_str a_nil))) b_nil))))
theorem ok_step_of {f : Addr} {fd : FuncData} (Fu : Fun K "step_of" "step_of" s_step_of f fd) (T : Txt P K mg C fI) (hK : m.K = K) (hcl : m.cl 0 = some C) (C_after : Cal P w K mg base m 2 "after" 3 F_after []) (C_amount_at : Cal P w K mg base m 2 "amount_at" 1 F_amount_at []) :
    FnOk P w K mg base (L2.CX P w) 3 f fd ["chain", "levels", "rain", "needs", "step"] (spD m 5 F_step_of) :=
  okD Fu sc_step_of hK rfl rfl fun cdv A outer s H E F hm hE hr => by
    subst hm
    subst hE
    exact b_cons (s_set 5 sc_step_of.nd (e_lst a_nil)) (b_cons (s_set 6 sc_step_of.nd e_int) (b_cons (s_for ownD rfl (i_rng1 rfl T.z_range (e_ln 0 hK T.z_len)) (g_name 7 sc_step_of.nd) (b_cons (s_asg (g_tup rfl hK (gs_cons (g_name 8 sc_step_of.nd) (gs_cons (g_name 9 sc_step_of.nd) (gs_cons (g_name 10 sc_step_of.nd) gs_nil))) (gsCons_len (gsCons_len (gsCons_len gsNil_len)))) (e_ixN 0 hK (e_var 7))) (b_cons (s_set 11 sc_step_of.nd (e_c C_after hr passD (a_cons (e_var 8) (a_cons (e_ixN 1 hK (e_var 7)) (a_cons (e_add hK (e_mul hK (e_var 10) (e_var 2)) (e_var 6)) (a_cons (e_c C_amount_at hr passD (a_cons (e_ixN 3 hK (e_var 7)) (a_cons (e_var 4) a_nil))) a_nil)))))) (b_cons (s_app 5 (e_var 11)) (b_one (s_set 6 sc_step_of.nd (e_ixN 11 hK e_int))))))) (b_one (s_ret (e_tuple hK T.z_tuple (a_cons (e_var 5) a_nil))))))
theorem ok_chain_turn {f : Addr} {fd : FuncData} (Fu : Fun K "chain_turn" "chain_turn" s_chain_turn f fd) (T : Txt P K mg C fI) (hK : m.K = K) (hcl : m.cl 0 = some C) (C_least_common : Cal P w K mg base m 3 "least_common" 1 F_least_common []) :
    FnOk P w K mg base (L2.CX P w) 4 f fd ["rains", "needs"] (spD m 2 F_chain_turn) :=
  okD Fu sc_chain_turn hK rfl rfl fun cdv A outer s H E F hm hE hr => by
    subst hm
    subst hE
    exact b_cons (s_set 2 sc_chain_turn.nd (e_ln 0 hK T.z_len)) (b_cons (s_for ownD rfl (i_seq hK (e_var 1)) (g_name 3 sc_chain_turn.nd) (b_one (s_set 2 sc_chain_turn.nd (e_c C_least_common hr passD (a_cons (e_var 2) (a_cons (e_ln 3 hK T.z_len) a_nil)))))) (b_one (s_retV 2)))
theorem bk_chain_settled_1 : BlkOk N_chain_settled (defScope s_chain_settled) (scp [(".0", .local), ("stage", .local)]) [("stage", 10)] := blkOk_by (by decide +kernel)
theorem bk_chain_settled_3 : BlkOk N_chain_settled (defScope s_chain_settled) (scp [(".0", .local), ("one", .local)]) [("one", 11)] := blkOk_by (by decide +kernel)
theorem ok_chain_settled {f : Addr} {fd : FuncData} (Fu : Fun K "chain_settled" "chain_settled" s_chain_settled f fd) (T : Txt P K mg C fI) (hK : m.K = K) (hcl : m.cl 0 = some C) (C_chain_turn : Cal P w K mg base m 4 "chain_turn" 1 F_chain_turn []) (C_step_of : Cal P w K mg base m 3 "step_of" 4 F_step_of []) (C_amount_at : Cal P w K mg base m 2 "amount_at" 1 F_amount_at []) :
    FnOk P w K mg base (L2.CX P w) 5 f fd ["chain", "rains", "needs"] (spD m 3 F_chain_settled) :=
  okD Fu sc_chain_settled hK rfl rfl fun cdv A outer s H E F hm hE hr => by
    subst hm
    subst hE
    exact b_cons (s_set 3 sc_chain_settled.nd (e_c C_chain_turn hr passD (a_cons (e_var 1) (a_cons (e_var 2) a_nil)))) (b_cons (s_lc 4 rfl sc_chain_settled.nd (i_seq hK (e_var 0)) bk_chain_settled_1 (fun _ _ _ _ _ => gc_name 10 sc_chain_settled.nd) (fun _ _ _ _ _ => ts_nil) (fun _ _ _ _ _ => e_ixN 10 hK e_int) (by rfl)) (b_cons (s_set 5 sc_chain_settled.nd (e_lst a_nil)) (b_cons (s_set 6 sc_chain_settled.nd e_bl) (b_cons (s_while 1000000000000000 ownD (t_not (t_val (e_var 6))) (b_cons (s_set 7 sc_chain_settled.nd (e_var 4)) (b_cons (s_for ownD rfl (i_rng1 rfl T.z_range (e_var 3)) (g_name 8 sc_chain_settled.nd) (b_cons (s_set 9 sc_chain_settled.nd (e_c C_step_of hr passD (a_cons (e_var 0) (a_cons (e_var 4) (a_cons (e_c C_amount_at hr passD (a_cons (e_var 1) (a_cons (e_var 8) a_nil))) (a_cons (e_var 2) (a_cons (e_var 8) a_nil))))))) (b_cons (s_app 5 (e_var 9)) (b_one (s_lc 4 rfl sc_chain_settled.nd (i_seq hK (e_var 9)) bk_chain_settled_3 (fun _ _ _ _ _ => gc_name 11 sc_chain_settled.nd) (fun _ _ _ _ _ => ts_nil) (fun _ _ _ _ _ => e_ixN 11 hK e_int) (by rfl)))))) (b_one (s_set 6 sc_chain_settled.nd (e_eq hr hK (e_var 4) (e_var 7))))))) (b_one (s_ret (e_tup (a_cons (e_var 5) (a_cons (e_var 3) a_nil)))))))))
theorem bk_is_kept_1 : BlkOk N_is_kept (defScope s_is_kept) (scp [(".0", .local), ("row", .local), ("sum", .globalImplicit)]) [("row", 5)] := blkOk_by (by decide +kernel)
theorem bk_is_kept_2 : BlkOk N_is_kept (relS (scp [(".0", .local), ("row", .local), ("sum", .globalImplicit)]) (defScope s_is_kept)) (scp [(".0", .local), ("one", .local)]) [("one", 6)] := blkOk_by (by decide +kernel)
theorem ok_is_kept {f : Addr} {fd : FuncData} (Fu : Fun K "is_kept" "is_kept" s_is_kept f fd) (T : Txt P K mg C fI) (hK : m.K = K) (hcl : m.cl 0 = some C) (C_chain_settled : Cal P w K mg base m 5 "chain_settled" 2 F_chain_settled []) :
    FnOk P w K mg base (L2.CX P w) 6 f fd ["chain", "rains", "needs"] (spD m 3 F_is_kept) :=
  okD Fu sc_is_kept hK rfl rfl fun cdv A outer s H E F hm hE hr => by
    subst hm
    subst hE
    exact b_cons (s_asg (g_tup rfl hK (gs_cons (g_name 3 sc_is_kept.nd) (gs_cons (g_name 4 sc_is_kept.nd) gs_nil)) (gsCons_len (gsCons_len gsNil_len))) (e_c C_chain_settled hr passD (a_cons (e_var 0) (a_cons (e_var 1) (a_cons (e_var 2) a_nil))))) (b_one (s_ret (e_allB hK rfl T.z_all (a_cons (e_lc rfl sc_is_kept.nd (i_seq hK (e_var 3)) bk_is_kept_1 (fun _ _ _ _ _ => gc_name 5 sc_is_kept.nd) (fun _ _ _ _ _ => ts_nil) (fun _ _ _ _ _ => e_eq hr hK (e_sum hK rfl T.z_sum (a_cons (e_lc rfl sc_is_kept.nd (i_seq hK (e_var 5)) bk_is_kept_2 (fun _ _ _ _ _ => gc_name 6 sc_is_kept.nd) (fun _ _ _ _ _ => ts_nil) (fun _ _ _ _ _ => e_ixN 6 hK e_int)) a_nil)) e_int)) a_nil))))
theorem bk_full_chain_1 : BlkOk N_full_chain (defScope s_full_chain) (scp [(".0", .local), ("size", .local), ("share", .local)]) [("size", 2), ("share", 3)] := blkOk_by (by decide +kernel)
theorem ok_full_chain {f : Addr} {fd : FuncData} (Fu : Fun K "full_chain" "full_chain" s_full_chain f fd) (T : Txt P K mg C fI) (hK : m.K = K) (hcl : m.cl 0 = some C)  :
    FnOk P w K mg base (L2.CX P w) 2 f fd ["sizes", "shares"] (spD m 2 F_full_chain) :=
  okD Fu sc_full_chain hK rfl rfl fun cdv A outer s H E F hm hE hr => by
    subst hm
    subst hE
    exact b_one (s_ret (e_tuple hK T.z_tuple (a_cons (e_lc rfl sc_full_chain.nd (i_zipLT hK rfl T.z_zip (e_var 0) (e_var 1)) bk_full_chain_1 (fun _ _ _ _ _ => gc_tup rfl hK (gsc_cons (gc_name 2 sc_full_chain.nd) (gsc_cons (gc_name 3 sc_full_chain.nd) gsc_nil))) (fun _ _ _ _ _ => ts_nil) (fun _ _ _ _ _ => e_tup (a_cons (e_var 2) (a_cons (e_var 2) (a_cons (e_var 3) a_nil))))) a_nil)))
theorem ok__law_dice {f : Addr} {fd : FuncData} (Fu : Fun K "_law_dice" "_law_dice" s__law_dice f fd) (T : Txt P K mg C fI) (hK : m.K = K) (hcl : m.cl 0 = some C)  :
    FnOk P w K mg base (L2.CX P w) 2 f fd ["script", "spot"] (spD m 2 F__law_dice) :=
  okD Fu sc__law_dice hK rfl rfl fun cdv A outer s H E F hm hE hr => by
    subst hm
    subst hE
    exact b_cons (s_set 2 sc__law_dice.nd (e_if (t_lt (e_var 1) (e_ln 0 hK T.z_len)) (e_ixN 0 hK (e_var 1)) (e_add hK (e_mul hK e_int (e_var 1)) e_int))) (b_cons (s_set 3 sc__law_dice.nd (e_add hK e_int (e_mul hK e_int (e_var 1)))) (b_cons (s_for ownD rfl (i_seq hK (e_add hK (e_sl hK (e_var 0) p_none (p_some e_int)) (e_lst (a_cons (e_var 2) a_nil)))) (g_name 4 sc__law_dice.nd) (b_one (s_set 3 sc__law_dice.nd (e_mod (e_int' T.z_int (a_cons (e_add hK (e_mul hK (e_var 3) e_int) (e_mod (e_int' T.z_int (a_cons (e_var 4) a_nil)) e_int)) a_nil)) e_int)))) (b_one (s_ret (e_lst (a_cons (e_if (t_w (w_or (t_lt (e_var 2) e_int) (w_or1 (t_ge (e_var 2) (e_pow e_int e_int))))) (e_abs T.z_abs (a_cons (e_var 2) a_nil)) e_int) (a_cons (e_var 3) (a_cons e_int a_nil))))))))
theorem ok__law_roll {f : Addr} {fd : FuncData} (Fu : Fun K "_law_roll" "_law_roll" s__law_roll f fd) (T : Txt P K mg C fI) (hK : m.K = K) (hcl : m.cl 0 = some C)  :
    FnOk P w K mg base (L2.CX P w) 2 f fd ["dice", "many"] (spD m 2 F__law_roll) :=
  okD Fu sc__law_roll hK rfl rfl fun cdv A outer s H E F hm hE hr => by
    subst hm
    subst hE
    exact b_cons (s_if (t_gt (e_ixN 0 hK e_int) e_int) (b_cons (s_set 2 sc__law_roll.nd (e_mod (e_int' T.z_int (a_cons (e_ixN 0 hK e_int) a_nil)) (e_var 1))) (b_cons (s_store 0 e_int (e_div (e_ixN 0 hK e_int) (e_var 1))) (b_one (s_retV 2)))) b_nil) (b_cons (s_store 0 e_int (e_add hK (e_ixN 0 hK e_int) e_int)) (b_cons (s_store 0 e_int (e_mod (e_int' T.z_int (a_cons (e_add hK (e_add hK (e_mul hK (e_ixN 0 hK e_int) e_int) (e_mul hK (e_mul hK (e_ixN 0 hK e_int) (e_ixN 0 hK e_int)) e_int)) e_int) a_nil)) e_int)) (b_one (s_ret (e_mod (e_int' T.z_int (a_cons (e_div (e_ixN 0 hK e_int) e_int) a_nil)) (e_var 1))))))
theorem ok__law_pick {f : Addr} {fd : FuncData} (Fu : Fun K "_law_pick" "_law_pick" s__law_pick f fd) (T : Txt P K mg C fI) (hK : m.K = K) (hcl : m.cl 0 = some C) (C__law_roll : Cal P w K mg base m 2 "_law_roll" 1 F__law_roll []) :
    FnOk P w K mg base (L2.CX P w) 3 f fd ["dice", "things"] (spD m 2 F__law_pick) :=
  okD Fu sc__law_pick hK rfl rfl fun cdv A outer s H E F hm hE hr => by
    subst hm
    subst hE
    exact b_one (s_ret (e_ixN 1 hK (e_c C__law_roll hr passD (a_cons (e_var 0) (a_cons (e_ln 1 hK T.z_len) a_nil)))))
theorem ok__law_gcd {f : Addr} {fd : FuncData} (Fu : Fun K "_law_gcd" "_law_gcd" s__law_gcd f fd) (T : Txt P K mg C fI) (hK : m.K = K) (hcl : m.cl 0 = some C)  :
    FnOk P w K mg base (L2.CX P w) 2 f fd ["one", "other"] (spD m 2 F__law_gcd) :=
  okD Fu sc__law_gcd hK rfl rfl fun cdv A outer s H E F hm hE hr => by
    subst hm
    subst hE
    exact b_cons (s_par 0 1 rfl sc__law_gcd.nd (e_abs T.z_abs (a_cons (e_var 0) a_nil)) (e_abs T.z_abs (a_cons (e_var 1) a_nil))) (b_cons (s_for ownD rfl (i_rng1 rfl T.z_range e_int) (g_name 2 sc__law_gcd.nd) (b_cons (s_if (t_eq hr hK (e_var 1) e_int) (b_one s_break) b_nil) (b_one (s_par 0 1 rfl sc__law_gcd.nd (e_var 1) (e_mod (e_var 0) (e_var 1)))))) (b_one (s_retV 0)))
theorem bk__law_row_1 : BlkOk N__law_row (defScope s__law_row) (scp [(".0", .local), ("turn", .local), ("_law_pick", .globalImplicit), ("_law_roll", .globalImplicit), ("dice", .free), ("most", .free)]) [("turn", 3)] := blkOk_by (by decide +kernel)
theorem ok__law_row {f : Addr} {fd : FuncData} (Fu : Fun K "_law_row" "_law_row" s__law_row f fd) (T : Txt P K mg C fI) (hK : m.K = K) (hcl : m.cl 0 = some C) (C__law_roll : Cal P w K mg base m 2 "_law_roll" 1 F__law_roll []) (C__law_pick : Cal P w K mg base m 3 "_law_pick" 1 F__law_pick []) :
    FnOk P w K mg base (L2.CX P w) 4 f fd ["dice", "size", "most"] (spD m 3 F__law_row) :=
  okD Fu sc__law_row hK rfl rfl fun cdv A outer s H E F hm hE hr => by
    subst hm
    subst hE
    exact b_one (s_ret (e_tuple hK T.z_tuple (a_cons (e_lc rfl sc__law_row.nd (i_rng1 rfl T.z_range (e_add hK e_int (e_c C__law_roll hr passD (a_cons (e_var 0) (a_cons (e_var 1) a_nil))))) bk__law_row_1 (fun _ _ _ _ _ => gc_name 3 sc__law_row.nd) (fun _ _ _ _ _ => ts_nil) (fun _ _ _ _ _ => e_c C__law_pick hr passL (a_cons (e_var 0) (a_cons (e_lst (a_cons e_int (a_cons (e_c C__law_roll hr passL (a_cons (e_var 0) (a_cons (e_add hK (e_var 2) e_int) a_nil))) a_nil))) a_nil)))) a_nil)))
theorem ok__law_step {f : Addr} {fd : FuncData} (Fu : Fun K "_law_step" "_law_step" s__law_step f fd) (T : Txt P K mg C fI) (hK : m.K = K) (hcl : m.cl 0 = some C)  :
    FnOk P w K mg base (L2.CX P w) 2 f fd ["size", "level", "rain", "need"] (spD m 4 F__law_step) :=
  okD Fu sc__law_step hK rfl rfl fun cdv A outer s H E F hm hE hr => by
    subst hm
    subst hE
    exact b_cons (s_par3 4 5 6 rfl sc__law_step.nd (e_add hK (e_var 1) (e_var 2)) e_int e_int) (b_cons (s_if (t_gt (e_var 4) (e_var 0)) (b_one (s_par 4 5 rfl sc__law_step.nd (e_var 0) (e_sub (e_var 4) (e_var 0)))) b_nil) (b_cons (s_set 4 sc__law_step.nd (e_sub (e_var 4) (e_var 3))) (b_cons (s_if (t_lt (e_var 4) e_int) (b_one (s_par 4 6 rfl sc__law_step.nd e_int (e_sub e_int (e_var 4)))) b_nil) (b_one (s_ret (e_tup (a_cons (e_var 4) (a_cons (e_var 5) (a_cons (e_var 6) a_nil)))))))))
theorem ok__law_turn {f : Addr} {fd : FuncData} (Fu : Fun K "_law_turn" "_law_turn" s__law_turn f fd) (T : Txt P K mg C fI) (hK : m.K = K) (hcl : m.cl 0 = some C) (C__law_gcd : Cal P w K mg base m 2 "_law_gcd" 1 F__law_gcd []) :
    FnOk P w K mg base (L2.CX P w) 3 f fd ["one", "other"] (spD m 2 F__law_turn) :=
  okD Fu sc__law_turn hK rfl rfl fun cdv A outer s H E F hm hE hr => by
    subst hm
    subst hE
    exact b_one (s_ret (e_mul hK (e_div (e_var 0) (e_c C__law_gcd hr passD (a_cons (e_var 0) (a_cons (e_var 1) a_nil)))) (e_var 1)))
theorem ok__law_flow {f : Addr} {fd : FuncData} (Fu : Fun K "_law_flow" "_law_flow" s__law_flow f fd) (T : Txt P K mg C fI) (hK : m.K = K) (hcl : m.cl 0 = some C) (C__law_step : Cal P w K mg base m 2 "_law_step" 3 F__law_step []) :
    FnOk P w K mg base (L2.CX P w) 3 f fd ["chain", "levels", "rain", "needs", "step"] (spD m 5 F__law_flow) :=
  okD Fu sc__law_flow hK rfl rfl fun cdv A outer s H E F hm hE hr => by
    subst hm
    subst hE
    exact b_cons (s_par 5 6 rfl sc__law_flow.nd (e_lst a_nil) e_int) (b_cons (s_for ownD rfl (i_zip3 hK rfl T.z_zip (e_var 0) (e_var 1) (e_var 3)) (g_tup rfl hK (gs_cons (g_name 7 sc__law_flow.nd) (gs_cons (g_name 8 sc__law_flow.nd) (gs_cons (g_name 9 sc__law_flow.nd) gs_nil))) (gsCons_len (gsCons_len (gsCons_len gsNil_len)))) (b_cons (s_app 5 (e_c C__law_step hr passD (a_cons (e_ixN 7 hK e_int) (a_cons (e_var 8) (a_cons (e_add hK (e_mul hK (e_ixN 7 hK e_int) (e_var 2)) (e_var 6)) (a_cons (e_ixN 9 hK (e_mod (e_var 4) (e_ln 9 hK T.z_len))) a_nil)))))) (b_one (s_set 6 sc__law_flow.nd (e_ix hK (e_ixN 5 hK (e_neg e_int)) e_int))))) (b_one (s_ret (e_tuple hK T.z_tuple (a_cons (e_var 5) a_nil)))))
theorem bk__law_stream_1 : BlkOk N__law_stream (defScope s__law_stream) (scp [(".0", .local), ("stage", .local)]) [("stage", 10)] := blkOk_by (by decide +kernel)
theorem bk__law_stream_4 : BlkOk N__law_stream (defScope s__law_stream) (scp [(".0", .local), ("one", .local)]) [("one", 11)] := blkOk_by (by decide +kernel)
theorem ok__law_stream {f : Addr} {fd : FuncData} (Fu : Fun K "_law_stream" "_law_stream" s__law_stream f fd) (T : Txt P K mg C fI) (hK : m.K = K) (hcl : m.cl 0 = some C) (C__law_turn : Cal P w K mg base m 3 "_law_turn" 1 F__law_turn []) (C__law_flow : Cal P w K mg base m 3 "_law_flow" 4 F__law_flow []) :
    FnOk P w K mg base (L2.CX P w) 4 f fd ["chain", "rains", "needs"] (spD m 3 F__law_stream) :=
  okD Fu sc__law_stream hK rfl rfl fun cdv A outer s H E F hm hE hr => by
    subst hm
    subst hE
    exact b_cons (s_par3 3 4 5 rfl sc__law_stream.nd (e_ln 1 hK T.z_len) (e_lst a_nil) (e_lc rfl sc__law_stream.nd (i_seq hK (e_var 0)) bk__law_stream_1 (fun _ _ _ _ _ => gc_name 10 sc__law_stream.nd) (fun _ _ _ _ _ => ts_nil) (fun _ _ _ _ _ => e_ixN 10 hK e_int))) (b_cons (s_for ownD rfl (i_seq hK (e_var 2)) (g_name 6 sc__law_stream.nd) (b_one (s_set 3 sc__law_stream.nd (e_c C__law_turn hr passD (a_cons (e_var 3) (a_cons (e_ln 6 hK T.z_len) a_nil)))))) (b_cons (s_for ownD rfl (i_rng1 rfl T.z_range e_int) (g_name 7 sc__law_stream.nd) (b_cons (s_set 8 sc__law_stream.nd (e_var 5)) (b_cons (s_for ownD rfl (i_rng1 rfl T.z_range (e_var 3)) (g_name 9 sc__law_stream.nd) (b_cons (s_app 4 (e_c C__law_flow hr passD (a_cons (e_var 0) (a_cons (e_var 5) (a_cons (e_ixN 1 hK (e_mod (e_var 9) (e_ln 1 hK T.z_len))) (a_cons (e_var 2) (a_cons (e_var 9) a_nil))))))) (b_one (s_lc 5 rfl sc__law_stream.nd (i_seq hK (e_ixN 4 hK (e_neg e_int))) bk__law_stream_4 (fun _ _ _ _ _ => gc_name 11 sc__law_stream.nd) (fun _ _ _ _ _ => ts_nil) (fun _ _ _ _ _ => e_ixN 11 hK e_int) (by rfl))))) (b_one (s_if (t_eq hr hK (e_var 5) (e_var 8)) (b_one s_break) b_nil))))) (b_one (s_ret (e_tup (a_cons (e_var 4) (a_cons (e_var 3) a_nil)))))))
theorem bk__law_keeps_1 : BlkOk N__law_keeps (defScope s__law_keeps) (scp [(".0", .local), ("size", .local), ("share", .local)]) [("size", 8), ("share", 9)] := blkOk_by (by decide +kernel)
theorem bk__law_keeps_3 : BlkOk N__law_keeps (defScope s__law_keeps) (scp [(".0", .local), ("one", .local)]) [("one", 10)] := blkOk_by (by decide +kernel)
theorem ok__law_keeps {f : Addr} {fd : FuncData} (Fu : Fun K "_law_keeps" "_law_keeps" s__law_keeps f fd) (T : Txt P K mg C fI) (hK : m.K = K) (hcl : m.cl 0 = some C) (C__law_stream : Cal P w K mg base m 4 "_law_stream" 2 F__law_stream []) :
    FnOk P w K mg base (L2.CX P w) 5 f fd ["sizes", "shares", "rains", "needs"] (spD m 4 F__law_keeps) :=
  okD Fu sc__law_keeps hK rfl rfl fun cdv A outer s H E F hm hE hr => by
    subst hm
    subst hE
    exact b_cons (s_set 4 sc__law_keeps.nd (e_tuple hK T.z_tuple (a_cons (e_lc rfl sc__law_keeps.nd (i_zip2 hK rfl T.z_zip (e_var 0) (e_var 1)) bk__law_keeps_1 (fun _ _ _ _ _ => gc_tup rfl hK (gsc_cons (gc_name 8 sc__law_keeps.nd) (gsc_cons (gc_name 9 sc__law_keeps.nd) gsc_nil))) (fun _ _ _ _ _ => ts_nil) (fun _ _ _ _ _ => e_tup (a_cons (e_var 8) (a_cons (e_var 8) (a_cons (e_var 9) a_nil))))) a_nil))) (b_cons (s_asg (g_tup rfl hK (gs_cons (g_name 5 sc__law_keeps.nd) (gs_cons (g_name 6 sc__law_keeps.nd) gs_nil)) (gsCons_len (gsCons_len gsNil_len))) (e_c C__law_stream hr passD (a_cons (e_var 4) (a_cons (e_var 2) (a_cons (e_var 3) a_nil))))) (b_cons (s_for ownD rfl (i_seq hK (e_var 5)) (g_name 7 sc__law_keeps.nd) (b_one (s_if (t_gt (e_max hK rfl T.z_max (a_cons (e_lc rfl sc__law_keeps.nd (i_seq hK (e_var 7)) bk__law_keeps_3 (fun _ _ _ _ _ => gc_name 10 sc__law_keeps.nd) (fun _ _ _ _ _ => ts_nil) (fun _ _ _ _ _ => e_ixN 10 hK e_int)) a_nil)) e_int) (b_one (s_ret e_bl)) b_nil))) (b_one (s_ret e_bl))))
theorem bk__law_all_1 : BlkOk N__law_all (defScope s__law_all) (scp [(".0", .local), ("size", .local), ("row", .free)]) [("size", 8)] := blkOk_by (by decide +kernel)
theorem bk__law_all_5 : BlkOk N__law_all (defScope s__law_all) (scp [(".0", .local), ("row", .local), ("sum", .globalImplicit), ("whole", .free)]) [("row", 5)] := blkOk_by (by decide +kernel)
theorem ok__law_all {f : Addr} {fd : FuncData} (Fu : Fun K "_law_all" "_law_all" s__law_all f fd) (T : Txt P K mg C fI) (hK : m.K = K) (hcl : m.cl 0 = some C)  :
    FnOk P w K mg base (L2.CX P w) 2 f fd ["many", "most"] (spD m 2 F__law_all) :=
  okD Fu sc__law_all hK rfl rfl fun cdv A outer s H E F hm hE hr => by
    subst hm
    subst hE
    exact b_cons (s_set 2 sc__law_all.nd (e_lst (a_cons (e_tup a_nil) a_nil))) (b_cons (s_for ownD rfl (i_rng1 rfl T.z_range (e_var 0)) (g_name 3 sc__law_all.nd) (b_cons (s_set 4 sc__law_all.nd (e_lst a_nil)) (b_cons (s_for ownD rfl (i_seq hK (e_var 2)) (g_name 5 sc__law_all.nd) (b_one (s_set 4 sc__law_all.nd (e_add hK (e_var 4) (e_lc rfl sc__law_all.nd (i_rng2 rfl T.z_range e_int (e_add hK (e_var 1) e_int)) bk__law_all_1 (fun _ _ _ _ _ => gc_name 8 sc__law_all.nd) (fun _ _ _ _ _ => ts_nil) (fun _ _ _ _ _ => e_add hK (e_var 5) (e_tup (a_cons (e_var 8) a_nil)))))))) (b_one (s_set 2 sc__law_all.nd (e_var 4)))))) (b_cons (s_set 6 sc__law_all.nd (e_lst a_nil)) (b_cons (s_for ownD rfl (i_rng1 rfl T.z_range (e_add hK (e_var 1) e_int)) (g_name 7 sc__law_all.nd) (b_one (s_set 6 sc__law_all.nd (e_add hK (e_var 6) (e_lc rfl sc__law_all.nd (i_seq hK (e_var 2)) bk__law_all_5 (fun _ _ _ _ _ => gc_name 5 sc__law_all.nd) (fun _ _ _ _ _ => ts_one (t_eq hr hK (e_sum hK rfl T.z_sum (a_cons (e_var 5) a_nil)) (e_var 7))) (fun _ _ _ _ _ => e_var 5)))))) (b_one (s_retV 6)))))
theorem bk_parted_1_1 : BlkOk N_parted_1 (defScope s_parted_1) (scp [(".0", .local), ("rest", .local), ("first", .free)]) [("rest", 4)] := blkOk_by (by decide +kernel)
theorem ok_parted_1 {f : Addr} {fd : FuncData} (Fu : Fun K "parted" "parted" s_parted_1 f fd) (T : Txt P K mg C fI) (hK : m.K = K) (hcl : m.cl 0 = some C) (C_parted_0 : Cal P w K mg base m 1 "parted" 1 F_parted_0 []) :
    FnOk P w K mg base (L2.CX P w) 2 f fd ["whole", "many"] (spD m 2 F_parted_1) :=
  okD Fu sc_parted_1 hK rfl rfl fun cdv A outer s H E F hm hE hr => by
    subst hm
    subst hE
    exact b_cons (s_if (t_eq hr hK (e_var 1) e_int) (b_one (s_ret (e_if (t_gt (e_var 0) e_int) (e_lst (a_cons (e_lst (a_cons (e_var 0) a_nil)) a_nil)) (e_lst a_nil)))) b_nil) (b_cons (s_set 2 sc_parted_1.nd (e_lst a_nil)) (b_cons (s_for ownD rfl (i_rng2 rfl T.z_range e_int (e_add hK (e_sub (e_var 0) (e_var 1)) e_int)) (g_name 3 sc_parted_1.nd) (b_one (s_ext 2 (e_lc rfl sc_parted_1.nd (i_seq hK (e_c C_parted_0 hr passD (a_cons (e_sub (e_var 0) (e_var 3)) (a_cons (e_sub (e_var 1) e_int) a_nil)))) bk_parted_1_1 (fun _ _ _ _ _ => gc_name 4 sc_parted_1.nd) (fun _ _ _ _ _ => ts_nil) (fun _ _ _ _ _ => e_add hK (e_lst (a_cons (e_var 3) a_nil)) (e_var 4)))))) (b_one (s_retV 2))))
theorem bk_parted_2_1 : BlkOk N_parted_2 (defScope s_parted_2) (scp [(".0", .local), ("rest", .local), ("first", .free)]) [("rest", 4)] := blkOk_by (by decide +kernel)
theorem ok_parted_2 {f : Addr} {fd : FuncData} (Fu : Fun K "parted" "parted" s_parted_2 f fd) (T : Txt P K mg C fI) (hK : m.K = K) (hcl : m.cl 0 = some C) (C_parted_1 : Cal P w K mg base m 2 "parted" 1 F_parted_1 []) :
    FnOk P w K mg base (L2.CX P w) 3 f fd ["whole", "many"] (spD m 2 F_parted_2) :=
  okD Fu sc_parted_2 hK rfl rfl fun cdv A outer s H E F hm hE hr => by
    subst hm
    subst hE
    exact b_cons (s_if (t_eq hr hK (e_var 1) e_int) (b_one (s_ret (e_if (t_gt (e_var 0) e_int) (e_lst (a_cons (e_lst (a_cons (e_var 0) a_nil)) a_nil)) (e_lst a_nil)))) b_nil) (b_cons (s_set 2 sc_parted_2.nd (e_lst a_nil)) (b_cons (s_for ownD rfl (i_rng2 rfl T.z_range e_int (e_add hK (e_sub (e_var 0) (e_var 1)) e_int)) (g_name 3 sc_parted_2.nd) (b_one (s_ext 2 (e_lc rfl sc_parted_2.nd (i_seq hK (e_c C_parted_1 hr passD (a_cons (e_sub (e_var 0) (e_var 3)) (a_cons (e_sub (e_var 1) e_int) a_nil)))) bk_parted_2_1 (fun _ _ _ _ _ => gc_name 4 sc_parted_2.nd) (fun _ _ _ _ _ => ts_nil) (fun _ _ _ _ _ => e_add hK (e_lst (a_cons (e_var 3) a_nil)) (e_var 4)))))) (b_one (s_retV 2))))
theorem bk_parted_3_1 : BlkOk N_parted_3 (defScope s_parted_3) (scp [(".0", .local), ("rest", .local), ("first", .free)]) [("rest", 4)] := blkOk_by (by decide +kernel)
theorem ok_parted_3 {f : Addr} {fd : FuncData} (Fu : Fun K "parted" "parted" s_parted_3 f fd) (T : Txt P K mg C fI) (hK : m.K = K) (hcl : m.cl 0 = some C) (C_parted_2 : Cal P w K mg base m 3 "parted" 1 F_parted_2 []) :
    FnOk P w K mg base (L2.CX P w) 4 f fd ["whole", "many"] (spD m 2 F_parted_3) :=
  okD Fu sc_parted_3 hK rfl rfl fun cdv A outer s H E F hm hE hr => by
    subst hm
    subst hE
    exact b_cons (s_if (t_eq hr hK (e_var 1) e_int) (b_one (s_ret (e_if (t_gt (e_var 0) e_int) (e_lst (a_cons (e_lst (a_cons (e_var 0) a_nil)) a_nil)) (e_lst a_nil)))) b_nil) (b_cons (s_set 2 sc_parted_3.nd (e_lst a_nil)) (b_cons (s_for ownD rfl (i_rng2 rfl T.z_range e_int (e_add hK (e_sub (e_var 0) (e_var 1)) e_int)) (g_name 3 sc_parted_3.nd) (b_one (s_ext 2 (e_lc rfl sc_parted_3.nd (i_seq hK (e_c C_parted_2 hr passD (a_cons (e_sub (e_var 0) (e_var 3)) (a_cons (e_sub (e_var 1) e_int) a_nil)))) bk_parted_3_1 (fun _ _ _ _ _ => gc_name 4 sc_parted_3.nd) (fun _ _ _ _ _ => ts_nil) (fun _ _ _ _ _ => e_add hK (e_lst (a_cons (e_var 3) a_nil)) (e_var 4)))))) (b_one (s_retV 2))))
theorem bk_parted_4_1 : BlkOk N_parted_4 (defScope s_parted_4) (scp [(".0", .local), ("rest", .local), ("first", .free)]) [("rest", 4)] := blkOk_by (by decide +kernel)
theorem ok_parted_4 {f : Addr} {fd : FuncData} (Fu : Fun K "parted" "parted" s_parted_4 f fd) (T : Txt P K mg C fI) (hK : m.K = K) (hcl : m.cl 0 = some C) (C_parted_3 : Cal P w K mg base m 4 "parted" 1 F_parted_3 []) :
    FnOk P w K mg base (L2.CX P w) 5 f fd ["whole", "many"] (spD m 2 F_parted_4) :=
  okD Fu sc_parted_4 hK rfl rfl fun cdv A outer s H E F hm hE hr => by
    subst hm
    subst hE
    exact b_cons (s_if (t_eq hr hK (e_var 1) e_int) (b_one (s_ret (e_if (t_gt (e_var 0) e_int) (e_lst (a_cons (e_lst (a_cons (e_var 0) a_nil)) a_nil)) (e_lst a_nil)))) b_nil) (b_cons (s_set 2 sc_parted_4.nd (e_lst a_nil)) (b_cons (s_for ownD rfl (i_rng2 rfl T.z_range e_int (e_add hK (e_sub (e_var 0) (e_var 1)) e_int)) (g_name 3 sc_parted_4.nd) (b_one (s_ext 2 (e_lc rfl sc_parted_4.nd (i_seq hK (e_c C_parted_3 hr passD (a_cons (e_sub (e_var 0) (e_var 3)) (a_cons (e_sub (e_var 1) e_int) a_nil)))) bk_parted_4_1 (fun _ _ _ _ _ => gc_name 4 sc_parted_4.nd) (fun _ _ _ _ _ => ts_nil) (fun _ _ _ _ _ => e_add hK (e_lst (a_cons (e_var 3) a_nil)) (e_var 4)))))) (b_one (s_retV 2))))
theorem gk_smallest_chain_1 : GenOk N_smallest_chain (defScope s_smallest_chain) (scpG [(".0", .local), ("one", .local), ("is_integer", .globalImplicit), ("MOST_SHARE", .globalImplicit)]) [("one", 6)] := gen_by (by decide +kernel)
theorem ok_smallest_chain {f : Addr} {fd : FuncData} {c Pt : Addr} (Fu : FunC K "smallest_chain" "smallest_chain" s_smallest_chain f fd c) (TB : GxR.TabB base mg c Pt) (hT : (Pt, none) ∈ m.T) (hu : ∀ p ∈ m.T, p.1 = Pt → p.2 = none) (T : Txt P K mg C fI) (hK : m.K = K) (hcl : m.cl 0 = some C) (C_is_integer : Cal P w K mg base m 2 "is_integer" 0 F_is_integer []) (C_need_chain : Cal P w K mg base m 7 "need_chain" 2 F_need_chain []) (C_full_chain : Cal P w K mg base m 2 "full_chain" 1 F_full_chain []) (C_need_integer : Cal P w K mg base m 3 "need_integer" 3 F_need_integer []) (C_parted_4 : Cal P w K mg base m 5 "parted" 1 F_parted_4 []) (C_is_kept : Cal P w K mg base m 6 "is_kept" 2 F_is_kept []) :
    FnOk P w K mg base (L2.CX P w) 8 f fd ["shares", "rains", "needs", "most"] (spD m 4 F_smallest_chain) :=
  okDC Fu sc_smallest_chain hK rfl rfl fun A outer s H E F hm hE hr => by
    subst hm
    subst hE
    exact b_cons (s_if (t_w (w_or (t_not (t_val (e_isT hK T.z_isinstance T.z_tuple (e_var 0)))) (w_or1 (t_not (t_lele e_int (e_ln 0 hK T.z_len) e_int))))) (b_one (s_raise rfl takesD T.bad hcl hr rfl T.mB (a_cons e_str a_nil))) b_nil) (b_cons (s_if (t_not (t_val (e_ag rfl sc_smallest_chain.nd hr T.z_all TB rfl hu hT gk_smallest_chain_1 (i_seq hK (e_var 0)) (fun _ _ _ _ _ _ _ _ => gc_name 6 sc_smallest_chain.nd) (fun _ _ _ _ _ _ _ _ hr2 => e_and (e_c C_is_integer hr2 passL (a_cons (e_var 6) a_nil)) (e_one (e_lele e_int (e_var 6) (e_gI T.k_MOST_SHARE))))))) (b_one (s_raise rfl takesD T.bad hcl hr rfl T.mB (a_cons e_str a_nil))) b_nil) (b_cons (s_expr (e_c C_need_chain hr passD (a_cons (e_c C_full_chain hr passD (a_cons (e_mul hK (e_lst (a_cons e_int a_nil)) (e_ln 0 hK T.z_len)) (a_cons (e_var 0) a_nil))) (a_cons (e_var 1) (a_cons (e_var 2) a_nil))))) (b_cons (s_expr (e_c C_need_integer hr passD (a_cons (e_var 3) (a_cons e_str (a_cons e_int (a_cons e_int a_nil)))))) (b_cons (s_for ownD rfl (i_rng2 rfl T.z_range (e_ln 0 hK T.z_len) (e_add hK (e_var 3) e_int)) (g_name 4 sc_smallest_chain.nd) (b_one (s_for ownD rfl (i_seq hK (e_c C_parted_4 hr passD (a_cons (e_var 4) (a_cons (e_ln 0 hK T.z_len) a_nil)))) (g_name 5 sc_smallest_chain.nd) (b_one (s_if (t_val (e_c C_is_kept hr passD (a_cons (e_c C_full_chain hr passD (a_cons (e_var 5) (a_cons (e_var 0) a_nil))) (a_cons (e_var 1) (a_cons (e_var 2) a_nil))))) (b_one (s_ret (e_tuple hK T.z_tuple (a_cons (e_var 5) a_nil)))) b_nil))))) (b_one (s_ret e_non))))))
theorem bk__law_right_1 : BlkOk N__law_right (defScope s__law_right) (scp [(".0", .local), ("turn", .local), ("_law_roll", .globalImplicit), ("dice", .free)]) [("turn", 8)] := blkOk_by (by decide +kernel)
theorem bk__law_right_3 : BlkOk N__law_right (defScope s__law_right) (scp [(".0", .local), ("turn", .local), ("_law_row", .globalImplicit), ("dice", .free)]) [("turn", 8)] := blkOk_by (by decide +kernel)
theorem bk__law_right_5 : BlkOk N__law_right (defScope s__law_right) (scp [(".0", .local), ("row", .local), ("_law_keeps", .globalImplicit), ("needs", .free), ("rains", .free), ("shares", .free)]) [("row", 9)] := blkOk_by (by decide +kernel)
theorem ls__law_right_8 : LamX.LamS (defScope s__law_right) (scp [("needs", .free), ("rains", .free), ("shares", .free), ("smallest_chain", .globalImplicit)]) := LamX.lamS_by (by decide +kernel)
theorem ls__law_right_10 : LamX.LamS (defScope s__law_right) (scp [("rains", .free), ("shares", .free), ("smallest_chain", .globalImplicit)]) := LamX.lamS_by (by decide +kernel)
theorem ls__law_right_12 : LamX.LamS (defScope s__law_right) (scp [("shares", .free), ("smallest_chain", .globalImplicit)]) := LamX.lamS_by (by decide +kernel)
theorem ls__law_right_14 : LamX.LamS (defScope s__law_right) (scp [("smallest_chain", .globalImplicit)]) := LamX.lamS_by (by decide +kernel)
theorem ls__law_right_16 : LamX.LamS (defScope s__law_right) (scp [("smallest_chain", .globalImplicit)]) := LamX.lamS_by (by decide +kernel)
theorem ls__law_right_18 : LamX.LamS (defScope s__law_right) (scp [("smallest_chain", .globalImplicit)]) := LamX.lamS_by (by decide +kernel)
theorem ok__law_right {f : Addr} {fd : FuncData} {c Pt : Addr} (Fu : FunC K "_law_right" "_law_right" s__law_right f fd c) (TB : LamX.TabB base mg c Pt) (hT : (Pt, some (("_law_right" : Str) ++ ".<locals>." ++ "<lambda>")) ∈ m.T) (hu : ∀ p ∈ m.T, p.1 = Pt → p.2 = some (("_law_right" : Str) ++ ".<locals>." ++ "<lambda>")) (R : RefAt K mg C) (T : Txt P K mg C fI) (hK : m.K = K) (hcl : m.cl 0 = some C) (C__law_roll : Cal P w K mg base m 2 "_law_roll" 1 F__law_roll []) (C__law_row : Cal P w K mg base m 4 "_law_row" 2 F__law_row []) (C__law_pick : Cal P w K mg base m 3 "_law_pick" 1 F__law_pick []) (C__law_all : Cal P w K mg base m 2 "_law_all" 1 F__law_all []) (C__law_keeps : Cal P w K mg base m 5 "_law_keeps" 3 F__law_keeps []) (C_smallest_chain : Cal P w K mg base m 8 "smallest_chain" 3 F_smallest_chain [(3, ["most"])]) :
    FnOk P w K mg base (L2.CX P w) 11 f fd ["dice"] (spD m 1 F__law_right) :=
  okDC Fu sc__law_right hK rfl rfl fun A outer s H E F hm hE hr => by
    subst hm
    subst hE
    exact b_cons (s_set 1 sc__law_right.nd (e_add hK e_int (e_c C__law_roll hr passD (a_cons (e_var 0) (a_cons e_int a_nil))))) (b_cons (s_set 7 sc__law_right.nd (e_tuple hK T.z_tuple (a_cons (e_lc rfl sc__law_right.nd (i_rng1 rfl T.z_range (e_var 1)) bk__law_right_1 (fun _ _ _ _ _ => gc_name 8 sc__law_right.nd) (fun _ _ _ _ _ => ts_nil) (fun _ _ _ _ _ => e_c C__law_roll hr passL (a_cons (e_var 0) (a_cons e_int a_nil)))) a_nil))) (b_cons (s_set 6 sc__law_right.nd (e_add hK (e_c C__law_row hr passD (a_cons (e_var 0) (a_cons e_int (a_cons e_int a_nil)))) (e_tup (a_cons (e_c C__law_roll hr passD (a_cons (e_var 0) (a_cons e_int a_nil))) a_nil)))) (b_cons (s_set 5 sc__law_right.nd (e_tuple hK T.z_tuple (a_cons (e_lc rfl sc__law_right.nd (i_rng1 rfl T.z_range (e_var 1)) bk__law_right_3 (fun _ _ _ _ _ => gc_name 8 sc__law_right.nd) (fun _ _ _ _ _ => ts_nil) (fun _ _ _ _ _ => e_c C__law_row hr passL (a_cons (e_var 0) (a_cons e_int (a_cons e_int a_nil))))) a_nil))) (b_cons (s_set 2 sc__law_right.nd (e_c C__law_pick hr passD (a_cons (e_var 0) (a_cons (e_lst (a_cons e_int (a_cons e_int (a_cons e_int (a_cons e_int (a_cons (e_if (t_lt (e_var 1) e_int) e_int e_int) a_nil)))))) a_nil)))) (b_cons (s_lc 3 rfl sc__law_right.nd (i_seq hK (e_c C__law_all hr passD (a_cons (e_var 1) (a_cons (e_var 2) a_nil)))) bk__law_right_5 (fun _ _ _ _ _ => gc_name 9 sc__law_right.nd) (fun _ _ _ _ _ => ts_one (t_val (e_c C__law_keeps hr passL (a_cons (e_var 9) (a_cons (e_var 7) (a_cons (e_var 6) (a_cons (e_var 5) a_nil))))))) (fun _ _ _ _ _ => e_var 9) (by rfl)) (b_cons (s_if (t_ne hr hK (e_ck C_smallest_chain hr passD (a_cons (e_var 7) (a_cons (e_var 6) (a_cons (e_var 5) a_nil))) (k_cons (e_var 2) k_nil) (List.mem_cons_self ..)) (e_ix hK (e_add hK (e_var 3) (e_lst (a_cons e_non a_nil))) e_int)) (b_one (s_ret e_bl)) b_nil) (b_cons (s_set 4 sc__law_right.nd (e_lst (a_cons (e_rf R hcl TB rfl hT hu hr ls__law_right_18 (fun F2 A2 o2 s2 H2 f2 c2 hm2 hr2 => e_c (C_smallest_chain.to hm2) hr2 passLam (a_cons (e_tup a_nil) (a_cons e_non (a_cons e_non (a_cons e_non a_nil)))))) (a_cons (e_rf R hcl TB rfl hT hu hr ls__law_right_16 (fun F2 A2 o2 s2 H2 f2 c2 hm2 hr2 => e_c (C_smallest_chain.to hm2) hr2 passLam (a_cons (e_tup (a_cons e_int a_nil)) (a_cons e_non (a_cons e_non (a_cons e_non a_nil)))))) (a_cons (e_rf R hcl TB rfl hT hu hr ls__law_right_14 (fun F2 A2 o2 s2 H2 f2 c2 hm2 hr2 => e_c (C_smallest_chain.to hm2) hr2 passLam (a_cons (e_mul ((congrArg Pm.K hm2).trans hK) (e_tup (a_cons e_int a_nil)) e_int) (a_cons e_non (a_cons e_non (a_cons e_non a_nil)))))) (a_cons (e_rf R hcl TB rfl hT hu hr ls__law_right_12 (fun F2 A2 o2 s2 H2 f2 c2 hm2 hr2 => e_c (C_smallest_chain.to hm2) hr2 passLam (a_cons (e_var 7) (a_cons e_non (a_cons e_non (a_cons e_non a_nil)))))) (a_cons (e_rf R hcl TB rfl hT hu hr ls__law_right_10 (fun F2 A2 o2 s2 H2 f2 c2 hm2 hr2 => e_c (C_smallest_chain.to hm2) hr2 passLam (a_cons (e_var 7) (a_cons (e_var 6) (a_cons (e_tup a_nil) (a_cons e_non a_nil)))))) (a_cons (e_rf R hcl TB rfl hT hu hr ls__law_right_8 (fun F2 A2 o2 s2 H2 f2 c2 hm2 hr2 => e_c (C_smallest_chain.to hm2) hr2 passLam (a_cons (e_var 7) (a_cons (e_var 6) (a_cons (e_var 5) (a_cons e_int a_nil)))))) a_nil)))))))) (b_one (s_ret (e_eq hr hK (e_var 4) (e_lst (a_cons e_str (a_cons e_str (a_cons e_str (a_cons e_str (a_cons e_str (a_cons e_str a_nil)))))))))))))))))
theorem ok_law {f : Addr} {fd : FuncData} (Fu : Fun K "law" "law" s_law f fd) (T : Txt P K mg C fI) (hK : m.K = K) (hcl : m.cl 0 = some C) (C__law_right : Cal P w K mg base m 11 "_law_right" 0 F__law_right []) (C__law_dice : Cal P w K mg base m 2 "_law_dice" 1 F__law_dice []) :
    FnOk P w K mg base (L2.CX P w) 12 f fd ["script"] (spLaw m F_law) :=
  okLaw Fu sc_law hK rfl fun cdv A outer s H E F hm hE hδ hr => by
    subst hm
    subst hE
    exact b_cons (s_for ownD rfl (i_rng1 rfl T.z_range (e_max hK rfl T.z_max (a_cons e_int (a_cons (e_min hK rfl T.z_min (a_cons e_int (a_cons (e_ln 0 hK T.z_len) a_nil))) a_nil)))) (g_name 1 sc_law.nd) (b_one (s_if (t_not (t_val (e_cell' hδ C__law_right hr passD (e_c C__law_dice hr passD (a_cons (e_var 0) (a_cons (e_var 1) a_nil)))))) (b_one (s_ret e_bl)) b_nil))) (b_one (s_ret e_bl))
end
end K06

set_option Elab.async false
set_option linter.all false
set_option maxRecDepth 100000
set_option maxHeartbeats 40000000
/-! K06z: the end of rainkept_k06_whole_smallest, printed by gen.py. -/
namespace K06
open PySem PySem.Spec L2 DL
open PyProof.Rows hiding St
abbrev s__law_refused : Stmt := top 34
theorem all_mk {l : PySem.W.OpenLaw} {qq : Program} {w : World} {K : PySem.W.Frag} {h : Heap} {mg : Str → Option Value} {fa : Addr} (X : K.In h) (G : h.Ns mainGlobals mg) (hfa : mg "law" = some (.ref fa))
    (tb : ∀ (y : Str) (c P : Addr), ((recsOf qq).find? fun e => e.name == y).isSome = true → PySem.W.tabIn K y = some (c, P) → PySem.W.CodeHd h c P ∧ h.get? P = some { cls := .none, data := .fields #[] })
    {C f1 Nn cda cc : Addr}
    {nm q qn : Str}
    {bs : List Value}
    {sn : List Str}
    {sub : List Value}
    {ab : Bool}
    {col : Option Bool}
    {dd od1 an1 cdd cld : Option Addr}
    {m0 m1 m2 m3 m5 : Option Value}
    {sl1 ccs csl : Array (Option Value)}
    {vs : Array Value}
    {file : Str}
    {tf : Tok}
    {oc1 kV1 dc1 pm1 ct1 ccl cl : Value}
    {tk_MOST_AMOUNT : Tok}
    {tk_MOST_CHAIN_ROW : Tok}
    {tk_MOST_ROW : Tok}
    {tk_MOST_SHARE : Tok}
    {tk_MOST_STAGE : Tok}
    {tk_MOST_STAGES : Tok}
    {f_is_integer : Addr} {od_is_integer an_is_integer : Option Addr} {sl_is_integer : Array (Option Value)} {oc_is_integer kV_is_integer dc_is_integer pm_is_integer cd_is_integer ct_is_integer : Value}
    {f_need_integer : Addr} {od_need_integer an_need_integer : Option Addr} {sl_need_integer : Array (Option Value)} {oc_need_integer kV_need_integer dc_need_integer pm_need_integer cd_need_integer ct_need_integer : Value}
    {f_is_row c_is_row P_is_row : Addr} {od_is_row an_is_row : Option Addr} {sl_is_row : Array (Option Value)} {oc_is_row kV_is_row dc_is_row pm_is_row ct_is_row : Value}
    {cc_is_row : Value} {cdd_is_row : Option Addr} {vs_is_row : Array Value} {cs_is_row : Array (Option Value)}
    {f_need_row : Addr} {od_need_row an_need_row : Option Addr} {sl_need_row : Array (Option Value)} {oc_need_row kV_need_row dc_need_row pm_need_row cd_need_row ct_need_row : Value}
    {f_common : Addr} {od_common an_common : Option Addr} {sl_common : Array (Option Value)} {oc_common kV_common dc_common pm_common cd_common ct_common : Value}
    {f_least_common : Addr} {od_least_common an_least_common : Option Addr} {sl_least_common : Array (Option Value)} {oc_least_common kV_least_common dc_least_common pm_least_common cd_least_common ct_least_common : Value}
    {f_amount_at : Addr} {od_amount_at an_amount_at : Option Addr} {sl_amount_at : Array (Option Value)} {oc_amount_at kV_amount_at dc_amount_at pm_amount_at cd_amount_at ct_amount_at : Value}
    {f_after : Addr} {od_after an_after : Option Addr} {sl_after : Array (Option Value)} {oc_after kV_after dc_after pm_after cd_after ct_after : Value}
    {f_is_stage c_is_stage P_is_stage : Addr} {od_is_stage an_is_stage : Option Addr} {sl_is_stage : Array (Option Value)} {oc_is_stage kV_is_stage dc_is_stage pm_is_stage ct_is_stage : Value}
    {cc_is_stage : Value} {cdd_is_stage : Option Addr} {vs_is_stage : Array Value} {cs_is_stage : Array (Option Value)}
    {f_is_chain c_is_chain P_is_chain : Addr} {od_is_chain an_is_chain : Option Addr} {sl_is_chain : Array (Option Value)} {oc_is_chain kV_is_chain dc_is_chain pm_is_chain ct_is_chain : Value}
    {cc_is_chain : Value} {cdd_is_chain : Option Addr} {vs_is_chain : Array Value} {cs_is_chain : Array (Option Value)}
    {f_are_needs c_are_needs P_are_needs : Addr} {od_are_needs an_are_needs : Option Addr} {sl_are_needs : Array (Option Value)} {oc_are_needs kV_are_needs dc_are_needs pm_are_needs ct_are_needs : Value}
    {cc_are_needs : Value} {cdd_are_needs : Option Addr} {vs_are_needs : Array Value} {cs_are_needs : Array (Option Value)}
    {f_need_chain : Addr} {od_need_chain an_need_chain : Option Addr} {sl_need_chain : Array (Option Value)} {oc_need_chain kV_need_chain dc_need_chain pm_need_chain cd_need_chain ct_need_chain : Value}
    {f_step_of : Addr} {od_step_of an_step_of : Option Addr} {sl_step_of : Array (Option Value)} {oc_step_of kV_step_of dc_step_of pm_step_of cd_step_of ct_step_of : Value}
    {f_chain_turn : Addr} {od_chain_turn an_chain_turn : Option Addr} {sl_chain_turn : Array (Option Value)} {oc_chain_turn kV_chain_turn dc_chain_turn pm_chain_turn cd_chain_turn ct_chain_turn : Value}
    {f_chain_settled : Addr} {od_chain_settled an_chain_settled : Option Addr} {sl_chain_settled : Array (Option Value)} {oc_chain_settled kV_chain_settled dc_chain_settled pm_chain_settled cd_chain_settled ct_chain_settled : Value}
    {f_is_kept : Addr} {od_is_kept an_is_kept : Option Addr} {sl_is_kept : Array (Option Value)} {oc_is_kept kV_is_kept dc_is_kept pm_is_kept cd_is_kept ct_is_kept : Value}
    {f_full_chain : Addr} {od_full_chain an_full_chain : Option Addr} {sl_full_chain : Array (Option Value)} {oc_full_chain kV_full_chain dc_full_chain pm_full_chain cd_full_chain ct_full_chain : Value}
    {f__law_dice : Addr} {od__law_dice an__law_dice : Option Addr} {sl__law_dice : Array (Option Value)} {oc__law_dice kV__law_dice dc__law_dice pm__law_dice cd__law_dice ct__law_dice : Value}
    {f__law_roll : Addr} {od__law_roll an__law_roll : Option Addr} {sl__law_roll : Array (Option Value)} {oc__law_roll kV__law_roll dc__law_roll pm__law_roll cd__law_roll ct__law_roll : Value}
    {f__law_pick : Addr} {od__law_pick an__law_pick : Option Addr} {sl__law_pick : Array (Option Value)} {oc__law_pick kV__law_pick dc__law_pick pm__law_pick cd__law_pick ct__law_pick : Value}
    {f__law_gcd : Addr} {od__law_gcd an__law_gcd : Option Addr} {sl__law_gcd : Array (Option Value)} {oc__law_gcd kV__law_gcd dc__law_gcd pm__law_gcd cd__law_gcd ct__law_gcd : Value}
    {f__law_row : Addr} {od__law_row an__law_row : Option Addr} {sl__law_row : Array (Option Value)} {oc__law_row kV__law_row dc__law_row pm__law_row cd__law_row ct__law_row : Value}
    {f__law_step : Addr} {od__law_step an__law_step : Option Addr} {sl__law_step : Array (Option Value)} {oc__law_step kV__law_step dc__law_step pm__law_step cd__law_step ct__law_step : Value}
    {f__law_turn : Addr} {od__law_turn an__law_turn : Option Addr} {sl__law_turn : Array (Option Value)} {oc__law_turn kV__law_turn dc__law_turn pm__law_turn cd__law_turn ct__law_turn : Value}
    {f__law_flow : Addr} {od__law_flow an__law_flow : Option Addr} {sl__law_flow : Array (Option Value)} {oc__law_flow kV__law_flow dc__law_flow pm__law_flow cd__law_flow ct__law_flow : Value}
    {f__law_stream : Addr} {od__law_stream an__law_stream : Option Addr} {sl__law_stream : Array (Option Value)} {oc__law_stream kV__law_stream dc__law_stream pm__law_stream cd__law_stream ct__law_stream : Value}
    {f__law_keeps : Addr} {od__law_keeps an__law_keeps : Option Addr} {sl__law_keeps : Array (Option Value)} {oc__law_keeps kV__law_keeps dc__law_keeps pm__law_keeps cd__law_keeps ct__law_keeps : Value}
    {f__law_all : Addr} {od__law_all an__law_all : Option Addr} {sl__law_all : Array (Option Value)} {oc__law_all kV__law_all dc__law_all pm__law_all cd__law_all ct__law_all : Value}
    {f_parted_1 : Addr} {od_parted_1 an_parted_1 : Option Addr} {sl_parted_1 : Array (Option Value)} {oc_parted_1 kV_parted_1 dc_parted_1 pm_parted_1 cd_parted_1 ct_parted_1 : Value}
    {f_parted_2 : Addr} {od_parted_2 an_parted_2 : Option Addr} {sl_parted_2 : Array (Option Value)} {oc_parted_2 kV_parted_2 dc_parted_2 pm_parted_2 cd_parted_2 ct_parted_2 : Value}
    {f_parted_3 : Addr} {od_parted_3 an_parted_3 : Option Addr} {sl_parted_3 : Array (Option Value)} {oc_parted_3 kV_parted_3 dc_parted_3 pm_parted_3 cd_parted_3 ct_parted_3 : Value}
    {f_parted_4 : Addr} {od_parted_4 an_parted_4 : Option Addr} {sl_parted_4 : Array (Option Value)} {oc_parted_4 kV_parted_4 dc_parted_4 pm_parted_4 cd_parted_4 ct_parted_4 : Value}
    {f_smallest_chain c_smallest_chain P_smallest_chain : Addr} {od_smallest_chain an_smallest_chain : Option Addr} {sl_smallest_chain : Array (Option Value)} {oc_smallest_chain kV_smallest_chain dc_smallest_chain pm_smallest_chain ct_smallest_chain : Value}
    {cc_smallest_chain : Value} {cdd_smallest_chain : Option Addr} {vs_smallest_chain : Array Value} {cs_smallest_chain : Array (Option Value)}
    {f__law_right c__law_right P__law_right : Addr} {od__law_right an__law_right : Option Addr} {sl__law_right : Array (Option Value)} {oc__law_right kV__law_right dc__law_right pm__law_right ct__law_right : Value}
    {cc__law_right : Value} {cdd__law_right : Option Addr} {vs__law_right : Array Value} {cs__law_right : Array (Option Value)}
    {f_law : Addr} {od_law an_law : Option Addr} {sl_law : Array (Option Value)} {oc_law kV_law dc_law pm_law cd_law ct_law : Value}
    {f__law_refused : Addr} {od__law_refused an__law_refused : Option Addr} {sl__law_refused : Array (Option Value)} {oc__law_refused kV__law_refused dc__law_refused pm__law_refused cd__law_refused ct__law_refused : Value}
    (aC : PySem.W.nsIn K mainGlobals "BadArgument" = some (some (.ref C)))
    (xL : K.lookup C = some (excClassObj nm q C Nn bs [.type "ValueError", .type "Exception", .type "BaseException", .type "object"] true sn sub ab col dd m0 m1 m2 m3 m5 "ValueError.__new__"))
    (sa : PySem.W.findIn K (.ref C) "__setattr__" = some (some (.builtin "object.__setattr__")))
    (ga : PySem.W.findIn K (.ref C) "__getattribute__" = some (some (.builtin "BaseException.__getattribute__")))
    (gg : PySem.W.findIn K (.ref C) "__getattr__" = some none)
    (nb : PySem.W.findIn K (.ref C) "name" = some none)
    (iC : PySem.W.findIn K (.ref C) "__init__" = some (some (.ref f1)))
    (t1 : PySem.W.typeIn K (.ref f1) = some (.type "function"))
    (l1 : K.lookup f1 = some ⟨oc1, od1, .func (PySem.W.ksFn "__init__" qn (badArgs ⟨4, 17, 4, 21⟩ ⟨4, 23, 4, 27⟩) (badBody "bad argument: " ⟨5, 8, 5, 13⟩ ⟨5, 8, 5, 15⟩ ⟨5, 8, 5, 24⟩ ⟨5, 25, 5, 41⟩ ⟨5, 44, 5, 48⟩ ⟨5, 25, 5, 48⟩ ⟨5, 8, 5, 49⟩ ⟨5, 8, 5, 49⟩ ⟨6, 8, 6, 12⟩ ⟨6, 8, 6, 17⟩ ⟨6, 20, 6, 24⟩ ⟨6, 8, 6, 24⟩) badScope .none kV1 dc1 pm1 an1 (.ref cda) ct1 cc), sl1⟩)
    (c1 : PySem.W.codeIn K (.ref cda) qn = true)
    (lcd : K.lookup cda = some ⟨ccl, cdd, .fields vs, ccs⟩)
    (hvs : vs[2]? = some (.str file tf))
    (hfi : ((l.prog.main.file : Str) == file) = true)
    (lce : K.lookup cc = some ⟨cl, cld, .cell (some (.ref C)), csl⟩)
    (kC : PySem.W.keepIn K (.ref C) = true)
    (eC : PySem.W.subIn K (.ref C) (.type "BaseException") = some true)
    (tC : PySem.W.typeIn K (.ref C) = some (.type "type"))
    (hC : PySem.W.hasDictIn K C = true)
    (isC : PySem.W.isClsIn K C = true)
    (sC : PySem.W.subIn K (.ref C) (.ref C) = some true)
    (su : PySem.W.ks_superIn K C C "__init__" = some (some (.builtin "ValueError.__init__")))
    (mro : PySem.W.mroIn K C (.ref C) = some true)
    (sV : PySem.W.subIn K (.ref C) (.type "ValueError") = some true)
    (op : PySem.W.nsIn K cStatics "thirdparty.any" = some none)
    (ms : PySem.W.nsIn K mainGlobals "super" = some none)
    (tp : (l.prog.main.scope.names.lookup ("super" : Str)).isSome = false)
    (k_MOST_AMOUNT : PySem.W.nsIn K mainGlobals "MOST_AMOUNT" = some (some (.int 200 tk_MOST_AMOUNT)))
    (k_MOST_CHAIN_ROW : PySem.W.nsIn K mainGlobals "MOST_CHAIN_ROW" = some (some (.int 12 tk_MOST_CHAIN_ROW)))
    (k_MOST_ROW : PySem.W.nsIn K mainGlobals "MOST_ROW" = some (some (.int 24 tk_MOST_ROW)))
    (k_MOST_SHARE : PySem.W.nsIn K mainGlobals "MOST_SHARE" = some (some (.int 5 tk_MOST_SHARE)))
    (k_MOST_STAGE : PySem.W.nsIn K mainGlobals "MOST_STAGE" = some (some (.int 300 tk_MOST_STAGE)))
    (k_MOST_STAGES : PySem.W.nsIn K mainGlobals "MOST_STAGES" = some (some (.int 4 tk_MOST_STAGES)))
    (z_abs : PySem.W.nsIn K mainGlobals "abs" = some none)
    (z_all : PySem.W.nsIn K mainGlobals "all" = some none)
    (z_bool : PySem.W.nsIn K mainGlobals "bool" = some none)
    (z_int : PySem.W.nsIn K mainGlobals "int" = some none)
    (z_isinstance : PySem.W.nsIn K mainGlobals "isinstance" = some none)
    (z_len : PySem.W.nsIn K mainGlobals "len" = some none)
    (z_max : PySem.W.nsIn K mainGlobals "max" = some none)
    (z_min : PySem.W.nsIn K mainGlobals "min" = some none)
    (z_range : PySem.W.nsIn K mainGlobals "range" = some none)
    (z_sum : PySem.W.nsIn K mainGlobals "sum" = some none)
    (z_tuple : PySem.W.nsIn K mainGlobals "tuple" = some none)
    (z_zip : PySem.W.nsIn K mainGlobals "zip" = some none)
    (a_is_integer : PySem.W.nsIn K mainGlobals "is_integer" = some (some (.ref f_is_integer)))
    (l_is_integer : K.lookup f_is_integer = some ⟨oc_is_integer, od_is_integer, .func (PySem.W.fnOf "is_integer" "is_integer" (defArgs s_is_integer) (defBody s_is_integer) (defScope s_is_integer) .none kV_is_integer dc_is_integer pm_is_integer an_is_integer cd_is_integer ct_is_integer), sl_is_integer⟩)
    (c_c_is_integer : PySem.W.codeIn K cd_is_integer "is_integer" = true)
    (k_k_is_integer : PySem.W.keepIn K (.ref f_is_integer) = true)
    (a_need_integer : PySem.W.nsIn K mainGlobals "need_integer" = some (some (.ref f_need_integer)))
    (l_need_integer : K.lookup f_need_integer = some ⟨oc_need_integer, od_need_integer, .func (PySem.W.fnOf "need_integer" "need_integer" (defArgs s_need_integer) (defBody s_need_integer) (defScope s_need_integer) .none kV_need_integer dc_need_integer pm_need_integer an_need_integer cd_need_integer ct_need_integer), sl_need_integer⟩)
    (c_c_need_integer : PySem.W.codeIn K cd_need_integer "need_integer" = true)
    (k_k_need_integer : PySem.W.keepIn K (.ref f_need_integer) = true)
    (a_is_row : PySem.W.nsIn K mainGlobals "is_row" = some (some (.ref f_is_row)))
    (l_is_row : K.lookup f_is_row = some ⟨oc_is_row, od_is_row, .func (PySem.W.fnOf "is_row" "is_row" (defArgs s_is_row) (defBody s_is_row) (defScope s_is_row) .none kV_is_row dc_is_row pm_is_row an_is_row (.ref c_is_row) ct_is_row), sl_is_row⟩)
    (c_c_is_row : PySem.W.codeIn K (.ref c_is_row) "is_row" = true)
    (k_k_is_row : PySem.W.keepIn K (.ref f_is_row) = true)
    (tl_is_row : K.lookup c_is_row = some ⟨cc_is_row, cdd_is_row, .fields vs_is_row, cs_is_row⟩)
    (tv_is_row : vs_is_row[11]? = some (.ref P_is_row))
    (tr_is_row : ((recsOf qq).find? fun e => e.name == ("is_row" : Str)).isSome = true)
    (tn_is_row : K.lookup P_is_row = none)
    (a_need_row : PySem.W.nsIn K mainGlobals "need_row" = some (some (.ref f_need_row)))
    (l_need_row : K.lookup f_need_row = some ⟨oc_need_row, od_need_row, .func (PySem.W.fnOf "need_row" "need_row" (defArgs s_need_row) (defBody s_need_row) (defScope s_need_row) .none kV_need_row dc_need_row pm_need_row an_need_row cd_need_row ct_need_row), sl_need_row⟩)
    (c_c_need_row : PySem.W.codeIn K cd_need_row "need_row" = true)
    (k_k_need_row : PySem.W.keepIn K (.ref f_need_row) = true)
    (a_common : PySem.W.nsIn K mainGlobals "common" = some (some (.ref f_common)))
    (l_common : K.lookup f_common = some ⟨oc_common, od_common, .func (PySem.W.fnOf "common" "common" (defArgs s_common) (defBody s_common) (defScope s_common) .none kV_common dc_common pm_common an_common cd_common ct_common), sl_common⟩)
    (c_c_common : PySem.W.codeIn K cd_common "common" = true)
    (k_k_common : PySem.W.keepIn K (.ref f_common) = true)
    (a_least_common : PySem.W.nsIn K mainGlobals "least_common" = some (some (.ref f_least_common)))
    (l_least_common : K.lookup f_least_common = some ⟨oc_least_common, od_least_common, .func (PySem.W.fnOf "least_common" "least_common" (defArgs s_least_common) (defBody s_least_common) (defScope s_least_common) .none kV_least_common dc_least_common pm_least_common an_least_common cd_least_common ct_least_common), sl_least_common⟩)
    (c_c_least_common : PySem.W.codeIn K cd_least_common "least_common" = true)
    (k_k_least_common : PySem.W.keepIn K (.ref f_least_common) = true)
    (a_amount_at : PySem.W.nsIn K mainGlobals "amount_at" = some (some (.ref f_amount_at)))
    (l_amount_at : K.lookup f_amount_at = some ⟨oc_amount_at, od_amount_at, .func (PySem.W.fnOf "amount_at" "amount_at" (defArgs s_amount_at) (defBody s_amount_at) (defScope s_amount_at) .none kV_amount_at dc_amount_at pm_amount_at an_amount_at cd_amount_at ct_amount_at), sl_amount_at⟩)
    (c_c_amount_at : PySem.W.codeIn K cd_amount_at "amount_at" = true)
    (k_k_amount_at : PySem.W.keepIn K (.ref f_amount_at) = true)
    (a_after : PySem.W.nsIn K mainGlobals "after" = some (some (.ref f_after)))
    (l_after : K.lookup f_after = some ⟨oc_after, od_after, .func (PySem.W.fnOf "after" "after" (defArgs s_after) (defBody s_after) (defScope s_after) .none kV_after dc_after pm_after an_after cd_after ct_after), sl_after⟩)
    (c_c_after : PySem.W.codeIn K cd_after "after" = true)
    (k_k_after : PySem.W.keepIn K (.ref f_after) = true)
    (a_is_stage : PySem.W.nsIn K mainGlobals "is_stage" = some (some (.ref f_is_stage)))
    (l_is_stage : K.lookup f_is_stage = some ⟨oc_is_stage, od_is_stage, .func (PySem.W.fnOf "is_stage" "is_stage" (defArgs s_is_stage) (defBody s_is_stage) (defScope s_is_stage) .none kV_is_stage dc_is_stage pm_is_stage an_is_stage (.ref c_is_stage) ct_is_stage), sl_is_stage⟩)
    (c_c_is_stage : PySem.W.codeIn K (.ref c_is_stage) "is_stage" = true)
    (k_k_is_stage : PySem.W.keepIn K (.ref f_is_stage) = true)
    (tl_is_stage : K.lookup c_is_stage = some ⟨cc_is_stage, cdd_is_stage, .fields vs_is_stage, cs_is_stage⟩)
    (tv_is_stage : vs_is_stage[11]? = some (.ref P_is_stage))
    (tr_is_stage : ((recsOf qq).find? fun e => e.name == ("is_stage" : Str)).isSome = true)
    (tn_is_stage : K.lookup P_is_stage = none)
    (a_is_chain : PySem.W.nsIn K mainGlobals "is_chain" = some (some (.ref f_is_chain)))
    (l_is_chain : K.lookup f_is_chain = some ⟨oc_is_chain, od_is_chain, .func (PySem.W.fnOf "is_chain" "is_chain" (defArgs s_is_chain) (defBody s_is_chain) (defScope s_is_chain) .none kV_is_chain dc_is_chain pm_is_chain an_is_chain (.ref c_is_chain) ct_is_chain), sl_is_chain⟩)
    (c_c_is_chain : PySem.W.codeIn K (.ref c_is_chain) "is_chain" = true)
    (k_k_is_chain : PySem.W.keepIn K (.ref f_is_chain) = true)
    (tl_is_chain : K.lookup c_is_chain = some ⟨cc_is_chain, cdd_is_chain, .fields vs_is_chain, cs_is_chain⟩)
    (tv_is_chain : vs_is_chain[11]? = some (.ref P_is_chain))
    (tr_is_chain : ((recsOf qq).find? fun e => e.name == ("is_chain" : Str)).isSome = true)
    (tn_is_chain : K.lookup P_is_chain = none)
    (a_are_needs : PySem.W.nsIn K mainGlobals "are_needs" = some (some (.ref f_are_needs)))
    (l_are_needs : K.lookup f_are_needs = some ⟨oc_are_needs, od_are_needs, .func (PySem.W.fnOf "are_needs" "are_needs" (defArgs s_are_needs) (defBody s_are_needs) (defScope s_are_needs) .none kV_are_needs dc_are_needs pm_are_needs an_are_needs (.ref c_are_needs) ct_are_needs), sl_are_needs⟩)
    (c_c_are_needs : PySem.W.codeIn K (.ref c_are_needs) "are_needs" = true)
    (k_k_are_needs : PySem.W.keepIn K (.ref f_are_needs) = true)
    (tl_are_needs : K.lookup c_are_needs = some ⟨cc_are_needs, cdd_are_needs, .fields vs_are_needs, cs_are_needs⟩)
    (tv_are_needs : vs_are_needs[11]? = some (.ref P_are_needs))
    (tr_are_needs : ((recsOf qq).find? fun e => e.name == ("are_needs" : Str)).isSome = true)
    (tn_are_needs : K.lookup P_are_needs = none)
    (a_need_chain : PySem.W.nsIn K mainGlobals "need_chain" = some (some (.ref f_need_chain)))
    (l_need_chain : K.lookup f_need_chain = some ⟨oc_need_chain, od_need_chain, .func (PySem.W.fnOf "need_chain" "need_chain" (defArgs s_need_chain) (defBody s_need_chain) (defScope s_need_chain) .none kV_need_chain dc_need_chain pm_need_chain an_need_chain cd_need_chain ct_need_chain), sl_need_chain⟩)
    (c_c_need_chain : PySem.W.codeIn K cd_need_chain "need_chain" = true)
    (k_k_need_chain : PySem.W.keepIn K (.ref f_need_chain) = true)
    (a_step_of : PySem.W.nsIn K mainGlobals "step_of" = some (some (.ref f_step_of)))
    (l_step_of : K.lookup f_step_of = some ⟨oc_step_of, od_step_of, .func (PySem.W.fnOf "step_of" "step_of" (defArgs s_step_of) (defBody s_step_of) (defScope s_step_of) .none kV_step_of dc_step_of pm_step_of an_step_of cd_step_of ct_step_of), sl_step_of⟩)
    (c_c_step_of : PySem.W.codeIn K cd_step_of "step_of" = true)
    (k_k_step_of : PySem.W.keepIn K (.ref f_step_of) = true)
    (a_chain_turn : PySem.W.nsIn K mainGlobals "chain_turn" = some (some (.ref f_chain_turn)))
    (l_chain_turn : K.lookup f_chain_turn = some ⟨oc_chain_turn, od_chain_turn, .func (PySem.W.fnOf "chain_turn" "chain_turn" (defArgs s_chain_turn) (defBody s_chain_turn) (defScope s_chain_turn) .none kV_chain_turn dc_chain_turn pm_chain_turn an_chain_turn cd_chain_turn ct_chain_turn), sl_chain_turn⟩)
    (c_c_chain_turn : PySem.W.codeIn K cd_chain_turn "chain_turn" = true)
    (k_k_chain_turn : PySem.W.keepIn K (.ref f_chain_turn) = true)
    (a_chain_settled : PySem.W.nsIn K mainGlobals "chain_settled" = some (some (.ref f_chain_settled)))
    (l_chain_settled : K.lookup f_chain_settled = some ⟨oc_chain_settled, od_chain_settled, .func (PySem.W.fnOf "chain_settled" "chain_settled" (defArgs s_chain_settled) (defBody s_chain_settled) (defScope s_chain_settled) .none kV_chain_settled dc_chain_settled pm_chain_settled an_chain_settled cd_chain_settled ct_chain_settled), sl_chain_settled⟩)
    (c_c_chain_settled : PySem.W.codeIn K cd_chain_settled "chain_settled" = true)
    (k_k_chain_settled : PySem.W.keepIn K (.ref f_chain_settled) = true)
    (a_is_kept : PySem.W.nsIn K mainGlobals "is_kept" = some (some (.ref f_is_kept)))
    (l_is_kept : K.lookup f_is_kept = some ⟨oc_is_kept, od_is_kept, .func (PySem.W.fnOf "is_kept" "is_kept" (defArgs s_is_kept) (defBody s_is_kept) (defScope s_is_kept) .none kV_is_kept dc_is_kept pm_is_kept an_is_kept cd_is_kept ct_is_kept), sl_is_kept⟩)
    (c_c_is_kept : PySem.W.codeIn K cd_is_kept "is_kept" = true)
    (k_k_is_kept : PySem.W.keepIn K (.ref f_is_kept) = true)
    (a_full_chain : PySem.W.nsIn K mainGlobals "full_chain" = some (some (.ref f_full_chain)))
    (l_full_chain : K.lookup f_full_chain = some ⟨oc_full_chain, od_full_chain, .func (PySem.W.fnOf "full_chain" "full_chain" (defArgs s_full_chain) (defBody s_full_chain) (defScope s_full_chain) .none kV_full_chain dc_full_chain pm_full_chain an_full_chain cd_full_chain ct_full_chain), sl_full_chain⟩)
    (c_c_full_chain : PySem.W.codeIn K cd_full_chain "full_chain" = true)
    (k_k_full_chain : PySem.W.keepIn K (.ref f_full_chain) = true)
    (a__law_dice : PySem.W.nsIn K mainGlobals "_law_dice" = some (some (.ref f__law_dice)))
    (l__law_dice : K.lookup f__law_dice = some ⟨oc__law_dice, od__law_dice, .func (PySem.W.fnOf "_law_dice" "_law_dice" (defArgs s__law_dice) (defBody s__law_dice) (defScope s__law_dice) .none kV__law_dice dc__law_dice pm__law_dice an__law_dice cd__law_dice ct__law_dice), sl__law_dice⟩)
    (c_c__law_dice : PySem.W.codeIn K cd__law_dice "_law_dice" = true)
    (k_k__law_dice : PySem.W.keepIn K (.ref f__law_dice) = true)
    (a__law_roll : PySem.W.nsIn K mainGlobals "_law_roll" = some (some (.ref f__law_roll)))
    (l__law_roll : K.lookup f__law_roll = some ⟨oc__law_roll, od__law_roll, .func (PySem.W.fnOf "_law_roll" "_law_roll" (defArgs s__law_roll) (defBody s__law_roll) (defScope s__law_roll) .none kV__law_roll dc__law_roll pm__law_roll an__law_roll cd__law_roll ct__law_roll), sl__law_roll⟩)
    (c_c__law_roll : PySem.W.codeIn K cd__law_roll "_law_roll" = true)
    (k_k__law_roll : PySem.W.keepIn K (.ref f__law_roll) = true)
    (a__law_pick : PySem.W.nsIn K mainGlobals "_law_pick" = some (some (.ref f__law_pick)))
    (l__law_pick : K.lookup f__law_pick = some ⟨oc__law_pick, od__law_pick, .func (PySem.W.fnOf "_law_pick" "_law_pick" (defArgs s__law_pick) (defBody s__law_pick) (defScope s__law_pick) .none kV__law_pick dc__law_pick pm__law_pick an__law_pick cd__law_pick ct__law_pick), sl__law_pick⟩)
    (c_c__law_pick : PySem.W.codeIn K cd__law_pick "_law_pick" = true)
    (k_k__law_pick : PySem.W.keepIn K (.ref f__law_pick) = true)
    (a__law_gcd : PySem.W.nsIn K mainGlobals "_law_gcd" = some (some (.ref f__law_gcd)))
    (l__law_gcd : K.lookup f__law_gcd = some ⟨oc__law_gcd, od__law_gcd, .func (PySem.W.fnOf "_law_gcd" "_law_gcd" (defArgs s__law_gcd) (defBody s__law_gcd) (defScope s__law_gcd) .none kV__law_gcd dc__law_gcd pm__law_gcd an__law_gcd cd__law_gcd ct__law_gcd), sl__law_gcd⟩)
    (c_c__law_gcd : PySem.W.codeIn K cd__law_gcd "_law_gcd" = true)
    (k_k__law_gcd : PySem.W.keepIn K (.ref f__law_gcd) = true)
    (a__law_row : PySem.W.nsIn K mainGlobals "_law_row" = some (some (.ref f__law_row)))
    (l__law_row : K.lookup f__law_row = some ⟨oc__law_row, od__law_row, .func (PySem.W.fnOf "_law_row" "_law_row" (defArgs s__law_row) (defBody s__law_row) (defScope s__law_row) .none kV__law_row dc__law_row pm__law_row an__law_row cd__law_row ct__law_row), sl__law_row⟩)
    (c_c__law_row : PySem.W.codeIn K cd__law_row "_law_row" = true)
    (k_k__law_row : PySem.W.keepIn K (.ref f__law_row) = true)
    (a__law_step : PySem.W.nsIn K mainGlobals "_law_step" = some (some (.ref f__law_step)))
    (l__law_step : K.lookup f__law_step = some ⟨oc__law_step, od__law_step, .func (PySem.W.fnOf "_law_step" "_law_step" (defArgs s__law_step) (defBody s__law_step) (defScope s__law_step) .none kV__law_step dc__law_step pm__law_step an__law_step cd__law_step ct__law_step), sl__law_step⟩)
    (c_c__law_step : PySem.W.codeIn K cd__law_step "_law_step" = true)
    (k_k__law_step : PySem.W.keepIn K (.ref f__law_step) = true)
    (a__law_turn : PySem.W.nsIn K mainGlobals "_law_turn" = some (some (.ref f__law_turn)))
    (l__law_turn : K.lookup f__law_turn = some ⟨oc__law_turn, od__law_turn, .func (PySem.W.fnOf "_law_turn" "_law_turn" (defArgs s__law_turn) (defBody s__law_turn) (defScope s__law_turn) .none kV__law_turn dc__law_turn pm__law_turn an__law_turn cd__law_turn ct__law_turn), sl__law_turn⟩)
    (c_c__law_turn : PySem.W.codeIn K cd__law_turn "_law_turn" = true)
    (k_k__law_turn : PySem.W.keepIn K (.ref f__law_turn) = true)
    (a__law_flow : PySem.W.nsIn K mainGlobals "_law_flow" = some (some (.ref f__law_flow)))
    (l__law_flow : K.lookup f__law_flow = some ⟨oc__law_flow, od__law_flow, .func (PySem.W.fnOf "_law_flow" "_law_flow" (defArgs s__law_flow) (defBody s__law_flow) (defScope s__law_flow) .none kV__law_flow dc__law_flow pm__law_flow an__law_flow cd__law_flow ct__law_flow), sl__law_flow⟩)
    (c_c__law_flow : PySem.W.codeIn K cd__law_flow "_law_flow" = true)
    (k_k__law_flow : PySem.W.keepIn K (.ref f__law_flow) = true)
    (a__law_stream : PySem.W.nsIn K mainGlobals "_law_stream" = some (some (.ref f__law_stream)))
    (l__law_stream : K.lookup f__law_stream = some ⟨oc__law_stream, od__law_stream, .func (PySem.W.fnOf "_law_stream" "_law_stream" (defArgs s__law_stream) (defBody s__law_stream) (defScope s__law_stream) .none kV__law_stream dc__law_stream pm__law_stream an__law_stream cd__law_stream ct__law_stream), sl__law_stream⟩)
    (c_c__law_stream : PySem.W.codeIn K cd__law_stream "_law_stream" = true)
    (k_k__law_stream : PySem.W.keepIn K (.ref f__law_stream) = true)
    (a__law_keeps : PySem.W.nsIn K mainGlobals "_law_keeps" = some (some (.ref f__law_keeps)))
    (l__law_keeps : K.lookup f__law_keeps = some ⟨oc__law_keeps, od__law_keeps, .func (PySem.W.fnOf "_law_keeps" "_law_keeps" (defArgs s__law_keeps) (defBody s__law_keeps) (defScope s__law_keeps) .none kV__law_keeps dc__law_keeps pm__law_keeps an__law_keeps cd__law_keeps ct__law_keeps), sl__law_keeps⟩)
    (c_c__law_keeps : PySem.W.codeIn K cd__law_keeps "_law_keeps" = true)
    (k_k__law_keeps : PySem.W.keepIn K (.ref f__law_keeps) = true)
    (a__law_all : PySem.W.nsIn K mainGlobals "_law_all" = some (some (.ref f__law_all)))
    (l__law_all : K.lookup f__law_all = some ⟨oc__law_all, od__law_all, .func (PySem.W.fnOf "_law_all" "_law_all" (defArgs s__law_all) (defBody s__law_all) (defScope s__law_all) .none kV__law_all dc__law_all pm__law_all an__law_all cd__law_all ct__law_all), sl__law_all⟩)
    (c_c__law_all : PySem.W.codeIn K cd__law_all "_law_all" = true)
    (k_k__law_all : PySem.W.keepIn K (.ref f__law_all) = true)
    (a_parted_1 : PySem.W.nsIn K mainGlobals "parted" = some (some (.ref f_parted_1)))
    (l_parted_1 : K.lookup f_parted_1 = some ⟨oc_parted_1, od_parted_1, .func (PySem.W.fnOf "parted" "parted" (defArgs s_parted_1) (defBody s_parted_1) (defScope s_parted_1) .none kV_parted_1 dc_parted_1 pm_parted_1 an_parted_1 cd_parted_1 ct_parted_1), sl_parted_1⟩)
    (c_c_parted_1 : PySem.W.codeIn K cd_parted_1 "parted" = true)
    (k_k_parted_1 : PySem.W.keepIn K (.ref f_parted_1) = true)
    (a_parted_2 : PySem.W.nsIn K mainGlobals "parted" = some (some (.ref f_parted_2)))
    (l_parted_2 : K.lookup f_parted_2 = some ⟨oc_parted_2, od_parted_2, .func (PySem.W.fnOf "parted" "parted" (defArgs s_parted_2) (defBody s_parted_2) (defScope s_parted_2) .none kV_parted_2 dc_parted_2 pm_parted_2 an_parted_2 cd_parted_2 ct_parted_2), sl_parted_2⟩)
    (c_c_parted_2 : PySem.W.codeIn K cd_parted_2 "parted" = true)
    (k_k_parted_2 : PySem.W.keepIn K (.ref f_parted_2) = true)
    (a_parted_3 : PySem.W.nsIn K mainGlobals "parted" = some (some (.ref f_parted_3)))
    (l_parted_3 : K.lookup f_parted_3 = some ⟨oc_parted_3, od_parted_3, .func (PySem.W.fnOf "parted" "parted" (defArgs s_parted_3) (defBody s_parted_3) (defScope s_parted_3) .none kV_parted_3 dc_parted_3 pm_parted_3 an_parted_3 cd_parted_3 ct_parted_3), sl_parted_3⟩)
    (c_c_parted_3 : PySem.W.codeIn K cd_parted_3 "parted" = true)
    (k_k_parted_3 : PySem.W.keepIn K (.ref f_parted_3) = true)
    (a_parted_4 : PySem.W.nsIn K mainGlobals "parted" = some (some (.ref f_parted_4)))
    (l_parted_4 : K.lookup f_parted_4 = some ⟨oc_parted_4, od_parted_4, .func (PySem.W.fnOf "parted" "parted" (defArgs s_parted_4) (defBody s_parted_4) (defScope s_parted_4) .none kV_parted_4 dc_parted_4 pm_parted_4 an_parted_4 cd_parted_4 ct_parted_4), sl_parted_4⟩)
    (c_c_parted_4 : PySem.W.codeIn K cd_parted_4 "parted" = true)
    (k_k_parted_4 : PySem.W.keepIn K (.ref f_parted_4) = true)
    (a_smallest_chain : PySem.W.nsIn K mainGlobals "smallest_chain" = some (some (.ref f_smallest_chain)))
    (l_smallest_chain : K.lookup f_smallest_chain = some ⟨oc_smallest_chain, od_smallest_chain, .func (PySem.W.fnOf "smallest_chain" "smallest_chain" (defArgs s_smallest_chain) (defBody s_smallest_chain) (defScope s_smallest_chain) .none kV_smallest_chain dc_smallest_chain pm_smallest_chain an_smallest_chain (.ref c_smallest_chain) ct_smallest_chain), sl_smallest_chain⟩)
    (c_c_smallest_chain : PySem.W.codeIn K (.ref c_smallest_chain) "smallest_chain" = true)
    (k_k_smallest_chain : PySem.W.keepIn K (.ref f_smallest_chain) = true)
    (tl_smallest_chain : K.lookup c_smallest_chain = some ⟨cc_smallest_chain, cdd_smallest_chain, .fields vs_smallest_chain, cs_smallest_chain⟩)
    (tv_smallest_chain : vs_smallest_chain[11]? = some (.ref P_smallest_chain))
    (tr_smallest_chain : ((recsOf qq).find? fun e => e.name == ("smallest_chain" : Str)).isSome = true)
    (tn_smallest_chain : K.lookup P_smallest_chain = none)
    (a__law_right : PySem.W.nsIn K mainGlobals "_law_right" = some (some (.ref f__law_right)))
    (l__law_right : K.lookup f__law_right = some ⟨oc__law_right, od__law_right, .func (PySem.W.fnOf "_law_right" "_law_right" (defArgs s__law_right) (defBody s__law_right) (defScope s__law_right) .none kV__law_right dc__law_right pm__law_right an__law_right (.ref c__law_right) ct__law_right), sl__law_right⟩)
    (c_c__law_right : PySem.W.codeIn K (.ref c__law_right) "_law_right" = true)
    (k_k__law_right : PySem.W.keepIn K (.ref f__law_right) = true)
    (tl__law_right : K.lookup c__law_right = some ⟨cc__law_right, cdd__law_right, .fields vs__law_right, cs__law_right⟩)
    (tv__law_right : vs__law_right[11]? = some (.ref P__law_right))
    (tr__law_right : ((recsOf qq).find? fun e => e.name == ("_law_right" : Str)).isSome = true)
    (tn__law_right : K.lookup P__law_right = none)
    (a_law : PySem.W.nsIn K mainGlobals "law" = some (some (.ref f_law)))
    (l_law : K.lookup f_law = some ⟨oc_law, od_law, .func (PySem.W.fnOf "law" "law" (defArgs s_law) (defBody s_law) (defScope s_law) .none kV_law dc_law pm_law an_law cd_law ct_law), sl_law⟩)
    (c_c_law : PySem.W.codeIn K cd_law "law" = true)
    (k_k_law : PySem.W.keepIn K (.ref f_law) = true)
    (a__law_refused : PySem.W.nsIn K mainGlobals "_law_refused" = some (some (.ref f__law_refused)))
    (l__law_refused : K.lookup f__law_refused = some ⟨oc__law_refused, od__law_refused, .func (PySem.W.fnOf "_law_refused" "_law_refused" (defArgs s__law_refused) (defBody s__law_refused) (defScope s__law_refused) .none kV__law_refused dc__law_refused pm__law_refused an__law_refused cd__law_refused ct__law_refused), sl__law_refused⟩)
    (c_c__law_refused : PySem.W.codeIn K cd__law_refused "_law_refused" = true)
    (k_k__law_refused : PySem.W.keepIn K (.ref f__law_refused) = true)
    (ne_is_row : P_is_row ≠ P__law_right)
    (ne_is_stage : P_is_stage ≠ P__law_right)
    (ne_is_chain : P_is_chain ≠ P__law_right)
    (ne_are_needs : P_are_needs ≠ P__law_right)
    (ne_smallest_chain : P_smallest_chain ≠ P__law_right)
    : LamX.LawAtS l w K (L2.CX l.prog w) 12 63 "script" mg fa h := by
  have e0 := hfa.symm.trans (PySem.W.mg_of X G a_law)
  cases e0
  have bad : BadC K l.prog mg C f1 := { ox := ⟨⟨nm, q, Nn, bs, _, sn, sub, ab, col, dd, m0, m1, m2, m3, m5, xL, by decide +kernel⟩, sa, eC, tC, kC⟩, fi := iC, ti := t1, fn := ⟨_, _, _, _, _, _, _, _, _, _, _, _, _, _, _, _, _, _, _, _, _, _, _, cda, cc, qn, by decide, by decide, l1, c1, ⟨ccl, cdd, vs, ccs, file, tf, lcd, hvs, hfi⟩, cl, cld, csl, lce⟩, su := su, sub := mro, sV := sV, op := op, nm := nb, ms := PySem.W.mg_none_of X G ms, top := tp }
  have T : Txt l.prog K mg C f1 := { bad := bad, mB := PySem.W.mg_of X G aC, k_MOST_AMOUNT := ⟨_, PySem.W.mg_of X G k_MOST_AMOUNT⟩, k_MOST_CHAIN_ROW := ⟨_, PySem.W.mg_of X G k_MOST_CHAIN_ROW⟩, k_MOST_ROW := ⟨_, PySem.W.mg_of X G k_MOST_ROW⟩, k_MOST_SHARE := ⟨_, PySem.W.mg_of X G k_MOST_SHARE⟩, k_MOST_STAGE := ⟨_, PySem.W.mg_of X G k_MOST_STAGE⟩, k_MOST_STAGES := ⟨_, PySem.W.mg_of X G k_MOST_STAGES⟩, z_abs := PySem.W.mg_none_of X G z_abs, z_all := PySem.W.mg_none_of X G z_all, z_bool := PySem.W.mg_none_of X G z_bool, z_int := PySem.W.mg_none_of X G z_int, z_isinstance := PySem.W.mg_none_of X G z_isinstance, z_len := PySem.W.mg_none_of X G z_len, z_max := PySem.W.mg_none_of X G z_max, z_min := PySem.W.mg_none_of X G z_min, z_range := PySem.W.mg_none_of X G z_range, z_sum := PySem.W.mg_none_of X G z_sum, z_tuple := PySem.W.mg_none_of X G z_tuple, z_zip := PySem.W.mg_none_of X G z_zip }
  have U_is_integer := fun_mk (st := s_is_integer) l_is_integer c_c_is_integer k_k_is_integer
  have U_need_integer := fun_mk (st := s_need_integer) l_need_integer c_c_need_integer k_k_need_integer
  have U_is_row := funC_mk (st := s_is_row) l_is_row c_c_is_row k_k_is_row
  have U_need_row := fun_mk (st := s_need_row) l_need_row c_c_need_row k_k_need_row
  have U_common := fun_mk (st := s_common) l_common c_c_common k_k_common
  have U_least_common := fun_mk (st := s_least_common) l_least_common c_c_least_common k_k_least_common
  have U_amount_at := fun_mk (st := s_amount_at) l_amount_at c_c_amount_at k_k_amount_at
  have U_after := fun_mk (st := s_after) l_after c_c_after k_k_after
  have U_is_stage := funC_mk (st := s_is_stage) l_is_stage c_c_is_stage k_k_is_stage
  have U_is_chain := funC_mk (st := s_is_chain) l_is_chain c_c_is_chain k_k_is_chain
  have U_are_needs := funC_mk (st := s_are_needs) l_are_needs c_c_are_needs k_k_are_needs
  have U_need_chain := fun_mk (st := s_need_chain) l_need_chain c_c_need_chain k_k_need_chain
  have U_step_of := fun_mk (st := s_step_of) l_step_of c_c_step_of k_k_step_of
  have U_chain_turn := fun_mk (st := s_chain_turn) l_chain_turn c_c_chain_turn k_k_chain_turn
  have U_chain_settled := fun_mk (st := s_chain_settled) l_chain_settled c_c_chain_settled k_k_chain_settled
  have U_is_kept := fun_mk (st := s_is_kept) l_is_kept c_c_is_kept k_k_is_kept
  have U_full_chain := fun_mk (st := s_full_chain) l_full_chain c_c_full_chain k_k_full_chain
  have U__law_dice := fun_mk (st := s__law_dice) l__law_dice c_c__law_dice k_k__law_dice
  have U__law_roll := fun_mk (st := s__law_roll) l__law_roll c_c__law_roll k_k__law_roll
  have U__law_pick := fun_mk (st := s__law_pick) l__law_pick c_c__law_pick k_k__law_pick
  have U__law_gcd := fun_mk (st := s__law_gcd) l__law_gcd c_c__law_gcd k_k__law_gcd
  have U__law_row := fun_mk (st := s__law_row) l__law_row c_c__law_row k_k__law_row
  have U__law_step := fun_mk (st := s__law_step) l__law_step c_c__law_step k_k__law_step
  have U__law_turn := fun_mk (st := s__law_turn) l__law_turn c_c__law_turn k_k__law_turn
  have U__law_flow := fun_mk (st := s__law_flow) l__law_flow c_c__law_flow k_k__law_flow
  have U__law_stream := fun_mk (st := s__law_stream) l__law_stream c_c__law_stream k_k__law_stream
  have U__law_keeps := fun_mk (st := s__law_keeps) l__law_keeps c_c__law_keeps k_k__law_keeps
  have U__law_all := fun_mk (st := s__law_all) l__law_all c_c__law_all k_k__law_all
  have U_parted_1 := fun_mk (st := s_parted_1) l_parted_1 c_c_parted_1 k_k_parted_1
  have U_parted_2 := fun_mk (st := s_parted_2) l_parted_2 c_c_parted_2 k_k_parted_2
  have U_parted_3 := fun_mk (st := s_parted_3) l_parted_3 c_c_parted_3 k_k_parted_3
  have U_parted_4 := fun_mk (st := s_parted_4) l_parted_4 c_c_parted_4 k_k_parted_4
  have U_smallest_chain := funC_mk (st := s_smallest_chain) l_smallest_chain c_c_smallest_chain k_k_smallest_chain
  have U__law_right := funC_mk (st := s__law_right) l__law_right c_c__law_right k_k__law_right
  have U_law := fun_mk (st := s_law) l_law c_c_law k_k_law
  have U__law_refused := fun_mk (st := s__law_refused) l__law_refused c_c__law_refused k_k__law_refused
  have tt_is_row := tb "is_row" c_is_row P_is_row tr_is_row (tabIn_of a_is_row l_is_row rfl tl_is_row tv_is_row)
  have tt_is_stage := tb "is_stage" c_is_stage P_is_stage tr_is_stage (tabIn_of a_is_stage l_is_stage rfl tl_is_stage tv_is_stage)
  have tt_is_chain := tb "is_chain" c_is_chain P_is_chain tr_is_chain (tabIn_of a_is_chain l_is_chain rfl tl_is_chain tv_is_chain)
  have tt_are_needs := tb "are_needs" c_are_needs P_are_needs tr_are_needs (tabIn_of a_are_needs l_are_needs rfl tl_are_needs tv_are_needs)
  have tt_smallest_chain := tb "smallest_chain" c_smallest_chain P_smallest_chain tr_smallest_chain (tabIn_of a_smallest_chain l_smallest_chain rfl tl_smallest_chain tv_smallest_chain)
  have tt__law_right := tb "_law_right" c__law_right P__law_right tr__law_right (tabIn_of a__law_right l__law_right rfl tl__law_right tv__law_right)
  have b_is_integer := U_is_integer.binds (ps := ["value"]) fun _ _ _ _ _ _ us hl => match us, hl with | [_], _ => rfl
  have b_need_integer := U_need_integer.binds (ps := ["value", "name", "least", "most"]) fun _ _ _ _ _ _ us hl => match us, hl with | [_, _, _, _], _ => rfl
  have b_is_row := U_is_row.fun.binds (ps := ["value"]) fun _ _ _ _ _ _ us hl => match us, hl with | [_], _ => rfl
  have b_need_row := U_need_row.binds (ps := ["value", "name"]) fun _ _ _ _ _ _ us hl => match us, hl with | [_, _], _ => rfl
  have b_common := U_common.binds (ps := ["one", "other"]) fun _ _ _ _ _ _ us hl => match us, hl with | [_, _], _ => rfl
  have b_least_common := U_least_common.binds (ps := ["one", "other"]) fun _ _ _ _ _ _ us hl => match us, hl with | [_, _], _ => rfl
  have b_amount_at := U_amount_at.binds (ps := ["row", "step"]) fun _ _ _ _ _ _ us hl => match us, hl with | [_, _], _ => rfl
  have b_after := U_after.binds (ps := ["size", "level", "rain", "need"]) fun _ _ _ _ _ _ us hl => match us, hl with | [_, _, _, _], _ => rfl
  have b_is_stage := U_is_stage.fun.binds (ps := ["value"]) fun _ _ _ _ _ _ us hl => match us, hl with | [_], _ => rfl
  have b_is_chain := U_is_chain.fun.binds (ps := ["value"]) fun _ _ _ _ _ _ us hl => match us, hl with | [_], _ => rfl
  have b_are_needs := U_are_needs.fun.binds (ps := ["value", "many"]) fun _ _ _ _ _ _ us hl => match us, hl with | [_, _], _ => rfl
  have b_need_chain := U_need_chain.binds (ps := ["chain", "rains", "needs"]) fun _ _ _ _ _ _ us hl => match us, hl with | [_, _, _], _ => rfl
  have b_step_of := U_step_of.binds (ps := ["chain", "levels", "rain", "needs", "step"]) fun _ _ _ _ _ _ us hl => match us, hl with | [_, _, _, _, _], _ => rfl
  have b_chain_turn := U_chain_turn.binds (ps := ["rains", "needs"]) fun _ _ _ _ _ _ us hl => match us, hl with | [_, _], _ => rfl
  have b_chain_settled := U_chain_settled.binds (ps := ["chain", "rains", "needs"]) fun _ _ _ _ _ _ us hl => match us, hl with | [_, _, _], _ => rfl
  have b_is_kept := U_is_kept.binds (ps := ["chain", "rains", "needs"]) fun _ _ _ _ _ _ us hl => match us, hl with | [_, _, _], _ => rfl
  have b_full_chain := U_full_chain.binds (ps := ["sizes", "shares"]) fun _ _ _ _ _ _ us hl => match us, hl with | [_, _], _ => rfl
  have b__law_dice := U__law_dice.binds (ps := ["script", "spot"]) fun _ _ _ _ _ _ us hl => match us, hl with | [_, _], _ => rfl
  have b__law_roll := U__law_roll.binds (ps := ["dice", "many"]) fun _ _ _ _ _ _ us hl => match us, hl with | [_, _], _ => rfl
  have b__law_pick := U__law_pick.binds (ps := ["dice", "things"]) fun _ _ _ _ _ _ us hl => match us, hl with | [_, _], _ => rfl
  have b__law_gcd := U__law_gcd.binds (ps := ["one", "other"]) fun _ _ _ _ _ _ us hl => match us, hl with | [_, _], _ => rfl
  have b__law_row := U__law_row.binds (ps := ["dice", "size", "most"]) fun _ _ _ _ _ _ us hl => match us, hl with | [_, _, _], _ => rfl
  have b__law_step := U__law_step.binds (ps := ["size", "level", "rain", "need"]) fun _ _ _ _ _ _ us hl => match us, hl with | [_, _, _, _], _ => rfl
  have b__law_turn := U__law_turn.binds (ps := ["one", "other"]) fun _ _ _ _ _ _ us hl => match us, hl with | [_, _], _ => rfl
  have b__law_flow := U__law_flow.binds (ps := ["chain", "levels", "rain", "needs", "step"]) fun _ _ _ _ _ _ us hl => match us, hl with | [_, _, _, _, _], _ => rfl
  have b__law_stream := U__law_stream.binds (ps := ["chain", "rains", "needs"]) fun _ _ _ _ _ _ us hl => match us, hl with | [_, _, _], _ => rfl
  have b__law_keeps := U__law_keeps.binds (ps := ["sizes", "shares", "rains", "needs"]) fun _ _ _ _ _ _ us hl => match us, hl with | [_, _, _, _], _ => rfl
  have b__law_all := U__law_all.binds (ps := ["many", "most"]) fun _ _ _ _ _ _ us hl => match us, hl with | [_, _], _ => rfl
  have b_parted_1 := U_parted_1.binds (ps := ["whole", "many"]) fun _ _ _ _ _ _ us hl => match us, hl with | [_, _], _ => rfl
  have b_parted_2 := U_parted_2.binds (ps := ["whole", "many"]) fun _ _ _ _ _ _ us hl => match us, hl with | [_, _], _ => rfl
  have b_parted_3 := U_parted_3.binds (ps := ["whole", "many"]) fun _ _ _ _ _ _ us hl => match us, hl with | [_, _], _ => rfl
  have b_parted_4 := U_parted_4.binds (ps := ["whole", "many"]) fun _ _ _ _ _ _ us hl => match us, hl with | [_, _], _ => rfl
  have b_smallest_chain := U_smallest_chain.fun.binds (ps := ["shares", "rains", "needs", "most"]) fun _ _ _ _ _ _ us hl => match us, hl with | [_, _, _, _], _ => rfl
  have b__law_right := U__law_right.fun.binds (ps := ["dice"]) fun _ _ _ _ _ _ us hl => match us, hl with | [_], _ => rfl
  have b_law := U_law.binds (ps := ["script"]) fun _ _ _ _ _ _ us hl => match us, hl with | [_], _ => rfl
  have b__law_refused := U__law_refused.binds (ps := ["call"]) fun _ _ _ _ _ _ us hl => match us, hl with | [_], _ => rfl
  refine lawAt_dl (G := F_law) ⟨K, [(P_is_row, none), (P_is_stage, none), (P_is_chain, none), (P_are_needs, none), (P_smallest_chain, none), (P__law_right, some (("_law_right" : Str) ++ ".<locals>." ++ "<lambda>"))], fun j => if j = 0 then some C else none⟩ [(c_is_row, P_is_row), (c_is_stage, P_is_stage), (c_is_chain, P_is_chain), (c_are_needs, P_are_needs), (c_smallest_chain, P_smallest_chain), (c__law_right, P__law_right)] rfl ?_ ?_ ?_ ?_ (fd := PySem.W.fnOf "law" "law" (defArgs s_law) (defBody s_law) (defScope s_law) .none kV_law dc_law pm_law an_law cd_law ct_law) (fun s u => .of_eq rfl) (fun base KX GX TB => ?_) plain
  · intro t ht
    simp only [List.mem_cons, List.not_mem_nil, or_false] at ht
    rcases ht with rfl | rfl | rfl | rfl | rfl | rfl
    all_goals simp
  · intro p hp
    simp only [List.mem_cons, List.not_mem_nil, or_false] at hp
    rcases hp with rfl | rfl | rfl | rfl | rfl | rfl
    · exact tt_is_row.2
    · exact tt_is_stage.2
    · exact tt_is_chain.2
    · exact tt_are_needs.2
    · exact tt_smallest_chain.2
    · exact tt__law_right.2
  · intro p hp
    simp only [List.mem_cons, List.not_mem_nil, or_false] at hp
    rcases hp with rfl | rfl | rfl | rfl | rfl | rfl
    · exact tn_is_row
    · exact tn_is_stage
    · exact tn_is_chain
    · exact tn_are_needs
    · exact tn_smallest_chain
    · exact tn__law_right
  · intro p hp
    simp only [List.mem_cons, List.not_mem_nil, or_false] at hp
    rcases hp with rfl | rfl | rfl | rfl | rfl | rfl
    · exact tt_is_row.1
    · exact tt_is_stage.1
    · exact tt_is_chain.1
    · exact tt_are_needs.1
    · exact tt_smallest_chain.1
    · exact tt__law_right.1
  · have B_is_row := TB (c_is_row, P_is_row) (by simp)
    have B_is_stage := TB (c_is_stage, P_is_stage) (by simp)
    have B_is_chain := TB (c_is_chain, P_is_chain) (by simp)
    have B_are_needs := TB (c_are_needs, P_are_needs) (by simp)
    have B_smallest_chain := TB (c_smallest_chain, P_smallest_chain) (by simp)
    have B__law_right := TB (c__law_right, P__law_right) (by simp)
    have C_parted_0 : Cal l.prog w K mg base (⟨K, [(P_is_row, none), (P_is_stage, none), (P_is_chain, none), (P_are_needs, none), (P_smallest_chain, none), (P__law_right, some (("_law_right" : Str) ++ ".<locals>." ++ "<lambda>"))], fun j => if j = 0 then some C else none⟩ : Pm) 1 "parted" 1 F_parted_0 [] := cal_mk (okStuck rfl) (PySem.W.mg_of X G a_parted_1) k_k_parted_1 b_parted_1 kb_nil
    have C_is_integer : Cal l.prog w K mg base (⟨K, [(P_is_row, none), (P_is_stage, none), (P_is_chain, none), (P_are_needs, none), (P_smallest_chain, none), (P__law_right, some (("_law_right" : Str) ++ ".<locals>." ++ "<lambda>"))], fun j => if j = 0 then some C else none⟩ : Pm) 2 "is_integer" 0 F_is_integer [] := cal_mk (ok_is_integer U_is_integer T rfl rfl ) (PySem.W.mg_of X G a_is_integer) k_k_is_integer b_is_integer kb_nil
    have C_need_integer : Cal l.prog w K mg base (⟨K, [(P_is_row, none), (P_is_stage, none), (P_is_chain, none), (P_are_needs, none), (P_smallest_chain, none), (P__law_right, some (("_law_right" : Str) ++ ".<locals>." ++ "<lambda>"))], fun j => if j = 0 then some C else none⟩ : Pm) 3 "need_integer" 3 F_need_integer [] := cal_mk (ok_need_integer U_need_integer T rfl rfl C_is_integer) (PySem.W.mg_of X G a_need_integer) k_k_need_integer b_need_integer kb_nil
    have hu_is_row : ∀ p ∈ (⟨K, [(P_is_row, none), (P_is_stage, none), (P_is_chain, none), (P_are_needs, none), (P_smallest_chain, none), (P__law_right, some (("_law_right" : Str) ++ ".<locals>." ++ "<lambda>"))], fun j => if j = 0 then some C else none⟩ : Pm).T, p.1 = P_is_row → p.2 = none := fun p hp e => by
      simp only [List.mem_cons, List.not_mem_nil, or_false] at hp
      rcases hp with rfl | rfl | rfl | rfl | rfl | rfl
      · rfl
      · rfl
      · rfl
      · rfl
      · rfl
      · exact absurd e.symm ne_is_row
    have C_is_row : Cal l.prog w K mg base (⟨K, [(P_is_row, none), (P_is_stage, none), (P_is_chain, none), (P_are_needs, none), (P_smallest_chain, none), (P__law_right, some (("_law_right" : Str) ++ ".<locals>." ++ "<lambda>"))], fun j => if j = 0 then some C else none⟩ : Pm) 4 "is_row" 0 F_is_row [] := cal_mk (ok_is_row U_is_row ⟨B_is_row.code, B_is_row.bm, B_is_row.gP⟩ (by simp) hu_is_row T rfl rfl C_is_integer) (PySem.W.mg_of X G a_is_row) k_k_is_row b_is_row kb_nil
    have C_need_row : Cal l.prog w K mg base (⟨K, [(P_is_row, none), (P_is_stage, none), (P_is_chain, none), (P_are_needs, none), (P_smallest_chain, none), (P__law_right, some (("_law_right" : Str) ++ ".<locals>." ++ "<lambda>"))], fun j => if j = 0 then some C else none⟩ : Pm) 5 "need_row" 1 F_need_row [] := cal_mk (ok_need_row U_need_row T rfl rfl C_is_row) (PySem.W.mg_of X G a_need_row) k_k_need_row b_need_row kb_nil
    have C_common : Cal l.prog w K mg base (⟨K, [(P_is_row, none), (P_is_stage, none), (P_is_chain, none), (P_are_needs, none), (P_smallest_chain, none), (P__law_right, some (("_law_right" : Str) ++ ".<locals>." ++ "<lambda>"))], fun j => if j = 0 then some C else none⟩ : Pm) 2 "common" 1 F_common [] := cal_mk (ok_common U_common T rfl rfl ) (PySem.W.mg_of X G a_common) k_k_common b_common kb_nil
    have C_least_common : Cal l.prog w K mg base (⟨K, [(P_is_row, none), (P_is_stage, none), (P_is_chain, none), (P_are_needs, none), (P_smallest_chain, none), (P__law_right, some (("_law_right" : Str) ++ ".<locals>." ++ "<lambda>"))], fun j => if j = 0 then some C else none⟩ : Pm) 3 "least_common" 1 F_least_common [] := cal_mk (ok_least_common U_least_common T rfl rfl C_common) (PySem.W.mg_of X G a_least_common) k_k_least_common b_least_common kb_nil
    have C_amount_at : Cal l.prog w K mg base (⟨K, [(P_is_row, none), (P_is_stage, none), (P_is_chain, none), (P_are_needs, none), (P_smallest_chain, none), (P__law_right, some (("_law_right" : Str) ++ ".<locals>." ++ "<lambda>"))], fun j => if j = 0 then some C else none⟩ : Pm) 2 "amount_at" 1 F_amount_at [] := cal_mk (ok_amount_at U_amount_at T rfl rfl ) (PySem.W.mg_of X G a_amount_at) k_k_amount_at b_amount_at kb_nil
    have C_after : Cal l.prog w K mg base (⟨K, [(P_is_row, none), (P_is_stage, none), (P_is_chain, none), (P_are_needs, none), (P_smallest_chain, none), (P__law_right, some (("_law_right" : Str) ++ ".<locals>." ++ "<lambda>"))], fun j => if j = 0 then some C else none⟩ : Pm) 2 "after" 3 F_after [] := cal_mk (ok_after U_after T rfl rfl ) (PySem.W.mg_of X G a_after) k_k_after b_after kb_nil
    have hu_is_stage : ∀ p ∈ (⟨K, [(P_is_row, none), (P_is_stage, none), (P_is_chain, none), (P_are_needs, none), (P_smallest_chain, none), (P__law_right, some (("_law_right" : Str) ++ ".<locals>." ++ "<lambda>"))], fun j => if j = 0 then some C else none⟩ : Pm).T, p.1 = P_is_stage → p.2 = none := fun p hp e => by
      simp only [List.mem_cons, List.not_mem_nil, or_false] at hp
      rcases hp with rfl | rfl | rfl | rfl | rfl | rfl
      · rfl
      · rfl
      · rfl
      · rfl
      · rfl
      · exact absurd e.symm ne_is_stage
    have C_is_stage : Cal l.prog w K mg base (⟨K, [(P_is_row, none), (P_is_stage, none), (P_is_chain, none), (P_are_needs, none), (P_smallest_chain, none), (P__law_right, some (("_law_right" : Str) ++ ".<locals>." ++ "<lambda>"))], fun j => if j = 0 then some C else none⟩ : Pm) 4 "is_stage" 0 F_is_stage [] := cal_mk (ok_is_stage U_is_stage ⟨B_is_stage.code, B_is_stage.bm, B_is_stage.gP⟩ (by simp) hu_is_stage T rfl rfl C_is_integer) (PySem.W.mg_of X G a_is_stage) k_k_is_stage b_is_stage kb_nil
    have hu_is_chain : ∀ p ∈ (⟨K, [(P_is_row, none), (P_is_stage, none), (P_is_chain, none), (P_are_needs, none), (P_smallest_chain, none), (P__law_right, some (("_law_right" : Str) ++ ".<locals>." ++ "<lambda>"))], fun j => if j = 0 then some C else none⟩ : Pm).T, p.1 = P_is_chain → p.2 = none := fun p hp e => by
      simp only [List.mem_cons, List.not_mem_nil, or_false] at hp
      rcases hp with rfl | rfl | rfl | rfl | rfl | rfl
      · rfl
      · rfl
      · rfl
      · rfl
      · rfl
      · exact absurd e.symm ne_is_chain
    have C_is_chain : Cal l.prog w K mg base (⟨K, [(P_is_row, none), (P_is_stage, none), (P_is_chain, none), (P_are_needs, none), (P_smallest_chain, none), (P__law_right, some (("_law_right" : Str) ++ ".<locals>." ++ "<lambda>"))], fun j => if j = 0 then some C else none⟩ : Pm) 6 "is_chain" 0 F_is_chain [] := cal_mk (ok_is_chain U_is_chain ⟨B_is_chain.code, B_is_chain.bm, B_is_chain.gP⟩ (by simp) hu_is_chain T rfl rfl C_is_stage) (PySem.W.mg_of X G a_is_chain) k_k_is_chain b_is_chain kb_nil
    have hu_are_needs : ∀ p ∈ (⟨K, [(P_is_row, none), (P_is_stage, none), (P_is_chain, none), (P_are_needs, none), (P_smallest_chain, none), (P__law_right, some (("_law_right" : Str) ++ ".<locals>." ++ "<lambda>"))], fun j => if j = 0 then some C else none⟩ : Pm).T, p.1 = P_are_needs → p.2 = none := fun p hp e => by
      simp only [List.mem_cons, List.not_mem_nil, or_false] at hp
      rcases hp with rfl | rfl | rfl | rfl | rfl | rfl
      · rfl
      · rfl
      · rfl
      · rfl
      · rfl
      · exact absurd e.symm ne_are_needs
    have C_are_needs : Cal l.prog w K mg base (⟨K, [(P_is_row, none), (P_is_stage, none), (P_is_chain, none), (P_are_needs, none), (P_smallest_chain, none), (P__law_right, some (("_law_right" : Str) ++ ".<locals>." ++ "<lambda>"))], fun j => if j = 0 then some C else none⟩ : Pm) 6 "are_needs" 1 F_are_needs [] := cal_mk (ok_are_needs U_are_needs ⟨B_are_needs.code, B_are_needs.bm, B_are_needs.gP⟩ (by simp) hu_are_needs T rfl rfl C_is_row) (PySem.W.mg_of X G a_are_needs) k_k_are_needs b_are_needs kb_nil
    have C_need_chain : Cal l.prog w K mg base (⟨K, [(P_is_row, none), (P_is_stage, none), (P_is_chain, none), (P_are_needs, none), (P_smallest_chain, none), (P__law_right, some (("_law_right" : Str) ++ ".<locals>." ++ "<lambda>"))], fun j => if j = 0 then some C else none⟩ : Pm) 7 "need_chain" 2 F_need_chain [] := cal_mk (ok_need_chain U_need_chain T rfl rfl C_is_chain C_need_row C_are_needs) (PySem.W.mg_of X G a_need_chain) k_k_need_chain b_need_chain kb_nil
    have C_step_of : Cal l.prog w K mg base (⟨K, [(P_is_row, none), (P_is_stage, none), (P_is_chain, none), (P_are_needs, none), (P_smallest_chain, none), (P__law_right, some (("_law_right" : Str) ++ ".<locals>." ++ "<lambda>"))], fun j => if j = 0 then some C else none⟩ : Pm) 3 "step_of" 4 F_step_of [] := cal_mk (ok_step_of U_step_of T rfl rfl C_after C_amount_at) (PySem.W.mg_of X G a_step_of) k_k_step_of b_step_of kb_nil
    have C_chain_turn : Cal l.prog w K mg base (⟨K, [(P_is_row, none), (P_is_stage, none), (P_is_chain, none), (P_are_needs, none), (P_smallest_chain, none), (P__law_right, some (("_law_right" : Str) ++ ".<locals>." ++ "<lambda>"))], fun j => if j = 0 then some C else none⟩ : Pm) 4 "chain_turn" 1 F_chain_turn [] := cal_mk (ok_chain_turn U_chain_turn T rfl rfl C_least_common) (PySem.W.mg_of X G a_chain_turn) k_k_chain_turn b_chain_turn kb_nil
    have C_chain_settled : Cal l.prog w K mg base (⟨K, [(P_is_row, none), (P_is_stage, none), (P_is_chain, none), (P_are_needs, none), (P_smallest_chain, none), (P__law_right, some (("_law_right" : Str) ++ ".<locals>." ++ "<lambda>"))], fun j => if j = 0 then some C else none⟩ : Pm) 5 "chain_settled" 2 F_chain_settled [] := cal_mk (ok_chain_settled U_chain_settled T rfl rfl C_chain_turn C_step_of C_amount_at) (PySem.W.mg_of X G a_chain_settled) k_k_chain_settled b_chain_settled kb_nil
    have C_is_kept : Cal l.prog w K mg base (⟨K, [(P_is_row, none), (P_is_stage, none), (P_is_chain, none), (P_are_needs, none), (P_smallest_chain, none), (P__law_right, some (("_law_right" : Str) ++ ".<locals>." ++ "<lambda>"))], fun j => if j = 0 then some C else none⟩ : Pm) 6 "is_kept" 2 F_is_kept [] := cal_mk (ok_is_kept U_is_kept T rfl rfl C_chain_settled) (PySem.W.mg_of X G a_is_kept) k_k_is_kept b_is_kept kb_nil
    have C_full_chain : Cal l.prog w K mg base (⟨K, [(P_is_row, none), (P_is_stage, none), (P_is_chain, none), (P_are_needs, none), (P_smallest_chain, none), (P__law_right, some (("_law_right" : Str) ++ ".<locals>." ++ "<lambda>"))], fun j => if j = 0 then some C else none⟩ : Pm) 2 "full_chain" 1 F_full_chain [] := cal_mk (ok_full_chain U_full_chain T rfl rfl ) (PySem.W.mg_of X G a_full_chain) k_k_full_chain b_full_chain kb_nil
    have C__law_dice : Cal l.prog w K mg base (⟨K, [(P_is_row, none), (P_is_stage, none), (P_is_chain, none), (P_are_needs, none), (P_smallest_chain, none), (P__law_right, some (("_law_right" : Str) ++ ".<locals>." ++ "<lambda>"))], fun j => if j = 0 then some C else none⟩ : Pm) 2 "_law_dice" 1 F__law_dice [] := cal_mk (ok__law_dice U__law_dice T rfl rfl ) (PySem.W.mg_of X G a__law_dice) k_k__law_dice b__law_dice kb_nil
    have C__law_roll : Cal l.prog w K mg base (⟨K, [(P_is_row, none), (P_is_stage, none), (P_is_chain, none), (P_are_needs, none), (P_smallest_chain, none), (P__law_right, some (("_law_right" : Str) ++ ".<locals>." ++ "<lambda>"))], fun j => if j = 0 then some C else none⟩ : Pm) 2 "_law_roll" 1 F__law_roll [] := cal_mk (ok__law_roll U__law_roll T rfl rfl ) (PySem.W.mg_of X G a__law_roll) k_k__law_roll b__law_roll kb_nil
    have C__law_pick : Cal l.prog w K mg base (⟨K, [(P_is_row, none), (P_is_stage, none), (P_is_chain, none), (P_are_needs, none), (P_smallest_chain, none), (P__law_right, some (("_law_right" : Str) ++ ".<locals>." ++ "<lambda>"))], fun j => if j = 0 then some C else none⟩ : Pm) 3 "_law_pick" 1 F__law_pick [] := cal_mk (ok__law_pick U__law_pick T rfl rfl C__law_roll) (PySem.W.mg_of X G a__law_pick) k_k__law_pick b__law_pick kb_nil
    have C__law_gcd : Cal l.prog w K mg base (⟨K, [(P_is_row, none), (P_is_stage, none), (P_is_chain, none), (P_are_needs, none), (P_smallest_chain, none), (P__law_right, some (("_law_right" : Str) ++ ".<locals>." ++ "<lambda>"))], fun j => if j = 0 then some C else none⟩ : Pm) 2 "_law_gcd" 1 F__law_gcd [] := cal_mk (ok__law_gcd U__law_gcd T rfl rfl ) (PySem.W.mg_of X G a__law_gcd) k_k__law_gcd b__law_gcd kb_nil
    have C__law_row : Cal l.prog w K mg base (⟨K, [(P_is_row, none), (P_is_stage, none), (P_is_chain, none), (P_are_needs, none), (P_smallest_chain, none), (P__law_right, some (("_law_right" : Str) ++ ".<locals>." ++ "<lambda>"))], fun j => if j = 0 then some C else none⟩ : Pm) 4 "_law_row" 2 F__law_row [] := cal_mk (ok__law_row U__law_row T rfl rfl C__law_roll C__law_pick) (PySem.W.mg_of X G a__law_row) k_k__law_row b__law_row kb_nil
    have C__law_step : Cal l.prog w K mg base (⟨K, [(P_is_row, none), (P_is_stage, none), (P_is_chain, none), (P_are_needs, none), (P_smallest_chain, none), (P__law_right, some (("_law_right" : Str) ++ ".<locals>." ++ "<lambda>"))], fun j => if j = 0 then some C else none⟩ : Pm) 2 "_law_step" 3 F__law_step [] := cal_mk (ok__law_step U__law_step T rfl rfl ) (PySem.W.mg_of X G a__law_step) k_k__law_step b__law_step kb_nil
    have C__law_turn : Cal l.prog w K mg base (⟨K, [(P_is_row, none), (P_is_stage, none), (P_is_chain, none), (P_are_needs, none), (P_smallest_chain, none), (P__law_right, some (("_law_right" : Str) ++ ".<locals>." ++ "<lambda>"))], fun j => if j = 0 then some C else none⟩ : Pm) 3 "_law_turn" 1 F__law_turn [] := cal_mk (ok__law_turn U__law_turn T rfl rfl C__law_gcd) (PySem.W.mg_of X G a__law_turn) k_k__law_turn b__law_turn kb_nil
    have C__law_flow : Cal l.prog w K mg base (⟨K, [(P_is_row, none), (P_is_stage, none), (P_is_chain, none), (P_are_needs, none), (P_smallest_chain, none), (P__law_right, some (("_law_right" : Str) ++ ".<locals>." ++ "<lambda>"))], fun j => if j = 0 then some C else none⟩ : Pm) 3 "_law_flow" 4 F__law_flow [] := cal_mk (ok__law_flow U__law_flow T rfl rfl C__law_step) (PySem.W.mg_of X G a__law_flow) k_k__law_flow b__law_flow kb_nil
    have C__law_stream : Cal l.prog w K mg base (⟨K, [(P_is_row, none), (P_is_stage, none), (P_is_chain, none), (P_are_needs, none), (P_smallest_chain, none), (P__law_right, some (("_law_right" : Str) ++ ".<locals>." ++ "<lambda>"))], fun j => if j = 0 then some C else none⟩ : Pm) 4 "_law_stream" 2 F__law_stream [] := cal_mk (ok__law_stream U__law_stream T rfl rfl C__law_turn C__law_flow) (PySem.W.mg_of X G a__law_stream) k_k__law_stream b__law_stream kb_nil
    have C__law_keeps : Cal l.prog w K mg base (⟨K, [(P_is_row, none), (P_is_stage, none), (P_is_chain, none), (P_are_needs, none), (P_smallest_chain, none), (P__law_right, some (("_law_right" : Str) ++ ".<locals>." ++ "<lambda>"))], fun j => if j = 0 then some C else none⟩ : Pm) 5 "_law_keeps" 3 F__law_keeps [] := cal_mk (ok__law_keeps U__law_keeps T rfl rfl C__law_stream) (PySem.W.mg_of X G a__law_keeps) k_k__law_keeps b__law_keeps kb_nil
    have C__law_all : Cal l.prog w K mg base (⟨K, [(P_is_row, none), (P_is_stage, none), (P_is_chain, none), (P_are_needs, none), (P_smallest_chain, none), (P__law_right, some (("_law_right" : Str) ++ ".<locals>." ++ "<lambda>"))], fun j => if j = 0 then some C else none⟩ : Pm) 2 "_law_all" 1 F__law_all [] := cal_mk (ok__law_all U__law_all T rfl rfl ) (PySem.W.mg_of X G a__law_all) k_k__law_all b__law_all kb_nil
    have C_parted_1 : Cal l.prog w K mg base (⟨K, [(P_is_row, none), (P_is_stage, none), (P_is_chain, none), (P_are_needs, none), (P_smallest_chain, none), (P__law_right, some (("_law_right" : Str) ++ ".<locals>." ++ "<lambda>"))], fun j => if j = 0 then some C else none⟩ : Pm) 2 "parted" 1 F_parted_1 [] := cal_mk (ok_parted_1 U_parted_1 T rfl rfl C_parted_0) (PySem.W.mg_of X G a_parted_1) k_k_parted_1 b_parted_1 kb_nil
    have C_parted_2 : Cal l.prog w K mg base (⟨K, [(P_is_row, none), (P_is_stage, none), (P_is_chain, none), (P_are_needs, none), (P_smallest_chain, none), (P__law_right, some (("_law_right" : Str) ++ ".<locals>." ++ "<lambda>"))], fun j => if j = 0 then some C else none⟩ : Pm) 3 "parted" 1 F_parted_2 [] := cal_mk (ok_parted_2 U_parted_2 T rfl rfl C_parted_1) (PySem.W.mg_of X G a_parted_2) k_k_parted_2 b_parted_2 kb_nil
    have C_parted_3 : Cal l.prog w K mg base (⟨K, [(P_is_row, none), (P_is_stage, none), (P_is_chain, none), (P_are_needs, none), (P_smallest_chain, none), (P__law_right, some (("_law_right" : Str) ++ ".<locals>." ++ "<lambda>"))], fun j => if j = 0 then some C else none⟩ : Pm) 4 "parted" 1 F_parted_3 [] := cal_mk (ok_parted_3 U_parted_3 T rfl rfl C_parted_2) (PySem.W.mg_of X G a_parted_3) k_k_parted_3 b_parted_3 kb_nil
    have C_parted_4 : Cal l.prog w K mg base (⟨K, [(P_is_row, none), (P_is_stage, none), (P_is_chain, none), (P_are_needs, none), (P_smallest_chain, none), (P__law_right, some (("_law_right" : Str) ++ ".<locals>." ++ "<lambda>"))], fun j => if j = 0 then some C else none⟩ : Pm) 5 "parted" 1 F_parted_4 [] := cal_mk (ok_parted_4 U_parted_4 T rfl rfl C_parted_3) (PySem.W.mg_of X G a_parted_4) k_k_parted_4 b_parted_4 kb_nil
    have hu_smallest_chain : ∀ p ∈ (⟨K, [(P_is_row, none), (P_is_stage, none), (P_is_chain, none), (P_are_needs, none), (P_smallest_chain, none), (P__law_right, some (("_law_right" : Str) ++ ".<locals>." ++ "<lambda>"))], fun j => if j = 0 then some C else none⟩ : Pm).T, p.1 = P_smallest_chain → p.2 = none := fun p hp e => by
      simp only [List.mem_cons, List.not_mem_nil, or_false] at hp
      rcases hp with rfl | rfl | rfl | rfl | rfl | rfl
      · rfl
      · rfl
      · rfl
      · rfl
      · rfl
      · exact absurd e.symm ne_smallest_chain
    have C_smallest_chain : Cal l.prog w K mg base (⟨K, [(P_is_row, none), (P_is_stage, none), (P_is_chain, none), (P_are_needs, none), (P_smallest_chain, none), (P__law_right, some (("_law_right" : Str) ++ ".<locals>." ++ "<lambda>"))], fun j => if j = 0 then some C else none⟩ : Pm) 8 "smallest_chain" 3 F_smallest_chain [(3, ["most"])] := cal_mk (ok_smallest_chain U_smallest_chain ⟨B_smallest_chain.code, B_smallest_chain.bm, B_smallest_chain.gP⟩ (by simp) hu_smallest_chain T rfl rfl C_is_integer C_need_chain C_full_chain C_need_integer C_parted_4 C_is_kept) (PySem.W.mg_of X G a_smallest_chain) k_k_smallest_chain b_smallest_chain (kb_cons (Fun.kb (j := 3) U_smallest_chain.fun rfl fun kV doc pm an cdv ct us ws h1 h2 => match us, ws, h1, h2 with | [_, _, _], [_], _, _ => rfl) kb_nil)
    have hu__law_right : ∀ p ∈ (⟨K, [(P_is_row, none), (P_is_stage, none), (P_is_chain, none), (P_are_needs, none), (P_smallest_chain, none), (P__law_right, some (("_law_right" : Str) ++ ".<locals>." ++ "<lambda>"))], fun j => if j = 0 then some C else none⟩ : Pm).T, p.1 = P__law_right → p.2 = some (("_law_right" : Str) ++ ".<locals>." ++ "<lambda>") := fun p hp e => by
      simp only [List.mem_cons, List.not_mem_nil, or_false] at hp
      rcases hp with rfl | rfl | rfl | rfl | rfl | rfl
      · exact absurd e ne_is_row
      · exact absurd e ne_is_stage
      · exact absurd e ne_is_chain
      · exact absurd e ne_are_needs
      · exact absurd e ne_smallest_chain
      · rfl
    have R : RefAt K mg C := { ex := ⟨f__law_refused, _, ⟨128, 8, 128, 12⟩, ⟨128, 8, 128, 14⟩, ⟨128, 8, 128, 14⟩, ⟨129, 11, 129, 22⟩, ⟨130, 15, 130, 16⟩, ⟨130, 15, 130, 21⟩, ⟨130, 8, 130, 21⟩, ⟨129, 4, 130, 21⟩, ⟨127, 4, 130, 21⟩, ⟨131, 11, 131, 13⟩, ⟨131, 4, 131, 13⟩, 0, _, _, _, _, _, _, _, _, _, _, _, PySem.W.mg_of X G a__law_refused, k_k__law_refused, l__law_refused, c_c__law_refused, b__law_refused, ⟨rfl, rfl, rfl, by decide +kernel, rfl, by decide +kernel, by decide +kernel⟩, .inl rfl, rfl, rfl⟩, mB := PySem.W.mg_of X G aC, xm := exm_own eC isC tC sC, XF := ⟨ga, gg, eC, hC⟩, no := nb }
    have C__law_right : Cal l.prog w K mg base (⟨K, [(P_is_row, none), (P_is_stage, none), (P_is_chain, none), (P_are_needs, none), (P_smallest_chain, none), (P__law_right, some (("_law_right" : Str) ++ ".<locals>." ++ "<lambda>"))], fun j => if j = 0 then some C else none⟩ : Pm) 11 "_law_right" 0 F__law_right [] := cal_mk (ok__law_right U__law_right B__law_right (by simp) hu__law_right R T rfl rfl C__law_roll C__law_row C__law_pick C__law_all C__law_keeps C_smallest_chain) (PySem.W.mg_of X G a__law_right) k_k__law_right b__law_right kb_nil
    exact ok_law (m := (⟨K, [(P_is_row, none), (P_is_stage, none), (P_is_chain, none), (P_are_needs, none), (P_smallest_chain, none), (P__law_right, some (("_law_right" : Str) ++ ".<locals>." ++ "<lambda>"))], fun j => if j = 0 then some C else none⟩ : Pm)) U_law T rfl rfl C__law_right C__law_dice
end K06
open PySem PySem.W PyProof.Rows
set_option maxRecDepth 100000 in
set_option maxHeartbeats 0 in
theorem PySem.Challenge.cw_rainkept_k06_whole_smallest_holds : PySem.Challenge.rw_rainkept_k06_whole_smallest.Holds := by
  w_on; o_law; k_head; (case hw => w_witness2)
  k_fill
  refine DL.walk_dl (l := PySem.Challenge.rw_rainkept_k06_whole_smallest) (k := 12) (x := "script") rfl (by decide) rfl ⟨rfl, by decide, by decide⟩ (fun w h Y => by first | exact PySem.W.km_in_of Y | exact PySem.W.kIn_of Y) ?F
  case F =>
    intro w mg fa h KX G hmg tb
    refine' K06.all_mk KX G hmg tb ?aC ?xL ?sa ?ga ?gg ?nb ?iC ?t1 ?l1 ?c1 ?lcd ?hvs ?hfi ?lce ?kC ?eC ?tC ?hC ?isC ?sC ?su ?mro ?sV ?op ?ms ?tp ?k_MOST_AMOUNT ?k_MOST_CHAIN_ROW ?k_MOST_ROW ?k_MOST_SHARE ?k_MOST_STAGE ?k_MOST_STAGES ?z_abs ?z_all ?z_bool ?z_int ?z_isinstance ?z_len ?z_max ?z_min ?z_range ?z_sum ?z_tuple ?z_zip ?a_is_integer ?l_is_integer ?c_c_is_integer ?k_k_is_integer ?a_need_integer ?l_need_integer ?c_c_need_integer ?k_k_need_integer ?a_is_row ?l_is_row ?c_c_is_row ?k_k_is_row ?tl_is_row ?tv_is_row ?tr_is_row ?tn_is_row ?a_need_row ?l_need_row ?c_c_need_row ?k_k_need_row ?a_common ?l_common ?c_c_common ?k_k_common ?a_least_common ?l_least_common ?c_c_least_common ?k_k_least_common ?a_amount_at ?l_amount_at ?c_c_amount_at ?k_k_amount_at ?a_after ?l_after ?c_c_after ?k_k_after ?a_is_stage ?l_is_stage ?c_c_is_stage ?k_k_is_stage ?tl_is_stage ?tv_is_stage ?tr_is_stage ?tn_is_stage ?a_is_chain ?l_is_chain ?c_c_is_chain ?k_k_is_chain ?tl_is_chain ?tv_is_chain ?tr_is_chain ?tn_is_chain ?a_are_needs ?l_are_needs ?c_c_are_needs ?k_k_are_needs ?tl_are_needs ?tv_are_needs ?tr_are_needs ?tn_are_needs ?a_need_chain ?l_need_chain ?c_c_need_chain ?k_k_need_chain ?a_step_of ?l_step_of ?c_c_step_of ?k_k_step_of ?a_chain_turn ?l_chain_turn ?c_c_chain_turn ?k_k_chain_turn ?a_chain_settled ?l_chain_settled ?c_c_chain_settled ?k_k_chain_settled ?a_is_kept ?l_is_kept ?c_c_is_kept ?k_k_is_kept ?a_full_chain ?l_full_chain ?c_c_full_chain ?k_k_full_chain ?a__law_dice ?l__law_dice ?c_c__law_dice ?k_k__law_dice ?a__law_roll ?l__law_roll ?c_c__law_roll ?k_k__law_roll ?a__law_pick ?l__law_pick ?c_c__law_pick ?k_k__law_pick ?a__law_gcd ?l__law_gcd ?c_c__law_gcd ?k_k__law_gcd ?a__law_row ?l__law_row ?c_c__law_row ?k_k__law_row ?a__law_step ?l__law_step ?c_c__law_step ?k_k__law_step ?a__law_turn ?l__law_turn ?c_c__law_turn ?k_k__law_turn ?a__law_flow ?l__law_flow ?c_c__law_flow ?k_k__law_flow ?a__law_stream ?l__law_stream ?c_c__law_stream ?k_k__law_stream ?a__law_keeps ?l__law_keeps ?c_c__law_keeps ?k_k__law_keeps ?a__law_all ?l__law_all ?c_c__law_all ?k_k__law_all ?a_parted_1 ?l_parted_1 ?c_c_parted_1 ?k_k_parted_1 ?a_parted_2 ?l_parted_2 ?c_c_parted_2 ?k_k_parted_2 ?a_parted_3 ?l_parted_3 ?c_c_parted_3 ?k_k_parted_3 ?a_parted_4 ?l_parted_4 ?c_c_parted_4 ?k_k_parted_4 ?a_smallest_chain ?l_smallest_chain ?c_c_smallest_chain ?k_k_smallest_chain ?tl_smallest_chain ?tv_smallest_chain ?tr_smallest_chain ?tn_smallest_chain ?a__law_right ?l__law_right ?c_c__law_right ?k_k__law_right ?tl__law_right ?tv__law_right ?tr__law_right ?tn__law_right ?a_law ?l_law ?c_c_law ?k_k_law ?a__law_refused ?l__law_refused ?c_c__law_refused ?k_k__law_refused ?ne_is_row ?ne_is_stage ?ne_is_chain ?ne_are_needs ?ne_smallest_chain
    (case aC => k_is)
    (case xL => k_is)
    (case sa => k_is)
    (case ga => k_is)
    (case gg => k_is)
    (case nb => k_is)
    (case iC => k_is)
    (case t1 => k_is)
    (case l1 => k_is)
    (case c1 => k_is)
    (case lcd => k_is)
    (case hvs => rfl)
    (case hfi => rfl)
    (case lce => k_is)
    (case kC => k_is)
    (case eC => k_is)
    (case tC => k_is)
    (case hC => k_is)
    (case isC => k_is)
    (case sC => k_is)
    (case su => ks_is)
    (case mro => k_is)
    (case sV => k_is)
    (case op => k_is)
    (case ms => k_is)
    (case tp => rfl)
    (case k_MOST_AMOUNT => k_is)
    (case k_MOST_CHAIN_ROW => k_is)
    (case k_MOST_ROW => k_is)
    (case k_MOST_SHARE => k_is)
    (case k_MOST_STAGE => k_is)
    (case k_MOST_STAGES => k_is)
    (case z_abs => k_is)
    (case z_all => k_is)
    (case z_bool => k_is)
    (case z_int => k_is)
    (case z_isinstance => k_is)
    (case z_len => k_is)
    (case z_max => k_is)
    (case z_min => k_is)
    (case z_range => k_is)
    (case z_sum => k_is)
    (case z_tuple => k_is)
    (case z_zip => k_is)
    (case a_is_integer => k_is)
    (case l_is_integer => k_is)
    (case c_c_is_integer => k_is)
    (case k_k_is_integer => k_is)
    (case a_need_integer => k_is)
    (case l_need_integer => k_is)
    (case c_c_need_integer => k_is)
    (case k_k_need_integer => k_is)
    (case a_is_row => k_is)
    (case l_is_row => k_is)
    (case c_c_is_row => k_is)
    (case k_k_is_row => k_is)
    (case tl_is_row => k_is)
    (case tv_is_row => rfl)
    (case tr_is_row => decide +kernel)
    (case tn_is_row => kernel_rfl)
    (case a_need_row => k_is)
    (case l_need_row => k_is)
    (case c_c_need_row => k_is)
    (case k_k_need_row => k_is)
    (case a_common => k_is)
    (case l_common => k_is)
    (case c_c_common => k_is)
    (case k_k_common => k_is)
    (case a_least_common => k_is)
    (case l_least_common => k_is)
    (case c_c_least_common => k_is)
    (case k_k_least_common => k_is)
    (case a_amount_at => k_is)
    (case l_amount_at => k_is)
    (case c_c_amount_at => k_is)
    (case k_k_amount_at => k_is)
    (case a_after => k_is)
    (case l_after => k_is)
    (case c_c_after => k_is)
    (case k_k_after => k_is)
    (case a_is_stage => k_is)
    (case l_is_stage => k_is)
    (case c_c_is_stage => k_is)
    (case k_k_is_stage => k_is)
    (case tl_is_stage => k_is)
    (case tv_is_stage => rfl)
    (case tr_is_stage => decide +kernel)
    (case tn_is_stage => kernel_rfl)
    (case a_is_chain => k_is)
    (case l_is_chain => k_is)
    (case c_c_is_chain => k_is)
    (case k_k_is_chain => k_is)
    (case tl_is_chain => k_is)
    (case tv_is_chain => rfl)
    (case tr_is_chain => decide +kernel)
    (case tn_is_chain => kernel_rfl)
    (case a_are_needs => k_is)
    (case l_are_needs => k_is)
    (case c_c_are_needs => k_is)
    (case k_k_are_needs => k_is)
    (case tl_are_needs => k_is)
    (case tv_are_needs => rfl)
    (case tr_are_needs => decide +kernel)
    (case tn_are_needs => kernel_rfl)
    (case a_need_chain => k_is)
    (case l_need_chain => k_is)
    (case c_c_need_chain => k_is)
    (case k_k_need_chain => k_is)
    (case a_step_of => k_is)
    (case l_step_of => k_is)
    (case c_c_step_of => k_is)
    (case k_k_step_of => k_is)
    (case a_chain_turn => k_is)
    (case l_chain_turn => k_is)
    (case c_c_chain_turn => k_is)
    (case k_k_chain_turn => k_is)
    (case a_chain_settled => k_is)
    (case l_chain_settled => k_is)
    (case c_c_chain_settled => k_is)
    (case k_k_chain_settled => k_is)
    (case a_is_kept => k_is)
    (case l_is_kept => k_is)
    (case c_c_is_kept => k_is)
    (case k_k_is_kept => k_is)
    (case a_full_chain => k_is)
    (case l_full_chain => k_is)
    (case c_c_full_chain => k_is)
    (case k_k_full_chain => k_is)
    (case a__law_dice => k_is)
    (case l__law_dice => k_is)
    (case c_c__law_dice => k_is)
    (case k_k__law_dice => k_is)
    (case a__law_roll => k_is)
    (case l__law_roll => k_is)
    (case c_c__law_roll => k_is)
    (case k_k__law_roll => k_is)
    (case a__law_pick => k_is)
    (case l__law_pick => k_is)
    (case c_c__law_pick => k_is)
    (case k_k__law_pick => k_is)
    (case a__law_gcd => k_is)
    (case l__law_gcd => k_is)
    (case c_c__law_gcd => k_is)
    (case k_k__law_gcd => k_is)
    (case a__law_row => k_is)
    (case l__law_row => k_is)
    (case c_c__law_row => k_is)
    (case k_k__law_row => k_is)
    (case a__law_step => k_is)
    (case l__law_step => k_is)
    (case c_c__law_step => k_is)
    (case k_k__law_step => k_is)
    (case a__law_turn => k_is)
    (case l__law_turn => k_is)
    (case c_c__law_turn => k_is)
    (case k_k__law_turn => k_is)
    (case a__law_flow => k_is)
    (case l__law_flow => k_is)
    (case c_c__law_flow => k_is)
    (case k_k__law_flow => k_is)
    (case a__law_stream => k_is)
    (case l__law_stream => k_is)
    (case c_c__law_stream => k_is)
    (case k_k__law_stream => k_is)
    (case a__law_keeps => k_is)
    (case l__law_keeps => k_is)
    (case c_c__law_keeps => k_is)
    (case k_k__law_keeps => k_is)
    (case a__law_all => k_is)
    (case l__law_all => k_is)
    (case c_c__law_all => k_is)
    (case k_k__law_all => k_is)
    (case a_parted_1 => k_is)
    (case l_parted_1 => k_is)
    (case c_c_parted_1 => k_is)
    (case k_k_parted_1 => k_is)
    (case a_parted_2 => k_is)
    (case l_parted_2 => k_is)
    (case c_c_parted_2 => k_is)
    (case k_k_parted_2 => k_is)
    (case a_parted_3 => k_is)
    (case l_parted_3 => k_is)
    (case c_c_parted_3 => k_is)
    (case k_k_parted_3 => k_is)
    (case a_parted_4 => k_is)
    (case l_parted_4 => k_is)
    (case c_c_parted_4 => k_is)
    (case k_k_parted_4 => k_is)
    (case a_smallest_chain => k_is)
    (case l_smallest_chain => k_is)
    (case c_c_smallest_chain => k_is)
    (case k_k_smallest_chain => k_is)
    (case tl_smallest_chain => k_is)
    (case tv_smallest_chain => rfl)
    (case tr_smallest_chain => decide +kernel)
    (case tn_smallest_chain => kernel_rfl)
    (case a__law_right => k_is)
    (case l__law_right => k_is)
    (case c_c__law_right => k_is)
    (case k_k__law_right => k_is)
    (case tl__law_right => k_is)
    (case tv__law_right => rfl)
    (case tr__law_right => decide +kernel)
    (case tn__law_right => kernel_rfl)
    (case a_law => k_is)
    (case l_law => k_is)
    (case c_c_law => k_is)
    (case k_k_law => k_is)
    (case a__law_refused => k_is)
    (case l__law_refused => k_is)
    (case c_c__law_refused => k_is)
    (case k_k__law_refused => k_is)
    (case ne_is_row => decide)
    (case ne_is_stage => decide)
    (case ne_is_chain => decide)
    (case ne_are_needs => decide)
    (case ne_smallest_chain => decide)
#print axioms PySem.Challenge.cw_rainkept_k06_whole_smallest_holds

