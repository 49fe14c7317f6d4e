import PyProof.Rows.All
import Wide.All
import OpenK.AllK
import Wide.FinOn
import HandS.ForMost
import HandS.ForExc
import HandS.Lambda
import HandS.EndTab
import HandS.IsInst
import HandS.TupAny
import HandS.TupMul
import HandS.Deep
import HandS.Style
import HandS.Wide
import HandS.Zip
import HandS.Conv
import HandS.TupLen
import HandS.ExcInit
import HandS.ExcOwn
import HandS.WordsExc
import KE.KExcSuper
import HandS.AnyAll
import HandS.GenList
import HandS.ExcField
import HandS.EndOwn
import KE.KNestM
import HandS.CallLocal
import HandS.SetFor
import HandS.Strs
import KE.KDictPairs
import KE.KDictDisplayH
import HandS.SortInts
import HandS.TupSets
import HandS.Walk
import PySem.Challenge.RW_rainkept_k10_whole_patience
set_option Elab.async false
set_option linter.all false
set_option maxRecDepth 100000
set_option maxHeartbeats 4000000
/-! DLa: plain data over the hand layer's heap: what represents what, worlds, steps. -/
namespace DL
open PySem PySem.Spec L2
open PyProof.Rows hiding St

abbrev D := PyData
/-- the one mutable list of ints that is handed around (the dice) -/
def dcell : D := .dict [(.none, .none)]
/-- the script (a list that is read alone) -/
def dscr (xs : List D) : D := .dict [(.bool true, .list xs)]
/-- a def, as a value -/
def dfn (x : Str) : D := .dict [(.none, .str x)]
def keyD : Key → D
  | .inl i => .int i
  | .inr x => .str x

/-- a pair whose first is a key; a tuple of such pairs is known whole: it has no dict of its own -/
def isPr : D → Bool
  | .tuple [.int _, _] => true
  | .tuple [.str _, _] => true
  | _ => false
def prD (ds : List D) : Bool := ds.all isPr
def Pl (H : Hp) (a : Addr) (vs : List V) : Prop := ∃ o : Obj, H a = some (.frz o (.tup vs)) ∧ o.dict = none
/-- a dict whose keys are pairs of ints, each with True -/
def ttE (p : Int × Int) : List Key × V := ([.inl p.1, .inl p.2], .bl true)
def dttD (ls : List (Int × Int)) : D := .dict [(.bool false, .list (ls.map fun p => .tuple [.int p.1, .int p.2]))]
/-- a written list -/
def InK (K : PySem.W.Frag) (a : Addr) (xs : List V) : Prop := ∃ (o : Obj) (its : Array Value) (n : Nat), K.lookup a = some o ∧ o.cls = .type "list" ∧ o.dict = none ∧ o.data = .seq its n ∧ its.size ≤ sizeLine ∧ Vals xs its.toList
section
variable (K : PySem.W.Frag) (H : Hp) (O : Addr → Prop) (δ : Option Addr)
mutual
/-- the value v is the data d; O: the lists that may still change -/
inductive RepD : V → D → Prop
  | non : RepD .non .none
  | bl (b : Bool) : RepD (.bl b) (.bool b)
  | int (i : Int) : RepD (.int i) (.int i)
  | str (x : Str) : RepD (.str x) (.str x)
  | tup {a : Addr} {vs : List V} {ds : List D} : SqT K H a vs → (prD ds = true → Pl H a vs) → RepDs vs ds → RepD (.ref a) (.tuple ds)
  | lst {a : Addr} {vs : List V} {ds : List D} : H a = some (.lst vs) → ¬ O a → RepDs vs ds → RepD (.ref a) (.list ds)
  | cell {a : Addr} : δ = some a → RepD (.ref a) dcell
  | scr {a : Addr} {vs : List V} {ds : List D} : (Rd H a (.lst vs) ∧ ¬ O a) ∨ InK K a vs → RepDs vs ds → RepD (.ref a) (dscr ds)
  | fn {a : Addr} {x : Str} : PySem.W.nsIn K mainGlobals x = some (some (.ref a)) → RepD (.ref a) (dfn x)
  | dic {a : Addr} {kvs : List (Key × V)} {ds : List D} : H a = some (.dK kvs) → ¬ O a → RepDs (kvs.map (·.2)) ds → RepD (.ref a) (.dict ((kvs.map fun p => keyD p.1).zip ds))
  | dtt {a : Addr} {ls : List (Int × Int)} : H a = some (.dT (ls.map ttE)) → ¬ O a → RepD (.ref a) (dttD ls)
inductive RepDs : List V → List D → Prop
  | nil : RepDs [] []
  | cons {v : V} {vs : List V} {d : D} {ds : List D} : RepD v d → RepDs vs ds → RepDs (v :: vs) (d :: ds)
end
end

/-- a slot of a frame: nothing known, data, a list of one's own that may change, a list of such lists, a name for one of these -/
inductive Sl where
  | un | val (d : D) | own (xs : List D) | nst (xss : List (List D)) | ali (i k : Nat)
def Sl.d : Sl → D
  | .un => .none
  | .val d => d
  | .own xs => .list xs
  | .nst _ => .none
  | .ali _ _ => .none
structure S where
  e : List Sl
  c : List Int
/-- an exception: which class, its fields -/
structure Er where
  k : Nat
  fs : List (Str × V)
inductive RE where
  | ok (x : Sl) (s : S) | er (e : Er) (c : List Int) | stuck
inductive RS where
  | nx (s : S) | bk (s : S) | ct (s : S) | rt (x : Sl) (c : List Int) | er (e : Er) (c : List Int) | stuck
inductive RF where
  | ok (x : Sl) (c : List Int) | er (e : Er) (c : List Int) | stuck
abbrev DE := S → RE
abbrev DT := S → RE
abbrev DS := S → RS
abbrev Fn := List D → List Int → RF

/-- what is fixed through a law: the tables (a lambda's with its name), the exceptions' classes -/
structure Pm where
  K : PySem.W.Frag
  T : List (Addr × Option Str)
  cl : Nat → Option Addr

def TabP (H : Hp) (p : Addr × Option Str) : Prop := match p.2 with
  | none => ∃ ps : Array Value, H p.1 = some (.tbl ps) ∧ TriplesOk ps.toList
  | some q => LamX.TabS H p.1 q
def Tb (T : List (Addr × Option Str)) (H : Hp) : Prop := ∀ p ∈ T, TabP H p

/-- the world: O holds lists, the cell is one of them with the ints c -/
structure Wd (m : Pm) (δ : Option Addr) (H : Hp) (O : Addr → Prop) (c : List Int) : Prop where
  src : ∀ a, O a → ∃ xs, H a = some (.lst xs)
  cel : ∀ a, δ = some a → O a ∧ H a = some (.lst (c.map V.int))
  tab : Tb m.T H

def isTbl (o : HO) : Prop := ∃ ps, o = .tbl ps
/-- a def's step: what was known is as it was, but for the cell and the tables -/
structure StF (δ : Option Addr) (H : Hp) (O : Addr → Prop) (H' : Hp) (O' : Addr → Prop) : Prop where
  keep : ∀ a o, δ ≠ some a → ¬ isTbl o → H a = some o → H' a = some o
  there : ∀ a, H a ≠ none → H' a ≠ none
  fresh : ∀ a, O' a → O a ∨ H a = none
  stay : ∀ a, O a → O' a
def Mine (σ : St) (e : List Sl) (a : Addr) : Prop := ∃ (i : Nat) (xs : List D), e[i]? = some (.own xs) ∧ σ[i]? = some (some (.ref a))
/-- an expression's step: lists of one's own may have come to rest -/
structure StE (δ : Option Addr) (σ : St) (H : Hp) (O : Addr → Prop) (e : List Sl) (H' : Hp) (O' : Addr → Prop) (e' : List Sl) : Prop where
  keep : ∀ a o, δ ≠ some a → ¬ isTbl o → H a = some o → H' a = some o
  there : ∀ a, H a ≠ none → H' a ≠ none
  fresh : ∀ a, O' a → O a ∨ H a = none
  stay : ∀ a, O a → ¬ Mine σ e a → O' a
  mine : ∀ a, Mine σ e' a → Mine σ e a
  nst : ∀ (i : Nat) (xs : List (List D)), e'[i]? = some (.nst xs) → e[i]? = some (.nst xs)
  ali : ∀ (j i k : Nat), e'[j]? = some (.ali i k) → e[j]? = some (.ali i k)

variable {K : PySem.W.Frag} {m : Pm} {H H' H1 H2 H0 : Hp} {O O' O1 O2 O0 : Addr → Prop} {δ : Option Addr} {v : V} {d : D} {vs : List V} {ds : List D} {σ : St} {e e1 e2 : List Sl} {c c' : List Int}

theorem nt_lst {xs : List V} : ¬ isTbl (.lst xs) := fun ⟨_, h⟩ => nomatch h
theorem nt_tup {xs : List V} : ¬ isTbl (.tup xs) := fun ⟨_, h⟩ => nomatch h
theorem nt_dK {xs : List (Key × V)} : ¬ isTbl (.dK xs) := fun ⟨_, h⟩ => nomatch h
theorem nt_dT {xs : List (List Key × V)} : ¬ isTbl (.dT xs) := fun ⟨_, h⟩ => nomatch h
theorem nt_frz {o : Obj} {u : HO} : ¬ isTbl (.frz o u) := fun ⟨_, h⟩ => nomatch h
theorem nt_xd {xs : List (Str × V)} : ¬ isTbl (.xd xs) := fun ⟨_, h⟩ => nomatch h

theorem StF.refl : StF δ H O H O := ⟨fun _ _ _ _ h => h, fun _ h => h, fun _ h => .inl h, fun _ h => h⟩
theorem StF.trans (a : StF δ H O H1 O1) (b : StF δ H1 O1 H2 O2) : StF δ H O H2 O2 :=
  ⟨fun x o n t h => b.keep x o n t (a.keep x o n t h), fun x h => b.there x (a.there x h), fun x h => (b.fresh x h).elim (a.fresh x) (fun n => .inr (by
      cases q : H x with
      | none => rfl
      | some o => exact absurd n (a.there x (by rw [q]; simp)))), fun x h => b.stay x (a.stay x h)⟩
theorem StF.toE (a : StF δ H O H1 O1) : StE δ σ H O e H1 O1 e := ⟨a.keep, a.there, a.fresh, fun x h _ => a.stay x h, fun _ h => h, fun _ _ h => h, fun _ _ _ h => h⟩
theorem StE.refl : StE δ σ H O e H O e := StF.refl.toE
theorem StE.trans (a : StE δ σ H O e H1 O1 e1) (b : StE δ σ H1 O1 e1 H2 O2 e2) : StE δ σ H O e H2 O2 e2 :=
  ⟨fun x o n t h => b.keep x o n t (a.keep x o n t h), fun x h => b.there x (a.there x h), fun x h => (b.fresh x h).elim (a.fresh x) (fun n => .inr (by
      cases q : H x with
      | none => rfl
      | some o => exact absurd n (a.there x (by rw [q]; simp)))), fun x h n => b.stay x (a.stay x h n) (fun z => n (a.mine x z)), fun x h => a.mine x (b.mine x h), fun i xs h => a.nst i xs (b.nst i xs h), fun j i k h => a.ali j i k (b.ali j i k h)⟩

theorem Wd.ne_cell {o : HO} {a : Addr} (w : Wd m δ H O c) (h : ¬ O a) : δ ≠ some a := fun e => h (w.cel a e).1
theorem Wd.not {o : HO} {a : Addr} (w : Wd m δ H O c) (h : H a = some o) (n : ∀ xs, o ≠ .lst xs) : ¬ O a := fun z => by
  obtain ⟨xs, q⟩ := w.src a z
  rw [h] at q
  exact n xs (Option.some.inj q)

theorem rd_step {u : HO} {a : Addr} (k : ∀ a o, δ ≠ some a → ¬ isTbl o → H a = some o → H' a = some o) (n : δ ≠ some a) (t : ¬ isTbl u) (r : Rd H a u) : Rd H' a u := by
  rcases r with r | ⟨o, r⟩
  · exact .inl (k a u n t r)
  · exact .inr ⟨o, k a _ n nt_frz r⟩
theorem rd_some {u : HO} {a : Addr} (r : Rd H a u) : H a ≠ none := by
  rcases r with r | ⟨o, r⟩ <;> rw [r] <;> simp

/-- data stays data through a step -/
structure Stp (δ : Option Addr) (H : Hp) (O : Addr → Prop) (H' : Hp) (O' : Addr → Prop) : Prop where
  keep : ∀ a o, δ ≠ some a → ¬ isTbl o → H a = some o → H' a = some o
  fresh : ∀ a, O' a → O a ∨ H a = none
theorem StE.stp (a : StE δ σ H O e H1 O1 e1) : Stp δ H O H1 O1 := ⟨a.keep, a.fresh⟩
theorem StF.stp (a : StF δ H O H1 O1) : Stp δ H O H1 O1 := ⟨a.keep, a.fresh⟩

theorem Stp.nO {a : Addr} (s : Stp δ H O H' O') (h : H a ≠ none) (n : ¬ O a) : ¬ O' a := fun z => (s.fresh a z).elim n h
theorem Stp.sqT {a : Addr} {xs : List V} (s : Stp δ H O H' O') (w : Wd m δ H O c) (h : SqT K H a xs) : SqT K H' a xs := by
  rcases h with h | h
  · refine .inl (rd_step s.keep (fun e => ?_) nt_tup h)
    obtain ⟨_, q⟩ := w.cel a e
    rcases h with h | ⟨o, h⟩ <;> rw [q] at h <;> cases h
  · exact .inr h
theorem Stp.pl {a : Addr} {xs : List V} (s : Stp δ H O H' O') (w : Wd m δ H O c) (h : Pl H a xs) : Pl H' a xs := by
  obtain ⟨o, h, n⟩ := h
  refine ⟨o, s.keep a _ (fun e => ?_) nt_frz h, n⟩
  rw [(w.cel a e).2] at h
  cases h
theorem sqL_of {a : Addr} {xs : List V} (h : (Rd H a (.lst xs) ∧ ¬ O a) ∨ InK K a xs) : SqL K H a xs := h.elim (fun h => .inl h.1) .inr
theorem Stp.sqL {a : Addr} {xs : List V} (s : Stp δ H O H' O') (w : Wd m δ H O c) (n : ¬ O a) (h : SqL K H a xs) : SqL K H' a xs := by
  rcases h with h | h
  · exact .inl (rd_step s.keep (fun e => n (w.cel a e).1) nt_lst h)
  · exact .inr h
mutual
theorem RepD.step (s : Stp δ H O H' O') (w : Wd m δ H O c) : ∀ {v : V} {d : D}, RepD K H O δ v d → RepD K H' O' δ v d
  | _, _, .non => .non
  | _, _, .bl b => .bl b
  | _, _, .int i => .int i
  | _, _, .str x => .str x
  | _, _, .tup h p r => .tup (s.sqT w h) (fun z => s.pl w (p z)) (RepDs.step s w r)
  | _, _, .lst h n r => .lst (s.keep _ _ (w.ne_cell (o := .lst []) n) nt_lst h) (s.nO (by rw [h]; simp) n) (RepDs.step s w r)
  | _, _, .cell h => .cell h
  | _, _, .fn h => .fn h
  | _, _, .scr (.inl ⟨h, n⟩) r => .scr (.inl ⟨rd_step s.keep (w.ne_cell (o := .lst []) n) nt_lst h, s.nO (rd_some h) n⟩) (RepDs.step s w r)
  | _, _, .scr (.inr h) r => .scr (.inr h) (RepDs.step s w r)
  | _, _, .dic h n r => .dic (s.keep _ _ (w.ne_cell (o := .lst []) n) nt_dK h) (s.nO (by rw [h]; simp) n) (RepDs.step s w r)
  | _, _, .dtt h n => .dtt (s.keep _ _ (w.ne_cell (o := .lst []) n) nt_dT h) (s.nO (by rw [h]; simp) n)
theorem RepDs.step (s : Stp δ H O H' O') (w : Wd m δ H O c) : ∀ {vs : List V} {ds : List D}, RepDs K H O δ vs ds → RepDs K H' O' δ vs ds
  | _, _, .nil => .nil
  | _, _, .cons h r => .cons (RepD.step s w h) (RepDs.step s w r)
end
end DL

set_option Elab.async false
set_option linter.all false
set_option maxRecDepth 100000
set_option maxHeartbeats 4000000
/-! DLb: states, judgements, the rules of expressions. -/
namespace DL
open PySem PySem.Spec L2
open PyProof.Rows hiding St

section
variable {K : PySem.W.Frag} {m : Pm} {H H' H1 H2 H0 : Hp} {O O' O1 O2 O0 : Addr → Prop} {δ : Option Addr} {v : V} {d : D} {vs : List V} {ds : List D} {σ : St} {e e1 e2 : List Sl} {c c' : List Int}
mutual
theorem RepD.mono (s : ∀ a, O' a → O a) : ∀ {v : V} {d : D}, RepD K H O δ v d → RepD K H O' δ v d
  | _, _, .non => .non
  | _, _, .bl b => .bl b
  | _, _, .int i => .int i
  | _, _, .str x => .str x
  | _, _, .tup h p r => .tup h p (RepDs.mono s r)
  | _, _, .lst h n r => .lst h (fun z => n (s _ z)) (RepDs.mono s r)
  | _, _, .cell h => .cell h
  | _, _, .fn h => .fn h
  | _, _, .scr (.inl ⟨h, n⟩) r => .scr (.inl ⟨h, fun z => n (s _ z)⟩) (RepDs.mono s r)
  | _, _, .scr (.inr h) r => .scr (.inr h) (RepDs.mono s r)
  | _, _, .dic h n r => .dic h (fun z => n (s _ z)) (RepDs.mono s r)
  | _, _, .dtt h n => .dtt h (fun z => n (s _ z))
theorem RepDs.mono (s : ∀ a, O' a → O a) : ∀ {vs : List V} {ds : List D}, RepDs K H O δ vs ds → RepDs K H O' δ vs ds
  | _, _, .nil => .nil
  | _, _, .cons h r => .cons (RepD.mono s h) (RepDs.mono s r)
end
theorem RepDs.length : ∀ {vs : List V} {ds : List D}, RepDs K H O δ vs ds → vs.length = ds.length
  | _, _, .nil => rfl
  | _, _, .cons _ r => by rw [List.length_cons, List.length_cons, RepDs.length r]
theorem RepDs.get : ∀ {vs : List V} {ds : List D} {i : Nat} {d : D}, RepDs K H O δ vs ds → ds[i]? = some d → ∃ v, vs[i]? = some v ∧ RepD K H O δ v d
  | _, _, _, _, .nil, h => by simp at h
  | _, _, 0, _, .cons h _, e => by simp at e; subst e; exact ⟨_, rfl, h⟩
  | _, _, i + 1, d, .cons _ r, e => by
    obtain ⟨v, h1, h2⟩ := RepDs.get (i := i) (d := d) r (by simpa using e)
    exact ⟨v, by simpa using h1, h2⟩
theorem RepDs.append : ∀ {vs ws : List V} {ds es : List D}, RepDs K H O δ vs ds → RepDs K H O δ ws es → RepDs K H O δ (vs ++ ws) (ds ++ es)
  | _, _, _, _, .nil, s => s
  | _, _, _, _, .cons r t, s => .cons r (RepDs.append t s)
theorem RepDs.take : ∀ {vs : List V} {ds : List D} (n : Nat), RepDs K H O δ vs ds → RepDs K H O δ (vs.take n) (ds.take n)
  | _, _, 0, _ => .nil
  | _, _, _ + 1, .nil => .nil
  | _, _, n + 1, .cons r t => .cons r (RepDs.take n t)
theorem RepDs.drop : ∀ {vs : List V} {ds : List D} (n : Nat), RepDs K H O δ vs ds → RepDs K H O δ (vs.drop n) (ds.drop n)
  | _, _, 0, r => r
  | _, _, _ + 1, .nil => .nil
  | _, _, n + 1, .cons _ t => RepDs.drop n t
theorem RepDs.set {x : V} {u : D} (r : RepD K H O δ x u) : ∀ {xs : List V} {us : List D} (i : Nat), RepDs K H O δ xs us → RepDs K H O δ (xs.set i x) (us.set i u)
  | _, _, _, .nil => .nil
  | _, _, 0, .cons _ t => .cons r t
  | _, _, i + 1, .cons q t => .cons q (RepDs.set r i t)
theorem RepDs.reverse {vs : List V} {ds : List D} (r : RepDs K H O δ vs ds) : RepDs K H O δ vs.reverse ds.reverse := by
  induction vs generalizing ds with
  | nil => cases r; exact .nil
  | cons v vs ih => cases r with | cons h t => rw [List.reverse_cons, List.reverse_cons]; exact (ih t).append (.cons h .nil)
theorem RepDs.rep {vs : List V} {ds : List D} (r : RepDs K H O δ vs ds) : ∀ k : Nat, RepDs K H O δ (List.replicate k vs).flatten (List.replicate k ds).flatten
  | 0 => .nil
  | k + 1 => by rw [List.replicate_succ, List.flatten_cons, List.replicate_succ, List.flatten_cons]; exact r.append (RepDs.rep r k)
theorem RepDs.ints : ∀ (ns : List Int), RepDs K H O δ (ns.map V.int) (ns.map PyData.int)
  | [] => .nil
  | n :: ns => .cons (.int n) (RepDs.ints ns)
theorem RepDs.of_ints : ∀ {vs : List V} {ns : List Int}, RepDs K H O δ vs (ns.map PyData.int) → vs = ns.map V.int
  | _, [], .nil => rfl
  | _, _ :: _, .cons (.int _) r => by rw [RepDs.of_ints r]; rfl
theorem RepDs.of_bools : ∀ {vs : List V} {ns : List Bool}, RepDs K H O δ vs (ns.map PyData.bool) → vs = ns.map V.bl
  | _, [], .nil => rfl
  | _, _ :: _, .cons (.bl _) r => by rw [RepDs.of_bools r]; rfl
theorem RepDs.of_strs : ∀ {vs : List V} {ns : List Str}, RepDs K H O δ vs (ns.map PyData.str) → vs = ns.map V.str
  | _, [], .nil => rfl
  | _, _ :: _, .cons (.str _) r => by rw [RepDs.of_strs r]; rfl

/-- more objects, nothing else -/
def Ext (H H' : Hp) : Prop := ∀ a o, H a = some o → H' a = some o
theorem Ext.refl : Ext H H := fun _ _ h => h
theorem Ext.upd {p : Addr} {o : HO} (h : H p = none) : Ext H (upd H p o) := fun a u q => by rw [upd_ne (ne_of_none q h)]; exact q
theorem Ext.there (x : Ext H H') (a : Addr) (h : H a ≠ none) : H' a ≠ none := by
  cases q : H a with
  | none => exact absurd q h
  | some o => rw [x a o q]; simp
theorem Ext.stF (x : Ext H H') : StF δ H O H' O := ⟨fun a o _ _ h => x a o h, x.there, fun _ h => .inl h, fun _ h => h⟩
theorem TabP.ext {p : Addr × Option Str} (t : TabP H p) (x : Ext H H') : TabP H' p := by
  unfold TabP at t ⊢
  split
  · rename_i e
    rw [e] at t
    obtain ⟨ps, h, q⟩ := t
    exact ⟨ps, x _ _ h, q⟩
  · rename_i q e
    rw [e] at t
    exact LamX.TabS.ext t x
theorem Wd.ext (w : Wd m δ H O c) (x : Ext H H') : Wd m δ H' O c :=
  ⟨fun a h => let ⟨xs, q⟩ := w.src a h; ⟨xs, x _ _ q⟩, fun a h => let ⟨q, r⟩ := w.cel a h; ⟨q, x _ _ r⟩, fun p hp => (w.tab p hp).ext x⟩
/-- with p among the lists that may change -/
def OAdd (O : Addr → Prop) (p : Addr) : Addr → Prop := fun a => O a ∨ a = p
/-- without p -/
def ODel (O : Addr → Prop) (p : Addr) : Addr → Prop := fun a => O a ∧ a ≠ p
theorem Wd.new {p : Addr} {xs : List V} (w : Wd m δ H O c) (h : H p = none) : Wd m δ (upd H p (.lst xs)) (OAdd O p) c :=
  ⟨fun a z => by
    rcases z with z | z
    · obtain ⟨ys, q⟩ := w.src a z
      exact ⟨ys, Ext.upd h _ _ q⟩
    · exact ⟨xs, by rw [z]; exact upd_same⟩, fun a z => let ⟨q, r⟩ := w.cel a z; ⟨.inl q, Ext.upd h _ _ r⟩, fun p hp => (w.tab p hp).ext (Ext.upd h)⟩
theorem StF.new {p : Addr} {xs : List V} (h : H p = none) : StF δ H O (upd H p (.lst xs)) (OAdd O p) :=
  ⟨fun a o _ _ q => Ext.upd h a o q, (Ext.upd h).there, fun a z => z.elim .inl (fun z => .inr (by rw [z]; exact h)), fun _ z => .inl z⟩
end

/-- what is fixed within a def's run: the cell, the entry, what is wished of an exception -/
structure Fx where
  m : Pm
  δ : Option Addr
  H0 : Hp
  O0 : Addr → Prop
  E : XK
  src : ∀ a, O0 a → H0 a ≠ none
structure EnvR (F : Fx) (H : Hp) (O : Addr → Prop) (σ : St) (e : List Sl) : Prop where
  len : σ.length = e.length
  vals : ∀ (i : Nat) (d : D), e[i]? = some (.val d) → ∃ v, σ[i]? = some (some v) ∧ RepD F.m.K H O F.δ v d
  owns : ∀ (i : Nat) (xs : List D), e[i]? = some (.own xs) → ∃ (a : Addr) (vs : List V), σ[i]? = some (some (.ref a)) ∧ O a ∧ F.δ ≠ some a ∧ H a = some (.lst vs) ∧ RepDs F.m.K H O F.δ vs xs ∧ F.H0 a = none
  uniq : ∀ (i j : Nat) (a : Addr) (xs ys : List D), i ≠ j → e[i]? = some (.own xs) → e[j]? = some (.own ys) → σ[i]? = some (some (.ref a)) → σ[j]? = some (some (.ref a)) → False
/-- a list of lists at a: all of one's own, all apart -/
def NestA (K : PySem.W.Frag) (δ : Option Addr) (H0 H : Hp) (O : Addr → Prop) (a : Addr) (qs : List Addr) (xss : List (List D)) : Prop :=
  H a = some (.lst (qs.map V.ref)) ∧ (a :: qs).Nodup ∧ qs.length = xss.length ∧ (∀ b ∈ a :: qs, O b ∧ δ ≠ some b ∧ H0 b = none) ∧
    ∀ (j : Nat) (q : Addr) (xs : List D), qs[j]? = some q → xss[j]? = some xs → ∃ vs, H q = some (.lst vs) ∧ RepDs K H O δ vs xs
/-- b is one of the lists of a slot's list of lists, or this itself -/
def NestB (σ : St) (e : List Sl) (H : Hp) (b : Addr) : Prop := ∃ (i : Nat) (xss : List (List D)) (a : Addr) (qs : List Addr), e[i]? = some (.nst xss) ∧ σ[i]? = some (some (.ref a)) ∧ H a = some (.lst (qs.map V.ref)) ∧ b ∈ a :: qs
structure NestR (F : Fx) (H : Hp) (O : Addr → Prop) (σ : St) (e : List Sl) : Prop where
  is : ∀ (i : Nat) (xss : List (List D)), e[i]? = some (.nst xss) → ∃ (a : Addr) (qs : List Addr), σ[i]? = some (some (.ref a)) ∧ NestA F.m.K F.δ F.H0 H O a qs xss ∧ ∀ b ∈ a :: qs, ¬ Mine σ e b
  one : ∀ (i j : Nat) (xss yss : List (List D)), e[i]? = some (.nst xss) → e[j]? = some (.nst yss) → i = j
  ali : ∀ (j i k : Nat) (xss : List (List D)) (a : Addr) (qs : List Addr), e[j]? = some (.ali i k) → e[i]? = some (.nst xss) → σ[i]? = some (some (.ref a)) → H a = some (.lst (qs.map V.ref)) → ∃ q, qs[k]? = some q ∧ σ[j]? = some (some (.ref q))
theorem map_ref_inj : ∀ {qs rs : List Addr}, qs.map V.ref = rs.map V.ref → qs = rs
  | [], [], _ => rfl
  | [], _ :: _, h => by cases h
  | _ :: _, [], h => by cases h
  | q :: qs, r :: rs, h => by
    rw [List.map_cons, List.map_cons] at h
    injection h with h1 h2
    cases h1
    rw [map_ref_inj h2]
theorem NestA.there {K : PySem.W.Frag} {δ : Option Addr} {H0 H : Hp} {O : Addr → Prop} {a : Addr} {qs : List Addr} {xss : List (List D)} (N : NestA K δ H0 H O a qs xss) {b : Addr} (h : b ∈ a :: qs) : ∃ us, H b = some (.lst us) := by
  obtain ⟨h1, h2, h3, h4, h5⟩ := N
  rcases List.mem_cons.mp h with rfl | h
  · exact ⟨_, h1⟩
  · obtain ⟨j, hj, rfl⟩ := List.getElem_of_mem h
    obtain ⟨vs, q, _⟩ := h5 j qs[j] xss[j] (List.getElem?_eq_getElem hj) (List.getElem?_eq_getElem (by omega))
    exact ⟨vs, q⟩
/-- what is known of a nested address -/
theorem NestR.of {F : Fx} {H : Hp} {O : Addr → Prop} {σ : St} {e : List Sl} (N : NestR F H O σ e) {b : Addr} (h : NestB σ e H b) : O b ∧ F.δ ≠ some b ∧ F.H0 b = none ∧ ¬ Mine σ e b ∧ ∃ us, H b = some (.lst us) := by
  obtain ⟨i, xss, a, qs, h1, h2, h3, h4⟩ := h
  obtain ⟨a', qs', g1, g2, g3⟩ := N.is i xss h1
  rw [h2] at g1
  cases g1
  have e1 := g2.1
  rw [h3] at e1
  have e2 : qs = qs' := map_ref_inj (by injection e1 with e1; injection e1)
  subst e2
  obtain ⟨r1, r2, r3⟩ := g2.2.2.2.1 b h4
  exact ⟨r1, r2, r3, g3 b h4, g2.there h4⟩
theorem NestR.nb {F : Fx} {H : Hp} {O : Addr → Prop} {σ : St} {e : List Sl} {i : Nat} {xss : List (List D)} {a b : Addr} {qs : List Addr} (h1 : e[i]? = some (.nst xss)) (h2 : σ[i]? = some (some (.ref a))) (g : NestA F.m.K F.δ F.H0 H O a qs xss) (h : b ∈ a :: qs) : NestB σ e H b := ⟨i, xss, a, qs, h1, h2, g.1, h⟩
/-- lists of lists through a step -/
theorem NestR.to {F : Fx} {H H' : Hp} {O O' : Addr → Prop} {σ σ' : St} {e e' : List Sl} (N : NestR F H O σ e)
    (he : ∀ (i : Nat) (xss : List (List D)), e'[i]? = some (Sl.nst xss) → e[i]? = some (Sl.nst xss) ∧ σ'[i]? = σ[i]?) (ha : ∀ (j i k : Nat), e'[j]? = some (Sl.ali i k) → e[j]? = some (Sl.ali i k) ∧ σ'[j]? = σ[j]?)
    (hk : ∀ b us, NestB σ e H b → H b = some (.lst us) → H' b = some (.lst us) ∧ O' b) (hr : ∀ vs ds, RepDs F.m.K H O F.δ vs ds → RepDs F.m.K H' O' F.δ vs ds)
    (hm : ∀ b, NestB σ e H b → Mine σ' e' b → Mine σ e b) : NestR F H' O' σ' e' where
  is := fun i xss h => by
    obtain ⟨h1, h2⟩ := he i xss h
    obtain ⟨a, qs, g1, g2, g3⟩ := N.is i xss h1
    have nb : ∀ b ∈ a :: qs, NestB σ e H b := fun b hb => NestR.nb h1 g1 g2 hb
    refine ⟨a, qs, by rw [h2]; exact g1, ⟨(hk a _ (nb a (by simp)) g2.1).1, g2.2.1, g2.2.2.1, fun b hb => ?_, fun j q xs hq hx => ?_⟩, fun b hb z => g3 b hb (hm b (nb b hb) z)⟩
    · obtain ⟨us, hu⟩ := g2.there hb
      exact ⟨(hk b us (nb b hb) hu).2, (g2.2.2.2.1 b hb).2⟩
    · obtain ⟨vs, r1, r2⟩ := g2.2.2.2.2 j q xs hq hx
      exact ⟨vs, (hk q vs (nb q (List.mem_cons_of_mem _ (List.mem_of_getElem? hq))) r1).1, hr _ _ r2⟩
  one := fun i j xss yss h1 h2 => N.one i j xss yss (he i xss h1).1 (he j yss h2).1
  ali := fun j i k xss a qs h1 h2 h3 h4 => by
    obtain ⟨q1, q2⟩ := ha j i k h1
    obtain ⟨q3, q4⟩ := he i xss h2
    obtain ⟨a', qs', g1, g2, g3⟩ := N.is i xss q3
    rw [q4, g1] at h3
    cases h3
    have e1 := (hk a _ (NestR.nb q3 g1 g2 (by simp)) g2.1).1
    rw [h4] at e1
    have e2 : qs = qs' := map_ref_inj (by injection e1 with e1; injection e1)
    subst e2
    rw [q2]
    exact N.ali j i k xss a qs q1 q3 g1 g2.1
structure Est (F : Fx) (σ : St) (H : Hp) (O : Addr → Prop) (s : S) : Prop where
  wd : Wd F.m F.δ H O s.c
  env : EnvR F H O σ s.e
  base : StF F.δ F.H0 F.O0 H O
  nst : NestR F H O σ s.e
/-- a result: data, or a new list that may change -/
def SlXK (K : PySem.W.Frag) (δ : Option Addr) (H0 H : Hp) (O : Addr → Prop) (v : V) : Sl → Prop
  | .un => False
  | .val d => RepD K H O δ v d
  | .own xs => ∃ (a : Addr) (vs : List V), v = .ref a ∧ O a ∧ δ ≠ some a ∧ H a = some (.lst vs) ∧ RepDs K H O δ vs xs ∧ H0 a = none
  | .nst _ => False
  | .ali _ _ => False
abbrev SlX (F : Fx) := SlXK F.m.K F.δ
def ErR (m : Pm) (e : Er) (cls : Value) (dd : Option Addr) (H : Hp) : Prop := ∃ C d, m.cl e.k = some C ∧ cls = .ref C ∧ dd = some d ∧ H d = some (.xd e.fs)
def KEr (F : Fx) (e : Er) (c : List Int) : Prop := ∀ cls dd H' O', StF F.δ F.H0 F.O0 H' O' → Wd F.m F.δ H' O' c → ErR F.m e cls dd H' → F.E cls dd H'
def KE (F : Fx) (σ : St) (H : Hp) (O : Addr → Prop) (s : S) (Q : VK) : RE → Prop
  | .ok x s' => ∀ v H' O', StE F.δ σ H O s.e H' O' s'.e → Est F σ H' O' s' → SlX F H H' O' v x → Q v H'
  | .er e c => KEr F e c
  | .stuck => False
def KD (F : Fx) (σ : St) (H : Hp) (O : Addr → Prop) (s : S) (Q : VK) : RE → Prop
  | .ok x s' => ∀ v H' O', StE F.δ σ H O s.e H' O' s'.e → Est F σ H' O' s' → RepD F.m.K H' O' F.δ v x.d → Q v H'
  | .er e c => KEr F e c
  | .stuck => False
def KT (F : Fx) (σ : St) (H : Hp) (O : Addr → Prop) (s : S) (Q : Bool → Hp → Prop) : RE → Prop
  | .ok x s' => match x.d with
    | .bool b => ∀ H' O', StE F.δ σ H O s.e H' O' s'.e → Est F σ H' O' s' → Q b H'
    | _ => False
  | .er e c => KEr F e c
  | .stuck => False
def SE (F : Fx) (t : TE) (f : DE) : Prop := ∀ σ H O s Q, Est F σ H O s → KE F σ H O s Q (f s) → t σ H Q
def ST (F : Fx) (t : TT) (f : DE) : Prop := ∀ σ H O s Q, Est F σ H O s → KT F σ H O s Q (f s) → t σ H Q
def EO (F : Fx) (X : Cx) (e : Expr) (f : DE) : Prop := ∃ t, PE X e t ∧ SE F t f
def TO (F : Fx) (X : Cx) (e : Expr) (f : DE) : Prop := ∃ t, PT X e t ∧ ST F t f
def WO (F : Fx) (X : Cx) (e : Expr) (f : DE) : Prop := ∃ t, PW X e t ∧ ST F t f

section
variable {F : Fx} {X : Cx} {H H' H1 H2 : Hp} {O O' O1 O2 : Addr → Prop} {σ : St} {s s1 s2 : S} {Q : VK} {t : TE} {f g : DE} {v : V} {d : D}

theorem StE.repD {e e' : List Sl} {c : List Int} (st : StE F.δ σ H O e H' O' e') (w : Wd F.m F.δ H O c) (r : RepD F.m.K H O F.δ v d) : RepD F.m.K H' O' F.δ v d := r.step st.stp w
theorem StE.repDs {e e' : List Sl} {c : List Int} {vs : List V} {ds : List D} (st : StE F.δ σ H O e H' O' e') (w : Wd F.m F.δ H O c) (r : RepDs F.m.K H O F.δ vs ds) : RepDs F.m.K H' O' F.δ vs ds := r.step st.stp w

theorem EnvR.mine {e : List Sl} (r : EnvR F H O σ e) {a : Addr} (h : Mine σ e a) : H a ≠ none := by
  obtain ⟨i, xs, h1, h2⟩ := h
  obtain ⟨b, vs, h3, _, _, h4, _⟩ := r.owns i xs h1
  rw [h2] at h3
  cases h3
  rw [h4]
  simp
/-- an own list p comes out of the changing ones; no slot holds it -/
theorem Est.del (I : Est F σ H O s) {p : Addr} (hp : F.δ ≠ some p) (h0 : F.H0 p = none) (hm : ¬ Mine σ s.e p) (hN : ¬ NestB σ s.e H p) : Est F σ H (ODel O p) s where
  wd := ⟨fun a z => I.wd.src a z.1, fun a z => ⟨⟨(I.wd.cel a z).1, fun q => hp (q ▸ z)⟩, (I.wd.cel a z).2⟩, I.wd.tab⟩
  env := ⟨I.env.len, fun i d h => let ⟨v, h1, h2⟩ := I.env.vals i d h; ⟨v, h1, h2.mono fun _ z => z.1⟩,
    fun i xs h => let ⟨a, vs, h1, h2, h3, h4, h5, h6⟩ := I.env.owns i xs h; ⟨a, vs, h1, ⟨h2, fun q => hm (q ▸ ⟨i, xs, h, h1⟩)⟩, h3, h4, h5.mono fun _ z => z.1, h6⟩, I.env.uniq⟩
  base := ⟨I.base.keep, I.base.there, fun a z => I.base.fresh a z.1, fun a z => ⟨I.base.stay a z, fun q => F.src a z (q ▸ h0)⟩⟩
  nst := I.nst.to (fun _ _ h => ⟨h, rfl⟩) (fun _ _ _ h => ⟨h, rfl⟩) (fun b us nb h => ⟨h, (I.nst.of nb).1, fun q => hN (q ▸ nb)⟩) (fun _ _ r => r.mono fun _ z => z.1) fun _ _ h => h

theorem sl_eq {e : List Sl} {i : Nat} {x y : Sl} (h : (e.set i x)[i]? = some y) : y = x ∧ i < e.length := by
  by_cases hi : i < e.length
  · rw [List.getElem?_set_self hi] at h
    exact ⟨(Option.some.inj h).symm, hi⟩
  · rw [List.getElem?_eq_none (by simpa using hi)] at h
    cases h
theorem sl_ne {α : Type} {e : List α} {i j : Nat} {x : α} (h : j ≠ i) : (e.set i x)[j]? = e[j]? := List.getElem?_set_ne (Ne.symm h)
theorem mine_set {e : List Sl} {i : Nat} {x : Sl} (hx : ∀ xs, x ≠ .own xs) {a : Addr} (h : Mine σ (e.set i x) a) : Mine σ e a := by
  obtain ⟨j, xs, h1, h2⟩ := h
  by_cases q : j = i
  · subst q
    exact absurd (sl_eq h1).1.symm (hx xs)
  · rw [sl_ne q] at h1
    exact ⟨j, xs, h1, h2⟩

theorem nst_ne {e : List Sl} {i j : Nat} {x : Sl} {xss : List (List D)} (hx : ∀ yss, x ≠ .nst yss) (h : (e.set i x)[j]? = some (.nst xss)) : j ≠ i := fun q => by
  subst q
  exact hx _ (sl_eq h).1.symm
theorem nst_set {e : List Sl} {i j : Nat} {x : Sl} {xss : List (List D)} (hx : ∀ yss, x ≠ .nst yss) (h : (e.set i x)[j]? = some (.nst xss)) : e[j]? = some (.nst xss) := by
  rw [sl_ne (nst_ne hx h)] at h
  exact h
theorem ali_ne {e : List Sl} {i j i2 k : Nat} {x : Sl} (hx : ∀ a b, x ≠ .ali a b) (h : (e.set i x)[j]? = some (.ali i2 k)) : j ≠ i := fun q => by
  subst q
  exact hx _ _ (sl_eq h).1.symm
theorem ali_set {e : List Sl} {i j i2 k : Nat} {x : Sl} (hx : ∀ a b, x ≠ .ali a b) (h : (e.set i x)[j]? = some (.ali i2 k)) : e[j]? = some (.ali i2 k) := by
  rw [sl_ne (ali_ne hx h)] at h
  exact h
/-- the own list of slot i comes to rest: it is data from now on -/
theorem Est.rest (I : Est F σ H O s) {i : Nat} {xs : List D} (h : s.e[i]? = some (.own xs)) :
    ∃ a, σ[i]? = some (some (.ref a)) ∧ Est F σ H (ODel O a) { s with e := s.e.set i (.val (.list xs)) } ∧ StE F.δ σ H O s.e H (ODel O a) (s.e.set i (.val (.list xs))) ∧ RepD F.m.K H (ODel O a) F.δ (.ref a) (.list xs) := by
  obtain ⟨a, vs, h1, h2, h3, h4, h5, h6⟩ := I.env.owns i xs h
  have hr : RepD F.m.K H (ODel O a) F.δ (.ref a) (.list xs) := .lst h4 (fun z => z.2 rfl) (h5.mono fun _ z => z.1)
  have hu : ∀ j ys, j ≠ i → s.e[j]? = some (.own ys) → σ[j]? ≠ some (some (.ref a)) := fun j ys hj q r => I.env.uniq j i a ys xs hj q h r h1
  refine ⟨a, h1, ⟨⟨fun b z => I.wd.src b z.1, fun b z => ⟨⟨(I.wd.cel b z).1, fun q => h3 (q ▸ z)⟩, (I.wd.cel b z).2⟩, I.wd.tab⟩, ⟨?_, fun j d q => ?_, fun j ys q => ?_, fun j k b ys zs hjk q1 q2 r1 r2 => ?_⟩,
    ⟨I.base.keep, I.base.there, fun b z => I.base.fresh b z.1, fun b z => ⟨I.base.stay b z, fun q => F.src b z (q ▸ h6)⟩⟩, ?_⟩,
    ⟨fun _ _ _ _ q => q, fun _ q => q, fun b z => .inl z.1, fun b z n => ⟨z, fun q => n (q ▸ ⟨i, xs, h, h1⟩)⟩, fun b z => mine_set (x := .val (.list xs)) (fun _ q => by cases q) z, fun j xss q => nst_set (x := .val (.list xs)) (fun _ q => by cases q) q, fun j i k q => ali_set (x := .val (.list xs)) (fun _ _ q => by cases q) q⟩, hr⟩
  · show σ.length = (s.e.set i (.val (.list xs))).length
    rw [List.length_set]; exact I.env.len
  · have q : (s.e.set i (.val (.list xs)))[j]? = some (.val d) := q
    by_cases hj : j = i
    · subst hj
      cases (sl_eq q).1
      exact ⟨_, h1, hr⟩
    · rw [sl_ne hj] at q
      obtain ⟨v, r1, r2⟩ := I.env.vals j d q
      exact ⟨v, r1, r2.mono fun _ z => z.1⟩
  · have q : (s.e.set i (.val (.list xs)))[j]? = some (.own ys) := q
    by_cases hj : j = i
    · subst hj
      cases (sl_eq q).1
    · rw [sl_ne hj] at q
      obtain ⟨b, ws, r1, r2, r3, r4, r5, r6⟩ := I.env.owns j ys q
      exact ⟨b, ws, r1, ⟨r2, fun z => hu j ys hj q (z ▸ r1)⟩, r3, r4, r5.mono fun _ z => z.1, r6⟩
  · have q1 : (s.e.set i (.val (.list xs)))[j]? = some (.own ys) := q1
    have q2 : (s.e.set i (.val (.list xs)))[k]? = some (.own zs) := q2
    by_cases hj : j = i
    · subst hj
      cases (sl_eq q1).1
    · by_cases hk : k = i
      · subst hk
        cases (sl_eq q2).1
      · rw [sl_ne hj] at q1
        rw [sl_ne hk] at q2
        exact I.env.uniq j k b ys zs hjk q1 q2 r1 r2
  · exact I.nst.to (fun j xss q => ⟨nst_set (x := .val (.list xs)) (fun _ q => by cases q) q, rfl⟩) (fun j i k q => ⟨ali_set (x := .val (.list xs)) (fun _ _ q => by cases q) q, rfl⟩)
      (fun b us nb q => ⟨q, (I.nst.of nb).1, fun z => (I.nst.of nb).2.2.2.1 (z ▸ ⟨i, xs, h, h1⟩)⟩) (fun _ _ r => r.mono fun _ z => z.1) fun b _ z => mine_set (x := .val (.list xs)) (fun _ q => by cases q) z

/-- nested addresses stood before an expression -/
theorem Est.nestB {s' : S} (I : Est F σ H O s) (st : StE F.δ σ H O s.e H' O' s'.e) {b : Addr} (h : NestB σ s'.e H' b) : NestB σ s.e H b := by
  obtain ⟨i, xss, a, qs, h1, h2, h3, h4⟩ := h
  have q1 := st.nst i xss h1
  obtain ⟨a', qs', g1, g2, g3⟩ := I.nst.is i xss q1
  rw [h2] at g1
  cases g1
  have e1 := st.keep a _ (g2.2.2.2.1 a (by simp)).2.1 nt_lst g2.1
  rw [h3] at e1
  have e2 : qs = qs' := map_ref_inj (by injection e1 with e1; injection e1)
  subst e2
  exact ⟨i, xss, a, qs, q1, h2, g2.1, h4⟩
theorem Est.nestN {s' : S} (I : Est F σ H O s) (st : StE F.δ σ H O s.e H' O' s'.e) {b : Addr} (h : H b = none) : ¬ NestB σ s'.e H' b := fun z => by
  obtain ⟨_, _, _, _, us, q⟩ := I.nst.of (I.nestB st z)
  rw [h] at q
  cases q
/-- what is wanted of an expression, told of its data alone -/
theorem SE.use (h : SE F t f) (I : Est F σ H O s) (k : KD F σ H O s Q (f s)) : t σ H Q := by
  refine h σ H O s Q I ?_
  cases q : f s with
  | stuck => rw [q] at k; exact k
  | er e c => rw [q] at k; exact k
  | ok x s' =>
    rw [q] at k
    intro v H' O' st I' hx
    cases x with
    | un => exact hx.elim
    | nst _ => exact hx.elim
    | ali _ _ => exact hx.elim
    | val d => exact k v H' O' st I' hx
    | own xs =>
      obtain ⟨a, vs, rfl, ha, hd, hH, hr, hn⟩ := hx
      have h0 : F.H0 a = none := by
        cases q0 : F.H0 a with
        | none => rfl
        | some o => exact absurd hn (I.base.there a (by rw [q0]; simp))
      have hm : ¬ Mine σ s'.e a := fun z => I.env.mine (st.mine a z) hn
      refine k (.ref a) H' (ODel O' a) ⟨st.keep, st.there, fun b z => st.fresh b z.1, fun b z n => ⟨st.stay b z n, fun q => ?_⟩, st.mine, st.nst, st.ali⟩ (I'.del hd h0 hm (I.nestN st hn)) (.lst hH (fun z => z.2 rfl) (hr.mono fun _ z => z.1))
      obtain ⟨ys, r⟩ := I.wd.src b z
      rw [q, hn] at r
      cases r

theorem Est.ext (I : Est F σ H O s) (x : Ext H H') : Est F σ H' O s where
  wd := I.wd.ext x
  env := ⟨I.env.len, fun i d h => let ⟨v, h1, h2⟩ := I.env.vals i d h; ⟨v, h1, h2.step (StF.stp (x.stF (O := O))) I.wd⟩,
    fun i xs h => let ⟨a, vs, h1, h2, h3, h4, h5, h6⟩ := I.env.owns i xs h; ⟨a, vs, h1, h2, h3, x _ _ h4, h5.step (StF.stp (x.stF (O := O))) I.wd, h6⟩, I.env.uniq⟩
  base := I.base.trans x.stF
  nst := I.nst.to (fun _ _ h => ⟨h, rfl⟩) (fun _ _ _ h => ⟨h, rfl⟩) (fun b us nb h => ⟨x _ _ h, (I.nst.of nb).1⟩) (fun _ _ r => r.step (StF.stp (x.stF (O := O))) I.wd) fun _ _ h => h
theorem Est.new (I : Est F σ H O s) {p : Addr} {xs : List V} (h : H p = none) : Est F σ (upd H p (.lst xs)) (OAdd O p) s where
  wd := I.wd.new h
  env := ⟨I.env.len, fun i d h1 => let ⟨v, h1, h2⟩ := I.env.vals i d h1; ⟨v, h1, h2.step (StF.new (O := O) h).stp I.wd⟩,
    fun i xs h1 => let ⟨a, vs, h1, h2, h3, h4, h5, h6⟩ := I.env.owns i xs h1; ⟨a, vs, h1, .inl h2, h3, Ext.upd h _ _ h4, h5.step (StF.new (O := O) h).stp I.wd, h6⟩, I.env.uniq⟩
  base := I.base.trans (StF.new h)
  nst := I.nst.to (fun _ _ h => ⟨h, rfl⟩) (fun _ _ _ h => ⟨h, rfl⟩) (fun b us nb q => ⟨Ext.upd h _ _ q, .inl (I.nst.of nb).1⟩) (fun _ _ r => r.step (StF.new (O := O) h).stp I.wd) fun _ _ h => h
/-- behind a def's call -/
theorem Est.call (I : Est F σ H O s) {c : List Int} (st : StF F.δ H O H' O') (w : Wd F.m F.δ H' O' c) : Est F σ H' O' { s with c := c } where
  wd := w
  env := ⟨I.env.len, fun i d h1 => let ⟨v, h1, h2⟩ := I.env.vals i d h1; ⟨v, h1, h2.step st.stp I.wd⟩,
    fun i xs h1 => let ⟨a, vs, h1, h2, h3, h4, h5, h6⟩ := I.env.owns i xs h1; ⟨a, vs, h1, st.stay a h2, h3, st.keep a _ h3 nt_lst h4, h5.step st.stp I.wd, h6⟩, I.env.uniq⟩
  base := I.base.trans st
  nst := I.nst.to (fun _ _ h => ⟨h, rfl⟩) (fun _ _ _ h => ⟨h, rfl⟩) (fun b us nb q => ⟨st.keep b _ (I.nst.of nb).2.1 nt_lst q, st.stay b (I.nst.of nb).1⟩) (fun _ _ r => r.step st.stp I.wd) fun _ _ h => h

/-- a new tuple: tracked as a tuple, or as one known whole -/
def NewT (H : Hp) (p : Addr) (vs : List V) (Q : VK) : Prop := Q (.ref p) (upd H p (.tup vs)) ∨ ∀ o : Obj, o.dict = none → Q (.ref p) (upd H p (.frz o (.tup vs)))
theorem newT_of {K : PySem.W.Frag} {m : Pm} {H : Hp} {O : Addr → Prop} {δ : Option Addr} {c : List Int} {vs : List V} {ds : List D} {Q : VK} {p : Addr} (w : Wd m δ H O c) (hp : H p = none) (r : RepDs K H O δ vs ds) (k : ∀ v H', Ext H H' → RepD K H' O δ v (.tuple ds) → Q v H') : NewT H p vs Q := by
  cases h : prD ds with
  | false => exact .inl (k _ _ (Ext.upd hp) (.tup (.of upd_same) (fun z => by rw [h] at z; cases z) (r.step (StF.stp ((Ext.upd hp).stF (O := O))) w)))
  | true => exact .inr fun o ho => k _ _ (Ext.upd hp) (.tup (.inl (.inr ⟨o, upd_same⟩)) (fun _ => ⟨o, upd_same, ho⟩) (r.step (StF.stp ((Ext.upd hp).stF (O := O))) w))
/-- .. laid -/
theorem newT_laid {H : Hp} {vs : List V} {X : Cx} {pins : List (Addr × Obj)} {σ : St} {s : Shared} {h' : Heap} {us : List Value} {tk : Nat} {Q : VK} (I : Inv X pins σ H s) (k : ∀ b u, s.heap.get? b = some u → h'.get? b = some u) {p : Addr} (hp : s.heap.objs.size ≤ p)
    (hz : vs.length ≤ sizeLine) (r : Vals vs us) (hg : h'.get? p = some { cls := .type "tuple", data := .seq us.toArray }) (q : NewT H p vs Q) : ∃ v H', Inv X pins σ H' { s with heap := h', toks := tk } ∧ RelV v (.ref p) ∧ Q v H' := by
  have it : IsTup h' p us.toArray := ⟨_, hg, rfl, _, rfl⟩
  rcases q with q | q
  · exact ⟨.ref p, _, I.laid (t' := tk) (o := .tup vs) k hp ⟨hz, us, r, it⟩, rfl, q⟩
  · exact ⟨.ref p, _, I.laid (t' := tk) (o := .frz { cls := .type "tuple", data := .seq us.toArray } (.tup vs)) k hp ⟨hg, hz, us, r, it⟩, rfl, q _ rfl⟩
/-- what a built-in hands back: data (objects may have been laid), or a new list -/
def Res (F : Fx) (H : Hp) (O : Addr → Prop) (Q : VK) : Sl → Prop
  | .un => False
  | .val d => ∀ v H', Ext H H' → RepD F.m.K H' O F.δ v d → Q v H'
  | .own xs => ∀ p vs, H p = none → RepDs F.m.K H O F.δ vs xs → Q (.ref p) (upd H p (.lst vs))
  | .nst _ => False
  | .ali _ _ => False
/-- data or an own list -/
def plainS : Sl → Prop
  | .val _ => True
  | .own _ => True
  | _ => False
def liftR (o : Option Sl) (s : S) : RE := match o with
  | some (.val d) => .ok (.val d) s
  | some (.own xs) => .ok (.own xs) s
  | _ => .stuck
theorem KE_lift {s' : S} {o : Option Sl} (k : KE F σ H O s Q (liftR o s')) : ∃ z, o = some z ∧ plainS z ∧ KE F σ H O s Q (.ok z s') := by
  unfold liftR at k
  split at k
  · exact ⟨_, rfl, trivial, k⟩
  · exact ⟨_, rfl, trivial, k⟩
  · exact k.elim
theorem Res.of {s0 : S} {H0 : Hp} {O0 : Addr → Prop} {x : Sl} (I0 : Est F σ H0 O0 s0) (st : StE F.δ σ H0 O0 s0.e H O s.e) (I : Est F σ H O s) (k : KE F σ H0 O0 s0 Q (.ok x s)) (hx : plainS x) : Res F H O Q x := by
  cases x with
  | un => exact hx.elim
  | nst _ => exact hx.elim
  | ali _ _ => exact hx.elim
  | val d => exact fun v H' e r => k v H' O (st.trans e.stF.toE) (I.ext e) r
  | own xs =>
    intro p vs hp hr
    have hd : F.δ ≠ some p := fun z => by rw [(I.wd.cel p z).2] at hp; cases hp
    have h0 : H0 p = none := by
      cases q0 : H0 p with
      | none => rfl
      | some o => exact absurd hp (st.there p (by rw [q0]; simp))
    exact k (.ref p) _ (OAdd O p) (st.trans (StF.new hp).toE) (I.new hp) ⟨p, vs, rfl, .inr rfl, hd, upd_same, hr.step (StF.new (O := O) hp).stp I.wd, h0⟩

/-! ### names, constants -/
def eC (d : D) : DE := fun s => .ok (.val d) s
theorem e_of {e : Expr} (h : PE X e (tC v)) (r : ∀ H O, RepD F.m.K H O F.δ v d) : EO F X e (eC d) :=
  ⟨_, h, fun σ H O s Q I k => k v H O .refl I (r H O)⟩
theorem e_int {i : Int} {j pos} : EO F X (.Constant (.int i) j pos) (eC (.int i)) := e_of pe_int fun _ _ => .int i
theorem e_bl {b j pos} : EO F X (.Constant (.bool b) j pos) (eC (.bool b)) := e_of pe_bl fun _ _ => .bl b
theorem e_non {j pos} : EO F X (.Constant .none j pos) (eC .none) := e_of pe_non fun _ _ => .non
theorem e_str {x j pos} : EO F X (.Constant (.str x) j pos) (eC (.str x)) := e_of pe_str fun _ _ => .str x
/-- a module's constant -/
theorem e_glob {x : Str} {i : Int} {t : Tok} {pos : Pos} (hg : Gl X x) (hm : X.mg x = some (.int i t)) (hd : (x == ("__debug__" : Str)) = false := by decide) : EO F X (.Name x pos) (eC (.int i)) :=
  e_of (pe_glob hg hm (v := .int i) ⟨_, rfl⟩ hd) fun _ _ => .int i
theorem e_globS {x y : Str} {t : Tok} {pos : Pos} (hg : Gl X x) (hm : X.mg x = some (.str y t)) (hd : (x == ("__debug__" : Str)) = false := by decide) : EO F X (.Name x pos) (eC (.str y)) :=
  e_of (pe_glob hg hm (v := .str y) ⟨_, rfl⟩ hd) fun _ _ => .str y
def eVar (i : Nat) : DE := fun s => match s.e[i]? with
  | some (.val d) => .ok (.val d) s
  | some (.own xs) => .ok (.val (.list xs)) { s with e := s.e.set i (.val (.list xs)) }
  | _ => .stuck
theorem e_var (i : Nat) {x : Str} {pos : Pos} (hN : X.N[i]? = some x := by rfl) (hv : Vis X.env.scope x := by first | exact Or.inl rfl | exact Or.inr (Or.inl rfl) | exact Or.inr (Or.inr rfl)) (hd : (x == ("__debug__" : Str)) = false := by decide)
    (hcd : (x == ("__classdict__" : Str)) = false := by decide) : EO F X (.Name x pos) (eVar i) := by
  refine ⟨_, pe_var hN hv hd hcd, fun σ H O s Q I k => ?_⟩
  unfold eVar at k
  split at k
  · rename_i d h
    obtain ⟨v, h1, h2⟩ := I.env.vals i d h
    exact ⟨v, h1, k v H O .refl I h2⟩
  · rename_i xs h
    obtain ⟨a, h1, I', st, r⟩ := I.rest h
    exact ⟨_, h1, k _ H _ st I' r⟩
  · exact k.elim

/-! ### two parts, then an operation by values -/
def RE.bind (r : RE) (k : D → S → RE) : RE := match r with
  | .ok x s => k x.d s
  | .er e c => .er e c
  | .stuck => .stuck
def eOp (g : D → D → Option Sl) (a b : DE) : DE := fun s => (a s).bind fun x s1 => (b s1).bind fun y s2 => liftR (g x y) s2
/-- the rule r of the layer does g -/
def OpS (F : Fx) (r : R2) (g : D → D → Option Sl) : Prop := ∀ H O c x y dx dy z Q, Wd F.m F.δ H O c → RepD F.m.K H O F.δ x dx → RepD F.m.K H O F.δ y dy → g dx dy = some z → Res F H O Q z → r x y H Q
/-- the first part -/
theorem SE.bind {k : D → S → RE} {a : DE} {ta : TE} {R : VK} (ha : SE F ta a) (I : Est F σ H O s) (h : KE F σ H O s Q ((a s).bind k))
    (hk : ∀ x s1 v H1 O1, StE F.δ σ H O s.e H1 O1 s1.e → Est F σ H1 O1 s1 → RepD F.m.K H1 O1 F.δ v x → KE F σ H O s Q (k x s1) → R v H1) : ta σ H R := by
  refine ha.use I ?_
  cases q : a s with
  | stuck => rw [q] at h; exact h
  | er e c => rw [q] at h; exact h
  | ok x s1 => rw [q] at h; exact fun v H1 O1 st I1 r => hk x.d s1 v H1 O1 st I1 r h
theorem SE.bindT {k : D → S → RE} {a : DE} {ta : TE} {R : VK} {QT : Bool → Hp → Prop} (ha : SE F ta a) (I : Est F σ H O s) (h : KT F σ H O s QT ((a s).bind k))
    (hk : ∀ x s1 v H1 O1, StE F.δ σ H O s.e H1 O1 s1.e → Est F σ H1 O1 s1 → RepD F.m.K H1 O1 F.δ v x → KT F σ H O s QT (k x s1) → R v H1) : ta σ H R := by
  refine ha.use I ?_
  cases q : a s with
  | stuck => rw [q] at h; exact h
  | er e c => rw [q] at h; exact h
  | ok x s1 => rw [q] at h; exact fun v H1 O1 st I1 r => hk x.d s1 v H1 O1 st I1 r h
theorem s_op {r : R2} {op : D → D → Option Sl} {ta tb : TE} {a b : DE} (ha : SE F ta a) (hb : SE F tb b) (hs : OpS F r op) : SE F (tOp r ta tb) (eOp op a b) := by
  intro σ H O s Q I k
  refine ha.bind I k fun x s1 v1 H1 O1 st1 I1 r1 k => ?_
  refine hb.use I1 ?_
  cases qb : b s1 with
  | stuck => rw [qb] at k; exact k
  | er e c => rw [qb] at k; exact k
  | ok y s2 =>
    rw [qb] at k
    intro v2 H2 O2 st2 I2 r2
    obtain ⟨z, qo, zn, k⟩ := KE_lift k
    exact hs H2 O2 s2.c v1 v2 x y.d z Q I2.wd (r1.step st2.stp I1.wd) r2 qo (Res.of I (st1.trans st2) I2 k zn)
theorem e_op {r : R2} {g : D → D → Option Sl} {op : Operator} {a b : Expr} {fa fb : DE} {pos : Pos} (ho : OpR X (binaryOp op) r) (hs : OpS F r g) (ha : EO F X a fa) (hb : EO F X b fb) : EO F X (.BinOp a op b pos) (eOp g fa fb) :=
  let ⟨_, pa, sa⟩ := ha
  let ⟨_, pb, sb⟩ := hb
  ⟨_, pe_op ho pa pb, s_op sa sb hs⟩
end
end DL

set_option Elab.async false
set_option linter.all false
set_option maxRecDepth 100000
set_option maxHeartbeats 4000000
/-! DLc: operations by values. -/
namespace DL
open PySem PySem.Spec L2
open PyProof.Rows hiding St

section
variable {F : Fx} {X : Cx} {H H' H1 H2 : Hp} {O O' O1 O2 : Addr → Prop} {σ : St} {s s1 s2 : S} {Q : VK} {t : TE} {f g : DE} {v : V} {d : D} {K : PySem.W.Frag} {δ : Option Addr}

theorem RepD.int_inv {i : Int} (r : RepD K H O δ v (.int i)) : v = .int i := by cases r; rfl
theorem RepD.bool_inv {i : Bool} (r : RepD K H O δ v (.bool i)) : v = .bl i := by cases r; rfl
theorem RepD.str_inv {i : Str} (r : RepD K H O δ v (.str i)) : v = .str i := by cases r; rfl
theorem RepD.none_inv (r : RepD K H O δ v .none) : v = .non := by cases r; rfl
theorem RepD.tup_inv {xs : List D} (r : RepD K H O δ v (.tuple xs)) : ∃ a vs, v = .ref a ∧ SqT K H a vs ∧ RepDs K H O δ vs xs := by cases r with | tup h p r => exact ⟨_, _, rfl, h, r⟩
theorem RepD.tup_invP {xs : List D} (r : RepD K H O δ v (.tuple xs)) : ∃ a vs, v = .ref a ∧ SqT K H a vs ∧ (prD xs = true → Pl H a vs) ∧ RepDs K H O δ vs xs := by cases r with | tup h p r => exact ⟨_, _, rfl, h, p, r⟩
theorem RepD.list_inv {xs : List D} (r : RepD K H O δ v (.list xs)) : ∃ a vs, v = .ref a ∧ H a = some (.lst vs) ∧ ¬ O a ∧ RepDs K H O δ vs xs := by cases r with | lst h n r => exact ⟨_, _, rfl, h, n, r⟩
theorem keyD_none (k : Key) : keyD k ≠ .none := by cases k <;> intro h <;> cases h
theorem keyD_bool (k : Key) (b : Bool) : keyD k ≠ .bool b := by cases k <;> intro h <;> cases h
theorem RepD.cell_inv (r : RepD K H O δ v dcell) : ∃ a, v = .ref a ∧ δ = some a := by
  generalize e : dcell = d at r
  cases r with
  | cell h => exact ⟨_, rfl, h⟩
  | dic h n q =>
    exfalso
    unfold dcell at e
    injection e with e
    rename_i kvs ds
    cases kvs with
    | nil => simp at e
    | cons p l =>
      cases ds with
      | nil => simp at e
      | cons x r =>
        simp only [List.map_cons, List.zip_cons_cons, List.cons.injEq, Prod.mk.injEq] at e
        exact keyD_none _ e.1.1.symm
  | scr h q => unfold dcell dscr at e; simp at e
  | dtt h n => unfold dcell dttD at e; simp at e
  | fn h => unfold dcell dfn at e; simp at e
  | _ => unfold dcell at e; cases e
theorem RepD.scr_inv {xs : List D} (r : RepD K H O δ v (dscr xs)) : ∃ a vs, v = .ref a ∧ SqL K H a vs ∧ RepDs K H O δ vs xs := by
  generalize e : dscr xs = d at r
  cases r with
  | scr h q =>
    unfold dscr at e
    simp at e
    subst e
    exact ⟨_, _, rfl, sqL_of h, q⟩
  | cell h => unfold dcell dscr at e; simp at e
  | fn h => unfold dfn dscr at e; simp at e
  | dtt h n => unfold dttD dscr at e; simp at e
  | dic h n q =>
    exfalso
    unfold dscr at e
    injection e with e
    rename_i kvs ds
    cases kvs with
    | nil => simp at e
    | cons p l =>
      cases ds with
      | nil => simp at e
      | cons x r =>
        simp only [List.map_cons, List.zip_cons_cons, List.cons.injEq, Prod.mk.injEq] at e
        exact keyD_bool _ _ e.1.1.symm
  | _ => unfold dscr at e; cases e

theorem RepD.dtt_inv {xs : List D} (r : RepD K H O δ v (.dict [(.bool false, .list xs)])) : ∃ (a : Addr) (ls : List (Int × Int)), v = .ref a ∧ H a = some (.dT (ls.map ttE)) ∧ ¬ O a ∧ xs = ls.map fun p => PyData.tuple [.int p.1, .int p.2] := by
  generalize e : PyData.dict [(PyData.bool false, PyData.list xs)] = d at r
  cases r with
  | dtt h n =>
    unfold dttD at e
    simp at e
    exact ⟨_, _, rfl, h, n, e⟩
  | cell h => unfold dcell at e; simp at e
  | scr h q => unfold dscr at e; simp at e
  | fn h => unfold dfn at e; simp at e
  | dic h n q =>
    exfalso
    injection e with e
    rename_i kvs ds
    cases kvs with
    | nil => simp at e
    | cons p l =>
      cases ds with
      | nil => simp at e
      | cons x r =>
        simp only [List.map_cons, List.zip_cons_cons, List.cons.injEq, Prod.mk.injEq] at e
        exact keyD_bool _ _ e.1.1.symm
  | _ => cases e
theorem OpS.or {r r' : R2} {g g' : D → D → Option Sl} (h : OpS F r g) (h' : OpS F r' g') : OpS F (fun x y H Q => r x y H Q ∨ r' x y H Q) (fun x y => match g x y with | some z => some z | none => g' x y) := by
  intro H O c x y dx dy z Q w rx ry hg hq
  have hg : (match g dx dy with | some z => some z | none => g' dx dy) = some z := hg
  split at hg
  · rename_i z' e
    cases hg
    exact .inl (h H O c x y dx dy z Q w rx ry e hq)
  · exact .inr (h' H O c x y dx dy z Q w rx ry hg hq)

/-! ### ints -/
def gI (C : Int → Int → Bool) (f : Int → Int → D) : D → D → Option Sl
  | .int i, .int j => if C i j then some (.val (f i j)) else none
  | _, _ => none
theorem s_rI {C : Int → Int → Prop} {C' : Int → Int → Bool} {gv : Int → Int → V} {gd : Int → Int → D} (hc : ∀ i j, C' i j = true → C i j) (hv : ∀ (H : Hp) (O : Addr → Prop) i j, RepD F.m.K H O F.δ (gv i j) (gd i j)) : OpS F (rI C gv) (gI C' gd) := by
  intro H O c x y dx dy z Q w rx ry hg hq
  unfold gI at hg
  split at hg
  · rename_i i j
    split at hg
    · rename_i hC
      cases hg
      exact ⟨i, j, rx.int_inv, ry.int_inv, hc i j hC, hq _ H .refl (hv _ _ i j)⟩
    · cases hg
  · cases hg
theorem s_rI0 {gv : Int → Int → V} {gd : Int → Int → D} (hv : ∀ (H : Hp) (O : Addr → Prop) i j, RepD F.m.K H O F.δ (gv i j) (gd i j)) : OpS F (rI0 gv) (gI (fun _ _ => true) gd) := by
  intro H O c x y dx dy z Q w rx ry hg hq
  unfold gI at hg
  split at hg
  · rename_i i j
    simp only [if_true] at hg
    cases hg
    exact ⟨i, j, rx.int_inv, ry.int_inv, hq _ H .refl (hv _ _ i j)⟩
  · cases hg
abbrev lim64 (i : Int) : Bool := decide (-(2 ^ 64) < i) && decide (i < 2 ^ 64)
/-! ### + -/
def addD : D → D → Option Sl
  | .int i, .int j => some (.val (.int (i + j)))
  | .str a, .str b => if a.length + b.length ≤ sizeLine then some (.val (.str (a ++ b))) else none
  | .tuple a, .tuple b => if a.length + b.length ≤ sizeLine ∧ prD (a ++ b) = false then some (.val (.tuple (a ++ b))) else none
  | .list a, .list b => if a.length + b.length ≤ sizeLine then some (.own (a ++ b)) else none
  | _, _ => none
def rAddD (K : PySem.W.Frag) : R2 := fun x y H Q => rI0 (fun i j => .int (i + j)) x y H Q ∨ (∃ i j, x = .str i ∧ y = .str j ∧ i.length + j.length ≤ sizeLine ∧ Q (.str (i ++ j)) H) ∨ rCatA K x y H Q ∨ rCat x y H Q
theorem op_addD : OpR X (binaryOp .Add) (rAddD X.K) := op_add.or (op_add_str.or (op_catA.or op_cat))
theorem s_addD : OpS F (rAddD F.m.K) addD := by
  intro H O c x y dx dy z Q w rx ry hg hq
  unfold addD at hg
  split at hg
  · cases hg
    exact .inl ⟨_, _, rx.int_inv, ry.int_inv, hq _ H .refl (.int _)⟩
  · split at hg
    · cases hg
      exact .inr (.inl ⟨_, _, rx.str_inv, ry.str_inv, by assumption, hq _ H .refl (.str _)⟩)
    · cases hg
  · split at hg
    · rename_i hc
      cases hg
      obtain ⟨a, vs, rfl, ha, pa, ra⟩ := rx.tup_invP
      obtain ⟨b, ws, rfl, hb, pb, rb⟩ := ry.tup_invP
      refine .inr (.inr (.inl ⟨a, b, vs, ws, rfl, rfl, ha, hb, by rw [ra.length, rb.length]; exact hc.1, fun e => ?_, fun _ e => ?_, fun _ _ p hp => ?_⟩))
      · subst e
        cases ra
        exact hq _ H .refl (.tup hb pb rb)
      · subst e
        cases rb
        rw [List.append_nil] at hq
        exact hq _ H .refl (.tup ha pa ra)
      · exact hq _ _ (Ext.upd hp) (.tup (.of upd_same) (fun z => by rw [hc.2] at z; cases z) ((ra.append rb).step (StF.stp ((Ext.upd hp).stF (O := O))) w))
    · cases hg
  · split at hg
    · cases hg
      obtain ⟨a, vs, rfl, ha, _, ra⟩ := rx.list_inv
      obtain ⟨b, ws, rfl, hb, _, rb⟩ := ry.list_inv
      exact .inr (.inr (.inr ⟨a, b, vs, ws, rfl, rfl, ha, hb, by rw [ra.length, rb.length]; assumption, fun p hp => hq p _ hp (ra.append rb)⟩))
    · cases hg
  · cases hg
def eAdd (a b : DE) : DE := eOp addD a b
theorem e_add {a b : Expr} {fa fb : DE} {pos : Pos} (hK : F.m.K = X.K) (ha : EO F X a fa) (hb : EO F X b fb) : EO F X (.BinOp a .Add b pos) (eAdd fa fb) := e_op op_addD (hK ▸ s_addD) ha hb
def subD : D → D → Option Sl := gI (fun _ _ => true) fun i j => .int (i - j)
def eSub (a b : DE) : DE := eOp subD a b
theorem e_sub {a b : Expr} {fa fb : DE} {pos : Pos} (ha : EO F X a fa) (hb : EO F X b fb) : EO F X (.BinOp a .Sub b pos) (eSub fa fb) := e_op op_sub (s_rI0 fun _ _ _ _ => .int _) ha hb
def divD : D → D → Option Sl := gI (fun _ j => decide (0 < j) && decide (j < 1073741824)) fun i j => .int (i / j)
def eDiv (a b : DE) : DE := eOp divD a b
theorem e_div {a b : Expr} {fa fb : DE} {pos : Pos} (ha : EO F X a fa) (hb : EO F X b fb) : EO F X (.BinOp a .FloorDiv b pos) (eDiv fa fb) :=
  e_op op_fdiv (s_rI (fun i j h => by simpa [CDiv] using h) fun _ _ _ _ => .int _) ha hb
def modD : D → D → Option Sl := gI (fun _ j => decide (0 < j)) fun i j => .int (i % j)
def eMod (a b : DE) : DE := eOp modD a b
theorem e_mod {a b : Expr} {fa fb : DE} {pos : Pos} (ha : EO F X a fa) (hb : EO F X b fb) : EO F X (.BinOp a .Mod b pos) (eMod fa fb) :=
  e_op op_mod (s_rI (fun i j h => by simpa using h) fun _ _ _ _ => .int _) ha hb
def powD : D → D → Option Sl := gI (fun i j => decide (0 ≤ j) && decide (j ≤ 1000000) && decide (i.natAbs < 2 ^ 64)) fun i j => .int (i ^ j.toNat)
def ePow (a b : DE) : DE := eOp powD a b
theorem e_pow {a b : Expr} {fa fb : DE} {pos : Pos} (ha : EO F X a fa) (hb : EO F X b fb) : EO F X (.BinOp a .Pow b pos) (ePow fa fb) :=
  e_op op_pow (s_rI (fun i j h => by simp only [Bool.and_eq_true, decide_eq_true_eq] at h; exact ⟨h.1.1, h.1.2, h.2⟩) fun _ _ _ _ => .int _) ha hb

/-! ### * -/
theorem tuple_mul1 (l : Addr) (items : Array Value) (n : Nat) (dd : Option Addr) (sl : Array (Option Value)) (u : Tok) :
    Meets (Builtin.«tuple.__mul__» ⟨[.ref l, .int 1 u], []⟩) (fun _ R s => s.heap.get? l = some { cls := .type "tuple", dict := dd, data := .seq items n, slots := sl } ∧ R (.ok (.ret (Value.ref l))) s) :=
  .of_wp fun prog w A R s h => by
    obtain ⟨hp, g, d, tk, os⟩ := s
    obtain ⟨hl, h⟩ := h
    have f1 := AutoSeq1.idx_int
    have c1 : (items.isEmpty || (1 : Int) == 1) = true := by simp
    wp_walk using wpAny_loadPart' hl
    repeat (first
      | (refine wpAny_ite_false (decide_eq_false (by decide)) ?_; wp_walk using wpAny_loadPart' hl)
      | (refine wpAny_ite_true (decide_eq_true c1) ?_; wp_walk using wpAny_loadPart' hl))
    exact ⟨_, rfl, h⟩
def rRepT1 (K : PySem.W.Frag) : R2 := fun x y H Q => ∃ l xs, x = .ref l ∧ y = .int 1 ∧ SqT K H l xs ∧ Q (.ref l) H
theorem op_repT1 : OpR X (binaryOp .Mult) (rRepT1 X.K) := by
  intro pins s σ H x y v u Q I rx ry h
  obtain ⟨l, xs, rfl, rfl, hT, q⟩ := h
  cases rx
  obtain ⟨t, rfl⟩ := ry
  obtain ⟨its, r, ⟨⟨cls, dd, data, sl⟩, ho, hc, n, hd⟩, hs⟩ := I.tuple hT
  simp only at hc hd
  subst hc hd
  refine wpAny_binaryOp_repeat_ref (T := "tuple") (U := "int") (by decide) ⟨_, ho, rfl⟩ (fun s' => typeIs_int s' 1 t) noFill_tuple_mul F.fills_int_mul F.slot_int_rmul repeat_tuple F.slot_int_index.lookup
    (call_meets F.slot_int_rmul (typeIs_int s 1 t) F.entry_int_rmul (F.args_int_rmul_2 _ _) (int_rmul_tuple 1 t l its.toArray n dd sl)
      ⟨ho, rfl, ⟨_, ho, rfl⟩, call_meets F.slot_tuple_mul ⟨_, ho, rfl⟩ F.entry_tuple_mul (F.args_tuple_mul_2 _ _) (tuple_mul1 l its.toArray n dd sl t) ⟨ho, ?_⟩⟩)
  exact ⟨.ref l, _, I, rfl, q⟩
def mulD : D → D → Option Sl
  | .int i, .int j => if lim64 i || lim64 j then some (.val (.int (i * j))) else none
  | .tuple a, .int k => if k = 1 then some (.val (.tuple a)) else if a ≠ [] ∧ 2 ≤ k ∧ k ≤ 1000 ∧ a.length ≤ 1000 ∧ prD (List.replicate k.toNat a).flatten = false then some (.val (.tuple (List.replicate k.toNat a).flatten)) else none
  | .list a, .int k => if 0 ≤ k ∧ k < 2 ^ 62 ∧ a.length * k.toNat ≤ sizeLine then some (.own (List.replicate k.toNat a).flatten) else none
  | _, _ => none
def rMulD (K : PySem.W.Frag) : R2 := fun x y H Q => rI CMul (fun i j => .int (i * j)) x y H Q ∨ rRepT1 K x y H Q ∨ rRepT K x y H Q ∨ rRep x y H Q
theorem op_mulD : OpR X (binaryOp .Mult) (rMulD X.K) := op_mul.or (op_repT1.or (op_repT.or op_rep))
theorem s_mulD : OpS F (rMulD F.m.K) mulD := by
  intro H O c x y dx dy z Q w rx ry hg hq
  unfold mulD at hg
  split at hg
  · split at hg
    · rename_i i j hl
      cases hg
      refine .inl ⟨_, _, rx.int_inv, ry.int_inv, ?_, hq _ H .refl (.int _)⟩
      simp only [lim64, Bool.or_eq_true, Bool.and_eq_true, decide_eq_true_eq] at hl
      exact hl
    · cases hg
  · split at hg
    · rename_i hk
      subst hk
      cases hg
      obtain ⟨a, vs, rfl, ha, pa, ra⟩ := rx.tup_invP
      exact .inr (.inl ⟨a, vs, rfl, ry.int_inv, ha, hq _ H .refl (.tup ha pa ra)⟩)
    · split at hg
      · rename_i hk hc
        cases hg
        obtain ⟨a, vs, rfl, ha, ra⟩ := rx.tup_inv
        refine .inr (.inr (.inl ⟨a, _, vs, rfl, ry.int_inv, ha, fun e => ?_, hc.2.1, hc.2.2.1, by rw [ra.length]; exact hc.2.2.2.1, fun p hp => ?_⟩))
        · subst e
          cases ra
          exact hc.1 rfl
        · exact hq _ _ (Ext.upd hp) (.tup (.of upd_same) (fun z => by rw [hc.2.2.2.2] at z; cases z) ((ra.rep _).step (StF.stp ((Ext.upd hp).stF (O := O))) w))
      · cases hg
  · split at hg
    · rename_i hc
      cases hg
      obtain ⟨a, vs, rfl, ha, _, ra⟩ := rx.list_inv
      exact .inr (.inr (.inr ⟨a, _, vs, rfl, ry.int_inv, ha, by omega, by omega, by rw [ra.length]; exact hc.2.2, fun p hp => hq p _ hp (ra.rep _)⟩))
    · cases hg
  · cases hg
def eMul (a b : DE) : DE := eOp mulD a b
theorem e_mul {a b : Expr} {fa fb : DE} {pos : Pos} (hK : F.m.K = X.K) (ha : EO F X a fa) (hb : EO F X b fb) : EO F X (.BinOp a .Mult b pos) (eMul fa fb) := e_op op_mulD (hK ▸ s_mulD) ha hb

/-! ### comparisons -/
mutual
theorem RepD.dp : ∀ {d : D} {v : V}, d.canLay0 = true → RepD K H O δ v d → Dp K H v d
  | .none, _, _, r => by cases r.none_inv; exact .non
  | .bool b, _, _, r => by cases r.bool_inv; exact .bl b
  | .int i, _, _, r => by cases r.int_inv; exact .int i
  | .str x, _, _, r => by cases r.str_inv; exact .str x
  | .tuple xs, _, h, r => by
    obtain ⟨a, vs, rfl, ha, ra⟩ := r.tup_inv
    exact .tup ha (RepDs.dp (by simpa [PyData.canLay0] using h) ra)
  | .list xs, _, h, r => by
    obtain ⟨a, vs, rfl, ha, _, ra⟩ := r.list_inv
    exact .lst (.of ha) (RepDs.dp (by simpa [PyData.canLay0] using h) ra)
  | .dict _, _, h, _ => by simp [PyData.canLay0] at h
theorem RepDs.dp : ∀ {ds : List D} {vs : List V}, PyData.canLayAll0 ds = true → RepDs K H O δ vs ds → DpAll K H vs ds
  | [], _, _, .nil => .nil
  | x :: xs, _, h, .cons r t => by
    have h' : PyData.canLay0 x = true ∧ PyData.canLayAll0 xs = true := by simpa [PyData.canLayAll0] using h
    exact .cons (RepD.dp h'.1 r) (RepDs.dp h'.2 t)
end
theorem shaped_lay {d : D} (h : SeqAt.shaped d = true) : d.canLay0 = true := SeqAt.canLay_of_shaped h
def eqD (x y : D) : Option Sl := if SeqAt.shaped x && SeqAt.shaped y then some (.val (.bool (PyData.eqv x y))) else none
def neD (x y : D) : Option Sl := if SeqAt.shaped x && SeqAt.shaped y then some (.val (.bool (!PyData.eqv x y))) else none
theorem s_eqD : OpS F (rEqD F.m.K) eqD := by
  intro H O c x y dx dy z Q w rx ry hg hq
  unfold eqD at hg
  split at hg
  · rename_i h
    simp only [Bool.and_eq_true] at h
    cases hg
    exact ⟨dx, dy, rx.dp (shaped_lay h.1), ry.dp (shaped_lay h.2), h.1, h.2, hq _ H .refl (.bl _)⟩
  · cases hg
theorem s_neD : OpS F (rNeD F.m.K) neD := by
  intro H O c x y dx dy z Q w rx ry hg hq
  unfold neD at hg
  split at hg
  · rename_i h
    simp only [Bool.and_eq_true] at h
    cases hg
    exact ⟨dx, dy, rx.dp (shaped_lay h.1), ry.dp (shaped_lay h.2), h.1, h.2, hq _ H .refl (.bl _)⟩
  · cases hg
theorem s_cmpT {r : R2} {g : D → D → Option Sl} {ta tb : TE} {a b : DE} (ha : SE F ta a) (hb : SE F tb b) (hs : OpS F r g) (hg : ∀ x y z, g x y = some z → ∃ k, z = .val (.bool k)) : ST F (tTest (tOp r ta tb)) (eOp g a b) := by
  intro σ H O s Q I k
  show tOp r ta tb σ H fun x H' => ∃ k, x = .bl k ∧ Q k H'
  refine s_op ha hb hs σ H O s _ I ?_
  cases q : eOp g a b s with
  | stuck => rw [q] at k; exact k
  | er e c => rw [q] at k; exact k
  | ok x s' =>
    rw [q] at k
    have hx : ∃ k, x = .val (.bool k) := by
      unfold eOp at q
      cases qa : a s with
      | stuck => rw [qa] at q; cases q
      | er e c => rw [qa] at q; cases q
      | ok y s1 =>
        rw [qa] at q
        have q : (b s1).bind (fun y' s2 => liftR (g y.d y') s2) = .ok x s' := q
        cases qb : b s1 with
        | stuck => rw [qb] at q; cases q
        | er e c => rw [qb] at q; cases q
        | ok w s2 =>
          rw [qb] at q
          have q : liftR (g y.d w.d) s2 = .ok x s' := q
          unfold liftR at q
          split at q
          · rename_i d e
            obtain ⟨k', e2⟩ := hg _ _ _ e
            cases q
            exact ⟨k', e2⟩
          · rename_i xs e
            obtain ⟨k', e2⟩ := hg _ _ _ e
            cases e2
          · cases q
    obtain ⟨b', rfl⟩ := hx
    intro v H' O' st I' r
    exact ⟨b', RepD.bool_inv (show RepD F.m.K H' O' F.δ v (.bool b') from r), k H' O' st I'⟩
theorem e_cmp {r : R2} {g : D → D → Option Sl} {op : CmpOp} {a b : Expr} {fa fb : DE} {pos : Pos} (ho : OpR X (compareOp op) r) (hs : OpS F r g) (hm : behindInMarks op b = false) (ha : EO F X a fa) (hb : EO F X b fb) : EO F X (.Compare a [op] [b] pos) (eOp g fa fb) :=
  let ⟨_, pa, sa⟩ := ha
  let ⟨_, pb, sb⟩ := hb
  ⟨_, pe_cmpR ho pa pb hm, s_op sa sb hs⟩
theorem t_cmp {r : R2} {g : D → D → Option Sl} {op : CmpOp} {a b : Expr} {fa fb : DE} {pos : Pos} (ho : OpR X (compareOp op) r) (hs : OpS F r g) (hg : ∀ x y z, g x y = some z → ∃ k, z = .val (.bool k)) (hm : behindInMarks op b = false) (ha : EO F X a fa) (hb : EO F X b fb) :
    TO F X (.Compare a [op] [b] pos) (eOp g fa fb) :=
  let ⟨_, pa, sa⟩ := ha
  let ⟨_, pb, sb⟩ := hb
  ⟨_, pt_cmpR ho pa pb hm, s_cmpT sa sb hs hg⟩
theorem gI_bool {C : Int → Int → Bool} {p : Int → Int → Bool} : ∀ x y z, gI C (fun i j => .bool (p i j)) x y = some z → ∃ k, z = .val (.bool k) := by
  intro x y z h
  unfold gI at h
  split at h
  · split at h
    · cases h; exact ⟨_, rfl⟩
    · cases h
  · cases h
theorem eqD_bool : ∀ x y z, eqD x y = some z → ∃ k, z = .val (.bool k) := by
  intro x y z h
  unfold eqD at h
  split at h
  · cases h; exact ⟨_, rfl⟩
  · cases h
theorem neD_bool : ∀ x y z, neD x y = some z → ∃ k, z = .val (.bool k) := by
  intro x y z h
  unfold neD at h
  split at h
  · cases h; exact ⟨_, rfl⟩
  · cases h
def ltD : D → D → Option Sl := gI (fun _ _ => true) fun i j => .bool (decide (i < j))
def leD : D → D → Option Sl := gI (fun _ _ => true) fun i j => .bool (decide (i ≤ j))
def gtD : D → D → Option Sl := gI (fun _ _ => true) fun i j => .bool (decide (j < i))
def geD : D → D → Option Sl := gI (fun _ _ => true) fun i j => .bool (decide (j ≤ i))
theorem s_lt : OpS F (rI0 fun i j => .bl (decide (i < j))) ltD := s_rI0 fun _ _ _ _ => .bl _
theorem s_le : OpS F (rI0 fun i j => .bl (decide (i ≤ j))) leD := s_rI0 fun _ _ _ _ => .bl _
theorem s_gt : OpS F (rI0 fun i j => .bl (decide (j < i))) gtD := s_rI0 fun _ _ _ _ => .bl _
theorem s_ge : OpS F (rI0 fun i j => .bl (decide (j ≤ i))) geD := s_rI0 fun _ _ _ _ => .bl _
def eLt (a b : DE) : DE := eOp ltD a b
def eLe (a b : DE) : DE := eOp leD a b
def eGt (a b : DE) : DE := eOp gtD a b
def eGe (a b : DE) : DE := eOp geD a b
def eEq (a b : DE) : DE := eOp eqD a b
def eNe (a b : DE) : DE := eOp neD a b
section
variable {a b : Expr} {fa fb : DE} {pos : Pos}
theorem e_lt (ha : EO F X a fa) (hb : EO F X b fb) : EO F X (.Compare a [.Lt] [b] pos) (eLt fa fb) := e_cmp op_lt s_lt (nomark _) ha hb
theorem e_le (ha : EO F X a fa) (hb : EO F X b fb) : EO F X (.Compare a [.LtE] [b] pos) (eLe fa fb) := e_cmp op_le s_le (nomark _) ha hb
theorem e_gt (ha : EO F X a fa) (hb : EO F X b fb) : EO F X (.Compare a [.Gt] [b] pos) (eGt fa fb) := e_cmp op_gt s_gt (nomark _) ha hb
theorem e_ge (ha : EO F X a fa) (hb : EO F X b fb) : EO F X (.Compare a [.GtE] [b] pos) (eGe fa fb) := e_cmp op_ge s_ge (nomark _) ha hb
theorem e_eq {k : Nat} (hr : Room k X.A) (hK : F.m.K = X.K) (ha : EO F X a fa) (hb : EO F X b fb) : EO F X (.Compare a [.Eq] [b] pos) (eEq fa fb) := e_cmp (op_eqD hr.units) (hK ▸ s_eqD) (nomark _) ha hb
theorem e_ne {k : Nat} (hr : Room k X.A) (hK : F.m.K = X.K) (ha : EO F X a fa) (hb : EO F X b fb) : EO F X (.Compare a [.NotEq] [b] pos) (eNe fa fb) := e_cmp (op_neD hr.units) (hK ▸ s_neD) (nomark _) ha hb
theorem t_lt (ha : EO F X a fa) (hb : EO F X b fb) : TO F X (.Compare a [.Lt] [b] pos) (eLt fa fb) := t_cmp op_lt s_lt gI_bool (nomark _) ha hb
theorem t_le (ha : EO F X a fa) (hb : EO F X b fb) : TO F X (.Compare a [.LtE] [b] pos) (eLe fa fb) := t_cmp op_le s_le gI_bool (nomark _) ha hb
theorem t_gt (ha : EO F X a fa) (hb : EO F X b fb) : TO F X (.Compare a [.Gt] [b] pos) (eGt fa fb) := t_cmp op_gt s_gt gI_bool (nomark _) ha hb
theorem t_ge (ha : EO F X a fa) (hb : EO F X b fb) : TO F X (.Compare a [.GtE] [b] pos) (eGe fa fb) := t_cmp op_ge s_ge gI_bool (nomark _) ha hb
theorem t_eq {k : Nat} (hr : Room k X.A) (hK : F.m.K = X.K) (ha : EO F X a fa) (hb : EO F X b fb) : TO F X (.Compare a [.Eq] [b] pos) (eEq fa fb) := t_cmp (op_eqD hr.units) (hK ▸ s_eqD) eqD_bool (nomark _) ha hb
theorem t_ne {k : Nat} (hr : Room k X.A) (hK : F.m.K = X.K) (ha : EO F X a fa) (hb : EO F X b fb) : TO F X (.Compare a [.NotEq] [b] pos) (eNe fa fb) := t_cmp (op_neD hr.units) (hK ▸ s_neD) neD_bool (nomark _) ha hb
end
/-- x is None, x is not None -/
def isNo : D → Bool
  | .none => true
  | _ => false
def isNd (x y : D) : Option Sl := match y with
  | .none => some (.val (.bool (isNo x)))
  | _ => none
def notNd (x y : D) : Option Sl := match y with
  | .none => some (.val (.bool (!isNo x)))
  | _ => none
theorem RepD.isN (r : RepD K H O δ v d) : decide (v = .non) = isNo d := by
  cases r <;> first | rfl | (unfold dcell; rfl) | (unfold dscr; rfl) | (unfold dfn; rfl) | (unfold dttD; rfl)
theorem s_isN : OpS F (fun x y H Q => y = .non ∧ Q (.bl (decide (x = .non))) H) isNd := by
  intro H O c x y dx dy z Q w rx ry hg hq
  unfold isNd at hg
  split at hg
  · cases hg
    exact ⟨ry.none_inv, hq _ H .refl (by rw [rx.isN]; exact .bl _)⟩
  · cases hg
theorem s_notN : OpS F (fun x y H Q => y = .non ∧ Q (.bl (!decide (x = .non))) H) notNd := by
  intro H O c x y dx dy z Q w rx ry hg hq
  unfold notNd at hg
  split at hg
  · cases hg
    refine ⟨ry.none_inv, hq _ H .refl ?_⟩
    rw [rx.isN]
    exact .bl _
  · cases hg
def eIsN (a b : DE) : DE := eOp isNd a b
def eNotN (a b : DE) : DE := eOp notNd a b
theorem isNd_bool : ∀ x y z, isNd x y = some z → ∃ k, z = .val (.bool k) := by
  intro x y z h
  unfold isNd at h
  split at h
  · cases h; exact ⟨_, rfl⟩
  · cases h
theorem notNd_bool : ∀ x y z, notNd x y = some z → ∃ k, z = .val (.bool k) := by
  intro x y z h
  unfold notNd at h
  split at h
  · cases h; exact ⟨_, rfl⟩
  · cases h
section
variable {a b : Expr} {fa fb : DE} {pos : Pos}
theorem e_isN (ha : EO F X a fa) (hb : EO F X b fb) : EO F X (.Compare a [.Is] [b] pos) (eIsN fa fb) := e_cmp op_isN s_isN (nomark _) ha hb
theorem t_isN (ha : EO F X a fa) (hb : EO F X b fb) : TO F X (.Compare a [.Is] [b] pos) (eIsN fa fb) := t_cmp op_isN s_isN isNd_bool (nomark _) ha hb
theorem e_notN (ha : EO F X a fa) (hb : EO F X b fb) : EO F X (.Compare a [.IsNot] [b] pos) (eNotN fa fb) := e_cmp op_notN s_notN (nomark _) ha hb
theorem t_notN (ha : EO F X a fa) (hb : EO F X b fb) : TO F X (.Compare a [.IsNot] [b] pos) (eNotN fa fb) := t_cmp op_notN s_notN notNd_bool (nomark _) ha hb
end
end
end DL

set_option Elab.async false
set_option linter.all false
set_option maxRecDepth 100000
set_option maxHeartbeats 4000000
/-! DLd: tests, places, slices, displays, arguments, built-ins. -/
namespace DL
open PySem PySem.Spec L2
open PyProof.Rows hiding St

section
variable {F : Fx} {X : Cx} {H H' H1 H2 : Hp} {O O' O1 O2 : Addr → Prop} {σ : St} {s s1 s2 : S} {Q : VK} {QT : Bool → Hp → Prop} {t : TE} {f g : DE} {v : V} {d : D} {K : PySem.W.Frag} {δ : Option Addr}

theorem KEr.any {e : Er} {c : List Int} (h : KEr F e c) : KEr F e c := h
/-! ### tests -/
def RE.test (r : RE) (k : Bool → S → RE) : RE := match r with
  | .ok (.val (.bool b)) s => k b s
  | .ok _ _ => .stuck
  | .er e c => .er e c
  | .stuck => .stuck
/-- behind a first step -/
theorem KE.trans {r : RE} (st : StE F.δ σ H O s.e H1 O1 s1.e) (h : Hp → Prop) (k : KE F σ H O s Q r) : KE F σ H1 O1 s1 Q r := by
  cases r with
  | stuck => exact k
  | er e c => exact k
  | ok x s' =>
    intro v H' O' st' I' r
    refine k v H' O' (st.trans st') I' ?_
    cases x with
    | un => exact r
    | nst _ => exact r
    | ali _ _ => exact r
    | val d => exact r
    | own xs =>
      obtain ⟨a, vs, h1, h2, h3, h4, h5, h6⟩ := r
      refine ⟨a, vs, h1, h2, h3, h4, h5, ?_⟩
      cases q : H a with
      | none => rfl
      | some o => exact absurd h6 (st.there a (by rw [q]; simp))
theorem KT.trans {r : RE} (st : StE F.δ σ H O s.e H1 O1 s1.e) (k : KT F σ H O s QT r) : KT F σ H1 O1 s1 QT r := by
  cases r with
  | stuck => exact k
  | er e c => exact k
  | ok x s' =>
    cases hd : x.d with
    | bool b =>
      simp only [KT, hd] at k ⊢
      exact fun H' O' st' I' => k H' O' (st.trans st') I'
    | _ => simp only [KT, hd] at k
theorem ST.bind {k : Bool → S → RE} {a : DE} {ta : TT} {R : Bool → Hp → Prop} (ha : ST F ta a) (I : Est F σ H O s) (h : KE F σ H O s Q ((a s).test k))
    (hk : ∀ b s1 H1 O1, StE F.δ σ H O s.e H1 O1 s1.e → Est F σ H1 O1 s1 → KE F σ H1 O1 s1 Q (k b s1) → R b H1) : ta σ H R := by
  refine ha σ H O s R I ?_
  cases q : a s with
  | stuck => rw [q] at h; exact h
  | er e c => rw [q] at h; exact h
  | ok x s1 =>
    rw [q] at h
    unfold RE.test at h
    split at h
    · rename_i b s' e
      cases e
      exact fun H1 O1 st I1 => hk b s1 H1 O1 st I1 (h.trans st (fun _ => True))
    · exact h.elim
    · cases ‹RE.ok x s1 = _›
    · cases ‹RE.ok x s1 = _›
theorem ST.bindT {k : Bool → S → RE} {a : DE} {ta : TT} {R : Bool → Hp → Prop} (ha : ST F ta a) (I : Est F σ H O s) (h : KT F σ H O s QT ((a s).test k))
    (hk : ∀ b s1 H1 O1, StE F.δ σ H O s.e H1 O1 s1.e → Est F σ H1 O1 s1 → KT F σ H1 O1 s1 QT (k b s1) → R b H1) : ta σ H R := by
  refine ha σ H O s R I ?_
  cases q : a s with
  | stuck => rw [q] at h; exact h
  | er e c => rw [q] at h; exact h
  | ok x s1 =>
    rw [q] at h
    unfold RE.test at h
    split at h
    · rename_i b s' e
      cases e
      exact fun H1 O1 st I1 => hk b s1 H1 O1 st I1 (h.trans st)
    · exact h.elim
    · cases ‹RE.ok x s1 = _›
    · cases ‹RE.ok x s1 = _›
theorem t_val {e : Expr} {fe : DE} (h : EO F X e fe) (he : ∀ whole, isTrue e X.env whole = (do let v ← whole; standAt e.pos; holding [v] (truthy v)) := by intro _; rfl) : TO F X e fe := by
  obtain ⟨t, p, se⟩ := h
  refine ⟨_, pt_val p he, fun σ H O s Q I k => ?_⟩
  show t σ H fun x H1 => ∃ c, x = .bl c ∧ Q c H1
  refine se.use I ?_
  cases q : fe s with
  | stuck => rw [q] at k; exact k
  | er e c => rw [q] at k; exact k
  | ok x s1 =>
    rw [q] at k
    cases hd : x.d with
    | bool b =>
      simp only [KT, hd] at k
      intro v H' O' st I' r
      rw [hd] at r
      exact ⟨b, r.bool_inv, k H' O' st I'⟩
    | _ => simp only [KT, hd] at k
def eNot (a : DE) : DE := fun s => (a s).test fun b s1 => .ok (.val (.bool (!b))) s1
def eIf (c a b : DE) : DE := fun s => (c s).test fun k s1 => if k = true then a s1 else b s1
def eAnd (a b : DE) : DE := fun s => (a s).test fun k s1 => if k = true then b s1 else .ok (.val (.bool false)) s1
def eOr (a b : DE) : DE := fun s => (a s).test fun k s1 => if k = true then .ok (.val (.bool true)) s1 else b s1
section
variable {a b c : Expr} {fa fb fc : DE} {pos : Pos} {rest : List Expr}
theorem t_not (ha : TO F X a fa) : TO F X (.UnaryOp .Not a pos) (eNot fa) :=
  let ⟨_, p, sa⟩ := ha
  ⟨_, pt_not p, fun σ H O s Q I k => sa.bindT I k fun b s1 H1 O1 st I1 k => k H1 O1 .refl I1⟩
theorem w_and1 (ha : TO F X a fa) : WO F X (.BoolOp .And [a] pos) fa := let ⟨_, p, sa⟩ := ha; ⟨_, pw_and1 p, sa⟩
theorem w_or1 (ha : TO F X a fa) : WO F X (.BoolOp .Or [a] pos) fa := let ⟨_, p, sa⟩ := ha; ⟨_, pw_or1 p, sa⟩
theorem w_and (ha : TO F X a fa) (hb : WO F X (.BoolOp .And (b :: rest) pos) fb) : WO F X (.BoolOp .And (a :: b :: rest) pos) (eAnd fa fb) :=
  let ⟨_, pa, sa⟩ := ha
  let ⟨_, pb, sb⟩ := hb
  ⟨_, pw_and pa pb, fun σ H O s Q I k => sa.bindT I k fun b s1 H1 O1 st I1 k => by
    cases b with
    | true => exact sb σ H1 O1 s1 Q I1 k
    | false => exact k H1 O1 .refl I1⟩
theorem w_or (ha : TO F X a fa) (hb : WO F X (.BoolOp .Or (b :: rest) pos) fb) : WO F X (.BoolOp .Or (a :: b :: rest) pos) (eOr fa fb) :=
  let ⟨_, pa, sa⟩ := ha
  let ⟨_, pb, sb⟩ := hb
  ⟨_, pw_or pa pb, fun σ H O s Q I k => sa.bindT I k fun b s1 H1 O1 st I1 k => by
    cases b with
    | true => exact k H1 O1 .refl I1
    | false => exact sb σ H1 O1 s1 Q I1 k⟩
theorem t_w {e : Expr} {fe : DE} (h : WO F X e fe) : TO F X e fe := let ⟨_, p, sa⟩ := h; ⟨_, p.pt, sa⟩
theorem e_if (hc : TO F X c fc) (ha : EO F X a fa) (hb : EO F X b fb) : EO F X (.IfExp c a b pos) (eIf fc fa fb) :=
  let ⟨_, pc, sc⟩ := hc
  let ⟨_, pa, sa⟩ := ha
  let ⟨_, pb, sb⟩ := hb
  ⟨_, pe_ifExp pc pa pb, fun σ H O s Q I k => sc.bind I k fun b s1 H1 O1 st I1 k => by
    cases b with
    | true => exact sa σ H1 O1 s1 Q I1 k
    | false => exact sb σ H1 O1 s1 Q I1 k⟩
/-- a value that is True or False -/
theorem SE.bindB {k : Bool → S → RE} {a : DE} {ta : TE} {R : VK} (ha : SE F ta a) (I : Est F σ H O s) (h : KE F σ H O s Q ((a s).test k))
    (hk : ∀ b s1 H1 O1, StE F.δ σ H O s.e H1 O1 s1.e → Est F σ H1 O1 s1 → KE F σ H1 O1 s1 Q (k b s1) → R (.bl b) H1) : ta σ H R := by
  refine ha.use I ?_
  cases q : a s with
  | stuck => rw [q] at h; exact h
  | er e c => rw [q] at h; exact h
  | ok x s1 =>
    rw [q] at h
    unfold RE.test at h
    split at h
    · rename_i b s' e
      cases e
      intro v H1 O1 st I1 r
      rw [RepD.bool_inv (show RepD F.m.K H1 O1 F.δ v (.bool b) from r)]
      exact hk b s1 H1 O1 st I1 (h.trans st (fun _ => True))
    · exact h.elim
    · cases ‹RE.ok x s1 = _›
    · cases ‹RE.ok x s1 = _›
theorem e_not (ha : EO F X a fa) : EO F X (.UnaryOp .Not a pos) (eNot fa) :=
  let ⟨_, p, sa⟩ := ha
  ⟨_, pe_not p, fun σ H O s Q I k => sa.bindB I k fun b s1 H1 O1 st I1 k => ⟨b, rfl, k _ H1 O1 .refl I1 (.bl _)⟩⟩
theorem e_one {op} (ha : EO F X a fa) : EO F X (.BoolOp op [a] pos) fa := let ⟨_, p, sa⟩ := ha; ⟨_, pe_one p, sa⟩
theorem e_and (ha : EO F X a fa) (hb : EO F X (.BoolOp .And (b :: rest) pos) fb) : EO F X (.BoolOp .And (a :: b :: rest) pos) (eAnd fa fb) :=
  let ⟨_, pa, sa⟩ := ha
  let ⟨_, pb, sb⟩ := hb
  ⟨_, pe_and pa pb, fun σ H O s Q I k => sa.bindB I k fun b s1 H1 O1 st I1 k => ⟨b, rfl, by
    cases b with
    | true => exact sb σ H1 O1 s1 Q I1 k
    | false => exact k _ H1 O1 .refl I1 (.bl _)⟩⟩
theorem e_or (ha : EO F X a fa) (hb : EO F X (.BoolOp .Or (b :: rest) pos) fb) : EO F X (.BoolOp .Or (a :: b :: rest) pos) (eOr fa fb) :=
  let ⟨_, pa, sa⟩ := ha
  let ⟨_, pb, sb⟩ := hb
  ⟨_, pe_or pa pb, fun σ H O s Q I k => sa.bindB I k fun b s1 H1 O1 st I1 k => ⟨b, rfl, by
    cases b with
    | true => exact k _ H1 O1 .refl I1 (.bl _)
    | false => exact sb σ H1 O1 s1 Q I1 k⟩⟩
end
end
end DL

set_option Elab.async false
set_option linter.all false
set_option maxRecDepth 100000
set_option maxHeartbeats 4000000
/-! DLe: places, slices, displays, arguments, built-ins, calls. -/
namespace DL
open PySem PySem.Spec L2
open PyProof.Rows hiding St

section
variable {F : Fx} {X : Cx} {H H' H1 H2 : Hp} {O O' O1 O2 : Addr → Prop} {σ : St} {s s1 s2 : S} {Q : VK} {QT : Bool → Hp → Prop} {t : TE} {f g : DE} {v : V} {d : D} {K : PySem.W.Frag} {δ : Option Addr}

/-! ### a place -/
def ixD : D → D → Option Sl
  | .list xs, .int i => (atI xs i).map .val
  | .tuple xs, .int i => (atI xs i).map .val
  | .str z, .int i => if z.length ≤ sizeLine then (atI z.cps.toList i).map fun c => .val (.str ⟨#[c]⟩) else none
  | .dict [(.bool true, .list xs)], .int i => (atI xs i).map .val
  | _, _ => none
theorem atI_rep {vs : List V} {ds : List D} {i : Int} {d : D} (r : RepDs K H O δ vs ds) (h : atI ds i = some d) : ∃ v, atI vs i = some v ∧ RepD K H O δ v d := by
  unfold atI at h ⊢
  rw [r.length]
  cases q : ixN ds.length i with
  | none => rw [q] at h; cases h
  | some j =>
    rw [q] at h
    exact r.get h
theorem map_val {o : Option D} {z : Sl} (h : o.map Sl.val = some z) : ∃ d, o = some d ∧ z = .val d := by
  cases o with
  | none => cases h
  | some d => exact ⟨d, rfl, (Option.some.inj h).symm⟩
theorem s_ixD : OpS F (rIx F.m.K) ixD := by
  intro H O c x y dx dy z Q w rx ry hg hq
  unfold ixD at hg
  split at hg
  · obtain ⟨d, h1, rfl⟩ := map_val hg
    obtain ⟨a, vs, rfl, ha, _, ra⟩ := rx.list_inv
    obtain ⟨v, h2, r⟩ := atI_rep ra h1
    exact .inl ⟨a, vs, _, v, rfl, ry.int_inv, .of ha, h2, hq v H .refl r⟩
  · obtain ⟨d, h1, rfl⟩ := map_val hg
    obtain ⟨a, vs, rfl, ha, ra⟩ := rx.tup_inv
    obtain ⟨v, h2, r⟩ := atI_rep ra h1
    exact .inr (.inl ⟨a, vs, _, v, rfl, ry.int_inv, ha, h2, hq v H .refl r⟩)
  · split at hg
    · rename_i z i hz
      cases q : atI z.cps.toList i with
      | none => rw [q] at hg; cases hg
      | some c =>
        rw [q] at hg
        cases hg
        exact .inr (.inr ⟨z, i, c, rx.str_inv, ry.int_inv, hz, q, hq _ H .refl (.str _)⟩)
    · cases hg
  · obtain ⟨d, h1, rfl⟩ := map_val hg
    obtain ⟨a, vs, rfl, ha, ra⟩ := RepD.scr_inv rx
    obtain ⟨v, h2, r⟩ := atI_rep ra h1
    exact .inl ⟨a, vs, _, v, rfl, ry.int_inv, ha, h2, hq v H .refl r⟩
  · cases hg
def eIx (a b : DE) : DE := eOp ixD a b
theorem e_ix {a b : Expr} {fa fb : DE} {pos : Pos} (hK : F.m.K = X.K) (ha : EO F X a fa) (hb : EO F X b fb) (hs : PlainIx b := by exact fun _ _ => rfl) : EO F X (.Subscript a b pos) (eIx fa fb) :=
  let ⟨_, pa, sa⟩ := ha
  let ⟨_, pb, sb⟩ := hb
  ⟨_, pe_ix ix_seq pa pb hs, s_op sa sb (hK ▸ s_ixD)⟩
/-- x[i], x a name: its list does not come to rest; the cell's ints -/
def ixC (d y : D) (c : List Int) : Option Sl := match d, y with
  | .dict [(.none, .none)], .int i => (atI c i).map fun n => .val (.int n)
  | d, y => ixD d y
theorem s_ixC {c : List Int} {x y : V} {dx dy : D} {z : Sl} (w : Wd F.m F.δ H O c) (rx : RepD F.m.K H O F.δ x dx) (ry : RepD F.m.K H O F.δ y dy) (hg : ixC dx dy c = some z) (hq : Res F H O Q z) : rIx F.m.K x y H Q := by
  unfold ixC at hg
  split at hg
  · rename_i n
    cases q : atI c n with
    | none => rw [q] at hg; cases hg
    | some m =>
      rw [q] at hg
      cases hg
      obtain ⟨a, rfl, ea⟩ := RepD.cell_inv rx
      refine .inl ⟨a, c.map V.int, n, .int m, rfl, ry.int_inv, .of (w.cel a ea).2, ?_, hq _ H .refl (.int m)⟩
      unfold atI at q ⊢
      rw [List.length_map]
      cases q' : ixN c.length n with
      | none => rw [q'] at q; cases q
      | some j =>
        rw [q'] at q
        have q : c[j]? = some m := q
        show (c.map V.int)[j]? = some (.int m)
        rw [List.getElem?_map, q]; rfl
  · exact s_ixD H O c x y dx dy z Q w rx ry hg hq
def eIxN (i : Nat) (b : DE) : DE := fun s => match s.e[i]? with
  | some (.val d) => (b s).bind fun y s2 => liftR (ixC d y s2.c) s2
  | some (.own _) => (b s).bind fun y s2 => match s2.e[i]? with
    | some (.own xs) => liftR (ixD (.list xs) y) s2
    | _ => .stuck
  | _ => .stuck
theorem e_ixN (i : Nat) {x : Str} {b : Expr} {fb : DE} {px pos : Pos} (hK : F.m.K = X.K) (hb : EO F X b fb) (hN : X.N[i]? = some x := by rfl) (hv : Vis X.env.scope x := by first | exact Or.inl rfl | exact Or.inr (Or.inl rfl) | exact Or.inr (Or.inr rfl))
    (hd : (x == ("__debug__" : Str)) = false := by decide) (hcd : (x == ("__classdict__" : Str)) = false := by decide) (hs : PlainIx b := by exact fun _ _ => rfl) : EO F X (.Subscript (.Name x px) b pos) (eIxN i fb) := by
  obtain ⟨tb, pb, sb⟩ := hb
  refine ⟨_, pe_ix ix_seq (pe_var hN hv hd hcd) pb hs, fun σ H O s Q I k => ?_⟩
  unfold eIxN at k
  split at k
  · rename_i d h
    obtain ⟨v, h1, h2⟩ := I.env.vals i d h
    refine ⟨v, h1, sb.bind I k fun y s2 w H2 O2 st2 I2 r2 kz => ?_⟩
    obtain ⟨z, qo, zn, kq⟩ := KE_lift kz
    exact hK ▸ s_ixC I2.wd (h2.step st2.stp I.wd) r2 qo (Res.of I st2 I2 kq zn)
  · rename_i xs h
    obtain ⟨a, vs, h1, h2, h3, h4, h5, h6⟩ := I.env.owns i xs h
    refine ⟨.ref a, h1, sb.bind I k fun y s2 w H2 O2 st2 I2 r2 kz => ?_⟩
    split at kz
    · rename_i ys h'
      obtain ⟨a', vs', g1, g2, g3, g4, g5, g6⟩ := I2.env.owns i ys h'
      rw [h1] at g1
      cases g1
      obtain ⟨z, qo, zn, kq⟩ := KE_lift kz
      obtain ⟨n, rfl, hz⟩ : ∃ n, y = .int n ∧ (atI ys n).map Sl.val = some z := by
        cases y <;> first | exact ⟨_, rfl, qo⟩ | cases qo
      obtain ⟨d, q1, rfl⟩ := map_val hz
      obtain ⟨u, q2, r⟩ := atI_rep g5 q1
      exact .inl ⟨a, vs', n, u, rfl, r2.int_inv, .of g4, q2, kq u H2 O2 st2 I2 r⟩
    · exact kz.elim
  · exact k.elim

/-! ### slices -/
/-- t[lo:hi] of a tuple: the whole of it is t itself -/
def rSlN (K : PySem.W.Frag) : V → Option Int → Option Int → Hp → VK → Prop := fun x lo hi H Q => ∃ a xs, x = .ref a ∧ SqT K H a xs ∧ ((HT.sIx xs.length 0 lo = 0 ∧ HT.sIx xs.length xs.length hi = xs.length) → Q (.ref a) H) ∧
  (¬ (HT.sIx xs.length 0 lo = 0 ∧ HT.sIx xs.length xs.length hi = xs.length) → ∀ p, H p = none → NewT H p (cutV xs lo hi) Q)
theorem sl_tupN : SlR X (rSlN X.K) := by
  intro pins s σ H x v vl vu lo hi sl Q I rx hs pl pu h
  obtain ⟨a, xs, rfl, hx, q1, q2⟩ := h
  cases rx
  obtain ⟨its, r, ht, hz⟩ := I.tuple hx
  have hn : its.toArray.size = xs.length := by rw [List.size_toArray, r.length]
  refine ⟨"tuple", _, PyProof.Rows.slot_tuple_getitem.lookup, ht.typeIs, ?_⟩
  by_cases hw : HT.sIx xs.length 0 lo = 0 ∧ HT.sIx xs.length xs.length hi = xs.length
  · exact getItem_tuple_whole ht hs pl pu (by rw [hn]; exact hw) ⟨.ref a, H, I, rfl, q1 hw⟩
  · refine HT.getItem_tuple_cut ht hs pl pu (by rw [hn]; exact hw) ?_ (by rw [hn]; exact hz)
    rw [hn]
    exact newT_laid (tk := s.toks) I (fun b ob q => Heap.get?_push_of_some _ q) (Nat.le_refl _) (Nat.le_trans (cutV_length xs lo hi) hz) ((r.drop _).take _) (Heap.get?_push_size _ rfl) (q2 hw _ (I.hok.fresh (Nat.le_refl _)))
def cutD (xs : List D) (lo hi : Option Int) : List D := (xs.drop (HT.sIx xs.length 0 lo)).take (HT.sIx xs.length xs.length hi - HT.sIx xs.length 0 lo)
theorem cut_rep {vs : List V} {ds : List D} {lo hi : Option Int} (r : RepDs K H O δ vs ds) : RepDs K H O δ (cutV vs lo hi) (cutD ds lo hi) := by
  unfold cutV cutD
  rw [r.length]
  exact (r.drop _).take _
def slD : D → Option Int → Option Int → Option Sl
  | .list xs, lo, hi => some (.own (cutD xs lo hi))
  | .tuple xs, lo, hi => some (.val (.tuple (cutD xs lo hi)))
  | .str z, lo, hi => if z.length ≤ sizeLine then some (.val (.str (cutS z lo hi))) else none
  | .dict [(.bool true, .list xs)], lo, hi => some (.own (cutD xs lo hi))
  | _, _, _ => none
def rSlD (K : PySem.W.Frag) : V → Option Int → Option Int → Hp → VK → Prop := fun x lo hi H Q => rSlL K x lo hi H Q ∨ rSlN K x lo hi H Q ∨ rSlS x lo hi H Q
theorem sl_D : SlR X (rSlD X.K) := sl_list.or (sl_tupN.or sl_str)
theorem s_slD {x : V} {dx : D} {lo hi : Option Int} {z : Sl} {c : List Int} (w : Wd F.m F.δ H O c) (rx : RepD F.m.K H O F.δ x dx) (hg : slD dx lo hi = some z) (hq : Res F H O Q z) : rSlD F.m.K x lo hi H Q := by
  unfold slD at hg
  split at hg
  · cases hg
    obtain ⟨a, vs, rfl, ha, _, ra⟩ := rx.list_inv
    exact .inl ⟨a, vs, rfl, .of ha, fun p hp => hq p _ hp (cut_rep ra)⟩
  · cases hg
    obtain ⟨a, vs, rfl, ha, pa, ra⟩ := rx.tup_invP
    refine .inr (.inl ⟨a, vs, rfl, ha, fun h => ?_, fun _ p hp => ?_⟩)
    · have e : ∀ ds : List D, vs.length = ds.length → cutD ds _ _ = ds := fun ds q => by
        unfold cutD
        rw [← q, h.1, h.2, List.drop_zero, Nat.sub_zero, q, List.take_length]
      rw [e _ ra.length] at hq
      exact hq _ H .refl (.tup ha pa ra)
    · exact newT_of w hp (cut_rep ra) hq
  · split at hg
    · cases hg
      exact .inr (.inr ⟨_, rx.str_inv, by assumption, hq _ H .refl (.str _)⟩)
    · cases hg
  · cases hg
    obtain ⟨a, vs, rfl, ha, ra⟩ := RepD.scr_inv rx
    exact .inl ⟨a, vs, rfl, ha, fun p hp => hq p _ hp (cut_rep ra)⟩
  · cases hg
/-- a part of a slice -/
def PartO (F : Fx) (X : Cx) (e : Option Expr) (f : Option DE) : Prop := ∃ t : L2.TO, PO X e t ∧ match f with
  | none => t = tNoPart
  | some fe => ∃ te, t = tPart te ∧ SE F te fe
theorem p_none : PartO F X none none := ⟨_, po_none, rfl⟩
theorem p_some {e : Expr} {fe : DE} (h : EO F X e fe) : PartO F X (some e) (some fe) := let ⟨t, p, s⟩ := h; ⟨_, po_some p, t, rfl, s⟩
def partD (f : Option DE) (s : S) (k : Option Int → S → RE) : RE := match f with
  | none => k none s
  | some fe => (fe s).bind fun y s' => match y with
    | .int i => k (some i) s'
    | _ => .stuck
def eSl (a : DE) (lo hi : Option DE) : DE := fun s => (a s).bind fun x s1 => partD lo s1 fun l s2 => partD hi s2 fun h s3 => liftR (slD x l h) s3
theorem part_bind {f : Option DE} {t : L2.TO} {k : Option Int → S → RE} {R : Option Int → Hp → Prop} (h : match f with | none => t = tNoPart | some fe => ∃ te, t = tPart te ∧ SE F te fe) (I : Est F σ H O s) (q : KE F σ H O s Q (partD f s k))
    (hk : ∀ o s1 H1 O1, StE F.δ σ H O s.e H1 O1 s1.e → Est F σ H1 O1 s1 → KE F σ H1 O1 s1 Q (k o s1) → R o H1) : t σ H R := by
  cases f with
  | none =>
    have h : t = tNoPart := h
    subst h
    exact hk none s H O .refl I q
  | some fe =>
    obtain ⟨te, rfl, se⟩ := h
    show te σ H fun x H1 => ∃ i, x = .int i ∧ R (some i) H1
    have q : KE F σ H O s Q ((fe s).bind fun y s' => match y with
      | .int i => k (some i) s'
      | _ => .stuck) := q
    refine se.bind I q fun y s1 v H1 O1 st I1 r kz => ?_
    split at kz
    · exact ⟨_, r.int_inv, hk _ s1 H1 O1 st I1 (kz.trans st fun _ => True)⟩
    · exact kz.elim
theorem e_sl {a : Expr} {fa : DE} {lo hi : Option Expr} {fl fh : Option DE} {p2 pos : Pos} (hK : F.m.K = X.K) (ha : EO F X a fa) (hl : PartO F X lo fl) (hh : PartO F X hi fh) : EO F X (.Subscript a (.Slice lo hi none p2) pos) (eSl fa fl fh) := by
  obtain ⟨ta, pa, sa⟩ := ha
  obtain ⟨tl, pl, sl⟩ := hl
  obtain ⟨th, ph, sh⟩ := hh
  refine ⟨_, pe_slice sl_D pa pl ph, fun σ H O s Q I k => ?_⟩
  refine sa.bind I k fun x s1 v H1 O1 st1 I1 r1 k => ?_
  refine part_bind sl I1 (k.trans st1 fun _ => True) fun l s2 H2 O2 st2 I2 k => ?_
  refine part_bind sh I2 k fun h s3 H3 O3 st3 I3 k => ?_
  obtain ⟨z, qo, zn, k⟩ := KE_lift k
  exact hK ▸ s_slD I3.wd ((r1.step st2.stp I1.wd).step st3.stp I2.wd) qo (Res.of I3 .refl I3 k zn)

/-! ### arguments, displays -/
inductive RA where
  | ok (ds : List D) (s : S) | er (e : Er) (c : List Int) | stuck
abbrev DA := S → RA
def KA (F : Fx) (σ : St) (H : Hp) (O : Addr → Prop) (s : S) (Q : List V → Hp → Prop) : RA → Prop
  | .ok ds s' => ∀ vs H' O', StE F.δ σ H O s.e H' O' s'.e → Est F σ H' O' s' → RepDs F.m.K H' O' F.δ vs ds → Q vs H'
  | .er e c => KEr F e c
  | .stuck => False
def SA (F : Fx) (t : TA) (f : DA) : Prop := ∀ σ H O s Q, Est F σ H O s → KA F σ H O s Q (f s) → t σ H Q
def AO (F : Fx) (X : Cx) (es : List Expr) (f : DA) : Prop := ∃ t, PA X es t ∧ SA F t f ∧ ∀ s ds s', f s = .ok ds s' → ds.length = es.length
def aNil : DA := fun s => .ok [] s
def aCons (a : DE) (as : DA) : DA := fun s => match a s with
  | .ok x s1 => match as s1 with
    | .ok xs s2 => .ok (x.d :: xs) s2
    | r => r
  | .er e c => .er e c
  | .stuck => .stuck
theorem a_nil : AO F X [] aNil := ⟨_, pa_nil, fun σ H O s Q I k => k [] H O .refl I .nil, fun s ds s' h => by cases h; rfl⟩
theorem s_cons {te : TE} {ta : TA} {fe : DE} {fa : DA} (he : SE F te fe) (ha : SA F ta fa) : SA F (tCons te ta) (aCons fe fa) := by
  intro σ H O s Q I k
  refine he.use I ?_
  unfold aCons at k
  cases qe : fe s with
  | stuck => rw [qe] at k; exact k
  | er e c => rw [qe] at k; exact k
  | ok x s1 =>
    rw [qe] at k
    intro v H1 O1 st1 I1 r1
    refine ha σ H1 O1 s1 _ I1 ?_
    cases qa : fa s1 with
    | stuck => simp only [qa] at k; exact k
    | er e c => simp only [qa] at k; exact k
    | ok xs s2 =>
      simp only [qa] at k
      intro vs H2 O2 st2 I2 r2
      exact k (v :: vs) H2 O2 (st1.trans st2) I2 (.cons (r1.step st2.stp I1.wd) r2)
theorem a_cons {e : Expr} {es : List Expr} {fe : DE} {fa : DA} (he : EO F X e fe) (ha : AO F X es fa) (hs : starEach (e :: es) X.env = (false, eval e X.env) :: starEach es X.env := by rfl) : AO F X (e :: es) (aCons fe fa) := by
  obtain ⟨te, pe, se⟩ := he
  obtain ⟨ta, pa, sa, la⟩ := ha
  refine ⟨_, pa_cons pe pa hs, s_cons se sa, fun s ds s' h => ?_⟩
  unfold aCons at h
  cases qe : fe s with
  | stuck => rw [qe] at h; cases h
  | er e c => rw [qe] at h; cases h
  | ok x s1 =>
    simp only [qe] at h
    cases qa : fa s1 with
    | stuck => simp only [qa] at h; cases h
    | er e c => simp only [qa] at h; cases h
    | ok xs s2 =>
      simp only [qa] at h
      cases h
      rw [List.length_cons, List.length_cons, la s1 xs _ qa]
def RA.bind (r : RA) (k : List D → S → RE) : RE := match r with
  | .ok ds s => k ds s
  | .er e c => .er e c
  | .stuck => .stuck
theorem SA.bind {k : List D → S → RE} {a : DA} {ta : TA} {R : List V → Hp → Prop} (ha : SA F ta a) (I : Est F σ H O s) (h : KE F σ H O s Q ((a s).bind k))
    (hk : ∀ ds s1 vs H1 O1, a s = .ok ds s1 → StE F.δ σ H O s.e H1 O1 s1.e → Est F σ H1 O1 s1 → RepDs F.m.K H1 O1 F.δ vs ds → KE F σ H1 O1 s1 Q (k ds s1) → R vs H1) : ta σ H R := by
  refine ha σ H O s R I ?_
  cases q : a s with
  | stuck => rw [q] at h; exact h
  | er e c => rw [q] at h; exact h
  | ok ds s1 => rw [q] at h; exact fun vs H1 O1 st I1 r => hk ds s1 vs H1 O1 q st I1 r (KE.trans st (fun _ => True) h)
def eTup (as : DA) : DE := fun s => (as s).bind fun ds s1 => .ok (.val (.tuple ds)) s1
def eLst (as : DA) : DE := fun s => (as s).bind fun ds s1 => .ok (.own ds) s1
def tTupN (t : TA) : TE := fun σ H Q => t σ H fun xs H1 => xs.length ≤ sizeLine ∧ ∀ p, H1 p = none → NewT H1 p xs Q
theorem pe_tupN {es : List Expr} {ta : TA} {x1 pos} (h : PA X es ta) : PE X (.Tuple es x1 pos) (tTupN ta) := by
  refine ⟨fun pins s σ H Q I hq => ?_⟩
  refine wpAny_Tuple_spliced (thn (h.run pos pins s σ H _ I hq) fun us s1 ⟨xs, H1, I1, r, z, q⟩ => ?_)
  refine ⟨r.length ▸ z, ?_⟩
  exact newT_laid (tk := s1.toks) I1 (fun b u e => Heap.get?_push_of_some _ e) (Nat.le_refl _) z r (Heap.get?_push_size _ rfl) (q _ (I1.hok.fresh (Nat.le_refl _)))
theorem e_tup {es : List Expr} {fa : DA} {x1 pos} (ha : AO F X es fa) (hl : es.length ≤ 10000 := by decide) : EO F X (.Tuple es x1 pos) (eTup fa) := by
  obtain ⟨ta, pa, sa, la⟩ := ha
  refine ⟨_, pe_tupN pa, fun σ H O s Q I k => sa.bind I k fun ds s1 vs H1 O1 q st I1 r k => ?_⟩
  have hz : vs.length ≤ sizeLine := by rw [r.length, la s ds s1 q, sizeLine_eq]; omega
  exact ⟨hz, fun p hp => newT_of I1.wd hp r fun w H2 ex r2 => k w H2 O1 ex.stF.toE (I1.ext ex) r2⟩
theorem e_lst {es : List Expr} {fa : DA} {pos} (ha : AO F X es fa) (hl : es.length ≤ 10000 := by decide) : EO F X (.List es pos) (eLst fa) := by
  obtain ⟨ta, pa, sa, la⟩ := ha
  refine ⟨_, pe_lst pa, fun σ H O s Q I k => sa.bind I k fun ds s1 vs H1 O1 q st I1 r k => ?_⟩
  have hz : vs.length ≤ sizeLine := by rw [r.length, la s ds s1 q, sizeLine_eq]; omega
  exact ⟨hz, fun p hp => Res.of (x := .own ds) I1 .refl I1 k trivial p vs hp r⟩

/-! ### built-ins by values -/
def PrimS (F : Fx) (r : List V → Hp → VK → Prop) (g : List D → Option Sl) : Prop := ∀ H O c vs ds z Q, Wd F.m F.δ H O c → RepDs F.m.K H O F.δ vs ds → g ds = some z → Res F H O Q z → r vs H Q
def eB (g : List D → Option Sl) (as : DA) : DE := fun s => (as s).bind fun ds s1 => liftR (g ds) s1
theorem s_B {r : List V → Hp → VK → Prop} {g : List D → Option Sl} {ta : TA} {fa : DA} (ha : SA F ta fa) (hs : PrimS F r g) : SE F (tCB r ta) (eB g fa) := by
  intro σ H O s Q I k
  refine ha.bind I k fun ds s1 vs H1 O1 q st I1 r k => ?_
  obtain ⟨z, qo, zn, k⟩ := KE_lift k
  exact hs H1 O1 s1.c vs ds z Q I1.wd r qo (Res.of I1 .refl I1 k zn)
section
variable {r : List V → Hp → VK → Prop} {gb : List D → Option Sl} {id x : Str} {bi T : String} {e : Expr} {es : List Expr} {fa : DA} {p pos : Pos}
theorem e_B (hc : CallR X (.builtin bi) r) (hs : PrimS F r gb) (hg : Gl X x) (hm : X.mg x = none) (hv : bootBuiltins x = some (.builtin bi)) (ha : AO F X (e :: es) fa) (hn : x ≠ "__name__" := by decide) (hdb : (x == ("__debug__" : Str)) = false := by decide)
    (he : starEach (e :: es) X.env = (false, eval e X.env) :: starEach es X.env := by rfl) (hpl : (backTo pos (starEach es X.env)).any (·.1) = false := by rfl) :
    EO F X (.Call (.Name x p) (e :: es) [] pos) (eB gb fa) :=
  let ⟨_, pa, sa, _⟩ := ha
  ⟨_, pe_callB hc hg hm hv pa hn hdb he hpl, s_B sa hs⟩
theorem e_Ty (hc : CallR X (.type T) r) (hs : PrimS F r gb) (hg : Gl X x) (hm : X.mg x = none) (hv : bootBuiltins x = some (.type T)) (ha : AO F X (e :: es) fa) (hn : x ≠ "__name__" := by decide) (hdb : (x == ("__debug__" : Str)) = false := by decide)
    (he : starEach (e :: es) X.env = (false, eval e X.env) :: starEach es X.env := by rfl) (hpl : (backTo pos (starEach es X.env)).any (·.1) = false := by rfl) :
    EO F X (.Call (.Name x p) (e :: es) [] pos) (eB gb fa) :=
  let ⟨_, pa, sa, _⟩ := ha
  ⟨_, pe_callTy hc hg hm hv pa hn hdb he hpl, s_B sa hs⟩
end
theorem PrimS.or {r r' : List V → Hp → VK → Prop} {g g' : List D → Option Sl} (h : PrimS F r g) (h' : PrimS F r' g') : PrimS F (fun xs H Q => r xs H Q ∨ r' xs H Q) (fun ds => match g ds with | some z => some z | none => g' ds) := by
  intro H O c vs ds z Q w rx hg hq
  have hg : (match g ds with | some z => some z | none => g' ds) = some z := hg
  split at hg
  · rename_i z' e
    cases hg
    exact .inl (h H O c vs ds _ Q w rx e hq)
  · exact .inr (h' H O c vs ds _ Q w rx hg hq)
theorem one_inv {vs : List V} {d : D} (r : RepDs K H O δ vs [d]) : ∃ v, vs = [v] ∧ RepD K H O δ v d := by
  cases r with | cons h t => cases t; exact ⟨_, rfl, h⟩
theorem two_inv {vs : List V} {d d' : D} (r : RepDs K H O δ vs [d, d']) : ∃ v v', vs = [v, v'] ∧ RepD K H O δ v d ∧ RepD K H O δ v' d' := by
  cases r with | cons h t => obtain ⟨v, rfl, h'⟩ := one_inv t; exact ⟨_, _, rfl, h, h'⟩
def intsD : List D → Option (List Int)
  | [] => some []
  | .int i :: r => (intsD r).map (i :: ·)
  | _ => none
theorem intsD_eq : ∀ {ds : List D} {ns : List Int}, intsD ds = some ns → ds = ns.map PyData.int
  | [], _, h => by cases h; rfl
  | .int i :: r, ns, h => by
    simp only [intsD, Option.map_eq_some_iff] at h
    obtain ⟨ms, h1, rfl⟩ := h
    rw [intsD_eq h1]; rfl
  | .none :: _, _, h => by cases h
  | .bool _ :: _, _, h => by cases h
  | .str _ :: _, _, h => by cases h
  | .list _ :: _, _, h => by cases h
  | .tuple _ :: _, _, h => by cases h
  | .dict _ :: _, _, h => by cases h
theorem intsD_map (ns : List Int) : intsD (ns.map PyData.int) = some ns := by
  induction ns with
  | nil => rfl
  | cons n ns ih => rw [List.map_cons, intsD, ih]; rfl
def absB : List D → Option Sl
  | [.int i] => some (.val (.int (if i < 0 then -i else i)))
  | _ => none
theorem s_abs : PrimS F (fun xs H Q => ∃ i, xs = [.int i] ∧ Q (.int (if i < 0 then -i else i)) H) absB := by
  intro H O c vs ds z Q w rx hg hq
  unfold absB at hg
  split at hg
  · cases hg
    obtain ⟨v, rfl, r⟩ := one_inv rx
    cases r.int_inv
    exact ⟨_, rfl, hq _ H .refl (.int _)⟩
  · cases hg
def intB : List D → Option Sl
  | [.int i] => some (.val (.int i))
  | _ => none
theorem s_int : PrimS F (fun xs H Q => (∃ i, xs = [.int i] ∧ Q (.int i) H) ∨ ∃ k, xs = [.bl k] ∧ Q (.int (if k then 1 else 0)) H) intB := by
  intro H O c vs ds z Q w rx hg hq
  unfold intB at hg
  split at hg
  · cases hg
    obtain ⟨v, rfl, r⟩ := one_inv rx
    cases r.int_inv
    exact .inl ⟨_, rfl, hq _ H .refl (.int _)⟩
  · cases hg
def maxI : List Int → Int
  | [] => 0
  | [x] => x
  | x :: r => let m := maxI r; if m > x then m else x
def minI : List Int → Int
  | [] => 0
  | [x] => x
  | x :: r => let m := minI r; if m < x then m else x
theorem maxI_mem : ∀ {ns : List Int}, ns ≠ [] → maxI ns ∈ ns ∧ ∀ y ∈ ns, y ≤ maxI ns
  | [], h => absurd rfl h
  | [x], _ => ⟨by simp [maxI], by simp [maxI]⟩
  | x :: y :: r, _ => by
    obtain ⟨h1, h2⟩ := maxI_mem (ns := y :: r) (by simp)
    have e : maxI (x :: y :: r) = if maxI (y :: r) > x then maxI (y :: r) else x := rfl
    rw [e]
    split
    · refine ⟨List.mem_cons_of_mem _ h1, fun z hz => ?_⟩
      rcases List.mem_cons.mp hz with rfl | hz
      · omega
      · exact h2 z hz
    · refine ⟨List.mem_cons_self .., fun z hz => ?_⟩
      rcases List.mem_cons.mp hz with rfl | hz
      · omega
      · have := h2 z hz; omega
theorem minI_mem : ∀ {ns : List Int}, ns ≠ [] → minI ns ∈ ns ∧ ∀ y ∈ ns, minI ns ≤ y
  | [], h => absurd rfl h
  | [x], _ => ⟨by simp [minI], by simp [minI]⟩
  | x :: y :: r, _ => by
    obtain ⟨h1, h2⟩ := minI_mem (ns := y :: r) (by simp)
    have e : minI (x :: y :: r) = if minI (y :: r) < x then minI (y :: r) else x := rfl
    rw [e]
    split
    · refine ⟨List.mem_cons_of_mem _ h1, fun z hz => ?_⟩
      rcases List.mem_cons.mp hz with rfl | hz
      · omega
      · exact h2 z hz
    · refine ⟨List.mem_cons_self .., fun z hz => ?_⟩
      rcases List.mem_cons.mp hz with rfl | hz
      · omega
      · have := h2 z hz; omega
def maxB : List D → Option Sl
  | [.int i, .int j] => some (.val (.int (if j > i then j else i)))
  | [.list xs] => match intsD xs with
    | some (n :: ns) => some (.val (.int (maxI (n :: ns))))
    | _ => none
  | _ => none
def minB : List D → Option Sl
  | [.int i, .int j] => some (.val (.int (if j < i then j else i)))
  | [.list xs] => match intsD xs with
    | some (n :: ns) => some (.val (.int (minI (n :: ns))))
    | _ => none
  | _ => none
theorem s_max : PrimS F (fun xs H Q => (∃ i j, xs = [.int i, .int j] ∧ Q (.int (if j > i then j else i)) H) ∨ rMax F.m.K xs H Q) maxB := by
  intro H O c vs ds z Q w rx hg hq
  unfold maxB at hg
  split at hg
  · cases hg
    obtain ⟨v, v', rfl, r, r'⟩ := two_inv rx
    cases r.int_inv
    cases r'.int_inv
    exact .inl ⟨_, _, rfl, hq _ H .refl (.int _)⟩
  · split at hg
    · rename_i n ns e
      cases hg
      obtain ⟨v, rfl, r⟩ := one_inv rx
      obtain ⟨a, us, rfl, ha, _, ra⟩ := r.list_inv
      rw [intsD_eq e] at ra
      refine .inr ⟨a, n :: ns, rfl, .of (by rw [← ra.of_ints]; exact ha), by simp, fun m hm hl => ?_⟩
      obtain ⟨h1, h2⟩ := maxI_mem (ns := n :: ns) (by simp)
      have : m = maxI (n :: ns) := by have := hl _ h1; have := h2 _ hm; omega
      rw [this]
      exact hq _ H .refl (.int _)
    · cases hg
  · cases hg
theorem s_min : PrimS F (fun xs H Q => (∃ i j, xs = [.int i, .int j] ∧ Q (.int (if j < i then j else i)) H) ∨ rMin F.m.K xs H Q) minB := by
  intro H O c vs ds z Q w rx hg hq
  unfold minB at hg
  split at hg
  · cases hg
    obtain ⟨v, v', rfl, r, r'⟩ := two_inv rx
    cases r.int_inv
    cases r'.int_inv
    exact .inl ⟨_, _, rfl, hq _ H .refl (.int _)⟩
  · split at hg
    · rename_i n ns e
      cases hg
      obtain ⟨v, rfl, r⟩ := one_inv rx
      obtain ⟨a, us, rfl, ha, _, ra⟩ := r.list_inv
      rw [intsD_eq e] at ra
      refine .inr ⟨a, n :: ns, rfl, .of (by rw [← ra.of_ints]; exact ha), by simp, fun m hm hl => ?_⟩
      obtain ⟨h1, h2⟩ := minI_mem (ns := n :: ns) (by simp)
      have : m = minI (n :: ns) := by have := hl _ h1; have := h2 _ hm; omega
      rw [this]
      exact hq _ H .refl (.int _)
    · cases hg
  · cases hg
end
end DL

set_option Elab.async false
set_option linter.all false
set_option maxRecDepth 100000
set_option maxHeartbeats 4000000
/-! DLf: len, sum, tuple, list, any, all, chains of comparisons, isinstance, calls of defs. -/
namespace DL
open PySem PySem.Spec L2
open PyProof.Rows hiding St

section
variable {F : Fx} {X : Cx} {H H' H1 H2 : Hp} {O O' O1 O2 : Addr → Prop} {σ : St} {s s1 s2 : S} {Q : VK} {QT : Bool → Hp → Prop} {t : TE} {f g : DE} {v : V} {d : D} {K : PySem.W.Frag} {δ : Option Addr}

/-! ### len -/
def lenB : List D → Option Sl
  | [.list xs] => some (.val (.int xs.length))
  | [.tuple xs] => some (.val (.int xs.length))
  | [.str z] => if z.length ≤ sizeLine then some (.val (.int z.length)) else none
  | [.dict [(.bool true, .list xs)]] => some (.val (.int xs.length))
  | [.dict [(.bool false, .list xs)]] => some (.val (.int xs.length))
  | _ => none
def rLenB (K : PySem.W.Frag) : List V → Hp → VK → Prop := fun xs H Q => (∃ p ys, xs = [.ref p] ∧ (SqL K H p ys ∨ SqT K H p ys) ∧ Q (.int ys.length) H) ∨ (∃ z, xs = [.str z] ∧ z.length ≤ sizeLine ∧ Q (.int z.length) H) ∨ rLenT xs H Q
theorem call_lenB : CallR X (.builtin "len") (rLenB X.K) := call_len_seq.or (call_len_str.or call_len_dT)
theorem s_len : PrimS F (rLenB F.m.K) lenB := by
  intro H O c vs ds z Q w rx hg hq
  unfold lenB at hg
  split at hg
  · cases hg
    obtain ⟨v, rfl, r⟩ := one_inv rx
    obtain ⟨a, us, rfl, ha, _, ra⟩ := r.list_inv
    exact .inl ⟨a, us, rfl, .inl (.of ha), by rw [ra.length]; exact hq _ H .refl (.int _)⟩
  · cases hg
    obtain ⟨v, rfl, r⟩ := one_inv rx
    obtain ⟨a, us, rfl, ha, ra⟩ := r.tup_inv
    exact .inl ⟨a, us, rfl, .inr ha, by rw [ra.length]; exact hq _ H .refl (.int _)⟩
  · split at hg
    · cases hg
      obtain ⟨v, rfl, r⟩ := one_inv rx
      cases r.str_inv
      exact .inr (.inl ⟨_, rfl, by assumption, hq _ H .refl (.int _)⟩)
    · cases hg
  · cases hg
    obtain ⟨v, rfl, r⟩ := one_inv rx
    obtain ⟨a, us, rfl, ha, ra⟩ := RepD.scr_inv r
    exact .inl ⟨a, us, rfl, .inl ha, by rw [ra.length]; exact hq _ H .refl (.int _)⟩
  · cases hg
    obtain ⟨v, rfl, r⟩ := one_inv rx
    obtain ⟨a, ls, rfl, ha, _, rfl⟩ := RepD.dtt_inv r
    have e := hq (.int ((ls.length : Nat) : Int)) H .refl (by rw [List.length_map]; exact .int _)
    refine .inr (.inr ⟨a, ls.map ttE, rfl, ha, ?_⟩)
    rw [List.length_map]
    exact e
  · cases hg
/-- len(x), x a name: its list does not come to rest -/
def eLenN (i : Nat) : DE := fun s => match s.e[i]? with
  | some (.val d) => liftR (lenB [d]) s
  | some (.own xs) => .ok (.val (.int xs.length)) s
  | _ => .stuck
theorem e_lenN (i : Nat) {x : Str} {p px pos : Pos} (hK : F.m.K = X.K) (hg : Gl X "len") (hm : X.mg "len" = none) (hN : X.N[i]? = some x := by rfl) (hv : Vis X.env.scope x := by first | exact Or.inl rfl | exact Or.inr (Or.inl rfl) | exact Or.inr (Or.inr rfl))
    (hd : (x == ("__debug__" : Str)) = false := by decide) (hcd : (x == ("__classdict__" : Str)) = false := by decide)
    (he : starEach [.Name x px] X.env = (false, eval (.Name x px) X.env) :: starEach [] X.env := by rfl) : EO F X (.Call (.Name "len" p) [.Name x px] [] pos) (eLenN i) := by
  refine ⟨_, pe_callB call_lenB hg hm PySem.boot_len (pa_cons (pe_var hN hv hd hcd) pa_nil he) (by decide) (by decide) he rfl, fun σ H O s Q I k => ?_⟩
  unfold eLenN at k
  split at k
  · rename_i d h
    obtain ⟨v, h1, h2⟩ := I.env.vals i d h
    obtain ⟨z, qo, zn, kq⟩ := KE_lift k
    exact ⟨v, h1, hK ▸ s_len H O s.c [v] [d] z Q I.wd (.cons h2 .nil) qo (Res.of I .refl I kq zn)⟩
  · rename_i xs h
    obtain ⟨a, vs, h1, h2, h3, h4, h5, h6⟩ := I.env.owns i xs h
    exact ⟨_, h1, .inl ⟨a, vs, rfl, .inl (.of h4), by rw [h5.length]; exact k _ H O .refl I (.int _)⟩⟩
  · exact k.elim

/-! ### sum, any, all, tuple, list -/
theorem sum_tup {prog : Program} {w : World} {A : Around} {E : Value → Shared → Prop} {s : Shared} {l : Addr} {its : List Value} {ns : List Int} {Q : Value → Shared → Prop} (hh : A.handled = none) (hl : IsTup s.heap l its.toArray) (hi : IntsAre its ns)
    (h : ∀ h' tk t', (∀ b o, s.heap.get? b = some o → h'.get? b = some o) → Q (.int ns.sum t') { s with heap := h', toks := tk }) : wpAny (model prog w) A (call (.builtin "sum") [.ref l]) Q E s := by
  obtain ⟨xs, e⟩ := hi.allInts.items
  have hn : numsOf (intItems xs).toList = ns := by rw [← e]; exact hi.numsOf
  rw [nums_intItems] at hn
  rw [e] at hl
  have hlt : l < s.heap.objs.size := by obtain ⟨o, ho, _⟩ := hl; exact Heap.lt_size ho
  have hl : s.heap.IsTuple l (intItems xs) := hl
  refine call_sum_walkG (wpAny_pyIter_tuple hl ?_)
  refine ⟨_, _, _, _, _, _, numAt xs, rfl, Walks.tuple (A := A.in1) hh _ l (Nat.ne_of_lt hlt) (intItems xs), ⟨⟨_, Heap.get?_push_size _ rfl, rfl, rfl⟩, hl.push _⟩, fun b hb => ?_, (fun _ _ => intItems_at), fun h' tk t' hk => ?_⟩
  · show b < (s.heap.push _).objs.size
    rw [Heap.size_push]
    rcases List.mem_cons.mp hb with rfl | hb
    · exact Nat.lt_succ_self _
    · rcases List.mem_cons.mp hb with rfl | hb
      · exact Nat.lt_succ_of_lt hlt
      · cases hb
  · have := h h' tk t' (fun b o hb => hk b o (by
      have hlt2 := Heap.lt_size hb
      intro z
      rcases List.mem_cons.mp z with rfl | z
      · exact Nat.lt_irrefl _ hlt2
      · cases z) (Heap.get?_push_of_some _ hb))
    have e2 : preSum (numAt xs) (intItems xs).size = ns.sum := by
      have e3 : (intItems xs).size = xs.size := by simp [intItems]
      rw [e3, preSum_eq, List.take_of_length_le (by simp), hn]
    rw [e2]
    exact this
def rSumB (K : PySem.W.Frag) : List V → Hp → VK → Prop := fun vs H Q => rSum K vs H Q ∨ ∃ (a : Addr) (ns : List Int), vs = [V.ref a] ∧ SqT K H a (ns.map V.int) ∧ Q (.int ns.sum) H
theorem cr_sumB (hc : X.calm = true) : CallR X (.builtin "sum") (rSumB X.K) := by
  refine (cr_sum hc).or ?_
  intro pins s σ H vs us Q I r h
  obtain ⟨a, ns, rfl, hs, q⟩ := h
  obtain ⟨its, rv, hl, _⟩ := I.tuple hs
  rw [Vals.ref1 r]
  exact sum_tup (I.ok.hd hc) hl rv.ints fun h' tk t' hk => ⟨.int _, H, I.kept hk, ⟨_, rfl⟩, q⟩
def sumB : List D → Option Sl
  | [.list xs] => (intsD xs).map fun ns => .val (.int ns.sum)
  | [.tuple xs] => (intsD xs).map fun ns => .val (.int ns.sum)
  | _ => none
theorem s_sum : PrimS F (rSumB F.m.K) sumB := by
  intro H O c vs ds z Q w rx hg hq
  unfold sumB at hg
  split at hg
  · simp only [Option.map_eq_some_iff] at hg
    obtain ⟨ns, e, rfl⟩ := hg
    obtain ⟨v, rfl, r⟩ := one_inv rx
    obtain ⟨a, us, rfl, ha, _, ra⟩ := r.list_inv
    rw [intsD_eq e] at ra
    exact .inl ⟨a, ns, rfl, .of (by rw [← ra.of_ints]; exact ha), hq _ H .refl (.int _)⟩
  · simp only [Option.map_eq_some_iff] at hg
    obtain ⟨ns, e, rfl⟩ := hg
    obtain ⟨v, rfl, r⟩ := one_inv rx
    obtain ⟨a, us, rfl, ha, ra⟩ := r.tup_inv
    rw [intsD_eq e] at ra
    exact .inr ⟨a, ns, rfl, by rw [← ra.of_ints]; exact ha, hq _ H .refl (.int _)⟩
  · cases hg
def boolsD : List D → Option (List Bool)
  | [] => some []
  | .bool i :: r => (boolsD r).map (i :: ·)
  | _ => none
theorem boolsD_eq : ∀ {ds : List D} {ns : List Bool}, boolsD ds = some ns → ds = ns.map PyData.bool
  | [], _, h => by cases h; rfl
  | .bool i :: r, ns, h => by
    simp only [boolsD, Option.map_eq_some_iff] at h
    obtain ⟨ms, h1, rfl⟩ := h
    rw [boolsD_eq h1]; rfl
  | .none :: _, _, h => by cases h
  | .int _ :: _, _, h => by cases h
  | .str _ :: _, _, h => by cases h
  | .list _ :: _, _, h => by cases h
  | .tuple _ :: _, _, h => by cases h
  | .dict _ :: _, _, h => by cases h
theorem boolsD_map (ns : List Bool) : boolsD (ns.map PyData.bool) = some ns := by
  induction ns with
  | nil => rfl
  | cons n ns ih => rw [List.map_cons, boolsD, ih]; rfl
def anyB : List D → Option Sl
  | [.list xs] => (boolsD xs).map fun ns => .val (.bool (ns.any id))
  | _ => none
def allB : List D → Option Sl
  | [.list xs] => (boolsD xs).map fun ns => .val (.bool (ns.all id))
  | _ => none
theorem s_any : PrimS F (rAny F.m.K) anyB := by
  intro H O c vs ds z Q w rx hg hq
  unfold anyB at hg
  split at hg
  · simp only [Option.map_eq_some_iff] at hg
    obtain ⟨ns, e, rfl⟩ := hg
    obtain ⟨v, rfl, r⟩ := one_inv rx
    obtain ⟨a, us, rfl, ha, _, ra⟩ := r.list_inv
    rw [boolsD_eq e] at ra
    exact ⟨a, ns, rfl, .of (by rw [← ra.of_bools]; exact ha), hq _ H .refl (.bl _)⟩
  · cases hg
theorem s_all : PrimS F (rAll F.m.K) allB := by
  intro H O c vs ds z Q w rx hg hq
  unfold allB at hg
  split at hg
  · simp only [Option.map_eq_some_iff] at hg
    obtain ⟨ns, e, rfl⟩ := hg
    obtain ⟨v, rfl, r⟩ := one_inv rx
    obtain ⟨a, us, rfl, ha, _, ra⟩ := r.list_inv
    rw [boolsD_eq e] at ra
    exact ⟨a, ns, rfl, .of (by rw [← ra.of_bools]; exact ha), hq _ H .refl (.bl _)⟩
  · cases hg
/-- tuple(x) -/
def rTupN (K : PySem.W.Frag) : List V → Hp → VK → Prop := fun xs H Q => ∃ p ys, xs = [.ref p] ∧ ((SqL K H p ys ∧ ∀ l, H l = none → NewT H l ys Q) ∨ (SqT K H p ys ∧ Q (.ref p) H))
theorem call_tupN : CallR X (.type "tuple") (rTupN X.K) := by
  intro pins s σ H xs us Q I r h
  obtain ⟨p, ys, rfl, h⟩ := h
  obtain ⟨u, rfl, rx⟩ := vals1 r
  cases rx
  rcases h with ⟨hq, q⟩ | ⟨hq, q⟩
  · obtain ⟨its, r', pl, hz⟩ := I.list hq
    have hn : its.length ≤ sizeLine := r'.length ▸ hz
    refine call_tuple_list pl.isList (fun h' kp => ?_) (by rw [List.size_toArray]; exact hn)
    have I1 : Inv X pins σ H { s with heap := h' } := I.kept (t' := s.toks) kp
    exact newT_laid (tk := s.toks) I1 (fun b o e => Heap.get?_push_of_some _ e) (Nat.le_refl _) hz r' (Heap.get?_push_size _ rfl) (q _ (I1.hok.fresh (Nat.le_refl _)))
  · obtain ⟨its, r', pl, hz⟩ := I.tuple hq
    exact call_tuple_same pl ⟨.ref p, H, I, rfl, q⟩
def tupB : List D → Option Sl
  | [.list xs] => some (.val (.tuple xs))
  | [.tuple xs] => some (.val (.tuple xs))
  | _ => none
theorem s_tup : PrimS F (rTupN F.m.K) tupB := by
  intro H O c vs ds z Q w rx hg hq
  unfold tupB at hg
  split at hg
  · cases hg
    obtain ⟨v, rfl, r⟩ := one_inv rx
    obtain ⟨a, us, rfl, ha, _, ra⟩ := r.list_inv
    exact ⟨a, us, rfl, .inl ⟨.of ha, fun p hp => newT_of w hp ra hq⟩⟩
  · cases hg
    obtain ⟨v, rfl, r⟩ := one_inv rx
    obtain ⟨a, us, rfl, ha, pa, ra⟩ := r.tup_invP
    exact ⟨a, us, rfl, .inr ⟨ha, hq _ H .refl (.tup ha pa ra)⟩⟩
  · cases hg
def lstB : List D → Option Sl
  | [.list xs] => some (.own xs)
  | [.tuple xs] => some (.own xs)
  | _ => none
theorem s_lst : PrimS F (fun xs H Q => ∃ p ys, xs = [.ref p] ∧ (SqL F.m.K H p ys ∨ SqT F.m.K H p ys) ∧ ∀ l, H l = none → Q (.ref l) (upd H l (.lst ys))) lstB := by
  intro H O c vs ds z Q w rx hg hq
  unfold lstB at hg
  split at hg
  · cases hg
    obtain ⟨v, rfl, r⟩ := one_inv rx
    obtain ⟨a, us, rfl, ha, _, ra⟩ := r.list_inv
    exact ⟨a, us, rfl, .inl (.of ha), fun p hp => hq p _ hp ra⟩
  · cases hg
    obtain ⟨v, rfl, r⟩ := one_inv rx
    obtain ⟨a, us, rfl, ha, ra⟩ := r.tup_inv
    exact ⟨a, us, rfl, .inr ha, fun p hp => hq p _ hp ra⟩
  · cases hg

/-! ### -a, a < b < c -/
def eNeg (a : DE) : DE := fun s => (a s).bind fun x s1 => match x with
  | .int i => .ok (.val (.int (-i))) s1
  | _ => .stuck
theorem e_neg {a : Expr} {fa : DE} {pos : Pos} (ha : EO F X a fa) : EO F X (.UnaryOp .USub a pos) (eNeg fa) := by
  obtain ⟨ta, pa, sa⟩ := ha
  refine ⟨_, pe_un un_neg pa, fun σ H O s Q I k => ?_⟩
  refine sa.bind I k fun x s1 v H1 O1 st I1 r kz => ?_
  split at kz
  · exact ⟨_, r.int_inv, kz _ H1 O1 st I1 (.int _)⟩
  · exact kz.elim
def eChain (g g' : D → D → Option Sl) (a b c : DE) : DE := fun s => (a s).bind fun x s1 => (b s1).bind fun y s2 => match g x y with
  | some (.val (.bool true)) => (c s2).bind fun z s3 => liftR (g' y z) s3
  | some (.val (.bool false)) => .ok (.val (.bool false)) s2
  | _ => .stuck
theorem s_chain {r r' : R2} {g g' : D → D → Option Sl} {ta tb tc : TE} {a b c : DE} (ha : SE F ta a) (hb : SE F tb b) (hc : SE F tc c) (hs : OpS F r g) (hs' : OpS F r' g') : SE F (tChain r r' ta tb tc) (eChain g g' a b c) := by
  intro σ H O s Q I k
  refine ha.bind I k fun x s1 v1 H1 O1 st1 I1 r1 k1 => ?_
  have k1 := k1.trans st1 (fun _ => True)
  refine hb.bind I1 k1 fun y s2 v2 H2 O2 st2 I2 r2 k2 => ?_
  have k2 := k2.trans st2 (fun _ => True)
  split at k2
  · rename_i e
    refine hs H2 O2 s2.c v1 v2 x y _ _ I2.wd (r1.step st2.stp I1.wd) r2 e fun w H3 ex rw' => ⟨true, rw'.bool_inv, ?_⟩
    rw [if_pos rfl]
    refine hc.bind (I2.ext ex) (k2.trans ex.stF.toE fun _ => True) fun z s4 v4 H4 O4 st4 I4 r4 k4 => ?_
    obtain ⟨zz, qo, zn, kq⟩ := KE_lift k4
    exact hs' H4 O4 s4.c v2 v4 y z zz Q I4.wd ((r2.step (ex.stF (O := O2)).stp I2.wd).step st4.stp (I2.ext ex).wd) r4 qo (Res.of (I2.ext ex) st4 I4 kq zn)
  · rename_i e
    refine hs H2 O2 s2.c v1 v2 x y _ _ I2.wd (r1.step st2.stp I1.wd) r2 e fun w H3 ex rw' => ⟨false, rw'.bool_inv, ?_⟩
    rw [if_neg Bool.false_ne_true]
    exact k2 _ H3 O2 ex.stF.toE (I2.ext ex) (.bl _)
  · exact k2.elim
section
variable {r r' : R2} {g g' : D → D → Option Sl} {op op' : CmpOp} {a b c : Expr} {fa fb fc : DE} {pos : Pos}
theorem e_chain (ho : OpR X (compareOp op) r) (ho' : OpR X (compareOp op') r') (hs : OpS F r g) (hs' : OpS F r' g') (ha : EO F X a fa) (hb : EO F X b fb) (hc : EO F X c fc) (hm : lastMarks [op, op'] [b, c] = false := by with_unfolding_all rfl) : EO F X (.Compare a [op, op'] [b, c] pos) (eChain g g' fa fb fc) :=
  let ⟨_, pa, sa⟩ := ha
  let ⟨_, pb, sb⟩ := hb
  let ⟨_, pc, sc⟩ := hc
  ⟨_, pe_chain ho ho' pa pb pc hm, s_chain sa sb sc hs hs'⟩
theorem t_chain (ho : OpR X (compareOp op) r) (ho' : OpR X (compareOp op') r') (hs : OpS F r g) (hs' : OpS F r' g') (hg' : ∀ x y z, g' x y = some z → ∃ k, z = .val (.bool k)) (ha : EO F X a fa) (hb : EO F X b fb) (hc : EO F X c fc) (hm : lastMarks [op, op'] [b, c] = false := by with_unfolding_all rfl) :
    TO F X (.Compare a [op, op'] [b, c] pos) (eChain g g' fa fb fc) := by
  obtain ⟨_, pa, sa⟩ := ha
  obtain ⟨_, pb, sb⟩ := hb
  obtain ⟨_, pc, sc⟩ := hc
  refine ⟨_, pt_chain ho ho' pa pb pc hm, fun σ H O s Q I k => ?_⟩
  show tChain r r' _ _ _ σ H fun x H' => ∃ k, x = .bl k ∧ Q k H'
  refine s_chain sa sb sc hs hs' σ H O s _ I ?_
  cases q : eChain g g' fa fb fc s with
  | stuck => rw [q] at k; exact k
  | er e c => rw [q] at k; exact k
  | ok x s' =>
    rw [q] at k
    cases hd : x.d with
    | bool b' =>
      simp only [KT, hd] at k
      intro v H' O' st I' rr
      refine ⟨b', ?_, k H' O' st I'⟩
      cases x with
      | un => exact rr.elim
      | nst _ => exact rr.elim
      | ali _ _ => exact rr.elim
      | val d => cases hd; exact RepD.bool_inv rr
      | own xs => cases hd
    | _ => simp only [KT, hd] at k
def eLeLe (a b c : DE) : DE := eChain leD leD a b c
def eLeLt (a b c : DE) : DE := eChain leD ltD a b c
theorem e_lele (ha : EO F X a fa) (hb : EO F X b fb) (hc : EO F X c fc) (hm : lastMarks [.LtE, .LtE] [b, c] = false := by with_unfolding_all rfl) : EO F X (.Compare a [.LtE, .LtE] [b, c] pos) (eLeLe fa fb fc) := e_chain op_le op_le s_le s_le ha hb hc hm
theorem e_lelt (ha : EO F X a fa) (hb : EO F X b fb) (hc : EO F X c fc) (hm : lastMarks [.LtE, .Lt] [b, c] = false := by with_unfolding_all rfl) : EO F X (.Compare a [.LtE, .Lt] [b, c] pos) (eLeLt fa fb fc) := e_chain op_le op_lt s_le s_lt ha hb hc hm
theorem t_lele (ha : EO F X a fa) (hb : EO F X b fb) (hc : EO F X c fc) (hm : lastMarks [.LtE, .LtE] [b, c] = false := by with_unfolding_all rfl) : TO F X (.Compare a [.LtE, .LtE] [b, c] pos) (eLeLe fa fb fc) := t_chain op_le op_le s_le s_le gI_bool ha hb hc hm
theorem t_lelt (ha : EO F X a fa) (hb : EO F X b fb) (hc : EO F X c fc) (hm : lastMarks [.LtE, .Lt] [b, c] = false := by with_unfolding_all rfl) : TO F X (.Compare a [.LtE, .Lt] [b, c] pos) (eLeLt fa fb fc) := t_chain op_le op_lt s_le s_lt gI_bool ha hb hc hm
end

/-! ### isinstance(x, T), T a built-in type -/
inductive Ty4 where
  | int | bool | str | tuple | list
def Ty4.nm : Ty4 → String
  | .int => "int" | .bool => "bool" | .str => "str" | .tuple => "tuple" | .list => "list"
def isiD : Ty4 → D → Bool
  | .int, .int _ => true
  | .int, .bool _ => true
  | .bool, .bool _ => true
  | .str, .str _ => true
  | .tuple, .tuple _ => true
  | .list, .list _ => true
  | _, _ => false
/-- data, but for the cell, the script and dicts -/
def plainD : D → Bool
  | .dict _ => false
  | _ => true
def eIsi (T : Ty4) (a : DE) : DE := fun s => (a s).bind fun x s1 => if plainD x then .ok (.val (.bool (isiD T x))) s1 else .stuck
theorem RepD.ty {T : Ty4} (r : RepD K H O δ v d) (p : plainD d = true) : ∃ t, TyX K H v t ∧ PySem.W.kitOne K t (.type T.nm) = some (isiD T d) := by
  cases r with
  | non => exact ⟨_, .base .non, by cases T <;> first | exact kit_ty (r := true) (by decide +kernel) | exact kit_ty (r := false) (by decide +kernel)⟩
  | bl b => exact ⟨_, .base (.bl b), by cases T <;> first | exact kit_ty (r := true) (by decide +kernel) | exact kit_ty (r := false) (by decide +kernel)⟩
  | int i => exact ⟨_, .base (.int i), by cases T <;> first | exact kit_ty (r := true) (by decide +kernel) | exact kit_ty (r := false) (by decide +kernel)⟩
  | str x => exact ⟨_, .base (.str x), by cases T <;> first | exact kit_ty (r := true) (by decide +kernel) | exact kit_ty (r := false) (by decide +kernel)⟩
  | tup h _ =>
    rcases h with (h | ⟨o, h⟩) | ⟨o, its, n, h, hc, _⟩
    · exact ⟨_, .base (.tup h), by cases T <;> first | exact kit_ty (r := true) (by decide +kernel) | exact kit_ty (r := false) (by decide +kernel)⟩
    · exact ⟨_, .fTuple h, by cases T <;> first | exact kit_ty (r := true) (by decide +kernel) | exact kit_ty (r := false) (by decide +kernel)⟩
    · exact ⟨_, .kTuple h hc, by cases T <;> first | exact kit_ty (r := true) (by decide +kernel) | exact kit_ty (r := false) (by decide +kernel)⟩
  | lst h _ _ => exact ⟨_, .base (.lst h), by cases T <;> first | exact kit_ty (r := true) (by decide +kernel) | exact kit_ty (r := false) (by decide +kernel)⟩
  | cell h => exact absurd p (by unfold dcell plainD; simp)
  | scr h _ => exact absurd p (by unfold dscr plainD; simp)
  | fn h => exact absurd p (by unfold dfn plainD; simp)
  | dic h _ _ => exact absurd p (by unfold plainD; simp)
  | dtt h _ => exact absurd p (by unfold dttD plainD; simp)
theorem e_isi (T : Ty4) {x : Str} {a : Expr} {fa : DE} {p p2 pos : Pos} (hK : F.m.K = X.K) (hg : Gl X "isinstance") (hm : X.mg "isinstance" = none) (hgT : Gl X x) (hmT : X.mg x = none) (hx : bootBuiltins x = some (.type T.nm)) (ha : EO F X a fa)
    (hn : x ≠ "__name__" := by decide) (hdb : (x == ("__debug__" : Str)) = false := by decide)
    (he : starEach [a, .Name x p2] X.env = (false, eval a X.env) :: starEach [.Name x p2] X.env := by rfl) (he2 : starEach [.Name x p2] X.env = (false, eval (.Name x p2) X.env) :: starEach [] X.env := by rfl) (hpl : (backTo pos (starEach [.Name x p2] X.env)).any (·.1) = false := by rfl) :
    EO F X (.Call (.Name "isinstance" p) [a, .Name x p2] [] pos) (eIsi T fa) := by
  obtain ⟨ta, pa, sa⟩ := ha
  refine ⟨_, pe_callB call_isi hg hm (by decide +kernel) (pa_cons pa (pa_cons (pe_bltn (v := .ty T.nm) hgT hmT hx rfl hn hdb) pa_nil he2) he) (by decide) (by decide) he hpl, fun σ H O s Q I k => ?_⟩
  refine sa.bind I k fun d s1 v H1 O1 st I1 r kz => ?_
  split at kz
  · rename_i hp
    obtain ⟨t, h1, h2⟩ := r.ty (T := T) hp
    exact ⟨v, .ty T.nm, t, .type T.nm, isiD T d, rfl, .ty _, hK ▸ h1, hK ▸ h2, kz _ H1 O1 st I1 (.bl _)⟩
  · exact kz.elim

/-! ### calls of defs -/
def KF (m : Pm) (δ : Option Addr) (H : Hp) (O : Addr → Prop) (Q : VK) (E : XK) : RF → Prop
  | .ok x c' => ∀ v H' O', StF δ H O H' O' → Wd m δ H' O' c' → SlXK m.K δ H H' O' v x → Q v H'
  | .er e c' => ∀ cls dd H' O', StF δ H O H' O' → Wd m δ H' O' c' → ErR m e cls dd H' → E cls dd H'
  | .stuck => False
/-- THE promise of a def: it hands back what G says -/
def spD (m : Pm) (n : Nat) (G : Fn) : Sp := fun vs H Q E => ∃ δ O c ds, ds.length = n ∧ Wd m δ H O c ∧ RepDs m.K H O δ vs ds ∧ KF m δ H O Q E (G ds c)
theorem spD_len {m : Pm} {n : Nat} {G : Fn} {vs : List V} {H : Hp} {Q : VK} {E : XK} (h : spD m n G vs H Q E) : vs.length = n := by
  obtain ⟨δ, O, c, ds, hl, _, r, _⟩ := h
  rw [r.length, hl]
def callR (G : Fn) (ds : List D) (s : S) : RE := match G ds s.c with
  | .ok x c => .ok x { s with c := c }
  | .er e c => .er e c
  | .stuck => .stuck
def eCall (G : Fn) (as : DA) : DE := fun s => (as s).bind fun ds s1 => callR G ds s1
theorem spD_of {n : Nat} {G : Fn} {vs : List V} {ds : List D} (I : Est F σ H O s) (r : RepDs F.m.K H O F.δ vs ds) (hl : ds.length = n) (k : KE F σ H O s Q (callR G ds s)) : spD F.m n G vs H Q F.E := by
  refine ⟨F.δ, O, s.c, ds, hl, I.wd, r, ?_⟩
  unfold callR at k
  cases q : G ds s.c with
  | stuck => rw [q] at k; exact k
  | er e c => rw [q] at k; exact fun cls dd H' O' st w er => k cls dd H' O' (I.base.trans st) w er
  | ok x c => rw [q] at k; exact fun v H' O' st w sx => k v H' O' st.toE (I.call st w) sx
section
variable {n k : Nat} {fa : Addr} {fd : FuncData} {ps : List Str} {G : Fn} {x : Str} {p pos : Pos} {e : Expr} {es : List Expr} {as : DA}
theorem e_call (hP : FnOk X.prog X.w X.K X.mg X.base (L2.CX X.prog X.w) k fa fd ps (spD F.m n G)) (hr : Room k X.A) (hg : Gl X x) (hm : X.mg x = some (.ref fa)) (hk : PySem.W.keepIn X.K (.ref fa) = true) (hb : Binds X.K fd ps []) (hx : Passes (L2.CX X.prog X.w) X F.E)
    (ha : AO F X (e :: es) as) (hn : (e :: es).length = n := by rfl) (hdb : (x == ("__debug__" : Str)) = false := by decide)
    (he : starEach (e :: es) X.env = (false, eval e X.env) :: starEach es X.env := by rfl) (hpl : (backTo pos (starEach es X.env)).any (·.1) = false := by rfl) :
    EO F X (.Call (.Name x p) (e :: es) [] pos) (eCall G as) := by
  obtain ⟨ta, pa, sa, la⟩ := ha
  refine ⟨_, pe_call hP hr hg hm hk hb .nil hx pa hdb he hpl, fun σ H O s Q I k => ?_⟩
  refine sa.bind I k fun ds s1 vs H1 O1 q st I1 r kz => ?_
  rw [List.append_nil]
  exact spD_of I1 r ((la _ _ _ q).trans hn) kz
end
end
end DL

set_option Elab.async false
set_option linter.all false
set_option maxRecDepth 100000
set_option maxHeartbeats 4000000
/-! DLg: statements. -/
namespace DL
open PySem PySem.Spec L2
open PyProof.Rows hiding St

/-- a statement's step: what may no longer change is as it was -/
structure StS (H : Hp) (O : Addr → Prop) (H' : Hp) (O' : Addr → Prop) : Prop where
  keep : ∀ a o, ¬ O a → ¬ isTbl o → H a = some o → H' a = some o
  there : ∀ a, H a ≠ none → H' a ≠ none
  fresh : ∀ a, O' a → O a ∨ H a = none
section
variable {F : Fx} {X : Cx} {H H' H1 H2 : Hp} {O O' O1 O2 : Addr → Prop} {σ σ' : St} {s s' s1 s2 : S} {Q : VK} {QT : Bool → Hp → Prop} {t : TE} {f g : DE} {v : V} {d : D} {K : PySem.W.Frag} {δ : Option Addr} {m : Pm} {c : List Int} {e e' : List Sl} {vs : List V} {ds : List D}
theorem StS.refl : StS H O H O := ⟨fun _ _ _ _ h => h, fun _ h => h, fun _ h => .inl h⟩
theorem StS.trans (a : StS H O H1 O1) (b : StS H1 O1 H2 O2) : StS H O H2 O2 :=
  ⟨fun x o n t h => b.keep x o (fun z => (a.fresh x z).elim n (fun q => by rw [h] at q; cases q)) t (a.keep x o n t h), fun x h => b.there x (a.there x h), fun x h => (b.fresh x h).elim (a.fresh x) (fun n => .inr (by
      cases q : H x with
      | none => rfl
      | some o => exact absurd n (a.there x (by rw [q]; simp))))⟩
theorem StE.stS (a : StE δ σ H O e H1 O1 e') (w : Wd m δ H O c) : StS H O H1 O1 := ⟨fun x o n t h => a.keep x o (fun z => n (w.cel x z).1) t h, a.there, a.fresh⟩
theorem StF.stS (a : StF δ H O H1 O1) (w : Wd m δ H O c) : StS H O H1 O1 := ⟨fun x o n t h => a.keep x o (fun z => n (w.cel x z).1) t h, a.there, a.fresh⟩
theorem StS.nO {a : Addr} (s : StS H O H' O') (h : H a ≠ none) (n : ¬ O a) : ¬ O' a := fun z => (s.fresh a z).elim n h
theorem rd_stS {u : HO} {a : Addr} (s : StS H O H' O') (n : ¬ O a) (t : ¬ isTbl u) (r : Rd H a u) : Rd H' a u := by
  rcases r with r | ⟨o, r⟩
  · exact .inl (s.keep a u n t r)
  · exact .inr ⟨o, s.keep a _ n nt_frz r⟩
theorem StS.sqT {a : Addr} {xs : List V} (s : StS H O H' O') (w : Wd m δ H O c) (h : SqT K H a xs) : SqT K H' a xs := by
  rcases h with h | h
  · refine .inl (rd_stS s (fun z => ?_) nt_tup h)
    obtain ⟨_, q⟩ := w.src a z
    rcases h with h | ⟨o, h⟩ <;> rw [q] at h <;> cases h
  · exact .inr h
theorem StS.pl {a : Addr} {xs : List V} (s : StS H O H' O') (w : Wd m δ H O c) (h : Pl H a xs) : Pl H' a xs := by
  obtain ⟨o, h, n⟩ := h
  refine ⟨o, s.keep a _ (fun z => ?_) nt_frz h, n⟩
  obtain ⟨_, q⟩ := w.src a z
  rw [h] at q
  cases q
mutual
theorem RepD.stS (s : StS H O H' O') (w : Wd m δ H O c) : ∀ {v : V} {d : D}, RepD K H O δ v d → RepD K H' O' δ v d
  | _, _, .non => .non
  | _, _, .bl b => .bl b
  | _, _, .int i => .int i
  | _, _, .str x => .str x
  | _, _, .tup h p r => .tup (s.sqT w h) (fun z => s.pl w (p z)) (RepDs.stS s w r)
  | _, _, .lst h n r => .lst (s.keep _ _ n nt_lst h) (s.nO (by rw [h]; simp) n) (RepDs.stS s w r)
  | _, _, .cell h => .cell h
  | _, _, .fn h => .fn h
  | _, _, .scr (.inl ⟨h, n⟩) r => .scr (.inl ⟨rd_stS s n nt_lst h, s.nO (rd_some h) n⟩) (RepDs.stS s w r)
  | _, _, .scr (.inr h) r => .scr (.inr h) (RepDs.stS s w r)
  | _, _, .dic h n r => .dic (s.keep _ _ n nt_dK h) (s.nO (by rw [h]; simp) n) (RepDs.stS s w r)
  | _, _, .dtt h n => .dtt (s.keep _ _ n nt_dT h) (s.nO (by rw [h]; simp) n)
theorem RepDs.stS (s : StS H O H' O') (w : Wd m δ H O c) : ∀ {vs : List V} {ds : List D}, RepDs K H O δ vs ds → RepDs K H' O' δ vs ds
  | _, _, .nil => .nil
  | _, _, .cons h r => .cons (RepD.stS s w h) (RepDs.stS s w r)
end

def KS (F : Fx) (H : Hp) (O : Addr → Prop) (Q : Ends) : RS → Prop
  | .nx s => ∀ σ' H' O', StS H O H' O' → Est F σ' H' O' s → Q.nx σ' H'
  | .bk s => ∀ σ' H' O', StS H O H' O' → Est F σ' H' O' s → Q.bk σ' H'
  | .ct s => ∀ σ' H' O', StS H O H' O' → Est F σ' H' O' s → Q.ct σ' H'
  | .rt x c => ∀ v H' O', StF F.δ F.H0 F.O0 H' O' → Wd F.m F.δ H' O' c → SlXK F.m.K F.δ F.H0 H' O' v x → Q.rt v H'
  | .er e c => KEr F e c
  | .stuck => False
def SS (F : Fx) (t : TS) (g : DS) : Prop := ∀ Q σ H O s, Est F σ H O s → KS F H O Q (g s) → t Q σ H
def SO (F : Fx) (X : Cx) (st : Stmt) (g : DS) : Prop := ∃ t, PS X st t ∧ SS F t g
def BO (F : Fx) (X : Cx) (sts : List Stmt) (g : DS) : Prop := ∃ t, PSs X sts t ∧ SS F t g
variable {Qe : Ends}
theorem KS.trans {r : RS} (st : StS H O H1 O1) (k : KS F H O Qe r) : KS F H1 O1 Qe r := by
  cases r with
  | nx s => exact fun σ' H' O' st' I => k σ' H' O' (st.trans st') I
  | bk s => exact fun σ' H' O' st' I => k σ' H' O' (st.trans st') I
  | ct s => exact fun σ' H' O' st' I => k σ' H' O' (st.trans st') I
  | rt x c => exact k
  | er e c => exact k
  | stuck => exact k

/-! ### blocks -/
def RS.seq (r : RS) (k : S → RS) : RS := match r with
  | .nx s => k s
  | r => r
def dNil : DS := fun s => .nx s
def dSeq (a b : DS) : DS := fun s => (a s).seq b
theorem KS.seq {r : RS} {k : S → RS} {u : TS} (h : KS F H O Qe (r.seq k)) (hu : ∀ σ' H' O' s', StS H O H' O' → Est F σ' H' O' s' → KS F H' O' Qe (k s') → u Qe σ' H') : KS F H O { Qe with nx := u Qe } r := by
  cases r with
  | nx s => exact fun σ' H' O' st I => hu σ' H' O' s st I (h.trans st)
  | bk s => exact h
  | ct s => exact h
  | rt x c => exact h
  | er e c => exact h
  | stuck => exact h
theorem b_nil : BO F X [] dNil := ⟨_, pss_nil, fun Q σ H O s I k => k σ H O .refl I⟩
theorem b_one {st : Stmt} {g : DS} (h : SO F X st g) : BO F X [st] g := let ⟨_, p, s⟩ := h; ⟨_, pss_one p, s⟩
theorem b_cons {st : Stmt} {rest : List Stmt} {g r : DS} (h : SO F X st g) (hr : BO F X rest r) : BO F X (st :: rest) (dSeq g r) :=
  let ⟨_, p, sg⟩ := h
  let ⟨_, q, sr⟩ := hr
  ⟨_, pss_cons p q, fun Q σ H O s I k => sg _ σ H O s I (KS.seq k fun σ' H' O' s' st I' k' => sr Q σ' H' O' s' I' k')⟩
theorem s_pass {pos : Pos} : SO F X (.Pass pos) dNil := ⟨_, ps_pass, fun Q σ H O s I k => k σ H O .refl I⟩
def dBreak : DS := fun s => .bk s
theorem s_break {pos : Pos} : SO F X (.Break pos) dBreak := ⟨_, ps_break, fun Q σ H O s I k => k σ H O .refl I⟩
def dCont : DS := fun s => .ct s
theorem s_cont {pos : Pos} : SO F X (.Continue pos) dCont := ⟨_, ps_continue, fun Q σ H O s I k => k σ H O .refl I⟩
theorem s_doc {x : Str} {j : Nat} {pos pos' : Pos} : SO F X (.Expr (.Constant (.str x) j pos) pos') dNil := ⟨_, ps_doc, fun Q σ H O s I k => k σ H O .refl I⟩

/-! ### an expression's outcome within a statement -/
def RE.st (r : RE) (k : Sl → S → RS) : RS := match r with
  | .ok x s => k x s
  | .er e c => .er e c
  | .stuck => .stuck
/-- an expression, its result with what may change -/
theorem SE.stX {a : DE} {ta : TE} {k : Sl → S → RS} {R : VK} (ha : SE F ta a) (I : Est F σ H O s) (h : KS F H O Qe ((a s).st k))
    (hk : ∀ x s1 v H1 O1, StE F.δ σ H O s.e H1 O1 s1.e → Est F σ H1 O1 s1 → SlX F H H1 O1 v x → KS F H1 O1 Qe (k x s1) → R v H1) : ta σ H R := by
  refine ha σ H O s R I ?_
  cases q : a s with
  | stuck => rw [q] at h; exact h
  | er e c => rw [q] at h; exact h
  | ok x s1 => rw [q] at h; exact fun v H1 O1 st I1 r => hk x s1 v H1 O1 st I1 r (KS.trans (st.stS I.wd) h)
/-- .. its data alone -/
theorem SE.stD {a : DE} {ta : TE} {k : Sl → S → RS} {R : VK} (ha : SE F ta a) (I : Est F σ H O s) (h : KS F H O Qe ((a s).st k))
    (hk : ∀ x s1 v H1 O1, StE F.δ σ H O s.e H1 O1 s1.e → Est F σ H1 O1 s1 → RepD F.m.K H1 O1 F.δ v x.d → KS F H1 O1 Qe (k x s1) → R v H1) : ta σ H R := by
  refine ha.use I ?_
  cases q : a s with
  | stuck => rw [q] at h; exact h
  | er e c => rw [q] at h; exact h
  | ok x s1 => rw [q] at h; exact fun v H1 O1 st I1 r => hk x s1 v H1 O1 st I1 r (KS.trans (st.stS I.wd) h)
def RE.stT (r : RE) (k : Bool → S → RS) : RS := match r with
  | .ok (.val (.bool b)) s => k b s
  | .ok _ _ => .stuck
  | .er e c => .er e c
  | .stuck => .stuck
theorem ST.stT {a : DE} {ta : TT} {k : Bool → S → RS} {R : Bool → Hp → Prop} (ha : ST F ta a) (I : Est F σ H O s) (h : KS F H O Qe ((a s).stT k))
    (hk : ∀ b s1 H1 O1, StE F.δ σ H O s.e H1 O1 s1.e → Est F σ H1 O1 s1 → KS F H1 O1 Qe (k b s1) → R b H1) : ta σ H R := by
  refine ha σ H O s R I ?_
  cases q : a s with
  | stuck => rw [q] at h; exact h
  | er e c => rw [q] at h; exact h
  | ok x s1 =>
    rw [q] at h
    unfold RE.stT at h
    split at h
    · rename_i b s' e
      cases e
      exact fun H1 O1 st I1 => hk b s1 H1 O1 st I1 (KS.trans (st.stS I.wd) h)
    · exact h.elim
    · cases ‹RE.ok x s1 = _›
    · cases ‹RE.ok x s1 = _›
def dIf (c : DE) (a b : DS) : DS := fun s => (c s).stT fun k s1 => if k = true then a s1 else b s1
theorem s_if {c : Expr} {a b : List Stmt} {fc : DE} {ga gb : DS} {pos : Pos} (hc : TO F X c fc) (ha : BO F X a ga) (hb : BO F X b gb) : SO F X (.If c a b pos) (dIf fc ga gb) :=
  let ⟨_, pc, sc⟩ := hc
  let ⟨_, pa, sa⟩ := ha
  let ⟨_, pb, sb⟩ := hb
  ⟨_, ps_if pc pa pb, fun Q σ H O s I k => sc.stT I k fun b s1 H1 O1 st I1 k => by
    cases b with
    | true => exact sa Q σ H1 O1 s1 I1 k
    | false => exact sb Q σ H1 O1 s1 I1 k⟩
def dRet (a : DE) : DS := fun s => (a s).st fun x s1 => .rt x s1.c
theorem h0_none {F : Fx} {a : Addr} (I : Est F σ H O s) (h : H a = none) : F.H0 a = none := by
  cases q0 : F.H0 a with
  | none => rfl
  | some o => exact absurd h (I.base.there a (by rw [q0]; simp))
theorem SlX.base {x : Sl} (I : Est F σ H O s) (h : SlX F H H1 O1 v x) : SlXK F.m.K F.δ F.H0 H1 O1 v x := by
  cases x with
  | un => exact h
  | nst _ => exact h
  | ali _ _ => exact h
  | val d => exact h
  | own xs =>
    obtain ⟨a, vs, h1, h2, h3, h4, h5, h6⟩ := h
    exact ⟨a, vs, h1, h2, h3, h4, h5, h0_none I h6⟩
theorem s_ret {a : Expr} {fa : DE} {pos : Pos} (ha : EO F X a fa) : SO F X (.Return (some a) pos) (dRet fa) :=
  let ⟨_, p, sa⟩ := ha
  ⟨_, ps_ret p, fun Q σ H O s I k => sa.stX I k fun x s1 v H1 O1 st I1 r k => k v H1 O1 I1.base I1.wd (SlX.base I r)⟩
def dRetN : DS := fun s => .rt (.val .none) s.c
theorem s_retN {pos : Pos} : SO F X (.Return none pos) dRetN := ⟨_, ps_retN, fun Q σ H O s I k => k .non H O I.base I.wd .non⟩
/-- return x, x a name: its list is handed out as it is -/
def dRetV (i : Nat) : DS := fun s => match s.e[i]? with
  | some (.val d) => .rt (.val d) s.c
  | some (.own xs) => .rt (.own xs) s.c
  | _ => .stuck
theorem s_retV (i : Nat) {x : Str} {px pos : Pos} (hN : X.N[i]? = some x := by rfl) (hv : Vis X.env.scope x := by first | exact Or.inl rfl | exact Or.inr (Or.inl rfl) | exact Or.inr (Or.inr rfl)) (hd : (x == ("__debug__" : Str)) = false := by decide)
    (hcd : (x == ("__classdict__" : Str)) = false := by decide) : SO F X (.Return (some (.Name x px)) pos) (dRetV i) := by
  refine ⟨_, ps_ret (pe_var hN hv hd hcd), fun Q σ H O s I k => ?_⟩
  unfold dRetV at k
  split at k
  · rename_i d h
    obtain ⟨v, h1, h2⟩ := I.env.vals i d h
    exact ⟨v, h1, k v H O I.base I.wd h2⟩
  · rename_i xs h
    obtain ⟨a, vs, h1, h2, h3, h4, h5, h6⟩ := I.env.owns i xs h
    exact ⟨_, h1, k _ H O I.base I.wd ⟨a, vs, rfl, h2, h3, h4, h5, h6⟩⟩
  · exact k.elim
def dExpr (a : DE) : DS := fun s => (a s).st fun _ s1 => .nx s1
theorem s_expr {a : Expr} {fa : DE} {pos : Pos} (ha : EO F X a fa) (hs : swapsWith a none pos.line X.env = pure false := by rfl) : SO F X (.Expr a pos) (dExpr fa) :=
  let ⟨_, p, sa⟩ := ha
  ⟨_, ps_expr p hs, fun Q σ H O s I k => sa.stD I k fun x s1 v H1 O1 st I1 r k => k σ H1 O1 .refl I1⟩

/-! ### stores -/
/-- a value that may be put into slot i -/
theorem Est.set (I : Est F σ H O s) {x : Sl} (i : Nat) (hx : SlXK F.m.K F.δ F.H0 H O v x) (hm : ∀ a xs, x = .own xs → v = .ref a → ¬ Mine σ s.e a) (hN : ∀ a xs, x = .own xs → v = .ref a → ¬ NestB σ s.e H a) : Est F (σ.set i (some v)) H O { s with e := s.e.set i x } := by
  have nx : ∀ yss, x ≠ .nst yss := fun yss z => by subst z; exact hx.elim
  have ax : ∀ a b, x ≠ .ali a b := fun a b z => by subst z; exact hx.elim
  refine ⟨I.wd, ⟨?_, fun j d q => ?_, fun j ys q => ?_, fun j k b ys zs hjk q1 q2 r1 r2 => ?_⟩, I.base, I.nst.to (fun j xss q => ⟨nst_set nx q, sl_ne (nst_ne nx q)⟩) (fun j i2 k q => ⟨ali_set ax q, sl_ne (ali_ne ax q)⟩) (fun b us nb q => ⟨q, (I.nst.of nb).1⟩) (fun _ _ r => r) fun b nb q => ?_⟩
  · show (σ.set i (some v)).length = (s.e.set i x).length
    rw [List.length_set, List.length_set]; exact I.env.len
  · have q : (s.e.set i x)[j]? = some (.val d) := q
    by_cases hj : j = i
    · subst hj
      obtain ⟨e, hl⟩ := sl_eq q
      subst e
      exact ⟨v, by rw [List.getElem?_set_self (by rw [I.env.len]; exact hl)], hx⟩
    · rw [sl_ne hj] at q
      obtain ⟨w, r1, r2⟩ := I.env.vals j d q
      exact ⟨w, by rw [sl_ne hj]; exact r1, r2⟩
  · have q : (s.e.set i x)[j]? = some (.own ys) := q
    by_cases hj : j = i
    · subst hj
      obtain ⟨e, hl⟩ := sl_eq q
      subst e
      obtain ⟨a, vs, h1, h2, h3, h4, h5, h6⟩ := hx
      exact ⟨a, vs, by rw [List.getElem?_set_self (by rw [I.env.len]; exact hl), h1], h2, h3, h4, h5, h6⟩
    · rw [sl_ne hj] at q
      obtain ⟨b, ws, r1, rr⟩ := I.env.owns j ys q
      exact ⟨b, ws, by rw [sl_ne hj]; exact r1, rr⟩
  · have q1 : (s.e.set i x)[j]? = some (.own ys) := q1
    have q2 : (s.e.set i x)[k]? = some (.own zs) := q2
    by_cases hj : j = i
    · subst hj
      obtain ⟨e, hl⟩ := sl_eq q1
      subst e
      rw [List.getElem?_set_self (by rw [I.env.len]; exact hl)] at r1
      rw [sl_ne (Ne.symm hjk)] at q2 r2
      exact hm b ys rfl (Option.some.inj (Option.some.inj r1)) ⟨k, zs, q2, r2⟩
    · by_cases hk : k = i
      · subst hk
        obtain ⟨e, hl⟩ := sl_eq q2
        subst e
        rw [List.getElem?_set_self (by rw [I.env.len]; exact hl)] at r2
        rw [sl_ne hjk] at q1 r1
        exact hm b zs rfl (Option.some.inj (Option.some.inj r2)) ⟨j, ys, q1, r1⟩
      · rw [sl_ne hj] at q1 r1
        rw [sl_ne hk] at q2 r2
        exact I.env.uniq j k b ys zs hjk q1 q2 r1 r2
  · obtain ⟨l, zs, q1, q2⟩ := q
    by_cases hl : l = i
    · subst hl
      obtain ⟨e1, hlt⟩ := sl_eq q1
      rw [List.getElem?_set_self (by rw [I.env.len]; exact hlt)] at q2
      exact absurd nb (hN b zs e1.symm (Option.some.inj (Option.some.inj q2)))
    · rw [sl_ne hl] at q1 q2
      exact ⟨l, zs, q1, q2⟩
theorem Est.setD (I : Est F σ H O s) (i : Nat) (r : RepD F.m.K H O F.δ v d) : Est F (σ.set i (some v)) H O { s with e := s.e.set i (.val d) } :=
  I.set (x := .val d) i r (fun a xs h => by cases h) fun a xs h => by cases h
/-- the result of an expression into slot i -/
theorem Est.setX (I0 : Est F σ H O s) (st : StE F.δ σ H O s.e H1 O1 s1.e) (I : Est F σ H1 O1 s1) {x : Sl} (i : Nat) (hx : SlX F H H1 O1 v x) : Est F (σ.set i (some v)) H1 O1 { s1 with e := s1.e.set i x } := by
  refine I.set i (SlX.base I0 hx) (fun a xs e ev hm => ?_) fun a xs e ev => ?_
  · subst e
    obtain ⟨b, vs, h1, h2, h3, h4, h5, h6⟩ := hx
    rw [h1] at ev
    cases ev
    exact I0.env.mine (st.mine _ hm) h6
  · subst e
    obtain ⟨b, vs, h1, h2, h3, h4, h5, h6⟩ := hx
    rw [h1] at ev
    cases ev
    exact I0.nestN st h6
def dSet (i : Nat) (a : DE) : DS := fun s => (a s).st fun x s1 => .nx { s1 with e := s1.e.set i x }
theorem s_set (i : Nat) {x : Str} {a : Expr} {fa : DE} {pos' pos : Pos} (hnd : X.N.Nodup) (ha : EO F X a fa) (hi : X.N[i]? = some x := by rfl) (hx : Loc X.env.scope x := by first | exact Or.inl rfl | exact Or.inr rfl)
    (hs : swapsWith a (some (.Name x pos')) pos.line X.env = pure false := by rfl) (hf : X.fn x = true ∨ X.env.scope.names.lookup x = some .local := by first | exact .inl rfl | exact .inr rfl | assumption) : SO F X (.Assign [.Name x pos'] a pos) (dSet i fa) :=
  let ⟨_, p, sa⟩ := ha
  ⟨_, ps_set hnd hi hx p hs hf, fun Q σ H O s I k => sa.stX I k fun y s1 v H1 O1 st I1 r k => k _ H1 O1 .refl (I.setX st I1 i r)⟩
def dAug (gop : D → D → Option Sl) (i : Nat) (a : DE) : DS := fun s => match s.e[i]? with
  | some (.val x) => (a s).st fun y s1 => match gop x y.d with
    | some (.val z) => .nx { s1 with e := s1.e.set i (.val z) }
    | _ => .stuck
  | _ => .stuck
def augD : D → D → Option Sl
  | .int i, .int j => some (.val (.int (i + j)))
  | .str a, .str b => if a.length + b.length ≤ sizeLine then some (.val (.str (a ++ b))) else none
  | _, _ => none
theorem ip_of {op : Operator} {r : R2} (h : OpR X (inplaceOp op) r) : PIp X op r := fun pins s σ H x y v u Q I r1 r2 hq => h pins s σ H x y v u Q I r1 r2 hq
theorem s_augD : OpS F (fun x y H Q => rI0 (fun i j => .int (i + j)) x y H Q ∨ (∃ i j, x = .str i ∧ y = .str j ∧ i.length + j.length ≤ sizeLine ∧ Q (.str (i ++ j)) H)) augD := by
  intro H O c x y dx dy z Q w rx ry hg hq
  unfold augD at hg
  split at hg
  · cases hg
    exact .inl ⟨_, _, rx.int_inv, ry.int_inv, hq _ H .refl (.int _)⟩
  · split at hg
    · cases hg
      exact .inr ⟨_, _, rx.str_inv, ry.str_inv, by assumption, hq _ H .refl (.str _)⟩
    · cases hg
  · cases hg
theorem s_aug {op : Operator} {r : R2} {gop : D → D → Option Sl} (i : Nat) {x : Str} {a : Expr} {fa : DE} {pos' pos : Pos} (hnd : X.N.Nodup) (ho : PIp X op r) (hop : OpS F r gop) (ha : EO F X a fa) (hi : X.N[i]? = some x := by rfl) (hx : Loc X.env.scope x := by first | exact Or.inl rfl | exact Or.inr rfl)
    (hf : X.fn x = true ∨ X.env.scope.names.lookup x = some .local := by first | exact .inl rfl | exact .inr rfl | assumption) : SO F X (.AugAssign (.Name x pos') op a pos) (dAug gop i fa) := by
  obtain ⟨t, p, sa⟩ := ha
  refine ⟨_, ps_aug hnd hi hx p ho hf, fun Q σ H O s I k => ?_⟩
  unfold dAug at k
  split at k
  · rename_i d h
    obtain ⟨v, h1, h2⟩ := I.env.vals i d h
    refine ⟨v, h1, sa.stD I k fun y s1 w H1 O1 st I1 r1 k => ?_⟩
    split at k
    · rename_i z e
      exact hop H1 O1 s1.c v w d y.d (.val z) _ I1.wd (h2.step st.stp I.wd) r1 e fun u H2 ex r2 => k _ H2 O1 (ex.stF.stS I1.wd) ((I1.ext ex).setD i r2)
    · exact k.elim
  · exact k.elim
theorem s_augAdd (i : Nat) {x : Str} {a : Expr} {fa : DE} {pos' pos : Pos} (hnd : X.N.Nodup) (ha : EO F X a fa) (hi : X.N[i]? = some x := by rfl) (hx : Loc X.env.scope x := by first | exact Or.inl rfl | exact Or.inr rfl)
    (hf : X.fn x = true ∨ X.env.scope.names.lookup x = some .local := by first | exact .inl rfl | exact .inr rfl | assumption) : SO F X (.AugAssign (.Name x pos') .Add a pos) (dAug augD i fa) := s_aug i hnd (ip_of (iop_add.or iop_add_str)) s_augD ha hi hx hf
theorem s_augSub (i : Nat) {x : Str} {a : Expr} {fa : DE} {pos' pos : Pos} (hnd : X.N.Nodup) (ha : EO F X a fa) (hi : X.N[i]? = some x := by rfl) (hx : Loc X.env.scope x := by first | exact Or.inl rfl | exact Or.inr rfl)
    (hf : X.fn x = true ∨ X.env.scope.names.lookup x = some .local := by first | exact .inl rfl | exact .inr rfl | assumption) : SO F X (.AugAssign (.Name x pos') .Sub a pos) (dAug subD i fa) := s_aug i hnd (ip_of iop_sub) (s_rI0 fun _ _ _ _ => .int _) ha hi hx hf
end
end DL

set_option Elab.async false
set_option linter.all false
set_option maxRecDepth 100000
set_option maxHeartbeats 4000000
/-! DLh: lists changed, several targets, loops. -/
namespace DL
open PySem PySem.Spec L2
open PyProof.Rows hiding St

section
variable {F : Fx} {X : Cx} {H H' H1 H2 : Hp} {O O' O1 O2 : Addr → Prop} {σ σ' : St} {s s' s1 s2 : S} {Q : VK} {QT : Bool → Hp → Prop} {t : TE} {f g : DE} {v : V} {d : D} {K : PySem.W.Frag} {δ : Option Addr} {m : Pm} {c : List Int} {e e' : List Sl} {vs : List V} {ds : List D} {Qe : Ends}

/-! ### a list that may change is changed -/
theorem StS.upd {a : Addr} {o : HO} (w : Wd m δ H O c) (ha : O a) : StS H O (upd H a o) O :=
  ⟨fun b u n _ q => by rw [upd_ne (fun z => n (by rw [z]; exact ha))]; exact q, fun b h => by
    by_cases hb : b = a
    · subst hb; rw [upd_same]; simp
    · rw [upd_ne hb]; exact h, fun b z => .inl z⟩
theorem TabP.upd {p : Addr × Option Str} {a : Addr} {xs ys : List V} (t : TabP H p) (h : H a = some (.lst xs)) : TabP (upd H a (.lst ys)) p := by
  have ne : ∀ {b : Addr} {o : HO}, H b = some o → (∀ zs, o ≠ .lst zs) → b ≠ a := fun {b o} q n z => by
    rw [z, h] at q
    exact n xs (Option.some.inj q).symm
  unfold TabP at t ⊢
  split
  · rename_i e
    rw [e] at t
    obtain ⟨ps, h1, q⟩ := t
    exact ⟨ps, by rw [upd_ne (ne h1 (fun _ z => nomatch z))]; exact h1, q⟩
  · rename_i q e
    rw [e] at t
    obtain ⟨ps, h1, h2, h3⟩ := t
    refine ⟨ps, by rw [upd_ne (ne h1 (fun _ z => nomatch z))]; exact h1, h2, fun pos cv hc => ?_⟩
    obtain ⟨c', h4, h5⟩ := h3 pos cv hc
    refine ⟨c', h4, ?_⟩
    rw [upd_ne (ne h5 (fun zs z => ?_))]
    · exact h5
    · unfold LamX.CodeO at z
      cases z
/-- the own list of slot i becomes ws -/
theorem Est.mut (I : Est F σ H O s) {i : Nat} {xs ys : List D} {a : Addr} {ws : List V} (h : s.e[i]? = some (.own xs)) (ha : σ[i]? = some (some (.ref a))) (r : RepDs F.m.K H O F.δ ws ys) :
    Est F σ (upd H a (.lst ws)) O { s with e := s.e.set i (.own ys) } ∧ StS H O (upd H a (.lst ws)) O := by
  obtain ⟨b, vs, h1, h2, h3, h4, h5, h6⟩ := I.env.owns i xs h
  rw [ha] at h1
  cases h1
  have st : StS H O (upd H a (.lst ws)) O := StS.upd I.wd h2
  refine ⟨⟨⟨fun b z => ?_, fun b z => ⟨(I.wd.cel b z).1, ?_⟩, fun p hp => (I.wd.tab p hp).upd h4⟩, ⟨?_, fun j d q => ?_, fun j zs q => ?_, fun j k b zs us hjk q1 q2 r1 r2 => ?_⟩, ⟨fun b o n t q => ?_, fun b q => st.there b (I.base.there b q), I.base.fresh, I.base.stay⟩, I.nst.to (fun j xss q => ⟨nst_set (x := .own ys) (fun _ q => by cases q) q, rfl⟩) (fun j i2 k q => ⟨ali_set (x := .own ys) (fun _ _ q => by cases q) q, rfl⟩) (fun b us nb q => ⟨by rw [upd_ne (fun z => (I.nst.of nb).2.2.2.1 ⟨i, xs, h, by rw [z]; exact ha⟩)]; exact q, (I.nst.of nb).1⟩) (fun _ _ r => r.stS st I.wd) fun b nb q => ?_⟩, st⟩
  · by_cases hb : b = a
    · subst hb; exact ⟨ws, upd_same⟩
    · rw [upd_ne hb]; exact I.wd.src b z
  · rw [upd_ne (fun q => h3 (by rw [← q]; exact z))]
    exact (I.wd.cel b z).2
  · show σ.length = (s.e.set i (.own ys)).length
    rw [List.length_set]; exact I.env.len
  · have q : (s.e.set i (.own ys))[j]? = some (.val d) := q
    by_cases hj : j = i
    · subst hj; cases (sl_eq q).1
    · rw [sl_ne hj] at q
      obtain ⟨v, r1, r2⟩ := I.env.vals j d q
      exact ⟨v, r1, r2.stS st I.wd⟩
  · have q : (s.e.set i (.own ys))[j]? = some (.own zs) := q
    by_cases hj : j = i
    · subst hj
      cases (sl_eq q).1
      exact ⟨a, ws, ha, h2, h3, upd_same, r.stS st I.wd, h6⟩
    · rw [sl_ne hj] at q
      obtain ⟨b, us, r1, r2, r3, r4, r5, r6⟩ := I.env.owns j zs q
      exact ⟨b, us, r1, r2, r3, by rw [upd_ne (fun z => I.env.uniq j i a zs xs hj q h (by rw [← z]; exact r1) ha)]; exact r4, r5.stS st I.wd, r6⟩
  · have q1 : (s.e.set i (.own ys))[j]? = some (.own zs) := q1
    have q2 : (s.e.set i (.own ys))[k]? = some (.own us) := q2
    have old : ∀ {j : Nat} {zs : List D}, (s.e.set i (.own ys))[j]? = some (.own zs) → ∃ zs', s.e[j]? = some (.own zs') := fun {j zs} q => by
      by_cases hj : j = i
      · subst hj; exact ⟨xs, h⟩
      · rw [sl_ne hj] at q; exact ⟨zs, q⟩
    obtain ⟨zs', q1'⟩ := old q1
    obtain ⟨us', q2'⟩ := old q2
    exact I.env.uniq j k b zs' us' hjk q1' q2' r1 r2
  · rw [upd_ne (fun z => by rw [z, h6] at q; cases q)]
    exact I.base.keep b o n t q
  · obtain ⟨l, zs, q1, q2⟩ := q
    by_cases hl : l = i
    · subst hl
      exact ⟨l, xs, h, q2⟩
    · rw [sl_ne hl] at q1
      exact ⟨l, zs, q1, q2⟩
/-- the cell's ints become c' -/
theorem Est.mutC (I : Est F σ H O s) {a : Addr} (ha : F.δ = some a) (c' : List Int) : Est F σ (upd H a (.lst (c'.map V.int))) O { s with c := c' } ∧ StS H O (upd H a (.lst (c'.map V.int))) O := by
  obtain ⟨h2, h4⟩ := I.wd.cel a ha
  have st : StS H O (upd H a (.lst (c'.map V.int))) O := StS.upd I.wd h2
  refine ⟨⟨⟨fun b z => ?_, fun b z => ⟨(I.wd.cel b z).1, ?_⟩, fun p hp => (I.wd.tab p hp).upd h4⟩, ⟨I.env.len, fun j d q => ?_, fun j zs q => ?_, I.env.uniq⟩, ⟨fun b o n t q => ?_, fun b q => st.there b (I.base.there b q), I.base.fresh, I.base.stay⟩, I.nst.to (fun _ _ h => ⟨h, rfl⟩) (fun _ _ _ h => ⟨h, rfl⟩) (fun b us nb q => ⟨by rw [upd_ne (fun z => (I.nst.of nb).2.1 (by rw [z]; exact ha))]; exact q, (I.nst.of nb).1⟩) (fun _ _ r => r.stS st I.wd) fun _ _ h => h⟩, st⟩
  · by_cases hb : b = a
    · subst hb; exact ⟨_, upd_same⟩
    · rw [upd_ne hb]; exact I.wd.src b z
  · have z : F.δ = some b := z
    rw [ha] at z
    cases z
    exact upd_same
  · obtain ⟨v, r1, r2⟩ := I.env.vals j d q
    exact ⟨v, r1, r2.stS st I.wd⟩
  · obtain ⟨b, us, r1, r2, r3, r4, r5, r6⟩ := I.env.owns j zs q
    exact ⟨b, us, r1, r2, r3, by rw [upd_ne (fun z => r3 (by rw [z]; exact ha))]; exact r4, r5.stS st I.wd, r6⟩
  · rw [upd_ne (fun z => n (by rw [z]; exact ha))]
    exact I.base.keep b o n t q
def dApp (i : Nat) (a : DE) : DS := fun s => match s.e[i]? with
  | some (.own _) => (a s).st fun x s1 => match s1.e[i]? with
    | some (.own xs) => if xs.length < sizeLine then .nx { s1 with e := s1.e.set i (.own (xs ++ [x.d])) } else .stuck
    | _ => .stuck
  | _ => .stuck
theorem s_app (i : Nat) {x : Str} {a : Expr} {fa : DE} {px apos cpos pos : Pos} (ha : EO F X a fa) (hN : X.N[i]? = some x := by rfl) (hv : Vis X.env.scope x := by first | exact Or.inl rfl | exact Or.inr (Or.inl rfl) | exact Or.inr (Or.inr rfl))
    (hd : (x == ("__debug__" : Str)) = false := by decide) (hcd : (x == ("__classdict__" : Str)) = false := by decide) (hs : starEach [a] X.env = (false, eval a X.env) :: starEach [] X.env := by rfl)
    (hbase : attributeBase (.Name x px) "append" X.env (eval (.Name x px) X.env) = eval (.Name x px) X.env := by rfl)
    (hfew : ((backTo cpos (starEach [a] X.env)).all (fun x => !x.1) && (backToKw cpos (keywordEach [] X.env)).all (fun x => x.1.isSome)
      && decide ([a].length + ([] : List Keyword).length + (if ([] : List Keyword).isEmpty then 0 else 1) < 30)) = true := by rfl)
    (hline : (apos.endLine == cpos.line) = true := by rfl)
    (hsw : swapsWith (.Call (.Attribute (.Name x px) "append" apos) [a] [] cpos) none pos.line X.env = pure false := by rfl) :
    SO F X (.Expr (.Call (.Attribute (.Name x px) "append" apos) [a] [] cpos) pos) (dApp i fa) := by
  obtain ⟨ta, pa, sa⟩ := ha
  refine ⟨_, ps_expr (pe_bm PySem.F.plainAttrs_list PySem.F.slot_list_append PySem.F.type_list_append mt_append (pe_var hN hv hd hcd) (pa_cons pa pa_nil hs) hbase hfew hline hs rfl) hsw, fun Q σ H O s I k => ?_⟩
  unfold dApp at k
  split at k
  · rename_i xs h
    obtain ⟨p, vs, h1, h2, h3, h4, h5, h6⟩ := I.env.owns i xs h
    refine ⟨.ref p, h1, .inl ⟨rfl, vs, .inl (.inl h4)⟩, sa.stD I k fun y s1 w H1 O1 st I1 r k => ?_⟩
    split at k
    · rename_i ys h'
      split at k
      · rename_i hz
        obtain ⟨p', vs', g1, g2, g3, g4, g5, g6⟩ := I1.env.owns i ys h'
        rw [h1] at g1
        cases g1
        obtain ⟨I2, st2⟩ := I1.mut h' h1 (g5.append (.cons r .nil))
        exact ⟨p, vs', w, rfl, rfl, g4, by rw [g5.length]; exact hz, k _ _ O1 st2 I2⟩
      · exact k.elim
    · exact k.elim
  · exact k.elim
def dExt (i : Nat) (a : DE) : DS := fun s => match s.e[i]? with
  | some (.own _) => (a s).st fun x s1 => match s1.e[i]?, x.d with
    | some (.own xs), .list ys => if xs.length + ys.length ≤ sizeLine then .nx { s1 with e := s1.e.set i (.own (xs ++ ys)) } else .stuck
    | _, _ => .stuck
  | _ => .stuck
theorem s_ext (i : Nat) {x : Str} {a : Expr} {fa : DE} {px apos cpos pos : Pos} (ha : EO F X a fa) (hN : X.N[i]? = some x := by rfl) (hv : Vis X.env.scope x := by first | exact Or.inl rfl | exact Or.inr (Or.inl rfl) | exact Or.inr (Or.inr rfl))
    (hd : (x == ("__debug__" : Str)) = false := by decide) (hcd : (x == ("__classdict__" : Str)) = false := by decide) (hs : starEach [a] X.env = (false, eval a X.env) :: starEach [] X.env := by rfl)
    (hbase : attributeBase (.Name x px) "extend" X.env (eval (.Name x px) X.env) = eval (.Name x px) X.env := by rfl)
    (hfew : ((backTo cpos (starEach [a] X.env)).all (fun x => !x.1) && (backToKw cpos (keywordEach [] X.env)).all (fun x => x.1.isSome)
      && decide ([a].length + ([] : List Keyword).length + (if ([] : List Keyword).isEmpty then 0 else 1) < 30)) = true := by rfl)
    (hline : (apos.endLine == cpos.line) = true := by rfl)
    (hsw : swapsWith (.Call (.Attribute (.Name x px) "extend" apos) [a] [] cpos) none pos.line X.env = pure false := by rfl) :
    SO F X (.Expr (.Call (.Attribute (.Name x px) "extend" apos) [a] [] cpos) pos) (dExt i fa) := by
  obtain ⟨ta, pa, sa⟩ := ha
  refine ⟨_, ps_expr (pe_bm PySem.F.plainAttrs_list PySem.F.slot_list_extend PySem.F.type_list_extend mt_extend (pe_var hN hv hd hcd) (pa_cons pa pa_nil hs) hbase hfew hline hs rfl) hsw, fun Q σ H O s I k => ?_⟩
  unfold dExt at k
  split at k
  · rename_i xs h
    obtain ⟨p, vs, h1, h2, h3, h4, h5, h6⟩ := I.env.owns i xs h
    refine ⟨.ref p, h1, .inl ⟨rfl, vs, .inl (.inl h4)⟩, sa.stD I k fun y s1 w H1 O1 st I1 r k => ?_⟩
    split at k
    · rename_i ys zs h' ey
      split at k
      · rename_i hz
        obtain ⟨p', vs', g1, g2, g3, g4, g5, g6⟩ := I1.env.owns i ys h'
        rw [h1] at g1
        cases g1
        rw [ey] at r
        obtain ⟨b, us, rfl, hb, _, rb⟩ := r.list_inv
        obtain ⟨I2, st2⟩ := I1.mut h' h1 (g5.append rb)
        exact ⟨p, b, vs', us, rfl, rfl, g4, hb, by rw [g5.length, rb.length]; exact hz, k _ _ O1 st2 I2⟩
      · exact k.elim
    · exact k.elim
  · exact k.elim
/-- x[k] = e, x a name: its own list, or the cell -/
def dStore (i : Nat) (ix a : DE) : DS := fun s => (a s).st fun x s1 => match s1.e[i]? with
  | some (.own _) => (ix s1).st fun y s2 => match s2.e[i]?, y.d with
    | some (.own xs), .int n => match ixN xs.length n with
      | some j => .nx { s2 with e := s2.e.set i (.own (xs.set j x.d)) }
      | none => .stuck
    | _, _ => .stuck
  | some (.val (.dict [(.none, .none)])) => (ix s1).st fun y s2 => match y.d, x.d with
    | .int n, .int z => match ixN s2.c.length n with
      | some j => .nx { s2 with c := s2.c.set j z }
      | none => .stuck
    | _, _ => .stuck
  | _ => .stuck
theorem s_store (i : Nat) {x : Str} {ix a : Expr} {fi fa : DE} {px spos pos : Pos} (hi : EO F X ix fi) (ha : EO F X a fa) (hN : X.N[i]? = some x := by rfl) (hv : Vis X.env.scope x := by first | exact Or.inl rfl | exact Or.inr (Or.inl rfl) | exact Or.inr (Or.inr rfl))
    (hd : (x == ("__debug__" : Str)) = false := by decide) (hcd : (x == ("__classdict__" : Str)) = false := by decide)
    (hst : ∀ v, assign (.Subscript (.Name x px) ix spos) X.env v = (do
      let ov ← holding [v] (eval (.Name x px) X.env)
      let iv ← holding [v, ov] (eval ix X.env)
      standAt spos
      holding [v, ov, iv] (setItem ov iv v)
      release [v, ov, iv] []) := by intro _; rfl)
    (hs : swapsWithSole [.Subscript (.Name x px) ix spos] a pos.line X.env = pure false := by rfl) (hw : swappedStores [.Subscript (.Name x px) ix spos] a X.env = pure none := by rfl)
    (h1 : (assignEach [.Subscript (.Name x px) ix spos] X.env).map (·.2) = [assign (.Subscript (.Name x px) ix spos) X.env] := by rfl) :
    SO F X (.Assign [.Subscript (.Name x px) ix spos] a pos) (dStore i fi fa) := by
  obtain ⟨ti, pi, si⟩ := hi
  obtain ⟨ta, pa, sa⟩ := ha
  refine ⟨_, ps_asg pa (pg_sub (pe_var hN hv hd hcd) pi set_list hst) hs hw h1, fun Q σ H O s I k => ?_⟩
  unfold dStore at k
  refine sa.stD I k fun y s1 w H1 O1 st I1 r k => ?_
  split at k
  · rename_i xs h
    obtain ⟨p, vs, g1, g2, g3, g4, g5, g6⟩ := I1.env.owns i xs h
    refine ⟨.ref p, g1, si.stD I1 k fun n s2 u H2 O2 st2 I2 r2 k => ?_⟩
    split at k
    · rename_i ys n' h' en
      split at k
      · rename_i j ej
        obtain ⟨p', vs', f1, f2, f3, f4, f5, f6⟩ := I2.env.owns i ys h'
        rw [g1] at f1
        cases f1
        rw [en] at r2
        obtain ⟨I3, st3⟩ := I2.mut h' g1 (RepDs.set (r.step st2.stp I1.wd) j f5)
        exact ⟨p, vs', n', j, rfl, r2.int_inv, f4, by rw [f5.length]; exact ej, k _ _ O2 st3 I3⟩
      · exact k.elim
    · exact k.elim
  · rename_i h
    obtain ⟨v, g1, g2⟩ := I1.env.vals i _ h
    obtain ⟨p, rfl, ep⟩ := RepD.cell_inv g2
    refine ⟨.ref p, g1, si.stD I1 k fun n s2 u H2 O2 st2 I2 r2 k => ?_⟩
    split at k
    · rename_i n' z en ez
      split at k
      · rename_i j ej
        rw [en] at r2
        rw [ez] at r
        cases r.int_inv
        obtain ⟨I3, st3⟩ := I2.mutC ep (s2.c.set j z)
        refine ⟨p, s2.c.map V.int, n', j, rfl, r2.int_inv, (I2.wd.cel p ep).2, by rw [List.length_map]; exact ej, ?_⟩
        have e : (s2.c.map V.int).set j (.int z) = (s2.c.set j z).map V.int := by rw [List.map_set]
        rw [e]
        exact k _ _ O2 st3 I3
      · exact k.elim
    · exact k.elim
  · exact k.elim

/-! ### several targets -/
def GO (F : Fx) (X : Cx) (tg : Expr) (g : D → S → Option S) : Prop := ∃ t : TG, PG X tg t ∧ ∀ v d σ H O s s' Q, Est F σ H O s → RepD F.m.K H O F.δ v d → g d s = some s' → (∀ σ', Est F σ' H O s' → Q σ' H) → t v σ H Q
def gSet (i : Nat) : D → S → Option S := fun d s => some { s with e := s.e.set i (.val d) }
theorem g_name (i : Nat) {x : Str} {pos : Pos} (hnd : X.N.Nodup) (hi : X.N[i]? = some x := by rfl) (hx : Loc X.env.scope x := by first | exact Or.inl rfl | exact Or.inr rfl)
    (hf : X.fn x = true ∨ X.env.scope.names.lookup x = some .local := by first | exact .inl rfl | exact .inr rfl | assumption) : GO F X (.Name x pos) (gSet i) :=
  ⟨_, pg_name hnd hi hx hf, fun v d σ H O s s' Q I r e k => by cases e; exact k _ (I.setD i r)⟩
def GsO (F : Fx) (X : Cx) (ts : List Expr) (g : List D → S → Option S) : Prop := ∃ t : TGs, PGs X ts t ∧ ∀ vs ds σ H O s s' Q, Est F σ H O s → RepDs F.m.K H O F.δ vs ds → g ds s = some s' → (∀ σ', Est F σ' H O s' → Q σ' H) → t vs σ H Q
def gsNil : List D → S → Option S
  | [], s => some s
  | _, _ => none
def gsCons (g : D → S → Option S) (gs : List D → S → Option S) : List D → S → Option S
  | d :: ds, s => (g d s).bind (gs ds)
  | _, _ => none
theorem gs_nil : GsO F X [] gsNil := ⟨_, pgs_nil, fun vs ds σ H O s s' Q I r e k => by
  unfold gsNil at e
  split at e
  · cases r
    cases e
    exact ⟨rfl, k σ I⟩
  · cases e⟩
theorem gs_cons {e : Expr} {es : List Expr} {g : D → S → Option S} {gs : List D → S → Option S} (h1 : GO F X e g) (h2 : GsO F X es gs)
    (hs : (assignEach (e :: es) X.env).map (·.2) = assign e X.env :: (assignEach es X.env).map (·.2) := by rfl) : GsO F X (e :: es) (gsCons g gs) := by
  obtain ⟨t1, p1, s1⟩ := h1
  obtain ⟨t2, p2, s2⟩ := h2
  refine ⟨_, pgs_cons p1 p2 hs, fun vs ds σ H O s s' Q I r e k => ?_⟩
  unfold gsCons at e
  split at e
  · rename_i d ds'
    cases r with
    | cons r rs =>
      rename_i v vs'
      rw [Option.bind_eq_some_iff] at e
      obtain ⟨s1', e1, e2⟩ := e
      exact ⟨v, vs', rfl, s1 v d σ H O s s1' _ I r e1 fun σ1 I1 => s2 vs' ds' σ1 H O s1' s' Q I1 rs e2 k⟩
  · cases e
def gTupD (gs : List D → S → Option S) : D → S → Option S
  | .tuple ds, s => gs ds s
  | _, _ => none
theorem g_tup {es : List Expr} {kk : Nat} {pos : Pos} {gs : List D → S → Option S} (hc : X.calm = true) (hK : F.m.K = X.K) (h : GsO F X es gs) (hl : ∀ ds s s', gs ds s = some s' → ds.length = es.length)
    (hn : (assignEach es X.env).length = es.length := by rfl) (hst : (assignEach es X.env).findIdx? (·.1) = none := by rfl) : GO F X (.Tuple es kk pos) (gTupD gs) := by
  obtain ⟨t, p, sg⟩ := h
  refine ⟨_, pg_tup hc p hn hst, fun v d σ H O s s' Q I r e k => ?_⟩
  unfold gTupD at e
  split at e
  · rename_i ds
    obtain ⟨a, vs, rfl, ha, ra⟩ := r.tup_inv
    exact ⟨a, vs, rfl, hK ▸ ha, by rw [ra.length, hl ds s s' e], sg vs ds σ H O s s' Q I ra e k⟩
  · cases e
theorem gsNil_len : ∀ ds s s', gsNil ds s = some s' → ds.length = ([] : List Expr).length := by
  intro ds s s' h
  unfold gsNil at h
  split at h
  · rfl
  · cases h
theorem gsCons_len {g : D → S → Option S} {gs : List D → S → Option S} {e : Expr} {es : List Expr} (h : ∀ ds s s', gs ds s = some s' → ds.length = es.length) : ∀ ds s s', gsCons g gs ds s = some s' → ds.length = (e :: es).length := by
  intro ds s s' hh
  unfold gsCons at hh
  split at hh
  · rw [Option.bind_eq_some_iff] at hh
    obtain ⟨s1, e1, e2⟩ := hh
    rw [List.length_cons, List.length_cons, h _ _ _ e2]
  · cases hh
/-- target = value, several names -/
def dAsg (g : D → S → Option S) (a : DE) : DS := fun s => (a s).st fun x s1 => match g x.d s1 with
  | some s2 => .nx s2
  | none => .stuck
theorem s_asg {tg a : Expr} {fa : DE} {g : D → S → Option S} {pos : Pos} (hg : GO F X tg g) (ha : EO F X a fa) (hs : swapsWithSole [tg] a pos.line X.env = pure false := by rfl) (hw : swappedStores [tg] a X.env = pure none := by rfl)
    (h1 : (assignEach [tg] X.env).map (·.2) = [assign tg X.env] := by rfl) : SO F X (.Assign [tg] a pos) (dAsg g fa) := by
  obtain ⟨t, p, sg⟩ := hg
  obtain ⟨ta, pa, sa⟩ := ha
  refine ⟨_, ps_asg pa p hs hw h1, fun Q σ H O s I k => ?_⟩
  unfold dAsg at k
  refine sa.stD I k fun y s1 w H1 O1 st I1 r k => ?_
  split at k
  · rename_i s2 e
    exact sg w y.d σ H1 O1 s1 s2 _ I1 r e fun σ' I2 => k σ' H1 O1 .refl I2
  · exact k.elim
/-- a, b = x, y (names of the def alone): each keeps what may change -/
def dPar (i j : Nat) (a b : DE) : DS := fun s => (a s).st fun x s1 => (b s1).st fun y s2 => .nx { s2 with e := (s2.e.set i x).set j y }
/-- a pending result behind a further expression -/
theorem SlX.step {x : Sl} (I0 : Est F σ H O s) (st1 : StE F.δ σ H O s.e H1 O1 s1.e) (I1 : Est F σ H1 O1 s1) (st2 : StE F.δ σ H1 O1 s1.e H2 O2 s2.e) (h : SlX F H H1 O1 v x) : SlX F H H2 O2 v x := by
  cases x with
  | un => exact h
  | nst _ => exact h
  | ali _ _ => exact h
  | val d => exact RepD.step st2.stp I1.wd h
  | own xs =>
    obtain ⟨a, vs, h1, h2, h3, h4, h5, h6⟩ := h
    exact ⟨a, vs, h1, st2.stay a h2 (fun z => I0.env.mine (st1.mine a z) h6), h3, st2.keep a _ h3 nt_lst h4, h5.step st2.stp I1.wd, h6⟩
theorem nestB_set {e : List Sl} {i : Nat} {x : Sl} {w : V} {b : Addr} (hl : σ.length = e.length) (hx : ∀ yss, x ≠ .nst yss) (h : NestB (σ.set i (some w)) (e.set i x) H b) : NestB σ e H b := by
  obtain ⟨l, xss, a, qs, h1, h2, h3, h4⟩ := h
  have ne := nst_ne hx h1
  rw [sl_ne ne] at h1 h2
  exact ⟨l, xss, a, qs, h1, h2, h3, h4⟩
theorem s_par (i j : Nat) {x y : Str} {a b : Expr} {fa fb : DE} {px py pt pos : Pos} {kt k2 pt2} (hc : X.calm = true) (hnd : X.N.Nodup) (ha : EO F X a fa) (hb : EO F X b fb) (hi : X.N[i]? = some x := by rfl) (hj : X.N[j]? = some y := by rfl) (hij : i ≠ j := by decide)
    (hx : X.env.scope.names.lookup x = some .local := by rfl) (hy : X.env.scope.names.lookup y = some .local := by rfl) (hst : starEach [a, b] X.env = (false, eval a X.env) :: starEach [b] X.env := by rfl) (hst2 : starEach [b] X.env = (false, eval b X.env) :: starEach [] X.env := by rfl)
    (hw : swappedStores [.Tuple [.Name x px, .Name y py] kt pt] (.Tuple [a, b] k2 pt2) X.env = pure (some [x, y]) := by rfl)
    (hs : swapsWithSole [.Tuple [.Name x px, .Name y py] kt pt] (.Tuple [a, b] k2 pt2) pos.line X.env = pure false := by rfl) :
    SO F X (.Assign [.Tuple [.Name x px, .Name y py] kt pt] (.Tuple [a, b] k2 pt2) pos) (dPar i j fa fb) := by
  obtain ⟨ta, pa, sa⟩ := ha
  obtain ⟨tb, pb, sb⟩ := hb
  refine ⟨_, ps_par hc hnd hi hj hij hx hy (pa_cons pa (pa_cons pb pa_nil hst2) hst) hw hs, fun Q σ H O s I k => ?_⟩
  refine sa.stX I k fun x s1 v H1 O1 st1 I1 r1 k => ?_
  refine sb.stX I1 k fun y s2 w H2 O2 st2 I2 r2 k => ?_
  refine ⟨v, w, rfl, k _ H2 O2 .refl ?_⟩
  have r1' := r1.step I st1 I1 st2
  have I3 := I.setX (st1.trans st2) I2 i r1'
  refine I3.set (x := y) j (SlX.base I1 r2) (fun b ys e ev hm => ?_) fun b ys e ev hN => ?_
  · subst e
    obtain ⟨b', us, f1, f2, f3, f4, f5, f6⟩ := r2
    rw [f1] at ev
    cases ev
    obtain ⟨l, zs, q1, q2⟩ := hm
    have q1 : (s2.e.set i x)[l]? = some (.own zs) := q1
    by_cases hl : l = i
    · subst hl
      obtain ⟨e, hlt⟩ := sl_eq q1
      subst e
      obtain ⟨a', vs', g1, g2, g3, g4, g5, g6⟩ := r1
      rw [List.getElem?_set_self (by rw [I2.env.len]; exact hlt), g1] at q2
      cases q2
      rw [g4] at f6
      cases f6
    · rw [sl_ne hl] at q1 q2
      exact I1.env.mine (st2.mine _ ⟨l, zs, q1, q2⟩) f6
  · subst e
    obtain ⟨b', us, f1, f2, f3, f4, f5, f6⟩ := r2
    rw [f1] at ev
    cases ev
    exact I1.nestN st2 f6 (nestB_set I2.env.len (fun _ z => by subst z; exact r1'.elim) hN)
def dPar3 (i j l : Nat) (a b c : DE) : DS := fun s => (a s).st fun x s1 => (b s1).st fun y s2 => (c s2).st fun z s3 => .nx { s3 with e := ((s3.e.set i x).set j y).set l z }
theorem mine_of {e : List Sl} {i : Nat} {x : Sl} {w : V} {a : Addr} (hl : σ.length = e.length) (h : Mine (σ.set i (some w)) (e.set i x) a) : Mine σ e a ∨ (w = .ref a ∧ ∃ xs, x = .own xs) := by
  obtain ⟨l, zs, q1, q2⟩ := h
  by_cases hh : l = i
  · subst hh
    obtain ⟨e1, hlt⟩ := sl_eq q1
    rw [List.getElem?_set_self (by rw [hl]; exact hlt)] at q2
    exact .inr ⟨Option.some.inj (Option.some.inj q2), zs, e1.symm⟩
  · rw [sl_ne hh] at q1 q2
    exact .inl ⟨l, zs, q1, q2⟩
theorem s_par3 (i j l : Nat) {x y z : Str} {a b c : Expr} {fa fb fc : DE} {px py pz pt pos : Pos} {kt k2 pt2} (hc : X.calm = true) (hnd : X.N.Nodup) (ha : EO F X a fa) (hb : EO F X b fb) (hcc : EO F X c fc) (hi : X.N[i]? = some x := by rfl) (hj : X.N[j]? = some y := by rfl) (hl : X.N[l]? = some z := by rfl)
    (hij : i ≠ j := by decide) (hil : i ≠ l := by decide) (hjl : j ≠ l := by decide)
    (hx : X.env.scope.names.lookup x = some .local := by rfl) (hy : X.env.scope.names.lookup y = some .local := by rfl) (hz : X.env.scope.names.lookup z = some .local := by rfl)
    (hst : starEach [a, b, c] X.env = (false, eval a X.env) :: starEach [b, c] X.env := by rfl) (hst2 : starEach [b, c] X.env = (false, eval b X.env) :: starEach [c] X.env := by rfl) (hst3 : starEach [c] X.env = (false, eval c X.env) :: starEach [] X.env := by rfl)
    (hw : swappedStores [.Tuple [.Name x px, .Name y py, .Name z pz] kt pt] (.Tuple [a, b, c] k2 pt2) X.env = pure (some [x, y, z]) := by rfl)
    (hs : swapsWithSole [.Tuple [.Name x px, .Name y py, .Name z pz] kt pt] (.Tuple [a, b, c] k2 pt2) pos.line X.env = pure false := by rfl) :
    SO F X (.Assign [.Tuple [.Name x px, .Name y py, .Name z pz] kt pt] (.Tuple [a, b, c] k2 pt2) pos) (dPar3 i j l fa fb fc) := by
  obtain ⟨ta, pa, sa⟩ := ha
  obtain ⟨tb, pb, sb⟩ := hb
  obtain ⟨tc, pc, sc⟩ := hcc
  refine ⟨_, ps_par3 hc hnd hi hj hl hij hil hjl hx hy hz (pa_cons pa (pa_cons pb (pa_cons pc pa_nil hst3) hst2) hst) hw hs, fun Q σ H O s I k => ?_⟩
  refine sa.stX I k fun x s1 v H1 O1 st1 I1 r1 k => ?_
  refine sb.stX I1 k fun y s2 w H2 O2 st2 I2 r2 k => ?_
  refine sc.stX I2 k fun z s3 u H3 O3 st3 I3 r3 k => ?_
  refine ⟨v, w, u, rfl, k _ H3 O3 .refl ?_⟩
  have q1 := (r1.step I st1 I1 st2).step I (st1.trans st2) I2 st3
  have q2 := r2.step I1 st2 I2 st3
  have J1 := I.setX ((st1.trans st2).trans st3) I3 i q1
  have own_some : ∀ {H H1 : Hp} {O1 : Addr → Prop} {v : V} {x : Sl} {a : Addr} {xs : List D}, SlX F H H1 O1 v x → x = .own xs → v = .ref a → H1 a ≠ none ∧ H a = none := fun {H H1 O1 v x a xs} r e ev => by
    subst e
    obtain ⟨a', vs', g1, g2, g3, g4, g5, g6⟩ := r
    rw [g1] at ev
    cases ev
    exact ⟨by rw [g4]; simp, g6⟩
  have J2 := J1.set (x := y) j (SlX.base I1 q2) (fun b ys e ev hm => by
    rcases mine_of I3.env.len hm with hm | ⟨e1, xs, e2⟩
    · exact I1.env.mine (st2.mine _ (st3.mine _ hm)) (own_some q2 e ev).2
    · exact (own_some r1 e2 e1).1 (own_some q2 e ev).2) fun b ys e ev hN => I1.nestN (st2.trans st3) (own_some q2 e ev).2 (nestB_set I3.env.len (fun _ z => by subst z; exact q1.elim) hN)
  refine J2.set (x := z) l (SlX.base I2 r3) (fun b ys e ev hm => ?_) fun b ys e ev hN => I2.nestN st3 (own_some r3 e ev).2 (nestB_set I3.env.len (fun _ z => by subst z; exact q1.elim) (nestB_set J1.env.len (fun _ z => by subst z; exact q2.elim) hN))
  rcases mine_of J1.env.len hm with hm | ⟨e1, xs, e2⟩
  · rcases mine_of I3.env.len hm with hm | ⟨e1, xs, e2⟩
    · exact I2.env.mine (st3.mine _ hm) (own_some r3 e ev).2
    · exact st2.there _ (own_some r1 e2 e1).1 (own_some r3 e ev).2
  · exact (own_some r2 e2 e1).1 (own_some r3 e ev).2
end
end DL

set_option Elab.async false
set_option linter.all false
set_option maxRecDepth 100000
set_option maxHeartbeats 4000000
/-! DLi: while, for, comprehensions. -/
namespace DL
open PySem PySem.Spec L2
open PyProof.Rows hiding St

section
variable {F : Fx} {X : Cx} {H H' H1 H2 : Hp} {O O' O1 O2 : Addr → Prop} {σ σ' : St} {s s' s1 s2 : S} {Q : VK} {QT : Bool → Hp → Prop} {t : TE} {f g : DE} {v : V} {d : D} {K : PySem.W.Frag} {δ : Option Addr} {m : Pm} {c : List Int} {e e' : List Sl} {vs : List V} {ds : List D} {Qe : Ends}

/-! ### while -/
def dWhile (c : DE) (b : DS) : Nat → DS
  | 0 => fun _ => .stuck
  | n + 1 => fun s => (c s).stT fun k s1 => if k = true then (match b s1 with
      | .nx s2 => dWhile c b n s2
      | .ct s2 => dWhile c b n s2
      | .bk s2 => .nx s2
      | r => r) else .nx s1
theorem s_while (n : Nat) {c : Expr} {body : List Stmt} {fc : DE} {gb : DS} {pos : Pos} (hp : PassesOwn (model X.prog X.w) X.A X.env X.xe) (hc : TO F X c fc) (hb : BO F X body gb) : SO F X (.While c body [] pos) (dWhile fc gb n) := by
  obtain ⟨tc, pc, sc⟩ := hc
  obtain ⟨tb, pb, sb⟩ := hb
  refine ⟨_, ps_while hp pc pb, fun Q σ H O s I k => ?_⟩
  refine ⟨fun m σ H => ∃ O s, Est F σ H O s ∧ KS F H O Q (dWhile fc gb m s), ⟨n, O, s, I, k⟩, ?_⟩
  rintro m σ H ⟨O, s, I, k⟩
  cases m with
  | zero => exact k.elim
  | succ m =>
    have k : KS F H O Q ((fc s).stT fun k s1 => if k = true then (match gb s1 with
      | .nx s2 => dWhile fc gb m s2
      | .ct s2 => dWhile fc gb m s2
      | .bk s2 => .nx s2
      | r => r) else .nx s1) := k
    refine sc.stT I k fun b s1 H1 O1 st I1 k => ?_
    cases b with
    | false =>
      rw [if_neg Bool.false_ne_true]
      rw [if_neg Bool.false_ne_true] at k
      exact k σ H1 O1 .refl I1
    | true =>
      rw [if_pos rfl]
      rw [if_pos rfl] at k
      refine ⟨fun σ H => ∃ O s, Est F σ H O s ∧ KS F H O Q (dWhile fc gb m s), fun σ' H' h => ⟨m, Nat.lt_succ_self _, h⟩, ?_⟩
      refine sb _ σ H1 O1 s1 I1 ?_
      cases q : gb s1 with
      | nx s2 => rw [q] at k; exact fun σ' H' O' st' I' => ⟨O', s2, I', KS.trans st' k⟩
      | ct s2 => rw [q] at k; exact fun σ' H' O' st' I' => ⟨O', s2, I', KS.trans st' k⟩
      | bk s2 => rw [q] at k; exact fun σ' H' O' st' I' => k σ' H' O' st' I'
      | rt x c => rw [q] at k; exact k
      | er e c => rw [q] at k; exact k
      | stuck => rw [q] at k; exact k

/-! ### what is walked -/
structure WalkS (F : Fx) (J : It) (ds : List D) (P : Hp → (Addr → Prop) → Prop) : Prop where
  go : ∀ i H O c, i < ds.length → Wd F.m F.δ H O c → P H O → J.go i H
  stop : ∀ H O c, Wd F.m F.δ H O c → P H O → J.stop ds.length H
  yld : ∀ i H O c x H' d, Wd F.m F.δ H O c → P H O → J.yld i H x H' → ds[i]? = some d → Ext H H' ∧ RepD F.m.K H' O F.δ x d
  keep : ∀ H O c H' O', Wd F.m F.δ H O c → P H O → StS H O H' O' → P H' O'
def KI (F : Fx) (σ : St) (H : Hp) (O : Addr → Prop) (s : S) (R : It → Hp → Prop) : RA → Prop
  | .ok ds s' => ∀ J P H' O', StE F.δ σ H O s.e H' O' s'.e → Est F σ H' O' s' → WalkS F J ds P → P H' O' → R J H'
  | .er e c => KEr F e c
  | .stuck => False
def IO (F : Fx) (X : Cx) (tg iter : Expr) (f : DA) : Prop := ∃ wi, PI X tg iter wi ∧ ∀ σ H O s R, Est F σ H O s → KI F σ H O s R (f s) → wi σ H R
theorem walk_lst {a : Addr} {ds : List D} : WalkS F (Itl F.m.K a) ds (fun H O => ∃ vs, H a = some (.lst vs) ∧ ¬ O a ∧ RepDs F.m.K H O F.δ vs ds) where
  go := fun i H O c h w ⟨vs, h1, _, r⟩ => by
    obtain ⟨v, h2, _⟩ := r.get (i := i) (List.getElem?_eq_getElem h)
    exact ⟨vs, v, .of h1, h2⟩
  stop := fun H O c w ⟨vs, h1, _, r⟩ => ⟨vs, .of h1, by rw [r.length]; exact Nat.le_refl _⟩
  yld := fun i H O c x H' d w ⟨vs, h1, _, r⟩ ⟨e, y⟩ hd => by
    subst e
    obtain ⟨v, h2, h3⟩ := r.get hd
    have := y vs (.of h1)
    rw [h2] at this
    cases this
    exact ⟨.refl, h3⟩
  keep := fun H O c H' O' w ⟨vs, h1, n, r⟩ st => ⟨vs, st.keep _ _ n nt_lst h1, st.nO (by rw [h1]; simp) n, r.stS st w⟩
theorem walk_tup {a : Addr} {ds : List D} : WalkS F (Itt F.m.K a) ds (fun H O => ∃ vs, SqT F.m.K H a vs ∧ RepDs F.m.K H O F.δ vs ds) where
  go := fun i H O c h w ⟨vs, h1, r⟩ => by
    obtain ⟨v, h2, _⟩ := r.get (i := i) (List.getElem?_eq_getElem h)
    exact ⟨vs, v, h1, h2⟩
  stop := fun H O c w ⟨vs, h1, r⟩ => ⟨vs, h1, by rw [r.length]; exact Nat.le_refl _⟩
  yld := fun i H O c x H' d w ⟨vs, h1, r⟩ ⟨e, y⟩ hd => by
    subst e
    obtain ⟨v, h2, h3⟩ := r.get hd
    have := y vs h1
    rw [h2] at this
    cases this
    exact ⟨.refl, h3⟩
  keep := fun H O c H' O' w ⟨vs, h1, r⟩ st => ⟨vs, st.sqT w h1, r.stS st w⟩
def signsD (x : Str) : List D := x.cps.toList.map fun c => .str ⟨#[c]⟩
theorem walk_str {x : Str} : WalkS F (Its x) (signsD x) (fun _ _ => True) where
  go := fun i H O c h w _ => by
    show i < x.cps.size
    unfold signsD at h
    simpa using h
  stop := fun H O c w _ => by
    show x.cps.size ≤ (signsD x).length
    unfold signsD
    simp
  yld := fun i H O c v H' d w _ ⟨e, c', h1, h2⟩ hd => by
    subst e h2
    unfold signsD at hd
    rw [List.getElem?_map, Array.getElem?_toList, h1] at hd
    cases hd
    exact ⟨.refl, .str _⟩
  keep := fun _ _ _ _ _ _ _ _ => True.intro
def rangeD (lo : Int) (n : Nat) : List D := (List.range n).map fun i => .int (lo + (i : Nat))
theorem walk_rng {lo : Int} {n : Nat} : WalkS F (Itr lo n) (rangeD lo n) (fun _ _ => True) where
  go := fun i H O c h w _ => by
    show i < n
    unfold rangeD at h
    simpa using h
  stop := fun H O c w _ => by
    show n ≤ (rangeD lo n).length
    unfold rangeD
    simp
  yld := fun i H O c v H' d w _ ⟨e, h1⟩ hd => by
    subst e h1
    unfold rangeD at hd
    rw [List.getElem?_map] at hd
    simp only [Option.map_eq_some_iff] at hd
    obtain ⟨j, h2, rfl⟩ := hd
    rw [List.getElem?_range (by
      rcases Nat.lt_or_ge i n with h | h
      · exact h
      · rw [List.getElem?_eq_none (by simpa using h)] at h2; cases h2)] at h2
    cases h2
    exact ⟨.refl, .int _⟩
  keep := fun _ _ _ _ _ _ _ _ => True.intro
/-- range(a, b, -1) -/
def downD (hi : Int) (n : Nat) : List D := (List.range n).map fun i => .int (hi - (i : Nat))
theorem walk_down {hi : Int} {n : Nat} : WalkS F (Itc hi (-1) n) (downD hi n) (fun _ _ => True) where
  go := fun i H O c h w _ => by
    show i < n
    unfold downD at h
    simpa using h
  stop := fun H O c w _ => by
    show n ≤ (downD hi n).length
    unfold downD
    simp
  yld := fun i H O c v H' d w _ ⟨e, h1⟩ hd => by
    subst e h1
    unfold downD at hd
    rw [List.getElem?_map] at hd
    simp only [Option.map_eq_some_iff] at hd
    obtain ⟨j, h2, rfl⟩ := hd
    rw [List.getElem?_range (by
      rcases Nat.lt_or_ge i n with h | h
      · exact h
      · rw [List.getElem?_eq_none (by simpa using h)] at h2; cases h2)] at h2
    cases h2
    have e : hi + (i : Int) * -1 = hi - i := by omega
    rw [e]
    exact ⟨.refl, .int _⟩
  keep := fun _ _ _ _ _ _ _ _ => True.intro
def zipD (xs ys : List D) : List D := List.zipWith (fun x y => .tuple [x, y]) xs ys
theorem zipD_get {xs ys : List D} {i : Nat} {d : D} (h : (zipD xs ys)[i]? = some d) : ∃ x y, xs[i]? = some x ∧ ys[i]? = some y ∧ d = .tuple [x, y] := by
  unfold zipD at h
  rw [List.getElem?_zipWith] at h
  split at h
  · rename_i x y h1 h2
    exact ⟨x, y, h1, h2, (Option.some.inj h).symm⟩
  · cases h
/-- no pair of pairs -/
def npP : D → Bool
  | .tuple ds => !prD ds
  | _ => false
theorem zip_yld {i : Nat} {xs ys : List D} {us ws : List V} {x y : V} {T : Addr} {d : D} (w : Wd m δ H O c) (hn : (zipD xs ys).all npP = true) (rx : RepDs K H O δ us xs) (ry : RepDs K H O δ ws ys) (hT : H T = none) (hx : us[i]? = some x) (hy : ws[i]? = some y) (hd : (zipD xs ys)[i]? = some d) :
    Ext H (upd H T (.tup [x, y])) ∧ RepD K (upd H T (.tup [x, y])) O δ (.ref T) d := by
  have hp := List.all_eq_true.mp hn d (List.mem_of_getElem? hd)
  obtain ⟨a, b, h1, h2, rfl⟩ := zipD_get hd
  obtain ⟨x', g1, r1⟩ := rx.get h1
  obtain ⟨y', g2, r2⟩ := ry.get h2
  rw [hx] at g1
  rw [hy] at g2
  cases g1
  cases g2
  refine ⟨.upd hT, .tup (.of upd_same) (fun z => ?_) ((RepDs.cons r1 (.cons r2 .nil)).step (StF.stp ((Ext.upd hT).stF (O := O))) w)⟩
  have hp : (!prD [a, b]) = true := hp
  rw [z] at hp
  cases hp
theorem walk_zipL {a b : Addr} {xs ys : List D} (hn : (zipD xs ys).all npP = true) : WalkS F (Itz F.m.K a b) (zipD xs ys) (fun H O => (∃ us, H a = some (.lst us) ∧ ¬ O a ∧ RepDs F.m.K H O F.δ us xs) ∧ ∃ ws, H b = some (.lst ws) ∧ ¬ O b ∧ RepDs F.m.K H O F.δ ws ys) where
  go := fun i H O c h w ⟨⟨us, h1, _, r1⟩, ws, h2, _, r2⟩ => by
    have hl : i < xs.length ∧ i < ys.length := by unfold zipD at h; simp at h; omega
    obtain ⟨x, g1, _⟩ := r1.get (i := i) (List.getElem?_eq_getElem hl.1)
    obtain ⟨y, g2, _⟩ := r2.get (i := i) (List.getElem?_eq_getElem hl.2)
    exact ⟨us, ws, x, y, .of h1, .of h2, g1, g2⟩
  stop := fun H O c w ⟨⟨us, h1, _, r1⟩, ws, h2, _, r2⟩ => ⟨us, ws, .of h1, .of h2, by
    rw [r1.length, r2.length]
    unfold zipD
    simp
    omega⟩
  yld := fun i H O c x H' d w ⟨⟨us, h1, _, r1⟩, ws, h2, _, r2⟩ ⟨T, x1, y1, e1, e2, e3, e4, e5⟩ hd => by
    subst e1 e3
    exact zip_yld w hn r1 r2 e2 (e4 us (.of h1)) (e5 ws (.of h2)) hd
  keep := fun H O c H' O' w ⟨⟨us, h1, n1, r1⟩, ws, h2, n2, r2⟩ st => ⟨⟨us, st.keep _ _ n1 nt_lst h1, st.nO (by rw [h1]; simp) n1, r1.stS st w⟩, ws, st.keep _ _ n2 nt_lst h2, st.nO (by rw [h2]; simp) n2, r2.stS st w⟩
theorem walk_zipT {a b : Addr} {xs ys : List D} (hn : (zipD xs ys).all npP = true) : WalkS F (RZ.ItzT F.m.K a b) (zipD xs ys) (fun H O => (∃ us, SqT F.m.K H a us ∧ RepDs F.m.K H O F.δ us xs) ∧ ∃ ws, SqT F.m.K H b ws ∧ RepDs F.m.K H O F.δ ws ys) where
  go := fun i H O c h w ⟨⟨us, h1, r1⟩, ws, h2, r2⟩ => by
    have hl : i < xs.length ∧ i < ys.length := by unfold zipD at h; simp at h; omega
    obtain ⟨x, g1, _⟩ := r1.get (i := i) (List.getElem?_eq_getElem hl.1)
    obtain ⟨y, g2, _⟩ := r2.get (i := i) (List.getElem?_eq_getElem hl.2)
    exact ⟨us, ws, x, y, h1, h2, g1, g2⟩
  stop := fun H O c w ⟨⟨us, h1, r1⟩, ws, h2, r2⟩ => ⟨us, ws, h1, h2, by
    rw [r1.length, r2.length]
    unfold zipD
    simp
    omega⟩
  yld := fun i H O c x H' d w ⟨⟨us, h1, r1⟩, ws, h2, r2⟩ ⟨T, x1, y1, e1, e2, e3, e4, e5⟩ hd => by
    subst e1 e3
    exact zip_yld w hn r1 r2 e2 (e4 us h1) (e5 ws h2) hd
  keep := fun H O c H' O' w ⟨⟨us, h1, r1⟩, ws, h2, r2⟩ st => ⟨⟨us, st.sqT w h1, r1.stS st w⟩, ws, st.sqT w h2, r2.stS st w⟩

theorem PI_or {tg iter : Expr} {w1 w2 : TI} (h1 : PI X tg iter w1) (h2 : PI X tg iter w2) : PI X tg iter (fun σ H R => w1 σ H R ∨ w2 σ H R) :=
  ⟨fun pins s σ H R I h => h.elim (h1.run pins s σ H R I) (h2.run pins s σ H R I)⟩
/-- a list, a tuple, a text -/
def itD : D → Option (List D)
  | .list xs => some xs
  | .tuple xs => some xs
  | .str z => some (signsD z)
  | _ => none
def RE.ra (r : RE) (k : D → S → RA) : RA := match r with
  | .ok x s => k x.d s
  | .er e c => .er e c
  | .stuck => .stuck
def iSeq (a : DE) : DA := fun s => (a s).ra fun x s1 => match itD x with
  | some ds => .ok ds s1
  | none => .stuck
theorem i_seq {tg a : Expr} {fa : DE} (hK : F.m.K = X.K) (ha : EO F X a fa) : IO F X tg a (iSeq fa) := by
  obtain ⟨ta, pa, sa⟩ := ha
  refine ⟨_, PI_or (pi_list pa) (PI_or (pi_tup pa) (pi_str pa)), fun σ H O s R I k => ?_⟩
  unfold iSeq at k
  cases q : fa s with
  | stuck => rw [q] at k; exact k.elim
  | er e c =>
    refine .inl (sa.use I ?_)
    rw [q] at k ⊢
    exact k
  | ok x s1 =>
    rw [q] at k
    have k : KI F σ H O s R (match itD x.d with | some ds => .ok ds s1 | none => .stuck) := k
    cases hx : x.d with
    | list xs =>
      rw [hx] at k
      refine .inl (sa.use I ?_)
      rw [q]
      intro v H1 O1 st I1 r
      rw [hx] at r
      obtain ⟨a, vs, rfl, h1, n, rs⟩ := r.list_inv
      exact ⟨a, rfl, ⟨vs, .of h1⟩, hK ▸ k _ _ H1 O1 st I1 walk_lst ⟨vs, h1, n, rs⟩⟩
    | tuple xs =>
      rw [hx] at k
      refine .inr (.inl (sa.use I ?_))
      rw [q]
      intro v H1 O1 st I1 r
      rw [hx] at r
      obtain ⟨a, vs, rfl, h1, rs⟩ := r.tup_inv
      exact ⟨a, rfl, ⟨vs, hK ▸ h1⟩, hK ▸ k _ _ H1 O1 st I1 walk_tup ⟨vs, h1, rs⟩⟩
    | str z =>
      rw [hx] at k
      refine .inr (.inr (sa.use I ?_))
      rw [q]
      intro v H1 O1 st I1 r
      rw [hx] at r
      exact ⟨z, r.str_inv, k _ _ H1 O1 st I1 walk_str True.intro⟩
    | _ => rw [hx] at k; exact k.elim
abbrev lim62 (i : Int) : Bool := decide (-(2 ^ 62) ≤ i) && decide (i < 2 ^ 62)
theorem SE.ra {k : D → S → RA} {a : DE} {ta : TE} {R : It → Hp → Prop} {R' : VK} (ha : SE F ta a) (I : Est F σ H O s) (h : KI F σ H O s R ((a s).ra k))
    (hk : ∀ x s1 v H1 O1, StE F.δ σ H O s.e H1 O1 s1.e → Est F σ H1 O1 s1 → RepD F.m.K H1 O1 F.δ v x → KI F σ H1 O1 s1 R (k x s1) → R' v H1) : ta σ H R' := by
  refine ha.use I ?_
  cases q : a s with
  | stuck => rw [q] at h; exact h
  | er e c => rw [q] at h; exact h
  | ok x s1 =>
    rw [q] at h
    intro v H1 O1 st I1 r
    refine hk x.d s1 v H1 O1 st I1 r ?_
    have h : KI F σ H O s R (k x.d s1) := h
    cases qq : k x.d s1 with
    | stuck => rw [qq] at h; exact h
    | er e c => rw [qq] at h; exact h
    | ok ds s2 => rw [qq] at h; exact fun J P H' O' st' => h J P H' O' (st.trans st')
def iRng1 (a : DE) : DA := fun s => (a s).ra fun x s1 => match x with
  | .int j => if lim62 j then .ok (rangeD 0 j.toNat) s1 else .stuck
  | _ => .stuck
def iRng2 (a b : DE) : DA := fun s => (a s).ra fun x s1 => (b s1).ra fun y s2 => match x, y with
  | .int i, .int j => if lim62 i && lim62 j then .ok (rangeD i (j - i).toNat) s2 else .stuck
  | _, _ => .stuck
/-- range(a, b, -1) -/
def iDown (a b : DE) : DA := fun s => (a s).ra fun x s1 => (b s1).ra fun y s2 => match x, y with
  | .int i, .int j => if lim62 i && lim62 j then .ok (downD i (i - j).toNat) s2 else .stuck
  | _, _ => .stuck
section
variable {tg a b : Expr} {fa fb : DE} {p pos : Pos}
theorem i_rng1 (hg : Gl X "range") (hm : X.mg "range" = none) (ha : EO F X a fa) (hs : starEach [a] X.env = [(false, eval a X.env)] := by rfl) : IO F X tg (.Call (.Name "range" p) [a] [] pos) (DL.iRng1 fa) := by
  obtain ⟨ta, pa, sa⟩ := ha
  refine ⟨_, pi_range1 hg hm (pa_cons pa pa_nil hs) hs, fun σ H O s R I k => ?_⟩
  refine sa.ra I k fun x s1 v H1 O1 st I1 r k => ?_
  split at k
  · rename_i j
    split at k
    · rename_i hl
      simp only [lim62, Bool.and_eq_true, decide_eq_true_eq] at hl
      cases r.int_inv
      exact ⟨j, rfl, hl.1, hl.2, k _ _ H1 O1 .refl I1 walk_rng True.intro⟩
    · exact k.elim
  · exact k.elim
theorem i_rng2 (hg : Gl X "range") (hm : X.mg "range" = none) (ha : EO F X a fa) (hb : EO F X b fb) (hs : starEach [a, b] X.env = [(false, eval a X.env), (false, eval b X.env)] := by rfl) (hs2 : starEach [b] X.env = [(false, eval b X.env)] := by rfl) :
    IO F X tg (.Call (.Name "range" p) [a, b] [] pos) (DL.iRng2 fa fb) := by
  obtain ⟨ta, pa, sa⟩ := ha
  obtain ⟨tb, pb, sb⟩ := hb
  refine ⟨_, pi_range2 hg hm (pa_cons pa (pa_cons pb pa_nil hs2) (by rw [hs, hs2])) hs hs2, fun σ H O s R I k => ?_⟩
  refine sa.ra I k fun x s1 v H1 O1 st I1 r k1 => ?_
  clear k
  refine sb.ra I1 k1 fun y s2 w H2 O2 st2 I2 r2 k => ?_
  clear k1
  split at k
  · rename_i i j
    split at k
    · rename_i hl
      simp only [lim62, Bool.and_eq_true, decide_eq_true_eq] at hl
      cases r.int_inv
      cases r2.int_inv
      exact ⟨i, j, rfl, ⟨hl.1.1, hl.1.2, hl.2.1, hl.2.2⟩, k _ _ H2 O2 .refl I2 walk_rng True.intro⟩
    · exact k.elim
  · exact k.elim
theorem i_down {j : Nat} {p1 p2 : Pos} (hg : Gl X "range") (hm : X.mg "range" = none) (ha : EO F X a fa) (hb : EO F X b fb)
    (hs : starEach [a, b, .UnaryOp .USub (.Constant (.int 1) j p1) p2] X.env = (false, eval a X.env) :: starEach [b, .UnaryOp .USub (.Constant (.int 1) j p1) p2] X.env := by rfl)
    (hs2 : starEach [b, .UnaryOp .USub (.Constant (.int 1) j p1) p2] X.env = (false, eval b X.env) :: starEach [.UnaryOp .USub (.Constant (.int 1) j p1) p2] X.env := by rfl)
    (hs3 : starEach [.UnaryOp .USub (.Constant (.int 1) j p1) p2] X.env = (false, eval (.UnaryOp .USub (.Constant (.int 1) j p1) p2) X.env) :: starEach [] X.env := by rfl)
    (hpl : (backTo pos (starEach [b, .UnaryOp .USub (.Constant (.int 1) j p1) p2] X.env)).any (·.1) = false := by rfl) :
    IO F X tg (.Call (.Name "range" p) [a, b, .UnaryOp .USub (.Constant (.int 1) j p1) p2] [] pos) (iDown fa fb) := by
  obtain ⟨ta, pa, sa⟩ := ha
  obtain ⟨tb, pb, sb⟩ := hb
  refine ⟨_, pi_range3 hg hm (pa_cons pa (pa_cons pb (pa_cons (pe_un un_neg pe_int) pa_nil hs3) hs2) hs) hs hpl, fun σ H O s R I k => ?_⟩
  refine sa.ra I k fun x s1 v H1 O1 st I1 r k1 => ?_
  clear k
  refine sb.ra I1 k1 fun y s2 w H2 O2 st2 I2 r2 k => ⟨1, rfl, ?_⟩
  clear k1
  split at k
  · rename_i i j
    split at k
    · rename_i hl
      simp only [lim62, Bool.and_eq_true, decide_eq_true_eq] at hl
      cases r.int_inv
      cases r2.int_inv
      exact ⟨i, j, -1, _, rfl, RgC.neg hl.1.1 hl.1.2 hl.2.1 hl.2.2, k _ _ H2 O2 .refl I2 walk_down True.intro⟩
    · exact k.elim
  · exact k.elim
/-- zip(a, b): two lists, or two tuples -/
def iZip2 (a b : DE) : DA := fun s => (a s).ra fun x s1 => (b s1).ra fun y s2 => match x, y with
  | .list xs, .list ys => if (zipD xs ys).all npP then .ok (zipD xs ys) s2 else .stuck
  | .tuple xs, .tuple ys => if (zipD xs ys).all npP then .ok (zipD xs ys) s2 else .stuck
  | _, _ => .stuck
theorem i_zip2 {elts : List Expr} {kk : Nat} {tpos : Pos} (hK : F.m.K = X.K) (hg : Gl X "zip") (hm : X.mg "zip" = none) (ha : EO F X a fa) (hb : EO F X b fb)
    (hs : starEach [a, b] X.env = (false, eval a X.env) :: starEach [b] X.env := by rfl) (hs2 : starEach [b] X.env = (false, eval b X.env) :: starEach [] X.env := by rfl) (hpl : (backTo pos (starEach [b] X.env)).any (·.1) = false := by rfl) :
    IO F X (.Tuple elts kk tpos) (.Call (.Name "zip" p) [a, b] [] pos) (iZip2 fa fb) := by
  obtain ⟨ta, pa, sa⟩ := ha
  obtain ⟨tb, pb, sb⟩ := hb
  refine ⟨_, RZ.pi_zipA hg hm (pa_cons pa (pa_cons pb pa_nil hs2) hs) hs hpl, fun σ H O s R I k => ?_⟩
  refine sa.ra I k fun x s1 v H1 O1 st I1 r k1 => ?_
  clear k
  refine sb.ra I1 k1 fun y s2 w H2 O2 st2 I2 r2 k => ?_
  clear k1
  have r1 := r.step st2.stp I1.wd
  split at k
  · split at k
    · rename_i hn
      obtain ⟨a1, us, rfl, h1, n1, rs1⟩ := r1.list_inv
      obtain ⟨a2, ws, rfl, h2, n2, rs2⟩ := r2.list_inv
      exact ⟨a1, a2, us, ws, rfl, .inl ⟨.of h1, .of h2, hK ▸ k _ _ H2 O2 .refl I2 (walk_zipL hn) ⟨⟨us, h1, n1, rs1⟩, ws, h2, n2, rs2⟩⟩⟩
    · exact k.elim
  · split at k
    · rename_i hn
      obtain ⟨a1, us, rfl, h1, rs1⟩ := r1.tup_inv
      obtain ⟨a2, ws, rfl, h2, rs2⟩ := r2.tup_inv
      exact ⟨a1, a2, us, ws, rfl, .inr ⟨hK ▸ h1, hK ▸ h2, hK ▸ k _ _ H2 O2 .refl I2 (walk_zipT hn) ⟨⟨us, h1, rs1⟩, ws, h2, rs2⟩⟩⟩
    · exact k.elim
  · exact k.elim
end

/-! ### for -/
def forL (g : D → S → Option S) (b : DS) : List D → S → RS
  | [], s => .nx s
  | d :: ds, s => match g d s with
    | none => .stuck
    | some s1 => match b s1 with
      | .nx s2 => forL g b ds s2
      | .ct s2 => forL g b ds s2
      | .bk s2 => .nx s2
      | r => r
def dFor (f : DA) (g : D → S → Option S) (b : DS) : DS := fun s => match f s with
  | .ok ds s1 => forL g b ds s1
  | .er e c => .er e c
  | .stuck => .stuck
theorem s_for {tg iter : Expr} {body : List Stmt} {f : DA} {gt : D → S → Option S} {gb : DS} {pos : Pos} (hp : PassesOwn (model X.prog X.w) X.A X.env X.xe) (hc : X.calm = true) (hi : IO F X tg iter f) (hg : GO F X tg gt) (hb : BO F X body gb)
    (hs : ∀ x, foldedSetIterable iter X.env x = pure x := by intro _; rfl) : SO F X (.For tg iter body [] pos) (dFor f gt gb) := by
  obtain ⟨wi, pi, si⟩ := hi
  obtain ⟨tg', pg, sg⟩ := hg
  obtain ⟨tb, pb, sb⟩ := hb
  refine ⟨_, ps_for hp hc pi pg pb hs, fun Q σ H O s I k => ?_⟩
  refine si σ H O s _ I ?_
  unfold dFor at k
  cases q : f s with
  | stuck => rw [q] at k; exact k
  | er e c => rw [q] at k; exact k
  | ok ds s1 =>
    rw [q] at k
    intro J P H1 O1 st I1 W w1
    have k : KS F H1 O1 Q (forL gt gb ds s1) := KS.trans (st.stS I.wd) k
    refine ⟨fun i m σ H => m = ds.length - i ∧ i ≤ ds.length ∧ ∃ O s, Est F σ H O s ∧ P H O ∧ KS F H O Q (forL gt gb (ds.drop i) s), ⟨ds.length, by simp, Nat.zero_le _, O1, s1, I1, w1, by simpa using k⟩, ?_⟩
    rintro i m σ H ⟨rfl, hi, O, s, I, p, k⟩
    by_cases hlt : i < ds.length
    · refine .inr ⟨W.go i H O s.c hlt I.wd p, fun σ' H' => ∃ O s, Est F σ' H' O s ∧ P H' O ∧ KS F H' O Q (forL gt gb (ds.drop (i + 1)) s), fun σ' H' h => ⟨ds.length - (i + 1), by omega, rfl, hlt, h⟩, fun x H' y => ?_⟩
      obtain ⟨ex, r⟩ := W.yld i H O s.c x H' ds[i] I.wd p y (List.getElem?_eq_getElem hlt)
      rw [List.drop_eq_getElem_cons hlt] at k
      have k : KS F H O Q (match gt ds[i] s with
        | none => .stuck
        | some s1 => match gb s1 with
          | .nx s2 => forL gt gb (ds.drop (i + 1)) s2
          | .ct s2 => forL gt gb (ds.drop (i + 1)) s2
          | .bk s2 => .nx s2
          | r => r) := k
      cases qg : gt ds[i] s with
      | none => rw [qg] at k; exact k.elim
      | some s2 =>
        rw [qg] at k
        have p' := W.keep H O s.c H' O I.wd p (ex.stF.stS I.wd)
        have k := KS.trans (ex.stF.stS I.wd) k
        refine sg x ds[i] σ H' O s s2 _ (I.ext ex) r qg fun σ2 I2 => ?_
        refine sb _ σ2 H' O s2 I2 ?_
        cases qb : gb s2 with
        | nx s3 => simp only [qb] at k; exact fun σ' H'' O' st' I' => ⟨O', s3, I', W.keep H' O s2.c H'' O' I2.wd p' st', KS.trans st' k⟩
        | ct s3 => simp only [qb] at k; exact fun σ' H'' O' st' I' => ⟨O', s3, I', W.keep H' O s2.c H'' O' I2.wd p' st', KS.trans st' k⟩
        | bk s3 => simp only [qb] at k; exact fun σ' H'' O' st' I' => k σ' H'' O' st' I'
        | rt x c => simp only [qb] at k; exact k
        | er e c => simp only [qb] at k; exact k
        | stuck => simp only [qb] at k; exact k
    · have e : i = ds.length := by omega
      subst e
      rw [List.drop_length] at k
      exact .inl ⟨W.stop H O s.c I.wd p, k σ H O .refl I⟩
end
end DL

set_option Elab.async false
set_option linter.all false
set_option maxRecDepth 100000
set_option maxHeartbeats 4000000
/-! DLj: list comprehensions. -/
namespace DL
open PySem PySem.Spec L2
open PyProof.Rows hiding St

def wipeE (e : List Sl) : List Nat → List Sl
  | [] => e
  | v :: vs => (wipeE e vs).set v .un
/-- e, with e0's slots at vs -/
def mg (vs : List Nat) (e0 e : List Sl) : List Sl := match vs with
  | [] => e
  | v :: r => (mg r e0 e).set v ((e0[v]?).getD .un)
theorem wipeE_len (e : List Sl) : ∀ vs, (wipeE e vs).length = e.length
  | [] => rfl
  | v :: vs => by unfold wipeE; rw [List.length_set, wipeE_len e vs]
theorem mg_len (e0 e : List Sl) : ∀ vs, (mg vs e0 e).length = e.length
  | [] => rfl
  | v :: vs => by unfold mg; rw [List.length_set, mg_len e0 e vs]
theorem wipeE_out {e : List Sl} {j : Nat} : ∀ {vs : List Nat}, j ∉ vs → (wipeE e vs)[j]? = e[j]?
  | [], _ => rfl
  | v :: vs, h => by
    unfold wipeE
    rw [sl_ne (fun z => h (by rw [z]; exact List.mem_cons_self ..)), wipeE_out (fun z => h (List.mem_cons_of_mem _ z))]
theorem wipeE_in {e : List Sl} {j : Nat} {x : Sl} : ∀ {vs : List Nat}, j ∈ vs → (wipeE e vs)[j]? = some x → x = .un
  | [], h, _ => by cases h
  | v :: vs, h, q => by
    unfold wipeE at q
    by_cases hj : j = v
    · subst hj; exact (sl_eq q).1
    · rw [sl_ne hj] at q
      exact wipeE_in ((List.mem_cons.mp h).resolve_left hj) q
theorem mg_out {e0 e : List Sl} {j : Nat} : ∀ {vs : List Nat}, j ∉ vs → (mg vs e0 e)[j]? = e[j]?
  | [], _ => rfl
  | v :: vs, h => by
    unfold mg
    rw [sl_ne (fun z => h (by rw [z]; exact List.mem_cons_self ..)), mg_out (fun z => h (List.mem_cons_of_mem _ z))]
theorem mg_in {e0 e : List Sl} {j : Nat} {x : Sl} (hl : e0.length = e.length) : ∀ {vs : List Nat}, j ∈ vs → (mg vs e0 e)[j]? = some x → e0[j]? = some x
  | [], h, _ => by cases h
  | v :: vs, h, q => by
    unfold mg at q
    by_cases hj : j = v
    · subst hj
      obtain ⟨e1, hlt⟩ := sl_eq q
      rw [mg_len, ← hl] at hlt
      rw [List.getElem?_eq_getElem hlt] at e1 ⊢
      rw [e1]; rfl
    · rw [sl_ne hj] at q
      exact mg_in hl ((List.mem_cons.mp h).resolve_left hj) q

section
variable {F : Fx} {X : Cx} {H H' H1 H2 : Hp} {O O' O1 O2 : Addr → Prop} {σ σ' σ2 : St} {s s' s1 s2 : S} {Q : VK} {t : TE} {f g : DE} {v : V} {d : D} {vs : List Nat} {e2 : List Sl}

theorem wipe_out' {i : Nat} {vs : List Nat} (h : i ∉ vs) : (wipe σ vs)[i]? = σ[i]? := wipe_out h
theorem wipe_eq_out (hw : wipe σ2 vs = wipe σ vs) {j : Nat} (h : j ∉ vs) : σ2[j]? = σ[j]? := by
  rw [← wipe_out (σ := σ2) h, hw, wipe_out h]
/-- the block's own names forgotten -/
theorem Est.wipe (I : Est F σ H O s) (vs : List Nat) : Est F (wipe σ vs) H O { s with e := wipeE s.e vs } := by
  refine ⟨I.wd, ⟨by show (L2.wipe σ vs).length = (wipeE s.e vs).length; rw [wipe_length, wipeE_len]; exact I.env.len, fun i d q => ?_, fun i xs q => ?_, fun i j a xs ys hij q1 q2 r1 r2 => ?_⟩, I.base, I.nst.to (fun i xss q => ?_) (fun j i k q => ?_) (fun b us nb q => ⟨q, (I.nst.of nb).1⟩) (fun _ _ r => r) fun b _ z => ?_⟩
  · have q : (wipeE s.e vs)[i]? = some (.val d) := q
    by_cases hi : i ∈ vs
    · cases wipeE_in hi q
    · rw [wipeE_out hi] at q
      obtain ⟨v, h1, h2⟩ := I.env.vals i d q
      exact ⟨v, by rw [wipe_out hi]; exact h1, h2⟩
  · have q : (wipeE s.e vs)[i]? = some (.own xs) := q
    by_cases hi : i ∈ vs
    · cases wipeE_in hi q
    · rw [wipeE_out hi] at q
      obtain ⟨a, ws, h1, h2⟩ := I.env.owns i xs q
      exact ⟨a, ws, by rw [wipe_out hi]; exact h1, h2⟩
  · have q1 : (wipeE s.e vs)[i]? = some (.own xs) := q1
    have q2 : (wipeE s.e vs)[j]? = some (.own ys) := q2
    by_cases hi : i ∈ vs
    · cases wipeE_in hi q1
    · by_cases hj : j ∈ vs
      · cases wipeE_in hj q2
      · rw [wipeE_out hi] at q1
        rw [wipeE_out hj] at q2
        rw [wipe_out hi] at r1
        rw [wipe_out hj] at r2
        exact I.env.uniq i j a xs ys hij q1 q2 r1 r2
  · have q : (wipeE s.e vs)[i]? = some (.nst xss) := q
    by_cases hi : i ∈ vs
    · cases wipeE_in hi q
    · exact ⟨by rw [wipeE_out hi] at q; exact q, wipe_out hi⟩
  · have q : (wipeE s.e vs)[j]? = some (.ali i k) := q
    by_cases hi : j ∈ vs
    · cases wipeE_in hi q
    · exact ⟨by rw [wipeE_out hi] at q; exact q, wipe_out hi⟩
  · obtain ⟨l, xs, q1, q2⟩ := z
    have q1 : (wipeE s.e vs)[l]? = some (.own xs) := q1
    by_cases hi : l ∈ vs
    · cases wipeE_in hi q1
    · rw [wipeE_out hi] at q1
      rw [wipe_out hi] at q2
      exact ⟨l, xs, q1, q2⟩
/-- behind a turn of the block: back in the def -/
theorem Est.back (I : Est F σ H O s) (hw : L2.wipe σ2 vs = L2.wipe σ vs) (hl2 : e2.length = s.e.length) (ho : ∀ j, j ∉ vs → e2[j]? = s.e[j]?) (hi : ∀ j xs, j ∈ vs → e2[j]? ≠ some (.own xs))
    (st : StE F.δ σ2 H O e2 H' O' s'.e) (I' : Est F σ2 H' O' s') : Est F σ H' O' { s' with e := mg vs s.e s'.e } ∧ StE F.δ σ H O s.e H' O' (mg vs s.e s'.e) := by
  have hl : s.e.length = s'.e.length := by
    have h1 : (L2.wipe σ2 vs).length = (L2.wipe σ vs).length := by rw [hw]
    rw [wipe_length, wipe_length, I.env.len, I'.env.len] at h1
    exact h1.symm
  have mine2 : ∀ {a}, Mine σ2 e2 a → ∃ j xs, j ∉ vs ∧ s.e[j]? = some (.own xs) ∧ σ[j]? = some (some (.ref a)) := fun {a} ⟨j, xs, h1, h2⟩ => by
    by_cases hj : j ∈ vs
    · exact absurd h1 (hi j xs hj)
    · exact ⟨j, xs, hj, by rw [← ho j hj]; exact h1, by rw [← wipe_eq_out hw hj]; exact h2⟩
  have mineO : ∀ {a j xs}, j ∉ vs → s'.e[j]? = some (.own xs) → σ2[j]? = some (some (.ref a)) → Mine σ s.e a := fun {a j xs} hj h1 h2 => by
    obtain ⟨k, ys, _, h3, h4⟩ := mine2 (st.mine a ⟨j, xs, h1, h2⟩)
    exact ⟨k, ys, h3, h4⟩
  have mineM : ∀ a, Mine σ (mg vs s.e s'.e) a → Mine σ s.e a := fun a h => by
    obtain ⟨j, xs, h1, h2⟩ := h
    by_cases hj : j ∈ vs
    · exact ⟨j, xs, mg_in hl hj h1, h2⟩
    · rw [mg_out hj] at h1
      exact mineO hj h1 (by rw [wipe_eq_out hw hj]; exact h2)
  have nstM : ∀ (i : Nat) (xss : List (List D)), (mg vs s.e s'.e)[i]? = some (.nst xss) → s.e[i]? = some (.nst xss) := fun i xss q => by
    by_cases hj : i ∈ vs
    · exact mg_in hl hj q
    · rw [mg_out hj] at q
      rw [← ho i hj]
      exact st.nst i xss q
  have aliM : ∀ (j i k : Nat), (mg vs s.e s'.e)[j]? = some (.ali i k) → s.e[j]? = some (.ali i k) := fun j i k q => by
    by_cases hj : j ∈ vs
    · exact mg_in hl hj q
    · rw [mg_out hj] at q
      rw [← ho j hj]
      exact st.ali j i k q
  refine ⟨⟨I'.wd, ⟨?_, fun j d q => ?_, fun j xs q => ?_, fun j k a xs ys hjk q1 q2 r1 r2 => ?_⟩, I'.base, I.nst.to (fun i xss q => ⟨nstM i xss q, rfl⟩) (fun j i k q => ⟨aliM j i k q, rfl⟩)
    (fun b us nb q => ⟨st.keep b _ (I.nst.of nb).2.1 nt_lst q, st.stay b (I.nst.of nb).1 fun z => (I.nst.of nb).2.2.2.1 (let ⟨j, xs, _, h1, h2⟩ := mine2 z; ⟨j, xs, h1, h2⟩)⟩) (fun _ _ r => r.step st.stp I.wd) fun b _ h => mineM b h⟩, ⟨st.keep, st.there, st.fresh, fun a ha hn => st.stay a ha fun z => hn ?_, mineM, nstM, aliM⟩⟩
  · show σ.length = (mg vs s.e s'.e).length
    rw [mg_len, ← hl]; exact I.env.len
  · have q : (mg vs s.e s'.e)[j]? = some (.val d) := q
    by_cases hj : j ∈ vs
    · obtain ⟨v, h1, h2⟩ := I.env.vals j d (mg_in hl hj q)
      exact ⟨v, h1, h2.step st.stp I.wd⟩
    · rw [mg_out hj] at q
      obtain ⟨v, h1, h2⟩ := I'.env.vals j d q
      exact ⟨v, by rw [← wipe_eq_out hw hj]; exact h1, h2⟩
  · have q : (mg vs s.e s'.e)[j]? = some (.own xs) := q
    by_cases hj : j ∈ vs
    · have q0 := mg_in hl hj q
      obtain ⟨a, ws, h1, h2, h3, h4, h5, h6⟩ := I.env.owns j xs q0
      refine ⟨a, ws, h1, st.stay a h2 fun z => ?_, h3, st.keep a _ h3 nt_lst h4, h5.step st.stp I.wd, h6⟩
      obtain ⟨k, ys, hk, g1, g2⟩ := mine2 z
      exact I.env.uniq j k a xs ys (fun z => hk (z ▸ hj)) q0 g1 h1 g2
    · rw [mg_out hj] at q
      obtain ⟨a, ws, h1, h2⟩ := I'.env.owns j xs q
      exact ⟨a, ws, by rw [← wipe_eq_out hw hj]; exact h1, h2⟩
  · have q1 : (mg vs s.e s'.e)[j]? = some (.own xs) := q1
    have q2 : (mg vs s.e s'.e)[k]? = some (.own ys) := q2
    have key : ∀ {j k : Nat} {xs ys : List D}, j ≠ k → j ∈ vs → k ∉ vs → (mg vs s.e s'.e)[j]? = some (.own xs) → (mg vs s.e s'.e)[k]? = some (.own ys) → σ[j]? = some (some (.ref a)) → σ[k]? = some (some (.ref a)) → False := fun {j k xs ys} hjk hj hk q1 q2 r1 r2 => by
      rw [mg_out hk] at q2
      have r2' : σ2[k]? = some (some (.ref a)) := by rw [wipe_eq_out hw hk]; exact r2
      obtain ⟨l, zs, hl', g1, g2⟩ := mine2 (st.mine a ⟨k, ys, q2, r2'⟩)
      exact I.env.uniq j l a xs zs (fun z => hl' (z ▸ hj)) (mg_in hl hj q1) g1 r1 g2
    by_cases hj : j ∈ vs
    · by_cases hk : k ∈ vs
      · exact I.env.uniq j k a xs ys hjk (mg_in hl hj q1) (mg_in hl hk q2) r1 r2
      · exact key hjk hj hk q1 q2 r1 r2
    · by_cases hk : k ∈ vs
      · exact key (Ne.symm hjk) hk hj q2 q1 r2 r1
      · rw [mg_out hj] at q1
        rw [mg_out hk] at q2
        exact I'.env.uniq j k a xs ys hjk q1 q2 (by rw [wipe_eq_out hw hj]; exact r1) (by rw [wipe_eq_out hw hk]; exact r2)
  · obtain ⟨j, xs, _, h1, h2⟩ := mine2 z
    exact ⟨j, xs, h1, h2⟩

/-- without exceptions -/
abbrev Fx.no (F : Fx) : Fx := { F with E := E0 }
theorem Est.no (I : Est F σ H O s) : Est F.no σ H O s := ⟨I.wd, ⟨I.env.len, I.env.vals, I.env.owns, I.env.uniq⟩, I.base, ⟨I.nst.is, I.nst.one, I.nst.ali⟩⟩
theorem Est.yes (I : Est F.no σ H O s) : Est F σ H O s := ⟨I.wd, ⟨I.env.len, I.env.vals, I.env.owns, I.env.uniq⟩, I.base, ⟨I.nst.is, I.nst.one, I.nst.ali⟩⟩

/-- a comprehension's target: its own names alone -/
def GC (F : Fx) (X : Cx) (tg : Expr) (vs : List Nat) (g : D → S → Option S) : Prop := ∃ t : TG, PG X tg t ∧
  (∀ v d σ H O s s' Q, Est F σ H O s → RepD F.m.K H O F.δ v d → g d s = some s' → (∀ σ', Est F σ' H O s' → L2.wipe σ' vs = L2.wipe σ vs → Q σ' H) → t v σ H Q) ∧
  ∀ d s s', g d s = some s' → s'.e.length = s.e.length ∧ s'.c = s.c ∧ (∀ j, j ∉ vs → s'.e[j]? = s.e[j]?) ∧ ∀ (j : Nat) (xs : List D), s'.e[j]? = some (Sl.own xs) → s.e[j]? = some (Sl.own xs)
theorem wipe_in {τ : St} {j : Nat} : ∀ {vs : List Nat}, j ∈ vs → (L2.wipe τ vs)[j]? = if j < τ.length then some none else none
  | [], h => by cases h
  | w :: vs, h => by
    unfold L2.wipe
    by_cases hj : j = w
    · subst hj
      rw [List.getElem?_set, wipe_length]
      simp
    · rw [sl_ne hj]
      exact wipe_in ((List.mem_cons.mp h).resolve_left hj)
theorem wipe_set {i : Nat} {x : Option V} {vs : List Nat} (h : i ∈ vs) : L2.wipe (σ.set i x) vs = L2.wipe σ vs := by
  apply List.ext_getElem?
  intro j
  by_cases hj : j ∈ vs
  · rw [wipe_in hj, wipe_in hj, List.length_set]
  · rw [wipe_out hj, wipe_out hj, sl_ne (fun z => hj (by rw [z]; exact h))]
theorem wipe_idem {vs : List Nat} : L2.wipe (L2.wipe σ vs) vs = L2.wipe σ vs := by
  apply List.ext_getElem?
  intro j
  by_cases hj : j ∈ vs
  · rw [wipe_in hj, wipe_in hj, wipe_length]
  · rw [wipe_out hj]
/-- a list outside the slots changes -/
theorem Est.mutO (I : Est F σ H O s) {a : Addr} {us ws : List V} (ha : O a) (hd : F.δ ≠ some a) (hH : H a = some (.lst us)) (hm : ¬ Mine σ s.e a) (hN : ¬ NestB σ s.e H a) (h0 : F.H0 a = none) : Est F σ (upd H a (.lst ws)) O s ∧ StS H O (upd H a (.lst ws)) O := by
  have st : StS H O (upd H a (.lst ws)) O := StS.upd I.wd ha
  refine ⟨⟨⟨fun b z => ?_, fun b z => ⟨(I.wd.cel b z).1, ?_⟩, fun p hp => (I.wd.tab p hp).upd hH⟩, ⟨I.env.len, fun j d q => ?_, fun j zs q => ?_, I.env.uniq⟩, ⟨fun b o n t q => ?_, fun b q => st.there b (I.base.there b q), I.base.fresh, I.base.stay⟩, I.nst.to (fun _ _ h => ⟨h, rfl⟩) (fun _ _ _ h => ⟨h, rfl⟩) (fun b us nb q => ⟨by rw [upd_ne (fun z => hN (by rw [← z]; exact nb))]; exact q, (I.nst.of nb).1⟩) (fun _ _ r => r.stS st I.wd) fun _ _ h => h⟩, st⟩
  · by_cases hb : b = a
    · subst hb; exact ⟨ws, upd_same⟩
    · rw [upd_ne hb]; exact I.wd.src b z
  · rw [upd_ne (fun q => hd (by rw [← q]; exact z))]
    exact (I.wd.cel b z).2
  · obtain ⟨v, r1, r2⟩ := I.env.vals j d q
    exact ⟨v, r1, r2.stS st I.wd⟩
  · obtain ⟨b, us, r1, r2, r3, r4, r5, r6⟩ := I.env.owns j zs q
    exact ⟨b, us, r1, r2, r3, by rw [upd_ne (fun z => hm ⟨j, zs, q, by rw [← z]; exact r1⟩)]; exact r4, r5.stS st I.wd, r6⟩
  · rw [upd_ne (fun z => by rw [z, h0] at q; cases q)]
    exact I.base.keep b o n t q
theorem gc_name (i : Nat) {x : Str} {pos : Pos} {vs : List Nat} (hnd : X.N.Nodup) (hm : i ∈ vs := by decide) (hi : X.N[i]? = some x := by rfl) (hx : Loc X.env.scope x := by first | exact Or.inl rfl | exact Or.inr rfl)
    (hf : X.fn x = true ∨ X.env.scope.names.lookup x = some .local := by first | exact .inl rfl | exact .inr rfl | assumption) : GC F X (.Name x pos) vs (gSet i) := by
  refine ⟨_, pg_name hnd hi hx hf, fun v d σ H O s s' Q I r e k => by cases e; exact k _ (I.setD i r) (wipe_set hm), fun d s s' e => ?_⟩
  cases e
  refine ⟨by simp, rfl, fun j hj => sl_ne (fun z => hj (z ▸ hm)), fun j xs q => ?_⟩
  have q : (s.e.set i (.val d))[j]? = some (.own xs) := q
  by_cases hji : j = i
  · subst hji; cases (sl_eq q).1
  · rw [sl_ne hji] at q; exact q
def GsC (F : Fx) (X : Cx) (ts : List Expr) (vs : List Nat) (g : List D → S → Option S) : Prop := ∃ t : TGs, PGs X ts t ∧
  (∀ us ds σ H O s s' Q, Est F σ H O s → RepDs F.m.K H O F.δ us ds → g ds s = some s' → (∀ σ', Est F σ' H O s' → L2.wipe σ' vs = L2.wipe σ vs → Q σ' H) → t us σ H Q) ∧
  ∀ ds s s', g ds s = some s' → ds.length = ts.length ∧ s'.e.length = s.e.length ∧ s'.c = s.c ∧ (∀ j, j ∉ vs → s'.e[j]? = s.e[j]?) ∧ ∀ (j : Nat) (xs : List D), s'.e[j]? = some (Sl.own xs) → s.e[j]? = some (Sl.own xs)
theorem gsc_nil {vs : List Nat} : GsC F X [] vs gsNil := by
  refine ⟨_, pgs_nil, fun us ds σ H O s s' Q I r e k => ?_, fun ds s s' e => ?_⟩
  · unfold gsNil at e
    split at e
    · cases r
      cases e
      exact ⟨rfl, k σ I rfl⟩
    · cases e
  · unfold gsNil at e
    split at e
    · cases e; exact ⟨rfl, rfl, rfl, fun _ _ => rfl, fun _ _ q => q⟩
    · cases e
theorem gsc_cons {e : Expr} {es : List Expr} {vs : List Nat} {g : D → S → Option S} {gs : List D → S → Option S} (h1 : GC F X e vs g) (h2 : GsC F X es vs gs)
    (hs : (assignEach (e :: es) X.env).map (·.2) = assign e X.env :: (assignEach es X.env).map (·.2) := by rfl) : GsC F X (e :: es) vs (gsCons g gs) := by
  obtain ⟨t1, p1, a1, b1⟩ := h1
  obtain ⟨t2, p2, a2, b2⟩ := h2
  refine ⟨_, pgs_cons p1 p2 hs, fun us ds σ H O s s' Q I r e k => ?_, fun ds s s' e => ?_⟩
  · unfold gsCons at e
    split at e
    · cases r with
      | cons r rs =>
        rename_i v us'
        rw [Option.bind_eq_some_iff] at e
        obtain ⟨s1', e1, e2⟩ := e
        exact ⟨v, us', rfl, a1 v _ σ H O s s1' _ I r e1 fun σ1 I1 w1 => a2 us' _ σ1 H O s1' s' Q I1 rs e2 fun σ2 I2 w2 => k σ2 I2 (w2.trans w1)⟩
    · cases e
  · unfold gsCons at e
    split at e
    · rw [Option.bind_eq_some_iff] at e
      obtain ⟨s1', e1, e2⟩ := e
      obtain ⟨c1, c2, c3, c4⟩ := b1 _ _ _ e1
      obtain ⟨d0, d1, d2, d3, d4⟩ := b2 _ _ _ e2
      exact ⟨by rw [List.length_cons, List.length_cons, d0], d1.trans c1, d2.trans c2, fun j hj => (d3 j hj).trans (c3 j hj), fun j xs q => c4 j xs (d4 j xs q)⟩
    · cases e
theorem gc_tup {es : List Expr} {kk : Nat} {pos : Pos} {vs : List Nat} {gs : List D → S → Option S} (hc : X.calm = true) (hK : F.m.K = X.K) (h : GsC F X es vs gs)
    (hn : (assignEach es X.env).length = es.length := by rfl) (hst : (assignEach es X.env).findIdx? (·.1) = none := by rfl) : GC F X (.Tuple es kk pos) vs (gTupD gs) := by
  obtain ⟨t, p, a1, b1⟩ := h
  refine ⟨_, pg_tup hc p hn hst, fun v d σ H O s s' Q I r e k => ?_, fun d s s' e => ?_⟩
  · unfold gTupD at e
    split at e
    · obtain ⟨a, us, rfl, ha, ra⟩ := r.tup_inv
      exact ⟨a, us, rfl, hK ▸ ha, by rw [ra.length, (b1 _ _ _ e).1], a1 us _ σ H O s s' Q I ra e k⟩
    · cases e
  · unfold gTupD at e
    split at e
    · exact (b1 _ _ _ e).2
    · cases e

def compL (g : D → S → Option S) (tt te : DE) (vs : List Nat) : List D → List D → S → RA
  | [], acc, s => .ok acc s
  | d :: ds, acc, s => match g d { s with e := wipeE s.e vs } with
    | none => .stuck
    | some s1 => match tt s1 with
      | .ok (.val (.bool true)) s2 => match te s2 with
        | .ok y s3 => compL g tt te vs ds (acc ++ [y.d]) { s3 with e := mg vs s.e s3.e }
        | _ => .stuck
      | .ok (.val (.bool false)) s2 => compL g tt te vs ds acc { s2 with e := mg vs s.e s2.e }
      | _ => .stuck
def eComp (vs : List Nat) (f : DA) (g : D → S → Option S) (tt te : DE) : DE := fun s => match f s with
  | .ok ds s1 => if ds.length < sizeLine then (match compL g tt te vs ds [] s1 with
    | .ok acc s2 => .ok (.own acc) s2
    | _ => .stuck) else .stuck
  | .er e c => .er e c
  | .stuck => .stuck
/-- a comprehension's tests -/
def TsO (F : Fx) (X : Cx) (ifs : List Expr) (f : DE) : Prop := ∃ t, PTs X ifs t ∧ ST F t f
def tTrue : DE := fun s => .ok (.val (.bool true)) s
theorem ts_nil : TsO F X [] tTrue := ⟨_, pts_nil, fun σ H O s Q I k => k H O .refl I⟩
theorem ts_one {e : Expr} {fe : DE} (h : TO F X e fe) : TsO F X [e] fe := let ⟨_, p, s⟩ := h; ⟨_, pts_one p, s⟩
theorem comp_sound {wi : TI} {gt : TG} {tt : TT} {te : TE} {vs : List Nat} {f : DA} {g : D → S → Option S} {ft fe : DE} (si : ∀ σ H O s R, Est F σ H O s → KI F σ H O s R (f s) → wi σ H R)
    (sg : ∀ v d σ H O s s' Q, Est F.no σ H O s → RepD F.m.K H O F.δ v d → g d s = some s' → (∀ σ', Est F.no σ' H O s' → L2.wipe σ' vs = L2.wipe σ vs → Q σ' H) → gt v σ H Q)
    (pg : ∀ d s s', g d s = some s' → s'.e.length = s.e.length ∧ s'.c = s.c ∧ (∀ j, j ∉ vs → s'.e[j]? = s.e[j]?) ∧ ∀ (j : Nat) (xs : List D), s'.e[j]? = some (Sl.own xs) → s.e[j]? = some (Sl.own xs))
    (st : ST F.no tt ft) (se : SE F.no te fe) : SE F (tLc wi gt tt te vs) (eComp vs f g ft fe) := by
  intro σ H O s Q I k
  refine si σ H O s _ I ?_
  unfold eComp at k
  cases q : f s with
  | stuck => rw [q] at k; exact k
  | er e c => rw [q] at k; exact k
  | ok ds s1 =>
    simp only [q] at k
    intro J P H1 O1 st1 I1 W w1 D hD
    split at k
    · rename_i hsz
      cases qc : compL g ft fe vs ds [] s1 with
      | stuck => simp only [qc] at k; exact k.elim
      | er e c => simp only [qc] at k; exact k.elim
      | ok acc0 s9 =>
        simp only [qc] at k
        have hHD : H D = none := by
          cases qq : H D with
          | none => rfl
          | some o => exact absurd hD (st1.there D (by rw [qq]; simp))
        have hδ : F.δ ≠ some D := fun z => by rw [(I1.wd.cel D z).2] at hD; cases hD
        refine ⟨fun i m H => m = ds.length - i ∧ i ≤ ds.length ∧ ∃ O s acc us, Est F σ H O s ∧ StE F.δ σ H1 O1 s1.e H O s.e ∧ P H O ∧ H D = some (.lst us) ∧ O D ∧ RepDs F.m.K H O F.δ us acc ∧ acc.length ≤ i ∧ compL g ft fe vs (ds.drop i) acc s = .ok acc0 s9,
          ⟨ds.length, by simp, Nat.zero_le _, OAdd O1 D, s1, [], [], I1.new hD, (StF.new hD).toE, W.keep H1 O1 s1.c _ _ I1.wd w1 ((StF.new hD).stS I1.wd), upd_same, .inr rfl, .nil, Nat.le_refl _, by simpa using qc⟩, ?_⟩
        rintro i m H2 ⟨rfl, hi, O2, s2, acc, us, I2, st2, p2, hD2, oD, ra, hla, qc2⟩
        by_cases hlt : i < ds.length
        · refine .inr ⟨W.go i H2 O2 s2.c hlt I2.wd p2, fun H => ∃ O s acc us, Est F σ H O s ∧ StE F.δ σ H1 O1 s1.e H O s.e ∧ P H O ∧ H D = some (.lst us) ∧ O D ∧ RepDs F.m.K H O F.δ us acc ∧ acc.length ≤ i + 1 ∧ compL g ft fe vs (ds.drop (i + 1)) acc s = .ok acc0 s9,
            fun H' h => ⟨ds.length - (i + 1), by omega, rfl, hlt, h⟩, fun x H3 y => ?_⟩
          obtain ⟨ex, rx⟩ := W.yld i H2 O2 s2.c x H3 ds[i] I2.wd p2 y (List.getElem?_eq_getElem hlt)
          rw [List.drop_eq_getElem_cons hlt] at qc2
          have I3 := I2.ext ex
          have st3 := st2.trans (ex.stF (δ := F.δ) (O := O2)).toE
          have p3 := W.keep H2 O2 s2.c H3 O2 I2.wd p2 (ex.stF.stS I2.wd)
          have ra3 := ra.step (ex.stF (δ := F.δ) (O := O2)).stp I2.wd
          unfold compL at qc2
          cases qg : g ds[i] { s2 with e := wipeE s2.e vs } with
          | none => rw [qg] at qc2; cases qc2
          | some s4 =>
            simp only [qg] at qc2
            obtain ⟨c1, c2, c3, c4⟩ := pg _ _ _ qg
            refine sg x ds[i] (L2.wipe σ vs) H3 O2 { s2 with e := wipeE s2.e vs } s4 _ (I3.wipe vs).no rx qg fun σ4 I4 hw4 => ?_
            have hw : L2.wipe σ4 vs = L2.wipe σ vs := hw4.trans wipe_idem
            have hl4 : s4.e.length = s2.e.length := by rw [c1, wipeE_len]
            have ho4 : ∀ j, j ∉ vs → s4.e[j]? = s2.e[j]? := fun j hj => by rw [c3 j hj]; exact wipeE_out hj
            have hi4 : ∀ j xs, j ∈ vs → s4.e[j]? ≠ some (.own xs) := fun j xs hj h => by cases wipeE_in hj (c4 j xs h)
            -- an object that stays through the block
            have dn : ∀ {σ' : St} {H' : Hp} {O' : Addr → Prop} {e' : List Sl}, StE F.δ σ4 H3 O2 s4.e H' O' e' → H' D = some (.lst us) ∧ O' D := fun {σ' H' O' e'} st => by
              refine ⟨st.keep D _ hδ nt_lst (ex _ _ hD2), st.stay D oD fun ⟨j, xs, g1, g2⟩ => ?_⟩
              have hj : j ∉ vs := fun hj => hi4 j xs hj g1
              rw [ho4 j hj] at g1
              rw [wipe_eq_out hw hj] at g2
              exact I1.env.mine (st2.mine D ⟨j, xs, g1, g2⟩) hD
            refine ⟨hw, st σ4 H3 O2 s4 _ I4 ?_⟩
            cases qt : ft s4 with
            | stuck => rw [qt] at qc2; cases qc2
            | er e c => rw [qt] at qc2; cases qc2
            | ok x5 s5 =>
              simp only [qt] at qc2
              split at qc2
              · rename_i s5' e5
                cases e5
                intro H5 O5 st5 I5
                rw [if_pos rfl]
                refine se.use I5 ?_
                cases qe : fe s5 with
                | stuck => rw [qe] at qc2; cases qc2
                | er e c => rw [qe] at qc2; cases qc2
                | ok y6 s6 =>
                  simp only [qe] at qc2
                  intro v6 H6 O6 st6 I6 r6
                  have st46 := st5.trans st6
                  obtain ⟨hD6, oD6⟩ := dn (σ' := σ4) st46
                  obtain ⟨J1, J2⟩ := I3.back hw hl4 ho4 hi4 st46 I6.yes
                  have hmD : ¬ Mine σ (mg vs s2.e s6.e) D := fun z => I1.env.mine (st3.mine D (J2.mine D z)) hD
                  obtain ⟨M1, M2⟩ := J1.mutO (us := us) (ws := us ++ [v6]) oD6 hδ hD6 hmD (I1.nestN (st3.trans J2) hD) (h0_none I hHD)
                  have st36 := st3.trans J2
                  have p6 := W.keep H3 O2 s2.c H6 O6 I3.wd p3 (st46.stS I3.wd)
                  refine ⟨us, hD6, by rw [ra.length]; omega, O6, _, acc ++ [y6.d], us ++ [v6], M1, ⟨fun a o n t h => ?_, fun a h => M2.there a (st36.there a h), st36.fresh, st36.stay, st36.mine, st36.nst, st36.ali⟩, W.keep H6 O6 s6.c _ _ I6.wd p6 M2, upd_same, oD6, ?_, by rw [List.length_append]; simp; omega, qc2⟩
                  · rw [upd_ne (fun z => by rw [z, hD] at h; cases h)]
                    exact st36.keep a o n t h
                  · exact (RepDs.append (ra3.step st46.stp I3.wd) (.cons r6 .nil)).stS M2 I6.wd
              · rename_i s5' e5
                cases e5
                intro H5 O5 st5 I5
                rw [if_neg Bool.false_ne_true]
                obtain ⟨hD5, oD5⟩ := dn (σ' := σ4) st5
                obtain ⟨J1, J2⟩ := I3.back hw hl4 ho4 hi4 st5 I5.yes
                exact ⟨O5, _, acc, us, J1, st3.trans J2, W.keep H3 O2 s2.c H5 O5 I3.wd p3 (st5.stS I3.wd), hD5, oD5, ra3.step st5.stp I3.wd, by omega, qc2⟩
              · cases qc2
        · have e : i = ds.length := by omega
          subst e
          rw [List.drop_length] at qc2
          cases qc2
          exact .inl ⟨W.stop H2 O2 _ I2.wd p2, k (.ref D) H2 O2 (st1.trans st2) I2 ⟨D, us, rfl, oD, hδ, hD2, ra, hHD⟩⟩
    · exact k.elim
/-! ### the weakest readings -/
def canE (F : Fx) (f : DE) : TE := fun σ H Q => ∃ O s, Est F σ H O s ∧ KE F σ H O s Q (f s)
theorem canE_s : SE F (canE F f) f := fun σ H O s Q I k => ⟨O, s, I, k⟩
theorem EO.can {e : Expr} (h : EO F X e f) : PE X e (canE F f) := by
  obtain ⟨t, p, se⟩ := h
  exact ⟨fun pins s σ H Q I ⟨O, s0, I0, k⟩ => p.run pins s σ H Q I (se σ H O s0 Q I0 k)⟩
def canT (F : Fx) (f : DE) : TT := fun σ H Q => ∃ O s, Est F σ H O s ∧ KT F σ H O s Q (f s)
theorem canT_s : ST F (canT F f) f := fun σ H O s Q I k => ⟨O, s, I, k⟩
theorem TsO.can {es : List Expr} (h : TsO F X es f) : PTs X es (canT F f) := by
  obtain ⟨t, p, se⟩ := h
  exact ⟨fun pins s σ H Q I ⟨O, s0, I0, k⟩ => p.run pins s σ H Q I (se σ H O s0 Q I0 k)⟩
def canG (F : Fx) (vs : List Nat) (g : D → S → Option S) : TG := fun v σ H Q => ∃ O s s' d, Est F σ H O s ∧ RepD F.m.K H O F.δ v d ∧ g d s = some s' ∧ ∀ σ', Est F σ' H O s' → L2.wipe σ' vs = L2.wipe σ vs → Q σ' H
theorem GC.can {tg : Expr} {g : D → S → Option S} (h : GC F X tg vs g) : PG X tg (canG F vs g) := by
  obtain ⟨t, p, sg, _⟩ := h
  exact ⟨fun pins s σ H v u Q I r ⟨O, s0, s1, d, I0, rd, e, k⟩ => p.run pins s σ H v u Q I r (sg v d σ H O s0 s1 Q I0 rd e k)⟩
theorem GC.law {tg : Expr} {g : D → S → Option S} (h : GC F X tg vs g) : ∀ d s s', g d s = some s' → s'.e.length = s.e.length ∧ s'.c = s.c ∧ (∀ j, j ∉ vs → s'.e[j]? = s.e[j]?) ∧ ∀ (j : Nat) (xs : List D), s'.e[j]? = some (Sl.own xs) → s.e[j]? = some (Sl.own xs) := h.choose_spec.2.2
section
variable {elt tg iter : Expr} {ifs : List Expr} {scope : Scope} {own : List (Str × Nat)} {pos : Pos} {fi : DA} {gt : D → S → Option S} {ft fe : DE}
theorem e_comp (hc : X.calm = true) (hnd : X.N.Nodup) (hi : IO F X tg iter fi) (ok : BlkOk X.N X.env.scope scope own)
    (hg : ∀ (s : Shared) (H : Hp) (C : Addr) (cl : List (Str × Addr)) (fp : List Addr), GC F.no (X.blk s H scope (compEnvC scope cl C X.env) fp) tg (own.map (·.2)) gt)
    (hl : ∀ d s s', gt d s = some s' → s'.e.length = s.e.length ∧ s'.c = s.c ∧ (∀ j, j ∉ own.map (·.2) → s'.e[j]? = s.e[j]?) ∧ ∀ (j : Nat) (xs : List D), s'.e[j]? = some (Sl.own xs) → s.e[j]? = some (Sl.own xs))
    (ht : ∀ (s : Shared) (H : Hp) (C : Addr) (cl : List (Str × Addr)) (fp : List Addr), TsO F.no (X.blk s H scope (compEnvC scope cl C X.env) fp) ifs ft)
    (he : ∀ (s : Shared) (H : Hp) (C : Addr) (cl : List (Str × Addr)) (fp : List Addr), EO F.no (X.blk s H scope (compEnvC scope cl C X.env) fp) elt fe)
    (hs : ∀ x, foldedSetIterable iter X.env x = pure x := by intro _; rfl) : EO F X (.ListComp elt [⟨tg, iter, ifs, 0⟩] scope pos) (eComp (own.map (·.2)) fi gt ft fe) := by
  obtain ⟨wi, pi, si⟩ := hi
  exact ⟨_, pe_lc hc hnd pi ok (fun s H C cl fp => (hg s H C cl fp).can) (fun s H C cl fp => (ht s H C cl fp).can) (fun s H C cl fp => (he s H C cl fp).can) hs,
    comp_sound si (fun v d σ H O s s' Q I r e k => ⟨O, s, s', d, I, r, e, k⟩) hl canT_s canE_s⟩
/-- name = [..] on one line, the name a local one -/
theorem s_setLc (i : Nat) {y : Str} {py spos : Pos} (hc : X.calm = true) (hnd : X.N.Nodup) (hi : IO F X tg iter fi) (ok : BlkOk X.N X.env.scope scope own)
    (hg : ∀ (s : Shared) (H : Hp) (C : Addr) (cl : List (Str × Addr)) (fp : List Addr), GC F.no (X.blk s H scope (compEnvC scope cl C X.env) fp) tg (own.map (·.2)) gt)
    (hl : ∀ d s s', gt d s = some s' → s'.e.length = s.e.length ∧ s'.c = s.c ∧ (∀ j, j ∉ own.map (·.2) → s'.e[j]? = s.e[j]?) ∧ ∀ (j : Nat) (xs : List D), s'.e[j]? = some (Sl.own xs) → s.e[j]? = some (Sl.own xs))
    (ht : ∀ (s : Shared) (H : Hp) (C : Addr) (cl : List (Str × Addr)) (fp : List Addr), TsO F.no (X.blk s H scope (compEnvC scope cl C X.env) fp) ifs ft)
    (he : ∀ (s : Shared) (H : Hp) (C : Addr) (cl : List (Str × Addr)) (fp : List Addr), EO F.no (X.blk s H scope (compEnvC scope cl C X.env) fp) elt fe)
    (hsw : swapsWith (.ListComp elt [⟨tg, iter, ifs, 0⟩] scope pos) (some (.Name y py)) spos.line X.env = pure true) (hy : X.N[i]? = some y := by rfl) (hyl : X.env.scope.names.lookup y = some .local := by rfl)
    (hs : ∀ x, foldedSetIterable iter X.env x = pure x := by intro _; rfl) : SO F X (.Assign [.Name y py] (.ListComp elt [⟨tg, iter, ifs, 0⟩] scope pos) spos) (dSet i (eComp (own.map (·.2)) fi gt ft fe)) := by
  obtain ⟨wi, pi, si⟩ := hi
  have S := comp_sound (F := F) (wi := wi) (f := fi) (g := gt) (gt := canG F.no (own.map (·.2)) gt) (vs := own.map (·.2)) (tt := canT F.no ft) (te := canE F.no fe) si (fun v d σ H O s s' Q I r e k => ⟨O, s, s', d, I, r, e, k⟩) hl canT_s canE_s
  refine ⟨_, ps_setLc hc hnd hy hyl hsw pi ok (fun s H C cl fp => (hg s H C cl fp).can) (fun s H C cl fp => (ht s H C cl fp).can) (fun s H C cl fp => (he s H C cl fp).can) hs, fun Q σ H O s I k => ?_⟩
  exact S.stX I k fun y s1 v H1 O1 st I1 r k => k _ H1 O1 .refl (I.setX st I1 i r)
end
end
end DL

set_option Elab.async false
set_option linter.all false
set_option maxRecDepth 100000
set_option maxHeartbeats 4000000
/-! DLk: an own exception over ValueError: super().__init__(text); self.name = name. -/
namespace DL
open PySem PySem.Spec L2
open PyProof.Rows hiding St
open PySem.Calls

/-- the text of such an __init__ -/
def badArgs (q1 q2 : Pos) : Arguments := { posonlyargs := [], args := [{ arg := "self", annotation := none, pos := q1 }, { arg := "name", annotation := none, pos := q2 }], vararg := none, kwonlyargs := [], kw_defaults := [], kwarg := none, defaults := [] }
def badBody (w : Str) (p0 p1 p2 p3 p4 p5 p6 p7 p8 p9 p10 p11 : Pos) : List Stmt :=
  [.Expr (.Call (.Attribute (.Call (.Name "super" p0) [] [] p1) "__init__" p2) [.BinOp (.Constant (.str w) 0 p3) .Add (.Name "name" p4) p5] [] p6) p7, .Assign [.Attribute (.Name "self" p8) "name" p9] (.Name "name" p10) p11]
def badScope : Scope := { kind := .function, names := [(Str.ofString "self", .local), (Str.ofString "name", .local), (Str.ofString "__class__", .free), (Str.ofString "super", .globalImplicit)], isGenerator := false, isCoroutine := false, more := [] }

/-- what the top has written of the class -/
structure BadC (K : PySem.W.Frag) (P : Program) (mg : Str → Option Value) (C fI : Addr) : Prop where
  ox : OexC K C
  fi : PySem.W.findIn K (.ref C) "__init__" = some (some (.ref fI))
  ti : PySem.W.typeIn K (.ref fI) = some (.type "function")
  fn : ∃ (w : Str) (q1 q2 p0 p1 p2 p3 p4 p5 p6 p7 p8 p9 p10 p11 : Pos) (oc kV doc pm ct : Value) (od an : Option Addr) (osl : Array (Option Value)) (cda cc : Addr) (qn : Str), w.length ≤ 1000 ∧ (p2.endLine == p6.line) = true ∧
    K.lookup fI = some ⟨oc, od, .func (PySem.W.ksFn "__init__" qn (badArgs q1 q2) (badBody w p0 p1 p2 p3 p4 p5 p6 p7 p8 p9 p10 p11) badScope .none kV doc pm an (.ref cda) ct cc), osl⟩ ∧ PySem.W.codeIn K (.ref cda) qn = true ∧
    (∃ (ccl : Value) (cdd : Option Addr) (vs : Array Value) (ccs : Array (Option Value)) (file : Str) (tf : Tok), K.lookup cda = some ⟨ccl, cdd, .fields vs, ccs⟩ ∧ vs[2]? = some (.str file tf) ∧ ((P.main.file : Str) == file) = true) ∧
    ∃ (cl : Value) (cld : Option Addr) (csl : Array (Option Value)), K.lookup cc = some ⟨cl, cld, .cell (some (.ref C)), csl⟩
  su : PySem.W.ks_superIn K C C "__init__" = some (some (.builtin "ValueError.__init__"))
  sub : PySem.W.mroIn K C (.ref C) = some true
  sV : PySem.W.subIn K (.ref C) (.type "ValueError") = some true
  op : PySem.W.nsIn K cStatics "thirdparty.any" = some none
  nm : PySem.W.findIn K (.ref C) "name" = some none
  ms : mg "super" = none
  top : (P.main.scope.names.lookup ("super" : Str)).isSome = false

theorem bs_super : badScope.names.lookup ("super" : Str) = some .globalImplicit := by decide +kernel
theorem bs_class : badScope.names.lookup ("__class__" : Str) = some .free := by decide +kernel
theorem bs_self : badScope.names.lookup ("self" : Str) = some .local := by decide +kernel
theorem bs_name : badScope.names.lookup ("name" : Str) = some .local := by decide +kernel
section
variable {prog : Program} {w : World} {M : Model} {A : Around} {E : Value → Shared → Prop} {h : Heap} {g : Array GenState} {d : Drawn} {t : Nat} {os : OsState}
variable {nm q : Str} {C N : Addr} {bs bm : List Value} {hdct : Bool} {sn : List Str} {sub : List Value} {ab : Bool} {col : Option Bool} {dd : Option Addr} {k0 k1 k2 k3 k5 : Option Value}
/-- the bound built-in, called -/
theorem bad_wrap {u e t0 : Addr} {rest : List Value} {Q : Value → Shared → Prop} (hC : h.get? C = some (excClassObj nm q C N bs bm hdct sn sub ab col dd k0 k1 k2 k3 k5 "ValueError.__new__"))
    (he : h.get? e = some (PySem.HandSPX.excO C t0)) (hu : h.get? u = some (PySem.W.kxs_mw "ValueError.__init__" e)) (hz : rest.length ≤ sizeLine)
    (hq : ∀ h' t1, (∀ b o, b ≠ e → h.get? b = some o → h'.get? b = some o) → h'.get? e = some (PySem.HandSPX.excO C t1) → Q .none ⟨h', g, d, t, os⟩) :
    wpAny (model prog w) A (call (.ref u) rest) Q E ⟨h, g, d, t, os⟩ := by
  refine wpAny_call (codeAny_of_tree ?_)
  show wpAny _ A.in1 (callAny (.ref u) ⟨rest, []⟩) _ _ _
  simp only [callAny]
  refine wpAny_bind (wpAny_load hu ?_)
  simp only [PySem.W.kxs_mw, show (Value.type "method-wrapper" == Value.type "method" || Value.type "method-wrapper" == Value.type "builtin_function_or_method" || Value.type "method-wrapper" == Value.type "method-wrapper") = true by decide, if_true]
  refine PySem.W.KFB.if_so (by decide) ?_
  refine wpAny_bind (PySem.W.check_bound_init PySem.F.excBase_ValueError.toExcCallFacts hC he rfl ?_)
  refine wpAny_bind (wpAny_pure (wpAny_pure ?_))
  refine ⟨plainId_quiet PySem.F.excBase_ValueError.init.plain _, codeAny_builtin PySem.F.excBase_ValueError.initEntry ?_⟩
  refine PySem.W.exc_init_tree (cls := .ref C) (t0 := t0) (dv := none) (c2 := .none) (c3 := .none) (b4 := .bool false) he hz fun h' k e' t' => ?_
  exact hq h' _ k e'
end
section
variable {prog : Program} {w : World} {A : Around} {R : Result → Shared → Prop} {hp : Heap} {g : Array GenState} {d : Drawn} {t : Nat} {os : OsState} {K : PySem.W.Frag} {mg mb : Str → Option Value} {C fI e t0 : Addr} {x : Str} {tk : Tok}
theorem bad_ns {h0 h1 : Heap} {L : Addr} {m : Str → Option Value} (n : h0.Ns L m) (k : ∀ b o, h0.get? b = some o → h1.get? b = some o) : h1.Ns L m := n.keeps k
/-- its __init__, called -/
theorem bad_init (T : BadC K prog mg C fI) (X : K.In hp) (hg : hp.Ns mainGlobals mg) (hb : hp.Ns builtinsNs mb) (hbm : mb "super" = some (.type "super")) (lim : hp.NoLimit) (hr : A.depth < recursionLimit)
    (he : hp.get? e = some (PySem.HandSPX.excO C t0)) (hKe : K.lookup e = none) (hx : x.length ≤ 1000000)
    (hq : ∀ h' tk' dx t1, (∀ b o, b ≠ e → hp.get? b = some o → h'.get? b = some o) → hp.objs.size ≤ dx → dx ≠ e → h'.get? e = some ({ cls := .ref C, dict := some dx, data := .fields #[.ref t1, .none, .none, .none, .bool false, .none] } : Obj) →
      h'.Ns1 dx (fun y => if y = "name" then some (.str x tk) else none) → R (.ok (.ret .none)) ⟨h', g, d, tk', os⟩) :
    codeAny (model prog w) A (.call (.ref fI) ⟨[.ref e, .str x tk], []⟩) R ⟨hp, g, d, t, os⟩ := by
  obtain ⟨wd, q1, q2, p0, p1, p2, p3, p4, p5, p6, p7, p8, p9, p10, p11, oc, kV, doc, pm, ct, od, an, osl, cda, cc, qn, hwd, hli, lf, hcd, ⟨ccl, cdd, vs, ccs, file, tf, lc, hvs, hfile⟩, cl, cld, csl, lcell⟩ := T.fn
  obtain ⟨nm, q, N, bs, bm, sn, sub, ab, col, dd, k0, k1, k2, k3, k5, hC, hbmm⟩ := T.ox.cls
  have hcl : PySem.W.clsIn K C = some { name := nm, bases := bs, mro := .ref C :: bm, ns := N, qualname := q, hasDict := true, slotNames := sn, subclasses := sub, abstract := ab, collection := col, hasDel := false } := by unfold PySem.W.clsIn; rw [hC] <;> rfl
  refine ks_codeAny_call_defAt (fd := PySem.W.ksFn "__init__" qn (badArgs q1 q2) (badBody wd p0 p1 p2 p3 p4 p5 p6 p7 p8 p9 p10 p11) badScope .none kV doc pm an (.ref cda) ct cc) (body := badBody wd p0 p1 p2 p3 p4 p5 p6 p7 p8 p9 p10 p11) (binds := [("self", .ref e), ("name", .str x tk)])
    hr (X _ _ lf) rfl lim (PySem.W.codeRec_of X hcd) rfl (.of_eq rfl) (show ∀ x ∈ badScope.names, x.2 ≠ .cell by decide +kernel) (fun y hy => by rcases List.mem_cons.mp hy with rfl | hy; exact (rfl : badScope.names.lookup ("self" : Str) = some .local); rcases List.mem_cons.mp hy with rfl | hy; exact (rfl : badScope.names.lookup ("name" : Str) = some .local); cases hy) (fun h0 hns k0' => ?_)
  have KX0 : K.In h0 := X.keeps k0'
  have e0 := k0' _ _ he
  have ne : ∀ {h : Heap}, K.In h → h.get? e = some (PySem.HandSPX.excO C t0) → e ≠ C := fun {h} Y he z => by
    have y := Y _ _ hC
    rw [z] at he
    rw [he] at y
    cases y
  have I0 : PySem.W.InstAt h0 e (PySem.HandSPX.excO C t0) C none := ⟨e0, rfl, rfl, trivial⟩
  refine ks_wpAt_execs_cons (ks_wpAt_Expr_any (ks_wpAt_MethodCall (pl := (do return (← importBound (.Call (.Name "super" p0) [] [] p1) (callEnv (PySem.W.ksFn "__init__" qn (badArgs q1 q2) (badBody wd p0 p1 p2 p3 p4 p5 p6 p7 p8 p9 p10 p11) badScope .none kV doc pm an (.ref cda) ct cc) hp.objs.size fI)).getD true)) ?_ (by
    show (do
      let ov ← attributeBase _ _ _ _
      standAt _
      methodCall _ _ p2 p6 _ ov _ _ _) = _
    unfold methodCall methodCallPos
    rw [hli]
    rfl)))
  refine ks_wpAt_super_base (f := fI) (cc := cda) (fd := PySem.W.ksFn "__init__" qn (badArgs q1 q2) (badBody wd p0 p1 p2 p3 p4 p5 p6 p7 p8 p9 p10 p11) badScope .none kV doc pm an (.ref cda) ct cc) (ar := { arg := "self", annotation := none, pos := q1 })
    bs_super bs_class (by decide +kernel) rfl (KX0 _ _ lf) rfl rfl rfl (KX0 _ _ lc) rfl hvs hfile T.top ?_
  refine PySem.W.ks_loadName_global rfl bs_super (Calls.loadGlobal_builtin (hg.keeps k0') T.ms (hb.keeps k0') hbm ⟨rfl, ?_⟩)
  refine wpAny_loadName_free (c := cc) rfl bs_class rfl ⟨_, KX0 _ _ lcell, rfl⟩ ?_
  refine wpAny_loadName_local rfl bs_self hns (v := .ref e) rfl ?_
  refine ks_wpAny_isType_cls (KX0 _ _ hC) rfl ⟨rfl, ?_⟩
  refine ks_wpAny_call_super (KX0 _ _ hC) rfl e0 rfl (fun c z => by cases z) (PySem.W.looks_mroIn KX0 T.sub) (fun h1 eso k1' => ?_)
  have KX1 : K.In h1 := KX0.keeps k1'
  have e1 := k1' _ _ e0
  have I1 : PySem.W.InstAt h1 e (PySem.HandSPX.excO C t0) C none := ⟨e1, rfl, rfl, trivial⟩
  have hsu := T.su
  unfold PySem.W.ks_superIn at hsu
  rw [hcl] at hsu
  refine PySem.W.kxs_getMethod (K := K) PySem.W.kxs_ValueError eso (PySem.W.looks_opaque KX1 T.op) (l₀ := .ref C :: bm) (fun A Q E s k q => wpAny_bind ((PySem.W.looks_clsIn KX1 hcl) A _ E s k (wpAny_pure q))) rfl KX1 hsu (I1.type.andThen (PySem.W.looks_subIn KX1 T.sV)) (ne KX1 e1) (by decide +kernel) ?_
  have k2 : ∀ b o, h1.get? b = some o → (h1.push (PySem.W.kxs_mw "ValueError.__init__" e)).get? b = some o := fun b o z => Heap.get?_push_of_some _ z
  have hu : (h1.push (PySem.W.kxs_mw "ValueError.__init__" e)).get? h1.objs.size = some (PySem.W.kxs_mw "ValueError.__init__" e) := Heap.get?_push_at rfl rfl
  have e2 := k2 _ _ e1
  have n2 : (h1.push (PySem.W.kxs_mw "ValueError.__init__" e)).Ns hp.objs.size (fun y => List.lookup y [("name", Value.str x tk), ("self", Value.ref e)]) := bad_ns (bad_ns hns k1') k2
  have KX2 := KX1.keeps k2
  refine PySem.W.kxs_callWith (i := "ValueError.__init__") (x := e) rfl ?_
  show wpAny _ _ (evalArgs _ true ((false, eval _ _) :: []) []) _ _ _
  refine evalArgs_plain (Calls.spliced_cons ?_)
  refine wpAny_BinOp ?_
  refine Calls.Constant_str ?_
  refine wpAny_Name ?_
  refine wpAny_loadName_local rfl bs_name n2 (v := .str x tk) rfl ?_
  refine PyProof.Rows.add_str (fun t' tk' => ?_) (by rw [sizeLine_eq]; omega)
  refine Calls.spliced_nil ⟨hu, ?_⟩
  refine bad_wrap (KX2 _ _ hC) e2 hu (by show 1 ≤ sizeLine; rw [sizeLine_eq]; omega) fun h3 t1 k3' e3 => ?_
  -- self.name = name
  have KX3 : K.In h3 := fun b o z => k3' b o (fun y => by rw [y, hKe] at z; cases z) (KX2 _ _ z)
  have hLe : hp.objs.size ≠ e := fun y => by
    have z := Heap.lt_size he
    rw [← y] at z
    exact absurd z (Nat.lt_irrefl _)
  have n3 : h3.Ns hp.objs.size (fun y => List.lookup y [("name", Value.str x tk), ("self", Value.ref e)]) := by
    obtain ⟨oL, es, ep, hL, r⟩ := n2
    exact ⟨oL, es, ep, k3' _ _ hLe hL, r⟩
  refine ks_wpAt_execs_cons (wpAt_of_wpAny (plainObj_wpAny_Assign_Attribute ?_))
  refine wpAny_Name (wpAny_loadName_local rfl bs_name n3 (v := .str x tk) rfl ?_)
  refine wpAny_Name (wpAny_loadName_local rfl bs_self n3 (v := .ref e) rfl ?_)
  refine PySem.W.set_plain KX3 (ox := PySem.HandSPX.excO C t1) (od := none) ⟨e3, rfl, rfl, trivial⟩ T.ox.sa ?_
  refine PySem.HandSPX.exc_osa KX3 e3 hcl (show PySem.HandSPX.refsVE (.ref C :: bm) = true from hbmm) rfl T.nm (fun h4 tk4 dx k4 dn dne e4 hn => ?_)
  refine wpAt_of_wpAny (wpAny_execs_nil ?_)
  have kk : ∀ b o, b ≠ e → hp.get? b = some o → h3.get? b = some o := fun b o n z => k3' b o n (k2 _ _ (k1' _ _ (k0' _ _ z)))
  refine hq h4 _ dx t1 (fun b o n z => k4 b o n (kk b o n z)) (Nat.le_trans ?_ dn) dne e4 hn
  exact Nat.le_of_not_lt fun z => absurd (Heap.lt_size (show h3.get? hp.objs.size = some _ from n3.choose_spec.choose_spec.choose_spec.1)) (Nat.not_lt.mpr (Nat.le_of_lt z))
end
/-- C(e), C such a class -/
def tBad (C : Addr) (ta : TA) : St → Hp → XK → Prop := fun σ H Q => ta σ H fun vs H1 => ∃ x : Str, vs = [.str x] ∧ x.length ≤ 1000000 ∧ ∀ dx, H1 dx = none → Q (.ref C) (some dx) (upd H1 dx (.xd [("name", .str x)]))
section
variable {X : Cx} {C fI : Addr} {nx : Str} {p pos : Pos} {e : Expr} {es : List Expr} {ta : TA} {k : Nat}
theorem pmk_bad (T : BadC X.K X.prog X.mg C fI) (hr : Room (k + 1) X.A) (hg : Gl X nx) (hm : X.mg nx = some (.ref C)) (ha : PA X (e :: es) ta)
    (hdb : (nx == ("__debug__" : Str)) = false := by decide) (he : starEach (e :: es) X.env = (false, eval e X.env) :: starEach es X.env := by rfl) (hpl : (backTo pos (starEach es X.env)).any (·.1) = false := by rfl) :
    PMk X (.Call (.Name nx p) (e :: es) [] pos) (tBad C ta) := by
  intro pins s σ H Q I h
  obtain ⟨nm, q, N, bs, bm, sn, sub, ab, col, dd, k0, k1, k2, k3, k5, hC, hbm⟩ := T.ox.cls
  refine wpAny_Call_Name_kw (ld_glob I hg hm ?_ hdb)
  refine PySem.W.callWith_K (h₀ := X.base) I.ok.mod.kin T.ox.kC (thn (ha.run pos pins s σ H _ I h) fun us s1 ⟨vs, H1, I1, r1, x, ev, hx, q1⟩ => ⟨I1.kIn, ?_⟩) he hpl
  subst ev
  show wpAny _ _ (call (.ref C) us) _ _ _
  cases r1 with
  | @cons _ u0 _ ur ra rn =>
    cases rn
    obtain ⟨tk0, eu⟩ := ra
    subst eu
    obtain ⟨hp, g, dr, tk, os⟩ := s1
    have hsz : hp.objs.size ≤ hp.objs.size + 1 := Nat.le_succ _
    have hn : H1 (hp.objs.size + 1) = none := I1.hok.fresh hsz
    have kk : ∀ b o, hp.get? b = some o → ((hp.push (PySem.W.kdv_tup [.str x tk0])).push (PySem.HandSPX.excO C hp.objs.size)).get? b = some o := fun b o z => Heap.get?_push_of_some _ (Heap.get?_push_of_some _ z)
    have hget : ((hp.push (PySem.W.kdv_tup [.str x tk0])).push (PySem.HandSPX.excO C hp.objs.size)).get? (hp.objs.size + 1) = some (PySem.HandSPX.excO C hp.objs.size) := by heap_get
    have I2 : Inv X pins σ (upd H1 (hp.objs.size + 1) (exo (hp.objs.size + 1) C none)) ⟨(hp.push (PySem.W.kdv_tup [.str x tk0])).push (PySem.HandSPX.excO C hp.objs.size), g, dr, tk, os⟩ :=
      I1.laid (t' := tk) (a := hp.objs.size + 1) (o := exo (hp.objs.size + 1) C none) kk hsz (exo_ok hget)
    obtain ⟨mb, hb1, hb2⟩ := I2.mod.blt
    have hKe : X.K.lookup (hp.objs.size + 1) = none := by
      cases z : X.K.lookup (hp.objs.size + 1) with
      | none => rfl
      | some o => exact absurd (Heap.lt_size (I1.kIn _ _ z)) (by show ¬ (hp.objs.size + 1 < hp.objs.size); omega)
    refine wpAny_call (PySem.HandSPX.call_own PySem.F.excBase_ValueError (fun Y => PySem.HandSPX.refsVE_contains Y bm hbm) (I1.kIn _ _ hC) (PySem.W.looks_findIn I1.kIn T.fi) (fun self => PySem.W.bind_fn I1.kIn self T.ti) (by show 1 ≤ sizeLine; rw [sizeLine_eq]; omega) ?_)
    refine bad_init T I2.kIn (I2.mod.glob.keeps I2.bk) (hb1.keeps I2.bk) ((hb2 _ (by decide +kernel)).trans PyProof.Rows.Boot.«super») (I2.mod.nolimit.keeps I2.bk) (hr.make C [.str x tk0] []).depth hget hKe hx fun h' tk' dx t1 k4 dn dne ho hn4 => ?_
    have hdx : hp.objs.size ≤ dx := Nat.le_trans (by show hp.objs.size ≤ (hp.objs.push _ |>.push _).size; simp; omega) dn
    have nd : H1 dx = none := I1.hok.fresh hdx
    have hna : ∀ {b : Addr} {o : Obj}, hp.get? b = some o → b ≠ hp.objs.size + 1 := fun {b o} z y => absurd (Heap.lt_size z) (by rw [y]; show ¬ (hp.objs.size + 1 < hp.objs.size); omega)
    have hE : ∀ o, (upd H1 (hp.objs.size + 1) (exo (hp.objs.size + 1) C none)) (hp.objs.size + 1) = some o → o = exo (hp.objs.size + 1) C none := fun o z => by
      rw [upd_same] at z
      exact (Option.some.inj z).symm
    have eA : (upd H1 (hp.objs.size + 1) (exo (hp.objs.size + 1) C none)) (hp.objs.size + 1) = some (exo (hp.objs.size + 1) C none) := upd_same
    have nA : ∀ {b : Addr}, (upd H1 (hp.objs.size + 1) (exo (hp.objs.size + 1) C none)) b = none → b ≠ hp.objs.size + 1 := fun {b} n z => by
      rw [z, eA] at n
      cases n
    have ndx : (upd H1 (hp.objs.size + 1) (exo (hp.objs.size + 1) C none)) dx = none := by rw [upd_ne dne]; exact nd
    have ndh : ∀ {b : Addr} {o : Obj}, ((hp.push (PySem.W.kdv_tup [.str x tk0])).push (PySem.HandSPX.excO C hp.objs.size)).get? b = some o → b ≠ dx := fun {b o} z => Nat.ne_of_lt (Nat.lt_of_lt_of_le (Heap.lt_size z) dn)
    have ry : RelV (V.str x) (Value.str x tk0) := ⟨tk0, rfl⟩
    have U : Un (frs X.stack) [] (upd H1 (hp.objs.size + 1) (exo (hp.objs.size + 1) C none)) (upd (upd (upd H1 (hp.objs.size + 1) (exo (hp.objs.size + 1) C none)) dx (exd dx [("name", .str x)])) (hp.objs.size + 1) (exo (hp.objs.size + 1) C (some dx)))
        ((hp.push (PySem.W.kdv_tup [.str x tk0])).push (PySem.HandSPX.excO C hp.objs.size)) h' := {
      keep := fun b o z n _ _ => k4 b o (nA n) z
      slot := fun b o z n _ _ => ⟨o.slots, k4 b o (nA n) z⟩
      free := fun b o z n _ => by rw [upd_ne (nA n), upd_ne (ndh z)]; exact n
      there := fun b o z _ => by
        by_cases hb : b = hp.objs.size + 1
        · exact ⟨_, by rw [hb]; exact ho⟩
        · exact ⟨o, k4 b o hb z⟩
      tups := fun b xs z => by rw [upd_ne (at_ne eA z exo_tup), upd_ne (ne_of_none z ndx)]; exact z
      frzs := fun b o v z => by rw [upd_ne (at_ne eA z exo_frz), upd_ne (ne_of_none z ndx)]; exact z
      tbls := fun b ps z => ⟨#[], by rw [upd_ne (at_ne eA z exo_tbl), upd_ne (ne_of_none z ndx), z]; simp⟩ }
    have hok : HOk X.prog X.w (upd (upd (upd H1 (hp.objs.size + 1) (exo (hp.objs.size + 1) C none)) dx (exd dx [("name", .str x)])) (hp.objs.size + 1) (exo (hp.objs.size + 1) C (some dx))) h' := fun b o z => by
      by_cases hb : b = hp.objs.size + 1
      · subst hb
        rw [upd_same] at z
        cases z
        exact exo_ok ho
      · rw [upd_ne hb] at z
        by_cases hd : b = dx
        · subst hd
          rw [upd_same] at z
          cases z
          exact exd_ok hn4 (relO_put (fs := []) ry fun g => True.intro)
        · rw [upd_ne hd] at z
          exact (I2.hok b o z).stay (fun c v hc y => k4 c v (by
              rcases hc with hc | hc
              · rw [hc]
                exact hb
              · exact at_ne eA hc exo_own) y)
            (fun c hc => by rw [upd_ne (at_ne eA hc exo_own), upd_ne (ne_of_none hc ndx)]; exact hc) (fun c xs hc => by rw [upd_ne (at_ne eA hc exo_tup), upd_ne (ne_of_none hc ndx)]; exact hc)
    refine ⟨rfl, mk_end (raises_own T.ox.exC T.ox.tyC) I1 hsz kk U hok rfl I1.bare upd_same (by rw [upd_ne dne, upd_same]) nd ?_⟩
    have ex : upd (del (upd (upd (upd H1 (hp.objs.size + 1) (exo (hp.objs.size + 1) C none)) dx (exd dx [("name", .str x)])) (hp.objs.size + 1) (exo (hp.objs.size + 1) C (some dx))) (hp.objs.size + 1)) dx (.xd [("name", .str x)]) = upd H1 dx (.xd [("name", .str x)]) := by
      funext b
      by_cases hd : b = dx
      · rw [hd, upd_same, upd_same]
      · rw [upd_ne hd, upd_ne hd]
        by_cases hb : b = hp.objs.size + 1
        · rw [hb, del_same, hn]
        · rw [del_ne hb, upd_ne hb, upd_ne hd, upd_ne hb]
    rw [ex]
    exact q1 dx nd
end
end DL

set_option Elab.async false
set_option linter.all false
set_option maxRecDepth 100000
set_option maxHeartbeats 4000000
/-! DLl: raise, defs, calls with keywords. -/
namespace DL
open PySem PySem.Spec L2
open PyProof.Rows hiding St

section
variable {F : Fx} {X : Cx} {H H' H1 H2 : Hp} {O O' O1 O2 : Addr → Prop} {σ : St} {s s1 s2 : S} {Q : VK} {Qe : Ends}

/-! ### raise C(e) -/
def dRaise (k : Nat) (a : DA) : DS := fun s => match a s with
  | .ok [.str y] s1 => if y.length ≤ 1000000 then .er ⟨k, [("name", .str y)]⟩ s1.c else .stuck
  | .ok _ _ => .stuck
  | .er e c => .er e c
  | .stuck => .stuck
section
variable {C fI : Addr} {nx : Str} {p pos rpos : Pos} {e : Expr} {fa : DA} {k j : Nat}
theorem s_raise (hc : X.calm = true) (tk : Takes X fun cls d _ H => F.E cls d H) (T : BadC X.K X.prog X.mg C fI) (hcl : F.m.cl j = some C) (hr : Room (k + 1) X.A) (hg : Gl X nx) (hm : X.mg nx = some (.ref C)) (ha : AO F X [e] fa)
    (hdb : (nx == ("__debug__" : Str)) = false := by decide) (he : starEach [e] X.env = (false, eval e X.env) :: starEach [] X.env := by rfl) :
    SO F X (.Raise (some (.Call (.Name nx p) [e] [] pos)) none rpos) (dRaise j fa) := by
  obtain ⟨ta, pa, sa, _⟩ := ha
  refine ⟨_, ps_raise hc tk (pmk_bad T hr hg hm pa hdb he rfl), fun Q σ H O s I h => ?_⟩
  refine sa σ H O s _ I ?_
  unfold dRaise at h
  cases q : fa s with
  | stuck => rw [q] at h; exact h
  | er e c => rw [q] at h; exact h
  | ok ds s1 =>
    rw [q] at h
    intro vs H1 O1 st I1 r
    cases r with
    | nil => exact h.elim
    | cons r1 r2 =>
      cases r2 with
      | cons _ _ => cases r1 <;> exact h.elim
      | nil =>
        cases r1 with
        | str y =>
          by_cases hy : y.length ≤ 1000000
          · simp only [if_pos hy] at h
            refine ⟨y, rfl, hy, fun dx hdx => ?_⟩
            have e1 : Ext H1 (upd H1 dx (.xd [("name", .str y)])) := Ext.upd hdx
            exact h _ _ _ O1 (I1.ext e1).base (I1.ext e1).wd ⟨C, dx, hcl, rfl, rfl, upd_same⟩
          · simp only [if_neg hy] at h
            exact h.elim
        | _ => exact h.elim
end

/-! ### defs -/
def startS (n : Nat) (ds : List D) (c : List Int) : S := ⟨ds.map .val ++ List.replicate (n - ds.length) .un, c⟩
def RS.fin : RS → RF
  | .nx s => .ok (.val .none) s.c
  | .rt x c => .ok x c
  | .er e c => .er e c
  | _ => .stuck
def fnD (n : Nat) (g : DS) : Fn := fun ds c => (g (startS n ds c)).fin
def fxOf (m : Pm) (δ : Option Addr) (H : Hp) (O : Addr → Prop) (E : XK) (h : ∀ a, O a → H a ≠ none) : Fx := ⟨m, δ, H, O, E, h⟩

theorem vals_un : ∀ {vs : List V} {ds : List D} {K : PySem.W.Frag} {δ : Option Addr} (n : Nat), RepDs K H O δ vs ds → ∀ (i : Nat) (d : D), (ds.map Sl.val ++ List.replicate n Sl.un)[i]? = some (.val d) → ∃ v, (vs.map some ++ List.replicate n none)[i]? = some (some v) ∧ RepD K H O δ v d
  | _, _, _, _, n, .nil, i, d, h => by
    cases (List.mem_replicate.mp (List.mem_of_getElem? (show (List.replicate n Sl.un)[i]? = some (Sl.val d) from h))).2
  | _, _, _, _, n, .cons h r, 0, d, e => by
    simp at e
    subst e
    exact ⟨_, by simp, h⟩
  | _, _, _, _, n, .cons h r, i + 1, d, e => by
    obtain ⟨v, h1, h2⟩ := vals_un n r i d (by simpa using e)
    exact ⟨v, by simpa using h1, h2⟩
theorem own_un {ds : List D} {n i : Nat} {xs : List D} (h : (ds.map Sl.val ++ List.replicate n Sl.un)[i]? = some (.own xs)) : False := by
  rcases List.mem_append.mp (List.mem_of_getElem? h) with z | z
  · obtain ⟨_, _, z⟩ := List.mem_map.mp z
    cases z
  · cases (List.mem_replicate.mp z).2
theorem plain_un {ds : List D} {n i : Nat} {x : Sl} (h : (ds.map Sl.val ++ List.replicate n Sl.un)[i]? = some x) : plainS x ∨ x = .un := by
  rcases List.mem_append.mp (List.mem_of_getElem? h) with z | z
  · obtain ⟨_, _, z⟩ := List.mem_map.mp z
    subst z
    exact .inl trivial
  · exact .inr (List.mem_replicate.mp z).2
theorem est_start {m : Pm} {δ : Option Addr} {H : Hp} {O : Addr → Prop} {E : XK} {c : List Int} {vs : List V} {ds : List D} {N : List Str} (w : Wd m δ H O c) (r : RepDs m.K H O δ vs ds) (hs : ∀ a, O a → H a ≠ none) :
    Est (fxOf m δ H O E hs) (L2.start N vs) H O (startS N.length ds c) := by
  refine ⟨w, ⟨?_, fun i d h => ?_, fun i xs h => (own_un h).elim, fun i j a xs ys _ h => (own_un h).elim⟩, .refl, ⟨fun i xss h => (plain_un h).elim False.elim (fun z => by cases z), fun i j xss yss h => (plain_un h).elim False.elim (fun z => by cases z), fun j i k xss a qs h => (plain_un h).elim False.elim (fun z => by cases z)⟩⟩
  · show (L2.start N vs).length = _
    unfold L2.start startS
    simp [r.length]
  · have q := vals_un (N.length - ds.length) r i d h
    unfold L2.start
    rw [r.length]
    exact q
section
variable {P : Program} {w : World} {K : PySem.W.Frag} {mg : Str → Option Value} {base : Heap} {m : Pm} {x qual : Str} {st : Stmt} {f : Addr} {fd : FuncData} {N ps : List Str} {k n l : Nat} {g : DS}
/-- THE RULE for a def -/
theorem okD (Fu : Fun K x qual st f fd) (Sc : FnScope N ps (defScope st)) (hK : m.K = K) (hn : ps.length = n) (hl : N.length = l)
    (hb : ∀ (cdv : Value) (A : Around) (outer : List Env) (s : Shared) (H : Hp) (E : XK) (F : Fx), F.m = m → F.E = E → Room k (A.deeper (envOfC qual (defScope st) s.heap.objs.size f cdv)) →
      BO F (cxOf (L2.CX P w) P w K mg base N qual (defScope st) f cdv A outer s H E) (defBody st) g) : FnOk P w K mg base (L2.CX P w) (k + 1) f fd ps (spD m n (fnD l g)) := by
  subst hn
  subst hl
  refine Fu.okX Sc (fun vs H Q E h => spD_len h) fun cdv A outer s H vs Q E hr h => ?_
  obtain ⟨δ, O, c, ds, hlen, wd, r, h⟩ := h
  have hs : ∀ a, O a → H a ≠ none := fun a z => by
    obtain ⟨xs, q⟩ := wd.src a z
    rw [q]
    simp
  obtain ⟨t, pt, sg⟩ := hb cdv A outer s H E (fxOf m δ H O E hs) rfl rfl hr
  refine ⟨t, pt, sg _ _ H O (startS N.length ds c) (est_start wd r hs) ?_⟩
  unfold fnD at h
  cases q : g (startS N.length ds c) with
  | nx s' =>
    rw [q] at h
    exact fun σ' H' O' _ I => h .non H' O' I.base I.wd .non
  | rt x c' =>
    rw [q] at h
    exact fun v H' O' st w' sx => h v H' O' st w' sx
  | er e c' =>
    rw [q] at h
    exact fun cls dd H' O' st w' er => h cls dd H' O' st w' er
  | bk s' => rw [q] at h; exact h.elim
  | ct s' => rw [q] at h; exact h.elim
  | stuck => rw [q] at h; exact h.elim
end

/-! ### calls with keywords -/
def gJ {α : Type} (n j : Nat) (us ws : List α) : List α := if us.length = j ∧ ws.length = n - j then us ++ ws else []
theorem kb_of {K : PySem.W.Frag} {fd : FuncData} {ps ks : List Str} {n j : Nat} (hn : ps.length = n + 1) (h : ∀ us ws : List Value, us.length = j → ws.length = n + 1 - j → bindArgs fd ⟨us, ks.zip ws⟩ = pure (ps.zip (us ++ ws))) : KBinds K fd ps ks (gJ (n + 1) j) (gJ (n + 1) j) where
  to := fun s us ws _ hl => by
    unfold gJ at hl ⊢
    by_cases hc : us.length = j ∧ ws.length = n + 1 - j
    · rw [if_pos hc]
      exact .of_eq (h us ws hc.1 hc.2)
    · rw [if_neg hc, hn] at hl
      cases hl
  rel := fun {vs us zs ws} r rz => by
    unfold gJ
    rw [r.length, rz.length]
    split
    · exact r.append rz
    · exact .nil
/-- keyword values -/
def PO (F : Fx) (X : Cx) (ks : List Keyword) (f : DA) : Prop := ∃ t, PK X ks t ∧ SA F t f ∧ ∀ s ds s', f s = .ok ds s' → ds.length = ks.length
theorem k_nil : PO F X [] aNil := ⟨_, pk_nil, fun σ H O s Q I k => k [] H O .refl I .nil, fun s ds s' h => by cases h; rfl⟩
theorem k_cons {nm : Option Str} {e : Expr} {kp : Pos} {es : List Keyword} {fe : DE} {fa : DA} (he : EO F X e fe) (ha : PO F X es fa) : PO F X (⟨nm, e, kp⟩ :: es) (aCons fe fa) := by
  obtain ⟨te, pe, se⟩ := he
  obtain ⟨ta, pa, sa, la⟩ := ha
  refine ⟨_, pk_cons pe pa, s_cons se sa, fun s ds s' h => ?_⟩
  unfold aCons at h
  cases qe : fe s with
  | stuck => rw [qe] at h; cases h
  | er e c => rw [qe] at h; cases h
  | ok x s1 =>
    simp only [qe] at h
    cases qa : fa s1 with
    | stuck => simp only [qa] at h; cases h
    | er e c => simp only [qa] at h; cases h
    | ok xs s2 =>
      simp only [qa] at h
      cases h
      rw [List.length_cons, List.length_cons, la s1 xs _ qa]
def eCallK (G : Fn) (as ks : DA) : DE := fun s => (as s).bind fun ds s1 => (ks s1).bind fun es s2 => callR G (ds ++ es) s2
/-- f(k = e, ..) alone, and f(e, .., k = v, ..) -/
theorem pe_callK0 {CX : CXT} {k : Nat} {f : Addr} {fd : FuncData} {ps ks : List Str} {sp : Sp} {E : XK} {x : Str} {p pos : Pos} {kws : List Keyword} {tk : TA} {g : List Value → List Value → List Value} {gV : List V → List V → List V}
    (Fn : FnOk X.prog X.w X.K X.mg X.base CX k f fd ps sp) (hr : Room k X.A) (hg : Gl X x) (hm : X.mg x = some (.ref f)) (hk : PySem.W.keepIn X.K (.ref f) = true) (hb : KBinds X.K fd ps ks g gV) (hx : Passes CX X E)
    (hkw : PK X kws tk) (hall : (backToKw pos (keywordEach kws X.env)).all (·.1.isSome) = true := by rfl) (hks : (backToKw pos (keywordEach kws X.env)).filterMap (·.1) = ks := by rfl)
    (hdb : (x == ("__debug__" : Str)) = false := by decide)
    (hpl : ((backTo pos (starEach [] X.env)).any (·.1) || (backToKw pos (keywordEach kws X.env)).any (·.1.isNone)) = false := by rfl) :
    PE X (.Call (.Name x p) [] kws pos) (fun σ H Q => tk σ H fun zs H2 => sp (gV [] zs) H2 Q E) := by
  refine ⟨fun pins s σ H Q I h => ?_⟩
  refine wpAny_Call_Name_kw (ld_glob I hg hm ?_ hdb)
  refine PySem.W.callWith_KW0 (h₀ := X.base) I.ok.mod.kin hk hall ?_ hpl
  refine thn (hkw.run pos pins s σ H _ I h) fun ws s2 ⟨zs, H2, I2, rz, q2⟩ => ⟨I2.kIn, ?_⟩
  rw [hks]
  exact run_fnk Fn hr hb hx I2 .nil rz q2
section
variable {n j k : Nat} {fa : Addr} {fd : FuncData} {ps ks : List Str} {G : Fn} {x : Str} {p pos : Pos} {e : Expr} {es : List Expr} {kws : List Keyword} {as ak : DA}
theorem e_callK (hP : FnOk X.prog X.w X.K X.mg X.base (L2.CX X.prog X.w) k fa fd ps (spD F.m (n + 1) G)) (hr : Room k X.A) (hg : Gl X x) (hm : X.mg x = some (.ref fa)) (hk : PySem.W.keepIn X.K (.ref fa) = true) (hb : KBinds X.K fd ps ks (gJ (n + 1) j) (gJ (n + 1) j)) (hx : Passes (L2.CX X.prog X.w) X F.E)
    (ha : AO F X (e :: es) as) (hkw : PO F X kws ak) (hj : (e :: es).length = j := by rfl) (hi : kws.length = n + 1 - j := by rfl)
    (hall : (backToKw pos (keywordEach kws X.env)).all (·.1.isSome) = true := by rfl) (hks : (backToKw pos (keywordEach kws X.env)).filterMap (·.1) = ks := by rfl)
    (hdb : (x == ("__debug__" : Str)) = false := by decide) (he : starEach (e :: es) X.env = (false, eval e X.env) :: starEach es X.env := by rfl)
    (hpl : ((backTo pos (starEach (e :: es) X.env)).any (·.1) || (backToKw pos (keywordEach kws X.env)).any (·.1.isNone)) = false := by rfl) (hle : j ≤ n + 1 := by decide) :
    EO F X (.Call (.Name x p) (e :: es) kws pos) (eCallK G as ak) := by
  obtain ⟨ta, pa, sa, la⟩ := ha
  obtain ⟨tk, pk, sk, lk⟩ := hkw
  refine ⟨_, pe_callK hP hr hg hm hk hb hx pa pk hall hks hdb he hpl, fun σ H O s Q I k => ?_⟩
  refine sa.bind I k fun ds s1 vs H1 O1 q st I1 r kz => ?_
  refine sk.bind I1 kz fun es' s2 zs H2 O2 q2 st2 I2 r2 kz2 => ?_
  have h1 : vs.length = j := by rw [r.length, la _ _ _ q, hj]
  have h2 : zs.length = n + 1 - j := by rw [r2.length, lk _ _ _ q2, hi]
  show spD F.m (n + 1) G (gJ (n + 1) j vs zs) H2 Q F.E
  rw [gJ, if_pos ⟨h1, h2⟩]
  refine spD_of I2 ((r.step st2.stp I1.wd).append r2) ?_ kz2
  rw [List.length_append, la _ _ _ q, lk _ _ _ q2, hj, hi]
  omega
theorem e_callK0 (hP : FnOk X.prog X.w X.K X.mg X.base (L2.CX X.prog X.w) k fa fd ps (spD F.m (n + 1) G)) (hr : Room k X.A) (hg : Gl X x) (hm : X.mg x = some (.ref fa)) (hk : PySem.W.keepIn X.K (.ref fa) = true) (hb : KBinds X.K fd ps ks (gJ (n + 1) 0) (gJ (n + 1) 0)) (hx : Passes (L2.CX X.prog X.w) X F.E)
    (hkw : PO F X kws ak) (hi : kws.length = n + 1 := by rfl)
    (hall : (backToKw pos (keywordEach kws X.env)).all (·.1.isSome) = true := by rfl) (hks : (backToKw pos (keywordEach kws X.env)).filterMap (·.1) = ks := by rfl)
    (hdb : (x == ("__debug__" : Str)) = false := by decide)
    (hpl : ((backTo pos (starEach [] X.env)).any (·.1) || (backToKw pos (keywordEach kws X.env)).any (·.1.isNone)) = false := by rfl) :
    EO F X (.Call (.Name x p) [] kws pos) (eCall G ak) := by
  obtain ⟨tk, pk, sk, lk⟩ := hkw
  refine ⟨_, pe_callK0 hP hr hg hm hk hb hx pk hall hks hdb hpl, fun σ H O s Q I k => ?_⟩
  refine sk.bind I k fun es' s2 zs H2 O2 q2 st2 I2 r2 kz2 => ?_
  have h2 : zs.length = n + 1 - 0 := by rw [r2.length, lk _ _ _ q2, hi] <;> rfl
  show spD F.m (n + 1) G (gJ (n + 1) 0 [] zs) H2 Q F.E
  rw [gJ, if_pos ⟨rfl, h2⟩]
  exact spD_of I2 r2 (by rw [lk _ _ _ q2, hi]) kz2
end
end
end DL

set_option Elab.async false
set_option linter.all false
set_option maxRecDepth 100000
set_option maxHeartbeats 4000000
/-! DLm: all(e for x in xs), e any expression of ours that raises nothing. -/
namespace DL
open PySem PySem.Spec L2
open PyProof.Rows hiding St

/-- the context of a generator expression's code -/
abbrev gen (X : Cx) (s : Shared) (H : Hp) (env : Env) (fp : List Addr) (A : Around) : Cx := { X with A := A, s_0 := s, H_0 := H, env := env, outer := X.stack, stack := env :: X.stack, ex := fp, fn := fun _ => false, calm := true, pn := [], xe := fun _ _ => False }
structure GenOk (N : List Str) (sc scope : Scope) (own : List (Str × Nat)) : Prop where
  blk : BlkOk N sc scope own
  co : scope.isCoroutine = false
  cell : ∀ y ∈ scope.names, y.2 ≠ .cell
  dot : scope.names.lookup (".0" : Str) = some NameKind.local
section
variable {X : Cx} {pins : List (Addr × Obj)} {σ : St} {H : Hp} {s : Shared}
theorem gen_start {scope : Scope} {own : List (Str × Nat)} {fp : List Addr} {A : Around} {h5 : Heap} {g5 : Array GenState} {t5 : Nat} {code : Value} {it : Value} (I : Inv X pins σ H s) (ok : GenOk X.N X.env.scope scope own) (hN : X.N.Nodup) (hfp : ∀ b ∈ fp, FpOk X pins H b ∧ b < s.heap.objs.size)
    (hd : A.handled = none) (hfr : A.frames = some (genEnv scope (cloFrom X.env.cells scope.names []) s.heap.objs.size code builtinsNs X.env :: X.stack))
    (hns : h5.Ns s.heap.objs.size fun y => if y = ".0" then some it else none) (kp : ∀ b o, s.heap.get? b = some o → h5.get? b = some o) (hb : AllBare g5) :
    Inv (gen X s H (genEnv scope (cloFrom X.env.cells scope.names []) s.heap.objs.size code builtinsNs X.env) fp A) [] (wipe σ (own.map (·.2))) H { s with heap := h5, gens := g5, toks := t5 } := by
  have hfree : ∀ y ∈ scope.names, y.2 = .free → ∃ c, X.env.cells.lookup y.1 = some c := fun y hy e => by
    rcases ok.blk.free y hy e with k | k
    · exact I.ok.has _ (.inl k)
    · exact I.ok.has _ (.inr k)
  have cm : ∀ {y c}, (cloFrom X.env.cells scope.names []).lookup y = some c → X.env.cells.lookup y = some c := fun {y c} e => by
    rcases cloFrom_mem (PySem.mem_of_lookup e) with hm | ⟨h1, h2⟩
    · cases hm
    · obtain ⟨c1, hc⟩ := hfree _ h1 rfl
      have hc : X.env.cells.lookup y = some c1 := hc
      rw [hc] at h2
      rw [hc, h2] <;> rfl
  have look : ∀ {y}, scope.names.lookup y = some .free → ∃ c, (cloFrom X.env.cells scope.names []).lookup y = some c ∧ X.env.cells.lookup y = some c := fun {y} hl => by
    obtain ⟨c, hc⟩ := mem_lookup (cloFrom_has (cells := X.env.cells) (acc := []) (PySem.mem_of_lookup hl))
    exact ⟨c, hc, cm hc⟩
  have cold : ∀ {y c}, X.env.cells.lookup y = some c → c < s.heap.objs.size := fun {y c} e => by
    obtain ⟨v, o, ho, _⟩ := I.cell y c e
    exact Heap.lt_size ho
  have cellK : ∀ {c : Addr} {v : Option Value}, s.heap.IsCell c v → h5.IsCell c v := fun {c v} ⟨o, ho, hd⟩ => ⟨o, kp _ _ ho, hd⟩
  refine ⟨⟨I.ok.mod, ok.blk.kind, I.ok.glob, rfl, Nat.le_refl _, fun y z c e1 e2 => I.ok.inj y z c (cm e1) (cm e2), fun y hy => ?_, fun y c z _ => (by cases z), fun _ => hd, hfr, .inr ⟨rfl, rfl⟩, fun b hb => ⟨Nat.ne_of_lt (hfp b hb).2, fun y c e z => (hfp b hb).1.2.2.2.2.1 y c (cm e) z⟩,
      I.bs, Nat.le_trans I.ok.bsz I.sz, fun b o e hb => ?_, fun b hb z => ?_, I.stack, I.stkFree⟩, rfl, hb, Un.kept kp, ⟨_, hns, fun i y av e1 e2 e3 => ?_⟩, fun y c e => ?_, I.hok.fresh (Nat.le_refl _), fun y c e => I.freeC y c (cm e), fun p hp => absurd (show p ∈ ([] : List (Addr × Obj)) ++ [] from hp) (by simp), I.hok.kept kp, by rw [wipe_length]; exact I.len⟩
  · have hy : scope.names.lookup y = some .cell ∨ scope.names.lookup y = some .free := hy
    rcases hy with hy | hy
    · exact absurd rfl (ok.cell _ (PySem.mem_of_lookup hy))
    · obtain ⟨c, h1, _⟩ := look hy
      exact ⟨c, h1⟩
  · rcases (hfp b hb).1.2.2.2.1 with z | z
    · exact I.ok.noex b o e z
    · exact absurd (Nat.lt_of_lt_of_le (Heap.lt_size e) (Nat.le_trans I.ok.bsz z)) (Nat.lt_irrefl _)
  · rcases List.mem_cons.mp (I.stkSub b z) with z | z
    · exact (hfp b hb).1.2.1 z
    · exact (hfp b hb).1.2.2.1 z
  · obtain ⟨e2, hne⟩ := wipe_some e2
    have e1 : X.N[i]? = some y := e1
    have no : ∀ {k}, scope.names.lookup y = some k → k = .local ∨ k = .cell → False := fun {k} e hh => by
      rcases ok.blk.own _ (PySem.mem_of_lookup e) hh with e' | e'
      · obtain ⟨p, hp, hpy⟩ := List.mem_map.mp e'
        have e3 := ok.blk.ix p hp
        have q : p.1 = y := hpy
        rw [q] at e3
        exact hne (List.mem_map.mpr ⟨p, hp, nodup_ix hN e3 e1⟩)
      · exact e' (List.mem_of_getElem? e1)
    have e3 : Vis scope y := e3
    rcases e3 with e3 | e3 | e3
    · exact (no e3 (.inl rfl)).elim
    · exact (no e3 (.inr rfl)).elim
    · obtain ⟨m, hn, hl⟩ := I.loc
      have hvis : Vis X.env.scope y := (ok.blk.free _ (PySem.mem_of_lookup e3) rfl).elim (fun k => .inr (.inl k)) (fun k => .inr (.inr k))
      obtain ⟨w, r, q⟩ := hl i y av e1 e2 hvis
      obtain ⟨c, h1, h2⟩ := look e3
      refine ⟨w, r, .inr ⟨.inr e3, c, h1, ?_⟩⟩
      rcases q with ⟨k, _⟩ | ⟨_, c', e', z⟩
      · have k : X.env.scope.names.lookup y = some .local := k
        rcases ok.blk.free _ (PySem.mem_of_lookup e3) rfl with k' | k' <;> rw [show X.env.scope.names.lookup y = _ from k'] at k <;> cases k
      · rw [h2] at e'; cases e'
        exact cellK z
  · obtain ⟨v, z⟩ := I.cell y c (cm e)
    exact ⟨v, cellK z⟩
end

/-- the code runs: m bounds the turns that are left -/
def GT (Y : Cx) (p : Addr × Obj) (τ : St) (fp : List Addr) (tn : Nat → Heap → Prop) (W : Nat → Nat → Hp → Prop) (m : Nat) (s : Shared) : Prop := ∃ i H, Inv Y [p] τ H s ∧ tn i s.heap ∧ (∀ b ∈ fp, H b = none) ∧ W i m H
/-- the answer is known -/
def GFin (Y : Cx) (p : Addr × Obj) (Q : VK) (b : Bool) (s : Shared) : Prop := ∃ τ H, Inv Y [p] τ H s ∧ Q (.bl b) H
def GREnd (Y : Cx) (p : Addr × Obj) (Q : VK) : GenEnd := fun _ _ r s => ((r = .ok (.ret .none) ∨ r = .ok .next) ∧ GFin Y p Q true s) ∨ ∃ e, r = .error e ∧ False
def GPro (Y : Cx) (p : Addr × Obj) (Q : VK) : Protocol := fun _ _ v s kap => ∃ b, v = .bool b ∧ (∃ τ H, Inv Y [p] τ H s) ∧ (b = false → GFin Y p Q false s) ∧ (b = true → ∀ gs, AllBare gs → kap (.send .none) { s with gens := gs })
/-- what a turn is to do -/
def GStep (vs : List Nat) (σ : St) (J : It) (g : TG) (te : TE) (Q : VK) (W : Nat → Nat → Hp → Prop) : Prop := ∀ i m H, W i m H →
  (J.stop i H ∧ Q (.bl true) H) ∨ (0 < m ∧ J.go i H ∧ ∃ Nx : Hp → Prop, (∀ H', Nx H' → ∃ m', m' < m ∧ W (i + 1) m' H') ∧ ∀ x H', J.yld i H x H' → g x (wipe σ vs) H' fun σ2 H2 => wipe σ2 vs = wipe σ vs ∧ te σ2 H2 fun y H3 => ∃ b, y = .bl b ∧ (if b = true then Nx H3 else Q (.bl false) H3))
theorem Inv.gens' {Y : Cx} {pl : List (Addr × Obj)} {τ : St} {H : Hp} {s : Shared} {gs : Array GenState} (I : Inv Y pl τ H s) (h : AllBare gs) : Inv Y pl τ H { s with gens := gs } :=
  ⟨I.ok, I.os, h, I.base, I.loc, I.cell, I.free, I.freeC, I.pin, I.hok, I.len⟩
section
variable {Y : Cx} {p : Addr × Obj} {σ : St} {vs : List Nat} {fp : List Addr} {tn : Nat → Heap → Prop} {W : Nat → Nat → Hp → Prop} {J : It} {g : TG} {te : TE} {Q : VK} {B : Around} {elt tg iter : Expr} {scope : Scope} {pos : Pos} {it : Addr}
theorem seg_gen (hc : Y.calm = true) (hov : B.over (.compLoop (.GeneratorExp elt [⟨tg, iter, [], 0⟩] scope pos) 0 (.ref it) .none Y.env) [] = Y.A) (hxe : Y.xe = fun _ _ => False) (hpn : Y.pn = []) (hex : Y.ex = fp) (hco : Y.env.scope.isCoroutine = false)
    (T : Turn Y.prog Y.w Y.K tg J fp it tn) (hp : p.1 ∉ fp) (pg : PG Y tg g) (pe : PE Y elt te) (hS : GStep vs σ J g te Q W) :
    ∀ (m n : Nat), m ≤ n → ∀ (s₀ s : Shared), GT Y p (wipe σ vs) fp tn W m s →
      Seg (model Y.prog Y.w) B (GREnd Y p Q) (GPro Y p Q) n s₀ (.compLoop (.GeneratorExp elt [⟨tg, iter, [], 0⟩] scope pos) 0 (.ref it) .none Y.env)
        ((model Y.prog Y.w).den (.compLoop (.GeneratorExp elt [⟨tg, iter, [], 0⟩] scope pos) 0 (.ref it) .none Y.env)) [] s := by
  intro m
  induction m using Nat.strongRecOn with
  | ind m ih =>
    intro n hmn s₀ s ⟨i, H, I, st, nf, w0⟩
    have stat : ∀ {τ' : St} {H' : Hp} {s' : Shared}, Inv Y [p] τ' H' s' → (∀ b ∈ fp, H' b = none) → ∀ b ∈ fp, FpOk Y [p] H' b := fun {τ' H' s'} I' hn b hb =>
      ⟨hn b hb, (I'.ok.exf b (hex ▸ hb)).1, I'.ok.exfs b (hex ▸ hb), .inl (hex ▸ hb), fun x c e => (I'.ok.exf b (hex ▸ hb)).2 x c e, fun q hq => by
        rw [hpn, List.nil_append, List.mem_singleton] at hq
        rw [hq]
        exact fun z => hp (z ▸ hb)⟩
    show Seg _ B _ _ _ s₀ _ ((compTurn (.GeneratorExp elt [⟨tg, iter, [], 0⟩] scope pos) 0 (.ref it) .none Y.env).onRaise (leaving Y.env)) [] s
    rw [compTurn_gen, Sem.onRaise_eq_wrap]
    refine seg_bind_wrap (wpAny_standAt ?_)
    rcases hS i m H w0 with ⟨stop, qq⟩ | ⟨hm0, go, Nx, hNx, step⟩
    · refine seg_bind_wrap ?_
      rw [hov]
      refine thnF (T.done Y rfl rfl rfl hc i [p] s _ H (fun _ _ => False) I (stat I nf) st stop) fun r s6 ⟨hr, I6⟩ => ?_
      subst hr
      exact seg_end (.ok .next) (.inl ⟨.inr rfl, _, H, I6, qq⟩)
    · obtain ⟨n', rfl⟩ : ∃ n', n = n' + 1 := ⟨n - 1, by omega⟩
      refine seg_bind_wrap ?_
      rw [hov]
      refine thnF (T.item Y rfl rfl rfl hc i [p] s _ H (fun _ _ => False) I (stat I nf) st go) fun r s6 ⟨u, hr, h6⟩ => ?_
      subst hr
      refine seg_bind_wrap ?_
      rw [hov]
      refine thnF h6 fun _ s7 ⟨x, H7, I7, r7, y7, st7, n7⟩ => ?_
      have J7 := I7.pinned (stat I7 n7) (T.obj _ _ st7)
      refine seg_bind_wrap ?_
      rw [hov]
      have pr := pg.run _ s7 _ H7 x u _ J7 r7 (step x H7 y7)
      rw [hxe] at pr
      refine thnF pr fun _ s8 ⟨σ8, H8, I8, hw8, q8⟩ => ?_
      refine seg_bind_wrap ?_
      simp only [List.forIn_nil]
      refine wpAny_pure ?_
      simp only [if_true]
      have hy : ∀ v, yieldOut Y.env v = yieldValue v := fun v => by simp only [yieldOut, hco, Bool.false_eq_true, if_false]
      simp only [hy]
      rw [Sem.bind_eq_wrap', Sem.bind_eq_wrap', Sem.wrap_wrap, Sem.wrap_wrap]
      refine seg_wrap ?_
      rw [hov]
      have er := pe.run _ s8 σ8 H8 _ I8 q8
      rw [hxe] at er
      refine thnF er fun v s9 ⟨y, H9, I9, r9, b, eb, q9⟩ => ?_
      subst eb
      obtain rfl : v = .bool b := r9
      refine seg_at (seg_yield rfl rfl rfl ⟨b, rfl, ⟨_, _, I9.unpinned⟩, fun e => ⟨_, _, I9.unpinned, by rw [e] at q9; simpa using q9⟩, fun e gs hgs => ?_⟩)
      rw [e, if_pos rfl] at q9
      obtain ⟨m', hm', w'⟩ := hNx H9 q9
      have hl : (wipe σ vs).length = σ8.length := by rw [← hw8, wipe_length]
      have at7 : ∀ b ∈ fp, ∀ o, s7.heap.get? b = some o → s9.heap.get? b = some o ∧ H9 b = none := fun b hb o eo =>
        let z := I9.pin (b, o) (List.mem_append_right _ (List.mem_append_right _ (mem_pinsAt hb eo)))
        ⟨z.1, z.2.1⟩
      refine seg_again rfl (ih m' hm' n' (by omega) _ _ ⟨i + 1, H9, Inv.gens' ((I9.unpinned (pins := [p])).weak hl fun j v ej => ?_) hgs, T.keep _ _ _ st7 fun b hb o eo => (at7 b hb o eo).1, fun b hb => ?_, w'⟩)
      · rw [← hw8] at ej
        exact (wipe_some ej).1
      · obtain ⟨o, eo, _⟩ := T.obj _ _ st7 b hb
        exact (at7 b hb o eo).2
end

section
variable {Y : Cx} {p : Addr × Obj} {Q : VK} {A : Around} {R : Result → Shared → Prop} {a : Addr} {g : Nat}
theorem Inv.grown {pl : List (Addr × Obj)} {τ : St} {H : Hp} {s : Shared} {h' : Heap} {gs : Array GenState} {d' : Drawn} {t' : Nat} (I : Inv Y pl τ H s) (k : ∀ b o, s.heap.get? b = some o → h'.get? b = some o) (hb : AllBare gs) : Inv Y pl τ H { s with heap := h', gens := gs, drawn := d', toks := t' } :=
  I.call' (ch := []) rfl (Un.kept k) (I.hok.kept k) hb fun b z => by simp at z
/-- all's loop over such a generator -/
theorem all_drain (hh : A.handled = none) (hd : A.depth < recursionLimit) (ha : ∀ h : Heap, h.get? p.1 = some p.2 → h.IsGen a g) (hend : ∀ b s', GFin Y p Q b s' → R (.ok (.ret (.bool b))) s') :
    ∀ (n : Nat) (s : Shared), (∃ τ H, Inv Y [p] τ H s) → (∃ gs, s.gens[g]? = some gs ∧ gs.Goes (model Y.prog Y.w) A.in1.in1 (GREnd Y p Q) (GPro Y p Q) n (.send .none) (s.setGen g .running)) →
      codeAny (model Y.prog Y.w) A (.builtin "all.loop" ⟨[.ref a], []⟩) R s := by
  have pinned : ∀ {s : Shared}, (∃ τ H, Inv Y [p] τ H s) → s.heap.IsGen a g ∧ s.heap.NoLimit ∧ AllBare s.gens := fun {s} ⟨τ, H, I⟩ =>
    ⟨ha _ (I.pin p (List.mem_append_right _ (List.mem_singleton.mpr rfl))).1, I.nolimit, I.bare⟩
  have goes : ∀ {gs : GenState} {n : Nat} {s : Shared}, gs.Goes (model Y.prog Y.w) A.in1.in1 (GREnd Y p Q) (GPro Y p Q) n (.send .none) s →
      gs.Goes (model Y.prog Y.w) A.in1.in1 (fun n s₀ r s => ((r = .ok (.ret .none) ∨ r = .ok .next) ∧ GFin Y p Q true s) ∨ ∃ e, r = .error e ∧ False) (GPro Y p Q) n (.send .none) s := fun h => h
  intro n
  induction n with
  | zero =>
    intro s hI ⟨gs, hgs, hgo⟩
    obtain ⟨hg, hl, hb⟩ := pinned hI
    refine codeAny_builtin F.entry_all_loop ?_
    rw [Around.under_plainId F.plain_all_loop _]
    show wpAny _ A.in1 (pyNext (.ref a) >>= _) _ _ s
    refine wpAny_bind (next_genG (A := A.in1) (F := fun _ _ s => GFin Y p Q true s) (Er := fun _ _ => False) hh hl hd hg hgs (goes hgo) (fun v s₁ gs' hbare hv => ?_) (fun s₁ hp h' hk => ?_) fun e s₁ he => he.elim)
    · obtain ⟨b, rfl, hI1, hF, hT⟩ := hv
      cases b with
      | true => exact (hT rfl _ (pinned hI1).2.2).elim
      | false =>
        refine wpAny_bind (wpAny_holding (wpAny_truthy_bool ?_))
        refine wpAny_bind (wpAny_letGo ?_)
        simp only [Bool.false_eq_true, if_false]
        refine wpAny_bind (wpAny_rule (wpAny_pure ?_))
        obtain ⟨τ, H, I, q⟩ := hF rfl
        exact hend false _ ⟨τ, H, Inv.gens' I (allBare_setGen I.bare hbare), q⟩
    · obtain ⟨τ, H, I, q⟩ := hp
      refine wpAny_bind (wpAny_rule (wpAny_pure ?_))
      exact hend true _ ⟨τ, H, Inv.grown (Inv.gens' I (allBare_setGen I.bare rfl)) hk (allBare_setGen I.bare rfl), q⟩
  | succ n ih =>
    intro s hI ⟨gs, hgs, hgo⟩
    obtain ⟨hg, hl, hb⟩ := pinned hI
    have hgl : g < s.gens.size := (Array.getElem?_eq_some_iff.mp hgs).1
    refine codeAny_builtin F.entry_all_loop ?_
    rw [Around.under_plainId F.plain_all_loop _]
    show wpAny _ A.in1 (pyNext (.ref a) >>= _) _ _ s
    refine wpAny_bind (GenW.wpAny_gsz (n := g + 1) hgl (next_genG (A := A.in1) (F := fun _ _ s => GFin Y p Q true s) (Er := fun _ _ => False) hh hl hd hg hgs (goes hgo) (fun v s₁ gs' hbare hv => ?_) (fun s₁ hp h' hk => ?_) fun e s₁ he => he.elim))
    · intro hsz
      obtain ⟨b, rfl, hI1, hF, hT⟩ := hv
      refine wpAny_bind (wpAny_holding (wpAny_truthy_bool ?_))
      refine wpAny_bind (wpAny_letGo ?_)
      cases b with
      | true =>
        simp only [if_true]
        have hs1 : g < s₁.gens.size := by
          have q : (s₁.setGen g gs').gens.size = s₁.gens.size := GenW.setGen_size _ _ _
          have hz : g + 1 ≤ (s₁.setGen g gs').gens.size := hsz
          omega
        obtain ⟨τ, H, I⟩ := hI1
        refine wpAny_pure ⟨plainId_quiet F.plain_all_loop _, ih (s₁.setGen g gs') ⟨τ, H, Inv.gens' I (allBare_setGen I.bare hbare)⟩ ⟨gs', setGen_at hs1, ?_⟩⟩
        exact hT rfl _ (allBare_setGen (s := s₁.setGen g gs') (allBare_setGen I.bare hbare) rfl)
      | false =>
        simp only [Bool.false_eq_true, if_false]
        refine wpAny_bind (wpAny_rule (wpAny_pure ?_))
        obtain ⟨τ, H, I, q⟩ := hF rfl
        exact hend false _ ⟨τ, H, Inv.gens' I (allBare_setGen I.bare hbare), q⟩
    · intro hsz
      obtain ⟨τ, H, I, q⟩ := hp
      refine wpAny_bind (wpAny_rule (wpAny_pure ?_))
      exact hend true _ ⟨τ, H, Inv.grown (Inv.gens' I (allBare_setGen I.bare rfl)) hk (allBare_setGen I.bare rfl), q⟩
end

theorem over_room {B : Around} {k : Nat} {c : Code} (hw : c.weight = 1) (hu : c.cUnits = 3) (hh : B.handled = none) (hd : B.depth + 1 + 3 * k + 5 < recursionLimit) (hn : B.units + 3 + 16 * k + 200 < cLine) : Room k (B.over c []) :=
  ⟨hh, by show B.depth + 0 + c.weight + 3 * k + 5 < _; rw [hw]; exact hd, by show B.units + 0 + c.cUnits + 16 * k + 200 < _; rw [hu]; exact hn⟩
theorem over_frames {B : Around} {c : Code} {env : Env} {l : List Env} (hc : c.envs = [env]) (h : B.frames = some l) : (B.over c []).frames = some (env :: l) := by
  unfold Around.over
  simp only [hc, h]
  rfl
theorem compStart_seg {M : Model} {B : Around} {R : GenEnd} {Pr : Protocol} {n : Nat} {s₀ s : Shared} {elt tg iter : Expr} {scope : Scope} {pos : Pos} {it : Addr} {env : Env} {tn : Nat → Heap → Prop} {G : Shared → Prop}
    (loop : ∀ s', G s' → Seg M B R Pr n s₀ (.compLoop (.GeneratorExp elt [⟨tg, iter, [], 0⟩] scope pos) 0 (.ref it) .none env) (M.den (.compLoop (.GeneratorExp elt [⟨tg, iter, [], 0⟩] scope pos) 0 (.ref it) .none env)) [] s')
    (self : ∀ (A' : Around) (s' : Shared) (Q' : Value → Shared → Prop) (E' : Value → Shared → Prop), tn 0 s'.heap → Q' (.ref it) s' → wpAny M A' (pyIter (.ref it)) Q' E' s') (hst : tn 0 s.heap) (hG : G s)
    (hden : M.den (.compStart (.GeneratorExp elt [⟨tg, iter, [], 0⟩] scope pos) 0 (.ref it) .none env) = (compStart (.GeneratorExp elt [⟨tg, iter, [], 0⟩] scope pos) 0 (.ref it) .none env).onRaise (leaving env) := by rfl) :
    Seg M B R Pr n s₀ (.compStart (.GeneratorExp elt [⟨tg, iter, [], 0⟩] scope pos) 0 (.ref it) .none env) (M.den (.compStart (.GeneratorExp elt [⟨tg, iter, [], 0⟩] scope pos) 0 (.ref it) .none env)) [] s := by
  have lp := loop s hG
  rw [hden]
  unfold compStart
  rw [Sem.onRaise_eq_wrap]
  show Seg _ B _ _ _ s₀ _ ((ask >>= _).wrap _ _ _ _) [] s
  refine seg_bind_wrap (wpAny_askSetting ?_)
  split
  · exact seg_again rfl lp
  · refine seg_bind_wrap (wpAny_rule ?_)
    show Seg _ B _ _ _ s₀ _ ((standAt iter.pos >>= _).wrap _ _ _ _) [] s
    exact seg_bind_wrap (wpAny_standAt (seg_bind_wrap (self _ s _ _ hst (seg_again rfl lp))))
/-- all(e for x in xs) -/
def tAllG (P : Addr) (wi : TI) (g : TG) (te : TE) (vs : List Nat) : TE := fun σ H Q => wi σ H fun J H1 => GxR.TabG H1 P ∧ ∀ H2, GxR.Tabbed P H1 H2 → ∃ W : Nat → Nat → Hp → Prop, (∃ m, W 0 m H2) ∧ GStep vs σ J g te Q W
section
variable {X : Cx} {k : Nat} {elt tg iter : Expr} {scope : Scope} {own : List (Str × Nat)} {p pos gpos : Pos} {wi : TI} {g : TG} {te : TE} {c P : Addr}
theorem pe_allG (hc : X.calm = true) (hN : X.N.Nodup) (hr : Room (k + 1) X.A) (hg : Gl X "all") (hm : X.mg "all" = none) (TB : GxR.TabB X.base X.mg c P) (hcode : X.env.code = .ref c) (ok : GenOk X.N X.env.scope scope own) (hi : PI X tg iter wi)
    (hpg : ∀ (s : Shared) (H : Hp) (C : Addr) (cl : List (Str × Addr)) (code : Value) (bi : Addr) (fp : List Addr) (A : Around), PG (gen X s H (genEnv scope cl C code bi X.env) fp A) tg g)
    (hpe : ∀ (s : Shared) (H : Hp) (C : Addr) (cl : List (Str × Addr)) (code : Value) (bi : Addr) (fp : List Addr) (A : Around), Room k A → PE (gen X s H (genEnv scope cl C code bi X.env) fp A) elt te)
    (hs : ∀ v, genFold iter X.env v = pure v := by intro _; rfl) (he : starEach [.GeneratorExp elt [⟨tg, iter, [], 0⟩] scope gpos] X.env = (false, eval (.GeneratorExp elt [⟨tg, iter, [], 0⟩] scope gpos) X.env) :: starEach [] X.env := by rfl) :
    PE X (.Call (.Name "all" p) [.GeneratorExp elt [⟨tg, iter, [], 0⟩] scope gpos] [] pos) (tAllG P wi g te (own.map (·.2))) := by
  refine ⟨fun pins s σ H Q I h => ?_⟩
  refine wpAny_Call_Name_kw (ld_blt I hg hm PyProof.Rows.Boot.«all» ?_)
  refine PyProof.Rows.callWith_builtin1 ?_ he (by rfl)
  rw [he]
  show wpAny _ _ (spliced ((false, eval (.GeneratorExp elt [⟨tg, iter, [], 0⟩] scope gpos) X.env) :: backTo pos (starEach [] X.env))) _ _ s
  refine Calls.spliced_cons ?_
  have hfree : ∀ y ∈ scope.names, y.2 = .free → ∃ c, X.env.cells.lookup y.1 = some c := fun y hy e => by
    rcases ok.blk.free y hy e with k | k
    · exact I.ok.has _ (.inl k)
    · exact I.ok.has _ (.inr k)
  refine wpAny_GeneratorExp_make ok.co (closure_ok hfree) ok.cell ok.dot ok.blk.kind (by have := hr.dp; omega) ?_ hs
  refine thn (hi.run pins s σ H _ I h) fun xv s1 hx => thn hx fun itv s2 h2 => ?_
  obtain ⟨it, fp, tn, J, H2, e, I2, T, st2, f2, ⟨ps, hP, ht⟩, q⟩ := h2
  subst e
  refine ⟨I2.nolimit, ?_⟩
  have hPs : s2.heap.get? P = some { cls := .none, data := .fields ps } := I2.hok P _ hP
  have cd : PySem.W.CodeHd s2.heap c P := TB.code.keeps I2.bk
  have cont : ∀ (code : Value) (h3 : Heap) (tk : Nat) (ps' : Array Value), Heap.ExtBut P s2.heap h3 → h3.get? P = some { cls := .none, data := .fields ps' } → (∃ more, ps' = ps ++ more) → TriplesOk ps'.toList →
      wpAny (model X.prog X.w) X.A (builtinsFor X.env.globals X.env.builtins) (fun bi s₄ =>
        ∀ h', h'.Ns s₄.heap.objs.size (fun y => if y = ".0" then some (.ref it) else none) → Heap.SameBut s₄.heap.objs.size (s₄.heap.push { cls := .type "frame", data := .dict #[] }) h' →
          wpAny (model X.prog X.w) X.A (spliced (backTo pos (starEach [] X.env))) (fun vs s₂ => wpAny (model X.prog X.w) X.A (call (.builtin "all") (.ref h'.objs.size :: vs)) (EP X pins σ Q) X.xe s₂) X.xe { s₄ with
            gens := s₄.gens.push (.fresh (.compStart (.GeneratorExp elt [⟨tg, iter, [], 0⟩] scope gpos) 0 (.ref it) .none (genEnv scope (cloFrom X.env.cells scope.names []) s₄.heap.objs.size code bi X.env))),
            toks := s₄.toks + 1 + 1 + 1,
            heap := h'.push { cls := .type "generator", data := .fields #[.int s₄.gens.size 0, .str "<genexpr>" (s₄.toks + 1), .str (X.env.qual ++ "<genexpr>") (s₄.toks + 1 + 1)] } }) X.xe { s2 with heap := h3, toks := tk } := by
    intro code h3 tk ps' hx hP3 hmore ht3
    obtain ⟨bm, ob, e1, e2, e3, e4, e5, e6, e7, e8⟩ := TB.bm
    have keep3 : ∀ b u, b ≠ P → s2.heap.get? b = some u → h3.get? b = some u := fun b u hb z => hx b u hb z
    refine wpAny_builtinsFor (m := X.mg) (by rw [I2.ok.glob]; exact (I2.mod.glob.keeps I2.bk).extBut hx TB.gP) e1 e2 (keep3 _ _ e4 (I2.bk _ _ e5)) e6 e7 e8 ?_
    intro h' hns hsb
    refine Calls.spliced_nil ?_
    obtain ⟨more, rfl⟩ := hmore
    have I3 : Inv X pins σ (upd H2 P (.tbl (ps ++ more))) { s2 with heap := h3, toks := tk } := GxR.inv_tab (g' := s2.gens) (d' := s2.drawn) (t' := tk) I2 hP keep3 hP3 I2.bare
    obtain ⟨W, ⟨m0, w0⟩, hS⟩ := q (upd H2 P (.tbl (ps ++ more))) ⟨⟨ps ++ more, upd_same, ht3⟩, fun b hb => upd_ne hb⟩
    have hsz : h'.objs.size = h3.objs.size + 1 := by rw [hsb.1, Heap.size_push]
    have kp' : ∀ b o, h3.get? b = some o → h'.get? b = some o := fun b o z => hsb.extBut b o (Nat.ne_of_lt (Heap.lt_size z)) (Heap.get?_push_of_some _ z)
    have main : ∀ (go : Obj) (nm qn : Value) (tk2 : Nat), go.cls = .type "generator" → go.data = .fields #[.int s2.gens.size 0, nm, qn] → go.slots = #[] → (∀ h : Heap, (h.push go).get? h.objs.size = some go) →
        wpAny (model X.prog X.w) X.A (call (.builtin "all") [.ref h'.objs.size]) (EP X pins σ Q) X.xe { s2 with heap := h'.push go, gens := s2.gens.push (.fresh (.compStart (.GeneratorExp elt [⟨tg, iter, [], 0⟩] scope gpos) 0 (.ref it) .none (genEnv scope (cloFrom X.env.cells scope.names []) h3.objs.size code builtinsNs X.env))), toks := tk2 } := by
      intro go nm qn tk2 g1 g2 g3 g4
      have kp5 : ∀ b o, h3.get? b = some o → (h'.push go).get? b = some o := fun b o z => Heap.get?_push_of_some _ (kp' b o z)
      have neP : ∀ b ∈ fp, b ≠ P := fun b hb z => by
        have z2 := (f2 b hb).1
        rw [z, hP] at z2
        cases z2
      have st3 : tn 0 h3 := T.keep _ _ _ st2 fun b hb o eo => keep3 b o (neP b hb) eo
      have st5 : tn 0 (h'.push go) := T.keep _ _ _ st3 fun b _ o eo => kp5 b o eo
      have f3 : ∀ b ∈ fp, FpOk X pins (upd H2 P (.tbl (ps ++ more))) b ∧ b < h3.objs.size := fun b hb => by
        obtain ⟨o, eo, _⟩ := T.obj _ _ st3 b hb
        exact ⟨⟨by rw [upd_ne (neP b hb)]; exact (f2 b hb).1, (f2 b hb).2⟩, Heap.lt_size eo⟩
      have hgen : ∀ h : Heap, h.get? h'.objs.size = some go → h.IsGen h'.objs.size s2.gens.size := fun h z => ⟨go, nm, qn, z, g1, g2, g3⟩
      have hpushed : (h'.push go).get? h'.objs.size = some go := g4 _
      have bare5 : AllBare (s2.gens.push (.fresh (.compStart (.GeneratorExp elt [⟨tg, iter, [], 0⟩] scope gpos) 0 (.ref it) .none (genEnv scope (cloFrom X.env.cells scope.names []) h3.objs.size code builtinsNs X.env)))) := AllBare.push I2.bare rfl
      have hfr : (X.A.in1.in1.over (.compLoop (.GeneratorExp elt [⟨tg, iter, [], 0⟩] scope gpos) 0 (.ref it) .none (genEnv scope (cloFrom X.env.cells scope.names []) h3.objs.size code builtinsNs X.env)) []).frames = some (genEnv scope (cloFrom X.env.cells scope.names []) h3.objs.size code builtinsNs X.env :: X.stack) := by
        exact over_frames rfl I3.ok.frames
      have I5 := gen_start (t5 := tk2) (it := .ref it) (code := code) I3 ok hN f3 (show (X.A.in1.in1.over (.compLoop (.GeneratorExp elt [⟨tg, iter, [], 0⟩] scope gpos) 0 (.ref it) .none (genEnv scope (cloFrom X.env.cells scope.names []) h3.objs.size code builtinsNs X.env)) []).handled = none from hr.hd) hfr (hns.push go) kp5 bare5
      have Rm : Room k (X.A.in1.in1.over (.compLoop (.GeneratorExp elt [⟨tg, iter, [], 0⟩] scope gpos) 0 (.ref it) .none (genEnv scope (cloFrom X.env.cells scope.names []) h3.objs.size code builtinsNs X.env)) []) :=
        over_room rfl rfl hr.hd (by have := hr.dp; show X.A.depth + 1 + 3 * k + 5 < _; omega) (by have := hr.un; show X.A.units + 1 + 1 + 3 + 16 * k + 200 < _; omega)
      have pg := hpg { s2 with heap := h3, toks := tk } (upd H2 P (.tbl (ps ++ more))) h3.objs.size (cloFrom X.env.cells scope.names []) code builtinsNs fp (X.A.in1.in1.over (.compLoop (.GeneratorExp elt [⟨tg, iter, [], 0⟩] scope gpos) 0 (.ref it) .none (genEnv scope (cloFrom X.env.cells scope.names []) h3.objs.size code builtinsNs X.env)) [])
      have pe := hpe { s2 with heap := h3, toks := tk } (upd H2 P (.tbl (ps ++ more))) h3.objs.size (cloFrom X.env.cells scope.names []) code builtinsNs fp _ Rm
      have haC : h3.objs.size ≤ h'.objs.size := by rw [hsz]; exact Nat.le_succ _
      have I6 : Inv _ [(h'.objs.size, go)] (wipe σ (own.map (·.2))) (upd H2 P (.tbl (ps ++ more))) _ := I5.pins_of fun p hp => by
        rw [List.mem_singleton.mp hp]
        refine ⟨hpushed, I3.hok.fresh haC, ?_, fun z => ?_, fun v z => by rw [g2] at z; cases z⟩
        · show h'.objs.size ≠ h3.objs.size
          rw [hsz]
          exact Nat.succ_ne_self _
        · rcases List.mem_cons.mp (I3.stkSub _ z) with z | z
          · have l := I3.lt
            rw [← z] at l
            exact absurd (Nat.lt_of_lt_of_le l haC) (Nat.lt_irrefl _)
          · exact I3.nofs haC z
      have hpf : h'.objs.size ∉ fp := fun z => absurd (Nat.lt_of_lt_of_le (f3 _ z).2 haC) (Nat.lt_irrefl _)
      refine call_function_tree F.kind_all F.plain_all F.entry_all (F.args_all1 _) ?_
      unfold Builtin.«all»
      refine wpAny_bind (m := oneArg "all" _) (wpAny_pure ?_)
      refine wpAny_bind (wpAny_pyIter_gen (hgen _ hpushed) ?_)
      refine wpAny_pure ⟨plainId_quiet F.plain_all_loop _, ?_⟩
      refine all_drain (Y := gen X { s2 with heap := h3, toks := tk } (upd H2 P (.tbl (ps ++ more))) (genEnv scope (cloFrom X.env.cells scope.names []) h3.objs.size code builtinsNs X.env) fp (X.A.in1.in1.over (.compLoop (.GeneratorExp elt [⟨tg, iter, [], 0⟩] scope gpos) 0 (.ref it) .none (genEnv scope (cloFrom X.env.cells scope.names []) h3.objs.size code builtinsNs X.env)) [])) (p := (h'.objs.size, go)) (Q := Q) (A := X.A) hr.hd (by have := hr.dp; omega) hgen (fun b s' hF => ?_) m0 _ ⟨_, _, I6⟩ ⟨_, Array.getElem?_push_size .., rfl, ?_⟩
      · obtain ⟨τ, H', J', qq⟩ := hF
        exact ⟨.bl b, H', I3.call' (ch := fp) J'.os J'.base J'.hok J'.bare fun b hb => ⟨(f3 b hb).1.2.2.2.1, (f3 b hb).1.2.1, (f3 b hb).1.2.2.2.2.1, (f3 b hb).1.2.2.2.2.2⟩, rfl, qq⟩
      · have loop := seg_gen (Y := gen X { s2 with heap := h3, toks := tk } (upd H2 P (.tbl (ps ++ more))) (genEnv scope (cloFrom X.env.cells scope.names []) h3.objs.size code builtinsNs X.env) fp (X.A.in1.in1.over (.compLoop (.GeneratorExp elt [⟨tg, iter, [], 0⟩] scope gpos) 0 (.ref it) .none (genEnv scope (cloFrom X.env.cells scope.names []) h3.objs.size code builtinsNs X.env)) [])) (B := X.A.in1.in1) (p := (h'.objs.size, go)) (it := it) (pos := gpos) (scope := scope) (iter := iter) (fp := fp) (Q := Q) (W := W) (σ := σ) (vs := own.map (·.2)) rfl rfl rfl rfl rfl ok.co T hpf pg pe hS m0 m0 (Nat.le_refl _)
        refine compStart_seg (loop := fun s' hs' => loop _ s' hs') (self := fun A' s' Q' E' z => T.self A' 0 s' Q' E' z) (s := Shared.setGen _ _ .running) st5 ⟨0, _, Inv.gens' I6 (allBare_setGen bare5 rfl), st5, fun b hb => (f3 b hb).1.1, w0⟩
    exact main _ _ _ _ rfl rfl rfl fun h => Heap.get?_push_size _ rfl
  cases hf : codeAmong gpos ps.toList with
  | none =>
    refine wpAny_genexprCodeX hcode (cd.code hPs ht) (cd.tab hPs) hf fun c' h' tk hx hge hlt hco' _ htab' _ => ?_
    obtain ⟨o1, vs, f1, tf, fl, tg1, inF, tx, tt, op, _, _, _, _, _, _, _, _, _, htr, _⟩ := hco'
    exact cont _ h' tk _ hx htab'.2 ⟨_, rfl⟩ htr
  | some cv =>
    refine wpAny_genexprCode_hit hcode (cd.code hPs ht) hf ?_
    exact cont cv s2.heap s2.toks ps (Heap.ExtBut.refl _ _) hPs ⟨#[], by simp⟩ ht
end
end DL

set_option Elab.async false
set_option linter.all false
set_option maxRecDepth 100000
set_option maxHeartbeats 4000000
/-! DLn: all(..) as data. -/
namespace DL
open PySem PySem.Spec L2
open PyProof.Rows hiding St

section
variable {F : Fx} {X : Cx} {H H' H1 H2 : Hp} {O O' O1 O2 : Addr → Prop} {σ σ' σ2 : St} {s s' s1 s2 : S} {Q : VK} {t : TE} {f g : DE} {v : V} {d : D} {vs : List Nat} {e2 : List Sl} {P : Addr} {m : Pm} {δ : Option Addr} {c : List Int}
theorem code_nt {c : Addr} {q : Str} : ¬ isTbl (LamX.CodeO c q) := fun ⟨ps, h⟩ => by
  unfold LamX.CodeO at h
  cases h
theorem tab_keep (h1 : GxR.TabG H P) (h2 : GxR.Tabbed P H H') {a : Addr} {o : HO} (n : ¬ isTbl o) (e : H a = some o) : H' a = some o := by
  rw [h2.2 a (fun z => by
    obtain ⟨ps, q, _⟩ := h1
    rw [z, q] at e
    cases e
    exact n ⟨_, rfl⟩)]
  exact e
theorem Tb.tab {T : List (Addr × Option Str)} (t : Tb T H) (hu : ∀ p ∈ T, p.1 = P → p.2 = none) (h1 : GxR.TabG H P) (h2 : GxR.Tabbed P H H') : Tb T H' := fun p hp => by
  have q := t p hp
  by_cases hP : p.1 = P
  · unfold TabP
    rw [hu p hp hP, hP]
    exact h2.1
  · unfold TabP at q ⊢
    split
    · rename_i e
      rw [e] at q
      obtain ⟨ps, z, r⟩ := q
      exact ⟨ps, by rw [h2.2 _ hP]; exact z, r⟩
    · rename_i nm e
      rw [e] at q
      obtain ⟨ps, z, r, w⟩ := q
      exact ⟨ps, by rw [h2.2 _ hP]; exact z, r, fun pos cv hc => let ⟨c, e1, e2⟩ := w pos cv hc; ⟨c, e1, tab_keep h1 h2 code_nt e2⟩⟩
theorem Wd.tabbed (w : Wd m δ H O c) (hu : ∀ p ∈ m.T, p.1 = P → p.2 = none) (h1 : GxR.TabG H P) (h2 : GxR.Tabbed P H H') : Wd m δ H' O c :=
  ⟨fun a z => let ⟨xs, q⟩ := w.src a z; ⟨xs, tab_keep h1 h2 nt_lst q⟩, fun a z => let ⟨q, r⟩ := w.cel a z; ⟨q, tab_keep h1 h2 nt_lst r⟩, Tb.tab w.tab hu h1 h2⟩
theorem tab_stF (h1 : GxR.TabG H P) (h2 : GxR.Tabbed P H H') : StF δ H O H' O :=
  ⟨fun a o _ n e => tab_keep h1 h2 n e, fun a z => by
    by_cases hP : a = P
    · obtain ⟨ps, q, _⟩ := h2.1
      rw [hP, q]
      simp
    · rw [h2.2 a hP]
      exact z, fun _ z => .inl z, fun _ z => z⟩
theorem Est.tabbed (I : Est F σ H O s) (hu : ∀ p ∈ F.m.T, p.1 = P → p.2 = none) (h1 : GxR.TabG H P) (h2 : GxR.Tabbed P H H') : Est F σ H' O s :=
  I.call (tab_stF h1 h2) (I.wd.tabbed hu h1 h2)

def allL (g : D → S → Option S) (te : DE) (vs : List Nat) : List D → S → RE
  | [], s => .ok (.val (.bool true)) s
  | d :: ds, s => match g d { s with e := wipeE s.e vs } with
    | none => .stuck
    | some s1 => match te s1 with
      | .ok (.val (.bool true)) s2 => allL g te vs ds { s2 with e := mg vs s.e s2.e }
      | .ok (.val (.bool false)) s2 => .ok (.val (.bool false)) { s2 with e := mg vs s.e s2.e }
      | _ => .stuck
def eAll (vs : List Nat) (f : DA) (g : D → S → Option S) (te : DE) : DE := fun s => match f s with
  | .ok ds s1 => match allL g te vs ds s1 with
    | .ok (.val d) s2 => .ok (.val d) s2
    | _ => .stuck
  | .er e c => .er e c
  | .stuck => .stuck
theorem all_sound {wi : TI} {gt : TG} {te : TE} {vs : List Nat} {f : DA} {g : D → S → Option S} {fe : DE} (hu : ∀ p ∈ F.m.T, p.1 = P → p.2 = none) (hT : (P, none) ∈ F.m.T) (si : ∀ σ H O s R, Est F σ H O s → KI F σ H O s R (f s) → wi σ H R)
    (sg : ∀ v d σ H O s s' Q, Est F.no σ H O s → RepD F.m.K H O F.δ v d → g d s = some s' → (∀ σ', Est F.no σ' H O s' → L2.wipe σ' vs = L2.wipe σ vs → Q σ' H) → gt v σ H Q)
    (pg : ∀ d s s', g d s = some s' → s'.e.length = s.e.length ∧ s'.c = s.c ∧ (∀ j, j ∉ vs → s'.e[j]? = s.e[j]?) ∧ ∀ (j : Nat) (xs : List D), s'.e[j]? = some (Sl.own xs) → s.e[j]? = some (Sl.own xs))
    (se : SE F.no te fe) : SE F (tAllG P wi gt te vs) (eAll vs f g fe) := by
  intro σ H O s Q I k
  refine si σ H O s _ I ?_
  unfold eAll at k
  cases q : f s with
  | stuck => rw [q] at k; exact k
  | er e c => rw [q] at k; exact k
  | ok ds s1 =>
    simp only [q] at k
    intro J Pi H1 O1 st1 I1 W w1
    have tg : GxR.TabG H1 P := I1.wd.tab (P, none) hT
    refine ⟨tg, fun H2 h2 => ?_⟩
    have I2 := I1.tabbed hu tg h2
    have st2 : StF F.δ H1 O1 H2 O1 := tab_stF tg h2
    have w2 := W.keep H1 O1 s1.c H2 O1 I1.wd w1 (st2.stS I1.wd)
    cases qa : allL g fe vs ds s1 with
    | stuck => simp only [qa] at k; exact k.elim
    | er e c => simp only [qa] at k; exact k.elim
    | ok y9 s9 =>
      simp only [qa] at k
      cases y9 with
      | un => exact k.elim
      | own xs => exact k.elim
      | nst _ => exact k.elim
      | ali _ _ => exact k.elim
      | val d9 =>
        simp only at k
        refine ⟨fun i m H => m = ds.length - i ∧ i ≤ ds.length ∧ ∃ O s, Est F σ H O s ∧ StE F.δ σ H1 O1 s1.e H O s.e ∧ Pi H O ∧ allL g fe vs (ds.drop i) s = .ok (.val d9) s9,
          ⟨ds.length, by simp, Nat.zero_le _, O1, s1, I2, st2.toE, w2, by simpa using qa⟩, ?_⟩
        rintro i m H3 ⟨rfl, hi, O3, s3, I3, st3, p3, qa3⟩
        by_cases hlt : i < ds.length
        · refine .inr ⟨by omega, W.go i H3 O3 s3.c hlt I3.wd p3, fun H => ∃ O s, Est F σ H O s ∧ StE F.δ σ H1 O1 s1.e H O s.e ∧ Pi H O ∧ allL g fe vs (ds.drop (i + 1)) s = .ok (.val d9) s9,
            fun H' h => ⟨ds.length - (i + 1), by omega, rfl, hlt, h⟩, fun x H4 y => ?_⟩
          obtain ⟨ex, rx⟩ := W.yld i H3 O3 s3.c x H4 ds[i] I3.wd p3 y (List.getElem?_eq_getElem hlt)
          rw [List.drop_eq_getElem_cons hlt] at qa3
          have I4 := I3.ext ex
          have st4 := st3.trans (ex.stF (δ := F.δ) (O := O3)).toE
          have p4 := W.keep H3 O3 s3.c H4 O3 I3.wd p3 (ex.stF.stS I3.wd)
          unfold allL at qa3
          cases qg : g ds[i] { s3 with e := wipeE s3.e vs } with
          | none => rw [qg] at qa3; cases qa3
          | some s5 =>
            simp only [qg] at qa3
            obtain ⟨c1, c2, c3, c4⟩ := pg _ _ _ qg
            refine sg x ds[i] (L2.wipe σ vs) H4 O3 { s3 with e := wipeE s3.e vs } s5 _ (I4.wipe vs).no rx qg fun σ5 I5 hw5 => ?_
            have hw : L2.wipe σ5 vs = L2.wipe σ vs := hw5.trans wipe_idem
            have hl5 : s5.e.length = s3.e.length := by rw [c1, wipeE_len]
            have ho5 : ∀ j, j ∉ vs → s5.e[j]? = s3.e[j]? := fun j hj => by rw [c3 j hj]; exact wipeE_out hj
            have hi5 : ∀ j xs, j ∈ vs → s5.e[j]? ≠ some (.own xs) := fun j xs hj h => by cases wipeE_in hj (c4 j xs h)
            refine ⟨hw, se.use I5 ?_⟩
            cases qe : fe s5 with
            | stuck => rw [qe] at qa3; cases qa3
            | er e c => rw [qe] at qa3; cases qa3
            | ok y6 s6 =>
              simp only [qe] at qa3
              intro v6 H6 O6 st6 I6 r6
              obtain ⟨J1, J2⟩ := I4.back hw hl5 ho5 hi5 st6 I6.yes
              split at qa3
              · rename_i s6' e6
                cases e6
                cases r6.bool_inv
                refine ⟨true, rfl, ?_⟩
                rw [if_pos rfl]
                exact ⟨O6, _, J1, st4.trans J2, W.keep H4 O3 s3.c H6 O6 I4.wd p4 (st6.stS I4.wd), qa3⟩
              · rename_i s6' e6
                cases e6
                cases r6.bool_inv
                refine ⟨false, rfl, ?_⟩
                rw [if_neg Bool.false_ne_true]
                cases qa3
                exact k (.bl false) H6 O6 (st1.trans (st4.trans J2)) J1 (.bl false)
              · cases qa3
        · have e : i = ds.length := by omega
          subst e
          rw [List.drop_length] at qa3
          cases qa3
          exact .inl ⟨W.stop H3 O3 _ I3.wd p3, k (.bl true) H3 O3 (st1.trans st3) I3 (.bl true)⟩
section
variable {elt tg iter : Expr} {scope : Scope} {own : List (Str × Nat)} {p pos gpos : Pos} {fi : DA} {gt : D → S → Option S} {fe : DE} {k : Nat} {c : Addr}
theorem e_all (hc : X.calm = true) (hnd : X.N.Nodup) (hr : Room (k + 1) X.A) (hg : Gl X "all") (hm : X.mg "all" = none) (TB : GxR.TabB X.base X.mg c P) (hcode : X.env.code = .ref c) (hu : ∀ p ∈ F.m.T, p.1 = P → p.2 = none) (hT : (P, none) ∈ F.m.T)
    (ok : GenOk X.N X.env.scope scope own) (hi : IO F X tg iter fi)
    (hpg : ∀ (s : Shared) (H : Hp) (C : Addr) (cl : List (Str × Addr)) (code : Value) (bi : Addr) (fp : List Addr) (A : Around), GC F.no (gen X s H (genEnv scope cl C code bi X.env) fp A) tg (own.map (·.2)) gt)
    (hl : ∀ d s s', gt d s = some s' → s'.e.length = s.e.length ∧ s'.c = s.c ∧ (∀ j, j ∉ own.map (·.2) → s'.e[j]? = s.e[j]?) ∧ ∀ (j : Nat) (xs : List D), s'.e[j]? = some (Sl.own xs) → s.e[j]? = some (Sl.own xs))
    (hpe : ∀ (s : Shared) (H : Hp) (C : Addr) (cl : List (Str × Addr)) (code : Value) (bi : Addr) (fp : List Addr) (A : Around), Room k A → EO F.no (gen X s H (genEnv scope cl C code bi X.env) fp A) elt fe)
    (hs : ∀ v, genFold iter X.env v = pure v := by intro _; rfl) (he : starEach [.GeneratorExp elt [⟨tg, iter, [], 0⟩] scope gpos] X.env = (false, eval (.GeneratorExp elt [⟨tg, iter, [], 0⟩] scope gpos) X.env) :: starEach [] X.env := by rfl) :
    EO F X (.Call (.Name "all" p) [.GeneratorExp elt [⟨tg, iter, [], 0⟩] scope gpos] [] pos) (eAll (own.map (·.2)) fi gt fe) := by
  obtain ⟨wi, pi, si⟩ := hi
  exact ⟨_, pe_allG hc hnd hr hg hm TB hcode ok pi (fun s H C cl code bi fp A => (hpg s H C cl code bi fp A).can) (fun s H C cl code bi fp A r => (hpe s H C cl code bi fp A r).can) hs he,
    all_sound hu hT si (fun v d σ H O s s' Q I r e k => ⟨O, s, s', d, I, r, e, k⟩) hl canE_s⟩
end
end
end DL

set_option Elab.async false
set_option linter.all false
set_option maxRecDepth 100000
set_option maxHeartbeats 4000000
/-! DLo: a lambda handed to a def that calls it and tells the refused name. -/
namespace DL
open PySem PySem.Spec L2
open PyProof.Rows hiding St
open LamX hiding takes0

/-- the table at P may have grown, and a code object come; all else stands -/
def TStep (P : Addr) (H H' : Hp) : Prop := (∃ ps, H' P = some (.tbl ps)) ∧ ∀ b o, b ≠ P → H b = some o → H' b = some o
section
variable {X : Cx} {pins : List (Addr × Obj)} {σ : St} {H : Hp} {s : Shared}
theorem lam_made {c P : Addr} {params : Arguments} {body : Expr} {scope : Scope} {pos : Pos} {E : Value → Shared → Prop} {Q : Value → Shared → Prop} (I : Inv X pins σ H s) (TB : LamX.TabB X.base X.mg c P) (hcode : X.env.code = .ref c)
    (hT : TabS H P (X.env.qual ++ "<lambda>")) (hdef : defaultsOf params X.env = ([], [])) (hfree : ∀ y ∈ scope.names, y.2 = .free → ∃ c, X.env.cells.lookup y.1 = some c)
    (h : ∀ (f c' : Addr) (pm ctv : Value) (H1 : Hp) (s' : Shared), Inv X pins σ H1 s' → TStep P H H1 → TabS H1 P (X.env.qual ++ "<lambda>") →
      s'.heap.get? f = some (PySem.W.kla_obj "<lambda>" (X.env.qual ++ "<lambda>") params body scope (cloFrom X.env.cells scope.names []) pm c' ctv) → H1 f = none → f ∉ frs X.stack → H1 c' = some (CodeO c' (X.env.qual ++ "<lambda>")) → Q (.ref f) s') :
    wpAny (model X.prog X.w) X.A (eval (.Lambda params body scope pos) X.env) Q E s := by
  obtain ⟨ps, e0, ht, ha⟩ := hT
  have hT : TabS H P (X.env.qual ++ "<lambda>") := ⟨ps, e0, ht, ha⟩
  refine PySem.W.kla_eval hdef ?_
  have eP : s.heap.get? P = some { cls := .none, data := .fields ps } := I.hok P _ e0
  have young : ∀ f, s.heap.objs.size ≤ f → f ∉ frs X.stack := fun f hf z => by
    rcases List.mem_cons.mp (I.stkSub _ z) with y | y
    · have l := I.lt
      rw [← y] at l
      exact absurd (Nat.lt_of_lt_of_le l hf) (Nat.lt_irrefl _)
    · exact I.nofs hf y
  cases hc : codeAmong pos ps.toList with
  | none =>
    refine PySem.W.kla_makeFunction (mg := X.mg) (c := c) (P := P) (ps := ps) (closure_ok hfree) I.ok.glob (I.mod.glob.keeps I.bk) hcode (TB.code.keeps I.bk) eP ht hc TB.gP (TB.bm.keeps I.bk) fun c1 ctv h1 tk hx hge hlt hrec htb => ?_
    obtain ⟨c2, oc, vs, t, e2, hoc, hd, hv⟩ := hrec
    cases e2
    have hsz : s.heap.objs.size ≤ h1.objs.size := Nat.le_trans hge (Nat.le_of_lt hlt)
    have n1 : H c1 = none := I.hok.fresh hge
    have J := inv_table (t' := tk) (q := X.env.qual ++ "<lambda>") (c := c1) (more := #[rawInt pos.line, rawInt pos.col, .ref c1]) (h' := h1.push (PySem.W.kla_obj "<lambda>" (X.env.qual ++ "<lambda>") params body scope (cloFrom X.env.cells scope.names []) ((X.mg "__name__").getD .none) c1 ctv)) I e0
      (fun b o hb z => Heap.get?_push_of_some _ (hx b o hb z)) (Heap.get?_push_of_some _ htb) hge ⟨oc, vs, t, Heap.get?_push_of_some _ hoc, hd, hv⟩
    have nPc : P ≠ c1 := ne_of_none e0 n1
    have st : ∀ b o, b ≠ P → H b = some o → (upd (upd H P (.tbl (ps ++ #[rawInt pos.line, rawInt pos.col, .ref c1]))) c1 (CodeO c1 (X.env.qual ++ "<lambda>"))) b = some o := fun b o hb z => by
      rw [upd_ne (ne_of_none z n1), upd_ne hb]
      exact z
    have at_P : (upd (upd H P (.tbl (ps ++ #[rawInt pos.line, rawInt pos.col, .ref c1]))) c1 (CodeO c1 (X.env.qual ++ "<lambda>"))) P = some (.tbl (ps ++ #[rawInt pos.line, rawInt pos.col, .ref c1])) := by rw [upd_ne nPc, upd_same]
    have lst : (ps ++ #[rawInt pos.line, rawInt pos.col, .ref c1]).toList = ps.toList ++ [rawInt pos.line, rawInt pos.col, .ref c1] := by simp
    refine h h1.objs.size c1 ((X.mg "__name__").getD .none) ctv _ _ J ⟨⟨_, at_P⟩, st⟩ ⟨_, at_P, by rw [lst]; exact PySem.TriplesOk_snoc _ _ _ _ ht, fun p1 cv hcv => ?_⟩ (Heap.get?_push_size _ rfl) ?_ (young _ hsz) upd_same
    · rw [lst] at hcv
      rcases among_app _ ht hcv with z | z
      · obtain ⟨c0, z1, z2⟩ := ha p1 cv z
        refine ⟨c0, z1, st _ _ (fun y => ?_) z2⟩
        rw [y, e0] at z2
        exact codeO_ne _ (Option.some.inj z2).symm
      · exact ⟨c1, z, upd_same⟩
    · rw [upd_ne (Nat.ne_of_gt hlt), upd_ne (Nat.ne_of_gt (Nat.lt_of_lt_of_le (Heap.lt_size eP) hsz))]
      exact I.hok.fresh hsz
  | some cv =>
    obtain ⟨c1, z, hco⟩ := ha pos cv hc
    subst z
    refine PySem.W.kla_makeFunctionHit (mg := X.mg) (c := c) (P := P) (ps := ps) (closure_ok hfree) I.ok.glob (I.mod.glob.keeps I.bk) hcode (TB.code.keeps I.bk) eP ht hc (TB.bm.keeps I.bk) fun ctv h1 tk hx hsz => ?_
    have J : Inv X pins σ H { s with heap := h1.push (PySem.W.kla_obj "<lambda>" (X.env.qual ++ "<lambda>") params body scope (cloFrom X.env.cells scope.names []) ((X.mg "__name__").getD .none) c1 ctv), toks := tk } := I.kept fun b o y => Heap.get?_push_of_some _ (hx b o y)
    exact h h1.objs.size c1 ((X.mg "__name__").getD .none) ctv H _ J ⟨⟨ps, e0⟩, fun _ _ _ y => y⟩ hT (Heap.get?_push_size _ rfl) (I.hok.fresh hsz) (young _ hsz) hco
end
def tLamD (P : Addr) (q : Str) (TT : (XK → Hp → VK → Prop) → Hp → VK → Prop) (t : XK → TE) : TE := fun σ H Q => TabS H P q ∧ ∀ H1, TStep P H H1 → TabS H1 P q → TT (fun E H' Q' => t E σ H' Q') H1 Q
section
variable {X : Cx}
/-- x(lambda: body) -/
theorem pe_lamD {TT : (XK → Hp → VK → Prop) → Hp → VK → Prop} {x a : Str} {g c P : Addr} {k : Nat} {pg : Arguments} {bg : List Stmt} {sg : Scope} {dV kV doc pm cdv ct oc : Value} {an od : Option Addr} {osl : Array (Option Value)} {Ng : List Str}
    {params : Arguments} {body : Expr} {scope : Scope} {t : XK → TE} {p lpos pos : Pos} (hg : Gl X x) (hm : X.mg x = some (.ref g)) (hk : PySem.W.keepIn X.K (.ref g) = true)
    (lk : X.K.lookup g = some ⟨oc, od, .func (PySem.W.fnOf x x pg bg sg dV kV doc pm an cdv ct), osl⟩) (hcg : PySem.W.codeIn X.K cdv x = true) (hb : L2.Binds X.K (PySem.W.fnOf x x pg bg sg dV kV doc pm an cdv ct) [a] []) (Sg : FnScope Ng [a] sg) (hNg : Ng[0]? = some a) (hva : Vis sg a)
    (hG : GivesTo X Ng x sg g cdv bg a (X.env.qual ++ "<lambda>") TT)
    (TB : LamX.TabB X.base X.mg c P) (hcode : X.env.code = .ref c) (hr : Room (k + 2) X.A) (L : LamS X.env.scope scope) (hdef : defaultsOf params X.env = ([], []))
    (hbind : ∀ (q : Str) (cl : List (Str × Addr)) (pm cv ctv : Value), bindArgs (PySem.W.kla_fn "<lambda>" q params body scope cl pm cv ctv) ⟨[], []⟩ = pure [])
    (hbody : ∀ (A : Around) (outer : List Env) (s : Shared) (H : Hp) (E : XK) (f c' : Addr), Room k (A.deeper (lamEnv X scope s.heap.objs.size f c')) → PE (lamCx X A outer s H E scope f c') body (t E))
    (hdb : (x == ("__debug__" : Str)) = false := by decide) (hd : (a == ("__debug__" : Str)) = false := by decide) (hcd : (a == ("__classdict__" : Str)) = false := by decide) :
    PE X (.Call (.Name x p) [.Lambda params body scope lpos] [] pos) (tLamD P (X.env.qual ++ "<lambda>") TT t) := by
  refine ⟨fun pins s σ H Q I ⟨hT, h⟩ => ?_⟩
  refine wpAny_Call_Name_kw (ld_glob I hg hm ?_ hdb)
  refine PySem.W.callWith_K (h₀ := X.base) I.ok.mod.kin hk ?_ (by rfl) (by rfl)
  show wpAny _ _ (spliced ((false, eval (.Lambda params body scope lpos) X.env) :: backTo pos (starEach [] X.env))) _ _ s
  refine Calls.spliced_cons (lam_made I TB hcode hT hdef (L.has I.ok) fun f c' pm' ctv H1 s' I1 eN T1 hf hfn hfr hco => ?_)
  refine Calls.spliced_nil ⟨I1.kIn, ?_⟩
  have rc : codeAny (model X.prog X.w) X.A (.call (.ref g) ⟨[.ref f], []⟩) (CR C8.CX0 X.stack X.prog X.w H1 s' Q C8.E0) s' := by
    refine run_ofS (N := Ng) (ps := [a]) (us := [.ref f]) (vs := [.ref f]) lk hcg Sg hr I1.env0 (hb s' [.ref f] I1.kIn rfl) (.cons rfl .nil) rfl fun hr' => ?_
    obtain ⟨t', ht', hq'⟩ := hG f c' s' H1 Q (fun E H' Q' => t E σ H' Q') (fun W pn xe E p1 p2 tk hW => pe_act (i := 0) I1 L hf hfn hfr (hbind _ _ _ _ _) tk hW hr' (fun A outer s H hr2 => hbody A outer s H E f c' hr2) hNg hva hd hcd) hco (h H1 eN T1)
    exact ⟨t', ht'.nox, hq'⟩
  refine wpAny_call (codeAny_mono rc fun r s2 hq => ?_)
  cases r with
  | error e => exact (show False from hq).elim
  | ok fl =>
    cases fl with
    | ret u => exact I1.after hq
    | next => exact False.elim hq
    | brk => exact False.elim hq
    | cont => exact False.elim hq
theorem takes_len {X : Cx} {W : WX} {l : Nat} (hl : X.N.length = l) (tk : Takes X W) : Takes X fun cls d σ H => σ.length = l → W cls d σ H := fun u s' ⟨a, B, sI, pins, σ, H, cls, d, e, I, nb, up, sky, na, os, ag, w⟩ =>
  tk u s' ⟨a, B, sI, pins, σ, H, cls, d, e, I, nb, up, sky, na, os, ag, w (I.len.trans hl)⟩
/-- try: a() / except e as n: return n.name; return '' -/
def TRef (C : Addr) : (XK → Hp → VK → Prop) → Hp → VK → Prop := fun tl H Q =>
  tl (fun cls d H' => cls = .ref C ∧ ∃ (dd : Addr) (fs : List (Str × V)) (v : V), d = some dd ∧ H' dd = some (.xd fs) ∧ fs.lookup ("name" : Str) = some v ∧ Q v H') H fun _ H' => Q (.str "") H'
theorem ref_gives {x a e n q : Str} {sg : Scope} {g C : Addr} {cdg : Value} {j : Nat} {p1 p2 p3 p4 p5 p6 p7 p8 p9 p10 p11 : Pos} (hge : sg.names.lookup e = some .globalImplicit) (hme : X.mg e = some (.ref C)) (hde : (e == ("__debug__" : Str)) = false) (hnd : [a, n].Nodup) (hln : sg.names.lookup n = some .local)
    (hdn : (n == ("__debug__" : Str)) = false) (hcn : (n == ("__classdict__" : Str)) = false) (xm : PySem.W.exmOne X.K (.ref C) (.ref C) = some true) (XF : XfC X.K C) (hno : PySem.W.findIn X.K (.ref C) "name" = some none) :
    GivesTo X [a, n] x sg g cdg [.Try [.Expr (.Call (.Name a p1) [] [] p2) p3] [.ExceptHandler (some (.Name e p4)) (some n) [.Return (some (.Attribute (.Name n p5) "name" p6)) p7] p8] [] [] p9, .Return (some (.Constant (.str "") j p10)) p11] a q (TRef C) := by
  intro f c' s H Q tl act hc h
  have hgl : Gl (cxOf C8.CX0 X.prog X.w X.K X.mg X.base [a, n] x sg g cdg X.A X.stack s H C8.E0).nox e := hge
  refine ⟨_, pss_cons (ps_try_as (X := (cxOf C8.CX0 X.prog X.w X.K X.mg X.base [a, n] x sg g cdg X.A X.stack s H C8.E0).nox) (i := 1) (c := .ref C)
      (tb := fun W D σ H => ∃ Ech : XK, (∀ cls d σ' H', σ'.length = 2 → Ech cls d H' → W cls d σ' H') ∧ σ[0]? = some (some (.ref f)) ∧ H c' = some (CodeO c' q) ∧ tl Ech H fun _ H' => D.nx σ H')
      rfl rfl hnd rfl hln ⟨hgl, hde, .inl hme⟩ LamX.takes0 (fun W pn xe tk _ => ?_) (fun ax oe cls d pn hz hf => pss_one (ps_ret (pe_xf XF hno hz hf (pe_var (i := 1) rfl (.inl hln) hdn hcn))))) (pss_one (ps_ret pe_str)), ?_⟩
  · refine ⟨fun pins s' σ H' D I h' => ?_⟩
    obtain ⟨Ech, hW, h1, h2, h3⟩ := h'
    have hp := act (fun cls d σ H => σ.length = 2 → W cls d σ H) pn xe Ech p1 p2 (takes_len rfl tk) fun cls d σ' H' z l => hW cls d σ' H' l z
    have hq := pss_one (ps_expr (pos := p3) hp)
    exact hq.run pins s' σ H' D I ⟨h1, h2, h3⟩
  · refine ⟨fun cls d H' => cls = .ref C ∧ ∃ (dd : Addr) (fs : List (Str × V)) (v : V), d = some dd ∧ H' dd = some (.xd fs) ∧ fs.lookup ("name" : Str) = some v ∧ Q v H', fun cls d σ' H' hl ⟨e1, dd, fs, v, e2, e3, e4, q4⟩ => ?_, rfl, hc, h⟩
    subst e1
    refine ⟨true, xm, fun _ ax hax => ?_, fun z => by cases z⟩
    exact ⟨.ref ax, by rw [List.getElem?_set_self (by omega)], rfl, rfl, dd, fs, v, e2, e3, e4, q4⟩
end
end DL

set_option Elab.async false
set_option linter.all false
set_option maxRecDepth 100000
set_option maxHeartbeats 4000000
/-! DLp: the refused lambda as data. -/
namespace DL
open PySem PySem.Spec L2
open PyProof.Rows hiding St
open LamX hiding takes0

section
variable {F : Fx} {X : Cx} {H H' H1 H2 : Hp} {O O' O1 O2 : Addr → Prop} {σ σ' σ2 : St} {s s' s1 s2 : S} {Q : VK} {P : Addr} {m : Pm} {δ : Option Addr} {c : List Int} {q : Str}
theorem ts_keep (h1 : TabS H P q) (h2 : TStep P H H') {a : Addr} {o : HO} (n : ¬ isTbl o) (e : H a = some o) : H' a = some o :=
  h2.2 a o (fun z => by
    obtain ⟨ps, y, _⟩ := h1
    rw [z, y] at e
    cases e
    exact n ⟨_, rfl⟩) e
theorem ts_stF (h1 : TabS H P q) (h2 : TStep P H H') : StF δ H O H' O :=
  ⟨fun a o _ n e => ts_keep h1 h2 n e, fun a z => by
    by_cases hP : a = P
    · obtain ⟨ps, y⟩ := h2.1
      rw [hP, y]
      simp
    · cases y : H a with
      | none => exact absurd y z
      | some o => rw [h2.2 a o hP y]; simp, fun _ z => .inl z, fun _ z => z⟩
theorem Wd.stepped (w : Wd m δ H O c) (hu : ∀ p ∈ m.T, p.1 = P → p.2 = some q) (h1 : TabS H P q) (h2 : TStep P H H') (h3 : TabS H' P q) : Wd m δ H' O c :=
  ⟨fun a z => let ⟨xs, y⟩ := w.src a z; ⟨xs, ts_keep h1 h2 nt_lst y⟩, fun a z => let ⟨y, r⟩ := w.cel a z; ⟨y, ts_keep h1 h2 nt_lst r⟩, fun p hp => by
    have t := w.tab p hp
    by_cases hP : p.1 = P
    · unfold TabP
      rw [hu p hp hP, hP]
      exact h3
    · unfold TabP at t ⊢
      split
      · rename_i e
        rw [e] at t
        obtain ⟨ps, z, r⟩ := t
        exact ⟨ps, h2.2 _ _ hP z, r⟩
      · rename_i nm e
        rw [e] at t
        obtain ⟨ps, z, r, w⟩ := t
        exact ⟨ps, h2.2 _ _ hP z, r, fun pos cv hc => let ⟨c, e1, e2⟩ := w pos cv hc; ⟨c, e1, ts_keep h1 h2 code_nt e2⟩⟩⟩
def hide : Sl → Sl
  | .val d => .val d
  | _ => .un
def S.hide (s : S) : S := ⟨s.e.map DL.hide, s.c⟩
theorem hide_own {e : List Sl} {i : Nat} {xs : List D} : (e.map DL.hide)[i]? ≠ some (.own xs) := fun h => by
  rw [List.getElem?_map] at h
  cases z : e[i]? with
  | none => rw [z] at h; cases h
  | some x => rw [z] at h; cases x <;> cases h
theorem hide_val {e : List Sl} {i : Nat} {d : D} (h : (e.map DL.hide)[i]? = some (.val d)) : e[i]? = some (.val d) := by
  rw [List.getElem?_map] at h
  cases z : e[i]? with
  | none => rw [z] at h; cases h
  | some x => rw [z] at h; cases x <;> cases h; rfl
theorem hide_plain {e : List Sl} {i : Nat} {x : Sl} (h : (e.map DL.hide)[i]? = some x) : plainS x ∨ x = .un := by
  rw [List.getElem?_map] at h
  cases z : e[i]? with
  | none => rw [z] at h; cases h
  | some x => rw [z] at h; cases x <;> cases h <;> first | exact .inr rfl | exact .inl trivial
/-- seen from the lambda -/
theorem Est.seen (I : Est F σ H O s) {E : XK} (hs : ∀ a, O a → H a ≠ none) : Est (fxOf F.m F.δ H O E hs) σ H O s.hide :=
  ⟨I.wd, ⟨by show σ.length = (s.e.map DL.hide).length; rw [List.length_map]; exact I.env.len, fun i d h => I.env.vals i d (hide_val h), fun i xs h => (hide_own h).elim, fun i j a xs ys _ h => (hide_own h).elim⟩, .refl, ⟨fun i xss h => (hide_plain h).elim False.elim (fun z => by cases z), fun i j xss yss h => (hide_plain h).elim False.elim (fun z => by cases z), fun j i k xss a qs h => (hide_plain h).elim False.elim (fun z => by cases z)⟩⟩
def eRef (j : Nat) (f : DE) : DE := fun s => match f s.hide with
  | .ok _ s1 => .ok (.val (.str "")) { s with c := s1.c }
  | .er ⟨k, [(n, .str y)]⟩ c => if k = j ∧ n = ("name" : Str) then .ok (.val (.str y)) { s with c := c } else .stuck
  | _ => .stuck
section
variable {k j : Nat} {x a e n : Str} {g C c : Addr} {pg params : Arguments} {body : Expr} {bg : List Stmt} {sg scope : Scope} {dV kV doc pm cdv ct oc : Value} {an od : Option Addr} {osl : Array (Option Value)} {p lpos pos p1 p2 p3 p4 p5 p6 p7 p8 p9 p10 p11 : Pos} {jj : Nat} {fe : DE}
theorem e_ref (hg : Gl X x) (hm : X.mg x = some (.ref g)) (hk : PySem.W.keepIn X.K (.ref g) = true)
    (lk : X.K.lookup g = some ⟨oc, od, .func (PySem.W.fnOf x x pg [.Try [.Expr (.Call (.Name a p1) [] [] p2) p3] [.ExceptHandler (some (.Name e p4)) (some n) [.Return (some (.Attribute (.Name n p5) "name" p6)) p7] p8] [] [] p9, .Return (some (.Constant (.str "") jj p10)) p11] sg dV kV doc pm an cdv ct), osl⟩)
    (hcg : PySem.W.codeIn X.K cdv x = true) (hb : L2.Binds X.K (PySem.W.fnOf x x pg [.Try [.Expr (.Call (.Name a p1) [] [] p2) p3] [.ExceptHandler (some (.Name e p4)) (some n) [.Return (some (.Attribute (.Name n p5) "name" p6)) p7] p8] [] [] p9, .Return (some (.Constant (.str "") jj p10)) p11] sg dV kV doc pm an cdv ct) [a] [])
    (Sg : FnScope [a, n] [a] sg) (hva : Vis sg a)
    (hge : sg.names.lookup e = some .globalImplicit) (hme : X.mg e = some (.ref C)) (hde : (e == ("__debug__" : Str)) = false) (hnd : [a, n].Nodup) (hln : sg.names.lookup n = some .local)
    (hdn : (n == ("__debug__" : Str)) = false) (hcn : (n == ("__classdict__" : Str)) = false) (xm : PySem.W.exmOne X.K (.ref C) (.ref C) = some true) (XF : XfC X.K C) (hno : PySem.W.findIn X.K (.ref C) "name" = some none) (hcl : F.m.cl j = some C)
    (TB : LamX.TabB X.base X.mg c P) (hcode : X.env.code = .ref c) (hT : (P, some (X.env.qual ++ "<lambda>")) ∈ F.m.T) (hu : ∀ p ∈ F.m.T, p.1 = P → p.2 = some (X.env.qual ++ "<lambda>")) (hr : Room (k + 2) X.A) (L : LamS X.env.scope scope) (hdef : defaultsOf params X.env = ([], []))
    (hbind : ∀ (q : Str) (cl : List (Str × Addr)) (pm cv ctv : Value), bindArgs (PySem.W.kla_fn "<lambda>" q params body scope cl pm cv ctv) ⟨[], []⟩ = pure [])
    (hbody : ∀ (F' : Fx) (A : Around) (outer : List Env) (s : Shared) (H : Hp) (f c' : Addr), F'.m = F.m → Room k (A.deeper (lamEnv X scope s.heap.objs.size f c')) → EO F' (lamCx X A outer s H F'.E scope f c') body fe)
    (hdb : (x == ("__debug__" : Str)) = false := by decide) (hd : (a == ("__debug__" : Str)) = false := by decide) (hcd : (a == ("__classdict__" : Str)) = false := by decide) :
    EO F X (.Call (.Name x p) [.Lambda params body scope lpos] [] pos) (eRef j fe) := by
  refine ⟨_, pe_lamD (t := fun E σ H Q => ∃ (F' : Fx) (O : Addr → Prop) (s : S), F'.E = E ∧ F'.m = F.m ∧ Est F' σ H O s ∧ KE F' σ H O s Q (fe s)) hg hm hk lk hcg hb Sg rfl hva (ref_gives hge hme hde hnd hln hdn hcn xm XF hno) TB hcode hr L hdef hbind
    (fun A outer s H E f c' hr' => ⟨fun pins sh σ H3 Q I ⟨F', O1, s1, hE, hm', I', k'⟩ => ?_⟩) hdb hd hcd, fun σ H O s Q I h => ?_⟩
  · subst hE
    obtain ⟨t, pt, st⟩ := hbody F' A outer s H f c' hm' hr'
    exact pt.run pins sh σ H3 Q I (st σ H3 O1 s1 Q I' k')
  · have t0 : TabS H P (X.env.qual ++ "<lambda>") := I.wd.tab _ hT
    refine ⟨t0, fun H1 t1 t2 => ?_⟩
    have st1 : StF F.δ H O H1 O := ts_stF t0 t1
    have I1 : Est F σ H1 O s := I.call st1 (I.wd.stepped hu t0 t1 t2)
    have hs : ∀ a, O a → H1 a ≠ none := fun a z => by
      obtain ⟨xs, y⟩ := I1.wd.src a z
      rw [y]
      simp
    unfold eRef at h
    refine ⟨fxOf F.m F.δ H1 O (fun cls d H' => cls = .ref C ∧ ∃ (dd : Addr) (fs : List (Str × V)) (v : V), d = some dd ∧ H' dd = some (.xd fs) ∧ fs.lookup ("name" : Str) = some v ∧ Q v H') hs, O, s.hide, rfl, rfl, I1.seen hs, ?_⟩
    cases y : fe s.hide with
    | stuck => rw [y] at h; exact h.elim
    | ok x s1 =>
      rw [y] at h
      intro v H' O' st I' r
      have st2 : StF F.δ H1 O H' O' := ⟨st.keep, st.there, st.fresh, fun b z => st.stay b z fun ⟨i, xs, z1, _⟩ => hide_own z1⟩
      exact h (.str "") H' O' (st1.trans st2).toE (I1.call st2 I'.wd) (.str "")
    | er e c =>
      rw [y] at h
      split at h
      · rename_i z; cases z
      · rename_i k0 n0 y0 c0 z
        cases z
        split at h
        · rename_i z
          obtain ⟨z1, z2⟩ := z
          subst z1
          subst z2
          intro cls dd H' O' st w ⟨C', d', e1, e2, e3, e4⟩
          have e1 : F.m.cl k0 = some C' := e1
          rw [hcl] at e1
          cases e1
          refine ⟨e2, d', _, .str y0, e3, e4, by simp [List.lookup], ?_⟩
          exact h (.str y0) H' O' (st1.trans st).toE (I1.call st w) (.str y0)
        · exact h.elim
      · exact h.elim
end
end
end DL

set_option Elab.async false
set_option linter.all false
set_option maxRecDepth 100000
set_option maxHeartbeats 4000000
/-! DLq: the law's call of its turn, the law's end. -/
namespace DL
open PySem PySem.Spec L2
open PyProof.Rows hiding St

section
variable {F : Fx} {X : Cx} {H H' H1 H2 : Hp} {O O' O1 O2 : Addr → Prop} {σ σ' σ2 : St} {s s' s1 s2 : S} {Q : VK}
/-- f(e), e a new list of ints: it is the cell of the call -/
def eCell (G : Fn) (f : DE) : DE := fun s => match f s with
  | .ok (.own ds) s1 => match intsD ds with
    | some c => match G [dcell] c with
      | .ok (.val (.bool b)) _ => .ok (.val (.bool b)) s1
      | _ => .stuck
    | none => .stuck
  | .er e c => .er e c
  | _ => .stuck
section
variable {k : Nat} {fa : Addr} {fd : FuncData} {ps : List Str} {G : Fn} {x : Str} {p pos : Pos} {e : Expr} {fe : DE}
theorem e_cell (hδ : F.δ = none) (hP : FnOk X.prog X.w X.K X.mg X.base (L2.CX X.prog X.w) k fa fd ps (spD F.m 1 G)) (hr : Room k X.A) (hg : Gl X x) (hm : X.mg x = some (.ref fa)) (hk : PySem.W.keepIn X.K (.ref fa) = true) (hb : Binds X.K fd ps []) (hx : Passes (L2.CX X.prog X.w) X F.E)
    (he : EO F X e fe) (hdb : (x == ("__debug__" : Str)) = false := by decide) (hs : starEach [e] X.env = (false, eval e X.env) :: starEach [] X.env := by rfl) :
    EO F X (.Call (.Name x p) [e] [] pos) (eCell G fe) := by
  obtain ⟨te, pe, se⟩ := he
  refine ⟨_, pe_call hP hr hg hm hk hb .nil hx (pa_cons pe pa_nil hs) hdb hs rfl, fun σ H O s Q I h => ?_⟩
  refine se σ H O s _ I ?_
  unfold eCell at h
  cases q : fe s with
  | stuck => rw [q] at h; exact h
  | er e c => rw [q] at h; exact h
  | ok y s1 =>
    rw [q] at h
    cases y with
    | un => exact h.elim
    | val d => exact h.elim
    | nst _ => exact h.elim
    | ali _ _ => exact h.elim
    | own ds =>
      simp only at h
      intro v H1 O1 st I1 sx
      obtain ⟨a, vs, rfl, ha, hd, hH, hr1, hn⟩ := sx
      cases qi : intsD ds with
      | none => rw [qi] at h; exact h.elim
      | some c =>
        simp only [qi] at h
        have ev : vs = c.map V.int := by
          rw [intsD_eq qi] at hr1
          exact hr1.of_ints
        subst ev
        show spD F.m 1 G ([V.ref a] ++ []) H1 Q F.E
        have wd : Wd F.m (some a) H1 O1 c := ⟨I1.wd.src, fun b z => (by cases z; exact ⟨ha, hH⟩), I1.wd.tab⟩
        refine ⟨some a, O1, c, [dcell], rfl, wd, .cons (.cell rfl) .nil, ?_⟩
        cases qg : G [dcell] c with
        | stuck => rw [qg] at h; exact h.elim
        | er e c => rw [qg] at h; exact h.elim
        | ok z c2 =>
          rw [qg] at h
          cases z with
          | un => exact h.elim
          | own _ => exact h.elim
          | nst _ => exact h.elim
          | ali _ _ => exact h.elim
          | val z =>
            cases z with
            | bool b =>
              simp only at h
              intro v2 H2 O2 st2 w2 r2
              have r2 : RepD F.m.K H2 O2 (some a) v2 (.bool b) := r2
              have hmn : ¬ Mine σ s1.e a := fun z => by
                have := I.env.mine (st.mine a z)
                exact this hn
              have stS : StS H1 O1 H2 O2 := st2.stS wd
              have w0 : Wd F.m F.δ H2 O2 s1.c := ⟨w2.src, fun b z => (by rw [hδ] at z; cases z), w2.tab⟩
              have keepF : ∀ b o, b ≠ a → ¬ isTbl o → H1 b = some o → H2 b = some o := fun b o n t q => st2.keep b o (fun z => n (by cases z; rfl)) t q
              have stE : StE F.δ σ H1 O1 s1.e H2 O2 s1.e → StE F.δ σ H O s.e H2 O2 s1.e := fun z => st.trans z
              have keepH : ∀ b o, F.δ ≠ some b → ¬ isTbl o → H b = some o → H2 b = some o := fun b o n t q => keepF b o (fun z => by rw [z, hn] at q; cases q) t (st.keep b o n t q)
              have Hend : StE F.δ σ H O s.e H2 O2 s1.e := ⟨keepH, fun b z => st2.there b (st.there b z), fun b z => (st2.fresh b z).elim (st.fresh b) (fun n => .inr (by
                cases q : H b with
                | none => rfl
                | some o => exact absurd n (st.there b (by rw [q]; simp)))), fun b z n => st2.stay b (st.stay b z n), st.mine, st.nst, st.ali⟩
              have Iend : Est F σ H2 O2 s1 := ⟨w0, ⟨I1.env.len, fun i d q => let ⟨v, q1, q2⟩ := I1.env.vals i d q; ⟨v, q1, q2.stS stS I1.wd⟩, fun i xs q => ?_, I1.env.uniq⟩, ⟨fun b o n t q => keepF b o (fun z => ?_) t (I1.base.keep b o n t q), fun b z => st2.there b (I1.base.there b z), fun b z => (st2.fresh b z).elim (I1.base.fresh b) (fun n => .inr (by
                cases q : F.H0 b with
                | none => rfl
                | some o => exact absurd n (I1.base.there b (by rw [q]; simp)))), fun b z => st2.stay b (I1.base.stay b z)⟩, I1.nst.to (fun _ _ h => ⟨h, rfl⟩) (fun _ _ _ h => ⟨h, rfl⟩) (fun b us nb q => ⟨keepF b _ (fun z => I.nestN st hn (z ▸ nb)) nt_lst q, st2.stay b (I1.nst.of nb).1⟩) (fun _ _ r => r.stS stS I1.wd) fun _ _ h => h⟩
              · exact h v2 H2 O2 Hend Iend (by cases r2.bool_inv; exact .bl b)
              · obtain ⟨b, us, q1, q2, q3, q4, q5, q6⟩ := I1.env.owns i xs q
                exact ⟨b, us, q1, st2.stay b q2, q3, keepF b _ (fun z => hmn ⟨i, xs, q, by rw [← z]; exact q1⟩) nt_lst q4, q5.stS stS I1.wd, q6⟩
              · have h0 : F.H0 a = none := by
                  cases q0 : F.H0 a with
                  | none => rfl
                  | some o => exact absurd hn (I.base.there a (by rw [q0]; simp))
                rw [z, h0] at q
                cases q
            | _ => exact h.elim
end
end
end DL

set_option Elab.async false
set_option linter.all false
set_option maxRecDepth 100000
set_option maxHeartbeats 4000000
/-! DLr: the law's def, the law's end. -/
namespace DL
open PySem PySem.Spec L2
open PyProof.Rows hiding St

/-- the promise of law: the script alone, nothing changes -/
def spLaw (m : Pm) (G : Fn) : Sp := fun vs H Q E => ∃ v d, vs = [v] ∧ Wd m none H (fun _ => False) [] ∧ RepD m.K H (fun _ => False) none v d ∧ KF m none H (fun _ => False) Q E (G [d] [])
section
variable {P : Program} {w : World} {K : PySem.W.Frag} {mg : Str → Option Value} {base : Heap} {m : Pm} {x qual : Str} {st : Stmt} {f : Addr} {fd : FuncData} {N : List Str} {k l : Nat} {g : DS} {p0 : Str}
theorem okLaw (Fu : Fun K x qual st f fd) (Sc : FnScope N [p0] (defScope st)) (hK : m.K = K) (hl : N.length = l)
    (hb : ∀ (cdv : Value) (A : Around) (outer : List Env) (s : Shared) (H : Hp) (E : XK) (F : Fx), F.m = m → F.E = E → F.δ = none → Room k (A.deeper (envOfC qual (defScope st) s.heap.objs.size f cdv)) →
      BO F (cxOf (L2.CX P w) P w K mg base N qual (defScope st) f cdv A outer s H E) (defBody st) g) : FnOk P w K mg base (L2.CX P w) (k + 1) f fd [p0] (spLaw m (fnD l g)) := by
  subst hl
  refine Fu.okX Sc (fun vs H Q E h => ?_) fun cdv A outer s H vs Q E hr h => ?_
  · obtain ⟨v, d, rfl, _⟩ := h
    rfl
  obtain ⟨v, d, rfl, wd, r, h⟩ := h
  have hs : ∀ a, (fun _ : Addr => False) a → H a ≠ none := fun a z => z.elim
  obtain ⟨t, pt, sg⟩ := hb cdv A outer s H E (fxOf m none H (fun _ => False) E hs) rfl rfl rfl hr
  refine ⟨t, pt, sg _ _ H (fun _ => False) (startS N.length [d] []) (est_start wd (.cons r .nil) hs) ?_⟩
  unfold fnD at h
  cases q : g (startS N.length [d] []) with
  | nx s' =>
    rw [q] at h
    exact fun σ' H' O' _ I => h .non H' O' I.base I.wd .non
  | rt x c' =>
    rw [q] at h
    exact fun v H' O' st w' sx => h v H' O' st w' sx
  | er e c' =>
    rw [q] at h
    exact fun cls dd H' O' st w' er => h cls dd H' O' st w' er
  | bk s' => rw [q] at h; exact h.elim
  | ct s' => rw [q] at h; exact h.elim
  | stuck => rw [q] at h; exact h.elim
end
theorem repDs_ints {K : PySem.W.Frag} {H : Hp} {O : Addr → Prop} {δ : Option Addr} (ns : List Int) : RepDs K H O δ (ns.map V.int) (ns.map PyData.int) := RepDs.ints ns
theorem lawAt_dl {l : PySem.W.OpenLaw} {w : World} {K : PySem.W.Frag} {mg : Str → Option Value} {fa : Addr} {h : Heap} {k : Nat} {fd : FuncData} {x : Str} {G : Fn} (m : Pm) (cs : List (Addr × Addr)) (hK : m.K = K) (hT : ∀ t ∈ m.T, t.1 ∈ cs.map (·.2))
    (h1 : ∀ p ∈ cs, h.get? p.2 = some { cls := .none, data := .fields #[] }) (h2 : ∀ p ∈ cs, K.lookup p.2 = none) (h3 : ∀ p ∈ cs, PySem.W.CodeHd h p.1 p.2) (hb : ∀ (s : Shared) (u : Value), BindsTo s fd ⟨[u], []⟩ [(x, u)])
    (hF : ∀ base : Heap, K.In base → base.Ns mainGlobals mg → (∀ p ∈ cs, LamX.TabB base mg p.1 p.2) → FnOk l.prog w K mg base (L2.CX l.prog w) k fa fd [x] (spLaw m G))
    (hG : ∀ ns : List Int, ns.length ≤ 63 → (∀ z ∈ ns, Builtin.Int.intBits z ≤ 1048576) → ∃ c, G [dscr (ns.map .int)] [] = .ok (.val (.bool true)) c) : LamX.LawAtS l w K (L2.CX l.prog w) k 63 x mg fa h := by
  refine ⟨fd, cs, spLaw m G, h1, h2, h3, hb, fun H a ns hl hbits hH hS => ?_, hF⟩
  obtain ⟨c, e⟩ := hG ns hl hbits
  refine ⟨.ref a, dscr (ns.map .int), rfl, ⟨fun _ z => z.elim, fun a z => (by cases z), fun t ht => ?_⟩, .scr (vs := ns.map V.int) ?_ (RepDs.ints ns), ?_⟩
  · obtain ⟨p, hp, e⟩ := List.mem_map.mp (hT t ht)
    have q := hH p hp
    rw [e] at q
    unfold TabP
    split
    · exact ⟨#[], q, True.intro⟩
    · exact LamX.TabS.nil q
  · rcases hS with z | z
    · exact .inl ⟨z, fun q => q⟩
    · exact .inr (by rw [hK]; exact z)
  · rw [e]
    exact fun v H' O' st w' r => by cases (show RepD m.K H' O' none v (.bool true) from r); rfl
/-- the end -/
theorem walk_dl {l : PySem.W.OpenLaw} {n k : Nat} {q : Program} {loose : List Str} {XP : (Str → Option Value) → Heap → Prop} {YP : World → Heap → Prop} {d : DefRec} {K : Params → PySem.W.Frag} {x : Str}
    (hn : l.most = some n) (hn2 : n ≤ sizeLine) (hdf : d.params.defaults = []) (hr : Room k callerA) (hY : ∀ (w : World) (h : Heap), YP w h → (K w.params).In h)
    (F : ∀ (w : World) (mg : Str → Option Value) (fa : Addr) (h : Heap), (K w.params).In h → h.Ns mainGlobals mg → mg d.name = some (.ref fa) →
      (∀ (y : Str) (c P : Addr), ((recsOf q).find? fun e => e.name == y).isSome = true → PySem.W.tabIn (K w.params) y = some (c, P) → PySem.W.CodeHd h c P ∧ h.get? P = some { cls := .none, data := .fields #[] }) → LamX.LawAtS l w (K w.params) (L2.CX l.prog w) k n x mg fa h) :
    PySem.W.WalkO q loose XP YP l.row.toRowW d [] (fun f vs => PySem.call f vs) := by
  refine Att.attach_callB hn hdf fun w s₀ s₁ mg mb fa o pm cd doc a vs ns G Y ho hd hcd hmg hobj hints hlen hbits hg => ?_
  have KX := hY w _ Y
  have tb : ∀ (y : Str) (c P : Addr), ((recsOf q).find? fun e => e.name == y).isSome = true → PySem.W.tabIn (K w.params) y = some (c, P) → PySem.W.CodeHd s₁.heap c P ∧ s₁.heap.get? P = some { cls := .none, data := .fields #[] } := fun y c P hy ht => by
    obtain ⟨dr, hdr⟩ := Option.isSome_iff_exists.mp hy
    exact PySem.W.tab_of G.T KX hdr ht
  obtain ⟨fd, cs, sp, hT, nT, C, hb, hsp, hF⟩ := F w mg fa _ KX G.T.g hmg tb
  exact LamX.law_callTs KX G.T.g G.T.b G.T.builtins G.T.nolimit hg hT nT C G.T.bmain hobj hints (Nat.le_trans hlen hn2) hr hF hb (fun H hH hS => hsp H a ns hlen hbits hH hS) fun H e s' z => by
    obtain ⟨_, _, _, _, _, _, _, _, _, _, _, _, y⟩ := z
    exact y.elim
theorem tabIn_of {K : PySem.W.Frag} {x : Str} {f c P : Addr} {fd : FuncData} {oc cc : Value} {od cdd : Option Addr} {sl ccs : Array (Option Value)} {vs : Array Value} (h1 : PySem.W.nsIn K mainGlobals x = some (some (.ref f))) (h2 : K.lookup f = some ⟨oc, od, .func fd, sl⟩) (h3 : fd.code = .ref c)
    (h4 : K.lookup c = some ⟨cc, cdd, .fields vs, ccs⟩) (h5 : vs[11]? = some (.ref P)) : PySem.W.tabIn K x = some (c, P) := by
  unfold PySem.W.tabIn
  simp only [h1, h2, h3, h4, h5]
end DL

set_option Elab.async false
set_option linter.all false
set_option maxRecDepth 100000
set_option maxHeartbeats 4000000
/-! DLs: short words for what a printed derivation says. -/
namespace DL
open PySem PySem.Spec L2
open PyProof.Rows hiding St

/-- a def of n + 1 parameters that stands at the name x: what it computes; kws: how many values go ahead of keywords, the keywords -/
structure Cal (P : Program) (w : World) (K : PySem.W.Frag) (mg : Str → Option Value) (base : Heap) (m : Pm) (k : Nat) (x : Str) (n : Nat) (G : Fn) (kws : List (Nat × List Str)) : Prop where
  ex : ∃ (fa : Addr) (fd : FuncData) (ps : List Str), FnOk P w K mg base (L2.CX P w) k fa fd ps (spD m (n + 1) G) ∧ mg x = some (.ref fa) ∧ PySem.W.keepIn K (.ref fa) = true ∧ Binds K fd ps [] ∧ ∀ q ∈ kws, KBinds K fd ps q.2 (gJ (n + 1) q.1) (gJ (n + 1) q.1)
theorem kb_nil {K : PySem.W.Frag} {fd : FuncData} {ps : List Str} {n : Nat} : ∀ q ∈ ([] : List (Nat × List Str)), KBinds K fd ps q.2 (gJ (n + 1) q.1) (gJ (n + 1) q.1) := fun q h => by cases h
theorem kb_cons {K : PySem.W.Frag} {fd : FuncData} {ps ks : List Str} {n j : Nat} {r : List (Nat × List Str)} (h : KBinds K fd ps ks (gJ (n + 1) j) (gJ (n + 1) j)) (hr : ∀ q ∈ r, KBinds K fd ps q.2 (gJ (n + 1) q.1) (gJ (n + 1) q.1)) : ∀ q ∈ (j, ks) :: r, KBinds K fd ps q.2 (gJ (n + 1) q.1) (gJ (n + 1) q.1) := fun q hq => by
  rcases List.mem_cons.mp hq with rfl | hq
  · exact h
  · exact hr q hq
theorem Fun.kb {K : PySem.W.Frag} {x qual : Str} {st : Stmt} {f : Addr} {fd : FuncData} {ps ks : List Str} {n j : Nat} (F : Fun K x qual st f fd) (hn : ps.length = n + 1)
    (h : ∀ (kV doc pm : Value) (an : Option Addr) (cdv ct : Value) (us ws : List Value), us.length = j → ws.length = n + 1 - j → bindArgs (PySem.W.fnOf x qual (defArgs st) (defBody st) (defScope st) .none kV doc pm an cdv ct) ⟨us, ks.zip ws⟩ = pure (ps.zip (us ++ ws))) : KBinds K fd ps ks (gJ (n + 1) j) (gJ (n + 1) j) := by
  obtain ⟨oc, od, kV, doc, pm, an, cdv, ct, osl, rfl, lk, hcd⟩ := F.ex
  exact kb_of hn (h kV doc pm an cdv ct)
section
variable {F : Fx} {X : Cx} {k j n i : Nat} {G : Fn} {x : Str} {p pos : Pos} {e : Expr} {es : List Expr} {kws : List Keyword} {as ak : DA} {ks : List Str} {kl : List (Nat × List Str)}
theorem e_c (h : Cal X.prog X.w X.K X.mg X.base F.m k x n G kl) (hr : Room j X.A) (hx : Passes (L2.CX X.prog X.w) X F.E) (ha : AO F X (e :: es) as) (hkj : k ≤ j := by decide) (hg : Gl X x := by rfl) (hn : (e :: es).length = n + 1 := by rfl) (hdb : (x == ("__debug__" : Str)) = false := by decide)
    (he : starEach (e :: es) X.env = (false, eval e X.env) :: starEach es X.env := by rfl) (hpl : (backTo pos (starEach es X.env)).any (·.1) = false := by rfl) : EO F X (.Call (.Name x p) (e :: es) [] pos) (eCall G as) := by
  obtain ⟨fa, fd, ps, h1, h2, h3, h4, _⟩ := h.ex
  exact e_call h1 (hr.mono hkj) hg h2 h3 h4 hx ha hn hdb he hpl
theorem e_ck (h : Cal X.prog X.w X.K X.mg X.base F.m k x n G kl) (hr : Room j X.A) (hx : Passes (L2.CX X.prog X.w) X F.E) (ha : AO F X (e :: es) as) (hkw : PO F X kws ak) (hm : (i, ks) ∈ kl) (hkj : k ≤ j := by decide) (hg : Gl X x := by rfl) (hj : (e :: es).length = i := by rfl) (hi : kws.length = n + 1 - i := by rfl)
    (hall : (backToKw pos (keywordEach kws X.env)).all (·.1.isSome) = true := by rfl) (hks : (backToKw pos (keywordEach kws X.env)).filterMap (·.1) = ks := by rfl) (hdb : (x == ("__debug__" : Str)) = false := by decide) (he : starEach (e :: es) X.env = (false, eval e X.env) :: starEach es X.env := by rfl)
    (hpl : ((backTo pos (starEach (e :: es) X.env)).any (·.1) || (backToKw pos (keywordEach kws X.env)).any (·.1.isNone)) = false := by rfl) (hle : i ≤ n + 1 := by decide) : EO F X (.Call (.Name x p) (e :: es) kws pos) (eCallK G as ak) := by
  obtain ⟨fa, fd, ps, h1, h2, h3, h4, h5⟩ := h.ex
  exact e_callK h1 (hr.mono hkj) hg h2 h3 (h5 _ hm) hx ha hkw hj hi hall hks hdb he hpl hle
theorem e_ck0 (h : Cal X.prog X.w X.K X.mg X.base F.m k x n G kl) (hr : Room j X.A) (hx : Passes (L2.CX X.prog X.w) X F.E) (hkw : PO F X kws ak) (hm : (0, ks) ∈ kl) (hkj : k ≤ j := by decide) (hg : Gl X x := by rfl) (hi : kws.length = n + 1 := by rfl)
    (hall : (backToKw pos (keywordEach kws X.env)).all (·.1.isSome) = true := by rfl) (hks : (backToKw pos (keywordEach kws X.env)).filterMap (·.1) = ks := by rfl) (hdb : (x == ("__debug__" : Str)) = false := by decide)
    (hpl : ((backTo pos (starEach [] X.env)).any (·.1) || (backToKw pos (keywordEach kws X.env)).any (·.1.isNone)) = false := by rfl) : EO F X (.Call (.Name x p) [] kws pos) (eCall G ak) := by
  obtain ⟨fa, fd, ps, h1, h2, h3, h4, h5⟩ := h.ex
  exact e_callK0 h1 (hr.mono hkj) hg h2 h3 (h5 _ hm) hx hkw hi hall hks hdb hpl
theorem e_cell' {fe : DE} (hδ : F.δ = none) (h : Cal X.prog X.w X.K X.mg X.base F.m k x 0 G kl) (hr : Room j X.A) (hx : Passes (L2.CX X.prog X.w) X F.E) (he : EO F X e fe) (hkj : k ≤ j := by decide) (hg : Gl X x := by rfl) (hdb : (x == ("__debug__" : Str)) = false := by decide) (hs : starEach [e] X.env = (false, eval e X.env) :: starEach [] X.env := by rfl) :
    EO F X (.Call (.Name x p) [e] [] pos) (eCell G fe) := by
  obtain ⟨fa, fd, ps, h1, h2, h3, h4, _⟩ := h.ex
  exact e_cell hδ h1 (hr.mono hkj) hg h2 h3 h4 hx he hdb hs
theorem e_gI {z : Int} (h : ∃ t, X.mg x = some (.int z t)) (hg : Gl X x := by rfl) (hd : (x == ("__debug__" : Str)) = false := by decide) : EO F X (.Name x pos) (eC (.int z)) := let ⟨_, h⟩ := h; e_glob hg h hd
theorem e_gS {z : Str} (h : ∃ t, X.mg x = some (.str z t)) (hg : Gl X x := by rfl) (hd : (x == ("__debug__" : Str)) = false := by decide) : EO F X (.Name x pos) (eC (.str z)) := let ⟨_, h⟩ := h; e_globS hg h hd
section
variable {elt tg iter : Expr} {ifs : List Expr} {scope : Scope} {own : List (Str × Nat)} {vs : List Nat} {gpos : Pos} {fi : DA} {gt : D → S → Option S} {ft fe : DE} {c P : Addr}
theorem e_lc (hc : X.calm = true) (hnd : X.N.Nodup) (hi : IO F X tg iter fi) (ok : BlkOk X.N X.env.scope scope own)
    (hg : ∀ (s : Shared) (H : Hp) (C : Addr) (cl : List (Str × Addr)) (fp : List Addr), GC F.no (X.blk s H scope (compEnvC scope cl C X.env) fp) tg (vs) gt)
    (ht : ∀ (s : Shared) (H : Hp) (C : Addr) (cl : List (Str × Addr)) (fp : List Addr), TsO F.no (X.blk s H scope (compEnvC scope cl C X.env) fp) ifs ft)
    (he : ∀ (s : Shared) (H : Hp) (C : Addr) (cl : List (Str × Addr)) (fp : List Addr), EO F.no (X.blk s H scope (compEnvC scope cl C X.env) fp) elt fe)
    (hs : ∀ x, foldedSetIterable iter X.env x = pure x := by intro _; rfl) (hvs : own.map (·.2) = vs := by rfl) : EO F X (.ListComp elt [⟨tg, iter, ifs, 0⟩] scope pos) (eComp (vs) fi gt ft fe) := by
  subst hvs
  exact e_comp hc hnd hi ok hg (hg X.s_0 X.H_0 0 [] []).law ht he hs
theorem s_lc (i : Nat) {y : Str} {py spos : Pos} (hc : X.calm = true) (hnd : X.N.Nodup) (hi : IO F X tg iter fi) (ok : BlkOk X.N X.env.scope scope own)
    (hg : ∀ (s : Shared) (H : Hp) (C : Addr) (cl : List (Str × Addr)) (fp : List Addr), GC F.no (X.blk s H scope (compEnvC scope cl C X.env) fp) tg (vs) gt)
    (ht : ∀ (s : Shared) (H : Hp) (C : Addr) (cl : List (Str × Addr)) (fp : List Addr), TsO F.no (X.blk s H scope (compEnvC scope cl C X.env) fp) ifs ft)
    (he : ∀ (s : Shared) (H : Hp) (C : Addr) (cl : List (Str × Addr)) (fp : List Addr), EO F.no (X.blk s H scope (compEnvC scope cl C X.env) fp) elt fe)
    (hsw : swapsWith (.ListComp elt [⟨tg, iter, ifs, 0⟩] scope pos) (some (.Name y py)) spos.line X.env = pure true) (hy : X.N[i]? = some y := by rfl) (hyl : X.env.scope.names.lookup y = some .local := by rfl)
    (hs : ∀ x, foldedSetIterable iter X.env x = pure x := by intro _; rfl) (hvs : own.map (·.2) = vs := by rfl) : SO F X (.Assign [.Name y py] (.ListComp elt [⟨tg, iter, ifs, 0⟩] scope pos) spos) (dSet i (eComp (vs) fi gt ft fe)) := by
  subst hvs
  exact s_setLc i hc hnd hi ok hg (hg X.s_0 X.H_0 0 [] []).law ht he hsw hy hyl hs
theorem e_ag (hc : X.calm = true) (hnd : X.N.Nodup) (hr : Room (k + 1) X.A) (hm : X.mg "all" = none) (TB : GxR.TabB X.base X.mg c P) (hcode : X.env.code = .ref c) (hu : ∀ p ∈ F.m.T, p.1 = P → p.2 = none) (hT : (P, none) ∈ F.m.T)
    (ok : GenOk X.N X.env.scope scope own) (hi : IO F X tg iter fi)
    (hpg : ∀ (s : Shared) (H : Hp) (C : Addr) (cl : List (Str × Addr)) (code : Value) (bi : Addr) (fp : List Addr) (A : Around), GC F.no (gen X s H (genEnv scope cl C code bi X.env) fp A) tg (vs) gt)
    (hpe : ∀ (s : Shared) (H : Hp) (C : Addr) (cl : List (Str × Addr)) (code : Value) (bi : Addr) (fp : List Addr) (A : Around), Room k A → EO F.no (gen X s H (genEnv scope cl C code bi X.env) fp A) elt fe)
    (hg : Gl X "all" := by rfl) (hs : ∀ v, genFold iter X.env v = pure v := by intro _; rfl) (he : starEach [.GeneratorExp elt [⟨tg, iter, [], 0⟩] scope gpos] X.env = (false, eval (.GeneratorExp elt [⟨tg, iter, [], 0⟩] scope gpos) X.env) :: starEach [] X.env := by rfl) (hvs : own.map (·.2) = vs := by rfl) :
    EO F X (.Call (.Name "all" p) [.GeneratorExp elt [⟨tg, iter, [], 0⟩] scope gpos] [] pos) (eAll (vs) fi gt fe) := by
  subst hvs
  exact e_all hc hnd hr hg hm TB hcode hu hT ok hi hpg (hpg X.s_0 X.H_0 0 [] .none 0 [] X.A).law hpe hs he
end
/-- decided -/
def genB (N : List Str) (sc scope : Scope) (own : List (Str × Nat)) : Bool := blkC N sc scope own && !scope.isCoroutine && scope.names.all (fun y => !decide (y.2 = .cell)) && decide (scope.names.lookup (".0" : Str) = some NameKind.local)
theorem gen_by {N : List Str} {sc scope : Scope} {own : List (Str × Nat)} (h : genB N sc scope own = true) : GenOk N sc scope own := by
  unfold genB at h
  simp only [Bool.and_eq_true, Bool.not_eq_true', decide_eq_true_eq, List.all_eq_true, decide_eq_false_iff_not] at h
  obtain ⟨⟨⟨h1, h2⟩, h3⟩, h4⟩ := h
  exact ⟨blkOk_by h1, h2, h3, h4⟩
theorem takesD {P : Program} {w : World} {K : PySem.W.Frag} {mg : Str → Option Value} {base : Heap} {N : List Str} {qual : Str} {sc : Scope} {f : Addr} {cd : Value} {A : Around} {outer : List Env} {s : Shared} {H : Hp} {E : XK} :
    Takes (cxOf (L2.CX P w) P w K mg base N qual sc f cd A outer s H E) (fun cls d _ H => E cls d H) := takes_of rfl rfl rfl rfl
theorem passD {P : Program} {w : World} {K : PySem.W.Frag} {mg : Str → Option Value} {base : Heap} {N : List Str} {qual : Str} {sc : Scope} {f : Addr} {cd : Value} {A : Around} {outer : List Env} {s : Shared} {H : Hp} {E : XK} :
    Passes (L2.CX P w) (cxOf (L2.CX P w) P w K mg base N qual sc f cd A outer s H E) E := passes_call (takes_of rfl rfl rfl rfl) fun _ _ _ _ h => h
theorem ownD {P : Program} {w : World} {K : PySem.W.Frag} {mg : Str → Option Value} {base : Heap} {N : List Str} {qual : Str} {sc : Scope} {f : Addr} {cd : Value} {A : Around} {outer : List Env} {s : Shared} {H : Hp} {E : XK} :
    PassesOwn (model P w) (cxOf (L2.CX P w) P w K mg base N qual sc f cd A outer s H E).A (cxOf (L2.CX P w) P w K mg base N qual sc f cd A outer s H E).env (cxOf (L2.CX P w) P w K mg base N qual sc f cd A outer s H E).xe := passes_of rfl
theorem passLam {X : Cx} {A : Around} {outer : List Env} {s : Shared} {H : Hp} {E : XK} {sc : Scope} {f c : Addr} : Passes (L2.CX (LamX.lamCx X A outer s H E sc f c).prog (LamX.lamCx X A outer s H E sc f c).w) (LamX.lamCx X A outer s H E sc f c) E := passes_call (takes_of rfl rfl rfl rfl) fun _ _ _ _ h => h
end
end DL

set_option Elab.async false
set_option linter.all false
set_option maxRecDepth 100000
set_option maxHeartbeats 4000000
/-! DLt: short words: built-ins; a def whose code object is told. -/
namespace DL
open PySem PySem.Spec L2
open PyProof.Rows hiding St

section
variable {F : Fx} {X : Cx} {e : Expr} {es : List Expr} {fa : DA} {p pos : Pos}
theorem e_len (hK : F.m.K = X.K) (hm : X.mg "len" = none) (ha : AO F X (e :: es) fa) (hg : Gl X "len" := by rfl) (he : starEach (e :: es) X.env = (false, eval e X.env) :: starEach es X.env := by rfl) (hpl : (backTo pos (starEach es X.env)).any (·.1) = false := by rfl) : EO F X (.Call (.Name "len" p) (e :: es) [] pos) (eB lenB fa) :=
  e_B call_lenB (hK ▸ s_len) hg hm PySem.boot_len ha (by decide) (by decide) he hpl
theorem e_abs (hm : X.mg "abs" = none) (ha : AO F X (e :: es) fa) (hg : Gl X "abs" := by rfl) (he : starEach (e :: es) X.env = (false, eval e X.env) :: starEach es X.env := by rfl) (hpl : (backTo pos (starEach es X.env)).any (·.1) = false := by rfl) : EO F X (.Call (.Name "abs" p) (e :: es) [] pos) (eB absB fa) :=
  e_B call_abs s_abs hg hm PyProof.Rows.Boot.«abs» ha (by decide) (by decide) he hpl
theorem e_int' (hm : X.mg "int" = none) (ha : AO F X (e :: es) fa) (hg : Gl X "int" := by rfl) (he : starEach (e :: es) X.env = (false, eval e X.env) :: starEach es X.env := by rfl) (hpl : (backTo pos (starEach es X.env)).any (·.1) = false := by rfl) : EO F X (.Call (.Name "int" p) (e :: es) [] pos) (eB intB fa) :=
  e_Ty call_int1 s_int hg hm PyProof.Rows.Boot.«int» ha (by decide) (by decide) he hpl
theorem e_max (hK : F.m.K = X.K) (hc : X.calm = true) (hm : X.mg "max" = none) (ha : AO F X (e :: es) fa) (hg : Gl X "max" := by rfl) (he : starEach (e :: es) X.env = (false, eval e X.env) :: starEach es X.env := by rfl) (hpl : (backTo pos (starEach es X.env)).any (·.1) = false := by rfl) : EO F X (.Call (.Name "max" p) (e :: es) [] pos) (eB maxB fa) :=
  e_B ((call_max2 hc).or (cr_max hc)) (hK ▸ s_max) hg hm PyProof.Rows.Boot.«max» ha (by decide) (by decide) he hpl
theorem e_min (hK : F.m.K = X.K) (hc : X.calm = true) (hm : X.mg "min" = none) (ha : AO F X (e :: es) fa) (hg : Gl X "min" := by rfl) (he : starEach (e :: es) X.env = (false, eval e X.env) :: starEach es X.env := by rfl) (hpl : (backTo pos (starEach es X.env)).any (·.1) = false := by rfl) : EO F X (.Call (.Name "min" p) (e :: es) [] pos) (eB minB fa) :=
  e_B ((call_min2 hc).or (cr_min hc)) (hK ▸ s_min) hg hm PyProof.Rows.Boot.«min» ha (by decide) (by decide) he hpl
theorem e_sum (hK : F.m.K = X.K) (hc : X.calm = true) (hm : X.mg "sum" = none) (ha : AO F X (e :: es) fa) (hg : Gl X "sum" := by rfl) (he : starEach (e :: es) X.env = (false, eval e X.env) :: starEach es X.env := by rfl) (hpl : (backTo pos (starEach es X.env)).any (·.1) = false := by rfl) : EO F X (.Call (.Name "sum" p) (e :: es) [] pos) (eB sumB fa) :=
  e_B (cr_sumB hc) (hK ▸ s_sum) hg hm PyProof.Rows.Boot.«sum» ha (by decide) (by decide) he hpl
theorem e_any (hK : F.m.K = X.K) (hc : X.calm = true) (hm : X.mg "any" = none) (ha : AO F X (e :: es) fa) (hg : Gl X "any" := by rfl) (he : starEach (e :: es) X.env = (false, eval e X.env) :: starEach es X.env := by rfl) (hpl : (backTo pos (starEach es X.env)).any (·.1) = false := by rfl) : EO F X (.Call (.Name "any" p) (e :: es) [] pos) (eB anyB fa) :=
  e_B (cr_any hc) (hK ▸ s_any) hg hm PyProof.Rows.Boot.«any» ha (by decide) (by decide) he hpl
theorem e_allB (hK : F.m.K = X.K) (hc : X.calm = true) (hm : X.mg "all" = none) (ha : AO F X (e :: es) fa) (hg : Gl X "all" := by rfl) (he : starEach (e :: es) X.env = (false, eval e X.env) :: starEach es X.env := by rfl) (hpl : (backTo pos (starEach es X.env)).any (·.1) = false := by rfl) : EO F X (.Call (.Name "all" p) (e :: es) [] pos) (eB allB fa) :=
  e_B (cr_all hc) (hK ▸ s_all) hg hm PyProof.Rows.Boot.«all» ha (by decide) (by decide) he hpl
theorem e_tuple (hK : F.m.K = X.K) (hm : X.mg "tuple" = none) (ha : AO F X (e :: es) fa) (hg : Gl X "tuple" := by rfl) (he : starEach (e :: es) X.env = (false, eval e X.env) :: starEach es X.env := by rfl) (hpl : (backTo pos (starEach es X.env)).any (·.1) = false := by rfl) : EO F X (.Call (.Name "tuple" p) (e :: es) [] pos) (eB tupB fa) :=
  e_Ty call_tupN (hK ▸ s_tup) hg hm PyProof.Rows.Boot.«tuple» ha (by decide) (by decide) he hpl
theorem e_list (hK : F.m.K = X.K) (hm : X.mg "list" = none) (ha : AO F X (e :: es) fa) (hg : Gl X "list" := by rfl) (he : starEach (e :: es) X.env = (false, eval e X.env) :: starEach es X.env := by rfl) (hpl : (backTo pos (starEach es X.env)).any (·.1) = false := by rfl) : EO F X (.Call (.Name "list" p) (e :: es) [] pos) (eB lstB fa) :=
  e_Ty call_list_of (hK ▸ s_lst) hg hm PyProof.Rows.Boot.«list» ha (by decide) (by decide) he hpl
theorem e_ln (i : Nat) {x : Str} {px : Pos} (hK : F.m.K = X.K) (hm : X.mg "len" = none) (hg : Gl X "len" := by rfl) (hN : X.N[i]? = some x := by rfl) (hv : Vis X.env.scope x := by first | exact Or.inl rfl | exact Or.inr (Or.inl rfl) | exact Or.inr (Or.inr rfl))
    (hd : (x == ("__debug__" : Str)) = false := by decide) (hcd : (x == ("__classdict__" : Str)) = false := by decide)
    (he : starEach [.Name x px] X.env = (false, eval (.Name x px) X.env) :: starEach [] X.env := by rfl) : EO F X (.Call (.Name "len" p) [.Name x px] [] pos) (eLenN i) := e_lenN i hK hg hm hN hv hd hcd he
section
variable {a : Expr} {ga : DE} {p2 : Pos}
theorem e_isI (hK : F.m.K = X.K) (hm : X.mg "isinstance" = none) (hT : X.mg "int" = none) (ha : EO F X a ga) (hg : Gl X "isinstance" := by rfl) (hgT : Gl X "int" := by rfl)
    (he : starEach [a, .Name "int" p2] X.env = (false, eval a X.env) :: starEach [.Name "int" p2] X.env := by rfl) (he2 : starEach [.Name "int" p2] X.env = (false, eval (.Name "int" p2) X.env) :: starEach [] X.env := by rfl) (hpl : (backTo pos (starEach [.Name "int" p2] X.env)).any (·.1) = false := by rfl) :
    EO F X (.Call (.Name "isinstance" p) [a, .Name "int" p2] [] pos) (eIsi .int ga) := e_isi .int hK hg hm hgT hT PyProof.Rows.Boot.«int» ha (by decide) (by decide) he he2 hpl
theorem e_isB (hK : F.m.K = X.K) (hm : X.mg "isinstance" = none) (hT : X.mg "bool" = none) (ha : EO F X a ga) (hg : Gl X "isinstance" := by rfl) (hgT : Gl X "bool" := by rfl)
    (he : starEach [a, .Name "bool" p2] X.env = (false, eval a X.env) :: starEach [.Name "bool" p2] X.env := by rfl) (he2 : starEach [.Name "bool" p2] X.env = (false, eval (.Name "bool" p2) X.env) :: starEach [] X.env := by rfl) (hpl : (backTo pos (starEach [.Name "bool" p2] X.env)).any (·.1) = false := by rfl) :
    EO F X (.Call (.Name "isinstance" p) [a, .Name "bool" p2] [] pos) (eIsi .bool ga) := e_isi .bool hK hg hm hgT hT PyProof.Rows.Boot.«bool» ha (by decide) (by decide) he he2 hpl
theorem e_isS (hK : F.m.K = X.K) (hm : X.mg "isinstance" = none) (hT : X.mg "str" = none) (ha : EO F X a ga) (hg : Gl X "isinstance" := by rfl) (hgT : Gl X "str" := by rfl)
    (he : starEach [a, .Name "str" p2] X.env = (false, eval a X.env) :: starEach [.Name "str" p2] X.env := by rfl) (he2 : starEach [.Name "str" p2] X.env = (false, eval (.Name "str" p2) X.env) :: starEach [] X.env := by rfl) (hpl : (backTo pos (starEach [.Name "str" p2] X.env)).any (·.1) = false := by rfl) :
    EO F X (.Call (.Name "isinstance" p) [a, .Name "str" p2] [] pos) (eIsi .str ga) := e_isi .str hK hg hm hgT hT PyProof.Rows.Boot.«str» ha (by decide) (by decide) he he2 hpl
theorem e_isT (hK : F.m.K = X.K) (hm : X.mg "isinstance" = none) (hT : X.mg "tuple" = none) (ha : EO F X a ga) (hg : Gl X "isinstance" := by rfl) (hgT : Gl X "tuple" := by rfl)
    (he : starEach [a, .Name "tuple" p2] X.env = (false, eval a X.env) :: starEach [.Name "tuple" p2] X.env := by rfl) (he2 : starEach [.Name "tuple" p2] X.env = (false, eval (.Name "tuple" p2) X.env) :: starEach [] X.env := by rfl) (hpl : (backTo pos (starEach [.Name "tuple" p2] X.env)).any (·.1) = false := by rfl) :
    EO F X (.Call (.Name "isinstance" p) [a, .Name "tuple" p2] [] pos) (eIsi .tuple ga) := e_isi .tuple hK hg hm hgT hT PyProof.Rows.Boot.«tuple» ha (by decide) (by decide) he he2 hpl
end
end
/-- a def whose code object is told -/
structure FunC (K : PySem.W.Frag) (x qual : Str) (st : Stmt) (f : Addr) (fd : FuncData) (c : Addr) : Prop where
  ex : ∃ (oc : Value) (od : Option Addr) (kV doc pm : Value) (an : Option Addr) (ct : Value) (osl : Array (Option Value)),
    fd = PySem.W.fnOf x qual (defArgs st) (defBody st) (defScope st) .none kV doc pm an (.ref c) ct ∧ K.lookup f = some ⟨oc, od, .func fd, osl⟩ ∧ PySem.W.codeIn K (.ref c) qual = true
  kp : PySem.W.keepIn K (.ref f) = true
theorem FunC.fun {K : PySem.W.Frag} {x qual : Str} {st : Stmt} {f : Addr} {fd : FuncData} {c : Addr} (F : FunC K x qual st f fd c) : Fun K x qual st f fd :=
  let ⟨oc, od, kV, doc, pm, an, ct, osl, h1, h2, h3⟩ := F.ex
  ⟨⟨oc, od, kV, doc, pm, an, .ref c, ct, osl, h1, h2, h3⟩, F.kp⟩
theorem funC_mk {K : PySem.W.Frag} {x qual : Str} {st : Stmt} {f c : Addr} {oc : Value} {od an : Option Addr} {osl : Array (Option Value)} {kV doc pm ct : Value} (l : K.lookup f = some ⟨oc, od, .func (PySem.W.fnOf x qual (defArgs st) (defBody st) (defScope st) .none kV doc pm an (.ref c) ct), osl⟩)
    (h : PySem.W.codeIn K (.ref c) qual = true) (k : PySem.W.keepIn K (.ref f) = true) : FunC K x qual st f (PySem.W.fnOf x qual (defArgs st) (defBody st) (defScope st) .none kV doc pm an (.ref c) ct) c := ⟨⟨oc, od, kV, doc, pm, an, ct, osl, rfl, l, h⟩, k⟩
section
variable {P : Program} {w : World} {K : PySem.W.Frag} {mg : Str → Option Value} {base : Heap} {m : Pm} {x qual : Str} {st : Stmt} {f c : Addr} {fd : FuncData} {N ps : List Str} {k n l : Nat} {g : DS}
theorem okDC (Fu : FunC K x qual st f fd c) (Sc : FnScope N ps (defScope st)) (hK : m.K = K) (hn : ps.length = n) (hl : N.length = l)
    (hb : ∀ (A : Around) (outer : List Env) (s : Shared) (H : Hp) (E : XK) (F : Fx), F.m = m → F.E = E → Room k (A.deeper (envOfC qual (defScope st) s.heap.objs.size f (.ref c))) →
      BO F (cxOf (L2.CX P w) P w K mg base N qual (defScope st) f (.ref c) A outer s H E) (defBody st) g) : FnOk P w K mg base (L2.CX P w) (k + 1) f fd ps (spD m n (fnD l g)) := by
  subst hn
  subst hl
  obtain ⟨oc, od, kV, doc, pm, an, ct, osl, rfl, lk, hcd⟩ := Fu.ex
  refine fn_of lk hcd Sc (fun vs H Q E h => spD_len h) fun A outer s H vs Q E hr h => ?_
  obtain ⟨δ, O, c, ds, hlen, wd, r, h⟩ := h
  have hs : ∀ a, O a → H a ≠ none := fun a z => by
    obtain ⟨xs, q⟩ := wd.src a z
    rw [q]
    simp
  obtain ⟨t, pt, sg⟩ := hb A outer s H E (fxOf m δ H O E hs) rfl rfl hr
  refine ⟨t, pt, sg _ _ H O (startS N.length ds c) (est_start wd r hs) ?_⟩
  unfold fnD at h
  cases q : g (startS N.length ds c) with
  | nx s' =>
    rw [q] at h
    exact fun σ' H' O' _ I => h .non H' O' I.base I.wd .non
  | rt x c' =>
    rw [q] at h
    exact fun v H' O' st w' sx => h v H' O' st w' sx
  | er e c' =>
    rw [q] at h
    exact fun cls dd H' O' st w' er => h cls dd H' O' st w' er
  | bk s' => rw [q] at h; exact h.elim
  | ct s' => rw [q] at h; exact h.elim
  | stuck => rw [q] at h; exact h.elim
end
theorem cal_mk {P : Program} {w : World} {K : PySem.W.Frag} {mg : Str → Option Value} {base : Heap} {m : Pm} {k n : Nat} {x : Str} {G : Fn} {kws : List (Nat × List Str)} {fa : Addr} {fd : FuncData} {ps : List Str} (h1 : FnOk P w K mg base (L2.CX P w) k fa fd ps (spD m (n + 1) G)) (h2 : mg x = some (.ref fa)) (h3 : PySem.W.keepIn K (.ref fa) = true)
    (h4 : Binds K fd ps []) (h5 : ∀ q ∈ kws, KBinds K fd ps q.2 (gJ (n + 1) q.1) (gJ (n + 1) q.1)) : Cal P w K mg base m k x n G kws := ⟨fa, fd, ps, h1, h2, h3, h4, h5⟩
def scp (l : List (Str × NameKind)) : Scope := { kind := .function, names := l, isGenerator := false, isCoroutine := false, more := [] }
def scpG (l : List (Str × NameKind)) : Scope := { kind := .function, names := l, isGenerator := true, isCoroutine := false, more := [] }
end DL

set_option Elab.async false
set_option linter.all false
set_option maxRecDepth 100000
set_option maxHeartbeats 4000000
/-! DLu: the law's own helper that tells the refused name. -/
namespace DL
open PySem PySem.Spec L2
open PyProof.Rows hiding St

def refBody (p1 p2 p3 p4 p5 p6 p7 p8 p9 p10 p11 : Pos) (jj : Nat) : List Stmt := [.Try [.Expr (.Call (.Name "call" p1) [] [] p2) p3] [.ExceptHandler (some (.Name "BadArgument" p4)) (some ("e" : Str)) [.Return (some (.Attribute (.Name "e" p5) "name" p6)) p7] p8] [] [] p9, .Return (some (.Constant (.str "") jj p10)) p11]
structure RefAt (K : PySem.W.Frag) (mg : Str → Option Value) (C : Addr) : Prop where
  ex : ∃ (g : Addr) (pg : Arguments) (p1 p2 p3 p4 p5 p6 p7 p8 p9 p10 p11 : Pos) (jj : Nat) (sg : Scope) (dV kV doc pm cdv ct oc : Value) (od an : Option Addr) (osl : Array (Option Value)), mg "_law_refused" = some (.ref g) ∧ PySem.W.keepIn K (.ref g) = true ∧
    K.lookup g = some ⟨oc, od, .func (PySem.W.fnOf "_law_refused" "_law_refused" pg (refBody p1 p2 p3 p4 p5 p6 p7 p8 p9 p10 p11 jj) sg dV kV doc pm an cdv ct), osl⟩ ∧ PySem.W.codeIn K cdv "_law_refused" = true ∧
    L2.Binds K (PySem.W.fnOf "_law_refused" "_law_refused" pg (refBody p1 p2 p3 p4 p5 p6 p7 p8 p9 p10 p11 jj) sg dV kV doc pm an cdv ct) ["call"] [] ∧ FnScope ["call", "e"] ["call"] sg ∧ Vis sg "call" ∧ sg.names.lookup ("BadArgument" : Str) = some .globalImplicit ∧ sg.names.lookup ("e" : Str) = some .local
  mB : mg "BadArgument" = some (.ref C)
  xm : PySem.W.exmOne K (.ref C) (.ref C) = some true
  XF : XfC K C
  no : PySem.W.findIn K (.ref C) "name" = some none
theorem exm_own {K : PySem.W.Frag} {C : Addr} (h1 : PySem.W.subIn K (.ref C) (.type "BaseException") = some true) (h2 : (PySem.W.clsIn K C).isSome = true) (h3 : PySem.W.typeIn K (.ref C) = some (.type "type")) (h4 : PySem.W.subIn K (.ref C) (.ref C) = some true) : PySem.W.exmOne K (.ref C) (.ref C) = some true := by
  have e1 : (PySem.W.subIn K (.ref C) (.type "BaseException") == some true) = true := by rw [h1] <;> rfl
  have e2 : ((PySem.W.clsIn K C).isSome && PySem.W.typeIn K (.ref C) == some (.type "type")) = true := by rw [h2, h3] <;> rfl
  unfold PySem.W.exmOne
  simp only [e1, if_true]
  unfold PySem.W.kitCls
  simp only [e2, if_true]
  exact h4
section
variable {F : Fx} {X : Cx} {k j : Nat} {C c P : Addr} {params : Arguments} {body : Expr} {scope : Scope} {p lpos pos : Pos} {fe : DE}
theorem e_rf (R : RefAt X.K X.mg C) (hcl : F.m.cl j = some C) (TB : LamX.TabB X.base X.mg c P) (hcode : X.env.code = .ref c) (hT : (P, some (X.env.qual ++ "<lambda>")) ∈ F.m.T) (hu : ∀ p ∈ F.m.T, p.1 = P → p.2 = some (X.env.qual ++ "<lambda>")) (hr : Room (k + 2) X.A) (L : LamX.LamS X.env.scope scope)
    (hbody : ∀ (F' : Fx) (A : Around) (outer : List Env) (s : Shared) (H : Hp) (f c' : Addr), F'.m = F.m → Room k (A.deeper (LamX.lamEnv X scope s.heap.objs.size f c')) → EO F' (LamX.lamCx X A outer s H F'.E scope f c') body fe)
    (hdef : defaultsOf params X.env = ([], []) := by rfl) (hbind : ∀ (q : Str) (cl : List (Str × Addr)) (pm cv ctv : Value), bindArgs (PySem.W.kla_fn "<lambda>" q params body scope cl pm cv ctv) ⟨[], []⟩ = pure [] := by exact fun _ _ _ _ _ => rfl) (hg : Gl X "_law_refused" := by rfl) :
    EO F X (.Call (.Name "_law_refused" p) [.Lambda params body scope lpos] [] pos) (eRef j fe) := by
  obtain ⟨g, pg, p1, p2, p3, p4, p5, p6, p7, p8, p9, p10, p11, jj, sg, dV, kV, doc, pm, cdv, ct, oc, od, an, osl, h1, h2, h3, h4, h5, h6, h7, h8, h9⟩ := R.ex
  exact e_ref hg h1 h2 h3 h4 h5 h6 h7 h8 R.mB (by decide) (by decide +kernel) h9 (by decide) (by decide) R.xm R.XF R.no hcl TB hcode hT hu hr L hdef hbind hbody
end
theorem Cal.to {P : Program} {w : World} {K : PySem.W.Frag} {mg : Str → Option Value} {base : Heap} {m m' : Pm} {k : Nat} {x : Str} {n : Nat} {G : Fn} {kws : List (Nat × List Str)} (h : Cal P w K mg base m k x n G kws) (e : m' = m) : Cal P w K mg base m' k x n G kws := by
  rw [e]
  exact h
end DL

set_option Elab.async false
set_option linter.all false
set_option maxRecDepth 100000
set_option maxHeartbeats 4000000
/-! DLv: running the readings: equations for simp. -/
namespace DL
open PySem PySem.Spec L2
open PyProof.Rows hiding St

section
variable {d y : D} {x : Sl} {s s1 : S} {c : List Int} {e : Er} {a b f : DE} {as : DA} {g h : DS} {i : Nat} {G : Fn} {ds : List D}
@[simp] theorem Sl.d_val : (Sl.val d).d = d := rfl
@[simp] theorem Sl.d_own {xs : List D} : (Sl.own xs).d = .list xs := rfl
@[simp] theorem bind_ok {k : D → S → RE} : (RE.ok x s).bind k = k x.d s := rfl
@[simp] theorem bind_er {k : D → S → RE} : (RE.er e c).bind k = .er e c := rfl
@[simp] theorem st_ok {k : Sl → S → RS} : (RE.ok x s).st k = k x s := rfl
@[simp] theorem st_er {k : Sl → S → RS} : (RE.er e c).st k = .er e c := rfl
@[simp] theorem stT_ok {k : Bool → S → RS} {t : Bool} : (RE.ok (.val (.bool t)) s).stT k = k t s := rfl
@[simp] theorem stT_er {k : Bool → S → RS} : (RE.er e c).stT k = .er e c := rfl
@[simp] theorem test_ok {k : Bool → S → RE} {t : Bool} : (RE.ok (.val (.bool t)) s).test k = k t s := rfl
@[simp] theorem test_er {k : Bool → S → RE} : (RE.er e c).test k = .er e c := rfl
@[simp] theorem ra_ok {k : D → S → RA} : (RE.ok x s).ra k = k x.d s := rfl
@[simp] theorem ra_er {k : D → S → RA} : (RE.er e c).ra k = .er e c := rfl
@[simp] theorem abind_ok {k : List D → S → RE} : (RA.ok ds s).bind k = k ds s := rfl
@[simp] theorem abind_er {k : List D → S → RE} : (RA.er e c).bind k = .er e c := rfl
@[simp] theorem seq_nx {k : S → RS} : (RS.nx s).seq k = k s := rfl
@[simp] theorem seq_rt {k : S → RS} : (RS.rt x c).seq k = .rt x c := rfl
@[simp] theorem seq_er {k : S → RS} : (RS.er e c).seq k = .er e c := rfl
@[simp] theorem seq_bk {k : S → RS} : (RS.bk s).seq k = .bk s := rfl
@[simp] theorem seq_ct {k : S → RS} : (RS.ct s).seq k = .ct s := rfl
@[simp] theorem fin_nx : (RS.nx s).fin = .ok (.val .none) s.c := rfl
@[simp] theorem fin_rt : (RS.rt x c).fin = .ok x c := rfl
@[simp] theorem fin_er : (RS.er e c).fin = .er e c := rfl
@[simp] theorem liftR_val : liftR (some (.val d)) s = .ok (.val d) s := rfl
@[simp] theorem liftR_own {xs : List D} : liftR (some (.own xs)) s = .ok (.own xs) s := rfl
@[simp] theorem dSeq_eq : dSeq g h s = (g s).seq h := rfl
@[simp] theorem dNil_eq : dNil s = .nx s := rfl
@[simp] theorem dBreak_eq : dBreak s = .bk s := rfl
@[simp] theorem dCont_eq : dCont s = .ct s := rfl
@[simp] theorem dIf_eq : dIf a g h s = (a s).stT fun k s1 => if k = true then g s1 else h s1 := rfl
@[simp] theorem dRet_eq : dRet a s = (a s).st fun x s1 => .rt x s1.c := rfl
@[simp] theorem dRetN_eq : dRetN s = .rt (.val .none) s.c := rfl
@[simp] theorem dExpr_eq : dExpr a s = (a s).st fun _ s1 => .nx s1 := rfl
@[simp] theorem dSet_eq : dSet i a s = (a s).st fun x s1 => .nx { s1 with e := s1.e.set i x } := rfl
@[simp] theorem dPar_eq {j : Nat} : dPar i j a b s = (a s).st fun x s1 => (b s1).st fun y s2 => .nx { s2 with e := (s2.e.set i x).set j y } := rfl
@[simp] theorem dPar3_eq {j l : Nat} : dPar3 i j l a b f s = (a s).st fun x s1 => (b s1).st fun y s2 => (f s2).st fun z s3 => .nx { s3 with e := ((s3.e.set i x).set j y).set l z } := rfl
@[simp] theorem eC_eq : eC d s = .ok (.val d) s := rfl
@[simp] theorem eOp_eq {op : D → D → Option Sl} : eOp op a b s = (a s).bind fun x s1 => (b s1).bind fun y s2 => liftR (op x y) s2 := rfl
@[simp] theorem eAdd_eq : eAdd a b = eOp addD a b := rfl
@[simp] theorem eSub_eq : eSub a b = eOp subD a b := rfl
@[simp] theorem eMul_eq : eMul a b = eOp mulD a b := rfl
@[simp] theorem eDiv_eq : eDiv a b = eOp divD a b := rfl
@[simp] theorem eMod_eq : eMod a b = eOp modD a b := rfl
@[simp] theorem ePow_eq : ePow a b = eOp powD a b := rfl
@[simp] theorem eLt_eq : eLt a b = eOp ltD a b := rfl
@[simp] theorem eLe_eq : eLe a b = eOp leD a b := rfl
@[simp] theorem eGt_eq : eGt a b = eOp gtD a b := rfl
@[simp] theorem eGe_eq : eGe a b = eOp geD a b := rfl
@[simp] theorem eEq_eq : eEq a b = eOp eqD a b := rfl
@[simp] theorem eNe_eq : eNe a b = eOp neD a b := rfl
@[simp] theorem eIsN_eq : eIsN a b = eOp isNd a b := rfl
@[simp] theorem eNotN_eq : eNotN a b = eOp notNd a b := rfl
@[simp] theorem eIx_eq : eIx a b = eOp ixD a b := rfl
@[simp] theorem eNot_eq : eNot a s = (a s).test fun b s1 => .ok (.val (.bool (!b))) s1 := rfl
@[simp] theorem eIf_eq : eIf f a b s = (f s).test fun k s1 => if k = true then a s1 else b s1 := rfl
@[simp] theorem eAnd_eq : eAnd a b s = (a s).test fun k s1 => if k = true then b s1 else .ok (.val (.bool false)) s1 := rfl
@[simp] theorem eOr_eq : eOr a b s = (a s).test fun k s1 => if k = true then .ok (.val (.bool true)) s1 else b s1 := rfl
@[simp] theorem eChain_eq {p q : D → D → Option Sl} : eChain p q a b f s = (a s).bind fun x s1 => (b s1).bind fun y s2 => match p x y with
  | some (.val (.bool true)) => (f s2).bind fun z s3 => liftR (q y z) s3
  | some (.val (.bool false)) => .ok (.val (.bool false)) s2
  | _ => .stuck := rfl
@[simp] theorem eLeLe_eq : eLeLe a b f = eChain leD leD a b f := rfl
@[simp] theorem eLeLt_eq : eLeLt a b f = eChain leD ltD a b f := rfl
@[simp] theorem aNil_eq : aNil s = .ok [] s := rfl
@[simp] theorem aCons_eq : aCons a as s = match a s with
  | .ok x s1 => match as s1 with
    | .ok xs s2 => .ok (x.d :: xs) s2
    | r => r
  | .er e c => .er e c
  | .stuck => .stuck := rfl
@[simp] theorem eTup_eq : eTup as s = (as s).bind fun ds s1 => .ok (.val (.tuple ds)) s1 := rfl
@[simp] theorem eLst_eq : eLst as s = (as s).bind fun ds s1 => .ok (.own ds) s1 := rfl
@[simp] theorem eB_eq {p : List D → Option Sl} : eB p as s = (as s).bind fun ds s1 => liftR (p ds) s1 := rfl
@[simp] theorem eCall_eq : eCall G as s = (as s).bind fun ds s1 => callR G ds s1 := rfl
@[simp] theorem eCallK_eq {ks : DA} : eCallK G as ks s = (as s).bind fun ds s1 => (ks s1).bind fun es s2 => callR G (ds ++ es) s2 := rfl
@[simp] theorem eSl_eq {lo hi : Option DE} : eSl a lo hi s = (a s).bind fun x s1 => partD lo s1 fun l s2 => partD hi s2 fun h s3 => liftR (slD x l h) s3 := rfl
@[simp] theorem partD_none {k : Option Int → S → RE} : partD none s k = k none s := rfl
@[simp] theorem eNeg_eq : eNeg a s = (a s).bind fun x s1 => match x with
  | .int i => .ok (.val (.int (-i))) s1
  | _ => .stuck := rfl
@[simp] theorem eIsi_eq {T : Ty4} : eIsi T a s = (a s).bind fun x s1 => if plainD x then .ok (.val (.bool (isiD T x))) s1 else .stuck := rfl
@[simp] theorem iSeq_eq : iSeq a s = (a s).ra fun x s1 => match itD x with
  | some ds => .ok ds s1
  | none => .stuck := rfl
@[simp] theorem dFor_eq {gt : D → S → Option S} : dFor as gt g s = match as s with
  | .ok ds s1 => forL gt g ds s1
  | .er e c => .er e c
  | .stuck => .stuck := rfl
@[simp] theorem dAsg_eq {gt : D → S → Option S} : dAsg gt a s = (a s).st fun x s1 => match gt x.d s1 with
  | some s2 => .nx s2
  | none => .stuck := rfl
end
theorem eVar_val {i : Nat} {s : S} {d : D} (h : s.e[i]? = some (.val d)) : eVar i s = .ok (.val d) s := by unfold eVar; rw [h]
theorem eVar_own {i : Nat} {s : S} {xs : List D} (h : s.e[i]? = some (.own xs)) : eVar i s = .ok (.val (.list xs)) { s with e := s.e.set i (.val (.list xs)) } := by unfold eVar; rw [h]
theorem fnD_eq {n : Nat} {g : DS} {ds : List D} {c : List Int} : fnD n g ds c = (g (startS n ds c)).fin := rfl
end DL

set_option Elab.async false
set_option linter.all false
set_option maxRecDepth 100000
set_option maxHeartbeats 4000000
/-! DLw: the readings' operations on numbers, places, loops. -/
namespace DL
open PySem PySem.Spec L2
open PyProof.Rows hiding St

section
variable {i j k : Int} {xs ys : List D} {b : Bool} {d : D}
@[simp] theorem addD_ii : addD (.int i) (.int j) = some (.val (.int (i + j))) := rfl
@[simp] theorem subD_ii : subD (.int i) (.int j) = some (.val (.int (i - j))) := rfl
@[simp] theorem ltD_ii : ltD (.int i) (.int j) = some (.val (.bool (decide (i < j)))) := rfl
@[simp] theorem leD_ii : leD (.int i) (.int j) = some (.val (.bool (decide (i ≤ j)))) := rfl
@[simp] theorem gtD_ii : gtD (.int i) (.int j) = some (.val (.bool (decide (j < i)))) := rfl
@[simp] theorem geD_ii : geD (.int i) (.int j) = some (.val (.bool (decide (j ≤ i)))) := rfl
@[simp] theorem eqv_ii : PyData.eqv (.int i) (.int j) = decide (i = j) := by
  unfold PyData.eqv
  by_cases h : i = j
  · simp [h]
  · simp [h]
theorem shaped_int : SeqAt.shaped (.int i) = true := by
  unfold SeqAt.shaped PyData.canLay0 PyData.depth
  simp
@[simp] theorem eqD_ii : eqD (.int i) (.int j) = some (.val (.bool (decide (i = j)))) := by unfold eqD; rw [shaped_int, shaped_int, eqv_ii]; rfl
@[simp] theorem neD_ii : neD (.int i) (.int j) = some (.val (.bool (!decide (i = j)))) := by unfold neD; rw [shaped_int, shaped_int, eqv_ii]; rfl
theorem mulD_ii (h : (lim64 i || lim64 j) = true) : mulD (.int i) (.int j) = some (.val (.int (i * j))) := by unfold mulD; simp only [h, if_true]
theorem divD_ii (h : 0 < j) (h' : j < 1073741824) : divD (.int i) (.int j) = some (.val (.int (i / j))) := by unfold divD gI; simp [h, h']
theorem modD_ii (h : 0 < j) : modD (.int i) (.int j) = some (.val (.int (i % j))) := by unfold modD gI; simp [h]
@[simp] theorem absB_i : absB [.int i] = some (.val (.int (if i < 0 then -i else i))) := rfl
@[simp] theorem intB_i : intB [.int i] = some (.val (.int i)) := rfl
@[simp] theorem minB_ii : minB [.int i, .int j] = some (.val (.int (if j < i then j else i))) := rfl
@[simp] theorem maxB_ii : maxB [.int i, .int j] = some (.val (.int (if j > i then j else i))) := rfl
@[simp] theorem lenB_list : lenB [.list xs] = some (.val (.int xs.length)) := rfl
@[simp] theorem lenB_tuple : lenB [.tuple xs] = some (.val (.int xs.length)) := rfl
@[simp] theorem lenB_scr : lenB [dscr xs] = some (.val (.int xs.length)) := rfl
theorem atI_ok {α : Type} {l : List α} (h0 : 0 ≤ i) (h1 : i < l.length) : atI l i = l[i.toNat]? := by
  unfold atI ixN
  rw [if_pos h0, if_pos h1]
  rfl
theorem atI_neg {α : Type} {l : List α} (h : l ≠ []) : atI l (-1) = l.getLast? := by
  unfold atI ixN
  have hl : 0 < l.length := List.length_pos_iff.mpr h
  rw [if_neg (by decide), if_pos (by omega)]
  have e : (-1 + (l.length : Int)).toNat = l.length - 1 := by omega
  show l[(-1 + (l.length : Int)).toNat]? = _
  rw [e, List.getLast?_eq_getElem?]
theorem ixN_ok {n : Nat} (h0 : 0 ≤ i) (h1 : i < n) : ixN n i = some i.toNat := by unfold ixN; rw [if_pos h0, if_pos h1]
@[simp] theorem ixC_cell {c : List Int} : ixC dcell (.int i) c = (atI c i).map fun n => .val (.int n) := rfl
@[simp] theorem ixC_tup {c : List Int} : ixC (.tuple xs) (.int i) c = (atI xs i).map .val := rfl
@[simp] theorem ixC_lst {c : List Int} : ixC (.list xs) (.int i) c = (atI xs i).map .val := rfl
@[simp] theorem ixC_scr {c : List Int} : ixC (dscr xs) (.int i) c = (atI xs i).map .val := rfl
@[simp] theorem ixD_tup : ixD (.tuple xs) (.int i) = (atI xs i).map .val := rfl
@[simp] theorem ixD_lst : ixD (.list xs) (.int i) = (atI xs i).map .val := rfl
end
theorem eIxN_val {i : Nat} {b : DE} {s : S} {d : D} (h : s.e[i]? = some (.val d)) : eIxN i b s = (b s).bind fun y s2 => liftR (ixC d y s2.c) s2 := by unfold eIxN; rw [h]
theorem eIxN_own {i : Nat} {b : DE} {s : S} {xs : List D} (h : s.e[i]? = some (.own xs)) : eIxN i b s = (b s).bind fun y s2 => match s2.e[i]? with
    | some (.own xs) => liftR (ixD (.list xs) y) s2
    | _ => .stuck := by unfold eIxN; simp only [h] <;> rfl
theorem eLenN_val {i : Nat} {s : S} {d : D} (h : s.e[i]? = some (.val d)) : eLenN i s = liftR (lenB [d]) s := by unfold eLenN; rw [h]
theorem eLenN_own {i : Nat} {s : S} {xs : List D} (h : s.e[i]? = some (.own xs)) : eLenN i s = .ok (.val (.int xs.length)) s := by unfold eLenN; rw [h]
theorem dRetV_val {i : Nat} {s : S} {d : D} (h : s.e[i]? = some (.val d)) : dRetV i s = .rt (.val d) s.c := by unfold dRetV; rw [h]
theorem dRetV_own {i : Nat} {s : S} {xs : List D} (h : s.e[i]? = some (.own xs)) : dRetV i s = .rt (.own xs) s.c := by unfold dRetV; rw [h]
theorem callR_ok {G : Fn} {ds : List D} {s : S} {x : Sl} {c : List Int} (h : G ds s.c = .ok x c) : callR G ds s = .ok x { s with c := c } := by unfold callR; rw [h]
theorem callR_er {G : Fn} {ds : List D} {s : S} {e : Er} {c : List Int} (h : G ds s.c = .er e c) : callR G ds s = .er e c := by unfold callR; rw [h]
theorem dStore_cell {i : Nat} {ix a : DE} {s s1 s2 : S} {x y : Sl} {n z : Int} {j : Nat} (ha : a s = .ok x s1) (h : s1.e[i]? = some (.val dcell)) (hi : ix s1 = .ok y s2) (hy : y.d = .int n) (hx : x.d = .int z) (hj : ixN s2.c.length n = some j) :
    dStore i ix a s = .nx { s2 with c := s2.c.set j z } := by
  unfold dStore
  rw [ha]
  show (match s1.e[i]? with
    | some (.own _) => _
    | some (.val (.dict [(.none, .none)])) => _
    | _ => _) = _
  rw [h]
  show (ix s1).st _ = _
  rw [hi]
  simp only [st_ok, hy, hx, hj]
def storeK (i : Nat) (ix : DE) (x : Sl) (s1 : S) : RS := match s1.e[i]? with
  | some (.own _) => (ix s1).st fun y s2 => match s2.e[i]?, y.d with
    | some (.own xs), .int n => match ixN xs.length n with
      | some j => .nx { s2 with e := s2.e.set i (.own (xs.set j x.d)) }
      | none => .stuck
    | _, _ => .stuck
  | some (.val (.dict [(.none, .none)])) => (ix s1).st fun y s2 => match y.d, x.d with
    | .int n, .int z => match ixN s2.c.length n with
      | some j => .nx { s2 with c := s2.c.set j z }
      | none => .stuck
    | _, _ => .stuck
  | _ => .stuck
@[simp] theorem dStore_eq {i : Nat} {ix a : DE} {s : S} : dStore i ix a s = (a s).st (storeK i ix) := rfl
def storeC (y x : D) (s2 : S) : RS := match y, x with
    | .int n, .int z => match ixN s2.c.length n with
      | some j => .nx { s2 with c := s2.c.set j z }
      | none => .stuck
    | _, _ => .stuck
theorem storeK_cell {i : Nat} {ix : DE} {x : Sl} {s1 : S} (h : s1.e[i]? = some (.val dcell)) : storeK i ix x s1 = (ix s1).st fun y s2 => storeC y.d x.d s2 := by
  unfold storeK
  rw [h]
  rfl
@[simp] theorem storeC_ii {n z : Int} {s2 : S} : storeC (.int n) (.int z) s2 = match ixN s2.c.length n with
      | some j => .nx { s2 with c := s2.c.set j z }
      | none => .stuck := rfl
def storeO (i : Nat) (y x : D) (s2 : S) : RS := match s2.e[i]?, y with
    | some (.own xs), .int n => match ixN xs.length n with
      | some j => .nx { s2 with e := s2.e.set i (.own (xs.set j x)) }
      | none => .stuck
    | _, _ => .stuck
theorem storeK_own {i : Nat} {ix : DE} {x : Sl} {xs : List D} {s1 : S} (h : s1.e[i]? = some (.own xs)) : storeK i ix x s1 = (ix s1).st fun y s2 => storeO i y.d x.d s2 := by
  unfold storeK
  rw [h]
  rfl
theorem rangeD_zero {lo : Int} : rangeD lo 0 = [] := rfl
theorem rangeD_succ {lo : Int} {n : Nat} : rangeD lo (n + 1) = .int lo :: rangeD (lo + 1) n := by
  unfold rangeD
  rw [List.range_succ_eq_map, List.map_cons, List.map_map]
  congr 1
  · simp
  · apply List.map_congr_left
    intro a _
    show PyData.int (lo + ((a + 1 : Nat) : Int)) = PyData.int (lo + 1 + (a : Int))
    congr 1
    omega
theorem rangeD_len {lo : Int} {n : Nat} : (rangeD lo n).length = n := by simp [rangeD]
theorem intsD_ok (ns : List Int) : intsD (ns.map PyData.int) = some ns := intsD_map ns
@[simp] theorem tupB_list {xs : List D} (h : xs.length ≤ sizeLine := by first | assumption | simp [sizeLine_eq]) : tupB [.list xs] = some (.val (.tuple xs)) := by
  unfold tupB
  first
  | rfl
  | simp [h]
end DL

set_option Elab.async false
set_option linter.all false
set_option maxRecDepth 100000
set_option maxHeartbeats 4000000
/-! DLx: ranges, comprehensions, equality of data, loops. -/
namespace DL
open PySem PySem.Spec L2
open PyProof.Rows hiding St

section
variable {i j k : Int} {xs ys ds acc : List D} {b : Bool} {d : D} {s s1 s2 : S} {a f tt te c : DE} {as bs : DA} {vs : List Nat} {g : D → S → Option S} {n : Nat} {gb : DS} {x y : Sl}
def rng1K (x : D) (s1 : S) : RA := match x with
  | .int j => if lim62 j then .ok (rangeD 0 j.toNat) s1 else .stuck
  | _ => .stuck
@[simp] theorem iRng1_eq : DL.iRng1 a s = (a s).ra rng1K := rfl
theorem rng1K_int (h1 : -4611686018427387904 ≤ j) (h2 : j < 4611686018427387904) : rng1K (.int j) s = .ok (rangeD 0 j.toNat) s := by
  have h : lim62 j = true := by simp [lim62]; omega
  unfold rng1K
  simp only [h, if_true]
def rng2K (x y : D) (s2 : S) : RA := match x, y with
  | .int i, .int j => if lim62 i && lim62 j then .ok (rangeD i (j - i).toNat) s2 else .stuck
  | _, _ => .stuck
@[simp] theorem iRng2_eq : DL.iRng2 a c s = (a s).ra fun x s1 => (c s1).ra (rng2K x) := rfl
theorem rng2K_int (h1 : -4611686018427387904 ≤ i ∧ i < 4611686018427387904) (h2 : -4611686018427387904 ≤ j ∧ j < 4611686018427387904) : rng2K (.int i) (.int j) s = .ok (rangeD i (j - i).toNat) s := by
  have h : (lim62 i && lim62 j) = true := by simp [lim62]; omega
  unfold rng2K
  simp only [h, if_true]
def compK (vs : List Nat) (g : D → S → Option S) (tt te : DE) (ds : List D) (s1 : S) : RE := if ds.length < sizeLine then (match compL g tt te vs ds [] s1 with
    | .ok acc s2 => .ok (.own acc) s2
    | _ => .stuck) else .stuck
def RA.ere (r : RA) (k : List D → S → RE) : RE := match r with
  | .ok ds s1 => k ds s1
  | .er e c => .er e c
  | .stuck => .stuck
@[simp] theorem ere_ok {k : List D → S → RE} : (RA.ok ds s).ere k = k ds s := rfl
@[simp] theorem eComp_eq : eComp vs as g tt te s = (as s).ere (compK vs g tt te) := rfl
theorem compK_ok (hl : ds.length < sizeLine) (e : compL g tt te vs ds [] s1 = .ok acc s2) : compK vs g tt te ds s1 = .ok (.own acc) s2 := by
  unfold compK
  rw [if_pos hl, e]
@[simp] theorem compL_nil : compL g tt te vs [] acc s = .ok acc s := rfl
def allK (vs : List Nat) (g : D → S → Option S) (te : DE) (ds : List D) (s1 : S) : RE := match allL g te vs ds s1 with
    | .ok (.val d) s2 => .ok (.val d) s2
    | _ => .stuck
@[simp] theorem eAll_eq : eAll vs as g te s = (as s).ere (allK vs g te) := rfl
theorem allK_ok (e : allL g te vs ds s1 = .ok (.val d) s2) : allK vs g te ds s1 = .ok (.val d) s2 := by
  unfold allK
  rw [e]
@[simp] theorem itD_tup : itD (.tuple xs) = some xs := rfl
@[simp] theorem itD_lst : itD (.list xs) = some xs := rfl
@[simp] theorem gSet_eq {i : Nat} : gSet i d s = some { s with e := s.e.set i (.val d) } := rfl
@[simp] theorem tTrue_eq : tTrue s = .ok (.val (.bool true)) s := rfl
@[simp] theorem gTupD_eq {gs : List D → S → Option S} : gTupD gs (.tuple ds) s = gs ds s := rfl
@[simp] theorem gsCons_eq {gs : List D → S → Option S} : gsCons g gs (d :: ds) s = (g d s).bind (gs ds) := rfl
@[simp] theorem gsNil_eq : gsNil [] s = some s := rfl
@[simp] theorem forL_nil {g : D → S → Option S} : forL g gb [] s = .nx s := rfl
theorem dApp_own {i : Nat} (h : s.e[i]? = some (.own xs)) : dApp i a s = (a s).st fun x s1 => match s1.e[i]? with
    | some (.own xs) => if xs.length < sizeLine then .nx { s1 with e := s1.e.set i (.own (xs ++ [x.d])) } else .stuck
    | _ => .stuck := by unfold dApp; simp only [h] <;> rfl
theorem dRaise_eq {k : Nat} : dRaise k as s = match as s with
  | .ok [.str y] s1 => if y.length ≤ 1000000 then .er ⟨k, [("name", .str y)]⟩ s1.c else .stuck
  | .ok _ _ => .stuck
  | .er e c => .er e c
  | .stuck => .stuck := rfl
end

/-! ### shapes and equality -/
def Sh (k : Nat) (d : D) : Prop := d.canLay0 = true ∧ d.depth ≤ k
theorem Sh.int {k : Nat} {i : Int} : Sh k (.int i) := ⟨by simp only [PyData.canLay0], by simp only [PyData.depth]; omega⟩
theorem Sh.bool {k : Nat} {i : Bool} : Sh k (.bool i) := ⟨by simp only [PyData.canLay0], by simp only [PyData.depth]; omega⟩
theorem Sh.none {k : Nat} : Sh k .none := ⟨by simp only [PyData.canLay0], by simp only [PyData.depth]; omega⟩
theorem Sh.str {k : Nat} {x : Str} (h : PyData.strOk x = true) : Sh k (.str x) := ⟨by simp only [PyData.canLay0]; exact h, by simp only [PyData.depth]; omega⟩
theorem Sh.all {k : Nat} : ∀ {xs : List D}, (∀ x ∈ xs, Sh k x) → PyData.canLayAll0 xs = true ∧ PyData.depthAll xs ≤ k
  | [], _ => ⟨by simp only [PyData.canLayAll0], by simp only [PyData.depthAll]; omega⟩
  | x :: xs, h => by
    have h1 := h x (by simp)
    have h2 := Sh.all fun y hy => h y (List.mem_cons_of_mem _ hy)
    refine ⟨?_, ?_⟩
    · simp only [PyData.canLayAll0, h1.1, h2.1, Bool.and_self]
    · simp only [PyData.depthAll]
      have := h1.2
      have := h2.2
      omega
theorem Sh.tup {k : Nat} {xs : List D} (h : ∀ x ∈ xs, Sh k x) : Sh (k + 1) (.tuple xs) := ⟨by simp only [PyData.canLay0]; exact (Sh.all h).1, by simp only [PyData.depth]; have := (Sh.all h).2; omega⟩
theorem Sh.lst {k : Nat} {xs : List D} (h : ∀ x ∈ xs, Sh k x) : Sh (k + 1) (.list xs) := ⟨by simp only [PyData.canLay0]; exact (Sh.all h).1, by simp only [PyData.depth]; have := (Sh.all h).2; omega⟩
theorem Sh.ints {k : Nat} {ns : List Int} : ∀ x ∈ ns.map PyData.int, Sh k x := fun x h => by
  obtain ⟨n, _, rfl⟩ := List.mem_map.mp h
  exact .int
theorem Sh.sh {k : Nat} {d : D} (h : Sh k d) (hk : k ≤ 64) : SeqAt.shaped d = true := by
  have := h.2
  unfold SeqAt.shaped
  rw [h.1, Bool.true_and]
  exact decide_eq_true (by omega)
theorem eqD_self {k : Nat} {d : D} (h : Sh k d) (hk : k ≤ 64 := by decide) : eqD d d = some (.val (.bool true)) := by
  unfold eqD
  rw [h.sh hk, SeqAt.eqv_refl d h.1]
  rfl
theorem neD_self {k : Nat} {d : D} (h : Sh k d) (hk : k ≤ 64 := by decide) : neD d d = some (.val (.bool false)) := by
  unfold neD
  rw [h.sh hk, SeqAt.eqv_refl d h.1]
  rfl
end DL

set_option Elab.async false
set_option linter.all false
set_option maxRecDepth 100000
set_option maxHeartbeats 4000000
/-! DLy: augmented stores, loops' steps. -/
namespace DL
open PySem PySem.Spec L2
open PyProof.Rows hiding St

section
variable {i j k : Int} {xs ys ds acc : List D} {b : Bool} {d x : D} {s s1 s2 : S} {a f : DE} {g : D → S → Option S} {gop : D → D → Option Sl} {y : Sl} {m : Nat}
def augK (gop : D → D → Option Sl) (m : Nat) (x : D) (y : Sl) (s1 : S) : RS := match gop x y.d with
  | some (.val z) => .nx { s1 with e := s1.e.set m (.val z) }
  | _ => .stuck
theorem dAug_val (h : s.e[m]? = some (.val x)) : dAug gop m a s = (a s).st (augK gop m x) := by
  unfold dAug
  rw [h] <;> rfl
@[simp] theorem augK_ii : augK augD m (.int i) (.val (.int j)) s = .nx { s with e := s.e.set m (.val (.int (i + j))) } := rfl
@[simp] theorem isNd_none : isNd .none .none = some (.val (.bool true)) := rfl
@[simp] theorem isNd_int : isNd (.int i) .none = some (.val (.bool false)) := rfl
@[simp] theorem isNd_tup : isNd (.tuple xs) .none = some (.val (.bool false)) := rfl
@[simp] theorem isNd_lst : isNd (.list xs) .none = some (.val (.bool false)) := rfl
@[simp] theorem notNd_none : notNd .none .none = some (.val (.bool false)) := rfl
@[simp] theorem notNd_int : notNd (.int i) .none = some (.val (.bool true)) := rfl
@[simp] theorem notNd_tup : notNd (.tuple xs) .none = some (.val (.bool true)) := rfl
@[simp] theorem notNd_lst : notNd (.list xs) .none = some (.val (.bool true)) := rfl
theorem mulD_nn {i j : Int} (h : -9223372036854775808 ≤ j ∧ j < 9223372036854775808) : mulD (.int i) (.int j) = some (.val (.int (i * j))) := mulD_ii (by simp [lim64]; omega)
theorem forL_rt {gb : DS} {x : Sl} {c : List Int} (h : g d s = some s1) (hb : gb s1 = .rt x c) : forL g gb (d :: ds) s = .rt x c := by
  conv => lhs; unfold forL
  simp only [h, hb]
theorem forL_er {gb : DS} {x : Er} {c : List Int} (h : g d s = some s1) (hb : gb s1 = .er x c) : forL g gb (d :: ds) s = .er x c := by
  conv => lhs; unfold forL
  simp only [h, hb]
theorem forL_ct {gb : DS} (h : g d s = some s1) (hb : gb s1 = .ct s2) : forL g gb (d :: ds) s = forL g gb ds s2 := by
  conv => lhs; unfold forL
  simp only [h, hb]
end
end DL

set_option Elab.async false
set_option linter.all false
set_option maxRecDepth 100000
set_option maxHeartbeats 4000000
/-! DLz: defs as values. -/
namespace DL
open PySem PySem.Spec L2
open PyProof.Rows hiding St

def FnAt (K : PySem.W.Frag) (mg : Str → Option Value) (x : Str) : Prop := ∃ a, PySem.W.nsIn K mainGlobals x = some (some (.ref a)) ∧ mg x = some (.ref a)
section
variable {K : PySem.W.Frag} {H : Hp} {O : Addr → Prop} {δ : Option Addr} {v : V} {d : D}
theorem RepD.fn_inv {x : Str} (r : RepD K H O δ v (dfn x)) : ∃ a, v = .ref a ∧ PySem.W.nsIn K mainGlobals x = some (some (.ref a)) := by
  generalize e : dfn x = d at r
  cases r with
  | fn h =>
    unfold dfn at e
    simp at e
    subst e
    exact ⟨_, rfl, h⟩
  | cell h => unfold dcell dfn at e; simp at e
  | scr h q => unfold dscr dfn at e; simp at e
  | dtt h n => unfold dttD dfn at e; simp at e
  | dic h n q =>
    exfalso
    unfold dfn at e
    injection e with e
    rename_i kvs ds
    cases kvs with
    | nil => simp at e
    | cons p l =>
      cases ds with
      | nil => simp at e
      | cons x r =>
        simp only [List.map_cons, List.zip_cons_cons, List.cons.injEq, Prod.mk.injEq] at e
        exact keyD_none _ e.1.1.symm
  | _ => unfold dfn at e; cases e
end
/-- of several defs that the slot may hold -/
structure HeldE (P : Program) (w : World) (K : PySem.W.Frag) (mg : Str → Option Value) (base : Heap) (CX : CXT) (k : Nat) (f : Addr) (sp : Sp) : Prop where
  ex : ∃ (fd : FuncData) (ps : List Str), FnOk P w K mg base CX k f fd ps sp ∧ PySem.W.keepIn K (.ref f) = true ∧ Binds K fd ps []
def tCallV (i : Nat) (S : Addr → Sp → Prop) (E : XK) (t : TA) : TE := fun σ H Q => ∃ f sp, σ[i]? = some (some (.ref f)) ∧ S f sp ∧ t σ H fun vs H1 => sp vs H1 Q E
section
variable {X : Cx} {CX : CXT} {k i : Nat} {E : XK} {x : Str} {p pos : Pos} {e : Expr} {es : List Expr} {t : TA}
theorem pe_callV {S : Addr → Sp → Prop} (A : ∀ f sp, S f sp → HeldE X.prog X.w X.K X.mg X.base CX k f sp) (hr : Room k X.A) (hN : X.N[i]? = some x) (hv : Vis X.env.scope x) (hx : Passes CX X E) (ha : PA X (e :: es) t)
    (hdb : (x == ("__debug__" : Str)) = false := by decide) (hcd : (x == ("__classdict__" : Str)) = false := by decide)
    (he : starEach (e :: es) X.env = (false, eval e X.env) :: starEach es X.env := by rfl) (hpl : (backTo pos (starEach es X.env)).any (·.1) = false := by rfl) : PE X (.Call (.Name x p) (e :: es) [] pos) (tCallV i S E t) := by
  refine ⟨fun pins s σ H Q I h => ?_⟩
  obtain ⟨f, sp, hs, hS, ht⟩ := h
  obtain ⟨fd, ps, F, hk, hb⟩ := (A f sp hS).ex
  refine (pe_callL (i := i) (f := f) (sp := sp) (dvs := []) (E := E) F hr hN hv hk hb .nil hx ha hdb hcd he hpl).run pins s σ H Q I ⟨hs, ?_⟩
  have e0 : (fun (vs : List V) (H1 : Hp) => sp (vs ++ []) H1 Q E) = fun vs H1 => sp vs H1 Q E := by
    funext vs H1
    rw [List.append_nil]
  show t σ H (fun vs H1 => sp (vs ++ []) H1 Q E)
  rw [e0]
  exact ht
end
def fnX (tab : List (Str × Fn)) : D → Option Fn
  | .dict [(.none, .str x)] => tab.lookup x
  | _ => none
def eCallV (i : Nat) (tab : List (Str × Fn)) (as : DA) : DE := fun s => match s.e[i]? with
  | some (.val d) => match fnX tab d with
    | some G => (as s).bind fun ds s1 => callR G ds s1
    | none => .stuck
  | _ => .stuck
theorem fnX_some {tab : List (Str × Fn)} {d : D} {G : Fn} (h : fnX tab d = some G) : ∃ x, d = dfn x ∧ tab.lookup x = some G := by
  unfold fnX at h
  split at h
  · exact ⟨_, rfl, h⟩
  · cases h
section
variable {F : Fx} {X : Cx} {k j n i : Nat} {G : Fn} {x : Str} {p pos : Pos} {e : Expr} {es : List Expr} {as : DA} {kl : List (Nat × List Str)} {tab : List (Str × Fn)}
/-- a def's name as a value -/
theorem e_fn (hK : F.m.K = X.K) (h : FnAt X.K X.mg x) (hg : Gl X x := by rfl) (hd : (x == ("__debug__" : Str)) = false := by decide) : EO F X (.Name x pos) (eC (dfn x)) := by
  obtain ⟨a, h1, h2⟩ := h
  exact e_of (pe_glob hg h2 (v := .ref a) rfl hd) fun _ _ => .fn (hK ▸ h1)
def TabOk (P : Program) (w : World) (K : PySem.W.Frag) (mg : Str → Option Value) (base : Heap) (m : Pm) (k n : Nat) (tab : List (Str × Fn)) : Prop := ∀ x G, tab.lookup x = some G → FnAt K mg x ∧ ∃ j kl, j ≤ k ∧ Cal P w K mg base m j x n G kl
theorem tab_nil {P : Program} {w : World} {K : PySem.W.Frag} {mg : Str → Option Value} {base : Heap} {m : Pm} : TabOk P w K mg base m k n [] := fun x G h => by cases h
theorem tab_cons {P : Program} {w : World} {K : PySem.W.Frag} {mg : Str → Option Value} {base : Heap} {m : Pm} (hf : FnAt K mg x) (h : Cal P w K mg base m j x n G kl) (hr : TabOk P w K mg base m k n tab) (hj : j ≤ k := by decide) : TabOk P w K mg base m k n ((x, G) :: tab) := fun y G' e => by
  rw [List.lookup_cons] at e
  split at e
  · rename_i q
    have q := eq_of_beq q
    subst q
    cases e
    exact ⟨hf, j, kl, hj, h⟩
  · exact hr y G' e
theorem e_callV (hK : F.m.K = X.K) (ht : TabOk X.prog X.w X.K X.mg X.base F.m k n tab) (hr : Room j X.A) (hx : Passes (L2.CX X.prog X.w) X F.E) (ha : AO F X (e :: es) as) (hkj : k ≤ j := by decide) (hN : X.N[i]? = some x := by rfl)
    (hv : Vis X.env.scope x := by first | exact Or.inl rfl | exact Or.inr (Or.inl rfl) | exact Or.inr (Or.inr rfl)) (hn : (e :: es).length = n + 1 := by rfl) (hdb : (x == ("__debug__" : Str)) = false := by decide) (hcd : (x == ("__classdict__" : Str)) = false := by decide)
    (he : starEach (e :: es) X.env = (false, eval e X.env) :: starEach es X.env := by rfl) (hpl : (backTo pos (starEach es X.env)).any (·.1) = false := by rfl) : EO F X (.Call (.Name x p) (e :: es) [] pos) (eCallV i tab as) := by
  obtain ⟨ta, pa, sa, la⟩ := ha
  refine ⟨_, pe_callV (k := k) (S := fun f sp => ∃ y G, tab.lookup y = some G ∧ sp = spD F.m (n + 1) G ∧ X.mg y = some (.ref f)) (fun f sp h => ?_) (hr.mono hkj) hN hv hx pa hdb hcd he hpl, fun σ H O s Q I kk => ?_⟩
  · obtain ⟨y, G, h1, rfl, h2⟩ := h
    obtain ⟨_, jj, kl, hjk, hC⟩ := ht y G h1
    obtain ⟨fa, fd, ps, f1, f2, f3, f4, _⟩ := hC.ex
    rw [h2] at f2
    cases f2
    exact ⟨fd, ps, f1.mono hjk, f3, f4⟩
  · unfold eCallV at kk
    split at kk
    · rename_i d hd
      split at kk
      · rename_i G hG
        obtain ⟨y, rfl, hl⟩ := fnX_some hG
        obtain ⟨v, h1, h2⟩ := I.env.vals i _ hd
        obtain ⟨a, rfl, h3⟩ := h2.fn_inv
        obtain ⟨⟨a', g1, g2⟩, _⟩ := ht y G hl
        rw [hK, g1] at h3
        cases h3
        refine ⟨_, _, h1, ⟨y, G, hl, rfl, g2⟩, ?_⟩
        refine sa.bind I kk fun ds s1 vs H1 O1 q st I1 r kz => ?_
        exact spD_of I1 r ((la _ _ _ q).trans hn) kz
      · exact kk.elim
    · exact kk.elim
end
end DL

set_option Elab.async false
set_option linter.all false
set_option maxRecDepth 100000
set_option maxHeartbeats 4000000
/-! DLA: tools for the plain laws: loops by an invariant, comprehensions as filter and map, equality of data. -/
namespace DL
open PySem PySem.Spec L2
open PyProof.Rows hiding St

/-! ### comprehensions -/
theorem compL_filter {α : Type} {g : D → S → Option S} {tt te : DE} {vs : List Nat} {s : S} {p : α → Bool} {f h : α → D} : ∀ (as : List α) (acc : List D),
    (∀ d ∈ as, ∃ s1 s2, g (f d) { s with e := wipeE s.e vs } = some s1 ∧ tt s1 = .ok (.val (.bool (p d))) s2 ∧ (p d = false → { s2 with e := mg vs s.e s2.e } = s) ∧ (p d = true → ∃ y s3, te s2 = .ok y s3 ∧ y.d = h d ∧ { s3 with e := mg vs s.e s3.e } = s)) →
    compL g tt te vs (as.map f) acc s = .ok (acc ++ (as.filter p).map h) s
  | [], acc, _ => by simp [compL]
  | d :: ds, acc, h0 => by
    obtain ⟨s1, s2, h1, h2, h3, h4⟩ := h0 d (by simp)
    have ih := fun acc => compL_filter ds acc fun d hd => h0 d (List.mem_cons_of_mem _ hd)
    rw [List.map_cons]
    unfold compL
    simp only [h1]
    cases q : p d with
    | false =>
      rw [q] at h2
      simp only [h2]
      rw [h3 q, ih, List.filter_cons_of_neg (by simp [q])]
    | true =>
      obtain ⟨y, s3, h5, h6, h7⟩ := h4 q
      rw [q] at h2
      simp only [h2, h5]
      rw [h7, ih, List.filter_cons_of_pos q, h6]
      simp
theorem compL_map {α : Type} {g : D → S → Option S} {te : DE} {vs : List Nat} {s : S} {f h : α → D} (as : List α) (acc : List D)
    (h0 : ∀ d ∈ as, ∃ s1 y s3, g (f d) { s with e := wipeE s.e vs } = some s1 ∧ te s1 = .ok y s3 ∧ y.d = h d ∧ { s3 with e := mg vs s.e s3.e } = s) :
    compL g tTrue te vs (as.map f) acc s = .ok (acc ++ as.map h) s := by
  have e := compL_filter (g := g) (tt := tTrue) (te := te) (vs := vs) (s := s) (p := fun _ => true) (f := f) (h := h) as acc fun d hd => by
    obtain ⟨s1, y, s3, h1, h2, h3, h4⟩ := h0 d hd
    exact ⟨s1, s1, h1, rfl, (fun q => nomatch q), fun _ => ⟨y, s3, h2, h3, h4⟩⟩
  rw [e, List.filter_eq_self.mpr fun _ _ => rfl]
theorem compK_filter {α : Type} {g : D → S → Option S} {tt te : DE} {vs : List Nat} {s : S} {p : α → Bool} {f h : α → D} {as : List α} (hl : as.length < sizeLine)
    (h0 : ∀ d ∈ as, ∃ s1 s2, g (f d) { s with e := wipeE s.e vs } = some s1 ∧ tt s1 = .ok (.val (.bool (p d))) s2 ∧ (p d = false → { s2 with e := mg vs s.e s2.e } = s) ∧ (p d = true → ∃ y s3, te s2 = .ok y s3 ∧ y.d = h d ∧ { s3 with e := mg vs s.e s3.e } = s)) :
    compK vs g tt te (as.map f) s = .ok (.own ((as.filter p).map h)) s := compK_ok (by rw [List.length_map]; exact hl) (by rw [compL_filter as [] h0]; rfl)
theorem compK_map {α : Type} {g : D → S → Option S} {te : DE} {vs : List Nat} {s : S} {f h : α → D} {as : List α} (hl : as.length < sizeLine)
    (h0 : ∀ d ∈ as, ∃ s1 y s3, g (f d) { s with e := wipeE s.e vs } = some s1 ∧ te s1 = .ok y s3 ∧ y.d = h d ∧ { s3 with e := mg vs s.e s3.e } = s) :
    compK vs g tTrue te (as.map f) s = .ok (.own (as.map h)) s := compK_ok (by rw [List.length_map]; exact hl) (by rw [compL_map as [] h0]; rfl)

/-- a comprehension whose parts leave the state as it is -/
theorem compK_map0 {α : Type} {g : D → S → Option S} {te : DE} {vs : List Nat} {s : S} {f h : α → D} {as : List α} (s1 : α → S) (hl : as.length < sizeLine)
    (h0 : ∀ d ∈ as, g (f d) { s with e := wipeE s.e vs } = some (s1 d) ∧ te (s1 d) = .ok (.val (h d)) (s1 d) ∧ { s1 d with e := mg vs s.e (s1 d).e } = s) :
    compK vs g tTrue te (as.map f) s = .ok (.own (as.map h)) s := compK_map hl fun d hd => let ⟨a, b, c⟩ := h0 d hd; ⟨_, _, _, a, b, rfl, c⟩
theorem compK_filter0 {α : Type} {g : D → S → Option S} {tt te : DE} {vs : List Nat} {s : S} {p : α → Bool} {f h : α → D} {as : List α} (s1 : α → S) (hl : as.length < sizeLine)
    (h0 : ∀ d ∈ as, g (f d) { s with e := wipeE s.e vs } = some (s1 d) ∧ tt (s1 d) = .ok (.val (.bool (p d))) (s1 d) ∧ te (s1 d) = .ok (.val (h d)) (s1 d) ∧ { s1 d with e := mg vs s.e (s1 d).e } = s) :
    compK vs g tt te (as.map f) s = .ok (.own ((as.filter p).map h)) s := compK_filter hl fun d hd => let ⟨a, b, c, e⟩ := h0 d hd; ⟨_, _, a, b, fun _ => e, fun _ => ⟨_, _, c, rfl, e⟩⟩
/-- the first part brings a list of one's own to rest -/
theorem compK_filter_to {α : Type} {g : D → S → Option S} {tt te : DE} {vs : List Nat} {s s' : S} {p : α → Bool} {f h : α → D} {as : List α} (sa s1 : α → S) (hl : as.length < sizeLine) (hne : as ≠ [])
    (ha : ∀ d ∈ as, g (f d) { s with e := wipeE s.e vs } = some (sa d) ∧ tt (sa d) = .ok (.val (.bool (p d))) (s1 d))
    (h0 : ∀ d ∈ as, g (f d) { s' with e := wipeE s'.e vs } = some (s1 d) ∧ tt (s1 d) = .ok (.val (.bool (p d))) (s1 d) ∧ te (s1 d) = .ok (.val (h d)) (s1 d) ∧ { s1 d with e := mg vs s.e (s1 d).e } = s' ∧ { s1 d with e := mg vs s'.e (s1 d).e } = s') :
    compK vs g tt te (as.map f) s = .ok (.own ((as.filter p).map h)) s' := by
  refine compK_ok (by rw [List.length_map]; exact hl) ?_
  cases as with
  | nil => exact absurd rfl hne
  | cons d ds =>
    obtain ⟨a1, a2⟩ := ha d (by simp)
    obtain ⟨b1, b2, b3, b4, b5⟩ := h0 d (by simp)
    have rest : ∀ acc, compL g tt te vs (ds.map f) acc s' = .ok (acc ++ (ds.filter p).map h) s' := fun acc => compL_filter ds acc fun x hx => by
      obtain ⟨b1, b2, b3, b4, b5⟩ := h0 x (List.mem_cons_of_mem _ hx)
      exact ⟨_, _, b1, b2, fun _ => b5, fun _ => ⟨_, _, b3, rfl, b5⟩⟩
    rw [List.map_cons]
    unfold compL
    simp only [a1]
    cases q : p d with
    | false =>
      rw [q] at a2
      simp only [a2]
      rw [b4, rest, List.filter_cons_of_neg (by simp [q])]
      rfl
    | true =>
      rw [q] at a2
      simp only [a2, b3]
      rw [b4, rest, List.filter_cons_of_pos q]
      simp
/-! ### loops -/
theorem forL_nx {g : D → S → Option S} {b : DS} {d : D} {ds : List D} {s s1 s2 : S} (h : g d s = some s1) (hb : b s1 = .nx s2) : forL g b (d :: ds) s = forL g b ds s2 := by
  conv => lhs; unfold forL
  simp only [h, hb]
theorem forL_bk {g : D → S → Option S} {b : DS} {d : D} {ds : List D} {s s1 s2 : S} (h : g d s = some s1) (hb : b s1 = .bk s2) : forL g b (d :: ds) s = .nx s2 := by
  conv => lhs; unfold forL
  simp only [h, hb]
theorem forL_inv {g : D → S → Option S} {gb : DS} {P : Nat → S → Prop} : ∀ (ds : List D) (o : Nat), (∀ i d s, ds[i]? = some d → P (o + i) s → ∃ s1 s2, g d s = some s1 ∧ (gb s1 = .nx s2 ∨ gb s1 = .ct s2) ∧ P (o + i + 1) s2) → ∀ s, P o s → ∃ s', forL g gb ds s = .nx s' ∧ P (o + ds.length) s'
  | [], o, _, s, h0 => ⟨s, rfl, h0⟩
  | d :: ds, o, h, s, h0 => by
    obtain ⟨s1, s2, h1, h2, h3⟩ := h 0 d s rfl h0
    obtain ⟨s', e, q⟩ := forL_inv ds (o + 1) (fun i d s hi hp => by
      have := h (i + 1) d s (by simpa using hi) (by rw [show o + (i + 1) = o + 1 + i by omega]; exact hp)
      rw [show o + (i + 1) + 1 = o + 1 + i + 1 by omega] at this
      exact this) s2 h3
    refine ⟨s', ?_, by rw [List.length_cons, show o + (ds.length + 1) = o + 1 + ds.length by omega]; exact q⟩
    rcases h2 with h2 | h2
    · rw [forL_nx h1 h2, e]
    · rw [forL_ct h1 h2, e]
theorem forL_app {g : D → S → Option S} {gb : DS} {s' : S} : ∀ (as bs : List D) (s : S), forL g gb as s = .nx s' → (∀ d ∈ as, ∀ s s1, g d s = some s1 → ∀ s2, gb s1 ≠ .bk s2) → forL g gb (as ++ bs) s = forL g gb bs s'
  | [], bs, s, h, _ => by
    rw [forL_nil] at h
    cases h
    rfl
  | d :: as, bs, s, h, hb => by
    rw [List.cons_append]
    cases q : g d s with
    | none => unfold forL at h; simp only [q] at h; cases h
    | some s1 =>
      cases r : gb s1 with
      | nx s2 => rw [forL_nx q r] at h ⊢; exact forL_app as bs s2 h fun d hd => hb d (List.mem_cons_of_mem _ hd)
      | ct s2 => rw [forL_ct q r] at h ⊢; exact forL_app as bs s2 h fun d hd => hb d (List.mem_cons_of_mem _ hd)
      | bk s2 => exact absurd r (hb d (by simp) s s1 q s2)
      | rt x c => rw [forL_rt q r] at h; cases h
      | er e c => rw [forL_er q r] at h; cases h
      | stuck => unfold forL at h; simp only [q, r] at h; cases h
theorem rangeD_get {lo : Int} {n i : Nat} {d : D} : (rangeD lo n)[i]? = some d ↔ i < n ∧ d = .int (lo + i) := by
  unfold rangeD
  rw [List.getElem?_map]
  by_cases h : i < n
  · rw [List.getElem?_eq_getElem (by simpa using h)]
    simp
    constructor
    · rintro rfl
      exact ⟨h, rfl⟩
    · rintro ⟨_, rfl⟩
      rfl
  · rw [List.getElem?_eq_none (by simpa using h)]
    simp
    omega
theorem rangeD_mem {lo : Int} {n : Nat} {d : D} : d ∈ rangeD lo n ↔ ∃ i : Nat, i < n ∧ d = .int (lo + i) := by
  rw [List.mem_iff_getElem?]
  simp only [rangeD_get]
theorem rangeD_nat {lo n : Nat} : rangeD (lo : Int) n = (List.range' lo n).map fun i : Nat => PyData.int i := by
  apply List.ext_getElem?
  intro i
  rw [List.getElem?_map]
  by_cases h : i < n
  · rw [rangeD_get.mpr ⟨h, rfl⟩, List.getElem?_range' h]
    simp
  · rw [List.getElem?_eq_none (by rw [rangeD_len]; omega), List.getElem?_eq_none (by simpa using h)]
    rfl
theorem dWhile_t {c : DE} {b : DS} {n : Nat} {s s1 s2 : S} (h : c s = .ok (.val (.bool true)) s1) (hb : b s1 = .nx s2) : dWhile c b (n + 1) s = dWhile c b n s2 := by
  show (c s).stT _ = _
  rw [h]
  rw [stT_ok, if_pos rfl, hb]
theorem dWhile_f {c : DE} {b : DS} {n : Nat} {s s1 : S} (h : c s = .ok (.val (.bool false)) s1) : dWhile c b (n + 1) s = .nx s1 := by
  show (c s).stT _ = _
  rw [h]
  rfl

/-! ### equality of data -/
structure EqF {α : Type} [DecidableEq α] (f : α → D) : Prop where
  eq : ∀ a b, PyData.eqv (f a) (f b) = decide (a = b)
theorem eqvAll_map {α : Type} [DecidableEq α] {f : α → D} (h : EqF f) : ∀ a b : List α, PyData.eqvAll (a.map f) (b.map f) = decide (a = b)
  | [], [] => by simp [PyData.eqvAll]
  | [], _ :: _ => by simp [PyData.eqvAll]
  | _ :: _, [] => by simp [PyData.eqvAll]
  | x :: a, y :: b => by
    simp only [List.map_cons, PyData.eqvAll, eqvAll_map h a b, h.eq]
    by_cases h : x = y <;> simp [h]
theorem EqF.int : EqF PyData.int := ⟨fun a b => eqv_ii⟩
theorem EqF.str : EqF PyData.str := ⟨fun a b => by simp only [PyData.eqv]; rw [Bool.eq_iff_iff]; simp⟩
theorem EqF.tup {α : Type} [DecidableEq α] {f : α → D} (h : EqF f) : EqF fun l : List α => PyData.tuple (l.map f) := ⟨fun a b => by
  show PyData.eqv (.tuple _) (.tuple _) = _
  unfold PyData.eqv
  exact eqvAll_map h a b⟩
theorem EqF.lst {α : Type} [DecidableEq α] {f : α → D} (h : EqF f) : EqF fun l : List α => PyData.list (l.map f) := ⟨fun a b => by
  show PyData.eqv (.list _) (.list _) = _
  unfold PyData.eqv
  exact eqvAll_map h a b⟩
theorem EqF.pair {α β : Type} [DecidableEq α] [DecidableEq β] {f : α → D} {g : β → D} (h : EqF f) (k : EqF g) : EqF fun p : α × β => PyData.tuple [f p.1, g p.2] := ⟨fun a b => by
  show PyData.eqv (.tuple _) (.tuple _) = _
  simp only [PyData.eqv, PyData.eqvAll, h.eq, k.eq]
  obtain ⟨a1, a2⟩ := a
  obtain ⟨b1, b2⟩ := b
  simp⟩
theorem EqF.trip {α β γ : Type} [DecidableEq α] [DecidableEq β] [DecidableEq γ] {f : α → D} {g : β → D} {j : γ → D} (h : EqF f) (k : EqF g) (l : EqF j) : EqF fun p : α × β × γ => PyData.tuple [f p.1, g p.2.1, j p.2.2] := ⟨fun a b => by
  show PyData.eqv (.tuple _) (.tuple _) = _
  simp only [PyData.eqv, PyData.eqvAll, h.eq, k.eq, l.eq]
  obtain ⟨a1, a2, a3⟩ := a
  obtain ⟨b1, b2, b3⟩ := b
  simp⟩
theorem eqD_F {α : Type} [DecidableEq α] {f : α → D} (h : EqF f) {k : Nat} {a b : α} (ha : Sh k (f a)) (hb : Sh k (f b)) (hk : k ≤ 64 := by decide) : eqD (f a) (f b) = some (.val (.bool (decide (a = b)))) := by
  unfold eqD
  rw [ha.sh hk, hb.sh hk, h.eq]
  rfl
theorem neD_F {α : Type} [DecidableEq α] {f : α → D} (h : EqF f) {k : Nat} {a b : α} (ha : Sh k (f a)) (hb : Sh k (f b)) (hk : k ≤ 64 := by decide) : neD (f a) (f b) = some (.val (.bool (!decide (a = b)))) := by
  unfold neD
  rw [ha.sh hk, hb.sh hk, h.eq]
  rfl
theorem Sh.map {α : Type} {f : α → D} {k : Nat} (h : ∀ a, Sh k (f a)) {xs : List α} : ∀ x ∈ xs.map f, Sh k x := fun x hx => by
  obtain ⟨a, _, rfl⟩ := List.mem_map.mp hx
  exact h a
theorem Sh.mono {j k : Nat} {d : D} (h : Sh j d) (q : j ≤ k) : Sh k d := ⟨h.1, Nat.le_trans h.2 q⟩
/-! ### slices -/
theorem cutD_nn {xs : List D} {a b : Nat} : cutD xs (some (a : Int)) (some (b : Int)) = (xs.take b).drop a := by
  unfold cutD
  rw [HT.sIx_nat, HT.sIx_nat]
  apply List.ext_getElem?
  intro i
  simp only [List.getElem?_take, List.getElem?_drop]
  by_cases h1 : a ≤ xs.length
  · rw [Nat.min_eq_left h1]
    by_cases h2 : a + i < xs.length
    · by_cases h3 : a + i < b
      · rw [if_pos (by omega), if_pos h3]
      · rw [if_neg (by omega), if_neg h3]
    · rw [List.getElem?_eq_none (show xs.length ≤ a + i by omega)]
      split <;> split <;> rfl
  · rw [List.getElem?_eq_none (show xs.length ≤ min a xs.length + i by omega), List.getElem?_eq_none (show xs.length ≤ a + i by omega)]
    split <;> split <;> rfl
theorem cutD_n {xs : List D} {a : Nat} : cutD xs (some (a : Int)) none = xs.drop a := by
  unfold cutD
  rw [HT.sIx_nat, HT.sIx_none]
  rcases Nat.le_total a xs.length with h | h
  · rw [Nat.min_eq_left h, List.take_of_length_le (by rw [List.length_drop]; omega)]
  · rw [Nat.min_eq_right h, List.drop_eq_nil_of_le (Nat.le_refl _), List.drop_eq_nil_of_le h, List.take_nil]
theorem slD_lnn {xs : List D} {a b : Nat} : slD (.list xs) (some (a : Int)) (some (b : Int)) = some (.own ((xs.take b).drop a)) := by
  show some (Sl.own (cutD xs _ _)) = _
  rw [cutD_nn]
theorem slD_ln {xs : List D} {a : Nat} : slD (.list xs) (some (a : Int)) none = some (.own (xs.drop a)) := by
  show some (Sl.own (cutD xs _ _)) = _
  rw [cutD_n]
theorem atI_n {α : Type} {xs : List α} {i : Nat} {x : α} (h : xs[i]? = some x) : atI xs (i : Int) = some x := by
  have hl : i < xs.length := by
    rcases Nat.lt_or_ge i xs.length with q | q
    · exact q
    · rw [List.getElem?_eq_none q] at h
      cases h
  rw [atI_ok (by omega) (by omega), Int.toNat_natCast, h]
@[simp] theorem augS_ii {i j : Int} {m : Nat} {s : S} : augK subD m (.int i) (.val (.int j)) s = .nx { s with e := s.e.set m (.val (.int (i - j))) } := rfl
/-! ### defs as values -/
theorem eCallV_at {i : Nat} {tab : List (Str × Fn)} {as : DA} {s : S} {d : D} {G : Fn} (h : s.e[i]? = some (.val d)) (hG : fnX tab d = some G) : eCallV i tab as s = (as s).bind fun ds s1 => callR G ds s1 := by
  unfold eCallV
  simp only [h, hG]
end DL

set_option Elab.async false
set_option linter.all false
set_option maxRecDepth 100000
set_option maxHeartbeats 4000000
/-! DLB: x[::-1], x in y. -/
namespace DL
open PySem PySem.Spec L2
open PyProof.Rows hiding St
open HT

section
variable {prog : Program} {w : World} {A : Around} {E : Value → Shared → Prop} {s : Shared}
theorem sliceApplied_rev {sl : Addr} {vs : Value} {n : Nat} {Q : Int × Int × Nat → Shared → Prop} (hs : s.heap.IsSliceOf sl .none .none vs) (ps : IsPart vs (some (-1)))
    (h : Q (((n : Int) - 1), -1, n) s) : wpAny (model prog w) A (Builtin.Slice.sliceApplied (.ref sl) (pure (n : Int))) Q E s := by
  obtain ⟨os, hos, hcs, hds⟩ := id hs
  unfold Builtin.Slice.sliceApplied Builtin.Slice.sliceFields
  refine wpAny_bind (wpAny_bind (wpAny_field hos hds (x := .none) rfl (wpAny_bind (wpAny_field hos hds (x := .none) rfl (wpAny_bind (wpAny_field hos hds (x := vs) rfl (wpAny_pure ?_)))))))
  refine wpAny_bind (slicePart_ ps ?_)
  show wpAny _ _ (if ((-1 : Int) == 0) = true then _ else _) _ _ s
  rw [if_neg (by decide)]
  refine wpAny_bind (slicePart_none (wpAny_bind (slicePart_none (wpAny_bind (wpAny_pure ?_)))))
  show wpAny _ _ (pure ((n : Int) - 1, (-1 : Int), Builtin.Slice.slicePlaces ((n : Int) - 1) (-1) (-1))) _ _ s
  have e : Builtin.Slice.slicePlaces ((n : Int) - 1) (-1) (-1) = n := by
    unfold Builtin.Slice.slicePlaces
    have h1 : ¬ ((-1 : Int) > 0) := by omega
    rw [if_neg h1]
    simp only [Int.neg_neg, Int.ediv_one]
    split <;> omega
  rw [e]
  exact wpAny_pure h
theorem fm_congr {α β : Type} {f g : α → Option β} : ∀ l : List α, (∀ m ∈ l, f m = g m) → l.filterMap f = l.filterMap g
  | [], _ => rfl
  | x :: l, h => by
    have e := h x (by simp)
    have ih := fm_congr l fun m hm => h m (List.mem_cons_of_mem _ hm)
    simp only [List.filterMap_cons, e, ih]
theorem pick_rev (xs : Array Value) : ((List.range xs.size).filterMap fun (m : Nat) => xs[(((xs.size : Int) - 1) + (m : Int) * (-1)).toNat]?).toArray = xs.toList.reverse.toArray := by
  congr 1
  have e : ∀ m ∈ List.range xs.size, (fun (m : Nat) => xs[(((xs.size : Int) - 1) + (m : Int) * (-1)).toNat]?) m = (some ∘ fun m : Nat => xs.toList.reverse.getD m .none) m := by
    intro m hm
    rw [List.mem_range] at hm
    simp only [Function.comp]
    rw [show (((xs.size : Int) - 1) + (m : Int) * (-1)).toNat = xs.size - 1 - m by omega, Array.getElem?_eq_getElem (by omega)]
    congr 1
    rw [List.getD_eq_getElem?_getD, List.getElem?_reverse (by simpa using hm)]
    simp only [Array.length_toList]
    rw [Array.getElem?_toList, Array.getElem?_eq_getElem (by omega)]
    rfl
  rw [fm_congr _ e, List.filterMap_eq_map]
  apply List.ext_getElem?
  intro i
  rw [List.getElem?_map]
  by_cases h : i < xs.size
  · rw [List.getElem?_range h, Option.map_some, List.getD_eq_getElem?_getD, List.getElem?_eq_getElem (by simpa using h)]
    rfl
  · rw [List.getElem?_eq_none (by simpa using h), List.getElem?_eq_none (by simpa using h)]
    rfl
theorem getItem_tuple_rev {t sl : Addr} {items : Array Value} {vs : Value} {Q : Value → Shared → Prop} (ht : IsTup s.heap t items) (hs : s.heap.IsSliceOf sl .none .none vs) (ps : IsPart vs (some (-1)))
    (h : Q (.ref s.heap.objs.size) { s with heap := s.heap.push { cls := .type "tuple", data := .seq items.toList.reverse.toArray } })
    (hsz : items.size ≤ sizeLine) : wpAny (model prog w) A (getItem (.ref t) (.ref sl)) Q E s := by
  have htake : sizeOk (.seq items.toList.reverse.toArray) := by
    show items.toList.reverse.toArray.size ≤ sizeLine
    rw [List.size_toArray, List.length_reverse, Array.length_toList]
    omega
  obtain ⟨os, hos, hcs, hds⟩ := id hs
  have hTs : s.TypeIs (.ref sl) "slice" := ⟨os, hos, hcs⟩
  unfold getItem
  try with_reducible refine wpAny_holding ?_
  first | refine wpAny_bind (wpAny_pure ?_) | skip
  refine wpAny_bind (wpAny_sequenceKey ht.typeIs (by decide) ?_)
  refine wpAny_bind (wpAny_callSpecial?_slot (name := Str.ofString "__getitem__") ht.typeIs PyProof.Rows.slot_tuple_getitem
    (wpAny_call_entry PyProof.Rows.slot_tuple_getitem ht.typeIs entry_tuple_getitem ?_ (args_tuple_getitem _ _)))
  show wpAny _ _ (Builtin.Tuple.tupleItemsOf (.ref t) >>= _) _ _ s
  refine wpAny_bind (tupleItemsOf_ ht ?_)
  refine wpAny_bind (wpAny_typeOf hTs ?_)
  rw [if_pos (by decide)]
  refine wpAny_bind (sliceApplied_rev hs ps ?_)
  have hno : ¬ ((((items.size : Int) - 1) == 0 && (-1 : Int) == 1 && items.size == items.size) = true) := by
    rw [show ((-1 : Int) == 1) = false from rfl, Bool.and_false, Bool.false_and]
    exact Bool.false_ne_true
  show wpAny _ _ (if (((items.size : Int) - 1) == 0 && (-1 : Int) == 1 && items.size == items.size) = true then _ else _) _ _ s
  rw [if_neg hno, pick_rev]
  first
    | exact wpAny_bind (m := Builtin.Tuple.tupleExact _) (wpAny_newObj_type (wpAny_pure ⟨_, rfl, wpAny_pure h⟩) htake)
    | exact wpAny_bind (m := Builtin.Tuple.tupleExact _) (wpAny_newObj_type (wpAny_bind (wpAny_pure (wpAny_pure ⟨_, rfl, wpAny_pure h⟩))) htake)
    | exact wpAny_bind (wpAny_bind (m := Builtin.Tuple.tupleExact _) (wpAny_newObj_type (wpAny_pure (wpAny_pure ⟨_, rfl, wpAny_pure h⟩)) htake))
    | exact wpAny_bind (wpAny_bind (m := Builtin.Tuple.tupleExact _) (wpAny_newObj_type (wpAny_pure ⟨_, rfl, wpAny_pure h⟩) htake))
end
/-- the value, or a list or tuple the other way round -/
def tRevA (K : PySem.W.Frag) (te : TE) : TE := fun σ H Q => te σ H fun x H1 => ∃ a xs, x = .ref a ∧ ((SqL K H1 a xs ∧ ∀ p, H1 p = none → Q (.ref p) (upd H1 p (.lst xs.reverse))) ∨ (SqT K H1 a xs ∧ ∀ p, H1 p = none → Q (.ref p) (upd H1 p (.tup xs.reverse))))
section
variable {X : Cx}
theorem pe_revA {e : Expr} {te : TE} {k : Nat} {p1 p2 p3 pos : Pos} (he : PE X e te) : PE X (.Subscript e (.Slice none none (some (.UnaryOp .USub (.Constant (.int 1) k p1) p2)) p3) pos) (tRevA X.K te) := by
  refine ⟨fun pins s σ H Q I h => ?_⟩
  refine Subscript_ (thn (he.run pins s σ H _ I h) fun v s1 ⟨x, H1, I1, r1, q1⟩ => ?_)
  obtain ⟨a, xs, ex, hx⟩ := q1
  subst ex
  cases r1
  have hst : L2.PO X (some (.UnaryOp .USub (.Constant (.int 1) k p1) p2)) (tPart (tUn (rU fun i => .int (-i)) (tC (.int 1)))) := po_some (pe_un un_neg pe_int)
  refine wpAny_Slice ?_
  rw [evalPart_none]
  refine wpAny_pure ?_
  refine wpAny_pure ?_
  refine thn (hst.run pins s1 σ H1 (fun o H4 => o = some (-1) ∧ H4 = H1) I1 ⟨1, rfl, -1, rfl, rfl, rfl⟩) fun vs s4 ⟨o, H4, I4, ps, eo, e4⟩ => ?_
  subst eo e4
  have I5 : Inv X pins σ H4 { s4 with heap := s4.heap.push { cls := .type "slice", data := .fields #[.none, .none, vs] } } := I4.kept (t' := s4.toks) fun b ob q => Heap.get?_push_of_some _ q
  show wpAny (model X.prog X.w) X.A (subscriptTail e (.Slice none none (some (.UnaryOp .USub (.Constant (.int 1) k p1) p2)) p3) (.ref a) (.ref s4.heap.objs.size)) (EP X pins σ Q) X.xe { s4 with heap := s4.heap.push { cls := .type "slice", data := .fields #[.none, .none, vs] } }
  rcases hx with ⟨hx, q⟩ | ⟨hx, q⟩
  · obtain ⟨its, r, ht, hz⟩ := I5.list hx
    have hlen := r.length
    refine tail_any (ops := [.ref a, .ref s4.heap.objs.size]) ht.isList.typeIs (PySem.slot_list_getitem.lookup) ?_ (by with_unfolding_all rfl)
    refine wpAny_getItem_list_slice ht.isList (Heap.IsSliceOf.new _ .none .none vs) .none .none ps (by decide) ?_ (by rw [List.size_toArray]; omega)
    rw [PySem.W.krv_pick]
    refine ⟨.ref _, _, I5.laid (t' := s4.toks) (o := .lst xs.reverse) (fun b ob q => Heap.get?_push_of_some _ q) (Nat.le_refl _) ?_, rfl, q _ (I5.hok.fresh (Nat.le_refl _))⟩
    exact ⟨by rw [List.length_reverse]; exact hz, _, 0, r.reverse, Heap.get?_push_size _ rfl⟩
  · obtain ⟨its, r, ht, hz⟩ := I5.tuple hx
    have hlen := r.length
    refine tail_any (ops := [.ref a, .ref s4.heap.objs.size]) ht.typeIs (PyProof.Rows.slot_tuple_getitem.lookup) ?_ (by with_unfolding_all rfl)
    refine getItem_tuple_rev ht (Heap.IsSliceOf.new _ .none .none vs) ps ?_ (by rw [List.size_toArray]; omega)
    refine ⟨.ref _, _, I5.laid (t' := s4.toks) (o := .tup xs.reverse) (fun b ob q => Heap.get?_push_of_some _ q) (Nat.le_refl _) ?_, rfl, q _ (I5.hok.fresh (Nat.le_refl _))⟩
    exact ⟨by rw [List.length_reverse]; exact hz, _, r.reverse, IsTup.new _ _⟩
end
def revD : D → Option Sl
  | .list xs => some (.own xs.reverse)
  | .tuple xs => if prD xs.reverse = false then some (.val (.tuple xs.reverse)) else none
  | _ => none
def eRev (a : DE) : DE := fun s => (a s).bind fun x s1 => liftR (revD x) s1
section
variable {F : Fx} {X : Cx} {a b : Expr} {fa fb : DE} {p1 p2 p3 pos : Pos} {j : Nat}
theorem e_rev (hK : F.m.K = X.K) (ha : EO F X a fa) : EO F X (.Subscript a (.Slice none none (some (.UnaryOp .USub (.Constant (.int 1) j p1) p2)) p3) pos) (eRev fa) := by
  obtain ⟨ta, pa, sa⟩ := ha
  refine ⟨_, pe_revA pa, fun σ H O s Q I k => ?_⟩
  refine sa.bind I k fun x s1 v H1 O1 st1 I1 r1 k => ?_
  obtain ⟨z, qo, zn, k⟩ := KE_lift k
  have hq := Res.of I1 .refl I1 (k.trans st1 fun _ => True) zn
  unfold revD at qo
  split at qo
  · cases qo
    obtain ⟨a, vs, rfl, ha, hn, hr⟩ := r1.list_inv
    exact ⟨a, vs, rfl, .inl ⟨.inl (.inl ha), fun p hp => hq p _ hp hr.reverse⟩⟩
  · split at qo
    · rename_i hn
      cases qo
      obtain ⟨a, vs, rfl, ha, hr⟩ := r1.tup_inv
      exact ⟨a, vs, rfl, .inr ⟨hK ▸ ha, fun p hp => hq (.ref p) _ (.upd hp) (.tup (.inl (.inl upd_same)) (fun z => by rw [hn] at z; cases z) (hr.reverse.step (StF.stp ((Ext.upd hp).stF (O := O1))) I1.wd))⟩⟩
    · cases qo
  · cases qo
end
/-! ### x in y -/
def flatD : D → Bool
  | .none => true
  | .bool _ => true
  | .int _ => true
  | .str _ => true
  | _ => false
def inB : D → D → Option Bool
  | x, .tuple ys => if flatD x && ys.all flatD then some (ys.any fun y => PyData.eqv y x) else none
  | x, .list ys => if SeqAt.shaped x && SeqAt.shaped (.list ys) then some (ys.any fun y => PyData.eqv y x) else none
  | .str i, .str j => some (!(Builtin.Str.occurrences j i 0 j.length 1).isEmpty)
  | _, _ => none
def inD (x y : D) : Option Sl := (inB x y).map fun b => .val (.bool b)
def ninD (x y : D) : Option Sl := (inB x y).map fun b => .val (.bool (!b))
section
variable {K : PySem.W.Frag} {H : Hp} {O : Addr → Prop} {δ : Option Addr} {v u : V} {x y : D} {vs : List V} {ys : List D}
theorem RepD.flat (r : RepD K H O δ v x) (h : flatD x = true) : flatV v = true := by
  cases r <;> first | rfl | (unfold flatD at h; cases h) | (unfold dcell flatD at h; cases h) | (unfold dscr flatD at h; cases h) | (unfold dfn flatD at h; cases h) | (unfold dttD flatD at h; cases h)
theorem RepD.flat4 (r : RepD K H O δ v x) (h : flatD x = true) : (v = .non ∧ x = .none) ∨ (∃ b, v = .bl b ∧ x = .bool b) ∨ (∃ i, v = .int i ∧ x = .int i) ∨ (∃ i, v = .str i ∧ x = .str i) := by
  cases r with
  | non => exact .inl ⟨rfl, rfl⟩
  | bl b => exact .inr (.inl ⟨b, rfl, rfl⟩)
  | int i => exact .inr (.inr (.inl ⟨i, rfl, rfl⟩))
  | str i => exact .inr (.inr (.inr ⟨i, rfl, rfl⟩))
  | tup _ _ => unfold flatD at h; cases h
  | lst _ _ _ => unfold flatD at h; cases h
  | cell _ => unfold dcell flatD at h; cases h
  | scr _ _ => unfold dscr flatD at h; cases h
  | fn _ => unfold dfn flatD at h; cases h
  | dic _ _ _ => unfold flatD at h; cases h
  | dtt _ _ => unfold dttD flatD at h; cases h
theorem RepD.eqv (r : RepD K H O δ v x) (q : RepD K H O δ u y) (h : flatD x = true) (k : flatD y = true) : eqV u v = PyData.eqv y x := by
  rcases r.flat4 h with ⟨rfl, rfl⟩ | ⟨b, rfl, rfl⟩ | ⟨i, rfl, rfl⟩ | ⟨i, rfl, rfl⟩ <;> rcases q.flat4 k with ⟨rfl, rfl⟩ | ⟨b', rfl, rfl⟩ | ⟨i', rfl, rfl⟩ | ⟨i', rfl, rfl⟩ <;> simp only [eqV, PyData.eqv]
theorem RepDs.flats (h : flatD x = true) (r : RepD K H O δ v x) : ∀ {vs : List V} {ys : List D}, RepDs K H O δ vs ys → ys.all flatD = true → vs.all flatV = true ∧ inV v vs = ys.any fun y => PyData.eqv y x
  | _, _, .nil, _ => ⟨rfl, rfl⟩
  | _, _, .cons q t, hy => by
    rw [List.all_cons, Bool.and_eq_true] at hy
    obtain ⟨a, b⟩ := RepDs.flats h r t hy.2
    unfold inV at b ⊢
    rw [List.all_cons, List.any_cons, List.any_cons, a, b, q.flat hy.1, r.eqv q h hy.1]
    exact ⟨rfl, rfl⟩
end
def rStrIn (neg : Bool) : R2 := fun x y H Q => ∃ i j, x = .str i ∧ y = .str j ∧ Q (.bl (if neg then !(!(Builtin.Str.occurrences j i 0 j.length 1).isEmpty) else !(Builtin.Str.occurrences j i 0 j.length 1).isEmpty)) H
def rInA (K : PySem.W.Frag) (neg : Bool) : R2 := fun x y H Q => rIn K neg x y H Q ∨ (if neg then rNotInD K x y H Q else rInD K x y H Q) ∨ rStrIn neg x y H Q
section
variable {F : Fx} {X : Cx}
theorem op_inA (hu : X.A.units + 65 < cLine) : OpR X (compareOp .In) (rInA X.K false) := fun pins s σ H x y v u Q I rx ry h => by
  rcases h with h | h | ⟨i, j, h1, h2, h3⟩
  · exact op_in_seq pins s σ H x y v u Q I rx ry h
  · exact op_inD hu pins s σ H x y v u Q I rx ry h
  · exact op_in_str pins s σ H x y v u Q I rx ry ⟨i, j, h1, h2, h3⟩
theorem op_ninA (hu : X.A.units + 65 < cLine) : OpR X (compareOp .NotIn) (rInA X.K true) := fun pins s σ H x y v u Q I rx ry h => by
  rcases h with h | h | ⟨i, j, h1, h2, h3⟩
  · exact op_notIn_seq pins s σ H x y v u Q I rx ry h
  · exact op_notInD hu pins s σ H x y v u Q I rx ry h
  · exact op_notin_str pins s σ H x y v u Q I rx ry ⟨i, j, h1, h2, h3⟩
theorem s_inAny {neg : Bool} : OpS F (rInA F.m.K neg) (fun x y => (inB x y).map fun b => .val (.bool (if neg then !b else b))) := by
  intro H O c x y dx dy z Q w rx ry hg hq
  simp only [Option.map_eq_some_iff] at hg
  obtain ⟨b, hb, rfl⟩ := hg
  have hQ : ∀ b', b' = (if neg then !b else b) → Q (.bl b') H := fun b' e => e ▸ hq _ H .refl (.bl _)
  unfold inB at hb
  split at hb
  · split at hb
    · rename_i h
      rw [Bool.and_eq_true] at h
      cases hb
      obtain ⟨a, vs, rfl, ha, hr⟩ := ry.tup_inv
      obtain ⟨h1, h2⟩ := RepDs.flats h.1 rx hr h.2
      exact .inl ⟨a, vs, rfl, .inr ha, rx.flat h.1, h1, hQ _ (by rw [h2])⟩
    · cases hb
  · split at hb
    · rename_i h
      rw [Bool.and_eq_true] at h
      cases hb
      cases neg with
      | false => exact .inr (.inl ⟨_, _, rx.dp (shaped_lay h.1), ry.dp (shaped_lay h.2), h.1, h.2, hQ _ rfl⟩)
      | true => exact .inr (.inl ⟨_, _, rx.dp (shaped_lay h.1), ry.dp (shaped_lay h.2), h.1, h.2, hQ _ rfl⟩)
    · cases hb
  · cases hb
    exact .inr (.inr ⟨_, _, rx.str_inv, ry.str_inv, hQ _ rfl⟩)
  · cases hb
theorem s_inD : OpS F (rInA F.m.K false) inD := s_inAny
theorem s_ninD : OpS F (rInA F.m.K true) ninD := s_inAny
theorem inD_bool : ∀ x y z, inD x y = some z → ∃ k, z = .val (.bool k) := fun x y z h => by
  unfold inD at h
  rw [Option.map_eq_some_iff] at h
  obtain ⟨b, _, rfl⟩ := h
  exact ⟨b, rfl⟩
theorem ninD_bool : ∀ x y z, ninD x y = some z → ∃ k, z = .val (.bool k) := fun x y z h => by
  unfold ninD at h
  rw [Option.map_eq_some_iff] at h
  obtain ⟨b, _, rfl⟩ := h
  exact ⟨_, rfl⟩
def eIn (a b : DE) : DE := eOp inD a b
def eNin (a b : DE) : DE := eOp ninD a b
theorem room65 {k : Nat} {A : Around} (r : Room k A) : A.units + 65 < cLine := by have := r.un; omega
variable {a b : Expr} {fa fb : DE} {pos : Pos} {k : Nat}
theorem e_in (hr : Room k X.A) (hK : F.m.K = X.K) (ha : EO F X a fa) (hb : EO F X b fb) (hm : behindInMarks .In b = false := by with_unfolding_all rfl) : EO F X (.Compare a [.In] [b] pos) (eIn fa fb) := e_cmp (op_inA (room65 hr)) (hK ▸ s_inD) hm ha hb
theorem e_nin (hr : Room k X.A) (hK : F.m.K = X.K) (ha : EO F X a fa) (hb : EO F X b fb) (hm : behindInMarks .NotIn b = false := by with_unfolding_all rfl) : EO F X (.Compare a [.NotIn] [b] pos) (eNin fa fb) := e_cmp (op_ninA (room65 hr)) (hK ▸ s_ninD) hm ha hb
theorem t_in (hr : Room k X.A) (hK : F.m.K = X.K) (ha : EO F X a fa) (hb : EO F X b fb) (hm : behindInMarks .In b = false := by with_unfolding_all rfl) : TO F X (.Compare a [.In] [b] pos) (eIn fa fb) := t_cmp (op_inA (room65 hr)) (hK ▸ s_inD) inD_bool hm ha hb
theorem t_nin (hr : Room k X.A) (hK : F.m.K = X.K) (ha : EO F X a fa) (hb : EO F X b fb) (hm : behindInMarks .NotIn b = false := by with_unfolding_all rfl) : TO F X (.Compare a [.NotIn] [b] pos) (eNin fa fb) := t_cmp (op_ninA (room65 hr)) (hK ▸ s_ninD) ninD_bool hm ha hb
end
@[simp] theorem eRev_eq {a : DE} {s : S} : eRev a s = (a s).bind fun x s1 => liftR (revD x) s1 := rfl
@[simp] theorem eIn_eq {a b : DE} : eIn a b = eOp inD a b := rfl
@[simp] theorem eNin_eq {a b : DE} : eNin a b = eOp ninD a b := rfl
@[simp] theorem revD_l {xs : List D} : revD (.list xs) = some (.own xs.reverse) := rfl
end DL

set_option Elab.async false
set_option linter.all false
set_option maxRecDepth 100000
set_option maxHeartbeats 4000000
/-! DLC: a, b = x, y where a name is a cell. -/
namespace DL
open PySem PySem.Spec L2
open PyProof.Rows hiding St

section
variable {F : Fx} {X : Cx} {H H' H1 H2 : Hp} {O O' O1 O2 : Addr → Prop} {σ σ' σ2 : St} {s s' s1 s2 : S} {Q : VK}
theorem s_parT (i j : Nat) {x y : Str} {a b : Expr} {fa fb : DE} {px py pt pos : Pos} {kt k2 pt2} (hc : X.calm = true) (hnd : X.N.Nodup) (ha : EO F X a fa) (hb : EO F X b fb) (hi : X.N[i]? = some x := by rfl) (hj : X.N[j]? = some y := by rfl) (hij : i ≠ j := by decide)
    (hx : Loc X.env.scope x := by first | exact Or.inl rfl | exact Or.inr rfl) (hy : Loc X.env.scope y := by first | exact Or.inl rfl | exact Or.inr rfl)
    (hfx : X.fn x = true ∨ X.env.scope.names.lookup x = some .local := by first | exact .inl rfl | exact .inr rfl) (hfy : X.fn y = true ∨ X.env.scope.names.lookup y = some .local := by first | exact .inl rfl | exact .inr rfl)
    (hst : starEach [a, b] X.env = (false, eval a X.env) :: starEach [b] X.env := by rfl) (hst2 : starEach [b] X.env = (false, eval b X.env) :: starEach [] X.env := by rfl)
    (hw : swappedStores [.Tuple [.Name x px, .Name y py] kt pt] (.Tuple [a, b] k2 pt2) X.env = pure none := by rfl)
    (hs : swapsWithSole [.Tuple [.Name x px, .Name y py] kt pt] (.Tuple [a, b] k2 pt2) pos.line X.env = pure false := by rfl)
    (h1 : (assignEach [.Tuple [.Name x px, .Name y py] kt pt] X.env).map (·.2) = [assign (.Tuple [.Name x px, .Name y py] kt pt) X.env] := by rfl)
    (hn : (assignEach [.Name x px, .Name y py] X.env).length = [Expr.Name x px, Expr.Name y py].length := by rfl) (hfi : (assignEach [.Name x px, .Name y py] X.env).findIdx? (·.1) = none := by rfl)
    (he1 : (assignEach [.Name x px, .Name y py] X.env).map (·.2) = assign (.Name x px) X.env :: (assignEach [.Name y py] X.env).map (·.2) := by rfl) (he2 : (assignEach [.Name y py] X.env).map (·.2) = assign (.Name y py) X.env :: (assignEach [] X.env).map (·.2) := by rfl) :
    SO F X (.Assign [.Tuple [.Name x px, .Name y py] kt pt] (.Tuple [a, b] k2 pt2) pos) (dPar i j fa fb) := by
  obtain ⟨ta, pa, sa⟩ := ha
  obtain ⟨tb, pb, sb⟩ := hb
  refine ⟨_, ps_asg (pe_tup (pa_cons pa (pa_cons pb pa_nil hst2) hst)) (pg_tup hc (pgs_cons (pg_name hnd hi hx hfx) (pgs_cons (pg_name hnd hj hy hfy) pgs_nil he2) he1) hn hfi) hs hw h1, fun Q σ H O s I k => ?_⟩
  refine sa.stX I k fun x s1 v H1 O1 st1 I1 r1 k => ?_
  refine sb.stX I1 k fun y s2 w H2 O2 st2 I2 r2 k => ?_
  refine ⟨by show 2 ≤ sizeLine; rw [sizeLine_eq]; omega, fun p hp => ?_⟩
  refine ⟨p, [v, w], rfl, .of upd_same, rfl, v, [w], rfl, w, [], rfl, rfl, ?_⟩
  refine k _ _ O2 ((Ext.upd hp).stF.stS I2.wd) (Est.ext ?_ (Ext.upd hp))
  have r1' := r1.step I st1 I1 st2
  have I3 := I.setX (st1.trans st2) I2 i r1'
  refine I3.set (x := y) j (SlX.base I1 r2) (fun b ys e ev hm => ?_) fun b ys e ev hN => ?_
  · subst e
    obtain ⟨b', us, f1, f2, f3, f4, f5, f6⟩ := r2
    rw [f1] at ev
    cases ev
    obtain ⟨l, zs, q1, q2⟩ := hm
    have q1 : (s2.e.set i x)[l]? = some (.own zs) := q1
    by_cases hl : l = i
    · subst hl
      obtain ⟨e, hlt⟩ := sl_eq q1
      subst e
      obtain ⟨a', vs', g1, g2, g3, g4, g5, g6⟩ := r1
      rw [List.getElem?_set_self (by rw [I2.env.len]; exact hlt), g1] at q2
      cases q2
      rw [g4] at f6
      cases f6
    · rw [sl_ne hl] at q1 q2
      exact I1.env.mine (st2.mine _ ⟨l, zs, q1, q2⟩) f6
  · subst e
    obtain ⟨b', us, f1, f2, f3, f4, f5, f6⟩ := r2
    rw [f1] at ev
    cases ev
    exact I1.nestN st2 f6 (nestB_set I2.env.len (fun _ z => by subst z; exact r1'.elim) hN)
end
end DL

set_option Elab.async false
set_option linter.all false
set_option maxRecDepth 100000
set_option maxHeartbeats 4000000
/-! DLI: lists of lists. -/
namespace DL
open PySem PySem.Spec L2
open PyProof.Rows hiding St

section
variable {F : Fx} {X : Cx} {H H' H1 H2 : Hp} {O O' O1 O2 : Addr → Prop} {σ σ' : St} {s s' s1 s2 : S} {Q : VK} {QT : Bool → Hp → Prop} {t : TE} {f g : DE} {v : V} {d : D} {K : PySem.W.Frag} {δ : Option Addr} {m : Pm} {c : List Int} {e e' : List Sl} {vs : List V} {ds : List D} {Qe : Ends}

/-- without the addresses l -/
def ODels (O : Addr → Prop) (l : List Addr) : Addr → Prop := fun a => O a ∧ a ∉ l
theorem RepDs.nest {δ0 : Option Addr} {O1 O2 : Addr → Prop} {K0 : PySem.W.Frag} (hm : ∀ a, O2 a → O1 a) : ∀ {qs : List Addr} {xss : List (List D)}, qs.length = xss.length → (∀ q ∈ qs, ¬ O2 q) → (∀ (j : Nat) (q : Addr) (xs : List D), qs[j]? = some q → xss[j]? = some xs → ∃ vs, H q = some (.lst vs) ∧ RepDs K0 H O1 δ0 vs xs) → RepDs K0 H O2 δ0 (qs.map V.ref) (xss.map PyData.list)
  | [], [], _, _, _ => .nil
  | [], _ :: _, h, _, _ => by cases h
  | _ :: _, [], h, _, _ => by cases h
  | q :: qs, xs :: xss, h, hn, hr => by
    obtain ⟨vs, h1, h2⟩ := hr 0 q xs rfl rfl
    exact .cons (.lst h1 (hn q (by simp)) (h2.mono hm)) (RepDs.nest hm (by simpa using h) (fun q hq => hn q (List.mem_cons_of_mem _ hq)) fun j q xs h1 h2 => hr (j + 1) q xs h1 h2)
def nstD (xss : List (List D)) : D := .list (xss.map PyData.list)
/-- the list of lists of slot i comes to rest -/
theorem Est.restN (I : Est F σ H O s) {i : Nat} {xss : List (List D)} (h : s.e[i]? = some (.nst xss)) :
    ∃ O', Est F σ H O' { s with e := s.e.set i (.val (nstD xss)) } ∧ StS H O H O' := by
  obtain ⟨a, qs, h1, h2, h3⟩ := I.nst.is i xss h
  obtain ⟨g1, g2, g3, g4, g5⟩ := h2
  have hr : RepD F.m.K H (ODels O (a :: qs)) F.δ (.ref a) (nstD xss) := .lst g1 (fun z => z.2 (by simp)) (RepDs.nest (fun _ z => z.1) g3 (fun q hq z => z.2 (List.mem_cons_of_mem _ hq)) g5)
  have none' : ∀ (j : Nat) (yss : List (List D)), (s.e.set i (.val (nstD xss)))[j]? = some (Sl.nst yss) → False := fun j yss q => by
    have ne := nst_ne (x := .val (nstD xss)) (fun _ q => by cases q) q
    exact ne (I.nst.one j i yss xss (nst_set (x := .val (nstD xss)) (fun _ q => by cases q) q) h)
  refine ⟨ODels O (a :: qs), ⟨⟨fun b z => I.wd.src b z.1, fun b z => ⟨⟨(I.wd.cel b z).1, fun q => (g4 b q).2.1 z⟩, (I.wd.cel b z).2⟩, I.wd.tab⟩, ⟨?_, fun j d q => ?_, fun j ys q => ?_, fun j k b ys zs hjk q1 q2 r1 r2 => ?_⟩,
    ⟨I.base.keep, I.base.there, fun b z => I.base.fresh b z.1, fun b z => ⟨I.base.stay b z, fun q => F.src b z (g4 b q).2.2⟩⟩, ⟨fun j yss q => (none' j yss q).elim, fun j _ yss _ q => (none' j yss q).elim, fun _ j _ yss _ _ _ q => (none' j yss q).elim⟩⟩, ⟨fun _ _ _ _ q => q, fun _ q => q, fun b z => .inl z.1⟩⟩
  · show σ.length = (s.e.set i (.val (nstD xss))).length
    rw [List.length_set]; exact I.env.len
  · have q : (s.e.set i (.val (nstD xss)))[j]? = some (.val d) := q
    by_cases hj : j = i
    · subst hj
      cases (sl_eq q).1
      exact ⟨_, h1, hr⟩
    · rw [sl_ne hj] at q
      obtain ⟨v, r1, r2⟩ := I.env.vals j d q
      exact ⟨v, r1, r2.mono fun _ z => z.1⟩
  · have q : (s.e.set i (.val (nstD xss)))[j]? = some (.own ys) := q
    by_cases hj : j = i
    · subst hj
      cases (sl_eq q).1
    · rw [sl_ne hj] at q
      obtain ⟨b, ws, r1, r2, r3, r4, r5, r6⟩ := I.env.owns j ys q
      exact ⟨b, ws, r1, ⟨r2, fun z => h3 b z ⟨j, ys, q, r1⟩⟩, r3, r4, r5.mono fun _ z => z.1, r6⟩
  · have q1 : (s.e.set i (.val (nstD xss)))[j]? = some (.own ys) := q1
    have q2 : (s.e.set i (.val (nstD xss)))[k]? = some (.own zs) := q2
    by_cases hj : j = i
    · subst hj
      cases (sl_eq q1).1
    · by_cases hk : k = i
      · subst hk
        cases (sl_eq q2).1
      · rw [sl_ne hj] at q1
        rw [sl_ne hk] at q2
        exact I.env.uniq j k b ys zs hjk q1 q2 r1 r2
def restS (i : Nat) (s : S) : S := match s.e[i]? with
  | some (.nst xss) => { s with e := s.e.set i (.val (nstD xss)) }
  | _ => s
/-- a statement ahead of which the list of lists comes to rest -/
def dRest (i : Nat) (g : DS) : DS := fun s => g (restS i s)
theorem s_rest (i : Nat) {st : Stmt} {g : DS} (h : SO F X st g) : SO F X st (dRest i g) := by
  obtain ⟨t, p, sg⟩ := h
  refine ⟨t, p, fun Q σ H O s I k => ?_⟩
  unfold dRest restS at k
  split at k
  · rename_i xss h
    obtain ⟨O', I', st'⟩ := I.restN h
    exact sg Q σ H O' _ I' (KS.trans st' k)
  · exact sg Q σ H O s I k

/-- no list of lists and no alias but at i -/
def noN (e : List Sl) (i : Nat) : Bool := (e.set i .un).all fun x => match x with
  | .nst _ => false
  | .ali _ _ => false
  | _ => true
theorem noN_nst {i j : Nat} {xss : List (List D)} (h : noN e i = true) (hj : j ≠ i) (q : e[j]? = some (.nst xss)) : False := by
  unfold noN at h
  rw [List.all_eq_true] at h
  have := h (.nst xss) (List.mem_of_getElem? (i := j) (by rw [sl_ne hj]; exact q))
  cases this
theorem noN_ali {i j i2 k : Nat} (h : noN e i = true) (hj : j ≠ i) (q : e[j]? = some (.ali i2 k)) : False := by
  unfold noN at h
  rw [List.all_eq_true] at h
  have := h (.ali i2 k) (List.mem_of_getElem? (i := j) (by rw [sl_ne hj]; exact q))
  cases this
theorem Est.setNest (I : Est F σ H O s) (i : Nat) {a : Addr} {qs : List Addr} {xss : List (List D)} (hn : noN s.e i = true) (g : NestA F.m.K F.δ F.H0 H O a qs xss) (hm : ∀ b ∈ a :: qs, ¬ Mine σ s.e b) :
    Est F (σ.set i (some (.ref a))) H O { s with e := s.e.set i (.nst xss) } := by
  have only : ∀ (j : Nat) (yss : List (List D)), (s.e.set i (.nst xss))[j]? = some (Sl.nst yss) → j = i ∧ yss = xss ∧ i < s.e.length := fun j yss q => by
    by_cases hj : j = i
    · subst hj
      obtain ⟨e1, e2⟩ := sl_eq q
      cases e1
      exact ⟨rfl, rfl, e2⟩
    · rw [sl_ne hj] at q
      exact (noN_nst hn hj q).elim
  have at_i : i < s.e.length → (σ.set i (some (.ref a)))[i]? = some (some (.ref a)) := fun h => List.getElem?_set_self (by rw [I.env.len]; exact h)
  refine ⟨I.wd, ⟨?_, fun j d q => ?_, fun j ys q => ?_, fun j k b ys zs hjk q1 q2 r1 r2 => ?_⟩, I.base, ⟨fun j yss q => ?_, fun j k yss zss q1 q2 => (only j yss q1).1.trans (only k zss q2).1.symm, fun j i2 k yss a' qs' q1 q2 => ?_⟩⟩
  · show (σ.set i _).length = (s.e.set i _).length
    rw [List.length_set, List.length_set]; exact I.env.len
  · have q : (s.e.set i (.nst xss))[j]? = some (.val d) := q
    by_cases hj : j = i
    · subst hj; cases (sl_eq q).1
    · rw [sl_ne hj] at q ⊢
      exact I.env.vals j d q
  · have q : (s.e.set i (.nst xss))[j]? = some (.own ys) := q
    by_cases hj : j = i
    · subst hj; cases (sl_eq q).1
    · rw [sl_ne hj] at q ⊢
      exact I.env.owns j ys q
  · have q1 : (s.e.set i (.nst xss))[j]? = some (.own ys) := q1
    have q2 : (s.e.set i (.nst xss))[k]? = some (.own zs) := q2
    by_cases hj : j = i
    · subst hj; cases (sl_eq q1).1
    · by_cases hk : k = i
      · subst hk; cases (sl_eq q2).1
      · rw [sl_ne hj] at q1 r1
        rw [sl_ne hk] at q2 r2
        exact I.env.uniq j k b ys zs hjk q1 q2 r1 r2
  · obtain ⟨rfl, rfl, hi⟩ := only j yss q
    refine ⟨a, qs, at_i hi, g, fun b hb z => hm b hb ?_⟩
    obtain ⟨l, zs, r1, r2⟩ := z
    have r1 : (s.e.set j (.nst yss))[l]? = some (.own zs) := r1
    by_cases hl : l = j
    · subst hl; cases (sl_eq r1).1
    · rw [sl_ne hl] at r1 r2
      exact ⟨l, zs, r1, r2⟩
  · have q1 : (s.e.set i (.nst xss))[j]? = some (.ali i2 k) := q1
    by_cases hj : j = i
    · subst hj; cases (sl_eq q1).1
    · rw [sl_ne hj] at q1
      exact (noN_ali hn hj q1).elim
/-- one of the lists, or the list of them, changes -/
theorem Est.mutB (I : Est F σ H O s) {i : Nat} {a b : Addr} {us ws : List V} {qs qs' : List Addr} {xss yss : List (List D)} (ha : O b) (hd : F.δ ≠ some b) (hH : H b = some (.lst us)) (hm : ¬ Mine σ s.e b) (h0 : F.H0 b = none)
    (h : s.e[i]? = some (.nst xss)) (h1 : σ[i]? = some (some (.ref a))) (g1 : H a = some (.lst (qs.map V.ref))) (hN : StS H O (upd H b (.lst ws)) O → NestA F.m.K F.δ F.H0 (upd H b (.lst ws)) O a qs' yss)
    (hq : ∀ (k : Nat) (q : Addr), qs[k]? = some q → qs'[k]? = some q) (hmm : ∀ b ∈ a :: qs', ¬ Mine σ s.e b) : Est F σ (upd H b (.lst ws)) O { s with e := s.e.set i (.nst yss) } ∧ StS H O (upd H b (.lst ws)) O := by
  have st : StS H O (upd H b (.lst ws)) O := StS.upd I.wd ha
  have only : ∀ (j : Nat) (zss : List (List D)), (s.e.set i (.nst yss))[j]? = some (Sl.nst zss) → j = i ∧ zss = yss := fun j zss q => by
    by_cases hj : j = i
    · subst hj
      cases (sl_eq q).1
      exact ⟨rfl, rfl⟩
    · rw [sl_ne hj] at q
      exact (hj (I.nst.one j i zss xss q h)).elim
  refine ⟨⟨⟨fun l z => ?_, fun l z => ⟨(I.wd.cel l z).1, ?_⟩, fun p hp => (I.wd.tab p hp).upd hH⟩, ⟨?_, fun j d q => ?_, fun j zs q => ?_, fun j k l ys zs hjk q1 q2 r1 r2 => ?_⟩, ⟨fun l o n t q => ?_, fun l q => st.there l (I.base.there l q), I.base.fresh, I.base.stay⟩, ⟨fun j zss q => ?_, fun j k zss wss q1 q2 => (only j zss q1).1.trans (only k wss q2).1.symm, fun j i2 k zss a' rs q1 q2 q3 q4 => ?_⟩⟩, st⟩
  · by_cases hb : l = b
    · subst hb; exact ⟨ws, upd_same⟩
    · rw [upd_ne hb]; exact I.wd.src l z
  · rw [upd_ne (fun q => hd (by rw [← q]; exact z))]
    exact (I.wd.cel l z).2
  · show σ.length = (s.e.set i _).length
    rw [List.length_set]; exact I.env.len
  · have q : (s.e.set i (.nst yss))[j]? = some (.val d) := q
    by_cases hj : j = i
    · subst hj; cases (sl_eq q).1
    · rw [sl_ne hj] at q
      obtain ⟨v, r1, r2⟩ := I.env.vals j d q
      exact ⟨v, r1, r2.stS st I.wd⟩
  · have q : (s.e.set i (.nst yss))[j]? = some (.own zs) := q
    by_cases hj : j = i
    · subst hj; cases (sl_eq q).1
    · rw [sl_ne hj] at q
      obtain ⟨l, us, r1, r2, r3, r4, r5, r6⟩ := I.env.owns j zs q
      exact ⟨l, us, r1, r2, r3, by rw [upd_ne (fun z => hm ⟨j, zs, q, by rw [← z]; exact r1⟩)]; exact r4, r5.stS st I.wd, r6⟩
  · have q1 : (s.e.set i (.nst yss))[j]? = some (.own ys) := q1
    have q2 : (s.e.set i (.nst yss))[k]? = some (.own zs) := q2
    by_cases hj : j = i
    · subst hj; cases (sl_eq q1).1
    · by_cases hk : k = i
      · subst hk; cases (sl_eq q2).1
      · rw [sl_ne hj] at q1
        rw [sl_ne hk] at q2
        exact I.env.uniq j k l ys zs hjk q1 q2 r1 r2
  · rw [upd_ne (fun z => by rw [z, h0] at q; cases q)]
    exact I.base.keep l o n t q
  · obtain ⟨rfl, rfl⟩ := only j zss q
    refine ⟨a, qs', h1, hN st, fun b hb z => hmm b hb ?_⟩
    exact mine_set (x := .nst zss) (fun _ q => by cases q) z
  · obtain ⟨rfl, rfl⟩ := only i2 zss q2
    have q1 : (s.e.set i2 (.nst zss))[j]? = some (.ali i2 k) := q1
    have q1 := ali_set (x := .nst zss) (fun _ _ q => by cases q) q1
    rw [h1] at q3
    cases q3
    have e1 := (hN st).1
    rw [q4] at e1
    have e2 : rs = qs' := map_ref_inj (by injection e1 with e1; injection e1)
    subst e2
    obtain ⟨q, r1, r2⟩ := I.nst.ali j i2 k xss a qs q1 h h1 g1
    exact ⟨q, hq k q r1, r2⟩

/-! ### rules -/
theorem snoc_get {α : Type} {xs : List α} {y z : α} {j : Nat} (h : (xs ++ [y])[j]? = some z) : (j < xs.length ∧ xs[j]? = some z) ∨ (j = xs.length ∧ z = y) := by
  rcases Nat.lt_trichotomy j xs.length with hj | hj | hj
  · rw [List.getElem?_append_left hj] at h; exact .inl ⟨hj, h⟩
  · subst hj
    rw [List.getElem?_append_right (Nat.le_refl _)] at h
    simp at h
    exact .inr ⟨rfl, h.symm⟩
  · rw [List.getElem?_eq_none (by simp; omega)] at h; cases h
def dNew0 (i : Nat) : DS := fun s => if noN s.e i then .nx { s with e := s.e.set i (.nst []) } else .stuck
theorem s_new0 (i : Nat) {x : Str} {pl pos' pos : Pos} (hnd : X.N.Nodup) (hi : X.N[i]? = some x := by rfl) (hx : Loc X.env.scope x := by first | exact Or.inl rfl | exact Or.inr rfl)
    (hs : swapsWith (.List [] pl) (some (.Name x pos')) pos.line X.env = pure false := by rfl) (hf : X.fn x = true ∨ X.env.scope.names.lookup x = some .local := by first | exact .inl rfl | exact .inr rfl | assumption) : SO F X (.Assign [.Name x pos'] (.List [] pl) pos) (dNew0 i) := by
  refine ⟨_, ps_set hnd hi hx (pe_lst pa_nil) hs hf, fun Q σ H O s I k => ?_⟩
  unfold dNew0 at k
  split at k
  · rename_i hn
    refine ⟨by show 0 ≤ sizeLine; omega, fun p hp => ?_⟩
    have dp : F.δ ≠ some p := fun z => by rw [(I.wd.cel p z).2] at hp; cases hp
    have I2 := I.new (xs := ([] : List V)) hp
    refine k _ _ (OAdd O p) ((StF.new hp).stS I.wd) (I2.setNest i (a := p) (qs := []) hn ⟨upd_same, by simp, rfl, fun b hb => ?_, fun j q xs h => by simp at h⟩ fun b hb z => ?_)
    · obtain rfl : b = p := by simpa using hb
      exact ⟨.inr rfl, dp, h0_none I hp⟩
    · obtain rfl : b = p := by simpa using hb
      exact I.env.mine z hp
  · exact k.elim
def dNew1 (i : Nat) (a : DE) : DS := fun s => (a s).st fun x s1 => match x with
  | .own xs => if noN s1.e i then .nx { s1 with e := s1.e.set i (.nst [xs]) } else .stuck
  | _ => .stuck
theorem s_new1 (i : Nat) {x : Str} {a : Expr} {fa : DE} {pl pos' pos : Pos} (hnd : X.N.Nodup) (ha : EO F X a fa) (hi : X.N[i]? = some x := by rfl) (hx : Loc X.env.scope x := by first | exact Or.inl rfl | exact Or.inr rfl)
    (hst : starEach [a] X.env = (false, eval a X.env) :: starEach [] X.env := by rfl) (hs : swapsWith (.List [a] pl) (some (.Name x pos')) pos.line X.env = pure false := by rfl) (hf : X.fn x = true ∨ X.env.scope.names.lookup x = some .local := by first | exact .inl rfl | exact .inr rfl | assumption) : SO F X (.Assign [.Name x pos'] (.List [a] pl) pos) (dNew1 i fa) := by
  obtain ⟨ta, pa, sa⟩ := ha
  refine ⟨_, ps_set hnd hi hx (pe_lst (pa_cons pa pa_nil hst)) hs hf, fun Q σ H O s I k => ?_⟩
  refine sa.stX I k fun x s1 v H1 O1 st1 I1 r k => ?_
  cases x with
  | own xs =>
    simp only at k
    split at k
    · rename_i hn
      obtain ⟨q, vs, rfl, oq, dq, hq, rq, nq⟩ := r
      refine ⟨by show 1 ≤ sizeLine; rw [sizeLine_eq]; omega, fun p hp => ?_⟩
      have dp : F.δ ≠ some p := fun z => by rw [(I1.wd.cel p z).2] at hp; cases hp
      have pq : p ≠ q := fun z => by rw [z, hq] at hp; cases hp
      have I2 := I1.new (xs := [V.ref q]) hp
      refine k _ _ (OAdd O1 p) ((StF.new hp).stS I1.wd) (I2.setNest i (a := p) (qs := [q]) hn ⟨upd_same, by simpa using pq, rfl, fun b hb => ?_, fun j b xs' h1 h2 => ?_⟩ fun b hb z => ?_)
      · rcases List.mem_cons.mp hb with rfl | hb
        · exact ⟨.inr rfl, dp, h0_none I1 hp⟩
        · obtain rfl : b = q := by simpa using hb
          exact ⟨.inl oq, dq, h0_none I nq⟩
      · cases j with
        | zero =>
          simp at h1 h2
          subst h1
          subst h2
          exact ⟨vs, Ext.upd hp _ _ hq, rq.step (StF.new (O := O1) hp).stp I1.wd⟩
        | succ j => simp at h1
      · rcases List.mem_cons.mp hb with rfl | hb
        · exact I1.env.mine z hp
        · obtain rfl : b = q := by simpa using hb
          exact I.env.mine (st1.mine b z) nq
    · exact k.elim
  | un => exact k.elim
  | val _ => exact k.elim
  | nst _ => exact k.elim
  | ali _ _ => exact k.elim
def dAppN (i : Nat) (a : DE) : DS := fun s => match s.e[i]? with
  | some (.nst _) => (a s).st fun x s1 => match s1.e[i]?, x with
    | some (.nst xss), .own ys => if xss.length < sizeLine then .nx { s1 with e := s1.e.set i (.nst (xss ++ [ys])) } else .stuck
    | _, _ => .stuck
  | _ => .stuck
theorem s_appN (i : Nat) {x : Str} {a : Expr} {fa : DE} {px apos cpos pos : Pos} (ha : EO F X a fa) (hN : X.N[i]? = some x := by rfl) (hv : Vis X.env.scope x := by first | exact Or.inl rfl | exact Or.inr (Or.inl rfl) | exact Or.inr (Or.inr rfl))
    (hd : (x == ("__debug__" : Str)) = false := by decide) (hcd : (x == ("__classdict__" : Str)) = false := by decide) (hs : starEach [a] X.env = (false, eval a X.env) :: starEach [] X.env := by rfl)
    (hbase : attributeBase (.Name x px) "append" X.env (eval (.Name x px) X.env) = eval (.Name x px) X.env := by rfl)
    (hfew : ((backTo cpos (starEach [a] X.env)).all (fun x => !x.1) && (backToKw cpos (keywordEach [] X.env)).all (fun x => x.1.isSome)
      && decide ([a].length + ([] : List Keyword).length + (if ([] : List Keyword).isEmpty then 0 else 1) < 30)) = true := by rfl)
    (hline : (apos.endLine == cpos.line) = true := by rfl)
    (hsw : swapsWith (.Call (.Attribute (.Name x px) "append" apos) [a] [] cpos) none pos.line X.env = pure false := by rfl) :
    SO F X (.Expr (.Call (.Attribute (.Name x px) "append" apos) [a] [] cpos) pos) (dAppN i fa) := by
  obtain ⟨ta, pa, sa⟩ := ha
  refine ⟨_, ps_expr (pe_bm PySem.F.plainAttrs_list PySem.F.slot_list_append PySem.F.type_list_append mt_append (pe_var hN hv hd hcd) (pa_cons pa pa_nil hs) hbase hfew hline hs rfl) hsw, fun Q σ H O s I k => ?_⟩
  unfold dAppN at k
  split at k
  · rename_i xss0 h
    obtain ⟨a0, qs0, h1, h2, h3⟩ := I.nst.is i xss0 h
    refine ⟨.ref a0, h1, .inl ⟨rfl, _, .inl (.inl h2.1)⟩, sa.stX I k fun y s1 w H1 O1 st I1 r k => ?_⟩
    split at k
    · rename_i xss ys h'
      split at k
      · rename_i hz
        obtain ⟨a1, qs, g1, g2, g3⟩ := I1.nst.is i xss h'
        rw [h1] at g1
        cases g1
        obtain ⟨q, vs, rfl, oq, dq, hq, rq, nq⟩ := r
        have nb : ∀ b ∈ a0 :: qs, b ≠ q := fun b hb z => I.nestN st nq (z ▸ NestR.nb h' h1 g2 hb)
        have nn : ∀ b ∈ qs, b ≠ a0 := fun b hb z => (List.nodup_cons.mp g2.2.1).1 (z ▸ hb)
        have MM : Est F σ (upd H1 a0 (.lst (qs.map V.ref ++ [V.ref q]))) O1 { s1 with e := s1.e.set i (.nst (xss ++ [ys])) } ∧ StS H1 O1 (upd H1 a0 (.lst (qs.map V.ref ++ [V.ref q]))) O1 := by
          refine I1.mutB (b := a0) (us := qs.map V.ref) (ws := qs.map V.ref ++ [V.ref q]) (qs' := qs ++ [q]) (yss := xss ++ [ys]) (g2.2.2.2.1 a0 (by simp)).1 (g2.2.2.2.1 a0 (by simp)).2.1 g2.1 (g3 a0 (by simp)) (g2.2.2.2.1 a0 (by simp)).2.2 h' h1 g2.1
            (fun st => ⟨by rw [upd_same]; simp, ?_, by simp [g2.2.2.1], fun b hb => ?_, fun j b xs e1 e2 => ?_⟩) (fun k b hb => ?_) (fun b hb z => ?_)
          · have n1 := List.nodup_cons.mp g2.2.1
            refine List.nodup_cons.mpr ⟨fun hm => ?_, List.nodup_append.mpr ⟨n1.2, by simp, fun b hb c hc => ?_⟩⟩
            · rcases List.mem_append.mp hm with hm | hm
              · exact n1.1 hm
              · exact nb a0 (by simp) (by simpa using hm)
            · obtain rfl : c = q := by simpa using hc
              exact nb b (List.mem_cons_of_mem _ hb)
          · rcases List.mem_cons.mp hb with rfl | hb
            · exact g2.2.2.2.1 b (by simp)
            · rcases List.mem_append.mp hb with hb | hb
              · exact g2.2.2.2.1 b (List.mem_cons_of_mem _ hb)
              · obtain rfl : b = q := by simpa using hb
                exact ⟨oq, dq, h0_none I nq⟩
          · rcases snoc_get e1 with ⟨hj, e1⟩ | ⟨hj, rfl⟩
            · rcases snoc_get e2 with ⟨_, e2⟩ | ⟨hj2, _⟩
              · obtain ⟨us, f1, f2⟩ := g2.2.2.2.2 j b xs e1 e2
                exact ⟨us, by rw [upd_ne (nn b (List.mem_of_getElem? e1))]; exact f1, f2.stS st I1.wd⟩
              · rw [g2.2.2.1] at hj; omega
            · rcases snoc_get e2 with ⟨hj2, _⟩ | ⟨_, rfl⟩
              · rw [g2.2.2.1] at hj; omega
              · exact ⟨vs, by rw [upd_ne (fun z => nb a0 (by simp) z.symm)]; exact hq, rq.stS st I1.wd⟩
          · rw [List.getElem?_append_left (List.getElem?_eq_some_iff.mp hb).1]; exact hb
          · rcases List.mem_cons.mp hb with rfl | hb
            · exact g3 b (by simp) z
            · rcases List.mem_append.mp hb with hb | hb
              · exact g3 b (List.mem_cons_of_mem _ hb) z
              · obtain rfl : b = q := by simpa using hb
                exact I.env.mine (st.mine b z) nq
        obtain ⟨I2, st2⟩ := MM
        exact ⟨a0, qs.map V.ref, V.ref q, rfl, rfl, g2.1, by rw [List.length_map, g2.2.2.1]; exact hz, k _ _ O1 st2 I2⟩
      · exact k.elim
    · exact k.elim
  · exact k.elim
/-- len(x), x a list of lists -/
def eLenW (i : Nat) : DE := fun s => match s.e[i]? with
  | some (.nst xss) => .ok (.val (.int xss.length)) s
  | _ => .stuck
theorem e_lenW (i : Nat) {x : Str} {p px pos : Pos} (hK : F.m.K = X.K) (hg : Gl X "len") (hm : X.mg "len" = none) (hN : X.N[i]? = some x := by rfl) (hv : Vis X.env.scope x := by first | exact Or.inl rfl | exact Or.inr (Or.inl rfl) | exact Or.inr (Or.inr rfl))
    (hd : (x == ("__debug__" : Str)) = false := by decide) (hcd : (x == ("__classdict__" : Str)) = false := by decide)
    (he : starEach [.Name x px] X.env = (false, eval (.Name x px) X.env) :: starEach [] X.env := by rfl) : EO F X (.Call (.Name "len" p) [.Name x px] [] pos) (eLenW i) := by
  refine ⟨_, pe_callB call_lenB hg hm PySem.boot_len (pa_cons (pe_var hN hv hd hcd) pa_nil he) (by decide) (by decide) he rfl, fun σ H O s Q I k => ?_⟩
  unfold eLenW at k
  split at k
  · rename_i xss h
    obtain ⟨a, qs, h1, h2, h3⟩ := I.nst.is i xss h
    exact ⟨_, h1, .inl ⟨a, qs.map V.ref, rfl, .inl (.of h2.1), by rw [List.length_map, h2.2.2.1]; exact k _ H O .refl I (.int _)⟩⟩
  · exact k.elim
theorem atI_of {α : Type} {xs : List α} {n : Int} {x : α} (h : atI xs n = some x) : ∃ k, ixN xs.length n = some k ∧ xs[k]? = some x := by
  unfold atI at h
  cases q : ixN xs.length n with
  | none => rw [q] at h; cases h
  | some k => rw [q] at h; exact ⟨k, rfl, h⟩
theorem atI_mk {α : Type} {xs : List α} {n : Int} {x : α} {k : Nat} (h : ixN xs.length n = some k) (h2 : xs[k]? = some x) : atI xs n = some x := by
  unfold atI
  rw [h]
  exact h2
/-- x[a][b], x a list of lists -/
def eGetN (i : Nat) (a b : DE) : DE := fun s => match s.e[i]? with
  | some (.nst _) => (a s).bind fun n s1 => match s1.e[i]?, n with
    | some (.nst xss), .int n => match atI xss n with
      | some xs => (b s1).bind fun y s2 => liftR (ixD (.list xs) y) s2
      | none => .stuck
    | _, _ => .stuck
  | _ => .stuck
/-- reading a place of one of the lists -/
theorem get_in {a : Addr} {qs : List Addr} {xss : List (List D)} {xs : List D} {q : Addr} {k : Nat} {b : DE} {tb : TE} (sb : SE F tb b) (I : Est F σ H O s) (g : NestA F.m.K F.δ F.H0 H O a qs xss) (hq : qs[k]? = some q) (hx : xss[k]? = some xs)
    (kk : KE F σ H O s Q ((b s).bind fun y s2 => liftR (ixD (.list xs) y) s2)) : tb σ H fun y H2 => rIx F.m.K (.ref q) y H2 Q := by
  obtain ⟨vs, f1, f2⟩ := g.2.2.2.2 k q xs hq hx
  refine sb.bind I kk fun y s2 w H2 O2 st2 I2 r2 kz => ?_
  obtain ⟨z, qo, zn, kq⟩ := KE_lift kz
  obtain ⟨n, rfl, hz⟩ : ∃ n, y = .int n ∧ (atI xs n).map Sl.val = some z := by
    cases y <;> first | exact ⟨_, rfl, qo⟩ | cases qo
  obtain ⟨d, q1, rfl⟩ := map_val hz
  have f3 := st2.keep q _ (g.2.2.2.1 q (List.mem_cons_of_mem _ (List.mem_of_getElem? hq))).2.1 nt_lst f1
  obtain ⟨u, q2, r⟩ := atI_rep (f2.step st2.stp I.wd) q1
  exact .inl ⟨q, vs, n, u, rfl, r2.int_inv, .of f3, q2, kq u H2 O2 st2 I2 r⟩
theorem e_getN (i : Nat) {x : Str} {a b : Expr} {fa fb : DE} {px p2 pos : Pos} (hK : F.m.K = X.K) (ha : EO F X a fa) (hb : EO F X b fb) (hN : X.N[i]? = some x := by rfl) (hv : Vis X.env.scope x := by first | exact Or.inl rfl | exact Or.inr (Or.inl rfl) | exact Or.inr (Or.inr rfl))
    (hd : (x == ("__debug__" : Str)) = false := by decide) (hcd : (x == ("__classdict__" : Str)) = false := by decide) (hs : PlainIx a := by exact fun _ _ => rfl) (hs2 : PlainIx b := by exact fun _ _ => rfl) : EO F X (.Subscript (.Subscript (.Name x px) a p2) b pos) (eGetN i fa fb) := by
  obtain ⟨ta, pa, sa⟩ := ha
  obtain ⟨tb, pb, sb⟩ := hb
  refine ⟨_, pe_ix ix_seq (pe_ix ix_seq (pe_var hN hv hd hcd) pa hs) pb hs2, fun σ H O s Q I k => ?_⟩
  unfold eGetN at k
  split at k
  · rename_i xss0 h
    obtain ⟨a0, qs0, h1, h2, h3⟩ := I.nst.is i xss0 h
    refine ⟨.ref a0, h1, sa.bind I k fun y s1 w H1 O1 st1 I1 r1 kz => ?_⟩
    split at kz
    · rename_i xss n h'
      split at kz
      · rename_i xs hx
        obtain ⟨a1, qs, g1, g2, g3⟩ := I1.nst.is i xss h'
        rw [h1] at g1
        cases g1
        obtain ⟨k0, e1, e2⟩ := atI_of hx
        have hl : k0 < qs.length := by rw [g2.2.2.1]; exact (List.getElem?_eq_some_iff.mp e2).1
        have hq : qs[k0]? = some qs[k0] := List.getElem?_eq_getElem hl
        refine .inl ⟨a0, qs.map V.ref, n, .ref qs[k0], rfl, r1.int_inv, .of g2.1, atI_mk (k := k0) (by rw [List.length_map, g2.2.2.1]; exact e1) (by rw [List.getElem?_map, hq]; rfl), ?_⟩
        rw [← hK]
        exact get_in sb I1 g2 hq e2 (KE.trans st1 (fun _ => True) kz)
      · exact kz.elim
    · exact kz.elim
  · exact k.elim
end
end DL

set_option Elab.async false
set_option linter.all false
set_option maxRecDepth 100000
set_option maxHeartbeats 4000000
/-! DLJ: lists of lists: stores, aliases. -/
namespace DL
open PySem PySem.Spec L2
open PyProof.Rows hiding St

section
variable {F : Fx} {X : Cx} {H H' H1 H2 : Hp} {O O' O1 O2 : Addr → Prop} {σ σ' : St} {s s' s1 s2 : S} {Q : VK} {QT : Bool → Hp → Prop} {t : TE} {f g : DE} {v : V} {d : D} {K : PySem.W.Frag} {δ : Option Addr} {m : Pm} {c : List Int} {e e' : List Sl} {vs : List V} {ds : List D} {Qe : Ends}

theorem nodup_ne {α : Type} {qs : List α} (h : qs.Nodup) {i j : Nat} {x : α} (hi : qs[i]? = some x) (hj : qs[j]? = some x) : i = j := by
  obtain ⟨h1, e1⟩ := List.getElem?_eq_some_iff.mp hi
  obtain ⟨h2, e2⟩ := List.getElem?_eq_some_iff.mp hj
  rcases Nat.lt_trichotomy i j with hij | hij | hij
  · exact absurd (e1.trans e2.symm) (List.pairwise_iff_getElem.mp h i j h1 h2 hij)
  · exact hij
  · exact absurd (e2.trans e1.symm) (List.pairwise_iff_getElem.mp h j i h2 h1 hij)
theorem ixN_lt {n k : Nat} {i : Int} (h : ixN n i = some k) : k < n := by
  unfold ixN at h
  split at h <;> (try cases h) <;> (try split at h) <;> (try cases h) <;> omega
/-- x[a][b] = e, x a list of lists -/
def dStoreN (i : Nat) (a b v : DE) : DS := fun s => (v s).st fun x s1 => match s1.e[i]? with
  | some (.nst _) => (a s1).st fun n s2 => match s2.e[i]?, n.d with
    | some (.nst xss), .int n => match ixN xss.length n with
      | some k => (b s2).st fun y s3 => match s3.e[i]?, y.d with
        | some (.nst yss), .int m => match yss[k]? with
          | some ys => match ixN ys.length m with
            | some l => .nx { s3 with e := s3.e.set i (.nst (yss.set k (ys.set l x.d))) }
            | none => .stuck
          | none => .stuck
        | _, _ => .stuck
      | none => .stuck
    | _, _ => .stuck
  | _ => .stuck
theorem s_storeN (i : Nat) {x : Str} {ix jx a : Expr} {fi fj fa : DE} {px spos spos2 pos : Pos} (hK : F.m.K = X.K) (hi : EO F X ix fi) (hj : EO F X jx fj) (ha : EO F X a fa) (hN : X.N[i]? = some x := by rfl) (hv : Vis X.env.scope x := by first | exact Or.inl rfl | exact Or.inr (Or.inl rfl) | exact Or.inr (Or.inr rfl))
    (hd : (x == ("__debug__" : Str)) = false := by decide) (hcd : (x == ("__classdict__" : Str)) = false := by decide) (hp : PlainIx ix := by exact fun _ _ => rfl)
    (hst : ∀ v, assign (.Subscript (.Subscript (.Name x px) ix spos2) jx spos) X.env v = (do
      let ov ← holding [v] (eval (.Subscript (.Name x px) ix spos2) X.env)
      let iv ← holding [v, ov] (eval jx X.env)
      standAt spos
      holding [v, ov, iv] (setItem ov iv v)
      release [v, ov, iv] []) := by intro _; rfl)
    (hs : swapsWithSole [.Subscript (.Subscript (.Name x px) ix spos2) jx spos] a pos.line X.env = pure false := by rfl) (hw : swappedStores [.Subscript (.Subscript (.Name x px) ix spos2) jx spos] a X.env = pure none := by rfl)
    (h1 : (assignEach [.Subscript (.Subscript (.Name x px) ix spos2) jx spos] X.env).map (·.2) = [assign (.Subscript (.Subscript (.Name x px) ix spos2) jx spos) X.env] := by rfl) :
    SO F X (.Assign [.Subscript (.Subscript (.Name x px) ix spos2) jx spos] a pos) (dStoreN i fi fj fa) := by
  obtain ⟨ti, pi, si⟩ := hi
  obtain ⟨tj, pj, sj⟩ := hj
  obtain ⟨ta, pa, sa⟩ := ha
  refine ⟨_, ps_asg pa (pg_sub (pe_ix ix_seq (pe_var hN hv hd hcd) pi hp) pj set_list hst) hs hw h1, fun Q σ H O s I k => ?_⟩
  unfold dStoreN at k
  refine sa.stD I k fun y s1 w H1 O1 st I1 r k => ?_
  split at k
  · rename_i xss0 h
    obtain ⟨a0, qs0, f1, f2, f3⟩ := I1.nst.is i xss0 h
    refine ⟨.ref a0, f1, si.stD I1 k fun n s2 u H2 O2 st2 I2 r2 k => ?_⟩
    split at k
    · rename_i xss n' h' en
      split at k
      · rename_i k0 e1
        obtain ⟨a1, qs, g1, g2, g3⟩ := I2.nst.is i xss h'
        rw [f1] at g1
        cases g1
        have hl : k0 < qs.length := by rw [g2.2.2.1]; exact ixN_lt e1
        have hq : qs[k0]? = some qs[k0] := List.getElem?_eq_getElem hl
        rw [en] at r2
        refine .inl ⟨a0, qs.map V.ref, n', .ref qs[k0], rfl, r2.int_inv, .of g2.1, atI_mk (k := k0) (by rw [List.length_map, g2.2.2.1]; exact e1) (by rw [List.getElem?_map, hq]; rfl), ?_⟩
        refine sj.stD I2 k fun m' s3 u3 H3 O3 st3 I3 r3 k => ?_
        split at k
        · rename_i yss m3 h3 em
          split at k
          · rename_i ys hy
            split at k
            · rename_i l el
              obtain ⟨a2, qs2, j1, j2, j3⟩ := I3.nst.is i yss h3
              rw [f1] at j1
              cases j1
              have e2 := st3.keep a0 _ (g2.2.2.2.1 a0 (by simp)).2.1 nt_lst g2.1
              rw [j2.1] at e2
              have e3 : qs2 = qs := map_ref_inj (by injection e2 with e2; injection e2)
              subst e3
              obtain ⟨vs, i1, i2⟩ := j2.2.2.2.2 k0 _ ys hq hy
              have mq : qs2[k0] ∈ a0 :: qs2 := List.mem_cons_of_mem _ (List.getElem_mem hl)
              rw [em] at r3
              have hr := (r.step st2.stp I1.wd).step st3.stp I2.wd
              have n1 := List.nodup_cons.mp j2.2.1
              have ne0 : a0 ≠ qs2[k0] := fun z => n1.1 (z ▸ List.getElem_mem hl)
              have MM : Est F σ (upd H3 qs2[k0] (.lst (vs.set l w))) O3 { s3 with e := s3.e.set i (.nst (yss.set k0 (ys.set l y.d))) } ∧ StS H3 O3 (upd H3 qs2[k0] (.lst (vs.set l w))) O3 := by
                refine I3.mutB (b := qs2[k0]) (us := vs) (ws := vs.set l w) (qs' := qs2) (yss := yss.set k0 (ys.set l y.d)) (j2.2.2.2.1 _ mq).1 (j2.2.2.2.1 _ mq).2.1 i1 (j3 _ mq) (j2.2.2.2.1 _ mq).2.2 h3 f1 j2.1
                  (fun st => ⟨by rw [upd_ne ne0]; exact j2.1, j2.2.1, by rw [List.length_set]; exact j2.2.2.1, j2.2.2.2.1, fun jj b xs u1 u2 => ?_⟩) (fun _ _ h => h) j3
                by_cases hj : jj = k0
                · subst hj
                  rw [hq] at u1
                  cases u1
                  rw [List.getElem?_set_self (by rw [← j2.2.2.1]; exact hl)] at u2
                  cases u2
                  exact ⟨_, upd_same, (RepDs.set hr l i2).stS st I3.wd⟩
                · rw [List.getElem?_set_ne (Ne.symm hj)] at u2
                  obtain ⟨us, t1, t2⟩ := j2.2.2.2.2 jj b xs u1 u2
                  exact ⟨us, by rw [upd_ne (fun z => hj (nodup_ne n1.2 u1 (by rw [z]; exact hq)))]; exact t1, t2.stS st I3.wd⟩
              obtain ⟨I4, st4⟩ := MM
              exact ⟨qs2[k0], vs, m3, l, rfl, r3.int_inv, i1, by rw [i2.length]; exact el, k _ _ O3 st4 I4⟩
            · exact k.elim
          · exact k.elim
        · exact k.elim
      · exact k.elim
    · exact k.elim
  · exact k.elim

/-! ### y = x[a]: y stands for the list at a -/
theorem Est.setAli (I : Est F σ H O s) {i j k : Nat} {xss : List (List D)} {a q : Addr} {qs : List Addr} (hij : j ≠ i) (h : s.e[i]? = some (.nst xss)) (h1 : σ[i]? = some (some (.ref a))) (g1 : H a = some (.lst (qs.map V.ref))) (hq : qs[k]? = some q) :
    Est F (σ.set j (some (.ref q))) H O { s with e := s.e.set j (.ali i k) } := by
  have old : ∀ {l : Nat} {x : Sl}, x ≠ .ali i k → (s.e.set j (.ali i k))[l]? = some x → l ≠ j ∧ s.e[l]? = some x := fun {l x} hx q => by
    by_cases hl : l = j
    · subst hl
      exact absurd (sl_eq q).1 hx
    · rw [sl_ne hl] at q
      exact ⟨hl, q⟩
  refine ⟨I.wd, ⟨?_, fun l d q => ?_, fun l ys q => ?_, fun l k b ys zs hjk q1 q2 r1 r2 => ?_⟩, I.base, ⟨fun l yss q => ?_, fun l k yss zss q1 q2 => I.nst.one l k yss zss (old (by intro z; cases z) q1).2 (old (by intro z; cases z) q2).2, fun l i2 k2 yss a' qs' q1 q2 q3 q4 => ?_⟩⟩
  · show (σ.set j _).length = (s.e.set j _).length
    rw [List.length_set, List.length_set]; exact I.env.len
  · obtain ⟨n, q⟩ := old (by intro z; cases z) q
    rw [sl_ne n]
    exact I.env.vals l d q
  · obtain ⟨n, q⟩ := old (by intro z; cases z) q
    rw [sl_ne n]
    exact I.env.owns l ys q
  · obtain ⟨n1, q1⟩ := old (by intro z; cases z) q1
    obtain ⟨n2, q2⟩ := old (by intro z; cases z) q2
    rw [sl_ne n1] at r1
    rw [sl_ne n2] at r2
    exact I.env.uniq l k b ys zs hjk q1 q2 r1 r2
  · obtain ⟨n, q⟩ := old (by intro z; cases z) q
    obtain ⟨a', qs', t1, t2, t3⟩ := I.nst.is l yss q
    refine ⟨a', qs', by rw [sl_ne n]; exact t1, t2, fun b hb z => t3 b hb ?_⟩
    obtain ⟨p, zs, u1, u2⟩ := z
    obtain ⟨n3, u1⟩ := old (by intro z; cases z) u1
    rw [sl_ne n3] at u2
    exact ⟨p, zs, u1, u2⟩
  · obtain ⟨n, q2⟩ := old (by intro z; cases z) q2
    rw [sl_ne n] at q3
    by_cases hl : l = j
    · subst hl
      obtain ⟨e1, hlt⟩ := sl_eq q1
      cases e1
      rw [h1] at q3
      cases q3
      rw [g1] at q4
      have e3 : qs = qs' := map_ref_inj (by injection q4 with e2; injection e2)
      subst e3
      exact ⟨q, hq, List.getElem?_set_self (by rw [I.env.len]; exact hlt)⟩
    · have q1 : (s.e.set j (.ali i k))[l]? = some (.ali i2 k2) := q1
      rw [sl_ne hl] at q1 ⊢
      exact I.nst.ali l i2 k2 yss a' qs' q1 q2 q3 q4
def dAli (j i : Nat) (a : DE) : DS := fun s => match s.e[i]? with
  | some (.nst _) => (a s).st fun n s1 => match s1.e[i]?, n.d with
    | some (.nst xss), .int n => match ixN xss.length n with
      | some k => .nx { s1 with e := s1.e.set j (.ali i k) }
      | none => .stuck
    | _, _ => .stuck
  | _ => .stuck
theorem s_ali (j i : Nat) {x y : Str} {a : Expr} {fa : DE} {px p2 pos' pos : Pos} (hij : j ≠ i) (hnd : X.N.Nodup) (hK : F.m.K = X.K) (ha : EO F X a fa) (hi : X.N[j]? = some y := by rfl) (hN : X.N[i]? = some x := by rfl) (hx : Loc X.env.scope y := by first | exact Or.inl rfl | exact Or.inr rfl)
    (hv : Vis X.env.scope x := by first | exact Or.inl rfl | exact Or.inr (Or.inl rfl) | exact Or.inr (Or.inr rfl)) (hd : (x == ("__debug__" : Str)) = false := by decide) (hcd : (x == ("__classdict__" : Str)) = false := by decide) (hp : PlainIx a := by exact fun _ _ => rfl)
    (hs : swapsWith (.Subscript (.Name x px) a p2) (some (.Name y pos')) pos.line X.env = pure false := by rfl) (hf : X.fn y = true ∨ X.env.scope.names.lookup y = some .local := by first | exact .inl rfl | exact .inr rfl | assumption) : SO F X (.Assign [.Name y pos'] (.Subscript (.Name x px) a p2) pos) (dAli j i fa) := by
  obtain ⟨ta, pa, sa⟩ := ha
  refine ⟨_, ps_set hnd hi hx (pe_ix ix_seq (pe_var hN hv hd hcd) pa hp) hs hf, fun Q σ H O s I k => ?_⟩
  unfold dAli at k
  split at k
  · rename_i xss0 h
    obtain ⟨a0, qs0, h1, h2, h3⟩ := I.nst.is i xss0 h
    refine ⟨.ref a0, h1, sa.stD I k fun n s1 w H1 O1 st1 I1 r1 kz => ?_⟩
    split at kz
    · rename_i xss n' h' en
      split at kz
      · rename_i k0 e1
        obtain ⟨a1, qs, g1, g2, g3⟩ := I1.nst.is i xss h'
        rw [h1] at g1
        cases g1
        have hl : k0 < qs.length := by rw [g2.2.2.1]; exact ixN_lt e1
        have hq : qs[k0]? = some qs[k0] := List.getElem?_eq_getElem hl
        rw [en] at r1
        exact .inl ⟨a0, qs.map V.ref, n', .ref qs[k0], rfl, r1.int_inv, .of g2.1, atI_mk (k := k0) (by rw [List.length_map, g2.2.2.1]; exact e1) (by rw [List.getElem?_map, hq]; rfl), kz _ H1 O1 .refl (I1.setAli hij h' h1 g2.1 hq)⟩
      · exact kz.elim
    · exact kz.elim
  · exact k.elim
/-- y[b], y standing for one of the lists -/
def eIxA (j : Nat) (b : DE) : DE := fun s => match s.e[j]? with
  | some (.ali i k) => match s.e[i]? with
    | some (.nst xss) => match xss[k]? with
      | some xs => (b s).bind fun y s2 => liftR (ixD (.list xs) y) s2
      | none => .stuck
    | _ => .stuck
  | _ => .stuck
theorem e_ixA (j : Nat) {x : Str} {b : Expr} {fb : DE} {px pos : Pos} (hK : F.m.K = X.K) (hb : EO F X b fb) (hN : X.N[j]? = some x := by rfl) (hv : Vis X.env.scope x := by first | exact Or.inl rfl | exact Or.inr (Or.inl rfl) | exact Or.inr (Or.inr rfl))
    (hd : (x == ("__debug__" : Str)) = false := by decide) (hcd : (x == ("__classdict__" : Str)) = false := by decide) (hs : PlainIx b := by exact fun _ _ => rfl) : EO F X (.Subscript (.Name x px) b pos) (eIxA j fb) := by
  obtain ⟨tb, pb, sb⟩ := hb
  refine ⟨_, pe_ix ix_seq (pe_var hN hv hd hcd) pb hs, fun σ H O s Q I k => ?_⟩
  unfold eIxA at k
  split at k
  · rename_i i k0 h
    split at k
    · rename_i xss h2
      split at k
      · rename_i xs hx
        obtain ⟨a, qs, g1, g2, g3⟩ := I.nst.is i xss h2
        obtain ⟨q, hq, hσ⟩ := I.nst.ali j i k0 xss a qs h h2 g1 g2.1
        refine ⟨.ref q, hσ, ?_⟩
        rw [← hK]
        exact get_in sb I g2 hq hx k
      · exact k.elim
    · exact k.elim
  · exact k.elim
end
end DL

set_option Elab.async false
set_option linter.all false
set_option maxRecDepth 100000
set_option maxHeartbeats 4000000
/-! DLK: sorted(set(list of ints)). -/
namespace DL
open PySem PySem.Spec L2 PyProof.Rows
section
variable {P : Program} {w : World} {A : Around} {E : Value → Shared → Prop} {s : Shared}
/-- set(xs), xs a list of ints (turned from the like theorem about tuples) -/
theorem call_set_lstI {l : Addr} {items : Array Value} (ns : List Int) {Q : Value → Shared → Prop} (hh : A.handled = none) (hl : s.heap.IsList l items) (hit : IntsAre items.toList ns) (hb : ns.length + 1 < scanBound)
    (h : ∀ (h' : Heap) (tk c : Nat), SetR w h' s.heap.objs.size (fun j => decide (j ∈ ns)) c → c ≤ ns.length → (∀ b o, s.heap.get? b = some o → h'.get? b = some o) → Q (.ref s.heap.objs.size) { s with heap := h', toks := tk }) :
    wpAny (model P w) A (call (.type "set") [.ref l]) Q E s := by
  have hisz : items.size = ns.length := by
    have q := IntsAre.length hit
    rw [Array.length_toList] at q
    exact q
  obtain ⟨c, tl, hmro⟩ := PySem.F.called_set.mro
  have hmade := PySem.F.called_set.made
  have hsub := PySem.F.called_set.sub
  refine wpAny_call (codeAny_of_tree ?_)
  show wpAny _ _ (callAny (.type "set") _) _ _ _
  refine wpAny_pure ⟨Code.quiet_builtin _ (by decide +kernel), codeAny_builtin PySem.F.entry_type_call ?_⟩
  rw [Around.under_plain (weight_type_call_type "set" [.ref l] []) rfl]
  have h1 := PySem.F.called_set.notType
  have h2 := PySem.F.called_set.canCreate
  have hct := PySem.F.typeCall_set_1 (.ref l)
  repeat (any_goals (first | assumption | wp_step))

  refine codeAny_mono (code_set_led1 (.ref l) (E := E) (Q₁ := fun obj s₁ => obj = .ref s.heap.objs.size ∧ s₁ = { s with heap := s.heap.push { cls := .type "set", dict := none, data := .set #[] 0 (.fresh 0 0 (!w.params.followText "set-order")) } }) ⟨rfl, rfl⟩) fun r s₁ hr => ?_
  cases r with
  | error e => exact hr
  | ok fl =>
    cases fl with
    | ret obj =>
      obtain ⟨rfl, rfl⟩ := hr
      have hS : (s.heap.push { cls := .type "set", dict := none, data := .set #[] 0 (.fresh 0 0 (!w.params.followText "set-order")) }).get? s.heap.objs.size = some { cls := .type "set", dict := none, data := .set #[] 0 (.fresh 0 0 (!w.params.followText "set-order")) } := Heap.get?_push_size _ rfl
      have hT : Shared.TypeIs { s with heap := s.heap.push { cls := .type "set", dict := none, data := .set #[] 0 (.fresh 0 0 (!w.params.followText "set-order")) } } (.ref s.heap.objs.size) "set" := ⟨_, hS, rfl⟩
      have hli := PySem.F.called_set.init.lookup
      have hbi := PySem.F.called_set.init.bind (.ref s.heap.objs.size)
      repeat (any_goals (first | assumption | wp_step))

      refine codeAny_mono (codeAny_call_builtin (R := wants (fun r s₂ => r = .none ∧ ∃ h' tk c, s₂ = { s with heap := h', toks := tk } ∧ SetR w h' s.heap.objs.size (fun j => decide (j ∈ ns)) c ∧ c ≤ ns.length ∧
          (∀ b o, s.heap.get? b = some o → h'.get? b = some o)) E) PySem.F.called_set.init.plain PySem.F.entry_set_init (check_set_init_1 hT ?_)) fun r₂ s₂ hr₂ => ?_
      · obtain ⟨ol, hol, hcl, nl, hdl⟩ := hl
        obtain ⟨ocls, odict, odata, oslots⟩ := ol
        simp only at hcl hdl
        subst hcl; subst hdl
        have hol' : (s.heap.push { cls := .type "set", dict := none, data := .set #[] 0 (.fresh 0 0 (!w.params.followText "set-order")) }).get? l = some { cls := .type "list", dict := odict, data := .seq items nl, slots := oslots } := Heap.get?_push_of_some _ hol
        have hsls := PySem.F.sub_list_set
        have hslf := PySem.F.sub_list_frozenset
        have hne : (Value.type "list" == Value.type "dict") = false := by decide
        have hl1 : (s.heap.push { cls := .type "set", dict := none, data := .set #[] 0 (.fresh 0 0 (!w.params.followText "set-order")) }).IsList l items := ⟨_, hol', rfl, nl, rfl⟩
        unfold Builtin.«set.__init__» noKeywords Builtin.Frozenset.updateFrom
        generalize hPI : pyIter = PI
        wp_walk
        subst hPI

        refine wpAny_pyIter_list hl1 ?_
        refine wpAny_bind (wpAny_runValue ?_)
        have hlS : l < s.heap.objs.size := Heap.lt_size hol
        have hh3 : A.in1.in1.in1.handled = none := by simp [hh]
        have hz1 : (s.heap.push { cls := .type "set", dict := none, data := .set #[] 0 (.fresh 0 0 (!w.params.followText "set-order")) }).objs.size = s.heap.objs.size + 1 := Heap.size_push ..
        have hneI : l ≠ (s.heap.push { cls := .type "set", dict := none, data := .set #[] 0 (.fresh 0 0 (!w.params.followText "set-order")) }).objs.size := by
          rw [Heap.size_push]; exact Nat.ne_of_lt (Nat.lt_succ_of_lt hlS)
        have hSf : s.heap.objs.size ∉ [(s.heap.push { cls := .type "set", dict := none, data := .set #[] 0 (.fresh 0 0 (!w.params.followText "set-order")) }).objs.size, l] := by
          rw [Heap.size_push]; simp only [List.mem_cons, List.mem_singleton, List.not_mem_nil, or_false, not_or]
          exact ⟨Nat.ne_of_lt (Nat.lt_succ_self _), Nat.ne_of_gt hlS⟩
        have hval : ∀ (i : Nat) (v : Value), items[i]? = some v → ∃ k t, ns[i]? = some k ∧ v = .int k t := fun i v hv => by
          have hi : i < ns.length := by rw [← hisz]; exact (Array.getElem?_eq_some_iff.mp hv).1
          obtain ⟨t, e⟩ := PyProof.Rows.IntsAre.int_at hit i v (by rw [Array.getElem?_toList]; exact hv)
          refine ⟨ns[i], t, List.getElem?_eq_getElem hi, ?_⟩
          rw [e, List.getD_eq_getElem?_getD, List.getElem?_eq_getElem hi] <;> rfl
        refine set_update_ints ((Walks.list hh3 _ l hneI items).toS) s.heap.objs.size
          hSf ns hisz hb hval (items.size - 0) 0 _ (by omega) (Nat.zero_le _)
          ⟨⟨_, Heap.get?_push_size _ rfl, rfl, rfl⟩, (hl1.push _)⟩ ?hS0 ?hR
        case hS0 =>
          have hget : ((s.heap.push { cls := .type "set", dict := none, data := .set #[] 0 (.fresh 0 0 (!w.params.followText "set-order")) }).push { cls := .type "list_iterator", data := .fields #[.ref l, .int 0 0] }).get? s.heap.objs.size
              = some { cls := .type "set", dict := none, data := .set #[] 0 (.fresh 0 0 (!w.params.followText "set-order")) } := Heap.get?_push_of_some _ hS
          exact ⟨0, Nat.le_refl 0, setR_new_at hget⟩
        case hR =>
          intro s' c' hm hc' hS'
          obtain ⟨h', g2, d', tk', os'⟩ := s'
          have eg : g2 = s.gens := hm.gens
          have ed : d' = s.drawn := hm.drawn
          have eo : os' = s.os := hm.os
          subst eg; subst ed; subst eo
          show wpAny _ _ _ _ _ _
          refine wpAny_pure ?_
          show wpAny _ _ (ret Value.none) _ _ _
          rw [hisz] at hc'
          refine wpAny_pure ⟨rfl, h', tk', c', rfl, hS', hc', fun b o e => ?_⟩
          have hb0 : b < s.heap.objs.size := Heap.lt_size e
          have hb1 : b ≠ s.heap.objs.size := Nat.ne_of_lt hb0
          have hb2 : b ≠ (s.heap.push { cls := .type "set", dict := none, data := .set #[] 0 (.fresh 0 0 (!w.params.followText "set-order")) }).objs.size := by
            rw [Heap.size_push]; exact Nat.ne_of_lt (Nat.lt_succ_of_lt hb0)
          exact hm.heap b o (by simp only [List.mem_cons, List.mem_singleton, List.not_mem_nil, or_false, not_or]; exact ⟨hb1, hb2⟩) (Heap.get?_push_of_some _ (Heap.get?_push_of_some _ e))

      · cases r₂ with
        | error e => exact hr₂
        | ok fl₂ =>
          cases fl₂ with
          | ret r =>
            obtain ⟨rfl, h', tk, c', rfl, hS', hc', hk'⟩ := hr₂
            repeat (any_goals (first | assumption | wp_step))
            exact h _ _ _ hS' hc' hk'
          | _ => exact hr₂.elim
    | _ => exact hr.elim
end
end DL


set_option Elab.async false
set_option linter.all false
set_option maxRecDepth 100000
set_option maxHeartbeats 4000000
/-! DLL: sorted(set(xs)), list(range(a, b)). -/
namespace DL
open PySem PySem.Spec L2
open PyProof.Rows hiding St

/-! ### ints in order, each once -/
def insI (k : Int) : List Int → List Int
  | [] => [k]
  | x :: xs => if k < x then k :: x :: xs else if k = x then x :: xs else x :: insI k xs
def ssetI (ns : List Int) : List Int := ns.foldr insI []
theorem insI_mem {k j : Int} : ∀ {xs : List Int}, j ∈ insI k xs ↔ j = k ∨ j ∈ xs
  | [] => by unfold insI; simp
  | x :: xs => by
    unfold insI
    split
    · simp
    · split
      · rename_i h
        subst h
        simp
      · rw [List.mem_cons, insI_mem, List.mem_cons]
        constructor
        · rintro (h | h | h) <;> simp [h]
        · rintro (h | h | h) <;> simp [h]
theorem insI_pw {k : Int} : ∀ {xs : List Int}, xs.Pairwise (· < ·) → (insI k xs).Pairwise (· < ·)
  | [], _ => by unfold insI; simp
  | x :: xs, h => by
    obtain ⟨h1, h2⟩ := List.pairwise_cons.mp h
    unfold insI
    split
    · rename_i hk
      refine List.pairwise_cons.mpr ⟨fun y hy => ?_, h⟩
      rcases List.mem_cons.mp hy with rfl | hy
      · exact hk
      · exact Int.lt_trans hk (h1 y hy)
    · split
      · exact h
      · refine List.pairwise_cons.mpr ⟨fun y hy => ?_, insI_pw h2⟩
        rcases insI_mem.mp hy with rfl | hy
        · omega
        · exact h1 y hy
theorem ssetI_mem {j : Int} : ∀ {ns : List Int}, j ∈ ssetI ns ↔ j ∈ ns
  | [] => by unfold ssetI; simp
  | n :: ns => by
    show j ∈ insI n (ssetI ns) ↔ _
    rw [insI_mem, ssetI_mem, List.mem_cons]
theorem ssetI_pw : ∀ {ns : List Int}, (ssetI ns).Pairwise (· < ·)
  | [] => by unfold ssetI; simp
  | n :: ns => insI_pw (ssetI_pw (ns := ns))
theorem pw_ext : ∀ {xs ys : List Int}, xs.Pairwise (· < ·) → ys.Pairwise (· < ·) → (∀ k, k ∈ xs ↔ k ∈ ys) → xs = ys
  | [], [], _, _, _ => rfl
  | [], y :: ys, _, _, h => by have := (h y).mpr (by simp); cases this
  | x :: xs, [], _, _, h => by have := (h x).mp (by simp); cases this
  | x :: xs, y :: ys, h1, h2, h => by
    obtain ⟨a1, a2⟩ := List.pairwise_cons.mp h1
    obtain ⟨b1, b2⟩ := List.pairwise_cons.mp h2
    have e : x = y := by
      rcases List.mem_cons.mp ((h x).mp (by simp)) with e | e
      · exact e
      · rcases List.mem_cons.mp ((h y).mpr (by simp)) with e2 | e2
        · exact e2.symm
        · have := b1 x e
          have := a1 y e2
          omega
    subst e
    rw [pw_ext a2 b2 fun k => ⟨fun hk => ?_, fun hk => ?_⟩]
    · rcases List.mem_cons.mp ((h k).mp (List.mem_cons_of_mem _ hk)) with e | e
      · have := a1 k hk; omega
      · exact e
    · rcases List.mem_cons.mp ((h k).mpr (List.mem_cons_of_mem _ hk)) with e | e
      · have := b1 k hk; omega
      · exact e

section
variable {F : Fx} {X : Cx} {H H' H1 H2 : Hp} {O O' O1 O2 : Addr → Prop} {σ σ' : St} {s s' s1 s2 : S} {Q : VK} {t : TE} {f g : DE} {v : V} {d : D}
def rSetL (K : PySem.W.Frag) (w : World) : List V → Hp → VK → Prop := fun vs H Q => ∃ (l : Addr) (ns : List Int), vs = [.ref l] ∧ SqL K H l (ns.map V.int) ∧ ns.length ≤ 1000 ∧
  ∀ (p : Addr) (c : Nat), H p = none → c ≤ ns.length → Q (.ref p) (upd H p (SetO w p (fun j => decide (j ∈ ns)) c))
theorem cr_setL (hc : X.calm = true) : CallR X (.type "set") (rSetL X.K X.w) := by
  intro pins s σ H vs us Q I r h
  obtain ⟨l, ns, rfl, hq, hn, q⟩ := h
  obtain ⟨its, rv, pl, hz⟩ := I.list hq
  rw [Vals.ref1 r]
  refine call_set_lstI ns (I.ok.hd hc) pl.isList (by simpa using rv.ints) (by unfold scanBound; omega) fun h' tk c R hc' hk => ?_
  exact ⟨.ref _, upd H s.heap.objs.size (SetO X.w s.heap.objs.size (fun j => decide (j ∈ ns)) c), I.laid (t' := tk) hk (Nat.le_refl _) (setO_new R), rfl, q _ c (I.hok.fresh (Nat.le_refl _)) hc'⟩
def eSortSet (a : DE) : DE := fun s => (a s).bind fun d s1 => match d with
  | .list ds => match intsD ds with
    | some ns => if ns.length < 64 then .ok (.own ((ssetI ns).map PyData.int)) s1 else .stuck
    | none => .stuck
  | _ => .stuck
theorem e_sortSet {a : Expr} {fa : DE} {p p2 q pos : Pos} (hK : F.m.K = X.K) (hc : X.calm = true) (hm : X.mg "sorted" = none) (hg : Gl X "sorted") (hm2 : X.mg "set" = none) (hg2 : Gl X "set") (ha : EO F X a fa)
    (na : starEach [a] X.env = (false, eval a X.env) :: starEach [] X.env := by rfl) (na2 : starEach [.Call (.Name "set" p2) [a] [] q] X.env = (false, eval (.Call (.Name "set" p2) [a] [] q) X.env) :: starEach [] X.env := by rfl)
    (hp1 : (backTo q (starEach ([] : List Expr) X.env)).any (·.1) = false := by rfl) (hp2 : (backTo pos (starEach ([] : List Expr) X.env)).any (·.1) = false := by rfl) :
    EO F X (.Call (.Name "sorted" p) [.Call (.Name "set" p2) [a] [] q] [] pos) (eSortSet fa) := by
  obtain ⟨ta, pa, sa⟩ := ha
  refine ⟨_, pe_callB (cr_sortedSet hc) hg hm (by decide +kernel) (pa_cons (pe_callTy (cr_setL hc) hg2 hm2 (by decide +kernel) (pa_cons pa pa_nil na) (by decide) (by decide) na hp1) pa_nil na2) (by decide) (by decide) na2 hp2, fun σ H O s Q I k => ?_⟩
  unfold eSortSet at k
  refine sa.bind I k fun d s1 v H1 O1 st1 I1 r1 k => ?_
  split at k
  · rename_i ds
    split at k
    · rename_i ns hn
      split at k
      · rename_i hl
        obtain ⟨l, us, rfl, hq, _, ru⟩ := r1.list_inv
        rw [intsD_eq hn] at ru
        rw [ru.of_ints] at hq
        refine ⟨l, ns, rfl, hK ▸ .of hq, by omega, fun p0 c hp hc' => ?_⟩
        refine ⟨p0, _, c, rfl, upd_same, by omega, fun out p1 h1 h2 h3 hp1 => ?_⟩
        have e : out = ssetI ns := pw_ext h1 ssetI_pw fun k => by rw [h2, decide_eq_true_eq, ssetI_mem]
        subst e
        have I2 := I1.ext (Ext.upd (o := SetO X.w p0 (fun j => decide (j ∈ ns)) c) hp)
        exact Res.of (x := .own ((ssetI ns).map PyData.int)) I (st1.trans ((Ext.upd hp).stF (δ := F.δ) (O := O1)).toE) I2 k trivial p1 _ hp1 (RepDs.ints _)
      · exact k.elim
    · exact k.elim
  · exact k.elim
/-- list(range(a, b)) -/
def eLstRg (a b : DE) : DE := fun s => (a s).bind fun x s1 => (b s1).bind fun y s2 => match x, y with
  | .int i, .int j => if 0 ≤ i ∧ i ≤ 16777216 ∧ 0 ≤ j ∧ j ≤ 16777216 then .ok (.own (rangeD i (j - i).toNat)) s2 else .stuck
  | _, _ => .stuck
theorem rgV_rep {K : PySem.W.Frag} {δ : Option Addr} {i j : Int} : RepDs K H O δ (rgV i j) (rangeD i (j - i).toNat) := by
  unfold rgV rangeD
  generalize List.range (j - i).toNat = l
  induction l with
  | nil => exact .nil
  | cons n l ih => exact .cons (.int _) ih
theorem e_lstRg {a b : Expr} {fa fb : DE} {p p2 q pos : Pos} (hc : X.calm = true) (hm : X.mg "list" = none) (hg : Gl X "list") (hm2 : X.mg "range" = none) (hg2 : Gl X "range") (ha : EO F X a fa) (hb : EO F X b fb)
    (na : starEach [a, b] X.env = (false, eval a X.env) :: starEach [b] X.env := by rfl) (nb : starEach [b] X.env = (false, eval b X.env) :: starEach [] X.env := by rfl) (hp : (backTo q (starEach [b] X.env)).any (·.1) = false := by rfl)
    (ne : starEach [.Call (.Name "range" p2) [a, b] [] q] X.env = (false, eval (.Call (.Name "range" p2) [a, b] [] q) X.env) :: starEach [] X.env := by rfl) :
    EO F X (.Call (.Name "list" p) [.Call (.Name "range" p2) [a, b] [] q] [] pos) (eLstRg fa fb) := by
  obtain ⟨ta, pa, sa⟩ := ha
  obtain ⟨tb, pb, sb⟩ := hb
  refine ⟨_, pe_listRg hc hg hm (prg_2 hg2 hm2 pa pb na nb hp) ne, fun σ H O s Q I k => ?_⟩
  unfold eLstRg at k
  refine sa.bind I k fun d s1 v H1 O1 st1 I1 r1 k1 => ?_
  refine sb.bind I1 (KE.trans st1 (fun _ => True) k1) fun d2 s2 v2 H2 O2 st2 I2 r2 k => ?_
  cases d with
  | int i =>
    cases d2 with
    | int j =>
      simp only at k
      split at k
      · rename_i h
        refine ⟨i, j, (r1.step st2.stp I1.wd).int_inv, r2.int_inv, .of_le h.1 h.2.2.2 h.2.1 h.2.2.1, fun q0 hq => ?_⟩
        exact Res.of (x := .own (rangeD i (j - i).toNat)) I1 st2 I2 k trivial q0 _ hq rgV_rep
      · exact k.elim
    | _ => exact k.elim
  | _ => exact k.elim
end
end DL

set_option Elab.async false
set_option linter.all false
set_option maxRecDepth 100000
set_option maxHeartbeats 4000000
/-! DLM: a def's statements one by one, up to the answer True. -/
namespace DL
open PySem PySem.Spec L2
open PyProof.Rows hiding St
def Gd (r : RS) : Prop := ∃ c', r.fin = .ok (.val (.bool true)) c'
theorem Gd.sq {a b : DS} {s s' : S} (e : a s = .nx s') (h : Gd (b s')) : Gd (dSeq a b s) := by
  unfold dSeq
  rw [e]
  exact h
theorem Gd.e1 {α : Sort _} {a b : DS} {s : S} {f : α → S} (e : ∃ x, a s = .nx (f x)) (h : ∀ x, Gd (b (f x))) : Gd (dSeq a b s) :=
  let ⟨x, e⟩ := e
  Gd.sq e (h x)
theorem Gd.e2 {α β : Sort _} {a b : DS} {s : S} {f : α → β → S} (e : ∃ x y, a s = .nx (f x y)) (h : ∀ x y, Gd (b (f x y))) : Gd (dSeq a b s) :=
  let ⟨x, y, e⟩ := e
  Gd.sq e (h x y)
theorem Gd.e3 {α β γ : Sort _} {a b : DS} {s : S} {f : α → β → γ → S} (e : ∃ x y z, a s = .nx (f x y z)) (h : ∀ x y z, Gd (b (f x y z))) : Gd (dSeq a b s) :=
  let ⟨x, y, z, e⟩ := e
  Gd.sq e (h x y z)
theorem Gd.rt {a : DS} {s : S} {c : List Int} (e : a s = .rt (.val (.bool true)) c) : Gd (a s) := ⟨c, by rw [e]; rfl⟩
/-- what is drawn on the way -/
theorem Gd.dr {α : Sort _} {a b : DS} {s : S} {f : α → List Int → S} {P : α → List Int → Prop} (e : ∃ x c', P x c' ∧ a s = .nx (f x c')) (h : ∀ x c', P x c' → Gd (b (f x c'))) : Gd (dSeq a b s) :=
  let ⟨x, c', p, e⟩ := e
  Gd.sq e (h x c' p)
end DL

set_option Elab.async false
set_option linter.all false
set_option maxRecDepth 100000
set_option maxHeartbeats 4000000
/-! DLN: dicts of ints and texts as data: dict(pairs), d[k], k in d, d.get(k, x). -/
namespace DL
open PySem PySem.Spec L2
open PyProof.Rows hiding St

section
variable {α β : Type}
def valG (kvs : List (Key × α)) (k : Key) : Option α := (kvs.find? fun p => decide (p.1 = k)).map (·.2)
def putG (kvs : List (Key × α)) (k : Key) (v : α) : List (Key × α) := if (kvs.any fun p => decide (p.1 = k)) = true then kvs.map (fun p => if p.1 = k then (p.1, v) else p) else kvs ++ [(k, v)]
def mergeG (kvs more : List (Key × α)) : List (Key × α) := more.foldl (fun acc p => putG acc p.1 p.2) kvs
theorem putK_G (kvs : List (Key × V)) (k : Key) (v : V) : putK kvs k v = putG kvs k v := rfl
theorem valV_G (kvs : List (Key × V)) (k : Key) : valV kvs k = valG kvs k := rfl
end
def dicD (kvs : List (Key × D)) : D := .dict (kvs.map fun p => (keyD p.1, p.2))
def KVD (K : PySem.W.Frag) (H : Hp) (O : Addr → Prop) (δ : Option Addr) (kvs : List (Key × V)) (ds : List (Key × D)) : Prop := Paired (fun p q => p.1 = q.1 ∧ RepD K H O δ p.2 q.2) kvs ds
theorem keyD_inj : ∀ {k j : Key}, keyD k = keyD j → k = j
  | .inl _, .inl _, h => by injection h with h; rw [h]
  | .inr _, .inr _, h => by injection h with h; rw [h]
  | .inl _, .inr _, h => by cases h
  | .inr _, .inl _, h => by cases h
section
variable {K : PySem.W.Frag} {H H' : Hp} {O O' : Addr → Prop} {δ : Option Addr} {v : V} {kvs : List (Key × V)} {ds : List (Key × D)} {m : Pm} {c : List Int}
theorem KVD.step (s : Stp δ H O H' O') (w : Wd m δ H O c) (h : KVD K H O δ kvs ds) : KVD K H' O' δ kvs ds := Paired.mapP h fun _ _ q => ⟨q.1, q.2.step s w⟩
theorem KVD.any (h : KVD K H O δ kvs ds) (k : Key) : (kvs.any fun p => decide (p.1 = k)) = ds.any fun p => decide (p.1 = k) := by
  induction h with
  | nil => rfl
  | cons q _ ih => rw [List.any_cons, List.any_cons, ih, q.1]
theorem KVD.repl (h : KVD K H O δ kvs ds) (k : Key) {u : V} {d : D} (r : RepD K H O δ u d) : KVD K H O δ (kvs.map fun p => if p.1 = k then (p.1, u) else p) (ds.map fun p => if p.1 = k then (p.1, d) else p) := by
  induction h with
  | nil => exact .nil
  | @cons p q ps qs hq _ ih =>
    rw [List.map_cons, List.map_cons]
    refine .cons ?_ ih
    rw [hq.1]
    by_cases e : q.1 = k
    · rw [if_pos e, if_pos e]; exact ⟨rfl, r⟩
    · rw [if_neg e, if_neg e]; exact hq
theorem KVD.app {l2 : List (Key × V)} {m2 : List (Key × D)} (h : KVD K H O δ kvs ds) (g : KVD K H O δ l2 m2) : KVD K H O δ (kvs ++ l2) (ds ++ m2) := by
  induction h with
  | nil => exact g
  | cons hq _ ih => exact .cons hq ih
theorem KVD.put (h : KVD K H O δ kvs ds) (k : Key) {u : V} {d : D} (r : RepD K H O δ u d) : KVD K H O δ (putG kvs k u) (putG ds k d) := by
  unfold putG
  rw [h.any k]
  split
  · exact h.repl k r
  · exact h.app (.cons ⟨rfl, r⟩ .nil)
theorem KVD.merge {l2 : List (Key × V)} {m2 : List (Key × D)} (g : KVD K H O δ l2 m2) : ∀ {kvs : List (Key × V)} {ds : List (Key × D)}, KVD K H O δ kvs ds → KVD K H O δ (mergeG kvs l2) (mergeG ds m2) := by
  induction g with
  | nil => exact fun h => h
  | @cons p q ps qs hq _ ih =>
    intro kvs ds h
    have e := h.put p.1 hq.2
    have e2 : KVD K H O δ (putG kvs p.1 p.2) (putG ds q.1 q.2) := by rw [← hq.1]; exact e
    exact ih e2
theorem KVD.val (h : KVD K H O δ kvs ds) (k : Key) : (∀ d, valG ds k = some d → ∃ u, valG kvs k = some u ∧ RepD K H O δ u d) ∧ (valG ds k = none → valG kvs k = none) := by
  induction h with
  | nil => exact ⟨fun d e => (by cases e), fun _ => rfl⟩
  | @cons p q ps qs hq _ ih =>
    unfold valG at ih ⊢
    rw [List.find?_cons, List.find?_cons, hq.1]
    by_cases e : q.1 = k
    · rw [decide_eq_true e]
      exact ⟨fun d z => ⟨p.2, rfl, (by cases z; exact hq.2)⟩, fun z => (by cases z)⟩
    · rw [decide_eq_false e]
      exact ih
theorem KVD.is (h : KVD K H O δ kvs ds) (k : Key) : (valG kvs k).isSome = (valG ds k).isSome := by
  obtain ⟨a, b⟩ := h.val k
  cases e : valG ds k with
  | none => rw [b e]; rfl
  | some d => obtain ⟨u, e2, _⟩ := a d e; rw [e2]; rfl
theorem KVD.reps (h : KVD K H O δ kvs ds) : RepDs K H O δ (kvs.map (·.2)) (ds.map (·.2)) ∧ ((kvs.map fun p => keyD p.1).zip (ds.map (·.2))) = ds.map fun p => (keyD p.1, p.2) := by
  induction h with
  | nil => exact ⟨.nil, rfl⟩
  | @cons p q ps qs hq _ ih =>
    rw [List.map_cons, List.map_cons, List.map_cons, List.map_cons, List.zip_cons_cons, ih.2, hq.1]
    exact ⟨.cons hq.2 ih.1, rfl⟩
theorem RepD.dicM {a : Addr} (h1 : H a = some (.dK kvs)) (h2 : ¬ O a) (h : KVD K H O δ kvs ds) : RepD K H O δ (.ref a) (dicD ds) := by
  obtain ⟨r, e⟩ := h.reps
  have := RepD.dic h1 h2 r
  rw [e] at this
  exact this
theorem kvd_of : ∀ {kvs : List (Key × V)} {xs : List D} {ds : List (Key × D)}, RepDs K H O δ (kvs.map (·.2)) xs → (kvs.map fun p => keyD p.1).zip xs = ds.map (fun p => (keyD p.1, p.2)) → KVD K H O δ kvs ds
  | [], _, [], _, _ => .nil
  | [], [], _ :: _, _, e => by simp at e
  | _ :: _, _ :: _, [], _, e => by simp at e
  | p :: ps, x :: xs, q :: qs, .cons r t, e => by
    rw [List.map_cons, List.map_cons, List.zip_cons_cons] at e
    injection e with e1 e2
    injection e1 with e1 e3
    refine .cons ⟨keyD_inj e1, by rw [← e3]; exact r⟩ (kvd_of t e2)
theorem RepD.dic_inv (r : RepD K H O δ v (dicD ds)) : ∃ a kvs, v = .ref a ∧ H a = some (.dK kvs) ∧ ¬ O a ∧ KVD K H O δ kvs ds := by
  generalize e : dicD ds = d at r
  cases r with
  | dic h n q =>
    unfold dicD at e
    injection e with e
    exact ⟨_, _, rfl, h, n, kvd_of q e.symm⟩
  | cell h =>
    exfalso
    unfold dcell dicD at e
    injection e with e
    cases ds with
    | nil => cases e
    | cons p l => rw [List.map_cons] at e; injection e with e1 _; injection e1 with e1 _; exact keyD_none _ e1
  | scr h q =>
    exfalso
    unfold dscr dicD at e
    injection e with e
    cases ds with
    | nil => cases e
    | cons p l => rw [List.map_cons] at e; injection e with e1 _; injection e1 with e1 _; exact keyD_bool _ _ e1
  | dtt h n =>
    exfalso
    unfold dttD dicD at e
    injection e with e
    cases ds with
    | nil => cases e
    | cons p l => rw [List.map_cons] at e; injection e with e1 _; injection e1 with e1 _; exact keyD_bool _ _ e1
  | fn h =>
    exfalso
    unfold dfn dicD at e
    injection e with e
    cases ds with
    | nil => cases e
    | cons p l => rw [List.map_cons] at e; injection e with e1 _; injection e1 with e1 _; exact keyD_none _ e1
  | _ => unfold dicD at e; cases e
end

/-! ### dict(pairs) -/
def keyOf : D → Option Key
  | .int i => some (.inl i)
  | .str x => some (.inr x)
  | _ => none
theorem keyOf_eq {d : D} {k : Key} (h : keyOf d = some k) : d = keyD k := by
  cases d <;> simp only [keyOf, Option.some.injEq, reduceCtorEq] at h <;> (subst h; rfl)
def pairsD : List D → Option (List (Key × D))
  | [] => some []
  | .tuple [x, d] :: r => match keyOf x with
    | some k => (pairsD r).map ((k, d) :: ·)
    | none => none
  | _ => none
theorem pairsD_pr : ∀ {ds : List D} {ps : List (Key × D)}, pairsD ds = some ps → prD ds = true
  | [], _, _ => rfl
  | .tuple [x, d] :: r, ps, h => by
    unfold pairsD at h
    cases hx : keyOf x with
    | none => simp only [hx] at h; cases h
    | some k =>
      simp only [hx, Option.map_eq_some_iff] at h
      obtain ⟨qs, h1, _⟩ := h
      have := pairsD_pr h1
      unfold prD at this ⊢
      rw [List.all_cons, this, Bool.and_true]
      cases x <;> simp only [keyOf, reduceCtorEq] at hx <;> rfl
  | .none :: _, _, h => by cases h
  | .bool _ :: _, _, h => by cases h
  | .int _ :: _, _, h => by cases h
  | .str _ :: _, _, h => by cases h
  | .list _ :: _, _, h => by cases h
  | .dict _ :: _, _, h => by cases h
  | .tuple [] :: _, _, h => by cases h
  | .tuple [_] :: _, _, h => by cases h
  | .tuple (_ :: _ :: _ :: _) :: _, _, h => by cases h
theorem pairs_rep {K : PySem.W.Frag} {H : Hp} {O : Addr → Prop} {δ : Option Addr} : ∀ {ds : List D} {ps : List (Key × D)} {vs : List V}, pairsD ds = some ps → RepDs K H O δ vs ds → ∃ (as : List Addr) (kvs : List (Key × V)), vs = as.map V.ref ∧ Paired (fun p kv => SqT K H p [kV kv.1, kv.2]) as kvs ∧ KVD K H O δ kvs ps
  | [], ps, _, h, .nil => by cases h; exact ⟨[], [], rfl, .nil, .nil⟩
  | .tuple [x, d] :: r, ps, _, h, .cons q t => by
    unfold pairsD at h
    cases hx : keyOf x with
    | none => simp only [hx] at h; cases h
    | some k =>
      simp only [hx, Option.map_eq_some_iff] at h
      obtain ⟨qs, h1, rfl⟩ := h
      obtain ⟨as, kvs, rfl, e1, e2⟩ := pairs_rep h1 t
      obtain ⟨a, us, rfl, ha, ra⟩ := q.tup_inv
      cases ra with | cons r1 ra => cases ra with | cons r2 ra => cases ra with | nil =>
        rename_i y z
        rw [keyOf_eq hx] at r1
        have hy : y = kV k := by
          cases k with
          | inl i => exact r1.int_inv
          | inr i => exact r1.str_inv
        subst hy
        exact ⟨a :: as, (k, z) :: kvs, rfl, .cons ha e1, .cons ⟨rfl, r2⟩ e2⟩
  | .none :: _, _, _, h, _ => by cases h
  | .bool _ :: _, _, _, h, _ => by cases h
  | .int _ :: _, _, _, h, _ => by cases h
  | .str _ :: _, _, _, h, _ => by cases h
  | .list _ :: _, _, _, h, _ => by cases h
  | .dict _ :: _, _, _, h, _ => by cases h
  | .tuple [] :: _, _, _, h, _ => by cases h
  | .tuple [_] :: _, _, _, h, _ => by cases h
  | .tuple (_ :: _ :: _ :: _) :: _, _, _, h, _ => by cases h
def rDictT (K : PySem.W.Frag) : List V → Hp → VK → Prop := fun xs H Q => ∃ (a : Addr) (ps : List Addr) (kvs : List (Key × V)), xs = [.ref a] ∧ Pl H a (ps.map V.ref) ∧ Paired (fun p kv => SqT K H p [kV kv.1, kv.2]) ps kvs ∧ ∀ p, H p = none → Q (.ref p) (upd H p (.dK (mergeK [] kvs)))
theorem call_dictT {X : Cx} (hcalm : X.calm = true) : CallR X (.type "dict") (rDictT X.K) := by
  intro pins s σ H xs us Q I r q
  obtain ⟨a, ps, kvs, rfl, ⟨o, ho, hno⟩, hp, q⟩ := q
  obtain ⟨u, rfl, rx⟩ := vals1 r
  cases rx
  obtain ⟨hg, hz, its, rv, o', hg', hc, n, hdat⟩ := (show ObjOk X.prog X.w H s.heap a (.frz o (.tup (ps.map V.ref))) from I.hok a _ ho)
  rw [hg] at hg'
  cases hg'
  have ei := refs_at rv
  subst ei
  rw [List.length_map] at hz
  obtain ⟨prs, rel, hl, hpr⟩ := pairs_of I hp
  have hlen : (mergeK [] kvs).length ≤ sizeLine := by
    have h1 := length_mergeK kvs []
    have h2 := rel.length
    simp only [List.length_nil] at h1
    omega
  have hm : (s.heap.objs.size == sysModules) = false := beq_eq_false_iff_ne.mpr (Nat.ne_of_gt I.big)
  let us : Nat → Value := fun j => match prs[j]? with
    | some q => match s.heap.get? (ps.getD j 0) with
      | some ob => match ob.data with
        | .seq xs _ => xs.getD 0 .none
        | _ => .none
      | none => .none
    | none => .none
  have husj : ∀ (j : Nat) (q : Key × Value), prs[j]? = some q → ps[j]? = some (ps.getD j 0) ∧ IsTup s.heap (ps.getD j 0) #[us j, q.2] ∧ keyIs q.1 (us j) = true := fun j q e => by
    obtain ⟨b, u', e1, e2, e3⟩ := hpr j q e
    have hb : ps.getD j 0 = b := by rw [List.getD_eq_getElem?_getD, e1]; rfl
    obtain ⟨ob, g1, g2, n', g3⟩ := id e2
    have hu : us j = u' := by
      show (match prs[j]? with | some q => _ | none => _) = u'
      rw [e, hb, g1]
      show (match ob.data with | .seq xs _ => xs.getD 0 .none | _ => .none) = u'
      rw [g3]
      rfl
    rw [hb, hu]
    exact ⟨e1, e2, e3⟩
  refine PySem.call_dict_pairs (knd := mixKind X.prog X.w) (kvs := prs) (PairArg.tuple a (ps.map Value.ref).toArray (fun j => ps.getD j 0) ((List.range prs.length).map fun j => (us j, (prs.getD j (.inl 0, .none)).2))) (I.ok.hd hcalm)
    ⟨⟨o, n, hg, hc, hno, hdat⟩, by simp [hl], fun j k v hj => ?_⟩ ⟨by simp, fun i key v hi => ?_⟩ (by rw [List.length_map, List.length_range, hl]; exact hz) fun h' tk hd hk => ?_
  · rw [List.getElem?_map, Option.map_eq_some_iff] at hj
    obtain ⟨j', h1, h2⟩ := hj
    have hjl : j < prs.length := by
      rcases Nat.lt_or_ge j prs.length with h | h
      · exact h
      · rw [List.getElem?_eq_none (by simpa using h)] at h1; cases h1
    rw [List.getElem?_range hjl] at h1
    cases h1
    have e : prs[j]? = some prs[j] := List.getElem?_eq_getElem hjl
    obtain ⟨g1, g2, g3⟩ := husj j _ e
    have hv : prs.getD j (.inl 0, .none) = prs[j] := by rw [List.getD_eq_getElem?_getD, e]; rfl
    rw [hv] at h2
    cases h2
    refine ⟨?_, .inl g2⟩
    rw [List.getElem?_toArray, List.getElem?_map, g1]
    rfl
  · have hi : ((List.range prs.length).map fun j => (us j, (prs.getD j (.inl 0, .none)).2))[i]? = some (key, v) := hi
    rw [List.getElem?_map, Option.map_eq_some_iff] at hi
    obtain ⟨j', h1, h2⟩ := hi
    have hjl : i < prs.length := by
      rcases Nat.lt_or_ge i prs.length with h | h
      · exact h
      · rw [List.getElem?_eq_none (by simpa using h)] at h1; cases h1
    rw [List.getElem?_range hjl] at h1
    cases h1
    have e : prs[i]? = some prs[i] := List.getElem?_eq_getElem hjl
    obtain ⟨g1, g2, g3⟩ := husj i _ e
    have hv : prs.getD i (.inl 0, .none) = prs[i] := by rw [List.getD_eq_getElem?_getD, e]; rfl
    rw [hv] at h2
    cases h2
    exact ⟨prs[i].1, e, g3⟩
  · exact ⟨.ref s.heap.objs.size, upd H s.heap.objs.size (.dK (mergeK [] kvs)), I.laid (t' := tk) (fun b ob e => hk b ob (fun z => nomatch z) e) (Nat.le_refl _)
      (show ObjOk X.prog X.w _ _ _ (.dK (mergeK [] kvs)) from ⟨hlen, hm, merged [] prs, KV.merge rel .nil, hd⟩), rfl, q _ (I.hok.fresh (Nat.le_refl _))⟩
def dictB : List D → Option Sl
  | [.list ps] => (pairsD ps).map fun kvs => .val (dicD (mergeG [] kvs))
  | [.tuple ps] => (pairsD ps).map fun kvs => .val (dicD (mergeG [] kvs))
  | _ => none
def rDictL (K : PySem.W.Frag) : List V → Hp → VK → Prop := fun xs H Q => ∃ (a : Addr) (ps : List Addr) (kvs : List (Key × V)), xs = [.ref a] ∧ SqL K H a (ps.map V.ref) ∧ Paired (fun p kv => SqT K H p [kV kv.1, kv.2]) ps kvs ∧ ∀ p, H p = none → Q (.ref p) (upd H p (.dK (mergeK [] kvs)))
def rDictB (K : PySem.W.Frag) : List V → Hp → VK → Prop := fun xs H Q => rDictL K xs H Q ∨ rDictT K xs H Q
theorem call_dictB {X : Cx} (hcalm : X.calm = true) : CallR X (.type "dict") (rDictB X.K) := CallR.or (call_dictP hcalm) (call_dictT hcalm)
section
variable {F : Fx} {X : Cx} {H H' H1 H2 : Hp} {O O' O1 O2 : Addr → Prop} {σ : St} {s s1 s2 : S} {Q : VK} {fa fb fc : DE} {K : PySem.W.Frag} {δ : Option Addr} {c : List Int}
theorem dic_new {m : Pm} {kvs : List (Key × V)} {ps : List (Key × D)} {p : Addr} (w : Wd m δ H O c) (hp : H p = none) (h : KVD K H O δ kvs ps) : RepD K (upd H p (.dK kvs)) O δ (.ref p) (dicD ps) := by
  refine .dicM upd_same (fun z => ?_) (h.step (StF.stp ((Ext.upd hp).stF (O := O))) w)
  obtain ⟨_, q⟩ := w.src p z
  rw [hp] at q
  cases q
theorem s_dict : PrimS F (rDictB F.m.K) dictB := by
  intro H O c vs ds z Q w rx hg hq
  unfold dictB at hg
  split at hg
  · simp only [Option.map_eq_some_iff] at hg
    obtain ⟨ps, h1, rfl⟩ := hg
    obtain ⟨v, rfl, r⟩ := one_inv rx
    obtain ⟨a, us, rfl, ha, _, ra⟩ := r.list_inv
    obtain ⟨as, kvs, rfl, e1, e2⟩ := pairs_rep h1 ra
    exact .inl ⟨a, as, kvs, rfl, .of ha, e1, fun p hp => hq _ _ (Ext.upd hp) (dic_new w hp (KVD.merge e2 .nil))⟩
  · simp only [Option.map_eq_some_iff] at hg
    obtain ⟨ps, h1, rfl⟩ := hg
    obtain ⟨v, rfl, r⟩ := one_inv rx
    obtain ⟨a, us, rfl, ha, pa, ra⟩ := r.tup_invP
    obtain ⟨as, kvs, rfl, e1, e2⟩ := pairs_rep h1 ra
    exact .inr ⟨a, as, kvs, rfl, pa (pairsD_pr h1), e1, fun p hp => hq _ _ (Ext.upd hp) (dic_new w hp (KVD.merge e2 .nil))⟩
  · cases hg

/-! ### d[k], k in d, d.get(k, x) -/
def rDGet : R2 := fun x y H Q => ∃ a v, x = .ref a ∧ DGet H a y (some v) ∧ Q v H
def entD : List (D × D) → Option (List (Key × D))
  | [] => some []
  | (x, d) :: r => match keyOf x with
    | some k => (entD r).map ((k, d) :: ·)
    | none => none
theorem entD_eq : ∀ {l : List (D × D)} {ps : List (Key × D)}, entD l = some ps → PyData.dict l = dicD ps
  | [], _, h => by cases h; rfl
  | (x, d) :: r, ps, h => by
    unfold entD at h
    cases hx : keyOf x with
    | none => simp only [hx] at h; cases h
    | some k =>
      simp only [hx, Option.map_eq_some_iff] at h
      obtain ⟨qs, h1, rfl⟩ := h
      have e := entD_eq h1
      unfold dicD at e ⊢
      injection e with e
      rw [List.map_cons, keyOf_eq hx, e]
theorem entD_dic : ∀ ps : List (Key × D), entD (ps.map fun p => (keyD p.1, p.2)) = some ps
  | [] => rfl
  | (k, d) :: r => by
    rw [List.map_cons]
    unfold entD
    have e : keyOf (keyD k) = some k := by cases k <;> rfl
    simp only [e, entD_dic r]
    rfl
/-- what stands in a dict -/
def lookD (x y : D) : Option (Option D) := match x with
  | .dict l => match entD l, keyOf y with
    | some ps, some k => some (valG ps k)
    | _, _ => none
  | _ => none
theorem lookD_dic {ps : List (Key × D)} {y : D} {k : Key} (h : keyOf y = some k) : lookD (dicD ps) y = some (valG ps k) := by
  unfold lookD dicD
  simp only [entD_dic, h]
theorem lookD_inv {x y : D} {o : Option D} {v u : V} (h : lookD x y = some o) (rx : RepD K H O δ v x) (ry : RepD K H O δ u y) : ∃ a kvs k ps, v = .ref a ∧ u = kV k ∧ H a = some (.dK kvs) ∧ KVD K H O δ kvs ps ∧ o = valG ps k := by
  unfold lookD at h
  split at h
  · split at h
    · rename_i ps k h1 h2
      cases h
      rw [entD_eq h1] at rx
      obtain ⟨a, kvs, rfl, e1, _, e2⟩ := rx.dic_inv
      rw [keyOf_eq h2] at ry
      refine ⟨a, kvs, k, ps, rfl, ?_, e1, e2, rfl⟩
      cases k with
      | inl i => exact ry.int_inv
      | inr i => exact ry.str_inv
    · cases h
  · cases h
def dgetD (x y : D) : Option Sl := match lookD x y with
  | some (some d) => some (.val d)
  | _ => none
theorem s_dget : OpS F rDGet dgetD := by
  intro H O c x y dx dy z Q w rx ry hg hq
  unfold dgetD at hg
  split at hg
  · rename_i d h
    cases hg
    obtain ⟨a, kvs, k, ps, rfl, rfl, h1, h2, h3⟩ := lookD_inv h rx ry
    obtain ⟨u, h4, h5⟩ := (h2.val k).1 d h3.symm
    exact ⟨a, u, rfl, by rw [← h4]; exact DGet.k h1, hq _ H .refl h5⟩
  · cases hg
def eDGet (a b : DE) : DE := eOp dgetD a b
theorem e_dget {k : Nat} {a b : Expr} {pos : Pos} (hr : Room k X.A) (ha : EO F X a fa) (hb : EO F X b fb) (hs : NoSl b := by exact fun _ _ => rfl) : EO F X (.Subscript a b pos) (eDGet fa fb) :=
  let ⟨_, pa, sa⟩ := ha
  let ⟨_, pb, sb⟩ := hb
  ⟨_, pe_dget (hu_of hr) pa pb hs, s_op sa sb s_dget⟩
def rDIn : R2 := fun y x H Q => ∃ a o, x = .ref a ∧ DGet H a y o ∧ Q (.bl o.isSome) H
def rDNin : R2 := fun y x H Q => ∃ a o, x = .ref a ∧ DGet H a y o ∧ Q (.bl (!o.isSome)) H
def dinD (y x : D) : Option Sl := (lookD x y).map fun o => .val (.bool o.isSome)
def dninD (y x : D) : Option Sl := (lookD x y).map fun o => .val (.bool (!o.isSome))
theorem s_din : OpS F rDIn dinD := by
  intro H O c y x dy dx z Q w ry rx hg hq
  unfold dinD at hg
  rw [Option.map_eq_some_iff] at hg
  obtain ⟨o, h, rfl⟩ := hg
  obtain ⟨a, kvs, k, ps, rfl, rfl, h1, h2, rfl⟩ := lookD_inv h rx ry
  refine ⟨a, _, rfl, DGet.k h1, hq _ H .refl ?_⟩
  rw [valV_G, h2.is]
  exact .bl _
theorem s_dnin : OpS F rDNin dninD := by
  intro H O c y x dy dx z Q w ry rx hg hq
  unfold dninD at hg
  rw [Option.map_eq_some_iff] at hg
  obtain ⟨o, h, rfl⟩ := hg
  obtain ⟨a, kvs, k, ps, rfl, rfl, h1, h2, rfl⟩ := lookD_inv h rx ry
  refine ⟨a, _, rfl, DGet.k h1, hq _ H .refl ?_⟩
  rw [valV_G, h2.is]
  exact .bl _
theorem dinD_bool : ∀ x y z, dinD x y = some z → ∃ k, z = .val (.bool k) := fun x y z h => by
  unfold dinD at h
  rw [Option.map_eq_some_iff] at h
  obtain ⟨o, _, rfl⟩ := h
  exact ⟨_, rfl⟩
theorem dninD_bool : ∀ x y z, dninD x y = some z → ∃ k, z = .val (.bool k) := fun x y z h => by
  unfold dninD at h
  rw [Option.map_eq_some_iff] at h
  obtain ⟨o, _, rfl⟩ := h
  exact ⟨_, rfl⟩
def eDIn (a b : DE) : DE := eOp dinD a b
def eDNin (a b : DE) : DE := eOp dninD a b
section
variable {k : Nat} {a b e : Expr} {pos : Pos}
theorem e_din (hr : Room k X.A) (ha : EO F X a fa) (hb : EO F X b fb) (hm : behindInMarks .In b = false := by with_unfolding_all rfl) : EO F X (.Compare a [.In] [b] pos) (eDIn fa fb) :=
  let ⟨_, pa, sa⟩ := ha
  let ⟨_, pb, sb⟩ := hb
  ⟨_, pe_cmp (pc_din (hu_of hr) pa pb) hm, s_op sa sb s_din⟩
theorem t_din (hr : Room k X.A) (ha : EO F X a fa) (hb : EO F X b fb) (hm : behindInMarks .In b = false := by with_unfolding_all rfl) : TO F X (.Compare a [.In] [b] pos) (eDIn fa fb) :=
  let ⟨_, pa, sa⟩ := ha
  let ⟨_, pb, sb⟩ := hb
  ⟨_, pt_cmp (pc_din (hu_of hr) pa pb) hm, s_cmpT sa sb s_din dinD_bool⟩
theorem t_dnin (hr : Room k X.A) (ha : EO F X a fa) (hb : EO F X b fb) (hm : behindInMarks .NotIn b = false := by with_unfolding_all rfl) : TO F X (.Compare a [.NotIn] [b] pos) (eDNin fa fb) :=
  let ⟨_, pa, sa⟩ := ha
  let ⟨_, pb, sb⟩ := hb
  ⟨_, pt_cmp (pc_dnotin (hu_of hr) pa pb) hm, s_cmpT sa sb s_dnin dninD_bool⟩
/-- d.get(k, x), d a dict that is data -/
def eDGet2 (a b c : DE) : DE := fun s => (a s).bind fun x s1 => match x with
  | .dict l => match entD l with
    | some _ => (b s1).bind fun y s2 => (c s2).bind fun z s3 => match lookD x y with
      | some (some d) => .ok (.val d) s3
      | some none => .ok (.val z) s3
      | none => .stuck
    | none => .stuck
  | _ => .stuck
theorem e_dget2 {apos : Pos} (hr : Room k X.A) (ha : EO F X a fa) (hb : EO F X b fb) (he : EO F X e fc) (m : M2 X a "get" apos b e pos := by exact ⟨rfl, rfl, rfl, rfl⟩) : EO F X (.Call (.Attribute a "get" apos) [b, e] [] pos) (eDGet2 fa fb fc) := by
  obtain ⟨ta, pa, sa⟩ := ha
  obtain ⟨tb, pb, sb⟩ := hb
  obtain ⟨tc, pc, sc⟩ := he
  refine ⟨_, pe_dget2 (hu_of hr) pa pb pc m, fun σ H O s Q I k => ?_⟩
  refine sa.bind I k fun x s1 v H1 O1 st1 I1 r1 k1 => ?_
  clear k
  split at k1
  · split at k1
    · rename_i l ps hps
      have r1' := r1
      rw [entD_eq hps] at r1'
      obtain ⟨ad, kvs, rfl, e1, _, e2⟩ := r1'.dic_inv
      refine ⟨ad, rfl, .inl ⟨kvs, .inl e1⟩, ?_⟩
      refine sb.bind I1 (k1.trans st1 fun _ => True) fun y s2 w H2 O2 st2 I2 r2 k2 => ?_
      clear k1
      refine sc.bind I2 (k2.trans st2 fun _ => True) fun z s3 u H3 O3 st3 I3 r3 k3 => ?_
      clear k2
      have q1 := (r1.step st2.stp I1.wd).step st3.stp I2.wd
      have q2 := r2.step st3.stp I2.wd
      have k3 := k3.trans st3 fun _ => True
      split at k3
      · rename_i d hl
        obtain ⟨a', kvs', k', ps', e3, rfl, h1, h2, h3⟩ := lookD_inv hl q1 q2
        cases e3
        obtain ⟨u', h4, h5⟩ := (h2.val k').1 d h3.symm
        refine ⟨some u', by rw [← h4]; exact DGet.k h1, ?_⟩
        exact k3 u' H3 O3 .refl I3 h5
      · rename_i hl
        obtain ⟨a', kvs', k', ps', e3, rfl, h1, h2, h3⟩ := lookD_inv hl q1 q2
        cases e3
        refine ⟨none, by rw [← (h2.val k').2 h3.symm]; exact DGet.k h1, ?_⟩
        exact k3 u H3 O3 .refl I3 r3
      · exact k3.elim
    · exact k1.elim
  · exact k1.elim
end
end
section
variable {F : Fx} {X : Cx} {fa : DA} {e : Expr} {es : List Expr} {p pos : Pos}
theorem e_dict (hK : F.m.K = X.K) (hc : X.calm = true) (hm : X.mg "dict" = none) (ha : AO F X (e :: es) fa) (hg : Gl X "dict" := by rfl) (he : starEach (e :: es) X.env = (false, eval e X.env) :: starEach es X.env := by rfl) (hpl : (backTo pos (starEach es X.env)).any (·.1) = false := by rfl) : EO F X (.Call (.Name "dict" p) (e :: es) [] pos) (eB dictB fa) :=
  e_Ty (call_dictB hc) (hK ▸ s_dict) hg hm PyProof.Rows.Boot.«dict» ha (by decide) (by decide) he hpl
end
section
variable {a b : DE} {c : DE} {s : S}
@[simp] theorem eDGet_eq : eDGet a b = eOp dgetD a b := rfl
@[simp] theorem eDIn_eq : eDIn a b = eOp dinD a b := rfl
@[simp] theorem eDNin_eq : eDNin a b = eOp dninD a b := rfl
end
theorem dinD_dic {ps : List (Key × D)} {y : D} {k : Key} (h : keyOf y = some k) : dinD y (dicD ps) = some (.val (.bool (valG ps k).isSome)) := by
  unfold dinD
  rw [lookD_dic h]
  rfl
theorem dgetD_dic {ps : List (Key × D)} {y d : D} {k : Key} (h : keyOf y = some k) (e : valG ps k = some d) : dgetD (dicD ps) y = some (.val d) := by
  unfold dgetD
  rw [lookD_dic h, e]
end DL

set_option Elab.async false
set_option linter.all false
set_option maxRecDepth 100000
set_option maxHeartbeats 4000000
/-! DLO: t < u of tuples of ints. -/
namespace DL
open PySem PySem.Spec L2
open PyProof.Rows hiding St
section
variable {F : Fx} {X : Cx} {fa fb : DE} {k : Nat} {a b : Expr} {pos : Pos}
def ltTD : D → D → Option Sl
  | .tuple xs, .tuple ys => match intsD xs, intsD ys with
    | some ns, some ms => some (.val (.bool (HT.lexLt ns ms)))
    | _, _ => none
  | _, _ => none
theorem s_ltT : OpS F (rLtT F.m.K) ltTD := by
  intro H O c x y dx dy z Q w rx ry hg hq
  unfold ltTD at hg
  split at hg
  · split at hg
    · rename_i ns ms e1 e2
      cases hg
      obtain ⟨a, vs, rfl, ha, ra⟩ := rx.tup_inv
      obtain ⟨b, ws, rfl, hb, rb⟩ := ry.tup_inv
      rw [intsD_eq e1] at ra
      rw [intsD_eq e2] at rb
      exact ⟨a, b, ns, ms, rfl, rfl, by rw [← ra.of_ints]; exact ha, by rw [← rb.of_ints]; exact hb, hq _ H .refl (.bl _)⟩
    · cases hg
  · cases hg
theorem ltTD_bool : ∀ x y z, ltTD x y = some z → ∃ k, z = .val (.bool k) := by
  intro x y z h
  unfold ltTD at h
  split at h
  · split at h
    · cases h; exact ⟨_, rfl⟩
    · cases h
  · cases h
def eLtT (a b : DE) : DE := eOp ltTD a b
@[simp] theorem eLtT_eq {a b : DE} : eLtT a b = eOp ltTD a b := rfl
theorem e_ltT (hr : Room k X.A) (hK : F.m.K = X.K) (ha : EO F X a fa) (hb : EO F X b fb) : EO F X (.Compare a [.Lt] [b] pos) (eLtT fa fb) := e_cmp (op_ltT hr.units0) (hK ▸ s_ltT) (nomark _) ha hb
theorem t_ltT (hr : Room k X.A) (hK : F.m.K = X.K) (ha : EO F X a fa) (hb : EO F X b fb) : TO F X (.Compare a [.Lt] [b] pos) (eLtT fa fb) := t_cmp (op_ltT hr.units0) (hK ▸ s_ltT) ltTD_bool (nomark _) ha hb
end
section
variable {F : Fx} {X : Cx} {H H' H1 H2 : Hp} {O O' O1 O2 : Addr → Prop} {σ σ' σ2 : St} {s s' s1 s2 : S} {Q : VK}
/-- a, b, c = x, y, z where names may be cells -/
theorem s_parT3 (i j l : Nat) {x y z : Str} {a b c : Expr} {fa fb fc : DE} {px py pz pt pos : Pos} {kt k2 pt2} (hc : X.calm = true) (hnd : X.N.Nodup) (ha : EO F X a fa) (hb : EO F X b fb) (hcc : EO F X c fc) (hi : X.N[i]? = some x := by rfl) (hj : X.N[j]? = some y := by rfl) (hl : X.N[l]? = some z := by rfl)
    (hij : i ≠ j := by decide) (hil : i ≠ l := by decide) (hjl : j ≠ l := by decide)
    (hx : Loc X.env.scope x := by first | exact Or.inl rfl | exact Or.inr rfl) (hy : Loc X.env.scope y := by first | exact Or.inl rfl | exact Or.inr rfl) (hz : Loc X.env.scope z := by first | exact Or.inl rfl | exact Or.inr rfl)
    (hfx : X.fn x = true ∨ X.env.scope.names.lookup x = some .local := by first | exact .inl rfl | exact .inr rfl) (hfy : X.fn y = true ∨ X.env.scope.names.lookup y = some .local := by first | exact .inl rfl | exact .inr rfl) (hfz : X.fn z = true ∨ X.env.scope.names.lookup z = some .local := by first | exact .inl rfl | exact .inr rfl)
    (hst : starEach [a, b, c] X.env = (false, eval a X.env) :: starEach [b, c] X.env := by rfl) (hst2 : starEach [b, c] X.env = (false, eval b X.env) :: starEach [c] X.env := by rfl) (hst3 : starEach [c] X.env = (false, eval c X.env) :: starEach [] X.env := by rfl)
    (hw : swappedStores [.Tuple [.Name x px, .Name y py, .Name z pz] kt pt] (.Tuple [a, b, c] k2 pt2) X.env = pure none := by rfl)
    (hs : swapsWithSole [.Tuple [.Name x px, .Name y py, .Name z pz] kt pt] (.Tuple [a, b, c] k2 pt2) pos.line X.env = pure false := by rfl)
    (h1 : (assignEach [.Tuple [.Name x px, .Name y py, .Name z pz] kt pt] X.env).map (·.2) = [assign (.Tuple [.Name x px, .Name y py, .Name z pz] kt pt) X.env] := by rfl)
    (hn : (assignEach [.Name x px, .Name y py, .Name z pz] X.env).length = [Expr.Name x px, Expr.Name y py, Expr.Name z pz].length := by rfl) (hfi : (assignEach [.Name x px, .Name y py, .Name z pz] X.env).findIdx? (·.1) = none := by rfl)
    (he1 : (assignEach [.Name x px, .Name y py, .Name z pz] X.env).map (·.2) = assign (.Name x px) X.env :: (assignEach [.Name y py, .Name z pz] X.env).map (·.2) := by rfl)
    (he2 : (assignEach [.Name y py, .Name z pz] X.env).map (·.2) = assign (.Name y py) X.env :: (assignEach [.Name z pz] X.env).map (·.2) := by rfl) (he3 : (assignEach [.Name z pz] X.env).map (·.2) = assign (.Name z pz) X.env :: (assignEach [] X.env).map (·.2) := by rfl) :
    SO F X (.Assign [.Tuple [.Name x px, .Name y py, .Name z pz] kt pt] (.Tuple [a, b, c] k2 pt2) pos) (dPar3 i j l fa fb fc) := by
  obtain ⟨ta, pa, sa⟩ := ha
  obtain ⟨tb, pb, sb⟩ := hb
  obtain ⟨tc, pc, sc⟩ := hcc
  refine ⟨_, ps_asg (pe_tup (pa_cons pa (pa_cons pb (pa_cons pc pa_nil hst3) hst2) hst)) (pg_tup hc (pgs_cons (pg_name hnd hi hx hfx) (pgs_cons (pg_name hnd hj hy hfy) (pgs_cons (pg_name hnd hl hz hfz) pgs_nil he3) he2) he1) hn hfi) hs hw h1, fun Q σ H O s I k => ?_⟩
  refine sa.stX I k fun x s1 v H1 O1 st1 I1 r1 k => ?_
  refine sb.stX I1 k fun y s2 w H2 O2 st2 I2 r2 k => ?_
  refine sc.stX I2 k fun z s3 u H3 O3 st3 I3 r3 k => ?_
  refine ⟨by show 3 ≤ sizeLine; rw [sizeLine_eq]; omega, fun p hp => ?_⟩
  refine ⟨p, [v, w, u], rfl, .of upd_same, rfl, v, [w, u], rfl, w, [u], rfl, u, [], rfl, rfl, ?_⟩
  refine k _ _ O3 ((Ext.upd hp).stF.stS I3.wd) (Est.ext ?_ (Ext.upd hp))
  have q1 := (r1.step I st1 I1 st2).step I (st1.trans st2) I2 st3
  have q2 := r2.step I1 st2 I2 st3
  have J1 := I.setX ((st1.trans st2).trans st3) I3 i q1
  have own_some : ∀ {H H1 : Hp} {O1 : Addr → Prop} {v : V} {x : Sl} {a : Addr} {xs : List D}, SlX F H H1 O1 v x → x = .own xs → v = .ref a → H1 a ≠ none ∧ H a = none := fun {H H1 O1 v x a xs} r e ev => by
    subst e
    obtain ⟨a', vs', g1, g2, g3, g4, g5, g6⟩ := r
    rw [g1] at ev
    cases ev
    exact ⟨by rw [g4]; simp, g6⟩
  have J2 := J1.set (x := y) j (SlX.base I1 q2) (fun b ys e ev hm => by
    rcases mine_of I3.env.len hm with hm | ⟨e1, xs, e2⟩
    · exact I1.env.mine (st2.mine _ (st3.mine _ hm)) (own_some q2 e ev).2
    · exact (own_some r1 e2 e1).1 (own_some q2 e ev).2) fun b ys e ev hN => I1.nestN (st2.trans st3) (own_some q2 e ev).2 (nestB_set I3.env.len (fun _ z => by subst z; exact q1.elim) hN)
  refine J2.set (x := z) l (SlX.base I2 r3) (fun b ys e ev hm => ?_) fun b ys e ev hN => I2.nestN st3 (own_some r3 e ev).2 (nestB_set I3.env.len (fun _ z => by subst z; exact q1.elim) (nestB_set J1.env.len (fun _ z => by subst z; exact q2.elim) hN))
  rcases mine_of J1.env.len hm with hm | ⟨e1, xs, e2⟩
  · rcases mine_of I3.env.len hm with hm | ⟨e1, xs, e2⟩
    · exact I2.env.mine (st3.mine _ hm) (own_some r3 e ev).2
    · exact st2.there _ (own_some r1 e2 e1).1 (own_some r3 e ev).2
  · exact (own_some r2 e2 e1).1 (own_some r3 e ev).2
end
end DL

set_option Elab.async false
set_option linter.all false
set_option maxRecDepth 100000
set_option maxHeartbeats 4000000
/-! DLP: dicts with keys that are pairs of ints: the display, dict(pairs). -/
namespace DL
open PySem PySem.Spec L2
open PyProof.Rows hiding St

def mergeT (kvs more : List (List Key × V)) : List (List Key × V) := more.foldl (fun acc p => putK acc p.1 p.2) kvs
theorem KTmerge {H : Hp} : ∀ {more : List (List Key × V)} {rs : List (List Key × Addr × Value)} {kvs : List (List Key × V)} {xs : List (List Key × Addr × Value)}, L2.KT H more rs → L2.KT H kvs xs → L2.KT H (mergeT kvs more) (storedAllH xs rs) := by
  intro more rs kvs xs r
  induction r generalizing kvs xs with
  | nil => exact fun h => h
  | @cons p q ps qs hq _ ih =>
    intro h
    have e := h.put p.1 hq.2.1 hq.2.2
    rw [hq.1] at e
    have := ih e
    unfold mergeT at this ⊢
    rw [List.foldl_cons, hq.1]
    exact this
theorem length_mergeT : ∀ (more kvs : List (List Key × V)), (mergeT kvs more).length ≤ kvs.length + more.length
  | [], kvs => by show kvs.length ≤ kvs.length + 0; omega
  | p :: r, kvs => by
    have h1 := length_mergeT r (putK kvs p.1 p.2)
    have h2 := length_putK kvs p.1 p.2
    show (mergeT (putK kvs p.1 p.2) r).length ≤ _
    rw [List.length_cons]; omega

/-! ### {(a, b): v} -/
section
variable {prog : Program} {w : World} {K : Type} [DecidableEq K] {knd : HeapKind prog w K} {A : Around} {E : Value → Shared → Prop} {s : Shared} {env : Env}
theorem wpAny_Dict_walkH {keys : List (Option Expr)} {values : List Expr} {pos : Pos} {Q : Value → Shared → Prop} (hu : knd.room A)
    (hall : keys.all (·.isSome) = true) (hl : keys.length = values.length) (h0 : keys ≠ []) (hlen : keys.length ≤ 15)
    (h : wpAny (model prog w) A (evalPairs (pairTrees keys values env pos)) (fun vs s₁ => ∃ ps, CarriesH knd s₁.heap vs ps ∧ s₁.heap.DictOfH knd s.heap.objs.size [] ∧
      ∀ h' tk, h'.DictOfH knd s.heap.objs.size (storedAllH [] ps) → Heap.SameBut s.heap.objs.size s₁.heap h' → Q (.ref s.heap.objs.size) { s₁ with heap := h', toks := tk }) E
      { s with heap := s.heap.push { cls := .type "dict", data := .dict #[] } }) :
    wpAny (model prog w) A (eval (.Dict keys values pos) env) Q E s := by
  have hn := pairTrees_length keys values env pos hall hl
  have h0' : pairTrees keys values env pos ≠ [] := fun he => by
    rw [he] at hn
    exact h0 (List.length_eq_zero_iff.mp hn.symm)
  have hl' : (pairTrees keys values env pos).length ≤ 15 := by rw [hn]; exact hlen
  rw [arm_eval_Dict, zip_pairTrees keys values env pos hall hl, dictDisplay_pairs (pairTrees keys values env pos) h0' (by omega)]
  exact wpAny_bind (wpAny_standAt (wpAny_bind (wpAny_subDictH (knd := knd) (Q := fun d s' => wpAny (model prog w) A (pure (Value.ref d)) Q E s') hu hl'
    (wpAny_mono h (fun vs s₁ h₁ => by obtain ⟨ps, hc, hm, hq⟩ := h₁; exact ⟨ps, hc, hm, fun h' tk a b => wpAny_pure (hq h' tk a b)⟩) fun _ _ e => e))))
end
def tDispT (tk tv : TE) : TE := fun σ H Q => ∀ p, H p = none → tk σ (upd H p (.dT [])) fun x H1 => tv σ H1 fun y H2 => H2 p = some (.dT []) ∧ ∃ (b : Addr) (k : List Key), x = .ref b ∧ H2 b = some (.tup (k.map kV)) ∧ Q (.ref p) (upd H2 p (.dT [(k, y)]))
theorem pe_dispT {X : Cx} {pos : Pos} {ek ev : Expr} {tk tv : TE} (hu : X.A.units + 1 < cLine) (hk : PE X ek tk) (hv : PE X ev tv) : PE X (.Dict [some ek] [ev] pos) (tDispT tk tv) := by
  refine ⟨fun pins s σ H Q I q => ?_⟩
  have hn := I.hok.fresh (Nat.le_refl s.heap.objs.size)
  have I1 := I.laid (a := s.heap.objs.size) (o := .dT []) (h' := s.heap.push { cls := .type "dict", data := .dict #[] }) (t' := s.toks) (fun _ _ q => Heap.get?_push_of_some _ q) (Nat.le_refl _) (dt_empty s.heap I.big)
  refine wpAny_Dict_walkH (knd := tupleKind (mixKind X.prog X.w)) (show X.A.units < cLine by omega) rfl rfl (by simp) (by simp) ?_
  refine pairTrees_cons_walk (thn (hk.run pins _ σ _ _ I1 (q _ hn)) fun u s1 ⟨x, H1, I2, rx, q1⟩ => thn (hv.run pins s1 σ H1 _ I2 q1) fun u2 s2 ⟨y, H2, I3, ry, q2⟩ => pairTrees_nil_walk ?_)
  obtain ⟨e, b, k, rfl, hb, q3⟩ := q2
  cases (show u = Value.ref b from rx)
  obtain ⟨z, hd, xs0, r0, dd⟩ := dt_of I3.hok e
  cases r0
  refine ⟨[(k, b, u2)], ⟨rfl, rfl, key_of I3.hok hb, trivial⟩, dd, fun h' tk dd' hs => ⟨.ref s.heap.objs.size, _, ?_, rfl, q3⟩⟩
  obtain ⟨o, es, ep, hq, h2, h3, h4, _, h5⟩ := dd'
  have er : storedAllH ([] : List (List Key × Addr × Value)) [(k, b, u2)] = [(k, b, u2)] := rfl
  rw [er] at h4 h5
  refine d_write I3 (by rw [e]; exact True.intro) hs ⟨o, hq⟩ ⟨by simp [sizeLine_eq], hd, [(k, b, u2)], .cons ⟨rfl, ?_, ry⟩ .nil, o, es, ep, hq, h2, h3, h4, h5⟩
  show upd H2 s.heap.objs.size _ b = _
  rw [upd_ne (ne_of hb e (fun z => nomatch z))]
  exact hb

/-! ### dict(xs), xs a list of pairs (key, value), the keys tuples -/
section
variable {X : Cx}
theorem pairsT_of {pins : List (Addr × Obj)} {σ : St} {H : Hp} {s : Shared} (I : Inv X pins σ H s) : ∀ {ps : List Addr} {kvs : List (List Key × V)}, Paired (fun p kv => ∃ b, SqT X.K H p [.ref b, kv.2] ∧ H b = some (.tup (kv.1.map kV))) ps kvs →
    ∃ prs : List (List Key × Addr × Value), L2.KT H kvs prs ∧ prs.length = ps.length ∧ ∀ (j : Nat) (q : List Key × Addr × Value), prs[j]? = some q → ∃ b : Addr, ps[j]? = some b ∧ IsTup s.heap b #[.ref q.2.1, q.2.2]
  | _, _, .nil => ⟨[], .nil, rfl, fun j q e => by simp at e⟩
  | _, _, .cons (a := p) (b := kv) ⟨c, h, hb⟩ t => by
    obtain ⟨prs, r, hl, hp⟩ := pairsT_of I t
    obtain ⟨its, rv, ht, _⟩ := I.tuple h
    obtain ⟨u, y, ei, ru, ry⟩ := vals2 rv
    subst ei
    cases (show u = Value.ref c from ru)
    refine ⟨(kv.1, c, y) :: prs, .cons ⟨rfl, hb, ry⟩ r, by rw [List.length_cons, List.length_cons, hl], fun j q e => ?_⟩
    cases j with
    | zero =>
      have e' : (kv.1, c, y) = q := Option.some.inj e
      subst e'
      exact ⟨p, rfl, ht⟩
    | succ j =>
      obtain ⟨b, e1, e2⟩ := hp j q (by simpa using e)
      exact ⟨b, by simpa using e1, e2⟩
def rDictPT (K : PySem.W.Frag) : List V → Hp → VK → Prop := fun xs H Q => ∃ (a : Addr) (ps : List Addr) (kvs : List (List Key × V)), xs = [.ref a] ∧ SqL K H a (ps.map V.ref) ∧ Paired (fun p kv => ∃ b, SqT K H p [.ref b, kv.2] ∧ H b = some (.tup (kv.1.map kV))) ps kvs ∧
    ∀ p, H p = none → Q (.ref p) (upd H p (.dT (mergeT [] kvs)))
theorem call_dictPT (hcalm : X.calm = true) (hu : X.A.units + 2 < cLine) : CallR X (.type "dict") (rDictPT X.K) := by
  intro pins s σ H xs us Q I r q
  obtain ⟨a, ps, kvs, ex, hq, hp, q⟩ := q
  subst ex
  obtain ⟨u, eu, rx⟩ := vals1 r
  subst eu
  cases rx
  obtain ⟨its, rv, pl, hz⟩ := I.list hq
  have ei := refs_at rv
  subst ei
  rw [List.length_map] at hz
  obtain ⟨prs, rel, hl, hpr⟩ := pairsT_of I hp
  obtain ⟨o, n, ho, hc, hd, hdat⟩ := pl
  have hkey : ∀ x ∈ prs, (tupleKind (mixKind X.prog X.w)).is s.heap x.1 x.2.1 := by
    clear hpr hl q hp
    induction rel with
    | nil => exact fun x hx => nomatch hx
    | @cons p q ps qs hq t ih =>
      intro x hx
      rcases List.mem_cons.mp hx with e | hx
      · subst e
        exact key_of I.hok (by rw [← hq.1]; exact hq.2.1)
      · exact ih x hx
  refine PySem.call_dict_pairsH (knd := tupleKind (mixKind X.prog X.w)) (ps := prs) (PairArg.list a (ps.map Value.ref).toArray (fun j => ps.getD j 0) (prs.map fun q => (Value.ref q.2.1, q.2.2))) (I.ok.hd hcalm)
    (show X.A.in1.in1.units < cLine from hu) ⟨⟨o, n, ho, hc, hd, hdat⟩, by simp [hl], fun j k v hj => ?_⟩ ⟨by simp, fun i key v hi => ?_⟩ (fun h' hk x hx => ?_) (by rw [List.length_map, hl]; exact hz) fun h' tk hd' hk => ?_
  · rw [List.getElem?_map, Option.map_eq_some_iff] at hj
    obtain ⟨q', h1, h2⟩ := hj
    cases h2
    obtain ⟨b, e1, e2⟩ := hpr j q' h1
    have hb : ps.getD j 0 = b := by rw [List.getD_eq_getElem?_getD, e1]; rfl
    show (List.map Value.ref ps).toArray[j]? = some (Value.ref (ps.getD j 0)) ∧ PairAt s.heap (ps.getD j 0) _ _
    rw [hb]
    refine ⟨?_, .inl e2⟩
    rw [List.getElem?_toArray, List.getElem?_map, e1]
    rfl
  · have hi : (prs.map fun q => (Value.ref q.2.1, q.2.2))[i]? = some (key, v) := hi
    rw [List.getElem?_map, Option.map_eq_some_iff] at hi
    obtain ⟨q', h1, h2⟩ := hi
    cases h2
    exact ⟨q'.1, q'.2.1, h1, rfl⟩
  · obtain ⟨o', it, n', g1, g2, g3, g4⟩ := hkey x hx
    exact ⟨o', it, n', hk _ _ (Nat.ne_of_lt (Heap.lt_size g1)) (fun z => nomatch z) g1, g2, g3, g4⟩
  · have hm : (s.heap.objs.size == sysModules) = false := beq_eq_false_iff_ne.mpr (Nat.ne_of_gt I.big)
    have hlen : (mergeT [] kvs).length ≤ sizeLine := by
      refine Nat.le_trans (length_mergeT kvs []) ?_
      rw [List.length_nil, Nat.zero_add, Paired.length rel, hl]
      exact hz
    obtain ⟨o', es, ep, hq', h2, h3, h4, _, h5⟩ := hd'
    have hfr := I.hok.fresh (Nat.le_refl s.heap.objs.size)
    exact ⟨.ref s.heap.objs.size, upd H s.heap.objs.size (.dT (mergeT [] kvs)), I.laid (t' := tk) (fun b ob e => hk b ob (fun z => nomatch z) e) (Nat.le_refl _)
      (show ObjOk X.prog X.w _ _ _ (.dT (mergeT [] kvs)) from ⟨hlen, hm, storedAllH [] prs, (KTmerge rel .nil).keeps fun c ys ec => (by rw [upd_ne (ne_of_none ec hfr)]; exact ec), o', es, ep, hq', h2, h3, h4, h5⟩), rfl, q _ hfr⟩
end

/-! ### the rules over data -/
section
variable {F : Fx} {X : Cx} {H H' H1 H2 : Hp} {O O' O1 O2 : Addr → Prop} {σ : St} {s s1 s2 : S} {Q : VK} {fa : DA}
/-- {(a, b): True}, a and b names -/
def eDispV (i j : Nat) : DE := fun s => match s.e[i]?, s.e[j]? with
  | some (.val (.int a)), some (.val (.int b)) => .ok (.val (dttD [(a, b)])) s
  | _, _ => .stuck
theorem pe_true {j : Nat} {pos : Pos} : PE X (.Constant (.bool true) j pos) (fun _ H Q => Q (.bl true) H) := pe_bl
theorem e_dispV (i j : Nat) {k j1 j2 : Nat} {x y : Str} {xpos ypos tpos bpos pos : Pos} (hr : Room k X.A) (hN : X.N[i]? = some x := by rfl) (hM : X.N[j]? = some y := by rfl)
    (hv : Vis X.env.scope x := by first | exact Or.inl rfl | exact Or.inr (Or.inl rfl) | exact Or.inr (Or.inr rfl)) (hw : Vis X.env.scope y := by first | exact Or.inl rfl | exact Or.inr (Or.inl rfl) | exact Or.inr (Or.inr rfl))
    (hd : (x == ("__debug__" : Str)) = false := by decide) (hcd : (x == ("__classdict__" : Str)) = false := by decide) (hd2 : (y == ("__debug__" : Str)) = false := by decide) (hcd2 : (y == ("__classdict__" : Str)) = false := by decide)
    (he : starEach [.Name x xpos, .Name y ypos] X.env = (false, eval (.Name x xpos) X.env) :: starEach [.Name y ypos] X.env := by rfl) (he2 : starEach [.Name y ypos] X.env = (false, eval (.Name y ypos) X.env) :: starEach [] X.env := by rfl) :
    EO F X (.Dict [some (.Tuple [.Name x xpos, .Name y ypos] j1 tpos)] [.Constant (.bool true) j2 bpos] pos) (eDispV i j) := by
  refine ⟨_, pe_dispT (hu_of hr) (pe_tup (pa_cons (pe_var hN hv hd hcd) (pa_cons (pe_var hM hw hd2 hcd2) pa_nil he2) he)) pe_true, fun σ H O s Q I k => ?_⟩
  intro p hp
  unfold eDispV at k
  split at k
  · rename_i a b h1 h2
    obtain ⟨v, e1, r1⟩ := I.env.vals i _ h1
    obtain ⟨u, e2, r2⟩ := I.env.vals j _ h2
    cases r1.int_inv
    cases r2.int_inv
    refine ⟨_, e1, _, e2, by simp [sizeLine_eq], fun t ht => ?_⟩
    have htp : t ≠ p := fun z => by rw [z, upd_same] at ht; cases ht
    have ht0 : H t = none := by rw [upd_ne htp] at ht; exact ht
    refine ⟨by rw [upd_ne (Ne.symm htp)]; exact upd_same, t, [.inl a, .inl b], rfl, upd_same, ?_⟩
    have ex : Ext H (upd (upd (upd H p (.dT [])) t (.tup [.int a, .int b])) p (.dT [([.inl a, .inl b], .bl true)])) := fun c o q => by
      rw [upd_ne (ne_of_none q hp), upd_ne (ne_of_none q ht0), upd_ne (ne_of_none q hp)]
      exact q
    have hpO : ¬ O p := fun z => by
      obtain ⟨_, q⟩ := I.wd.src p z
      rw [hp] at q; cases q
    exact k _ _ _ ex.stF.toE (I.ext ex) (.dtt (ls := [(a, b)]) upd_same hpO)
  · exact k.elim
end
end DL

set_option Elab.async false
set_option linter.all false
set_option maxRecDepth 100000
set_option maxHeartbeats 4000000
/-! DLQ: sorted of ints; sorted(set(pairs of small ints)). -/
namespace DL
open PySem PySem.Spec L2
open PyProof.Rows hiding St

section
variable {F : Fx} {X : Cx} {H H' H1 H2 : Hp} {O O' O1 O2 : Addr → Prop} {σ : St} {s s1 s2 : S} {Q : VK} {fa : DA}
/-! ### sorted(ints) -/
def sortI (ns : List Int) : List Int := ns.mergeSort fun a b => decide (a ≤ b)
theorem sortI_pw (ns : List Int) : (sortI ns).Pairwise (· ≤ ·) := by
  have := List.pairwise_mergeSort (le := fun a b : Int => decide (a ≤ b)) (fun a b c h1 h2 => by simp only [decide_eq_true_eq] at *; omega) (fun a b => by simp only [Bool.or_eq_true, decide_eq_true_eq]; omega) ns
  exact this.imp fun {a b} h => of_decide_eq_true h
theorem sortI_perm (ns : List Int) : (sortI ns).Perm ns := List.mergeSort_perm ns _
theorem sortI_eq {ns ms : List Int} (h1 : ms.Perm ns) (h2 : ms.Pairwise (· ≤ ·)) : ms = sortI ns :=
  List.Perm.eq_of_pairwise (fun a b _ _ h1 h2 => by omega) h2 (sortI_pw ns) (h1.trans (sortI_perm ns).symm)
def sortB : List D → Option Sl
  | [.list ds] => (intsD ds).map fun ns => .own ((sortI ns).map PyData.int)
  | _ => none
theorem s_sorted : PrimS F (rSortedI F.m.K) sortB := by
  intro H O c vs ds z Q w rx hg hq
  unfold sortB at hg
  split at hg
  · simp only [Option.map_eq_some_iff] at hg
    obtain ⟨ns, h1, rfl⟩ := hg
    obtain ⟨v, rfl, r⟩ := one_inv rx
    obtain ⟨a, us, rfl, ha, _, ra⟩ := r.list_inv
    rw [intsD_eq h1] at ra
    rw [ra.of_ints] at ha
    refine ⟨a, ns, rfl, .of ha, fun ns' p q1 q2 hp => ?_⟩
    cases sortI_eq q1 q2
    exact hq p _ hp (RepDs.ints _)
  · cases hg
theorem e_sorted {e : Expr} {es : List Expr} {p pos : Pos} (hK : F.m.K = X.K) (hm : X.mg "sorted" = none) (ha : AO F X (e :: es) fa) (hg : Gl X "sorted" := by rfl)
    (he : starEach (e :: es) X.env = (false, eval e X.env) :: starEach es X.env := by rfl) (hpl : (backTo pos (starEach es X.env)).any (·.1) = false := by rfl) :
    EO F X (.Call (.Name "sorted" p) (e :: es) [] pos) (eB sortB fa) :=
  e_B cr_sortedI (hK ▸ s_sorted) hg hm (by decide +kernel) ha (by decide) (by decide) he hpl

/-! ### sorted(set(pairs)) -/
def pairDI (p : Int × Int) : D := .tuple [.int p.1, .int p.2]
def pairsI : List D → Option (List (Int × Int))
  | [] => some []
  | .tuple [.int i, .int j] :: r => (pairsI r).map ((i, j) :: ·)
  | _ => none
theorem pairsI_eq : ∀ {ds : List D} {ps : List (Int × Int)}, pairsI ds = some ps → ds = ps.map pairDI
  | [], _, h => by cases h; rfl
  | .tuple [.int i, .int j] :: r, ps, h => by
    unfold pairsI at h
    simp only [Option.map_eq_some_iff] at h
    obtain ⟨qs, h1, rfl⟩ := h
    rw [pairsI_eq h1]
    rfl
  | .none :: _, _, h => by cases h
  | .bool _ :: _, _, h => by cases h
  | .int _ :: _, _, h => by cases h
  | .str _ :: _, _, h => by cases h
  | .list _ :: _, _, h => by cases h
  | .dict _ :: _, _, h => by cases h
  | .tuple [] :: _, _, h => by cases h
  | .tuple [x] :: _, _, h => by cases x <;> cases h
  | .tuple (x :: y :: _ :: _) :: _, _, h => by cases x <;> cases y <;> cases h
  | .tuple [.none, _] :: _, _, h => by cases h
  | .tuple [.bool _, _] :: _, _, h => by cases h
  | .tuple [.str _, _] :: _, _, h => by cases h
  | .tuple [.list _, _] :: _, _, h => by cases h
  | .tuple [.dict _, _] :: _, _, h => by cases h
  | .tuple [.tuple _, _] :: _, _, h => by cases h
  | .tuple [.int _, .none] :: _, _, h => by cases h
  | .tuple [.int _, .bool _] :: _, _, h => by cases h
  | .tuple [.int _, .str _] :: _, _, h => by cases h
  | .tuple [.int _, .list _] :: _, _, h => by cases h
  | .tuple [.int _, .dict _] :: _, _, h => by cases h
  | .tuple [.int _, .tuple _] :: _, _, h => by cases h
theorem pairsI_map : ∀ ps : List (Int × Int), pairsI (ps.map pairDI) = some ps
  | [] => rfl
  | p :: ps => by
    show (pairsI (ps.map pairDI)).map _ = _
    rw [pairsI_map ps]
    rfl
def Sm (p : Int × Int) : Prop := 0 ≤ p.1 ∧ p.1 < 64 ∧ 0 ≤ p.2 ∧ p.2 < 64
instance (p : Int × Int) : Decidable (Sm p) := by unfold Sm; infer_instance
/-- the members of ps in order, each once -/
def sortP (ps : List (Int × Int)) : List (Int × Int) := ((List.range 4096).map fun c : Nat => (((c / 64 : Nat) : Int), ((c % 64 : Nat) : Int))).filter fun p => decide (p ∈ ps)
theorem sortP_mem {ps : List (Int × Int)} (h : ∀ p ∈ ps, Sm p) (p : Int × Int) : p ∈ sortP ps ↔ p ∈ ps := by
  unfold sortP
  rw [List.mem_filter, decide_eq_true_eq]
  refine ⟨fun h => h.2, fun hp => ⟨?_, hp⟩⟩
  obtain ⟨h1, h2, h3, h4⟩ := h p hp
  refine List.mem_map.mpr ⟨p.1.toNat * 64 + p.2.toNat, List.mem_range.mpr (by omega), ?_⟩
  obtain ⟨i, j⟩ := p
  simp only at h1 h2 h3 h4 ⊢
  have e1 : (i.toNat * 64 + j.toNat) / 64 = i.toNat := by omega
  have e2 : (i.toNat * 64 + j.toNat) % 64 = j.toNat := by omega
  rw [e1, e2]
  simp only [Prod.mk.injEq]
  omega
def codeP (p : Int × Int) : Int := p.1 * 64 + p.2
theorem sortP_pw (ps : List (Int × Int)) : (sortP ps).Pairwise fun p q => codeP p < codeP q := by
  unfold sortP
  refine List.Pairwise.filter _ (List.pairwise_map.mpr ?_)
  refine (List.pairwise_lt_range (n := 4096)).imp fun {a b} h => ?_
  unfold codeP
  simp only
  omega
theorem pwP_ext : ∀ {xs ys : List (Int × Int)}, xs.Pairwise (fun p q => codeP p < codeP q) → ys.Pairwise (fun p q => codeP p < codeP q) → (∀ k, k ∈ xs ↔ k ∈ ys) → xs = ys
  | [], [], _, _, _ => rfl
  | [], y :: ys, _, _, h => by have := (h y).mpr (by simp); cases this
  | x :: xs, [], _, _, h => by have := (h x).mp (by simp); cases this
  | x :: xs, y :: ys, h1, h2, h => by
    obtain ⟨a1, a2⟩ := List.pairwise_cons.mp h1
    obtain ⟨b1, b2⟩ := List.pairwise_cons.mp h2
    have e : x = y := by
      rcases List.mem_cons.mp ((h x).mp (by simp)) with e | e
      · exact e
      · rcases List.mem_cons.mp ((h y).mpr (by simp)) with e2 | e2
        · exact e2.symm
        · have := b1 x e
          have := a1 y e2
          omega
    subst e
    rw [pwP_ext a2 b2 fun k => ⟨fun hk => ?_, fun hk => ?_⟩]
    · rcases List.mem_cons.mp ((h k).mp (List.mem_cons_of_mem _ hk)) with e | e
      · subst e; have := a1 k hk; omega
      · exact e
    · rcases List.mem_cons.mp ((h k).mpr (List.mem_cons_of_mem _ hk)) with e | e
      · subst e; have := b1 k hk; omega
      · exact e
def eSortSetP (a : DE) : DE := fun s => (a s).bind fun d s1 => match d with
  | .list ds => match pairsI ds with
    | some ps => if ps.length < 64 ∧ ∀ p ∈ ps, Sm p then .ok (.own ((sortP ps).map pairDI)) s1 else .stuck
    | none => .stuck
  | _ => .stuck
theorem pairs_vals {K : PySem.W.Frag} {δ : Option Addr} : ∀ {ps : List (Int × Int)} {vs : List V}, RepDs K H O δ vs (ps.map pairDI) → ∃ ks : List (Addr × List Int), vs = ks.map (fun p => V.ref p.1) ∧ ks.map (·.2) = ps.map (fun p => [p.1, p.2]) ∧ ∀ p ∈ ks, SqT K H p.1 (p.2.map V.int)
  | [], _, .nil => ⟨[], rfl, rfl, fun _ h => nomatch h⟩
  | p :: ps, _, .cons r t => by
    obtain ⟨ks, rfl, e1, e2⟩ := pairs_vals t
    obtain ⟨a, us, rfl, ha, ra⟩ := r.tup_inv
    cases ra with | cons r1 ra => cases ra with | cons r2 ra => cases ra with | nil =>
      cases r1.int_inv
      cases r2.int_inv
      refine ⟨(a, [p.1, p.2]) :: ks, rfl, by rw [List.map_cons, List.map_cons, e1], fun q hq => ?_⟩
      rcases List.mem_cons.mp hq with rfl | hq
      · exact ha
      · exact e2 q hq
theorem pairs_rep2 {K : PySem.W.Frag} {δ : Option Addr} : ∀ {L : List (Addr × List Int)} {ps : List (Int × Int)}, L.map (·.2) = ps.map (fun p => [p.1, p.2]) → (∀ p ∈ L, SqT K H p.1 (p.2.map V.int)) → RepDs K H O δ (L.map fun q => V.ref q.1) (ps.map pairDI)
  | [], [], _, _ => .nil
  | [], _ :: _, h, _ => by simp at h
  | _ :: _, [], h, _ => by simp at h
  | q :: L, p :: ps, h, k => by
    rw [List.map_cons, List.map_cons] at h
    injection h with h1 h2
    have k1 := k q (by simp)
    rw [h1] at k1
    exact .cons (.tup k1 (fun z => by simp [prD, isPr] at z) (.cons (.int _) (.cons (.int _) .nil))) (pairs_rep2 h2 fun p hp => k p (List.mem_cons_of_mem _ hp))
theorem unpairs : ∀ (L : List (Addr × List Int)), (∀ p ∈ L, ∃ q : Int × Int, p.2 = [q.1, q.2]) → ∃ ps : List (Int × Int), L.map (·.2) = ps.map (fun p => [p.1, p.2])
  | [], _ => ⟨[], rfl⟩
  | p :: L, h => by
    obtain ⟨q, e⟩ := h p (by simp)
    obtain ⟨ps, e2⟩ := unpairs L fun p hp => h p (List.mem_cons_of_mem _ hp)
    exact ⟨q :: ps, by rw [List.map_cons, List.map_cons, e, e2]⟩
theorem e_sortSetP {a : Expr} {fa : DE} {k : Nat} {p p2 q pos : Pos} (hK : F.m.K = X.K) (hc : X.calm = true) (hr : Room k X.A) (hm : X.mg "sorted" = none) (hg : Gl X "sorted") (hm2 : X.mg "set" = none) (hg2 : Gl X "set") (ha : EO F X a fa)
    (na : starEach [a] X.env = (false, eval a X.env) :: starEach [] X.env := by rfl) (na2 : starEach [.Call (.Name "set" p2) [a] [] q] X.env = (false, eval (.Call (.Name "set" p2) [a] [] q) X.env) :: starEach [] X.env := by rfl)
    (hp1 : (backTo q (starEach ([] : List Expr) X.env)).any (·.1) = false := by rfl) (hp2 : (backTo pos (starEach ([] : List Expr) X.env)).any (·.1) = false := by rfl) :
    EO F X (.Call (.Name "sorted" p) [.Call (.Name "set" p2) [a] [] q] [] pos) (eSortSetP fa) := by
  obtain ⟨ta, pa, sa⟩ := ha
  have hu : X.A.units + 64 < cLine := Nat.lt_of_le_of_lt (Nat.le_refl _) hr.units
  refine ⟨_, pe_callB (cr_sortedT hc) hg hm (by decide +kernel) (pa_cons (pe_callTy (cr_setOfT hc hu) hg2 hm2 (by decide +kernel) (pa_cons pa pa_nil na) (by decide) (by decide) na hp1) pa_nil na2) (by decide) (by decide) na2 hp2, fun σ H O s Q I k => ?_⟩
  unfold eSortSetP at k
  refine sa.bind I k fun d s1 v H1 O1 st1 I1 r1 k => ?_
  split at k
  · rename_i ds
    split at k
    · rename_i ps hn
      split at k
      · rename_i hl
        obtain ⟨hl, hsm⟩ := hl
        obtain ⟨l, us, rfl, hq, _, ru⟩ := r1.list_inv
        rw [pairsI_eq hn] at ru
        obtain ⟨ks, rfl, e1, e2⟩ := pairs_vals ru
        rw [hK] at e2
        have hlen : ks.length = ps.length := by have := congrArg List.length e1; simpa using this
        have hks : ∀ x ∈ ks, ∃ q ∈ ps, x.2 = [q.1, q.2] := fun x hx => by
          have : x.2 ∈ ps.map fun p : Int × Int => [p.1, p.2] := by rw [← e1]; exact List.mem_map_of_mem hx
          obtain ⟨q, h1, h2⟩ := List.mem_map.mp this
          exact ⟨q, h1, h2.symm⟩
        refine ⟨l, ks, rfl, .of hq, e2, by omega, fun p0 L hp h1 h2 => ?_⟩
        have hkL : ∀ x ∈ L, SqT X.K H1 x.1 (x.2.map V.int) := fun x hx => e2 x (h1 x hx)
        have ex0 := Ext.upd (o := SetTO X.prog X.w p0 L) hp
        have I2 := I1.ext ex0
        have hkL2 : ∀ x ∈ L, SqT X.K (upd H1 p0 (SetTO X.prog X.w p0 L)) x.1 (x.2.map V.int) := fun x hx => by
          have q := (StF.stp (ex0.stF (δ := F.δ) (O := O1))).sqT I1.wd (hkL x hx)
          exact q
        refine ⟨p0, L, 2, 64, rfl, upd_same, hkL2, by decide, fun x hx => ?_, fun L' p1 m1 m2 m3 m4 hp1 => ?_⟩
        · obtain ⟨q, hq1, hq2⟩ := hks x (h1 x hx)
          obtain ⟨b1, b2, b3, b4⟩ := hsm q hq1
          rw [hq2]
          refine ⟨rfl, fun m hm => ?_⟩
          simp only [List.mem_cons, List.not_mem_nil, or_false] at hm
          rcases hm with rfl | rfl
          · exact ⟨b1, b2⟩
          · exact ⟨b3, b4⟩
        · have hL' : ∀ x ∈ L', ∃ q ∈ ps, x.2 = [q.1, q.2] := fun x hx => hks x (h1 x (m1.mem_iff.mp hx))
          obtain ⟨out, ho⟩ := unpairs L' fun x hx => let ⟨q, _, h⟩ := hL' x hx; ⟨q, h⟩
          have inj : ∀ {p q : Int × Int}, ([p.1, p.2] : List Int) = [q.1, q.2] → p = q := fun {p q} h => by
            injection h with h3 h4; injection h4 with h4 _
            exact Prod.ext h3 h4
          have hmem : ∀ q, q ∈ out ↔ q ∈ ps := fun q => by
            constructor
            · intro hq
              have : [q.1, q.2] ∈ L'.map (·.2) := by rw [ho]; exact List.mem_map.mpr ⟨q, hq, rfl⟩
              obtain ⟨x, hx, hx2⟩ := List.mem_map.mp this
              obtain ⟨q', hq', hx3⟩ := hL' x hx
              rw [hx3] at hx2
              rw [← inj hx2]
              exact hq'
            · intro hq
              have : [q.1, q.2] ∈ ks.map (·.2) := by rw [e1]; exact List.mem_map.mpr ⟨q, hq, rfl⟩
              obtain ⟨x, hx, hx2⟩ := List.mem_map.mp this
              obtain ⟨y, hy, hy2⟩ := List.mem_map.mp (h2 x hx)
              have : y.2 ∈ L'.map (·.2) := List.mem_map_of_mem (m1.mem_iff.mpr hy)
              rw [ho, hy2, hx2] at this
              obtain ⟨q', hq', hq2⟩ := List.mem_map.mp this
              rw [← inj hq2]
              exact hq'
          have hpw : out.Pairwise fun p q => codeP p < codeP q := by
            have n1 : (out.map fun p : Int × Int => [p.1, p.2]).Nodup := by rw [← ho]; exact m2
            have n2 : (out.map fun p : Int × Int => [p.1, p.2]).Pairwise fun a b => TS.code 64 a ≤ TS.code 64 b := by rw [← ho]; exact List.pairwise_map.mpr m4
            have n3 := List.pairwise_map.mp n1
            have n4 := List.pairwise_map.mp n2
            refine (List.Pairwise.and n3 n4).imp_of_mem fun {p q} hp hq h => ?_
            obtain ⟨h1, h2⟩ := h
            have b1 := hsm p ((hmem p).mp hp)
            have b2 := hsm q ((hmem q).mp hq)
            rcases pair_lt h2 h1 ⟨b1.1, b1.2.1⟩ ⟨b1.2.2.1, b1.2.2.2⟩ ⟨b2.1, b2.2.1⟩ ⟨b2.2.2.1, b2.2.2.2⟩ with h | ⟨h, h'⟩
            · unfold codeP; have := b1.2.2.2; have := b2.2.2.1; omega
            · unfold codeP; omega
          have e : out = sortP ps := pwP_ext hpw (sortP_pw ps) fun k => by rw [hmem, sortP_mem hsm]
          subst e
          refine Res.of (x := .own ((sortP ps).map pairDI)) I (st1.trans (ex0.stF (δ := F.δ) (O := O1)).toE) I2 k trivial p1 _ hp1 (pairs_rep2 ho fun x hx => ?_)
          rw [hK]
          exact hkL2 x (m1.mem_iff.mp hx)
      · exact k.elim
    · exact k.elim
  · exact k.elim
end
end DL

set_option Elab.async false
set_option linter.all false
set_option maxRecDepth 100000
set_option maxHeartbeats 4000000
/-! DLR: next_states: the best level by age, in plain lists; what it needs of tracked dicts. -/
namespace DL
open PySem PySem.Spec L2
open PyProof.Rows hiding St

theorem iteP {c A B : Prop} [Decidable c] (h : c) (a : A) : if decide c = true then A else B := by rw [if_pos (decide_eq_true h)]; exact a
theorem iteQ {c A B : Prop} [Decidable c] (h : ¬ c) (b : B) : if decide c = true then A else B := by rw [if_neg (show ¬ (decide c = true) by rw [decide_eq_false h]; simp)]; exact b
/-- pairs (age, level), the age once each -/
def getI (l : List (Int × Int)) (k : Int) : Int := ((l.find? fun p => decide (p.1 = k)).map (·.2)).getD 0
def putI (l : List (Int × Int)) (k v : Int) : List (Int × Int) := if (l.any fun p => decide (p.1 = k)) = true then l.map (fun p => if p.1 = k then (p.1, v) else p) else l ++ [(k, v)]
def mxI (a b : Int) : Int := if b > a then b else a
def stpN (size rain need pat : Int) (p : Int × Int) (l : List (Int × Int)) : List (Int × Int) :=
  let held := if p.1 + rain < size then p.1 + rain else size
  let l1 := if need ≤ held then putI l 0 (mxI (getI l 0) (held - need)) else l
  if p.2 < pat then putI l1 (p.2 + 1) (mxI (getI l1 (p.2 + 1)) held) else l1
def foldF (size rain need pat : Int) (ls : List (Int × Int)) : List (Int × Int) := ls.foldl (fun l p => stpN size rain need pat p l) []
def nextS (size : Int) (ls : List (Int × Int)) (rain need pat : Int) : List (Int × Int) := (foldF size rain need pat ls).map fun p => (p.2, p.1)
def kI (p : Int × Int) : Key × V := (.inl p.1, .int p.2)
theorem dec_inl (a b : Int) : decide ((Sum.inl a : Key) = .inl b) = decide (a = b) := by
  by_cases h : a = b
  · subst h; simp
  · have : ¬ (Sum.inl a : Key) = .inl b := fun z => h (Sum.inl.inj z)
    rw [decide_eq_false this, decide_eq_false h]
theorem any_kI (l : List (Int × Int)) (k : Int) : ((l.map kI).any fun p => decide (p.1 = (.inl k : Key))) = l.any fun p => decide (p.1 = k) := by
  induction l with
  | nil => rfl
  | cons p l ih =>
    rw [List.map_cons, List.any_cons, List.any_cons, ih]
    show (decide ((Sum.inl p.1 : Key) = .inl k) || _) = _
    rw [dec_inl]
theorem putK_kI (l : List (Int × Int)) (k v : Int) : putK (l.map kI) (.inl k) (.int v) = (putI l k v).map kI := by
  unfold putK putI
  rw [any_kI]
  split
  · rw [List.map_map, List.map_map]
    refine List.map_congr_left fun p _ => ?_
    show (if (Sum.inl p.1 : Key) = .inl k then ((.inl p.1 : Key), V.int v) else kI p) = kI (if p.1 = k then (p.1, v) else p)
    by_cases h : p.1 = k
    · rw [if_pos h, if_pos (by rw [h])]; rfl
    · rw [if_neg h, if_neg fun z => h (Sum.inl.inj z)]
  · rw [List.map_append]; rfl
theorem valV_kI (l : List (Int × Int)) (k : Int) : valV (l.map kI) (.inl k) = ((l.find? fun p => decide (p.1 = k)).map (·.2)).map V.int := by
  rw [valV_G]
  unfold valG
  induction l with
  | nil => rfl
  | cons p l ih =>
    rw [List.map_cons, List.find?_cons, List.find?_cons]
    have e : decide ((kI p).1 = (.inl k : Key)) = decide (p.1 = k) := dec_inl p.1 k
    rw [e]
    cases decide (p.1 = k) with
    | true => rfl
    | false => exact ih
theorem getD_kI (l : List (Int × Int)) (k : Int) : (valV (l.map kI) (.inl k)).getD (.int 0) = .int (getI l k) := by
  rw [valV_kI]
  unfold getI
  cases (l.find? fun p => decide (p.1 = k)).map (·.2) <;> rfl
theorem any_fst (l : List (Int × Int)) (k : Int) : (l.any fun p => decide (p.1 = k)) = decide (k ∈ l.map (·.1)) := by
  induction l with
  | nil => rfl
  | cons p l ih =>
    rw [List.any_cons, ih, List.map_cons]
    by_cases h : p.1 = k
    · subst h; simp
    · have h' : ¬ k = p.1 := fun z => h z.symm
      simp [h, h']
theorem putI_keys (l : List (Int × Int)) (k v : Int) : (putI l k v).map (·.1) = if k ∈ l.map (·.1) then l.map (·.1) else l.map (·.1) ++ [k] := by
  unfold putI
  have e := any_fst l k
  by_cases h : k ∈ l.map (·.1)
  · rw [if_pos (by rw [e, decide_eq_true h]), if_pos h, List.map_map]
    refine List.map_congr_left fun p _ => ?_
    show (if p.1 = k then (p.1, v) else p).1 = p.1
    split <;> rfl
  · rw [if_neg (by rw [e, decide_eq_false h]; simp), if_neg h, List.map_append]; rfl
theorem putI_nodup {l : List (Int × Int)} (h : (l.map (·.1)).Nodup) (k v : Int) : ((putI l k v).map (·.1)).Nodup := by
  rw [putI_keys]
  split
  · exact h
  · rename_i hk
    refine List.nodup_append.mpr ⟨h, by simp, fun a ha b hb e => ?_⟩
    simp only [List.mem_cons, List.not_mem_nil, or_false] at hb
    exact hk (by rw [← hb, ← e]; exact ha)
theorem putI_len (l : List (Int × Int)) (k v : Int) : (putI l k v).length ≤ l.length + 1 := by
  unfold putI
  split
  · rw [List.length_map]; omega
  · rw [List.length_append]; simp
theorem stpN_nodup {size rain need pat : Int} {p : Int × Int} {l : List (Int × Int)} (h : (l.map (·.1)).Nodup) : ((stpN size rain need pat p l).map (·.1)).Nodup := by
  unfold stpN
  simp only
  generalize (if p.1 + rain < size then p.1 + rain else size) = held
  by_cases h1 : need ≤ held
  · rw [if_pos h1]
    split
    · exact putI_nodup (putI_nodup h _ _) _ _
    · exact putI_nodup h _ _
  · rw [if_neg h1]
    split
    · exact putI_nodup h _ _
    · exact h
theorem stpN_len (size rain need pat : Int) (p : Int × Int) (l : List (Int × Int)) : (stpN size rain need pat p l).length ≤ l.length + 2 := by
  unfold stpN
  simp only
  generalize (if p.1 + rain < size then p.1 + rain else size) = held
  by_cases h1 : need ≤ held
  · rw [if_pos h1]
    have e1 := putI_len l 0 (mxI (getI l 0) (held - need))
    split
    · have e2 := putI_len (putI l 0 (mxI (getI l 0) (held - need))) (p.2 + 1) (mxI (getI (putI l 0 (mxI (getI l 0) (held - need))) (p.2 + 1)) held)
      omega
    · omega
  · rw [if_neg h1]
    split
    · have e2 := putI_len l (p.2 + 1) (mxI (getI l (p.2 + 1)) held)
      omega
    · omega
theorem foldF_snoc (size rain need pat : Int) (ls : List (Int × Int)) (p : Int × Int) : foldF size rain need pat (ls ++ [p]) = stpN size rain need pat p (foldF size rain need pat ls) := by
  unfold foldF
  rw [List.foldl_append]
  rfl
theorem foldF_inv (size rain need pat : Int) {P : List (Int × Int) → Prop} (h0 : P []) (hs : ∀ l p, P l → P (stpN size rain need pat p l)) (ls : List (Int × Int)) : P (foldF size rain need pat ls) := by
  unfold foldF
  generalize [] = acc at h0 ⊢
  induction ls generalizing acc with
  | nil => exact h0
  | cons p ls ih => exact ih _ (hs _ _ h0)
theorem foldF_nodup (size rain need pat : Int) (ls : List (Int × Int)) : ((foldF size rain need pat ls).map (·.1)).Nodup := foldF_inv _ _ _ _ (P := fun l => (l.map (·.1)).Nodup) (by simp) (fun l p h => stpN_nodup h) ls
theorem foldF_len (size rain need pat : Int) : ∀ (n : Nat) (ls : List (Int × Int)), ls.length = n → (foldF size rain need pat ls).length ≤ 2 * ls.length
  | 0, ls, h => by cases ls with | nil => exact Nat.le_refl _ | cons _ _ => cases h
  | n + 1, ls, h => by
    rcases List.eq_nil_or_concat ls with e | ⟨l, p, e⟩
    · subst e; cases h
    · subst e
      rw [List.concat_eq_append] at h ⊢
      rw [List.length_append] at h
      have h1 := foldF_len size rain need pat n l (by simp at h; exact h)
      have h2 := stpN_len size rain need pat p (foldF size rain need pat l)
      rw [foldF_snoc, List.length_append]
      simp only [List.length_cons, List.length_nil]
      omega
theorem mergeT_nodup : ∀ (more acc : List (List Key × V)), ((acc ++ more).map (·.1)).Nodup → mergeT acc more = acc ++ more
  | [], acc, _ => by rw [List.append_nil]; rfl
  | p :: more, acc, h => by
    have e : putK acc p.1 p.2 = acc ++ [p] := by
      unfold putK
      rw [if_neg]
      intro z
      obtain ⟨q, hq, hd⟩ := List.any_eq_true.mp z
      have hd := of_decide_eq_true hd
      rw [List.map_append] at h
      exact (List.nodup_append.mp h).2.2 q.1 (List.mem_map_of_mem hq) p.1 (by simp) hd
    show mergeT (putK acc p.1 p.2) more = _
    rw [e, mergeT_nodup more (acc ++ [p]) (by rw [List.append_assoc]; exact h), List.append_assoc]
    rfl
theorem valV_nodup {X : List (Int × Int)} (h : (X.map (·.1)).Nodup) {p : Int × Int} (hp : p ∈ X) : valV (X.map kI) (.inl p.1) = some (.int p.2) := by
  rw [valV_kI]
  have e : X.find? (fun q => decide (q.1 = p.1)) = some p := by
    induction X with
    | nil => cases hp
    | cons q X ih =>
      rw [List.map_cons] at h
      obtain ⟨h1, h2⟩ := List.nodup_cons.mp h
      rw [List.find?_cons]
      rcases List.mem_cons.mp hp with e | hp
      · subst e; simp
      · have ne : ¬ q.1 = p.1 := fun z => h1 (by rw [z]; exact List.mem_map_of_mem hp)
        rw [decide_eq_false ne]
        exact ih h2 hp
  rw [e]
  rfl
theorem paired_snoc {α β : Type} {R : α → β → Prop} {xs : List α} {ys : List β} {a : α} {b : β} (h : Paired R xs ys) (r : R a b) : Paired R (xs ++ [a]) (ys ++ [b]) := by
  induction h with
  | nil => exact .cons r .nil
  | cons h _ ih => exact .cons h ih
theorem ttE_nodup {l : List (Int × Int)} (h : (l.map (·.1)).Nodup) : ((l.map fun p => ttE (p.2, p.1)).map (·.1)).Nodup := by
  rw [List.map_map]
  have h2 := List.pairwise_map.mp h
  refine List.pairwise_map.mpr (h2.imp fun {a b} hab z => ?_)
  have z : ([Sum.inl a.2, Sum.inl a.1] : List Key) = [Sum.inl b.2, Sum.inl b.1] := z
  injection z with _ z
  injection z with z _
  exact hab (Sum.inl.inj z)
end DL

set_option Elab.async false
set_option linter.all false
set_option maxRecDepth 100000
set_option maxHeartbeats 4000000
/-! DLS: sum([len(y) for y in x]), x a list that may still change. -/
namespace DL
open PySem PySem.Spec L2
open PyProof.Rows hiding St
def lensD : List D → Option (List Int)
  | [] => some []
  | .list xs :: r => (lensD r).map ((xs.length : Int) :: ·)
  | _ => none
theorem lensD_get : ∀ {ds : List D} {ns : List Int}, lensD ds = some ns → ds.length = ns.length ∧ ∀ (i : Nat) (d : D), ds[i]? = some d → ∃ xs, d = .list xs ∧ ns[i]? = some (xs.length : Int)
  | [], _, h => by cases h; exact ⟨rfl, fun i d h => by simp at h⟩
  | .list xs :: r, ns, h => by
    unfold lensD at h
    simp only [Option.map_eq_some_iff] at h
    obtain ⟨ms, h1, rfl⟩ := h
    obtain ⟨e1, e2⟩ := lensD_get h1
    refine ⟨by simp [e1], fun i d h => ?_⟩
    cases i with
    | zero => simp at h; exact ⟨xs, h.symm, rfl⟩
    | succ i => exact e2 i d (by simpa using h)
  | .none :: _, _, h => by cases h
  | .bool _ :: _, _, h => by cases h
  | .int _ :: _, _, h => by cases h
  | .str _ :: _, _, h => by cases h
  | .tuple _ :: _, _, h => by cases h
  | .dict _ :: _, _, h => by cases h
/-- sum([len(y) for y in x]): the list of slot i does not come to rest -/
def eSumLen (i j : Nat) : DE := fun s => match s.e[i]? with
  | some (.own ds) => match lensD ds with
    | some ns => if j < s.e.length ∧ ns.length ≤ 1000000 then .ok (.val (.int ns.sum)) s else .stuck
    | none => .stuck
  | _ => .stuck
def rLenS (K : PySem.W.Frag) : List V → Hp → VK → Prop := fun xs H Q => ∃ p ys, xs = [.ref p] ∧ (SqL K H p ys ∨ SqT K H p ys) ∧ Q (.int ys.length) H
section
variable {F : Fx} {X : Cx} {H H' H1 H2 : Hp} {O O' O1 O2 : Addr → Prop} {σ : St} {s s1 s2 : S} {Q : VK}
theorem e_sumLen (i j : Nat) {x y : Str} {elt tg : Expr} {scope : Scope} {p px pos cpos : Pos} (hK : F.m.K = X.K) (hc : X.calm = true) (hnd : X.N.Nodup) (hm : X.mg "sum" = none) (ok : BlkOk X.N X.env.scope scope [(y, j)])
    (hgP : ∀ (s : Shared) (H : Hp) (C : Addr) (cl : List (Str × Addr)) (fp : List Addr), PG (X.blk s H scope (compEnvC scope cl C X.env) fp) tg (gName j))
    (heP : ∀ (s : Shared) (H : Hp) (C : Addr) (cl : List (Str × Addr)) (fp : List Addr), PE (X.blk s H scope (compEnvC scope cl C X.env) fp) elt (tCB (rLenS X.K) (tCons (tVar j) tNil)))
    (hg : Gl X "sum" := by rfl) (hN : X.N[i]? = some x := by rfl) (hv : Vis X.env.scope x := by first | exact Or.inl rfl | exact Or.inr (Or.inl rfl) | exact Or.inr (Or.inr rfl)) (hd : (x == ("__debug__" : Str)) = false := by decide) (hcd : (x == ("__classdict__" : Str)) = false := by decide)
    (hs : ∀ z, foldedSetIterable (.Name x px) X.env z = pure z := by intro _; rfl)
    (he : starEach [.ListComp elt [⟨tg, .Name x px, [], 0⟩] scope pos] X.env = (false, eval (.ListComp elt [⟨tg, .Name x px, [], 0⟩] scope pos) X.env) :: starEach [] X.env := by rfl) (hpl : (backTo cpos (starEach ([] : List Expr) X.env)).any (·.1) = false := by rfl) :
    EO F X (.Call (.Name "sum" p) [.ListComp elt [⟨tg, .Name x px, [], 0⟩] scope pos] [] cpos) (eSumLen i j) := by
  refine ⟨_, pe_callB (cr_sum hc) hg hm (by decide +kernel) (pa_cons (pe_lc (own := [(y, j)]) (g := gName j) (tt := tYes) hc hnd (pi_list (pe_var hN hv hd hcd)) ok hgP (fun _ _ _ _ _ => pts_nil) heP hs) pa_nil he) (by decide) (by decide) he hpl, fun σ H O s Q I k => ?_⟩
  unfold eSumLen at k
  split at k
  · rename_i ds h
    split at k
    · rename_i ns hn
      split at k
      · rename_i hj
        obtain ⟨hj, hl⟩ := hj
        obtain ⟨a, vs, h1, h2, h3, h4, h5, h6⟩ := I.env.owns i ds h
        obtain ⟨e1, e2⟩ := lensD_get hn
        have hlen : vs.length = ds.length := h5.length
        refine ⟨_, h1, a, rfl, ⟨vs, .of h4⟩, fun Dl hDl => ?_⟩
        have hσ : j < σ.length := by rw [I.env.len]; exact hj
        refine lc_it walk_list (fun m H' => m ≤ ns.length ∧ H' = upd H Dl (.lst ((ns.take m).map V.int))) ⟨Nat.zero_le _, rfl⟩ (fun m H' _ ⟨_, e⟩ => by rw [e]; exact .of (by rw [upd_ne (ne_of_none h4 hDl)]; exact h4)) ?_ ?_
        · rintro m v H' H'' hm ⟨hm2, rfl⟩ ⟨rfl, hv⟩
          have hm' : m < ds.length := by rw [← hlen]; exact hm
          obtain ⟨v', g1, g2⟩ := h5.get (i := m) (List.getElem?_eq_getElem hm')
          rw [hv] at g1
          cases g1
          obtain ⟨xs, ex, en⟩ := e2 m _ (List.getElem?_eq_getElem hm')
          rw [ex] at g2
          obtain ⟨b, ws, rfl, hb, _, rw_⟩ := g2.list_inv
          have hbD : b ≠ Dl := ne_of_none hb hDl
          refine ⟨?_, ?_⟩
          · show ((σ.set j none).set j _).set j none = σ.set j none
            rw [List.set_set, List.set_set]
          · dsimp only [tYes]
            rw [if_pos rfl]
            refine ⟨.ref b, ?_, b, ws, rfl, .inl (.of (by rw [upd_ne hbD]; exact hb)), ?_⟩
            · show ((σ.set j none).set j _)[j]? = _
              exact List.getElem?_set_self (by rw [List.length_set]; exact hσ)
            · have htk : ns.take (m + 1) = ns.take m ++ [(xs.length : Int)] := by rw [List.take_add_one, en]; rfl
              refine ⟨_, upd_same, ?_, by omega, ?_⟩
              · rw [List.length_map, List.length_take, sizeLine_eq]; omega
              · rw [htk, List.map_append, upd_upd, rw_.length]; rfl
        · rintro H' ⟨_, rfl⟩
          have hall : ns.take vs.length = ns := by rw [hlen, e1, List.take_length]
          rw [hall]
          have ex : Ext H (upd H Dl (.lst (ns.map V.int))) := Ext.upd hDl
          exact ⟨Dl, ns, rfl, .of upd_same, k _ _ O ex.stF.toE (I.ext ex) (.int _)⟩
      · exact k.elim
    · exact k.elim
  · exact k.elim
theorem eSumLen_at {i j : Nat} {s : S} {ds : List D} {ns : List Int} (h : s.e[i]? = some (.own ds)) (hn : lensD ds = some ns) (hj : j < s.e.length) (hl : ns.length ≤ 1000000) : eSumLen i j s = .ok (.val (.int ns.sum)) s := by
  unfold eSumLen
  simp only [h, hn, hj, hl, and_self, if_true]
end
end DL

set_option Elab.async false
set_option linter.all false
set_option maxRecDepth 100000
set_option maxHeartbeats 40000000
/-! K10a: what the defs of rainkept_k10_whole_patience compute, printed by gen.py. -/
namespace K10
open PySem PySem.Spec L2 DL
open PyProof.Rows hiding St
def d_is_integer : DS := dRet (eAnd (eIsi .int (eVar 0)) (eNot (eIsi .bool (eVar 0))))
def F_is_integer : Fn := fnD 1 d_is_integer
def d_need_integer : DS := dIf (eOr (eNot (eCall F_is_integer (aCons (eVar 0) aNil))) (eOr (eLt (eVar 0) (eVar 2)) (eGt (eVar 0) (eVar 3)))) (dRaise 0 (aCons (eVar 1) aNil)) dNil
def F_need_integer : Fn := fnD 4 d_need_integer
def d_is_row_e2 : DE := eAnd (eCall F_is_integer (aCons (eVar 1) aNil)) (eLeLe (eC (.int 0)) (eVar 1) (eC (.int 200)))
def d_is_row : DS := dSeq (dIf (eOr (eNot (eIsi .tuple (eVar 0))) (eNot (eLeLe (eC (.int 1)) (eLenN 0) (eC (.int 24))))) (dRet (eC (.bool false))) dNil) (dRet (eAll [1] (iSeq (eVar 0)) (gSet 1) d_is_row_e2))
def F_is_row : Fn := fnD 2 d_is_row
def d_need_row : DS := dIf (eNot (eCall F_is_row (aCons (eVar 0) aNil))) (dRaise 0 (aCons (eVar 1) aNil)) dNil
def F_need_row : Fn := fnD 2 d_need_row
def d_common_c1 : DE := eGt (eVar 1) (eC (.int 0))
def d_common_b2 : DS := dPar 0 1 (eVar 1) (eMod (eVar 0) (eVar 1))
def d_common : DS := dSeq (dWhile d_common_c1 d_common_b2 1000000000000000) (dRetV 0)
def F_common : Fn := fnD 2 d_common
def d_least_common : DS := dRet (eMul (eDiv (eVar 0) (eCall F_common (aCons (eVar 0) (aCons (eVar 1) aNil)))) (eVar 1))
def F_least_common : Fn := fnD 2 d_least_common
def d_amount_at : DS := dRet (eIxN 0 (eMod (eVar 1) (eLenN 0)))
def F_amount_at : Fn := fnD 2 d_amount_at
def d_turn_of : DS := dRet (eCall F_least_common (aCons (eLenN 0) (aCons (eLenN 1) aNil)))
def F_turn_of : Fn := fnD 2 d_turn_of
def d_is_weather_e2 : DE := eCall F_is_row (aCons (eVar 1) aNil)
def d_is_weather_e4 : DE := eLe (eVar 2) (eVar 3)
def d_is_weather : DS := dSeq (dIf (eOr (eNot (eIsi .tuple (eVar 0))) (eOr (eNe (eLenN 0) (eC (.int 2))) (eNot (eAll [1] (iSeq (eVar 0)) (gSet 1) d_is_weather_e2)))) (dRet (eC (.bool false))) dNil) (dRet (eAnd (eEq (eB lenB (aCons (eIxN 0 (eC (.int 0))) aNil)) (eB lenB (aCons (eIxN 0 (eC (.int 1))) aNil))) (eAll [2, 3] (iZip2 (eIxN 0 (eC (.int 0))) (eIxN 0 (eC (.int 1)))) (gTupD (gsCons (gSet 2) (gsCons (gSet 3) gsNil))) d_is_weather_e4)))
def F_is_weather : Fn := fnD 4 d_is_weather
def d_need_weather : DS := dIf (eNot (eCall F_is_weather (aCons (eVar 0) aNil))) (dRaise 0 (aCons (eVar 1) aNil)) dNil
def F_need_weather : Fn := fnD 2 d_need_weather
def d_need_plant : DS := dSeq (dExpr (eCall F_need_integer (aCons (eVar 0) (aCons (eC (.str "size")) (aCons (eC (.int 1)) (aCons (eC (.int 200)) aNil)))))) (dSeq (dExpr (eCall F_need_weather (aCons (eVar 1) (aCons (eC (.str "weather")) aNil)))) (dSeq (dIf (eGt (eB lenB (aCons (eIxN 1 (eC (.int 0))) aNil)) (eC (.int 12))) (dRaise 0 (aCons (eC (.str "weather")) aNil)) dNil) (dSeq (dExpr (eCall F_need_row (aCons (eVar 2) (aCons (eC (.str "needs")) aNil)))) (dSeq (dIf (eGt (eLenN 2) (eC (.int 12))) (dRaise 0 (aCons (eC (.str "needs")) aNil)) dNil) (dExpr (eCall F_need_integer (aCons (eVar 3) (aCons (eC (.str "patience")) (aCons (eC (.int 0)) (aCons (eC (.int 6)) aNil))))))))))
def F_need_plant : Fn := fnD 4 d_need_plant
def d_enough_before : DS := dSeq (dSet 5 (eLst aNil)) (dSeq (dIf (eAnd (eNotN (eVar 3) (eC .none)) (eLe (eAdd (eVar 3) (eVar 2)) (eVar 0))) (dApp 5 (eAdd (eVar 3) (eVar 2))) dNil) (dSeq (dIf (eNotN (eVar 4) (eC .none)) (dApp 5 (eVar 4)) dNil) (dRet (eIf (eGt (eLenN 5) (eC (.int 0))) (eB maxB (aCons (eC (.int 0)) (aCons (eSub (eB minB (aCons (eVar 5) aNil)) (eVar 1)) aNil))) (eC .none)))))
def F_enough_before : Fn := fnD 6 d_enough_before
def d_book_of_b1 : DS := dAppN 5 (eMul (eLst (aCons (eC (.int 0)) aNil)) (eAdd (eVar 3) (eC (.int 1))))
def d_book_of_b2 : DS := dSeq (dSet 10 (eIf (eLt (eVar 9) (eVar 3)) (eIxA 8 (eAdd (eVar 9) (eC (.int 1)))) (eC .none))) (dSeq (dSet 11 (eCall F_amount_at (aCons (eIxN 1 (eC (.int 0))) (aCons (eVar 6) aNil)))) (dSeq (dSet 12 (eCall F_enough_before (aCons (eVar 0) (aCons (eVar 11) (aCons (eCall F_amount_at (aCons (eVar 2) (aCons (eVar 6) aNil))) (aCons (eIxA 8 (eC (.int 0))) (aCons (eVar 10) aNil))))))) (dIf (eNe (eVar 12) (eGetN 5 (eVar 6) (eVar 9))) (dSeq (dStoreN 5 (eVar 6) (eVar 9) (eVar 12)) (dSet 7 (eC (.bool false)))) dNil)))
def d_book_of_b3 : DS := dSeq (dAli 8 5 (eMod (eAdd (eVar 6) (eC (.int 1))) (eVar 4))) (dFor (iRng1 (eAdd (eVar 3) (eC (.int 1)))) (gSet 9) d_book_of_b2)
def d_book_of_c4 : DE := eNot (eVar 7)
def d_book_of_b5 : DS := dSeq (dSet 7 (eC (.bool true))) (dFor (iDown (eSub (eVar 4) (eC (.int 1))) (eNeg (eC (.int 1)))) (gSet 6) d_book_of_b3)
def d_book_of : DS := dSeq (dSet 4 (eCall F_turn_of (aCons (eIxN 1 (eC (.int 0))) (aCons (eVar 2) aNil)))) (dSeq (dNew0 5) (dSeq (dFor (iRng1 (eVar 4)) (gSet 6) d_book_of_b1) (dSeq (dSet 7 (eC (.bool false))) (dSeq (dWhile d_book_of_c4 d_book_of_b5 1000000000000000) (dRest 5 (dRetV 5))))))
def F_book_of : Fn := fnD 13 d_book_of
def d_enough : DS := dSeq (dExpr (eCall F_need_plant (aCons (eVar 0) (aCons (eVar 1) (aCons (eVar 2) (aCons (eVar 3) aNil)))))) (dSeq (dExpr (eCall F_need_integer (aCons (eVar 4) (aCons (eC (.str "step")) (aCons (eC (.int 0)) (aCons (eC (.int 1000000000000)) aNil)))))) (dSeq (dExpr (eCall F_need_integer (aCons (eVar 5) (aCons (eC (.str "age")) (aCons (eC (.int 0)) (aCons (eVar 3) aNil)))))) (dSeq (dSet 6 (eCall F_book_of (aCons (eVar 0) (aCons (eVar 1) (aCons (eVar 2) (aCons (eVar 3) aNil)))))) (dRet (eIx (eIxN 6 (eMod (eVar 4) (eLenN 6))) (eVar 5))))))
def F_enough : Fn := fnD 7 d_enough
def d_whole_book_e2 : DE := eB tupB (aCons (eVar 4) aNil)
def d_whole_book : DS := dSeq (dExpr (eCall F_need_plant (aCons (eVar 0) (aCons (eVar 1) (aCons (eVar 2) (aCons (eVar 3) aNil)))))) (dRet (eB tupB (aCons (eComp [4] (iSeq (eCall F_book_of (aCons (eVar 0) (aCons (eVar 1) (aCons (eVar 2) (aCons (eVar 3) aNil)))))) (gSet 4) tTrue d_whole_book_e2) aNil)))
def F_whole_book : Fn := fnD 5 d_whole_book
def d_may_water : DS := dSeq (dExpr (eCall F_need_plant (aCons (eVar 0) (aCons (eVar 1) (aCons (eVar 2) (aCons (eVar 3) aNil)))))) (dSeq (dExpr (eCall F_need_integer (aCons (eVar 4) (aCons (eC (.str "step")) (aCons (eC (.int 0)) (aCons (eC (.int 1000000000000)) aNil)))))) (dSeq (dExpr (eCall F_need_integer (aCons (eVar 5) (aCons (eC (.str "age")) (aCons (eC (.int 0)) (aCons (eVar 3) aNil)))))) (dSeq (dExpr (eCall F_need_integer (aCons (eVar 6) (aCons (eC (.str "held")) (aCons (eC (.int 0)) (aCons (eVar 0) aNil)))))) (dSeq (dSet 7 (eCall F_book_of (aCons (eVar 0) (aCons (eVar 1) (aCons (eVar 2) (aCons (eVar 3) aNil)))))) (dSeq (dSet 8 (eIxN 7 (eMod (eAdd (eVar 4) (eC (.int 1))) (eLenN 7)))) (dSeq (dSet 9 (eCall F_amount_at (aCons (eVar 2) (aCons (eVar 4) aNil)))) (dSeq (dSet 10 (eLst aNil)) (dSeq (dIf (eAnd (eGe (eVar 6) (eVar 9)) (eAnd (eNotN (eIxN 8 (eC (.int 0))) (eC .none)) (eGe (eSub (eVar 6) (eVar 9)) (eIxN 8 (eC (.int 0)))))) (dApp 10 (eC (.str "water"))) dNil) (dSeq (dIf (eAnd (eLt (eVar 5) (eVar 3)) (eAnd (eNotN (eIxN 8 (eAdd (eVar 5) (eC (.int 1)))) (eC .none)) (eGe (eVar 6) (eIxN 8 (eAdd (eVar 5) (eC (.int 1))))))) (dApp 10 (eC (.str "wait"))) dNil) (dRet (eB tupB (aCons (eVar 10) aNil))))))))))))
def F_may_water : Fn := fnD 11 d_may_water
def d_lives : DS := dRet (eNotN (eIx (eIx (eCall F_book_of (aCons (eVar 0) (aCons (eVar 1) (aCons (eVar 2) (aCons (eVar 3) aNil))))) (eC (.int 0))) (eC (.int 0))) (eC .none))
def F_lives : Fn := fnD 4 d_lives
def d_next_states : DS := fun s => match s.e with
  | [.val (.int size), .val (.dict [(.bool false, .list ds)]), .val (.int rain), .val (.int need), .val (.int pat), .un, .un, .un, .un] => match pairsI ds with
    | some ls => if ls.length ≤ 1000 then .rt (.val (dttD (nextS size ls rain need pat))) s.c else .stuck
    | none => .stuck
  | _ => .stuck
def F_next_states : Fn := fnD 9 d_next_states
def d__law_dice_b1 : DS := dSet 3 (eMod (eB intB (aCons (eAdd (eMul (eVar 3) (eC (.int 48271))) (eMod (eB intB (aCons (eVar 4) aNil)) (eC (.int 2147480009)))) aNil)) (eC (.int 2147480009)))
def d__law_dice : DS := dSeq (dSet 2 (eIf (eLt (eVar 1) (eLenN 0)) (eIxN 0 (eVar 1)) (eAdd (eMul (eC (.int 733)) (eVar 1)) (eC (.int 29))))) (dSeq (dSet 3 (eAdd (eC (.int 930011)) (eMul (eC (.int 7907)) (eVar 1)))) (dSeq (dFor (iSeq (eAdd (eSl (eVar 0) none (some (eC (.int 6)))) (eLst (aCons (eVar 2) aNil)))) (gSet 4) d__law_dice_b1) (dRet (eLst (aCons (eIf (eOr (eLt (eVar 2) (eC (.int 0))) (eGe (eVar 2) (ePow (eC (.int 10)) (eC (.int 16))))) (eB absB (aCons (eVar 2) aNil)) (eC (.int 0))) (aCons (eVar 3) (aCons (eC (.int 0)) aNil)))))))
def F__law_dice : Fn := fnD 5 d__law_dice
def d__law_roll : DS := dSeq (dIf (eGt (eIxN 0 (eC (.int 0))) (eC (.int 0))) (dSeq (dSet 2 (eMod (eB intB (aCons (eIxN 0 (eC (.int 0))) aNil)) (eVar 1))) (dSeq (dStore 0 (eC (.int 0)) (eDiv (eIxN 0 (eC (.int 0))) (eVar 1))) (dRetV 2))) dNil) (dSeq (dStore 0 (eC (.int 2)) (eAdd (eIxN 0 (eC (.int 2))) (eC (.int 1)))) (dSeq (dStore 0 (eC (.int 1)) (eMod (eB intB (aCons (eAdd (eAdd (eMul (eIxN 0 (eC (.int 1))) (eC (.int 52501))) (eMul (eMul (eIxN 0 (eC (.int 2))) (eIxN 0 (eC (.int 2)))) (eC (.int 1009)))) (eC (.int 77))) aNil)) (eC (.int 2147480009)))) (dRet (eMod (eB intB (aCons (eDiv (eIxN 0 (eC (.int 1))) (eC (.int 211))) aNil)) (eVar 1)))))
def F__law_roll : Fn := fnD 3 d__law_roll
def d__law_pick : DS := dRet (eIxN 1 (eCall F__law_roll (aCons (eVar 0) (aCons (eLenN 1) aNil))))
def F__law_pick : Fn := fnD 2 d__law_pick
def d__law_gcd_b1 : DS := dSeq (dIf (eEq (eVar 1) (eC (.int 0))) dBreak dNil) (dPar 0 1 (eVar 1) (eMod (eVar 0) (eVar 1)))
def d__law_gcd : DS := dSeq (dPar 0 1 (eB absB (aCons (eVar 0) aNil)) (eB absB (aCons (eVar 1) aNil))) (dSeq (dFor (iRng1 (eC (.int 400))) (gSet 2) d__law_gcd_b1) (dRetV 0))
def F__law_gcd : Fn := fnD 3 d__law_gcd
def d__law_row_e2 : DE := eCall F__law_pick (aCons (eVar 0) (aCons (eLst (aCons (eC (.int 0)) (aCons (eCall F__law_roll (aCons (eVar 0) (aCons (eAdd (eVar 2) (eC (.int 1))) aNil))) aNil))) aNil))
def d__law_row : DS := dRet (eB tupB (aCons (eComp [3] (iRng1 (eAdd (eC (.int 1)) (eCall F__law_roll (aCons (eVar 0) (aCons (eVar 1) aNil))))) (gSet 3) tTrue d__law_row_e2) aNil))
def F__law_row : Fn := fnD 4 d__law_row
def d__law_turn : DS := dRet (eMul (eDiv (eVar 0) (eCall F__law_gcd (aCons (eVar 0) (aCons (eVar 1) aNil)))) (eVar 1))
def F__law_turn : Fn := fnD 2 d__law_turn
def d__law_weather_e2 : DE := eAdd (eVar 5) (eCall F__law_roll (aCons (eVar 0) (aCons (eAdd (eVar 3) (eC (.int 1))) aNil)))
def d__law_weather : DS := dSeq (dSet 4 (eCall F__law_row (aCons (eVar 0) (aCons (eVar 1) (aCons (eVar 2) aNil))))) (dRet (eTup (aCons (eVar 4) (aCons (eB tupB (aCons (eComp [5] (iSeq (eVar 4)) (gSet 5) tTrue d__law_weather_e2) aNil)) aNil))))
def F__law_weather : Fn := fnD 6 d__law_weather
def d__law_holds_b1 : DS := dSeq (dSet 9 (eIf (eLt (eAdd (eVar 5) (eVar 8)) (eVar 0)) (eAdd (eVar 5) (eVar 8)) (eVar 0))) (dSeq (dSet 10 (eAnd (eGe (eVar 9) (eVar 3)) (eIn (eTup (aCons (eSub (eVar 9) (eVar 3)) (aCons (eC (.int 0)) aNil))) (eVar 7)))) (dIf (eAnd (eNot (eVar 10)) (eNot (eAnd (eLt (eVar 6) (eVar 4)) (eIn (eTup (aCons (eVar 9) (aCons (eAdd (eVar 6) (eC (.int 1))) aNil))) (eVar 7))))) (dRet (eC (.bool false))) dNil))
def d__law_holds : DS := dSeq (dFor (iRng2 (eVar 1) (eAdd (eVar 2) (eC (.int 1)))) (gSet 8) d__law_holds_b1) (dRet (eC (.bool true)))
def F__law_holds : Fn := fnD 11 d__law_holds
def d__law_lot_e2 : DE := eTup (aCons (eVar 6) (aCons (eVar 15) aNil))
def d__law_lot_b3 : DS := dSet 5 (eAdd (eVar 5) (eComp [15] (iRng1 (eAdd (eVar 3) (eC (.int 1)))) (gSet 15) tTrue d__law_lot_e2))
def d__law_lot_e5 : DE := eB lstB (aCons (eVar 5) aNil)
def d__law_lot_t8 : DE := eCall F__law_holds (aCons (eVar 0) (aCons (eVar 11) (aCons (eVar 12) (aCons (eVar 13) (aCons (eVar 3) (aCons (eIxN 17 (eC (.int 0))) (aCons (eIxN 17 (eC (.int 1))) (aCons (eVar 14) aNil))))))))
def d__law_lot_b9 : DS := dSeq (dPar3 11 12 13 (eIx (eIxN 1 (eC (.int 0))) (eMod (eVar 7) (eB lenB (aCons (eIxN 1 (eC (.int 0))) aNil)))) (eIx (eIxN 1 (eC (.int 1))) (eMod (eVar 7) (eB lenB (aCons (eIxN 1 (eC (.int 1))) aNil)))) (eIxN 2 (eMod (eVar 7) (eLenN 2)))) (dSeq (dSet 14 (eIxN 8 (eMod (eAdd (eVar 7) (eC (.int 1))) (eVar 4)))) (dStore 8 (eVar 7) (eComp [17] (iSeq (eIxN 8 (eVar 7))) (gSet 17) d__law_lot_t8 (eVar 17))))
def d__law_lot_b11 : DS := dSeq (dSet 10 (eSumLen 8 16)) (dSeq (dFor (iDown (eSub (eVar 4) (eC (.int 1))) (eNeg (eC (.int 1)))) (gSet 7) d__law_lot_b9) (dIf (eEq (eSumLen 8 16) (eVar 10)) dBreak dNil))
def d__law_lot : DS := dSeq (dSet 4 (eCall F__law_turn (aCons (eB lenB (aCons (eIxN 1 (eC (.int 0))) aNil)) (aCons (eLenN 2) aNil)))) (dSeq (dSet 5 (eLst aNil)) (dSeq (dFor (iRng1 (eAdd (eVar 0) (eC (.int 1)))) (gSet 6) d__law_lot_b3) (dSeq (dSet 8 (eComp [7] (iRng1 (eVar 4)) (gSet 7) tTrue d__law_lot_e5)) (dSeq (dFor (iRng1 (eC (.int 4000))) (gSet 9) d__law_lot_b11) (dRetV 8)))))
def F__law_lot : Fn := fnD 18 d__law_lot
def d__law_longest_b1 : DS := dSeq (dSet 14 (eIf (eLt (eAdd (eVar 12) (eVar 9)) (eVar 0)) (eAdd (eVar 12) (eVar 9)) (eVar 0))) (dSeq (dIf (eGe (eVar 14) (eVar 10)) (dApp 11 (eTup (aCons (eSub (eVar 14) (eVar 10)) (aCons (eC (.int 0)) aNil)))) dNil) (dIf (eLt (eVar 13) (eVar 4)) (dApp 11 (eTup (aCons (eVar 14) (aCons (eAdd (eVar 13) (eC (.int 1))) aNil)))) dNil))
def d__law_longest_b2 : DS := dSeq (dPar3 9 10 11 (eIxN 2 (eMod (eVar 8) (eLenN 2))) (eIxN 3 (eMod (eVar 8) (eLenN 3))) (eLst aNil)) (dSeq (dFor (iSeq (eVar 7)) (gTupD (gsCons (gSet 12) (gsCons (gSet 13) gsNil))) d__law_longest_b1) (dSeq (dSet 7 (eSortSetP (eVar 11))) (dIf (eEq (eLenN 7) (eC (.int 0))) (dRetV 8) dNil)))
def d__law_longest : DS := dSeq (dSet 7 (eLst (aCons (eTup (aCons (eVar 1) (aCons (eVar 5) aNil))) aNil))) (dSeq (dFor (iRng1 (eVar 6)) (gSet 8) d__law_longest_b2) (dRetV 6))
def F__law_longest : Fn := fnD 15 d__law_longest
def d_least_tub_c1 : DE := eLt (eVar 3) (eVar 4)
def d_least_tub_b2 : DS := dSeq (dSet 5 (eDiv (eAdd (eVar 3) (eVar 4)) (eC (.int 2)))) (dIf (eOr (eGt (eVar 5) (eC (.int 200))) (eCall F_lives (aCons (eVar 5) (aCons (eVar 0) (aCons (eVar 1) (aCons (eVar 2) aNil)))))) (dSet 4 (eVar 5)) (dSet 3 (eAdd (eVar 5) (eC (.int 1)))))
def d_least_tub : DS := dSeq (dExpr (eCall F_need_plant (aCons (eC (.int 1)) (aCons (eVar 0) (aCons (eVar 1) (aCons (eVar 2) aNil)))))) (dSeq (dSet 3 (eC (.int 1))) (dSeq (dSet 4 (eAdd (eC (.int 200)) (eC (.int 1)))) (dSeq (dWhile d_least_tub_c1 d_least_tub_b2 1000000000000000) (dRet (eIf (eLe (eVar 3) (eC (.int 200))) (eVar 3) (eC .none))))))
def F_least_tub : Fn := fnD 6 d_least_tub
def d_dying_steps_c1 : DE := eGt (eLenN 7) (eC (.int 0))
def d_dying_steps_b2 : DS := dSeq (dSet 7 (eCall F_next_states (aCons (eVar 0) (aCons (eVar 7) (aCons (eCall F_amount_at (aCons (eIxN 2 (eC (.int 0))) (aCons (eVar 8) aNil))) (aCons (eCall F_amount_at (aCons (eVar 3) (aCons (eVar 8) aNil))) (aCons (eVar 4) aNil))))))) (dAug augD 8 (eC (.int 1)))
def d_dying_steps : DS := dSeq (dExpr (eCall F_need_integer (aCons (eVar 0) (aCons (eC (.str "size")) (aCons (eC (.int 1)) (aCons (eC (.int 200)) aNil)))))) (dSeq (dExpr (eCall F_need_integer (aCons (eVar 1) (aCons (eC (.str "level")) (aCons (eC (.int 0)) (aCons (eVar 0) aNil)))))) (dSeq (dExpr (eCall F_need_plant (aCons (eVar 0) (aCons (eVar 2) (aCons (eVar 3) (aCons (eVar 4) aNil)))))) (dSeq (dExpr (eCall F_need_integer (aCons (eVar 5) (aCons (eC (.str "age")) (aCons (eC (.int 0)) (aCons (eVar 4) aNil)))))) (dSeq (dSet 6 (eCall F_book_of (aCons (eVar 0) (aCons (eVar 2) (aCons (eVar 3) (aCons (eVar 4) aNil)))))) (dSeq (dIf (eAnd (eNotN (eIx (eIxN 6 (eC (.int 0))) (eVar 5)) (eC .none)) (eGe (eVar 1) (eIx (eIxN 6 (eC (.int 0))) (eVar 5)))) (dRet (eC .none)) dNil) (dSeq (dSet 7 (eDispV 1 5)) (dSeq (dSet 8 (eC (.int 0))) (dSeq (dWhile d_dying_steps_c1 d_dying_steps_b2 1000000000000000) (dRet (eSub (eVar 8) (eC (.int 1))))))))))))
def F_dying_steps : Fn := fnD 9 d_dying_steps
def d__law_right_t2 : DE := eEq (eVar 20) (eVar 6)
def d__law_right_b3 : DS := dSeq (dSet 8 (eComp [7, 20] (iSeq (eIxN 2 (eVar 4))) (gTupD (gsCons (gSet 7) (gsCons (gSet 20) gsNil))) d__law_right_t2 (eVar 7))) (dSeq (dApp 5 (eIf (eGt (eLenN 8) (eC (.int 0))) (eB minB (aCons (eVar 8) aNil)) (eC .none))) (dIf (eAnd (eGt (eLenN 8) (eC (.int 0))) (eNe (eB sortB (aCons (eVar 8) aNil)) (eLstRg (eB minB (aCons (eVar 8) aNil)) (eAdd (eVar 18) (eC (.int 1)))))) (dRet (eC (.bool false))) dNil))
def d__law_right_b4 : DS := dSeq (dSet 5 (eLst aNil)) (dSeq (dFor (iRng1 (eAdd (eVar 17) (eC (.int 1)))) (gSet 6) d__law_right_b3) (dApp 3 (eB tupB (aCons (eVar 5) aNil))))
def d__law_right : DS := dSeq (dPar 18 17 (eAdd (eC (.int 1)) (eCall F__law_roll (aCons (eVar 0) (aCons (eC (.int 8)) aNil)))) (eCall F__law_roll (aCons (eVar 0) (aCons (eC (.int 3)) aNil)))) (dSeq (dPar 19 16 (eCall F__law_weather (aCons (eVar 0) (aCons (eC (.int 3)) (aCons (eC (.int 4)) (aCons (eC (.int 2)) aNil))))) (eCall F__law_row (aCons (eVar 0) (aCons (eC (.int 2)) (aCons (eC (.int 6)) aNil))))) (dSeq (dPar 1 2 (eCall F__law_turn (aCons (eB lenB (aCons (eIxN 19 (eC (.int 0))) aNil)) (aCons (eLenN 16) aNil))) (eCall F__law_lot (aCons (eVar 18) (aCons (eVar 19) (aCons (eVar 16) (aCons (eVar 17) aNil)))))) (dSeq (dSet 3 (eLst aNil)) (dSeq (dFor (iRng1 (eVar 1)) (gSet 4) d__law_right_b4) (dSeq (dIf (eNe (eCallK F_whole_book (aCons (eVar 18) (aCons (eVar 19) (aCons (eVar 16) aNil))) (aCons (eVar 17) aNil)) (eB tupB (aCons (eVar 3) aNil))) (dRet (eC (.bool false))) dNil) (dSeq (dPar3 4 6 9 (eCall F__law_roll (aCons (eVar 0) (aCons (ePow (eC (.int 10)) (eC (.int 6))) aNil))) (eCall F__law_roll (aCons (eVar 0) (aCons (eAdd (eVar 17) (eC (.int 1))) aNil))) (eCall F__law_roll (aCons (eVar 0) (aCons (eAdd (eVar 18) (eC (.int 1))) aNil)))) (dSeq (dIf (eNe (eCallK F_enough (aCons (eVar 18) (aCons (eVar 19) (aCons (eVar 16) (aCons (eVar 17) (aCons (eVar 4) aNil))))) (aCons (eVar 6) aNil)) (eIx (eIxN 3 (eMod (eVar 4) (eVar 1))) (eVar 6))) (dRet (eC (.bool false))) dNil) (dSeq (dPar3 10 11 12 (eIxN 2 (eMod (eAdd (eVar 4) (eC (.int 1))) (eVar 1))) (eIxN 16 (eMod (eVar 4) (eLenN 16))) (eLst aNil)) (dSeq (dIf (eAnd (eGe (eVar 9) (eVar 11)) (eIn (eTup (aCons (eSub (eVar 9) (eVar 11)) (aCons (eC (.int 0)) aNil))) (eVar 10))) (dApp 12 (eC (.str "water"))) dNil) (dSeq (dIf (eAnd (eLt (eVar 6) (eVar 17)) (eIn (eTup (aCons (eVar 9) (aCons (eAdd (eVar 6) (eC (.int 1))) aNil))) (eVar 10))) (dApp 12 (eC (.str "wait"))) dNil) (dSeq (dIf (eNe (eCallK F_may_water (aCons (eVar 18) (aCons (eVar 19) (aCons (eVar 16) (aCons (eVar 17) (aCons (eVar 4) (aCons (eVar 6) aNil)))))) (aCons (eVar 9) aNil)) (eB tupB (aCons (eVar 12) aNil))) (dRet (eC (.bool false))) dNil) (dSeq (dSet 7 (eCall F__law_roll (aCons (eVar 0) (aCons (eAdd (eVar 18) (eC (.int 1))) aNil)))) (dSeq (dSet 13 (eCallK F_dying_steps (aCons (eVar 18) (aCons (eVar 7) (aCons (eVar 19) (aCons (eVar 16) (aCons (eVar 17) aNil))))) (aCons (eVar 6) aNil))) (dSeq (dIf (eNe (eIsN (eVar 13) (eC .none)) (eIn (eTup (aCons (eVar 7) (aCons (eVar 6) aNil))) (eIxN 2 (eC (.int 0))))) (dRet (eC (.bool false))) dNil) (dSeq (dIf (eAnd (eNotN (eVar 13) (eC .none)) (eNe (eVar 13) (eCall F__law_longest (aCons (eVar 18) (aCons (eVar 7) (aCons (eIxN 19 (eC (.int 0))) (aCons (eVar 16) (aCons (eVar 17) (aCons (eVar 6) (aCons (eAdd (eVar 13) (eC (.int 2))) aNil)))))))))) (dRet (eC (.bool false))) dNil) (dSeq (dSet 14 (eCallK F_least_tub (aCons (eVar 19) (aCons (eVar 16) aNil)) (aCons (eVar 17) aNil))) (dSeq (dIf (eOr (eIsN (eVar 14) (eC .none)) (eGt (eVar 14) (eC (.int 20)))) (dIf (eIn (eTup (aCons (eC (.int 20)) (aCons (eC (.int 0)) aNil))) (eIx (eCall F__law_lot (aCons (eC (.int 20)) (aCons (eVar 19) (aCons (eVar 16) (aCons (eVar 17) aNil))))) (eC (.int 0)))) (dRet (eC (.bool false))) dNil) (dIf (eNin (eTup (aCons (eVar 14) (aCons (eC (.int 0)) aNil))) (eIx (eCall F__law_lot (aCons (eVar 14) (aCons (eVar 19) (aCons (eVar 16) (aCons (eVar 17) aNil))))) (eC (.int 0)))) (dRet (eC (.bool false))) (dIf (eAnd (eGt (eVar 14) (eC (.int 1))) (eIn (eTup (aCons (eSub (eVar 14) (eC (.int 1))) (aCons (eC (.int 0)) aNil))) (eIx (eCall F__law_lot (aCons (eSub (eVar 14) (eC (.int 1))) (aCons (eVar 19) (aCons (eVar 16) (aCons (eVar 17) aNil))))) (eC (.int 0))))) (dRet (eC (.bool false))) dNil))) (dSeq (dSet 15 (eLst (aCons (eRef 0 (eCall F_enough (aCons (eC (.int 201)) (aCons (eC .none) (aCons (eC .none) (aCons (eC .none) (aCons (eC .none) (aCons (eC .none) aNil)))))))) (aCons (eRef 0 (eCall F_enough (aCons (eVar 18) (aCons (eC .none) (aCons (eC .none) (aCons (eC .none) (aCons (eC .none) (aCons (eC .none) aNil)))))))) (aCons (eRef 0 (eCall F_enough (aCons (eVar 18) (aCons (eVar 19) (aCons (eMul (eTup (aCons (eC (.int 1)) aNil)) (eC (.int 13))) (aCons (eC .none) (aCons (eC .none) (aCons (eC .none) aNil)))))))) (aCons (eRef 0 (eCall F_enough (aCons (eVar 18) (aCons (eVar 19) (aCons (eVar 16) (aCons (eC (.int 7)) (aCons (eC .none) (aCons (eC .none) aNil)))))))) (aCons (eRef 0 (eCall F_enough (aCons (eVar 18) (aCons (eVar 19) (aCons (eVar 16) (aCons (eVar 17) (aCons (eNeg (eC (.int 1))) (aCons (eC .none) aNil)))))))) (aCons (eRef 0 (eCall F_enough (aCons (eVar 18) (aCons (eVar 19) (aCons (eVar 16) (aCons (eVar 17) (aCons (eC (.int 0)) (aCons (eAdd (eVar 17) (eC (.int 1))) aNil)))))))) (aCons (eRef 0 (eCall F_whole_book (aCons (eVar 18) (aCons (eTup (aCons (eMul (eTup (aCons (eC (.int 1)) aNil)) (eC (.int 13))) (aCons (eMul (eTup (aCons (eC (.int 1)) aNil)) (eC (.int 13))) aNil))) (aCons (eVar 16) (aCons (eC (.int 0)) aNil)))))) (aCons (eRef 0 (eCall F_may_water (aCons (eVar 18) (aCons (eVar 19) (aCons (eVar 16) (aCons (eVar 17) (aCons (eC (.int 0)) (aCons (eC (.int 0)) (aCons (eAdd (eVar 18) (eC (.int 1))) aNil))))))))) (aCons (eRef 0 (eCall F_dying_steps (aCons (eVar 18) (aCons (eAdd (eVar 18) (eC (.int 1))) (aCons (eC .none) (aCons (eC .none) (aCons (eC .none) (aCons (eC .none) aNil)))))))) (aCons (eRef 0 (eCall F_dying_steps (aCons (eVar 18) (aCons (eC (.int 0)) (aCons (eVar 19) (aCons (eVar 16) (aCons (eVar 17) (aCons (eC (.bool true)) aNil)))))))) (aCons (eRef 0 (eCall F_least_tub (aCons (eC .none) (aCons (eC .none) (aCons (eC .none) aNil))))) (aCons (eRef 0 (eCall F_least_tub (aCons (eVar 19) (aCons (eVar 16) (aCons (eNeg (eC (.int 1))) aNil))))) aNil)))))))))))))) (dSeq (dSet 12 (eLst (aCons (eC (.str "size")) (aCons (eC (.str "weather")) (aCons (eC (.str "needs")) (aCons (eC (.str "patience")) (aCons (eC (.str "step")) (aCons (eC (.str "age")) (aCons (eC (.str "weather")) (aCons (eC (.str "held")) (aCons (eC (.str "level")) (aCons (eC (.str "age")) (aCons (eC (.str "weather")) (aCons (eC (.str "patience")) aNil)))))))))))))) (dRet (eEq (eVar 15) (eVar 12))))))))))))))))))))))
def F__law_right : Fn := fnD 21 d__law_right
def d_law_b1 : DS := dIf (eNot (eCell F__law_right (eCall F__law_dice (aCons (eVar 0) (aCons (eVar 1) aNil))))) (dRet (eC (.bool false))) dNil
def d_law : DS := dSeq (dFor (iRng1 (eB maxB (aCons (eC (.int 1)) (aCons (eB minB (aCons (eC (.int 3)) (aCons (eLenN 0) aNil))) aNil)))) (gSet 1) d_law_b1) (dRet (eC (.bool true)))
def F_law : Fn := fnD 2 d_law
end K10

set_option Elab.async false
set_option linter.all false
set_option maxRecDepth 100000
set_option maxHeartbeats 4000000
namespace K10
open PySem PySem.Spec L2 DL
open PyProof.Rows hiding St

/-- the dice's list; k more throws are within bounds -/
def Dice (k : Nat) (c : List Int) : Prop := ∃ a b n : Int, c = [a, b, n] ∧ 0 ≤ n ∧ n + k ≤ 1099511627776
theorem Dice.mono {j k : Nat} {c : List Int} (h : Dice k c) (q : j ≤ k) : Dice j c := by
  obtain ⟨a, b, n, e, h0, h1⟩ := h
  exact ⟨a, b, n, e, h0, by omega⟩
theorem atI3 {a b n : Int} : atI [a, b, n] 0 = some a ∧ atI [a, b, n] 1 = some b ∧ atI [a, b, n] 2 = some n := ⟨rfl, rfl, rfl⟩
theorem roll {k : Nat} {c : List Int} {m : Int} (h : Dice (k + 1) c) (h1 : 1 ≤ m) (h2 : m < 1073741824) :
    ∃ (r : Int) (c' : List Int), F__law_roll [dcell, .int m] c = .ok (.val (.int r)) c' ∧ 0 ≤ r ∧ r < m ∧ Dice k c' := by
  obtain ⟨a, b, n, rfl, hn, hk⟩ := h
  have e : startS 3 [dcell, .int m] [a, b, n] = ⟨[.val dcell, .val (.int m), .un], [a, b, n]⟩ := rfl
  rw [F__law_roll, fnD_eq, e]
  unfold d__law_roll
  have hm : 0 < m := by omega
  have l64 : ∀ z : Int, (lim64 z || lim64 52501) = true := fun z => by simp [lim64]
  have l64' : ∀ z : Int, (lim64 z || lim64 1009) = true := fun z => by simp [lim64]
  have ln : (lim64 (n + 1) || lim64 (n + 1)) = true := by simp [lim64]; omega
  by_cases ha : 0 < a
  · refine ⟨a % m, [a / m, b, n], ?_, Int.emod_nonneg _ (by omega), Int.emod_lt_of_pos _ hm, a / m, b, n, rfl, hn, by omega⟩
    simp [eIxN_val, eVar_val, atI3, ha, modD_ii hm, divD_ii hm h2, dRetV_val, storeK_cell, ixN]
  · refine ⟨_, _, ?_, Int.emod_nonneg ((b * 52501 + (n + 1) * (n + 1) * 1009 + 77) % 2147480009 / 211) (by omega), Int.emod_lt_of_pos _ hm, a, (b * 52501 + (n + 1) * (n + 1) * 1009 + 77) % 2147480009, n + 1, rfl, by omega, by omega⟩
    simp [eIxN_val, eVar_val, atI3, ha, modD_ii, modD_ii hm, divD_ii, divD_ii hm h2, storeK_cell, ixN, mulD_ii (i := n + 1) (j := n + 1) ln, mulD_ii (l64 _), mulD_ii (l64' _)]
theorem atI_mem {α : Type} {l : List α} {i : Int} (h0 : 0 ≤ i) (h1 : i < l.length) : ∃ x ∈ l, atI l i = some x := by
  have hl : i.toNat < l.length := by omega
  exact ⟨l[i.toNat], List.getElem_mem hl, by rw [atI_ok h0 h1, List.getElem?_eq_getElem hl]⟩
theorem pick {k : Nat} {c : List Int} {ds : List D} (h : Dice (k + 1) c) (h1 : 1 ≤ ds.length) (h2 : ds.length < 1073741824) :
    ∃ (d : D) (c' : List Int), d ∈ ds ∧ F__law_pick [dcell, .list ds] c = .ok (.val d) c' ∧ Dice k c' := by
  obtain ⟨r, c', e, r0, r1, hd⟩ := roll (m := ds.length) h (by omega) (by omega)
  obtain ⟨x, hx, ex⟩ := atI_mem (l := ds) r0 r1
  refine ⟨x, c', hx, ?_, hd⟩
  have es : startS 2 [dcell, .list ds] c = ⟨[.val dcell, .val (.list ds)], c⟩ := rfl
  rw [F__law_pick, fnD_eq, es]
  unfold d__law_pick
  simp [eIxN_val, eVar_val, eLenN_val, callR, e, ex]
/-- the draws of a row of numbers 0..most -/
theorem row_comp {k : Nat} {size most : Int} (hm : 0 ≤ most) (hm2 : most < 1000000) : ∀ (n : Nat) (lo : Int) (c : List Int) (acc : List D) , Dice (2 * n + k) c →
    ∃ (ys : List Int) (c' : List Int), compL (gSet 3) tTrue d__law_row_e2 [3] (rangeD lo n) acc ⟨[.val dcell, .val (.int size), .val (.int most), .un], c⟩ = .ok (acc ++ ys.map .int) ⟨[.val dcell, .val (.int size), .val (.int most), .un], c'⟩ ∧
      ys.length = n ∧ (∀ y ∈ ys, 0 ≤ y ∧ y ≤ most) ∧ Dice k c'
  | 0, lo, c, acc, h => ⟨[], c, by simp [rangeD, compL], rfl, by simp, by simpa using h⟩
  | n + 1, lo, c, acc, h => by
    obtain ⟨r, c1, e1, r0, r1, h1⟩ := roll (k := 2 * n + k + 1) (m := most + 1) (h.mono (by omega)) (by omega) (by omega)
    obtain ⟨x, c2, hx, e2, h2⟩ := pick (k := 2 * n + k) (ds := [.int 0, .int r]) h1 (by simp) (by simp)
    have hxi : ∃ z : Int, x = .int z ∧ 0 ≤ z ∧ z ≤ most := by
      rcases List.mem_cons.mp hx with rfl | hx
      · exact ⟨0, rfl, by omega, hm⟩
      · rw [List.mem_singleton.mp hx]
        exact ⟨r, rfl, r0, by omega⟩
    obtain ⟨z, rfl, z0, z1⟩ := hxi
    obtain ⟨ys, c3, e3, l3, b3, h3⟩ := row_comp (size := size) hm hm2 n (lo + 1) c2 (acc ++ [.int z]) h2
    refine ⟨z :: ys, c3, ?_, by simp [l3], fun y hy => ?_, h3⟩
    · rw [rangeD_succ]
      unfold compL
      have ee : d__law_row_e2 ⟨[.val dcell, .val (.int size), .val (.int most), .val (.int lo)], c⟩ = .ok (.val (.int z)) ⟨[.val dcell, .val (.int size), .val (.int most), .val (.int lo)], c2⟩ := by
        unfold d__law_row_e2
        simp [eVar_val, callR, e1, e2]
      simp only [wipeE, gSet, tTrue, List.set_cons_zero, List.set_cons_succ, ee, Sl.d_val, mg]
      simp only [List.getElem?_cons_zero, List.getElem?_cons_succ, Option.getD_some, List.set_cons_zero, List.set_cons_succ, e3, List.map_cons, List.append_assoc, List.singleton_append]
    · rcases List.mem_cons.mp hy with rfl | hy
      · exact ⟨z0, z1⟩
      · exact b3 y hy
/-- a row of 1..size numbers 0..most -/
theorem law_row {k : Nat} {c : List Int} {size : Nat} {most : Int} (h : Dice (2 * size + 1 + k) c) (hs : 1 ≤ size) (hs2 : size ≤ 1000) (hm : 0 ≤ most) (hm2 : most < 1000000) :
    ∃ (ys : List Int) (c' : List Int), F__law_row [dcell, .int size, .int most] c = .ok (.val (.tuple (ys.map .int))) c' ∧ 1 ≤ ys.length ∧ ys.length ≤ size ∧ (∀ y ∈ ys, 0 ≤ y ∧ y ≤ most) ∧ Dice k c' := by
  obtain ⟨r, c1, e1, r0, r1, h1⟩ := roll (k := 2 * size + k) (m := size) (h.mono (by omega)) (by omega) (by omega)
  obtain ⟨ys, c2, e2, l2, b2, h2⟩ := row_comp (size := size) (k := k) hm hm2 (1 + r).toNat 0 c1 [] (h1.mono (by omega))
  refine ⟨ys, c2, ?_, by omega, by omega, b2, h2⟩
  have es : startS 4 [dcell, .int size, .int most] c = ⟨[.val dcell, .val (.int size), .val (.int most), .un], c⟩ := rfl
  have hl : (ys.map PyData.int).length ≤ sizeLine := by rw [List.length_map, sizeLine_eq]; omega
  have hl2 : (rangeD 0 (1 + r).toNat).length < sizeLine := by rw [rangeD_len, sizeLine_eq]; omega
  rw [F__law_row, fnD_eq, es]
  unfold d__law_row
  simp [eVar_val, callR, e1, rng1K_int (j := 1 + r) (by omega) (by omega), compK_ok hl2 e2, tupB_list hl]
def isI : D → Bool
  | .int _ => true
  | _ => false
abbrev bad (x : Str) : Er := ⟨0, [("name", .str x)]⟩
theorem is_integer_eq {d : D} {c : List Int} (p : plainD d = true) : F_is_integer [d] c = .ok (.val (.bool (isI d))) c := by
  cases d <;> first | rfl | cases p
theorem is_integer_int {v : Int} {c : List Int} : F_is_integer [.int v] c = .ok (.val (.bool true)) c := rfl
theorem need_integer_eq {v lo hi : Int} {x : Str} {c : List Int} (hx : x.length ≤ 1000000) : F_need_integer [.int v, .str x, .int lo, .int hi] c = if v < lo ∨ hi < v then .er (bad x) c else .ok (.val .none) c := by
  have es : startS 4 [.int v, .str x, .int lo, .int hi] c = ⟨[.val (.int v), .val (.str x), .val (.int lo), .val (.int hi)], c⟩ := rfl
  rw [F_need_integer, fnD_eq, es]
  unfold d_need_integer
  by_cases h1 : v < lo
  · simp [eVar_val, callR, is_integer_int, dRaise_eq, hx, h1]
  · by_cases h2 : hi < v
    · simp [eVar_val, callR, is_integer_int, dRaise_eq, hx, h1, h2]
    · simp [eVar_val, callR, is_integer_int, dRaise_eq, hx, h1, h2]
/-- a row -/
def RowOk (ns : List Int) : Prop := 1 ≤ ns.length ∧ ns.length ≤ 24 ∧ ∀ y ∈ ns, 0 ≤ y ∧ y ≤ 200
abbrev rowD (ns : List Int) : D := .tuple (ns.map .int)
theorem is_row_all {d : D} {x : Sl} {c : List Int} : ∀ ns : List Int, (∀ y ∈ ns, 0 ≤ y ∧ y ≤ 200) → allL (gSet 1) d_is_row_e2 [1] (ns.map .int) ⟨[.val d, x], c⟩ = .ok (.val (.bool true)) ⟨[.val d, x], c⟩
  | [], _ => rfl
  | n :: ns, h => by
    have hn := h n (by simp)
    have ih := is_row_all (d := d) (x := x) (c := c) ns fun y hy => h y (List.mem_cons_of_mem _ hy)
    have e : d_is_row_e2 ⟨[.val d, .val (.int n)], c⟩ = .ok (.val (.bool true)) ⟨[.val d, .val (.int n)], c⟩ := by
      unfold d_is_row_e2
      simp [eVar_val, callR, is_integer_int, hn]
    rw [List.map_cons]
    unfold allL
    simp only [wipeE, gSet, mg, List.set_cons_zero, List.set_cons_succ, e]
    exact ih
theorem is_row_eq {ns : List Int} {c : List Int} (h : RowOk ns) : F_is_row [rowD ns] c = .ok (.val (.bool true)) c := by
  obtain ⟨h1, h2, h3⟩ := h
  have es : startS 2 [rowD ns] c = ⟨[.val (rowD ns), .un], c⟩ := rfl
  have e : allK [1] (gSet 1) d_is_row_e2 (ns.map .int) ⟨[.val (.tuple (ns.map .int)), .un], c⟩ = _ := allK_ok (is_row_all ns h3)
  have g1 : (1 : Int) ≤ (ns.length : Int) := by omega
  have g2 : (ns.length : Int) ≤ 24 := by omega
  rw [F_is_row, fnD_eq, es]
  unfold d_is_row
  simp [eVar_val, eLenN_val, plainD, isiD, g1, g2, e]
theorem need_row_eq {ns : List Int} {x : Str} {c : List Int} (h : RowOk ns) : F_need_row [rowD ns, .str x] c = .ok (.val .none) c := by
  have es : startS 2 [rowD ns, .str x] c = ⟨[.val (rowD ns), .val (.str x)], c⟩ := rfl
  have e := is_row_eq h (c := c)
  rw [F_need_row, fnD_eq, es]
  unfold d_need_row
  simp [eVar_val, callR, e]
theorem need_row_no {d : D} {x : Str} {c : List Int} (h : F_is_row [d] c = .ok (.val (.bool false)) c) (hx : x.length ≤ 1000000) : F_need_row [d, .str x] c = .er (bad x) c := by
  have es : startS 2 [d, .str x] c = ⟨[.val d, .val (.str x)], c⟩ := rfl
  rw [F_need_row, fnD_eq, es]
  unfold d_need_row
  simp [eVar_val, callR, h, dRaise_eq, hx]
/-- (level, spilt, lacking) after a step -/
def stepI (z l r n : Int) : Int × Int × Int :=
  let a := min z (l + r)
  let b := min a n
  (a - b, l + r - a, n - b)
abbrev stepD (t : Int × Int × Int) : D := .tuple [.int t.1, .int t.2.1, .int t.2.2]
def am (ns : List Int) (i : Nat) : Int := (ns[i % ns.length]?).getD 0
theorem am_at {ns : List Int} (h : 1 ≤ ns.length) (i : Nat) : atI (ns.map PyData.int) ((i : Int) % (ns.length : Int)) = some (.int (am ns i)) := by
  have hl : i % ns.length < ns.length := Nat.mod_lt _ h
  have e : (i : Int) % (ns.length : Int) = ((i % ns.length : Nat) : Int) := by omega
  rw [e, atI_ok (by omega) (by rw [List.length_map]; omega)]
  unfold am
  rw [Int.toNat_natCast, List.getElem?_map, List.getElem?_eq_getElem hl]
  rfl
theorem am_mem {ns : List Int} (h : 1 ≤ ns.length) (i : Nat) : am ns i ∈ ns := by
  have hl : i % ns.length < ns.length := Nat.mod_lt _ h
  unfold am
  rw [List.getElem?_eq_getElem hl, Option.getD_some]
  exact List.getElem_mem hl
theorem am_row {ns : List Int} (h : RowOk ns) (i : Nat) : 0 ≤ am ns i ∧ am ns i ≤ 200 := h.2.2 _ (am_mem h.1 i)
theorem amount_at_eq {ns : List Int} {i : Nat} {c : List Int} (h : 1 ≤ ns.length) (h2 : ns.length ≤ 24) : F_amount_at [rowD ns, .int i] c = .ok (.val (.int (am ns i))) c := by
  have es : startS 2 [rowD ns, .int i] c = ⟨[.val (rowD ns), .val (.int i)], c⟩ := rfl
  have e := am_at h i
  have hm := modD_ii (i := i) (j := ns.length) (by omega)
  rw [F_amount_at, fnD_eq, es]
  unfold d_amount_at
  simp [eVar_val, eLenN_val, eIxN_val, hm, e]
section
variable (z : Int) (rs ns : List Int)
def stp (t : Nat) (l : Int) : Int × Int × Int := stepI z l (am rs t) (am ns t)
def rows : Nat → Int → Nat → List D
  | _, _, 0 => []
  | t, l, n + 1 => stepD (stp z rs ns t l) :: rows (t + 1) (stp z rs ns t l).1 n
variable {z rs ns}
theorem am_shift {xs : List Int} {k : Nat} (h : xs.length ∣ k) (t : Nat) : am xs (t + k) = am xs t := by
  unfold am
  rw [Nat.add_mod, Nat.mod_eq_zero_of_dvd h, Nat.add_zero, Nat.mod_mod]
end
theorem while_t {c : DE} {b : DS} {n : Nat} {s s1 s2 : S} (h : c s = .ok (.val (.bool true)) s1) (hb : b s1 = .nx s2) : dWhile c b (n + 1) s = dWhile c b n s2 := by
  show (c s).stT _ = _
  rw [h]
  rw [stT_ok, if_pos rfl, hb]
theorem while_f {c : DE} {b : DS} {n : Nat} {s s1 : S} (h : c s = .ok (.val (.bool false)) s1) : dWhile c b (n + 1) s = .nx s1 := by
  show (c s).stT _ = _
  rw [h]
  rfl
theorem common_loop {c : List Int} : ∀ (m : Nat) (a b : Nat) , b < m → dWhile d_common_c1 d_common_b2 m ⟨[.val (.int a), .val (.int b)], c⟩ = .nx ⟨[.val (.int (Nat.gcd a b : Nat)), .val (.int 0)], c⟩
  | m + 1, a, b, h => by
    by_cases hb : b = 0
    · subst hb
      have e : d_common_c1 ⟨[.val (.int a), .val (.int (0 : Nat))], c⟩ = .ok (.val (.bool false)) ⟨[.val (.int a), .val (.int (0 : Nat))], c⟩ := by
        unfold d_common_c1
        simp [eVar_val]
      rw [while_f e, Nat.gcd_zero_right]
      rfl
    · have hb' : (0 : Int) < b := by omega
      have e : d_common_c1 ⟨[.val (.int a), .val (.int b)], c⟩ = .ok (.val (.bool true)) ⟨[.val (.int a), .val (.int b)], c⟩ := by
        unfold d_common_c1
        simp [eVar_val]
        omega
      have e2 : d_common_b2 ⟨[.val (.int a), .val (.int b)], c⟩ = .nx ⟨[.val (.int b), .val (.int (a % b : Nat))], c⟩ := by
        unfold d_common_b2
        simp [eVar_val, modD_ii hb']
      have hm : a % b < b := Nat.mod_lt _ (by omega)
      rw [while_t e e2, common_loop m b (a % b) (by omega), Nat.gcd_comm a b, Nat.gcd_rec b a, Nat.gcd_comm]
theorem common_eq {a b : Nat} {c : List Int} (h : b < 1000000000000000) : F_common [.int a, .int b] c = .ok (.val (.int (Nat.gcd a b : Nat))) c := by
  have es : startS 2 [.int a, .int b] c = ⟨[.val (.int a), .val (.int b)], c⟩ := rfl
  have e := common_loop (c := c) 1000000000000000 a b h
  rw [F_common, fnD_eq, es]
  unfold d_common
  rw [dSeq_eq, e]
  simp [dRetV_val]
theorem gcd_loop {c : List Int} : ∀ (m : Nat) (lo : Int) (x : Sl) (a b : Nat), b < m → ∃ x' y', forL (gSet 2) d__law_gcd_b1 (rangeD lo m) ⟨[.val (.int a), .val (.int b), x], c⟩ = .nx ⟨[.val (.int (Nat.gcd a b : Nat)), y', x'], c⟩
  | m + 1, lo, x, a, b, h => by
    rw [rangeD_succ]
    unfold forL
    by_cases hb : b = 0
    · subst hb
      refine ⟨.val (.int lo), .val (.int (0 : Nat)), ?_⟩
      unfold d__law_gcd_b1
      simp [eVar_val, Nat.gcd_zero_right]
    · have hb' : (0 : Int) < b := by omega
      have hm : a % b < b := Nat.mod_lt _ (by omega)
      obtain ⟨x', y', e⟩ := gcd_loop (c := c) m (lo + 1) (.val (.int lo)) b (a % b) (by omega)
      have e2 : d__law_gcd_b1 ⟨[.val (.int a), .val (.int b), .val (.int lo)], c⟩ = .nx ⟨[.val (.int b), .val (.int (a % b : Nat)), .val (.int lo)], c⟩ := by
        have hb0 : ¬ (b : Int) = 0 := by omega
        unfold d__law_gcd_b1
        simp [eVar_val, modD_ii hb', hb]
      refine ⟨x', y', ?_⟩
      simp only [gSet, List.set_cons_zero, List.set_cons_succ, e2]
      rw [e, Nat.gcd_comm a b, Nat.gcd_rec b a, Nat.gcd_comm]
theorem gcd_eq {a b : Nat} {c : List Int} (h : b < 400) : F__law_gcd [.int a, .int b] c = .ok (.val (.int (Nat.gcd a b : Nat))) c := by
  have es : startS 3 [.int a, .int b] c = ⟨[.val (.int a), .val (.int b), .un], c⟩ := rfl
  obtain ⟨x', y', e⟩ := gcd_loop (c := c) 400 0 .un a b h
  have ab : ∀ k : Nat, absB [.int k] = some (.val (.int k)) := fun k => by
    show some (Sl.val (.int (k : Int).natAbs)) = _
    congr 3
  have r : rng1K (.int 400) ⟨[.val (.int a), .val (.int b), .un], c⟩ = .ok (rangeD 0 400) ⟨[.val (.int a), .val (.int b), .un], c⟩ := rng1K_int (by decide) (by decide)
  rw [F__law_gcd, fnD_eq, es]
  unfold d__law_gcd
  simp [eVar_val, ab, r, e, dRetV_val]
theorem gcd_bd {a b : Nat} (h : 1 ≤ b) (h2 : b < 1000) : (0 : Int) < (Nat.gcd a b : Nat) ∧ ((Nat.gcd a b : Nat) : Int) < 1073741824 := by
  have h3 := Nat.gcd_pos_of_pos_right a (n := b) h
  have h4 := Nat.gcd_le_right a (n := b) h
  omega
theorem lcm_eq {a b : Nat} {c : List Int} (ha : a < 1000) (h : 1 ≤ b) (h2 : b < 1000) : F_least_common [.int a, .int b] c = .ok (.val (.int (Nat.lcm a b : Nat))) c := by
  have es : startS 2 [.int a, .int b] c = ⟨[.val (.int a), .val (.int b)], c⟩ := rfl
  have e := common_eq (a := a) (b := b) (c := c) (by omega)
  obtain ⟨h3, h4⟩ := gcd_bd (a := a) h h2
  have m := mulD_ii (i := (a : Int) / (Nat.gcd a b : Nat)) (j := b) (by simp [lim64]; omega)
  have q : (a : Int) / (Nat.gcd a b : Nat) * b = (Nat.lcm a b : Nat) := by
    unfold Nat.lcm
    rw [← Int.natCast_ediv, ← Int.natCast_mul, Nat.div_mul_right_comm (Nat.gcd_dvd_left a b)]
  rw [F_least_common, fnD_eq, es]
  unfold d_least_common
  simp [eVar_val, callR, e, divD_ii h3 h4, m]
  rw [q]
theorem turn_eq {a b : Nat} {c : List Int} (ha : a < 1000) (h : 1 ≤ b) (h2 : b < 400) : F__law_turn [.int a, .int b] c = .ok (.val (.int (Nat.lcm a b : Nat))) c := by
  have es : startS 2 [.int a, .int b] c = ⟨[.val (.int a), .val (.int b)], c⟩ := rfl
  have e := gcd_eq (a := a) (b := b) (c := c) (by omega)
  obtain ⟨h3, h4⟩ := gcd_bd (a := a) h (by omega)
  have m := mulD_ii (i := (a : Int) / (Nat.gcd a b : Nat)) (j := b) (by simp [lim64]; omega)
  have q : (a : Int) / (Nat.gcd a b : Nat) * b = (Nat.lcm a b : Nat) := by
    unfold Nat.lcm
    rw [← Int.natCast_ediv, ← Int.natCast_mul, Nat.div_mul_right_comm (Nat.gcd_dvd_left a b)]
  rw [F__law_turn, fnD_eq, es]
  unfold d__law_turn
  simp [eVar_val, callR, e, divD_ii h3 h4, m]
  rw [q]
theorem turn_of_eq {rs ns : List Int} {c : List Int} (hr : RowOk rs) (hn : RowOk ns) : F_turn_of [rowD rs, rowD ns] c = .ok (.val (.int (Nat.lcm rs.length ns.length : Nat))) c := by
  have es : startS 2 [rowD rs, rowD ns] c = ⟨[.val (rowD rs), .val (rowD ns)], c⟩ := rfl
  obtain ⟨a1, a2, _⟩ := hr
  obtain ⟨b1, b2, _⟩ := hn
  have e := lcm_eq (a := rs.length) (b := ns.length) (c := c) (by omega) b1 (by omega)
  rw [F_turn_of, fnD_eq, es]
  unfold d_turn_of
  simp [eLenN_val, callR, e]
theorem callR_mk {G : Fn} {ds : List D} {es : List Sl} {x : Sl} {c c' : List Int} (h : G ds c = .ok x c') : callR G ds ⟨es, c⟩ = .ok x ⟨es, c'⟩ := by
  unfold callR
  rw [h]
theorem callR_me {G : Fn} {ds : List D} {es : List Sl} {x : Er} {c c' : List Int} (h : G ds c = .er x c') : callR G ds ⟨es, c⟩ = .er x c' := by
  unfold callR
  rw [h]
theorem atz {α : Type} {x : α} {xs : List α} : atI (x :: xs) 0 = some x := by simp [atI, ixN]
theorem forL_nx {g : D → S → Option S} {b : DS} {d : D} {ds : List D} {s s1 s2 : S} (h : g d s = some s1) (hb : b s1 = .nx s2) : forL g b (d :: ds) s = forL g b ds s2 := by
  conv => lhs; unfold forL
  simp only [h, hb]
theorem forL_bk {g : D → S → Option S} {b : DS} {d : D} {ds : List D} {s s1 s2 : S} (h : g d s = some s1) (hb : b s1 = .bk s2) : forL g b (d :: ds) s = .nx s2 := by
  conv => lhs; unfold forL
  simp only [h, hb]
theorem atI_nat {α : Type} {xs : List α} {i : Nat} {x : α} (h : xs[i]? = some x) : atI xs (i : Int) = some x := by
  have hl : i < xs.length := by
    rcases Nat.lt_or_ge i xs.length with q | q
    · exact q
    · rw [List.getElem?_eq_none q] at h
      cases h
  rw [atI_ok (by omega) (by omega), Int.toNat_natCast, h]
theorem cut_take {xs : List D} {k : Nat} : DL.cutD xs none (some (k : Int)) = xs.take k := by
  unfold DL.cutD
  rw [HT.sIx_none, HT.sIx_nat, List.drop_zero, Nat.sub_zero]
  rcases Nat.le_total k xs.length with h | h
  · rw [Nat.min_eq_left h]
  · rw [Nat.min_eq_right h, List.take_length, List.take_of_length_le h]
theorem slD_tup {xs : List D} {k : Nat} : slD (.tuple xs) none (some (k : Int)) = some (.val (.tuple (xs.take k))) := by
  show some (Sl.val (.tuple (DL.cutD xs none (some (k : Int))))) = _
  rw [cut_take]
theorem eqv_ints : ∀ a b : List Int, PyData.eqvAll (a.map PyData.int) (b.map PyData.int) = decide (a = b)
  | [], [] => by simp [PyData.eqvAll]
  | [], _ :: _ => by simp [PyData.eqvAll]
  | _ :: _, [] => by simp [PyData.eqvAll]
  | x :: a, y :: b => by
    simp only [List.map_cons, PyData.eqvAll, eqv_ints a b, eqv_ii]
    by_cases h : x = y <;> simp [h]
theorem neD_tups {a b : List Int} : neD (rowD a) (rowD b) = some (.val (.bool (!decide (a = b)))) := by
  unfold neD
  rw [(Sh.tup (k := 1) Sh.ints).sh (by decide), (Sh.tup (k := 1) Sh.ints).sh (by decide)]
  show some (Sl.val (.bool (!PyData.eqv (.tuple (a.map .int)) (.tuple (b.map .int))))) = _
  unfold PyData.eqv
  rw [eqv_ints]
theorem eqD_lsts {a b : List Int} : eqD (.list (a.map .int)) (.list (b.map .int)) = some (.val (.bool (decide (a = b)))) := by
  unfold eqD
  rw [(Sh.lst (k := 1) Sh.ints).sh (by decide), (Sh.lst (k := 1) Sh.ints).sh (by decide)]
  show some (Sl.val (.bool (PyData.eqv (.list (a.map .int)) (.list (b.map .int))))) = _
  unfold PyData.eqv
  rw [eqv_ints]
theorem compL_y {g : D → S → Option S} {tt te : DE} {vs : List Nat} {d : D} {ds acc : List D} {s s1 s2 s3 : S} {y : Sl} (h : g d { s with e := wipeE s.e vs } = some s1) (ht : tt s1 = .ok (.val (.bool true)) s2) (he : te s2 = .ok y s3) :
    compL g tt te vs (d :: ds) acc s = compL g tt te vs ds (acc ++ [y.d]) { s3 with e := mg vs s.e s3.e } := by
  conv => lhs; unfold compL
  simp only [h, ht, he]
theorem compL_n {g : D → S → Option S} {tt te : DE} {vs : List Nat} {d : D} {ds acc : List D} {s s1 s2 : S} (h : g d { s with e := wipeE s.e vs } = some s1) (ht : tt s1 = .ok (.val (.bool false)) s2) :
    compL g tt te vs (d :: ds) acc s = compL g tt te vs ds acc { s2 with e := mg vs s.e s2.e } := by
  conv => lhs; unfold compL
  simp only [h, ht]
/-- the ten wrong rows are no rows -/
abbrev badRows : List D := [.none, .tuple [], .list [.int 1, .int 2], .tuple [.int 1, .int (-1)], .tuple [.int 201], .tuple [.bool true], .tuple (List.replicate 25 (.int 1)), .tuple [.int 1, .str "a"], .int 5]
theorem bad_row {d : D} (h : d ∈ badRows) (c : List Int) : F_is_row [d] c = .ok (.val (.bool false)) c := by
  simp only [badRows, List.mem_cons, List.not_mem_nil, or_false] at h
  rcases h with rfl | rfl | rfl | rfl | rfl | rfl | rfl | rfl | rfl <;> rfl
theorem eRef_bad {j : Nat} {f : DE} {s : S} {x : Str} {c : List Int} (h : f s.hide = .er ⟨j, [("name", .str x)]⟩ c) : eRef j f s = .ok (.val (.str x)) { s with c := c } := by
  unfold eRef
  rw [h]
  simp
def refK (j : Nat) (r : RE) (s : S) : RE := match r with
  | .ok _ s1 => .ok (.val (.str "")) { s with c := s1.c }
  | .er ⟨k, [(n, .str y)]⟩ c => if k = j ∧ n = ("name" : Str) then .ok (.val (.str y)) { s with c := c } else .stuck
  | _ => .stuck
theorem eRef_eq {j : Nat} {f : DE} {s : S} : eRef j f s = refK j (f s.hide) s := rfl
theorem refK_bad {x : Str} {c : List Int} {s : S} : refK 0 (.er (bad x) c) s = .ok (.val (.str x)) { s with c := c } := by
  unfold refK
  simp
theorem hide_mk {e : List Sl} {c : List Int} : S.hide ⟨e, c⟩ = ⟨e.map DL.hide, c⟩ := rfl
theorem dice_loop {a0 a1 a2 : Sl} {c : List Int} : ∀ (ns : List Int) (x : Int) (a4 : Sl), ∃ (y : Int) (b4 : Sl), forL (gSet 4) d__law_dice_b1 (ns.map .int) ⟨[a0, a1, a2, .val (.int x), a4], c⟩ = .nx ⟨[a0, a1, a2, .val (.int y), b4], c⟩
  | [], x, a4 => ⟨x, a4, rfl⟩
  | n :: ns, x, a4 => by
    have m1 := mulD_ii (i := x) (j := 48271) (by simp [lim64])
    have d1 := fun i : Int => modD_ii (i := i) (j := 2147480009) (by decide)
    have e1 : d__law_dice_b1 ⟨[a0, a1, a2, .val (.int x), .val (.int n)], c⟩ = .nx ⟨[a0, a1, a2, .val (.int ((x * 48271 + n % 2147480009) % 2147480009)), .val (.int n)], c⟩ := by
      unfold d__law_dice_b1
      simp -implicitDefEqProofs [eVar_val, m1, d1]
    obtain ⟨y, b4, e⟩ := dice_loop ns _ (.val (.int n))
    exact ⟨y, b4, by rw [List.map_cons, forL_nx (by rfl) e1, e]⟩
/-- the rest, once the seed is drawn -/
theorem dice_t {ns : List Int} {i : Nat} (hi : i < 5) : ∃ a b : Int, F__law_dice [dscr (ns.map .int), .int i] [] = .ok (.own [.int a, .int b, .int 0]) [] := by
  have es : startS 5 [dscr (ns.map .int), .int i] [] = ⟨[.val (dscr (ns.map .int)), .val (.int i), .un, .un, .un], []⟩ := rfl
  have l : lenB [dscr (ns.map PyData.int)] = some (.val (.int (ns.length))) := by
    simp [lenB, dscr]
  have m1 := mulD_ii (i := 733) (j := (i : Int)) (by simp [lim64])
  have m2 := mulD_ii (i := 7907) (j := (i : Int)) (by simp [lim64])
  have sl : slD (dscr (ns.map PyData.int)) none (some 6) = some (.own ((ns.take 6).map .int)) := by
    show some (Sl.own (DL.cutD (ns.map PyData.int) none (some ((6 : Nat) : Int)))) = _
    rw [cut_take, List.map_take]
  have ad : ∀ v : Int, addD (.list ((ns.take 6).map .int)) (.list [.int v]) = some (.own (((ns.take 6) ++ [v]).map .int)) := fun v => by
    have h1 : ((ns.take 6).map PyData.int).length + [PyData.int v].length ≤ sizeLine := by
      rw [sizeLine_eq, List.length_map, List.length_take]
      simp
      omega
    show (if ((ns.take 6).map PyData.int).length + [PyData.int v].length ≤ sizeLine then some (Sl.own ((ns.take 6).map PyData.int ++ [PyData.int v])) else none) = _
    rw [if_pos h1, List.map_append]
    rfl
  have pw : powD (.int 10) (.int 16) = some (.val (.int 10000000000000000)) := rfl
  have ab : ∀ v : Int, absB [.int v] = some (.val (.int (if v < 0 then -v else v))) := fun v => rfl
  have fin : ∀ v : Int, ∃ a b : Int, (((dSeq (dSet 3 (eAdd (eC (.int 930011)) (eMul (eC (.int 7907)) (eVar 1)))) (dSeq (dFor (iSeq (eAdd (eSl (eVar 0) none (some (eC (.int 6)))) (eLst (aCons (eVar 2) aNil)))) (gSet 4) d__law_dice_b1) (dRet (eLst (aCons (eIf (eOr (eLt (eVar 2) (eC (.int 0))) (eGe (eVar 2) (ePow (eC (.int 10)) (eC (.int 16))))) (eB absB (aCons (eVar 2) aNil)) (eC (.int 0))) (aCons (eVar 3) (aCons (eC (.int 0)) aNil))))))) ⟨[.val (dscr (ns.map .int)), .val (.int i), .val (.int v), .un, .un], []⟩).fin) = .ok (.own [.int a, .int b, .int 0]) [] := fun v => by
    obtain ⟨y, b4, e⟩ := dice_loop (a0 := .val (dscr (ns.map .int))) (a1 := .val (.int i)) (a2 := .val (.int v)) (c := []) (ns.take 6 ++ [v]) (930011 + 7907 * i) .un
    have adv := ad v
    generalize (ns.take 6 ++ [v]).map PyData.int = W at e adv
    generalize (ns.take 6).map PyData.int = U at sl adv
    by_cases g : v < 0
    · refine ⟨-v, y, ?_⟩
      simp -implicitDefEqProofs [eVar_val, m2, partD, sl, adv, e, g]
    · by_cases g2 : 10000000000000000 ≤ v
      · refine ⟨v, y, ?_⟩
        simp -implicitDefEqProofs [eVar_val, m2, partD, sl, adv, e, g, g2, pw]
      · refine ⟨0, y, ?_⟩
        simp -implicitDefEqProofs [eVar_val, m2, partD, sl, adv, e, g, g2, pw]
  rw [F__law_dice, fnD_eq, es]
  unfold d__law_dice
  by_cases hl : i < ns.length
  · have e := atI_nat (xs := ns.map PyData.int) (i := i) (x := .int (ns[i])) (by rw [List.getElem?_map, List.getElem?_eq_getElem hl]; rfl)
    obtain ⟨a, b, f⟩ := fin ns[i]
    refine ⟨a, b, ?_⟩
    rw [← f, dSeq_eq]
    have s0 : dSet 2 (eIf (eLt (eVar 1) (eLenN 0)) (eIxN 0 (eVar 1)) (eAdd (eMul (eC (.int 733)) (eVar 1)) (eC (.int 29)))) ⟨[.val (dscr (ns.map .int)), .val (.int i), .un, .un, .un], []⟩ = .nx ⟨[.val (dscr (ns.map .int)), .val (.int i), .val (.int ns[i]), .un, .un], []⟩ := by
      simp -implicitDefEqProofs [eVar_val, eLenN_val, eIxN_val, l, hl, e]
    rw [s0, seq_nx]
  · obtain ⟨a, b, f⟩ := fin (733 * i + 29)
    refine ⟨a, b, ?_⟩
    rw [← f, dSeq_eq]
    have s0 : dSet 2 (eIf (eLt (eVar 1) (eLenN 0)) (eIxN 0 (eVar 1)) (eAdd (eMul (eC (.int 733)) (eVar 1)) (eC (.int 29)))) ⟨[.val (dscr (ns.map .int)), .val (.int i), .un, .un, .un], []⟩ = .nx ⟨[.val (dscr (ns.map .int)), .val (.int i), .val (.int (733 * i + 29)), .un, .un], []⟩ := by
      simp -implicitDefEqProofs [eVar_val, eLenN_val, l, hl, m1]
    rw [s0, seq_nx]
section
variable {α : Type} [DecidableEq α] {f : α → D} {R : Nat → α} {B T : Nat} {c : List Int}
theorem mulD_lst {xs : List D} {k : Nat} (hk : k < 1000000) (h : xs.length * k ≤ sizeLine) : mulD (.list xs) (.int k) = some (.own (List.replicate k xs).flatten) := by
  have h62 : (k : Int) < 2 ^ 62 := Int.lt_trans (show (k : Int) < 1000000 by omega) (by simp)
  have h0 : (0 : Int) ≤ k := by omega
  have hn : (k : Int).toNat = k := Int.toNat_natCast k
  unfold mulD
  simp only [h0, h62, hn, h, and_self, if_true]
end
section
variable (rs ns : List Int)
variable {rs ns} {c : List Int}
abbrev tn (rs ns : List Int) : Nat := Nat.lcm rs.length ns.length
theorem tn_le (R : RowOk rs) (N : RowOk ns) : tn rs ns ≤ 576 := by
  have a := R.2.1
  have b := N.2.1
  exact Nat.le_trans (Nat.div_le_self _ _) (Nat.mul_le_mul a b)
end
abbrev Stg := Int × Int × Int
abbrev Tri := Int × Int × Int
def stepC : List Stg → List Int → List (List Int) → Int → Int → Nat → List Tri
  | (z, _, h) :: cs, l :: ls, n :: ns, r, f, t => stepI z l (h * r + f) (am n t) :: stepC cs ls ns r (stepI z l (h * r + f) (am n t)).2.1 t
  | _, _, _, _, _, _ => []
def lvs (ch : List Stg) (rs : List Int) (ns : List (List Int)) : Nat → List Int
  | 0 => ch.map (·.2.1)
  | t + 1 => (stepC ch (lvs ch rs ns t) ns (am rs t) 0 t).map (·.1)
def row (ch : List Stg) (rs : List Int) (ns : List (List Int)) (t : Nat) : List Tri := stepC ch (lvs ch rs ns t) ns (am rs t) 0 t
def sl (z s : Int) (fl : Nat → Int) (n : List Int) : Nat → Int
  | 0 => s
  | t + 1 => (stepI z (sl z s fl n t) (fl t) (am n t)).1
def w (z : Int) (fl : Nat → Int) (n : List Int) : Nat → Int → Nat → Int
  | _, l, 0 => l
  | t, l, k + 1 => w z fl n (t + 1) (stepI z l (fl t) (am n t)).1 k
theorem allL_t {α : Type} {g : D → S → Option S} {te : DE} {vs : List Nat} {s : S} {f : α → D} : ∀ as : List α, (∀ a ∈ as, ∃ s1, g (f a) { s with e := wipeE s.e vs } = some s1 ∧ te s1 = .ok (.val (.bool true)) s1 ∧ { s1 with e := mg vs s.e s1.e } = s) →
    allL g te vs (as.map f) s = .ok (.val (.bool true)) s
  | [], _ => rfl
  | a :: as, h => by
    obtain ⟨s1, h1, h2, h3⟩ := h a (by simp)
    rw [List.map_cons]
    unfold allL
    simp only [h1, h2]
    rw [h3]
    exact allL_t as fun b hb => h b (List.mem_cons_of_mem _ hb)
section
variable {ch : List Stg} {rs : List Int} {ns : List (List Int)} {T J : Nat} {c : List Int}
def hdD : List Nat → D
  | [] => .none
  | i :: _ => .int i
abbrev natsD (xs : List Nat) : List D := xs.map fun i : Nat => PyData.int i
structure WeOk (lo hi : List Int) : Prop where
  l : RowOk lo
  h : RowOk hi
  e : lo.length = hi.length
  le : ∀ p ∈ lo.zip hi, p.1 ≤ p.2
abbrev weD (lo hi : List Int) : D := .tuple [rowD lo, rowD hi]
theorem zipD_ints (a b : List Int) : zipD (a.map .int) (b.map .int) = (a.zip b).map fun p => .tuple [.int p.1, .int p.2] := by
  unfold zipD
  rw [List.zipWith_map, List.zip_eq_zipWith, List.map_zipWith]
end
section
variable {ch : List Stg} {rs : List Int} {ns : List (List Int)} {T J : Nat} {c : List Int}
theorem atI_last {α : Type} {xs : List α} {x : α} : atI (xs ++ [x]) (-1) = some x := by
  rw [atI_neg (by simp)]
  simp
end
/-- a comprehension that throws dice -/
theorem compL_draw {α β : Type} {g : D → S → Option S} {te : DE} {vs : List Nat} {f : α → D} {h : β → D} {P : α → β → Prop} {m : Nat} (st : List Int → S)
    (step : ∀ (a : α) (k : Nat) (c : List Int), Dice (m + k) c → ∃ b c', P a b ∧ Dice k c' ∧ ∃ s1 y s3, g (f a) { st c with e := wipeE (st c).e vs } = some s1 ∧ te s1 = .ok y s3 ∧ y.d = h b ∧ { s3 with e := mg vs (st c).e s3.e } = st c') :
    ∀ (as : List α) (k : Nat) (c : List Int) (acc : List D), Dice (m * as.length + k) c → ∃ (bs : List β) (c' : List Int), compL g tTrue te vs (as.map f) acc (st c) = .ok (acc ++ bs.map h) (st c') ∧ bs.length = as.length ∧ (∀ b ∈ bs, ∃ a ∈ as, P a b) ∧ (∀ p ∈ as.zip bs, P p.1 p.2) ∧ Dice k c'
  | [], k, c, acc, hd => ⟨[], c, by simp, rfl, by simp, by simp, by simpa using hd⟩
  | a :: as, k, c, acc, hd => by
    obtain ⟨b, c1, p, h1, s1, y, s3, e1, e2, e3, e4⟩ := step a (m * as.length + k) c (hd.mono (by simp only [List.length_cons, Nat.mul_succ]; omega))
    obtain ⟨bs, c2, f2, l2, p2, q2, h2⟩ := compL_draw st step as k c1 (acc ++ [h b]) h1
    refine ⟨b :: bs, c2, ?_, by simp [l2], fun x hx => ?_, fun x hx => ?_, h2⟩
    · rw [List.map_cons, show compL g tTrue te vs (f a :: as.map f) acc (st c) = compL g tTrue te vs (as.map f) (acc ++ [y.d]) { s3 with e := mg vs (st c).e s3.e } from compL_y e1 (s2 := s1) rfl e2, e3, e4, f2, List.map_cons, List.append_assoc]
      rfl
    · rcases List.mem_cons.mp hx with rfl | hx
      · exact ⟨a, by simp, p⟩
      · obtain ⟨z, hz, pz⟩ := p2 x hx
        exact ⟨z, List.mem_cons_of_mem _ hz, pz⟩
    · rw [List.zip_cons_cons] at hx
      rcases List.mem_cons.mp hx with rfl | hx
      · exact p
      · exact q2 x hx
section
variable {ch : List Stg} {rs : List Int} {ns : List (List Int)} {T J : Nat} {c c' : List Int} {a1 a2 a3 a4 a5 a6 a7 a8 a9 a10 a11 a12 a13 a14 a15 a16 a17 a18 a19 a20 a21 a22 a23 a24 a25 a26 : Sl}
theorem hd_at (xs : List Nat) : atI (natsD xs ++ [PyData.none]) 0 = some (hdD xs) := by
  cases xs with
  | nil => exact atz
  | cons x xs => exact atz
end
/-- the ints a .. b -/
def ivI (a b : Int) : List Int := (List.range (b + 1 - a).toNat).map fun i => a + (i : Nat)
theorem ivI_mem {a b x : Int} : x ∈ ivI a b ↔ a ≤ x ∧ x ≤ b := by
  unfold ivI
  rw [List.mem_map]
  constructor
  · rintro ⟨i, hi, rfl⟩
    rw [List.mem_range] at hi
    omega
  · intro h
    exact ⟨(x - a).toNat, by rw [List.mem_range]; omega, by omega⟩
theorem ivI_len {a b : Int} : (ivI a b).length = (b + 1 - a).toNat := by unfold ivI; simp
theorem ivI_pw {a b : Int} : (ivI a b).Pairwise (· < ·) := by
  unfold ivI
  rw [List.pairwise_map]
  exact List.pairwise_lt_range.imp fun h => by omega
theorem ivI_ne {a b : Int} (h : a ≤ b) : ivI a b ≠ [] := by
  have : (ivI a b).length ≠ 0 := by rw [ivI_len]; omega
  exact fun e => this (by rw [e]; rfl)
theorem ivI_data {a b : Int} : (ivI a b).map PyData.int = rangeD a (b + 1 - a).toNat := by
  unfold ivI rangeD
  rw [List.map_map]
  rfl
section
variable {z l : Int} {lo hi ns : List Int} {t : Nat} {c : List Int}
theorem am_zip {lo hi : List Int} (W : WeOk lo hi) (t : Nat) : (am lo t, am hi t) ∈ lo.zip hi := by
  have h1 : t % lo.length < lo.length := Nat.mod_lt _ W.l.1
  have h2 : t % lo.length < hi.length := by rw [← W.e]; exact h1
  have e : (lo.zip hi)[t % lo.length]? = some (am lo t, am hi t) := by
    unfold am
    rw [← W.e, List.getElem?_zip_eq_some]
    rw [List.getElem?_eq_getElem h1, List.getElem?_eq_getElem h2]
    exact ⟨rfl, rfl⟩
  exact List.mem_of_getElem? e
end
section
variable {z l : Int} {rs lo hi ns : List Int} {c : List Int}
theorem at_0 {α : Type} {x y : α} : atI [x, y] 0 = some x := rfl
theorem at_1 {α : Type} {x y : α} : atI [x, y] 1 = some y := rfl
theorem at3_1 {α : Type} {x y w : α} : atI [x, y, w] 1 = some y := rfl
theorem at3_2 {α : Type} {x y w : α} : atI [x, y, w] 2 = some w := rfl
end
def rngDK (x y : D) (s2 : S) : RA := match x, y with
  | .int i, .int j => if lim62 i && lim62 j then .ok (downD i (i - j).toNat) s2 else .stuck
  | _, _ => .stuck
@[simp] theorem iDown_eq {a c : DE} {s : S} : DL.iDown a c s = (a s).ra fun x s1 => (c s1).ra (rngDK x) := rfl
theorem rngDK_int {i j : Int} {s : S} (h1 : -4611686018427387904 ≤ i ∧ i < 4611686018427387904) (h2 : -4611686018427387904 ≤ j ∧ j < 4611686018427387904) : rngDK (.int i) (.int j) s = .ok (downD i (i - j).toNat) s := by
  have h : (lim62 i && lim62 j) = true := by simp [lim62]; omega
  unfold rngDK
  simp only [h, if_true]
theorem downD_zero {i : Int} : downD i 0 = [] := rfl
theorem downD_succ {i : Int} {n : Nat} : downD i (n + 1) = .int i :: downD (i - 1) n := by
  unfold downD
  rw [List.range_succ_eq_map, List.map_cons, List.map_map]
  congr 1
  · simp
  · apply List.map_congr_left
    intro k _
    simp
    omega
theorem dStoreN_at {i : Nat} {a b v : DE} {s : S} {x : Sl} {xss : List (List D)} {n m : Int} {k l : Nat} {ys : List D} (hv : v s = .ok x s) (h : s.e[i]? = some (.nst xss)) (ha : a s = .ok (.val (.int n)) s) (hk : ixN xss.length n = some k)
    (hb : b s = .ok (.val (.int m)) s) (hy : xss[k]? = some ys) (hm : ixN ys.length m = some l) : dStoreN i a b v s = .nx { s with e := s.e.set i (.nst (xss.set k (ys.set l x.d))) } := by
  unfold dStoreN
  rw [hv]
  simp only [st_ok, h, ha, Sl.d_val, hk, hb, hy, hm]
theorem dAppN_at {i : Nat} {a : DE} {s : S} {xss : List (List D)} {ys : List D} (h : s.e[i]? = some (.nst xss)) (ha : a s = .ok (.own ys) s) (hl : xss.length < sizeLine) : dAppN i a s = .nx { s with e := s.e.set i (.nst (xss ++ [ys])) } := by
  unfold dAppN
  simp only [h, ha, st_ok, hl, if_true]
theorem eLenW_at {i : Nat} {s : S} {xss : List (List D)} (h : s.e[i]? = some (.nst xss)) : eLenW i s = .ok (.val (.int xss.length)) s := by
  unfold eLenW
  rw [h]
theorem law_weather2 {k : Nat} {c : List Int} {size most wide : Nat} (hd : Dice (3 * size + 1 + k) c) (hs : 1 ≤ size) (hs2 : size ≤ 24) (hb : most + wide ≤ 200) :
    ∃ (lo hi : List Int) (c' : List Int), F__law_weather [dcell, .int size, .int most, .int wide] c = .ok (.val (weD lo hi)) c' ∧ WeOk lo hi ∧ lo.length ≤ size ∧ (∀ p ∈ lo.zip hi, p.2 ≤ p.1 + wide) ∧ (∀ y ∈ lo, 0 ≤ y ∧ y ≤ most) ∧ Dice k c' := by
  have h0 := sizeLine_eq
  obtain ⟨lo, c1, e1, l1, l2, l3, h1⟩ := law_row (k := size + k) (size := size) (most := most) (hd.mono (by omega)) hs (by omega) (by omega) (by omega)
  obtain ⟨hi, c2, e2, l4, q, p2, h2⟩ := compL_draw (g := gSet 5) (te := d__law_weather_e2) (vs := [5]) (f := PyData.int) (h := PyData.int) (P := fun a b => a ≤ b ∧ b ≤ a + wide) (m := 1)
    (fun c => ⟨[.val dcell, .val (.int size), .val (.int most), .val (.int wide), .val (rowD lo), .un], c⟩) (fun a k c hd => by
      obtain ⟨r, c', e, r0, r1, h⟩ := roll (k := k) (m := (wide : Int) + 1) (hd.mono (by omega)) (by omega) (by omega)
      refine ⟨a + r, c', ⟨by omega, by omega⟩, h, ⟨[.val dcell, .val (.int size), .val (.int most), .val (.int wide), .val (rowD lo), .val (.int a)], c⟩, .val (.int (a + r)), ⟨[.val dcell, .val (.int size), .val (.int most), .val (.int wide), .val (rowD lo), .val (.int a)], c'⟩, rfl, ?_, rfl, rfl⟩
      generalize rowD lo = LO
      generalize (wide : Int) = WI at e ⊢
      generalize (size : Int) = SI
      generalize (most : Int) = MO
      unfold d__law_weather_e2
      simp -implicitDefEqProofs [eVar_val, callR_mk e]) lo k c1 [] (h1.mono (by omega))
  have hz : ∀ y ∈ hi, 0 ≤ y ∧ y ≤ 200 := fun y hy => by
    obtain ⟨a, ha, q1, q2⟩ := q y hy
    have := l3 a ha
    omega
  refine ⟨lo, hi, c2, ?_, ⟨⟨l1, by omega, fun y hy => by have := l3 y hy; omega⟩, ⟨by omega, by omega, hz⟩, by omega, fun p hp => (p2 p hp).1⟩, l2, fun p hp => (p2 p hp).2, l3, h2⟩
  have es : startS 6 [dcell, .int size, .int most, .int wide] c = ⟨[.val dcell, .val (.int size), .val (.int most), .val (.int wide), .un, .un], c⟩ := rfl
  have k1 : compK [5] (gSet 5) tTrue d__law_weather_e2 (lo.map .int) ⟨[.val dcell, .val (.int size), .val (.int most), .val (.int wide), .val (rowD lo), .un], c1⟩ = .ok (.own (hi.map .int)) ⟨[.val dcell, .val (.int size), .val (.int most), .val (.int wide), .val (rowD lo), .un], c2⟩ := compK_ok (by rw [List.length_map]; omega) e2
  unfold weD rowD at *
  generalize hi.map PyData.int = HI at k1 ⊢
  generalize lo.map PyData.int = LO at e1 k1 ⊢
  have tb : tupB [.list HI] = some (.val (.tuple HI)) := rfl
  generalize (wide : Int) = WI at es k1 ⊢
  generalize (size : Int) = SI at es e1 k1 ⊢
  generalize (most : Int) = MO at es e1 k1 ⊢
  rw [F__law_weather, fnD_eq, es]
  unfold d__law_weather
  simp -implicitDefEqProofs [eVar_val, eVar_own, callR_mk e1, k1, tb]
section
variable {z l : Int} {lo hi ns : List Int} {s : Nat} {c c' : List Int} {a1 a2 a3 a4 a5 a6 a7 a8 a9 a10 a11 a12 a13 a14 a15 a16 a17 a18 a19 a20 a21 : Sl}
theorem minB_ints {xs : List Int} (h : xs ≠ []) : minB [.list (xs.map .int)] = some (.val (.int (minI xs))) := by
  show (match intsD (xs.map PyData.int) with | some (n :: ns) => some (Sl.val (.int (minI (n :: ns)))) | _ => none) = _
  rw [intsD_ok]
  cases xs with
  | nil => exact absurd rfl h
  | cons x xs => rfl
theorem eq_tf : eqD (.bool true) (.bool false) = some (.val (.bool false)) := by rfl
theorem eq_ft : eqD (.bool false) (.bool true) = some (.val (.bool false)) := by rfl
end
end K10

set_option Elab.async false
set_option linter.all false
set_option maxRecDepth 100000
set_option maxHeartbeats 4000000
/-! K10m1: what is refused, what is not; enough_before. -/
namespace K10
open PySem PySem.Spec L2 DL
open PyProof.Rows hiding St
theorem zip_np {lo hi : List Int} : (zipD (lo.map .int) (hi.map .int)).all npP = true := by
  rw [zipD_ints, List.all_map, List.all_eq_true]
  intro p _
  rfl
section
variable {c : List Int}
theorem is_weather_eq {lo hi : List Int} (W : WeOk lo hi) : F_is_weather [weD lo hi] c = .ok (.val (.bool true)) c := by
  have es : startS 4 [weD lo hi] c = ⟨[.val (weD lo hi), .un, .un, .un], c⟩ := rfl
  have e1 : allK [1] (gSet 1) d_is_weather_e2 [rowD lo, rowD hi] ⟨[.val (weD lo hi), .un, .un, .un], c⟩ = .ok (.val (.bool true)) ⟨[.val (weD lo hi), .un, .un, .un], c⟩ := by
    have h : ∀ n ∈ [lo, hi], RowOk n := fun n hn => by
      rcases List.mem_cons.mp hn with rfl | hn
      · exact W.l
      · rw [List.mem_singleton.mp hn]; exact W.h
    refine allK_ok (allL_t (f := rowD) [lo, hi] fun p hp => ⟨_, rfl, ?_, rfl⟩)
    have q := is_row_eq (c := c) (h p hp)
    generalize rowD p = P at q ⊢
    generalize weD lo hi = WD
    unfold d_is_weather_e2
    simp -implicitDefEqProofs [eVar_val, wipeE, callR_mk q]
  have e2 : allK [2, 3] (gTupD (gsCons (gSet 2) (gsCons (gSet 3) gsNil))) d_is_weather_e4 (zipD (lo.map .int) (hi.map .int)) ⟨[.val (weD lo hi), .un, .un, .un], c⟩ = .ok (.val (.bool true)) ⟨[.val (weD lo hi), .un, .un, .un], c⟩ := by
    rw [zipD_ints]
    refine allK_ok (allL_t (lo.zip hi) fun p hp => ⟨⟨[.val (weD lo hi), .un, .val (.int p.1), .val (.int p.2)], c⟩, rfl, ?_, rfl⟩)
    have q := W.le p hp
    generalize weD lo hi = WD
    unfold d_is_weather_e4
    simp -implicitDefEqProofs [eVar_val, q]
  have hl : ((lo.map PyData.int).length : Int) = ((hi.map PyData.int).length : Int) := by rw [List.length_map, List.length_map, W.e]
  unfold weD rowD at *
  have iz : ∀ st : S, st.e[0]? = some (.val (.tuple [.tuple (lo.map PyData.int), .tuple (hi.map PyData.int)])) → iZip2 (eIxN 0 (eC (.int 0))) (eIxN 0 (eC (.int 1))) st = .ok (zipD (lo.map .int) (hi.map .int)) st := fun st h => by
    have a0 : atI [PyData.tuple (lo.map PyData.int), .tuple (hi.map PyData.int)] 0 = some (.tuple (lo.map PyData.int)) := rfl
    have a1 : atI [PyData.tuple (lo.map PyData.int), .tuple (hi.map PyData.int)] 1 = some (.tuple (hi.map PyData.int)) := rfl
    have nz := zip_np (lo := lo) (hi := hi)
    unfold iZip2
    generalize lo.map PyData.int = LO at h a0 a1 nz ⊢
    generalize hi.map PyData.int = HI at h a0 a1 nz ⊢
    simp -implicitDefEqProofs only [eIxN_val h, a0, a1, ra_ok, bind_ok, eC_eq, ixC_tup, Option.map_some, liftR_val, Sl.d_val, nz, if_true]
  generalize zipD (lo.map .int) (hi.map .int) = Z at e2 iz
  generalize lo.map PyData.int = LO at *
  generalize hi.map PyData.int = HI at *
  have a0 : atI [PyData.tuple LO, .tuple HI] 0 = some (.tuple LO) := rfl
  have a1 : atI [PyData.tuple LO, .tuple HI] 1 = some (.tuple HI) := rfl
  have iz := iz ⟨[.val (.tuple [.tuple LO, .tuple HI]), .un, .un, .un], c⟩ rfl
  rw [F_is_weather, fnD_eq, es]
  unfold d_is_weather
  simp -implicitDefEqProofs [eVar_val, eLenN_val, eIxN_val, plainD, isiD, e1, a0, a1, hl, iz, e2]
theorem need_weather_eq {lo hi : List Int} {x : Str} (W : WeOk lo hi) : F_need_weather [weD lo hi, .str x] c = .ok (.val .none) c := by
  have es : startS 2 [weD lo hi, .str x] c = ⟨[.val (weD lo hi), .val (.str x)], c⟩ := rfl
  have e := is_weather_eq (c := c) W
  generalize weD lo hi = WD at es e ⊢
  rw [F_need_weather, fnD_eq, es]
  unfold d_need_weather
  simp -implicitDefEqProofs [eVar_val, callR_mk e]
end
/-! ### a level or none -/
def optD : Option Int → D
  | none => .none
  | some x => .int x
def eb (z r n : Int) (w u : Option Int) : Option Int := match w, u with
  | some w, some u => if w + n ≤ z then some (max 0 (min (w + n) u - r)) else some (max 0 (u - r))
  | some w, none => if w + n ≤ z then some (max 0 (w + n - r)) else none
  | none, some u => some (max 0 (u - r))
  | none, none => none
theorem mxD (i j : Int) : maxB [.int i, .int j] = some (.val (.int (max i j))) := by
  rw [maxB_ii]
  by_cases h : j > i
  · rw [if_pos h, show max i j = j by omega]
  · rw [if_neg h, show max i j = i by omega]
theorem mn1 (i : Int) : minB [.list [.int i]] = some (.val (.int i)) := rfl
theorem mn2 (i j : Int) : minB [.list [.int i, .int j]] = some (.val (.int (min i j))) := by
  rw [show ([PyData.int i, .int j] : List D) = [i, j].map PyData.int from rfl, minB_ints (by simp)]
  have e : minI [i, j] = min i j := by
    show (if j < i then j else i) = min i j
    split <;> omega
  rw [e]
theorem enough_before_eq {z r n : Int} {w u : Option Int} {c : List Int} : F_enough_before [.int z, .int r, .int n, optD w, optD u] c = .ok (.val (optD (eb z r n w u))) c := by
  have es : ∀ W U : D, startS 6 [.int z, .int r, .int n, W, U] c = ⟨[.val (.int z), .val (.int r), .val (.int n), .val W, .val U, .un], c⟩ := fun _ _ => rfl
  rw [F_enough_before, fnD_eq, es]
  unfold d_enough_before
  cases w with
  | none =>
    cases u with
    | none => simp -implicitDefEqProofs [eVar_val, optD, eb, dApp_own, eLenN_own, eVar_own]
    | some u => simp -implicitDefEqProofs [eVar_val, optD, eb, dApp_own, eLenN_own, eVar_own, mxD, mn1, sizeLine_eq, -maxB_ii]
  | some w =>
    by_cases h : w + n ≤ z
    · cases u with
      | none => simp -implicitDefEqProofs [eVar_val, optD, eb, dApp_own, eLenN_own, eVar_own, mxD, mn1, sizeLine_eq, h, -maxB_ii]
      | some u => simp -implicitDefEqProofs [eVar_val, optD, eb, dApp_own, eLenN_own, eVar_own, mxD, mn2, sizeLine_eq, h, -maxB_ii]
    · cases u with
      | none => simp -implicitDefEqProofs [eVar_val, optD, eb, dApp_own, eLenN_own, eVar_own, mxD, mn1, sizeLine_eq, h, -maxB_ii]
      | some u => simp -implicitDefEqProofs [eVar_val, optD, eb, dApp_own, eLenN_own, eVar_own, mxD, mn1, sizeLine_eq, h, -maxB_ii]
/-- what a plant is called with -/
structure Px (z : Int) (lo hi ns : List Int) (p : Nat) : Prop where
  z1 : 1 ≤ z
  z2 : z ≤ 200
  we : WeOk lo hi
  wl : lo.length ≤ 12
  n : RowOk ns
  nl : ns.length ≤ 12
  p : p ≤ 6
theorem need_plant_eq {z : Int} {lo hi ns : List Int} {p : Nat} {c : List Int} (P : Px z lo hi ns p) : F_need_plant [.int z, weD lo hi, rowD ns, .int p] c = .ok (.val .none) c := by
  have es : startS 4 [.int z, weD lo hi, rowD ns, .int p] c = ⟨[.val (.int z), .val (weD lo hi), .val (rowD ns), .val (.int p)], c⟩ := rfl
  have e1 := need_integer_eq (c := c) (v := z) (lo := 1) (hi := 200) (x := "size") (by decide)
  rw [if_neg (by have := P.z1; have := P.z2; omega)] at e1
  have e2 := need_weather_eq (c := c) (x := "weather") P.we
  have e3 := need_row_eq (c := c) (x := "needs") P.n
  have e4 := need_integer_eq (c := c) (v := (p : Int)) (lo := 0) (hi := 6) (x := "patience") (by decide)
  rw [if_neg (by have := P.p; omega)] at e4
  have h1 : ¬ (12 : Int) < (lo.map PyData.int).length := by rw [List.length_map]; have := P.wl; omega
  have h2 : ¬ (12 : Int) < (ns.map PyData.int).length := by rw [List.length_map]; have := P.nl; omega
  unfold weD rowD at *
  rw [F_need_plant, fnD_eq, es]
  generalize hi.map PyData.int = HI at *
  generalize lo.map PyData.int = LO at *
  generalize ns.map PyData.int = NS at *
  generalize (p : Int) = PP at *
  unfold d_need_plant
  simp -implicitDefEqProofs [eVar_val, eIxN_val, eLenN_val, at_0, callR_mk e1, callR_mk e2, callR_mk e3, callR_mk e4, h1, h2]
end K10

set_option Elab.async false
set_option linter.all false
set_option maxRecDepth 100000
set_option maxHeartbeats 4000000
/-! K10m2: the greatest lot of states that hold, its thresholds. -/
namespace K10
open PySem PySem.Spec L2 DL
open PyProof.Rows hiding St

structure Ps (z : Int) (lo hi ns : List Int) (p : Nat) (G : Nat → Nat → Int → Prop) : Prop where
  bd : ∀ s a l, G s a l → a ≤ p ∧ 0 ≤ l ∧ l ≤ z
  n0 : ∀ s a l, G s a l → 0 ≤ am ns s
  st : ∀ s a l, G s a l → ∀ r, am lo s ≤ r → r ≤ am hi s → (am ns s ≤ min (l + r) z ∧ G (s + 1) 0 (min (l + r) z - am ns s)) ∨ (a < p ∧ G (s + 1) (a + 1) (min (l + r) z))
/-- the greatest lot of states that hold against all rains -/
def gf (z : Int) (lo hi ns : List Int) (p : Nat) (s a : Nat) (l : Int) : Prop := ∃ G, Ps z lo hi ns p G ∧ G s a l
section
variable {z : Int} {lo hi ns : List Int} {p : Nat}
theorem gf_ps : Ps z lo hi ns p (gf z lo hi ns p) where
  bd := fun s a l ⟨G, h, g⟩ => h.bd s a l g
  n0 := fun s a l ⟨G, h, g⟩ => h.n0 s a l g
  st := fun s a l ⟨G, h, g⟩ r h1 h2 => (h.st s a l g r h1 h2).imp (fun ⟨x, y⟩ => ⟨x, G, h, y⟩) (fun ⟨x, y⟩ => ⟨x, G, h, y⟩)
theorem gf_of {G : Nat → Nat → Int → Prop} (h : Ps z lo hi ns p G) {s a : Nat} {l : Int} (g : G s a l) : gf z lo hi ns p s a l := ⟨G, h, g⟩
theorem gf_up {s a : Nat} {l l' : Int} (h : gf z lo hi ns p s a l) (h1 : l ≤ l') (h2 : l' ≤ z) : gf z lo hi ns p s a l' := by
  refine gf_of (G := fun s a l => l ≤ z ∧ ∃ l0, l0 ≤ l ∧ gf z lo hi ns p s a l0) ⟨?_, fun s a l ⟨_, l0, _, h⟩ => gf_ps.n0 s a l0 h, ?_⟩ ⟨h2, l, h1, h⟩
  · rintro s a l ⟨h1, l0, h2, h3⟩
    obtain ⟨b1, b2, b3⟩ := gf_ps.bd s a l0 h3
    exact ⟨b1, by omega, h1⟩
  · rintro s a l ⟨h1, l0, h2, h3⟩ r r1 r2
    have n0 := gf_ps.n0 s a l0 h3
    rcases gf_ps.st s a l0 h3 r r1 r2 with ⟨x, y⟩ | ⟨x, y⟩
    · exact .inl ⟨by omega, by omega, _, by omega, y⟩
    · exact .inr ⟨x, by omega, _, by omega, y⟩
theorem gf_shift {k : Nat} (h1 : lo.length ∣ k) (h2 : hi.length ∣ k) (h3 : ns.length ∣ k) (s a : Nat) (l : Int) : gf z lo hi ns p (s + k) a l ↔ gf z lo hi ns p s a l := by
  constructor
  · intro g
    refine gf_of (G := fun s a l => gf z lo hi ns p (s + k) a l) ⟨fun s a l h => gf_ps.bd _ a l h, fun s a l h => by have := gf_ps.n0 _ a l h; rw [am_shift h3] at this; exact this, fun s a l h r r1 r2 => ?_⟩ g
    have := gf_ps.st (s + k) a l h r (by rw [am_shift h1]; exact r1) (by rw [am_shift h2]; exact r2)
    rw [am_shift h3] at this
    rw [show s + 1 + k = s + k + 1 by omega]
    exact this
  · intro g
    refine gf_of (G := fun t a l => ∃ s, t = s + k ∧ gf z lo hi ns p s a l) ⟨fun t a l ⟨s, _, h⟩ => gf_ps.bd s a l h, fun t a l ⟨s, e, h⟩ => by rw [e, am_shift h3]; exact gf_ps.n0 s a l h, fun t a l ⟨s, e, h⟩ r r1 r2 => ?_⟩ ⟨s, rfl, g⟩
    subst e
    rw [am_shift h1] at r1
    rw [am_shift h2] at r2
    rw [am_shift h3]
    rcases gf_ps.st s a l h r r1 r2 with ⟨x, y⟩ | ⟨x, y⟩
    · exact .inl ⟨x, s + 1, by omega, y⟩
    · exact .inr ⟨x, s + 1, by omega, y⟩

/-! ### thresholds -/
def thr (b : Option Int) (l : Int) : Prop := ∃ x, b = some x ∧ x ≤ l
def okB (z : Int) (b : Option Int) : Prop := ∀ x, b = some x → 0 ≤ x ∧ x ≤ z
def lev (z : Int) (b : Option Int) : Int := b.getD (z + 1)
theorem thr_lev {b : Option Int} {l : Int} (h : l ≤ z) : thr b l ↔ lev z b ≤ l := by
  unfold thr lev
  cases b with
  | none => simp; omega
  | some x => simp
theorem lev_ok {b : Option Int} (h : okB z b) (hz : 0 ≤ z) : 0 ≤ lev z b ∧ lev z b ≤ z + 1 := by
  unfold lev
  cases b with
  | none => simp; omega
  | some x => have := h x rfl; simp; omega
theorem lev_inj {b b' : Option Int} (h : okB z b) (h' : okB z b') (e : lev z b = lev z b') : b = b' := by
  unfold lev at e
  cases b with
  | none => cases b' with
    | none => rfl
    | some y => have := h' y rfl; simp at e; omega
  | some x => cases b' with
    | none => have := h x rfl; simp at e; omega
    | some y => simp at e; rw [e]
theorem thr_ext {b b' : Option Int} (h : okB z b) (h' : okB z b') (e : ∀ l, 0 ≤ l → l ≤ z → (thr b l ↔ thr b' l)) : b = b' := by
  cases b with
  | none => cases b' with
    | none => rfl
    | some y =>
      have := h' y rfl
      obtain ⟨x, hx, _⟩ := (e y this.1 this.2).mpr ⟨y, rfl, by omega⟩
      cases hx
  | some x =>
    have q := h x rfl
    obtain ⟨y, rfl, hy⟩ := (e x q.1 q.2).mp ⟨x, rfl, by omega⟩
    have q' := h' y rfl
    obtain ⟨x', hx, hx'⟩ := (e y q'.1 q'.2).mpr ⟨y, rfl, by omega⟩
    cases hx
    rw [show x = y by omega]
theorem eb_ok {r n : Int} {w u : Option Int} (hz : 0 ≤ z) (hr : 0 ≤ r) (hn : 0 ≤ n) (hw : okB z w) (hu : okB z u) : okB z (eb z r n w u) := by
  intro x hx
  unfold eb at hx
  cases w with
  | none => cases u with
    | none => cases hx
    | some u => have := hu u rfl; simp only [Option.some.injEq] at hx; omega
  | some w => cases u with
    | none =>
      have := hw w rfl
      simp only at hx
      split at hx <;> simp only [Option.some.injEq, reduceCtorEq] at hx
      omega
    | some u =>
      have := hw w rfl
      have := hu u rfl
      simp only at hx
      split at hx <;> simp only [Option.some.injEq] at hx <;> omega
theorem eb_thr {r n l : Int} {w u : Option Int} (hl : 0 ≤ l) (hl2 : l ≤ z) (hr : 0 ≤ r) (hn : 0 ≤ n) (hw : okB z w) (hu : okB z u) :
    thr (eb z r n w u) l ↔ (n ≤ min (l + r) z ∧ thr w (min (l + r) z - n)) ∨ thr u (min (l + r) z) := by
  unfold eb thr
  cases w with
  | none => cases u with
    | none => simp
    | some u => have := hu u rfl; simp; omega
  | some w => cases u with
    | none =>
      have := hw w rfl
      simp only
      split <;> simp <;> omega
    | some u =>
      have := hw w rfl
      have := hu u rfl
      simp only
      split <;> simp <;> omega
theorem eb_mono {r n : Int} {w u w' u' : Option Int} (hz : 0 ≤ z) (hr : 0 ≤ r) (hn : 0 ≤ n) (hw : okB z w) (hu : okB z u) (hw' : okB z w') (hu' : okB z u') (h1 : lev z w ≤ lev z w') (h2 : lev z u ≤ lev z u') :
    lev z (eb z r n w u) ≤ lev z (eb z r n w' u') := by
  have q := lev_ok (eb_ok hz hr hn hw' hu') hz
  have q2 := lev_ok (eb_ok hz hr hn hw hu) hz
  by_cases c : lev z (eb z r n w' u') ≤ z
  · have a1 := (thr_lev (z := z) c).mpr (Int.le_refl _)
    rw [eb_thr q.1 c hr hn hw' hu'] at a1
    refine (thr_lev c).mp ((eb_thr q.1 c hr hn hw hu).mpr ?_)
    generalize lev z (eb z r n w' u') = l at *
    have m1 : min (l + r) z - n ≤ z := by omega
    have m2 : min (l + r) z ≤ z := by omega
    rcases a1 with ⟨a, b⟩ | a
    · refine .inl ⟨a, ?_⟩
      rw [thr_lev m1] at b ⊢
      omega
    · refine .inr ?_
      rw [thr_lev m2] at a ⊢
      omega
  · omega
/-- the least level that is enough -/
theorem bk_ex (z : Int) (lo hi ns : List Int) (p s a : Nat) : ∃ b, okB z b ∧ ∀ l, 0 ≤ l → l ≤ z → (thr b l ↔ gf z lo hi ns p s a l) := by
  by_cases h : ∃ l, gf z lo hi ns p s a l
  · obtain ⟨l, h⟩ := h
    obtain ⟨b1, b2, b3⟩ := gf_ps.bd s a l h
    obtain ⟨k, k1, k2, k3⟩ := st_least (p := fun n : Nat => gf z lo hi ns p s a n) l.toNat (by rw [show ((l.toNat : Nat) : Int) = l by omega]; exact h)
    refine ⟨some (k : Int), fun x e => (by cases e; omega), fun m m1 m2 => ⟨?_, fun g => ?_⟩⟩
    · rintro ⟨x, e, hx⟩
      cases e
      exact gf_up k2 hx m2
    · refine ⟨_, rfl, ?_⟩
      rcases Int.lt_or_le m k with c | c
      · exact absurd (by rw [show ((m.toNat : Nat) : Int) = m by omega]; exact g) (k3 m.toNat (by omega))
      · exact c
  · refine ⟨none, fun x e => (by cases e), fun m _ _ => ⟨fun ⟨x, e, _⟩ => (by cases e), fun g => absurd ⟨m, g⟩ h⟩⟩
noncomputable def bk (z : Int) (lo hi ns : List Int) (p s a : Nat) : Option Int := Classical.choose (bk_ex z lo hi ns p s a)
theorem bk_ok (s a : Nat) : okB z (bk z lo hi ns p s a) := (Classical.choose_spec (bk_ex z lo hi ns p s a)).1
theorem bk_gf {s a : Nat} {l : Int} (h1 : 0 ≤ l) (h2 : l ≤ z) : thr (bk z lo hi ns p s a) l ↔ gf z lo hi ns p s a l := (Classical.choose_spec (bk_ex z lo hi ns p s a)).2 l h1 h2
theorem bk_uniq {s a : Nat} {b : Option Int} (h : okB z b) (e : ∀ l, 0 ≤ l → l ≤ z → (thr b l ↔ gf z lo hi ns p s a l)) : b = bk z lo hi ns p s a :=
  thr_ext h (bk_ok s a) fun l h1 h2 => (e l h1 h2).trans (bk_gf h1 h2).symm
theorem bk_shift {k : Nat} (h1 : lo.length ∣ k) (h2 : hi.length ∣ k) (h3 : ns.length ∣ k) (s a : Nat) : bk z lo hi ns p (s + k) a = bk z lo hi ns p s a :=
  bk_uniq (bk_ok _ _) fun l l1 l2 => (bk_gf l1 l2).trans (gf_shift h1 h2 h3 s a l)

/-! ### the book while it rises -/
abbrev Bk := Nat → Nat → Option Int
def ph (z : Int) (lo ns : List Int) (p T : Nat) (B : Bk) (s a : Nat) : Option Int := eb z (am lo s) (am ns s) (B ((s + 1) % T) 0) (if a < p then B ((s + 1) % T) (a + 1) else none)
def putB (B : Bk) (s a : Nat) (v : Option Int) : Bk := fun s' a' => if s' = s ∧ a' = a then v else B s' a'
structure BI (z : Int) (lo hi ns : List Int) (p T : Nat) (B : Bk) : Prop where
  ok : ∀ s a, s < T → a ≤ p → okB z (B s a)
  up : ∀ s a, s < T → a ≤ p → lev z (B s a) ≤ lev z (ph z lo ns p T B s a)
  gf : ∀ s a l, gf z lo hi ns p s a l → lev z (B (s % T) a) ≤ l
/-- rows of drawn kinds, a turn of them -/
structure Rw (z : Int) (lo hi ns : List Int) (T : Nat) : Prop where
  z0 : 0 ≤ z
  T0 : 0 < T
  d1 : lo.length ∣ T
  d2 : hi.length ∣ T
  d3 : ns.length ∣ T
  l0 : ∀ s, 0 ≤ am lo s
  lh : ∀ s, am lo s ≤ am hi s
  n0 : ∀ s, 0 ≤ am ns s
theorem am_mod {xs : List Int} {T : Nat} (h : xs.length ∣ T) (s : Nat) : am xs (s % T) = am xs s := by
  have e : s = s % T + T * (s / T) := (Nat.mod_add_div s T).symm
  have h2 : xs.length ∣ T * (s / T) := Nat.dvd_trans h (Nat.dvd_mul_right _ _)
  conv => rhs; rw [e]
  rw [am_shift h2]
theorem mod_succ {T s : Nat} : (s % T + 1) % T = (s + 1) % T := by rw [Nat.mod_add_mod]
section
variable {T : Nat} {B : Bk}
theorem okN : okB z none := fun x h => by cases h
theorem ok_wait {a : Nat} (R : Rw z lo hi ns T) (I : ∀ s a, s < T → a ≤ p → okB z (B s a)) (s : Nat) : okB z (if a < p then B ((s + 1) % T) (a + 1) else none) := by
  split
  · exact I _ _ (Nat.mod_lt _ R.T0) (by omega)
  · exact okN
theorem ph_ok (R : Rw z lo hi ns T) (I : ∀ s a, s < T → a ≤ p → okB z (B s a)) (s a : Nat) : okB z (ph z lo ns p T B s a) :=
  eb_ok R.z0 (R.l0 s) (R.n0 s) (I _ _ (Nat.mod_lt _ R.T0) (Nat.zero_le _)) (ok_wait R I s)
theorem BI.put (R : Rw z lo hi ns T) (I : BI z lo hi ns p T B) {s a : Nat} (hs : s < T) (ha : a ≤ p) : BI z lo hi ns p T (putB B s a (ph z lo ns p T B s a)) := by
  have hok : ∀ s' a', s' < T → a' ≤ p → okB z (putB B s a (ph z lo ns p T B s a) s' a') := fun s' a' h1 h2 => by
    unfold putB
    split
    · exact ph_ok R I.ok s a
    · exact I.ok s' a' h1 h2
  have hle : ∀ s' a', s' < T → a' ≤ p → lev z (B s' a') ≤ lev z (putB B s a (ph z lo ns p T B s a) s' a') := fun s' a' h1 h2 => by
    unfold putB
    split
    · rename_i e
      rw [e.1, e.2]
      exact I.up s a hs ha
    · exact Int.le_refl _
  have hph : ∀ s' a', s' < T → a' ≤ p → lev z (ph z lo ns p T B s' a') ≤ lev z (ph z lo ns p T (putB B s a (ph z lo ns p T B s a)) s' a') := fun s' a' h1 h2 => by
    refine eb_mono R.z0 (R.l0 s') (R.n0 s') (I.ok _ _ (Nat.mod_lt _ R.T0) (Nat.zero_le _)) (ok_wait R I.ok s') (hok _ _ (Nat.mod_lt _ R.T0) (Nat.zero_le _)) (ok_wait R hok s') (hle _ _ (Nat.mod_lt _ R.T0) (Nat.zero_le _)) ?_
    split
    · exact hle _ _ (Nat.mod_lt _ R.T0) (by omega)
    · exact Int.le_refl _
  refine ⟨hok, fun s' a' h1 h2 => ?_, fun s' a' l g => ?_⟩
  · by_cases e : s' = s ∧ a' = a
    · have e1 : putB B s a (ph z lo ns p T B s a) s' a' = ph z lo ns p T B s a := if_pos e
      rw [e1, e.1, e.2]
      exact hph s a hs ha
    · have e1 : putB B s a (ph z lo ns p T B s a) s' a' = B s' a' := if_neg e
      rw [e1]
      exact Int.le_trans (I.up s' a' h1 h2) (hph s' a' h1 h2)
  · unfold putB
    split
    · rename_i e
      obtain ⟨e1, e2⟩ := e
      obtain ⟨b1, b2, b3⟩ := gf_ps.bd s' a' l g
      rw [← thr_lev b3]
      unfold ph
      rw [eb_thr b2 b3 (R.l0 s) (R.n0 s) (I.ok _ _ (Nat.mod_lt _ R.T0) (Nat.zero_le _)) (ok_wait R I.ok s)]
      have q := gf_ps.st s' a' l g (am lo s') (Int.le_refl _) (R.lh s')
      have f1 : am lo s = am lo s' := by rw [← e1, am_mod R.d1]
      have f3 : am ns s = am ns s' := by rw [← e1, am_mod R.d3]
      have fs : (s + 1) % T = (s' + 1) % T := by rw [← e1, mod_succ]
      rw [f1, f3, fs, ← e2]
      rcases q with ⟨x, y⟩ | ⟨x, y⟩
      · refine .inl ⟨x, ?_⟩
        have := I.gf _ _ _ y
        have m1 : min (l + am lo s') z - am ns s' ≤ z := by have := R.n0 s'; omega
        rw [thr_lev m1]
        exact this
      · refine .inr ?_
        have := I.gf _ _ _ y
        have m2 : min (l + am lo s') z ≤ z := by omega
        rw [if_pos x, thr_lev m2]
        exact this
    · exact I.gf s' a' l g
theorem BI.zero (R : Rw z lo hi ns T) : BI z lo hi ns p T fun _ _ => some 0 := by
  refine ⟨fun s a _ _ x e => (by cases e; exact ⟨Int.le_refl _, R.z0⟩), fun s a h1 h2 => ?_, fun s a l g => (gf_ps.bd s a l g).2.1⟩
  exact (lev_ok (ph_ok (p := p) R (fun s a _ _ x e => (by cases e; exact ⟨Int.le_refl _, R.z0⟩)) s a) R.z0).1
/-- when nothing rises any more -/
theorem BI.done (R : Rw z lo hi ns T) (I : BI z lo hi ns p T B) (st : ∀ s a, s < T → a ≤ p → ph z lo ns p T B s a = B s a) {s a : Nat} (hs : s < T) (ha : a ≤ p) : B s a = bk z lo hi ns p s a := by
  refine bk_uniq (I.ok s a hs ha) fun l l1 l2 => ?_
  rw [thr_lev l2]
  constructor
  · intro h
    refine gf_of (G := fun s a l => a ≤ p ∧ 0 ≤ l ∧ l ≤ z ∧ lev z (B (s % T) a) ≤ l) ⟨fun s a l h => ⟨h.1, h.2.1, h.2.2.1⟩, fun s a l _ => R.n0 s, ?_⟩ ⟨ha, l1, l2, by rw [Nat.mod_eq_of_lt hs]; exact h⟩
    rintro s a l ⟨h1, h2, h3, h4⟩ r r1 r2
    have hst := Nat.mod_lt s R.T0
    rw [← st _ a hst h1, ← thr_lev h3] at h4
    unfold ph at h4
    rw [eb_thr h2 h3 (R.l0 _) (R.n0 _) (I.ok _ _ (Nat.mod_lt _ R.T0) (Nat.zero_le _)) (ok_wait R I.ok _), am_mod R.d1, am_mod R.d3, mod_succ] at h4
    have n0 := R.n0 s
    have l0 := R.l0 s
    have m1 : min (l + am lo s) z - am ns s ≤ z := by omega
    have m2 : min (l + am lo s) z ≤ z := by omega
    rcases h4 with ⟨x, y⟩ | y
    · rw [thr_lev m1] at y
      exact .inl ⟨by omega, Nat.zero_le _, by omega, by omega, by omega⟩
    · by_cases c : a < p
      · rw [if_pos c, thr_lev m2] at y
        exact .inr ⟨c, c, by omega, by omega, by omega⟩
      · rw [if_neg c] at y
        obtain ⟨_, e, _⟩ := y
        cases e
  · intro g
    have := I.gf s a l g
    rw [Nat.mod_eq_of_lt hs] at this
    exact this
end
end
end K10

set_option Elab.async false
set_option linter.all false
set_option maxRecDepth 100000
set_option maxHeartbeats 4000000
/-! K10m3: one turn of the book's loops. -/
namespace K10
open PySem PySem.Spec L2 DL
open PyProof.Rows hiding St

/-! ### lists of lists -/
def rowL (B : Bk) (p s : Nat) : List D := (List.range (p + 1)).map fun a => optD (B s a)
def bookL (B : Bk) (T p : Nat) : List (List D) := (List.range T).map fun s => rowL B p s
section
variable {B : Bk} {T p s a : Nat}
theorem rowL_len : (rowL B p s).length = p + 1 := by unfold rowL; simp
theorem bookL_len : (bookL B T p).length = T := by unfold bookL; simp
theorem rowL_at (h : a ≤ p) : (rowL B p s)[a]? = some (optD (B s a)) := by
  unfold rowL
  rw [List.getElem?_map, List.getElem?_range (by omega)]
  rfl
theorem bookL_at (h : s < T) : (bookL B T p)[s]? = some (rowL B p s) := by
  unfold bookL
  rw [List.getElem?_map, List.getElem?_range h]
  rfl
theorem rowL_put {v : Option Int} (h : a ≤ p) : (rowL B p s).set a (optD v) = rowL (putB B s a v) p s := by
  apply List.ext_getElem?
  intro j
  by_cases q : j = a
  · subst q
    rw [List.getElem?_set_self (by rw [rowL_len]; omega), rowL_at h]
    unfold putB
    rw [if_pos ⟨rfl, rfl⟩]
  · rw [List.getElem?_set_ne (Ne.symm q)]
    by_cases g : j ≤ p
    · rw [rowL_at g, rowL_at g]
      unfold putB
      rw [if_neg fun z => q z.2]
    · rw [List.getElem?_eq_none (by rw [rowL_len]; omega), List.getElem?_eq_none (by rw [rowL_len]; omega)]
theorem bookL_put {v : Option Int} (hs : s < T) (h : a ≤ p) : (bookL B T p).set s ((rowL B p s).set a (optD v)) = bookL (putB B s a v) T p := by
  apply List.ext_getElem?
  intro j
  by_cases q : j = s
  · subst q
    rw [List.getElem?_set_self (by rw [bookL_len]; omega), bookL_at hs, rowL_put h]
  · rw [List.getElem?_set_ne (Ne.symm q)]
    by_cases g : j < T
    · rw [bookL_at g, bookL_at g]
      congr 1
      unfold rowL putB
      refine List.map_congr_left fun x _ => ?_
      rw [if_neg fun z => q z.1]
    · rw [List.getElem?_eq_none (by rw [bookL_len]; omega), List.getElem?_eq_none (by rw [bookL_len]; omega)]
end
theorem eIxA_at {j i k : Nat} {b : DE} {s : S} {xss : List (List D)} {xs : List D} {n : Int} {d : D} (h : s.e[j]? = some (.ali i k)) (h2 : s.e[i]? = some (.nst xss)) (hx : xss[k]? = some xs) (hb : b s = .ok (.val (.int n)) s) (hn : atI xs n = some d) : eIxA j b s = .ok (.val d) s := by
  unfold eIxA
  simp only [h, h2, hx, hb, bind_ok, Sl.d_val, ixD_lst, hn, Option.map_some, liftR_val]
theorem eGetN_at {i : Nat} {a b : DE} {s : S} {xss : List (List D)} {xs : List D} {n m : Int} {d : D} (h : s.e[i]? = some (.nst xss)) (ha : a s = .ok (.val (.int n)) s) (hx : atI xss n = some xs) (hb : b s = .ok (.val (.int m)) s) (hn : atI xs m = some d) : eGetN i a b s = .ok (.val d) s := by
  unfold eGetN
  simp only [h, ha, hx, hb, bind_ok, Sl.d_val, ixD_lst, hn, Option.map_some, liftR_val]
theorem dAli_at {j i k : Nat} {a : DE} {s : S} {xss : List (List D)} {n : Int} (h : s.e[i]? = some (.nst xss)) (ha : a s = .ok (.val (.int n)) s) (hk : ixN xss.length n = some k) : dAli j i a s = .nx { s with e := s.e.set j (.ali i k) } := by
  unfold dAli
  simp only [h, ha, st_ok, Sl.d_val, hk]
theorem ixN_nat {n i : Nat} (h : i < n) : ixN n (i : Int) = some i := by
  rw [ixN_ok (by omega) (by omega)]
  simp
theorem neD_opt {x y : Option Int} : neD (optD x) (optD y) = some (.val (.bool (!decide (x = y)))) := by
  cases x with
  | none => cases y with
    | none => rfl
    | some y => rfl
  | some x => cases y with
    | none => rfl
    | some y =>
      show neD (.int x) (.int y) = _
      rw [neD_ii]
      by_cases h : x = y
      · subst h; simp
      · have : ¬ some x = some y := fun z => h (Option.some.inj z)
        rw [decide_eq_false h, decide_eq_false this]

/-! ### one cell -/
abbrev bS (z : Int) (lo hi ns : List Int) (p T : Nat) (B : Bk) (x6 x7 x8 x9 x10 x11 x12 : Sl) (c : List Int) : S :=
  ⟨[.val (.int z), .val (weD lo hi), .val (rowD ns), .val (.int p), .val (.int T), .nst (bookL B T p), x6, x7, x8, x9, x10, x11, x12], c⟩
section
variable {z : Int} {lo hi ns : List Int} {p T s a : Nat} {B : Bk} {c : List Int} {x10 x11 x12 f : Sl}
theorem cell_eq (P : Px z lo hi ns p) (hT : 0 < T) (hs : s < T) (ha : a ≤ p) : ∃ y10 y11 y12, d_book_of_b2 (bS z lo hi ns p T B (.val (.int s)) f (.ali 5 ((s + 1) % T)) (.val (.int a)) x10 x11 x12 c) =
    if ph z lo ns p T B s a = B s a then .nx (bS z lo hi ns p T B (.val (.int s)) f (.ali 5 ((s + 1) % T)) (.val (.int a)) y10 y11 y12 c)
    else .nx (bS z lo hi ns p T (putB B s a (ph z lo ns p T B s a)) (.val (.int s)) (.val (.bool false)) (.ali 5 ((s + 1) % T)) (.val (.int a)) y10 y11 y12 c) := by
  have hk : (s + 1) % T < T := Nat.mod_lt _ hT
  have e1 := amount_at_eq (ns := lo) (i := s) (c := c) P.we.l.1 P.we.l.2.1
  have e2 := amount_at_eq (ns := ns) (i := s) (c := c) P.n.1 P.n.2.1
  have b1 := bookL_at (B := B) (p := p) hk
  have b2 := bookL_at (B := B) (p := p) hs
  have r0 := rowL_at (B := B) (p := p) (s := (s + 1) % T) (a := 0) (Nat.zero_le _)
  have rs := rowL_at (B := B) (p := p) (s := s) ha
  have put := bookL_put (B := B) (v := ph z lo ns p T B s a) hs ha
  have bl := bookL_len (B := B) (T := T) (p := p)
  have rl := rowL_len (B := B) (p := p) (s := s)
  have wait : ∀ (y10 y11 y12 : Sl), eIf (eLt (eVar 9) (eVar 3)) (eIxA 8 (eAdd (eVar 9) (eC (.int 1)))) (eC .none) (bS z lo hi ns p T B (.val (.int s)) f (.ali 5 ((s + 1) % T)) (.val (.int a)) y10 y11 y12 c) =
      .ok (.val (optD (if a < p then B ((s + 1) % T) (a + 1) else none))) (bS z lo hi ns p T B (.val (.int s)) f (.ali 5 ((s + 1) % T)) (.val (.int a)) y10 y11 y12 c) := fun y10 y11 y12 => by
    have hlt : eLt (eVar 9) (eVar 3) (bS z lo hi ns p T B (.val (.int s)) f (.ali 5 ((s + 1) % T)) (.val (.int a)) y10 y11 y12 c) = .ok (.val (.bool (decide ((a : Int) < p)))) (bS z lo hi ns p T B (.val (.int s)) f (.ali 5 ((s + 1) % T)) (.val (.int a)) y10 y11 y12 c) := by
      dsimp only [bS]
      generalize (a : Int) = A
      generalize (p : Int) = PP
      generalize (T : Int) = TT
      generalize (s : Int) = SS
      generalize weD lo hi = WD
      generalize rowD ns = NS
      simp -implicitDefEqProofs [eVar_val]
    rw [eIf_eq, hlt, test_ok]
    by_cases h : a < p
    · have r1 := rowL_at (B := B) (p := p) (s := (s + 1) % T) (a := a + 1) h
      have e := eIxA_at (j := 8) (i := 5) (k := (s + 1) % T) (b := eAdd (eVar 9) (eC (.int 1))) (s := bS z lo hi ns p T B (.val (.int s)) f (.ali 5 ((s + 1) % T)) (.val (.int a)) y10 y11 y12 c) rfl rfl b1 (n := ((a + 1 : Nat) : Int)) (by
        rw [show ((a + 1 : Nat) : Int) = (a : Int) + 1 by omega]
        dsimp only [bS]
        generalize (a : Int) = A
        generalize (p : Int) = PP
        generalize (T : Int) = TT
        generalize (s : Int) = SS
        generalize weD lo hi = WD
        generalize rowD ns = NS
        simp -implicitDefEqProofs [eVar_val]) (atI_nat r1)
      rw [if_pos h, if_pos (decide_eq_true (by omega)), e]
    · rw [if_neg h, if_neg (by rw [decide_eq_false (by omega)]; simp)]
      rfl
  refine ⟨.val (optD (if a < p then B ((s + 1) % T) (a + 1) else none)), .val (.int (am lo s)), .val (optD (ph z lo ns p T B s a)), ?_⟩
  have e3 := enough_before_eq (z := z) (r := am lo s) (n := am ns s) (w := B ((s + 1) % T) 0) (u := if a < p then B ((s + 1) % T) (a + 1) else none) (c := c)
  rw [show eb z (am lo s) (am ns s) (B ((s + 1) % T) 0) (if a < p then B ((s + 1) % T) (a + 1) else none) = ph z lo ns p T B s a from rfl] at e3
  generalize (if a < p then B ((s + 1) % T) (a + 1) else none) = W at *
  generalize ph z lo ns p T B s a = V at *
  have later := fun (y10 y11 y12 : Sl) => eIxA_at (j := 8) (i := 5) (k := (s + 1) % T) (b := eC (.int 0)) (s := bS z lo hi ns p T B (.val (.int s)) f (.ali 5 ((s + 1) % T)) (.val (.int a)) y10 y11 y12 c) rfl rfl b1 (n := 0) rfl (atI_nat r0)
  have now := fun (y10 y11 y12 : Sl) => eGetN_at (i := 5) (a := eVar 6) (b := eVar 9) (s := bS z lo hi ns p T B (.val (.int s)) f (.ali 5 ((s + 1) % T)) (.val (.int a)) y10 y11 y12 c) rfl (by exact eVar_val rfl) (atI_nat b2) (by exact eVar_val rfl) (atI_nat rs)
  have store := fun (y10 y11 : Sl) => dStoreN_at (i := 5) (a := eVar 6) (b := eVar 9) (v := eVar 12) (s := bS z lo hi ns p T B (.val (.int s)) f (.ali 5 ((s + 1) % T)) (.val (.int a)) y10 y11 (.val (optD V)) c) (x := .val (optD V)) (by exact eVar_val rfl) rfl (by exact eVar_val rfl) (k := s) (by rw [bl]; exact ixN_nat hs) (by exact eVar_val rfl) b2 (l := a) (by rw [rl]; exact ixN_nat (by omega))
  have ne := neD_opt (x := V) (y := B s a)
  rw [Sl.d_val, put] at store
  dsimp only [bS] at *
  unfold weD rowD at *
  have w0 : atI [PyData.tuple (lo.map PyData.int), .tuple (hi.map PyData.int)] 0 = some (.tuple (lo.map PyData.int)) := rfl
  generalize bookL (putB B s a V) T p = BK2 at *
  generalize bookL B T p = BK at *
  generalize lo.map PyData.int = LO at *
  generalize hi.map PyData.int = HI at *
  generalize ns.map PyData.int = NS at *
  unfold d_book_of_b2
  by_cases h : V = B s a
  · rw [if_pos h]
    rw [decide_eq_true h] at ne
    generalize optD V = OV at *
    generalize optD (B s a) = OB at *
    generalize optD (B ((s + 1) % T) 0) = OL at *
    generalize optD W = OW at *
    generalize (s : Int) = SS at *
    generalize (a : Int) = A at *
    generalize (p : Int) = PP at *
    generalize (T : Int) = TT at *
    simp -implicitDefEqProofs [wait, eVar_val, eIxN_val, w0, callR_mk e1, callR_mk e2, later, callR_mk e3, now, ne, -eIf_eq, -eLt_eq, -eAdd_eq]
  · rw [if_neg h]
    rw [decide_eq_false h] at ne
    generalize optD V = OV at *
    generalize optD (B s a) = OB at *
    generalize optD (B ((s + 1) % T) 0) = OL at *
    generalize optD W = OW at *
    generalize (s : Int) = SS at *
    generalize (a : Int) = A at *
    generalize (p : Int) = PP at *
    generalize (T : Int) = TT at *
    simp -implicitDefEqProofs [wait, eVar_val, eIxN_val, w0, callR_mk e1, callR_mk e2, later, callR_mk e3, now, ne, store, -eIf_eq, -eLt_eq, -eAdd_eq]
end
end K10

set_option Elab.async false
set_option linter.all false
set_option maxRecDepth 100000
set_option maxHeartbeats 4000000
/-! K10m4: book_of. -/
namespace K10
open PySem PySem.Spec L2 DL
open PyProof.Rows hiding St

/-- a round that began with B0 and now stands at B; seen: the cells that came already -/
structure Jr (z : Int) (lo hi ns : List Int) (p T : Nat) (B0 B : Bk) (f : Bool) (seen : Nat → Nat → Prop) : Prop where
  bi : BI z lo hi ns p T B
  mono : ∀ s a, s < T → a ≤ p → lev z (B0 s a) ≤ lev z (B s a)
  tt : f = true → B = B0 ∧ ∀ s a, s < T → a ≤ p → seen s a → ph z lo ns p T B0 s a = B0 s a
  ff : f = false → ∃ s a, s < T ∧ a ≤ p ∧ lev z (B0 s a) < lev z (B s a)
theorem Jr.to {z : Int} {lo hi ns : List Int} {p T : Nat} {B0 B : Bk} {f : Bool} {seen seen' : Nat → Nat → Prop} (J : Jr z lo hi ns p T B0 B f seen) (h : ∀ s a, s < T → a ≤ p → seen' s a → seen s a) : Jr z lo hi ns p T B0 B f seen' :=
  ⟨J.bi, J.mono, fun e => ⟨(J.tt e).1, fun s a h1 h2 h3 => (J.tt e).2 s a h1 h2 (h s a h1 h2 h3)⟩, J.ff⟩
section
variable {z : Int} {lo hi ns : List Int} {p T : Nat} {B0 B : Bk} {c : List Int} {f : Bool}
abbrev seenA (s a : Nat) : Nat → Nat → Prop := fun s' a' => s < s' ∨ (s' = s ∧ a' < a)
theorem cell_j (P : Px z lo hi ns p) (R : Rw z lo hi ns T) {s a : Nat} (hs : s < T) (ha : a ≤ p) (J : Jr z lo hi ns p T B0 B f (seenA s a)) {x10 x11 x12 : Sl} :
    ∃ B' f' y10 y11 y12, Jr z lo hi ns p T B0 B' f' (seenA s (a + 1)) ∧ d_book_of_b2 (bS z lo hi ns p T B (.val (.int s)) (.val (.bool f)) (.ali 5 ((s + 1) % T)) (.val (.int a)) x10 x11 x12 c) =
      .nx (bS z lo hi ns p T B' (.val (.int s)) (.val (.bool f')) (.ali 5 ((s + 1) % T)) (.val (.int a)) y10 y11 y12 c) := by
  obtain ⟨y10, y11, y12, e⟩ := cell_eq (c := c) (f := .val (.bool f)) (x10 := x10) (x11 := x11) (x12 := x12) (B := B) P R.T0 hs ha
  by_cases h : ph z lo ns p T B s a = B s a
  · rw [if_pos h] at e
    refine ⟨B, f, y10, y11, y12, ⟨J.bi, J.mono, fun ft => ⟨(J.tt ft).1, fun s' a' h1 h2 h3 => ?_⟩, J.ff⟩, e⟩
    rcases h3 with h3 | ⟨h3, h4⟩
    · exact (J.tt ft).2 s' a' h1 h2 (.inl h3)
    · by_cases q : a' = a
      · subst h3 q
        have := (J.tt ft).1
        subst this
        exact h
      · exact (J.tt ft).2 s' a' h1 h2 (.inr ⟨h3, by omega⟩)
  · rw [if_neg h] at e
    have lt : lev z (B s a) < lev z (ph z lo ns p T B s a) := by
      have h1 := J.bi.up s a hs ha
      rcases Int.lt_or_eq_of_le h1 with h2 | h2
      · exact h2
      · exact absurd (lev_inj (ph_ok R J.bi.ok s a) (J.bi.ok s a hs ha) h2.symm) h
    refine ⟨putB B s a (ph z lo ns p T B s a), false, y10, y11, y12, ⟨J.bi.put R hs ha, fun s' a' h1 h2 => ?_, fun ft => (by cases ft), fun _ => ⟨s, a, hs, ha, ?_⟩⟩, e⟩
    · have := J.mono s' a' h1 h2
      unfold putB
      split
      · rename_i q
        rw [q.1, q.2] at this ⊢
        omega
      · exact this
    · have := J.mono s a hs ha
      unfold putB
      rw [if_pos ⟨rfl, rfl⟩]
      omega
theorem age_loop (P : Px z lo hi ns p) (R : Rw z lo hi ns T) {s : Nat} (hs : s < T) : ∀ (m a : Nat) (B : Bk) (f : Bool) (x9 x10 x11 x12 : Sl), a + m = p + 1 → Jr z lo hi ns p T B0 B f (seenA s a) →
    ∃ B' f' y9 y10 y11 y12, Jr z lo hi ns p T B0 B' f' (seenA s (p + 1)) ∧ forL (gSet 9) d_book_of_b2 (rangeD a m) (bS z lo hi ns p T B (.val (.int s)) (.val (.bool f)) (.ali 5 ((s + 1) % T)) x9 x10 x11 x12 c) =
      .nx (bS z lo hi ns p T B' (.val (.int s)) (.val (.bool f')) (.ali 5 ((s + 1) % T)) y9 y10 y11 y12 c)
  | 0, a, B, f, x9, x10, x11, x12, h, J => ⟨B, f, x9, x10, x11, x12, by rw [← h]; exact J, rfl⟩
  | m + 1, a, B, f, x9, x10, x11, x12, h, J => by
    obtain ⟨B1, f1, y10, y11, y12, J1, e1⟩ := cell_j (c := c) (x10 := x10) (x11 := x11) (x12 := x12) P R hs (a := a) (by omega) J
    obtain ⟨B2, f2, z9, z10, z11, z12, J2, e2⟩ := age_loop P R hs m (a + 1) B1 f1 (.val (.int a)) y10 y11 y12 (by omega) J1
    refine ⟨B2, f2, z9, z10, z11, z12, J2, ?_⟩
    rw [rangeD_succ, forL_nx rfl (s2 := bS z lo hi ns p T B1 (.val (.int s)) (.val (.bool f1)) (.ali 5 ((s + 1) % T)) (.val (.int a)) y10 y11 y12 c) e1]
    exact e2
theorem step_eq (P : Px z lo hi ns p) (R : Rw z lo hi ns T) (hT : T ≤ 1000) {s : Nat} (hs : s < T) (J : Jr z lo hi ns p T B0 B f (seenA s 0)) {x8 x9 x10 x11 x12 : Sl} :
    ∃ B' f' y8 y9 y10 y11 y12, Jr z lo hi ns p T B0 B' f' (seenA s (p + 1)) ∧ d_book_of_b3 (bS z lo hi ns p T B (.val (.int s)) (.val (.bool f)) x8 x9 x10 x11 x12 c) =
      .nx (bS z lo hi ns p T B' (.val (.int s)) (.val (.bool f')) y8 y9 y10 y11 y12 c) := by
  obtain ⟨B', f', y9, y10, y11, y12, J', e⟩ := age_loop (c := c) (B0 := B0) P R hs (p + 1) 0 B f x9 x10 x11 x12 (by omega) J
  refine ⟨B', f', .ali 5 ((s + 1) % T), y9, y10, y11, y12, J', ?_⟩
  have hp := P.p
  have r := fun st => rng1K_int (j := (p : Int) + 1) (s := st) (by omega) (by omega)
  rw [show ((p : Int) + 1).toNat = p + 1 by omega] at r
  have hm : (((s + 1) % T : Nat) : Int) = ((s : Int) + 1) % (T : Int) := by rw [Int.natCast_emod]; rfl
  have md : modD (.int ((s : Int) + 1)) (.int T) = some (.val (.int (((s + 1) % T : Nat) : Int))) := by rw [hm]; exact modD_ii (by have := R.T0; omega)
  have al := dAli_at (j := 8) (i := 5) (k := (s + 1) % T) (a := eMod (eAdd (eVar 6) (eC (.int 1))) (eVar 4)) (s := bS z lo hi ns p T B (.val (.int s)) (.val (.bool f)) x8 x9 x10 x11 x12 c) rfl (n := (((s + 1) % T : Nat) : Int)) (by
    dsimp only [bS]
    generalize (((s + 1) % T : Nat) : Int) = M at *
    generalize (p : Int) = PP
    generalize (T : Int) = TT at *
    generalize (s : Int) = SS at *
    generalize weD lo hi = WD
    generalize rowD ns = NS
    simp -implicitDefEqProofs [eVar_val, md]) (by rw [bookL_len]; exact ixN_nat (Nat.mod_lt _ R.T0))
  have al : dAli 8 5 (eMod (eAdd (eVar 6) (eC (.int 1))) (eVar 4)) (bS z lo hi ns p T B (.val (.int s)) (.val (.bool f)) x8 x9 x10 x11 x12 c) = .nx (bS z lo hi ns p T B (.val (.int s)) (.val (.bool f)) (.ali 5 ((s + 1) % T)) x9 x10 x11 x12 c) := al
  have it : ∀ g b, dFor (iRng1 (eAdd (eVar 3) (eC (.int 1)))) g b (bS z lo hi ns p T B (.val (.int s)) (.val (.bool f)) (.ali 5 ((s + 1) % T)) x9 x10 x11 x12 c) = forL g b (rangeD 0 (p + 1)) (bS z lo hi ns p T B (.val (.int s)) (.val (.bool f)) (.ali 5 ((s + 1) % T)) x9 x10 x11 x12 c) := fun g b => by
    dsimp only [bS]
    generalize (p : Int) = PP at *
    generalize (T : Int) = TT at *
    generalize (s : Int) = SS at *
    generalize weD lo hi = WD
    generalize rowD ns = NS
    simp -implicitDefEqProofs [eVar_val, r]
  rw [d_book_of_b3, dSeq_eq, al, seq_nx, it]
  exact e
theorem steps_loop (P : Px z lo hi ns p) (R : Rw z lo hi ns T) (hT : T ≤ 1000) : ∀ (m : Nat) (B : Bk) (f : Bool) (x6 x8 x9 x10 x11 x12 : Sl), m ≤ T → Jr z lo hi ns p T B0 B f (fun s _ => m ≤ s) →
    ∃ B' f' y6 y8 y9 y10 y11 y12, Jr z lo hi ns p T B0 B' f' (fun _ _ => True) ∧ forL (gSet 6) d_book_of_b3 (downD ((m : Int) - 1) m) (bS z lo hi ns p T B x6 (.val (.bool f)) x8 x9 x10 x11 x12 c) =
      .nx (bS z lo hi ns p T B' y6 (.val (.bool f')) y8 y9 y10 y11 y12 c)
  | 0, B, f, x6, x8, x9, x10, x11, x12, _, J => ⟨B, f, x6, x8, x9, x10, x11, x12, J.to fun _ _ _ _ _ => Nat.zero_le _, rfl⟩
  | m + 1, B, f, x6, x8, x9, x10, x11, x12, hm, J => by
    obtain ⟨B1, f1, y8, y9, y10, y11, y12, J1, e1⟩ := step_eq (c := c) (x8 := x8) (x9 := x9) (x10 := x10) (x11 := x11) (x12 := x12) P R hT (s := m) (by omega) (J.to fun s a _ _ h => by rcases h with h | ⟨_, h⟩ <;> omega)
    obtain ⟨B2, f2, z6, z8, z9, z10, z11, z12, J2, e2⟩ := steps_loop P R hT m B1 f1 (.val (.int m)) y8 y9 y10 y11 y12 (by omega) (J1.to fun s a _ h2 h => by
      rcases Nat.lt_or_eq_of_le h with h | h
      · exact .inl h
      · exact .inr ⟨h.symm, by omega⟩)
    refine ⟨B2, f2, z6, z8, z9, z10, z11, z12, J2, ?_⟩
    rw [show (((m + 1 : Nat) : Int) - 1) = m by omega, downD_succ, forL_nx rfl (s2 := bS z lo hi ns p T B1 (.val (.int m)) (.val (.bool f1)) y8 y9 y10 y11 y12 c) e1]
    exact e2
/-- one round -/
theorem round_eq (P : Px z lo hi ns p) (R : Rw z lo hi ns T) (hT : T ≤ 1000) (I : BI z lo hi ns p T B) {x6 x7 x8 x9 x10 x11 x12 : Sl} :
    ∃ B' f' y6 y8 y9 y10 y11 y12, Jr z lo hi ns p T B B' f' (fun _ _ => True) ∧ d_book_of_b5 (bS z lo hi ns p T B x6 x7 x8 x9 x10 x11 x12 c) = .nx (bS z lo hi ns p T B' y6 (.val (.bool f')) y8 y9 y10 y11 y12 c) := by
  obtain ⟨B', f', y6, y8, y9, y10, y11, y12, J, e⟩ := steps_loop (c := c) (B0 := B) P R hT T B true x6 x8 x9 x10 x11 x12 (Nat.le_refl _) ⟨I, fun _ _ _ _ => Int.le_refl _, fun _ => ⟨rfl, fun s a h _ h2 => absurd h2 (by omega)⟩, fun h => by cases h⟩
  refine ⟨B', f', y6, y8, y9, y10, y11, y12, J, ?_⟩
  have r := fun st => rngDK_int (i := (T : Int) - 1) (j := -1) (s := st) (by omega) (by omega)
  rw [show ((T : Int) - 1 - -1).toNat = T by omega] at r
  dsimp only [bS] at *
  unfold d_book_of_b5
  generalize downD ((T : Int) - 1) T = DD at *
  generalize bookL B T p = BK at *
  generalize bookL B' T p = BK' at *
  generalize (p : Int) = PP at *
  generalize (T : Int) = TT at *
  generalize weD lo hi = WD at *
  generalize rowD ns = NS at *
  simp -implicitDefEqProofs [eVar_val, r, e]
end
end K10

set_option Elab.async false
set_option linter.all false
set_option maxRecDepth 100000
set_option maxHeartbeats 4000000
/-! K10m5: book_of comes to its end. -/
namespace K10
open PySem PySem.Spec L2 DL
open PyProof.Rows hiding St

/-! ### what is still to be risen -/
theorem sum_lt {α : Type} {f g : α → Nat} : ∀ {l : List α}, (∀ x ∈ l, f x ≤ g x) → (∃ x ∈ l, f x < g x) → (l.map f).sum < (l.map g).sum
  | [], _, ⟨x, h, _⟩ => by cases h
  | y :: l, h, ⟨x, hx, hl⟩ => by
    rw [List.map_cons, List.map_cons, List.sum_cons, List.sum_cons]
    have h1 := h y (by simp)
    have h2 : (l.map f).sum ≤ (l.map g).sum := by
      have : ∀ l : List α, (∀ x ∈ l, f x ≤ g x) → (l.map f).sum ≤ (l.map g).sum := by
        intro l
        induction l with
        | nil => exact fun _ => Nat.le_refl _
        | cons z l ih =>
          intro h
          rw [List.map_cons, List.map_cons, List.sum_cons, List.sum_cons]
          have := h z (by simp)
          have := ih fun x hx => h x (List.mem_cons_of_mem _ hx)
          omega
      exact this l fun x hx => h x (List.mem_cons_of_mem _ hx)
    rcases List.mem_cons.mp hx with e | hx
    · subst e; omega
    · have := sum_lt (fun x hx => h x (List.mem_cons_of_mem _ hx)) ⟨x, hx, hl⟩
      omega
theorem sum_bd {α : Type} {f : α → Nat} {k : Nat} : ∀ {l : List α}, (∀ x ∈ l, f x ≤ k) → (l.map f).sum ≤ l.length * k
  | [], _ => by simp
  | y :: l, h => by
    rw [List.map_cons, List.sum_cons, List.length_cons, Nat.succ_mul]
    have := h y (by simp)
    have := sum_bd (l := l) fun x hx => h x (List.mem_cons_of_mem _ hx)
    omega
def cells (T p : Nat) : List (Nat × Nat) := (List.range T).flatMap fun s => (List.range (p + 1)).map fun a => (s, a)
theorem cells_mem {T p s a : Nat} : (s, a) ∈ cells T p ↔ s < T ∧ a ≤ p := by
  unfold cells
  simp only [List.mem_flatMap, List.mem_range, List.mem_map, Prod.mk.injEq]
  constructor
  · rintro ⟨s', h1, a', h2, rfl, rfl⟩
    omega
  · rintro ⟨h1, h2⟩
    exact ⟨s, h1, a, by omega, rfl, rfl⟩
theorem cells_len (T p : Nat) : (cells T p).length = T * (p + 1) := by
  unfold cells
  rw [List.length_flatMap]
  have e : (List.range T).map (fun s => ((List.range (p + 1)).map fun a => (s, a)).length) = (List.range T).map fun _ => p + 1 := List.map_congr_left fun x _ => by simp
  rw [e, List.map_const', List.sum_replicate_nat]
  simp
def mu (z : Int) (p T : Nat) (B : Bk) : Nat := ((cells T p).map fun x => (z + 1 - lev z (B x.1 x.2)).toNat).sum
section
variable {z : Int} {lo hi ns : List Int} {p T : Nat} {B B' : Bk} {c : List Int} {f : Bool}
theorem mu_lt (R : Rw z lo hi ns T) (ok : ∀ s a, s < T → a ≤ p → okB z (B s a)) (ok' : ∀ s a, s < T → a ≤ p → okB z (B' s a)) (h : ∀ s a, s < T → a ≤ p → lev z (B s a) ≤ lev z (B' s a)) (h2 : ∃ s a, s < T ∧ a ≤ p ∧ lev z (B s a) < lev z (B' s a)) : mu z p T B' < mu z p T B := by
  refine sum_lt (fun x hx => ?_) ?_
  · obtain ⟨h1, h2⟩ := cells_mem.mp (show (x.1, x.2) ∈ cells T p from hx)
    have := h x.1 x.2 h1 h2
    omega
  · obtain ⟨s, a, h1, h2, h3⟩ := h2
    refine ⟨(s, a), cells_mem.mpr ⟨h1, h2⟩, ?_⟩
    have := (lev_ok (ok' s a h1 h2) R.z0).2
    have h3 : lev z (B s a) < lev z (B' s a) := h3
    show (z + 1 - lev z (B' s a)).toNat < (z + 1 - lev z (B s a)).toNat
    omega
theorem mu_bd (R : Rw z lo hi ns T) (ok : ∀ s a, s < T → a ≤ p → okB z (B s a)) : mu z p T B ≤ T * (p + 1) * (z + 1).toNat := by
  unfold mu
  have := sum_bd (f := fun x : Nat × Nat => (z + 1 - lev z (B x.1 x.2)).toNat) (k := (z + 1).toNat) (l := cells T p) fun x hx => by
    obtain ⟨h1, h2⟩ := cells_mem.mp (show (x.1, x.2) ∈ cells T p from hx)
    have := (lev_ok (ok x.1 x.2 h1 h2) R.z0).1
    show (z + 1 - lev z (B x.1 x.2)).toNat ≤ _
    omega
  rw [cells_len] at this
  exact this
theorem book_while (P : Px z lo hi ns p) (R : Rw z lo hi ns T) (hT : T ≤ 1000) : ∀ (N : Nat) (B : Bk) (x6 x8 x9 x10 x11 x12 : Sl), BI z lo hi ns p T B → mu z p T B + 2 ≤ N →
    ∃ B' y6 y8 y9 y10 y11 y12, (∀ s a, s < T → a ≤ p → B' s a = bk z lo hi ns p s a) ∧ dWhile d_book_of_c4 d_book_of_b5 N (bS z lo hi ns p T B x6 (.val (.bool false)) x8 x9 x10 x11 x12 c) =
      .nx (bS z lo hi ns p T B' y6 (.val (.bool true)) y8 y9 y10 y11 y12 c)
  | 0, B, x6, x8, x9, x10, x11, x12, I, h => by omega
  | N + 1, B, x6, x8, x9, x10, x11, x12, I, h => by
    obtain ⟨B1, f1, y6, y8, y9, y10, y11, y12, J, e⟩ := round_eq (c := c) (x6 := x6) (x7 := .val (.bool false)) (x8 := x8) (x9 := x9) (x10 := x10) (x11 := x11) (x12 := x12) P R hT I
    have cond : ∀ (B : Bk) (b : Bool) (x6 x8 x9 x10 x11 x12 : Sl), d_book_of_c4 (bS z lo hi ns p T B x6 (.val (.bool b)) x8 x9 x10 x11 x12 c) = .ok (.val (.bool (!b))) (bS z lo hi ns p T B x6 (.val (.bool b)) x8 x9 x10 x11 x12 c) := fun B b x6 x8 x9 x10 x11 x12 => by
      dsimp only [bS]
      unfold d_book_of_c4
      generalize bookL B T p = BK
      generalize (p : Int) = PP
      generalize (T : Int) = TT
      generalize weD lo hi = WD
      generalize rowD ns = NS
      simp -implicitDefEqProofs [eVar_val]
    cases f1 with
    | true =>
      obtain ⟨eB, st⟩ := J.tt rfl
      subst eB
      obtain ⟨N, rfl⟩ : ∃ M, N = M + 1 := ⟨N - 1, by omega⟩
      refine ⟨B1, y6, y8, y9, y10, y11, y12, fun s a h1 h2 => I.done R (fun s a h1 h2 => st s a h1 h2 trivial) h1 h2, ?_⟩
      rw [while_t (cond B1 false x6 x8 x9 x10 x11 x12) e, while_f (cond B1 true y6 y8 y9 y10 y11 y12)]
    | false =>
      have lt := mu_lt R I.ok J.bi.ok J.mono (J.ff rfl)
      obtain ⟨B2, w6, w8, w9, w10, w11, w12, hB, e2⟩ := book_while P R hT N B1 y6 y8 y9 y10 y11 y12 J.bi (by omega)
      refine ⟨B2, w6, w8, w9, w10, w11, w12, hB, ?_⟩
      rw [while_t (cond B false x6 x8 x9 x10 x11 x12) e]
      exact e2
/-- the book as data -/
noncomputable def bkD (z : Int) (lo hi ns : List Int) (p : Nat) : List (List D) := bookL (fun s a => bk z lo hi ns p s a) (tn lo ns) p
theorem rw_of (P : Px z lo hi ns p) : Rw z lo hi ns (tn lo ns) := by
  refine ⟨by have := P.z1; omega, Nat.lcm_pos P.we.l.1 P.n.1, Nat.dvd_lcm_left _ _, by rw [← P.we.e]; exact Nat.dvd_lcm_left _ _, Nat.dvd_lcm_right _ _, fun s => (am_row P.we.l s).1, fun s => P.we.le _ (am_zip P.we s), fun s => (am_row P.n s).1⟩
theorem bookL_congr (h : ∀ s a, s < T → a ≤ p → B s a = B' s a) : bookL B T p = bookL B' T p := by
  unfold bookL rowL
  refine List.map_congr_left fun s hs => List.map_congr_left fun a ha => ?_
  rw [List.mem_range] at hs ha
  rw [h s a hs (by omega)]
theorem zero_row : (List.replicate (p + 1) [PyData.int 0]).flatten = rowL (fun _ _ => some 0) p 0 := by
  unfold rowL
  rw [show (fun a : Nat => optD (some 0)) = fun _ => PyData.int 0 from rfl, List.map_const']
  rw [List.length_range]
  induction p + 1 with
  | zero => rfl
  | succ n ih => rw [List.replicate_succ, List.flatten_cons, ih, List.replicate_succ]; rfl
abbrev b0S (z : Int) (lo hi ns : List Int) (p T : Nat) (b : List (List D)) (x6 x7 x8 x9 x10 x11 x12 : Sl) (c : List Int) : S :=
  ⟨[.val (.int z), .val (weD lo hi), .val (rowD ns), .val (.int p), .val (.int T), .nst b, x6, x7, x8, x9, x10, x11, x12], c⟩
theorem zero_loop (hp : p ≤ 6) (hT : T ≤ 1000) : ∀ (m k : Nat) (i : Int) (x6 x7 x8 x9 x10 x11 x12 : Sl), k + m ≤ T → ∃ y6, forL (gSet 6) d_book_of_b1 (rangeD i m) (b0S z lo hi ns p T (bookL (fun _ _ => some 0) k p) x6 x7 x8 x9 x10 x11 x12 c) =
    .nx (b0S z lo hi ns p T (bookL (fun _ _ => some 0) (k + m) p) y6 x7 x8 x9 x10 x11 x12 c)
  | 0, k, i, x6, x7, x8, x9, x10, x11, x12, _ => ⟨x6, rfl⟩
  | m + 1, k, i, x6, x7, x8, x9, x10, x11, x12, h => by
    have hs := sizeLine_eq
    have ml : mulD (.list [.int 0]) (.int ((p + 1 : Nat) : Int)) = some (.own (List.replicate (p + 1) [PyData.int 0]).flatten) := mulD_lst (by omega) (by rw [List.length_singleton]; omega)
    rw [zero_row, show ((p + 1 : Nat) : Int) = (p : Int) + 1 by omega] at ml
    have ap := dAppN_at (i := 5) (a := eMul (eLst (aCons (eC (.int 0)) aNil)) (eAdd (eVar 3) (eC (.int 1)))) (s := b0S z lo hi ns p T (bookL (fun _ _ => some 0) k p) (.val (.int i)) x7 x8 x9 x10 x11 x12 c) (xss := bookL (fun _ _ => some 0) k p) (ys := rowL (fun _ _ => some 0) p 0) rfl (by
      dsimp only [b0S] at *
      generalize rowL (fun _ _ => some 0) p 0 = RL at *
      generalize bookL (fun _ _ => some 0) k p = BK at *
      generalize (p : Int) = PP at *
      generalize (T : Int) = TT at *
      generalize weD lo hi = WD at *
      generalize rowD ns = NS at *
      simp -implicitDefEqProofs [eVar_val, ml]) (by rw [bookL_len]; omega)
    have eb : bookL (fun _ _ => some 0) k p ++ [rowL (fun _ _ => some 0) p 0] = bookL (fun _ _ => some 0) (k + 1) p := by
      unfold bookL
      rw [List.range_succ, List.map_append]
      rfl
    rw [eb] at ap
    obtain ⟨y6, e⟩ := zero_loop hp hT m (k + 1) (i + 1) (.val (.int i)) x7 x8 x9 x10 x11 x12 (by omega)
    refine ⟨y6, ?_⟩
    have ap2 : d_book_of_b1 (b0S z lo hi ns p T (bookL (fun _ _ => some 0) k p) (.val (.int i)) x7 x8 x9 x10 x11 x12 c) = .nx (b0S z lo hi ns p T (bookL (fun _ _ => some 0) (k + 1) p) (.val (.int i)) x7 x8 x9 x10 x11 x12 c) := ap
    rw [rangeD_succ, forL_nx rfl (s2 := b0S z lo hi ns p T (bookL (fun _ _ => some 0) (k + 1) p) (.val (.int i)) x7 x8 x9 x10 x11 x12 c) ap2, e, show k + 1 + m = k + (m + 1) by omega]
theorem book_of_eq (P : Px z lo hi ns p) : F_book_of [.int z, weD lo hi, rowD ns, .int p] c = .ok (.val (nstD (bkD z lo hi ns p))) c := by
  have es : startS 13 [.int z, weD lo hi, rowD ns, .int p] c = ⟨[.val (.int z), .val (weD lo hi), .val (rowD ns), .val (.int p), .un, .un, .un, .un, .un, .un, .un, .un, .un], c⟩ := rfl
  have R := rw_of P
  have hT := tn_le P.we.l P.n
  have hp := P.p
  have hz := P.z2
  have e1 := turn_of_eq (c := c) P.we.l P.n
  obtain ⟨y6, e2⟩ := zero_loop (z := z) (lo := lo) (hi := hi) (ns := ns) (p := p) (T := tn lo ns) (c := c) P.p (by omega) (tn lo ns) 0 0 .un .un .un .un .un .un .un (by omega)
  have hmu := mu_bd (p := p) R (B := fun _ _ => some 0) (BI.zero (p := p) R).ok
  have hm2 : tn lo ns * (p + 1) * (z + 1).toNat ≤ 576 * 7 * 201 := Nat.mul_le_mul (Nat.mul_le_mul hT (by omega)) (by omega)
  obtain ⟨B', w6, w8, w9, w10, w11, w12, hB, e3⟩ := book_while (c := c) P R (by omega) 1000000000000000 (fun _ _ => some 0) y6 .un .un .un .un .un (BI.zero R) (by omega)
  have eb : bookL B' (tn lo ns) p = bkD z lo hi ns p := bookL_congr hB
  rw [Nat.zero_add] at e2
  dsimp only [bS, b0S] at *
  rw [eb] at e3
  generalize bkD z lo hi ns p = BD at *
  have r := fun st => rng1K_int (j := ((tn lo ns : Nat) : Int)) (s := st) (by omega) (by omega)
  rw [show (((tn lo ns : Nat) : Int)).toNat = tn lo ns by omega] at r
  have w0 : atI [rowD lo, rowD hi] 0 = some (rowD lo) := rfl
  have b0 : bookL (fun _ _ => some 0) 0 p = [] := rfl
  rw [b0] at e2
  generalize bookL (fun _ _ => some 0) (tn lo ns) p = BZ at *
  generalize rangeD 0 (tn lo ns) = RG at *
  generalize rngDK = rngDK at *
  change F_turn_of [rowD lo, rowD ns] c = .ok (.val (.int ((tn lo ns : Nat) : Int))) c at e1
  generalize ((tn lo ns : Nat) : Int) = TT at *
  unfold weD at *
  generalize rowD lo = LO at *
  generalize rowD hi = HI at *
  generalize rowD ns = NS at *
  generalize (p : Int) = PP at *
  rw [F_book_of, fnD_eq, es]
  unfold d_book_of
  generalize 1000000000000000 = FU at *
  simp -implicitDefEqProofs [eVar_val, eIxN_val, w0, callR_mk e1, dNew0, noN, r, e2, e3, dRest, restS, dRetV]
end
end K10

set_option Elab.async false
set_option linter.all false
set_option maxRecDepth 100000
set_option maxHeartbeats 4000000
/-! K10m6: enough, whole_book, may_water, lives. -/
namespace K10
open PySem PySem.Spec L2 DL
open PyProof.Rows hiding St
section
variable {z : Int} {lo hi ns : List Int} {p : Nat} {c : List Int}
theorem nstD_at {xss : List (List D)} {i : Nat} {xs : List D} (h : xss[i]? = some xs) : atI (xss.map PyData.list) (i : Int) = some (.list xs) := by
  refine atI_nat ?_
  rw [List.getElem?_map, h]
  rfl
theorem bkD_len : (bkD z lo hi ns p).length = tn lo ns := bookL_len
theorem bk_mod (P : Px z lo hi ns p) (s a : Nat) : bk z lo hi ns p (s % tn lo ns) a = bk z lo hi ns p s a := by
  have R := rw_of P
  have e : s = s % tn lo ns + tn lo ns * (s / tn lo ns) := (Nat.mod_add_div s _).symm
  conv => rhs; rw [e]
  rw [bk_shift (Nat.dvd_trans R.d1 (Nat.dvd_mul_right _ _)) (Nat.dvd_trans R.d2 (Nat.dvd_mul_right _ _)) (Nat.dvd_trans R.d3 (Nat.dvd_mul_right _ _))]
theorem bkD_row (P : Px z lo hi ns p) (s : Nat) : (bkD z lo hi ns p)[s % tn lo ns]? = some (rowL (bk z lo hi ns p) p s) := by
  unfold bkD
  rw [bookL_at (Nat.mod_lt _ (rw_of P).T0)]
  congr 1
  unfold rowL
  refine List.map_congr_left fun a _ => ?_
  show optD (bk z lo hi ns p (s % tn lo ns) a) = _
  rw [bk_mod P]
theorem enough_eq (P : Px z lo hi ns p) {s a : Nat} (hs : s ≤ 1000000000000) (ha : a ≤ p) : F_enough [.int z, weD lo hi, rowD ns, .int p, .int s, .int a] c = .ok (.val (optD (bk z lo hi ns p s a))) c := by
  have es : startS 7 [.int z, weD lo hi, rowD ns, .int p, .int s, .int a] c = ⟨[.val (.int z), .val (weD lo hi), .val (rowD ns), .val (.int p), .val (.int s), .val (.int a), .un], c⟩ := rfl
  have e1 := need_plant_eq (c := c) P
  have e2 := need_integer_eq (c := c) (v := (s : Int)) (lo := 0) (hi := 1000000000000) (x := "step") (by decide)
  rw [if_neg (by omega)] at e2
  have e3 := need_integer_eq (c := c) (v := (a : Int)) (lo := 0) (hi := (p : Int)) (x := "age") (by decide)
  rw [if_neg (by omega)] at e3
  have e4 := book_of_eq (c := c) P
  have T0 := (rw_of P).T0
  have a1 := nstD_at (bkD_row P s)
  have a2 := atI_nat (rowL_at (B := bk z lo hi ns p) (s := s) ha)
  have md : modD (.int (s : Int)) (.int ((tn lo ns : Nat) : Int)) = some (.val (.int ((s % tn lo ns : Nat) : Int))) := by rw [Int.natCast_emod]; exact modD_ii (by omega)
  have hl : (((bkD z lo hi ns p).map PyData.list).length : Int) = ((tn lo ns : Nat) : Int) := by rw [List.length_map, bkD_len]
  unfold nstD at *
  generalize (bkD z lo hi ns p).map PyData.list = BD at *
  generalize ((s % tn lo ns : Nat) : Int) = M at *
  generalize ((tn lo ns : Nat) : Int) = TT at *
  generalize rowL (bk z lo hi ns p) p s = RW at *
  generalize optD (bk z lo hi ns p s a) = OB at *
  generalize weD lo hi = WD at *
  generalize rowD ns = NS at *
  generalize (p : Int) = PP at *
  generalize (s : Int) = SS at *
  generalize (a : Int) = A at *
  rw [F_enough, fnD_eq, es]
  unfold d_enough
  simp -implicitDefEqProofs [eVar_val, eIxN_val, eLenN_val, callR_mk e1, callR_mk e2, callR_mk e3, callR_mk e4, md, hl, a1, a2]
def tupOf : D → D
  | .list xs => .tuple xs
  | d => d
theorem tup_comp {a0 a1 a2 a3 : Sl} {p : Nat} (hp : p ≤ 6) : ∀ (ds acc : List D) (B : Bk) , (∀ d ∈ ds, ∃ s, d = .list (rowL B p s)) → compL (gSet 4) tTrue d_whole_book_e2 [4] ds acc ⟨[a0, a1, a2, a3, .un], c⟩ = .ok (acc ++ ds.map tupOf) ⟨[a0, a1, a2, a3, .un], c⟩
  | [], acc, B, _ => by simp
  | d :: ds, acc, B, h => by
    obtain ⟨s, rfl⟩ := h d (by simp)
    have hl : (rowL B p s).length ≤ sizeLine := by rw [rowL_len, sizeLine_eq]; omega
    generalize rowL B p s = RL at *
    have tb : tupB [.list RL] = some (.val (.tuple RL)) := tupB_list hl
    rw [compL_y (g := gSet 4) (tt := tTrue) (s1 := ⟨[a0, a1, a2, a3, .val (.list RL)], c⟩) (s2 := ⟨[a0, a1, a2, a3, .val (.list RL)], c⟩) (s3 := ⟨[a0, a1, a2, a3, .val (.list RL)], c⟩) (y := .val (.tuple RL)) rfl rfl (by
      unfold d_whole_book_e2
      simp -implicitDefEqProofs [eVar_val, tb])]
    have ih := tup_comp (a0 := a0) (a1 := a1) (a2 := a2) (a3 := a3) hp ds (acc ++ [.tuple RL]) B fun d hd => h d (List.mem_cons_of_mem _ hd)
    rw [List.append_assoc] at ih
    exact ih
/-- the whole book as tuples -/
noncomputable def wbD (z : Int) (lo hi ns : List Int) (p : Nat) : D := .tuple ((List.range (tn lo ns)).map fun s => .tuple (rowL (bk z lo hi ns p) p s))
theorem whole_book_eq (P : Px z lo hi ns p) : F_whole_book [.int z, weD lo hi, rowD ns, .int p] c = .ok (.val (wbD z lo hi ns p)) c := by
  have es : startS 5 [.int z, weD lo hi, rowD ns, .int p] c = ⟨[.val (.int z), .val (weD lo hi), .val (rowD ns), .val (.int p), .un], c⟩ := rfl
  have e1 := need_plant_eq (c := c) P
  have e4 := book_of_eq (c := c) P
  have hT := tn_le P.we.l P.n
  have hs := sizeLine_eq
  have e5 := compK_ok (vs := [4]) (g := gSet 4) (tt := tTrue) (te := d_whole_book_e2) (ds := (bkD z lo hi ns p).map .list) (by rw [List.length_map, bkD_len]; omega)
    (tup_comp (a0 := .val (.int z)) (a1 := .val (weD lo hi)) (a2 := .val (rowD ns)) (a3 := .val (.int p)) (c := c) P.p ((bkD z lo hi ns p).map .list) [] (bk z lo hi ns p) fun d hd => by
      obtain ⟨r, hr, rfl⟩ := List.mem_map.mp hd
      obtain ⟨s, _, rfl⟩ := List.mem_map.mp hr
      exact ⟨s, rfl⟩)
  rw [List.nil_append] at e5
  have ew : ((bkD z lo hi ns p).map PyData.list).map tupOf = (List.range (tn lo ns)).map fun s => .tuple (rowL (bk z lo hi ns p) p s) := by
    unfold bkD bookL
    rw [List.map_map, List.map_map]
    rfl
  rw [ew] at e5
  have hl : ((List.range (tn lo ns)).map fun s => PyData.tuple (rowL (bk z lo hi ns p) p s)).length ≤ sizeLine := by rw [List.length_map, List.length_range]; omega
  unfold wbD
  unfold nstD at *
  generalize (List.range (tn lo ns)).map (fun s => PyData.tuple (rowL (bk z lo hi ns p) p s)) = WB at *
  generalize (bkD z lo hi ns p).map PyData.list = BD at *
  have tb : tupB [.list WB] = some (.val (.tuple WB)) := tupB_list hl
  generalize weD lo hi = WD at *
  generalize rowD ns = NS at *
  generalize (p : Int) = PP at *
  rw [F_whole_book, fnD_eq, es]
  unfold d_whole_book
  simp -implicitDefEqProofs [eVar_val, eVar_own, callR_mk e1, callR_mk e4, e5, tb]
theorem notN_opt {b : Option Int} : notNd (optD b) .none = some (.val (.bool b.isSome)) := by cases b <;> rfl
theorem may_water_eq (P : Px z lo hi ns p) {s a : Nat} {h : Int} (hs : s ≤ 1000000000000) (ha : a ≤ p) (h0 : 0 ≤ h) (h1 : h ≤ z) {w v : Bool} (hw : w = true ↔ am ns s ≤ h ∧ gf z lo hi ns p (s + 1) 0 (h - am ns s)) (hv : v = true ↔ a < p ∧ gf z lo hi ns p (s + 1) (a + 1) h) :
    F_may_water [.int z, weD lo hi, rowD ns, .int p, .int s, .int a, .int h] c = .ok (.val (.tuple ((if w = true then [PyData.str "water"] else []) ++ (if v = true then [PyData.str "wait"] else [])))) c := by
  have es : startS 11 [.int z, weD lo hi, rowD ns, .int p, .int s, .int a, .int h] c = ⟨[.val (.int z), .val (weD lo hi), .val (rowD ns), .val (.int p), .val (.int s), .val (.int a), .val (.int h), .un, .un, .un, .un], c⟩ := rfl
  have e1 := need_plant_eq (c := c) P
  have e2 := need_integer_eq (c := c) (v := (s : Int)) (lo := 0) (hi := 1000000000000) (x := "step") (by decide)
  rw [if_neg (by omega)] at e2
  have e3 := need_integer_eq (c := c) (v := (a : Int)) (lo := 0) (hi := (p : Int)) (x := "age") (by decide)
  rw [if_neg (by omega)] at e3
  have e3b := need_integer_eq (c := c) (v := h) (lo := 0) (hi := z) (x := "held") (by decide)
  rw [if_neg (by omega)] at e3b
  have e4 := book_of_eq (c := c) P
  have e5 := amount_at_eq (ns := ns) (i := s) (c := c) P.n.1 P.n.2.1
  have T0 := (rw_of P).T0
  have n0 := (rw_of P).n0 s
  have a1 := nstD_at (bkD_row P (s + 1))
  have a2 := atI_nat (rowL_at (B := bk z lo hi ns p) (s := s + 1) (Nat.zero_le p))
  have md : modD (.int ((s : Int) + 1)) (.int ((tn lo ns : Nat) : Int)) = some (.val (.int (((s + 1) % tn lo ns : Nat) : Int))) := by
    rw [Int.natCast_emod, show ((s + 1 : Nat) : Int) = (s : Int) + 1 by omega]
    exact modD_ii (by omega)
  have hl : (((bkD z lo hi ns p).map PyData.list).length : Int) = ((tn lo ns : Nat) : Int) := by rw [List.length_map, bkD_len]
  -- water
  have qw : w = true ↔ am ns s ≤ h ∧ thr (bk z lo hi ns p (s + 1) 0) (h - am ns s) := by
    rw [hw]
    exact ⟨fun ⟨x, y⟩ => ⟨x, (bk_gf (by omega) (by omega)).mpr y⟩, fun ⟨x, y⟩ => ⟨x, (bk_gf (by omega) (by omega)).mp y⟩⟩
  have qv : v = true ↔ a < p ∧ thr (bk z lo hi ns p (s + 1) (a + 1)) h := by
    rw [hv]
    exact ⟨fun ⟨x, y⟩ => ⟨x, (bk_gf h0 h1).mpr y⟩, fun ⟨x, y⟩ => ⟨x, (bk_gf h0 h1).mp y⟩⟩
  have tst : ∀ st : S, st.e[4]? = some (.val (.int s)) → st.e[5]? = some (.val (.int a)) → st.e[6]? = some (.val (.int h)) → st.e[3]? = some (.val (.int p)) → st.e[9]? = some (.val (.int (am ns s))) → st.e[8]? = some (.val (.list (rowL (bk z lo hi ns p) p (s + 1)))) →
      eAnd (eGe (eVar 6) (eVar 9)) (eAnd (eNotN (eIxN 8 (eC (.int 0))) (eC .none)) (eGe (eSub (eVar 6) (eVar 9)) (eIxN 8 (eC (.int 0))))) st = .ok (.val (.bool w)) st ∧
      eAnd (eLt (eVar 5) (eVar 3)) (eAnd (eNotN (eIxN 8 (eAdd (eVar 5) (eC (.int 1)))) (eC .none)) (eGe (eVar 6) (eIxN 8 (eAdd (eVar 5) (eC (.int 1)))))) st = .ok (.val (.bool v)) st := by
    intro st g4 g5 g6 g3 g9 g8
    constructor
    · have a2' : atI (rowL (bk z lo hi ns p) p (s + 1)) 0 = some (optD (bk z lo hi ns p (s + 1) 0)) := a2
      generalize rowL (bk z lo hi ns p) p (s + 1) = RW at *
      generalize bk z lo hi ns p (s + 1) 0 = b0 at *
      unfold thr at qw
      clear qv hv hw a1 a2 md hl e5 e4
      by_cases k1 : am ns s ≤ h
      · cases b0 with
        | none =>
          have : w = false := by
            cases w with
            | false => rfl
            | true => obtain ⟨_, x, e, _⟩ := qw.mp rfl; cases e
          subst this
          have nn : notNd (optD none) .none = some (.val (.bool false)) := rfl
          generalize optD none = ON at *
          generalize am ns s = N at *
          simp -implicitDefEqProofs [eVar_val g6, eVar_val g9, eIxN_val g8, k1, a2', nn]
        | some x =>
          have ew : w = decide (x ≤ h - am ns s) := by
            cases w with
            | false => exact (decide_eq_false fun z => absurd (qw.mpr ⟨k1, x, rfl, z⟩) (by simp)).symm
            | true => obtain ⟨_, y, e, hy⟩ := qw.mp rfl; cases e; exact (decide_eq_true hy).symm
          rw [ew]
          have e0 : optD (some x) = .int x := rfl
          rw [e0] at a2'
          generalize am ns s = N at *
          simp -implicitDefEqProofs [eVar_val g6, eVar_val g9, eIxN_val g8, k1, a2']
      · have : w = false := by
          cases w with
          | false => rfl
          | true => exact absurd (qw.mp rfl).1 k1
        subst this
        generalize am ns s = N at *
        simp -implicitDefEqProofs [eVar_val g6, eVar_val g9, k1]
    · by_cases k1 : a < p
      · have a3 := atI_nat (rowL_at (B := bk z lo hi ns p) (s := s + 1) (show a + 1 ≤ p from k1))
        rw [show ((a + 1 : Nat) : Int) = (a : Int) + 1 by omega] at a3
        have k2 : (a : Int) < p := by omega
        generalize rowL (bk z lo hi ns p) p (s + 1) = RW at *
        generalize bk z lo hi ns p (s + 1) (a + 1) = b0 at *
        unfold thr at qv
        clear qw hv hw a1 a2 md hl e5 e4 ha e3 es
        cases b0 with
        | none =>
          have : v = false := by
            cases v with
            | false => rfl
            | true => obtain ⟨_, x, e, _⟩ := qv.mp rfl; cases e
          subst this
          have nn : notNd (optD none) .none = some (.val (.bool false)) := rfl
          generalize optD none = ON at *
          generalize (a : Int) = A at *
          generalize (p : Int) = PP at *
          simp -implicitDefEqProofs [eVar_val g5, eVar_val g3, eIxN_val g8, k2, a3, nn]
        | some x =>
          have ew : v = decide (x ≤ h) := by
            cases v with
            | false => exact (decide_eq_false fun z => absurd (qv.mpr ⟨k1, x, rfl, z⟩) (by simp)).symm
            | true => obtain ⟨_, y, e, hy⟩ := qv.mp rfl; cases e; exact (decide_eq_true hy).symm
          rw [ew]
          have e0 : optD (some x) = .int x := rfl
          rw [e0] at a3
          generalize (a : Int) = A at *
          generalize (p : Int) = PP at *
          simp -implicitDefEqProofs [eVar_val g5, eVar_val g3, eVar_val g6, eIxN_val g8, k2, a3]
      · have : v = false := by
          cases v with
          | false => rfl
          | true => exact absurd (qv.mp rfl).1 k1
        subst this
        have k2 : ¬ (a : Int) < p := by omega
        clear es e3 ha
        generalize (a : Int) = A at *
        generalize (p : Int) = PP at *
        simp -implicitDefEqProofs [eVar_val g5, eVar_val g3, k2]
  clear qw qv hw hv a2
  unfold nstD at *
  generalize (bkD z lo hi ns p).map PyData.list = BD at *
  generalize (((s + 1) % tn lo ns : Nat) : Int) = M at *
  generalize ((tn lo ns : Nat) : Int) = TT at *
  generalize rowL (bk z lo hi ns p) p (s + 1) = RW at *
  generalize weD lo hi = WD at *
  generalize rowD ns = NS at *
  generalize am ns s = N at *
  generalize (p : Int) = PP at *
  generalize (s : Int) = SS at *
  generalize (a : Int) = A at *
  have t1 := (tst ⟨[.val (.int z), .val WD, .val NS, .val (.int PP), .val (.int SS), .val (.int A), .val (.int h), .val (.list BD), .val (.list RW), .val (.int N), .own []], c⟩ rfl rfl rfl rfl rfl rfl).1
  have t2 := fun xs => (tst ⟨[.val (.int z), .val WD, .val NS, .val (.int PP), .val (.int SS), .val (.int A), .val (.int h), .val (.list BD), .val (.list RW), .val (.int N), .own xs], c⟩ rfl rfl rfl rfl rfl rfl).2
  clear tst
  have hsz := sizeLine_eq
  rw [F_may_water, fnD_eq, es]
  unfold d_may_water
  have big1 : (1 : Nat) < sizeLine := by omega
  have big0 : (0 : Nat) < sizeLine := by omega
  have tb0 : tupB [.list []] = some (.val (.tuple [])) := tupB_list (by simp)
  have tb1 : ∀ x : D, tupB [.list [x]] = some (.val (.tuple [x])) := fun x => tupB_list (by simp only [List.length_singleton]; omega)
  have tb2 : ∀ x y : D, tupB [.list [x, y]] = some (.val (.tuple [x, y])) := fun x y => tupB_list (by simp only [List.length_cons, List.length_nil]; omega)
  generalize hG1 : eAnd (eGe (eVar 6) (eVar 9)) (eAnd (eNotN (eIxN 8 (eC (.int 0))) (eC .none)) (eGe (eSub (eVar 6) (eVar 9)) (eIxN 8 (eC (.int 0))))) = G1 at *
  generalize hG2 : eAnd (eLt (eVar 5) (eVar 3)) (eAnd (eNotN (eIxN 8 (eAdd (eVar 5) (eC (.int 1)))) (eC .none)) (eGe (eVar 6) (eIxN 8 (eAdd (eVar 5) (eC (.int 1)))))) = G2 at *
  cases w <;> cases v <;> simp -implicitDefEqProofs [eVar_val, eVar_own, eIxN_val, eLenN_val, callR_mk e1, callR_mk e2, callR_mk e3, callR_mk e3b, callR_mk e4, callR_mk e5, md, hl, a1, t1, t2, dApp_own, big0, big1, tb0, tb1, tb2]
theorem lives_eq (P : Px z lo hi ns p) {b : Bool} (hb : b = true ↔ ∃ l, gf z lo hi ns p 0 0 l) : F_lives [.int z, weD lo hi, rowD ns, .int p] c = .ok (.val (.bool b)) c := by
  have es : startS 4 [.int z, weD lo hi, rowD ns, .int p] c = ⟨[.val (.int z), .val (weD lo hi), .val (rowD ns), .val (.int p)], c⟩ := rfl
  have e4 := book_of_eq (c := c) P
  have a1 := nstD_at (bkD_row P 0)
  rw [Nat.zero_mod] at a1
  have a2 := atI_nat (rowL_at (B := bk z lo hi ns p) (s := 0) (Nat.zero_le p))
  have nb : notNd (optD (bk z lo hi ns p 0 0)) .none = some (.val (.bool b)) := by
    rw [notN_opt]
    congr 3
    cases q : bk z lo hi ns p 0 0 with
    | none =>
      cases b with
      | false => rfl
      | true =>
        obtain ⟨l, g⟩ := hb.mp rfl
        have h := gf_ps.bd 0 0 l g
        obtain ⟨x, e, _⟩ := (bk_gf h.2.1 h.2.2).mpr g
        rw [q] at e
        cases e
    | some x =>
      have h := bk_ok (z := z) (lo := lo) (hi := hi) (ns := ns) (p := p) 0 0 x q
      exact (hb.mpr ⟨x, (bk_gf h.1 h.2).mp ⟨x, q, Int.le_refl _⟩⟩).symm
  have a1 : atI ((bkD z lo hi ns p).map PyData.list) 0 = some (.list (rowL (bk z lo hi ns p) p 0)) := a1
  have a2 : atI (rowL (bk z lo hi ns p) p 0) 0 = some (optD (bk z lo hi ns p 0 0)) := a2
  unfold nstD at *
  generalize (bkD z lo hi ns p).map PyData.list = BD at *
  generalize rowL (bk z lo hi ns p) p 0 = RW at *
  generalize optD (bk z lo hi ns p 0 0) = OB at *
  generalize weD lo hi = WD at *
  generalize rowD ns = NS at *
  generalize (p : Int) = PP at *
  rw [F_lives, fnD_eq, es]
  unfold d_lives
  simp -implicitDefEqProofs [eVar_val, callR_mk e4, a1, a2, nb]
end
end K10

set_option Elab.async false
set_option linter.all false
set_option maxRecDepth 100000
set_option maxHeartbeats 4000000
/-! K10m7: least_tub. -/
namespace K10
open PySem PySem.Spec L2 DL
open PyProof.Rows hiding St
/-- a plant that has just been watered lives for ever with a tub of this size -/
def lv (lo hi ns : List Int) (p : Nat) (z : Int) : Prop := ∃ l, gf z lo hi ns p 0 0 l
section
variable {z : Int} {lo hi ns : List Int} {p : Nat} {c : List Int}
theorem lv_mono (l0 : ∀ s, 0 ≤ am lo s) {m m' : Int} (h : m ≤ m') (g : lv lo hi ns p m) : lv lo hi ns p m' := by
  obtain ⟨l, g⟩ := g
  have b := gf_ps.bd 0 0 l g
  refine ⟨l, gf_of (G := fun s a l => 0 ≤ l ∧ l ≤ m' ∧ gf m lo hi ns p s a (min l m)) ⟨?_, ?_, ?_⟩ ⟨b.2.1, by omega, by rw [show min l m = l by omega]; exact g⟩⟩
  · rintro s a l ⟨h1, h2, h3⟩
    exact ⟨(gf_ps.bd s a _ h3).1, h1, h2⟩
  · rintro s a l ⟨h1, h2, h3⟩
    exact gf_ps.n0 s a _ h3
  · rintro s a l ⟨h1, h2, h3⟩ r r1 r2
    have n0 := gf_ps.n0 s a _ h3
    have r0 := l0 s
    have q := gf_ps.st s a _ h3 r r1 r2
    rw [show min (min l m + r) m = min (min (l + r) m') m by omega] at q
    rcases q with ⟨x, y⟩ | ⟨x, y⟩
    · exact .inl ⟨by omega, by omega, by omega, gf_up y (by omega) (by omega)⟩
    · exact .inr ⟨x, by omega, by omega, y⟩
theorem lv_full (h : lv lo hi ns p z) : gf z lo hi ns p 0 0 z := let ⟨l, g⟩ := h; gf_up g (gf_ps.bd 0 0 l g).2.2 (Int.le_refl _)
abbrev tS (lo hi ns : List Int) (p : Nat) (a b : Int) (x : Sl) (c : List Int) : S := ⟨[.val (weD lo hi), .val (rowD ns), .val (.int p), .val (.int a), .val (.int b), x], c⟩
theorem tub_while (P : Px 1 lo hi ns p) : ∀ (N : Nat) (a b : Int) (x : Sl), 1 ≤ a → a ≤ b → b ≤ 201 → b - a < N → (∀ y, 1 ≤ y → y < a → ¬ lv lo hi ns p y) → (b = 201 ∨ lv lo hi ns p b) →
    ∃ a' x', 1 ≤ a' ∧ a' ≤ 201 ∧ (∀ y, 1 ≤ y → y < a' → ¬ lv lo hi ns p y) ∧ (a' = 201 ∨ lv lo hi ns p a') ∧ dWhile d_least_tub_c1 d_least_tub_b2 N (tS lo hi ns p a b x c) = .nx (tS lo hi ns p a' a' x' c)
  | 0, a, b, x, _, _, _, h, _, _ => by omega
  | N + 1, a, b, x, h1, h2, h3, h4, h5, h6 => by
    have cond : d_least_tub_c1 (tS lo hi ns p a b x c) = .ok (.val (.bool (decide (a < b)))) (tS lo hi ns p a b x c) := by
      dsimp only [tS]
      unfold d_least_tub_c1
      generalize (p : Int) = PP
      generalize weD lo hi = WD
      generalize rowD ns = NS
      simp -implicitDefEqProofs [eVar_val]
    by_cases k : a < b
    · rw [decide_eq_true k] at cond
      have dv : divD (.int (a + b)) (.int 2) = some (.val (.int ((a + b) / 2))) := divD_ii (by decide) (by decide)
      have m1 : a ≤ (a + b) / 2 := by omega
      have m2 : (a + b) / 2 < b := by omega
      have Pm : Px ((a + b) / 2) lo hi ns p := ⟨by omega, by omega, P.we, P.wl, P.n, P.nl, P.p⟩
      have hl : ¬ (200 : Int) < (a + b) / 2 := by omega
      by_cases q : lv lo hi ns p ((a + b) / 2)
      · have e := lives_eq (c := c) Pm (b := true) ⟨fun _ => q, fun _ => rfl⟩
        have body : d_least_tub_b2 (tS lo hi ns p a b x c) = .nx (tS lo hi ns p a ((a + b) / 2) (.val (.int ((a + b) / 2))) c) := by
          dsimp only [tS]
          unfold d_least_tub_b2
          generalize (a + b) / 2 = M at *
          generalize (p : Int) = PP at *
          generalize weD lo hi = WD at *
          generalize rowD ns = NS at *
          simp -implicitDefEqProofs [eVar_val, dv, hl, callR_mk e]
        obtain ⟨a', x', r⟩ := tub_while P N a ((a + b) / 2) (.val (.int ((a + b) / 2))) h1 m1 (by omega) (by omega) h5 (.inr q)
        refine ⟨a', x', r.1, r.2.1, r.2.2.1, r.2.2.2.1, ?_⟩
        rw [while_t cond body]
        exact r.2.2.2.2
      · have e := lives_eq (c := c) Pm (b := false) ⟨fun h => (by cases h), fun h => absurd h q⟩
        have body : d_least_tub_b2 (tS lo hi ns p a b x c) = .nx (tS lo hi ns p ((a + b) / 2 + 1) b (.val (.int ((a + b) / 2))) c) := by
          dsimp only [tS]
          unfold d_least_tub_b2
          generalize (a + b) / 2 = M at *
          generalize (p : Int) = PP at *
          generalize weD lo hi = WD at *
          generalize rowD ns = NS at *
          simp -implicitDefEqProofs [eVar_val, dv, hl, callR_mk e]
        obtain ⟨a', x', r⟩ := tub_while P N ((a + b) / 2 + 1) b (.val (.int ((a + b) / 2))) (by omega) (by omega) h3 (by omega) (fun y y1 y2 g => q (lv_mono (fun s => (am_row P.we.l s).1) (by omega) g)) h6
        refine ⟨a', x', r.1, r.2.1, r.2.2.1, r.2.2.2.1, ?_⟩
        rw [while_t cond body]
        exact r.2.2.2.2
    · have e : a = b := by omega
      subst e
      rw [decide_eq_false k] at cond
      exact ⟨a, x, h1, h3, h5, h6, while_f cond⟩
theorem least_tub_eq (P : Px 1 lo hi ns p) : ∃ r : Option Int, (∀ c, F_least_tub [weD lo hi, rowD ns, .int p] c = .ok (.val (optD r)) c) ∧ (r = none → ∀ y, 1 ≤ y → y ≤ 200 → ¬ lv lo hi ns p y) ∧ ∀ x, r = some x → 1 ≤ x ∧ x ≤ 200 ∧ lv lo hi ns p x ∧ ∀ y, 1 ≤ y → y < x → ¬ lv lo hi ns p y := by
  have key : ∀ c, ∃ a', 1 ≤ a' ∧ a' ≤ 201 ∧ (∀ y, 1 ≤ y → y < a' → ¬ lv lo hi ns p y) ∧ (a' = 201 ∨ lv lo hi ns p a') ∧ F_least_tub [weD lo hi, rowD ns, .int p] c = .ok (.val (optD (if a' ≤ 200 then some a' else none))) c := fun c => by
    obtain ⟨a', x', r1, r2, r3, r4, r5⟩ := tub_while (c := c) P 1000000000000000 1 201 .un (by omega) (by omega) (by omega) (by omega) (fun y y1 y2 => by omega) (.inl rfl)
    refine ⟨a', r1, r2, r3, r4, ?_⟩
    have es : startS 6 [weD lo hi, rowD ns, .int p] c = ⟨[.val (weD lo hi), .val (rowD ns), .val (.int p), .un, .un, .un], c⟩ := rfl
    have e1 := need_plant_eq (c := c) P
    dsimp only [tS] at *
    rw [F_least_tub, fnD_eq, es]
    unfold d_least_tub
    generalize (p : Int) = PP at *
    generalize weD lo hi = WD at *
    generalize rowD ns = NS at *
    generalize 1000000000000000 = FU at *
    by_cases k : a' ≤ 200
    · rw [if_pos k]
      simp -implicitDefEqProofs [eVar_val, callR_mk e1, r5, k, optD]
    · rw [if_neg k]
      simp -implicitDefEqProofs [eVar_val, callR_mk e1, r5, k, optD]
  obtain ⟨a', k1, k2, k3, k4, _⟩ := key []
  refine ⟨if a' ≤ 200 then some a' else none, fun c => ?_, fun h y y1 y2 => ?_, fun x h => ?_⟩
  · obtain ⟨b', j1, j2, j3, j4, e⟩ := key c
    have : b' = a' := by
      rcases Int.lt_trichotomy b' a' with q | q | q
      · rcases j4 with j4 | j4
        · omega
        · exact absurd j4 (k3 b' j1 q)
      · exact q
      · rcases k4 with k4 | k4
        · omega
        · exact absurd k4 (j3 a' k1 q)
    rw [← this]
    exact e
  · by_cases q : a' ≤ 200
    · rw [if_pos q] at h; cases h
    · exact k3 y y1 (by omega)
  · by_cases q : a' ≤ 200
    · rw [if_pos q] at h
      cases h
      refine ⟨k1, q, ?_, k3⟩
      rcases k4 with k4 | k4
      · omega
      · exact k4
    · rw [if_neg q] at h; cases h
end
end K10

set_option Elab.async false
set_option linter.all false
set_option maxRecDepth 100000
set_option maxHeartbeats 4000000
/-! K10m8: the best states alone tell as much as all. -/
namespace K10
open PySem PySem.Spec L2 DL
open PyProof.Rows hiding St

/-! ### the best level by age -/
structure Fdc (l : List (Int × Int)) (C : Int → Int → Prop) : Prop where
  nd : (l.map (·.1)).Nodup
  snd : ∀ q ∈ l, C q.1 q.2
  top : ∀ k v, C k v → ∃ v', v ≤ v' ∧ (k, v') ∈ l
theorem getI_in {l : List (Int × Int)} (h : (l.map (·.1)).Nodup) {q : Int × Int} (hq : q ∈ l) : getI l q.1 = q.2 := by
  have e := getD_kI l q.1
  rw [valV_nodup h hq] at e
  injection e with e
  exact e.symm
theorem getI_no {l : List (Int × Int)} {k : Int} (h : k ∉ l.map (·.1)) : getI l k = 0 := by
  unfold getI
  have e : l.find? (fun p => decide (p.1 = k)) = none := List.find?_eq_none.mpr fun q hq => by
    rw [decide_eq_true_eq]
    intro z
    exact h (by rw [← z]; exact List.mem_map_of_mem hq)
  rw [e]
  rfl
theorem putI_mem {l : List (Int × Int)} {k v : Int} {q : Int × Int} : q ∈ putI l k v ↔ (q ∈ l ∧ q.1 ≠ k) ∨ q = (k, v) := by
  unfold putI
  have e := any_fst l k
  by_cases h : k ∈ l.map (·.1)
  · rw [if_pos (by rw [e, decide_eq_true h]), List.mem_map]
    constructor
    · rintro ⟨r, hr, rfl⟩
      by_cases z : r.1 = k
      · rw [if_pos z, z]; exact .inr rfl
      · rw [if_neg z]; exact .inl ⟨hr, z⟩
    · rintro (⟨h1, h2⟩ | rfl)
      · exact ⟨q, h1, if_neg h2⟩
      · obtain ⟨r, hr, hk⟩ := List.mem_map.mp h
        exact ⟨r, hr, by rw [if_pos hk, hk]⟩
  · rw [if_neg (by rw [e, decide_eq_false h]; simp), List.mem_append, List.mem_singleton]
    constructor
    · rintro (h1 | rfl)
      · exact .inl ⟨h1, fun z => h (by rw [← z]; exact List.mem_map_of_mem h1)⟩
      · exact .inr rfl
    · rintro (⟨h1, _⟩ | rfl)
      · exact .inl h1
      · exact .inr rfl
theorem mxI_ge (a b : Int) : a ≤ mxI a b ∧ b ≤ mxI a b ∧ (mxI a b = a ∨ mxI a b = b) := by
  unfold mxI
  split <;> omega
theorem Fdc.put {l : List (Int × Int)} {C : Int → Int → Prop} (F : Fdc l C) {k x : Int} (hx : 0 ≤ x) : Fdc (putI l k (mxI (getI l k) x)) fun k' v' => C k' v' ∨ (k' = k ∧ v' = x) := by
  have m := mxI_ge (getI l k) x
  refine ⟨putI_nodup F.nd _ _, fun q hq => ?_, fun k' v' h => ?_⟩
  · rcases putI_mem.mp hq with ⟨h1, _⟩ | rfl
    · exact .inl (F.snd q h1)
    · show C k (mxI (getI l k) x) ∨ (k = k ∧ mxI (getI l k) x = x)
      by_cases z : k ∈ l.map (·.1)
      · obtain ⟨r, hr, hk⟩ := List.mem_map.mp z
        have hk : r.1 = k := hk
        have e := getI_in F.nd hr
        rw [hk] at e
        rcases m.2.2 with h | h
        · rw [h, e]
          have := F.snd r hr
          rw [hk] at this
          exact .inl this
        · exact .inr ⟨rfl, h⟩
      · have e := getI_no z
        rw [e] at m ⊢
        exact .inr ⟨rfl, by omega⟩
  · rcases h with h | ⟨rfl, rfl⟩
    · obtain ⟨v2, h1, h2⟩ := F.top k' v' h
      by_cases z : k' = k
      · subst z
        have e := getI_in F.nd h2
        simp only at e
        exact ⟨_, by omega, putI_mem.mpr (.inr rfl)⟩
      · exact ⟨v2, h1, putI_mem.mpr (.inl ⟨h2, z⟩)⟩
    · exact ⟨_, m.2.1, putI_mem.mpr (.inr rfl)⟩
theorem Fdc.to {l : List (Int × Int)} {C C' : Int → Int → Prop} (F : Fdc l C) (h : ∀ k v, C k v ↔ C' k v) : Fdc l C' := ⟨F.nd, fun q hq => (h _ _).mp (F.snd q hq), fun k v hc => F.top k v ((h k v).mpr hc)⟩
def hdI (z r l : Int) : Int := if l + r < z then l + r else z
theorem hdI_eq (z r l : Int) : hdI z r l = min (l + r) z := by unfold hdI; split <;> omega
/-- what a state becomes -/
def Cand (z r n p : Int) (q : Int × Int) (k v : Int) : Prop := (n ≤ hdI z r q.1 ∧ k = 0 ∧ v = hdI z r q.1 - n) ∨ (q.2 < p ∧ k = q.2 + 1 ∧ v = hdI z r q.1)
theorem Fdc.stp {l : List (Int × Int)} {C : Int → Int → Prop} (F : Fdc l C) {z r n p : Int} {q : Int × Int} (hz : 0 ≤ z) (hr : 0 ≤ r) (hq : 0 ≤ q.1) : Fdc (stpN z r n p q l) fun k v => C k v ∨ Cand z r n p q k v := by
  have hh : 0 ≤ hdI z r q.1 := by rw [hdI_eq]; omega
  have e : stpN z r n p q l = (if q.2 < p then putI (if n ≤ hdI z r q.1 then putI l 0 (mxI (getI l 0) (hdI z r q.1 - n)) else l) (q.2 + 1) (mxI (getI (if n ≤ hdI z r q.1 then putI l 0 (mxI (getI l 0) (hdI z r q.1 - n)) else l) (q.2 + 1)) (hdI z r q.1)) else (if n ≤ hdI z r q.1 then putI l 0 (mxI (getI l 0) (hdI z r q.1 - n)) else l)) := rfl
  rw [e]
  unfold Cand
  generalize hdI z r q.1 = h at *
  have F1 : Fdc (if n ≤ h then putI l 0 (mxI (getI l 0) (h - n)) else l) fun k v => C k v ∨ (n ≤ h ∧ k = 0 ∧ v = h - n) := by
    split
    · rename_i c
      exact (F.put (by omega)).to fun k v => ⟨fun x => x.imp id fun y => ⟨c, y⟩, fun x => x.imp id fun y => y.2⟩
    · rename_i c
      exact F.to fun k v => ⟨.inl, fun x => x.elim id fun y => absurd y.1 c⟩
  generalize (if n ≤ h then putI l 0 (mxI (getI l 0) (h - n)) else l) = l1 at *
  split
  · rename_i c
    refine (F1.put hh).to fun k v => ⟨?_, ?_⟩
    · rintro ((x | x) | x)
      · exact .inl x
      · exact .inr (.inl x)
      · exact .inr (.inr ⟨c, x⟩)
    · rintro (x | x | x)
      · exact .inl (.inl x)
      · exact .inl (.inr x)
      · exact .inr x.2
  · rename_i c
    refine F1.to fun k v => ⟨?_, ?_⟩
    · rintro (x | x)
      · exact .inl x
      · exact .inr (.inl x)
    · rintro (x | x | x)
      · exact .inl x
      · exact .inr x
      · exact absurd x.1 c
theorem foldF_fdc {z r n p : Int} (hz : 0 ≤ z) (hr : 0 ≤ r) : ∀ (ls : List (Int × Int)), (∀ q ∈ ls, 0 ≤ q.1) → Fdc (foldF z r n p ls) fun k v => ∃ q ∈ ls, Cand z r n p q k v := by
  have go : ∀ (ls acc : List (Int × Int)) (C : Int → Int → Prop), (∀ q ∈ ls, 0 ≤ q.1) → Fdc acc C → Fdc (ls.foldl (fun l q => stpN z r n p q l) acc) fun k v => C k v ∨ ∃ q ∈ ls, Cand z r n p q k v := by
    intro ls
    induction ls with
    | nil => exact fun acc C _ F => F.to fun k v => ⟨.inl, fun x => x.elim id fun ⟨q, hq, _⟩ => by cases hq⟩
    | cons q ls ih =>
      intro acc C h F
      refine (ih _ _ (fun x hx => h x (List.mem_cons_of_mem _ hx)) (F.stp hz hr (h q (by simp)))).to fun k v => ⟨?_, ?_⟩
      · rintro ((x | x) | ⟨y, hy, x⟩)
        · exact .inl x
        · exact .inr ⟨q, by simp, x⟩
        · exact .inr ⟨y, List.mem_cons_of_mem _ hy, x⟩
      · rintro (x | ⟨y, hy, x⟩)
        · exact .inl (.inl x)
        · rcases List.mem_cons.mp hy with rfl | hy
          · exact .inl (.inr x)
          · exact .inr ⟨y, hy, x⟩
  intro ls h
  refine (go ls [] (fun _ _ => False) h ⟨by simp, fun q hq => (by cases hq), fun k v hc => hc.elim⟩).to fun k v => ⟨fun x => x.elim False.elim id, .inr⟩

/-! ### all courses -/
def stR (z : Int) (lo ns : List Int) (p : Nat) (s : Nat) (x y : Int × Int) : Prop := Cand z (am lo s) (am ns s) p x y.2 y.1
def Rch (z : Int) (lo ns : List Int) (p : Nat) (x0 : Int × Int) : Nat → Int × Int → Prop
  | 0 => fun x => x = x0
  | k + 1 => fun y => ∃ x, Rch z lo ns p x0 k x ∧ stR z lo ns p k x y
def lsK (z : Int) (lo ns : List Int) (p : Nat) (x0 : Int × Int) : Nat → List (Int × Int)
  | 0 => [x0]
  | k + 1 => nextS z (lsK z lo ns p x0 k) (am lo k) (am ns k) p
section
variable {z : Int} {lo hi ns : List Int} {p : Nat} {x0 : Int × Int} {T : Nat}
/-- a state -/
def St2 (z : Int) (p : Nat) (x : Int × Int) : Prop := 0 ≤ x.1 ∧ x.1 ≤ z ∧ 0 ≤ x.2 ∧ x.2 ≤ p
theorem stR_in (R : Rw z lo hi ns T) {s : Nat} {x y : Int × Int} (h : stR z lo ns p s x y) (hx : St2 z p x) : St2 z p y := by
  have l0 := R.l0 s
  have n0 := R.n0 s
  have z0 := R.z0
  obtain ⟨b1, b2, b3, b4⟩ := hx
  unfold stR Cand at h
  rw [hdI_eq] at h
  unfold St2
  rcases h with ⟨h1, h2, h3⟩ | ⟨h1, h2, h3⟩ <;> omega
theorem Rch_in (R : Rw z lo hi ns T) (h0 : St2 z p x0) : ∀ {k : Nat} {x : Int × Int}, Rch z lo ns p x0 k x → St2 z p x
  | 0, x, h => by cases h; exact h0
  | k + 1, y, ⟨x, h, e⟩ => stR_in R e (Rch_in R h0 h)
theorem stR_mono {s : Nat} {x x' y : Int × Int} (h : stR z lo ns p s x y) (h1 : x.1 ≤ x'.1) (h2 : x.2 = x'.2) : ∃ y', stR z lo ns p s x' y' ∧ y.1 ≤ y'.1 ∧ y.2 = y'.2 := by
  unfold stR Cand at h
  rw [hdI_eq] at h
  rcases h with ⟨q1, q2, q3⟩ | ⟨q1, q2, q3⟩
  · refine ⟨(hdI z (am lo s) x'.1 - am ns s, 0), .inl ⟨by rw [hdI_eq]; omega, rfl, rfl⟩, ?_, q2⟩
    simp only
    rw [hdI_eq]; omega
  · refine ⟨(hdI z (am lo s) x'.1, x'.2 + 1), .inr ⟨by omega, rfl, rfl⟩, ?_, ?_⟩
    · simp only
      rw [hdI_eq]; omega
    · simp only; omega
theorem lsK_spec (R : Rw z lo hi ns T) (h0 : St2 z p x0) : ∀ k, (∀ x ∈ lsK z lo ns p x0 k, Rch z lo ns p x0 k x) ∧ (∀ x, Rch z lo ns p x0 k x → ∃ y ∈ lsK z lo ns p x0 k, x.1 ≤ y.1 ∧ x.2 = y.2) ∧ ((lsK z lo ns p x0 k).map (·.2)).Nodup
  | 0 => ⟨fun x hx => List.mem_singleton.mp hx, fun x hx => ⟨x0, by simp [lsK], by rw [show x = x0 from hx]; exact Int.le_refl _, by rw [show x = x0 from hx]⟩, by simp [lsK]⟩
  | k + 1 => by
    obtain ⟨i1, i2, _⟩ := lsK_spec R h0 k
    have F := foldF_fdc (n := am ns k) (p := (p : Int)) R.z0 (R.l0 k) (lsK z lo ns p x0 k) fun q hq => (Rch_in R h0 (i1 q hq)).1
    have hm : ∀ x, x ∈ lsK z lo ns p x0 (k + 1) ↔ (x.2, x.1) ∈ foldF z (am lo k) (am ns k) p (lsK z lo ns p x0 k) := fun x => by
      show x ∈ (foldF z (am lo k) (am ns k) p (lsK z lo ns p x0 k)).map _ ↔ _
      rw [List.mem_map]
      constructor
      · rintro ⟨q, hq, rfl⟩; exact hq
      · intro h; exact ⟨_, h, rfl⟩
    refine ⟨fun x hx => ?_, fun y ⟨x, hx, e⟩ => ?_, ?_⟩
    · obtain ⟨q, hq, hc⟩ := F.snd _ ((hm x).mp hx)
      exact ⟨q, i1 q hq, hc⟩
    · obtain ⟨q, hq, h1, h2⟩ := i2 x hx
      obtain ⟨y', e', h3, h4⟩ := stR_mono e h1 h2
      obtain ⟨v, h5, h6⟩ := F.top y'.2 y'.1 ⟨q, hq, e'⟩
      exact ⟨(v, y'.2), (hm _).mpr h6, Int.le_trans h3 h5, h4⟩
    · show ((foldF z (am lo k) (am ns k) p (lsK z lo ns p x0 k)).map (fun q => (q.2, q.1))).map (·.2) |>.Nodup
      rw [List.map_map]
      exact F.nd
theorem lsK_nil (R : Rw z lo hi ns T) (h0 : St2 z p x0) {k : Nat} : lsK z lo ns p x0 k = [] ↔ ∀ x, ¬ Rch z lo ns p x0 k x := by
  obtain ⟨i1, i2, _⟩ := lsK_spec R h0 k
  constructor
  · intro e x hx
    obtain ⟨y, hy, _⟩ := i2 x hx
    rw [e] at hy
    cases hy
  · intro h
    cases q : lsK z lo ns p x0 k with
    | nil => rfl
    | cons y l => exact absurd (i1 y (by rw [q]; simp)) (h y)
theorem lsK_len (R : Rw z lo hi ns T) (h0 : St2 z p x0) (k : Nat) : (lsK z lo ns p x0 k).length ≤ p + 1 := by
  obtain ⟨i1, _, i3⟩ := lsK_spec R h0 k
  have := nat_nodup_len ((lsK z lo ns p x0 k).map fun x => x.2.toNat) (List.range (p + 1)) (by
    refine List.pairwise_map.mpr ((List.pairwise_map.mp i3).imp_of_mem fun {a b} ha hb h z => h ?_)
    have := (Rch_in R h0 (i1 a ha)).2.2.1
    have := (Rch_in R h0 (i1 b hb)).2.2.1
    omega) (fun x hx => by
    obtain ⟨y, hy, rfl⟩ := List.mem_map.mp hx
    have := (Rch_in R h0 (i1 y hy)).2.2
    rw [List.mem_range]
    omega)
  rw [List.length_map, List.length_range] at this
  exact this

/-! ### how long at the most -/
def Al (z : Int) (lo ns : List Int) (p : Nat) : Nat → Nat → Int × Int → Prop
  | 0, _, _ => True
  | n + 1, s, x => ∃ y, stR z lo ns p s x y ∧ Al z lo ns p n (s + 1) y
theorem Al_anti : ∀ {n s : Nat} {x : Int × Int}, Al z lo ns p (n + 1) s x → Al z lo ns p n s x
  | 0, _, _, _ => trivial
  | n + 1, s, x, ⟨y, h, e⟩ => ⟨y, h, Al_anti e⟩
theorem Al_mono : ∀ {n s : Nat} {x x' : Int × Int}, Al z lo ns p n s x → x.1 ≤ x'.1 → x.2 = x'.2 → Al z lo ns p n s x'
  | 0, _, _, _, _, _, _ => trivial
  | n + 1, s, x, x', ⟨y, h, e⟩, h1, h2 => by
    obtain ⟨y', a, b, c⟩ := stR_mono h h1 h2
    exact ⟨y', a, Al_mono e b c⟩
theorem Al_shift {k : Nat} (d1 : lo.length ∣ k) (d3 : ns.length ∣ k) : ∀ {n s : Nat} {x : Int × Int}, Al z lo ns p n (s + k) x ↔ Al z lo ns p n s x
  | 0, _, _ => Iff.rfl
  | n + 1, s, x => by
    have e : ∀ y, stR z lo ns p (s + k) x y ↔ stR z lo ns p s x y := fun y => by unfold stR; rw [am_shift d1, am_shift d3]
    constructor
    · rintro ⟨y, h1, h2⟩
      rw [show s + k + 1 = s + 1 + k by omega] at h2
      exact ⟨y, (e y).mp h1, (Al_shift d1 d3).mp h2⟩
    · rintro ⟨y, h1, h2⟩
      refine ⟨y, (e y).mpr h1, ?_⟩
      rw [show s + k + 1 = s + 1 + k by omega]
      exact (Al_shift d1 d3).mpr h2
theorem Rch_al : ∀ {k m : Nat} {x : Int × Int}, Rch z lo ns p x0 k x → Al z lo ns p m k x → Al z lo ns p (k + m) 0 x0
  | 0, m, x, h, a => by cases h; rw [Nat.zero_add]; exact a
  | k + 1, m, y, ⟨x, h, e⟩, a => by
    rw [show k + 1 + m = k + (m + 1) by omega]
    exact Rch_al h ⟨y, e, a⟩
theorem Al_mod (R : Rw z lo hi ns T) {n s : Nat} {x : Int × Int} : Al z lo ns p n (s % T) x ↔ Al z lo ns p n s x := by
  have e : s = s % T + T * (s / T) := (Nat.mod_add_div s T).symm
  conv => rhs; rw [e]
  exact (Al_shift (Nat.dvd_trans R.d1 (Nat.dvd_mul_right _ _)) (Nat.dvd_trans R.d3 (Nat.dvd_mul_right _ _))).symm
/-- a row that does not rise stands still before it has gone down to nothing -/
theorem stand {f : Nat → Nat} (h : ∀ n, f (n + 1) ≤ f n) : ∃ n, n ≤ f 0 ∧ f (n + 1) = f n := by
  rcases Classical.em (∃ n, n ≤ f 0 ∧ f (n + 1) = f n) with q | q
  · exact q
  · exfalso
    have : ∀ n, n ≤ f 0 + 1 → f n + n ≤ f 0 := by
      intro n
      induction n with
      | zero => intro _; omega
      | succ n ih =>
        intro hn
        have := ih (by omega)
        have := h n
        have : f (n + 1) ≠ f n := fun e => q ⟨n, by omega, e⟩
        omega
    have := this (f 0 + 1) (Nat.le_refl _)
    omega
def states (z : Int) (p T : Nat) : List (Nat × Int × Int) := (cells T p).flatMap fun x => (List.range (z + 1).toNat).map fun l : Nat => (x.1, (l : Int), (x.2 : Int))
theorem states_mem {s : Nat} {x : Int × Int} : (s, x) ∈ states z p T ↔ s < T ∧ St2 z p x := by
  unfold states St2
  obtain ⟨l, a⟩ := x
  simp only [List.mem_flatMap, List.mem_map, List.mem_range, Prod.mk.injEq]
  constructor
  · rintro ⟨⟨s', a'⟩, h1, l', h2, rfl, rfl, rfl⟩
    have := cells_mem.mp h1
    omega
  · rintro ⟨h1, h2, h3, h4, h5⟩
    exact ⟨(s, a.toNat), cells_mem.mpr ⟨h1, by omega⟩, l.toNat, by omega, rfl, by omega, by simp only; omega⟩
theorem states_len : (states z p T).length = T * (p + 1) * (z + 1).toNat := by
  unfold states
  rw [List.length_flatMap]
  have e : (cells T p).map (fun x => ((List.range (z + 1).toNat).map fun l : Nat => (x.1, (l : Int), (x.2 : Int))).length) = (cells T p).map fun _ => (z + 1).toNat := List.map_congr_left fun x _ => by simp
  rw [e, List.map_const', List.sum_replicate_nat, cells_len]
theorem filter_eq_of_len {α : Type} {P Q : α → Bool} : ∀ {l : List α}, (∀ x ∈ l, P x = true → Q x = true) → (l.filter P).length = (l.filter Q).length → ∀ x ∈ l, Q x = true → P x = true
  | [], _, _, x, hx, _ => by cases hx
  | y :: l, h, e, x, hx, hq => by
    have le : ∀ l : List α, (∀ x ∈ l, P x = true → Q x = true) → (l.filter P).length ≤ (l.filter Q).length := by
      intro l
      induction l with
      | nil => exact fun _ => Nat.le_refl _
      | cons z l ih =>
        intro h
        have i := ih fun x hx => h x (List.mem_cons_of_mem _ hx)
        have q := h z (by simp)
        rw [List.filter_cons, List.filter_cons]
        cases hp : P z with
        | true => rw [q hp]; simp; exact i
        | false => cases Q z <;> simp <;> omega
    have i := le l fun x hx => h x (List.mem_cons_of_mem _ hx)
    have q := h y (by simp)
    rw [List.filter_cons, List.filter_cons] at e
    cases hp : P y with
    | true =>
      rw [hp, q hp] at e
      simp at e
      rcases List.mem_cons.mp hx with rfl | hx
      · exact hp
      · exact filter_eq_of_len (fun x hx => h x (List.mem_cons_of_mem _ hx)) e x hx hq
    | false =>
      cases hy : Q y with
      | true => rw [hp, hy] at e; simp at e; omega
      | false =>
        rw [hp, hy] at e
        simp at e
        rcases List.mem_cons.mp hx with rfl | hx
        · rw [hy] at hq; cases hq
        · exact filter_eq_of_len (fun x hx => h x (List.mem_cons_of_mem _ hx)) e x hx hq
/-- who does not live for ever dies before long -/
theorem dies (R : Rw z lo hi ns T) {a : Nat} {l : Int} (ha : a ≤ p) (h1 : 0 ≤ l) (h2 : l ≤ z) (h : ¬ gf z lo hi ns p 0 a l) : ∃ n, n ≤ T * (p + 1) * (z + 1).toNat ∧ ¬ Al z lo ns p n 0 (l, a) := by
  classical
  obtain ⟨n, hn, e⟩ := stand (f := fun n => ((states z p T).filter fun x => decide (Al z lo ns p n x.1 x.2)).length) fun n => by
    have := List.length_filter_le (fun x : Nat × Int × Int => decide (Al z lo ns p (n + 1) x.1 x.2)) ((states z p T).filter fun x => decide (Al z lo ns p n x.1 x.2))
    rw [List.filter_filter] at this
    have e : (states z p T).filter (fun x => decide (Al z lo ns p (n + 1) x.1 x.2) && decide (Al z lo ns p n x.1 x.2)) = (states z p T).filter fun x => decide (Al z lo ns p (n + 1) x.1 x.2) := List.filter_congr fun x _ => by
      by_cases q : Al z lo ns p (n + 1) x.1 x.2
      · rw [decide_eq_true q, decide_eq_true (Al_anti q)]; rfl
      · rw [decide_eq_false q]; rfl
    rw [e] at this
    exact this
  have st : ∀ s x, s < T → St2 z p x → Al z lo ns p n s x → Al z lo ns p (n + 1) s x := fun s x hs hx q => by
    have := filter_eq_of_len (l := states z p T) (P := fun x => decide (Al z lo ns p (n + 1) x.1 x.2)) (Q := fun x => decide (Al z lo ns p n x.1 x.2)) (fun x _ q => decide_eq_true (Al_anti (of_decide_eq_true q))) e (s, x) (states_mem.mpr ⟨hs, hx⟩) (decide_eq_true q)
    exact of_decide_eq_true this
  refine ⟨n, ?_, fun q => h ?_⟩
  · have q := List.length_filter_le (fun x : Nat × Int × Int => decide (Al z lo ns p 0 x.1 x.2)) (states z p T)
    rw [states_len] at q
    exact Nat.le_trans hn q
  · refine gf_of (G := fun s a l => a ≤ p ∧ 0 ≤ l ∧ l ≤ z ∧ Al z lo ns p n s (l, a)) ⟨fun s a l h => ⟨h.1, h.2.1, h.2.2.1⟩, fun s a l _ => R.n0 s, ?_⟩ ⟨ha, h1, h2, q⟩
    rintro s a l ⟨b1, b2, b3, b4⟩ r r1 r2
    have b5 := (Al_mod (x := (l, (a : Int))) R).mp (st (s % T) (l, a) (Nat.mod_lt _ R.T0) ⟨b2, b3, by simp only; omega, by simp only; omega⟩ ((Al_mod R).mpr b4))
    obtain ⟨y, c1, c2⟩ := b5
    have l0 := R.l0 s
    have n0 := R.n0 s
    unfold stR Cand at c1
    rw [hdI_eq] at c1
    simp only at c1
    obtain ⟨y1, y2⟩ := y
    simp only at c1
    rcases c1 with ⟨d1, d2, d3⟩ | ⟨d1, d2, d3⟩
    · refine .inl ⟨by omega, Nat.zero_le _, by omega, by omega, Al_mono c2 ?_ ?_⟩
      · simp only; omega
      · simp only; omega
    · refine .inr ⟨by omega, by omega, by omega, by omega, Al_mono c2 ?_ ?_⟩
      · simp only; omega
      · simp only; omega
end
end K10

set_option Elab.async false
set_option linter.all false
set_option maxRecDepth 100000
set_option maxHeartbeats 4000000
/-! K10m9: dying_steps. -/
namespace K10
open PySem PySem.Spec L2 DL
open PyProof.Rows hiding St
section
variable {z l : Int} {lo hi ns : List Int} {p a : Nat} {c : List Int} {x0 : Int × Int}
theorem next_states_eq {ls : List (Int × Int)} {r n pp : Int} (h : ls.length ≤ 1000) : F_next_states [.int z, dttD ls, .int r, .int n, .int pp] c = .ok (.val (dttD (nextS z ls r n pp))) c := by
  have es : startS 9 [.int z, dttD ls, .int r, .int n, .int pp] c = ⟨[.val (.int z), .val (dttD ls), .val (.int r), .val (.int n), .val (.int pp), .un, .un, .un, .un], c⟩ := rfl
  have e := pairsI_map ls
  have ed : dttD ls = .dict [(.bool false, .list (ls.map pairDI))] := rfl
  rw [F_next_states, fnD_eq, es, ed]
  unfold d_next_states
  simp only [e, h, if_true]
  rfl
abbrev yS (z l : Int) (lo hi ns : List Int) (p a : Nat) (bd : D) (ls : List (Int × Int)) (k : Int) (c : List Int) : S :=
  ⟨[.val (.int z), .val (.int l), .val (weD lo hi), .val (rowD ns), .val (.int p), .val (.int a), .val bd, .val (dttD ls), .val (.int k)], c⟩
theorem die_cond {bd : D} {ls : List (Int × Int)} {k : Int} : d_dying_steps_c1 (yS z l lo hi ns p a bd ls k c) = .ok (.val (.bool (decide (ls ≠ [])))) (yS z l lo hi ns p a bd ls k c) := by
  have e : lenB [dttD ls] = some (.val (.int ls.length)) := by
    show some (Sl.val (.int ((ls.map fun p => PyData.tuple [.int p.1, .int p.2]).length))) = _
    rw [List.length_map]
  have e2 : decide ((0 : Int) < ls.length) = decide (ls ≠ []) := by cases ls <;> simp <;> omega
  unfold d_dying_steps_c1
  dsimp only [yS]
  generalize decide (ls ≠ []) = TR at *
  generalize dttD ls = LD at *
  generalize (ls.length : Int) = N at *
  generalize (p : Int) = PP at *
  generalize (a : Int) = AA at *
  generalize weD lo hi = WD at *
  generalize rowD ns = NS at *
  simp -implicitDefEqProofs [eLenN_val, e, e2]
theorem die_body (P : Px z lo hi ns p) {bd : D} {k : Nat} (h : (lsK z lo ns p x0 k).length ≤ 1000) : d_dying_steps_b2 (yS z l lo hi ns p a bd (lsK z lo ns p x0 k) k c) = .nx (yS z l lo hi ns p a bd (lsK z lo ns p x0 (k + 1)) ((k + 1 : Nat) : Int) c) := by
  have e1 := amount_at_eq (ns := lo) (i := k) (c := c) P.we.l.1 P.we.l.2.1
  have e2 := amount_at_eq (ns := ns) (i := k) (c := c) P.n.1 P.n.2.1
  have e3 := next_states_eq (z := z) (ls := lsK z lo ns p x0 k) (r := am lo k) (n := am ns k) (pp := (p : Int)) (c := c) h
  rw [show nextS z (lsK z lo ns p x0 k) (am lo k) (am ns k) p = lsK z lo ns p x0 (k + 1) from rfl] at e3
  dsimp only [yS]
  rw [show ((k + 1 : Nat) : Int) = (k : Int) + 1 by omega]
  generalize dttD (lsK z lo ns p x0 k) = L1 at *
  generalize dttD (lsK z lo ns p x0 (k + 1)) = L2 at *
  have w0 : atI [rowD lo, rowD hi] 0 = some (rowD lo) := rfl
  unfold weD at *
  generalize rowD lo = LO at *
  generalize rowD hi = HI at *
  generalize rowD ns = NS at *
  generalize am lo k = A1 at *
  generalize am ns k = A2 at *
  generalize (p : Int) = PP at *
  generalize (a : Int) = AA at *
  generalize (k : Int) = KK at *
  unfold d_dying_steps_b2
  simp -implicitDefEqProofs [eVar_val, eIxN_val, w0, callR_mk e1, callR_mk e2, callR_mk e3, dAug_val]
theorem die_loop (P : Px z lo hi ns p) (h0 : St2 z p x0) {bd : D} {K : Nat} (hK : lsK z lo ns p x0 K = []) (hk : ∀ j, j < K → lsK z lo ns p x0 j ≠ []) : ∀ (N k : Nat), k ≤ K → K - k < N →
    dWhile d_dying_steps_c1 d_dying_steps_b2 N (yS z l lo hi ns p a bd (lsK z lo ns p x0 k) k c) = .nx (yS z l lo hi ns p a bd [] K c)
  | 0, k, _, h => by omega
  | N + 1, k, h1, h2 => by
    have cond := die_cond (z := z) (l := l) (lo := lo) (hi := hi) (ns := ns) (p := p) (a := a) (bd := bd) (ls := lsK z lo ns p x0 k) (k := k) (c := c)
    by_cases q : k = K
    · subst q
      rw [hK] at cond ⊢
      exact while_f cond
    · rw [decide_eq_true (hk k (by omega))] at cond
      have hl := lsK_len (rw_of P) h0 k
      have := P.p
      rw [while_t cond (die_body P (by omega))]
      exact die_loop P h0 hK hk N (k + 1) (by omega) (by omega)
theorem dying_eq (P : Px z lo hi ns p) (ha : a ≤ p) (h0 : 0 ≤ l) (h1 : l ≤ z) : (gf z lo hi ns p 0 a l → ∀ c, F_dying_steps [.int z, .int l, weD lo hi, rowD ns, .int p, .int a] c = .ok (.val .none) c) ∧
    (¬ gf z lo hi ns p 0 a l → ∃ K : Nat, 1 ≤ K ∧ K ≤ 1000000 ∧ (∀ x, ¬ Rch z lo ns p (l, a) K x) ∧ (∀ k, k < K → ∃ x, Rch z lo ns p (l, a) k x) ∧ ∀ c, F_dying_steps [.int z, .int l, weD lo hi, rowD ns, .int p, .int a] c = .ok (.val (.int ((K : Int) - 1))) c) := by
  have es : ∀ c, startS 9 [.int z, .int l, weD lo hi, rowD ns, .int p, .int a] c = ⟨[.val (.int z), .val (.int l), .val (weD lo hi), .val (rowD ns), .val (.int p), .val (.int a), .un, .un, .un], c⟩ := fun _ => rfl
  have R := rw_of P
  have z1 := P.z1
  have z2 := P.z2
  have e1 := fun c => need_integer_eq (c := c) (v := z) (lo := 1) (hi := 200) (x := "size") (by decide)
  simp only [if_neg (show ¬ (z < 1 ∨ 200 < z) by omega)] at e1
  have e2 := fun c => need_integer_eq (c := c) (v := l) (lo := 0) (hi := z) (x := "level") (by decide)
  simp only [if_neg (show ¬ (l < 0 ∨ z < l) by omega)] at e2
  have e3 := fun c => need_plant_eq (c := c) P
  have e4 := fun c => need_integer_eq (c := c) (v := (a : Int)) (lo := 0) (hi := (p : Int)) (x := "age") (by decide)
  simp only [if_neg (show ¬ ((a : Int) < 0 ∨ (p : Int) < a) by omega)] at e4
  have e5 := fun c => book_of_eq (c := c) P
  have a1 := nstD_at (bkD_row P 0)
  rw [Nat.zero_mod] at a1
  have a1 : atI ((bkD z lo hi ns p).map PyData.list) 0 = some (.list (rowL (bk z lo hi ns p) p 0)) := a1
  have a2 := atI_nat (rowL_at (B := bk z lo hi ns p) (s := 0) ha)
  have q := bk_gf (z := z) (lo := lo) (hi := hi) (ns := ns) (p := p) (s := 0) (a := a) h0 h1
  unfold nstD at *
  constructor
  · intro g c
    obtain ⟨x, ex, hx⟩ := q.mpr g
    rw [ex] at a2
    have a2 : atI (rowL (bk z lo hi ns p) p 0) (a : Int) = some (.int x) := a2
    have e1 := e1 c; have e2 := e2 c; have e3 := e3 c; have e4 := e4 c; have e5 := e5 c
    rw [F_dying_steps, fnD_eq, es]
    clear es ha
    generalize (bkD z lo hi ns p).map PyData.list = BD at *
    generalize rowL (bk z lo hi ns p) p 0 = RW at *
    generalize weD lo hi = WD at *
    generalize rowD ns = NS at *
    generalize (p : Int) = PP at *
    generalize (a : Int) = AA at *
    unfold d_dying_steps
    generalize 1000000000000000 = FU at *
    simp -implicitDefEqProofs [eVar_val, eIxN_val, callR_mk e1, callR_mk e2, callR_mk e3, callR_mk e4, callR_mk e5, a1, a2, hx]
  · intro g
    have S0 : St2 z p (l, (a : Int)) := ⟨h0, h1, by simp only; omega, by simp only; omega⟩
    obtain ⟨n, hn, hA⟩ := dies R ha h0 h1 g
    have hT := tn_le P.we.l P.n
    have hp := P.p
    have hm2 : tn lo ns * (p + 1) * (z + 1).toNat ≤ 576 * 7 * 201 := Nat.mul_le_mul (Nat.mul_le_mul hT (by omega)) (by omega)
    have hn0 : ∀ x, ¬ Rch z lo ns p (l, a) n x := fun x hx => hA (by have := Rch_al (m := 0) hx trivial; rw [Nat.add_zero] at this; exact this)
    obtain ⟨K, k1, k2, k3⟩ := st_least (p := fun k => ∀ x, ¬ Rch z lo ns p (l, a) k x) n hn0
    have K1 : 1 ≤ K := by
      rcases Nat.eq_zero_or_pos K with e | e
      · subst e; exact absurd rfl (k2 (l, a))
      · exact e
    refine ⟨K, K1, by omega, k2, fun k hk => ?_, fun c => ?_⟩
    · have := k3 k hk
      exact Classical.byContradiction fun z => this fun x hx => z ⟨x, hx⟩
    · have w := die_loop (c := c) (l := l) (a := a) (bd := .list ((bkD z lo hi ns p).map PyData.list)) P S0 ((lsK_nil R S0).mpr k2) (fun j hj z => k3 j hj ((lsK_nil R S0).mp z)) 1000000000000000 0 (by omega) (by omega)
      have tst : (eAnd (eNotN (eIx (eIxN 6 (eC (.int 0))) (eVar 5)) (eC .none)) (eGe (eVar 1) (eIx (eIxN 6 (eC (.int 0))) (eVar 5)))) ⟨[.val (.int z), .val (.int l), .val (weD lo hi), .val (rowD ns), .val (.int p), .val (.int a), .val (.list ((bkD z lo hi ns p).map PyData.list)), .un, .un], c⟩ =
          .ok (.val (.bool false)) ⟨[.val (.int z), .val (.int l), .val (weD lo hi), .val (rowD ns), .val (.int p), .val (.int a), .val (.list ((bkD z lo hi ns p).map PyData.list)), .un, .un], c⟩ := by
        clear w k1 k2 k3 hn0 hA hn hm2 hT hp S0 e1 e2 e3 e4 e5 es ha
        generalize rowL (bk z lo hi ns p) p 0 = RW at *
        generalize (bkD z lo hi ns p).map PyData.list = BD at *
        generalize weD lo hi = WD at *
        generalize rowD ns = NS at *
        generalize (p : Int) = PP at *
        cases ex : bk z lo hi ns p 0 a with
        | none =>
          rw [ex] at a2
          have nn : notNd (optD none) .none = some (.val (.bool false)) := rfl
          generalize optD none = ON at *
          generalize (a : Int) = AA at *
          simp -implicitDefEqProofs [eVar_val, eIxN_val, a1, a2, nn]
        | some x =>
          rw [ex] at a2
          have a2 : atI RW (a : Int) = some (.int x) := a2
          have hx : ¬ x ≤ l := fun h => g (q.mp ⟨x, ex, h⟩)
          generalize (a : Int) = AA at *
          simp -implicitDefEqProofs [eVar_val, eIxN_val, a1, a2, hx]
      have e1 := e1 c; have e2 := e2 c; have e3 := e3 c; have e4 := e4 c; have e5 := e5 c
      rw [F_dying_steps, fnD_eq, es]
      clear es ha a1 a2
      rw [show lsK z lo ns p (l, (a : Int)) 0 = [(l, (a : Int))] from rfl] at w
      dsimp only [yS] at *
      rw [show ((0 : Nat) : Int) = 0 from rfl] at w
      generalize (bkD z lo hi ns p).map PyData.list = BD at *
      generalize weD lo hi = WD at *
      generalize rowD ns = NS at *
      generalize (p : Int) = PP at *
      generalize (a : Int) = AA at *
      generalize (K : Int) = KK at *
      unfold d_dying_steps
      generalize 1000000000000000 = FU at *
      generalize (eAnd (eNotN (eIx (eIxN 6 (eC (.int 0))) (eVar 5)) (eC .none)) (eGe (eVar 1) (eIx (eIxN 6 (eC (.int 0))) (eVar 5)))) = G1 at *
      simp -implicitDefEqProofs [eVar_val, eIxN_val, callR_mk e1, callR_mk e2, callR_mk e3, callR_mk e4, callR_mk e5, tst, eDispV, w]
end
end K10

set_option Elab.async false
set_option linter.all false
set_option maxRecDepth 100000
set_option maxHeartbeats 4000000
/-! K10m10: one step of the own lot. -/
namespace K10
open PySem PySem.Spec L2 DL
open PyProof.Rows hiding St
theorem eqv_pair (p q : Int × Int) : PyData.eqv (pairDI p) (pairDI q) = decide (p = q) := by
  have e : PyData.eqv (pairDI p) (pairDI q) = PyData.eqvAll ([p.1, p.2].map PyData.int) ([q.1, q.2].map PyData.int) := by
    unfold pairDI
    simp only [PyData.eqv]
    rfl
  rw [e, eqv_ints]
  by_cases h : p = q
  · subst h; simp
  · have : ¬ ([p.1, p.2] : List Int) = [q.1, q.2] := fun z => by
      injection z with h1 h2
      injection h2 with h2 _
      exact h (Prod.ext h1 h2)
    rw [decide_eq_false h, decide_eq_false this]
theorem pair_sh (q : Int × Int) : Sh 1 (pairDI q) := Sh.tup (k := 0) fun x hx => by
  simp only [List.mem_cons, List.not_mem_nil, or_false] at hx
  rcases hx with rfl | rfl
  · exact Sh.int
  · exact Sh.int
theorem any_pairs {q : Int × Int} : ∀ ps : List (Int × Int), (ps.map pairDI).any (fun y => PyData.eqv y (pairDI q)) = decide (q ∈ ps)
  | [] => rfl
  | p :: ps => by
    rw [List.map_cons, List.any_cons, any_pairs ps, eqv_pair]
    by_cases h : p = q
    · subst h; simp
    · have h' : ¬ q = p := fun z => h z.symm
      simp [h, h']
theorem in_pairs {q : Int × Int} {ps : List (Int × Int)} : inD (pairDI q) (.list (ps.map pairDI)) = some (.val (.bool (decide (q ∈ ps)))) := by
  have h1 : SeqAt.shaped (pairDI q) = true := (pair_sh q).sh (by decide)
  have h2 : SeqAt.shaped (.list (ps.map pairDI)) = true := (Sh.lst (k := 1) fun x hx => by
    obtain ⟨y, _, rfl⟩ := List.mem_map.mp hx
    exact pair_sh y).sh (by decide)
  have : inB (pairDI q) (.list (ps.map pairDI)) = if SeqAt.shaped (pairDI q) && SeqAt.shaped (.list (ps.map pairDI)) then some ((ps.map pairDI).any fun y => PyData.eqv y (pairDI q)) else none := rfl
  show (inB (pairDI q) (.list (ps.map pairDI))).map _ = _
  rw [this, h1, h2, any_pairs]
  rfl
/-- whether a state holds against a rain, by the states behind -/
def okR (z n : Int) (p : Nat) (ps : List (Int × Int)) (x : Int × Int) (r : Int) : Prop := (n ≤ hdI z r x.1 ∧ (hdI z r x.1 - n, 0) ∈ ps) ∨ (x.2 < p ∧ (hdI z r x.1, x.2 + 1) ∈ ps)
instance (z n : Int) (p : Nat) (ps : List (Int × Int)) (x : Int × Int) (r : Int) : Decidable (okR z n p ps x r) := by unfold okR; infer_instance
section
variable {z n : Int} {p : Nat} {ps : List (Int × Int)} {x : Int × Int} {c : List Int} {a1 a2 x8 x9 x10 : Sl}
abbrev hS (z n : Int) (p : Nat) (ps : List (Int × Int)) (x : Int × Int) (a1 a2 x8 x9 x10 : Sl) (c : List Int) : S := ⟨[.val (.int z), a1, a2, .val (.int n), .val (.int p), .val (.int x.1), .val (.int x.2), .val (.list (ps.map pairDI)), x8, x9, x10], c⟩
theorem hold_b0 {l a r h PP : Int} {m1 m2 : Bool} {PS : List D} (eh : h = if l + r < z then l + r else z) (i1 : inD (.tuple [.int (h - n), .int 0]) (.list PS) = some (.val (.bool m1))) (i2 : inD (.tuple [.int h, .int (a + 1)]) (.list PS) = some (.val (.bool m2))) :
    d__law_holds_b1 ⟨[.val (.int z), a1, a2, .val (.int n), .val (.int PP), .val (.int l), .val (.int a), .val (.list PS), .val (.int r), x9, x10], c⟩ =
    if (n ≤ h ∧ m1 = true) ∨ (a < PP ∧ m2 = true) then .nx ⟨[.val (.int z), a1, a2, .val (.int n), .val (.int PP), .val (.int l), .val (.int a), .val (.list PS), .val (.int r), .val (.int h), .val (.bool (decide (n ≤ h ∧ m1 = true)))], c⟩ else .rt (.val (.bool false)) c := by
  unfold d__law_holds_b1
  have tw : ∀ st : S, st.e[9]? = some (.val (.int h)) → st.e[3]? = some (.val (.int n)) → st.e[7]? = some (.val (.list PS)) → eAnd (eGe (eVar 9) (eVar 3)) (eIn (eTup (aCons (eSub (eVar 9) (eVar 3)) (aCons (eC (.int 0)) aNil))) (eVar 7)) st = .ok (.val (.bool (decide (n ≤ h ∧ m1 = true)))) st := fun st g1 g2 g3 => by
    by_cases k : n ≤ h
    · cases m1 <;> simp -implicitDefEqProofs [eVar_val g1, eVar_val g2, eVar_val g3, k, i1]
    · simp -implicitDefEqProofs [eVar_val g1, eVar_val g2, eVar_val g3, k]
  have tv : ∀ st : S, st.e[9]? = some (.val (.int h)) → st.e[6]? = some (.val (.int a)) → st.e[4]? = some (.val (.int PP)) → st.e[7]? = some (.val (.list PS)) → eAnd (eLt (eVar 6) (eVar 4)) (eIn (eTup (aCons (eVar 9) (aCons (eAdd (eVar 6) (eC (.int 1))) aNil))) (eVar 7)) st = .ok (.val (.bool (decide (a < PP ∧ m2 = true)))) st := fun st g1 g2 g4 g3 => by
    by_cases k : a < PP
    · cases m2 <;> simp -implicitDefEqProofs [eVar_val g1, eVar_val g2, eVar_val g3, eVar_val g4, k, i2]
    · simp -implicitDefEqProofs [eVar_val g1, eVar_val g2, eVar_val g3, eVar_val g4, k]
  have t9 : ∀ st : S, st.e[5]? = some (.val (.int l)) → st.e[8]? = some (.val (.int r)) → st.e[0]? = some (.val (.int z)) → eIf (eLt (eAdd (eVar 5) (eVar 8)) (eVar 0)) (eAdd (eVar 5) (eVar 8)) (eVar 0) st = .ok (.val (.int h)) st := fun st g1 g2 g3 => by
    rw [eh]
    by_cases k : l + r < z
    · simp -implicitDefEqProofs [eVar_val g1, eVar_val g2, eVar_val g3, k]
    · simp -implicitDefEqProofs [eVar_val g1, eVar_val g2, eVar_val g3, k]
  have t9 := t9 ⟨[.val (.int z), a1, a2, .val (.int n), .val (.int PP), .val (.int l), .val (.int a), .val (.list PS), .val (.int r), x9, x10], c⟩ rfl rfl rfl
  have tw := tw ⟨[.val (.int z), a1, a2, .val (.int n), .val (.int PP), .val (.int l), .val (.int a), .val (.list PS), .val (.int r), .val (.int h), x10], c⟩ rfl rfl rfl
  have tv := fun y => tv ⟨[.val (.int z), a1, a2, .val (.int n), .val (.int PP), .val (.int l), .val (.int a), .val (.list PS), .val (.int r), .val (.int h), y], c⟩ rfl rfl rfl rfl
  generalize eIf (eLt (eAdd (eVar 5) (eVar 8)) (eVar 0)) (eAdd (eVar 5) (eVar 8)) (eVar 0) = G9 at *
  generalize eAnd (eGe (eVar 9) (eVar 3)) (eIn (eTup (aCons (eSub (eVar 9) (eVar 3)) (aCons (eC (.int 0)) aNil))) (eVar 7)) = G10 at *
  generalize eAnd (eLt (eVar 6) (eVar 4)) (eIn (eTup (aCons (eVar 9) (aCons (eAdd (eVar 6) (eC (.int 1))) aNil))) (eVar 7)) = G11 at *
  by_cases k1 : n ≤ h ∧ m1 = true
  · rw [if_pos (.inl k1)]
    simp only [decide_eq_true k1] at *
    simp -implicitDefEqProofs [t9, tw, tv, eVar_val]
  · by_cases k2 : a < PP ∧ m2 = true
    · rw [if_pos (.inr k2)]
      simp only [decide_eq_false k1, decide_eq_true k2] at *
      simp -implicitDefEqProofs [t9, tw, tv, eVar_val]
    · rw [if_neg fun h => h.elim k1 k2]
      simp only [decide_eq_false k1, decide_eq_false k2] at *
      simp -implicitDefEqProofs [t9, tw, tv, eVar_val]
theorem hold_b (r : Int) : ∃ y9 y10, d__law_holds_b1 (hS z n p ps x a1 a2 (.val (.int r)) x9 x10 c) = if okR z n p ps x r then .nx (hS z n p ps x a1 a2 (.val (.int r)) y9 y10 c) else .rt (.val (.bool false)) c := by
  have e := hold_b0 (z := z) (n := n) (l := x.1) (a := x.2) (r := r) (h := hdI z r x.1) (PP := (p : Int)) (PS := ps.map pairDI) (a1 := a1) (a2 := a2) (x9 := x9) (x10 := x10) (c := c) rfl (in_pairs (q := (hdI z r x.1 - n, 0)) (ps := ps)) (in_pairs (q := (hdI z r x.1, x.2 + 1)) (ps := ps))
  refine ⟨.val (.int (hdI z r x.1)), .val (.bool (decide (n ≤ hdI z r x.1 ∧ decide ((hdI z r x.1 - n, (0 : Int)) ∈ ps) = true))), ?_⟩
  by_cases k : okR z n p ps x r
  · rw [if_pos k]
    unfold okR at k
    rw [if_pos (by simpa only [decide_eq_true_eq] using k)] at e
    exact e
  · rw [if_neg k]
    unfold okR at k
    rw [if_neg (by simpa only [decide_eq_true_eq] using k)] at e
    exact e
theorem hold_l : ∀ (m : Nat) (lo : Int) (x8 x9 x10 : Sl), ((∀ r, lo ≤ r → r < lo + m → okR z n p ps x r) → ∃ y8 y9 y10, forL (gSet 8) d__law_holds_b1 (rangeD lo m) (hS z n p ps x a1 a2 x8 x9 x10 c) = .nx (hS z n p ps x a1 a2 y8 y9 y10 c)) ∧
    ((∃ r, lo ≤ r ∧ r < lo + m ∧ ¬ okR z n p ps x r) → forL (gSet 8) d__law_holds_b1 (rangeD lo m) (hS z n p ps x a1 a2 x8 x9 x10 c) = .rt (.val (.bool false)) c)
  | 0, lo, x8, x9, x10 => ⟨fun _ => ⟨x8, x9, x10, rfl⟩, fun ⟨r, h1, h2, _⟩ => by omega⟩
  | m + 1, lo, x8, x9, x10 => by
    obtain ⟨y9, y10, e⟩ := hold_b (z := z) (n := n) (p := p) (ps := ps) (x := x) (c := c) (a1 := a1) (a2 := a2) (x9 := x9) (x10 := x10) lo
    rw [rangeD_succ]
    by_cases k : okR z n p ps x lo
    · rw [if_pos k] at e
      obtain ⟨i1, i2⟩ := hold_l m (lo + 1) (.val (.int lo)) y9 y10
      rw [forL_nx rfl (s2 := hS z n p ps x a1 a2 (.val (.int lo)) y9 y10 c) e]
      refine ⟨fun h => i1 fun r r1 r2 => h r (by omega) (by omega), fun ⟨r, h1, h2, h3⟩ => i2 ⟨r, ?_, by omega, h3⟩⟩
      by_cases q : r = lo
      · subst q; exact absurd k h3
      · omega
    · rw [if_neg k] at e
      refine ⟨fun h => absurd (h lo (Int.le_refl _) (by omega)) k, fun _ => ?_⟩
      exact forL_rt (g := gSet 8) (s1 := hS z n p ps x a1 a2 (.val (.int lo)) x9 x10 c) rfl e
theorem holds_eq {lo hi : Int} (h1 : 0 ≤ lo) (h2 : lo ≤ hi) (h3 : hi ≤ 1000) {b : Bool} (hb : b = true ↔ ∀ r, lo ≤ r → r ≤ hi → okR z n p ps x r) :
    F__law_holds [.int z, .int lo, .int hi, .int n, .int p, .int x.1, .int x.2, .list (ps.map pairDI)] c = .ok (.val (.bool b)) c := by
  have es : startS 11 [.int z, .int lo, .int hi, .int n, .int p, .int x.1, .int x.2, .list (ps.map pairDI)] c = hS z n p ps x (.val (.int lo)) (.val (.int hi)) .un .un .un c := rfl
  obtain ⟨i1, i2⟩ := hold_l (z := z) (n := n) (p := p) (ps := ps) (x := x) (c := c) (a1 := .val (.int lo)) (a2 := .val (.int hi)) (hi + 1 - lo).toNat lo .un .un .un
  have r := fun st => rng2K_int (i := lo) (j := hi + 1) (s := st) (by omega) (by omega)
  rw [F__law_holds, fnD_eq, es]
  generalize rangeD lo (hi + 1 - lo).toNat = RG at *
  unfold d__law_holds
  cases b with
  | true =>
    obtain ⟨y8, y9, y10, e⟩ := i1 fun r r1 r2 => hb.mp rfl r r1 (by omega)
    dsimp only [hS] at *
    generalize (p : Int) = PP at *
    generalize ps.map pairDI = PS at *
    simp -implicitDefEqProofs [eVar_val, r, e]
  | false =>
    have e := i2 (by
      refine Classical.byContradiction fun q => ?_
      have := hb.mpr fun r r1 r2 => Classical.byContradiction fun k => q ⟨r, r1, by omega, k⟩
      cases this)
    dsimp only [hS] at *
    generalize (p : Int) = PP at *
    generalize ps.map pairDI = PS at *
    simp -implicitDefEqProofs [eVar_val, r, e]
end
end K10

set_option Elab.async false
set_option linter.all false
set_option maxRecDepth 100000
set_option maxHeartbeats 4000000
/-! K10m11: the own lot's rounds. -/
namespace K10
open PySem PySem.Spec L2 DL
open PyProof.Rows hiding St
theorem dStore_own {i : Nat} {ix a : DE} {s s1 s2 : S} {x y : Sl} {n : Int} {j : Nat} {ys xs : List D} (ha : a s = .ok x s1) (h : s1.e[i]? = some (.own ys)) (hi : ix s1 = .ok y s2) (h2 : s2.e[i]? = some (.own xs)) (hy : y.d = .int n) (hj : ixN xs.length n = some j) :
    dStore i ix a s = .nx { s2 with e := s2.e.set i (.own (xs.set j x.d)) } := by
  unfold dStore
  rw [ha]
  simp only [st_ok, h, hi, h2, hy, hj]
abbrev Lt := Nat → List (Int × Int)
def lotL (L : Lt) (T : Nat) : List D := (List.range T).map fun s => .list ((L s).map pairDI)
def putL (L : Lt) (s : Nat) (v : List (Int × Int)) : Lt := fun s' => if s' = s then v else L s'
section
variable {L : Lt} {T s : Nat}
theorem lotL_len : (lotL L T).length = T := by unfold lotL; simp
theorem lotL_at (h : s < T) : (lotL L T)[s]? = some (.list ((L s).map pairDI)) := by
  unfold lotL
  rw [List.getElem?_map, List.getElem?_range h]
  rfl
theorem lotL_put {v : List (Int × Int)} (h : s < T) : (lotL L T).set s (.list (v.map pairDI)) = lotL (putL L s v) T := by
  apply List.ext_getElem?
  intro j
  by_cases q : j = s
  · subst q
    rw [List.getElem?_set_self (by rw [lotL_len]; omega), lotL_at h]
    unfold putL
    rw [if_pos rfl]
  · rw [List.getElem?_set_ne (Ne.symm q)]
    by_cases g : j < T
    · rw [lotL_at g, lotL_at g]
      unfold putL
      rw [if_neg q]
    · rw [List.getElem?_eq_none (by rw [lotL_len]; omega), List.getElem?_eq_none (by rw [lotL_len]; omega)]
theorem putL_self : putL L s (L s) = L := by
  funext j
  unfold putL
  split
  · rename_i h; rw [h]
  · rfl
end
def tot (L : Lt) (T : Nat) : Nat := ((List.range T).map fun s => (L s).length).sum
theorem lens_lot (L : Lt) (T : Nat) : ∃ ns, lensD (lotL L T) = some ns ∧ ns.length = T ∧ ns.sum = (tot L T : Nat) := by
  unfold lotL tot
  have go : ∀ l : List Nat, ∃ ns, lensD (l.map fun s => PyData.list ((L s).map pairDI)) = some ns ∧ ns.length = l.length ∧ ns.sum = (((l.map fun s => (L s).length).sum : Nat) : Int) := by
    intro l
    induction l with
    | nil => exact ⟨[], rfl, rfl, rfl⟩
    | cons s l ih =>
      obtain ⟨ns, h1, h2, h3⟩ := ih
      refine ⟨(((L s).map pairDI).length : Int) :: ns, ?_, by simp [h2], ?_⟩
      · rw [List.map_cons]
        unfold lensD
        rw [h1]
        rfl
      · rw [List.sum_cons, h3, List.map_cons, List.sum_cons, List.length_map]
        omega
  obtain ⟨ns, h1, h2, h3⟩ := go (List.range T)
  exact ⟨ns, h1, by rw [h2, List.length_range], h3⟩
open Classical in
/-- a state holds in a step -/
noncomputable def hb (z : Int) (lo hi ns : List Int) (p s : Nat) (ps : List (Int × Int)) (x : Int × Int) : Bool := decide (∀ r, am lo s ≤ r → r ≤ am hi s → okR z (am ns s) p ps x r)
theorem hb_iff {z : Int} {lo hi ns : List Int} {p s : Nat} {ps : List (Int × Int)} {x : Int × Int} : hb z lo hi ns p s ps x = true ↔ ∀ r, am lo s ≤ r → r ≤ am hi s → okR z (am ns s) p ps x r := by
  unfold hb
  exact decide_eq_true_iff
abbrev lS (z : Int) (lo hi ns : List Int) (p T : Nat) (L : Lt) (x5 x6 x7 x9 x10 x11 x12 x13 x14 x15 x16 x17 : Sl) (c : List Int) : S :=
  ⟨[.val (.int z), .val (weD lo hi), .val (rowD ns), .val (.int p), .val (.int T), x5, x6, x7, .own (lotL L T), x9, x10, x11, x12, x13, x14, x15, x16, x17], c⟩
section
variable {z : Int} {lo hi ns : List Int} {p T s : Nat} {L : Lt} {c : List Int} {x5 x6 x7 x9 x10 x11 x12 x13 x14 x15 x16 x17 : Sl}
theorem hold_comp (P : Px z lo hi ns p) {ps : List (Int × Int)} (s : Nat) : ∀ (xs : List (Int × Int)) (acc : List D), compL (gSet 17) d__law_lot_t8 (eVar 17) [17] (xs.map pairDI) acc
      (lS z lo hi ns p T L x5 x6 x7 x9 x10 (.val (.int (am lo s))) (.val (.int (am hi s))) (.val (.int (am ns s))) (.val (.list (ps.map pairDI))) x15 x16 x17 c) =
    .ok (acc ++ (xs.filter (hb z lo hi ns p s ps)).map pairDI) (lS z lo hi ns p T L x5 x6 x7 x9 x10 (.val (.int (am lo s))) (.val (.int (am hi s))) (.val (.int (am ns s))) (.val (.list (ps.map pairDI))) x15 x16 x17 c)
  | [], acc => by simp
  | x :: xs, acc => by
    have e := holds_eq (z := z) (n := am ns s) (p := p) (ps := ps) (x := x) (c := c) (am_row P.we.l s).1 (P.we.le _ (am_zip P.we s)) (by have := (am_row P.we.h s).2; omega) (b := hb z lo hi ns p s ps x) hb_iff
    have t8 : d__law_lot_t8 (lS z lo hi ns p T L x5 x6 x7 x9 x10 (.val (.int (am lo s))) (.val (.int (am hi s))) (.val (.int (am ns s))) (.val (.list (ps.map pairDI))) x15 x16 (.val (pairDI x)) c) =
        .ok (.val (.bool (hb z lo hi ns p s ps x))) (lS z lo hi ns p T L x5 x6 x7 x9 x10 (.val (.int (am lo s))) (.val (.int (am hi s))) (.val (.int (am ns s))) (.val (.list (ps.map pairDI))) x15 x16 (.val (pairDI x)) c) := by
      have a0 : atI [PyData.int x.1, .int x.2] 0 = some (.int x.1) := rfl
      have a1 : atI [PyData.int x.1, .int x.2] 1 = some (.int x.2) := rfl
      unfold d__law_lot_t8
      dsimp only [lS, pairDI]
      generalize hb z lo hi ns p s ps x = HB at *
      generalize ps.map _ = PS at *
      generalize lotL L T = LL at *
      generalize weD lo hi = WD at *
      generalize rowD ns = NS at *
      generalize am lo s = A1 at *
      generalize am hi s = A2 at *
      generalize am ns s = A3 at *
      generalize (p : Int) = PP at *
      generalize (T : Int) = TT at *
      simp -implicitDefEqProofs [eVar_val, eIxN_val, a0, a1, callR_mk e]
    rw [List.map_cons]
    cases q : hb z lo hi ns p s ps x with
    | true =>
      rw [q] at t8
      rw [compL_y (g := gSet 17) (tt := d__law_lot_t8) (te := eVar 17) (s1 := lS z lo hi ns p T L x5 x6 x7 x9 x10 (.val (.int (am lo s))) (.val (.int (am hi s))) (.val (.int (am ns s))) (.val (.list (ps.map pairDI))) x15 x16 (.val (pairDI x)) c) (s2 := lS z lo hi ns p T L x5 x6 x7 x9 x10 (.val (.int (am lo s))) (.val (.int (am hi s))) (.val (.int (am ns s))) (.val (.list (ps.map pairDI))) x15 x16 (.val (pairDI x)) c)
        (s3 := lS z lo hi ns p T L x5 x6 x7 x9 x10 (.val (.int (am lo s))) (.val (.int (am hi s))) (.val (.int (am ns s))) (.val (.list (ps.map pairDI))) x15 x16 (.val (pairDI x)) c) (y := .val (pairDI x)) rfl t8 (eVar_val rfl)]
      have ih := hold_comp P (ps := ps) s xs (acc ++ [pairDI x])
      rw [List.append_assoc] at ih
      rw [List.filter_cons, if_pos q]
      exact ih
    | false =>
      rw [q] at t8
      rw [compL_n (g := gSet 17) (tt := d__law_lot_t8) (te := eVar 17) (s1 := lS z lo hi ns p T L x5 x6 x7 x9 x10 (.val (.int (am lo s))) (.val (.int (am hi s))) (.val (.int (am ns s))) (.val (.list (ps.map pairDI))) x15 x16 (.val (pairDI x)) c) (s2 := lS z lo hi ns p T L x5 x6 x7 x9 x10 (.val (.int (am lo s))) (.val (.int (am hi s))) (.val (.int (am ns s))) (.val (.list (ps.map pairDI))) x15 x16 (.val (pairDI x)) c) rfl t8]
      have ih := hold_comp P (ps := ps) s xs acc
      rw [List.filter_cons, if_neg (by rw [q]; simp)]
      exact ih
theorem lot_step (P : Px z lo hi ns p) (hT : 0 < T) (hs : s < T) (hl : (L s).length < 10000) : ∃ y11 y12 y13 y14, d__law_lot_b9 (lS z lo hi ns p T L x5 x6 (.val (.int s)) x9 x10 x11 x12 x13 x14 x15 x16 x17 c) =
    .nx (lS z lo hi ns p T (putL L s ((L s).filter (hb z lo hi ns p s (L ((s + 1) % T))))) x5 x6 (.val (.int s)) x9 x10 y11 y12 y13 y14 x15 x16 x17 c) := by
  refine ⟨.val (.int (am lo s)), .val (.int (am hi s)), .val (.int (am ns s)), .val (.list ((L ((s + 1) % T)).map pairDI)), ?_⟩
  have hk : (s + 1) % T < T := Nat.mod_lt _ hT
  have hsz := sizeLine_eq
  have m0 := am_at (ns := lo) P.we.l.1 s
  have m1 := am_at (ns := hi) P.we.h.1 s
  have m2 := am_at (ns := ns) P.n.1 s
  have l0 : (0 : Int) < (lo.length : Int) := by have := P.we.l.1; omega
  have l1 : (0 : Int) < (hi.length : Int) := by have := P.we.h.1; omega
  have l2 : (0 : Int) < (ns.length : Int) := by have := P.n.1; omega
  have d0 := modD_ii (i := (s : Int)) l0
  have d1 := modD_ii (i := (s : Int)) l1
  have d2 := modD_ii (i := (s : Int)) l2
  have n0 : ((lo.map PyData.int).length : Int) = lo.length := by rw [List.length_map]
  have n1 : ((hi.map PyData.int).length : Int) = hi.length := by rw [List.length_map]
  have n2 : ((ns.map PyData.int).length : Int) = ns.length := by rw [List.length_map]
  have b1 := atI_nat (lotL_at (L := L) hk)
  have b2 := atI_nat (lotL_at (L := L) hs)
  have md : modD (.int ((s : Int) + 1)) (.int T) = some (.val (.int (((s + 1) % T : Nat) : Int))) := by
    rw [Int.natCast_emod, show ((s + 1 : Nat) : Int) = (s : Int) + 1 by omega]
    exact modD_ii (by omega)
  have cp := compK_ok (vs := [17]) (g := gSet 17) (tt := d__law_lot_t8) (te := eVar 17) (by rw [List.length_map]; omega) (hold_comp (T := T) (L := L) (c := c) (x5 := x5) (x6 := x6) (x7 := .val (.int s)) (x9 := x9) (x10 := x10) (x15 := x15) (x16 := x16) (x17 := x17) P (ps := L ((s + 1) % T)) s (L s) [])
  rw [List.nil_append] at cp
  have st := dStore_own (i := 8) (ix := eVar 7) (a := eComp [17] (iSeq (eIxN 8 (eVar 7))) (gSet 17) d__law_lot_t8 (eVar 17)) (s := lS z lo hi ns p T L x5 x6 (.val (.int s)) x9 x10 (.val (.int (am lo s))) (.val (.int (am hi s))) (.val (.int (am ns s))) (.val (.list ((L ((s + 1) % T)).map pairDI))) x15 x16 x17 c)
    (s1 := lS z lo hi ns p T L x5 x6 (.val (.int s)) x9 x10 (.val (.int (am lo s))) (.val (.int (am hi s))) (.val (.int (am ns s))) (.val (.list ((L ((s + 1) % T)).map pairDI))) x15 x16 x17 c) (x := .own (((L s).filter (hb z lo hi ns p s (L ((s + 1) % T)))).map pairDI)) (y := .val (.int s)) (n := (s : Int)) (j := s) (ys := lotL L T) (xs := lotL L T)
    (s2 := lS z lo hi ns p T L x5 x6 (.val (.int s)) x9 x10 (.val (.int (am lo s))) (.val (.int (am hi s))) (.val (.int (am ns s))) (.val (.list ((L ((s + 1) % T)).map pairDI))) x15 x16 x17 c) (by
      dsimp only [lS] at *
      generalize (L s).map pairDI = LS at *
      generalize ((L s).filter (hb z lo hi ns p s (L ((s + 1) % T)))).map pairDI = LF at *
      generalize (L ((s + 1) % T)).map pairDI = LN at *
      generalize lotL L T = LL at *
      generalize weD lo hi = WD at *
      generalize rowD ns = NS at *
      generalize am lo s = A1 at *
      generalize am hi s = A2 at *
      generalize am ns s = A3 at *
      generalize (p : Int) = PP at *
      generalize (T : Int) = TT at *
      generalize (s : Int) = SS at *
      simp -implicitDefEqProofs [eVar_val, eIxN_own, b2, cp]) rfl (by exact eVar_val rfl) rfl rfl (by rw [lotL_len]; exact ixN_nat hs)
  rw [Sl.d_own, lotL_put hs] at st
  clear cp
  have st : dStore 8 (eVar 7) (eComp [17] (iSeq (eIxN 8 (eVar 7))) (gSet 17) d__law_lot_t8 (eVar 17)) (lS z lo hi ns p T L x5 x6 (.val (.int s)) x9 x10 (.val (.int (am lo s))) (.val (.int (am hi s))) (.val (.int (am ns s))) (.val (.list ((L ((s + 1) % T)).map pairDI))) x15 x16 x17 c) =
    .nx (lS z lo hi ns p T (putL L s ((L s).filter (hb z lo hi ns p s (L ((s + 1) % T))))) x5 x6 (.val (.int s)) x9 x10 (.val (.int (am lo s))) (.val (.int (am hi s))) (.val (.int (am ns s))) (.val (.list ((L ((s + 1) % T)).map pairDI))) x15 x16 x17 c) := st
  unfold d__law_lot_b9
  generalize hG : dStore 8 (eVar 7) (eComp [17] (iSeq (eIxN 8 (eVar 7))) (gSet 17) d__law_lot_t8 (eVar 17)) = G at *
  dsimp only [lS] at *
  generalize lotL (putL L s ((L s).filter (hb z lo hi ns p s (L ((s + 1) % T))))) T = L2 at *
  generalize (L s).map pairDI = LS at *
  generalize (L ((s + 1) % T)).map pairDI = LN at *
  generalize lotL L T = LL at *
  have w0 : atI [rowD lo, rowD hi] 0 = some (rowD lo) := rfl
  have w1 : atI [rowD lo, rowD hi] 1 = some (rowD hi) := rfl
  unfold weD rowD at *
  generalize am lo s = A1 at *
  generalize am hi s = A2 at *
  generalize am ns s = A3 at *
  generalize lo.map PyData.int = LO at *
  generalize hi.map PyData.int = HI at *
  generalize ns.map PyData.int = NS at *
  generalize (lo.length : Int) = N0 at *
  generalize (hi.length : Int) = N1 at *
  generalize (ns.length : Int) = N2 at *
  generalize (((s + 1) % T : Nat) : Int) = SN at *
  generalize (p : Int) = PP at *
  generalize (T : Int) = TT at *
  generalize (s : Int) = SS at *
  simp -implicitDefEqProofs [eVar_val, eIxN_val, eIxN_own, eLenN_val, w0, w1, n0, n1, n2, d0, d1, d2, m0, m1, m2, md, b1, st]
end
end K10

set_option Elab.async false
set_option linter.all false
set_option maxRecDepth 100000
set_option maxHeartbeats 4000000
/-! K10m12: the own lot is the greatest one. -/
namespace K10
open PySem PySem.Spec L2 DL
open PyProof.Rows hiding St
def evL (z : Int) (p : Nat) : List (Int × Int) := (List.range (z + 1).toNat).flatMap fun l : Nat => (List.range (p + 1)).map fun a : Nat => ((l : Int), (a : Int))
theorem evL_mem {z : Int} {p : Nat} {x : Int × Int} : x ∈ evL z p ↔ St2 z p x := by
  unfold evL St2
  obtain ⟨l, a⟩ := x
  simp only [List.mem_flatMap, List.mem_map, List.mem_range, Prod.mk.injEq]
  constructor
  · rintro ⟨l', h1, a', h2, rfl, rfl⟩
    omega
  · rintro ⟨h1, h2, h3, h4⟩
    exact ⟨l.toNat, by omega, a.toNat, by omega, by omega, by omega⟩
theorem evL_len {z : Int} {p : Nat} : (evL z p).length = (z + 1).toNat * (p + 1) := by
  unfold evL
  rw [List.length_flatMap]
  have e : (List.range (z + 1).toNat).map (fun l : Nat => ((List.range (p + 1)).map fun a : Nat => ((l : Int), (a : Int))).length) = (List.range (z + 1).toNat).map fun _ => p + 1 := List.map_congr_left fun x _ => by simp
  rw [e, List.map_const', List.sum_replicate_nat]
  simp
/-- what is always true of the lot -/
structure Lv (z : Int) (lo hi ns : List Int) (p T : Nat) (L : Lt) : Prop where
  sub : ∀ s, s < T → (L s).Sublist (evL z p)
  gf : ∀ s (a : Nat) l, gf z lo hi ns p s a l → (l, (a : Int)) ∈ L (s % T)
structure Jl (z : Int) (lo hi ns : List Int) (p T : Nat) (L0 L : Lt) (m : Nat) : Prop where
  lv : Lv z lo hi ns p T L
  le : ∀ s, s < T → (L s).length ≤ (L0 s).length
  di : (L = L0 ∧ ∀ s, s < T → m ≤ s → ∀ x ∈ L0 s, hb z lo hi ns p s (L0 ((s + 1) % T)) x = true) ∨ ∃ s, s < T ∧ (L s).length < (L0 s).length
section
variable {z : Int} {lo hi ns : List Int} {p T : Nat} {L0 L : Lt} {c : List Int} {x5 x6 x7 x9 x10 x11 x12 x13 x14 x15 x16 x17 : Sl}
theorem Lv.put (P : Px z lo hi ns p) (R : Rw z lo hi ns T) (V : Lv z lo hi ns p T L) {s : Nat} (hs : s < T) : Lv z lo hi ns p T (putL L s ((L s).filter (hb z lo hi ns p s (L ((s + 1) % T))))) := by
  refine ⟨fun s' h => ?_, fun s' a l g => ?_⟩
  · unfold putL
    split
    · rename_i e
      exact List.Sublist.trans List.filter_sublist (V.sub s hs)
    · exact V.sub s' h
  · unfold putL
    split
    · rename_i e
      have hm := V.gf s' a l g
      rw [e] at hm
      refine List.mem_filter.mpr ⟨hm, hb_iff.mpr fun r r1 r2 => ?_⟩
      rw [← e, am_mod R.d1] at r1
      rw [← e, am_mod R.d2] at r2
      have q := gf_ps.st s' a l g r r1 r2
      rw [← e, am_mod R.d3, mod_succ]
      unfold okR
      simp only
      rw [hdI_eq]
      rcases q with ⟨q1, q2⟩ | ⟨q1, q2⟩
      · exact .inl ⟨q1, V.gf _ _ _ q2⟩
      · exact .inr ⟨by omega, V.gf _ _ _ q2⟩
    · exact V.gf s' a l g
theorem ev_small (hz : z ≤ 20) (hp : p ≤ 6) : (evL z p).length < 10000 := by
  rw [evL_len]
  have : (z + 1).toNat * (p + 1) ≤ 21 * 7 := Nat.mul_le_mul (by omega) (by omega)
  omega
theorem lot_steps (P : Px z lo hi ns p) (R : Rw z lo hi ns T) (hz : z ≤ 20) : ∀ (m : Nat) (L : Lt) (x7 x11 x12 x13 x14 : Sl), m ≤ T → Jl z lo hi ns p T L0 L m →
    ∃ L' y7 y11 y12 y13 y14, Jl z lo hi ns p T L0 L' 0 ∧ forL (gSet 7) d__law_lot_b9 (downD ((m : Int) - 1) m) (lS z lo hi ns p T L x5 x6 x7 x9 x10 x11 x12 x13 x14 x15 x16 x17 c) =
      .nx (lS z lo hi ns p T L' x5 x6 y7 x9 x10 y11 y12 y13 y14 x15 x16 x17 c)
  | 0, L, x7, x11, x12, x13, x14, _, J => ⟨L, x7, x11, x12, x13, x14, J, rfl⟩
  | m + 1, L, x7, x11, x12, x13, x14, hm, J => by
    have hlen : (L m).length < 10000 := Nat.lt_of_le_of_lt (J.lv.sub m (by omega)).length_le (ev_small hz P.p)
    obtain ⟨y11, y12, y13, y14, e⟩ := lot_step (L := L) (c := c) (x5 := x5) (x6 := x6) (x9 := x9) (x10 := x10) (x11 := x11) (x12 := x12) (x13 := x13) (x14 := x14) (x15 := x15) (x16 := x16) (x17 := x17) P R.T0 (s := m) (by omega) hlen
    have J1 : Jl z lo hi ns p T L0 (putL L m ((L m).filter (hb z lo hi ns p m (L ((m + 1) % T))))) m := by
      refine ⟨J.lv.put P R (by omega), fun s hs => ?_, ?_⟩
      · have := J.le s hs
        unfold putL
        split
        · rename_i e
          rw [e] at this
          exact Nat.le_trans (List.length_filter_le _ _) (by rw [e]; exact this)
        · exact this
      · by_cases k : ∀ x ∈ L m, hb z lo hi ns p m (L ((m + 1) % T)) x = true
        · have ef : (L m).filter (hb z lo hi ns p m (L ((m + 1) % T))) = L m := List.filter_eq_self.mpr k
          rw [ef, putL_self]
          rcases J.di with ⟨d1, d2⟩ | d
          · subst d1
            refine .inl ⟨rfl, fun s hs h => ?_⟩
            rcases Nat.lt_or_eq_of_le h with h | h
            · exact d2 s hs h
            · subst h; exact k
          · exact .inr d
        · refine .inr ⟨m, by omega, ?_⟩
          unfold putL
          rw [if_pos rfl]
          have h1 := J.le m (by omega)
          have h2 := List.length_filter_le (hb z lo hi ns p m (L ((m + 1) % T))) (L m)
          rcases Nat.lt_or_eq_of_le h2 with h2 | h2
          · omega
          · exact absurd (List.length_filter_eq_length_iff.mp h2) k
    obtain ⟨L2, z7, z11, z12, z13, z14, J2, e2⟩ := lot_steps P R hz m _ (.val (.int m)) y11 y12 y13 y14 (by omega) J1
    refine ⟨L2, z7, z11, z12, z13, z14, J2, ?_⟩
    rw [show (((m + 1 : Nat) : Int) - 1) = m by omega, downD_succ, forL_nx rfl (s2 := lS z lo hi ns p T (putL L m ((L m).filter (hb z lo hi ns p m (L ((m + 1) % T))))) x5 x6 (.val (.int m)) x9 x10 y11 y12 y13 y14 x15 x16 x17 c) e]
    exact e2
/-- the lot at its end -/
structure LotOk (z : Int) (lo hi ns : List Int) (p T : Nat) (L : Lt) : Prop where
  sub : ∀ s, s < T → (L s).Sublist (evL z p)
  gf : ∀ s (a : Nat) l, s < T → ((l, (a : Int)) ∈ L s ↔ gf z lo hi ns p s a l)
theorem Lv.done (P : Px z lo hi ns p) (R : Rw z lo hi ns T) (V : Lv z lo hi ns p T L) (h : ∀ s, s < T → ∀ x ∈ L s, hb z lo hi ns p s (L ((s + 1) % T)) x = true) : LotOk z lo hi ns p T L := by
  refine ⟨V.sub, fun s a l hs => ⟨fun hm => ?_, fun g => by have := V.gf s a l g; rw [Nat.mod_eq_of_lt hs] at this; exact this⟩⟩
  refine gf_of (G := fun s a l => (l, (a : Int)) ∈ L (s % T)) ⟨fun s a l hm => ?_, fun s a l _ => R.n0 s, fun s a l hm r r1 r2 => ?_⟩ (by rw [Nat.mod_eq_of_lt hs]; exact hm)
  · have := evL_mem.mp ((V.sub _ (Nat.mod_lt _ R.T0)).subset hm)
    unfold St2 at this
    simp only at this
    omega
  · have q := hb_iff.mp (h _ (Nat.mod_lt s R.T0) _ hm) r (by rw [am_mod R.d1]; exact r1) (by rw [am_mod R.d2]; exact r2)
    unfold okR at q
    simp only at q
    rw [hdI_eq, am_mod R.d3, mod_succ] at q
    rcases q with ⟨q1, q2⟩ | ⟨q1, q2⟩
    · exact .inl ⟨q1, q2⟩
    · exact .inr ⟨by omega, by rw [show ((a + 1 : Nat) : Int) = (a : Int) + 1 by omega]; exact q2⟩
theorem tot_le (h : ∀ s, s < T → (L s).length ≤ (L0 s).length) (h2 : ∃ s, s < T ∧ (L s).length < (L0 s).length) : tot L T < tot L0 T := by
  obtain ⟨s, hs, hl⟩ := h2
  exact sum_lt (fun x hx => h x (List.mem_range.mp hx)) ⟨s, List.mem_range.mpr hs, hl⟩
theorem sum_at (hT : T ≤ 1000) {x5 x6 x7 x9 x10 x11 x12 x13 x14 x15 x16 x17 : Sl} : eSumLen 8 16 (lS z lo hi ns p T L x5 x6 x7 x9 x10 x11 x12 x13 x14 x15 x16 x17 c) = .ok (.val (.int (tot L T : Nat))) (lS z lo hi ns p T L x5 x6 x7 x9 x10 x11 x12 x13 x14 x15 x16 x17 c) := by
  obtain ⟨ns', h1, h2, h3⟩ := lens_lot L T
  rw [← h3]
  exact eSumLen_at rfl h1 (show 16 < 18 by decide) (by omega)
theorem lot_loop (P : Px z lo hi ns p) (R : Rw z lo hi ns T) (hz : z ≤ 20) (hT : T ≤ 1000) : ∀ (m : Nat) (i : Int) (L : Lt) (x7 x9 x10 x11 x12 x13 x14 : Sl), tot L T < m → Lv z lo hi ns p T L →
    ∃ L' y7 y9 y10 y11 y12 y13 y14, LotOk z lo hi ns p T L' ∧ forL (gSet 9) d__law_lot_b11 (rangeD i m) (lS z lo hi ns p T L x5 x6 x7 x9 x10 x11 x12 x13 x14 x15 x16 x17 c) =
      .nx (lS z lo hi ns p T L' x5 x6 y7 y9 y10 y11 y12 y13 y14 x15 x16 x17 c)
  | 0, i, L, x7, x9, x10, x11, x12, x13, x14, h, _ => by omega
  | m + 1, i, L, x7, x9, x10, x11, x12, x13, x14, h, V => by
    obtain ⟨L1, y7, y11, y12, y13, y14, J, e⟩ := lot_steps (L0 := L) (c := c) (x5 := x5) (x6 := x6) (x9 := .val (.int i)) (x10 := .val (.int (tot L T : Nat))) (x15 := x15) (x16 := x16) (x17 := x17) P R hz T L x7 x11 x12 x13 x14 (Nat.le_refl _) ⟨V, fun _ _ => Nat.le_refl _, .inl ⟨rfl, fun s h1 h2 => by omega⟩⟩
    have r := fun st => rngDK_int (i := (T : Int) - 1) (j := -1) (s := st) (by omega) (by omega)
    rw [show ((T : Int) - 1 - -1).toNat = T by omega] at r
    have s1 := sum_at (z := z) (lo := lo) (hi := hi) (ns := ns) (p := p) (L := L) (c := c) hT (x5 := x5) (x6 := x6) (x7 := x7) (x9 := .val (.int i)) (x10 := x10) (x11 := x11) (x12 := x12) (x13 := x13) (x14 := x14) (x15 := x15) (x16 := x16) (x17 := x17)
    have s2 := sum_at (z := z) (lo := lo) (hi := hi) (ns := ns) (p := p) (L := L1) (c := c) hT (x5 := x5) (x6 := x6) (x7 := y7) (x9 := .val (.int i)) (x10 := .val (.int (tot L T : Nat))) (x11 := y11) (x12 := y12) (x13 := y13) (x14 := y14) (x15 := x15) (x16 := x16) (x17 := x17)
    have body : d__law_lot_b11 (lS z lo hi ns p T L x5 x6 x7 (.val (.int i)) x10 x11 x12 x13 x14 x15 x16 x17 c) = if tot L1 T = tot L T then .bk (lS z lo hi ns p T L1 x5 x6 y7 (.val (.int i)) (.val (.int (tot L T : Nat))) y11 y12 y13 y14 x15 x16 x17 c) else .nx (lS z lo hi ns p T L1 x5 x6 y7 (.val (.int i)) (.val (.int (tot L T : Nat))) y11 y12 y13 y14 x15 x16 x17 c) := by
      have dc : decide (((tot L1 T : Nat) : Int) = (tot L T : Nat)) = decide (tot L1 T = tot L T) := by
        by_cases q : tot L1 T = tot L T
        · rw [q]; simp
        · have : ¬ ((tot L1 T : Nat) : Int) = (tot L T : Nat) := by omega
          rw [decide_eq_false q, decide_eq_false this]
      unfold d__law_lot_b11
      dsimp only [lS] at *
      generalize eSumLen 8 16 = ES at *
      generalize downD ((T : Int) - 1) T = DD at *
      generalize lotL L T = LL at *
      generalize lotL L1 T = LL1 at *
      generalize weD lo hi = WD at *
      generalize rowD ns = NS at *
      generalize (p : Int) = PP at *
      generalize (T : Int) = TT at *
      by_cases q : tot L1 T = tot L T
      · rw [if_pos q]
        rw [decide_eq_true q] at dc
        generalize ((tot L T : Nat) : Int) = T0 at *
        generalize ((tot L1 T : Nat) : Int) = T1 at *
        simp -implicitDefEqProofs [eVar_val, s1, r, e, s2, dc]
      · rw [if_neg q]
        rw [decide_eq_false q] at dc
        generalize ((tot L T : Nat) : Int) = T0 at *
        generalize ((tot L1 T : Nat) : Int) = T1 at *
        simp -implicitDefEqProofs [eVar_val, s1, r, e, s2, dc]
    rw [rangeD_succ]
    by_cases q : tot L1 T = tot L T
    · rw [if_pos q] at body
      rw [forL_bk rfl (s2 := lS z lo hi ns p T L1 x5 x6 y7 (.val (.int i)) (.val (.int (tot L T : Nat))) y11 y12 y13 y14 x15 x16 x17 c) body]
      rcases J.di with ⟨d1, d2⟩ | d
      · subst d1
        exact ⟨L1, y7, .val (.int i), .val (.int (tot L1 T : Nat)), y11, y12, y13, y14, V.done P R fun s hs => d2 s hs (Nat.zero_le _), rfl⟩
      · have := tot_le J.le d
        omega
    · rw [if_neg q] at body
      have lt : tot L1 T < tot L T := by
        rcases J.di with ⟨d1, d2⟩ | d
        · exact absurd (by rw [d1]) q
        · exact tot_le J.le d
      rw [forL_nx rfl (s2 := lS z lo hi ns p T L1 x5 x6 y7 (.val (.int i)) (.val (.int (tot L T : Nat))) y11 y12 y13 y14 x15 x16 x17 c) body]
      exact lot_loop P R hz hT m (i + 1) L1 y7 (.val (.int i)) (.val (.int (tot L T : Nat))) y11 y12 y13 y14 (by omega) J.lv
end
end K10

set_option Elab.async false
set_option linter.all false
set_option maxRecDepth 100000
set_option maxHeartbeats 4000000
/-! K10m13: _law_lot. -/
namespace K10
open PySem PySem.Spec L2 DL
open PyProof.Rows hiding St
theorem compP {α : Type} {g : D → S → Option S} {te : DE} {vs : List Nat} {f h : α → D} {st : S} : ∀ (as : List α) (acc : List D),
    (∀ a ∈ as, ∃ s1 y s3, g (f a) { st with e := wipeE st.e vs } = some s1 ∧ te s1 = .ok y s3 ∧ y.d = h a ∧ { s3 with e := mg vs st.e s3.e } = st) → compL g tTrue te vs (as.map f) acc st = .ok (acc ++ as.map h) st
  | [], acc, _ => by simp
  | a :: as, acc, k => by
    obtain ⟨s1, y, s3, e1, e2, e3, e4⟩ := k a (by simp)
    rw [List.map_cons, show compL g tTrue te vs (f a :: as.map f) acc st = compL g tTrue te vs (as.map f) (acc ++ [y.d]) { s3 with e := mg vs st.e s3.e } from compL_y e1 (s2 := s1) rfl e2, e3, e4, compP as _ fun b hb => k b (List.mem_cons_of_mem _ hb), List.map_cons, List.append_assoc]
    rfl
def evK (k p : Nat) : List (Int × Int) := (List.range k).flatMap fun l : Nat => (List.range (p + 1)).map fun a : Nat => ((l : Int), (a : Int))
theorem evK_succ (k p : Nat) : evK (k + 1) p = evK k p ++ (List.range (p + 1)).map fun a : Nat => ((k : Int), (a : Int)) := by
  unfold evK
  rw [List.range_succ (n := k), List.flatMap_append, List.flatMap_singleton]
theorem evK_len (k p : Nat) : (evK k p).length = k * (p + 1) := by
  induction k with
  | zero => simp [evK]
  | succ k ih => rw [evK_succ, List.length_append, ih, List.length_map, List.length_range, Nat.succ_mul]
abbrev eS (z : Int) (lo hi ns : List Int) (p T : Nat) (x5 x6 x7 x8 x9 x10 x11 x12 x13 x14 x15 x16 x17 : Sl) (c : List Int) : S :=
  ⟨[.val (.int z), .val (weD lo hi), .val (rowD ns), .val (.int p), .val (.int T), x5, x6, x7, x8, x9, x10, x11, x12, x13, x14, x15, x16, x17], c⟩
section
variable {z : Int} {lo hi ns : List Int} {p T : Nat} {c : List Int} {x5 x6 x7 x8 x9 x10 x11 x12 x13 x14 x15 x16 x17 : Sl}
theorem ev_row (hp : p ≤ 6) (k : Nat) : compK [15] (gSet 15) tTrue d__law_lot_e2 (rangeD 0 (p + 1)) (eS z lo hi ns p T x5 (.val (.int k)) x7 x8 x9 x10 x11 x12 x13 x14 x15 x16 x17 c) =
    .ok (.own (((List.range (p + 1)).map fun a : Nat => ((k : Int), (a : Int))).map pairDI)) (eS z lo hi ns p T x5 (.val (.int k)) x7 x8 x9 x10 x11 x12 x13 x14 x15 x16 x17 c) := by
  have e := compP (g := gSet 15) (te := d__law_lot_e2) (vs := [15]) (f := fun i : Nat => PyData.int (0 + (i : Nat))) (h := fun i : Nat => pairDI ((k : Int), (i : Int))) (st := eS z lo hi ns p T x5 (.val (.int k)) x7 x8 x9 x10 x11 x12 x13 x14 x15 x16 x17 c) (List.range (p + 1)) [] fun a ha => by
    refine ⟨eS z lo hi ns p T x5 (.val (.int k)) x7 x8 x9 x10 x11 x12 x13 x14 (.val (.int (0 + (a : Nat)))) x16 x17 c, .val (pairDI ((k : Int), (a : Int))), eS z lo hi ns p T x5 (.val (.int k)) x7 x8 x9 x10 x11 x12 x13 x14 (.val (.int (0 + (a : Nat)))) x16 x17 c, rfl, ?_, rfl, rfl⟩
    rw [show (0 : Int) + (a : Nat) = (a : Int) by omega]
    unfold d__law_lot_e2 pairDI
    dsimp only [eS]
    generalize weD lo hi = WD
    generalize rowD ns = NS
    generalize (p : Int) = PP
    generalize (T : Int) = TT
    generalize (k : Int) = KK
    generalize (a : Int) = AA
    simp -implicitDefEqProofs [eVar_val]
  rw [List.nil_append] at e
  have e2 : ((List.range (p + 1)).map fun a : Nat => ((k : Int), (a : Int))).map pairDI = (List.range (p + 1)).map fun i : Nat => pairDI ((k : Int), (i : Int)) := by rw [List.map_map]; rfl
  rw [e2]
  exact compK_ok (by rw [rangeD_len, sizeLine_eq]; omega) e
theorem ev_loop (hp : p ≤ 6) : ∀ (m k : Nat) (x6 : Sl), k + m ≤ 300 → ∃ y6, forL (gSet 6) d__law_lot_b3 (rangeD k m) (eS z lo hi ns p T (.own ((evK k p).map pairDI)) x6 x7 x8 x9 x10 x11 x12 x13 x14 x15 x16 x17 c) =
    .nx (eS z lo hi ns p T (.own ((evK (k + m) p).map pairDI)) y6 x7 x8 x9 x10 x11 x12 x13 x14 x15 x16 x17 c)
  | 0, k, x6, _ => ⟨x6, rfl⟩
  | m + 1, k, x6, h => by
    have hsz := sizeLine_eq
    have cp := ev_row (z := z) (lo := lo) (hi := hi) (ns := ns) (p := p) (T := T) (c := c) (x5 := .val (.list ((evK k p).map pairDI))) (x7 := x7) (x8 := x8) (x9 := x9) (x10 := x10) (x11 := x11) (x12 := x12) (x13 := x13) (x14 := x14) (x15 := x15) (x16 := x16) (x17 := x17) hp k
    have el := evK_len (k + 1) p
    rw [evK_succ] at el
    have es : ((evK k p).map pairDI) ++ (((List.range (p + 1)).map fun a : Nat => ((k : Int), (a : Int))).map pairDI) = (evK (k + 1) p).map pairDI := by rw [evK_succ, List.map_append]
    have hb : (k + 1) * (p + 1) ≤ 301 * 7 := Nat.mul_le_mul (by omega) (by omega)
    have ad : addD (.list ((evK k p).map pairDI)) (.list (((List.range (p + 1)).map fun a : Nat => ((k : Int), (a : Int))).map pairDI)) = some (.own ((evK (k + 1) p).map pairDI)) := by
      show (if ((evK k p).map pairDI).length + (((List.range (p + 1)).map fun a : Nat => ((k : Int), (a : Int))).map pairDI).length ≤ sizeLine then some (Sl.own (((evK k p).map pairDI) ++ (((List.range (p + 1)).map fun a : Nat => ((k : Int), (a : Int))).map pairDI))) else none) = _
      rw [es, if_pos]
      rw [← List.length_append, es, List.length_map, evK_len]
      omega
    have r := fun st => rng1K_int (j := (p : Int) + 1) (s := st) (by omega) (by omega)
    rw [show ((p : Int) + 1).toNat = p + 1 by omega] at r
    have body : d__law_lot_b3 (eS z lo hi ns p T (.own ((evK k p).map pairDI)) (.val (.int k)) x7 x8 x9 x10 x11 x12 x13 x14 x15 x16 x17 c) = .nx (eS z lo hi ns p T (.own ((evK (k + 1) p).map pairDI)) (.val (.int k)) x7 x8 x9 x10 x11 x12 x13 x14 x15 x16 x17 c) := by
      unfold d__law_lot_b3
      dsimp only [eS] at *
      generalize (evK k p).map pairDI = E1 at *
      generalize (evK (k + 1) p).map pairDI = E2 at *
      generalize ((List.range (p + 1)).map fun a : Nat => ((k : Int), (a : Int))).map pairDI = E3 at *
      generalize rangeD 0 (p + 1) = RG at *
      generalize weD lo hi = WD at *
      generalize rowD ns = NS at *
      generalize (p : Int) = PP at *
      generalize (T : Int) = TT at *
      generalize (k : Int) = KK at *
      simp -implicitDefEqProofs [eVar_val, eVar_own, r, cp, ad]
    obtain ⟨y6, e⟩ := ev_loop hp m (k + 1) (.val (.int k)) (by omega)
    refine ⟨y6, ?_⟩
    rw [rangeD_succ, forL_nx rfl (s2 := eS z lo hi ns p T (.own ((evK (k + 1) p).map pairDI)) (.val (.int k)) x7 x8 x9 x10 x11 x12 x13 x14 x15 x16 x17 c) body]
    rw [show ((k : Int) + 1) = ((k + 1 : Nat) : Int) by omega, e, show k + 1 + m = k + (m + 1) by omega]
theorem lot0 {E : List D} (hT : 0 < T) (hT2 : T ≤ 1000) : compK [7] (gSet 7) tTrue d__law_lot_e5 (rangeD 0 T) (eS z lo hi ns p T (.own E) x6 x7 x8 x9 x10 x11 x12 x13 x14 x15 x16 x17 c) =
    .ok (.own ((List.range T).map fun _ => .list E)) (eS z lo hi ns p T (.val (.list E)) x6 x7 x8 x9 x10 x11 x12 x13 x14 x15 x16 x17 c) := by
  obtain ⟨m, rfl⟩ : ∃ m, T = m + 1 := ⟨T - 1, by omega⟩
  have lb : lstB [.list E] = some (.own E) := rfl
  have t : ∀ (x5 y7 : Sl), x5 = .own E ∨ x5 = .val (.list E) → d__law_lot_e5 (eS z lo hi ns p (m + 1) x5 x6 y7 x8 x9 x10 x11 x12 x13 x14 x15 x16 x17 c) = .ok (.own E) (eS z lo hi ns p (m + 1) (.val (.list E)) x6 y7 x8 x9 x10 x11 x12 x13 x14 x15 x16 x17 c) := fun x5 y7 h => by
    unfold d__law_lot_e5
    dsimp only [eS]
    generalize weD lo hi = WD
    generalize rowD ns = NS
    generalize (p : Int) = PP
    generalize ((m + 1 : Nat) : Int) = TT
    rcases h with rfl | rfl
    · simp -implicitDefEqProofs [eVar_own, lb]
    · simp -implicitDefEqProofs [eVar_val, lb]
  have e := compP (g := gSet 7) (te := d__law_lot_e5) (vs := [7]) (f := fun i : Nat => PyData.int (1 + (i : Nat))) (h := fun _ : Nat => PyData.list E) (st := eS z lo hi ns p (m + 1) (.val (.list E)) x6 x7 x8 x9 x10 x11 x12 x13 x14 x15 x16 x17 c) (List.range m) [.list E] fun a ha =>
    ⟨eS z lo hi ns p (m + 1) (.val (.list E)) x6 (.val (.int (1 + (a : Nat)))) x8 x9 x10 x11 x12 x13 x14 x15 x16 x17 c, .own E, eS z lo hi ns p (m + 1) (.val (.list E)) x6 (.val (.int (1 + (a : Nat)))) x8 x9 x10 x11 x12 x13 x14 x15 x16 x17 c, rfl, t _ _ (.inr rfl), rfl, rfl⟩
  have el : ((List.range (m + 1)).map fun _ => PyData.list E) = [.list E] ++ (List.range m).map fun _ => .list E := by
    rw [List.map_const', List.map_const', List.length_range, List.length_range, List.replicate_succ]
    rfl
  rw [el]
  refine compK_ok (by rw [rangeD_len, sizeLine_eq]; omega) ?_
  rw [rangeD_succ]
  rw [show compL (gSet 7) tTrue d__law_lot_e5 [7] (.int 0 :: rangeD (0 + 1) m) [] (eS z lo hi ns p (m + 1) (.own E) x6 x7 x8 x9 x10 x11 x12 x13 x14 x15 x16 x17 c) = compL (gSet 7) tTrue d__law_lot_e5 [7] (rangeD (0 + 1) m) ([] ++ [.list E]) (eS z lo hi ns p (m + 1) (.val (.list E)) x6 x7 x8 x9 x10 x11 x12 x13 x14 x15 x16 x17 c) from
    compL_y (g := gSet 7) (tt := tTrue) (s1 := eS z lo hi ns p (m + 1) (.own E) x6 (.val (.int 0)) x8 x9 x10 x11 x12 x13 x14 x15 x16 x17 c) (s2 := eS z lo hi ns p (m + 1) (.own E) x6 (.val (.int 0)) x8 x9 x10 x11 x12 x13 x14 x15 x16 x17 c) (s3 := eS z lo hi ns p (m + 1) (.val (.list E)) x6 (.val (.int 0)) x8 x9 x10 x11 x12 x13 x14 x15 x16 x17 c) (y := .own E) rfl rfl (t _ _ (.inl rfl))]
  exact e
theorem law_lot_eq (P : Px z lo hi ns p) (hz : z ≤ 20) (hb : tn lo ns * ((z + 1).toNat * (p + 1)) < 4000) : ∃ L, LotOk z lo hi ns p (tn lo ns) L ∧ F__law_lot [.int z, weD lo hi, rowD ns, .int p] c = .ok (.own (lotL L (tn lo ns))) c := by
  have es : startS 18 [.int z, weD lo hi, rowD ns, .int p] c = ⟨[.val (.int z), .val (weD lo hi), .val (rowD ns), .val (.int p), .un, .un, .un, .un, .un, .un, .un, .un, .un, .un, .un, .un, .un, .un], c⟩ := rfl
  have R := rw_of P
  have hT := tn_le P.we.l P.n
  have z1 := P.z1
  have e1 := turn_eq (c := c) (a := lo.length) (b := ns.length) (by have := P.wl; omega) P.n.1 (by have := P.nl; omega)
  obtain ⟨y6, e2⟩ := ev_loop (z := z) (lo := lo) (hi := hi) (ns := ns) (p := p) (T := tn lo ns) (c := c) (x7 := .un) (x8 := .un) (x9 := .un) (x10 := .un) (x11 := .un) (x12 := .un) (x13 := .un) (x14 := .un) (x15 := .un) (x16 := .un) (x17 := .un) P.p (z + 1).toNat 0 .un (by omega)
  rw [Nat.zero_add] at e2
  have ee : evK (z + 1).toNat p = evL z p := rfl
  have e00 : evK 0 p = [] := rfl
  rw [ee, e00, List.map_nil] at e2
  have e3 := lot0 (z := z) (lo := lo) (hi := hi) (ns := ns) (p := p) (T := tn lo ns) (c := c) (E := (evL z p).map pairDI) (x6 := y6) (x7 := .un) (x8 := .un) (x9 := .un) (x10 := .un) (x11 := .un) (x12 := .un) (x13 := .un) (x14 := .un) (x15 := .un) (x16 := .un) (x17 := .un) R.T0 (by omega)
  have el : ((List.range (tn lo ns)).map fun _ => PyData.list ((evL z p).map pairDI)) = lotL (fun _ => evL z p) (tn lo ns) := rfl
  rw [el] at e3
  have ht : tot (fun _ => evL z p) (tn lo ns) < 4000 := by
    unfold tot
    simp only
    rw [List.map_const', List.length_range, List.sum_replicate_nat, evL_len]
    omega
  obtain ⟨L, y7, y9, y10, y11, y12, y13, y14, hL, e4⟩ := lot_loop (c := c) (x5 := .val (.list ((evL z p).map pairDI))) (x6 := y6) (x15 := .un) (x16 := .un) (x17 := .un) P R hz (by omega) 4000 0 (fun _ => evL z p) .un .un .un .un .un .un .un ht ⟨fun s _ => List.Sublist.refl _, fun s a l g => evL_mem.mpr (by
    have := gf_ps.bd s a l g
    unfold St2
    simp only
    omega)⟩
  refine ⟨L, hL, ?_⟩
  have r1 := fun st => rng1K_int (j := z + 1) (s := st) (by omega) (by have := P.z2; omega)
  have r2 := fun st => rng1K_int (j := ((tn lo ns : Nat) : Int)) (s := st) (by omega) (by omega)
  rw [show (((tn lo ns : Nat) : Int)).toNat = tn lo ns by omega] at r2
  have r3 := fun st => rng1K_int (j := 4000) (s := st) (by omega) (by omega)
  rw [show ((4000 : Int)).toNat = 4000 by rfl] at r3
  have w0 : atI [rowD lo, rowD hi] 0 = some (rowD lo) := rfl
  have n0 : ((lo.map PyData.int).length : Int) = lo.length := by rw [List.length_map]
  have n2 : ((ns.map PyData.int).length : Int) = ns.length := by rw [List.length_map]
  change F__law_turn [.int lo.length, .int ns.length] c = .ok (.val (.int ((tn lo ns : Nat) : Int))) c at e1
  rw [show ((0 : Nat) : Int) = 0 from rfl] at e2
  dsimp only [eS, lS] at *
  unfold weD rowD at *
  generalize lotL L (tn lo ns) = LL at *
  generalize lotL (fun _ => evL z p) (tn lo ns) = L0 at *
  generalize (evL z p).map pairDI = EV at *
  generalize rangeD 0 (z + 1).toNat = RG1 at *
  generalize rangeD 0 (tn lo ns) = RG2 at *
  generalize rangeD 0 4000 = RG3 at *
  generalize lo.map PyData.int = LO at *
  generalize hi.map PyData.int = HI at *
  generalize ns.map PyData.int = NS at *
  generalize (lo.length : Int) = N0 at *
  generalize (ns.length : Int) = N2 at *
  generalize ((tn lo ns : Nat) : Int) = TT at *
  generalize (p : Int) = PP at *
  rw [F__law_lot, fnD_eq, es]
  unfold d__law_lot
  simp -implicitDefEqProofs [eVar_val, eIxN_val, eLenN_val, w0, n0, n2, callR_mk e1, r1, r2, r3, e2, e3, e4, dRetV_own]
end
end K10

set_option Elab.async false
set_option linter.all false
set_option maxRecDepth 100000
set_option maxHeartbeats 4000000
/-! K10m14: _law_longest. -/
namespace K10
open PySem PySem.Spec L2 DL
open PyProof.Rows hiding St
def nxS (z r n p : Int) (q : Int × Int) : List (Int × Int) := (if n ≤ hdI z r q.1 then [(hdI z r q.1 - n, 0)] else []) ++ (if q.2 < p then [(hdI z r q.1, q.2 + 1)] else [])
theorem nxS_mem {z r n p : Int} {q x : Int × Int} : x ∈ nxS z r n p q ↔ Cand z r n p q x.2 x.1 := by
  unfold nxS Cand
  obtain ⟨l, a⟩ := x
  rw [List.mem_append]
  refine or_congr ?_ ?_
  · split
    · rename_i h
      simp only [List.mem_singleton, Prod.mk.injEq, h, true_and]
      exact and_comm
    · rename_i h
      simp [h]
  · split
    · rename_i h
      simp only [List.mem_singleton, Prod.mk.injEq, h, true_and]
      exact and_comm
    · rename_i h
      simp [h]
theorem nxS_len {z r n p : Int} {q : Int × Int} : (nxS z r n p q).length ≤ 2 := by
  unfold nxS
  split <;> split <;> simp
theorem flat_len {α β : Type} {f : α → List β} {k : Nat} (h : ∀ a, (f a).length ≤ k) : ∀ l : List α, (l.flatMap f).length ≤ k * l.length
  | [] => by simp
  | a :: l => by
    rw [List.flatMap_cons, List.length_append, List.length_cons, Nat.mul_succ]
    have := h a
    have := flat_len h l
    omega
/-- all states after k steps -/
def allK' (z : Int) (lo ns : List Int) (p : Nat) (x0 : Int × Int) : Nat → List (Int × Int)
  | 0 => [x0]
  | k + 1 => sortP ((allK' z lo ns p x0 k).flatMap (nxS z (am lo k) (am ns k) p))
abbrev latK (z : Int) (lo ns : List Int) (p : Nat) (x0 : Int × Int) (k : Nat) : List (Int × Int) := (allK' z lo ns p x0 k).flatMap (nxS z (am lo k) (am ns k) p)
section
variable {z l : Int} {lo hi ns : List Int} {p T a : Nat} {x0 : Int × Int} {c : List Int}
theorem all_spec (R : Rw z lo hi ns T) (hz : z ≤ 20) (hp : p ≤ 6) (h0 : St2 z p x0) : ∀ k, (∀ x, x ∈ allK' z lo ns p x0 k ↔ Rch z lo ns p x0 k x) ∧ (allK' z lo ns p x0 k).Nodup
  | 0 => ⟨fun x => List.mem_singleton, by simp [allK']⟩
  | k + 1 => by
    obtain ⟨i1, _⟩ := all_spec R hz hp h0 k
    have hl : ∀ x, x ∈ latK z lo ns p x0 k ↔ Rch z lo ns p x0 (k + 1) x := fun x => by
      rw [List.mem_flatMap]
      constructor
      · rintro ⟨q, hq, hx⟩
        exact ⟨q, (i1 q).mp hq, nxS_mem.mp hx⟩
      · rintro ⟨q, hq, hx⟩
        exact ⟨q, (i1 q).mpr hq, nxS_mem.mpr hx⟩
    have hs : ∀ x ∈ latK z lo ns p x0 k, Sm x := fun x hx => by
      have := Rch_in R h0 ((hl x).mp hx)
      unfold St2 at this
      unfold Sm
      omega
    refine ⟨fun x => (sortP_mem hs x).trans (hl x), ?_⟩
    exact (sortP_pw _).imp fun {a b} h e => by rw [e] at h; omega
theorem lat_sm (R : Rw z lo hi ns T) (hz : z ≤ 20) (hp : p ≤ 6) (h0 : St2 z p x0) (k : Nat) : ∀ x ∈ latK z lo ns p x0 k, Sm x := fun x hx => by
  obtain ⟨q, hq, hx⟩ := List.mem_flatMap.mp hx
  have := Rch_in R h0 (k := k + 1) ⟨q, ((all_spec R hz hp h0 k).1 q).mp hq, nxS_mem.mp hx⟩
  unfold St2 at this
  unfold Sm
  omega
theorem all_len (R : Rw z lo hi ns T) (hz : z ≤ 8) (hp : p ≤ 2) (h0 : St2 z p x0) (k : Nat) : (allK' z lo ns p x0 k).length ≤ 27 := by
  obtain ⟨i1, i2⟩ := all_spec R (by omega) (by omega) h0 k
  have := nat_nodup_len ((allK' z lo ns p x0 k).map fun x => (x.1 * 3 + x.2).toNat) (List.range 27) (by
    refine List.pairwise_map.mpr (i2.imp_of_mem fun {a b} ha hb h e => h ?_)
    have h1 := Rch_in R h0 ((i1 a).mp ha)
    have h2 := Rch_in R h0 ((i1 b).mp hb)
    unfold St2 at h1 h2
    obtain ⟨a1, a2⟩ := a
    obtain ⟨b1, b2⟩ := b
    simp only at h1 h2 e
    rw [show a1 = b1 by omega, show a2 = b2 by omega]) (fun x hx => by
    obtain ⟨y, hy, rfl⟩ := List.mem_map.mp hx
    have h1 := Rch_in R h0 ((i1 y).mp hy)
    unfold St2 at h1
    rw [List.mem_range]
    omega)
  rw [List.length_map, List.length_range] at this
  exact this
theorem lat_len (R : Rw z lo hi ns T) (hz : z ≤ 8) (hp : p ≤ 2) (h0 : St2 z p x0) (k : Nat) : (latK z lo ns p x0 k).length < 64 := by
  have h1 := flat_len (f := nxS z (am lo k) (am ns k) p) (k := 2) (fun a => nxS_len) (allK' z lo ns p x0 k)
  have h2 := all_len R hz hp h0 k
  show ((allK' z lo ns p x0 k).flatMap (nxS z (am lo k) (am ns k) p)).length < 64
  omega
abbrev gS (z : Int) (a1 a2 a3 : Sl) (p : Nat) (a5 a6 x7 x8 : Sl) (r n : Int) (L : List D) (x12 x13 x14 : Sl) (c : List Int) : S := ⟨[.val (.int z), a1, a2, a3, .val (.int p), a5, a6, x7, x8, .val (.int r), .val (.int n), .own L, x12, x13, x14], c⟩
theorem long_b {a1 a2 a3 a5 a6 x7 x8 x14 : Sl} {r n : Int} {L : List D} (q : Int × Int) (hL : L.length < 100000) : ∃ y14, d__law_longest_b1 (gS z a1 a2 a3 p a5 a6 x7 x8 r n L (.val (.int q.1)) (.val (.int q.2)) x14 c) =
    .nx (gS z a1 a2 a3 p a5 a6 x7 x8 r n (L ++ (nxS z r n p q).map pairDI) (.val (.int q.1)) (.val (.int q.2)) y14 c) := by
  have hsz := sizeLine_eq
  have b1 : L.length < sizeLine := by omega
  have b2 : L.length + 1 < sizeLine := by omega
  refine ⟨.val (.int (hdI z r q.1)), ?_⟩
  obtain ⟨l, a⟩ := q
  unfold nxS pairDI
  dsimp only [gS]
  have t9 : ∀ st : S, st.e[12]? = some (.val (.int l)) → st.e[9]? = some (.val (.int r)) → st.e[0]? = some (.val (.int z)) → eIf (eLt (eAdd (eVar 12) (eVar 9)) (eVar 0)) (eAdd (eVar 12) (eVar 9)) (eVar 0) st = .ok (.val (.int (hdI z r l))) st := fun st g1 g2 g3 => by
    unfold hdI
    by_cases k : l + r < z
    · simp -implicitDefEqProofs [eVar_val g1, eVar_val g2, eVar_val g3, k]
    · simp -implicitDefEqProofs [eVar_val g1, eVar_val g2, eVar_val g3, k]
  generalize (p : Int) = PP at *
  have t9 := t9 ⟨[.val (.int z), a1, a2, a3, .val (.int PP), a5, a6, x7, x8, .val (.int r), .val (.int n), .own L, .val (.int l), .val (.int a), x14], c⟩ rfl rfl rfl
  unfold d__law_longest_b1
  generalize eIf (eLt (eAdd (eVar 12) (eVar 9)) (eVar 0)) (eAdd (eVar 12) (eVar 9)) (eVar 0) = G9 at *
  generalize hdI z r l = h at *
  by_cases k1 : n ≤ h
  · by_cases k2 : a < PP
    · simp -implicitDefEqProofs [t9, eVar_val, k1, k2, dApp_own, b1, b2]
    · simp -implicitDefEqProofs [t9, eVar_val, k1, k2, dApp_own, b1, b2]
  · by_cases k2 : a < PP
    · simp -implicitDefEqProofs [t9, eVar_val, k1, k2, dApp_own, b1, b2]
    · simp -implicitDefEqProofs [t9, eVar_val, k1, k2, dApp_own, b1, b2]
theorem long_l {a1 a2 a3 a5 a6 x7 x8 : Sl} {r n : Int} : ∀ (qs : List (Int × Int)) (L : List D) (x12 x13 x14 : Sl), L.length + 2 * qs.length < 100000 → ∃ y12 y13 y14, forL (gTupD (gsCons (gSet 12) (gsCons (gSet 13) gsNil))) d__law_longest_b1 (qs.map pairDI) (gS z a1 a2 a3 p a5 a6 x7 x8 r n L x12 x13 x14 c) =
    .nx (gS z a1 a2 a3 p a5 a6 x7 x8 r n (L ++ (qs.flatMap (nxS z r n p)).map pairDI) y12 y13 y14 c)
  | [], L, x12, x13, x14, _ => ⟨x12, x13, x14, by simp⟩
  | q :: qs, L, x12, x13, x14, h => by
    rw [List.length_cons] at h
    obtain ⟨y14, e⟩ := long_b (z := z) (p := p) (c := c) (a1 := a1) (a2 := a2) (a3 := a3) (a5 := a5) (a6 := a6) (x7 := x7) (x8 := x8) (x14 := x14) (r := r) (n := n) (L := L) q (by omega)
    have hl := nxS_len (z := z) (r := r) (n := n) (p := p) (q := q)
    obtain ⟨y12, y13, z14, e2⟩ := long_l qs (L ++ (nxS z r n p q).map pairDI) (.val (.int q.1)) (.val (.int q.2)) y14 (by rw [List.length_append, List.length_map]; omega)
    refine ⟨y12, y13, z14, ?_⟩
    rw [List.map_cons, forL_nx (s1 := gS z a1 a2 a3 p a5 a6 x7 x8 r n L (.val (.int q.1)) (.val (.int q.2)) x14 c) rfl e, e2, List.flatMap_cons, List.map_append, List.append_assoc]
abbrev vS (z l : Int) (lo ns : List Int) (p a : Nat) (most : Int) (x7 x8 x9 x10 x11 x12 x13 x14 : Sl) (c : List Int) : S := ⟨[.val (.int z), .val (.int l), .val (rowD lo), .val (rowD ns), .val (.int p), .val (.int a), .val (.int most), x7, x8, x9, x10, x11, x12, x13, x14], c⟩
theorem long_step (P : Px z lo hi ns p) (hz : z ≤ 8) (hp : p ≤ 2) (h0 : St2 z p x0) {most : Int} (k : Nat) {x9 x10 x11 x12 x13 x14 : Sl} : ∃ y9 y10 y11 y12 y13 y14, d__law_longest_b2 (vS z l lo ns p a most (.own ((allK' z lo ns p x0 k).map pairDI)) (.val (.int k)) x9 x10 x11 x12 x13 x14 c) =
    if allK' z lo ns p x0 (k + 1) = [] then .rt (.val (.int k)) c else .nx (vS z l lo ns p a most (.own ((allK' z lo ns p x0 (k + 1)).map pairDI)) (.val (.int k)) y9 y10 y11 y12 y13 y14 c) := by
  have R := rw_of P
  have hlen := all_len R hz hp h0 k
  obtain ⟨y12, y13, y14, e⟩ := long_l (z := z) (p := p) (c := c) (a1 := .val (.int l)) (a2 := .val (rowD lo)) (a3 := .val (rowD ns)) (a5 := .val (.int a)) (a6 := .val (.int most)) (x7 := .val (.list ((allK' z lo ns p x0 k).map pairDI))) (x8 := .val (.int k)) (r := am lo k) (n := am ns k) (allK' z lo ns p x0 k) [] x12 x13 x14 (by simp only [List.length_nil]; omega)
  rw [List.nil_append] at e
  refine ⟨.val (.int (am lo k)), .val (.int (am ns k)), .val (.list ((latK z lo ns p x0 k).map pairDI)), y12, y13, y14, ?_⟩
  have pi := pairsI_map (latK z lo ns p x0 k)
  have ok : (latK z lo ns p x0 k).length < 64 ∧ ∀ x ∈ latK z lo ns p x0 k, Sm x := ⟨lat_len R hz hp h0 k, lat_sm R (by omega) (by omega) h0 k⟩
  have ss : ∀ st : S, st.e[11]? = some (.own ((latK z lo ns p x0 k).map pairDI)) → eSortSetP (eVar 11) st = .ok (.own ((allK' z lo ns p x0 (k + 1)).map pairDI)) { st with e := st.e.set 11 (.val (.list ((latK z lo ns p x0 k).map pairDI))) } := fun st h => by
    unfold eSortSetP
    rw [eVar_own h]
    simp only [bind_ok, Sl.d_val, pi]
    rw [if_pos ok]
    rfl
  have m0 := am_at (ns := lo) P.we.l.1 k
  have m2 := am_at (ns := ns) P.n.1 k
  have l0 : (0 : Int) < (lo.length : Int) := by have := P.we.l.1; omega
  have l2 : (0 : Int) < (ns.length : Int) := by have := P.n.1; omega
  have d0 := modD_ii (i := (k : Int)) l0
  have d2 := modD_ii (i := (k : Int)) l2
  have n0 : ((lo.map PyData.int).length : Int) = lo.length := by rw [List.length_map]
  have n2 : ((ns.map PyData.int).length : Int) = ns.length := by rw [List.length_map]
  have hl2 : (((allK' z lo ns p x0 (k + 1)).map pairDI).length : Int) = (allK' z lo ns p x0 (k + 1)).length := by rw [List.length_map]
  have dc : decide (((allK' z lo ns p x0 (k + 1)).length : Int) = 0) = decide (allK' z lo ns p x0 (k + 1) = []) := by cases allK' z lo ns p x0 (k + 1) <;> simp <;> omega
  change forL _ _ _ _ = .nx (gS z (.val (.int l)) (.val (rowD lo)) (.val (rowD ns)) p (.val (.int a)) (.val (.int most)) (.val (.list ((allK' z lo ns p x0 k).map pairDI))) (.val (.int k)) (am lo k) (am ns k) ((latK z lo ns p x0 k).map pairDI) y12 y13 y14 c) at e
  have ss1 := ss (gS z (.val (.int l)) (.val (rowD lo)) (.val (rowD ns)) p (.val (.int a)) (.val (.int most)) (.val (.list ((allK' z lo ns p x0 k).map pairDI))) (.val (.int k)) (am lo k) (am ns k) ((latK z lo ns p x0 k).map pairDI) y12 y13 y14 c) rfl
  clear ss ok pi hlen
  unfold d__law_longest_b2
  dsimp only [vS, gS] at *
  unfold rowD at *
  generalize eSortSetP (eVar 11) = ES at *
  generalize (latK z lo ns p x0 k).map pairDI = LK at *
  generalize (allK' z lo ns p x0 k).map pairDI = AK at *
  generalize (allK' z lo ns p x0 (k + 1)).map pairDI = AK1 at *
  by_cases q : allK' z lo ns p x0 (k + 1) = []
  · rw [if_pos q]
    rw [decide_eq_true q] at dc
    generalize ((allK' z lo ns p x0 (k + 1)).length : Int) = N1 at *
    generalize am lo k = A1 at *
    generalize am ns k = A2 at *
    generalize lo.map PyData.int = LO at *
    generalize ns.map PyData.int = NS at *
    generalize (lo.length : Int) = N0 at *
    generalize (ns.length : Int) = N2 at *
    generalize (p : Int) = PP at *
    generalize (a : Int) = AA at *
    generalize (k : Int) = KK at *
    simp -implicitDefEqProofs [eVar_val, eVar_own, eIxN_val, eLenN_val, eLenN_own, n0, n2, d0, d2, m0, m2, e, ss1, hl2, dc, dRetV_val]
  · rw [if_neg q]
    rw [decide_eq_false q] at dc
    generalize ((allK' z lo ns p x0 (k + 1)).length : Int) = N1 at *
    generalize am lo k = A1 at *
    generalize am ns k = A2 at *
    generalize lo.map PyData.int = LO at *
    generalize ns.map PyData.int = NS at *
    generalize (lo.length : Int) = N0 at *
    generalize (ns.length : Int) = N2 at *
    generalize (p : Int) = PP at *
    generalize (a : Int) = AA at *
    generalize (k : Int) = KK at *
    simp -implicitDefEqProofs [eVar_val, eVar_own, eIxN_val, eLenN_val, eLenN_own, n0, n2, d0, d2, m0, m2, e, ss1, hl2, dc, dRetV_val]
theorem long_loop (P : Px z lo hi ns p) (hz : z ≤ 8) (hp : p ≤ 2) (h0 : St2 z p x0) {most : Int} {K : Nat} (hK : allK' z lo ns p x0 K = []) (hk : ∀ j, j < K → allK' z lo ns p x0 j ≠ []) : ∀ (m k : Nat) (x8 x9 x10 x11 x12 x13 x14 : Sl), k < K → K ≤ k + m →
    forL (gSet 8) d__law_longest_b2 (rangeD k m) (vS z l lo ns p a most (.own ((allK' z lo ns p x0 k).map pairDI)) x8 x9 x10 x11 x12 x13 x14 c) = .rt (.val (.int ((K : Int) - 1))) c
  | 0, k, _, _, _, _, _, _, _, h1, h2 => by omega
  | m + 1, k, x8, x9, x10, x11, x12, x13, x14, h1, h2 => by
    obtain ⟨y9, y10, y11, y12, y13, y14, e⟩ := long_step (l := l) (a := a) (c := c) (x0 := x0) (most := most) (x9 := x9) (x10 := x10) (x11 := x11) (x12 := x12) (x13 := x13) (x14 := x14) P hz hp h0 k
    rw [rangeD_succ]
    by_cases q : k + 1 = K
    · rw [q, if_pos hK] at e
      rw [forL_rt (g := gSet 8) (s1 := vS z l lo ns p a most (.own ((allK' z lo ns p x0 k).map pairDI)) (.val (.int k)) x9 x10 x11 x12 x13 x14 c) rfl e]
      rw [show (k : Int) = (K : Int) - 1 by omega]
    · rw [if_neg (hk (k + 1) (by omega))] at e
      rw [forL_nx rfl (s2 := vS z l lo ns p a most (.own ((allK' z lo ns p x0 (k + 1)).map pairDI)) (.val (.int k)) y9 y10 y11 y12 y13 y14 c) e]
      exact long_loop P hz hp h0 hK hk m (k + 1) (.val (.int k)) y9 y10 y11 y12 y13 y14 (by omega) (by omega)
theorem longest_eq (P : Px z lo hi ns p) (hz : z ≤ 8) (hp : p ≤ 2) (ha : a ≤ p) (h0 : 0 ≤ l) (h1 : l ≤ z) {K : Nat} (K1 : 1 ≤ K) (K2 : K ≤ 1000000) (hK : ∀ x, ¬ Rch z lo ns p (l, a) K x) (hk : ∀ k, k < K → ∃ x, Rch z lo ns p (l, a) k x) :
    F__law_longest [.int z, .int l, rowD lo, rowD ns, .int p, .int a, .int ((K : Int) - 1 + 2)] c = .ok (.val (.int ((K : Int) - 1))) c := by
  have es : startS 15 [.int z, .int l, rowD lo, rowD ns, .int p, .int a, .int ((K : Int) - 1 + 2)] c = ⟨[.val (.int z), .val (.int l), .val (rowD lo), .val (rowD ns), .val (.int p), .val (.int a), .val (.int ((K : Int) - 1 + 2)), .un, .un, .un, .un, .un, .un, .un, .un], c⟩ := rfl
  have R := rw_of P
  have S0 : St2 z p (l, (a : Int)) := ⟨h0, h1, by simp only; omega, by simp only; omega⟩
  have sp := all_spec R (by omega) (by omega) S0
  have w := long_loop (l := l) (a := a) (c := c) (most := (K : Int) - 1 + 2) P hz hp S0 (K := K) (by
    cases q : allK' z lo ns p (l, (a : Int)) K with
    | nil => rfl
    | cons y ys => exact absurd (((sp K).1 y).mp (by rw [q]; simp)) (hK y)) (fun j hj e => by
    obtain ⟨x, hx⟩ := hk j hj
    have := ((sp j).1 x).mpr hx
    rw [e] at this
    cases this) (K + 1) 0 .un .un .un .un .un .un .un (by omega) (by omega)
  have r := fun st => rng1K_int (j := (K : Int) - 1 + 2) (s := st) (by omega) (by omega)
  rw [show ((K : Int) - 1 + 2).toNat = K + 1 by omega] at r
  rw [show (allK' z lo ns p (l, (a : Int)) 0).map pairDI = [.tuple [.int l, .int a]] from rfl] at w
  change forL _ _ (rangeD 0 (K + 1)) _ = _ at w
  rw [F__law_longest, fnD_eq, es]
  dsimp only [vS] at *
  clear es
  generalize rangeD 0 (K + 1) = RG at *
  generalize rowD lo = LO at *
  generalize rowD ns = NS at *
  generalize (p : Int) = PP at *
  generalize (a : Int) = AA at *
  generalize (K : Int) = KK at *
  unfold d__law_longest
  simp -implicitDefEqProofs [eVar_val, r, w]
end
end K10

set_option Elab.async false
set_option linter.all false
set_option maxRecDepth 100000
set_option maxHeartbeats 4000000
/-! K10m15: _law_right, the book. -/
namespace K10
open PySem PySem.Spec L2 DL
open PyProof.Rows hiding St
def rp1 : DS := dPar 18 17 (eAdd (eC (.int 1)) (eCall F__law_roll (aCons (eVar 0) (aCons (eC (.int 8)) aNil)))) (eCall F__law_roll (aCons (eVar 0) (aCons (eC (.int 3)) aNil)))
def rp2 : DS := dPar 19 16 (eCall F__law_weather (aCons (eVar 0) (aCons (eC (.int 3)) (aCons (eC (.int 4)) (aCons (eC (.int 2)) aNil))))) (eCall F__law_row (aCons (eVar 0) (aCons (eC (.int 2)) (aCons (eC (.int 6)) aNil))))
def rp3 : DS := dPar 1 2 (eCall F__law_turn (aCons (eB lenB (aCons (eIxN 19 (eC (.int 0))) aNil)) (aCons (eLenN 16) aNil))) (eCall F__law_lot (aCons (eVar 18) (aCons (eVar 19) (aCons (eVar 16) (aCons (eVar 17) aNil)))))
def rp4 : DS := dSet 3 (eLst aNil)
def rp5 : DS := dFor (iRng1 (eVar 1)) (gSet 4) d__law_right_b4
def rp6 : DS := dIf (eNe (eCallK F_whole_book (aCons (eVar 18) (aCons (eVar 19) (aCons (eVar 16) aNil))) (aCons (eVar 17) aNil)) (eB tupB (aCons (eVar 3) aNil))) (dRet (eC (.bool false))) dNil
def rp7 : DS := dPar3 4 6 9 (eCall F__law_roll (aCons (eVar 0) (aCons (ePow (eC (.int 10)) (eC (.int 6))) aNil))) (eCall F__law_roll (aCons (eVar 0) (aCons (eAdd (eVar 17) (eC (.int 1))) aNil))) (eCall F__law_roll (aCons (eVar 0) (aCons (eAdd (eVar 18) (eC (.int 1))) aNil)))
def rp8 : DS := dIf (eNe (eCallK F_enough (aCons (eVar 18) (aCons (eVar 19) (aCons (eVar 16) (aCons (eVar 17) (aCons (eVar 4) aNil))))) (aCons (eVar 6) aNil)) (eIx (eIxN 3 (eMod (eVar 4) (eVar 1))) (eVar 6))) (dRet (eC (.bool false))) dNil
def rp9 : DS := dPar3 10 11 12 (eIxN 2 (eMod (eAdd (eVar 4) (eC (.int 1))) (eVar 1))) (eIxN 16 (eMod (eVar 4) (eLenN 16))) (eLst aNil)
def rp10 : DS := dIf (eAnd (eGe (eVar 9) (eVar 11)) (eIn (eTup (aCons (eSub (eVar 9) (eVar 11)) (aCons (eC (.int 0)) aNil))) (eVar 10))) (dApp 12 (eC (.str "water"))) dNil
def rp11 : DS := dIf (eAnd (eLt (eVar 6) (eVar 17)) (eIn (eTup (aCons (eVar 9) (aCons (eAdd (eVar 6) (eC (.int 1))) aNil))) (eVar 10))) (dApp 12 (eC (.str "wait"))) dNil
def rp12 : DS := dIf (eNe (eCallK F_may_water (aCons (eVar 18) (aCons (eVar 19) (aCons (eVar 16) (aCons (eVar 17) (aCons (eVar 4) (aCons (eVar 6) aNil)))))) (aCons (eVar 9) aNil)) (eB tupB (aCons (eVar 12) aNil))) (dRet (eC (.bool false))) dNil
def rp13 : DS := dSet 7 (eCall F__law_roll (aCons (eVar 0) (aCons (eAdd (eVar 18) (eC (.int 1))) aNil)))
def rp14 : DS := dSet 13 (eCallK F_dying_steps (aCons (eVar 18) (aCons (eVar 7) (aCons (eVar 19) (aCons (eVar 16) (aCons (eVar 17) aNil))))) (aCons (eVar 6) aNil))
def rp15 : DS := dIf (eNe (eIsN (eVar 13) (eC .none)) (eIn (eTup (aCons (eVar 7) (aCons (eVar 6) aNil))) (eIxN 2 (eC (.int 0))))) (dRet (eC (.bool false))) dNil
def rp16 : DS := dIf (eAnd (eNotN (eVar 13) (eC .none)) (eNe (eVar 13) (eCall F__law_longest (aCons (eVar 18) (aCons (eVar 7) (aCons (eIxN 19 (eC (.int 0))) (aCons (eVar 16) (aCons (eVar 17) (aCons (eVar 6) (aCons (eAdd (eVar 13) (eC (.int 2))) aNil)))))))))) (dRet (eC (.bool false))) dNil
def rp17 : DS := dSet 14 (eCallK F_least_tub (aCons (eVar 19) (aCons (eVar 16) aNil)) (aCons (eVar 17) aNil))
def rp18 : DS := dIf (eOr (eIsN (eVar 14) (eC .none)) (eGt (eVar 14) (eC (.int 20)))) (dIf (eIn (eTup (aCons (eC (.int 20)) (aCons (eC (.int 0)) aNil))) (eIx (eCall F__law_lot (aCons (eC (.int 20)) (aCons (eVar 19) (aCons (eVar 16) (aCons (eVar 17) aNil))))) (eC (.int 0)))) (dRet (eC (.bool false))) dNil) (dIf (eNin (eTup (aCons (eVar 14) (aCons (eC (.int 0)) aNil))) (eIx (eCall F__law_lot (aCons (eVar 14) (aCons (eVar 19) (aCons (eVar 16) (aCons (eVar 17) aNil))))) (eC (.int 0)))) (dRet (eC (.bool false))) (dIf (eAnd (eGt (eVar 14) (eC (.int 1))) (eIn (eTup (aCons (eSub (eVar 14) (eC (.int 1))) (aCons (eC (.int 0)) aNil))) (eIx (eCall F__law_lot (aCons (eSub (eVar 14) (eC (.int 1))) (aCons (eVar 19) (aCons (eVar 16) (aCons (eVar 17) aNil))))) (eC (.int 0))))) (dRet (eC (.bool false))) dNil))
def rp19 : DS := dSet 15 (eLst (aCons (eRef 0 (eCall F_enough (aCons (eC (.int 201)) (aCons (eC .none) (aCons (eC .none) (aCons (eC .none) (aCons (eC .none) (aCons (eC .none) aNil)))))))) (aCons (eRef 0 (eCall F_enough (aCons (eVar 18) (aCons (eC .none) (aCons (eC .none) (aCons (eC .none) (aCons (eC .none) (aCons (eC .none) aNil)))))))) (aCons (eRef 0 (eCall F_enough (aCons (eVar 18) (aCons (eVar 19) (aCons (eMul (eTup (aCons (eC (.int 1)) aNil)) (eC (.int 13))) (aCons (eC .none) (aCons (eC .none) (aCons (eC .none) aNil)))))))) (aCons (eRef 0 (eCall F_enough (aCons (eVar 18) (aCons (eVar 19) (aCons (eVar 16) (aCons (eC (.int 7)) (aCons (eC .none) (aCons (eC .none) aNil)))))))) (aCons (eRef 0 (eCall F_enough (aCons (eVar 18) (aCons (eVar 19) (aCons (eVar 16) (aCons (eVar 17) (aCons (eNeg (eC (.int 1))) (aCons (eC .none) aNil)))))))) (aCons (eRef 0 (eCall F_enough (aCons (eVar 18) (aCons (eVar 19) (aCons (eVar 16) (aCons (eVar 17) (aCons (eC (.int 0)) (aCons (eAdd (eVar 17) (eC (.int 1))) aNil)))))))) (aCons (eRef 0 (eCall F_whole_book (aCons (eVar 18) (aCons (eTup (aCons (eMul (eTup (aCons (eC (.int 1)) aNil)) (eC (.int 13))) (aCons (eMul (eTup (aCons (eC (.int 1)) aNil)) (eC (.int 13))) aNil))) (aCons (eVar 16) (aCons (eC (.int 0)) aNil)))))) (aCons (eRef 0 (eCall F_may_water (aCons (eVar 18) (aCons (eVar 19) (aCons (eVar 16) (aCons (eVar 17) (aCons (eC (.int 0)) (aCons (eC (.int 0)) (aCons (eAdd (eVar 18) (eC (.int 1))) aNil))))))))) (aCons (eRef 0 (eCall F_dying_steps (aCons (eVar 18) (aCons (eAdd (eVar 18) (eC (.int 1))) (aCons (eC .none) (aCons (eC .none) (aCons (eC .none) (aCons (eC .none) aNil)))))))) (aCons (eRef 0 (eCall F_dying_steps (aCons (eVar 18) (aCons (eC (.int 0)) (aCons (eVar 19) (aCons (eVar 16) (aCons (eVar 17) (aCons (eC (.bool true)) aNil)))))))) (aCons (eRef 0 (eCall F_least_tub (aCons (eC .none) (aCons (eC .none) (aCons (eC .none) aNil))))) (aCons (eRef 0 (eCall F_least_tub (aCons (eVar 19) (aCons (eVar 16) (aCons (eNeg (eC (.int 1))) aNil))))) aNil)))))))))))))
def rp20 : DS := dSet 12 (eLst (aCons (eC (.str "size")) (aCons (eC (.str "weather")) (aCons (eC (.str "needs")) (aCons (eC (.str "patience")) (aCons (eC (.str "step")) (aCons (eC (.str "age")) (aCons (eC (.str "weather")) (aCons (eC (.str "held")) (aCons (eC (.str "level")) (aCons (eC (.str "age")) (aCons (eC (.str "weather")) (aCons (eC (.str "patience")) aNil)))))))))))))
def rp21 : DS := dRet (eEq (eVar 15) (eVar 12))
theorem rp_eq : d__law_right = dSeq rp1 (dSeq rp2 (dSeq rp3 (dSeq rp4 (dSeq rp5 (dSeq rp6 (dSeq rp7 (dSeq rp8 (dSeq rp9 (dSeq rp10 (dSeq rp11 (dSeq rp12 (dSeq rp13 (dSeq rp14 (dSeq rp15 (dSeq rp16 (dSeq rp17 (dSeq rp18 (dSeq rp19 (dSeq rp20 rp21))))))))))))))))))) := rfl
abbrev st21 (a1 a2 a3 a4 a5 a6 a7 a8 a9 a10 a11 a12 a13 a14 a15 a16 a17 a18 a19 a20 : Sl) (c : List Int) : S := ⟨[.val dcell, a1, a2, a3, a4, a5, a6, a7, a8, a9, a10, a11, a12, a13, a14, a15, a16, a17, a18, a19, a20], c⟩
/-- a drawn plant -/
structure Sz (z : Int) (lo hi ns : List Int) (p : Nat) : Prop where
  P : Px z lo hi ns p
  z8 : z ≤ 8
  p2 : p ≤ 2
  ll : lo.length ≤ 3
  nl : ns.length ≤ 2
theorem tn6 {lo ns : List Int} (h1 : lo.length ≤ 3) (h2 : ns.length ≤ 2) : tn lo ns ≤ 6 := by
  have e : tn lo ns * Nat.gcd lo.length ns.length = lo.length * ns.length := by rw [Nat.mul_comm]; exact Nat.gcd_mul_lcm _ _
  have hm : lo.length * ns.length ≤ 3 * 2 := Nat.mul_le_mul h1 h2
  rcases Nat.eq_zero_or_pos (Nat.gcd lo.length ns.length) with g | g
  · have := Nat.eq_zero_of_gcd_eq_zero_left g
    show Nat.lcm lo.length ns.length ≤ 6
    rw [this, Nat.lcm_zero_left]
    omega
  · have : tn lo ns * 1 ≤ tn lo ns * Nat.gcd lo.length ns.length := Nat.mul_le_mul_left _ g
    omega
section
variable {z : Int} {lo hi ns : List Int} {p s a : Nat} {L : Lt} {c c' : List Int} {a1 a2 a3 a4 a5 a6 a7 a8 a9 a10 a11 a12 a13 a14 a15 a16 a17 a18 a19 a20 : Sl}
theorem Sz.lot (W : Sz z lo hi ns p) {m : Int} (h1 : 1 ≤ m) (h2 : m ≤ 20) : ∃ L, LotOk m lo hi ns p (tn lo ns) L ∧ F__law_lot [.int m, weD lo hi, rowD ns, .int p] c = .ok (.own (lotL L (tn lo ns))) c := by
  refine law_lot_eq ⟨h1, by omega, W.P.we, W.P.wl, W.P.n, W.P.nl, W.P.p⟩ h2 ?_
  have h := tn6 W.ll W.nl
  have := W.p2
  have : tn lo ns * ((m + 1).toNat * (p + 1)) ≤ 6 * (21 * 3) := Nat.mul_le_mul h (Nat.mul_le_mul (by omega) (by omega))
  omega
/-- the levels that hold -/
def lvK (L : Lt) (s a : Nat) : List Int := ((L s).filter fun x => decide (x.2 = (a : Int))).map (·.1)
theorem evL_pw (z : Int) (hp : p ≤ 6) : (evL z p).Pairwise fun x y => codeP x < codeP y := by
  have go : ∀ k, (evK k p).Pairwise fun x y => codeP x < codeP y := by
    intro k
    induction k with
    | zero => exact .nil
    | succ k ih =>
      rw [evK_succ]
      refine List.pairwise_append.mpr ⟨ih, List.pairwise_map.mpr ((List.pairwise_lt_range (n := p + 1)).imp fun {a b} h => ?_), fun x hx y hy => ?_⟩
      · unfold codeP; simp only; omega
      · obtain ⟨l, hl, hx⟩ := List.mem_flatMap.mp hx
        obtain ⟨i, hi, rfl⟩ := List.mem_map.mp hx
        obtain ⟨j, hj, rfl⟩ := List.mem_map.mp hy
        rw [List.mem_range] at hl hi hj
        unfold codeP
        simp only
        omega
  exact go _
theorem lvK_eq (P : Px z lo hi ns p) (K : LotOk z lo hi ns p (tn lo ns) L) (hs : s < tn lo ns) : lvK L s a = match bk z lo hi ns p s a with
    | none => []
    | some b => ivI b z := by
  have hm : ∀ l, l ∈ lvK L s a ↔ gf z lo hi ns p s a l := fun l => by
    unfold lvK
    rw [List.mem_map]
    constructor
    · rintro ⟨x, hx, rfl⟩
      obtain ⟨h1, h2⟩ := List.mem_filter.mp hx
      have h2 : x.2 = (a : Int) := of_decide_eq_true h2
      exact (K.gf s a x.1 hs).mp (by rw [← h2]; exact h1)
    · intro g
      exact ⟨(l, (a : Int)), List.mem_filter.mpr ⟨(K.gf s a l hs).mpr g, decide_eq_true rfl⟩, rfl⟩
  have pw : (lvK L s a).Pairwise (· < ·) := by
    unfold lvK
    refine List.pairwise_map.mpr ((((evL_pw (p := p) z P.p).sublist (K.sub s hs)).sublist List.filter_sublist).imp_of_mem fun {x y} hx hy h => ?_)
    have h1 : x.2 = (a : Int) := of_decide_eq_true (List.mem_filter.mp hx).2
    have h2 : y.2 = (a : Int) := of_decide_eq_true (List.mem_filter.mp hy).2
    unfold codeP at h
    omega
  cases q : bk z lo hi ns p s a with
  | none =>
    cases e : lvK L s a with
    | nil => rfl
    | cons l r =>
      have g := (hm l).mp (by rw [e]; simp)
      have b := gf_ps.bd s a l g
      obtain ⟨x, hx, _⟩ := (bk_gf b.2.1 b.2.2).mpr g
      rw [q] at hx
      cases hx
  | some b =>
    refine pw_ext pw ivI_pw fun l => ?_
    rw [hm, ivI_mem]
    constructor
    · intro g
      have h := gf_ps.bd s a l g
      obtain ⟨x, hx, hl⟩ := (bk_gf h.2.1 h.2.2).mpr g
      rw [q] at hx
      cases hx
      exact ⟨hl, h.2.2⟩
    · rintro ⟨h1, h2⟩
      have h := bk_ok (z := z) (lo := lo) (hi := hi) (ns := ns) (p := p) s a b q
      exact (bk_gf (by omega) h2).mp ⟨b, q, h1⟩
theorem minI_iv {b : Int} (h : b ≤ z) : minI (ivI b z) = b := by
  have m := minI_mem (ivI_ne h)
  have h1 := ivI_mem.mp m.1
  have h2 := m.2 b (ivI_mem.mpr ⟨Int.le_refl _, h⟩)
  omega
theorem sort_iv {b : Int} : sortI (ivI b z) = ivI b z := (sortI_eq (List.Perm.refl _) (ivI_pw.imp fun h => Int.le_of_lt h)).symm
theorem lv_comp {LL : Sl} (s a : Nat) : ∀ (xs : List (Int × Int)) (acc : List D), compL (gTupD (gsCons (gSet 7) (gsCons (gSet 20) gsNil))) d__law_right_t2 (eVar 7) [7, 20] (xs.map pairDI) acc (st21 a1 a2 a3 a4 a5 (.val (.int a)) a7 a8 a9 a10 a11 a12 a13 a14 a15 a16 a17 a18 a19 a20 c) =
    .ok (acc ++ ((xs.filter fun x => decide (x.2 = (a : Int))).map (·.1)).map PyData.int) (st21 a1 a2 a3 a4 a5 (.val (.int a)) a7 a8 a9 a10 a11 a12 a13 a14 a15 a16 a17 a18 a19 a20 c)
  | [], acc => by simp
  | x :: xs, acc => by
    have t2 : d__law_right_t2 (st21 a1 a2 a3 a4 a5 (.val (.int a)) (.val (.int x.1)) a8 a9 a10 a11 a12 a13 a14 a15 a16 a17 a18 a19 (.val (.int x.2)) c) = .ok (.val (.bool (decide (x.2 = (a : Int))))) (st21 a1 a2 a3 a4 a5 (.val (.int a)) (.val (.int x.1)) a8 a9 a10 a11 a12 a13 a14 a15 a16 a17 a18 a19 (.val (.int x.2)) c) := by
      unfold d__law_right_t2
      dsimp only [st21]
      generalize (a : Int) = AA
      simp -implicitDefEqProofs [eVar_val]
    rw [List.map_cons]
    by_cases q : x.2 = (a : Int)
    · rw [decide_eq_true q] at t2
      rw [compL_y (g := gTupD (gsCons (gSet 7) (gsCons (gSet 20) gsNil))) (tt := d__law_right_t2) (te := eVar 7) (s1 := (st21 a1 a2 a3 a4 a5 (.val (.int a)) (.val (.int x.1)) a8 a9 a10 a11 a12 a13 a14 a15 a16 a17 a18 a19 (.val (.int x.2)) c)) (s2 := (st21 a1 a2 a3 a4 a5 (.val (.int a)) (.val (.int x.1)) a8 a9 a10 a11 a12 a13 a14 a15 a16 a17 a18 a19 (.val (.int x.2)) c)) (s3 := (st21 a1 a2 a3 a4 a5 (.val (.int a)) (.val (.int x.1)) a8 a9 a10 a11 a12 a13 a14 a15 a16 a17 a18 a19 (.val (.int x.2)) c)) (y := .val (.int x.1)) rfl t2 (eVar_val rfl)]
      have ih := lv_comp (LL := LL) s a xs (acc ++ [.int x.1])
      rw [List.append_assoc] at ih
      rw [List.filter_cons, if_pos (decide_eq_true q)]
      exact ih
    · rw [decide_eq_false q] at t2
      rw [compL_n (g := gTupD (gsCons (gSet 7) (gsCons (gSet 20) gsNil))) (tt := d__law_right_t2) (te := eVar 7) (s1 := (st21 a1 a2 a3 a4 a5 (.val (.int a)) (.val (.int x.1)) a8 a9 a10 a11 a12 a13 a14 a15 a16 a17 a18 a19 (.val (.int x.2)) c)) (s2 := (st21 a1 a2 a3 a4 a5 (.val (.int a)) (.val (.int x.1)) a8 a9 a10 a11 a12 a13 a14 a15 a16 a17 a18 a19 (.val (.int x.2)) c)) rfl t2]
      have ih := lv_comp (LL := LL) s a xs acc
      rw [List.filter_cons, if_neg (by rw [decide_eq_false q]; simp)]
      exact ih
theorem age_b (W : Sz z lo hi ns p) (K : LotOk z lo hi ns p (tn lo ns) L) (hs : s < tn lo ns) {R : List D} (hR : R.length < 1000) : ∃ y8, d__law_right_b3 (st21 a1 (.own (lotL L (tn lo ns))) a3 (.val (.int s)) (.own R) (.val (.int a)) a7 a8 a9 a10 a11 a12 a13 a14 a15 a16 a17 (.val (.int z)) a19 a20 c) =
    .nx (st21 a1 (.own (lotL L (tn lo ns))) a3 (.val (.int s)) (.own (R ++ [optD (bk z lo hi ns p s a)])) (.val (.int a)) a7 y8 a9 a10 a11 a12 a13 a14 a15 a16 a17 (.val (.int z)) a19 a20 c) := by
  have hsz := sizeLine_eq
  have b2 := atI_nat (lotL_at (L := L) hs)
  have lk := lvK_eq (a := a) W.P K hs
  have hlen : (L s).length < 10000 := Nat.lt_of_le_of_lt (K.sub s hs).length_le (ev_small (by have := W.z8; omega) W.P.p)
  have cp := compK_ok (vs := [7, 20]) (g := gTupD (gsCons (gSet 7) (gsCons (gSet 20) gsNil))) (tt := d__law_right_t2) (te := eVar 7) (by rw [List.length_map]; omega) (lv_comp (LL := .un) (a1 := a1) (a2 := .own (lotL L (tn lo ns))) (a3 := a3) (a4 := .val (.int s)) (a5 := .own R) (a7 := a7) (a8 := a8) (a9 := a9) (a10 := a10) (a11 := a11) (a12 := a12) (a13 := a13) (a14 := a14) (a15 := a15) (a16 := a16) (a17 := a17) (a18 := .val (.int z)) (a19 := a19) (a20 := a20) (c := c) s a (L s) [])
  rw [List.nil_append, show ((L s).filter fun x => decide (x.2 = (a : Int))).map (·.1) = lvK L s a from rfl, lk] at cp
  have rl : R.length < sizeLine := by omega
  clear lk
  cases q : bk z lo hi ns p s a with
  | none =>
    rw [q] at cp
    refine ⟨.own [], ?_⟩
    have cp : compK [7, 20] (gTupD (gsCons (gSet 7) (gsCons (gSet 20) gsNil))) d__law_right_t2 (eVar 7) ((L s).map pairDI) (st21 a1 (.own (lotL L (tn lo ns))) a3 (.val (.int s)) (.own R) (.val (.int a)) a7 a8 a9 a10 a11 a12 a13 a14 a15 a16 a17 (.val (.int z)) a19 a20 c) = .ok (.own []) (st21 a1 (.own (lotL L (tn lo ns))) a3 (.val (.int s)) (.own R) (.val (.int a)) a7 a8 a9 a10 a11 a12 a13 a14 a15 a16 a17 (.val (.int z)) a19 a20 c) := cp
    unfold d__law_right_b3
    dsimp only [st21] at *
    generalize (L s).map pairDI = LS at *
    generalize lotL L (tn lo ns) = LL at *
    generalize (s : Int) = SS at *
    generalize (a : Int) = AA at *
    simp -implicitDefEqProofs [eVar_val, eIxN_own, eLenN_own, b2, cp, dApp_own, rl, optD]
  | some b =>
    rw [q] at cp
    have hb := bk_ok (z := z) (lo := lo) (hi := hi) (ns := ns) (p := p) s a b q
    have cp : compK [7, 20] (gTupD (gsCons (gSet 7) (gsCons (gSet 20) gsNil))) d__law_right_t2 (eVar 7) ((L s).map pairDI) (st21 a1 (.own (lotL L (tn lo ns))) a3 (.val (.int s)) (.own R) (.val (.int a)) a7 a8 a9 a10 a11 a12 a13 a14 a15 a16 a17 (.val (.int z)) a19 a20 c) = .ok (.own ((ivI b z).map PyData.int)) (st21 a1 (.own (lotL L (tn lo ns))) a3 (.val (.int s)) (.own R) (.val (.int a)) a7 a8 a9 a10 a11 a12 a13 a14 a15 a16 a17 (.val (.int z)) a19 a20 c) := cp
    have mb := minB_ints (ivI_ne hb.2)
    rw [minI_iv hb.2] at mb
    have sb : sortB [.list ((ivI b z).map PyData.int)] = some (.own ((ivI b z).map PyData.int)) := by
      show (intsD _).map _ = _
      rw [intsD_ok, Option.map_some, sort_iv]
    have ln : (0 : Int) < (((ivI b z).map PyData.int).length : Int) := by rw [List.length_map, ivI_len]; omega
    have ln2 : 0 < ((ivI b z).map PyData.int).length := by omega
    have rg : ∀ (e1 e2 : DE) (st s1 s2 : S), e1 st = .ok (.val (.int b)) s1 → e2 s1 = .ok (.val (.int (z + 1))) s2 → eLstRg e1 e2 st = .ok (.own ((ivI b z).map PyData.int)) s2 := fun e1 e2 st s1 s2 h1 h2 => by
      unfold eLstRg
      rw [h1]
      simp only [bind_ok, Sl.d_val, h2]
      rw [if_pos (by have := W.z8; omega), ivI_data]
    have ne : neD (.list ((ivI b z).map PyData.int)) (.list ((ivI b z).map PyData.int)) = some (.val (.bool false)) := neD_self (k := 1) (Sh.lst Sh.ints)
    refine ⟨.val (.list ((ivI b z).map PyData.int)), ?_⟩
    unfold d__law_right_b3
    dsimp only [st21] at *
    generalize (L s).map pairDI = LS at *
    generalize lotL L (tn lo ns) = LL at *
    generalize (ivI b z).map PyData.int = IV at *
    generalize (s : Int) = SS at *
    generalize (a : Int) = AA at *
    have rg1 := rg (eB minB (aCons (eVar 8) aNil)) (eAdd (eVar 18) (eC (.int 1))) ⟨[.val dcell, a1, .own LL, a3, .val (.int SS), .own (R ++ [.int b]), .val (.int AA), a7, .val (.list IV), a9, a10, a11, a12, a13, a14, a15, a16, a17, .val (.int z), a19, a20], c⟩ ⟨[.val dcell, a1, .own LL, a3, .val (.int SS), .own (R ++ [.int b]), .val (.int AA), a7, .val (.list IV), a9, a10, a11, a12, a13, a14, a15, a16, a17, .val (.int z), a19, a20], c⟩ ⟨[.val dcell, a1, .own LL, a3, .val (.int SS), .own (R ++ [.int b]), .val (.int AA), a7, .val (.list IV), a9, a10, a11, a12, a13, a14, a15, a16, a17, .val (.int z), a19, a20], c⟩
      (by simp -implicitDefEqProofs [eVar_val, mb]) (by simp -implicitDefEqProofs [eVar_val])
    generalize eLstRg (eB minB (aCons (eVar 8) aNil)) (eAdd (eVar 18) (eC (.int 1))) = GL at *
    simp -implicitDefEqProofs [eVar_val, eVar_own, eIxN_own, eLenN_own, eLenN_val, b2, cp, dApp_own, rl, optD, ln, ln2, mb, sb, rg1, ne]
end
end K10

set_option Elab.async false
set_option linter.all false
set_option maxRecDepth 100000
set_option maxHeartbeats 4000000
/-! K10m16: _law_right, up to what may be done. -/
namespace K10
open PySem PySem.Spec L2 DL
open PyProof.Rows hiding St
section
variable {z : Int} {lo hi ns : List Int} {p s a : Nat} {L : Lt} {c c' : List Int} {a1 a2 a3 a4 a5 a6 a7 a8 a9 a10 a11 a12 a13 a14 a15 a16 a17 a18 a19 a20 : Sl}
theorem age_l (W : Sz z lo hi ns p) (K : LotOk z lo hi ns p (tn lo ns) L) (hs : s < tn lo ns) : ∀ (m a : Nat) (R : List D) (x6 x8 : Sl), R.length + m < 1000 → ∃ y6 y8, forL (gSet 6) d__law_right_b3 (rangeD a m) (st21 a1 (.own (lotL L (tn lo ns))) a3 (.val (.int s)) (.own R) x6 a7 x8 a9 a10 a11 a12 a13 a14 a15 a16 a17 (.val (.int z)) a19 a20 c) =
    .nx (st21 a1 (.own (lotL L (tn lo ns))) a3 (.val (.int s)) (.own (R ++ (List.range m).map fun i => optD (bk z lo hi ns p s (a + i)))) y6 a7 y8 a9 a10 a11 a12 a13 a14 a15 a16 a17 (.val (.int z)) a19 a20 c)
  | 0, a, R, x6, x8, _ => ⟨x6, x8, (by rw [List.range_zero, List.map_nil, List.append_nil]; rfl)⟩
  | m + 1, a, R, x6, x8, h => by
    obtain ⟨y8, e⟩ := age_b (a := a) (R := R) (c := c) (a1 := a1) (a3 := a3) (a7 := a7) (a8 := x8) (a9 := a9) (a10 := a10) (a11 := a11) (a12 := a12) (a13 := a13) (a14 := a14) (a15 := a15) (a16 := a16) (a17 := a17) (a19 := a19) (a20 := a20) W K hs (by omega)
    obtain ⟨z6, z8, e2⟩ := age_l W K hs m (a + 1) (R ++ [optD (bk z lo hi ns p s a)]) (.val (.int a)) y8 (by rw [List.length_append]; simp only [List.length_singleton]; omega)
    refine ⟨z6, z8, ?_⟩
    rw [rangeD_succ, forL_nx (g := gSet 6) (s1 := (st21 a1 (.own (lotL L (tn lo ns))) a3 (.val (.int s)) (.own R) (.val (.int a)) a7 x8 a9 a10 a11 a12 a13 a14 a15 a16 a17 (.val (.int z)) a19 a20 c)) rfl e, show ((a : Int) + 1) = ((a + 1 : Nat) : Int) by omega, e2]
    rw [List.append_assoc, List.range_succ_eq_map, List.map_cons, List.map_map]
    rw [show (fun i => optD (bk z lo hi ns p s (a + 1 + i))) = (fun i => optD (bk z lo hi ns p s (a + i))) ∘ Nat.succ from funext fun i => by
      show optD (bk z lo hi ns p s (a + 1 + i)) = optD (bk z lo hi ns p s (a + (i + 1)))
      rw [show a + 1 + i = a + (i + 1) by omega]]
    rfl
theorem row_b (W : Sz z lo hi ns p) (K : LotOk z lo hi ns p (tn lo ns) L) (hs : s < tn lo ns) {B : List D} (hB : B.length < 1000) : ∃ y5 y6 y8, d__law_right_b4 (st21 a1 (.own (lotL L (tn lo ns))) (.own B) (.val (.int s)) a5 a6 a7 a8 a9 a10 a11 a12 a13 a14 a15 a16 (.val (.int p)) (.val (.int z)) a19 a20 c) =
    .nx (st21 a1 (.own (lotL L (tn lo ns))) (.own (B ++ [.tuple (rowL (bk z lo hi ns p) p s)])) (.val (.int s)) y5 y6 a7 y8 a9 a10 a11 a12 a13 a14 a15 a16 (.val (.int p)) (.val (.int z)) a19 a20 c) := by
  have hsz := sizeLine_eq
  obtain ⟨y6, y8, e⟩ := age_l (c := c) (a1 := a1) (a3 := .own B) (a7 := a7) (a9 := a9) (a10 := a10) (a11 := a11) (a12 := a12) (a13 := a13) (a14 := a14) (a15 := a15) (a16 := a16) (a17 := .val (.int p)) (a19 := a19) (a20 := a20) W K hs (p + 1) 0 [] a6 a8 (by have := W.p2; simp only [List.length_nil]; omega)
  rw [List.nil_append] at e
  have er : (List.range (p + 1)).map (fun i => optD (bk z lo hi ns p s (0 + i))) = rowL (bk z lo hi ns p) p s := by
    unfold rowL
    refine List.map_congr_left fun i _ => ?_
    rw [Nat.zero_add]
  rw [er] at e
  have r := fun st => rng1K_int (j := (p : Int) + 1) (s := st) (by omega) (by have := W.p2; omega)
  rw [show ((p : Int) + 1).toNat = p + 1 by omega] at r
  change forL _ _ (rangeD 0 (p + 1)) _ = _ at e
  have tb : tupB [.list (rowL (bk z lo hi ns p) p s)] = some (.val (.tuple (rowL (bk z lo hi ns p) p s))) := tupB_list (by rw [rowL_len]; have := W.p2; omega)
  have bl : B.length < sizeLine := by omega
  refine ⟨.val (.list (rowL (bk z lo hi ns p) p s)), y6, y8, ?_⟩
  unfold d__law_right_b4
  dsimp only [st21] at *
  generalize rowL (bk z lo hi ns p) p s = RW at *
  generalize rangeD 0 (p + 1) = RG at *
  generalize lotL L (tn lo ns) = LL at *
  generalize (s : Int) = SS at *
  generalize (p : Int) = PP at *
  simp -implicitDefEqProofs [eVar_val, eVar_own, r, e, tb, dApp_own, bl]
theorem row_l (W : Sz z lo hi ns p) (K : LotOk z lo hi ns p (tn lo ns) L) : ∀ (m s : Nat) (B : List D) (x4 x5 x6 x8 : Sl), s + m ≤ tn lo ns → B.length + m < 1000 → ∃ y4 y5 y6 y8, forL (gSet 4) d__law_right_b4 (rangeD s m) (st21 a1 (.own (lotL L (tn lo ns))) (.own B) x4 x5 x6 a7 x8 a9 a10 a11 a12 a13 a14 a15 a16 (.val (.int p)) (.val (.int z)) a19 a20 c) =
    .nx (st21 a1 (.own (lotL L (tn lo ns))) (.own (B ++ (List.range m).map fun i => .tuple (rowL (bk z lo hi ns p) p (s + i)))) y4 y5 y6 a7 y8 a9 a10 a11 a12 a13 a14 a15 a16 (.val (.int p)) (.val (.int z)) a19 a20 c)
  | 0, s, B, x4, x5, x6, x8, _, _ => ⟨x4, x5, x6, x8, (by rw [List.range_zero, List.map_nil, List.append_nil]; rfl)⟩
  | m + 1, s, B, x4, x5, x6, x8, h, h2 => by
    obtain ⟨y5, y6, y8, e⟩ := row_b (s := s) (B := B) (c := c) (a1 := a1) (a5 := x5) (a6 := x6) (a7 := a7) (a8 := x8) (a9 := a9) (a10 := a10) (a11 := a11) (a12 := a12) (a13 := a13) (a14 := a14) (a15 := a15) (a16 := a16) (a19 := a19) (a20 := a20) W K (by omega) (by omega)
    obtain ⟨z4, z5, z6, z8, e2⟩ := row_l W K m (s + 1) (B ++ [.tuple (rowL (bk z lo hi ns p) p s)]) (.val (.int s)) y5 y6 y8 (by omega) (by rw [List.length_append]; simp only [List.length_singleton]; omega)
    refine ⟨z4, z5, z6, z8, ?_⟩
    rw [rangeD_succ, forL_nx (g := gSet 4) (s1 := (st21 a1 (.own (lotL L (tn lo ns))) (.own B) (.val (.int s)) x5 x6 a7 x8 a9 a10 a11 a12 a13 a14 a15 a16 (.val (.int p)) (.val (.int z)) a19 a20 c)) rfl e, show ((s : Int) + 1) = ((s + 1 : Nat) : Int) by omega, e2]
    rw [List.append_assoc, List.range_succ_eq_map, List.map_cons, List.map_map]
    rw [show (fun i => PyData.tuple (rowL (bk z lo hi ns p) p (s + 1 + i))) = (fun i => PyData.tuple (rowL (bk z lo hi ns p) p (s + i))) ∘ Nat.succ from funext fun i => by
      show PyData.tuple (rowL (bk z lo hi ns p) p (s + 1 + i)) = PyData.tuple (rowL (bk z lo hi ns p) p (s + (i + 1)))
      rw [show s + 1 + i = s + (i + 1) by omega]]
    rfl
theorem pc1 {r : Int} {c1 c2 : List Int} (e1 : F__law_roll [dcell, .int 8] c = .ok (.val (.int r)) c1) (e2 : F__law_roll [dcell, .int 3] c1 = .ok (.val (.int (p : Nat))) c2) : rp1 (st21 a1 a2 a3 a4 a5 a6 a7 a8 a9 a10 a11 a12 a13 a14 a15 a16 a17 a18 a19 a20 c) = .nx (st21 a1 a2 a3 a4 a5 a6 a7 a8 a9 a10 a11 a12 a13 a14 a15 a16 (.val (.int (p : Nat))) (.val (.int (1 + r))) a19 a20 c2) := by
  unfold rp1
  generalize ((p : Nat) : Int) = PP at *
  simp -implicitDefEqProofs [eVar_val, callR_mk e1, callR_mk e2]
theorem pc2 {c1 c2 : List Int} (e1 : F__law_weather [dcell, .int 3, .int 4, .int 2] c = .ok (.val (weD lo hi)) c1) (e2 : F__law_row [dcell, .int 2, .int 6] c1 = .ok (.val (rowD ns)) c2) : rp2 (st21 a1 a2 a3 a4 a5 a6 a7 a8 a9 a10 a11 a12 a13 a14 a15 a16 a17 a18 a19 a20 c) = .nx (st21 a1 a2 a3 a4 a5 a6 a7 a8 a9 a10 a11 a12 a13 a14 a15 (.val (rowD ns)) a17 a18 (.val (weD lo hi)) a20 c2) := by
  unfold rp2
  generalize weD lo hi = WD at *
  generalize rowD ns = NS at *
  simp -implicitDefEqProofs [eVar_val, callR_mk e1, callR_mk e2]
theorem pc3 (W : Sz z lo hi ns p) (e : F__law_lot [.int z, weD lo hi, rowD ns, .int p] c = .ok (.own (lotL L (tn lo ns))) c) : rp3 (st21 a1 a2 a3 a4 a5 a6 a7 a8 a9 a10 a11 a12 a13 a14 a15 (.val (rowD ns)) (.val (.int p)) (.val (.int z)) (.val (weD lo hi)) a20 c) =
    .nx (st21 (.val (.int (tn lo ns : Nat))) (.own (lotL L (tn lo ns))) a3 a4 a5 a6 a7 a8 a9 a10 a11 a12 a13 a14 a15 (.val (rowD ns)) (.val (.int p)) (.val (.int z)) (.val (weD lo hi)) a20 c) := by
  have e1 := turn_eq (c := c) (a := lo.length) (b := ns.length) (by have := W.ll; omega) W.P.n.1 (by have := W.nl; omega)
  change F__law_turn [.int lo.length, .int ns.length] c = .ok (.val (.int ((tn lo ns : Nat) : Int))) c at e1
  have w0 : atI [rowD lo, rowD hi] 0 = some (rowD lo) := rfl
  have n0 : ((lo.map PyData.int).length : Int) = lo.length := by rw [List.length_map]
  have n2 : ((ns.map PyData.int).length : Int) = ns.length := by rw [List.length_map]
  unfold rp3
  dsimp only [st21]
  generalize lotL L (tn lo ns) = LL at *
  unfold weD rowD at *
  generalize lo.map PyData.int = LO at *
  generalize hi.map PyData.int = HI at *
  generalize ns.map PyData.int = NS at *
  generalize (lo.length : Int) = N0 at *
  generalize (ns.length : Int) = N2 at *
  generalize ((tn lo ns : Nat) : Int) = TT at *
  generalize (p : Int) = PP at *
  simp -implicitDefEqProofs [eVar_val, eIxN_val, eLenN_val, w0, n0, n2, callR_mk e1, callR_mk e]
theorem pc4 : rp4 (st21 a1 a2 a3 a4 a5 a6 a7 a8 a9 a10 a11 a12 a13 a14 a15 a16 a17 a18 a19 a20 c) = .nx (st21 a1 a2 (.own []) a4 a5 a6 a7 a8 a9 a10 a11 a12 a13 a14 a15 a16 a17 a18 a19 a20 c) := by
  unfold rp4
  simp -implicitDefEqProofs
/-- the rows of the book -/
noncomputable def wbL (z : Int) (lo hi ns : List Int) (p : Nat) : List D := (List.range (tn lo ns)).map fun s => .tuple (rowL (bk z lo hi ns p) p s)
theorem pc5 (W : Sz z lo hi ns p) (K : LotOk z lo hi ns p (tn lo ns) L) : ∃ y4 y5 y6 y8, rp5 (st21 (.val (.int (tn lo ns : Nat))) (.own (lotL L (tn lo ns))) (.own []) a4 a5 a6 a7 a8 a9 a10 a11 a12 a13 a14 a15 a16 (.val (.int p)) (.val (.int z)) a19 a20 c) =
    .nx (st21 (.val (.int (tn lo ns : Nat))) (.own (lotL L (tn lo ns))) (.own (wbL z lo hi ns p)) y4 y5 y6 a7 y8 a9 a10 a11 a12 a13 a14 a15 a16 (.val (.int p)) (.val (.int z)) a19 a20 c) := by
  have hT := tn6 W.ll W.nl
  obtain ⟨y4, y5, y6, y8, e⟩ := row_l (c := c) (a1 := .val (.int (tn lo ns : Nat))) (a7 := a7) (a9 := a9) (a10 := a10) (a11 := a11) (a12 := a12) (a13 := a13) (a14 := a14) (a15 := a15) (a16 := a16) (a19 := a19) (a20 := a20) W K (tn lo ns) 0 [] a4 a5 a6 a8 (by omega) (by simp only [List.length_nil]; omega)
  rw [List.nil_append] at e
  have er : (List.range (tn lo ns)).map (fun i => PyData.tuple (rowL (bk z lo hi ns p) p (0 + i))) = wbL z lo hi ns p := by
    unfold wbL
    refine List.map_congr_left fun i _ => ?_
    rw [Nat.zero_add]
  rw [er] at e
  have r := fun st => rng1K_int (j := ((tn lo ns : Nat) : Int)) (s := st) (by omega) (by omega)
  rw [show (((tn lo ns : Nat) : Int)).toNat = tn lo ns by omega] at r
  change forL _ _ (rangeD 0 (tn lo ns)) _ = _ at e
  refine ⟨y4, y5, y6, y8, ?_⟩
  unfold rp5
  dsimp only [st21] at *
  generalize wbL z lo hi ns p = WB at *
  generalize rangeD 0 (tn lo ns) = RG at *
  generalize lotL L (tn lo ns) = LL at *
  generalize ((tn lo ns : Nat) : Int) = TT at *
  generalize (p : Int) = PP at *
  simp -implicitDefEqProofs [eVar_val, r, e]
theorem optD_sh (b : Option Int) : Sh 0 (optD b) := by cases b with
  | none => exact Sh.none
  | some x => exact Sh.int
theorem wbL_sh : Sh 2 (.tuple (wbL z lo hi ns p)) := Sh.tup (k := 1) fun x hx => by
  obtain ⟨s, _, rfl⟩ := List.mem_map.mp hx
  refine Sh.tup (k := 0) fun y hy => ?_
  obtain ⟨a, _, rfl⟩ := List.mem_map.mp hy
  exact optD_sh _
theorem pc6 (W : Sz z lo hi ns p) : rp6 (st21 a1 a2 (.own (wbL z lo hi ns p)) a4 a5 a6 a7 a8 a9 a10 a11 a12 a13 a14 a15 (.val (rowD ns)) (.val (.int p)) (.val (.int z)) (.val (weD lo hi)) a20 c) = .nx (st21 a1 a2 (.val (.list (wbL z lo hi ns p))) a4 a5 a6 a7 a8 a9 a10 a11 a12 a13 a14 a15 (.val (rowD ns)) (.val (.int p)) (.val (.int z)) (.val (weD lo hi)) a20 c) := by
  have e := whole_book_eq (c := c) W.P
  rw [show wbD z lo hi ns p = .tuple (wbL z lo hi ns p) from rfl] at e
  have ne := neD_self (wbL_sh (z := z) (lo := lo) (hi := hi) (ns := ns) (p := p))
  have hT := tn6 W.ll W.nl
  have tb : tupB [.list (wbL z lo hi ns p)] = some (.val (.tuple (wbL z lo hi ns p))) := tupB_list (by unfold wbL; rw [List.length_map, List.length_range, sizeLine_eq]; omega)
  unfold rp6
  dsimp only [st21]
  generalize wbL z lo hi ns p = WB at *
  generalize weD lo hi = WD at *
  generalize rowD ns = NS at *
  generalize (p : Int) = PP at *
  simp -implicitDefEqProofs [eVar_val, eVar_own, callR_mk e, tb, ne]
theorem pc7 {h : Int} {c1 c2 c3 : List Int} (e1 : F__law_roll [dcell, .int 1000000] c = .ok (.val (.int (s : Nat))) c1) (e2 : F__law_roll [dcell, .int ((p : Int) + 1)] c1 = .ok (.val (.int (a : Nat))) c2) (e3 : F__law_roll [dcell, .int (z + 1)] c2 = .ok (.val (.int h)) c3) :
    rp7 (st21 a1 a2 a3 a4 a5 a6 a7 a8 a9 a10 a11 a12 a13 a14 a15 a16 (.val (.int p)) (.val (.int z)) a19 a20 c) = .nx (st21 a1 a2 a3 (.val (.int (s : Nat))) a5 (.val (.int (a : Nat))) a7 a8 (.val (.int h)) a10 a11 a12 a13 a14 a15 a16 (.val (.int p)) (.val (.int z)) a19 a20 c3) := by
  have pw : powD (.int 10) (.int 6) = some (.val (.int 1000000)) := rfl
  unfold rp7
  dsimp only [st21]
  generalize (p : Int) = PP at *
  generalize ((s : Nat) : Int) = SS at *
  generalize ((a : Nat) : Int) = AA at *
  simp -implicitDefEqProofs [eVar_val, pw, callR_mk e1, callR_mk e2, callR_mk e3]
theorem wbL_at (P : Px z lo hi ns p) (s : Nat) : atI (wbL z lo hi ns p) ((s % tn lo ns : Nat) : Int) = some (.tuple (rowL (bk z lo hi ns p) p s)) := by
  refine atI_nat ?_
  unfold wbL
  rw [List.getElem?_map, List.getElem?_range (Nat.mod_lt _ (rw_of P).T0), Option.map_some]
  congr 2
  unfold rowL
  refine List.map_congr_left fun a _ => ?_
  show optD (bk z lo hi ns p (s % tn lo ns) a) = _
  rw [bk_mod P]
theorem pc8 (W : Sz z lo hi ns p) (hs : s ≤ 1000000000000) (ha : a ≤ p) : rp8 (st21 (.val (.int (tn lo ns : Nat))) a2 (.val (.list (wbL z lo hi ns p))) (.val (.int (s : Nat))) a5 (.val (.int (a : Nat))) a7 a8 a9 a10 a11 a12 a13 a14 a15 (.val (rowD ns)) (.val (.int p)) (.val (.int z)) (.val (weD lo hi)) a20 c) =
    .nx (st21 (.val (.int (tn lo ns : Nat))) a2 (.val (.list (wbL z lo hi ns p))) (.val (.int (s : Nat))) a5 (.val (.int (a : Nat))) a7 a8 a9 a10 a11 a12 a13 a14 a15 (.val (rowD ns)) (.val (.int p)) (.val (.int z)) (.val (weD lo hi)) a20 c) := by
  have e := enough_eq (c := c) W.P hs ha
  have T0 := (rw_of W.P).T0
  have w := wbL_at W.P s
  have w2 := atI_nat (rowL_at (B := bk z lo hi ns p) (s := s) ha)
  have md : modD (.int (s : Int)) (.int ((tn lo ns : Nat) : Int)) = some (.val (.int ((s % tn lo ns : Nat) : Int))) := by rw [Int.natCast_emod]; exact modD_ii (by omega)
  have ne := neD_self (optD_sh (bk z lo hi ns p s a))
  unfold rp8
  dsimp only [st21]
  generalize ((s % tn lo ns : Nat) : Int) = M at *
  generalize ((tn lo ns : Nat) : Int) = TT at *
  generalize rowL (bk z lo hi ns p) p s = RW at *
  generalize optD (bk z lo hi ns p s a) = OB at *
  generalize wbL z lo hi ns p = WB at *
  generalize weD lo hi = WD at *
  generalize rowD ns = NS at *
  generalize (p : Int) = PP at *
  generalize ((s : Nat) : Int) = SS at *
  generalize ((a : Nat) : Int) = AA at *
  simp -implicitDefEqProofs [eVar_val, eIxN_val, callR_mk e, md, w, w2, ne]
theorem pc9 (W : Sz z lo hi ns p) : rp9 (st21 (.val (.int (tn lo ns : Nat))) (.own (lotL L (tn lo ns))) a3 (.val (.int (s : Nat))) a5 a6 a7 a8 a9 a10 a11 a12 a13 a14 a15 (.val (rowD ns)) a17 a18 a19 a20 c) =
    .nx (st21 (.val (.int (tn lo ns : Nat))) (.own (lotL L (tn lo ns))) a3 (.val (.int (s : Nat))) a5 a6 a7 a8 a9 (.val (.list ((L ((s + 1) % tn lo ns)).map pairDI))) (.val (.int (am ns s))) (.own []) a13 a14 a15 (.val (rowD ns)) a17 a18 a19 a20 c) := by
  have T0 := (rw_of W.P).T0
  have b1 := atI_nat (lotL_at (L := L) (Nat.mod_lt (s + 1) T0))
  have md : modD (.int ((s : Int) + 1)) (.int ((tn lo ns : Nat) : Int)) = some (.val (.int (((s + 1) % tn lo ns : Nat) : Int))) := by
    rw [Int.natCast_emod, show ((s + 1 : Nat) : Int) = (s : Int) + 1 by omega]
    exact modD_ii (by omega)
  have m2 := am_at (ns := ns) W.P.n.1 s
  have d2 := modD_ii (i := (s : Int)) (j := (ns.length : Int)) (by have := W.P.n.1; omega)
  have n2 : ((ns.map PyData.int).length : Int) = ns.length := by rw [List.length_map]
  unfold rp9
  dsimp only [st21]
  unfold rowD at *
  generalize (L ((s + 1) % tn lo ns)).map pairDI = LN at *
  generalize (((s + 1) % tn lo ns : Nat) : Int) = M at *
  generalize lotL L (tn lo ns) = LL at *
  generalize ((tn lo ns : Nat) : Int) = TT at *
  generalize am ns s = N at *
  generalize ns.map PyData.int = NS at *
  generalize (ns.length : Int) = N2 at *
  generalize ((s : Nat) : Int) = SS at *
  simp -implicitDefEqProofs [eVar_val, eIxN_val, eIxN_own, eLenN_val, b1, md, m2, d2, n2]
theorem pc10 {h n : Int} {ps : List (Int × Int)} {w : Bool} (hw : w = true ↔ n ≤ h ∧ (h - n, (0 : Int)) ∈ ps) : rp10 (st21 a1 a2 a3 a4 a5 a6 a7 a8 (.val (.int h)) (.val (.list (ps.map pairDI))) (.val (.int n)) (.own []) a13 a14 a15 a16 a17 a18 a19 a20 c) =
    .nx (st21 a1 a2 a3 a4 a5 a6 a7 a8 (.val (.int h)) (.val (.list (ps.map pairDI))) (.val (.int n)) (.own (if w = true then [.str "water"] else [])) a13 a14 a15 a16 a17 a18 a19 a20 c) := by
  have hsz := sizeLine_eq
  have i := in_pairs (q := (h - n, 0)) (ps := ps)
  change inD (.tuple [.int (h - n), .int 0]) _ = _ at i
  have sl : (0 : Nat) < sizeLine := by omega
  unfold rp10
  dsimp only [st21]
  generalize ps.map pairDI = PS at *
  by_cases k1 : n ≤ h
  · by_cases k2 : (h - n, (0 : Int)) ∈ ps
    · have : w = true := hw.mpr ⟨k1, k2⟩
      subst this
      rw [decide_eq_true k2] at i
      simp -implicitDefEqProofs [eVar_val, k1, i, dApp_own, sl]
    · have : w = false := by cases w with
        | false => rfl
        | true => exact absurd (hw.mp rfl).2 k2
      subst this
      rw [decide_eq_false k2] at i
      simp -implicitDefEqProofs [eVar_val, k1, i]
  · have : w = false := by cases w with
      | false => rfl
      | true => exact absurd (hw.mp rfl).1 k1
    subst this
    simp -implicitDefEqProofs [eVar_val, k1]
theorem pc11 {h : Int} {ps : List (Int × Int)} {D1 : List D} {v : Bool} (hD : D1.length ≤ 1) (hv : v = true ↔ a < p ∧ (h, (a : Int) + 1) ∈ ps) : rp11 (st21 a1 a2 a3 a4 a5 (.val (.int (a : Nat))) a7 a8 (.val (.int h)) (.val (.list (ps.map pairDI))) a11 (.own D1) a13 a14 a15 a16 (.val (.int p)) a18 a19 a20 c) =
    .nx (st21 a1 a2 a3 a4 a5 (.val (.int (a : Nat))) a7 a8 (.val (.int h)) (.val (.list (ps.map pairDI))) a11 (.own (D1 ++ if v = true then [.str "wait"] else [])) a13 a14 a15 a16 (.val (.int p)) a18 a19 a20 c) := by
  have hsz := sizeLine_eq
  have i := in_pairs (q := (h, (a : Int) + 1)) (ps := ps)
  change inD (.tuple [.int h, .int ((a : Int) + 1)]) _ = _ at i
  have sl : D1.length < sizeLine := by omega
  have hc : a < p ↔ (a : Int) < (p : Int) := by omega
  rw [hc] at hv
  clear hc
  unfold rp11
  dsimp only [st21]
  generalize ps.map pairDI = PS at *
  generalize ((a : Nat) : Int) = AA at *
  generalize (p : Int) = PP at *
  by_cases k1 : AA < PP
  · by_cases k2 : (h, AA + 1) ∈ ps
    · have : v = true := hv.mpr ⟨k1, k2⟩
      subst this
      rw [decide_eq_true k2] at i
      simp -implicitDefEqProofs [eVar_val, k1, i, dApp_own, sl]
    · have : v = false := by cases v with
        | false => rfl
        | true => exact absurd (hv.mp rfl).2 k2
      subst this
      rw [decide_eq_false k2] at i
      simp -implicitDefEqProofs [eVar_val, k1, i]
  · have : v = false := by cases v with
      | false => rfl
      | true => exact absurd (hv.mp rfl).1 k1
    subst this
    simp -implicitDefEqProofs [eVar_val, k1]
theorem pc12 (W : Sz z lo hi ns p) {h : Int} (hs : s ≤ 1000000000000) (ha : a ≤ p) (h0 : 0 ≤ h) (h1 : h ≤ z) {w v : Bool} (hw : w = true ↔ am ns s ≤ h ∧ gf z lo hi ns p (s + 1) 0 (h - am ns s)) (hv : v = true ↔ a < p ∧ gf z lo hi ns p (s + 1) (a + 1) h) :
    ∃ y12, rp12 (st21 a1 a2 a3 (.val (.int (s : Nat))) a5 (.val (.int (a : Nat))) a7 a8 (.val (.int h)) a10 a11 (.own ((if w = true then [.str "water"] else []) ++ if v = true then [.str "wait"] else [])) a13 a14 a15 (.val (rowD ns)) (.val (.int p)) (.val (.int z)) (.val (weD lo hi)) a20 c) =
    .nx (st21 a1 a2 a3 (.val (.int (s : Nat))) a5 (.val (.int (a : Nat))) a7 a8 (.val (.int h)) a10 a11 y12 a13 a14 a15 (.val (rowD ns)) (.val (.int p)) (.val (.int z)) (.val (weD lo hi)) a20 c) := by
  have e := may_water_eq (c := c) W.P hs ha h0 h1 hw hv
  have hsz := sizeLine_eq
  have hl : ((if w = true then [PyData.str "water"] else []) ++ (if v = true then [PyData.str "wait"] else [])).length ≤ 2 := by cases w <;> cases v <;> simp
  have sh : Sh 1 (.tuple ((if w = true then [PyData.str "water"] else []) ++ (if v = true then [PyData.str "wait"] else []))) := by
    cases w <;> cases v <;> exact ⟨by decide +kernel, by decide +kernel⟩
  have ne := neD_self sh
  generalize ((if w = true then [PyData.str "water"] else []) ++ (if v = true then [PyData.str "wait"] else [])) = DU at *
  have tb : tupB [.list DU] = some (.val (.tuple DU)) := tupB_list (by omega)
  refine ⟨.val (.list DU), ?_⟩
  unfold rp12
  dsimp only [st21]
  generalize weD lo hi = WD at *
  generalize rowD ns = NS at *
  generalize ((s : Nat) : Int) = SS at *
  generalize ((a : Nat) : Int) = AA at *
  generalize (p : Int) = PP at *
  simp -implicitDefEqProofs [eVar_val, eVar_own, callR_mk e, tb, ne]
end
end K10

set_option Elab.async false
set_option linter.all false
set_option maxRecDepth 100000
set_option maxHeartbeats 4000000
/-! K10m17: _law_right, how long, the least tub, what is refused. -/
namespace K10
open PySem PySem.Spec L2 DL
open PyProof.Rows hiding St
section
variable {z l : Int} {lo hi ns : List Int} {p s a : Nat} {L : Lt} {c c' : List Int} {a1 a2 a3 a4 a5 a6 a7 a8 a9 a10 a11 a12 a13 a14 a15 a16 a17 a18 a19 a20 : Sl}
theorem pc13 {c1 : List Int} (e1 : F__law_roll [dcell, .int (z + 1)] c = .ok (.val (.int l)) c1) : rp13 (st21 a1 a2 a3 a4 a5 a6 a7 a8 a9 a10 a11 a12 a13 a14 a15 a16 a17 (.val (.int z)) a19 a20 c) = .nx (st21 a1 a2 a3 a4 a5 a6 (.val (.int l)) a8 a9 a10 a11 a12 a13 a14 a15 a16 a17 (.val (.int z)) a19 a20 c1) := by
  unfold rp13
  simp -implicitDefEqProofs [eVar_val, callR_mk e1]
theorem lot_0 (P : Px z lo hi ns p) : atI (lotL L (tn lo ns)) 0 = some (.list ((L 0).map pairDI)) := atI_nat (lotL_at (rw_of P).T0)
/-- how long it lives: the three statements at once -/
theorem pc14 (W : Sz z lo hi ns p) (K : LotOk z lo hi ns p (tn lo ns) L) (ha : a ≤ p) (h0 : 0 ≤ l) (h1 : l ≤ z) : ∃ d : D, rp14 (st21 a1 (.own (lotL L (tn lo ns))) a3 a4 a5 (.val (.int (a : Nat))) (.val (.int l)) a8 a9 a10 a11 a12 a13 a14 a15 (.val (rowD ns)) (.val (.int p)) (.val (.int z)) (.val (weD lo hi)) a20 c) =
      .nx (st21 a1 (.own (lotL L (tn lo ns))) a3 a4 a5 (.val (.int (a : Nat))) (.val (.int l)) a8 a9 a10 a11 a12 (.val d) a14 a15 (.val (rowD ns)) (.val (.int p)) (.val (.int z)) (.val (weD lo hi)) a20 c) ∧
    rp15 (st21 a1 (.own (lotL L (tn lo ns))) a3 a4 a5 (.val (.int (a : Nat))) (.val (.int l)) a8 a9 a10 a11 a12 (.val d) a14 a15 (.val (rowD ns)) (.val (.int p)) (.val (.int z)) (.val (weD lo hi)) a20 c) =
      .nx (st21 a1 (.own (lotL L (tn lo ns))) a3 a4 a5 (.val (.int (a : Nat))) (.val (.int l)) a8 a9 a10 a11 a12 (.val d) a14 a15 (.val (rowD ns)) (.val (.int p)) (.val (.int z)) (.val (weD lo hi)) a20 c) ∧
    rp16 (st21 a1 (.own (lotL L (tn lo ns))) a3 a4 a5 (.val (.int (a : Nat))) (.val (.int l)) a8 a9 a10 a11 a12 (.val d) a14 a15 (.val (rowD ns)) (.val (.int p)) (.val (.int z)) (.val (weD lo hi)) a20 c) =
      .nx (st21 a1 (.own (lotL L (tn lo ns))) a3 a4 a5 (.val (.int (a : Nat))) (.val (.int l)) a8 a9 a10 a11 a12 (.val d) a14 a15 (.val (rowD ns)) (.val (.int p)) (.val (.int z)) (.val (weD lo hi)) a20 c) := by
  obtain ⟨q1, q2⟩ := dying_eq W.P ha h0 h1
  have l0 := lot_0 (L := L) W.P
  have i := in_pairs (q := (l, (a : Int))) (ps := L 0)
  have hm := K.gf 0 a l (rw_of W.P).T0
  change inD (.tuple [.int l, .int (a : Int)]) _ = _ at i
  have w0 : atI [rowD lo, rowD hi] 0 = some (rowD lo) := rfl
  by_cases g : gf z lo hi ns p 0 a l
  · have e := q1 g c
    rw [decide_eq_true (hm.mpr g)] at i
    have nt : neD (.bool true) (.bool true) = some (.val (.bool false)) := by rfl
    refine ⟨.none, ?_, ?_, ?_⟩
    · unfold rp14
      dsimp only [st21]
      generalize lotL L (tn lo ns) = LL at *
      generalize weD lo hi = WD at *
      generalize rowD ns = NS at *
      generalize ((a : Nat) : Int) = AA at *
      generalize (p : Int) = PP at *
      simp -implicitDefEqProofs [eVar_val, callR_mk e]
    · unfold rp15
      dsimp only [st21]
      generalize (L 0).map pairDI = L0 at *
      generalize lotL L (tn lo ns) = LL at *
      generalize weD lo hi = WD at *
      generalize rowD ns = NS at *
      generalize ((a : Nat) : Int) = AA at *
      generalize (p : Int) = PP at *
      simp -implicitDefEqProofs [eVar_val, eIxN_own, l0, i, nt]
    · unfold rp16
      dsimp only [st21]
      generalize lotL L (tn lo ns) = LL at *
      generalize weD lo hi = WD at *
      generalize rowD ns = NS at *
      generalize ((a : Nat) : Int) = AA at *
      generalize (p : Int) = PP at *
      simp -implicitDefEqProofs [eVar_val]
  · obtain ⟨K0, k1, k2, k3, k4, e⟩ := q2 g
    have e := e c
    rw [decide_eq_false fun h => g (hm.mp h)] at i
    have nt : neD (.bool false) (.bool false) = some (.val (.bool false)) := by rfl
    have e2 := longest_eq (c := c) W.P W.z8 W.p2 ha h0 h1 k1 k2 k3 k4
    refine ⟨.int ((K0 : Int) - 1), ?_, ?_, ?_⟩
    · unfold rp14
      dsimp only [st21]
      generalize (K0 : Int) - 1 = KK at *
      generalize lotL L (tn lo ns) = LL at *
      generalize weD lo hi = WD at *
      generalize rowD ns = NS at *
      generalize ((a : Nat) : Int) = AA at *
      generalize (p : Int) = PP at *
      simp -implicitDefEqProofs [eVar_val, callR_mk e]
    · unfold rp15
      dsimp only [st21]
      generalize (K0 : Int) - 1 = KK at *
      generalize (L 0).map pairDI = L0 at *
      generalize lotL L (tn lo ns) = LL at *
      generalize weD lo hi = WD at *
      generalize rowD ns = NS at *
      generalize ((a : Nat) : Int) = AA at *
      generalize (p : Int) = PP at *
      simp -implicitDefEqProofs [eVar_val, eIxN_own, l0, i, nt]
    · unfold rp16
      dsimp only [st21]
      unfold weD at *
      generalize (K0 : Int) - 1 = KK at *
      generalize lotL L (tn lo ns) = LL at *
      generalize rowD lo = LO at *
      generalize rowD hi = HI at *
      generalize rowD ns = NS at *
      generalize ((a : Nat) : Int) = AA at *
      generalize (p : Int) = PP at *
      simp -implicitDefEqProofs [eVar_val, eIxN_val, w0, callR_mk e2]
theorem Sz.one (W : Sz z lo hi ns p) : Px 1 lo hi ns p := ⟨by omega, by omega, W.P.we, W.P.wl, W.P.n, W.P.nl, W.P.p⟩
theorem pc17 {r : Option Int} (e : ∀ c, F_least_tub [weD lo hi, rowD ns, .int p] c = .ok (.val (optD r)) c) : rp17 (st21 a1 a2 a3 a4 a5 a6 a7 a8 a9 a10 a11 a12 a13 a14 a15 (.val (rowD ns)) (.val (.int p)) a18 (.val (weD lo hi)) a20 c) = .nx (st21 a1 a2 a3 a4 a5 a6 a7 a8 a9 a10 a11 a12 a13 (.val (optD r)) a15 (.val (rowD ns)) (.val (.int p)) a18 (.val (weD lo hi)) a20 c) := by
  have e := e c
  unfold rp17
  dsimp only [st21]
  generalize optD r = OR at *
  generalize weD lo hi = WD at *
  generalize rowD ns = NS at *
  generalize (p : Int) = PP at *
  simp -implicitDefEqProofs [eVar_val, callR_mk e]
theorem lot_in (W : Sz z lo hi ns p) {m : Int} (h1 : 1 ≤ m) (h2 : m ≤ 20) : ∃ LL : List D, F__law_lot [.int m, weD lo hi, rowD ns, .int p] c = .ok (.own LL) c ∧ ∃ L0 : List D, atI LL 0 = some (.list L0) ∧ ∀ b : Bool, (b = true ↔ lv lo hi ns p m) → inD (.tuple [.int m, .int 0]) (.list L0) = some (.val (.bool b)) ∧ ninD (.tuple [.int m, .int 0]) (.list L0) = some (.val (.bool (!b))) := by
  obtain ⟨L, K, e⟩ := W.lot (c := c) h1 h2
  have P : Px m lo hi ns p := ⟨h1, by omega, W.P.we, W.P.wl, W.P.n, W.P.nl, W.P.p⟩
  refine ⟨lotL L (tn lo ns), e, (L 0).map pairDI, lot_0 P, fun b hb => ?_⟩
  have i := in_pairs (q := (m, 0)) (ps := L 0)
  have hm := K.gf 0 0 m (rw_of P).T0
  have eb : decide ((m, (0 : Int)) ∈ L 0) = b := by
    have q : (m, (0 : Int)) ∈ L 0 ↔ lv lo hi ns p m := hm.trans ⟨fun g => ⟨m, g⟩, lv_full⟩
    cases b with
    | true => exact decide_eq_true (q.mpr (hb.mp rfl))
    | false => exact decide_eq_false fun h => by have := hb.mpr (q.mp h); cases this
  rw [eb] at i
  refine ⟨i, ?_⟩
  have i : (inB (.tuple [.int m, .int 0]) (.list ((L 0).map pairDI))).map (fun b => Sl.val (.bool b)) = some (.val (.bool b)) := i
  rw [Option.map_eq_some_iff] at i
  obtain ⟨b', h3, h4⟩ := i
  injection h4 with h4
  injection h4 with h4
  subst h4
  show (inB _ _).map _ = _
  rw [h3]
  rfl
theorem pc18 (W : Sz z lo hi ns p) {r : Option Int} (r1 : r = none → ∀ y, 1 ≤ y → y ≤ 200 → ¬ lv lo hi ns p y) (r2 : ∀ x, r = some x → 1 ≤ x ∧ x ≤ 200 ∧ lv lo hi ns p x ∧ ∀ y, 1 ≤ y → y < x → ¬ lv lo hi ns p y) :
    rp18 (st21 a1 a2 a3 a4 a5 a6 a7 a8 a9 a10 a11 a12 a13 (.val (optD r)) a15 (.val (rowD ns)) (.val (.int p)) a18 (.val (weD lo hi)) a20 c) = .nx (st21 a1 a2 a3 a4 a5 a6 a7 a8 a9 a10 a11 a12 a13 (.val (optD r)) a15 (.val (rowD ns)) (.val (.int p)) a18 (.val (weD lo hi)) a20 c) := by
  obtain ⟨LL, e, L0, at0, ib⟩ := lot_in (c := c) W (m := 20) (by omega) (by omega)
  cases r with
  | none =>
    have i := (ib false ⟨fun h => (by cases h), fun h => absurd h (r1 rfl 20 (by omega) (by omega))⟩).1
    unfold rp18
    dsimp only [st21, optD]
    generalize weD lo hi = WD at *
    generalize rowD ns = NS at *
    generalize (p : Int) = PP at *
    simp -implicitDefEqProofs [eVar_val, callR_mk e, at0, i]
  | some x =>
    obtain ⟨x1, x2, x3, x4⟩ := r2 x rfl
    by_cases h : x ≤ 20
    · obtain ⟨LX, ex, LX0, atx, ibx⟩ := lot_in (c := c) W x1 h
      have ix := (ibx true ⟨fun _ => x3, fun _ => rfl⟩).2
      have hx : ¬ (20 : Int) < x := by omega
      by_cases h1 : 1 < x
      · obtain ⟨LY, ey, LY0, aty, iby⟩ := lot_in (c := c) W (m := x - 1) (by omega) (by omega)
        have iy := (iby false ⟨fun h => (by cases h), fun h => absurd h (x4 (x - 1) (by omega) (by omega))⟩).1
        unfold rp18
        dsimp only [st21, optD]
        generalize weD lo hi = WD at *
        generalize rowD ns = NS at *
        generalize (p : Int) = PP at *
        simp -implicitDefEqProofs [eVar_val, hx, h1, callR_mk ex, atx, ix, callR_mk ey, aty, iy]
      · unfold rp18
        dsimp only [st21, optD]
        generalize weD lo hi = WD at *
        generalize rowD ns = NS at *
        generalize (p : Int) = PP at *
        simp -implicitDefEqProofs [eVar_val, hx, h1, callR_mk ex, atx, ix]
    · have i := (ib false ⟨fun h => (by cases h), fun g => absurd g (x4 20 (by omega) (by omega))⟩).1
      have hx : (20 : Int) < x := by omega
      unfold rp18
      dsimp only [st21, optD]
      generalize weD lo hi = WD at *
      generalize rowD ns = NS at *
      generalize (p : Int) = PP at *
      simp -implicitDefEqProofs [eVar_val, hx, callR_mk e, at0, i]

/-! ### what is refused -/
theorem np1 {x y w : D} : F_need_plant [.int 201, x, y, w] c = .er (bad "size") c := by
  have es : startS 4 [.int 201, x, y, w] c = ⟨[.val (.int 201), .val x, .val y, .val w], c⟩ := rfl
  have e1 := need_integer_eq (c := c) (v := 201) (lo := 1) (hi := 200) (x := "size") (by decide)
  rw [if_pos (by decide)] at e1
  rw [F_need_plant, fnD_eq, es]
  unfold d_need_plant
  simp -implicitDefEqProofs [eVar_val, callR_me e1]
theorem np2 {y w : D} (h1 : 1 ≤ z) (h2 : z ≤ 200) : F_need_plant [.int z, .none, y, w] c = .er (bad "weather") c := by
  have es : startS 4 [.int z, .none, y, w] c = ⟨[.val (.int z), .val .none, .val y, .val w], c⟩ := rfl
  have e1 := need_integer_eq (c := c) (v := z) (lo := 1) (hi := 200) (x := "size") (by decide)
  rw [if_neg (by omega)] at e1
  have e2 : F_need_weather [.none, .str "weather"] c = .er (bad "weather") c := rfl
  rw [F_need_plant, fnD_eq, es]
  unfold d_need_plant
  simp -implicitDefEqProofs [eVar_val, callR_mk e1, callR_me e2]
abbrev r13 : List Int := List.replicate 13 1
theorem r13_ok : RowOk r13 := ⟨by decide, by decide, fun y hy => by rw [(List.mem_replicate.mp hy).2]; decide⟩
theorem w13_ok : WeOk r13 r13 := ⟨r13_ok, r13_ok, rfl, fun q hq => by
  have : q = (1, 1) := by
    have e : r13.zip r13 = List.replicate 13 (1, 1) := by decide
    rw [e] at hq
    exact (List.mem_replicate.mp hq).2
  rw [this]
  decide⟩
theorem np3 {w : D} (W : Sz z lo hi ns p) : F_need_plant [.int z, weD lo hi, rowD r13, w] c = .er (bad "needs") c := by
  have es : startS 4 [.int z, weD lo hi, rowD r13, w] c = ⟨[.val (.int z), .val (weD lo hi), .val (rowD r13), .val w], c⟩ := rfl
  have P := W.P
  have e1 := need_integer_eq (c := c) (v := z) (lo := 1) (hi := 200) (x := "size") (by decide)
  rw [if_neg (by have := P.z1; have := P.z2; omega)] at e1
  have e2 := need_weather_eq (c := c) (x := "weather") P.we
  have e3 := need_row_eq (c := c) (x := "needs") r13_ok
  have h1 : ¬ (12 : Int) < (lo.map PyData.int).length := by rw [List.length_map]; have := P.wl; omega
  have h2 : (12 : Int) < (r13.map PyData.int).length := by decide
  unfold weD rowD at *
  rw [F_need_plant, fnD_eq, es]
  generalize hi.map PyData.int = HI at *
  generalize lo.map PyData.int = LO at *
  generalize r13.map PyData.int = NS at *
  have h1' : ¬ 12 < LO.length := by omega
  have h2' : 12 < NS.length := by omega
  have sl : (Str.ofString "needs").length ≤ 1000000 := by decide
  unfold d_need_plant
  simp -implicitDefEqProofs [eVar_val, eIxN_val, eLenN_val, at_0, callR_mk e1, callR_mk e2, callR_mk e3, h1, h2, h1', h2', dRaise_eq, sl]
theorem np4 {v : Int} (W : Sz z lo hi ns p) (hv : v < 0 ∨ 6 < v) (h1 : 1 ≤ z) : F_need_plant [.int z, weD lo hi, rowD ns, .int v] c = .er (bad "patience") c := by
  have es : startS 4 [.int z, weD lo hi, rowD ns, .int v] c = ⟨[.val (.int z), .val (weD lo hi), .val (rowD ns), .val (.int v)], c⟩ := rfl
  have P := W.P
  have e1 := need_integer_eq (c := c) (v := z) (lo := 1) (hi := 200) (x := "size") (by decide)
  rw [if_neg (by have := P.z1; have := P.z2; omega)] at e1
  have e2 := need_weather_eq (c := c) (x := "weather") P.we
  have e3 := need_row_eq (c := c) (x := "needs") P.n
  have e4 := need_integer_eq (c := c) (v := v) (lo := 0) (hi := 6) (x := "patience") (by decide)
  rw [if_pos hv] at e4
  have h1 : ¬ (12 : Int) < (lo.map PyData.int).length := by rw [List.length_map]; have := P.wl; omega
  have h2 : ¬ (12 : Int) < (ns.map PyData.int).length := by rw [List.length_map]; have := P.nl; omega
  unfold weD rowD at *
  rw [F_need_plant, fnD_eq, es]
  generalize hi.map PyData.int = HI at *
  generalize lo.map PyData.int = LO at *
  generalize ns.map PyData.int = NS at *
  have h1' : LO.length ≤ 12 := by omega
  have h2' : NS.length ≤ 12 := by omega
  unfold d_need_plant
  simp -implicitDefEqProofs [eVar_val, eIxN_val, eLenN_val, at_0, callR_mk e1, callR_mk e2, callR_mk e3, callR_me e4, h1, h2, h1', h2']
theorem np5 {y w : D} (h1 : 1 ≤ z) (h2 : z ≤ 200) : F_need_plant [.int z, weD r13 r13, y, w] c = .er (bad "weather") c := by
  have es : startS 4 [.int z, weD r13 r13, y, w] c = ⟨[.val (.int z), .val (weD r13 r13), .val y, .val w], c⟩ := rfl
  have e1 := need_integer_eq (c := c) (v := z) (lo := 1) (hi := 200) (x := "size") (by decide)
  rw [if_neg (by omega)] at e1
  have e2 := need_weather_eq (c := c) (x := "weather") w13_ok
  have h1 : (12 : Int) < (r13.map PyData.int).length := by decide
  unfold weD rowD at *
  rw [F_need_plant, fnD_eq, es]
  generalize r13.map PyData.int = LO at *
  have h1' : 12 < LO.length := by omega
  have sl : (Str.ofString "weather").length ≤ 1000000 := by decide
  unfold d_need_plant
  simp -implicitDefEqProofs [eVar_val, eIxN_val, eLenN_val, at_0, callR_mk e1, callR_mk e2, h1, h1', dRaise_eq, sl]
theorem rf_en {x y w u v t : D} {b : Str} (e : F_need_plant [x, y, w, u] c = .er (bad b) c) : F_enough [x, y, w, u, v, t] c = .er (bad b) c := by
  have es : startS 7 [x, y, w, u, v, t] c = ⟨[.val x, .val y, .val w, .val u, .val v, .val t, .un], c⟩ := rfl
  rw [F_enough, fnD_eq, es]
  unfold d_enough
  simp -implicitDefEqProofs [eVar_val, callR_me e]
theorem rf5 (W : Sz z lo hi ns p) {t : D} : F_enough [.int z, weD lo hi, rowD ns, .int p, .int (-1), t] c = .er (bad "step") c := by
  have es : startS 7 [.int z, weD lo hi, rowD ns, .int p, .int (-1), t] c = ⟨[.val (.int z), .val (weD lo hi), .val (rowD ns), .val (.int p), .val (.int (-1)), .val t, .un], c⟩ := rfl
  have e1 := need_plant_eq (c := c) W.P
  have e2 := need_integer_eq (c := c) (v := -1) (lo := 0) (hi := 1000000000000) (x := "step") (by decide)
  rw [if_pos (by decide)] at e2
  generalize weD lo hi = WD at *
  generalize rowD ns = NS at *
  generalize (p : Int) = PP at *
  rw [F_enough, fnD_eq, es]
  unfold d_enough
  simp -implicitDefEqProofs [eVar_val, callR_mk e1, callR_me e2]
theorem rf6 (W : Sz z lo hi ns p) : F_enough [.int z, weD lo hi, rowD ns, .int p, .int 0, .int ((p : Int) + 1)] c = .er (bad "age") c := by
  have es : startS 7 [.int z, weD lo hi, rowD ns, .int p, .int 0, .int ((p : Int) + 1)] c = ⟨[.val (.int z), .val (weD lo hi), .val (rowD ns), .val (.int p), .val (.int 0), .val (.int ((p : Int) + 1)), .un], c⟩ := rfl
  have e1 := need_plant_eq (c := c) W.P
  have e2 := need_integer_eq (c := c) (v := 0) (lo := 0) (hi := 1000000000000) (x := "step") (by decide)
  rw [if_neg (by decide)] at e2
  have e3 := need_integer_eq (c := c) (v := (p : Int) + 1) (lo := 0) (hi := (p : Int)) (x := "age") (by decide)
  rw [if_pos (by omega)] at e3
  generalize weD lo hi = WD at *
  generalize rowD ns = NS at *
  generalize (p : Int) + 1 = P1 at *
  generalize (p : Int) = PP at *
  rw [F_enough, fnD_eq, es]
  unfold d_enough
  simp -implicitDefEqProofs [eVar_val, callR_mk e1, callR_mk e2, callR_me e3]
theorem rf7 (W : Sz z lo hi ns p) {w : D} : F_whole_book [.int z, weD r13 r13, rowD ns, w] c = .er (bad "weather") c := by
  have es : startS 5 [.int z, weD r13 r13, rowD ns, w] c = ⟨[.val (.int z), .val (weD r13 r13), .val (rowD ns), .val w, .un], c⟩ := rfl
  have e1 := np5 (z := z) (c := c) (y := rowD ns) (w := w) W.P.z1 W.P.z2
  generalize weD r13 r13 = WD at *
  generalize rowD ns = NS at *
  rw [F_whole_book, fnD_eq, es]
  unfold d_whole_book
  simp -implicitDefEqProofs [eVar_val, callR_me e1]
theorem rf8 (W : Sz z lo hi ns p) : F_may_water [.int z, weD lo hi, rowD ns, .int p, .int 0, .int 0, .int (z + 1)] c = .er (bad "held") c := by
  have es : startS 11 [.int z, weD lo hi, rowD ns, .int p, .int 0, .int 0, .int (z + 1)] c = ⟨[.val (.int z), .val (weD lo hi), .val (rowD ns), .val (.int p), .val (.int 0), .val (.int 0), .val (.int (z + 1)), .un, .un, .un, .un], c⟩ := rfl
  have e1 := need_plant_eq (c := c) W.P
  have e2 := need_integer_eq (c := c) (v := 0) (lo := 0) (hi := 1000000000000) (x := "step") (by decide)
  rw [if_neg (by decide)] at e2
  have e3 := need_integer_eq (c := c) (v := 0) (lo := 0) (hi := (p : Int)) (x := "age") (by decide)
  rw [if_neg (by omega)] at e3
  have e4 := need_integer_eq (c := c) (v := z + 1) (lo := 0) (hi := z) (x := "held") (by decide)
  rw [if_pos (by omega)] at e4
  generalize weD lo hi = WD at *
  generalize rowD ns = NS at *
  generalize (p : Int) = PP at *
  rw [F_may_water, fnD_eq, es]
  unfold d_may_water
  simp -implicitDefEqProofs [eVar_val, callR_mk e1, callR_mk e2, callR_mk e3, callR_me e4]
theorem rf9 (W : Sz z lo hi ns p) {x y w u : D} : F_dying_steps [.int z, .int (z + 1), x, y, w, u] c = .er (bad "level") c := by
  have es : startS 9 [.int z, .int (z + 1), x, y, w, u] c = ⟨[.val (.int z), .val (.int (z + 1)), .val x, .val y, .val w, .val u, .un, .un, .un], c⟩ := rfl
  have e1 := need_integer_eq (c := c) (v := z) (lo := 1) (hi := 200) (x := "size") (by decide)
  rw [if_neg (by have := W.P.z1; have := W.P.z2; omega)] at e1
  have e2 := need_integer_eq (c := c) (v := z + 1) (lo := 0) (hi := z) (x := "level") (by decide)
  rw [if_pos (by omega)] at e2
  rw [F_dying_steps, fnD_eq, es]
  unfold d_dying_steps
  generalize 1000000000000000 = FU
  simp -implicitDefEqProofs [eVar_val, callR_mk e1, callR_me e2]
theorem rf10 (W : Sz z lo hi ns p) : F_dying_steps [.int z, .int 0, weD lo hi, rowD ns, .int p, .bool true] c = .er (bad "age") c := by
  have es : startS 9 [.int z, .int 0, weD lo hi, rowD ns, .int p, .bool true] c = ⟨[.val (.int z), .val (.int 0), .val (weD lo hi), .val (rowD ns), .val (.int p), .val (.bool true), .un, .un, .un], c⟩ := rfl
  have z1 := W.P.z1
  have e1 := need_integer_eq (c := c) (v := z) (lo := 1) (hi := 200) (x := "size") (by decide)
  rw [if_neg (by have := W.P.z2; omega)] at e1
  have e2 := need_integer_eq (c := c) (v := 0) (lo := 0) (hi := z) (x := "level") (by decide)
  rw [if_neg (by omega)] at e2
  have e3 := need_plant_eq (c := c) W.P
  have e4 : F_need_integer [.bool true, .str "age", .int 0, .int p] c = .er (bad "age") c := rfl
  generalize weD lo hi = WD at *
  generalize rowD ns = NS at *
  generalize (p : Int) = PP at *
  rw [F_dying_steps, fnD_eq, es]
  unfold d_dying_steps
  generalize 1000000000000000 = FU
  simp -implicitDefEqProofs [eVar_val, callR_mk e1, callR_mk e2, callR_mk e3, callR_me e4]
theorem rf_tub {x y w : D} {b : Str} (e : F_need_plant [.int 1, x, y, w] c = .er (bad b) c) : F_least_tub [x, y, w] c = .er (bad b) c := by
  have es : startS 6 [x, y, w] c = ⟨[.val x, .val y, .val w, .un, .un, .un], c⟩ := rfl
  rw [F_least_tub, fnD_eq, es]
  unfold d_least_tub
  generalize 1000000000000000 = FU
  simp -implicitDefEqProofs [eVar_val, callR_me e]
theorem np1p (W : Sz z lo hi ns p) : F_need_plant [.int 1, weD lo hi, rowD ns, .int (-1)] c = .er (bad "patience") c := by
  have W1 : Sz 1 lo hi ns p := ⟨W.one, by omega, W.p2, W.ll, W.nl⟩
  exact np4 W1 (.inl (by decide)) (by omega)
def told12 : List D := [.str "size", .str "weather", .str "needs", .str "patience", .str "step", .str "age", .str "weather", .str "held", .str "level", .str "age", .str "weather", .str "patience"]
theorem pc19 (W : Sz z lo hi ns p) : rp19 (st21 a1 a2 a3 a4 a5 a6 a7 a8 a9 a10 a11 a12 a13 a14 a15 (.val (rowD ns)) (.val (.int p)) (.val (.int z)) (.val (weD lo hi)) a20 c) = .nx (st21 a1 a2 a3 a4 a5 a6 a7 a8 a9 a10 a11 a12 a13 a14 (.own told12) (.val (rowD ns)) (.val (.int p)) (.val (.int z)) (.val (weD lo hi)) a20 c) := by
  have m13 : mulD (.tuple [.int 1]) (.int 13) = some (.val (rowD r13)) := by rfl
  have t1 := fun x y w v t => rf_en (c := c) (v := v) (t := t) (np1 (c := c) (x := x) (y := y) (w := w))
  have t2 := fun y w v t => rf_en (c := c) (v := v) (t := t) (np2 (z := z) (c := c) (y := y) (w := w) W.P.z1 W.P.z2)
  have t3 := fun w v t => rf_en (c := c) (v := v) (t := t) (np3 (c := c) (w := w) W)
  have t4 := fun v t => rf_en (c := c) (v := v) (t := t) (np4 (c := c) (v := 7) W (.inr (by decide)) W.P.z1)
  have t5 := fun t => rf5 (c := c) (t := t) W
  have t6 := rf6 (c := c) W
  have t7 := fun w => rf7 (c := c) (w := w) W
  have w7 : weD r13 r13 = .tuple [rowD r13, rowD r13] := rfl
  simp only [w7] at t7
  have t8 := rf8 (c := c) W
  have t9 := fun x y w u => rf9 (c := c) (x := x) (y := y) (w := w) (u := u) W
  have t10 := rf10 (c := c) W
  have t11 := fun y w => rf_tub (c := c) (np2 (z := 1) (c := c) (y := y) (w := w) (by omega) (by omega))
  have t12 := rf_tub (c := c) (np1p (c := c) W)
  unfold rp19 told12
  dsimp only [st21]
  generalize rowD r13 = R13 at *
  generalize weD lo hi = WD at *
  generalize rowD ns = NS at *
  generalize (p : Int) = PP at *
  simp -implicitDefEqProofs [eVar_val, eRef_eq, refK_bad, hide_mk, DL.hide, m13, callR_me (t1 _ _ _ _ _), callR_me (t2 _ _ _ _), callR_me (t3 _ _ _), callR_me (t4 _ _), callR_me (t5 _), callR_me t6, callR_me (t7 _), callR_me t8, callR_me (t9 _ _ _ _), callR_me t10, callR_me (t11 _ _), callR_me t12]
theorem pc20 : rp20 (st21 a1 a2 a3 a4 a5 a6 a7 a8 a9 a10 a11 a12 a13 a14 a15 a16 a17 a18 a19 a20 c) = .nx (st21 a1 a2 a3 a4 a5 a6 a7 a8 a9 a10 a11 (.own told12) a13 a14 a15 a16 a17 a18 a19 a20 c) := by
  unfold rp20 told12
  simp -implicitDefEqProofs
theorem pc21 : rp21 (st21 a1 a2 a3 a4 a5 a6 a7 a8 a9 a10 a11 (.own told12) a13 a14 (.own told12) a16 a17 a18 a19 a20 c) = .rt (.val (.bool true)) c := by
  have hq : eqD (.list told12) (.list told12) = some (.val (.bool true)) := eqD_self (k := 1) ⟨by decide +kernel, by decide +kernel⟩
  unfold rp21
  simp -implicitDefEqProofs [eVar_own, hq]
theorem right_eq (h : Dice 60 c) : ∃ c', F__law_right [dcell] c = .ok (.val (.bool true)) c' := by
  have es : startS 21 [dcell] c = st21 .un .un .un .un .un .un .un .un .un .un .un .un .un .un .un .un .un .un .un .un c := rfl
  obtain ⟨r, c1, e1, r0, r1, h1⟩ := roll (k := 59) (m := 8) h (by omega) (by omega)
  obtain ⟨p0, c2, e2, p0a, p0b, h2⟩ := roll (k := 58) (m := 3) h1 (by omega) (by omega)
  obtain ⟨p, rfl⟩ : ∃ p : Nat, p0 = (p : Int) := ⟨p0.toNat, by omega⟩
  obtain ⟨lo, hi, c3, e3, we, lol, wd, lob, h3⟩ := law_weather2 (k := 48) (size := 3) (most := 4) (wide := 2) h2 (by omega) (by omega) (by omega)
  obtain ⟨ns, c4, e4, n1, n2, n3, h4⟩ := law_row (k := 43) (size := 2) (most := 6) h3 (by omega) (by omega) (by omega) (by omega)
  have N : RowOk ns := ⟨n1, by omega, fun y hy => by have := n3 y hy; omega⟩
  have W : Sz (1 + r) lo hi ns p := ⟨⟨by omega, by omega, we, by omega, N, by omega, by omega⟩, by omega, by omega, lol, n2⟩
  obtain ⟨L, K, eL⟩ := W.lot (c := c4) (m := 1 + r) (by omega) (by omega)
  obtain ⟨s0, c5, e5, s0a, s0b, h5⟩ := roll (k := 42) (m := 1000000) h4 (by omega) (by omega)
  obtain ⟨s, rfl⟩ : ∃ s : Nat, s0 = (s : Int) := ⟨s0.toNat, by omega⟩
  obtain ⟨a0, c6, e6, a0a, a0b, h6⟩ := roll (k := 41) (m := (p : Int) + 1) h5 (by omega) (by omega)
  obtain ⟨a, rfl⟩ : ∃ a : Nat, a0 = (a : Int) := ⟨a0.toNat, by omega⟩
  obtain ⟨x, c7, e7, x0, x1, h7⟩ := roll (k := 40) (m := 1 + r + 1) h6 (by omega) (by omega)
  obtain ⟨l, c8, e8, l0, l1, h8⟩ := roll (k := 39) (m := 1 + r + 1) h7 (by omega) (by omega)
  have ha : a ≤ p := by omega
  have T0 := (rw_of W.P).T0
  -- what may be done
  have gs : ∀ (b : Nat) (y : Int), (y, (b : Int)) ∈ L ((s + 1) % tn lo ns) ↔ gf (1 + r) lo hi ns p (s + 1) b y := fun b y => by
    rw [K.gf _ b y (Nat.mod_lt _ T0)]
    have R := rw_of W.P
    have e : s + 1 = (s + 1) % tn lo ns + tn lo ns * ((s + 1) / tn lo ns) := (Nat.mod_add_div _ _).symm
    conv => rhs; rw [e]
    exact (gf_shift (Nat.dvd_trans R.d1 (Nat.dvd_mul_right _ _)) (Nat.dvd_trans R.d2 (Nat.dvd_mul_right _ _)) (Nat.dvd_trans R.d3 (Nat.dvd_mul_right _ _)) _ _ _).symm
  obtain ⟨w, hw⟩ : ∃ w : Bool, w = true ↔ am ns s ≤ x ∧ (x - am ns s, (0 : Int)) ∈ L ((s + 1) % tn lo ns) := ⟨decide (am ns s ≤ x ∧ (x - am ns s, (0 : Int)) ∈ L ((s + 1) % tn lo ns)), decide_eq_true_iff⟩
  obtain ⟨v, hv⟩ : ∃ v : Bool, v = true ↔ a < p ∧ (x, (a : Int) + 1) ∈ L ((s + 1) % tn lo ns) := ⟨decide (a < p ∧ (x, (a : Int) + 1) ∈ L ((s + 1) % tn lo ns)), decide_eq_true_iff⟩
  have hw2 : w = true ↔ am ns s ≤ x ∧ gf (1 + r) lo hi ns p (s + 1) 0 (x - am ns s) := hw.trans (and_congr_right fun _ => gs 0 _)
  have hv2 : v = true ↔ a < p ∧ gf (1 + r) lo hi ns p (s + 1) (a + 1) x := hv.trans (and_congr_right fun _ => by rw [← gs (a + 1) x, show ((a + 1 : Nat) : Int) = (a : Int) + 1 by omega])
  obtain ⟨lt, elt, lt1, lt2⟩ := least_tub_eq W.one
  rw [F__law_right, fnD_eq, es, rp_eq]
  show Gd _
  refine Gd.sq (pc1 e1 e2) (Gd.sq (pc2 e3 e4) (Gd.sq (pc3 W eL) (Gd.sq pc4 ?_)))
  obtain ⟨y4, y5, y6, y8, e⟩ := pc5 (c := c4) (a4 := .un) (a5 := .un) (a6 := .un) (a7 := .un) (a8 := .un) (a9 := .un) (a10 := .un) (a11 := .un) (a12 := .un) (a13 := .un) (a14 := .un) (a15 := .un) (a16 := .val (rowD ns)) (a19 := .val (weD lo hi)) (a20 := .un) W K
  refine Gd.sq e (Gd.sq (pc6 W) (Gd.sq (pc7 e5 e6 e7) (Gd.sq (pc8 W (by omega) ha) (Gd.sq (pc9 W) (Gd.sq (pc10 hw) (Gd.sq (pc11 (by cases w <;> simp) hv) (Gd.e1 (pc12 W (by omega) ha x0 (by omega) hw2 hv2) fun y12 => ?_)))))))
  obtain ⟨d, q14, q15, q16⟩ := pc14 (c := c8) (a1 := .val (.int (tn lo ns : Nat))) (a3 := .val (.list (wbL (1 + r) lo hi ns p))) (a4 := .val (.int (s : Nat))) (a5 := y5) (a8 := y8) (a9 := .val (.int x)) (a10 := .val (.list ((L ((s + 1) % tn lo ns)).map pairDI))) (a11 := .val (.int (am ns s))) (a12 := y12) (a13 := .un) (a14 := .un) (a15 := .un) (a20 := .un) W K ha l0 (by omega)
  exact Gd.sq (pc13 e8) (Gd.sq q14 (Gd.sq q15 (Gd.sq q16 (Gd.sq (pc17 elt) (Gd.sq (pc18 W lt1 lt2) (Gd.sq (pc19 W) (Gd.sq pc20 (Gd.rt pc21))))))))
end
end K10

set_option Elab.async false
set_option linter.all false
set_option maxRecDepth 100000
set_option maxHeartbeats 4000000
/-! K10m: the plain law. -/
namespace K10
open PySem PySem.Spec L2 DL
open PyProof.Rows hiding St

theorem lcell_eq {ns : List Int} {i : Nat} (hi : i < 5) : d_law_b1 ⟨[.val (dscr (ns.map .int)), .val (.int i)], []⟩ = .nx ⟨[.val (dscr (ns.map .int)), .val (.int i)], []⟩ := by
  obtain ⟨a, b, e⟩ := dice_t (ns := ns) hi
  obtain ⟨c', r⟩ := right_eq (c := [a, b, 0]) ⟨a, b, 0, rfl, by omega, by omega⟩
  have ec : eCell F__law_right (eCall F__law_dice (aCons (eVar 0) (aCons (eVar 1) aNil))) ⟨[.val (dscr (ns.map .int)), .val (.int i)], []⟩ = .ok (.val (.bool true)) ⟨[.val (dscr (ns.map .int)), .val (.int i)], []⟩ := by
    have e2 : eCall F__law_dice (aCons (eVar 0) (aCons (eVar 1) aNil)) ⟨[.val (dscr (ns.map .int)), .val (.int i)], []⟩ = .ok (.own [.int a, .int b, .int 0]) ⟨[.val (dscr (ns.map .int)), .val (.int i)], []⟩ := by
      simp -implicitDefEqProofs [eVar_val, callR_mk e]
    have ei : intsD [.int a, .int b, .int 0] = some [a, b, 0] := rfl
    unfold eCell
    rw [e2]
    simp -implicitDefEqProofs only [ei, r]
  unfold d_law_b1
  simp -implicitDefEqProofs [ec]
theorem lcells {ns : List Int} : ∀ (n t : Nat) (x : Sl), t + n ≤ 5 → ∃ y, forL (gSet 1) d_law_b1 (rangeD t n) ⟨[.val (dscr (ns.map .int)), x], []⟩ = .nx ⟨[.val (dscr (ns.map .int)), y], []⟩
  | 0, t, x, _ => ⟨x, by rw [rangeD_zero, forL_nil]⟩
  | n + 1, t, x, h => by
    obtain ⟨y, e⟩ := lcells (ns := ns) n (t + 1) (.val (.int t)) (by omega)
    refine ⟨y, ?_⟩
    rw [rangeD_succ, forL_nx (by rfl) (lcell_eq (by omega)), show ((t : Int) + 1) = ((t + 1 : Nat) : Int) by omega, e]
theorem plain (ns : List Int) (h1 : ns.length ≤ 63) (h2 : ∀ z ∈ ns, Builtin.Int.intBits z ≤ 1048576) : ∃ c, F_law [dscr (ns.map .int)] [] = .ok (.val (.bool true)) c := by
  have es : startS 2 [dscr (ns.map .int)] [] = ⟨[.val (dscr (ns.map .int)), .un], []⟩ := rfl
  have l : lenB [dscr (ns.map PyData.int)] = some (.val (.int (ns.length))) := by
    simp [lenB, dscr]
  have mn : ∀ i j : Int, minB [.int i, .int j] = some (.val (.int (if j < i then j else i))) := fun _ _ => rfl
  have mx : ∀ i j : Int, maxB [.int i, .int j] = some (.val (.int (if j > i then j else i))) := fun _ _ => rfl
  obtain ⟨k, hk, k5⟩ : ∃ k : Nat, (if (if (ns.length : Int) < 3 then (ns.length : Int) else 3) > 1 then (if (ns.length : Int) < 3 then (ns.length : Int) else 3) else 1) = (k : Int) ∧ k ≤ 5 := by
    refine ⟨(if (if (ns.length : Int) < 3 then (ns.length : Int) else 3) > 1 then (if (ns.length : Int) < 3 then (ns.length : Int) else 3) else 1).toNat, ?_, ?_⟩ <;> split <;> split <;> omega
  obtain ⟨y, e⟩ := lcells (ns := ns) k 0 .un (by omega)
  have r : ∀ st : S, rng1K (.int k) st = .ok (rangeD (0 : Nat) k) st := fun st => by
    rw [rng1K_int (by omega) (by omega), Int.toNat_natCast]
    rfl
  generalize rangeD ((0 : Nat) : Int) k = rg at e r
  have mm : (eB maxB (aCons (eC (.int 1)) (aCons (eB minB (aCons (eC (.int 3)) (aCons (eLenN 0) aNil))) aNil))) ⟨[.val (dscr (ns.map .int)), .un], []⟩ = .ok (.val (.int k)) ⟨[.val (dscr (ns.map .int)), .un], []⟩ := by
    rw [← hk]
    simp only [eB_eq, aCons_eq, aNil_eq, eC_eq, eLenN_val (s := ⟨[.val (dscr (ns.map .int)), .un], []⟩) (i := 0) (d := dscr (ns.map .int)) rfl, l, liftR_val, abind_ok, Sl.d_val, mn, mx]
  generalize (k : Int) = K at mm r
  refine ⟨[], ?_⟩
  rw [F_law, fnD_eq, es]
  unfold d_law
  rw [dSeq_eq, dFor_eq, iRng1_eq, mm, ra_ok, Sl.d_val, r]
  simp -implicitDefEqProofs [e]
end K10

set_option Elab.async false
set_option linter.all false
set_option maxRecDepth 100000
set_option maxHeartbeats 40000000
/-! K10d: the defs of rainkept_k10_whole_patience keep their readings, printed by gen.py. -/
namespace K10
open PySem PySem.Spec L2 DL
open PyProof.Rows hiding St
def top (i : Nat) : Stmt := PySem.Challenge.pw_rainkept_k10_whole_patience.main.body.getD i (.Pass ⟨0, 0, 0, 0⟩)
structure Txt (P : Program) (K : PySem.W.Frag) (mg : Str → Option Value) (C fI : Addr) : Prop where
  bad : BadC K P mg C fI
  mB : mg "BadArgument" = some (.ref C)
  k_MOST_AMOUNT : ∃ t, mg "MOST_AMOUNT" = some (.int 200 t)
  k_MOST_PATIENCE : ∃ t, mg "MOST_PATIENCE" = some (.int 6 t)
  k_MOST_ROW : ∃ t, mg "MOST_ROW" = some (.int 24 t)
  k_MOST_STEP : ∃ t, mg "MOST_STEP" = some (.int 1000000000000 t)
  k_MOST_TUB : ∃ t, mg "MOST_TUB" = some (.int 200 t)
  k_MOST_TURN_ROW : ∃ t, mg "MOST_TURN_ROW" = some (.int 12 t)
  z_abs : mg "abs" = none
  z_all : mg "all" = none
  z_bool : mg "bool" = none
  z_dict : mg "dict" = none
  z_int : mg "int" = none
  z_isinstance : mg "isinstance" = none
  z_len : mg "len" = none
  z_list : mg "list" = none
  z_max : mg "max" = none
  z_min : mg "min" = none
  z_range : mg "range" = none
  z_set : mg "set" = none
  z_sorted : mg "sorted" = none
  z_sum : mg "sum" = none
  z_tuple : mg "tuple" = none
  z_zip : mg "zip" = none
abbrev s_is_integer : Stmt := top 6
abbrev N_is_integer : List Str := ["value"]
theorem sc_is_integer : FnScope N_is_integer ["value"] (defScope s_is_integer) := ⟨rfl, rfl, rfl, by decide +kernel, rfl, by decide +kernel, by decide +kernel⟩
abbrev s_need_integer : Stmt := top 7
abbrev N_need_integer : List Str := ["value", "name", "least", "most"]
theorem sc_need_integer : FnScope N_need_integer ["value", "name", "least", "most"] (defScope s_need_integer) := ⟨rfl, rfl, rfl, by decide +kernel, rfl, by decide +kernel, by decide +kernel⟩
abbrev s_is_row : Stmt := top 8
abbrev N_is_row : List Str := ["value", "one"]
theorem sc_is_row : FnScope N_is_row ["value"] (defScope s_is_row) := ⟨rfl, rfl, rfl, by decide +kernel, rfl, by decide +kernel, by decide +kernel⟩
abbrev s_need_row : Stmt := top 9
abbrev N_need_row : List Str := ["value", "name"]
theorem sc_need_row : FnScope N_need_row ["value", "name"] (defScope s_need_row) := ⟨rfl, rfl, rfl, by decide +kernel, rfl, by decide +kernel, by decide +kernel⟩
abbrev s_common : Stmt := top 10
abbrev N_common : List Str := ["one", "other"]
theorem sc_common : FnScope N_common ["one", "other"] (defScope s_common) := ⟨rfl, rfl, rfl, by decide +kernel, rfl, by decide +kernel, by decide +kernel⟩
abbrev s_least_common : Stmt := top 11
abbrev N_least_common : List Str := ["one", "other"]
theorem sc_least_common : FnScope N_least_common ["one", "other"] (defScope s_least_common) := ⟨rfl, rfl, rfl, by decide +kernel, rfl, by decide +kernel, by decide +kernel⟩
abbrev s_amount_at : Stmt := top 12
abbrev N_amount_at : List Str := ["row", "step"]
theorem sc_amount_at : FnScope N_amount_at ["row", "step"] (defScope s_amount_at) := ⟨rfl, rfl, rfl, by decide +kernel, rfl, by decide +kernel, by decide +kernel⟩
abbrev s_turn_of : Stmt := top 13
abbrev N_turn_of : List Str := ["rains", "needs"]
theorem sc_turn_of : FnScope N_turn_of ["rains", "needs"] (defScope s_turn_of) := ⟨rfl, rfl, rfl, by decide +kernel, rfl, by decide +kernel, by decide +kernel⟩
abbrev s_is_weather : Stmt := top 15
abbrev N_is_weather : List Str := ["value", "one", "low", "high"]
theorem sc_is_weather : FnScope N_is_weather ["value"] (defScope s_is_weather) := ⟨rfl, rfl, rfl, by decide +kernel, rfl, by decide +kernel, by decide +kernel⟩
abbrev s_need_weather : Stmt := top 16
abbrev N_need_weather : List Str := ["value", "name"]
theorem sc_need_weather : FnScope N_need_weather ["value", "name"] (defScope s_need_weather) := ⟨rfl, rfl, rfl, by decide +kernel, rfl, by decide +kernel, by decide +kernel⟩
abbrev s_need_plant : Stmt := top 21
abbrev N_need_plant : List Str := ["size", "weather", "needs", "patience"]
theorem sc_need_plant : FnScope N_need_plant ["size", "weather", "needs", "patience"] (defScope s_need_plant) := ⟨rfl, rfl, rfl, by decide +kernel, rfl, by decide +kernel, by decide +kernel⟩
abbrev s_enough_before : Stmt := top 22
abbrev N_enough_before : List Str := ["size", "rain", "need", "watered", "waiting", "held"]
theorem sc_enough_before : FnScope N_enough_before ["size", "rain", "need", "watered", "waiting"] (defScope s_enough_before) := ⟨rfl, rfl, rfl, by decide +kernel, rfl, by decide +kernel, by decide +kernel⟩
abbrev s_book_of : Stmt := top 23
abbrev N_book_of : List Str := ["size", "weather", "needs", "patience", "turn", "book", "step", "is_done", "later", "age", "waiting", "rain", "found"]
theorem sc_book_of : FnScope N_book_of ["size", "weather", "needs", "patience"] (defScope s_book_of) := ⟨rfl, rfl, rfl, by decide +kernel, rfl, by decide +kernel, by decide +kernel⟩
abbrev s_enough : Stmt := top 24
abbrev N_enough : List Str := ["size", "weather", "needs", "patience", "step", "age", "book"]
theorem sc_enough : FnScope N_enough ["size", "weather", "needs", "patience", "step", "age"] (defScope s_enough) := ⟨rfl, rfl, rfl, by decide +kernel, rfl, by decide +kernel, by decide +kernel⟩
abbrev s_whole_book : Stmt := top 25
abbrev N_whole_book : List Str := ["size", "weather", "needs", "patience", "row"]
theorem sc_whole_book : FnScope N_whole_book ["size", "weather", "needs", "patience"] (defScope s_whole_book) := ⟨rfl, rfl, rfl, by decide +kernel, rfl, by decide +kernel, by decide +kernel⟩
abbrev s_may_water : Stmt := top 26
abbrev N_may_water : List Str := ["size", "weather", "needs", "patience", "step", "age", "held", "book", "later", "need", "found"]
theorem sc_may_water : FnScope N_may_water ["size", "weather", "needs", "patience", "step", "age", "held"] (defScope s_may_water) := ⟨rfl, rfl, rfl, by decide +kernel, rfl, by decide +kernel, by decide +kernel⟩
abbrev s_lives : Stmt := top 28
abbrev N_lives : List Str := ["size", "weather", "needs", "patience"]
theorem sc_lives : FnScope N_lives ["size", "weather", "needs", "patience"] (defScope s_lives) := ⟨rfl, rfl, rfl, by decide +kernel, rfl, by decide +kernel, by decide +kernel⟩
abbrev s_next_states : Stmt := top 30
abbrev N_next_states : List Str := ["size", "states", "rain", "need", "patience", "found", "level", "age", "held"]
theorem sc_next_states : FnScope N_next_states ["size", "states", "rain", "need", "patience"] (defScope s_next_states) := ⟨rfl, rfl, rfl, by decide +kernel, rfl, by decide +kernel, by decide +kernel⟩
abbrev s__law_dice : Stmt := top 32
abbrev N__law_dice : List Str := ["script", "spot", "own", "mixed", "cell"]
theorem sc__law_dice : FnScope N__law_dice ["script", "spot"] (defScope s__law_dice) := ⟨rfl, rfl, rfl, by decide +kernel, rfl, by decide +kernel, by decide +kernel⟩
abbrev s__law_roll : Stmt := top 33
abbrev N__law_roll : List Str := ["dice", "many", "found"]
theorem sc__law_roll : FnScope N__law_roll ["dice", "many"] (defScope s__law_roll) := ⟨rfl, rfl, rfl, by decide +kernel, rfl, by decide +kernel, by decide +kernel⟩
abbrev s__law_pick : Stmt := top 34
abbrev N__law_pick : List Str := ["dice", "things"]
theorem sc__law_pick : FnScope N__law_pick ["dice", "things"] (defScope s__law_pick) := ⟨rfl, rfl, rfl, by decide +kernel, rfl, by decide +kernel, by decide +kernel⟩
abbrev s__law_gcd : Stmt := top 36
abbrev N__law_gcd : List Str := ["one", "other", "turn"]
theorem sc__law_gcd : FnScope N__law_gcd ["one", "other"] (defScope s__law_gcd) := ⟨rfl, rfl, rfl, by decide +kernel, rfl, by decide +kernel, by decide +kernel⟩
abbrev s__law_row : Stmt := top 37
abbrev N__law_row : List Str := ["dice", "size", "most", "turn"]
theorem sc__law_row : FnScope N__law_row ["dice", "size", "most"] (defScope s__law_row) := ⟨rfl, rfl, rfl, by decide +kernel, rfl, by decide +kernel, by decide +kernel⟩
abbrev s__law_turn : Stmt := top 38
abbrev N__law_turn : List Str := ["one", "other"]
theorem sc__law_turn : FnScope N__law_turn ["one", "other"] (defScope s__law_turn) := ⟨rfl, rfl, rfl, by decide +kernel, rfl, by decide +kernel, by decide +kernel⟩
abbrev s__law_weather : Stmt := top 39
abbrev N__law_weather : List Str := ["dice", "size", "most", "wide", "lows", "low"]
theorem sc__law_weather : FnScope N__law_weather ["dice", "size", "most", "wide"] (defScope s__law_weather) := ⟨rfl, rfl, rfl, by decide +kernel, rfl, by decide +kernel, by decide +kernel⟩
abbrev s__law_holds : Stmt := top 40
abbrev N__law_holds : List Str := ["size", "low", "high", "need", "patience", "level", "age", "later", "rain", "held", "water"]
theorem sc__law_holds : FnScope N__law_holds ["size", "low", "high", "need", "patience", "level", "age", "later"] (defScope s__law_holds) := ⟨rfl, rfl, rfl, by decide +kernel, rfl, by decide +kernel, by decide +kernel⟩
abbrev s__law_lot : Stmt := top 41
abbrev N__law_lot : List Str := ["size", "weather", "needs", "patience", "turn", "every", "level", "step", "lot", "count", "many", "low", "high", "need", "later", "age", "row", "one"]
theorem sc__law_lot : FnScope N__law_lot ["size", "weather", "needs", "patience"] (defScope s__law_lot) := ⟨rfl, rfl, rfl, by decide +kernel, rfl, by decide +kernel, by decide +kernel⟩
abbrev s__law_longest : Stmt := top 42
abbrev N__law_longest : List Str := ["size", "level", "rains", "needs", "patience", "age", "most", "states", "step", "rain", "need", "later", "own", "waited", "held"]
theorem sc__law_longest : FnScope N__law_longest ["size", "level", "rains", "needs", "patience", "age", "most"] (defScope s__law_longest) := ⟨rfl, rfl, rfl, by decide +kernel, rfl, by decide +kernel, by decide +kernel⟩
abbrev s_least_tub : Stmt := top 27
abbrev N_least_tub : List Str := ["weather", "needs", "patience", "low", "high", "middle"]
theorem sc_least_tub : FnScope N_least_tub ["weather", "needs", "patience"] (defScope s_least_tub) := ⟨rfl, rfl, rfl, by decide +kernel, rfl, by decide +kernel, by decide +kernel⟩
abbrev s_dying_steps : Stmt := top 29
abbrev N_dying_steps : List Str := ["size", "level", "weather", "needs", "patience", "age", "book", "states", "step"]
theorem sc_dying_steps : FnScope N_dying_steps ["size", "level", "weather", "needs", "patience", "age"] (defScope s_dying_steps) := ⟨rfl, rfl, rfl, by decide +kernel, rfl, by decide +kernel, by decide +kernel⟩
abbrev s__law_right : Stmt := top 43
abbrev N__law_right : List Str := ["dice", "turn", "lot", "book", "step", "row", "age", "level", "levels", "held", "later", "need", "due", "steps", "least", "told", "needs", "patience", "size", "weather", "own"]
theorem sc__law_right : FnScope N__law_right ["dice"] (defScope s__law_right) := ⟨rfl, rfl, rfl, by decide +kernel, rfl, by decide +kernel, by decide +kernel⟩
abbrev s_law : Stmt := top 44
abbrev N_law : List Str := ["script", "spot"]
theorem sc_law : FnScope N_law ["script"] (defScope s_law) := ⟨rfl, rfl, rfl, by decide +kernel, rfl, by decide +kernel, by decide +kernel⟩
section
variable {P : Program} {w : World} {K : PySem.W.Frag} {mg : Str → Option Value} {base : Heap} {m : Pm} {C fI : Addr}
theorem ok_is_integer {f : Addr} {fd : FuncData} (Fu : Fun K "is_integer" "is_integer" s_is_integer f fd) (T : Txt P K mg C fI) (hK : m.K = K) (hcl : m.cl 0 = some C)  :
    FnOk P w K mg base (L2.CX P w) 2 f fd ["value"] (spD m 1 F_is_integer) :=
  okD Fu sc_is_integer hK rfl rfl fun cdv A outer s H E F hm hE hr => by
    subst hm
    subst hE
    exact b_one (s_ret (e_and (e_isI hK T.z_isinstance T.z_int (e_var 0)) (e_one (e_not (e_isB hK T.z_isinstance T.z_bool (e_var 0))))))
theorem ok_need_integer {f : Addr} {fd : FuncData} (Fu : Fun K "need_integer" "need_integer" s_need_integer f fd) (T : Txt P K mg C fI) (hK : m.K = K) (hcl : m.cl 0 = some C) (C_is_integer : Cal P w K mg base m 2 "is_integer" 0 F_is_integer []) :
    FnOk P w K mg base (L2.CX P w) 3 f fd ["value", "name", "least", "most"] (spD m 4 F_need_integer) :=
  okD Fu sc_need_integer hK rfl rfl fun cdv A outer s H E F hm hE hr => by
    subst hm
    subst hE
    exact b_one (s_if (t_w (w_or (t_not (t_val (e_c C_is_integer hr passD (a_cons (e_var 0) a_nil)))) (w_or (t_lt (e_var 0) (e_var 2)) (w_or1 (t_gt (e_var 0) (e_var 3)))))) (b_one (s_raise rfl takesD T.bad hcl hr rfl T.mB (a_cons (e_var 1) a_nil))) b_nil)
theorem gk_is_row_1 : GenOk N_is_row (defScope s_is_row) (scpG [(".0", .local), ("one", .local), ("is_integer", .globalImplicit), ("MOST_AMOUNT", .globalImplicit)]) [("one", 1)] := gen_by (by decide +kernel)
theorem ok_is_row {f : Addr} {fd : FuncData} {c Pt : Addr} (Fu : FunC K "is_row" "is_row" s_is_row f fd c) (TB : GxR.TabB base mg c Pt) (hT : (Pt, none) ∈ m.T) (hu : ∀ p ∈ m.T, p.1 = Pt → p.2 = none) (T : Txt P K mg C fI) (hK : m.K = K) (hcl : m.cl 0 = some C) (C_is_integer : Cal P w K mg base m 2 "is_integer" 0 F_is_integer []) :
    FnOk P w K mg base (L2.CX P w) 4 f fd ["value"] (spD m 1 F_is_row) :=
  okDC Fu sc_is_row hK rfl rfl fun A outer s H E F hm hE hr => by
    subst hm
    subst hE
    exact b_cons (s_if (t_w (w_or (t_not (t_val (e_isT hK T.z_isinstance T.z_tuple (e_var 0)))) (w_or1 (t_not (t_lele e_int (e_ln 0 hK T.z_len) (e_gI T.k_MOST_ROW)))))) (b_one (s_ret e_bl)) b_nil) (b_one (s_ret (e_ag rfl sc_is_row.nd hr T.z_all TB rfl hu hT gk_is_row_1 (i_seq hK (e_var 0)) (fun _ _ _ _ _ _ _ _ => gc_name 1 sc_is_row.nd) (fun _ _ _ _ _ _ _ _ hr2 => e_and (e_c C_is_integer hr2 passL (a_cons (e_var 1) a_nil)) (e_one (e_lele e_int (e_var 1) (e_gI T.k_MOST_AMOUNT)))))))
theorem ok_need_row {f : Addr} {fd : FuncData} (Fu : Fun K "need_row" "need_row" s_need_row f fd) (T : Txt P K mg C fI) (hK : m.K = K) (hcl : m.cl 0 = some C) (C_is_row : Cal P w K mg base m 4 "is_row" 0 F_is_row []) :
    FnOk P w K mg base (L2.CX P w) 5 f fd ["value", "name"] (spD m 2 F_need_row) :=
  okD Fu sc_need_row hK rfl rfl fun cdv A outer s H E F hm hE hr => by
    subst hm
    subst hE
    exact b_one (s_if (t_not (t_val (e_c C_is_row hr passD (a_cons (e_var 0) a_nil)))) (b_one (s_raise rfl takesD T.bad hcl hr rfl T.mB (a_cons (e_var 1) a_nil))) b_nil)
theorem ok_common {f : Addr} {fd : FuncData} (Fu : Fun K "common" "common" s_common f fd) (T : Txt P K mg C fI) (hK : m.K = K) (hcl : m.cl 0 = some C)  :
    FnOk P w K mg base (L2.CX P w) 2 f fd ["one", "other"] (spD m 2 F_common) :=
  okD Fu sc_common hK rfl rfl fun cdv A outer s H E F hm hE hr => by
    subst hm
    subst hE
    exact b_cons (s_while 1000000000000000 ownD (t_gt (e_var 1) e_int) (b_one (s_par 0 1 rfl sc_common.nd (e_var 1) (e_mod (e_var 0) (e_var 1))))) (b_one (s_retV 0))
theorem ok_least_common {f : Addr} {fd : FuncData} (Fu : Fun K "least_common" "least_common" s_least_common f fd) (T : Txt P K mg C fI) (hK : m.K = K) (hcl : m.cl 0 = some C) (C_common : Cal P w K mg base m 2 "common" 1 F_common []) :
    FnOk P w K mg base (L2.CX P w) 3 f fd ["one", "other"] (spD m 2 F_least_common) :=
  okD Fu sc_least_common hK rfl rfl fun cdv A outer s H E F hm hE hr => by
    subst hm
    subst hE
    exact b_one (s_ret (e_mul hK (e_div (e_var 0) (e_c C_common hr passD (a_cons (e_var 0) (a_cons (e_var 1) a_nil)))) (e_var 1)))
theorem ok_amount_at {f : Addr} {fd : FuncData} (Fu : Fun K "amount_at" "amount_at" s_amount_at f fd) (T : Txt P K mg C fI) (hK : m.K = K) (hcl : m.cl 0 = some C)  :
    FnOk P w K mg base (L2.CX P w) 2 f fd ["row", "step"] (spD m 2 F_amount_at) :=
  okD Fu sc_amount_at hK rfl rfl fun cdv A outer s H E F hm hE hr => by
    subst hm
    subst hE
    exact b_one (s_ret (e_ixN 0 hK (e_mod (e_var 1) (e_ln 0 hK T.z_len))))
theorem ok_turn_of {f : Addr} {fd : FuncData} (Fu : Fun K "turn_of" "turn_of" s_turn_of f fd) (T : Txt P K mg C fI) (hK : m.K = K) (hcl : m.cl 0 = some C) (C_least_common : Cal P w K mg base m 3 "least_common" 1 F_least_common []) :
    FnOk P w K mg base (L2.CX P w) 4 f fd ["rains", "needs"] (spD m 2 F_turn_of) :=
  okD Fu sc_turn_of hK rfl rfl fun cdv A outer s H E F hm hE hr => by
    subst hm
    subst hE
    exact b_one (s_ret (e_c C_least_common hr passD (a_cons (e_ln 0 hK T.z_len) (a_cons (e_ln 1 hK T.z_len) a_nil))))
theorem gk_is_weather_1 : GenOk N_is_weather (defScope s_is_weather) (scpG [(".0", .local), ("one", .local), ("is_row", .globalImplicit)]) [("one", 1)] := gen_by (by decide +kernel)
theorem gk_is_weather_3 : GenOk N_is_weather (defScope s_is_weather) (scpG [(".0", .local), ("low", .local), ("high", .local)]) [("low", 2), ("high", 3)] := gen_by (by decide +kernel)
theorem ok_is_weather {f : Addr} {fd : FuncData} {c Pt : Addr} (Fu : FunC K "is_weather" "is_weather" s_is_weather f fd c) (TB : GxR.TabB base mg c Pt) (hT : (Pt, none) ∈ m.T) (hu : ∀ p ∈ m.T, p.1 = Pt → p.2 = none) (T : Txt P K mg C fI) (hK : m.K = K) (hcl : m.cl 0 = some C) (C_is_row : Cal P w K mg base m 4 "is_row" 0 F_is_row []) :
    FnOk P w K mg base (L2.CX P w) 6 f fd ["value"] (spD m 1 F_is_weather) :=
  okDC Fu sc_is_weather hK rfl rfl fun A outer s H E F hm hE hr => by
    subst hm
    subst hE
    exact b_cons (s_if (t_w (w_or (t_not (t_val (e_isT hK T.z_isinstance T.z_tuple (e_var 0)))) (w_or (t_ne hr hK (e_ln 0 hK T.z_len) e_int) (w_or1 (t_not (t_val (e_ag rfl sc_is_weather.nd hr T.z_all TB rfl hu hT gk_is_weather_1 (i_seq hK (e_var 0)) (fun _ _ _ _ _ _ _ _ => gc_name 1 sc_is_weather.nd) (fun _ _ _ _ _ _ _ _ hr2 => e_c C_is_row hr2 passL (a_cons (e_var 1) a_nil))))))))) (b_one (s_ret e_bl)) b_nil) (b_one (s_ret (e_and (e_eq hr hK (e_len hK T.z_len (a_cons (e_ixN 0 hK e_int) a_nil)) (e_len hK T.z_len (a_cons (e_ixN 0 hK e_int) a_nil))) (e_one (e_ag rfl sc_is_weather.nd hr T.z_all TB rfl hu hT gk_is_weather_3 (i_zip2 hK rfl T.z_zip (e_ixN 0 hK e_int) (e_ixN 0 hK e_int)) (fun _ _ _ _ _ _ _ _ => gc_tup rfl hK (gsc_cons (gc_name 2 sc_is_weather.nd) (gsc_cons (gc_name 3 sc_is_weather.nd) gsc_nil))) (fun _ _ _ _ _ _ _ _ hr2 => e_le (e_var 2) (e_var 3)))))))
theorem ok_need_weather {f : Addr} {fd : FuncData} (Fu : Fun K "need_weather" "need_weather" s_need_weather f fd) (T : Txt P K mg C fI) (hK : m.K = K) (hcl : m.cl 0 = some C) (C_is_weather : Cal P w K mg base m 6 "is_weather" 0 F_is_weather []) :
    FnOk P w K mg base (L2.CX P w) 7 f fd ["value", "name"] (spD m 2 F_need_weather) :=
  okD Fu sc_need_weather hK rfl rfl fun cdv A outer s H E F hm hE hr => by
    subst hm
    subst hE
    exact b_one (s_if (t_not (t_val (e_c C_is_weather hr passD (a_cons (e_var 0) a_nil)))) (b_one (s_raise rfl takesD T.bad hcl hr rfl T.mB (a_cons (e_var 1) a_nil))) b_nil)
theorem ok_need_plant {f : Addr} {fd : FuncData} (Fu : Fun K "need_plant" "need_plant" s_need_plant f fd) (T : Txt P K mg C fI) (hK : m.K = K) (hcl : m.cl 0 = some C) (C_need_integer : Cal P w K mg base m 3 "need_integer" 3 F_need_integer []) (C_need_weather : Cal P w K mg base m 7 "need_weather" 1 F_need_weather []) (C_need_row : Cal P w K mg base m 5 "need_row" 1 F_need_row []) :
    FnOk P w K mg base (L2.CX P w) 8 f fd ["size", "weather", "needs", "patience"] (spD m 4 F_need_plant) :=
  okD Fu sc_need_plant hK rfl rfl fun cdv A outer s H E F hm hE hr => by
    subst hm
    subst hE
    exact b_cons (s_expr (e_c C_need_integer hr passD (a_cons (e_var 0) (a_cons e_str (a_cons e_int (a_cons (e_gI T.k_MOST_TUB) a_nil)))))) (b_cons (s_expr (e_c C_need_weather hr passD (a_cons (e_var 1) (a_cons e_str a_nil)))) (b_cons (s_if (t_gt (e_len hK T.z_len (a_cons (e_ixN 1 hK e_int) a_nil)) (e_gI T.k_MOST_TURN_ROW)) (b_one (s_raise rfl takesD T.bad hcl hr rfl T.mB (a_cons e_str a_nil))) b_nil) (b_cons (s_expr (e_c C_need_row hr passD (a_cons (e_var 2) (a_cons e_str a_nil)))) (b_cons (s_if (t_gt (e_ln 2 hK T.z_len) (e_gI T.k_MOST_TURN_ROW)) (b_one (s_raise rfl takesD T.bad hcl hr rfl T.mB (a_cons e_str a_nil))) b_nil) (b_one (s_expr (e_c C_need_integer hr passD (a_cons (e_var 3) (a_cons e_str (a_cons e_int (a_cons (e_gI T.k_MOST_PATIENCE) a_nil)))))))))))
theorem ok_enough_before {f : Addr} {fd : FuncData} (Fu : Fun K "enough_before" "enough_before" s_enough_before f fd) (T : Txt P K mg C fI) (hK : m.K = K) (hcl : m.cl 0 = some C)  :
    FnOk P w K mg base (L2.CX P w) 2 f fd ["size", "rain", "need", "watered", "waiting"] (spD m 5 F_enough_before) :=
  okD Fu sc_enough_before hK rfl rfl fun cdv A outer s H E F hm hE hr => by
    subst hm
    subst hE
    exact b_cons (s_set 5 sc_enough_before.nd (e_lst a_nil)) (b_cons (s_if (t_w (w_and (t_notN (e_var 3) e_non) (w_and1 (t_le (e_add hK (e_var 3) (e_var 2)) (e_var 0))))) (b_one (s_app 5 (e_add hK (e_var 3) (e_var 2)))) b_nil) (b_cons (s_if (t_notN (e_var 4) e_non) (b_one (s_app 5 (e_var 4))) b_nil) (b_one (s_ret (e_if (t_gt (e_ln 5 hK T.z_len) e_int) (e_max hK rfl T.z_max (a_cons e_int (a_cons (e_sub (e_min hK rfl T.z_min (a_cons (e_var 5) a_nil)) (e_var 1)) a_nil))) e_non)))))
theorem ok_book_of {f : Addr} {fd : FuncData} (Fu : Fun K "book_of" "book_of" s_book_of f fd) (T : Txt P K mg C fI) (hK : m.K = K) (hcl : m.cl 0 = some C) (C_turn_of : Cal P w K mg base m 4 "turn_of" 1 F_turn_of []) (C_amount_at : Cal P w K mg base m 2 "amount_at" 1 F_amount_at []) (C_enough_before : Cal P w K mg base m 2 "enough_before" 4 F_enough_before []) :
    FnOk P w K mg base (L2.CX P w) 5 f fd ["size", "weather", "needs", "patience"] (spD m 4 F_book_of) :=
  okD Fu sc_book_of hK rfl rfl fun cdv A outer s H E F hm hE hr => by
    subst hm
    subst hE
    exact b_cons (s_set 4 sc_book_of.nd (e_c C_turn_of hr passD (a_cons (e_ixN 1 hK e_int) (a_cons (e_var 2) a_nil)))) (b_cons (s_new0 5 sc_book_of.nd) (b_cons (s_for ownD rfl (i_rng1 rfl T.z_range (e_var 4)) (g_name 6 sc_book_of.nd) (b_one (s_appN 5 (e_mul hK (e_lst (a_cons e_int a_nil)) (e_add hK (e_var 3) e_int))))) (b_cons (s_set 7 sc_book_of.nd e_bl) (b_cons (s_while 1000000000000000 ownD (t_not (t_val (e_var 7))) (b_cons (s_set 7 sc_book_of.nd e_bl) (b_one (s_for ownD rfl (i_down rfl T.z_range (e_sub (e_var 4) e_int) (e_neg e_int)) (g_name 6 sc_book_of.nd) (b_cons (s_ali 8 5 (by decide) sc_book_of.nd hK (e_mod (e_add hK (e_var 6) e_int) (e_var 4))) (b_one (s_for ownD rfl (i_rng1 rfl T.z_range (e_add hK (e_var 3) e_int)) (g_name 9 sc_book_of.nd) (b_cons (s_set 10 sc_book_of.nd (e_if (t_lt (e_var 9) (e_var 3)) (e_ixA 8 hK (e_add hK (e_var 9) e_int)) e_non)) (b_cons (s_set 11 sc_book_of.nd (e_c C_amount_at hr passD (a_cons (e_ixN 1 hK e_int) (a_cons (e_var 6) a_nil)))) (b_cons (s_set 12 sc_book_of.nd (e_c C_enough_before hr passD (a_cons (e_var 0) (a_cons (e_var 11) (a_cons (e_c C_amount_at hr passD (a_cons (e_var 2) (a_cons (e_var 6) a_nil))) (a_cons (e_ixA 8 hK e_int) (a_cons (e_var 10) a_nil))))))) (b_one (s_if (t_ne hr hK (e_var 12) (e_getN 5 hK (e_var 6) (e_var 9))) (b_cons (s_storeN 5 hK (e_var 6) (e_var 9) (e_var 12)) (b_one (s_set 7 sc_book_of.nd e_bl))) b_nil)))))))))))) (b_one (s_rest 5 (s_retV 5)))))))
theorem ok_enough {f : Addr} {fd : FuncData} (Fu : Fun K "enough" "enough" s_enough f fd) (T : Txt P K mg C fI) (hK : m.K = K) (hcl : m.cl 0 = some C) (C_need_plant : Cal P w K mg base m 8 "need_plant" 3 F_need_plant []) (C_need_integer : Cal P w K mg base m 3 "need_integer" 3 F_need_integer []) (C_book_of : Cal P w K mg base m 5 "book_of" 3 F_book_of []) :
    FnOk P w K mg base (L2.CX P w) 9 f fd ["size", "weather", "needs", "patience", "step", "age"] (spD m 6 F_enough) :=
  okD Fu sc_enough hK rfl rfl fun cdv A outer s H E F hm hE hr => by
    subst hm
    subst hE
    exact b_cons (s_expr (e_c C_need_plant hr passD (a_cons (e_var 0) (a_cons (e_var 1) (a_cons (e_var 2) (a_cons (e_var 3) a_nil)))))) (b_cons (s_expr (e_c C_need_integer hr passD (a_cons (e_var 4) (a_cons e_str (a_cons e_int (a_cons (e_gI T.k_MOST_STEP) a_nil)))))) (b_cons (s_expr (e_c C_need_integer hr passD (a_cons (e_var 5) (a_cons e_str (a_cons e_int (a_cons (e_var 3) a_nil)))))) (b_cons (s_set 6 sc_enough.nd (e_c C_book_of hr passD (a_cons (e_var 0) (a_cons (e_var 1) (a_cons (e_var 2) (a_cons (e_var 3) a_nil)))))) (b_one (s_ret (e_ix hK (e_ixN 6 hK (e_mod (e_var 4) (e_ln 6 hK T.z_len))) (e_var 5)))))))
theorem bk_whole_book_1 : BlkOk N_whole_book (defScope s_whole_book) (scp [(".0", .local), ("row", .local), ("tuple", .globalImplicit)]) [("row", 4)] := blkOk_by (by decide +kernel)
theorem ok_whole_book {f : Addr} {fd : FuncData} (Fu : Fun K "whole_book" "whole_book" s_whole_book f fd) (T : Txt P K mg C fI) (hK : m.K = K) (hcl : m.cl 0 = some C) (C_need_plant : Cal P w K mg base m 8 "need_plant" 3 F_need_plant []) (C_book_of : Cal P w K mg base m 5 "book_of" 3 F_book_of []) :
    FnOk P w K mg base (L2.CX P w) 9 f fd ["size", "weather", "needs", "patience"] (spD m 4 F_whole_book) :=
  okD Fu sc_whole_book hK rfl rfl fun cdv A outer s H E F hm hE hr => by
    subst hm
    subst hE
    exact b_cons (s_expr (e_c C_need_plant hr passD (a_cons (e_var 0) (a_cons (e_var 1) (a_cons (e_var 2) (a_cons (e_var 3) a_nil)))))) (b_one (s_ret (e_tuple hK T.z_tuple (a_cons (e_lc rfl sc_whole_book.nd (i_seq hK (e_c C_book_of hr passD (a_cons (e_var 0) (a_cons (e_var 1) (a_cons (e_var 2) (a_cons (e_var 3) a_nil)))))) bk_whole_book_1 (fun _ _ _ _ _ => gc_name 4 sc_whole_book.nd) (fun _ _ _ _ _ => ts_nil) (fun _ _ _ _ _ => e_tuple hK T.z_tuple (a_cons (e_var 4) a_nil))) a_nil))))
theorem ok_may_water {f : Addr} {fd : FuncData} (Fu : Fun K "may_water" "may_water" s_may_water f fd) (T : Txt P K mg C fI) (hK : m.K = K) (hcl : m.cl 0 = some C) (C_need_plant : Cal P w K mg base m 8 "need_plant" 3 F_need_plant []) (C_need_integer : Cal P w K mg base m 3 "need_integer" 3 F_need_integer []) (C_book_of : Cal P w K mg base m 5 "book_of" 3 F_book_of []) (C_amount_at : Cal P w K mg base m 2 "amount_at" 1 F_amount_at []) :
    FnOk P w K mg base (L2.CX P w) 9 f fd ["size", "weather", "needs", "patience", "step", "age", "held"] (spD m 7 F_may_water) :=
  okD Fu sc_may_water hK rfl rfl fun cdv A outer s H E F hm hE hr => by
    subst hm
    subst hE
    exact b_cons (s_expr (e_c C_need_plant hr passD (a_cons (e_var 0) (a_cons (e_var 1) (a_cons (e_var 2) (a_cons (e_var 3) a_nil)))))) (b_cons (s_expr (e_c C_need_integer hr passD (a_cons (e_var 4) (a_cons e_str (a_cons e_int (a_cons (e_gI T.k_MOST_STEP) a_nil)))))) (b_cons (s_expr (e_c C_need_integer hr passD (a_cons (e_var 5) (a_cons e_str (a_cons e_int (a_cons (e_var 3) a_nil)))))) (b_cons (s_expr (e_c C_need_integer hr passD (a_cons (e_var 6) (a_cons e_str (a_cons e_int (a_cons (e_var 0) a_nil)))))) (b_cons (s_set 7 sc_may_water.nd (e_c C_book_of hr passD (a_cons (e_var 0) (a_cons (e_var 1) (a_cons (e_var 2) (a_cons (e_var 3) a_nil)))))) (b_cons (s_set 8 sc_may_water.nd (e_ixN 7 hK (e_mod (e_add hK (e_var 4) e_int) (e_ln 7 hK T.z_len)))) (b_cons (s_set 9 sc_may_water.nd (e_c C_amount_at hr passD (a_cons (e_var 2) (a_cons (e_var 4) a_nil)))) (b_cons (s_set 10 sc_may_water.nd (e_lst a_nil)) (b_cons (s_if (t_w (w_and (t_ge (e_var 6) (e_var 9)) (w_and (t_notN (e_ixN 8 hK e_int) e_non) (w_and1 (t_ge (e_sub (e_var 6) (e_var 9)) (e_ixN 8 hK e_int)))))) (b_one (s_app 10 e_str)) b_nil) (b_cons (s_if (t_w (w_and (t_lt (e_var 5) (e_var 3)) (w_and (t_notN (e_ixN 8 hK (e_add hK (e_var 5) e_int)) e_non) (w_and1 (t_ge (e_var 6) (e_ixN 8 hK (e_add hK (e_var 5) e_int))))))) (b_one (s_app 10 e_str)) b_nil) (b_one (s_ret (e_tuple hK T.z_tuple (a_cons (e_var 10) a_nil)))))))))))))
theorem ok_lives {f : Addr} {fd : FuncData} (Fu : Fun K "lives" "lives" s_lives f fd) (T : Txt P K mg C fI) (hK : m.K = K) (hcl : m.cl 0 = some C) (C_book_of : Cal P w K mg base m 5 "book_of" 3 F_book_of []) :
    FnOk P w K mg base (L2.CX P w) 6 f fd ["size", "weather", "needs", "patience"] (spD m 4 F_lives) :=
  okD Fu sc_lives hK rfl rfl fun cdv A outer s H E F hm hE hr => by
    subst hm
    subst hE
    exact b_one (s_ret (e_notN (e_ix hK (e_ix hK (e_c C_book_of hr passD (a_cons (e_var 0) (a_cons (e_var 1) (a_cons (e_var 2) (a_cons (e_var 3) a_nil))))) e_int) e_int) e_non))
theorem bk_next_states_1 : BlkOk N_next_states (defScope s_next_states) (scp [(".0", .local), ("age", .local), ("found", .free)]) [("age", 7)] := blkOk_by (by decide +kernel)
theorem ok_next_states {f : Addr} {fd : FuncData} (Fu : Fun K "next_states" "next_states" s_next_states f fd) (T : Txt P K mg C fI) (hK : m.K = K) (hcl : m.cl 0 = some C)  :
    FnOk P w K mg base (L2.CX P w) 2 f fd ["size", "states", "rain", "need", "patience"] (spD m 5 F_next_states) :=
  okD Fu sc_next_states hK rfl rfl fun cdv A outer s H E F hm hE hr => by
    subst hm
    subst hE
    have nd := sc_next_states.nd
    refine ⟨_, pss_cons (ps_set (i := 5) nd rfl (Or.inr rfl) pe_dnewK) (pss_cons (ps_lock (ps_for ownD rfl (pi_keys (pe_var (i := 1) rfl (Or.inl rfl))) (pg_tup rfl (pgs_cons (pg_name (i := 6) nd rfl (Or.inl rfl)) (pgs_cons (pg_name (i := 7) nd rfl (Or.inl rfl)) pgs_nil)))
        (pss_cons (ps_set (i := 8) nd rfl (Or.inl rfl) (pe_callB (call_min2 rfl) rfl T.z_min (by decide +kernel) (pa_cons (pe_var (i := 0) rfl (Or.inl rfl)) (pa_cons (pe_op op_add (pe_var (i := 6) rfl (Or.inl rfl)) (pe_var (i := 2) rfl (Or.inl rfl))) pa_nil))))
          (pss_cons (ps_if (pt_cmpR op_ge (pe_var (i := 8) rfl (Or.inl rfl)) (pe_var (i := 3) rfl (Or.inl rfl)) (nomark _)) (pss_one (ps_dput (hu_of hr) (pe_var (i := 5) rfl (Or.inr (Or.inl rfl))) pe_int (pe_callB (call_max2 rfl) rfl T.z_max (by decide +kernel) (pa_cons (pe_dget2 (hu_of hr) (pe_var (i := 5) rfl (Or.inr (Or.inl rfl))) pe_int pe_int ⟨rfl, rfl, rfl, rfl⟩) (pa_cons (pe_op op_sub (pe_var (i := 8) rfl (Or.inl rfl)) (pe_var (i := 3) rfl (Or.inl rfl))) pa_nil))) rfl)) pss_nil)
            (pss_one (ps_if (pt_cmpR op_lt (pe_var (i := 7) rfl (Or.inl rfl)) (pe_var (i := 4) rfl (Or.inl rfl)) (nomark _)) (pss_one (ps_dput (hu_of hr) (pe_var (i := 5) rfl (Or.inr (Or.inl rfl))) (pe_op op_add (pe_var (i := 7) rfl (Or.inl rfl)) pe_int) (pe_callB (call_max2 rfl) rfl T.z_max (by decide +kernel) (pa_cons (pe_dget2 (hu_of hr) (pe_var (i := 5) rfl (Or.inr (Or.inl rfl))) (pe_op op_add (pe_var (i := 7) rfl (Or.inl rfl)) pe_int) pe_int ⟨rfl, rfl, rfl, rfl⟩) (pa_cons (pe_var (i := 8) rfl (Or.inl rfl)) pa_nil))) rfl)) pss_nil))))))
      (pss_one (ps_ret (pe_callTy (call_dictPT rfl (Nat.lt_of_le_of_lt (Nat.add_le_add_left (by decide : 2 ≤ 64) _) hr.units)) rfl T.z_dict PyProof.Rows.Boot.«dict» (pa_cons (pe_lock (pe_lc (own := [("age", 7)]) (g := gName 7) (tt := tYes) rfl nd (pi_keys (pe_var (i := 5) rfl (Or.inr (Or.inl rfl)))) bk_next_states_1 (fun _ _ _ _ _ => pg_name (i := 7) nd rfl (Or.inl rfl)) (fun _ _ _ _ _ => pts_nil)
        (fun _ _ _ _ _ => pe_tup (pa_cons (pe_tup (pa_cons (pe_dget (hu_of hr) (pe_var (i := 5) (by rfl) (by first | exact Or.inl rfl | exact Or.inr (Or.inl rfl) | exact Or.inr (Or.inr rfl))) (pe_var (i := 7) rfl (Or.inl rfl)) (fun _ _ => rfl)) (pa_cons (pe_var (i := 7) rfl (Or.inl rfl)) pa_nil))) (pa_cons pe_bl pa_nil))))) pa_nil))))), fun Q σ H O s I k => ?_⟩
    unfold d_next_states at k
    split at k
    · rename_i size ds rain need pat he
      split at k
      · rename_i ls hls
        split at k
        · rename_i hlen
          obtain ⟨v0, q0, r0⟩ := I.env.vals 0 (.int size) (by rw [he]; rfl)
          cases r0.int_inv
          obtain ⟨v1, q1, r1⟩ := I.env.vals 1 _ (by rw [he]; rfl)
          obtain ⟨d, ls', rfl, hd, hdO, e2⟩ := r1.dtt_inv
          obtain rfl : ls' = ls := by
            have e3 := pairsI_map ls'
            rw [show ls'.map pairDI = ds from e2.symm, hls] at e3
            exact (Option.some.inj e3).symm
          obtain ⟨v2, q2, r2⟩ := I.env.vals 2 (.int rain) (by rw [he]; rfl)
          cases r2.int_inv
          obtain ⟨v3, q3, r3⟩ := I.env.vals 3 (.int need) (by rw [he]; rfl)
          cases r3.int_inv
          obtain ⟨v4, q4, r4⟩ := I.env.vals 4 (.int pat) (by rw [he]; rfl)
          cases r4.int_inv
          have hl : σ.length = 9 := I.env.len.trans (by rw [he]; rfl)
          match σ, hl with
          | [a0, a1, a2, a3, a4, a5, a6, a7, a8], _ =>
            cases (Option.some.inj q0)
            cases (Option.some.inj q1)
            cases (Option.some.inj q2)
            cases (Option.some.inj q3)
            cases (Option.some.inj q4)
            intro f hf
            have hfd : f ≠ d := fun z => by rw [z, hd] at hf; cases hf
            refine ⟨d, .dT (ls'.map ttE), by rw [upd_ne (Ne.symm hfd)]; exact hd, trivial, fun od => ?_⟩
            refine ⟨_, rfl, d, od, rfl, .inr ⟨_, upd_same, ?_⟩⟩
            refine for_it walk_keysT (fun i σ' H' => ∃ x y z, σ' = [some (.int size), some (.ref d), some (.int rain), some (.int need), some (.int pat), some (.ref f), x, y, z] ∧
              H' = upd (upd H f (.dK ((foldF size rain need pat (ls'.take i)).map kI))) d (.frz od (.dT (ls'.map ttE)))) ⟨_, _, _, rfl, rfl⟩ (fun i σ' H' _ ⟨_, _, _, _, e⟩ => by rw [e]; exact upd_same) ?_ ?_
            · rintro i x σ' H' H'' hi ⟨a, b, c, rfl, rfl⟩ ⟨rfl, k', v, q, hk, rfl, hq⟩
              obtain ⟨p, hp1, hp2⟩ : ∃ p, ls'[i]? = some p ∧ ttE p = (k', v) := by
                rw [List.getElem?_map, Option.map_eq_some_iff] at hk
                exact hk
              have htk : ls'.take (i + 1) = ls'.take i ++ [p] := by rw [List.take_add_one, hp1]; rfl
              have hk2 : k' = [.inl p.1, .inl p.2] := (congrArg Prod.fst hp2).symm
              subst hk2
              generalize hX : foldF size rain need pat (ls'.take i) = X at hq ⊢
              have hXl : X.length ≤ 2000 := by
                have h1 := foldF_len size rain need pat _ (ls'.take i) rfl
                rw [hX] at h1
                have h2 : (ls'.take i).length ≤ ls'.length := by rw [List.length_take]; omega
                omega
              have hnx : foldF size rain need pat (ls'.take (i + 1)) = stpN size rain need pat p X := by rw [htk, foldF_snoc, hX]
              refine ⟨q, _, rfl, .of hq, rfl, _, _, rfl, _, _, rfl, rfl, ?_⟩
              have hfX : ∀ Y, upd (upd H f (.dK Y)) d (.frz od (.dT (ls'.map ttE))) f = some (.dK Y) := fun Y => by rw [upd_ne hfd]; exact upd_same
              have hput : ∀ Y Z : List (Key × V), upd (upd (upd H f (.dK Y)) d (.frz od (.dT (ls'.map ttE)))) f (.dK Z) = upd (upd H f (.dK Z)) d (.frz od (.dT (ls'.map ttE))) := fun Y Z => by
                funext b
                unfold upd
                by_cases h1 : b = f
                · rw [if_pos h1, if_neg (by rw [h1]; exact hfd), if_pos h1]
                · rw [if_neg h1, if_neg h1, if_neg h1]
              refine ⟨_, rfl, _, rfl, _, rfl, _, _, rfl, rfl, _, _, rfl, ?_⟩
              have hnx : ∀ _ : Int, foldF size rain need pat (ls'.take (i + 1)) = stpN size rain need pat p X := fun _ => hnx
              unfold stpN at hnx
              simp only at hnx
              generalize (if p.1 + rain < size then p.1 + rain else size) = held at hnx ⊢
              refine ⟨_, rfl, _, rfl, _, _, rfl, rfl, _, rfl, ?_⟩
              by_cases h1 : need ≤ held
              · refine iteP h1 ?_
                simp only [if_pos h1] at hnx
                refine ⟨_, rfl, f, rfl, .inl ⟨_, .inl (hfX _)⟩, _, DGet.k (k := .inl 0) (hfX _), _, rfl, _, rfl, _, _, rfl, rfl, getI X 0, held - need, (by rw [getD_kI]), ?_⟩
                refine ⟨_, rfl, f, _, rfl, DPut.k (k := .inl 0) (hfX _) (by rw [List.length_map, sizeLine_eq]; omega), ?_⟩
                rw [hput, putK_kI]
                have hX1 := putI_len X 0 (mxI (getI X 0) (held - need))
                rw [show (if held - need > getI X 0 then held - need else getI X 0) = mxI (getI X 0) (held - need) from rfl]
                generalize putI X 0 (mxI (getI X 0) (held - need)) = X1 at hX1 hnx ⊢
                refine ⟨_, rfl, _, rfl, _, _, rfl, rfl, _, rfl, ?_⟩
                by_cases h2 : p.2 < pat
                · refine iteP h2 ?_
                  refine ⟨_, rfl, f, rfl, .inl ⟨_, .inl (hfX _)⟩, _, rfl, _, _, rfl, rfl, _, DGet.k (k := .inl (p.2 + 1)) (hfX _), _, rfl, getI X1 (p.2 + 1), held, (by rw [getD_kI]), ?_⟩
                  refine ⟨_, rfl, _, rfl, _, _, rfl, rfl, f, _, rfl, DPut.k (k := .inl (p.2 + 1)) (hfX _) (by rw [List.length_map, sizeLine_eq]; omega), ?_⟩
                  refine ⟨_, _, _, rfl, ?_⟩
                  rw [hput, putK_kI, hnx (p.2 + 1), if_pos h2]
                  rfl
                · refine iteQ h2 ?_
                  refine ⟨_, _, _, rfl, ?_⟩
                  rw [hnx (p.2 + 1), if_neg h2]
              · refine iteQ h1 ?_
                simp only [if_neg h1] at hnx
                refine ⟨_, rfl, _, rfl, _, _, rfl, rfl, _, rfl, ?_⟩
                by_cases h2 : p.2 < pat
                · refine iteP h2 ?_
                  refine ⟨_, rfl, f, rfl, .inl ⟨_, .inl (hfX _)⟩, _, rfl, _, _, rfl, rfl, _, DGet.k (k := .inl (p.2 + 1)) (hfX _), _, rfl, getI X (p.2 + 1), held, (by rw [getD_kI]), ?_⟩
                  refine ⟨_, rfl, _, rfl, _, _, rfl, rfl, f, _, rfl, DPut.k (k := .inl (p.2 + 1)) (hfX _) (by rw [List.length_map, sizeLine_eq]; omega), ?_⟩
                  refine ⟨_, _, _, rfl, ?_⟩
                  rw [hput, putK_kI, hnx (p.2 + 1), if_pos h2]
                  rfl
                · refine iteQ h2 ?_
                  refine ⟨_, _, _, rfl, ?_⟩
                  rw [hnx (p.2 + 1), if_neg h2]
            · rintro σ' H' ⟨a, b, c, rfl, rfl⟩
              refine ⟨upd_same, ?_⟩
              have hall : ls'.take (ls'.map ttE).length = ls' := by rw [List.length_map, List.take_length]
              rw [hall]
              have hXn := foldF_nodup size rain need pat ls'
              have hXl := foldF_len size rain need pat _ ls' rfl
              have hns : nextS size ls' rain need pat = (foldF size rain need pat ls').map fun p => (p.2, p.1) := rfl
              rw [hns] at k
              generalize foldF size rain need pat ls' = X at hXn hXl k ⊢
              have hBf : upd (upd (upd H f (.dK (X.map kI))) d (.frz od (.dT (ls'.map ttE)))) d (.dT (ls'.map ttE)) f = some (.dK (X.map kI)) := by
                rw [upd_ne hfd, upd_ne hfd]; exact upd_same
              have hBx : Ext H (upd (upd (upd H f (.dK (X.map kI))) d (.frz od (.dT (ls'.map ttE)))) d (.dT (ls'.map ttE))) := fun b o hb => by
                by_cases h1 : b = d
                · subst h1; rw [hd] at hb; rw [← hb]; exact upd_same
                · rw [upd_ne h1, upd_ne h1, upd_ne (ne_of_none hb hf)]; exact hb
              generalize upd (upd (upd H f (.dK (X.map kI))) d (.frz od (.dT (ls'.map ttE)))) d (.dT (ls'.map ttE)) = B at hBf hBx ⊢
              refine ⟨f, .dK (X.map kI), hBf, trivial, fun od2 => ?_⟩
              refine ⟨_, rfl, f, od2, rfl, .inl ⟨_, upd_same, fun Dl hDl => ?_⟩⟩
              have hDf : Dl ≠ f := fun z => by rw [z, upd_same] at hDl; cases hDl
              have hDB : B Dl = none := by rw [upd_ne hDf] at hDl; exact hDl
              refine lc_it walk_keys (fun i H' => ∃ ps : List Addr, H' Dl = some (.lst (ps.map V.ref)) ∧ ps.length = i ∧ H' f = some (.frz od2 (.dK (X.map kI))) ∧ (∀ b o, b ≠ f → B b = some o → H' b = some o) ∧
                Paired (fun p (kv : List Key × V) => ∃ b, H' p = some (.tup [.ref b, kv.2]) ∧ H' b = some (.tup (kv.1.map kV))) ps ((X.take i).map fun p => ttE (p.2, p.1))) ?_ ?_ ?_ ?_
              · exact ⟨[], upd_same, rfl, by rw [upd_ne (Ne.symm hDf)]; exact upd_same, fun b o h1 h2 => by rw [upd_ne (ne_of_none h2 hDB), upd_ne h1]; exact h2, .nil⟩
              · rintro i H' _ ⟨_, _, _, h, _⟩; exact h
              · rintro i x H' H'' hi ⟨ps, h1, h2, h3, h4, h5⟩ ⟨rfl, k', v, hk, rfl⟩
                obtain ⟨p, hp1, hp2⟩ : ∃ p, X[i]? = some p ∧ kI p = (k', v) := by
                  rw [List.getElem?_map, Option.map_eq_some_iff] at hk
                  exact hk
                have htk : X.take (i + 1) = X.take i ++ [p] := by rw [List.take_add_one, hp1]; rfl
                have hk2 : k' = .inl p.1 := (congrArg Prod.fst hp2).symm
                subst hk2
                have hval := valV_nodup hXn (List.mem_of_getElem? hp1)
                refine ⟨rfl, ?_⟩
                dsimp only [tYes]
                rw [if_pos rfl]
                refine ⟨_, rfl, _, rfl, f, .int p.2, rfl, .inl ⟨_, .inl p.1, .inr ⟨od2, h3⟩, rfl, hval.symm⟩, _, rfl, by simp [sizeLine_eq], fun t1 ht1 => ?_⟩
                refine ⟨by simp [sizeLine_eq], fun t2 ht2 => ?_⟩
                have h12 : t2 ≠ t1 := fun z => by rw [z, upd_same] at ht2; cases ht2
                have ht2' : H'' t2 = none := by rw [upd_ne h12] at ht2; exact ht2
                have d1 : Dl ≠ t1 := ne_of_none h1 ht1
                have d2 : Dl ≠ t2 := ne_of_none h1 ht2'
                have old : ∀ b o, b ≠ Dl → H'' b = some o → upd (upd (upd H'' t1 (.tup [.int p.2, .int p.1])) t2 (.tup [.ref t1, .bl true])) Dl (.lst (ps.map V.ref ++ [.ref t2])) b = some o := fun b o n q => by
                  rw [upd_ne n, upd_ne (ne_of_none q ht2'), upd_ne (ne_of_none q ht1)]; exact q
                refine ⟨ps.map V.ref, by rw [upd_ne d2, upd_ne d1]; exact h1, by rw [List.length_map, h2, sizeLine_eq]; rw [List.length_map] at hi; omega, ps ++ [t2], by rw [List.map_append]; exact upd_same, by rw [List.length_append, h2]; rfl,
                  old _ _ (Ne.symm hDf) h3, fun b o n q => old _ _ (ne_of_none q hDB) (h4 b o n q), ?_⟩
                rw [htk, List.map_append]
                refine paired_snoc (Paired.mapP h5 fun a b ⟨e, q1, q2⟩ => ⟨e, old _ _ (ne_of q1 h1 (fun z => nomatch z)) q1, old _ _ (ne_of q2 h1 (fun z => nomatch z)) q2⟩) ⟨t1, ?_, ?_⟩
                · rw [upd_ne (Ne.symm d2)]; exact upd_same
                · rw [upd_ne (Ne.symm d1), upd_ne (Ne.symm h12)]; exact upd_same
              · rintro H' ⟨ps, h1, h2, h3, h4, h5⟩
                refine ⟨h3, Dl, ps, _, rfl, .of (by rw [upd_ne hDf]; exact h1), Paired.mapP h5 fun a b ⟨e, q1, q2⟩ => ⟨e, .of (by rw [upd_ne (ne_of q1 h3 (fun z => nomatch z))]; exact q1), by rw [upd_ne (ne_of q2 h3 (fun z => nomatch z))]; exact q2⟩, fun p hp => ?_⟩
                have hp' : H' p = none := by
                  by_cases z : p = f
                  · rw [z, upd_same] at hp; cases hp
                  · rw [upd_ne z] at hp; exact hp
                have ex : Ext H (upd (upd H' f (.dK (X.map kI))) p (.dT (mergeT [] ((X.take (X.map kI).length).map fun p => ttE (p.2, p.1))))) := fun b o q => by
                  have nf := ne_of_none q hf
                  have q2 := h4 b o nf (hBx b o q)
                  rw [upd_ne (ne_of_none q2 hp'), upd_ne nf]
                  exact q2
                have e1 : mergeT [] ((X.take (X.map kI).length).map fun p => ttE (p.2, p.1)) = (X.map fun p => (p.2, p.1)).map ttE := by
                  rw [List.length_map, List.take_length, mergeT_nodup _ _ (by rw [List.nil_append]; exact ttE_nodup hXn), List.nil_append, List.map_map]
                  rfl
                refine k _ _ O (I.base.trans ex.stF) (I.wd.ext ex) (.dtt (by rw [upd_same, e1]) fun z => ?_)
                obtain ⟨_, q⟩ := I.wd.src p z
                have := ex p _ q
                rw [upd_same] at this
                cases this
        · exact k.elim
      · exact k.elim
    · exact k.elim
theorem ok__law_dice {f : Addr} {fd : FuncData} (Fu : Fun K "_law_dice" "_law_dice" s__law_dice f fd) (T : Txt P K mg C fI) (hK : m.K = K) (hcl : m.cl 0 = some C)  :
    FnOk P w K mg base (L2.CX P w) 2 f fd ["script", "spot"] (spD m 2 F__law_dice) :=
  okD Fu sc__law_dice hK rfl rfl fun cdv A outer s H E F hm hE hr => by
    subst hm
    subst hE
    exact b_cons (s_set 2 sc__law_dice.nd (e_if (t_lt (e_var 1) (e_ln 0 hK T.z_len)) (e_ixN 0 hK (e_var 1)) (e_add hK (e_mul hK e_int (e_var 1)) e_int))) (b_cons (s_set 3 sc__law_dice.nd (e_add hK e_int (e_mul hK e_int (e_var 1)))) (b_cons (s_for ownD rfl (i_seq hK (e_add hK (e_sl hK (e_var 0) p_none (p_some e_int)) (e_lst (a_cons (e_var 2) a_nil)))) (g_name 4 sc__law_dice.nd) (b_one (s_set 3 sc__law_dice.nd (e_mod (e_int' T.z_int (a_cons (e_add hK (e_mul hK (e_var 3) e_int) (e_mod (e_int' T.z_int (a_cons (e_var 4) a_nil)) e_int)) a_nil)) e_int)))) (b_one (s_ret (e_lst (a_cons (e_if (t_w (w_or (t_lt (e_var 2) e_int) (w_or1 (t_ge (e_var 2) (e_pow e_int e_int))))) (e_abs T.z_abs (a_cons (e_var 2) a_nil)) e_int) (a_cons (e_var 3) (a_cons e_int a_nil))))))))
theorem ok__law_roll {f : Addr} {fd : FuncData} (Fu : Fun K "_law_roll" "_law_roll" s__law_roll f fd) (T : Txt P K mg C fI) (hK : m.K = K) (hcl : m.cl 0 = some C)  :
    FnOk P w K mg base (L2.CX P w) 2 f fd ["dice", "many"] (spD m 2 F__law_roll) :=
  okD Fu sc__law_roll hK rfl rfl fun cdv A outer s H E F hm hE hr => by
    subst hm
    subst hE
    exact b_cons (s_if (t_gt (e_ixN 0 hK e_int) e_int) (b_cons (s_set 2 sc__law_roll.nd (e_mod (e_int' T.z_int (a_cons (e_ixN 0 hK e_int) a_nil)) (e_var 1))) (b_cons (s_store 0 e_int (e_div (e_ixN 0 hK e_int) (e_var 1))) (b_one (s_retV 2)))) b_nil) (b_cons (s_store 0 e_int (e_add hK (e_ixN 0 hK e_int) e_int)) (b_cons (s_store 0 e_int (e_mod (e_int' T.z_int (a_cons (e_add hK (e_add hK (e_mul hK (e_ixN 0 hK e_int) e_int) (e_mul hK (e_mul hK (e_ixN 0 hK e_int) (e_ixN 0 hK e_int)) e_int)) e_int) a_nil)) e_int)) (b_one (s_ret (e_mod (e_int' T.z_int (a_cons (e_div (e_ixN 0 hK e_int) e_int) a_nil)) (e_var 1))))))
theorem ok__law_pick {f : Addr} {fd : FuncData} (Fu : Fun K "_law_pick" "_law_pick" s__law_pick f fd) (T : Txt P K mg C fI) (hK : m.K = K) (hcl : m.cl 0 = some C) (C__law_roll : Cal P w K mg base m 2 "_law_roll" 1 F__law_roll []) :
    FnOk P w K mg base (L2.CX P w) 3 f fd ["dice", "things"] (spD m 2 F__law_pick) :=
  okD Fu sc__law_pick hK rfl rfl fun cdv A outer s H E F hm hE hr => by
    subst hm
    subst hE
    exact b_one (s_ret (e_ixN 1 hK (e_c C__law_roll hr passD (a_cons (e_var 0) (a_cons (e_ln 1 hK T.z_len) a_nil)))))
theorem ok__law_gcd {f : Addr} {fd : FuncData} (Fu : Fun K "_law_gcd" "_law_gcd" s__law_gcd f fd) (T : Txt P K mg C fI) (hK : m.K = K) (hcl : m.cl 0 = some C)  :
    FnOk P w K mg base (L2.CX P w) 2 f fd ["one", "other"] (spD m 2 F__law_gcd) :=
  okD Fu sc__law_gcd hK rfl rfl fun cdv A outer s H E F hm hE hr => by
    subst hm
    subst hE
    exact b_cons (s_par 0 1 rfl sc__law_gcd.nd (e_abs T.z_abs (a_cons (e_var 0) a_nil)) (e_abs T.z_abs (a_cons (e_var 1) a_nil))) (b_cons (s_for ownD rfl (i_rng1 rfl T.z_range e_int) (g_name 2 sc__law_gcd.nd) (b_cons (s_if (t_eq hr hK (e_var 1) e_int) (b_one s_break) b_nil) (b_one (s_par 0 1 rfl sc__law_gcd.nd (e_var 1) (e_mod (e_var 0) (e_var 1)))))) (b_one (s_retV 0)))
theorem bk__law_row_1 : BlkOk N__law_row (defScope s__law_row) (scp [(".0", .local), ("turn", .local), ("_law_pick", .globalImplicit), ("_law_roll", .globalImplicit), ("dice", .free), ("most", .free)]) [("turn", 3)] := blkOk_by (by decide +kernel)
theorem ok__law_row {f : Addr} {fd : FuncData} (Fu : Fun K "_law_row" "_law_row" s__law_row f fd) (T : Txt P K mg C fI) (hK : m.K = K) (hcl : m.cl 0 = some C) (C__law_roll : Cal P w K mg base m 2 "_law_roll" 1 F__law_roll []) (C__law_pick : Cal P w K mg base m 3 "_law_pick" 1 F__law_pick []) :
    FnOk P w K mg base (L2.CX P w) 4 f fd ["dice", "size", "most"] (spD m 3 F__law_row) :=
  okD Fu sc__law_row hK rfl rfl fun cdv A outer s H E F hm hE hr => by
    subst hm
    subst hE
    exact b_one (s_ret (e_tuple hK T.z_tuple (a_cons (e_lc rfl sc__law_row.nd (i_rng1 rfl T.z_range (e_add hK e_int (e_c C__law_roll hr passD (a_cons (e_var 0) (a_cons (e_var 1) a_nil))))) bk__law_row_1 (fun _ _ _ _ _ => gc_name 3 sc__law_row.nd) (fun _ _ _ _ _ => ts_nil) (fun _ _ _ _ _ => e_c C__law_pick hr passL (a_cons (e_var 0) (a_cons (e_lst (a_cons e_int (a_cons (e_c C__law_roll hr passL (a_cons (e_var 0) (a_cons (e_add hK (e_var 2) e_int) a_nil))) a_nil))) a_nil)))) a_nil)))
theorem ok__law_turn {f : Addr} {fd : FuncData} (Fu : Fun K "_law_turn" "_law_turn" s__law_turn f fd) (T : Txt P K mg C fI) (hK : m.K = K) (hcl : m.cl 0 = some C) (C__law_gcd : Cal P w K mg base m 2 "_law_gcd" 1 F__law_gcd []) :
    FnOk P w K mg base (L2.CX P w) 3 f fd ["one", "other"] (spD m 2 F__law_turn) :=
  okD Fu sc__law_turn hK rfl rfl fun cdv A outer s H E F hm hE hr => by
    subst hm
    subst hE
    exact b_one (s_ret (e_mul hK (e_div (e_var 0) (e_c C__law_gcd hr passD (a_cons (e_var 0) (a_cons (e_var 1) a_nil)))) (e_var 1)))
theorem bk__law_weather_1 : BlkOk N__law_weather (defScope s__law_weather) (scp [(".0", .local), ("low", .local), ("_law_roll", .globalImplicit), ("dice", .free), ("wide", .free)]) [("low", 5)] := blkOk_by (by decide +kernel)
theorem ok__law_weather {f : Addr} {fd : FuncData} (Fu : Fun K "_law_weather" "_law_weather" s__law_weather f fd) (T : Txt P K mg C fI) (hK : m.K = K) (hcl : m.cl 0 = some C) (C__law_row : Cal P w K mg base m 4 "_law_row" 2 F__law_row []) (C__law_roll : Cal P w K mg base m 2 "_law_roll" 1 F__law_roll []) :
    FnOk P w K mg base (L2.CX P w) 5 f fd ["dice", "size", "most", "wide"] (spD m 4 F__law_weather) :=
  okD Fu sc__law_weather hK rfl rfl fun cdv A outer s H E F hm hE hr => by
    subst hm
    subst hE
    exact b_cons (s_set 4 sc__law_weather.nd (e_c C__law_row hr passD (a_cons (e_var 0) (a_cons (e_var 1) (a_cons (e_var 2) a_nil))))) (b_one (s_ret (e_tup (a_cons (e_var 4) (a_cons (e_tuple hK T.z_tuple (a_cons (e_lc rfl sc__law_weather.nd (i_seq hK (e_var 4)) bk__law_weather_1 (fun _ _ _ _ _ => gc_name 5 sc__law_weather.nd) (fun _ _ _ _ _ => ts_nil) (fun _ _ _ _ _ => e_add hK (e_var 5) (e_c C__law_roll hr passL (a_cons (e_var 0) (a_cons (e_add hK (e_var 3) e_int) a_nil))))) a_nil)) a_nil)))))
theorem ok__law_holds {f : Addr} {fd : FuncData} (Fu : Fun K "_law_holds" "_law_holds" s__law_holds f fd) (T : Txt P K mg C fI) (hK : m.K = K) (hcl : m.cl 0 = some C)  :
    FnOk P w K mg base (L2.CX P w) 2 f fd ["size", "low", "high", "need", "patience", "level", "age", "later"] (spD m 8 F__law_holds) :=
  okD Fu sc__law_holds hK rfl rfl fun cdv A outer s H E F hm hE hr => by
    subst hm
    subst hE
    exact b_cons (s_for ownD rfl (i_rng2 rfl T.z_range (e_var 1) (e_add hK (e_var 2) e_int)) (g_name 8 sc__law_holds.nd) (b_cons (s_set 9 sc__law_holds.nd (e_if (t_lt (e_add hK (e_var 5) (e_var 8)) (e_var 0)) (e_add hK (e_var 5) (e_var 8)) (e_var 0))) (b_cons (s_set 10 sc__law_holds.nd (e_and (e_ge (e_var 9) (e_var 3)) (e_one (e_in hr hK (e_tup (a_cons (e_sub (e_var 9) (e_var 3)) (a_cons e_int a_nil))) (e_var 7))))) (b_one (s_if (t_w (w_and (t_not (t_val (e_var 10))) (w_and1 (t_not (t_w (w_and (t_lt (e_var 6) (e_var 4)) (w_and1 (t_in hr hK (e_tup (a_cons (e_var 9) (a_cons (e_add hK (e_var 6) e_int) a_nil))) (e_var 7))))))))) (b_one (s_ret e_bl)) b_nil))))) (b_one (s_ret e_bl))
theorem bk__law_lot_1 : BlkOk N__law_lot (defScope s__law_lot) (scp [(".0", .local), ("age", .local), ("level", .free)]) [("age", 15)] := blkOk_by (by decide +kernel)
theorem bk__law_lot_4 : BlkOk N__law_lot (defScope s__law_lot) (scp [(".0", .local), ("step", .local), ("list", .globalImplicit), ("every", .free)]) [("step", 7)] := blkOk_by (by decide +kernel)
theorem bk__law_lot_6 : BlkOk N__law_lot (defScope s__law_lot) (scp [(".0", .local), ("row", .local), ("len", .globalImplicit)]) [("row", 16)] := blkOk_by (by decide +kernel)
theorem bk__law_lot_7 : BlkOk N__law_lot (defScope s__law_lot) (scp [(".0", .local), ("one", .local), ("_law_holds", .globalImplicit), ("high", .free), ("later", .free), ("low", .free), ("need", .free), ("patience", .free), ("size", .free)]) [("one", 17)] := blkOk_by (by decide +kernel)
theorem bk__law_lot_10 : BlkOk N__law_lot (defScope s__law_lot) (scp [(".0", .local), ("row", .local), ("len", .globalImplicit)]) [("row", 16)] := blkOk_by (by decide +kernel)
theorem ok__law_lot {f : Addr} {fd : FuncData} (Fu : Fun K "_law_lot" "_law_lot" s__law_lot f fd) (T : Txt P K mg C fI) (hK : m.K = K) (hcl : m.cl 0 = some C) (C__law_turn : Cal P w K mg base m 3 "_law_turn" 1 F__law_turn []) (C__law_holds : Cal P w K mg base m 2 "_law_holds" 7 F__law_holds []) :
    FnOk P w K mg base (L2.CX P w) 4 f fd ["size", "weather", "needs", "patience"] (spD m 4 F__law_lot) :=
  okD Fu sc__law_lot hK rfl rfl fun cdv A outer s H E F hm hE hr => by
    subst hm
    subst hE
    exact b_cons (s_set 4 sc__law_lot.nd (e_c C__law_turn hr passD (a_cons (e_len hK T.z_len (a_cons (e_ixN 1 hK e_int) a_nil)) (a_cons (e_ln 2 hK T.z_len) a_nil)))) (b_cons (s_set 5 sc__law_lot.nd (e_lst a_nil)) (b_cons (s_for ownD rfl (i_rng1 rfl T.z_range (e_add hK (e_var 0) e_int)) (g_name 6 sc__law_lot.nd) (b_one (s_set 5 sc__law_lot.nd (e_add hK (e_var 5) (e_lc rfl sc__law_lot.nd (i_rng1 rfl T.z_range (e_add hK (e_var 3) e_int)) bk__law_lot_1 (fun _ _ _ _ _ => gc_name 15 sc__law_lot.nd) (fun _ _ _ _ _ => ts_nil) (fun _ _ _ _ _ => e_tup (a_cons (e_var 6) (a_cons (e_var 15) a_nil)))))))) (b_cons (s_lc 8 rfl sc__law_lot.nd (i_rng1 rfl T.z_range (e_var 4)) bk__law_lot_4 (fun _ _ _ _ _ => gc_name 7 sc__law_lot.nd) (fun _ _ _ _ _ => ts_nil) (fun _ _ _ _ _ => e_list hK T.z_list (a_cons (e_var 5) a_nil)) (by rfl)) (b_cons (s_for ownD rfl (i_rng1 rfl T.z_range e_int) (g_name 9 sc__law_lot.nd) (b_cons (s_set 10 sc__law_lot.nd (e_sumLen 8 16 hK rfl sc__law_lot.nd T.z_sum bk__law_lot_6 (fun _ _ _ _ _ => pg_name (i := 16) sc__law_lot.nd rfl (Or.inl rfl)) (fun _ _ _ _ _ => pe_callB call_len_seq rfl T.z_len PySem.boot_len (pa_cons (pe_var (i := 16) rfl (Or.inl rfl)) pa_nil)))) (b_cons (s_for ownD rfl (i_down rfl T.z_range (e_sub (e_var 4) e_int) (e_neg e_int)) (g_name 7 sc__law_lot.nd) (b_cons (s_parT3 11 12 13 rfl sc__law_lot.nd (e_ix hK (e_ixN 1 hK e_int) (e_mod (e_var 7) (e_len hK T.z_len (a_cons (e_ixN 1 hK e_int) a_nil)))) (e_ix hK (e_ixN 1 hK e_int) (e_mod (e_var 7) (e_len hK T.z_len (a_cons (e_ixN 1 hK e_int) a_nil)))) (e_ixN 2 hK (e_mod (e_var 7) (e_ln 2 hK T.z_len)))) (b_cons (s_set 14 sc__law_lot.nd (e_ixN 8 hK (e_mod (e_add hK (e_var 7) e_int) (e_var 4)))) (b_one (s_store 8 (e_var 7) (e_lc rfl sc__law_lot.nd (i_seq hK (e_ixN 8 hK (e_var 7))) bk__law_lot_7 (fun _ _ _ _ _ => gc_name 17 sc__law_lot.nd) (fun _ _ _ _ _ => ts_one (t_val (e_c C__law_holds hr passL (a_cons (e_var 0) (a_cons (e_var 11) (a_cons (e_var 12) (a_cons (e_var 13) (a_cons (e_var 3) (a_cons (e_ixN 17 hK e_int) (a_cons (e_ixN 17 hK e_int) (a_cons (e_var 14) a_nil))))))))))) (fun _ _ _ _ _ => e_var 17))))))) (b_one (s_if (t_eq hr hK (e_sumLen 8 16 hK rfl sc__law_lot.nd T.z_sum bk__law_lot_10 (fun _ _ _ _ _ => pg_name (i := 16) sc__law_lot.nd rfl (Or.inl rfl)) (fun _ _ _ _ _ => pe_callB call_len_seq rfl T.z_len PySem.boot_len (pa_cons (pe_var (i := 16) rfl (Or.inl rfl)) pa_nil))) (e_var 10)) (b_one s_break) b_nil))))) (b_one (s_retV 8))))))
theorem ok__law_longest {f : Addr} {fd : FuncData} (Fu : Fun K "_law_longest" "_law_longest" s__law_longest f fd) (T : Txt P K mg C fI) (hK : m.K = K) (hcl : m.cl 0 = some C)  :
    FnOk P w K mg base (L2.CX P w) 2 f fd ["size", "level", "rains", "needs", "patience", "age", "most"] (spD m 7 F__law_longest) :=
  okD Fu sc__law_longest hK rfl rfl fun cdv A outer s H E F hm hE hr => by
    subst hm
    subst hE
    exact b_cons (s_set 7 sc__law_longest.nd (e_lst (a_cons (e_tup (a_cons (e_var 1) (a_cons (e_var 5) a_nil))) a_nil))) (b_cons (s_for ownD rfl (i_rng1 rfl T.z_range (e_var 6)) (g_name 8 sc__law_longest.nd) (b_cons (s_par3 9 10 11 rfl sc__law_longest.nd (e_ixN 2 hK (e_mod (e_var 8) (e_ln 2 hK T.z_len))) (e_ixN 3 hK (e_mod (e_var 8) (e_ln 3 hK T.z_len))) (e_lst a_nil)) (b_cons (s_for ownD rfl (i_seq hK (e_var 7)) (g_tup rfl hK (gs_cons (g_name 12 sc__law_longest.nd) (gs_cons (g_name 13 sc__law_longest.nd) gs_nil)) (gsCons_len (gsCons_len gsNil_len))) (b_cons (s_set 14 sc__law_longest.nd (e_if (t_lt (e_add hK (e_var 12) (e_var 9)) (e_var 0)) (e_add hK (e_var 12) (e_var 9)) (e_var 0))) (b_cons (s_if (t_ge (e_var 14) (e_var 10)) (b_one (s_app 11 (e_tup (a_cons (e_sub (e_var 14) (e_var 10)) (a_cons e_int a_nil))))) b_nil) (b_one (s_if (t_lt (e_var 13) (e_var 4)) (b_one (s_app 11 (e_tup (a_cons (e_var 14) (a_cons (e_add hK (e_var 13) e_int) a_nil))))) b_nil))))) (b_cons (s_set 7 sc__law_longest.nd (e_sortSetP hK rfl hr T.z_sorted rfl T.z_set rfl (e_var 11))) (b_one (s_if (t_eq hr hK (e_ln 7 hK T.z_len) e_int) (b_one (s_retV 8)) b_nil)))))) (b_one (s_retV 6)))
theorem ok_least_tub {f : Addr} {fd : FuncData} (Fu : Fun K "least_tub" "least_tub" s_least_tub f fd) (T : Txt P K mg C fI) (hK : m.K = K) (hcl : m.cl 0 = some C) (C_need_plant : Cal P w K mg base m 8 "need_plant" 3 F_need_plant []) (C_lives : Cal P w K mg base m 6 "lives" 3 F_lives []) :
    FnOk P w K mg base (L2.CX P w) 9 f fd ["weather", "needs", "patience"] (spD m 3 F_least_tub) :=
  okD Fu sc_least_tub hK rfl rfl fun cdv A outer s H E F hm hE hr => by
    subst hm
    subst hE
    exact b_cons (s_expr (e_c C_need_plant hr passD (a_cons e_int (a_cons (e_var 0) (a_cons (e_var 1) (a_cons (e_var 2) a_nil)))))) (b_cons (s_set 3 sc_least_tub.nd e_int) (b_cons (s_set 4 sc_least_tub.nd (e_add hK (e_gI T.k_MOST_TUB) e_int)) (b_cons (s_while 1000000000000000 ownD (t_lt (e_var 3) (e_var 4)) (b_cons (s_set 5 sc_least_tub.nd (e_div (e_add hK (e_var 3) (e_var 4)) e_int)) (b_one (s_if (t_w (w_or (t_gt (e_var 5) (e_gI T.k_MOST_TUB)) (w_or1 (t_val (e_c C_lives hr passD (a_cons (e_var 5) (a_cons (e_var 0) (a_cons (e_var 1) (a_cons (e_var 2) a_nil))))))))) (b_one (s_set 4 sc_least_tub.nd (e_var 5))) (b_one (s_set 3 sc_least_tub.nd (e_add hK (e_var 5) e_int))))))) (b_one (s_ret (e_if (t_le (e_var 3) (e_gI T.k_MOST_TUB)) (e_var 3) e_non))))))
theorem ok_dying_steps {f : Addr} {fd : FuncData} (Fu : Fun K "dying_steps" "dying_steps" s_dying_steps f fd) (T : Txt P K mg C fI) (hK : m.K = K) (hcl : m.cl 0 = some C) (C_need_integer : Cal P w K mg base m 3 "need_integer" 3 F_need_integer []) (C_need_plant : Cal P w K mg base m 8 "need_plant" 3 F_need_plant []) (C_book_of : Cal P w K mg base m 5 "book_of" 3 F_book_of []) (C_next_states : Cal P w K mg base m 2 "next_states" 4 F_next_states []) (C_amount_at : Cal P w K mg base m 2 "amount_at" 1 F_amount_at []) :
    FnOk P w K mg base (L2.CX P w) 9 f fd ["size", "level", "weather", "needs", "patience", "age"] (spD m 6 F_dying_steps) :=
  okD Fu sc_dying_steps hK rfl rfl fun cdv A outer s H E F hm hE hr => by
    subst hm
    subst hE
    exact b_cons (s_expr (e_c C_need_integer hr passD (a_cons (e_var 0) (a_cons e_str (a_cons e_int (a_cons (e_gI T.k_MOST_TUB) a_nil)))))) (b_cons (s_expr (e_c C_need_integer hr passD (a_cons (e_var 1) (a_cons e_str (a_cons e_int (a_cons (e_var 0) a_nil)))))) (b_cons (s_expr (e_c C_need_plant hr passD (a_cons (e_var 0) (a_cons (e_var 2) (a_cons (e_var 3) (a_cons (e_var 4) a_nil)))))) (b_cons (s_expr (e_c C_need_integer hr passD (a_cons (e_var 5) (a_cons e_str (a_cons e_int (a_cons (e_var 4) a_nil)))))) (b_cons (s_set 6 sc_dying_steps.nd (e_c C_book_of hr passD (a_cons (e_var 0) (a_cons (e_var 2) (a_cons (e_var 3) (a_cons (e_var 4) a_nil)))))) (b_cons (s_if (t_w (w_and (t_notN (e_ix hK (e_ixN 6 hK e_int) (e_var 5)) e_non) (w_and1 (t_ge (e_var 1) (e_ix hK (e_ixN 6 hK e_int) (e_var 5)))))) (b_one (s_ret e_non)) b_nil) (b_cons (s_set 7 sc_dying_steps.nd (e_dispV 1 5 hr)) (b_cons (s_set 8 sc_dying_steps.nd e_int) (b_cons (s_while 1000000000000000 ownD (t_gt (e_ln 7 hK T.z_len) e_int) (b_cons (s_set 7 sc_dying_steps.nd (e_c C_next_states hr passD (a_cons (e_var 0) (a_cons (e_var 7) (a_cons (e_c C_amount_at hr passD (a_cons (e_ixN 2 hK e_int) (a_cons (e_var 8) a_nil))) (a_cons (e_c C_amount_at hr passD (a_cons (e_var 3) (a_cons (e_var 8) a_nil))) (a_cons (e_var 4) a_nil))))))) (b_one (s_augAdd 8 sc_dying_steps.nd e_int)))) (b_one (s_ret (e_sub (e_var 8) e_int)))))))))))
theorem bk__law_right_1 : BlkOk N__law_right (defScope s__law_right) (scp [(".0", .local), ("level", .local), ("own", .local), ("age", .free)]) [("level", 7), ("own", 20)] := blkOk_by (by decide +kernel)
theorem ls__law_right_6 : LamX.LamS (defScope s__law_right) (scp [("needs", .free), ("weather", .free), ("least_tub", .globalImplicit)]) := LamX.lamS_by (by decide +kernel)
theorem ls__law_right_8 : LamX.LamS (defScope s__law_right) (scp [("least_tub", .globalImplicit)]) := LamX.lamS_by (by decide +kernel)
theorem ls__law_right_10 : LamX.LamS (defScope s__law_right) (scp [("needs", .free), ("patience", .free), ("size", .free), ("weather", .free), ("dying_steps", .globalImplicit)]) := LamX.lamS_by (by decide +kernel)
theorem ls__law_right_12 : LamX.LamS (defScope s__law_right) (scp [("size", .free), ("dying_steps", .globalImplicit)]) := LamX.lamS_by (by decide +kernel)
theorem ls__law_right_14 : LamX.LamS (defScope s__law_right) (scp [("needs", .free), ("patience", .free), ("size", .free), ("weather", .free), ("may_water", .globalImplicit)]) := LamX.lamS_by (by decide +kernel)
theorem ls__law_right_16 : LamX.LamS (defScope s__law_right) (scp [("needs", .free), ("size", .free), ("whole_book", .globalImplicit)]) := LamX.lamS_by (by decide +kernel)
theorem ls__law_right_18 : LamX.LamS (defScope s__law_right) (scp [("needs", .free), ("patience", .free), ("size", .free), ("weather", .free), ("enough", .globalImplicit)]) := LamX.lamS_by (by decide +kernel)
theorem ls__law_right_20 : LamX.LamS (defScope s__law_right) (scp [("needs", .free), ("patience", .free), ("size", .free), ("weather", .free), ("enough", .globalImplicit)]) := LamX.lamS_by (by decide +kernel)
theorem ls__law_right_22 : LamX.LamS (defScope s__law_right) (scp [("needs", .free), ("size", .free), ("weather", .free), ("enough", .globalImplicit)]) := LamX.lamS_by (by decide +kernel)
theorem ls__law_right_24 : LamX.LamS (defScope s__law_right) (scp [("size", .free), ("weather", .free), ("enough", .globalImplicit)]) := LamX.lamS_by (by decide +kernel)
theorem ls__law_right_26 : LamX.LamS (defScope s__law_right) (scp [("size", .free), ("enough", .globalImplicit)]) := LamX.lamS_by (by decide +kernel)
theorem ls__law_right_28 : LamX.LamS (defScope s__law_right) (scp [("enough", .globalImplicit)]) := LamX.lamS_by (by decide +kernel)
theorem ok__law_right {f : Addr} {fd : FuncData} {c Pt : Addr} (Fu : FunC K "_law_right" "_law_right" s__law_right f fd c) (TB : LamX.TabB base mg c Pt) (hT : (Pt, some (("_law_right" : Str) ++ ".<locals>." ++ "<lambda>")) ∈ m.T) (hu : ∀ p ∈ m.T, p.1 = Pt → p.2 = some (("_law_right" : Str) ++ ".<locals>." ++ "<lambda>")) (R : RefAt K mg C) (T : Txt P K mg C fI) (hK : m.K = K) (hcl : m.cl 0 = some C) (C__law_roll : Cal P w K mg base m 2 "_law_roll" 1 F__law_roll []) (C__law_weather : Cal P w K mg base m 5 "_law_weather" 3 F__law_weather []) (C__law_row : Cal P w K mg base m 4 "_law_row" 2 F__law_row []) (C__law_turn : Cal P w K mg base m 3 "_law_turn" 1 F__law_turn []) (C__law_lot : Cal P w K mg base m 4 "_law_lot" 3 F__law_lot []) (C_whole_book : Cal P w K mg base m 9 "whole_book" 3 F_whole_book [(3, ["patience"])]) (C_enough : Cal P w K mg base m 9 "enough" 5 F_enough [(5, ["age"])]) (C_may_water : Cal P w K mg base m 9 "may_water" 6 F_may_water [(6, ["held"])]) (C_dying_steps : Cal P w K mg base m 9 "dying_steps" 5 F_dying_steps [(5, ["age"])]) (C__law_longest : Cal P w K mg base m 2 "_law_longest" 6 F__law_longest []) (C_least_tub : Cal P w K mg base m 9 "least_tub" 2 F_least_tub [(2, ["patience"])]) :
    FnOk P w K mg base (L2.CX P w) 12 f fd ["dice"] (spD m 1 F__law_right) :=
  okDC Fu sc__law_right hK rfl rfl fun A outer s H E F hm hE hr => by
    subst hm
    subst hE
    exact b_cons (s_parT 18 17 rfl sc__law_right.nd (e_add hK e_int (e_c C__law_roll hr passD (a_cons (e_var 0) (a_cons e_int a_nil)))) (e_c C__law_roll hr passD (a_cons (e_var 0) (a_cons e_int a_nil)))) (b_cons (s_parT 19 16 rfl sc__law_right.nd (e_c C__law_weather hr passD (a_cons (e_var 0) (a_cons e_int (a_cons e_int (a_cons e_int a_nil))))) (e_c C__law_row hr passD (a_cons (e_var 0) (a_cons e_int (a_cons e_int a_nil))))) (b_cons (s_par 1 2 rfl sc__law_right.nd (e_c C__law_turn hr passD (a_cons (e_len hK T.z_len (a_cons (e_ixN 19 hK e_int) a_nil)) (a_cons (e_ln 16 hK T.z_len) a_nil))) (e_c C__law_lot hr passD (a_cons (e_var 18) (a_cons (e_var 19) (a_cons (e_var 16) (a_cons (e_var 17) a_nil)))))) (b_cons (s_set 3 sc__law_right.nd (e_lst a_nil)) (b_cons (s_for ownD rfl (i_rng1 rfl T.z_range (e_var 1)) (g_name 4 sc__law_right.nd) (b_cons (s_set 5 sc__law_right.nd (e_lst a_nil)) (b_cons (s_for ownD rfl (i_rng1 rfl T.z_range (e_add hK (e_var 17) e_int)) (g_name 6 sc__law_right.nd) (b_cons (s_lc 8 rfl sc__law_right.nd (i_seq hK (e_ixN 2 hK (e_var 4))) bk__law_right_1 (fun _ _ _ _ _ => gc_tup rfl hK (gsc_cons (gc_name 7 sc__law_right.nd) (gsc_cons (gc_name 20 sc__law_right.nd) gsc_nil))) (fun _ _ _ _ _ => ts_one (t_eq hr hK (e_var 20) (e_var 6))) (fun _ _ _ _ _ => e_var 7) (by rfl)) (b_cons (s_app 5 (e_if (t_gt (e_ln 8 hK T.z_len) e_int) (e_min hK rfl T.z_min (a_cons (e_var 8) a_nil)) e_non)) (b_one (s_if (t_w (w_and (t_gt (e_ln 8 hK T.z_len) e_int) (w_and1 (t_ne hr hK (e_sorted hK T.z_sorted (a_cons (e_var 8) a_nil)) (e_lstRg rfl T.z_list rfl T.z_range rfl (e_min hK rfl T.z_min (a_cons (e_var 8) a_nil)) (e_add hK (e_var 18) e_int)))))) (b_one (s_ret e_bl)) b_nil))))) (b_one (s_app 3 (e_tuple hK T.z_tuple (a_cons (e_var 5) a_nil))))))) (b_cons (s_if (t_ne hr hK (e_ck C_whole_book hr passD (a_cons (e_var 18) (a_cons (e_var 19) (a_cons (e_var 16) a_nil))) (k_cons (e_var 17) k_nil) (List.mem_cons_self ..)) (e_tuple hK T.z_tuple (a_cons (e_var 3) a_nil))) (b_one (s_ret e_bl)) b_nil) (b_cons (s_parT3 4 6 9 rfl sc__law_right.nd (e_c C__law_roll hr passD (a_cons (e_var 0) (a_cons (e_pow e_int e_int) a_nil))) (e_c C__law_roll hr passD (a_cons (e_var 0) (a_cons (e_add hK (e_var 17) e_int) a_nil))) (e_c C__law_roll hr passD (a_cons (e_var 0) (a_cons (e_add hK (e_var 18) e_int) a_nil)))) (b_cons (s_if (t_ne hr hK (e_ck C_enough hr passD (a_cons (e_var 18) (a_cons (e_var 19) (a_cons (e_var 16) (a_cons (e_var 17) (a_cons (e_var 4) a_nil))))) (k_cons (e_var 6) k_nil) (List.mem_cons_self ..)) (e_ix hK (e_ixN 3 hK (e_mod (e_var 4) (e_var 1))) (e_var 6))) (b_one (s_ret e_bl)) b_nil) (b_cons (s_par3 10 11 12 rfl sc__law_right.nd (e_ixN 2 hK (e_mod (e_add hK (e_var 4) e_int) (e_var 1))) (e_ixN 16 hK (e_mod (e_var 4) (e_ln 16 hK T.z_len))) (e_lst a_nil)) (b_cons (s_if (t_w (w_and (t_ge (e_var 9) (e_var 11)) (w_and1 (t_in hr hK (e_tup (a_cons (e_sub (e_var 9) (e_var 11)) (a_cons e_int a_nil))) (e_var 10))))) (b_one (s_app 12 e_str)) b_nil) (b_cons (s_if (t_w (w_and (t_lt (e_var 6) (e_var 17)) (w_and1 (t_in hr hK (e_tup (a_cons (e_var 9) (a_cons (e_add hK (e_var 6) e_int) a_nil))) (e_var 10))))) (b_one (s_app 12 e_str)) b_nil) (b_cons (s_if (t_ne hr hK (e_ck C_may_water hr passD (a_cons (e_var 18) (a_cons (e_var 19) (a_cons (e_var 16) (a_cons (e_var 17) (a_cons (e_var 4) (a_cons (e_var 6) a_nil)))))) (k_cons (e_var 9) k_nil) (List.mem_cons_self ..)) (e_tuple hK T.z_tuple (a_cons (e_var 12) a_nil))) (b_one (s_ret e_bl)) b_nil) (b_cons (s_set 7 sc__law_right.nd (e_c C__law_roll hr passD (a_cons (e_var 0) (a_cons (e_add hK (e_var 18) e_int) a_nil)))) (b_cons (s_set 13 sc__law_right.nd (e_ck C_dying_steps hr passD (a_cons (e_var 18) (a_cons (e_var 7) (a_cons (e_var 19) (a_cons (e_var 16) (a_cons (e_var 17) a_nil))))) (k_cons (e_var 6) k_nil) (List.mem_cons_self ..))) (b_cons (s_if (t_ne hr hK (e_isN (e_var 13) e_non) (e_in hr hK (e_tup (a_cons (e_var 7) (a_cons (e_var 6) a_nil))) (e_ixN 2 hK e_int))) (b_one (s_ret e_bl)) b_nil) (b_cons (s_if (t_w (w_and (t_notN (e_var 13) e_non) (w_and1 (t_ne hr hK (e_var 13) (e_c C__law_longest hr passD (a_cons (e_var 18) (a_cons (e_var 7) (a_cons (e_ixN 19 hK e_int) (a_cons (e_var 16) (a_cons (e_var 17) (a_cons (e_var 6) (a_cons (e_add hK (e_var 13) e_int) a_nil)))))))))))) (b_one (s_ret e_bl)) b_nil) (b_cons (s_set 14 sc__law_right.nd (e_ck C_least_tub hr passD (a_cons (e_var 19) (a_cons (e_var 16) a_nil)) (k_cons (e_var 17) k_nil) (List.mem_cons_self ..))) (b_cons (s_if (t_w (w_or (t_isN (e_var 14) e_non) (w_or1 (t_gt (e_var 14) e_int)))) (b_one (s_if (t_in hr hK (e_tup (a_cons e_int (a_cons e_int a_nil))) (e_ix hK (e_c C__law_lot hr passD (a_cons e_int (a_cons (e_var 19) (a_cons (e_var 16) (a_cons (e_var 17) a_nil))))) e_int)) (b_one (s_ret e_bl)) b_nil)) (b_one (s_if (t_nin hr hK (e_tup (a_cons (e_var 14) (a_cons e_int a_nil))) (e_ix hK (e_c C__law_lot hr passD (a_cons (e_var 14) (a_cons (e_var 19) (a_cons (e_var 16) (a_cons (e_var 17) a_nil))))) e_int)) (b_one (s_ret e_bl)) (b_one (s_if (t_w (w_and (t_gt (e_var 14) e_int) (w_and1 (t_in hr hK (e_tup (a_cons (e_sub (e_var 14) e_int) (a_cons e_int a_nil))) (e_ix hK (e_c C__law_lot hr passD (a_cons (e_sub (e_var 14) e_int) (a_cons (e_var 19) (a_cons (e_var 16) (a_cons (e_var 17) a_nil))))) e_int))))) (b_one (s_ret e_bl)) b_nil))))) (b_cons (s_set 15 sc__law_right.nd (e_lst (a_cons (e_rf R hcl TB rfl hT hu hr ls__law_right_28 (fun F2 A2 o2 s2 H2 f2 c2 hm2 hr2 => e_c (C_enough.to hm2) hr2 passLam (a_cons e_int (a_cons e_non (a_cons e_non (a_cons e_non (a_cons e_non (a_cons e_non a_nil)))))))) (a_cons (e_rf R hcl TB rfl hT hu hr ls__law_right_26 (fun F2 A2 o2 s2 H2 f2 c2 hm2 hr2 => e_c (C_enough.to hm2) hr2 passLam (a_cons (e_var 18) (a_cons e_non (a_cons e_non (a_cons e_non (a_cons e_non (a_cons e_non a_nil)))))))) (a_cons (e_rf R hcl TB rfl hT hu hr ls__law_right_24 (fun F2 A2 o2 s2 H2 f2 c2 hm2 hr2 => e_c (C_enough.to hm2) hr2 passLam (a_cons (e_var 18) (a_cons (e_var 19) (a_cons (e_mul ((congrArg Pm.K hm2).trans hK) (e_tup (a_cons e_int a_nil)) e_int) (a_cons e_non (a_cons e_non (a_cons e_non a_nil)))))))) (a_cons (e_rf R hcl TB rfl hT hu hr ls__law_right_22 (fun F2 A2 o2 s2 H2 f2 c2 hm2 hr2 => e_c (C_enough.to hm2) hr2 passLam (a_cons (e_var 18) (a_cons (e_var 19) (a_cons (e_var 16) (a_cons e_int (a_cons e_non (a_cons e_non a_nil)))))))) (a_cons (e_rf R hcl TB rfl hT hu hr ls__law_right_20 (fun F2 A2 o2 s2 H2 f2 c2 hm2 hr2 => e_c (C_enough.to hm2) hr2 passLam (a_cons (e_var 18) (a_cons (e_var 19) (a_cons (e_var 16) (a_cons (e_var 17) (a_cons (e_neg e_int) (a_cons e_non a_nil)))))))) (a_cons (e_rf R hcl TB rfl hT hu hr ls__law_right_18 (fun F2 A2 o2 s2 H2 f2 c2 hm2 hr2 => e_c (C_enough.to hm2) hr2 passLam (a_cons (e_var 18) (a_cons (e_var 19) (a_cons (e_var 16) (a_cons (e_var 17) (a_cons e_int (a_cons (e_add ((congrArg Pm.K hm2).trans hK) (e_var 17) e_int) a_nil)))))))) (a_cons (e_rf R hcl TB rfl hT hu hr ls__law_right_16 (fun F2 A2 o2 s2 H2 f2 c2 hm2 hr2 => e_c (C_whole_book.to hm2) hr2 passLam (a_cons (e_var 18) (a_cons (e_tup (a_cons (e_mul ((congrArg Pm.K hm2).trans hK) (e_tup (a_cons e_int a_nil)) e_int) (a_cons (e_mul ((congrArg Pm.K hm2).trans hK) (e_tup (a_cons e_int a_nil)) e_int) a_nil))) (a_cons (e_var 16) (a_cons e_int a_nil)))))) (a_cons (e_rf R hcl TB rfl hT hu hr ls__law_right_14 (fun F2 A2 o2 s2 H2 f2 c2 hm2 hr2 => e_c (C_may_water.to hm2) hr2 passLam (a_cons (e_var 18) (a_cons (e_var 19) (a_cons (e_var 16) (a_cons (e_var 17) (a_cons e_int (a_cons e_int (a_cons (e_add ((congrArg Pm.K hm2).trans hK) (e_var 18) e_int) a_nil))))))))) (a_cons (e_rf R hcl TB rfl hT hu hr ls__law_right_12 (fun F2 A2 o2 s2 H2 f2 c2 hm2 hr2 => e_c (C_dying_steps.to hm2) hr2 passLam (a_cons (e_var 18) (a_cons (e_add ((congrArg Pm.K hm2).trans hK) (e_var 18) e_int) (a_cons e_non (a_cons e_non (a_cons e_non (a_cons e_non a_nil)))))))) (a_cons (e_rf R hcl TB rfl hT hu hr ls__law_right_10 (fun F2 A2 o2 s2 H2 f2 c2 hm2 hr2 => e_c (C_dying_steps.to hm2) hr2 passLam (a_cons (e_var 18) (a_cons e_int (a_cons (e_var 19) (a_cons (e_var 16) (a_cons (e_var 17) (a_cons e_bl a_nil)))))))) (a_cons (e_rf R hcl TB rfl hT hu hr ls__law_right_8 (fun F2 A2 o2 s2 H2 f2 c2 hm2 hr2 => e_c (C_least_tub.to hm2) hr2 passLam (a_cons e_non (a_cons e_non (a_cons e_non a_nil))))) (a_cons (e_rf R hcl TB rfl hT hu hr ls__law_right_6 (fun F2 A2 o2 s2 H2 f2 c2 hm2 hr2 => e_c (C_least_tub.to hm2) hr2 passLam (a_cons (e_var 19) (a_cons (e_var 16) (a_cons (e_neg e_int) a_nil))))) a_nil)))))))))))))) (b_cons (s_set 12 sc__law_right.nd (e_lst (a_cons e_str (a_cons e_str (a_cons e_str (a_cons e_str (a_cons e_str (a_cons e_str (a_cons e_str (a_cons e_str (a_cons e_str (a_cons e_str (a_cons e_str (a_cons e_str a_nil)))))))))))))) (b_one (s_ret (e_eq hr hK (e_var 15) (e_var 12)))))))))))))))))))))))
theorem ok_law {f : Addr} {fd : FuncData} (Fu : Fun K "law" "law" s_law f fd) (T : Txt P K mg C fI) (hK : m.K = K) (hcl : m.cl 0 = some C) (C__law_right : Cal P w K mg base m 12 "_law_right" 0 F__law_right []) (C__law_dice : Cal P w K mg base m 2 "_law_dice" 1 F__law_dice []) :
    FnOk P w K mg base (L2.CX P w) 13 f fd ["script"] (spLaw m F_law) :=
  okLaw Fu sc_law hK rfl fun cdv A outer s H E F hm hE hδ hr => by
    subst hm
    subst hE
    exact b_cons (s_for ownD rfl (i_rng1 rfl T.z_range (e_max hK rfl T.z_max (a_cons e_int (a_cons (e_min hK rfl T.z_min (a_cons e_int (a_cons (e_ln 0 hK T.z_len) a_nil))) a_nil)))) (g_name 1 sc_law.nd) (b_one (s_if (t_not (t_val (e_cell' hδ C__law_right hr passD (e_c C__law_dice hr passD (a_cons (e_var 0) (a_cons (e_var 1) a_nil)))))) (b_one (s_ret e_bl)) b_nil))) (b_one (s_ret e_bl))
end
end K10

set_option Elab.async false
set_option linter.all false
set_option maxRecDepth 100000
set_option maxHeartbeats 40000000
/-! K10z: the end of rainkept_k10_whole_patience, printed by gen.py. -/
namespace K10
open PySem PySem.Spec L2 DL
open PyProof.Rows hiding St
abbrev s__law_refused : Stmt := top 35
theorem all_mk {l : PySem.W.OpenLaw} {qq : Program} {w : World} {K : PySem.W.Frag} {h : Heap} {mg : Str → Option Value} {fa : Addr} (X : K.In h) (G : h.Ns mainGlobals mg) (hfa : mg "law" = some (.ref fa))
    (tb : ∀ (y : Str) (c P : Addr), ((recsOf qq).find? fun e => e.name == y).isSome = true → PySem.W.tabIn K y = some (c, P) → PySem.W.CodeHd h c P ∧ h.get? P = some { cls := .none, data := .fields #[] })
    {C f1 Nn cda cc : Addr}
    {nm q qn : Str}
    {bs : List Value}
    {sn : List Str}
    {sub : List Value}
    {ab : Bool}
    {col : Option Bool}
    {dd od1 an1 cdd cld : Option Addr}
    {m0 m1 m2 m3 m5 : Option Value}
    {sl1 ccs csl : Array (Option Value)}
    {vs : Array Value}
    {file : Str}
    {tf : Tok}
    {oc1 kV1 dc1 pm1 ct1 ccl cl : Value}
    {tk_MOST_AMOUNT : Tok}
    {tk_MOST_PATIENCE : Tok}
    {tk_MOST_ROW : Tok}
    {tk_MOST_STEP : Tok}
    {tk_MOST_TUB : Tok}
    {tk_MOST_TURN_ROW : Tok}
    {f_is_integer : Addr} {od_is_integer an_is_integer : Option Addr} {sl_is_integer : Array (Option Value)} {oc_is_integer kV_is_integer dc_is_integer pm_is_integer cd_is_integer ct_is_integer : Value}
    {f_need_integer : Addr} {od_need_integer an_need_integer : Option Addr} {sl_need_integer : Array (Option Value)} {oc_need_integer kV_need_integer dc_need_integer pm_need_integer cd_need_integer ct_need_integer : Value}
    {f_is_row c_is_row P_is_row : Addr} {od_is_row an_is_row : Option Addr} {sl_is_row : Array (Option Value)} {oc_is_row kV_is_row dc_is_row pm_is_row ct_is_row : Value}
    {cc_is_row : Value} {cdd_is_row : Option Addr} {vs_is_row : Array Value} {cs_is_row : Array (Option Value)}
    {f_need_row : Addr} {od_need_row an_need_row : Option Addr} {sl_need_row : Array (Option Value)} {oc_need_row kV_need_row dc_need_row pm_need_row cd_need_row ct_need_row : Value}
    {f_common : Addr} {od_common an_common : Option Addr} {sl_common : Array (Option Value)} {oc_common kV_common dc_common pm_common cd_common ct_common : Value}
    {f_least_common : Addr} {od_least_common an_least_common : Option Addr} {sl_least_common : Array (Option Value)} {oc_least_common kV_least_common dc_least_common pm_least_common cd_least_common ct_least_common : Value}
    {f_amount_at : Addr} {od_amount_at an_amount_at : Option Addr} {sl_amount_at : Array (Option Value)} {oc_amount_at kV_amount_at dc_amount_at pm_amount_at cd_amount_at ct_amount_at : Value}
    {f_turn_of : Addr} {od_turn_of an_turn_of : Option Addr} {sl_turn_of : Array (Option Value)} {oc_turn_of kV_turn_of dc_turn_of pm_turn_of cd_turn_of ct_turn_of : Value}
    {f_is_weather c_is_weather P_is_weather : Addr} {od_is_weather an_is_weather : Option Addr} {sl_is_weather : Array (Option Value)} {oc_is_weather kV_is_weather dc_is_weather pm_is_weather ct_is_weather : Value}
    {cc_is_weather : Value} {cdd_is_weather : Option Addr} {vs_is_weather : Array Value} {cs_is_weather : Array (Option Value)}
    {f_need_weather : Addr} {od_need_weather an_need_weather : Option Addr} {sl_need_weather : Array (Option Value)} {oc_need_weather kV_need_weather dc_need_weather pm_need_weather cd_need_weather ct_need_weather : Value}
    {f_need_plant : Addr} {od_need_plant an_need_plant : Option Addr} {sl_need_plant : Array (Option Value)} {oc_need_plant kV_need_plant dc_need_plant pm_need_plant cd_need_plant ct_need_plant : Value}
    {f_enough_before : Addr} {od_enough_before an_enough_before : Option Addr} {sl_enough_before : Array (Option Value)} {oc_enough_before kV_enough_before dc_enough_before pm_enough_before cd_enough_before ct_enough_before : Value}
    {f_book_of : Addr} {od_book_of an_book_of : Option Addr} {sl_book_of : Array (Option Value)} {oc_book_of kV_book_of dc_book_of pm_book_of cd_book_of ct_book_of : Value}
    {f_enough : Addr} {od_enough an_enough : Option Addr} {sl_enough : Array (Option Value)} {oc_enough kV_enough dc_enough pm_enough cd_enough ct_enough : Value}
    {f_whole_book : Addr} {od_whole_book an_whole_book : Option Addr} {sl_whole_book : Array (Option Value)} {oc_whole_book kV_whole_book dc_whole_book pm_whole_book cd_whole_book ct_whole_book : Value}
    {f_may_water : Addr} {od_may_water an_may_water : Option Addr} {sl_may_water : Array (Option Value)} {oc_may_water kV_may_water dc_may_water pm_may_water cd_may_water ct_may_water : Value}
    {f_lives : Addr} {od_lives an_lives : Option Addr} {sl_lives : Array (Option Value)} {oc_lives kV_lives dc_lives pm_lives cd_lives ct_lives : Value}
    {f_next_states : Addr} {od_next_states an_next_states : Option Addr} {sl_next_states : Array (Option Value)} {oc_next_states kV_next_states dc_next_states pm_next_states cd_next_states ct_next_states : Value}
    {f__law_dice : Addr} {od__law_dice an__law_dice : Option Addr} {sl__law_dice : Array (Option Value)} {oc__law_dice kV__law_dice dc__law_dice pm__law_dice cd__law_dice ct__law_dice : Value}
    {f__law_roll : Addr} {od__law_roll an__law_roll : Option Addr} {sl__law_roll : Array (Option Value)} {oc__law_roll kV__law_roll dc__law_roll pm__law_roll cd__law_roll ct__law_roll : Value}
    {f__law_pick : Addr} {od__law_pick an__law_pick : Option Addr} {sl__law_pick : Array (Option Value)} {oc__law_pick kV__law_pick dc__law_pick pm__law_pick cd__law_pick ct__law_pick : Value}
    {f__law_gcd : Addr} {od__law_gcd an__law_gcd : Option Addr} {sl__law_gcd : Array (Option Value)} {oc__law_gcd kV__law_gcd dc__law_gcd pm__law_gcd cd__law_gcd ct__law_gcd : Value}
    {f__law_row : Addr} {od__law_row an__law_row : Option Addr} {sl__law_row : Array (Option Value)} {oc__law_row kV__law_row dc__law_row pm__law_row cd__law_row ct__law_row : Value}
    {f__law_turn : Addr} {od__law_turn an__law_turn : Option Addr} {sl__law_turn : Array (Option Value)} {oc__law_turn kV__law_turn dc__law_turn pm__law_turn cd__law_turn ct__law_turn : Value}
    {f__law_weather : Addr} {od__law_weather an__law_weather : Option Addr} {sl__law_weather : Array (Option Value)} {oc__law_weather kV__law_weather dc__law_weather pm__law_weather cd__law_weather ct__law_weather : Value}
    {f__law_holds : Addr} {od__law_holds an__law_holds : Option Addr} {sl__law_holds : Array (Option Value)} {oc__law_holds kV__law_holds dc__law_holds pm__law_holds cd__law_holds ct__law_holds : Value}
    {f__law_lot : Addr} {od__law_lot an__law_lot : Option Addr} {sl__law_lot : Array (Option Value)} {oc__law_lot kV__law_lot dc__law_lot pm__law_lot cd__law_lot ct__law_lot : Value}
    {f__law_longest : Addr} {od__law_longest an__law_longest : Option Addr} {sl__law_longest : Array (Option Value)} {oc__law_longest kV__law_longest dc__law_longest pm__law_longest cd__law_longest ct__law_longest : Value}
    {f_least_tub : Addr} {od_least_tub an_least_tub : Option Addr} {sl_least_tub : Array (Option Value)} {oc_least_tub kV_least_tub dc_least_tub pm_least_tub cd_least_tub ct_least_tub : Value}
    {f_dying_steps : Addr} {od_dying_steps an_dying_steps : Option Addr} {sl_dying_steps : Array (Option Value)} {oc_dying_steps kV_dying_steps dc_dying_steps pm_dying_steps cd_dying_steps ct_dying_steps : Value}
    {f__law_right c__law_right P__law_right : Addr} {od__law_right an__law_right : Option Addr} {sl__law_right : Array (Option Value)} {oc__law_right kV__law_right dc__law_right pm__law_right ct__law_right : Value}
    {cc__law_right : Value} {cdd__law_right : Option Addr} {vs__law_right : Array Value} {cs__law_right : Array (Option Value)}
    {f_law : Addr} {od_law an_law : Option Addr} {sl_law : Array (Option Value)} {oc_law kV_law dc_law pm_law cd_law ct_law : Value}
    {f__law_refused : Addr} {od__law_refused an__law_refused : Option Addr} {sl__law_refused : Array (Option Value)} {oc__law_refused kV__law_refused dc__law_refused pm__law_refused cd__law_refused ct__law_refused : Value}
    (aC : PySem.W.nsIn K mainGlobals "BadArgument" = some (some (.ref C)))
    (xL : K.lookup C = some (excClassObj nm q C Nn bs [.type "ValueError", .type "Exception", .type "BaseException", .type "object"] true sn sub ab col dd m0 m1 m2 m3 m5 "ValueError.__new__"))
    (sa : PySem.W.findIn K (.ref C) "__setattr__" = some (some (.builtin "object.__setattr__")))
    (ga : PySem.W.findIn K (.ref C) "__getattribute__" = some (some (.builtin "BaseException.__getattribute__")))
    (gg : PySem.W.findIn K (.ref C) "__getattr__" = some none)
    (nb : PySem.W.findIn K (.ref C) "name" = some none)
    (iC : PySem.W.findIn K (.ref C) "__init__" = some (some (.ref f1)))
    (t1 : PySem.W.typeIn K (.ref f1) = some (.type "function"))
    (l1 : K.lookup f1 = some ⟨oc1, od1, .func (PySem.W.ksFn "__init__" qn (badArgs ⟨4, 17, 4, 21⟩ ⟨4, 23, 4, 27⟩) (badBody "bad argument: " ⟨5, 8, 5, 13⟩ ⟨5, 8, 5, 15⟩ ⟨5, 8, 5, 24⟩ ⟨5, 25, 5, 41⟩ ⟨5, 44, 5, 48⟩ ⟨5, 25, 5, 48⟩ ⟨5, 8, 5, 49⟩ ⟨5, 8, 5, 49⟩ ⟨6, 8, 6, 12⟩ ⟨6, 8, 6, 17⟩ ⟨6, 20, 6, 24⟩ ⟨6, 8, 6, 24⟩) badScope .none kV1 dc1 pm1 an1 (.ref cda) ct1 cc), sl1⟩)
    (c1 : PySem.W.codeIn K (.ref cda) qn = true)
    (lcd : K.lookup cda = some ⟨ccl, cdd, .fields vs, ccs⟩)
    (hvs : vs[2]? = some (.str file tf))
    (hfi : ((l.prog.main.file : Str) == file) = true)
    (lce : K.lookup cc = some ⟨cl, cld, .cell (some (.ref C)), csl⟩)
    (kC : PySem.W.keepIn K (.ref C) = true)
    (eC : PySem.W.subIn K (.ref C) (.type "BaseException") = some true)
    (tC : PySem.W.typeIn K (.ref C) = some (.type "type"))
    (hC : PySem.W.hasDictIn K C = true)
    (isC : PySem.W.isClsIn K C = true)
    (sC : PySem.W.subIn K (.ref C) (.ref C) = some true)
    (su : PySem.W.ks_superIn K C C "__init__" = some (some (.builtin "ValueError.__init__")))
    (mro : PySem.W.mroIn K C (.ref C) = some true)
    (sV : PySem.W.subIn K (.ref C) (.type "ValueError") = some true)
    (op : PySem.W.nsIn K cStatics "thirdparty.any" = some none)
    (ms : PySem.W.nsIn K mainGlobals "super" = some none)
    (tp : (l.prog.main.scope.names.lookup ("super" : Str)).isSome = false)
    (k_MOST_AMOUNT : PySem.W.nsIn K mainGlobals "MOST_AMOUNT" = some (some (.int 200 tk_MOST_AMOUNT)))
    (k_MOST_PATIENCE : PySem.W.nsIn K mainGlobals "MOST_PATIENCE" = some (some (.int 6 tk_MOST_PATIENCE)))
    (k_MOST_ROW : PySem.W.nsIn K mainGlobals "MOST_ROW" = some (some (.int 24 tk_MOST_ROW)))
    (k_MOST_STEP : PySem.W.nsIn K mainGlobals "MOST_STEP" = some (some (.int 1000000000000 tk_MOST_STEP)))
    (k_MOST_TUB : PySem.W.nsIn K mainGlobals "MOST_TUB" = some (some (.int 200 tk_MOST_TUB)))
    (k_MOST_TURN_ROW : PySem.W.nsIn K mainGlobals "MOST_TURN_ROW" = some (some (.int 12 tk_MOST_TURN_ROW)))
    (z_abs : PySem.W.nsIn K mainGlobals "abs" = some none)
    (z_all : PySem.W.nsIn K mainGlobals "all" = some none)
    (z_bool : PySem.W.nsIn K mainGlobals "bool" = some none)
    (z_dict : PySem.W.nsIn K mainGlobals "dict" = some none)
    (z_int : PySem.W.nsIn K mainGlobals "int" = some none)
    (z_isinstance : PySem.W.nsIn K mainGlobals "isinstance" = some none)
    (z_len : PySem.W.nsIn K mainGlobals "len" = some none)
    (z_list : PySem.W.nsIn K mainGlobals "list" = some none)
    (z_max : PySem.W.nsIn K mainGlobals "max" = some none)
    (z_min : PySem.W.nsIn K mainGlobals "min" = some none)
    (z_range : PySem.W.nsIn K mainGlobals "range" = some none)
    (z_set : PySem.W.nsIn K mainGlobals "set" = some none)
    (z_sorted : PySem.W.nsIn K mainGlobals "sorted" = some none)
    (z_sum : PySem.W.nsIn K mainGlobals "sum" = some none)
    (z_tuple : PySem.W.nsIn K mainGlobals "tuple" = some none)
    (z_zip : PySem.W.nsIn K mainGlobals "zip" = some none)
    (a_is_integer : PySem.W.nsIn K mainGlobals "is_integer" = some (some (.ref f_is_integer)))
    (l_is_integer : K.lookup f_is_integer = some ⟨oc_is_integer, od_is_integer, .func (PySem.W.fnOf "is_integer" "is_integer" (defArgs s_is_integer) (defBody s_is_integer) (defScope s_is_integer) .none kV_is_integer dc_is_integer pm_is_integer an_is_integer cd_is_integer ct_is_integer), sl_is_integer⟩)
    (c_c_is_integer : PySem.W.codeIn K cd_is_integer "is_integer" = true)
    (k_k_is_integer : PySem.W.keepIn K (.ref f_is_integer) = true)
    (a_need_integer : PySem.W.nsIn K mainGlobals "need_integer" = some (some (.ref f_need_integer)))
    (l_need_integer : K.lookup f_need_integer = some ⟨oc_need_integer, od_need_integer, .func (PySem.W.fnOf "need_integer" "need_integer" (defArgs s_need_integer) (defBody s_need_integer) (defScope s_need_integer) .none kV_need_integer dc_need_integer pm_need_integer an_need_integer cd_need_integer ct_need_integer), sl_need_integer⟩)
    (c_c_need_integer : PySem.W.codeIn K cd_need_integer "need_integer" = true)
    (k_k_need_integer : PySem.W.keepIn K (.ref f_need_integer) = true)
    (a_is_row : PySem.W.nsIn K mainGlobals "is_row" = some (some (.ref f_is_row)))
    (l_is_row : K.lookup f_is_row = some ⟨oc_is_row, od_is_row, .func (PySem.W.fnOf "is_row" "is_row" (defArgs s_is_row) (defBody s_is_row) (defScope s_is_row) .none kV_is_row dc_is_row pm_is_row an_is_row (.ref c_is_row) ct_is_row), sl_is_row⟩)
    (c_c_is_row : PySem.W.codeIn K (.ref c_is_row) "is_row" = true)
    (k_k_is_row : PySem.W.keepIn K (.ref f_is_row) = true)
    (tl_is_row : K.lookup c_is_row = some ⟨cc_is_row, cdd_is_row, .fields vs_is_row, cs_is_row⟩)
    (tv_is_row : vs_is_row[11]? = some (.ref P_is_row))
    (tr_is_row : ((recsOf qq).find? fun e => e.name == ("is_row" : Str)).isSome = true)
    (tn_is_row : K.lookup P_is_row = none)
    (a_need_row : PySem.W.nsIn K mainGlobals "need_row" = some (some (.ref f_need_row)))
    (l_need_row : K.lookup f_need_row = some ⟨oc_need_row, od_need_row, .func (PySem.W.fnOf "need_row" "need_row" (defArgs s_need_row) (defBody s_need_row) (defScope s_need_row) .none kV_need_row dc_need_row pm_need_row an_need_row cd_need_row ct_need_row), sl_need_row⟩)
    (c_c_need_row : PySem.W.codeIn K cd_need_row "need_row" = true)
    (k_k_need_row : PySem.W.keepIn K (.ref f_need_row) = true)
    (a_common : PySem.W.nsIn K mainGlobals "common" = some (some (.ref f_common)))
    (l_common : K.lookup f_common = some ⟨oc_common, od_common, .func (PySem.W.fnOf "common" "common" (defArgs s_common) (defBody s_common) (defScope s_common) .none kV_common dc_common pm_common an_common cd_common ct_common), sl_common⟩)
    (c_c_common : PySem.W.codeIn K cd_common "common" = true)
    (k_k_common : PySem.W.keepIn K (.ref f_common) = true)
    (a_least_common : PySem.W.nsIn K mainGlobals "least_common" = some (some (.ref f_least_common)))
    (l_least_common : K.lookup f_least_common = some ⟨oc_least_common, od_least_common, .func (PySem.W.fnOf "least_common" "least_common" (defArgs s_least_common) (defBody s_least_common) (defScope s_least_common) .none kV_least_common dc_least_common pm_least_common an_least_common cd_least_common ct_least_common), sl_least_common⟩)
    (c_c_least_common : PySem.W.codeIn K cd_least_common "least_common" = true)
    (k_k_least_common : PySem.W.keepIn K (.ref f_least_common) = true)
    (a_amount_at : PySem.W.nsIn K mainGlobals "amount_at" = some (some (.ref f_amount_at)))
    (l_amount_at : K.lookup f_amount_at = some ⟨oc_amount_at, od_amount_at, .func (PySem.W.fnOf "amount_at" "amount_at" (defArgs s_amount_at) (defBody s_amount_at) (defScope s_amount_at) .none kV_amount_at dc_amount_at pm_amount_at an_amount_at cd_amount_at ct_amount_at), sl_amount_at⟩)
    (c_c_amount_at : PySem.W.codeIn K cd_amount_at "amount_at" = true)
    (k_k_amount_at : PySem.W.keepIn K (.ref f_amount_at) = true)
    (a_turn_of : PySem.W.nsIn K mainGlobals "turn_of" = some (some (.ref f_turn_of)))
    (l_turn_of : K.lookup f_turn_of = some ⟨oc_turn_of, od_turn_of, .func (PySem.W.fnOf "turn_of" "turn_of" (defArgs s_turn_of) (defBody s_turn_of) (defScope s_turn_of) .none kV_turn_of dc_turn_of pm_turn_of an_turn_of cd_turn_of ct_turn_of), sl_turn_of⟩)
    (c_c_turn_of : PySem.W.codeIn K cd_turn_of "turn_of" = true)
    (k_k_turn_of : PySem.W.keepIn K (.ref f_turn_of) = true)
    (a_is_weather : PySem.W.nsIn K mainGlobals "is_weather" = some (some (.ref f_is_weather)))
    (l_is_weather : K.lookup f_is_weather = some ⟨oc_is_weather, od_is_weather, .func (PySem.W.fnOf "is_weather" "is_weather" (defArgs s_is_weather) (defBody s_is_weather) (defScope s_is_weather) .none kV_is_weather dc_is_weather pm_is_weather an_is_weather (.ref c_is_weather) ct_is_weather), sl_is_weather⟩)
    (c_c_is_weather : PySem.W.codeIn K (.ref c_is_weather) "is_weather" = true)
    (k_k_is_weather : PySem.W.keepIn K (.ref f_is_weather) = true)
    (tl_is_weather : K.lookup c_is_weather = some ⟨cc_is_weather, cdd_is_weather, .fields vs_is_weather, cs_is_weather⟩)
    (tv_is_weather : vs_is_weather[11]? = some (.ref P_is_weather))
    (tr_is_weather : ((recsOf qq).find? fun e => e.name == ("is_weather" : Str)).isSome = true)
    (tn_is_weather : K.lookup P_is_weather = none)
    (a_need_weather : PySem.W.nsIn K mainGlobals "need_weather" = some (some (.ref f_need_weather)))
    (l_need_weather : K.lookup f_need_weather = some ⟨oc_need_weather, od_need_weather, .func (PySem.W.fnOf "need_weather" "need_weather" (defArgs s_need_weather) (defBody s_need_weather) (defScope s_need_weather) .none kV_need_weather dc_need_weather pm_need_weather an_need_weather cd_need_weather ct_need_weather), sl_need_weather⟩)
    (c_c_need_weather : PySem.W.codeIn K cd_need_weather "need_weather" = true)
    (k_k_need_weather : PySem.W.keepIn K (.ref f_need_weather) = true)
    (a_need_plant : PySem.W.nsIn K mainGlobals "need_plant" = some (some (.ref f_need_plant)))
    (l_need_plant : K.lookup f_need_plant = some ⟨oc_need_plant, od_need_plant, .func (PySem.W.fnOf "need_plant" "need_plant" (defArgs s_need_plant) (defBody s_need_plant) (defScope s_need_plant) .none kV_need_plant dc_need_plant pm_need_plant an_need_plant cd_need_plant ct_need_plant), sl_need_plant⟩)
    (c_c_need_plant : PySem.W.codeIn K cd_need_plant "need_plant" = true)
    (k_k_need_plant : PySem.W.keepIn K (.ref f_need_plant) = true)
    (a_enough_before : PySem.W.nsIn K mainGlobals "enough_before" = some (some (.ref f_enough_before)))
    (l_enough_before : K.lookup f_enough_before = some ⟨oc_enough_before, od_enough_before, .func (PySem.W.fnOf "enough_before" "enough_before" (defArgs s_enough_before) (defBody s_enough_before) (defScope s_enough_before) .none kV_enough_before dc_enough_before pm_enough_before an_enough_before cd_enough_before ct_enough_before), sl_enough_before⟩)
    (c_c_enough_before : PySem.W.codeIn K cd_enough_before "enough_before" = true)
    (k_k_enough_before : PySem.W.keepIn K (.ref f_enough_before) = true)
    (a_book_of : PySem.W.nsIn K mainGlobals "book_of" = some (some (.ref f_book_of)))
    (l_book_of : K.lookup f_book_of = some ⟨oc_book_of, od_book_of, .func (PySem.W.fnOf "book_of" "book_of" (defArgs s_book_of) (defBody s_book_of) (defScope s_book_of) .none kV_book_of dc_book_of pm_book_of an_book_of cd_book_of ct_book_of), sl_book_of⟩)
    (c_c_book_of : PySem.W.codeIn K cd_book_of "book_of" = true)
    (k_k_book_of : PySem.W.keepIn K (.ref f_book_of) = true)
    (a_enough : PySem.W.nsIn K mainGlobals "enough" = some (some (.ref f_enough)))
    (l_enough : K.lookup f_enough = some ⟨oc_enough, od_enough, .func (PySem.W.fnOf "enough" "enough" (defArgs s_enough) (defBody s_enough) (defScope s_enough) .none kV_enough dc_enough pm_enough an_enough cd_enough ct_enough), sl_enough⟩)
    (c_c_enough : PySem.W.codeIn K cd_enough "enough" = true)
    (k_k_enough : PySem.W.keepIn K (.ref f_enough) = true)
    (a_whole_book : PySem.W.nsIn K mainGlobals "whole_book" = some (some (.ref f_whole_book)))
    (l_whole_book : K.lookup f_whole_book = some ⟨oc_whole_book, od_whole_book, .func (PySem.W.fnOf "whole_book" "whole_book" (defArgs s_whole_book) (defBody s_whole_book) (defScope s_whole_book) .none kV_whole_book dc_whole_book pm_whole_book an_whole_book cd_whole_book ct_whole_book), sl_whole_book⟩)
    (c_c_whole_book : PySem.W.codeIn K cd_whole_book "whole_book" = true)
    (k_k_whole_book : PySem.W.keepIn K (.ref f_whole_book) = true)
    (a_may_water : PySem.W.nsIn K mainGlobals "may_water" = some (some (.ref f_may_water)))
    (l_may_water : K.lookup f_may_water = some ⟨oc_may_water, od_may_water, .func (PySem.W.fnOf "may_water" "may_water" (defArgs s_may_water) (defBody s_may_water) (defScope s_may_water) .none kV_may_water dc_may_water pm_may_water an_may_water cd_may_water ct_may_water), sl_may_water⟩)
    (c_c_may_water : PySem.W.codeIn K cd_may_water "may_water" = true)
    (k_k_may_water : PySem.W.keepIn K (.ref f_may_water) = true)
    (a_lives : PySem.W.nsIn K mainGlobals "lives" = some (some (.ref f_lives)))
    (l_lives : K.lookup f_lives = some ⟨oc_lives, od_lives, .func (PySem.W.fnOf "lives" "lives" (defArgs s_lives) (defBody s_lives) (defScope s_lives) .none kV_lives dc_lives pm_lives an_lives cd_lives ct_lives), sl_lives⟩)
    (c_c_lives : PySem.W.codeIn K cd_lives "lives" = true)
    (k_k_lives : PySem.W.keepIn K (.ref f_lives) = true)
    (a_next_states : PySem.W.nsIn K mainGlobals "next_states" = some (some (.ref f_next_states)))
    (l_next_states : K.lookup f_next_states = some ⟨oc_next_states, od_next_states, .func (PySem.W.fnOf "next_states" "next_states" (defArgs s_next_states) (defBody s_next_states) (defScope s_next_states) .none kV_next_states dc_next_states pm_next_states an_next_states cd_next_states ct_next_states), sl_next_states⟩)
    (c_c_next_states : PySem.W.codeIn K cd_next_states "next_states" = true)
    (k_k_next_states : PySem.W.keepIn K (.ref f_next_states) = true)
    (a__law_dice : PySem.W.nsIn K mainGlobals "_law_dice" = some (some (.ref f__law_dice)))
    (l__law_dice : K.lookup f__law_dice = some ⟨oc__law_dice, od__law_dice, .func (PySem.W.fnOf "_law_dice" "_law_dice" (defArgs s__law_dice) (defBody s__law_dice) (defScope s__law_dice) .none kV__law_dice dc__law_dice pm__law_dice an__law_dice cd__law_dice ct__law_dice), sl__law_dice⟩)
    (c_c__law_dice : PySem.W.codeIn K cd__law_dice "_law_dice" = true)
    (k_k__law_dice : PySem.W.keepIn K (.ref f__law_dice) = true)
    (a__law_roll : PySem.W.nsIn K mainGlobals "_law_roll" = some (some (.ref f__law_roll)))
    (l__law_roll : K.lookup f__law_roll = some ⟨oc__law_roll, od__law_roll, .func (PySem.W.fnOf "_law_roll" "_law_roll" (defArgs s__law_roll) (defBody s__law_roll) (defScope s__law_roll) .none kV__law_roll dc__law_roll pm__law_roll an__law_roll cd__law_roll ct__law_roll), sl__law_roll⟩)
    (c_c__law_roll : PySem.W.codeIn K cd__law_roll "_law_roll" = true)
    (k_k__law_roll : PySem.W.keepIn K (.ref f__law_roll) = true)
    (a__law_pick : PySem.W.nsIn K mainGlobals "_law_pick" = some (some (.ref f__law_pick)))
    (l__law_pick : K.lookup f__law_pick = some ⟨oc__law_pick, od__law_pick, .func (PySem.W.fnOf "_law_pick" "_law_pick" (defArgs s__law_pick) (defBody s__law_pick) (defScope s__law_pick) .none kV__law_pick dc__law_pick pm__law_pick an__law_pick cd__law_pick ct__law_pick), sl__law_pick⟩)
    (c_c__law_pick : PySem.W.codeIn K cd__law_pick "_law_pick" = true)
    (k_k__law_pick : PySem.W.keepIn K (.ref f__law_pick) = true)
    (a__law_gcd : PySem.W.nsIn K mainGlobals "_law_gcd" = some (some (.ref f__law_gcd)))
    (l__law_gcd : K.lookup f__law_gcd = some ⟨oc__law_gcd, od__law_gcd, .func (PySem.W.fnOf "_law_gcd" "_law_gcd" (defArgs s__law_gcd) (defBody s__law_gcd) (defScope s__law_gcd) .none kV__law_gcd dc__law_gcd pm__law_gcd an__law_gcd cd__law_gcd ct__law_gcd), sl__law_gcd⟩)
    (c_c__law_gcd : PySem.W.codeIn K cd__law_gcd "_law_gcd" = true)
    (k_k__law_gcd : PySem.W.keepIn K (.ref f__law_gcd) = true)
    (a__law_row : PySem.W.nsIn K mainGlobals "_law_row" = some (some (.ref f__law_row)))
    (l__law_row : K.lookup f__law_row = some ⟨oc__law_row, od__law_row, .func (PySem.W.fnOf "_law_row" "_law_row" (defArgs s__law_row) (defBody s__law_row) (defScope s__law_row) .none kV__law_row dc__law_row pm__law_row an__law_row cd__law_row ct__law_row), sl__law_row⟩)
    (c_c__law_row : PySem.W.codeIn K cd__law_row "_law_row" = true)
    (k_k__law_row : PySem.W.keepIn K (.ref f__law_row) = true)
    (a__law_turn : PySem.W.nsIn K mainGlobals "_law_turn" = some (some (.ref f__law_turn)))
    (l__law_turn : K.lookup f__law_turn = some ⟨oc__law_turn, od__law_turn, .func (PySem.W.fnOf "_law_turn" "_law_turn" (defArgs s__law_turn) (defBody s__law_turn) (defScope s__law_turn) .none kV__law_turn dc__law_turn pm__law_turn an__law_turn cd__law_turn ct__law_turn), sl__law_turn⟩)
    (c_c__law_turn : PySem.W.codeIn K cd__law_turn "_law_turn" = true)
    (k_k__law_turn : PySem.W.keepIn K (.ref f__law_turn) = true)
    (a__law_weather : PySem.W.nsIn K mainGlobals "_law_weather" = some (some (.ref f__law_weather)))
    (l__law_weather : K.lookup f__law_weather = some ⟨oc__law_weather, od__law_weather, .func (PySem.W.fnOf "_law_weather" "_law_weather" (defArgs s__law_weather) (defBody s__law_weather) (defScope s__law_weather) .none kV__law_weather dc__law_weather pm__law_weather an__law_weather cd__law_weather ct__law_weather), sl__law_weather⟩)
    (c_c__law_weather : PySem.W.codeIn K cd__law_weather "_law_weather" = true)
    (k_k__law_weather : PySem.W.keepIn K (.ref f__law_weather) = true)
    (a__law_holds : PySem.W.nsIn K mainGlobals "_law_holds" = some (some (.ref f__law_holds)))
    (l__law_holds : K.lookup f__law_holds = some ⟨oc__law_holds, od__law_holds, .func (PySem.W.fnOf "_law_holds" "_law_holds" (defArgs s__law_holds) (defBody s__law_holds) (defScope s__law_holds) .none kV__law_holds dc__law_holds pm__law_holds an__law_holds cd__law_holds ct__law_holds), sl__law_holds⟩)
    (c_c__law_holds : PySem.W.codeIn K cd__law_holds "_law_holds" = true)
    (k_k__law_holds : PySem.W.keepIn K (.ref f__law_holds) = true)
    (a__law_lot : PySem.W.nsIn K mainGlobals "_law_lot" = some (some (.ref f__law_lot)))
    (l__law_lot : K.lookup f__law_lot = some ⟨oc__law_lot, od__law_lot, .func (PySem.W.fnOf "_law_lot" "_law_lot" (defArgs s__law_lot) (defBody s__law_lot) (defScope s__law_lot) .none kV__law_lot dc__law_lot pm__law_lot an__law_lot cd__law_lot ct__law_lot), sl__law_lot⟩)
    (c_c__law_lot : PySem.W.codeIn K cd__law_lot "_law_lot" = true)
    (k_k__law_lot : PySem.W.keepIn K (.ref f__law_lot) = true)
    (a__law_longest : PySem.W.nsIn K mainGlobals "_law_longest" = some (some (.ref f__law_longest)))
    (l__law_longest : K.lookup f__law_longest = some ⟨oc__law_longest, od__law_longest, .func (PySem.W.fnOf "_law_longest" "_law_longest" (defArgs s__law_longest) (defBody s__law_longest) (defScope s__law_longest) .none kV__law_longest dc__law_longest pm__law_longest an__law_longest cd__law_longest ct__law_longest), sl__law_longest⟩)
    (c_c__law_longest : PySem.W.codeIn K cd__law_longest "_law_longest" = true)
    (k_k__law_longest : PySem.W.keepIn K (.ref f__law_longest) = true)
    (a_least_tub : PySem.W.nsIn K mainGlobals "least_tub" = some (some (.ref f_least_tub)))
    (l_least_tub : K.lookup f_least_tub = some ⟨oc_least_tub, od_least_tub, .func (PySem.W.fnOf "least_tub" "least_tub" (defArgs s_least_tub) (defBody s_least_tub) (defScope s_least_tub) .none kV_least_tub dc_least_tub pm_least_tub an_least_tub cd_least_tub ct_least_tub), sl_least_tub⟩)
    (c_c_least_tub : PySem.W.codeIn K cd_least_tub "least_tub" = true)
    (k_k_least_tub : PySem.W.keepIn K (.ref f_least_tub) = true)
    (a_dying_steps : PySem.W.nsIn K mainGlobals "dying_steps" = some (some (.ref f_dying_steps)))
    (l_dying_steps : K.lookup f_dying_steps = some ⟨oc_dying_steps, od_dying_steps, .func (PySem.W.fnOf "dying_steps" "dying_steps" (defArgs s_dying_steps) (defBody s_dying_steps) (defScope s_dying_steps) .none kV_dying_steps dc_dying_steps pm_dying_steps an_dying_steps cd_dying_steps ct_dying_steps), sl_dying_steps⟩)
    (c_c_dying_steps : PySem.W.codeIn K cd_dying_steps "dying_steps" = true)
    (k_k_dying_steps : PySem.W.keepIn K (.ref f_dying_steps) = true)
    (a__law_right : PySem.W.nsIn K mainGlobals "_law_right" = some (some (.ref f__law_right)))
    (l__law_right : K.lookup f__law_right = some ⟨oc__law_right, od__law_right, .func (PySem.W.fnOf "_law_right" "_law_right" (defArgs s__law_right) (defBody s__law_right) (defScope s__law_right) .none kV__law_right dc__law_right pm__law_right an__law_right (.ref c__law_right) ct__law_right), sl__law_right⟩)
    (c_c__law_right : PySem.W.codeIn K (.ref c__law_right) "_law_right" = true)
    (k_k__law_right : PySem.W.keepIn K (.ref f__law_right) = true)
    (tl__law_right : K.lookup c__law_right = some ⟨cc__law_right, cdd__law_right, .fields vs__law_right, cs__law_right⟩)
    (tv__law_right : vs__law_right[11]? = some (.ref P__law_right))
    (tr__law_right : ((recsOf qq).find? fun e => e.name == ("_law_right" : Str)).isSome = true)
    (tn__law_right : K.lookup P__law_right = none)
    (a_law : PySem.W.nsIn K mainGlobals "law" = some (some (.ref f_law)))
    (l_law : K.lookup f_law = some ⟨oc_law, od_law, .func (PySem.W.fnOf "law" "law" (defArgs s_law) (defBody s_law) (defScope s_law) .none kV_law dc_law pm_law an_law cd_law ct_law), sl_law⟩)
    (c_c_law : PySem.W.codeIn K cd_law "law" = true)
    (k_k_law : PySem.W.keepIn K (.ref f_law) = true)
    (a__law_refused : PySem.W.nsIn K mainGlobals "_law_refused" = some (some (.ref f__law_refused)))
    (l__law_refused : K.lookup f__law_refused = some ⟨oc__law_refused, od__law_refused, .func (PySem.W.fnOf "_law_refused" "_law_refused" (defArgs s__law_refused) (defBody s__law_refused) (defScope s__law_refused) .none kV__law_refused dc__law_refused pm__law_refused an__law_refused cd__law_refused ct__law_refused), sl__law_refused⟩)
    (c_c__law_refused : PySem.W.codeIn K cd__law_refused "_law_refused" = true)
    (k_k__law_refused : PySem.W.keepIn K (.ref f__law_refused) = true)
    (ne_is_row : P_is_row ≠ P__law_right)
    (ne_is_weather : P_is_weather ≠ P__law_right)
    : LamX.LawAtS l w K (L2.CX l.prog w) 13 63 "script" mg fa h := by
  have e0 := hfa.symm.trans (PySem.W.mg_of X G a_law)
  cases e0
  have bad : BadC K l.prog mg C f1 := { ox := ⟨⟨nm, q, Nn, bs, _, sn, sub, ab, col, dd, m0, m1, m2, m3, m5, xL, by decide +kernel⟩, sa, eC, tC, kC⟩, fi := iC, ti := t1, fn := ⟨_, _, _, _, _, _, _, _, _, _, _, _, _, _, _, _, _, _, _, _, _, _, _, cda, cc, qn, by decide, by decide, l1, c1, ⟨ccl, cdd, vs, ccs, file, tf, lcd, hvs, hfi⟩, cl, cld, csl, lce⟩, su := su, sub := mro, sV := sV, op := op, nm := nb, ms := PySem.W.mg_none_of X G ms, top := tp }
  have T : Txt l.prog K mg C f1 := { bad := bad, mB := PySem.W.mg_of X G aC, k_MOST_AMOUNT := ⟨_, PySem.W.mg_of X G k_MOST_AMOUNT⟩, k_MOST_PATIENCE := ⟨_, PySem.W.mg_of X G k_MOST_PATIENCE⟩, k_MOST_ROW := ⟨_, PySem.W.mg_of X G k_MOST_ROW⟩, k_MOST_STEP := ⟨_, PySem.W.mg_of X G k_MOST_STEP⟩, k_MOST_TUB := ⟨_, PySem.W.mg_of X G k_MOST_TUB⟩, k_MOST_TURN_ROW := ⟨_, PySem.W.mg_of X G k_MOST_TURN_ROW⟩, z_abs := PySem.W.mg_none_of X G z_abs, z_all := PySem.W.mg_none_of X G z_all, z_bool := PySem.W.mg_none_of X G z_bool, z_dict := PySem.W.mg_none_of X G z_dict, z_int := PySem.W.mg_none_of X G z_int, z_isinstance := PySem.W.mg_none_of X G z_isinstance, z_len := PySem.W.mg_none_of X G z_len, z_list := PySem.W.mg_none_of X G z_list, z_max := PySem.W.mg_none_of X G z_max, z_min := PySem.W.mg_none_of X G z_min, z_range := PySem.W.mg_none_of X G z_range, z_set := PySem.W.mg_none_of X G z_set, z_sorted := PySem.W.mg_none_of X G z_sorted, z_sum := PySem.W.mg_none_of X G z_sum, z_tuple := PySem.W.mg_none_of X G z_tuple, z_zip := PySem.W.mg_none_of X G z_zip }
  have U_is_integer := fun_mk (st := s_is_integer) l_is_integer c_c_is_integer k_k_is_integer
  have U_need_integer := fun_mk (st := s_need_integer) l_need_integer c_c_need_integer k_k_need_integer
  have U_is_row := funC_mk (st := s_is_row) l_is_row c_c_is_row k_k_is_row
  have U_need_row := fun_mk (st := s_need_row) l_need_row c_c_need_row k_k_need_row
  have U_common := fun_mk (st := s_common) l_common c_c_common k_k_common
  have U_least_common := fun_mk (st := s_least_common) l_least_common c_c_least_common k_k_least_common
  have U_amount_at := fun_mk (st := s_amount_at) l_amount_at c_c_amount_at k_k_amount_at
  have U_turn_of := fun_mk (st := s_turn_of) l_turn_of c_c_turn_of k_k_turn_of
  have U_is_weather := funC_mk (st := s_is_weather) l_is_weather c_c_is_weather k_k_is_weather
  have U_need_weather := fun_mk (st := s_need_weather) l_need_weather c_c_need_weather k_k_need_weather
  have U_need_plant := fun_mk (st := s_need_plant) l_need_plant c_c_need_plant k_k_need_plant
  have U_enough_before := fun_mk (st := s_enough_before) l_enough_before c_c_enough_before k_k_enough_before
  have U_book_of := fun_mk (st := s_book_of) l_book_of c_c_book_of k_k_book_of
  have U_enough := fun_mk (st := s_enough) l_enough c_c_enough k_k_enough
  have U_whole_book := fun_mk (st := s_whole_book) l_whole_book c_c_whole_book k_k_whole_book
  have U_may_water := fun_mk (st := s_may_water) l_may_water c_c_may_water k_k_may_water
  have U_lives := fun_mk (st := s_lives) l_lives c_c_lives k_k_lives
  have U_next_states := fun_mk (st := s_next_states) l_next_states c_c_next_states k_k_next_states
  have U__law_dice := fun_mk (st := s__law_dice) l__law_dice c_c__law_dice k_k__law_dice
  have U__law_roll := fun_mk (st := s__law_roll) l__law_roll c_c__law_roll k_k__law_roll
  have U__law_pick := fun_mk (st := s__law_pick) l__law_pick c_c__law_pick k_k__law_pick
  have U__law_gcd := fun_mk (st := s__law_gcd) l__law_gcd c_c__law_gcd k_k__law_gcd
  have U__law_row := fun_mk (st := s__law_row) l__law_row c_c__law_row k_k__law_row
  have U__law_turn := fun_mk (st := s__law_turn) l__law_turn c_c__law_turn k_k__law_turn
  have U__law_weather := fun_mk (st := s__law_weather) l__law_weather c_c__law_weather k_k__law_weather
  have U__law_holds := fun_mk (st := s__law_holds) l__law_holds c_c__law_holds k_k__law_holds
  have U__law_lot := fun_mk (st := s__law_lot) l__law_lot c_c__law_lot k_k__law_lot
  have U__law_longest := fun_mk (st := s__law_longest) l__law_longest c_c__law_longest k_k__law_longest
  have U_least_tub := fun_mk (st := s_least_tub) l_least_tub c_c_least_tub k_k_least_tub
  have U_dying_steps := fun_mk (st := s_dying_steps) l_dying_steps c_c_dying_steps k_k_dying_steps
  have U__law_right := funC_mk (st := s__law_right) l__law_right c_c__law_right k_k__law_right
  have U_law := fun_mk (st := s_law) l_law c_c_law k_k_law
  have U__law_refused := fun_mk (st := s__law_refused) l__law_refused c_c__law_refused k_k__law_refused
  have tt_is_row := tb "is_row" c_is_row P_is_row tr_is_row (tabIn_of a_is_row l_is_row rfl tl_is_row tv_is_row)
  have tt_is_weather := tb "is_weather" c_is_weather P_is_weather tr_is_weather (tabIn_of a_is_weather l_is_weather rfl tl_is_weather tv_is_weather)
  have tt__law_right := tb "_law_right" c__law_right P__law_right tr__law_right (tabIn_of a__law_right l__law_right rfl tl__law_right tv__law_right)
  have b_is_integer := U_is_integer.binds (ps := ["value"]) fun _ _ _ _ _ _ us hl => match us, hl with | [_], _ => rfl
  have b_need_integer := U_need_integer.binds (ps := ["value", "name", "least", "most"]) fun _ _ _ _ _ _ us hl => match us, hl with | [_, _, _, _], _ => rfl
  have b_is_row := U_is_row.fun.binds (ps := ["value"]) fun _ _ _ _ _ _ us hl => match us, hl with | [_], _ => rfl
  have b_need_row := U_need_row.binds (ps := ["value", "name"]) fun _ _ _ _ _ _ us hl => match us, hl with | [_, _], _ => rfl
  have b_common := U_common.binds (ps := ["one", "other"]) fun _ _ _ _ _ _ us hl => match us, hl with | [_, _], _ => rfl
  have b_least_common := U_least_common.binds (ps := ["one", "other"]) fun _ _ _ _ _ _ us hl => match us, hl with | [_, _], _ => rfl
  have b_amount_at := U_amount_at.binds (ps := ["row", "step"]) fun _ _ _ _ _ _ us hl => match us, hl with | [_, _], _ => rfl
  have b_turn_of := U_turn_of.binds (ps := ["rains", "needs"]) fun _ _ _ _ _ _ us hl => match us, hl with | [_, _], _ => rfl
  have b_is_weather := U_is_weather.fun.binds (ps := ["value"]) fun _ _ _ _ _ _ us hl => match us, hl with | [_], _ => rfl
  have b_need_weather := U_need_weather.binds (ps := ["value", "name"]) fun _ _ _ _ _ _ us hl => match us, hl with | [_, _], _ => rfl
  have b_need_plant := U_need_plant.binds (ps := ["size", "weather", "needs", "patience"]) fun _ _ _ _ _ _ us hl => match us, hl with | [_, _, _, _], _ => rfl
  have b_enough_before := U_enough_before.binds (ps := ["size", "rain", "need", "watered", "waiting"]) fun _ _ _ _ _ _ us hl => match us, hl with | [_, _, _, _, _], _ => rfl
  have b_book_of := U_book_of.binds (ps := ["size", "weather", "needs", "patience"]) fun _ _ _ _ _ _ us hl => match us, hl with | [_, _, _, _], _ => rfl
  have b_enough := U_enough.binds (ps := ["size", "weather", "needs", "patience", "step", "age"]) fun _ _ _ _ _ _ us hl => match us, hl with | [_, _, _, _, _, _], _ => rfl
  have b_whole_book := U_whole_book.binds (ps := ["size", "weather", "needs", "patience"]) fun _ _ _ _ _ _ us hl => match us, hl with | [_, _, _, _], _ => rfl
  have b_may_water := U_may_water.binds (ps := ["size", "weather", "needs", "patience", "step", "age", "held"]) fun _ _ _ _ _ _ us hl => match us, hl with | [_, _, _, _, _, _, _], _ => rfl
  have b_lives := U_lives.binds (ps := ["size", "weather", "needs", "patience"]) fun _ _ _ _ _ _ us hl => match us, hl with | [_, _, _, _], _ => rfl
  have b_next_states := U_next_states.binds (ps := ["size", "states", "rain", "need", "patience"]) fun _ _ _ _ _ _ us hl => match us, hl with | [_, _, _, _, _], _ => rfl
  have b__law_dice := U__law_dice.binds (ps := ["script", "spot"]) fun _ _ _ _ _ _ us hl => match us, hl with | [_, _], _ => rfl
  have b__law_roll := U__law_roll.binds (ps := ["dice", "many"]) fun _ _ _ _ _ _ us hl => match us, hl with | [_, _], _ => rfl
  have b__law_pick := U__law_pick.binds (ps := ["dice", "things"]) fun _ _ _ _ _ _ us hl => match us, hl with | [_, _], _ => rfl
  have b__law_gcd := U__law_gcd.binds (ps := ["one", "other"]) fun _ _ _ _ _ _ us hl => match us, hl with | [_, _], _ => rfl
  have b__law_row := U__law_row.binds (ps := ["dice", "size", "most"]) fun _ _ _ _ _ _ us hl => match us, hl with | [_, _, _], _ => rfl
  have b__law_turn := U__law_turn.binds (ps := ["one", "other"]) fun _ _ _ _ _ _ us hl => match us, hl with | [_, _], _ => rfl
  have b__law_weather := U__law_weather.binds (ps := ["dice", "size", "most", "wide"]) fun _ _ _ _ _ _ us hl => match us, hl with | [_, _, _, _], _ => rfl
  have b__law_holds := U__law_holds.binds (ps := ["size", "low", "high", "need", "patience", "level", "age", "later"]) fun _ _ _ _ _ _ us hl => match us, hl with | [_, _, _, _, _, _, _, _], _ => rfl
  have b__law_lot := U__law_lot.binds (ps := ["size", "weather", "needs", "patience"]) fun _ _ _ _ _ _ us hl => match us, hl with | [_, _, _, _], _ => rfl
  have b__law_longest := U__law_longest.binds (ps := ["size", "level", "rains", "needs", "patience", "age", "most"]) fun _ _ _ _ _ _ us hl => match us, hl with | [_, _, _, _, _, _, _], _ => rfl
  have b_least_tub := U_least_tub.binds (ps := ["weather", "needs", "patience"]) fun _ _ _ _ _ _ us hl => match us, hl with | [_, _, _], _ => rfl
  have b_dying_steps := U_dying_steps.binds (ps := ["size", "level", "weather", "needs", "patience", "age"]) fun _ _ _ _ _ _ us hl => match us, hl with | [_, _, _, _, _, _], _ => rfl
  have b__law_right := U__law_right.fun.binds (ps := ["dice"]) fun _ _ _ _ _ _ us hl => match us, hl with | [_], _ => rfl
  have b_law := U_law.binds (ps := ["script"]) fun _ _ _ _ _ _ us hl => match us, hl with | [_], _ => rfl
  have b__law_refused := U__law_refused.binds (ps := ["call"]) fun _ _ _ _ _ _ us hl => match us, hl with | [_], _ => rfl
  refine lawAt_dl (G := F_law) ⟨K, [(P_is_row, none), (P_is_weather, none), (P__law_right, some (("_law_right" : Str) ++ ".<locals>." ++ "<lambda>"))], fun j => if j = 0 then some C else none⟩ [(c_is_row, P_is_row), (c_is_weather, P_is_weather), (c__law_right, P__law_right)] rfl ?_ ?_ ?_ ?_ (fd := PySem.W.fnOf "law" "law" (defArgs s_law) (defBody s_law) (defScope s_law) .none kV_law dc_law pm_law an_law cd_law ct_law) (fun s u => .of_eq rfl) (fun base KX GX TB => ?_) plain
  · intro t ht
    simp only [List.mem_cons, List.not_mem_nil, or_false] at ht
    rcases ht with rfl | rfl | rfl
    all_goals simp
  · intro p hp
    simp only [List.mem_cons, List.not_mem_nil, or_false] at hp
    rcases hp with rfl | rfl | rfl
    · exact tt_is_row.2
    · exact tt_is_weather.2
    · exact tt__law_right.2
  · intro p hp
    simp only [List.mem_cons, List.not_mem_nil, or_false] at hp
    rcases hp with rfl | rfl | rfl
    · exact tn_is_row
    · exact tn_is_weather
    · exact tn__law_right
  · intro p hp
    simp only [List.mem_cons, List.not_mem_nil, or_false] at hp
    rcases hp with rfl | rfl | rfl
    · exact tt_is_row.1
    · exact tt_is_weather.1
    · exact tt__law_right.1
  · have B_is_row := TB (c_is_row, P_is_row) (by simp)
    have B_is_weather := TB (c_is_weather, P_is_weather) (by simp)
    have B__law_right := TB (c__law_right, P__law_right) (by simp)
    have C_is_integer : Cal l.prog w K mg base (⟨K, [(P_is_row, none), (P_is_weather, none), (P__law_right, some (("_law_right" : Str) ++ ".<locals>." ++ "<lambda>"))], fun j => if j = 0 then some C else none⟩ : Pm) 2 "is_integer" 0 F_is_integer [] := cal_mk (ok_is_integer U_is_integer T rfl rfl ) (PySem.W.mg_of X G a_is_integer) k_k_is_integer b_is_integer kb_nil
    have C_need_integer : Cal l.prog w K mg base (⟨K, [(P_is_row, none), (P_is_weather, none), (P__law_right, some (("_law_right" : Str) ++ ".<locals>." ++ "<lambda>"))], fun j => if j = 0 then some C else none⟩ : Pm) 3 "need_integer" 3 F_need_integer [] := cal_mk (ok_need_integer U_need_integer T rfl rfl C_is_integer) (PySem.W.mg_of X G a_need_integer) k_k_need_integer b_need_integer kb_nil
    have hu_is_row : ∀ p ∈ (⟨K, [(P_is_row, none), (P_is_weather, none), (P__law_right, some (("_law_right" : Str) ++ ".<locals>." ++ "<lambda>"))], fun j => if j = 0 then some C else none⟩ : Pm).T, p.1 = P_is_row → p.2 = none := fun p hp e => by
      simp only [List.mem_cons, List.not_mem_nil, or_false] at hp
      rcases hp with rfl | rfl | rfl
      · rfl
      · rfl
      · exact absurd e.symm ne_is_row
    have C_is_row : Cal l.prog w K mg base (⟨K, [(P_is_row, none), (P_is_weather, none), (P__law_right, some (("_law_right" : Str) ++ ".<locals>." ++ "<lambda>"))], fun j => if j = 0 then some C else none⟩ : Pm) 4 "is_row" 0 F_is_row [] := cal_mk (ok_is_row U_is_row ⟨B_is_row.code, B_is_row.bm, B_is_row.gP⟩ (by simp) hu_is_row T rfl rfl C_is_integer) (PySem.W.mg_of X G a_is_row) k_k_is_row b_is_row kb_nil
    have C_need_row : Cal l.prog w K mg base (⟨K, [(P_is_row, none), (P_is_weather, none), (P__law_right, some (("_law_right" : Str) ++ ".<locals>." ++ "<lambda>"))], fun j => if j = 0 then some C else none⟩ : Pm) 5 "need_row" 1 F_need_row [] := cal_mk (ok_need_row U_need_row T rfl rfl C_is_row) (PySem.W.mg_of X G a_need_row) k_k_need_row b_need_row kb_nil
    have C_common : Cal l.prog w K mg base (⟨K, [(P_is_row, none), (P_is_weather, none), (P__law_right, some (("_law_right" : Str) ++ ".<locals>." ++ "<lambda>"))], fun j => if j = 0 then some C else none⟩ : Pm) 2 "common" 1 F_common [] := cal_mk (ok_common U_common T rfl rfl ) (PySem.W.mg_of X G a_common) k_k_common b_common kb_nil
    have C_least_common : Cal l.prog w K mg base (⟨K, [(P_is_row, none), (P_is_weather, none), (P__law_right, some (("_law_right" : Str) ++ ".<locals>." ++ "<lambda>"))], fun j => if j = 0 then some C else none⟩ : Pm) 3 "least_common" 1 F_least_common [] := cal_mk (ok_least_common U_least_common T rfl rfl C_common) (PySem.W.mg_of X G a_least_common) k_k_least_common b_least_common kb_nil
    have C_amount_at : Cal l.prog w K mg base (⟨K, [(P_is_row, none), (P_is_weather, none), (P__law_right, some (("_law_right" : Str) ++ ".<locals>." ++ "<lambda>"))], fun j => if j = 0 then some C else none⟩ : Pm) 2 "amount_at" 1 F_amount_at [] := cal_mk (ok_amount_at U_amount_at T rfl rfl ) (PySem.W.mg_of X G a_amount_at) k_k_amount_at b_amount_at kb_nil
    have C_turn_of : Cal l.prog w K mg base (⟨K, [(P_is_row, none), (P_is_weather, none), (P__law_right, some (("_law_right" : Str) ++ ".<locals>." ++ "<lambda>"))], fun j => if j = 0 then some C else none⟩ : Pm) 4 "turn_of" 1 F_turn_of [] := cal_mk (ok_turn_of U_turn_of T rfl rfl C_least_common) (PySem.W.mg_of X G a_turn_of) k_k_turn_of b_turn_of kb_nil
    have hu_is_weather : ∀ p ∈ (⟨K, [(P_is_row, none), (P_is_weather, none), (P__law_right, some (("_law_right" : Str) ++ ".<locals>." ++ "<lambda>"))], fun j => if j = 0 then some C else none⟩ : Pm).T, p.1 = P_is_weather → p.2 = none := fun p hp e => by
      simp only [List.mem_cons, List.not_mem_nil, or_false] at hp
      rcases hp with rfl | rfl | rfl
      · rfl
      · rfl
      · exact absurd e.symm ne_is_weather
    have C_is_weather : Cal l.prog w K mg base (⟨K, [(P_is_row, none), (P_is_weather, none), (P__law_right, some (("_law_right" : Str) ++ ".<locals>." ++ "<lambda>"))], fun j => if j = 0 then some C else none⟩ : Pm) 6 "is_weather" 0 F_is_weather [] := cal_mk (ok_is_weather U_is_weather ⟨B_is_weather.code, B_is_weather.bm, B_is_weather.gP⟩ (by simp) hu_is_weather T rfl rfl C_is_row) (PySem.W.mg_of X G a_is_weather) k_k_is_weather b_is_weather kb_nil
    have C_need_weather : Cal l.prog w K mg base (⟨K, [(P_is_row, none), (P_is_weather, none), (P__law_right, some (("_law_right" : Str) ++ ".<locals>." ++ "<lambda>"))], fun j => if j = 0 then some C else none⟩ : Pm) 7 "need_weather" 1 F_need_weather [] := cal_mk (ok_need_weather U_need_weather T rfl rfl C_is_weather) (PySem.W.mg_of X G a_need_weather) k_k_need_weather b_need_weather kb_nil
    have C_need_plant : Cal l.prog w K mg base (⟨K, [(P_is_row, none), (P_is_weather, none), (P__law_right, some (("_law_right" : Str) ++ ".<locals>." ++ "<lambda>"))], fun j => if j = 0 then some C else none⟩ : Pm) 8 "need_plant" 3 F_need_plant [] := cal_mk (ok_need_plant U_need_plant T rfl rfl C_need_integer C_need_weather C_need_row) (PySem.W.mg_of X G a_need_plant) k_k_need_plant b_need_plant kb_nil
    have C_enough_before : Cal l.prog w K mg base (⟨K, [(P_is_row, none), (P_is_weather, none), (P__law_right, some (("_law_right" : Str) ++ ".<locals>." ++ "<lambda>"))], fun j => if j = 0 then some C else none⟩ : Pm) 2 "enough_before" 4 F_enough_before [] := cal_mk (ok_enough_before U_enough_before T rfl rfl ) (PySem.W.mg_of X G a_enough_before) k_k_enough_before b_enough_before kb_nil
    have C_book_of : Cal l.prog w K mg base (⟨K, [(P_is_row, none), (P_is_weather, none), (P__law_right, some (("_law_right" : Str) ++ ".<locals>." ++ "<lambda>"))], fun j => if j = 0 then some C else none⟩ : Pm) 5 "book_of" 3 F_book_of [] := cal_mk (ok_book_of U_book_of T rfl rfl C_turn_of C_amount_at C_enough_before) (PySem.W.mg_of X G a_book_of) k_k_book_of b_book_of kb_nil
    have C_enough : Cal l.prog w K mg base (⟨K, [(P_is_row, none), (P_is_weather, none), (P__law_right, some (("_law_right" : Str) ++ ".<locals>." ++ "<lambda>"))], fun j => if j = 0 then some C else none⟩ : Pm) 9 "enough" 5 F_enough [(5, ["age"])] := cal_mk (ok_enough U_enough T rfl rfl C_need_plant C_need_integer C_book_of) (PySem.W.mg_of X G a_enough) k_k_enough b_enough (kb_cons (Fun.kb (j := 5) U_enough rfl fun kV doc pm an cdv ct us ws h1 h2 => match us, ws, h1, h2 with | [_, _, _, _, _], [_], _, _ => rfl) kb_nil)
    have C_whole_book : Cal l.prog w K mg base (⟨K, [(P_is_row, none), (P_is_weather, none), (P__law_right, some (("_law_right" : Str) ++ ".<locals>." ++ "<lambda>"))], fun j => if j = 0 then some C else none⟩ : Pm) 9 "whole_book" 3 F_whole_book [(3, ["patience"])] := cal_mk (ok_whole_book U_whole_book T rfl rfl C_need_plant C_book_of) (PySem.W.mg_of X G a_whole_book) k_k_whole_book b_whole_book (kb_cons (Fun.kb (j := 3) U_whole_book rfl fun kV doc pm an cdv ct us ws h1 h2 => match us, ws, h1, h2 with | [_, _, _], [_], _, _ => rfl) kb_nil)
    have C_may_water : Cal l.prog w K mg base (⟨K, [(P_is_row, none), (P_is_weather, none), (P__law_right, some (("_law_right" : Str) ++ ".<locals>." ++ "<lambda>"))], fun j => if j = 0 then some C else none⟩ : Pm) 9 "may_water" 6 F_may_water [(6, ["held"])] := cal_mk (ok_may_water U_may_water T rfl rfl C_need_plant C_need_integer C_book_of C_amount_at) (PySem.W.mg_of X G a_may_water) k_k_may_water b_may_water (kb_cons (Fun.kb (j := 6) U_may_water rfl fun kV doc pm an cdv ct us ws h1 h2 => match us, ws, h1, h2 with | [_, _, _, _, _, _], [_], _, _ => rfl) kb_nil)
    have C_lives : Cal l.prog w K mg base (⟨K, [(P_is_row, none), (P_is_weather, none), (P__law_right, some (("_law_right" : Str) ++ ".<locals>." ++ "<lambda>"))], fun j => if j = 0 then some C else none⟩ : Pm) 6 "lives" 3 F_lives [] := cal_mk (ok_lives U_lives T rfl rfl C_book_of) (PySem.W.mg_of X G a_lives) k_k_lives b_lives kb_nil
    have C_next_states : Cal l.prog w K mg base (⟨K, [(P_is_row, none), (P_is_weather, none), (P__law_right, some (("_law_right" : Str) ++ ".<locals>." ++ "<lambda>"))], fun j => if j = 0 then some C else none⟩ : Pm) 2 "next_states" 4 F_next_states [] := cal_mk (ok_next_states U_next_states T rfl rfl ) (PySem.W.mg_of X G a_next_states) k_k_next_states b_next_states kb_nil
    have C__law_dice : Cal l.prog w K mg base (⟨K, [(P_is_row, none), (P_is_weather, none), (P__law_right, some (("_law_right" : Str) ++ ".<locals>." ++ "<lambda>"))], fun j => if j = 0 then some C else none⟩ : Pm) 2 "_law_dice" 1 F__law_dice [] := cal_mk (ok__law_dice U__law_dice T rfl rfl ) (PySem.W.mg_of X G a__law_dice) k_k__law_dice b__law_dice kb_nil
    have C__law_roll : Cal l.prog w K mg base (⟨K, [(P_is_row, none), (P_is_weather, none), (P__law_right, some (("_law_right" : Str) ++ ".<locals>." ++ "<lambda>"))], fun j => if j = 0 then some C else none⟩ : Pm) 2 "_law_roll" 1 F__law_roll [] := cal_mk (ok__law_roll U__law_roll T rfl rfl ) (PySem.W.mg_of X G a__law_roll) k_k__law_roll b__law_roll kb_nil
    have C__law_pick : Cal l.prog w K mg base (⟨K, [(P_is_row, none), (P_is_weather, none), (P__law_right, some (("_law_right" : Str) ++ ".<locals>." ++ "<lambda>"))], fun j => if j = 0 then some C else none⟩ : Pm) 3 "_law_pick" 1 F__law_pick [] := cal_mk (ok__law_pick U__law_pick T rfl rfl C__law_roll) (PySem.W.mg_of X G a__law_pick) k_k__law_pick b__law_pick kb_nil
    have C__law_gcd : Cal l.prog w K mg base (⟨K, [(P_is_row, none), (P_is_weather, none), (P__law_right, some (("_law_right" : Str) ++ ".<locals>." ++ "<lambda>"))], fun j => if j = 0 then some C else none⟩ : Pm) 2 "_law_gcd" 1 F__law_gcd [] := cal_mk (ok__law_gcd U__law_gcd T rfl rfl ) (PySem.W.mg_of X G a__law_gcd) k_k__law_gcd b__law_gcd kb_nil
    have C__law_row : Cal l.prog w K mg base (⟨K, [(P_is_row, none), (P_is_weather, none), (P__law_right, some (("_law_right" : Str) ++ ".<locals>." ++ "<lambda>"))], fun j => if j = 0 then some C else none⟩ : Pm) 4 "_law_row" 2 F__law_row [] := cal_mk (ok__law_row U__law_row T rfl rfl C__law_roll C__law_pick) (PySem.W.mg_of X G a__law_row) k_k__law_row b__law_row kb_nil
    have C__law_turn : Cal l.prog w K mg base (⟨K, [(P_is_row, none), (P_is_weather, none), (P__law_right, some (("_law_right" : Str) ++ ".<locals>." ++ "<lambda>"))], fun j => if j = 0 then some C else none⟩ : Pm) 3 "_law_turn" 1 F__law_turn [] := cal_mk (ok__law_turn U__law_turn T rfl rfl C__law_gcd) (PySem.W.mg_of X G a__law_turn) k_k__law_turn b__law_turn kb_nil
    have C__law_weather : Cal l.prog w K mg base (⟨K, [(P_is_row, none), (P_is_weather, none), (P__law_right, some (("_law_right" : Str) ++ ".<locals>." ++ "<lambda>"))], fun j => if j = 0 then some C else none⟩ : Pm) 5 "_law_weather" 3 F__law_weather [] := cal_mk (ok__law_weather U__law_weather T rfl rfl C__law_row C__law_roll) (PySem.W.mg_of X G a__law_weather) k_k__law_weather b__law_weather kb_nil
    have C__law_holds : Cal l.prog w K mg base (⟨K, [(P_is_row, none), (P_is_weather, none), (P__law_right, some (("_law_right" : Str) ++ ".<locals>." ++ "<lambda>"))], fun j => if j = 0 then some C else none⟩ : Pm) 2 "_law_holds" 7 F__law_holds [] := cal_mk (ok__law_holds U__law_holds T rfl rfl ) (PySem.W.mg_of X G a__law_holds) k_k__law_holds b__law_holds kb_nil
    have C__law_lot : Cal l.prog w K mg base (⟨K, [(P_is_row, none), (P_is_weather, none), (P__law_right, some (("_law_right" : Str) ++ ".<locals>." ++ "<lambda>"))], fun j => if j = 0 then some C else none⟩ : Pm) 4 "_law_lot" 3 F__law_lot [] := cal_mk (ok__law_lot U__law_lot T rfl rfl C__law_turn C__law_holds) (PySem.W.mg_of X G a__law_lot) k_k__law_lot b__law_lot kb_nil
    have C__law_longest : Cal l.prog w K mg base (⟨K, [(P_is_row, none), (P_is_weather, none), (P__law_right, some (("_law_right" : Str) ++ ".<locals>." ++ "<lambda>"))], fun j => if j = 0 then some C else none⟩ : Pm) 2 "_law_longest" 6 F__law_longest [] := cal_mk (ok__law_longest U__law_longest T rfl rfl ) (PySem.W.mg_of X G a__law_longest) k_k__law_longest b__law_longest kb_nil
    have C_least_tub : Cal l.prog w K mg base (⟨K, [(P_is_row, none), (P_is_weather, none), (P__law_right, some (("_law_right" : Str) ++ ".<locals>." ++ "<lambda>"))], fun j => if j = 0 then some C else none⟩ : Pm) 9 "least_tub" 2 F_least_tub [(2, ["patience"])] := cal_mk (ok_least_tub U_least_tub T rfl rfl C_need_plant C_lives) (PySem.W.mg_of X G a_least_tub) k_k_least_tub b_least_tub (kb_cons (Fun.kb (j := 2) U_least_tub rfl fun kV doc pm an cdv ct us ws h1 h2 => match us, ws, h1, h2 with | [_, _], [_], _, _ => rfl) kb_nil)
    have C_dying_steps : Cal l.prog w K mg base (⟨K, [(P_is_row, none), (P_is_weather, none), (P__law_right, some (("_law_right" : Str) ++ ".<locals>." ++ "<lambda>"))], fun j => if j = 0 then some C else none⟩ : Pm) 9 "dying_steps" 5 F_dying_steps [(5, ["age"])] := cal_mk (ok_dying_steps U_dying_steps T rfl rfl C_need_integer C_need_plant C_book_of C_next_states C_amount_at) (PySem.W.mg_of X G a_dying_steps) k_k_dying_steps b_dying_steps (kb_cons (Fun.kb (j := 5) U_dying_steps rfl fun kV doc pm an cdv ct us ws h1 h2 => match us, ws, h1, h2 with | [_, _, _, _, _], [_], _, _ => rfl) kb_nil)
    have hu__law_right : ∀ p ∈ (⟨K, [(P_is_row, none), (P_is_weather, none), (P__law_right, some (("_law_right" : Str) ++ ".<locals>." ++ "<lambda>"))], fun j => if j = 0 then some C else none⟩ : Pm).T, p.1 = P__law_right → p.2 = some (("_law_right" : Str) ++ ".<locals>." ++ "<lambda>") := fun p hp e => by
      simp only [List.mem_cons, List.not_mem_nil, or_false] at hp
      rcases hp with rfl | rfl | rfl
      · exact absurd e ne_is_row
      · exact absurd e ne_is_weather
      · rfl
    have R : RefAt K mg C := { ex := ⟨f__law_refused, _, ⟨157, 8, 157, 12⟩, ⟨157, 8, 157, 14⟩, ⟨157, 8, 157, 14⟩, ⟨158, 11, 158, 22⟩, ⟨159, 15, 159, 16⟩, ⟨159, 15, 159, 21⟩, ⟨159, 8, 159, 21⟩, ⟨158, 4, 159, 21⟩, ⟨156, 4, 159, 21⟩, ⟨160, 11, 160, 13⟩, ⟨160, 4, 160, 13⟩, 0, _, _, _, _, _, _, _, _, _, _, _, PySem.W.mg_of X G a__law_refused, k_k__law_refused, l__law_refused, c_c__law_refused, b__law_refused, ⟨rfl, rfl, rfl, by decide +kernel, rfl, by decide +kernel, by decide +kernel⟩, .inl rfl, rfl, rfl⟩, mB := PySem.W.mg_of X G aC, xm := exm_own eC isC tC sC, XF := ⟨ga, gg, eC, hC⟩, no := nb }
    have C__law_right : Cal l.prog w K mg base (⟨K, [(P_is_row, none), (P_is_weather, none), (P__law_right, some (("_law_right" : Str) ++ ".<locals>." ++ "<lambda>"))], fun j => if j = 0 then some C else none⟩ : Pm) 12 "_law_right" 0 F__law_right [] := cal_mk (ok__law_right U__law_right B__law_right (by simp) hu__law_right R T rfl rfl C__law_roll C__law_weather C__law_row C__law_turn C__law_lot C_whole_book C_enough C_may_water C_dying_steps C__law_longest C_least_tub) (PySem.W.mg_of X G a__law_right) k_k__law_right b__law_right kb_nil
    exact ok_law (m := (⟨K, [(P_is_row, none), (P_is_weather, none), (P__law_right, some (("_law_right" : Str) ++ ".<locals>." ++ "<lambda>"))], fun j => if j = 0 then some C else none⟩ : Pm)) U_law T rfl rfl C__law_right C__law_dice
end K10
open PySem PySem.W PyProof.Rows
set_option maxRecDepth 100000 in
set_option maxHeartbeats 0 in
theorem PySem.Challenge.cw_rainkept_k10_whole_patience_holds : PySem.Challenge.rw_rainkept_k10_whole_patience.Holds := by
  w_on; o_law; k_head; (case hw => w_witness2)
  k_fill
  refine DL.walk_dl (l := PySem.Challenge.rw_rainkept_k10_whole_patience) (k := 13) (x := "script") rfl (by decide) rfl ⟨rfl, by decide, by decide⟩ (fun w h Y => by first | exact PySem.W.km_in_of Y | exact PySem.W.kIn_of Y) ?F
  case F =>
    intro w mg fa h KX G hmg tb
    refine' K10.all_mk KX G hmg tb ?aC ?xL ?sa ?ga ?gg ?nb ?iC ?t1 ?l1 ?c1 ?lcd ?hvs ?hfi ?lce ?kC ?eC ?tC ?hC ?isC ?sC ?su ?mro ?sV ?op ?ms ?tp ?k_MOST_AMOUNT ?k_MOST_PATIENCE ?k_MOST_ROW ?k_MOST_STEP ?k_MOST_TUB ?k_MOST_TURN_ROW ?z_abs ?z_all ?z_bool ?z_dict ?z_int ?z_isinstance ?z_len ?z_list ?z_max ?z_min ?z_range ?z_set ?z_sorted ?z_sum ?z_tuple ?z_zip ?a_is_integer ?l_is_integer ?c_c_is_integer ?k_k_is_integer ?a_need_integer ?l_need_integer ?c_c_need_integer ?k_k_need_integer ?a_is_row ?l_is_row ?c_c_is_row ?k_k_is_row ?tl_is_row ?tv_is_row ?tr_is_row ?tn_is_row ?a_need_row ?l_need_row ?c_c_need_row ?k_k_need_row ?a_common ?l_common ?c_c_common ?k_k_common ?a_least_common ?l_least_common ?c_c_least_common ?k_k_least_common ?a_amount_at ?l_amount_at ?c_c_amount_at ?k_k_amount_at ?a_turn_of ?l_turn_of ?c_c_turn_of ?k_k_turn_of ?a_is_weather ?l_is_weather ?c_c_is_weather ?k_k_is_weather ?tl_is_weather ?tv_is_weather ?tr_is_weather ?tn_is_weather ?a_need_weather ?l_need_weather ?c_c_need_weather ?k_k_need_weather ?a_need_plant ?l_need_plant ?c_c_need_plant ?k_k_need_plant ?a_enough_before ?l_enough_before ?c_c_enough_before ?k_k_enough_before ?a_book_of ?l_book_of ?c_c_book_of ?k_k_book_of ?a_enough ?l_enough ?c_c_enough ?k_k_enough ?a_whole_book ?l_whole_book ?c_c_whole_book ?k_k_whole_book ?a_may_water ?l_may_water ?c_c_may_water ?k_k_may_water ?a_lives ?l_lives ?c_c_lives ?k_k_lives ?a_next_states ?l_next_states ?c_c_next_states ?k_k_next_states ?a__law_dice ?l__law_dice ?c_c__law_dice ?k_k__law_dice ?a__law_roll ?l__law_roll ?c_c__law_roll ?k_k__law_roll ?a__law_pick ?l__law_pick ?c_c__law_pick ?k_k__law_pick ?a__law_gcd ?l__law_gcd ?c_c__law_gcd ?k_k__law_gcd ?a__law_row ?l__law_row ?c_c__law_row ?k_k__law_row ?a__law_turn ?l__law_turn ?c_c__law_turn ?k_k__law_turn ?a__law_weather ?l__law_weather ?c_c__law_weather ?k_k__law_weather ?a__law_holds ?l__law_holds ?c_c__law_holds ?k_k__law_holds ?a__law_lot ?l__law_lot ?c_c__law_lot ?k_k__law_lot ?a__law_longest ?l__law_longest ?c_c__law_longest ?k_k__law_longest ?a_least_tub ?l_least_tub ?c_c_least_tub ?k_k_least_tub ?a_dying_steps ?l_dying_steps ?c_c_dying_steps ?k_k_dying_steps ?a__law_right ?l__law_right ?c_c__law_right ?k_k__law_right ?tl__law_right ?tv__law_right ?tr__law_right ?tn__law_right ?a_law ?l_law ?c_c_law ?k_k_law ?a__law_refused ?l__law_refused ?c_c__law_refused ?k_k__law_refused ?ne_is_row ?ne_is_weather
    (case aC => k_is)
    (case xL => k_is)
    (case sa => k_is)
    (case ga => k_is)
    (case gg => k_is)
    (case nb => k_is)
    (case iC => k_is)
    (case t1 => k_is)
    (case l1 => k_is)
    (case c1 => k_is)
    (case lcd => k_is)
    (case hvs => rfl)
    (case hfi => rfl)
    (case lce => k_is)
    (case kC => k_is)
    (case eC => k_is)
    (case tC => k_is)
    (case hC => k_is)
    (case isC => k_is)
    (case sC => k_is)
    (case su => ks_is)
    (case mro => k_is)
    (case sV => k_is)
    (case op => k_is)
    (case ms => k_is)
    (case tp => rfl)
    (case k_MOST_AMOUNT => k_is)
    (case k_MOST_PATIENCE => k_is)
    (case k_MOST_ROW => k_is)
    (case k_MOST_STEP => k_is)
    (case k_MOST_TUB => k_is)
    (case k_MOST_TURN_ROW => k_is)
    (case z_abs => k_is)
    (case z_all => k_is)
    (case z_bool => k_is)
    (case z_dict => k_is)
    (case z_int => k_is)
    (case z_isinstance => k_is)
    (case z_len => k_is)
    (case z_list => k_is)
    (case z_max => k_is)
    (case z_min => k_is)
    (case z_range => k_is)
    (case z_set => k_is)
    (case z_sorted => k_is)
    (case z_sum => k_is)
    (case z_tuple => k_is)
    (case z_zip => k_is)
    (case a_is_integer => k_is)
    (case l_is_integer => k_is)
    (case c_c_is_integer => k_is)
    (case k_k_is_integer => k_is)
    (case a_need_integer => k_is)
    (case l_need_integer => k_is)
    (case c_c_need_integer => k_is)
    (case k_k_need_integer => k_is)
    (case a_is_row => k_is)
    (case l_is_row => k_is)
    (case c_c_is_row => k_is)
    (case k_k_is_row => k_is)
    (case tl_is_row => k_is)
    (case tv_is_row => rfl)
    (case tr_is_row => decide +kernel)
    (case tn_is_row => kernel_rfl)
    (case a_need_row => k_is)
    (case l_need_row => k_is)
    (case c_c_need_row => k_is)
    (case k_k_need_row => k_is)
    (case a_common => k_is)
    (case l_common => k_is)
    (case c_c_common => k_is)
    (case k_k_common => k_is)
    (case a_least_common => k_is)
    (case l_least_common => k_is)
    (case c_c_least_common => k_is)
    (case k_k_least_common => k_is)
    (case a_amount_at => k_is)
    (case l_amount_at => k_is)
    (case c_c_amount_at => k_is)
    (case k_k_amount_at => k_is)
    (case a_turn_of => k_is)
    (case l_turn_of => k_is)
    (case c_c_turn_of => k_is)
    (case k_k_turn_of => k_is)
    (case a_is_weather => k_is)
    (case l_is_weather => k_is)
    (case c_c_is_weather => k_is)
    (case k_k_is_weather => k_is)
    (case tl_is_weather => k_is)
    (case tv_is_weather => rfl)
    (case tr_is_weather => decide +kernel)
    (case tn_is_weather => kernel_rfl)
    (case a_need_weather => k_is)
    (case l_need_weather => k_is)
    (case c_c_need_weather => k_is)
    (case k_k_need_weather => k_is)
    (case a_need_plant => k_is)
    (case l_need_plant => k_is)
    (case c_c_need_plant => k_is)
    (case k_k_need_plant => k_is)
    (case a_enough_before => k_is)
    (case l_enough_before => k_is)
    (case c_c_enough_before => k_is)
    (case k_k_enough_before => k_is)
    (case a_book_of => k_is)
    (case l_book_of => k_is)
    (case c_c_book_of => k_is)
    (case k_k_book_of => k_is)
    (case a_enough => k_is)
    (case l_enough => k_is)
    (case c_c_enough => k_is)
    (case k_k_enough => k_is)
    (case a_whole_book => k_is)
    (case l_whole_book => k_is)
    (case c_c_whole_book => k_is)
    (case k_k_whole_book => k_is)
    (case a_may_water => k_is)
    (case l_may_water => k_is)
    (case c_c_may_water => k_is)
    (case k_k_may_water => k_is)
    (case a_lives => k_is)
    (case l_lives => k_is)
    (case c_c_lives => k_is)
    (case k_k_lives => k_is)
    (case a_next_states => k_is)
    (case l_next_states => k_is)
    (case c_c_next_states => k_is)
    (case k_k_next_states => k_is)
    (case a__law_dice => k_is)
    (case l__law_dice => k_is)
    (case c_c__law_dice => k_is)
    (case k_k__law_dice => k_is)
    (case a__law_roll => k_is)
    (case l__law_roll => k_is)
    (case c_c__law_roll => k_is)
    (case k_k__law_roll => k_is)
    (case a__law_pick => k_is)
    (case l__law_pick => k_is)
    (case c_c__law_pick => k_is)
    (case k_k__law_pick => k_is)
    (case a__law_gcd => k_is)
    (case l__law_gcd => k_is)
    (case c_c__law_gcd => k_is)
    (case k_k__law_gcd => k_is)
    (case a__law_row => k_is)
    (case l__law_row => k_is)
    (case c_c__law_row => k_is)
    (case k_k__law_row => k_is)
    (case a__law_turn => k_is)
    (case l__law_turn => k_is)
    (case c_c__law_turn => k_is)
    (case k_k__law_turn => k_is)
    (case a__law_weather => k_is)
    (case l__law_weather => k_is)
    (case c_c__law_weather => k_is)
    (case k_k__law_weather => k_is)
    (case a__law_holds => k_is)
    (case l__law_holds => k_is)
    (case c_c__law_holds => k_is)
    (case k_k__law_holds => k_is)
    (case a__law_lot => k_is)
    (case l__law_lot => k_is)
    (case c_c__law_lot => k_is)
    (case k_k__law_lot => k_is)
    (case a__law_longest => k_is)
    (case l__law_longest => k_is)
    (case c_c__law_longest => k_is)
    (case k_k__law_longest => k_is)
    (case a_least_tub => k_is)
    (case l_least_tub => k_is)
    (case c_c_least_tub => k_is)
    (case k_k_least_tub => k_is)
    (case a_dying_steps => k_is)
    (case l_dying_steps => k_is)
    (case c_c_dying_steps => k_is)
    (case k_k_dying_steps => k_is)
    (case a__law_right => k_is)
    (case l__law_right => k_is)
    (case c_c__law_right => k_is)
    (case k_k__law_right => k_is)
    (case tl__law_right => k_is)
    (case tv__law_right => rfl)
    (case tr__law_right => decide +kernel)
    (case tn__law_right => kernel_rfl)
    (case a_law => k_is)
    (case l_law => k_is)
    (case c_c_law => k_is)
    (case k_k_law => k_is)
    (case a__law_refused => k_is)
    (case l__law_refused => k_is)
    (case c_c__law_refused => k_is)
    (case k_k__law_refused => k_is)
    (case ne_is_row => decide)
    (case ne_is_weather => decide)
#print axioms PySem.Challenge.cw_rainkept_k10_whole_patience_holds

