import PyProof.Rows.All
import Wide.All
import OpenK.AllK
import Wide.FinOn
import PySem.Challenge.RW_barebough_k09_raider_step
import HandS.Base
import HandS.Call
import HandS.List
import HandS.Comp
import HandS.Ends
import HandS.Words
import HandS.Evl
import HandS.SortKw
import HandS.IsInst
import HandS.Iter
import HandS.Walk
import HandS.Text
import HandS.Style
import HandS.Defaults
import HandS.SortInts
import HandS.More
import HandS.ForMost
import KE.KStateDown
import HandS.WordsExc
import HandS.Head0
import HandS.Head1
import HandS.Head2
import HandS.HeadEnd
import HandS.HeadHook1
import HandS.HeadHook2
set_option Elab.async false
set_option linter.all false
set_option maxRecDepth 100000
set_option maxHeartbeats 8000000
namespace Dc
open PySem PySem.Spec PyProof.Rows L2
open Evl (Ex Ev EvT EvA)

/-! ### data in the heap -/
mutual
inductive Dd (K : PySem.W.Frag) (H : Hp) : V → PyData → Prop
  | non : Dd K H .non .none
  | bl (b : Bool) : Dd K H (.bl b) (.bool b)
  | int (i : Int) : Dd K H (.int i) (.int i)
  | str (x : Str) : Dd K H (.str x) (.str x)
  | lst {a : Addr} {vs : List V} {ds : List PyData} : H a = some (.lst vs) → DdAll K H vs ds → Dd K H (.ref a) (.list ds)
  | tup {a : Addr} {vs : List V} {ds : List PyData} : SqT K H a vs → DdAll K H vs ds → Dd K H (.ref a) (.tuple ds)
  | scr {a : Addr} {ns : List Int} : SqL K H a (ns.map V.int) → Dd K H (.ref a) (.dict [(.none, .list (ns.map .int))])
inductive DdAll (K : PySem.W.Frag) (H : Hp) : List V → List PyData → Prop
  | nil : DdAll K H [] []
  | cons {v : V} {vs : List V} {d : PyData} {ds : List PyData} : Dd K H v d → DdAll K H vs ds → DdAll K H (v :: vs) (d :: ds)
end
section
variable {K : PySem.W.Frag} {H H' : Hp}
mutual
theorem Dd.mono (e : Ex H H') : ∀ {d : PyData} {v : V}, Dd K H v d → Dd K H' v d
  | .none, _, .non => .non
  | .bool _, _, .bl _ => .bl _
  | .int _, _, .int _ => .int _
  | .str _, _, .str _ => .str _
  | .list ds, _, .lst h a => .lst (e _ _ h) (DdAll.mono e a)
  | .tuple ds, _, .tup h a => .tup (Evl.ex_t e h) (DdAll.mono e a)
  | .dict _, _, .scr h => .scr (Evl.ex_l e h)
theorem DdAll.mono (e : Ex H H') : ∀ {ds : List PyData} {vs : List V}, DdAll K H vs ds → DdAll K H' vs ds
  | [], _, .nil => .nil
  | _ :: _, _, .cons h t => .cons (Dd.mono e h) (DdAll.mono e t)
end
theorem dd_int {v : V} {n : Int} (h : Dd K H v (.int n)) : v = .int n := by cases h; rfl
theorem dd_bl {v : V} {b : Bool} (h : Dd K H v (.bool b)) : v = .bl b := by cases h; rfl
theorem dd_str {v : V} {x : Str} (h : Dd K H v (.str x)) : v = .str x := by cases h; rfl
theorem dd_non {v : V} (h : Dd K H v .none) : v = .non := by cases h; rfl
theorem dd_lst {v : V} {ds : List PyData} (h : Dd K H v (.list ds)) : ∃ a vs, v = .ref a ∧ H a = some (.lst vs) ∧ DdAll K H vs ds := by
  cases h with
  | lst h a => exact ⟨_, _, rfl, h, a⟩
theorem dd_tup {v : V} {ds : List PyData} (h : Dd K H v (.tuple ds)) : ∃ a vs, v = .ref a ∧ SqT K H a vs ∧ DdAll K H vs ds := by
  cases h with
  | tup h a => exact ⟨_, _, rfl, h, a⟩
theorem dd_scr {v : V} {ns : List Int} (h : Dd K H v (.dict [(.none, .list (ns.map .int))])) : ∃ a, v = .ref a ∧ SqL K H a (ns.map V.int) := by
  generalize e : PyData.dict [(.none, .list (ns.map .int))] = d at h
  cases h with
  | @scr a ms h =>
    injection e with e
    injection e with e _
    injection e with _ e
    injection e with e
    have : ns = ms := by
      exact (List.map_inj_right (f := PyData.int) fun a b z => PyData.int.inj z).mp e
    subst this
    exact ⟨a, rfl, h⟩
  | _ => cases e
theorem DdAll.length : ∀ {ds : List PyData} {vs : List V}, DdAll K H vs ds → vs.length = ds.length
  | [], _, .nil => rfl
  | _ :: _, _, .cons _ t => congrArg Nat.succ (DdAll.length t)
theorem DdAll.get : ∀ {ds : List PyData} {vs : List V} {i : Nat} {d : PyData}, DdAll K H vs ds → ds[i]? = some d → ∃ v, vs[i]? = some v ∧ Dd K H v d
  | [], _, _, _, .nil, e => by simp at e
  | _ :: _, _, 0, d, .cons h t, e => ⟨_, rfl, by have := Option.some.inj e; subst this; exact h⟩
  | _ :: _, _, i + 1, d, .cons h t, e => DdAll.get (i := i) t e
theorem DdAll.get' : ∀ {ds : List PyData} {vs : List V} {i : Nat} {v : V}, DdAll K H vs ds → vs[i]? = some v → ∃ d, ds[i]? = some d ∧ Dd K H v d
  | [], _, _, _, .nil, e => by simp at e
  | _ :: _, _, 0, d, .cons h t, e => ⟨_, rfl, by have := Option.some.inj e; subst this; exact h⟩
  | _ :: _, _, i + 1, d, .cons h t, e => DdAll.get' (i := i) t e
theorem DdAll.append : ∀ {ds es : List PyData} {vs ws : List V}, DdAll K H vs ds → DdAll K H ws es → DdAll K H (vs ++ ws) (ds ++ es)
  | [], _, _, _, .nil, s => s
  | _ :: _, _, _, _, .cons h t, s => .cons h (DdAll.append t s)
theorem DdAll.set : ∀ {ds : List PyData} {vs : List V} (i : Nat) {v : V} {d : PyData}, DdAll K H vs ds → Dd K H v d → DdAll K H (vs.set i v) (ds.set i d)
  | [], _, _, _, _, .nil, _ => .nil
  | _ :: _, _, 0, _, _, .cons _ t, s => .cons s t
  | _ :: _, _, i + 1, _, _, .cons h t, s => .cons h (DdAll.set i t s)
theorem DdAll.drop : ∀ {ds : List PyData} {vs : List V} (n : Nat), DdAll K H vs ds → DdAll K H (vs.drop n) (ds.drop n)
  | _, _, 0, r => r
  | [], _, _ + 1, .nil => .nil
  | _ :: _, _, n + 1, .cons _ t => DdAll.drop n t
theorem DdAll.take : ∀ {ds : List PyData} {vs : List V} (n : Nat), DdAll K H vs ds → DdAll K H (vs.take n) (ds.take n)
  | _, _, 0, _ => .nil
  | [], _, _ + 1, .nil => .nil
  | _ :: _, _, n + 1, .cons h t => .cons h (DdAll.take n t)
theorem DdAll.reverse : ∀ {ds : List PyData} {vs : List V}, DdAll K H vs ds → DdAll K H vs.reverse ds.reverse
  | [], _, .nil => .nil
  | _ :: _, _, .cons h t => by
    rw [List.reverse_cons, List.reverse_cons]
    exact DdAll.append (DdAll.reverse t) (.cons h .nil)
theorem DdAll.replicate {v : V} {d : PyData} (h : Dd K H v d) : ∀ n : Nat, DdAll K H (List.replicate n v) (List.replicate n d)
  | 0 => .nil
  | n + 1 => .cons h (DdAll.replicate h n)
theorem ddAll_ints : ∀ xs : List Int, DdAll K H (xs.map V.int) (xs.map PyData.int)
  | [] => .nil
  | x :: xs => .cons (.int x) (ddAll_ints xs)
theorem ddAll_bls : ∀ xs : List Bool, DdAll K H (xs.map V.bl) (xs.map PyData.bool)
  | [] => .nil
  | x :: xs => .cons (.bl x) (ddAll_bls xs)
theorem ddAll_strs : ∀ xs : List Str, DdAll K H (xs.map V.str) (xs.map PyData.str)
  | [] => .nil
  | x :: xs => .cons (.str x) (ddAll_strs xs)
theorem of_ddInts : ∀ {xs : List Int} {vs : List V}, DdAll K H vs (xs.map PyData.int) → vs = xs.map V.int
  | [], _, .nil => rfl
  | x :: xs, _, .cons h t => by rw [dd_int h, of_ddInts t]; rfl
theorem of_ddBls : ∀ {xs : List Bool} {vs : List V}, DdAll K H vs (xs.map PyData.bool) → vs = xs.map V.bl
  | [], _, .nil => rfl
  | x :: xs, _, .cons h t => by rw [dd_bl h, of_ddBls t]; rfl
theorem of_ddStrs : ∀ {xs : List Str} {vs : List V}, DdAll K H vs (xs.map PyData.str) → vs = xs.map V.str
  | [], _, .nil => rfl
  | x :: xs, _, .cons h t => by rw [dd_str h, of_ddStrs t]; rfl
end

/-! ### encodings -/
abbrev eL {α : Type} (f : α → PyData) (xs : List α) : PyData := .list (xs.map f)
abbrev eT2 {α β : Type} (f : α → PyData) (g : β → PyData) (x : α × β) : PyData := .tuple [f x.1, g x.2]
abbrev eT3 {α β γ : Type} (f : α → PyData) (g : β → PyData) (h : γ → PyData) (x : α × β × γ) : PyData := .tuple [f x.1, g x.2.1, h x.2.2]
abbrev eT4 {α β γ δ : Type} (f : α → PyData) (g : β → PyData) (h : γ → PyData) (k : δ → PyData) (x : α × β × γ × δ) : PyData := .tuple [f x.1, g x.2.1, h x.2.2.1, k x.2.2.2]
abbrev eTL {α : Type} (f : α → PyData) (xs : List α) : PyData := .tuple (xs.map f)
abbrev eO {α : Type} (f : α → PyData) : Option α → PyData
  | none => .none
  | some x => f x
abbrev eS (ns : List Int) : PyData := .dict [(.none, .list (ns.map .int))]
abbrev eN (_ : Unit) : PyData := .none

/-! ### parts of a heap -/
/-- what is new in H1 -/
def mn (H1 H0 : Hp) : Hp := fun a => match H0 a with
  | none => H1 a
  | some _ => none
/-- what is local: new since H0, not owned -/
def lc (H0 : Hp) (os : List Addr) (H : Hp) : Hp := fun a => match H0 a with
  | none => if a ∈ os then none else H a
  | some _ => none
section
variable {H0 H1 H2 H : Hp} {os : List Addr} {a : Addr} {o : HO}
theorem ex_mn : Ex (mn H1 H0) H1 := fun a o h => by
  unfold mn at h
  cases e : H0 a with
  | none => rw [e] at h; exact h
  | some _ => rw [e] at h; cases h
theorem mn_ex (e : Ex H1 H2) : Ex (mn H1 H0) (mn H2 H0) := fun a o h => by
  unfold mn at h ⊢
  cases q : H0 a with
  | none => rw [q] at h; exact e a o h
  | some _ => rw [q] at h; cases h
theorem mn_base (e : Ex H0 H1) : Ex (mn H2 H1) (mn H2 H0) := fun a o h => by
  unfold mn at h ⊢
  cases q : H1 a with
  | some _ => rw [q] at h; cases h
  | none =>
    rw [q] at h
    rw [Evl.fresh_back e q]
    exact h
theorem mn_new {p : Addr} (h0 : H0 p = none) (h : H p = some o) : mn H H0 p = some o := by
  unfold mn
  rw [h0]
  exact h
theorem ex_lc : Ex (lc H0 os H) H := fun a o h => by
  unfold lc at h
  cases e : H0 a with
  | some _ => rw [e] at h; cases h
  | none =>
    rw [e] at h
    by_cases m : a ∈ os
    · simp [m] at h
    · simpa [m] using h
theorem lc_mn : Ex (lc H0 os H) (mn H H0) := fun a o h => by
  unfold lc at h
  unfold mn
  cases e : H0 a with
  | some _ => rw [e] at h; cases h
  | none =>
    rw [e] at h
    by_cases m : a ∈ os
    · simp [m] at h
    · simpa [m] using h
theorem lc_ex (e : Ex H1 H2) : Ex (lc H0 os H1) (lc H0 os H2) := fun a o h => by
  unfold lc at h ⊢
  cases q : H0 a with
  | some _ => rw [q] at h; cases h
  | none =>
    rw [q] at h
    by_cases m : a ∈ os
    · simp [m] at h
    · simp only [m, if_false] at h ⊢
      exact e a o h
theorem lc_get (h0 : H0 a = none) (hm : a ∉ os) (h : H a = some o) : lc H0 os H a = some o := by
  unfold lc
  rw [h0]
  simp [hm, h]
theorem of_lc (h : lc H0 os H a = some o) : H0 a = none ∧ a ∉ os ∧ H a = some o := by
  unfold lc at h
  cases e : H0 a with
  | some _ => rw [e] at h; cases h
  | none =>
    rw [e] at h
    by_cases m : a ∈ os
    · simp [m] at h
    · exact ⟨rfl, m, by simpa [m] using h⟩
/-- new things are local -/
theorem mn_lc (e0 : Ex H0 H1) (ho : ∀ l ∈ os, H1 l ≠ none) : Ex (mn H2 H1) (lc H0 os H2) := fun a o h => by
  unfold mn at h
  cases q : H1 a with
  | some _ => rw [q] at h; cases h
  | none =>
    rw [q] at h
    exact lc_get (Evl.fresh_back e0 q) (fun m => ho a m q) h
/-- an owned thing changes: what is local stays -/
theorem lc_upd {l : Addr} (hl : l ∈ os) : lc H0 os (upd H l o) = lc H0 os H := by
  funext a
  unfold lc
  cases e : H0 a with
  | some _ => rfl
  | none =>
    by_cases m : a ∈ os
    · simp [m]
    · have : a ≠ l := fun z => m (z ▸ hl)
      simp [m, upd_ne this]
/-- one more owned thing, fresh -/
theorem lc_own {p : Addr} (hp : H1 p = none) (e : Ex H1 H2) : Ex (lc H0 os H1) (lc H0 (p :: os) H2) := fun a o h => by
  obtain ⟨h1, h2, h3⟩ := of_lc h
  exact lc_get h1 (fun m => by
    rcases List.mem_cons.mp m with z | z
    · rw [z, hp] at h3; cases h3
    · exact h2 z) (e a o h3)
/-- fewer owned things -/
theorem lc_fewer {os' : List Addr} (h : ∀ a ∈ os', a ∈ os) : Ex (lc H0 os H) (lc H0 os' H) := fun a o q => by
  obtain ⟨h1, h2, h3⟩ := of_lc q
  exact lc_get h1 (fun m => h2 (h a m)) h3
end

/-! ### the state of a def's body -/
def AllP {α : Type} (P : α → Prop) : List α → Prop
  | [] => True
  | a :: l => P a ∧ AllP P l
theorem AllP.imp {α : Type} {P Q : α → Prop} (f : ∀ a, P a → Q a) : ∀ {l : List α}, AllP P l → AllP Q l
  | [], _ => trivial
  | _ :: _, h => ⟨f _ h.1, AllP.imp f h.2⟩
theorem AllP.impM {α : Type} {P Q : α → Prop} : ∀ {l : List α}, (∀ a ∈ l, P a → Q a) → AllP P l → AllP Q l
  | [], _, _ => trivial
  | a :: l, f, h => ⟨f a List.mem_cons_self h.1, AllP.impM (fun b hb => f b (List.mem_cons_of_mem _ hb)) h.2⟩
theorem AllP.mem {α : Type} {P : α → Prop} : ∀ {l : List α} {a : α}, AllP P l → a ∈ l → P a
  | _ :: _, _, h, m => (List.mem_cons.mp m).elim (fun e => e ▸ h.1) (fun m' => AllP.mem h.2 m')
theorem AllP.get {α : Type} {P : α → Prop} : ∀ {l : List α} {i : Nat} {a : α}, AllP P l → l[i]? = some a → P a
  | _ :: _, 0, _, h, e => by have := Option.some.inj e; subst this; exact h.1
  | _ :: _, i + 1, _, h, e => AllP.get (i := i) h.2 e
theorem AllP.of {α : Type} {P : α → Prop} : ∀ {l : List α}, (∀ a ∈ l, P a) → AllP P l
  | [], _ => trivial
  | a :: _, h => ⟨h a List.mem_cons_self, AllP.of fun b hb => h b (List.mem_cons_of_mem _ hb)⟩
abbrev Own := Addr × List PyData
abbrev ads (os : List Own) : List Addr := os.map (·.1)
/-- H0: the heap at the entry; ls: values with their data, local; os: lists that the body owns -/
structure Rg (K : PySem.W.Frag) (H0 : Hp) (ls : List (V × PyData)) (os : List Own) (H : Hp) : Prop where
  base : Ex H0 H
  nd : (ads os).Nodup
  loc : AllP (fun p => Dd K (lc H0 (ads os) H) p.1 p.2) ls
  own : AllP (fun q => H0 q.1 = none ∧ ∃ vs, H q.1 = some (.lst vs) ∧ DdAll K (lc H0 (ads os) H) vs q.2) os
section
variable {K : PySem.W.Frag} {H0 H H' : Hp} {ls ls' : List (V × PyData)} {os os' : List Own}
theorem Rg.init : Rg K H [] [] H := ⟨Ex.refl _, List.nodup_nil, trivial, trivial⟩
theorem Rg.there (R : Rg K H0 ls os H) : ∀ l ∈ ads os, H l ≠ none := fun l hl => by
  obtain ⟨q, hq, rfl⟩ := List.mem_map.mp hl
  obtain ⟨_, vs, h, _⟩ := R.own.mem hq
  rw [h]
  exact fun z => nomatch z
theorem Rg.ext (R : Rg K H0 ls os H) (e : Ex H H') : Rg K H0 ls os H' :=
  ⟨R.base.trans e, R.nd, R.loc.imp fun _ h => h.mono (lc_ex e), R.own.imp fun _ h => ⟨h.1, let ⟨vs, a, b⟩ := h.2; ⟨vs, e _ _ a, b.mono (lc_ex e)⟩⟩⟩
theorem Rg.add {v : V} {d : PyData} (R : Rg K H0 ls os H) (h : Dd K (lc H0 (ads os) H) v d) : Rg K H0 ((v, d) :: ls) os H := ⟨R.base, R.nd, ⟨h, R.loc⟩, R.own⟩
theorem Rg.pick (R : Rg K H0 ls os H) (h : AllP (fun p => Dd K (lc H0 (ads os) H) p.1 p.2) ls') : Rg K H0 ls' os H := ⟨R.base, R.nd, h, R.own⟩
theorem Rg.at (R : Rg K H0 ls os H) (i : Nat) {v : V} {d : PyData} (h : ls[i]? = some (v, d)) : Dd K (lc H0 (ads os) H) v d := R.loc.get h
theorem Rg.atH (R : Rg K H0 ls os H) (i : Nat) {v : V} {d : PyData} (h : ls[i]? = some (v, d)) : Dd K H v d := (R.loc.get h).mono ex_lc
theorem Rg.atO (R : Rg K H0 ls os H) (i : Nat) {l : Addr} {ds : List PyData} (h : os[i]? = some (l, ds)) : ∃ vs, H l = some (.lst vs) ∧ DdAll K (lc H0 (ads os) H) vs ds := (R.own.get h).2
theorem Rg.atOH (R : Rg K H0 ls os H) (i : Nat) {l : Addr} {ds : List PyData} (h : os[i]? = some (l, ds)) : Dd K H (.ref l) (.list ds) :=
  let ⟨_, a, b⟩ := R.atO i h
  .lst a (b.mono ex_lc)
/-- a new owned list: p is fresh, its items local -/
theorem Rg.push {p : Addr} {vs : List V} {ds : List PyData} {H1 : Hp} (R : Rg K H0 ls os H) (e : Ex H H1) (hp : H p = none) (h1 : H1 p = some (.lst vs)) (hd : DdAll K (lc H0 (p :: ads os) H1) vs ds) : Rg K H0 ls ((p, ds) :: os) H1 :=
  ⟨R.base.trans e, List.nodup_cons.mpr ⟨fun m => R.there p m hp, R.nd⟩, R.loc.imp fun _ h => h.mono (lc_own hp e),
    ⟨Evl.fresh_back R.base hp, vs, h1, hd⟩, R.own.imp fun _ h => ⟨h.1, let ⟨vs, a, b⟩ := h.2; ⟨vs, e _ _ a, b.mono (lc_own hp e)⟩⟩⟩
theorem ads_set {i : Nat} {l : Addr} {ds ds' : List PyData} (h : os[i]? = some (l, ds)) : ads (os.set i (l, ds')) = ads os := by
  show (os.set i (l, ds')).map (·.1) = os.map (·.1)
  rw [List.map_set]
  refine List.ext_getElem? fun j => ?_
  rw [List.getElem?_set]
  by_cases e : i = j
  · subst e
    rw [if_pos rfl, List.getElem?_map, h]
    have : i < (os.map (·.1)).length := by
      rw [List.length_map]
      exact (List.getElem?_eq_some_iff.mp h).1
    rw [if_pos this]
    rfl
  · rw [if_neg e]
theorem AllP.set {α : Type} {P : α → Prop} : ∀ {l : List α} {i : Nat} {b : α}, P b → (∀ j a, j ≠ i → l[j]? = some a → P a) → AllP P (l.set i b)
  | [], _, _, _, _ => trivial
  | a :: l, 0, b, hb, f => ⟨hb, AllP.of fun c hc => by
      obtain ⟨j, hj⟩ := List.getElem?_of_mem hc
      exact f (j + 1) c (by omega) hj⟩
  | a :: l, i + 1, b, hb, f => ⟨f 0 a (by omega) rfl, AllP.set hb fun j c hj hc => f (j + 1) c (by omega) hc⟩
/-- an owned list is changed -/
theorem Rg.mut {i : Nat} {l : Addr} {ds ds' : List PyData} {ws : List V} (R : Rg K H0 ls os H) (h : os[i]? = some (l, ds)) (hd : DdAll K (lc H0 (ads os) H) ws ds') (e : os.set i (l, ds') = os') : Rg K H0 ls os' (upd H l (.lst ws)) := by
  subst e
  have hm : l ∈ ads os := List.mem_map.mpr ⟨_, List.mem_of_getElem? h, rfl⟩
  have h0 := (R.own.get h).1
  refine ⟨Ex.mut R.base h0, by rw [ads_set h]; exact R.nd, ?_, ?_⟩
  · rw [ads_set h, lc_upd hm]
    exact R.loc
  · rw [ads_set h, lc_upd hm]
    refine AllP.set ⟨h0, ws, upd_same, hd⟩ fun j q hj hq => ?_
    obtain ⟨a, vs, b, c⟩ := R.own.get hq
    refine ⟨a, vs, ?_, c⟩
    rw [upd_ne]
    · exact b
    · intro z
      have h1 : (ads os)[j]? = some q.1 := by rw [List.getElem?_map, hq]; rfl
      have h2 : (ads os)[i]? = some l := by rw [List.getElem?_map, h]; rfl
      rw [z] at h1
      obtain ⟨p1, e1⟩ := List.getElem?_eq_some_iff.mp h1
      obtain ⟨p2, e2⟩ := List.getElem?_eq_some_iff.mp h2
      exact hj ((List.getElem_inj R.nd).mp (e1.trans e2.symm))
theorem AllP.erase {α : Type} {P : α → Prop} : ∀ {l : List α} (i : Nat), AllP P l → AllP P (l.eraseIdx i)
  | [], _, _ => trivial
  | _ :: _, 0, h => h.2
  | _ :: _, i + 1, h => ⟨h.1, AllP.erase i h.2⟩
theorem map_erase {α β : Type} (f : α → β) : ∀ (l : List α) (i : Nat), (l.eraseIdx i).map f = (l.map f).eraseIdx i
  | [], _ => rfl
  | _ :: _, 0 => rfl
  | a :: l, i + 1 => congrArg (List.cons (f a)) (map_erase f l i)
/-- an owned list is let go: it is local from now on -/
theorem Rg.rel {i : Nat} {l : Addr} {ds : List PyData} (R : Rg K H0 ls os H) (h : os[i]? = some (l, ds)) (e : os.eraseIdx i = os') : Rg K H0 ((.ref l, .list ds) :: ls) os' H := by
  subst e
  have em : ads (os.eraseIdx i) = (ads os).eraseIdx i := map_erase _ _ _
  have few : ∀ a ∈ ads (os.eraseIdx i), a ∈ ads os := fun a ha => by
    rw [em] at ha
    exact List.mem_of_mem_eraseIdx ha
  have nl : l ∉ ads (os.eraseIdx i) := fun hm => by
    rw [em] at hm
    obtain ⟨j, hj⟩ := List.getElem?_of_mem hm
    have h2 : (ads os)[i]? = some l := by rw [List.getElem?_map, h]; rfl
    obtain ⟨p2, e2⟩ := List.getElem?_eq_some_iff.mp h2
    rw [List.getElem?_eraseIdx] at hj
    by_cases c : j < i
    · rw [if_pos c] at hj
      obtain ⟨p1, e1⟩ := List.getElem?_eq_some_iff.mp hj
      have := (List.getElem_inj R.nd).mp (e1.trans e2.symm)
      omega
    · rw [if_neg c] at hj
      obtain ⟨p1, e1⟩ := List.getElem?_eq_some_iff.mp hj
      have := (List.getElem_inj R.nd).mp (e1.trans e2.symm)
      omega
  obtain ⟨h0, vs, a, b⟩ := R.own.get h
  refine ⟨R.base, ?_, ⟨.lst (lc_get h0 nl a) (b.mono (lc_fewer few)), R.loc.imp fun _ q => q.mono (lc_fewer few)⟩, AllP.erase i (R.own.imp fun _ q => ⟨q.1, let ⟨vs, a, b⟩ := q.2; ⟨vs, a, b.mono (lc_fewer few)⟩⟩)⟩
  rw [em]
  exact List.Nodup.sublist (List.eraseIdx_sublist _ _) R.nd
end
end Dc
namespace Dc
open PySem PySem.Spec PyProof.Rows L2
open Evl (Ex Ev EvT EvA)

/-! ### what an expression gives -/
def Ga (K : PySem.W.Frag) (te : TE) (σ : L2.St) (H : Hp) (d : PyData) : Prop := ∀ H1, Ex H H1 → ∀ Q : VK, (∀ v H2, Ex H1 H2 → Dd K H2 v d → Q v H2) → te σ H1 Q
/-- something all of whose parts are new -/
def Gv (K : PySem.W.Frag) (te : TE) (σ : L2.St) (H : Hp) (d : PyData) : Prop := ∀ H1, Ex H H1 → ∀ Q : VK, (∀ v H2, Ex H1 H2 → Dd K (mn H2 H1) v d → Q v H2) → te σ H1 Q
/-- something local -/
def GL (K : PySem.W.Frag) (H0 : Hp) (os : List Own) (te : TE) (σ : L2.St) (H : Hp) (d : PyData) : Prop :=
  ∀ H1, Ex H H1 → ∀ Q : VK, (∀ v H2, Ex H1 H2 → Dd K (lc H0 (ads os) H2) v d → Q v H2) → te σ H1 Q
/-- a list whose items are local -/
def GE (K : PySem.W.Frag) (H0 : Hp) (os : List Own) (te : TE) (σ : L2.St) (H : Hp) (ds : List PyData) : Prop :=
  ∀ H1, Ex H H1 → ∀ Q : VK, (∀ a vs H2, Ex H1 H2 → H2 a = some (.lst vs) → DdAll K (lc H0 (ads os) H2) vs ds → Q (.ref a) H2) → te σ H1 Q
/-- a new list whose items are local -/
def GN (K : PySem.W.Frag) (H0 : Hp) (os : List Own) (te : TE) (σ : L2.St) (H : Hp) (ds : List PyData) : Prop :=
  ∀ H1, Ex H H1 → ∀ Q : VK, (∀ p vs H2, Ex H1 H2 → H1 p = none → H2 p = some (.lst vs) → DdAll K (lc H0 (p :: ads os) H2) vs ds → Q (.ref p) H2) → te σ H1 Q
def GaA (K : PySem.W.Frag) (ta : TA) (σ : L2.St) (H : Hp) (ds : List PyData) : Prop := ∀ H1, Ex H H1 → ∀ Q : List V → Hp → Prop, (∀ vs H2, Ex H1 H2 → DdAll K H2 vs ds → Q vs H2) → ta σ H1 Q
def GLA (K : PySem.W.Frag) (H0 : Hp) (os : List Own) (ta : TA) (σ : L2.St) (H : Hp) (ds : List PyData) : Prop :=
  ∀ H1, Ex H H1 → ∀ Q : List V → Hp → Prop, (∀ vs H2, Ex H1 H2 → DdAll K (lc H0 (ads os) H2) vs ds → Q vs H2) → ta σ H1 Q
section
variable {K : PySem.W.Frag} {H0 H H' : Hp} {ls : List (V × PyData)} {os : List Own} {σ : L2.St} {te ta tb tc : TE} {tt tu : TT} {d e : PyData} {ds es : List PyData} {v : V} {i : Nat} {n m : Int} {b c : Bool} {x y : Str}

theorem Ga.mono (e : Ex H H') (h : Ga K te σ H d) : Ga K te σ H' d := fun H1 a Q q => h H1 (e.trans a) Q q
theorem GL.mono (e : Ex H H') (h : GL K H0 os te σ H d) : GL K H0 os te σ H' d := fun H1 a Q q => h H1 (e.trans a) Q q

/-! from one to the other -/
theorem ga_ev (h : Ev te σ H v) (f : Dd K H v d) : Ga K te σ H d := fun H1 e Q q => h H1 e Q fun H2 e2 => q v H2 e2 (f.mono (e.trans e2))
theorem ga_int (h : Ev te σ H (.int n)) : Ga K te σ H (.int n) := ga_ev h (.int n)
theorem ga_bl (h : Ev te σ H (.bl b)) : Ga K te σ H (.bool b) := ga_ev h (.bl b)
theorem ga_str (h : Ev te σ H (.str x)) : Ga K te σ H (.str x) := ga_ev h (.str x)
theorem ga_non (h : Ev te σ H .non) : Ga K te σ H .none := ga_ev h .non
theorem ga_var (h : σ[i]? = some (some v)) (f : Dd K H v d) : Ga K (tVar i) σ H d := ga_ev (Evl.ev_var h) f
theorem ga_loc (R : Rg K H0 ls os H) (h : σ[i]? = some (some v)) (j : Nat) (hj : ls[j]? = some (v, d)) : Ga K (tVar i) σ H d := ga_var h (R.atH j hj)
theorem ga_own {l : Addr} (R : Rg K H0 ls os H) (h : σ[i]? = some (some (.ref l))) (j : Nat) (hj : os[j]? = some (l, ds)) : Ga K (tVar i) σ H (.list ds) := ga_var h (R.atOH j hj)
theorem ga_arg (R : Rg K H0 ls os H) (h : σ[i]? = some (some v)) (f : Dd K H0 v d) : Ga K (tVar i) σ H d := ga_var h (f.mono R.base)
theorem ev_ga (h : Ga K te σ H d) (f : ∀ H v, Dd K H v d → v = v') : Ev te σ H v' := fun H1 e Q q => h H1 e Q fun u H2 e2 g => by
  rw [f H2 u g]
  exact q H2 e2
theorem ev_int (h : Ga K te σ H (.int n)) : Ev te σ H (.int n) := ev_ga h fun _ _ g => dd_int g
theorem ev_bl (h : Ga K te σ H (.bool b)) : Ev te σ H (.bl b) := ev_ga h fun _ _ g => dd_bl g
theorem ev_str (h : Ga K te σ H (.str x)) : Ev te σ H (.str x) := ev_ga h fun _ _ g => dd_str g
theorem ga_gv (h : Gv K te σ H d) : Ga K te σ H d := fun H1 e Q q => h H1 e Q fun v H2 e2 f => q v H2 e2 (f.mono ex_mn)
theorem ga_gl (h : GL K H0 os te σ H d) : Ga K te σ H d := fun H1 e Q q => h H1 e Q fun v H2 e2 f => q v H2 e2 (f.mono ex_lc)
theorem gl_ev (h : Ev te σ H v) (f : ∀ H, Dd K H v d) : GL K H0 os te σ H d := fun H1 e Q q => h H1 e Q fun H2 e2 => q v H2 e2 (f _)
theorem gl_int (h : Ev te σ H (.int n)) : GL K H0 os te σ H (.int n) := gl_ev h fun _ => .int n
theorem gl_bl (h : Ev te σ H (.bl b)) : GL K H0 os te σ H (.bool b) := gl_ev h fun _ => .bl b
theorem gl_str (h : Ev te σ H (.str x)) : GL K H0 os te σ H (.str x) := gl_ev h fun _ => .str x
theorem gl_non (h : Ev te σ H .non) : GL K H0 os te σ H .none := gl_ev h fun _ => .non
theorem gl_loc (R : Rg K H0 ls os H) (h : σ[i]? = some (some v)) (j : Nat) (hj : ls[j]? = some (v, d)) : GL K H0 os (tVar i) σ H d := fun H1 e Q q =>
  ⟨v, h, q v H1 (Ex.refl _) ((R.at j hj).mono (lc_ex e))⟩
theorem gl_gv (R : Rg K H0 ls os H) (h : Gv K te σ H d) : GL K H0 os te σ H d := fun H1 e Q q => h H1 e Q fun v H2 e2 f =>
  q v H2 e2 (f.mono (mn_lc (R.base.trans e) (R.ext e).there))
theorem gl_gn (R : Rg K H0 ls os H) (h : GN K H0 os te σ H ds) : GL K H0 os te σ H (.list ds) := fun H1 e Q q => h H1 e Q fun p vs H2 e2 hp h2 f =>
  q _ H2 e2 (.lst (lc_get (Evl.fresh_back (R.base.trans e) hp) (fun m => (R.ext e).there p m hp) h2) (f.mono (lc_fewer fun a ha => List.mem_cons_of_mem _ ha)))
theorem ge_gl (h : GL K H0 os te σ H (.list ds)) : GE K H0 os te σ H ds := fun H1 e Q q => h H1 e Q fun v H2 e2 f => by
  obtain ⟨a, vs, rfl, h1, h2⟩ := dd_lst f
  exact q a vs H2 e2 (of_lc h1).2.2 h2
theorem ge_gn (h : GN K H0 os te σ H ds) : GE K H0 os te σ H ds := fun H1 e Q q => h H1 e Q fun p vs H2 e2 _ h2 f =>
  q p vs H2 e2 h2 (f.mono (lc_fewer fun a ha => List.mem_cons_of_mem _ ha))
theorem ge_own {l : Addr} (R : Rg K H0 ls os H) (h : σ[i]? = some (some (.ref l))) (j : Nat) (hj : os[j]? = some (l, ds)) : GE K H0 os (tVar i) σ H ds := fun H1 e Q q => by
  obtain ⟨vs, a, b⟩ := (R.ext e).atO j hj
  exact ⟨_, h, q l vs H1 (Ex.refl _) a b⟩
theorem ge_flat (h : Ga K te σ H (.list ds)) (f : ∀ H H' vs, DdAll K H vs ds → DdAll K H' vs ds) : GE K H0 os te σ H ds := fun H1 e Q q => h H1 e Q fun v H2 e2 g => by
  obtain ⟨a, vs, rfl, h1, h2⟩ := dd_lst g
  exact q a vs H2 e2 h1 (f _ _ _ h2)
theorem flat_ints {xs : List Int} (H H' : Hp) (vs : List V) (h : DdAll K H vs (xs.map PyData.int)) : DdAll K H' vs (xs.map PyData.int) := by
  rw [of_ddInts h]
  exact ddAll_ints xs
theorem flat_bls {xs : List Bool} (H H' : Hp) (vs : List V) (h : DdAll K H vs (xs.map PyData.bool)) : DdAll K H' vs (xs.map PyData.bool) := by
  rw [of_ddBls h]
  exact ddAll_bls xs
theorem flat_strs {xs : List Str} (H H' : Hp) (vs : List V) (h : DdAll K H vs (xs.map PyData.str)) : DdAll K H' vs (xs.map PyData.str) := by
  rw [of_ddStrs h]
  exact ddAll_strs xs
/-- a call's new flat list, to be owned -/
theorem gn_flat (h : Gv K te σ H (.list ds)) (f : ∀ H H' vs, DdAll K H vs ds → DdAll K H' vs ds) : GN K H0 os te σ H ds := fun H1 e Q q => h H1 e Q fun v H2 e2 g => by
  obtain ⟨a, vs, rfl, h1, h2⟩ := dd_lst g
  have hn : H1 a = none := by
    unfold mn at h1
    cases z : H1 a with
    | none => rfl
    | some _ => rw [z] at h1; cases h1
  exact q a vs H2 e2 hn (ex_mn _ _ h1) (f _ _ _ h2)

/-! argument lists -/
theorem gaA_nil : GaA K tNil σ H [] := fun H1 e Q q => q [] H1 (Ex.refl _) .nil
theorem gaA_cons {tr : TA} (h : Ga K te σ H d) (t : GaA K tr σ H ds) : GaA K (tCons te tr) σ H (d :: ds) := fun H1 e Q q =>
  h H1 e _ fun v H2 e2 f => t H2 (e.trans e2) _ fun vs H3 e3 g => q (v :: vs) H3 (e2.trans e3) (.cons (f.mono e3) g)
theorem glA_nil : GLA K H0 os tNil σ H [] := fun H1 e Q q => q [] H1 (Ex.refl _) .nil
theorem glA_cons {tr : TA} (h : GL K H0 os te σ H d) (t : GLA K H0 os tr σ H ds) : GLA K H0 os (tCons te tr) σ H (d :: ds) := fun H1 e Q q =>
  h H1 e _ fun v H2 e2 f => t H2 (e.trans e2) _ fun vs H3 e3 g => q (v :: vs) H3 (e2.trans e3) (.cons (f.mono (lc_ex e3)) g)

/-! displays -/
theorem gn_lst {ta : TA} (h : GLA K H0 os ta σ H ds) (hz : ds.length ≤ sizeLine) : GN K H0 os (tLst ta) σ H ds := fun H1 e Q q => h H1 e _ fun vs H2 e2 f =>
  ⟨by rw [f.length]; exact hz, fun p hp => q p vs _ (e2.trans (Ex.new hp)) (Evl.fresh_back e2 hp) upd_same (f.mono (lc_own hp (Ex.new hp)))⟩
theorem gl_tup {ta : TA} (R : Rg K H0 ls os H) (h : GLA K H0 os ta σ H ds) (hz : ds.length ≤ sizeLine) : GL K H0 os (tTup ta) σ H (.tuple ds) := fun H1 e Q q => h H1 e _ fun vs H2 e2 f =>
  ⟨by rw [f.length]; exact hz, fun p hp => q _ _ (e2.trans (Ex.new hp)) (.tup (Evl.st_of (lc_get (Evl.fresh_back ((R.base.trans e).trans e2) hp) (fun m => ((R.ext e).ext e2).there p m hp) upd_same)) (f.mono (lc_ex (Ex.new hp))))⟩
/-- displays handed on at once -/
theorem ga_lst {ta : TA} (h : GaA K ta σ H ds) (hz : ds.length ≤ sizeLine) : Ga K (tLst ta) σ H (.list ds) := fun H1 e Q q => h H1 e _ fun vs H2 e2 f =>
  ⟨by rw [f.length]; exact hz, fun p hp => q _ _ (e2.trans (Ex.new hp)) (.lst upd_same (f.mono (Ex.new hp)))⟩
theorem ga_tup {ta : TA} (h : GaA K ta σ H ds) (hz : ds.length ≤ sizeLine) : Ga K (tTup ta) σ H (.tuple ds) := fun H1 e Q q => h H1 e _ fun vs H2 e2 f =>
  ⟨by rw [f.length]; exact hz, fun p hp => q _ _ (e2.trans (Ex.new hp)) (.tup (Evl.st_of upd_same) (f.mono (Ex.new hp)))⟩

/-! lists: +, *, slices, list(), sorted -/
theorem gn_cat (ha : GE K H0 os ta σ H ds) (hb : GE K H0 os tb σ H es) (hz : ds.length + es.length ≤ sizeLine) : GN K H0 os (tOp rCat ta tb) σ H (ds ++ es) := fun H1 e Q q =>
  ha H1 e _ fun a vs H2 e2 h2 f => hb H2 (e.trans e2) _ fun b ws H3 e3 h3 g =>
    ⟨a, b, vs, ws, rfl, rfl, e3 _ _ h2, h3, by rw [f.length, g.length]; exact hz, fun p hp => q p _ _ ((e2.trans e3).trans (Ex.new hp)) (Evl.fresh_back (e2.trans e3) hp) upd_same
      (((f.mono (lc_ex e3)).append g).mono (lc_own hp (Ex.new hp)))⟩
theorem DdAll.rep {vs : List V} (f : DdAll K H vs ds) : ∀ k : Nat, DdAll K H (List.replicate k vs).flatten (List.replicate k ds).flatten
  | 0 => .nil
  | k + 1 => by
    rw [List.replicate_succ, List.replicate_succ, List.flatten_cons, List.flatten_cons]
    exact f.append (DdAll.rep f k)
theorem gn_rep (ha : GE K H0 os ta σ H ds) (hb : Ev tb σ H (.int n)) (h1 : -(2 ^ 63) ≤ n) (h2 : n < 2 ^ 63) (hz : ds.length * n.toNat ≤ sizeLine) : GN K H0 os (tOp rRep ta tb) σ H (List.replicate n.toNat ds).flatten := fun H1 e Q q =>
  ha H1 e _ fun a vs H2 e2 h f => hb H2 (e.trans e2) _ fun H3 e3 =>
    ⟨a, n, vs, rfl, rfl, e3 _ _ h, h1, h2, by rw [f.length]; exact hz, fun p hp => q p _ _ ((e2.trans e3).trans (Ex.new hp)) (Evl.fresh_back (e2.trans e3) hp) upd_same
      (((f.mono (lc_ex e3)).mono (lc_own hp (Ex.new hp))).rep _)⟩
def sln {α : Type} (xs : List α) (lo hi : Option Int) : List α := (xs.drop (HT.sIx xs.length 0 lo)).take (HT.sIx xs.length xs.length hi - HT.sIx xs.length 0 lo)
theorem sln_map {α β : Type} (f : α → β) (xs : List α) (lo hi : Option Int) : (sln xs lo hi).map f = sln (xs.map f) lo hi := by
  unfold sln
  rw [List.map_take, List.map_drop, List.length_map]
theorem DdAll.cut {vs : List V} (f : DdAll K H vs ds) (lo hi : Option Int) : DdAll K H (cutV vs lo hi) (sln ds lo hi) := by
  unfold sln cutV
  rw [f.length]
  exact (f.drop _).take _
/-- a part of a slice -/
def EvO (to : TO) (σ : L2.St) (H : Hp) (o : Option Int) : Prop := ∀ H1, Ex H H1 → ∀ Q : Option Int → Hp → Prop, (∀ H2, Ex H1 H2 → Q o H2) → to σ H1 Q
theorem eo_no : EvO tNoPart σ H none := fun H1 _ _ q => q H1 (Ex.refl _)
theorem eo_int (h : Ev te σ H (.int n)) : EvO (tPart te) σ H (some n) := fun H1 e _ q => h H1 e _ fun H2 e2 => ⟨n, rfl, q H2 e2⟩
theorem gn_sl {lo hi : Option Int} {tl th : TO} (ha : GE K H0 os ta σ H ds) (hl : EvO tl σ H lo) (hh : EvO th σ H hi) : GN K H0 os (tSl (rSlL K) ta tl th) σ H (sln ds lo hi) := fun H1 e Q q =>
  ha H1 e _ fun a vs H2 e2 h f => hl H2 (e.trans e2) _ fun H3 e3 => hh H3 ((e.trans e2).trans e3) _ fun H4 e4 =>
    ⟨a, vs, rfl, SqL.of (e4 _ _ (e3 _ _ h)), fun p hp => q p _ _ (((e2.trans e3).trans e4).trans (Ex.new hp)) (Evl.fresh_back ((e2.trans e3).trans e4) hp) upd_same
      (((f.mono (lc_ex (e3.trans e4))).mono (lc_own hp (Ex.new hp))).cut lo hi)⟩
theorem gn_list (ha : GE K H0 os ta σ H ds) : GN K H0 os (tCB (fun xs H Q => ∃ p ys, xs = [.ref p] ∧ (SqL K H p ys ∨ SqT K H p ys) ∧ ∀ l, H l = none → Q (.ref l) (upd H l (.lst ys))) (tCons ta tNil)) σ H ds := fun H1 e Q q =>
  ha H1 e _ fun a vs H2 e2 h f => ⟨a, vs, rfl, .inl (SqL.of h), fun p hp => q p _ _ (e2.trans (Ex.new hp)) (Evl.fresh_back e2 hp) upd_same (f.mono (lc_own hp (Ex.new hp)))⟩
/-- list(a tuple of ints) -/
theorem gn_listT {xs : List Int} (ha : Ga K ta σ H (eTL .int xs)) : GN K H0 os (tCB (fun xs H Q => ∃ p ys, xs = [.ref p] ∧ (SqL K H p ys ∨ SqT K H p ys) ∧ ∀ l, H l = none → Q (.ref l) (upd H l (.lst ys))) (tCons ta tNil)) σ H (xs.map .int) := fun H1 e Q q =>
  ha H1 e _ fun v H2 e2 f => by
    obtain ⟨a, vs, rfl, h, g⟩ := dd_tup f
    exact ⟨a, vs, rfl, .inr h, fun p hp => q p _ _ (e2.trans (Ex.new hp)) (Evl.fresh_back e2 hp) upd_same (flat_ints _ _ _ g)⟩
/-! sorted of ints -/
def isort (p : Int → Int → Bool) (xs : List Int) : List Int := xs.mergeSort p
def srtD (xs : List Int) : List Int := xs.mergeSort fun a b => decide (b ≤ a)
def srtA (xs : List Int) : List Int := xs.mergeSort fun a b => decide (a ≤ b)
theorem perm_srtD (xs : List Int) : (srtD xs).Perm xs := List.mergeSort_perm _ _
theorem perm_srtA (xs : List Int) : (srtA xs).Perm xs := List.mergeSort_perm _ _
theorem pw_srtD (xs : List Int) : (srtD xs).Pairwise (· ≥ ·) := by
  have h := List.pairwise_mergeSort (le := fun a b : Int => decide (b ≤ a)) (by simp; omega) (by simp; omega) xs
  exact h.imp fun {a b} q => by have := of_decide_eq_true q; exact this
theorem pw_srtA (xs : List Int) : (srtA xs).Pairwise (· ≤ ·) := by
  have h := List.pairwise_mergeSort (le := fun a b : Int => decide (a ≤ b)) (by simp; omega) (by simp; omega) xs
  exact h.imp fun {a b} q => by have := of_decide_eq_true q; exact this
theorem pw_unique {r : Int → Int → Prop} (ha : ∀ a b, r a b → r b a → a = b) : ∀ {xs ys : List Int}, xs.Perm ys → xs.Pairwise r → ys.Pairwise r → xs = ys := fun {xs ys} p h1 h2 =>
  List.Perm.eq_of_pairwise (fun a b _ _ h h' => ha a b h h') h1 h2 p
theorem srtD_eq {xs ys : List Int} (p : ys.Perm xs) (h : ys.Pairwise (· ≥ ·)) : ys = srtD xs := pw_unique (r := (· ≥ ·)) (fun a b (h : a ≥ b) (h' : b ≥ a) => by omega) (p.trans (perm_srtD xs).symm) h (pw_srtD xs)
theorem srtA_eq {xs ys : List Int} (p : ys.Perm xs) (h : ys.Pairwise (· ≤ ·)) : ys = srtA xs := pw_unique (r := (· ≤ ·)) (fun a b (h : a ≤ b) (h' : b ≤ a) => by omega) (p.trans (perm_srtA xs).symm) h (pw_srtA xs)
theorem gn_sortedR {xs : List Int} {tk : TA} (ha : Ga K ta σ H (eL .int xs)) (hk : ∀ H1, Ex H H1 → ∀ Q : List V → Hp → Prop, (∀ H2, Ex H1 H2 → Q [.bl true] H2) → tk σ H1 Q) :
    GN K H0 os (tCKw (rSortedKw K true [.bl true]) (tCons ta tNil) tk) σ H ((srtD xs).map .int) := fun H1 e Q q =>
  ha H1 e _ fun v H2 e2 f => by
    obtain ⟨a, vs, rfl, h, g⟩ := dd_lst f
    show tk σ H2 _
    refine hk H2 (e.trans e2) _ fun H3 e3 => ⟨a, xs, rfl, rfl, SqL.of (e3 _ _ (by rw [h, of_ddInts g])), fun ns' p hp ho hn => ?_⟩
    have es : ns' = srtD xs := srtD_eq hp (by simpa [OrdB] using ho)
    rw [es]
    exact q p _ _ ((e2.trans e3).trans (Ex.new hn)) (Evl.fresh_back (e2.trans e3) hn) upd_same (ddAll_ints _)

/-! items, len, sum -/
theorem getO_map {α : Type} (f : α → PyData) {xs : List α} {i : Int} {a : α} (h : atI xs i = some a) : atI (xs.map f) i = some (f a) := by
  unfold atI at h ⊢
  rw [List.length_map]
  cases z : ixN xs.length i with
  | none => rw [z] at h; cases h
  | some j =>
    rw [z] at h
    show (xs.map f)[j]? = some (f a)
    rw [List.getElem?_map, show xs[j]? = some a from h]
    rfl
theorem DdAll.atI {vs : List V} {i : Int} (h : DdAll K H vs ds) (e : atI ds i = some d) : ∃ v, L2.atI vs i = some v ∧ Dd K H v d := by
  unfold L2.atI at e ⊢
  rw [h.length]
  cases z : ixN ds.length i with
  | none => rw [z] at e; cases e
  | some j =>
    rw [z] at e
    exact h.get (i := j) e
theorem ga_ix {α : Type} {f : α → PyData} {xs : List α} {a : α} (ha : Ga K ta σ H (eL f xs)) (hb : Ev tb σ H (.int n)) (h : atI xs n = some a) : Ga K (tOp (rIxL K) ta tb) σ H (f a) := fun H1 e Q q =>
  ha H1 e _ fun v H2 e2 g => hb H2 (e.trans e2) _ fun H3 e3 => by
    obtain ⟨p, vs, rfl, hp, hd⟩ := dd_lst g
    obtain ⟨w, h1, h2⟩ := hd.atI (getO_map f h)
    exact ⟨p, vs, n, w, rfl, rfl, SqL.of (e3 _ _ hp), h1, q w H3 (e2.trans e3) (h2.mono e3)⟩
theorem gl_ix {α : Type} {f : α → PyData} {xs : List α} {a : α} (ha : GE K H0 os ta σ H (xs.map f)) (hb : Ev tb σ H (.int n)) (h : atI xs n = some a) : GL K H0 os (tOp (rIxL K) ta tb) σ H (f a) := fun H1 e Q q =>
  ha H1 e _ fun p vs H2 e2 hp hd => hb H2 (e.trans e2) _ fun H3 e3 => by
    obtain ⟨w, h1, h2⟩ := hd.atI (getO_map f h)
    exact ⟨p, vs, n, w, rfl, rfl, SqL.of (e3 _ _ hp), h1, q w H3 (e2.trans e3) (h2.mono (lc_ex e3))⟩
theorem ev_len {α : Type} {f : α → PyData} {xs : List α} (ha : Ga K ta σ H (eL f xs)) : Ev (tCB (fun xs H Q => ∃ x n, xs = [x] ∧ LenV K x H n ∧ Q (.int n) H) (tCons ta tNil)) σ H (.int (xs.length : Int)) := fun H1 e Q q =>
  ha H1 e _ fun v H2 e2 g => by
    obtain ⟨p, vs, rfl, hp, hd⟩ := dd_lst g
    have el := hd.length
    rw [List.length_map] at el
    exact ⟨_, xs.length, rfl, .inl ⟨vs, SqL.of hp, el.symm⟩, q H2 e2⟩
theorem ev_lenT {α : Type} {f : α → PyData} {xs : List α} (ha : Ga K ta σ H (eTL f xs)) : Ev (tCB (fun xs H Q => ∃ x n, xs = [x] ∧ LenV K x H n ∧ Q (.int n) H) (tCons ta tNil)) σ H (.int (xs.length : Int)) := fun H1 e Q q =>
  ha H1 e _ fun v H2 e2 g => by
    obtain ⟨p, vs, rfl, hp, hd⟩ := dd_tup g
    have el := hd.length
    rw [List.length_map] at el
    exact ⟨_, xs.length, rfl, .inr ⟨vs, hp, el.symm⟩, q H2 e2⟩
theorem ev_lenS (ha : Ev ta σ H (.str x)) (hz : x.length ≤ sizeLine) : Ev (tCB (fun xs H Q => ∃ x n, xs = [x] ∧ LenV K x H n ∧ Q (.int n) H) (tCons ta tNil)) σ H (.int (x.length : Int)) := fun H1 e Q q =>
  ha H1 e _ fun H2 e2 => ⟨_, x.length, rfl, ⟨hz, rfl⟩, q H2 e2⟩
theorem ev_sum {xs : List Int} (ha : Ga K ta σ H (eL .int xs)) : Ev (tCB (rSum K) (tCons ta tNil)) σ H (.int xs.sum) := fun H1 e Q q =>
  ha H1 e _ fun v H2 e2 g => by
    obtain ⟨p, vs, rfl, hp, hd⟩ := dd_lst g
    rw [of_ddInts hd] at hp
    exact ⟨p, xs, rfl, SqL.of hp, q H2 e2⟩
/-! scalars' calls -/
theorem ev_abs (ha : Ev ta σ H (.int n)) : Ev (tCB (fun xs H Q => ∃ i, xs = [.int i] ∧ Q (.int (if i < 0 then -i else i)) H) (tCons ta tNil)) σ H (.int (if n < 0 then -n else n)) := fun H1 e Q q =>
  ha H1 e _ fun H2 e2 => ⟨n, rfl, q H2 e2⟩
theorem ev_min2 (ha : Ev ta σ H (.int n)) (hb : Ev tb σ H (.int m)) : Ev (tCB (fun xs H Q => ∃ i j, xs = [.int i, .int j] ∧ Q (.int (if j < i then j else i)) H) (tCons ta (tCons tb tNil))) σ H (.int (if m < n then m else n)) := fun H1 e Q q =>
  ha H1 e _ fun H2 e2 => hb H2 (e.trans e2) _ fun H3 e3 => ⟨n, m, rfl, q H3 (e2.trans e3)⟩
theorem ev_max2 (ha : Ev ta σ H (.int n)) (hb : Ev tb σ H (.int m)) : Ev (tCB (fun xs H Q => ∃ i j, xs = [.int i, .int j] ∧ Q (.int (if j > i then j else i)) H) (tCons ta (tCons tb tNil))) σ H (.int (if m > n then m else n)) := fun H1 e Q q =>
  ha H1 e _ fun H2 e2 => hb H2 (e.trans e2) _ fun H3 e3 => ⟨n, m, rfl, q H3 (e2.trans e3)⟩
theorem ev_int1 (ha : Ev ta σ H (.int n)) : Ev (tCB (fun xs H Q => (∃ i, xs = [.int i] ∧ Q (.int i) H) ∨ ∃ k, xs = [.bl k] ∧ Q (.int (if k then 1 else 0)) H) (tCons ta tNil)) σ H (.int n) := fun H1 e Q q =>
  ha H1 e _ fun H2 e2 => .inl ⟨n, rfl, q H2 e2⟩
/-! operators on ints -/
theorem ev_op {r : R2} {u w z : V} (ha : Ev ta σ H u) (hb : Ev tb σ H w) (hr : ∀ H1 (Q : VK), Q z H1 → r u w H1 Q) : Ev (tOp r ta tb) σ H z := fun H1 e Q q =>
  ha H1 e _ fun H2 e2 => hb H2 (e.trans e2) _ fun H3 e3 => hr H3 Q (q H3 (e2.trans e3))
theorem ev_I0 {g : Int → Int → V} (ha : Ev ta σ H (.int n)) (hb : Ev tb σ H (.int m)) : Ev (tOp (rI0 g) ta tb) σ H (g n m) := ev_op ha hb fun _ _ q => ⟨n, m, rfl, rfl, q⟩
theorem ev_I {C : Int → Int → Prop} {g : Int → Int → V} (ha : Ev ta σ H (.int n)) (hb : Ev tb σ H (.int m)) (hc : C n m) : Ev (tOp (rI C g) ta tb) σ H (g n m) := ev_op ha hb fun _ _ q => ⟨n, m, rfl, rfl, hc, q⟩
theorem ev_eqI (ha : Ev ta σ H (.int n)) (hb : Ev tb σ H (.int m)) : Ev (tOp rEq ta tb) σ H (.bl (decide (n = m))) := ev_op ha hb fun _ _ q => ⟨rfl, by
  have : decide (V.int n = V.int m) = decide (n = m) := by
    by_cases h : n = m
    · subst h; simp
    · rw [decide_eq_false h, decide_eq_false fun z => h (V.int.inj z)]
  rw [this]; exact q⟩
theorem ev_neI (ha : Ev ta σ H (.int n)) (hb : Ev tb σ H (.int m)) : Ev (tOp rNe ta tb) σ H (.bl (!decide (n = m))) := ev_op ha hb fun _ _ q => ⟨rfl, by
  have : decide (V.int n = V.int m) = decide (n = m) := by
    by_cases h : n = m
    · subst h; simp
    · rw [decide_eq_false h, decide_eq_false fun z => h (V.int.inj z)]
  rw [this]; exact q⟩
theorem ev_eqB (ha : Ev ta σ H (.bl b)) (hb : Ev tb σ H (.bl c)) : Ev (tOp rEq ta tb) σ H (.bl (decide (b = c))) := ev_op ha hb fun _ _ q => ⟨rfl, by
  have : decide (V.bl b = V.bl c) = decide (b = c) := by
    by_cases h : b = c
    · subst h; simp
    · rw [decide_eq_false h, decide_eq_false fun z => h (V.bl.inj z)]
  rw [this]; exact q⟩
theorem ev_neB (ha : Ev ta σ H (.bl b)) (hb : Ev tb σ H (.bl c)) : Ev (tOp rNe ta tb) σ H (.bl (!decide (b = c))) := ev_op ha hb fun _ _ q => ⟨rfl, by
  have : decide (V.bl b = V.bl c) = decide (b = c) := by
    by_cases h : b = c
    · subst h; simp
    · rw [decide_eq_false h, decide_eq_false fun z => h (V.bl.inj z)]
  rw [this]; exact q⟩
theorem ev_eqS (ha : Ev ta σ H (.str x)) (hb : Ev tb σ H (.str y)) : Ev (tOp rEq ta tb) σ H (.bl (decide (x = y))) := ev_op ha hb fun _ _ q => ⟨rfl, by
  have : decide (V.str x = V.str y) = decide (x = y) := by
    by_cases h : x = y
    · subst h; simp
    · rw [decide_eq_false h, decide_eq_false fun z => h (V.str.inj z)]
  rw [this]; exact q⟩
theorem ev_neS (ha : Ev ta σ H (.str x)) (hb : Ev tb σ H (.str y)) : Ev (tOp rNe ta tb) σ H (.bl (!decide (x = y))) := ev_op ha hb fun _ _ q => ⟨rfl, by
  have : decide (V.str x = V.str y) = decide (x = y) := by
    by_cases h : x = y
    · subst h; simp
    · rw [decide_eq_false h, decide_eq_false fun z => h (V.str.inj z)]
  rw [this]; exact q⟩
/-! tests -/
theorem et_val (h : Ev te σ H (.bl b)) : EvT (tB te) σ H b := Evl.et_B h
theorem et_tst (h : Ev te σ H (.bl b)) : EvT (tTest te) σ H b := Evl.et_test h
end

/-! ### calls -/
section
variable {K : PySem.W.Frag} {H0 H H' : Hp} {σ : L2.St}
theorem gv_call {sp : Sp} {E : XK} {t : TA} {ds : List PyData} {d : PyData} (ha : GaA K t σ H ds) (hf : ∀ vs H Q E, DdAll K H vs ds → (∀ v H2, Ex H H2 → Dd K (mn H2 H) v d → Q v H2) → sp vs H Q E) : Gv K (tCall sp [] E t) σ H d := fun H1 e Q q =>
  ha H1 e _ fun vs H2 e2 f => by
    show sp (vs ++ []) H2 Q E
    rw [List.append_nil]
    exact hf vs H2 Q E f fun v H3 e3 g => q v H3 (e2.trans e3) (g.mono (mn_base e2))
end

/-! ### statements -/
section
variable {K : PySem.W.Frag} {H0 H H' : Hp} {ls : List (V × PyData)} {os os' : List Own} {σ σ' : L2.St} {te ta tb tc : TE} {tt : TT} {tu tw tz : TS} {D : Ends} {d e : PyData} {ds es : List PyData} {v : V} {i : Nat} {b : Bool}
/-- name = a scalar -/
theorem st_asgI (R : Rg K H0 ls os H) (h : Ev te σ H v) (hs : σ.set i (some v) = σ') (k : ∀ H1, Rg K H0 ls os H1 → tz D σ' H1) : tSeq (tAsg te (gName i)) tz D σ H :=
  h H (Ex.refl _) _ fun H1 e => by
    show tz D (σ.set i (some v)) H1
    rw [hs]
    exact k H1 (R.ext e)
/-- name = something local -/
theorem st_asgL (R : Rg K H0 ls os H) (h : GL K H0 os te σ H d) (k : ∀ v H1, Rg K H0 ((v, d) :: ls) os H1 → tz D (σ.set i (some v)) H1) : tSeq (tAsg te (gName i)) tz D σ H :=
  h H (Ex.refl _) _ fun v H1 e f => k v H1 ((R.ext e).add f)
/-- name = a new list, owned -/
theorem st_asgO (R : Rg K H0 ls os H) (h : GN K H0 os te σ H ds) (k : ∀ p H1, Rg K H0 ls ((p, ds) :: os) H1 → tz D (σ.set i (some (.ref p))) H1) : tSeq (tAsg te (gName i)) tz D σ H :=
  h H (Ex.refl _) _ fun p vs H1 e hp h1 f => k p H1 (R.push e hp h1 f)
/-- owned.append(e) -/
theorem st_app {l : Addr} {j : Nat} (R : Rg K H0 ls os H) (ho : σ[i]? = some (some (.ref l))) (hj : os[j]? = some (l, ds)) (h : GL K H0 os te σ H d) (hz : ds.length < sizeLine) (he : os.set j (l, ds ++ [d]) = os') (k : ∀ H1, Rg K H0 ls os' H1 → tz D σ H1) :
    tSeq (tDrop (tBM K "list" rAppend (tVar i) (tCons te tNil))) tz D σ H := by
  refine ⟨_, ho, .inl ⟨rfl, ?_⟩, ?_⟩
  · obtain ⟨vs, a, _⟩ := R.atO j hj
    exact ⟨vs, SqL.of a⟩
  · refine h H (Ex.refl _) _ fun v H1 e f => ?_
    have R1 := R.ext e
    obtain ⟨vs, a, c⟩ := R1.atO j hj
    exact ⟨l, vs, v, rfl, rfl, a, by rw [c.length]; exact hz, k _ (R1.mut hj (c.append (.cons f .nil)) he)⟩
/-- owned[i] = e -/
theorem st_setI {l : Addr} {j : Nat} {n : Int} {k' : Nat} (R : Rg K H0 ls os H) (ho : σ[i]? = some (some (.ref l))) (hj : os[j]? = some (l, ds)) (h : GL K H0 os te σ H d) (hi : Ev tb σ H (.int n)) (hn : ixN ds.length n = some k') (he : os.set j (l, ds.set k' d) = os') (k : ∀ H1, Rg K H0 ls os' H1 → tz D σ H1) :
    tSeq (tAsg te (gSub (tVar i) tb rSetL)) tz D σ H := by
  refine h H (Ex.refl _) _ fun v H1 e f => ⟨_, ho, hi H1 e _ fun H2 e2 => ?_⟩
  have R1 := (R.ext e).ext e2
  obtain ⟨vs, a, c⟩ := R1.atO j hj
  exact ⟨l, vs, n, k', rfl, rfl, a, by rw [c.length]; exact hn, k _ (R1.mut hj (c.set k' (f.mono (lc_ex e2))) he)⟩
theorem st_if (R : Rg K H0 ls os H) (h : EvT tt σ H b) (h1 : b = true → ∀ H1, Rg K H0 ls os H1 → tu { D with nx := tz D } σ H1) (h2 : b = false → ∀ H1, Rg K H0 ls os H1 → tw { D with nx := tz D } σ H1) : tSeq (tIfS tt tu tw) tz D σ H :=
  Evl.q_if h (fun e H1 x => h1 e H1 (R.ext x)) (fun e H1 x => h2 e H1 (R.ext x))
theorem st_if1 (R : Rg K H0 ls os H) (h : EvT tt σ H b) (h1 : b = true → ∀ H1, Rg K H0 ls os H1 → tu D σ H1) (h2 : b = false → ∀ H1, Rg K H0 ls os H1 → tw D σ H1) : tIfS tt tu tw D σ H :=
  Evl.s_if h (fun e H1 x => h1 e H1 (R.ext x)) (fun e H1 x => h2 e H1 (R.ext x))
theorem st_ret {Q : VK} (R : Rg K H0 ls os H) (h : GL K H0 os te σ H d) (q : ∀ v H2, Ex H0 H2 → Dd K (mn H2 H0) v d → Q v H2) (hD : D.rt = Q) : tRet te D σ H := by
  subst hD
  exact h H (Ex.refl _) _ fun v H2 e f => q v H2 (R.base.trans e) (f.mono lc_mn)
end

/-! ### the mirror's words -/
def bd {α β : Type} (m : Option α) (f : α → Option β) : Option β := match m with
  | some a => f a
  | none => none
theorem bd_some {α β : Type} {m : Option α} {f : α → Option β} {r : β} (h : bd m f = some r) : ∃ a, m = some a ∧ f a = some r := by
  cases m with
  | none => cases h
  | some a => exact ⟨a, rfl, h⟩
theorem bd_mk {α β : Type} {a : α} {f : α → Option β} : bd (some a) f = f a := rfl
theorem ite_t {α : Type} {c : Bool} {A B : α} (hc : c = true) : (if c = true then A else B) = A := if_pos hc
theorem ite_f {α : Type} {c : Bool} {A B : α} (hc : c = false) : (if c = true then A else B) = B := by rw [hc]; rfl
/-- a guard -/
def gd (p : Prop) [Decidable p] : Option Unit := if p then some () else none
theorem gd_some {p : Prop} [Decidable p] {u : Unit} (h : gd p = some u) : p := by
  unfold gd at h
  by_cases c : p
  · exact c
  · rw [if_neg c] at h; cases h
theorem gd_mk {p : Prop} [Decidable p] (h : p) : gd p = some () := if_pos h
inductive Ctl (β γ : Type) where
  | go (b : β)
  | ret (c : γ)
  | brk (b : β)
/-- a for without return or break -/
def forP {α β : Type} (f : β → α → Option β) : List α → β → Option β
  | [], s => some s
  | x :: r, s => bd (f s x) fun s' => forP f r s'
theorem forP_step {α β : Type} {f : β → α → Option β} {xs : List α} {i : Nat} {x : α} {s out : β} (h : xs[i]? = some x) (q : forP f (xs.drop i) s = some out) : ∃ s', f s x = some s' ∧ forP f (xs.drop (i + 1)) s' = some out := by
  have hl := (List.getElem?_eq_some_iff.mp h).1
  rw [List.drop_eq_getElem_cons hl, (List.getElem?_eq_some_iff.mp h).2] at q
  exact bd_some q
theorem forP_end {α β : Type} {f : β → α → Option β} {xs : List α} {n : Nat} {s out : β} (hn : n = xs.length) (q : forP f (xs.drop n) s = some out) : s = out := by
  subst hn
  rw [List.drop_length] at q
  exact Option.some.inj q
/-- a for with return or break -/
def forC {α β γ : Type} (f : β → α → Option (Ctl β γ)) : List α → β → Option (Ctl β γ)
  | [], s => some (.go s)
  | x :: r, s => bd (f s x) fun o => match o with
    | .go s' => forC f r s'
    | .ret c => some (.ret c)
    | .brk s' => some (.go s')
theorem forC_step {α β γ : Type} {f : β → α → Option (Ctl β γ)} {xs : List α} {i : Nat} {x : α} {s : β} {out : Ctl β γ} (h : xs[i]? = some x) (q : forC f (xs.drop i) s = some out) :
    ∃ o, f s x = some o ∧ (∀ s', o = .go s' → forC f (xs.drop (i + 1)) s' = some out) ∧ (∀ c, o = .ret c → out = .ret c) ∧ (∀ s', o = .brk s' → out = .go s') := by
  have hl := (List.getElem?_eq_some_iff.mp h).1
  rw [List.drop_eq_getElem_cons hl, (List.getElem?_eq_some_iff.mp h).2] at q
  obtain ⟨o, h1, h2⟩ := bd_some q
  refine ⟨o, h1, ?_, ?_, ?_⟩
  · rintro s' rfl; exact h2
  · rintro c rfl; exact (Option.some.inj h2).symm
  · rintro s' rfl; exact (Option.some.inj h2).symm
theorem forC_end {α β γ : Type} {f : β → α → Option (Ctl β γ)} {xs : List α} {n : Nat} {s : β} {out : Ctl β γ} (hn : n = xs.length) (q : forC f (xs.drop n) s = some out) : out = .go s := by
  subst hn
  rw [List.drop_length] at q
  exact (Option.some.inj q).symm
/-- a while -/
def whP {β γ : Type} (c : β → Option Bool) (f : β → Option (Ctl β γ)) : Nat → β → Option (Ctl β γ)
  | 0, _ => none
  | n + 1, s => bd (c s) fun t => if t = true then bd (f s) fun o => match o with
      | .go s' => whP c f n s'
      | .ret r => some (.ret r)
      | .brk s' => some (.go s')
    else some (.go s)
/-- lo, lo + 1, .., hi - 1 -/
def rng (lo hi : Int) : List Int := (List.range (hi - lo).toNat).map fun i : Nat => lo + (i : Int)
theorem rng_len (lo hi : Int) : (rng lo hi).length = (hi - lo).toNat := by
  unfold rng
  rw [List.length_map, List.length_range]
theorem rng_get {lo hi : Int} {i : Nat} (h : i < (hi - lo).toNat) : (rng lo hi)[i]? = some (lo + (i : Int)) := by
  unfold rng
  rw [List.getElem?_map, List.getElem?_range h]
  rfl
/-- a comprehension -/
def cmP {α β : Type} (f : α → Option (Option β)) : List α → Option (List β)
  | [] => some []
  | x :: r => bd (f x) fun o => bd (cmP f r) fun ys => match o with
    | none => some ys
    | some y => some (y :: ys)
end Dc
namespace Dc
open PySem PySem.Spec PyProof.Rows L2
open Evl (Ex Ev EvT EvA)
section
variable {K : PySem.W.Frag} {H0 H H' : Hp} {ls : List (V × PyData)} {os os' : List Own} {σ σ' : L2.St} {te ta tb tc tl : TE} {tt : TT} {tu tw tz : TS} {D : Ends} {d e : PyData} {ds es : List PyData} {v : V} {j : Nat} {b : Bool} {n lo hi : Int} {g : TG}
/-! ### for -/
theorem st_for {J : It} {k : Nat} {G : Hp → Prop} {Y : Nat → Hp → V → Hp → Prop} {wi : TI} (w : Walk J k G Y) (Pv : Nat → L2.St → Hp → Prop)
    (hw : ∀ R : It → Hp → Prop, (∀ H1, Ex H H1 → R J H1) → wi σ H R) (h0 : ∀ H1, Ex H H1 → Pv 0 σ H1) (hG : ∀ i σ H, i ≤ k → Pv i σ H → G H)
    (hs : ∀ i x σ H H', i < k → Pv i σ H → Y i H x H' → g x σ H' fun σ2 H2 => tu { D with nx := Pv (i + 1), ct := Pv (i + 1), bk := tz D } σ2 H2) (hd : ∀ σ H, Pv k σ H → tz D σ H) : tSeq (tFor wi g tu) tz D σ H := by
  refine hw _ fun H1 e1 => ?_
  exact for_it w (D := { D with nx := tz D }) Pv (h0 H1 e1) hG hs hd
/-- over range(n) -/
theorem st_rng1 (R : Rg K H0 ls os H) (h : Ev ta σ H (.int n)) (hb : -(2 ^ 62) ≤ n ∧ n < 2 ^ 62) (Pv : Nat → L2.St → Hp → Prop) (h0 : ∀ H1, Rg K H0 ls os H1 → Pv 0 σ H1)
    (hs : ∀ (i : Nat) x σ' H', (rng 0 n)[i]? = some x → Pv i σ' H' → tu { D with nx := Pv (i + 1), ct := Pv (i + 1), bk := tz D } (σ'.set j (some (.int x))) H') (hd : ∀ σ' H', Pv (rng 0 n).length σ' H' → tz D σ' H') :
    tSeq (tFor (iRng1 (tCons ta tNil)) (gName j) tu) tz D σ H := by
  have el : (rng 0 n).length = n.toNat := by rw [rng_len]; congr 1; omega
  rw [el] at hd
  refine st_for (walk_range (lo := 0) (n := n.toNat)) Pv (fun Q q => h H (Ex.refl _) _ fun H1 e1 => ⟨n, rfl, hb.1, hb.2, q H1 e1⟩) (fun H1 e => h0 H1 (R.ext e)) (fun _ _ _ _ _ => trivial) (fun i x σ1 Ha Hb hi p y => ?_) hd
  obtain ⟨rfl, rfl⟩ := y
  exact hs i _ σ1 _ (rng_get (by omega)) p
/-- over range(lo, hi) -/
theorem st_rng2 (R : Rg K H0 ls os H) (h1 : Ev ta σ H (.int lo)) (h2 : Ev tb σ H (.int hi)) (hb : -(2 ^ 62) ≤ lo ∧ lo < 2 ^ 62 ∧ -(2 ^ 62) ≤ hi ∧ hi < 2 ^ 62) (Pv : Nat → L2.St → Hp → Prop) (h0 : ∀ H1, Rg K H0 ls os H1 → Pv 0 σ H1)
    (hs : ∀ (i : Nat) x σ' H', (rng lo hi)[i]? = some x → Pv i σ' H' → tu { D with nx := Pv (i + 1), ct := Pv (i + 1), bk := tz D } (σ'.set j (some (.int x))) H') (hd : ∀ σ' H', Pv (rng lo hi).length σ' H' → tz D σ' H') :
    tSeq (tFor (iRng2 (tCons ta (tCons tb tNil))) (gName j) tu) tz D σ H := by
  rw [rng_len] at hd
  refine st_for (walk_range (lo := lo) (n := (hi - lo).toNat)) Pv (fun Q q => h1 H (Ex.refl _) _ fun H1 e1 => h2 H1 e1 _ fun H2 e2 => ⟨lo, hi, rfl, hb, q H2 (e1.trans e2)⟩) (fun H1 e => h0 H1 (R.ext e)) (fun _ _ _ _ _ => trivial) (fun i x σ1 Ha Hb hi p y => ?_) hd
  obtain ⟨rfl, rfl⟩ := y
  exact hs i _ σ1 _ (rng_get hi) p
/-- w stands in the list v as x -/
def In (K : PySem.W.Frag) (H : Hp) (v w : V) (d e : PyData) : Prop := ∀ X, Ex X H → Dd K X v d → Dd K X w e
theorem in_int {H : Hp} {v w : V} {d : PyData} {x : Int} (h : In K H v w d (.int x)) (f : Dd K H v d) : w = .int x := dd_int (h H (Ex.refl _) f)
theorem in_bl {H : Hp} {v w : V} {d : PyData} {x : Bool} (h : In K H v w d (.bool x)) (f : Dd K H v d) : w = .bl x := dd_bl (h H (Ex.refl _) f)
theorem in_str {H : Hp} {v w : V} {d : PyData} {x : Str} (h : In K H v w d (.str x)) (f : Dd K H v d) : w = .str x := dd_str (h H (Ex.refl _) f)
theorem in_mk {α : Type} {f : α → PyData} {xs : List α} {H : Hp} {a : Addr} {vs : List V} {w : V} {i : Nat} {x : α} (h : H a = some (.lst vs)) (hw : vs[i]? = some w) (hx : xs[i]? = some x) : In K H (.ref a) w (eL f xs) (f x) := fun X ex q => by
  obtain ⟨a', vs', e1, h1, h2⟩ := dd_lst q
  cases e1
  have z := ex _ _ h1
  rw [h] at z
  cases z
  obtain ⟨u, h3, h4⟩ := h2.get (i := i) (d := f x) (by rw [List.getElem?_map, hx]; rfl)
  rw [hw] at h3
  cases h3
  exact h4
theorem st_forV {α : Type} {f : α → PyData} {xs : List α} (R : Rg K H0 ls os H) (h : Ev tl σ H v) (Pv : Nat → L2.St → Hp → Prop) (h0 : ∀ H1, Rg K H0 ls os H1 → Pv 0 σ H1) (hx : ∀ i σ' H', Pv i σ' H' → Dd K H' v (eL f xs))
    (hs : ∀ (i : Nat) x w σ' H', xs[i]? = some x → In K H' v w (eL f xs) (f x) → Pv i σ' H' → tu { D with nx := Pv (i + 1), ct := Pv (i + 1), bk := tz D } (σ'.set j (some w)) H') (hd : ∀ σ' H', Pv xs.length σ' H' → tz D σ' H') :
    tSeq (tFor (iList K tl) (gName j) tu) tz D σ H := by
  refine h H (Ex.refl _) _ fun H1 e1 => ?_
  have p0 := h0 H1 (R.ext e1)
  obtain ⟨a, vs, rfl, ha, hv⟩ := dd_lst (hx 0 σ H1 p0)
  refine ⟨a, rfl, ⟨vs, SqL.of ha⟩, fun i m σ' H' => m = xs.length - i ∧ i ≤ xs.length ∧ Pv i σ' H', ⟨xs.length, by simp, Nat.zero_le _, p0⟩, ?_⟩
  rintro i m σ' H' ⟨rfl, hi, p⟩
  obtain ⟨a', vs', e, ha', hv'⟩ := dd_lst (hx i σ' H' p)
  cases e
  have el : vs'.length = xs.length := by rw [hv'.length, List.length_map]
  by_cases hlt : i < xs.length
  · have g1 : vs'[i]? = some (vs'[i]'(by omega)) := List.getElem?_eq_getElem (by omega)
    refine .inr ⟨⟨vs', _, SqL.of ha', g1⟩, Pv (i + 1), fun σ2 H2 p' => ⟨xs.length - (i + 1), by omega, rfl, hlt, p'⟩, fun x Hx y => ?_⟩
    obtain ⟨rfl, y⟩ := y
    have y' := y vs' (SqL.of ha')
    exact hs i _ x σ' _ (List.getElem?_eq_getElem hlt) (in_mk ha' y' (List.getElem?_eq_getElem hlt)) p
  · have e : i = xs.length := by omega
    subst e
    exact .inl ⟨⟨vs', SqL.of ha', by omega⟩, hd σ' H' p⟩
theorem st_forG {α : Type} {f : α → PyData} {xs : List α} (R : Rg K H0 ls os H) (h : GL K H0 os tl σ H (eL f xs)) (Pv : V → Nat → L2.St → Hp → Prop) (h0 : ∀ v H1, Rg K H0 ((v, eL f xs) :: ls) os H1 → Pv v 0 σ H1) (hx : ∀ v i σ' H', Pv v i σ' H' → Dd K H' v (eL f xs))
    (hs : ∀ v (i : Nat) x w σ' H', xs[i]? = some x → In K H' v w (eL f xs) (f x) → Pv v i σ' H' → tu { D with nx := Pv v (i + 1), ct := Pv v (i + 1), bk := tz D } (σ'.set j (some w)) H') (hd : ∀ v σ' H', Pv v xs.length σ' H' → tz D σ' H') :
    tSeq (tFor (iList K tl) (gName j) tu) tz D σ H := by
  refine h H (Ex.refl _) _ fun v H1 e1 q => ?_
  exact st_forV (D := D) (tz := tz) ((R.ext e1).add q) (tl := tC v) (fun Ha _ Q q => q Ha (Ex.refl _)) (Pv v) (fun H2 R2 => h0 v H2 R2) (hx v) (hs v) (hd v)
/-! ### comprehensions -/
theorem cmP_step {α β : Type} {fn : α → Option (Option β)} {xs : List α} {i : Nat} {x : α} {zs : List β} (h : xs[i]? = some x) (q : cmP fn (xs.drop i) = some zs) :
    ∃ o, fn x = some o ∧ ∃ ys, cmP fn (xs.drop (i + 1)) = some ys ∧ zs = (match o with | none => ys | some y => y :: ys) := by
  have hl := (List.getElem?_eq_some_iff.mp h).1
  rw [List.drop_eq_getElem_cons hl, (List.getElem?_eq_some_iff.mp h).2] at q
  obtain ⟨o, h1, h2⟩ := bd_some q
  obtain ⟨ys, h3, h4⟩ := bd_some h2
  refine ⟨o, h1, ys, h3, ?_⟩
  cases o with
  | none => exact (Option.some.inj h4).symm
  | some y => exact (Option.some.inj h4).symm
/-- what a turn of a comprehension shows -/
def LcT (K : PySem.W.Frag) (H0 : Hp) (os : List Own) {β : Type} (g : β → PyData) (tt : TT) (te : TE) (σ : L2.St) (H : Hp) (o : Option β) : Prop := EvT tt σ H o.isSome ∧ ∀ y, o = some y → GL K H0 os te σ H (g y)
/-- the turn, by the invariant -/
def LcI {β : Type} (K : PySem.W.Frag) (H0 : Hp) (os : List Own) (H : Hp) (Dl : Addr) (g : β → PyData) (fin : Option (List β)) (ys : List β) (H' : Hp) : Prop :=
  ∃ done zs acc, fin = some zs ∧ done ++ zs = ys ∧ Ex H H' ∧ H' Dl = some (.lst acc) ∧ DdAll K (lc H0 (Dl :: ads os) H') acc (done.map g)
theorem lc_turn {β : Type} {gb : β → PyData} {f0 f1 : Option (List β)} {ys : List β} {Dl : Addr} {σ2 : L2.St} {o : Option β} (hn : H Dl = none) (p : LcI K H0 os H Dl gb f0 ys H') (hz : ys.length ≤ sizeLine)
    (hf : ∀ zs, f0 = some zs → ∃ y1, f1 = some y1 ∧ zs = (match o with | none => y1 | some y => y :: y1)) (ht : ∀ ds H1, Rg K H0 ls ((Dl, ds) :: os) H1 → Ex H H1 → LcT K H0 ((Dl, ds) :: os) gb tt te σ2 H1 o) (R : Rg K H0 ls os H) :
    tt σ2 H' fun b H3 => if b = true then te σ2 H3 fun y H4 => ∃ acc, H4 Dl = some (.lst acc) ∧ acc.length < sizeLine ∧ LcI K H0 os H Dl gb f1 ys (upd H4 Dl (.lst (acc ++ [y]))) else LcI K H0 os H Dl gb f1 ys H3 := by
  obtain ⟨done, zs, acc, h1, h2, h3, h4, h5⟩ := p
  obtain ⟨y1, hy1, hy2⟩ := hf zs h1
  obtain ⟨t1, t2⟩ := ht _ H' (R.push h3 hn h4 h5) h3
  refine t1 H' (Ex.refl _) _ fun H3 e3 => ?_
  cases o with
  | none =>
    show LcI K H0 os H Dl gb f1 ys H3
    exact ⟨done, y1, acc, hy1, by rw [← h2, hy2], h3.trans e3, e3 _ _ h4, h5.mono (lc_ex e3)⟩
  | some y =>
    show te σ2 H3 fun y H4 => ∃ acc, H4 Dl = some (.lst acc) ∧ acc.length < sizeLine ∧ LcI K H0 os H Dl gb f1 ys (upd H4 Dl (.lst (acc ++ [y])))
    refine t2 y rfl H3 e3 _ fun w H4 e4 fw => ?_
    have hlen : acc.length < sizeLine := by
      have e5 := h5.length
      rw [List.length_map] at e5
      have : ys.length = done.length + (y1.length + 1) := by rw [← h2, hy2]; simp
      omega
    have hm : Dl ∈ Dl :: ads os := List.mem_cons_self
    refine ⟨acc, e4 _ _ (e3 _ _ h4), hlen, done ++ [y], y1, acc ++ [w], hy1, by rw [← h2, hy2]; simp, Ex.mut ((h3.trans e3).trans e4) hn, upd_same, ?_⟩
    rw [lc_upd hm, List.map_append]
    exact ((h5.mono (lc_ex e3)).mono (lc_ex e4)).append (.cons fw .nil)
theorem LcI.start {β : Type} {gb : β → PyData} {f0 : Option (List β)} {ys : List β} {Dl : Addr} (hn : H Dl = none) (h : f0 = some ys) : LcI K H0 os H Dl gb f0 ys (upd H Dl (.lst [])) :=
  ⟨[], ys, [], h, rfl, Ex.new hn, upd_same, .nil⟩
theorem LcI.fin {α β : Type} {gb : β → PyData} {fn : α → Option (Option β)} {ys : List β} {Dl : Addr} {xs : List α} {n : Nat} (hl : n = xs.length) (p : LcI K H0 os H Dl gb (cmP fn (xs.drop n)) ys H') : ∃ acc, Ex H H' ∧ H' Dl = some (.lst acc) ∧ DdAll K (lc H0 (Dl :: ads os) H') acc (ys.map gb) := by
  obtain ⟨done, zs, acc, h1, h2, h3, h4, h5⟩ := p
  subst hl
  rw [List.drop_length] at h1
  have e := Option.some.inj h1
  subst e
  rw [List.append_nil] at h2
  subst h2
  exact ⟨acc, h3, h4, h5⟩
/-- [.. for x in v ..] -/
theorem gn_lcV {α β : Type} {f : α → PyData} {gb : β → PyData} {xs : List α} {ys : List β} {fn : α → Option (Option β)} {vs : List Nat} (R : Rg K H0 ls os H) (h : Ev tl σ H v) (hv : Dd K H v (eL f xs))
    (hwp : ∀ x, wipe ((wipe σ vs).set j (some x)) vs = wipe σ vs) (hc : cmP fn xs = some ys) (hz : ys.length ≤ sizeLine)
    (hb : ∀ Dl ds (i : Nat) x w H1, Rg K H0 ls ((Dl, ds) :: os) H1 → Ex H H1 → xs[i]? = some x → In K H1 v w (eL f xs) (f x) → ∀ o, fn x = some o → LcT K H0 ((Dl, ds) :: os) gb tt te ((wipe σ vs).set j (some w)) H1 o) :
    GN K H0 os (tLc (iList K tl) (gName j) tt te vs) σ H (ys.map gb) := fun H1 e1 Q q => h H1 e1 _ fun H2 e2 => by
  obtain ⟨a, ws, rfl, ha, hd⟩ := dd_lst hv
  have ha2 := e2 _ _ (e1 _ _ ha)
  have el : ws.length = xs.length := by rw [hd.length, List.length_map]
  refine ⟨a, rfl, ⟨ws, SqL.of ha2⟩, fun Dl hD => ?_⟩
  have R2 := (R.ext e1).ext e2
  refine lc_list (xs := ws) (fun i H' => LcI K H0 os H2 Dl gb (cmP fn (xs.drop i)) ys H') (.start hD hc) (fun i H' _ p => ?_) (fun i x H' hi p => ⟨hwp x, ?_⟩) (fun H' p => ?_)
  · obtain ⟨_, _, _, _, _, h3, _⟩ := p
    exact SqL.of (h3 _ _ ha2)
  · have hlt : i < xs.length := by rw [← el]; exact (List.getElem?_eq_some_iff.mp hi).1
    have hx : xs[i]? = some xs[i] := List.getElem?_eq_getElem hlt
    obtain ⟨zs, hzs⟩ : ∃ zs, cmP fn (xs.drop i) = some zs := let ⟨_, zs, _, h1, _⟩ := p; ⟨zs, h1⟩
    obtain ⟨o, ho, _, _, _⟩ := cmP_step hx hzs
    refine lc_turn (ls := ls) (o := o) hD p hz (fun zs h1 => ?_) (fun ds H3 R3 e3 => ?_) R2
    · obtain ⟨o', ho', y1, h2, h3⟩ := cmP_step hx h1
      rw [ho] at ho'
      cases ho'
      exact ⟨y1, h2, h3⟩
    · exact hb Dl ds i _ x H3 R3 ((e1.trans e2).trans e3) hx (in_mk (e3 _ _ ha2) hi hx) o ho
  · obtain ⟨acc, h3, h4, h5⟩ := LcI.fin (by rw [el]) p
    exact q Dl acc H' (e2.trans h3) (Evl.fresh_back e2 hD) h4 h5
/-- over something new or local -/
theorem gn_lcG {α β : Type} {f : α → PyData} {gb : β → PyData} {xs : List α} {ys : List β} {fn : α → Option (Option β)} {vs : List Nat} (R : Rg K H0 ls os H) (h : GL K H0 os tl σ H (eL f xs))
    (hwp : ∀ x, wipe ((wipe σ vs).set j (some x)) vs = wipe σ vs) (hc : cmP fn xs = some ys) (hz : ys.length ≤ sizeLine)
    (hb : ∀ v Dl ds (i : Nat) x w H1, Rg K H0 ((v, eL f xs) :: ls) ((Dl, ds) :: os) H1 → Ex H H1 → xs[i]? = some x → In K H1 v w (eL f xs) (f x) → ∀ o, fn x = some o → LcT K H0 ((Dl, ds) :: os) gb tt te ((wipe σ vs).set j (some w)) H1 o) :
    GN K H0 os (tLc (iList K tl) (gName j) tt te vs) σ H (ys.map gb) := fun H1 e1 Q q => h H1 e1 _ fun v H2 e2 fv => by
  have R2 := ((R.ext e1).ext e2).add fv
  refine gn_lcV (tl := tC v) R2 (fun Ha _ Q q => q Ha (Ex.refl _)) (fv.mono ex_lc) hwp hc hz (fun Dl ds i x w H3 R3 e3 hx hw o ho => hb v Dl ds i x w H3 R3 ((e1.trans e2).trans e3) hx hw o ho) H2 (Ex.refl _) Q fun p vs' H3 e3 hp h3 f3 => q p vs' H3 (e2.trans e3) (Evl.fresh_back e2 hp) h3 f3
/-- over range -/
theorem lc_rng {β : Type} {gb : β → PyData} {ys : List β} {fn : Int → Option (Option β)} {vs : List Nat} {xs : List Int} {J : It} {H1 H2 : Hp} {Q : VK} (R : Rg K H0 ls os H) (e1 : Ex H H1) (e2 : Ex H1 H2) (hwp : ∀ x, wipe ((wipe σ vs).set j (some x)) vs = wipe σ vs) (hc : cmP fn xs = some ys) (hz : ys.length ≤ sizeLine)
    (w : Walk J xs.length (fun _ => True) (fun i H v H' => H' = H ∧ ∃ x, xs[i]? = some x ∧ v = .int x))
    (hb : ∀ Dl ds (i : Nat) x H1, Rg K H0 ls ((Dl, ds) :: os) H1 → Ex H H1 → xs[i]? = some x → ∀ o, fn x = some o → LcT K H0 ((Dl, ds) :: os) gb tt te ((wipe σ vs).set j (some (.int x))) H1 o)
    (q : ∀ p vs H2, Ex H1 H2 → H1 p = none → H2 p = some (.lst vs) → DdAll K (lc H0 (p :: ads os) H2) vs (ys.map gb) → Q (.ref p) H2) :
    ∀ Dl, H2 Dl = none → ∃ W : Nat → Nat → Hp → Prop, (∃ m, W 0 m (upd H2 Dl (.lst []))) ∧ ∀ i m H, W i m H →
      (J.stop i H ∧ Q (.ref Dl) H) ∨ (J.go i H ∧ ∃ Nx : Hp → Prop, (∀ H', Nx H' → ∃ m', m' < m ∧ W (i + 1) m' H') ∧ ∀ x H', J.yld i H x H' → (gName j) x (wipe σ vs) H' fun σ2 H2 => wipe σ2 vs = wipe σ vs ∧ tt σ2 H2 fun b H3 =>
        if b = true then te σ2 H3 fun y H4 => ∃ acc, H4 Dl = some (.lst acc) ∧ acc.length < sizeLine ∧ Nx (upd H4 Dl (.lst (acc ++ [y]))) else Nx H3) := fun Dl hD => by
  have R2 := (R.ext e1).ext e2
  refine lc_it w (g := gName j) (fun i H' => LcI K H0 os H2 Dl gb (cmP fn (xs.drop i)) ys H') (.start hD hc) (fun _ _ _ _ => trivial) (fun i x H' H'' hi p y => ⟨hwp x, ?_⟩) (fun H' p => ?_)
  · obtain ⟨rfl, x', hx, rfl⟩ := y
    obtain ⟨zs, hzs⟩ : ∃ zs, cmP fn (xs.drop i) = some zs := let ⟨_, zs, _, h1, _⟩ := p; ⟨zs, h1⟩
    obtain ⟨o, ho, _, _, _⟩ := cmP_step hx hzs
    refine lc_turn (ls := ls) (o := o) hD p hz (fun zs h1 => ?_) (fun ds H3 R3 e3 => ?_) R2
    · obtain ⟨o', ho', y1, h2, h3⟩ := cmP_step hx h1
      rw [ho] at ho'
      cases ho'
      exact ⟨y1, h2, h3⟩
    · exact hb Dl ds i _ H3 R3 ((e1.trans e2).trans e3) hx o ho
  · obtain ⟨acc, h3, h4, h5⟩ := LcI.fin rfl p
    exact q Dl acc H' (e2.trans h3) (Evl.fresh_back e2 hD) h4 h5
theorem gn_lcR1 {β : Type} {gb : β → PyData} {ys : List β} {fn : Int → Option (Option β)} {vs : List Nat} (R : Rg K H0 ls os H) (h : Ev ta σ H (.int n)) (hr : -(2 ^ 62) ≤ n ∧ n < 2 ^ 62)
    (hwp : ∀ x, wipe ((wipe σ vs).set j (some x)) vs = wipe σ vs) (hc : cmP fn (rng 0 n) = some ys) (hz : ys.length ≤ sizeLine)
    (hb : ∀ Dl ds (i : Nat) x H1, Rg K H0 ls ((Dl, ds) :: os) H1 → Ex H H1 → (rng 0 n)[i]? = some x → ∀ o, fn x = some o → LcT K H0 ((Dl, ds) :: os) gb tt te ((wipe σ vs).set j (some (.int x))) H1 o) :
    GN K H0 os (tLc (iRng1 (tCons ta tNil)) (gName j) tt te vs) σ H (ys.map gb) := fun H1 e1 Q q => h H1 e1 _ fun H2 e2 => by
  have el : (rng 0 n).length = n.toNat := by rw [rng_len]; congr 1; omega
  refine ⟨n, rfl, hr.1, hr.2, lc_rng R e1 e2 hwp hc hz ?_ hb q⟩
  rw [el]
  exact walk_range.mono (fun _ _ => trivial) fun i H x H' hi _ y => ⟨y.1, _, rng_get (by omega), y.2⟩
theorem gn_lcR2 {β : Type} {gb : β → PyData} {ys : List β} {fn : Int → Option (Option β)} {vs : List Nat} (R : Rg K H0 ls os H) (h1 : Ev ta σ H (.int lo)) (h2 : Ev tb σ H (.int hi)) (hr : -(2 ^ 62) ≤ lo ∧ lo < 2 ^ 62 ∧ -(2 ^ 62) ≤ hi ∧ hi < 2 ^ 62)
    (hwp : ∀ x, wipe ((wipe σ vs).set j (some x)) vs = wipe σ vs) (hc : cmP fn (rng lo hi) = some ys) (hz : ys.length ≤ sizeLine)
    (hb : ∀ Dl ds (i : Nat) x H1, Rg K H0 ls ((Dl, ds) :: os) H1 → Ex H H1 → (rng lo hi)[i]? = some x → ∀ o, fn x = some o → LcT K H0 ((Dl, ds) :: os) gb tt te ((wipe σ vs).set j (some (.int x))) H1 o) :
    GN K H0 os (tLc (iRng2 (tCons ta (tCons tb tNil))) (gName j) tt te vs) σ H (ys.map gb) := fun H1 e1 Q q => h1 H1 e1 _ fun H2 e2 => h2 H2 (e1.trans e2) _ fun H3 e3 => by
  refine ⟨lo, hi, rfl, hr, lc_rng R e1 (e2.trans e3) hwp hc hz ?_ hb q⟩
  rw [rng_len]
  exact walk_range.mono (fun _ _ => trivial) fun i H x H' hi _ y => ⟨y.1, _, rng_get (by omega), y.2⟩
end
end Dc
namespace Dc
open PySem PySem.Spec PyProof.Rows L2
open Evl (Ex Ev EvT EvA)
abbrev FnP (K : PySem.W.Frag) (x : Str) (st : Stmt) (f : Addr) (fd : FuncData) : Prop := FunD K x x (defArgs st) (defBody st) (defScope st) [] [] f fd
section
variable {K : PySem.W.Frag} {H0 H H' : Hp} {ls : List (V × PyData)} {os os' : List Own} {σ σ' : L2.St} {te ta tb tc tl : TE} {tt tu' : TT} {tu tw tz : TS} {D : Ends} {d e : PyData} {ds es : List PyData} {v : V} {i j : Nat} {a b c : Bool} {n m lo hi : Int} {x y : Str}
theorem dd_cons {vs : List V} (h : DdAll K H vs (d :: ds)) : ∃ v vs', Dd K H v d ∧ DdAll K H vs' ds ∧ vs = v :: vs' := by
  cases h with
  | cons h t => exact ⟨_, _, h, t, rfl⟩
theorem dd_nil {vs : List V} (h : DdAll K H vs []) : vs = [] := by cases h; rfl
theorem ev_eqn (h : Ev te σ H (.int n)) (e : n = m) : Ev te σ H (.int m) := e ▸ h
theorem ev_eqb (h : Ev te σ H (.bl a)) (e : a = b) : Ev te σ H (.bl b) := e ▸ h
theorem ev_eqs (h : Ev te σ H (.str x)) (e : x = y) : Ev te σ H (.str y) := e ▸ h
theorem et_eq (h : EvT tt σ H a) (e : a = b) : EvT tt σ H b := e ▸ h
theorem gl_eqn {α : Type} {f : α → PyData} {p q : α} (h : GL K H0 os te σ H (f p)) (e : p = q) : GL K H0 os te σ H (f q) := e ▸ h
theorem gn_eqn {α : Type} {f : α → PyData} {p q : List α} (h : GN K H0 os te σ H (p.map f)) (e : p = q) : GN K H0 os te σ H (q.map f) := e ▸ h
theorem et_yes : EvT tYes σ H true := fun H1 _ _ q => q H1 (Ex.refl _)
theorem et_andP {M : Option Bool} (h1 : EvT tt σ H a) (hc : (if a = true then M else some false) = some c) (h2 : M = some c → EvT tu' σ H c) : EvT (tAnd tt tu') σ H c := by
  cases a with
  | true => exact Evl.et_and h1 fun _ => h2 hc
  | false =>
    obtain rfl := Option.some.inj hc
    exact Evl.et_and (b := false) h1 fun z => nomatch z
theorem et_orP {M : Option Bool} (h1 : EvT tt σ H a) (hc : (if a = true then some true else M) = some c) (h2 : M = some c → EvT tu' σ H c) : EvT (tOr tt tu') σ H c := by
  cases a with
  | false => exact Evl.et_or h1 fun _ => h2 hc
  | true =>
    obtain rfl := Option.some.inj hc
    exact Evl.et_or (b := false) h1 fun z => nomatch z
theorem ev_andP {M : Option Bool} (h1 : Ev ta σ H (.bl a)) (hc : (if a = true then M else some false) = some c) (h2 : M = some c → Ev tb σ H (.bl c)) : Ev (tAndV ta tb) σ H (.bl c) := by
  cases a with
  | true => exact Evl.ev_andV h1 fun _ => h2 hc
  | false =>
    obtain rfl := Option.some.inj hc
    exact Evl.ev_andV (b := false) h1 fun z => nomatch z
theorem ev_orP {M : Option Bool} (h1 : Ev ta σ H (.bl a)) (hc : (if a = true then some true else M) = some c) (h2 : M = some c → Ev tb σ H (.bl c)) : Ev (tOrV ta tb) σ H (.bl c) := by
  cases a with
  | false => exact Evl.ev_orV h1 fun _ => h2 hc
  | true =>
    obtain rfl := Option.some.inj hc
    exact Evl.ev_orV (b := false) h1 fun z => nomatch z
theorem ev_ife {p q : Int} (h : EvT tt σ H b) (h1 : b = true → Ev ta σ H (.int p)) (h2 : b = false → Ev tb σ H (.int q)) : Ev (tIf tt ta tb) σ H (.int (if b = true then p else q)) := by
  cases b with
  | true => exact Evl.ev_if h (fun _ => h1 rfl) (fun z => nomatch z)
  | false => exact Evl.ev_if h (fun z => nomatch z) (fun _ => h2 rfl)
theorem ev_ifP {α : Type} {g : α → V} {M N : Option α} {r : α} (h : EvT tt σ H b) (hc : (if b = true then M else N) = some r) (h1 : M = some r → Ev ta σ H (g r)) (h2 : N = some r → Ev tb σ H (g r)) : Ev (tIf tt ta tb) σ H (g r) := by
  cases b with
  | true => exact Evl.ev_if h (fun _ => h1 hc) (fun z => nomatch z)
  | false => exact Evl.ev_if h (fun z => nomatch z) (fun _ => h2 hc)
theorem ev_neg (h : Ev ta σ H (.int n)) : Ev (tUn (rU fun i => .int (-i)) ta) σ H (.int (-n)) := fun H1 e Q q => h H1 e _ fun H2 e2 => ⟨n, rfl, q H2 e2⟩
theorem ev_opt {f : Int → PyData} {o : Option Int} (h : Ga K te σ H (eO .int o)) (e : o = some n) : Ev te σ H (.int n) := by
  subst e
  exact ev_int h
theorem ev_isN {α : Type} {f : α → PyData} {o : Option α} (hf : ∀ x, f x ≠ .none) (h : Ga K ta σ H (eO f o)) : Ev (tOp (fun x y H Q => y = .non ∧ Q (.bl (decide (x = .non))) H) ta (tC .non)) σ H (.bl o.isNone) := fun H1 e Q q => h H1 e _ fun v H2 e2 g => ⟨rfl, by
  have : decide (v = .non) = o.isNone := by
    cases o with
    | none => rw [dd_non g]; rfl
    | some z =>
      refine decide_eq_false fun w => ?_
      subst w
      have g' : Dd K H2 .non (f z) := g
      generalize hz : f z = dz at g'
      cases g'
      exact hf z hz
  rw [this]
  exact q H2 e2⟩
theorem dp_ints {H : Hp} {v : V} {xs : List Int} (h : Dd K H v (eL .int xs)) : Dp K H v (.list (xs.map .int)) := by
  obtain ⟨a, vs, rfl, h1, h2⟩ := dd_lst h
  rw [of_ddInts h2] at h1
  refine .lst (.inl (.inl h1)) ?_
  clear h h1 h2
  induction xs with
  | nil => exact .nil
  | cons x xs ih => exact .cons (.int x) ih
abbrev rLen1 (K : PySem.W.Frag) : List V → Hp → VK → Prop := fun xs H Q => ∃ x n, xs = [x] ∧ LenV K x H n ∧ Q (.int n) H
abbrev rList1 (K : PySem.W.Frag) : List V → Hp → VK → Prop := fun xs H Q => ∃ p ys, xs = [.ref p] ∧ (SqL K H p ys ∨ SqT K H p ys) ∧ ∀ l, H l = none → Q (.ref l) (upd H l (.lst ys))
/-! typed lists -/
def repI {α : Type} (xs : List α) (n : Int) : List α := (List.replicate n.toNat xs).flatten
def RepOk (k : Nat) (n : Int) : Prop := -(2 ^ 63) ≤ n ∧ n < 2 ^ 63 ∧ k * n.toNat ≤ sizeLine
instance {k : Nat} {n : Int} : Decidable (RepOk k n) := by unfold RepOk; infer_instance
instance {i j : Int} : Decidable (CMul i j) := by unfold CMul; infer_instance
instance {i j : Int} : Decidable (CDivN i j) := by unfold CDivN; infer_instance
instance {i j : Int} : Decidable (CPow i j) := by unfold CPow; infer_instance
theorem gn_lstT {α : Type} {f : α → PyData} {xs : List α} {ta : TA} (h : GLA K H0 os ta σ H (xs.map f)) (hz : xs.length ≤ sizeLine) : GN K H0 os (tLst ta) σ H (xs.map f) := gn_lst h (by rw [List.length_map]; exact hz)
theorem ga_lstT {α : Type} {f : α → PyData} {xs : List α} {ta : TA} (h : GaA K ta σ H (xs.map f)) (hz : xs.length ≤ sizeLine) : Ga K (tLst ta) σ H (eL f xs) := ga_lst h (by rw [List.length_map]; exact hz)
theorem gn_catT {α : Type} {f : α → PyData} {xs ys : List α} (ha : GE K H0 os ta σ H (xs.map f)) (hb : GE K H0 os tb σ H (ys.map f)) (hz : xs.length + ys.length ≤ sizeLine) : GN K H0 os (tOp rCat ta tb) σ H ((xs ++ ys).map f) := by
  rw [List.map_append]
  exact gn_cat ha hb (by rw [List.length_map, List.length_map]; exact hz)
theorem gn_repT {α : Type} {f : α → PyData} {xs : List α} (ha : GE K H0 os ta σ H (xs.map f)) (hb : Ev tb σ H (.int n)) (h : RepOk xs.length n) : GN K H0 os (tOp rRep ta tb) σ H ((repI xs n).map f) := by
  have e : (repI xs n).map f = (List.replicate n.toNat (xs.map f)).flatten := by
    unfold repI
    rw [List.map_flatten, List.map_replicate]
  rw [e]
  exact gn_rep ha hb h.1 h.2.1 (by rw [List.length_map]; exact h.2.2)
theorem gn_slT {α : Type} {f : α → PyData} {xs : List α} {lo hi : Option Int} {tl th : TO} (ha : GE K H0 os ta σ H (xs.map f)) (hl : EvO tl σ H lo) (hh : EvO th σ H hi) : GN K H0 os (tSl (rSlL K) ta tl th) σ H ((sln xs lo hi).map f) := by
  rw [sln_map]
  exact gn_sl ha hl hh
theorem gn_revT {α : Type} {f : α → PyData} {xs : List α} (ha : GE K H0 os ta σ H (xs.map f)) : GN K H0 os (tRevL K ta) σ H (xs.reverse.map f) := fun H1 e Q q =>
  ha H1 e _ fun a vs H2 e2 h g => ⟨a, vs, rfl, SqL.of h, fun p hp => q p _ _ (e2.trans (Ex.new hp)) (Evl.fresh_back e2 hp) upd_same (by
    rw [List.map_reverse]
    exact (g.mono (lc_own hp (Ex.new hp))).reverse)⟩
/-! statements -/
theorem st_go {P : TS} (h : σ = σ') (k : P D σ' H) : P D σ H := h ▸ k
theorem st_fall1 (h : D.nx σ H) : tNext D σ H := h
theorem st_rt {Q : VK} (R : Rg K H0 ls os H) (h : GL K H0 os te σ H d) (q : ∀ v H2, Ex H0 H2 → Dd K (mn H2 H0) v d → Q v H2) (hD : D.rt = Q) : tSeq (tRet te) tz D σ H := st_ret (D := { D with nx := tz D }) R h q hD
theorem st_fall2 {f : L2.St → Hp → Prop} {rt : VK} {bk ct : L2.St → Hp → Prop} (h : f σ H) : Ends.nx ⟨f, rt, bk, ct⟩ σ H := h
theorem st_cont2 {f : L2.St → Hp → Prop} {rt : VK} {bk nx : L2.St → Hp → Prop} (h : f σ H) : Ends.ct ⟨nx, rt, bk, f⟩ σ H := h
theorem st_cont1 (h : D.ct σ H) : tSeq tCont tz D σ H := h
theorem st_skip (k : tz D σ H) : tSeq tNext tz D σ H := k
theorem st_asgL' (R : Rg K H0 ls os H) (h : GL K H0 os te σ H d) (k : ∀ v H1, Rg K H0 ((v, d) :: ls) os H1 → tz D (σ.set i (some v)) H1) : tSeq (tAsg te (gName i)) tz D σ H := st_asgL R h k
theorem st_asgO' (R : Rg K H0 ls os H) (h : GN K H0 os te σ H ds) (k : ∀ p H1, Rg K H0 ls ((p, ds) :: os) H1 → tz D (σ.set i (some (.ref p))) H1) : tSeq (tAsg te (gName i)) tz D σ H := st_asgO R h k
theorem st_aug {f : Int → Int → Int} (R : Rg K H0 ls os H) (hx : σ[i]? = some (some (.int n))) (h : Ev te σ H (.int m)) {p : Int} (e : f n m = p) (hs : σ.set i (some (.int p)) = σ') (k : ∀ H1, Rg K H0 ls os H1 → tz D σ' H1) : tSeq (tAug i te (ipI f)) tz D σ H :=
  ⟨.int n, hx, h H (Ex.refl _) _ fun H1 e1 => ⟨n, m, rfl, rfl, by
    show tz D (σ.set i (some (.int (f n m)))) H1
    rw [e, hs]
    exact k H1 (R.ext e1)⟩⟩
theorem st_drop (R : Rg K H0 ls os H) (h : Ga K te σ H d) (k : ∀ H1, Rg K H0 ls os H1 → tz D σ H1) : tSeq (tDrop te) tz D σ H := h H (Ex.refl _) _ fun _ H1 e _ => k H1 (R.ext e)
theorem st_appT {α : Type} {f : α → PyData} {l : Addr} {xs xs' : List α} {x : α} (R : Rg K H0 ls os H) (ho : σ[i]? = some (some (.ref l))) (hj : os[j]? = some (l, xs.map f)) (h : GL K H0 os te σ H (f x)) (hz : xs.length < sizeLine) (hx : xs ++ [x] = xs') (he : os.set j (l, xs'.map f) = os') (k : ∀ H1, Rg K H0 ls os' H1 → tz D σ H1) :
    tSeq (tDrop (tBM K "list" rAppend (tVar i) (tCons te tNil))) tz D σ H :=
  st_app R ho hj h (by rw [List.length_map]; exact hz) (by subst hx; rw [List.map_append] at he; exact he) k
def setP {α : Type} (xs : List α) (n : Int) (x : α) : Option (List α) := match ixN xs.length n with
  | some k => some (xs.set k x)
  | none => none
theorem st_setT {α : Type} {f : α → PyData} {l : Addr} {xs xs' : List α} {x : α} (R : Rg K H0 ls os H) (ho : σ[i]? = some (some (.ref l))) (hj : os[j]? = some (l, xs.map f)) (h : GL K H0 os te σ H (f x)) (hi : Ev tb σ H (.int n)) (hx : setP xs n x = some xs') (he : os.set j (l, xs'.map f) = os') (k : ∀ H1, Rg K H0 ls os' H1 → tz D σ H1) :
    tSeq (tAsg te (gSub (tVar i) tb rSetL)) tz D σ H := by
  unfold setP at hx
  cases z : ixN xs.length n with
  | none => rw [z] at hx; cases hx
  | some k' =>
    rw [z] at hx
    obtain rfl := Option.some.inj hx
    exact st_setI R ho hj h hi (by rw [List.length_map]; exact z) (by rw [List.map_set] at he; exact he) k
def ctl {β γ δ : Type} (o : Ctl β γ) (r : γ → Option δ) (g : β → Option δ) : Option δ := match o with
  | .ret c => r c
  | .go s => g s
  | .brk s => g s
theorem st_end {Q : VK} (R : Rg K H0 ls os H) (q : ∀ v H2, Ex H0 H2 → Dd K (mn H2 H0) v .none → Q v H2) (hD : D.nx = fun _ H' => Q .non H') : tNext D σ H := by
  show D.nx σ H
  rw [hD]
  exact q _ _ R.base .non
theorem AllP.of_get {α : Type} {P : α → Prop} {l : List α} (h : ∀ a ∈ l, P a) : AllP P l := AllP.of h
/-- some of the owned lists, in any order -/
theorem Rg.osel (R : Rg K H0 ls os H) (f : List Nat) (hn : f.Nodup) (h : f.filterMap (fun i => os[i]?) = os') : Rg K H0 ls os' H := by
  subst h
  have hm : ∀ q ∈ f.filterMap (fun i => os[i]?), q ∈ os := fun q hq => by
    obtain ⟨i, _, e⟩ := List.mem_filterMap.mp hq
    exact List.mem_of_getElem? e
  have few : ∀ a ∈ ads (f.filterMap (fun i => os[i]?)), a ∈ ads os := fun a ha => by
    obtain ⟨q, hq, rfl⟩ := List.mem_map.mp ha
    exact List.mem_map.mpr ⟨q, hm q hq, rfl⟩
  refine ⟨R.base, ?_, R.loc.imp fun _ q => q.mono (lc_fewer few), AllP.of fun q hq => ?_⟩
  · have nd := R.nd
    clear few hm
    induction f with
    | nil => exact List.nodup_nil
    | cons i f ih =>
      obtain ⟨h1, h2⟩ := List.nodup_cons.mp hn
      have ih' := ih h2
      cases e : os[i]? with
      | none => rw [List.filterMap_cons_none e]; exact ih'
      | some q =>
        rw [List.filterMap_cons_some e]
        refine List.nodup_cons.mpr ⟨fun m => ?_, ih'⟩
        obtain ⟨q', hq', e'⟩ := List.mem_map.mp m
        obtain ⟨k, hk, ek⟩ := List.mem_filterMap.mp hq'
        have g1 : (ads os)[i]? = some q.1 := by rw [List.getElem?_map, e]; rfl
        have g2 : (ads os)[k]? = some q.1 := by rw [List.getElem?_map, ek]; exact congrArg some e'
        obtain ⟨p1, e1⟩ := List.getElem?_eq_some_iff.mp g1
        obtain ⟨p2, e2⟩ := List.getElem?_eq_some_iff.mp g2
        have := (List.getElem_inj nd).mp (e1.trans e2.symm)
        subst this
        exact h1 hk
  · obtain ⟨a, vs, b, c⟩ := R.own.mem (hm q hq)
    exact ⟨a, vs, b, c.mono (lc_fewer few)⟩
end
end Dc
namespace Dc
open PySem PySem.Spec PyProof.Rows L2
open Evl (Ex Ev EvT EvA)
/-! ### data whose kind is found at run time -/
def isNoneD : PyData → Bool
  | .none => true
  | _ => false
def isBlD (b : Bool) : PyData → Bool
  | .bool c => decide (b = c)
  | _ => false
def tyN : PyData → String
  | .none => "NoneType"
  | .bool _ => "bool"
  | .int _ => "int"
  | .str _ => "str"
  | .list _ => "list"
  | .tuple _ => "tuple"
  | .dict _ => "dict"
def isStrD : PyData → Option Bool
  | .str _ => some true
  | .dict _ => none
  | _ => some false
def isIntD : PyData → Option Bool
  | .int _ => some true
  | .bool _ => some true
  | .dict _ => none
  | _ => some false
def isBoolD : PyData → Option Bool
  | .bool _ => some true
  | .dict _ => none
  | _ => some false
def isListD : PyData → Option Bool
  | .list _ => some true
  | .dict _ => none
  | _ => some false
def isTupD : PyData → Option Bool
  | .tuple _ => some true
  | .dict _ => none
  | _ => some false
def eqD : PyData → PyData → Option Bool
  | .str a, .str b => some (decide (a = b))
  | .int a, .int b => some (decide (a = b))
  | .bool a, .bool b => some (decide (a = b))
  | _, _ => none
def lenD : PyData → Option Int
  | .list ds => some (ds.length : Int)
  | .tuple ds => some (ds.length : Int)
  | _ => none
def ixD (d : PyData) (n : Int) : Option PyData := match d with
  | .list ds => atI ds n
  | .tuple ds => atI ds n
  | _ => none
def rIsBl : R2 := fun x y H Q => ∃ b : Bool, y = .bl b ∧ Q (.bl (decide (x = .bl b))) H
theorem op_isAnyBl {X : Cx} : OpR X (compareOp .Is) rIsBl := by
  intro pins s σ H x y v u Q I rx ry h
  obtain ⟨b, rfl, q⟩ := h
  cases (show u = Value.bool b from ry)
  cases x with
  | non => cases (show v = Value.none from rx); exact wpAny_is_other rfl (fun z => nomatch z) ⟨.bl false, H, I, rfl, by simpa using q⟩
  | bl a =>
    cases (show v = Value.bool a from rx)
    by_cases e : a = b
    · subst e
      exact wpAny_is_self rfl ⟨.bl true, H, I, rfl, by simpa using q⟩
    · exact wpAny_is_other rfl (fun z => e (Value.bool.inj z)) ⟨.bl false, H, I, rfl, by simpa [e] using q⟩
  | int i => obtain ⟨t, rfl⟩ := rx; exact wpAny_is_other rfl (fun z => nomatch z) ⟨.bl false, H, I, rfl, by simpa using q⟩
  | str i => obtain ⟨t, rfl⟩ := rx; exact wpAny_is_other rfl (fun z => nomatch z) ⟨.bl false, H, I, rfl, by simpa using q⟩
  | byt i => obtain ⟨t, rfl⟩ := rx; exact wpAny_is_other rfl (fun z => nomatch z) ⟨.bl false, H, I, rfl, by simpa using q⟩
  | flt i => obtain ⟨t, rfl⟩ := rx; exact wpAny_is_other rfl (fun z => nomatch z) ⟨.bl false, H, I, rfl, by simpa using q⟩
  | ref a => cases (show v = Value.ref a from rx); exact wpAny_is_other rfl (fun z => nomatch z) ⟨.bl false, H, I, rfl, by simpa using q⟩
  | ty a => cases (show v = Value.type a from rx); exact wpAny_is_other rfl (fun z => nomatch z) ⟨.bl false, H, I, rfl, by simpa using q⟩
section
variable {K : PySem.W.Frag} {H0 H H' : Hp} {ls : List (V × PyData)} {os os' : List Own} {σ σ' : L2.St} {te ta tb tc tl : TE} {tt tu' : TT} {tu tw tz : TS} {D : Ends} {d e : PyData} {ds es : List PyData} {v : V} {i j : Nat} {a b c : Bool} {n m lo hi : Int} {x y : Str}
theorem dd_isNone {H : Hp} (h : Dd K H v d) : decide (v = .non) = isNoneD d := by
  cases h <;> first | rfl | simp [isNoneD]
theorem dd_isBl {H : Hp} (h : Dd K H v d) : decide (v = .bl b) = isBlD b d := by
  cases h with
  | bl c =>
    by_cases e : c = b
    · subst e; simp [isBlD]
    · simp [isBlD, e, Ne.symm e]
  | _ => simp [isBlD]
theorem ev_isND (h : Ga K ta σ H d) : Ev (tOp (fun x y H Q => y = .non ∧ Q (.bl (decide (x = .non))) H) ta (tC .non)) σ H (.bl (isNoneD d)) := fun H1 e Q q => h H1 e _ fun v H2 e2 g => ⟨rfl, by
  rw [dd_isNone g]
  exact q H2 e2⟩
theorem ev_notND (h : Ga K ta σ H d) : Ev (tOp (fun x y H Q => y = .non ∧ Q (.bl (!decide (x = .non))) H) ta (tC .non)) σ H (.bl (!isNoneD d)) := fun H1 e Q q => h H1 e _ fun v H2 e2 g => ⟨rfl, by
  rw [dd_isNone g]
  exact q H2 e2⟩
theorem ev_isNO {α : Type} {f : α → PyData} {o : Option α} (hf : ∀ x, isNoneD (f x) = false) (h : Ga K ta σ H (eO f o)) : Ev (tOp (fun x y H Q => y = .non ∧ Q (.bl (decide (x = .non))) H) ta (tC .non)) σ H (.bl o.isNone) :=
  ev_eqb (ev_isND h) (by cases o with | none => rfl | some x => exact hf x)
theorem ev_notNO {α : Type} {f : α → PyData} {o : Option α} (hf : ∀ x, isNoneD (f x) = false) (h : Ga K ta σ H (eO f o)) : Ev (tOp (fun x y H Q => y = .non ∧ Q (.bl (!decide (x = .non))) H) ta (tC .non)) σ H (.bl o.isSome) :=
  ev_eqb (ev_notND h) (by cases o with | none => rfl | some x => show (!isNoneD (f x)) = true; rw [hf x]; rfl)
theorem ga_opt {α : Type} {f : α → PyData} {o : Option α} {z : α} (h : Ga K te σ H (eO f o)) (e : o = some z) : Ga K te σ H (f z) := by subst e; exact h
theorem gl_opt {α : Type} {f : α → PyData} {o : Option α} {z : α} (h : GL K H0 os te σ H (eO f o)) (e : o = some z) : GL K H0 os te σ H (f z) := by subst e; exact h
theorem gv_opt {α : Type} {f : α → PyData} {o : Option α} {z : α} (h : Gv K te σ H (eO f o)) (e : o = some z) : Gv K te σ H (f z) := by subst e; exact h
theorem ev_isBD (h : Ga K ta σ H d) : Ev (tOp rIsBl ta (tC (.bl b))) σ H (.bl (isBlD b d)) := fun H1 e Q q => h H1 e _ fun v H2 e2 g => ⟨b, rfl, by
  rw [dd_isBl g]
  exact q H2 e2⟩
theorem ty_dd {H : Hp} (h : Dd K H v d) (hd : ∀ kvs, d ≠ .dict kvs) : TyX K H v (.type (tyN d)) := by
  cases h with
  | non => exact .base .non
  | bl b => exact .base (.bl b)
  | int i => exact .base (.int i)
  | str x => exact .base (.str x)
  | lst h _ => exact .base (.lst h)
  | tup h _ =>
    rcases h with (h | ⟨o, h⟩) | ⟨o, its, k, h1, h2, _⟩
    · exact .base (.tup h)
    · exact .fTuple h
    · exact .kTuple h1 h2
  | scr h => exact absurd rfl (hd _)
theorem ev_isi {T : String} {f : PyData → Option Bool} (h : Ga K ta σ H d) (hf : f d = some b) (hd : ∀ d b, f d = some b → (∀ kvs, d ≠ .dict kvs) ∧ kitB (tyN d) T = some b) : Ev (tCB (rIsi K) (tCons ta (tCons (tC (.ty T)) tNil))) σ H (.bl b) := fun H1 e Q q =>
  h H1 e _ fun v H2 e2 g => ⟨v, .ty T, _, _, b, rfl, .ty T, ty_dd g (hd d b hf).1, kit_ty (hd d b hf).2, q H2 e2⟩
theorem isi_str : ∀ d b, isStrD d = some b → (∀ kvs, d ≠ .dict kvs) ∧ kitB (tyN d) "str" = some b := by
  intro d b h
  cases d with
  | dict _ => cases h
  | _ => obtain rfl := Option.some.inj h; exact ⟨fun _ z => (nomatch z), by simp only [tyN]; decide +kernel⟩
theorem isi_int : ∀ d b, isIntD d = some b → (∀ kvs, d ≠ .dict kvs) ∧ kitB (tyN d) "int" = some b := by
  intro d b h
  cases d with
  | dict _ => cases h
  | _ => obtain rfl := Option.some.inj h; exact ⟨fun _ z => (nomatch z), by simp only [tyN]; decide +kernel⟩
theorem isi_bool : ∀ d b, isBoolD d = some b → (∀ kvs, d ≠ .dict kvs) ∧ kitB (tyN d) "bool" = some b := by
  intro d b h
  cases d with
  | dict _ => cases h
  | _ => obtain rfl := Option.some.inj h; exact ⟨fun _ z => (nomatch z), by simp only [tyN]; decide +kernel⟩
theorem isi_list : ∀ d b, isListD d = some b → (∀ kvs, d ≠ .dict kvs) ∧ kitB (tyN d) "list" = some b := by
  intro d b h
  cases d with
  | dict _ => cases h
  | _ => obtain rfl := Option.some.inj h; exact ⟨fun _ z => (nomatch z), by simp only [tyN]; decide +kernel⟩
theorem isi_tuple : ∀ d b, isTupD d = some b → (∀ kvs, d ≠ .dict kvs) ∧ kitB (tyN d) "tuple" = some b := by
  intro d b h
  cases d with
  | dict _ => cases h
  | _ => obtain rfl := Option.some.inj h; exact ⟨fun _ z => (nomatch z), by simp only [tyN]; decide +kernel⟩
theorem ev_eqDy (ha : Ga K ta σ H d) (hb : Ga K tb σ H e) (h : eqD d e = some b) : Ev (tOp rEq ta tb) σ H (.bl b) := by
  cases d <;> cases e <;> first | (cases h; done) | skip
  · obtain rfl := Option.some.inj h; exact ev_eqB (ev_bl ha) (ev_bl hb)
  · obtain rfl := Option.some.inj h; exact ev_eqI (ev_int ha) (ev_int hb)
  · obtain rfl := Option.some.inj h; exact ev_eqS (ev_str ha) (ev_str hb)
theorem ev_lenD (ha : Ga K ta σ H d) (h : lenD d = some n) : Ev (tCB (rLen1 K) (tCons ta tNil)) σ H (.int n) := by
  cases d <;> first | (cases h; done) | skip
  · obtain rfl := Option.some.inj h; exact ev_len (f := id) (by rw [eL, List.map_id]; exact ha)
  · obtain rfl := Option.some.inj h; exact ev_lenT (f := id) (by rw [eTL, List.map_id]; exact ha)
theorem ga_ixD (ha : Ga K ta σ H d) (hb : Ev tb σ H (.int n)) (h : ixD d n = some e) : Ga K (tOp (rIx K) ta tb) σ H e := fun H1 e1 Q q =>
  ha H1 e1 _ fun v H2 e2 g => hb H2 (e1.trans e2) _ fun H3 e3 => by
    cases g <;> first | (cases h; done) | skip
    · rename_i hp hd
      obtain ⟨w, h1, h2⟩ := hd.atI h
      exact .inl ⟨_, _, n, w, rfl, rfl, SqL.of (e3 _ _ hp), h1, q w H3 (e2.trans e3) (h2.mono e3)⟩
    · rename_i hp hd
      obtain ⟨w, h1, h2⟩ := hd.atI h
      exact .inr (.inl ⟨_, _, n, w, rfl, rfl, Evl.ex_t e3 hp, h1, q w H3 (e2.trans e3) (h2.mono e3)⟩)
/-! scripts -/
theorem ev_lenScr {ns : List Int} (ha : Ga K ta σ H (eS ns)) : Ev (tCB (rLen1 K) (tCons ta tNil)) σ H (.int (ns.length : Int)) := fun H1 e Q q =>
  ha H1 e _ fun v H2 e2 g => by
    obtain ⟨p, rfl, hp⟩ := dd_scr g
    exact ⟨_, ns.length, rfl, .inl ⟨_, hp, by rw [List.length_map]⟩, q H2 e2⟩
theorem ev_ixS {ns : List Int} (ha : Ga K ta σ H (eS ns)) (hb : Ev tb σ H (.int n)) (h : atI ns n = some m) : Ev (tOp (rIxL K) ta tb) σ H (.int m) := fun H1 e Q q =>
  ha H1 e _ fun v H2 e2 g => hb H2 (e.trans e2) _ fun H3 e3 => by
    obtain ⟨p, rfl, hp⟩ := dd_scr g
    refine ⟨p, _, n, .int m, rfl, rfl, Evl.ex_l e3 hp, ?_, q H3 (e2.trans e3)⟩
    unfold atI at h ⊢
    rw [List.length_map]
    cases z : ixN ns.length n with
    | none => rw [z] at h; cases h
    | some j =>
      rw [z] at h
      show (ns.map V.int)[j]? = some (.int m)
      rw [List.getElem?_map, show ns[j]? = some m from h]
      rfl
/-! more lists -/
theorem gn_sortedA {xs : List Int} (ha : Ga K ta σ H (eL .int xs)) : GN K H0 os (tCB (rSortedI K) (tCons ta tNil)) σ H ((srtA xs).map .int) := fun H1 e Q q =>
  ha H1 e _ fun v H2 e2 f => by
    obtain ⟨a, vs, rfl, h, g⟩ := dd_lst f
    refine ⟨a, xs, rfl, SqL.of (by rw [h, of_ddInts g]), fun ns' p hp ho hn => ?_⟩
    rw [srtA_eq hp ho]
    exact q p _ _ (e2.trans (Ex.new hn)) (Evl.fresh_back e2 hn) upd_same (ddAll_ints _)
def maxL (xs : List Int) : Option Int := xs.max?
def minL (xs : List Int) : Option Int := xs.min?
theorem max_is {xs : List Int} {m : Int} (h1 : m ∈ xs) (h2 : ∀ y ∈ xs, y ≤ m) : xs.max? = some m := List.max?_eq_some_iff.mpr ⟨h1, h2⟩
theorem min_is {xs : List Int} {m : Int} (h1 : m ∈ xs) (h2 : ∀ y ∈ xs, m ≤ y) : xs.min? = some m := List.min?_eq_some_iff.mpr ⟨h1, h2⟩
theorem ev_maxL {xs : List Int} (ha : Ga K ta σ H (eL .int xs)) (h : maxL xs = some n) : Ev (tCB (rMax K) (tCons ta tNil)) σ H (.int n) := fun H1 e Q q =>
  ha H1 e _ fun v H2 e2 g => by
    obtain ⟨p, vs, rfl, hp, hd⟩ := dd_lst g
    rw [of_ddInts hd] at hp
    have hn : 0 < xs.length := by
      cases xs with
      | nil => cases h
      | cons _ _ => exact Nat.succ_pos _
    refine ⟨p, xs, rfl, SqL.of hp, hn, fun m h1 h2 => ?_⟩
    have := max_is h1 h2
    rw [show xs.max? = some n from h] at this
    obtain rfl := Option.some.inj this
    exact q H2 e2
theorem ev_minL {xs : List Int} (ha : Ga K ta σ H (eL .int xs)) (h : minL xs = some n) : Ev (tCB (rMin K) (tCons ta tNil)) σ H (.int n) := fun H1 e Q q =>
  ha H1 e _ fun v H2 e2 g => by
    obtain ⟨p, vs, rfl, hp, hd⟩ := dd_lst g
    rw [of_ddInts hd] at hp
    have hn : 0 < xs.length := by
      cases xs with
      | nil => cases h
      | cons _ _ => exact Nat.succ_pos _
    refine ⟨p, xs, rfl, SqL.of hp, hn, fun m h1 h2 => ?_⟩
    have := min_is h1 h2
    rw [show xs.min? = some n from h] at this
    obtain rfl := Option.some.inj this
    exact q H2 e2
/-! == of lists of ints -/
theorem eqv_ints : ∀ xs ys : List Int, PyData.eqvAll (xs.map .int) (ys.map .int) = decide (xs = ys)
  | [], [] => by simp [PyData.eqvAll]
  | [], _ :: _ => by simp [PyData.eqvAll]
  | _ :: _, [] => by simp [PyData.eqvAll]
  | x :: xs, y :: ys => by
    have ih := eqv_ints xs ys
    simp only [List.map_cons, PyData.eqvAll, PyData.eqv, ih, List.cons.injEq, Bool.decide_and]
    rfl
theorem lay_ints : ∀ xs : List Int, PyData.canLayAll0 (xs.map .int) = true
  | [] => by simp [PyData.canLayAll0]
  | x :: xs => by simp [PyData.canLayAll0, PyData.canLay0, lay_ints xs]
theorem depAll_ints : ∀ xs : List Int, PyData.depthAll (xs.map .int) = 0
  | [] => by simp [PyData.depthAll]
  | x :: xs => by simp [PyData.depthAll, PyData.depth, depAll_ints xs]
theorem shaped_ints (xs : List Int) : SeqAt.shaped (.list (xs.map .int)) = true := by
  simp [SeqAt.shaped, PyData.canLay0, PyData.depth, lay_ints, depAll_ints]
theorem ev_eqL {xs ys : List Int} (ha : Ga K ta σ H (eL .int xs)) (hb : Ga K tb σ H (eL .int ys)) : Ev (tOp (rEqD K) ta tb) σ H (.bl (decide (xs = ys))) := fun H1 e Q q =>
  ha H1 e _ fun v H2 e2 f => hb H2 (e.trans e2) _ fun w H3 e3 g =>
    ⟨_, _, dp_ints (f.mono e3), dp_ints g, shaped_ints xs, shaped_ints ys, by
      simp only [PyData.eqv, eqv_ints]
      exact q H3 (e2.trans e3)⟩
theorem ev_neL {xs ys : List Int} (ha : Ga K ta σ H (eL .int xs)) (hb : Ga K tb σ H (eL .int ys)) : Ev (tOp (rNeD K) ta tb) σ H (.bl (!decide (xs = ys))) := fun H1 e Q q =>
  ha H1 e _ fun v H2 e2 f => hb H2 (e.trans e2) _ fun w H3 e3 g =>
    ⟨_, _, dp_ints (f.mono e3), dp_ints g, shaped_ints xs, shaped_ints ys, by
      simp only [PyData.eqv, eqv_ints]
      exact q H3 (e2.trans e3)⟩
/-! list.insert -/
def insP {α : Type} (xs : List α) (n : Int) (x : α) : Option (List α) := if xs.length < sizeLine ∧ 0 ≤ n ∧ n < 2 ^ 63 then some (xs.take n.toNat ++ [x] ++ xs.drop n.toNat) else none
theorem st_insT {α : Type} {f : α → PyData} {l : Addr} {xs xs' : List α} {x : α} (R : Rg K H0 ls os H) (ho : σ[i]? = some (some (.ref l))) (hj : os[j]? = some (l, xs.map f)) (hi : Ev tb σ H (.int n)) (h : GL K H0 os te σ H (f x)) (hx : insP xs n x = some xs') (he : os.set j (l, xs'.map f) = os') (k : ∀ H1, Rg K H0 ls os' H1 → tz D σ H1) :
    tSeq (tDrop (tBM K "list" (fun x vs H Q => ∃ (l : Addr) (xs : List V) (i : Int) (y : V), x = .ref l ∧ vs = [.int i, y] ∧ H l = some (.lst xs) ∧ xs.length < sizeLine ∧ 0 ≤ i ∧ i < 2 ^ 63 ∧
      Q .non (upd H l (.lst (xs.take i.toNat ++ [y] ++ xs.drop i.toNat)))) (tVar i) (tCons tb (tCons te tNil)))) tz D σ H := by
  unfold insP at hx
  by_cases c : xs.length < sizeLine ∧ 0 ≤ n ∧ n < 2 ^ 63
  · rw [if_pos c] at hx
    obtain rfl := Option.some.inj hx
    refine ⟨_, ho, .inl ⟨rfl, ?_⟩, ?_⟩
    · obtain ⟨vs, a, _⟩ := R.atO j hj
      exact ⟨vs, SqL.of a⟩
    · refine hi H (Ex.refl _) _ fun H1 e1 => h H1 e1 _ fun v H2 e2 f => ?_
      have R1 := (R.ext e1).ext e2
      obtain ⟨vs, a, c2⟩ := R1.atO j hj
      have el := c2.length
      rw [List.length_map] at el
      refine ⟨l, vs, n, v, rfl, rfl, a, by rw [el]; exact c.1, c.2.1, c.2.2, k _ (R1.mut hj ?_ he)⟩
      rw [List.map_append, List.map_append, List.map_take, List.map_drop]
      exact ((c2.take _).append (.cons f .nil)).append (c2.drop _)
  · rw [if_neg c] at hx
    cases hx
end
end Dc
namespace Dc
open PySem L2
/-! ### what holds of an option that has a value -/
def Sat {α : Type} (m : Option α) (P : α → Prop) : Prop := ∃ a, m = some a ∧ P a
section
variable {α β γ δ : Type} {m : Option α} {P : α → Prop} {Q : β → Prop} {f : α → Option β}
theorem Sat.imp {P' : α → Prop} (h : Sat m P) (k : ∀ a, P a → P' a) : Sat m P' := let ⟨a, e, p⟩ := h; ⟨a, e, k a p⟩
theorem sat_some {a : α} (h : P a) : Sat (some a) P := ⟨a, rfl, h⟩
theorem sat_bd (h : Sat m P) (k : ∀ a, P a → Sat (f a) Q) : Sat (bd m f) Q := by
  obtain ⟨a, rfl, p⟩ := h
  exact k a p
/-- with the equation -/
theorem sat_bdE (h : Sat m P) (k : ∀ a, m = some a → P a → Sat (f a) Q) : Sat (bd m f) Q := by
  obtain ⟨a, rfl, p⟩ := h
  exact k a rfl p
theorem sat_eq {a : α} (h : m = some a) (k : Sat (f a) Q) : Sat (bd m f) Q := by
  subst h
  exact k
theorem sat_let {a : α} (k : Sat (f a) Q) : Sat (bd (some a) f) Q := k
theorem sat_gd {p : Prop} [Decidable p] {f : Unit → Option β} (h : p) (k : Sat (f ()) Q) : Sat (bd (gd p) f) Q := sat_eq (gd_mk h) k
theorem sat_if {c : Bool} {A B : Option α} (h1 : c = true → Sat A P) (h2 : c = false → Sat B P) : Sat (if c = true then A else B) P := by
  cases c with
  | true => exact h1 rfl
  | false => exact h2 rfl
theorem sat_ifd {p : Prop} [Decidable p] {A B : Option α} (h1 : p → Sat A P) (h2 : ¬ p → Sat B P) : Sat (if decide p = true then A else B) P := by
  by_cases c : p
  · rw [if_pos (decide_eq_true c)]
    exact h1 c
  · rw [if_neg (by simp [c])]
    exact h2 c
theorem sat_ift {c : Bool} {A B : Option α} (hc : c = true) (h : Sat A P) : Sat (if c = true then A else B) P := by rw [if_pos hc]; exact h
theorem sat_iff {c : Bool} {A B : Option α} (hc : c = false) (h : Sat B P) : Sat (if c = true then A else B) P := by rw [hc]; exact h
theorem Sat.val {a : α} (h : Sat m fun x => x = a) : m = some a := by
  obtain ⟨b, e, rfl⟩ := h
  exact e
theorem sat_val {a : α} (h : m = some a) (p : P a) : Sat m P := ⟨a, h, p⟩
theorem sat_ctl {o : Ctl β γ} {r : γ → Option δ} {g : β → Option δ} {Q : δ → Prop} (h1 : ∀ c, o = .ret c → Sat (r c) Q) (h2 : ∀ s, o = .go s → Sat (g s) Q) (h3 : ∀ s, o = .brk s → Sat (g s) Q) : Sat (ctl o r g) Q := by
  cases o with
  | go s => exact h2 s rfl
  | ret c => exact h1 c rfl
  | brk s => exact h3 s rfl
theorem sat_go {s : β} {r : γ → Option δ} {g : β → Option δ} {Q : δ → Prop} (h : Sat (g s) Q) : Sat (ctl (.go s) r g) Q := h
theorem sat_ret {c : γ} {r : γ → Option δ} {g : β → Option δ} {Q : δ → Prop} (h : Sat (r c) Q) : Sat (ctl (.ret c) r g) Q := h
theorem sat_forP' {f : β → α → Option β} (I : Nat → β → Prop) (all : List α) : ∀ (xs : List α) (k : Nat) (s0 : β), I k s0 → (∀ i s x, all[i]? = some x → k ≤ i → I i s → Sat (f s x) (I (i + 1))) → all.drop k = xs → Sat (forP f xs s0) (I (k + xs.length))
  | [], k, s0, h0, _, _ => sat_some h0
  | x :: xs, k, s0, h0, hs, e => by
    have hx : all[k]? = some x := by
      have := congrArg (fun l => l[0]?) e
      simpa [List.getElem?_drop] using this
    refine sat_bd (hs k s0 x hx (Nat.le_refl _) h0) fun s' h1 => ?_
    have ih := sat_forP' I all xs (k + 1) s' h1 (fun i s x hi hk => hs i s x hi (by omega)) (by
      have := congrArg List.tail e
      simpa [List.tail_drop] using this)
    have el : k + (x :: xs).length = k + 1 + xs.length := by simp only [List.length_cons]; omega
    rw [el]
    exact ih
theorem sat_forP {f : β → α → Option β} {xs : List α} {s0 : β} (I : Nat → β → Prop) (h0 : I 0 s0) (hs : ∀ i s x, xs[i]? = some x → I i s → Sat (f s x) (I (i + 1))) : Sat (forP f xs s0) (I xs.length) := by
  have := sat_forP' I xs xs 0 s0 h0 (fun i s x hi _ => hs i s x hi) rfl
  simpa using this
/-- how a loop that may leave ends -/
def CtlP {β γ : Type} (G B : β → Prop) (R : γ → Prop) : Ctl β γ → Prop
  | .go s => G s
  | .ret c => R c
  | .brk s => B s
theorem sat_forC' {f : β → α → Option (Ctl β γ)} (I : Nat → β → Prop) (B : β → Prop) (R : γ → Prop) (all : List α) : ∀ (xs : List α) (k : Nat) (s0 : β), I k s0 → (∀ i s x, all[i]? = some x → k ≤ i → I i s → Sat (f s x) (CtlP (I (i + 1)) B R)) → all.drop k = xs → Sat (forC f xs s0) (CtlP (fun s => I (k + xs.length) s ∨ B s) (fun _ => False) R)
  | [], k, s0, h0, _, _ => sat_some (Or.inl h0)
  | x :: xs, k, s0, h0, hs, e => by
    have hx : all[k]? = some x := by
      have := congrArg (fun l => l[0]?) e
      simpa [List.getElem?_drop] using this
    refine sat_bd (hs k s0 x hx (Nat.le_refl _) h0) fun o h1 => ?_
    cases o with
    | go s' =>
      have ih := sat_forC' I B R all xs (k + 1) s' h1 (fun i s x hi hk => hs i s x hi (by omega)) (by
        have := congrArg List.tail e
        simpa [List.tail_drop] using this)
      have el : k + (x :: xs).length = k + 1 + xs.length := by simp only [List.length_cons]; omega
      rw [el]
      exact ih
    | ret c => exact sat_some h1
    | brk s' => exact sat_some (Or.inr h1)
theorem sat_forC {f : β → α → Option (Ctl β γ)} {xs : List α} {s0 : β} (I : Nat → β → Prop) (B : β → Prop) (R : γ → Prop) (h0 : I 0 s0) (hs : ∀ i s x, xs[i]? = some x → I i s → Sat (f s x) (CtlP (I (i + 1)) B R)) : Sat (forC f xs s0) (CtlP (fun s => I xs.length s ∨ B s) (fun _ => False) R) := by
  have := sat_forC' I B R xs xs 0 s0 h0 (fun i s x hi _ => hs i s x hi) rfl
  simpa using this
/-- a search: each turn goes on, or gives back -/
theorem sat_forU {f : Unit → α → Option (Ctl Unit γ)} {xs : List α} (I : Nat → Prop) (R : γ → Prop) (h0 : I 0) (hs : ∀ i x, xs[i]? = some x → I i → Sat (f () x) (CtlP (fun _ => I (i + 1)) (fun _ => False) R)) : Sat (forC f xs ()) (CtlP (fun _ => I xs.length) (fun _ => False) R) :=
  (sat_forC (fun i _ => I i) (fun _ => False) R h0 (fun i s x hi h => hs i x hi h)).imp fun o h => by
    cases o with
    | go s => exact h.elim id False.elim
    | ret c => exact h
    | brk s => exact h
/-! ### comprehensions -/
theorem cmP_map {f : α → Option (Option β)} (g : α → β) : ∀ {xs : List α}, (∀ x ∈ xs, f x = some (some (g x))) → cmP f xs = some (xs.map g)
  | [], _ => rfl
  | x :: xs, h => by
    unfold cmP
    rw [h x List.mem_cons_self, cmP_map g fun y hy => h y (List.mem_cons_of_mem _ hy)]
    rfl
theorem cmP_filter {f : α → Option (Option α)} (p : α → Bool) : ∀ {xs : List α}, (∀ x ∈ xs, f x = some (if p x = true then some x else none)) → cmP f xs = some (xs.filter p)
  | [], _ => rfl
  | x :: xs, h => by
    unfold cmP
    rw [h x List.mem_cons_self, cmP_filter p fun y hy => h y (List.mem_cons_of_mem _ hy), List.filter_cons]
    cases p x <;> rfl
inductive F2 {α β : Type} (R : α → β → Prop) : List α → List β → Prop
  | nil : F2 R [] []
  | cons {a b l m} : R a b → F2 R l m → F2 R (a :: l) (b :: m)
theorem F2.length {R : α → β → Prop} : ∀ {l : List α} {m : List β}, F2 R l m → l.length = m.length
  | _, _, .nil => rfl
  | _, _, .cons _ t => congrArg Nat.succ (F2.length t)
theorem F2.get {R : α → β → Prop} : ∀ {l : List α} {m : List β} {i : Nat} {a : α}, F2 R l m → l[i]? = some a → ∃ b, m[i]? = some b ∧ R a b
  | _, _, 0, _, .cons h _, e => ⟨_, rfl, by have := Option.some.inj e; subst this; exact h⟩
  | _, _, i + 1, _, .cons _ t, e => F2.get (i := i) t e
theorem F2.imp {R R' : α → β → Prop} (h : ∀ a b, R a b → R' a b) : ∀ {l : List α} {m : List β}, F2 R l m → F2 R' l m
  | _, _, .nil => .nil
  | _, _, .cons a t => .cons (h _ _ a) (F2.imp h t)
theorem F2.mem {R : α → β → Prop} : ∀ {l : List α} {m : List β} {b : β}, F2 R l m → b ∈ m → ∃ a ∈ l, R a b
  | _, _, _, .cons h t, e => by
    rcases List.mem_cons.mp e with rfl | e
    · exact ⟨_, List.mem_cons_self, h⟩
    · obtain ⟨a, ha, r⟩ := F2.mem t e
      exact ⟨a, List.mem_cons_of_mem _ ha, r⟩
theorem F2.append {R : α → β → Prop} : ∀ {l l' : List α} {m m' : List β}, F2 R l m → F2 R l' m' → F2 R (l ++ l') (m ++ m')
  | _, _, _, _, .nil, s => s
  | _, _, _, _, .cons h t, s => .cons h (F2.append t s)
theorem sat_cm {f : α → Option (Option β)} (R : α → β → Prop) : ∀ {xs : List α}, (∀ x ∈ xs, Sat (f x) fun o => ∃ y, o = some y ∧ R x y) → Sat (cmP f xs) fun ys => F2 R xs ys
  | [], _ => sat_some .nil
  | x :: xs, h => by
    refine sat_bd (h x List.mem_cons_self) fun o ⟨y, e, r⟩ => ?_
    subst e
    exact sat_bd (sat_cm R fun y hy => h y (List.mem_cons_of_mem _ hy)) fun ys hys => sat_some (.cons r hys)
end
/-! ### items -/
theorem atI_pos {α : Type} {xs : List α} {i : Int} (h0 : 0 ≤ i) (h1 : i < xs.length) : atI xs i = some (xs[i.toNat]'(by omega)) := by
  have := atI_nat (xs := xs) (j := i.toNat) (v := xs[i.toNat]'(by omega)) (List.getElem?_eq_getElem (by omega))
  rwa [Int.toNat_of_nonneg h0] at this
theorem atI_some {α : Type} {xs : List α} {i : Int} {v : α} (h0 : 0 ≤ i) (h : xs[i.toNat]? = some v) : atI xs i = some v := by
  have := atI_nat (xs := xs) (j := i.toNat) h
  rwa [Int.toNat_of_nonneg h0] at this
theorem sat_atI {α : Type} {xs : List α} {i : Int} {P : α → Prop} (h0 : 0 ≤ i) (h1 : i < xs.length) (h : ∀ v, xs[i.toNat]? = some v → P v) : Sat (atI xs i) P :=
  ⟨_, atI_pos h0 h1, h _ (List.getElem?_eq_getElem (by omega))⟩
theorem sat_atM {α : Type} {xs : List α} {i : Int} {P : α → Prop} (h0 : 0 ≤ i) (h1 : i < xs.length) (h : ∀ v ∈ xs, P v) : Sat (atI xs i) P :=
  sat_atI h0 h1 fun v hv => h v (List.mem_of_getElem? hv)
theorem setP_pos {α : Type} {xs : List α} {i : Int} {x : α} (h0 : 0 ≤ i) (h1 : i < xs.length) : setP xs i x = some (xs.set i.toNat x) := by
  unfold setP
  have : ixN xs.length i = some i.toNat := by
    unfold ixN
    rw [if_pos h0, if_pos h1]
  rw [this]
/-! ### ranges -/
theorem mem_rng {lo hi x : Int} : x ∈ rng lo hi ↔ lo ≤ x ∧ x < hi := by
  unfold rng
  rw [List.mem_map]
  constructor
  · rintro ⟨i, hi', rfl⟩
    have := List.mem_range.mp hi'
    omega
  · rintro ⟨h1, h2⟩
    exact ⟨(x - lo).toNat, List.mem_range.mpr (by omega), by omega⟩
theorem rng_at {lo hi x : Int} {i : Nat} (h : (rng lo hi)[i]? = some x) : x = lo + i ∧ lo + i < hi := by
  have hl : i < (rng lo hi).length := (List.getElem?_eq_some_iff.mp h).1
  rw [rng_len] at hl
  rw [rng_get hl] at h
  exact ⟨(Option.some.inj h).symm, by omega⟩
/-! ### lists -/
theorem sz {n : Nat} (h : n ≤ 100000) : n ≤ sizeLine := Evl.sz_of h
theorem szl {n : Nat} (h : n < 100000) : n < sizeLine := Evl.sz_lt h
theorem repI_one {α : Type} (a : α) (n : Int) : repI [a] n = List.replicate n.toNat a := by
  unfold repI
  induction n.toNat with
  | zero => rfl
  | succ k ih => rw [List.replicate_succ, List.flatten_cons, ih]; rfl
theorem repOk {k : Nat} {n : Int} (h0 : n ≤ 100000) (h1 : -100000 ≤ n) (h2 : k * n.toNat ≤ 100000) : RepOk k n := ⟨by omega, by omega, sz h2⟩
theorem sln_take {α : Type} {xs : List α} {k : Int} (h : 0 ≤ k) : sln xs none (some k) = xs.take k.toNat := by
  unfold sln
  have e1 : HT.sIx xs.length xs.length (some k) = min k.toNat xs.length := by
    have := HT.sIx_nat xs.length xs.length k.toNat
    rwa [Int.toNat_of_nonneg h] at this
  rw [e1, HT.sIx_none, List.drop_zero, Nat.sub_zero]
  by_cases c : k.toNat ≤ xs.length
  · rw [Nat.min_eq_left c]
  · rw [Nat.min_eq_right (by omega), List.take_length, List.take_of_length_le (by omega)]
theorem sln_drop {α : Type} {xs : List α} {k : Int} (h : 0 ≤ k) : sln xs (some k) none = xs.drop k.toNat := by
  unfold sln
  have e1 : HT.sIx xs.length 0 (some k) = min k.toNat xs.length := by
    have := HT.sIx_nat xs.length 0 k.toNat
    rwa [Int.toNat_of_nonneg h] at this
  rw [e1, HT.sIx_none]
  by_cases c : k.toNat ≤ xs.length
  · rw [Nat.min_eq_left c]
    exact List.take_of_length_le (by rw [List.length_drop]; exact Nat.le_refl _)
  · rw [Nat.min_eq_right (by omega), List.drop_length, List.drop_eq_nil_of_le (by omega), List.take_nil]
/-! ### equality of data -/
mutual
def beqD : PyData → PyData → Bool
  | .none, .none => true
  | .bool a, .bool b => decide (a = b)
  | .int a, .int b => decide (a = b)
  | .str a, .str b => decide (a = b)
  | .list xs, .list ys => beqDs xs ys
  | .tuple xs, .tuple ys => beqDs xs ys
  | _, _ => false
def beqDs : List PyData → List PyData → Bool
  | [], [] => true
  | x :: xs, y :: ys => beqD x y && beqDs xs ys
  | _, _ => false
end
/-- at most n deep, no dicts, no list of endless length -/
def Dok : Nat → PyData → Prop
  | _, .none => True
  | _, .bool _ => True
  | _, .int _ => True
  | _, .str _ => True
  | n + 1, .list ds => ds.length < 2 ^ 60 ∧ ∀ x ∈ ds, Dok n x
  | n + 1, .tuple ds => ds.length < 2 ^ 60 ∧ ∀ x ∈ ds, Dok n x
  | _, _ => False
theorem beqDs_len : ∀ {xs ys : List PyData}, xs.length ≠ ys.length → beqDs xs ys = false
  | [], [], h => absurd rfl h
  | [], _ :: _, _ => by simp [beqDs]
  | _ :: _, [], _ => by simp [beqDs]
  | x :: xs, y :: ys, h => by
    have : beqDs xs ys = false := beqDs_len (by simpa using h)
    simp [beqDs, this]
theorem beqD_refl : ∀ (n : Nat) (d : PyData), Dok n d → beqD d d = true
  | _, .none, _ => by simp [beqD]
  | _, .bool _, _ => by simp [beqD]
  | _, .int _, _ => by simp [beqD]
  | _, .str _, _ => by simp [beqD]
  | n + 1, .list ds, h => by
    have h2 : ∀ x ∈ ds, Dok n x := by unfold Dok at h; exact h.2
    simp only [beqD]
    clear h
    induction ds with
    | nil => simp [beqDs]
    | cons x xs ih => simp [beqDs, beqD_refl n x (h2 x List.mem_cons_self), ih fun y hy => h2 y (List.mem_cons_of_mem _ hy)]
  | n + 1, .tuple ds, h => by
    have h2 : ∀ x ∈ ds, Dok n x := by unfold Dok at h; exact h.2
    simp only [beqD]
    clear h
    induction ds with
    | nil => simp [beqDs]
    | cons x xs ih => simp [beqDs, beqD_refl n x (h2 x List.mem_cons_self), ih fun y hy => h2 y (List.mem_cons_of_mem _ hy)]
  | 0, .list _, h => by simp [Dok] at h
  | 0, .tuple _, h => by simp [Dok] at h
  | 0, .dict _, h => by simp [Dok] at h
  | _ + 1, .dict _, h => by simp [Dok] at h
theorem beqDs_get : ∀ {xs ys : List PyData}, xs.length = ys.length → (beqDs xs ys = true ↔ ∀ (i : Nat) x y, xs[i]? = some x → ys[i]? = some y → beqD x y = true)
  | [], [], _ => by simp [beqDs]
  | [], _ :: _, h => by simp at h
  | _ :: _, [], h => by simp at h
  | x :: xs, y :: ys, h => by
    have ih := beqDs_get (xs := xs) (ys := ys) (by simpa using h)
    simp only [beqDs, Bool.and_eq_true, ih]
    constructor
    · rintro ⟨h1, h2⟩ i a b ha hb
      cases i with
      | zero =>
        have e1 := Option.some.inj ha
        have e2 := Option.some.inj hb
        subst e1 e2
        exact h1
      | succ i => exact h2 i a b ha hb
    · intro h
      exact ⟨h 0 x y rfl rfl, fun i a b ha hb => h (i + 1) a b ha hb⟩
theorem dok_int (n : Nat) (i : Int) : Dok n (.int i) := by cases n <;> simp [Dok]
theorem dok_bool (n : Nat) (i : Bool) : Dok n (.bool i) := by cases n <;> simp [Dok]
theorem dok_str (n : Nat) (i : Str) : Dok n (.str i) := by cases n <;> simp [Dok]
theorem dok_none (n : Nat) : Dok n .none := by cases n <;> simp [Dok]
theorem dok_list {n : Nat} {ds : List PyData} (h0 : ds.length < 2 ^ 60) (h : ∀ x ∈ ds, Dok n x) : Dok (n + 1) (.list ds) := by unfold Dok; exact ⟨h0, h⟩
theorem dok_tup {n : Nat} {ds : List PyData} (h0 : ds.length < 2 ^ 60) (h : ∀ x ∈ ds, Dok n x) : Dok (n + 1) (.tuple ds) := by unfold Dok; exact ⟨h0, h⟩
theorem dok_eL {α : Type} {f : α → PyData} {n : Nat} {xs : List α} (h0 : xs.length < 2 ^ 60) (h : ∀ x ∈ xs, Dok n (f x)) : Dok (n + 1) (eL f xs) :=
  dok_list (by rw [List.length_map]; exact h0) fun d hd => by
    obtain ⟨a, ha, rfl⟩ := List.mem_map.mp hd
    exact h a ha
theorem dok_ints {n : Nat} {xs : List Int} (h0 : xs.length < 2 ^ 60) : Dok (n + 1) (eL .int xs) := dok_eL h0 fun x _ => dok_int n x
end Dc
namespace K09
open PySem PySem.Spec PyProof.Rows L2 Dc
open Evl (Ex)
def topS (i : Nat) : Stmt := PySem.Challenge.pw_barebough_k09_raider_step.main.body.getD i (.Pass ⟨0, 0, 0, 0⟩)
section
variable {P : Program} {w : World} {K : PySem.W.Frag} {mg : Str → Option Value} {base : Heap}
abbrev s_counted_bounds : Stmt := topS 1
theorem sc_counted_bounds : FnScope ["row", "most", "bound"] ["row"] (defScope s_counted_bounds) := ⟨rfl, rfl, rfl, by decide +kernel, rfl, by decide +kernel, by decide +kernel⟩
def m_counted_bounds (row_1 : (List Int)) : Option (List Int) :=
  bd (some ((row_1).length : Int)) fun most_2 =>
  bd (cmP (fun bound_3 => some (some (if most_2 < bound_3 then most_2 else bound_3))) row_1) fun l_6 =>
  bd (gd (l_6.length ≤ sizeLine)) fun g_7 =>
  bd (gd ((l_6).length + ([most_2]).length ≤ sizeLine)) fun g_8 =>
  some (l_6 ++ [most_2])
def sp_counted_bounds (K : PySem.W.Frag) : Sp := fun vs H Q _ => ∃ (row_1 : (List Int)), ∃ r, m_counted_bounds row_1 = some r ∧ DdAll K H vs [((eL PyData.int) row_1)] ∧ ∀ v H2, Ex H H2 → Dd K (mn H2 H) v ((eL PyData.int) r) → Q v H2
theorem ok_counted_bounds {f_counted_bounds : Addr} {fd_counted_bounds : FuncData} (F : FnP K "counted_bounds" s_counted_bounds f_counted_bounds fd_counted_bounds) (z_len : mg "len" = none) (z_min : mg "min" = none) : FnOk P w K mg base CX0 1 f_counted_bounds fd_counted_bounds ["row"] (sp_counted_bounds K) := by
  refine F.ok sc_counted_bounds (fun vs H Q E h => ?_) (fun cdv A outer s H0 vs Q E hr h => ?_)
  · obtain ⟨_, _, _, f, _⟩ := h; exact f.length
  · obtain ⟨row_1, r, h, f, q⟩ := h
    obtain ⟨v_row_1, vs0, A_row_1, f0, e_0⟩ := dd_cons f; subst e_0
    obtain rfl := dd_nil f0
    unfold m_counted_bounds at h
    refine ⟨_, PSs.nox (pss_cons (ps_set (i := 1) sc_counted_bounds.nd rfl (Or.inr rfl) (pe_callB (r := rLen1 K) call_len (by rfl) z_len PySem.boot_len (pa_cons (pv 0) pa_nil))) (pss_cons (ps_ret (pe_op op_cat (pe_lc (own := [("bound", 2)]) (g := gName 2) (tt := tYes) rfl sc_counted_bounds.nd (pi_list (pv 0)) (blkOk_by (N := ["row", "most", "bound"]) (sc := (defScope s_counted_bounds)) (by decide +kernel)) (fun _ _ _ _ _ => pg_name (i := 2) sc_counted_bounds.nd rfl (Or.inl rfl)) (fun _ _ _ _ _ => pts_nil) (fun _ _ _ _ _ => (pe_callB (call_min2 rfl) (by rfl) z_min (by decide +kernel) (pa_cons (pv 2) (pa_cons (pv 1) pa_nil))))) (pe_lst (pa_cons (pv 1) pa_nil)))) pss_nil)), ?_⟩
    have R : Rg K H0 [] [] H0 := .init
    refine st_go (σ' := [some v_row_1, none, none]) rfl ?_
    obtain ⟨most_2, h_most_2, h⟩ := bd_some h
    have h_most_2 := Option.some.inj h_most_2
    refine st_asgI R (ev_eqn (ev_len (f := PyData.int) (xs := row_1) (ga_arg R rfl A_row_1)) h_most_2) (σ' := [some v_row_1, some (V.int most_2), none]) rfl fun H1 R => ?_
    obtain ⟨l_6, h_l_6, h⟩ := bd_some h
    obtain ⟨g_7, h_g_7, h⟩ := bd_some h
    obtain ⟨g_8, h_g_8, h⟩ := bd_some h
    have h_ := Option.some.inj h
    subst h_
    exact st_rt R (gl_gn R (gn_catT (f := PyData.int) (xs := l_6) (ys := [most_2]) (ge_gn (gn_lcV R (Evl.ev_var rfl) (A_row_1.mono R.base) (fun _ => rfl) h_l_6 (gd_some h_g_7) (f := PyData.int) (gb := PyData.int) (fun Dl_4 ds_5 i bound_3 w_bound_3 H1 R e1 hx hw o ho => by
                obtain rfl := in_int hw (A_row_1.mono R.base)
                obtain rfl := Option.some.inj ho
                exact ⟨et_yes, fun y hy => by obtain rfl := Option.some.inj hy; exact (gl_int (ev_min2 (Evl.ev_var rfl) (Evl.ev_var rfl)))⟩))) (ge_gn (gn_lstT (f := PyData.int) (xs := [most_2]) (glA_cons (gl_int (Evl.ev_var rfl)) glA_nil) (by simp only [List.length_cons, List.length_nil]; decide))) (gd_some h_g_8))) q rfl
abbrev s_raider_step : Stmt := topS 2
theorem sc_raider_step : FnScope ["row", "most", "stepped", "bound"] ["row"] (defScope s_raider_step) := ⟨rfl, rfl, rfl, by decide +kernel, rfl, by decide +kernel, by decide +kernel⟩
def m_raider_step (row_9 : (List Int)) : Option (List Int) :=
  bd (some ((row_9).length : Int)) fun most_10 =>
  bd (m_counted_bounds row_9) fun r_14 =>
  bd (cmP (fun bound_11 => some (some (if (decide (bound_11 < most_10)) = true then bound_11 else (most_10 + (1 : Int))))) r_14) fun l_16 =>
  bd (gd (l_16.length ≤ sizeLine)) fun g_17 =>
  bd (some l_16) fun stepped_18 =>
  bd (atI stepped_18 (0 : Int)) fun q_19 =>
  bd (setP stepped_18 (0 : Int) (if most_10 < q_19 then most_10 else q_19)) fun stepped_20 =>
  some stepped_20
def sp_raider_step (K : PySem.W.Frag) : Sp := fun vs H Q _ => ∃ (row_9 : (List Int)), ∃ r, m_raider_step row_9 = some r ∧ DdAll K H vs [((eL PyData.int) row_9)] ∧ ∀ v H2, Ex H H2 → Dd K (mn H2 H) v ((eL PyData.int) r) → Q v H2
theorem ok_raider_step {f_raider_step : Addr} {fd_raider_step : FuncData} (F : FnP K "raider_step" s_raider_step f_raider_step fd_raider_step) {f_counted_bounds : Addr} {fd_counted_bounds : FuncData} (F_counted_bounds : FnP K "counted_bounds" s_counted_bounds f_counted_bounds fd_counted_bounds) (G_counted_bounds : FnOk P w K mg base CX0 1 f_counted_bounds fd_counted_bounds ["row"] (sp_counted_bounds K)) (g_counted_bounds : mg "counted_bounds" = some (.ref f_counted_bounds)) (b_counted_bounds : Binds K fd_counted_bounds ["row"] []) (z_len : mg "len" = none) (z_min : mg "min" = none) : FnOk P w K mg base CX0 2 f_raider_step fd_raider_step ["row"] (sp_raider_step K) := by
  refine F.ok sc_raider_step (fun vs H Q E h => ?_) (fun cdv A outer s H0 vs Q E hr h => ?_)
  · obtain ⟨_, _, _, f, _⟩ := h; exact f.length
  · obtain ⟨row_9, r, h, f, q⟩ := h
    obtain ⟨v_row_9, vs0, A_row_9, f0, e_0⟩ := dd_cons f; subst e_0
    obtain rfl := dd_nil f0
    unfold m_raider_step at h
    refine ⟨_, PSs.nox (pss_cons (ps_set (i := 1) sc_raider_step.nd rfl (Or.inr rfl) (pe_callB (r := rLen1 K) call_len (by rfl) z_len PySem.boot_len (pa_cons (pv 0) pa_nil))) (pss_cons (ps_setLc (i := 2) (own := [("bound", 3)]) (g := gName 3) (tt := tYes) rfl sc_raider_step.nd rfl rfl (sw_true rfl rfl rfl (by decide +kernel)) (pi_list (pe_call G_counted_bounds (hr.mono (by omega)) (by rfl) g_counted_bounds F_counted_bounds.kp b_counted_bounds .nil pass0 (pa_cons (pv 0) pa_nil))) (blkOk_by (N := ["row", "most", "stepped", "bound"]) (sc := (defScope s_raider_step)) (by decide +kernel)) (fun _ _ _ _ _ => pg_name (i := 3) sc_raider_step.nd rfl (Or.inl rfl)) (fun _ _ _ _ _ => pts_nil) (fun _ _ _ _ _ => (pe_ifExp (pt_cmpR op_lt (pv 3) (pv 1) (nomark _)) (pv 3) (pe_op op_add (pv 1) pe_int)))) (pss_cons (ps_asg (pe_callB (call_min2 rfl) (by rfl) z_min (by decide +kernel) (pa_cons (pe_ix (r := rIxL K) ix_list (pv 2) pe_int (fun _ _ => rfl)) (pa_cons (pv 1) pa_nil))) (pg_sub (pv 2) pe_int set_list)) (pss_cons (ps_ret (pv 2)) pss_nil)))), ?_⟩
    have R : Rg K H0 [] [] H0 := .init
    refine st_go (σ' := [some v_row_9, none, none, none]) rfl ?_
    obtain ⟨most_10, h_most_10, h⟩ := bd_some h
    have h_most_10 := Option.some.inj h_most_10
    refine st_asgI R (ev_eqn (ev_len (f := PyData.int) (xs := row_9) (ga_arg R rfl A_row_9)) h_most_10) (σ' := [some v_row_9, some (V.int most_10), none, none]) rfl fun H1 R => ?_
    obtain ⟨r_14, h_r_14, h⟩ := bd_some h
    obtain ⟨l_16, h_l_16, h⟩ := bd_some h
    obtain ⟨g_17, h_g_17, h⟩ := bd_some h
    obtain ⟨stepped_18, h_stepped_18, h⟩ := bd_some h
    have h_stepped_18 := Option.some.inj h_stepped_18
    refine st_asgO' R (gn_eqn (gn_lcG R (gl_gv R (gv_call (gaA_cons (ga_arg R rfl A_row_9) gaA_nil) fun _ _ _ _ f q => ⟨_, _, h_r_14, f, q⟩)) (fun _ => rfl) h_l_16 (gd_some h_g_17) (f := PyData.int) (gb := PyData.int) (fun v_15 Dl_12 ds_13 i bound_11 w_bound_11 H1 R e1 hx hw o ho => by
                obtain rfl := in_int hw (R.atH 0 rfl)
                obtain rfl := Option.some.inj ho
                exact ⟨et_yes, fun y hy => by obtain rfl := Option.some.inj hy; exact (gl_int (ev_ife (Evl.et_test (ev_I0 (Evl.ev_var rfl) (Evl.ev_var rfl))) (fun hc => (Evl.ev_var rfl)) (fun hc => (ev_I0 (Evl.ev_var rfl) Evl.ev_c))))⟩)) h_stepped_18) fun p_stepped_18 H1 R => (st_go (σ' := [some v_row_9, some (V.int most_10), some (V.ref p_stepped_18), none]) rfl ?_)
    obtain ⟨q_19, h_q_19, h⟩ := bd_some h
    obtain ⟨stepped_20, h_stepped_20, h⟩ := bd_some h
    refine st_setT R rfl (j := 0) rfl (gl_int (ev_min2 (ev_int (ga_ix (f := PyData.int) (xs := stepped_18) (ga_own R rfl 0 rfl) Evl.ev_c h_q_19)) (Evl.ev_var rfl))) Evl.ev_c h_stepped_20 (os' := [(p_stepped_18, (List.map PyData.int stepped_20))]) rfl fun H1 R => ?_
    have R := R.rel (i := 0) (os' := []) rfl rfl
    have h_ := Option.some.inj h
    subst h_
    exact st_rt R (gl_loc R rfl 0 rfl) q rfl
abbrev s__law_cell : Stmt := topS 4
theorem sc__law_cell : FnScope ["_law_script", "_law_k"] ["_law_script", "_law_k"] (defScope s__law_cell) := ⟨rfl, rfl, rfl, by decide +kernel, rfl, by decide +kernel, by decide +kernel⟩
def m_law_cell (script_21 : (List Int)) (k_22 : Int) : Option Int :=
  if (decide (k_22 < ((script_21).length : Int))) = true then
  (bd (atI script_21 k_22) fun q_23 =>
  some (if q_23 < 0 then -q_23 else q_23))
  else
  (some (0 : Int))
def sp__law_cell (K : PySem.W.Frag) : Sp := fun vs H Q _ => ∃ (script_21 : (List Int)), ∃ (k_22 : Int), ∃ r, m_law_cell script_21 k_22 = some r ∧ DdAll K H vs [(eS script_21), (PyData.int k_22)] ∧ ∀ v H2, Ex H H2 → Dd K (mn H2 H) v (PyData.int r) → Q v H2
theorem ok__law_cell {f__law_cell : Addr} {fd__law_cell : FuncData} (F : FnP K "_law_cell" s__law_cell f__law_cell fd__law_cell) (z_abs : mg "abs" = none) (z_int : mg "int" = none) (z_len : mg "len" = none) : FnOk P w K mg base CX0 1 f__law_cell fd__law_cell ["_law_script", "_law_k"] (sp__law_cell K) := by
  refine F.ok sc__law_cell (fun vs H Q E h => ?_) (fun cdv A outer s H0 vs Q E hr h => ?_)
  · obtain ⟨_, _, _, _, f, _⟩ := h; exact f.length
  · obtain ⟨script_21, k_22, r, h, f, q⟩ := h
    obtain ⟨v_script_21, vs0, A_script_21, f0, e_0⟩ := dd_cons f; subst e_0
    obtain ⟨v_k_22, vs1, A_k_22, f1, e_1⟩ := dd_cons f0; subst e_1
    obtain rfl := dd_nil f1
    obtain rfl := dd_int A_k_22
    unfold m_law_cell at h
    refine ⟨_, PSs.nox (pss_cons (ps_if (pt_cmpR op_lt (pv 1) (pe_callB (r := rLen1 K) call_len (by rfl) z_len PySem.boot_len (pa_cons (pv 0) pa_nil)) (nomark _)) (pss_cons (ps_ret (pe_callB call_abs (by rfl) z_abs (by decide +kernel) (pa_cons (pe_callTy call_int1 (by rfl) z_int (by decide +kernel) (pa_cons (pe_ix (r := rIxL K) ix_list (pv 0) (pv 1) (fun _ _ => rfl)) pa_nil)) pa_nil))) pss_nil) pss_nil) (pss_cons (ps_ret pe_int) pss_nil)), ?_⟩
    have R : Rg K H0 [] [] H0 := .init
    refine st_go (σ' := [some v_script_21, some (V.int k_22)]) rfl ?_
    refine st_if R (Evl.et_test (ev_I0 (Evl.ev_var rfl) (ev_lenScr (ga_arg R rfl A_script_21)))) (fun hc H1 R => ?_) (fun hc H1 R => ?_)
    · rw [ite_t hc] at h
      obtain ⟨q_23, h_q_23, h⟩ := bd_some h
      have h_ := Option.some.inj h
      subst h_
      exact st_rt R (gl_int (ev_abs (ev_int1 (ev_ixS (ga_arg R rfl A_script_21) (Evl.ev_var rfl) h_q_23)))) q rfl
    · rw [ite_f hc] at h
      repeat with_reducible refine st_fall1 ?_
      with_reducible refine st_fall2 ?_
      have h_ := Option.some.inj h
      subst h_
      exact st_rt R (gl_int Evl.ev_c) q rfl
abbrev s__law_mixed : Stmt := topS 5
theorem sc__law_mixed : FnScope ["_law_cell_here", "_law_k", "_law_size", "_law_mixed_here"] ["_law_cell_here", "_law_k", "_law_size"] (defScope s__law_mixed) := ⟨rfl, rfl, rfl, by decide +kernel, rfl, by decide +kernel, by decide +kernel⟩
def m_law_mixed (cellhere_24 : Int) (k_25 : Int) (size_26 : Int) : Option Int :=
  bd (some (((cellhere_24 + ((7919 : Int) * k_25)) + (13 : Int)) % (2147483647 : Int))) fun mixedhere_27 =>
  bd (gd (CMul mixedhere_27 (mixedhere_27 + (48271 : Int)))) fun g_28 =>
  bd (some ((mixedhere_27 * (mixedhere_27 + (48271 : Int))) % (2147483629 : Int))) fun mixedhere_29 =>
  bd (gd (CMul mixedhere_29 (mixedhere_29 + (69621 : Int)))) fun g_30 =>
  bd (some (((mixedhere_29 * (mixedhere_29 + (69621 : Int))) + ((31 : Int) * k_25)) % (2147483647 : Int))) fun mixedhere_31 =>
  bd (gd (size_26 ≠ 0)) fun g_32 =>
  some (Int.fmod (mixedhere_31 / (9 : Int)) size_26)
def sp__law_mixed (K : PySem.W.Frag) : Sp := fun vs H Q _ => ∃ (cellhere_24 : Int), ∃ (k_25 : Int), ∃ (size_26 : Int), ∃ r, m_law_mixed cellhere_24 k_25 size_26 = some r ∧ DdAll K H vs [(PyData.int cellhere_24), (PyData.int k_25), (PyData.int size_26)] ∧ ∀ v H2, Ex H H2 → Dd K (mn H2 H) v (PyData.int r) → Q v H2
theorem ok__law_mixed {f__law_mixed : Addr} {fd__law_mixed : FuncData} (F : FnP K "_law_mixed" s__law_mixed f__law_mixed fd__law_mixed) (z_int : mg "int" = none) : FnOk P w K mg base CX0 1 f__law_mixed fd__law_mixed ["_law_cell_here", "_law_k", "_law_size"] (sp__law_mixed K) := by
  refine F.ok sc__law_mixed (fun vs H Q E h => ?_) (fun cdv A outer s H0 vs Q E hr h => ?_)
  · obtain ⟨_, _, _, _, _, f, _⟩ := h; exact f.length
  · obtain ⟨cellhere_24, k_25, size_26, r, h, f, q⟩ := h
    obtain ⟨v_cellhere_24, vs0, A_cellhere_24, f0, e_0⟩ := dd_cons f; subst e_0
    obtain ⟨v_k_25, vs1, A_k_25, f1, e_1⟩ := dd_cons f0; subst e_1
    obtain ⟨v_size_26, vs2, A_size_26, f2, e_2⟩ := dd_cons f1; subst e_2
    obtain rfl := dd_nil f2
    obtain rfl := dd_int A_cellhere_24
    obtain rfl := dd_int A_k_25
    obtain rfl := dd_int A_size_26
    unfold m_law_mixed at h
    refine ⟨_, PSs.nox (pss_cons (ps_set (i := 3) sc__law_mixed.nd rfl (Or.inl rfl) (pe_op op_mod (pe_callTy call_int1 (by rfl) z_int (by decide +kernel) (pa_cons (pe_op op_add (pe_op op_add (pv 0) (pe_op op_mul pe_int (pv 1))) pe_int) pa_nil)) pe_int)) (pss_cons (ps_set (i := 3) sc__law_mixed.nd rfl (Or.inl rfl) (pe_op op_mod (pe_callTy call_int1 (by rfl) z_int (by decide +kernel) (pa_cons (pe_op op_mul (pv 3) (pe_op op_add (pv 3) pe_int)) pa_nil)) pe_int)) (pss_cons (ps_set (i := 3) sc__law_mixed.nd rfl (Or.inl rfl) (pe_op op_mod (pe_callTy call_int1 (by rfl) z_int (by decide +kernel) (pa_cons (pe_op op_add (pe_op op_mul (pv 3) (pe_op op_add (pv 3) pe_int)) (pe_op op_mul pe_int (pv 1))) pa_nil)) pe_int)) (pss_cons (ps_ret (pe_op op_modN (pe_callTy call_int1 (by rfl) z_int (by decide +kernel) (pa_cons (pe_op op_fdiv (pv 3) pe_int) pa_nil)) (pv 2))) pss_nil)))), ?_⟩
    have R : Rg K H0 [] [] H0 := .init
    refine st_go (σ' := [some (V.int cellhere_24), some (V.int k_25), some (V.int size_26), none]) rfl ?_
    obtain ⟨mixedhere_27, h_mixedhere_27, h⟩ := bd_some h
    have h_mixedhere_27 := Option.some.inj h_mixedhere_27
    refine st_asgI R (ev_eqn (ev_I (ev_int1 (ev_I0 (ev_I0 (Evl.ev_var rfl) (ev_I Evl.ev_c (Evl.ev_var rfl) (.inl ⟨by decide, by decide⟩))) Evl.ev_c)) Evl.ev_c (by decide)) h_mixedhere_27) (σ' := [some (V.int cellhere_24), some (V.int k_25), some (V.int size_26), some (V.int mixedhere_27)]) rfl fun H1 R => ?_
    obtain ⟨g_28, h_g_28, h⟩ := bd_some h
    obtain ⟨mixedhere_29, h_mixedhere_29, h⟩ := bd_some h
    have h_mixedhere_29 := Option.some.inj h_mixedhere_29
    refine st_asgI R (ev_eqn (ev_I (ev_int1 (ev_I (Evl.ev_var rfl) (ev_I0 (Evl.ev_var rfl) Evl.ev_c) (gd_some h_g_28))) Evl.ev_c (by decide)) h_mixedhere_29) (σ' := [some (V.int cellhere_24), some (V.int k_25), some (V.int size_26), some (V.int mixedhere_29)]) rfl fun H1 R => ?_
    obtain ⟨g_30, h_g_30, h⟩ := bd_some h
    obtain ⟨mixedhere_31, h_mixedhere_31, h⟩ := bd_some h
    have h_mixedhere_31 := Option.some.inj h_mixedhere_31
    refine st_asgI R (ev_eqn (ev_I (ev_int1 (ev_I0 (ev_I (Evl.ev_var rfl) (ev_I0 (Evl.ev_var rfl) Evl.ev_c) (gd_some h_g_30)) (ev_I Evl.ev_c (Evl.ev_var rfl) (.inl ⟨by decide, by decide⟩)))) Evl.ev_c (by decide)) h_mixedhere_31) (σ' := [some (V.int cellhere_24), some (V.int k_25), some (V.int size_26), some (V.int mixedhere_31)]) rfl fun H1 R => ?_
    obtain ⟨g_32, h_g_32, h⟩ := bd_some h
    have h_ := Option.some.inj h
    subst h_
    exact st_rt R (gl_int (ev_I (C := fun _ j => j ≠ 0) (ev_int1 (ev_I (Evl.ev_var rfl) Evl.ev_c ⟨by decide, by decide⟩)) (Evl.ev_var rfl) (gd_some h_g_32))) q rfl
abbrev s__law_draws : Stmt := topS 6
theorem sc__law_draws : FnScope ["_law_cell_here", "_law_menu", "_law_found", "_law_rest", "_law_k"] ["_law_cell_here", "_law_menu"] (defScope s__law_draws) := ⟨rfl, rfl, rfl, by decide +kernel, rfl, by decide +kernel, by decide +kernel⟩
def m_law_draws_l1 (cellhere_33 : Int) (menu_34 : (List Int)) (s_ : ((List Int) × Int)) (x_ : Int) : Option ((List Int) × Int) :=
  match s_, x_ with
  | (found_44, rest_45), k_38 =>
    if ((decide ((1000000000000000000 : Int) ≤ cellhere_33)) && (decide ((0 : Int) < rest_45))) = true then
    (bd (atI menu_34 k_38) fun q_47 =>
    bd (gd (q_47 ≠ 0)) fun g_48 =>
    bd (gd ((found_44).length < sizeLine)) fun g_49 =>
    bd (some (found_44 ++ [(Int.fmod rest_45 q_47)])) fun found_46 =>
    bd (atI menu_34 k_38) fun q_50 =>
    bd (gd (CDivN rest_45 q_50)) fun g_51 =>
    bd (some (Int.fdiv rest_45 q_50)) fun rest_52 =>
    some (found_46, rest_52))
    else
    (bd (atI menu_34 k_38) fun q_54 =>
    bd (m_law_mixed cellhere_33 k_38 q_54) fun r_55 =>
    bd (gd ((found_44).length < sizeLine)) fun g_56 =>
    bd (some (found_44 ++ [r_55])) fun found_53 =>
    some (found_53, rest_45))
def m_law_draws (cellhere_33 : Int) (menu_34 : (List Int)) : Option (List Int) :=
  bd (some []) fun found_35 =>
  bd (some cellhere_33) fun rest_36 =>
  bd (gd (-(2 ^ 62) ≤ ((menu_34).length : Int) ∧ ((menu_34).length : Int) < 2 ^ 62)) fun g_37 =>
  bd (forP (m_law_draws_l1 cellhere_33 menu_34) (rng 0 ((menu_34).length : Int)) (found_35, rest_36)) fun (found_44, rest_45) =>
  some found_44
def sp__law_draws (K : PySem.W.Frag) : Sp := fun vs H Q _ => ∃ (cellhere_33 : Int), ∃ (menu_34 : (List Int)), ∃ r, m_law_draws cellhere_33 menu_34 = some r ∧ DdAll K H vs [(PyData.int cellhere_33), ((eL PyData.int) menu_34)] ∧ ∀ v H2, Ex H H2 → Dd K (mn H2 H) v ((eL PyData.int) r) → Q v H2
theorem ok__law_draws {f__law_draws : Addr} {fd__law_draws : FuncData} (F : FnP K "_law_draws" s__law_draws f__law_draws fd__law_draws) {f__law_mixed : Addr} {fd__law_mixed : FuncData} (F__law_mixed : FnP K "_law_mixed" s__law_mixed f__law_mixed fd__law_mixed) (G__law_mixed : FnOk P w K mg base CX0 1 f__law_mixed fd__law_mixed ["_law_cell_here", "_law_k", "_law_size"] (sp__law_mixed K)) (g__law_mixed : mg "_law_mixed" = some (.ref f__law_mixed)) (b__law_mixed : Binds K fd__law_mixed ["_law_cell_here", "_law_k", "_law_size"] []) (z_int : mg "int" = none) (z_len : mg "len" = none) (z_range : mg "range" = none) : FnOk P w K mg base CX0 2 f__law_draws fd__law_draws ["_law_cell_here", "_law_menu"] (sp__law_draws K) := by
  refine F.ok sc__law_draws (fun vs H Q E h => ?_) (fun cdv A outer s H0 vs Q E hr h => ?_)
  · obtain ⟨_, _, _, _, f, _⟩ := h; exact f.length
  · obtain ⟨cellhere_33, menu_34, r, h, f, q⟩ := h
    obtain ⟨v_cellhere_33, vs0, A_cellhere_33, f0, e_0⟩ := dd_cons f; subst e_0
    obtain ⟨v_menu_34, vs1, A_menu_34, f1, e_1⟩ := dd_cons f0; subst e_1
    obtain rfl := dd_nil f1
    obtain rfl := dd_int A_cellhere_33
    unfold m_law_draws at h
    refine ⟨_, PSs.nox (pss_cons (ps_set (i := 2) sc__law_draws.nd rfl (Or.inl rfl) (pe_lst pa_nil)) (pss_cons (ps_set (i := 3) sc__law_draws.nd rfl (Or.inl rfl) (pv 0)) (pss_cons (ps_for PassesOwn.never rfl (pi_range1 (by rfl) z_range (pa_cons (pe_callB (r := rLen1 K) call_len (by rfl) z_len PySem.boot_len (pa_cons (pv 1) pa_nil)) pa_nil)) (pg_name (i := 4) sc__law_draws.nd rfl (Or.inl rfl)) (pss_cons (ps_if (PW.pt (pw_and (pt_cmpR op_ge (pv 0) (pe_op op_pow pe_int pe_int) (nomark _)) (pw_and1 (pt_cmpR op_gt (pv 3) pe_int (nomark _))))) (pss_cons (ps_expr (pe_bm PySem.F.plainAttrs_list PySem.F.slot_list_append PySem.F.type_list_append mt_append (pv 2) (pa_cons (pe_op op_modN (pe_callTy call_int1 (by rfl) z_int (by decide +kernel) (pa_cons (pv 3) pa_nil)) (pe_ix (r := rIxL K) ix_list (pv 1) (pv 4) (fun _ _ => rfl))) pa_nil))) (pss_cons (ps_set (i := 3) sc__law_draws.nd rfl (Or.inl rfl) (pe_op op_fdivN (pv 3) (pe_ix (r := rIxL K) ix_list (pv 1) (pv 4) (fun _ _ => rfl)))) pss_nil)) (pss_cons (ps_expr (pe_bm PySem.F.plainAttrs_list PySem.F.slot_list_append PySem.F.type_list_append mt_append (pv 2) (pa_cons (pe_call G__law_mixed (hr.mono (by omega)) (by rfl) g__law_mixed F__law_mixed.kp b__law_mixed .nil pass0 (pa_cons (pv 0) (pa_cons (pv 4) (pa_cons (pe_ix (r := rIxL K) ix_list (pv 1) (pv 4) (fun _ _ => rfl)) pa_nil)))) pa_nil))) pss_nil)) pss_nil)) (pss_cons (ps_ret (pv 2)) pss_nil)))), ?_⟩
    have R : Rg K H0 [] [] H0 := .init
    refine st_go (σ' := [some (V.int cellhere_33), some v_menu_34, none, none, none]) rfl ?_
    obtain ⟨found_35, h_found_35, h⟩ := bd_some h
    have h_found_35 := Option.some.inj h_found_35
    refine st_asgO' R (gn_eqn (gn_lstT (f := PyData.int) (xs := ([] : List Int)) glA_nil (Nat.zero_le _)) h_found_35) fun p_found_35 H1 R => (st_go (σ' := [some (V.int cellhere_33), some v_menu_34, some (V.ref p_found_35), none, none]) rfl ?_)
    obtain ⟨rest_36, h_rest_36, h⟩ := bd_some h
    have h_rest_36 := Option.some.inj h_rest_36
    refine st_asgI R (ev_eqn (Evl.ev_var rfl) h_rest_36) (σ' := [some (V.int cellhere_33), some v_menu_34, some (V.ref p_found_35), some (V.int rest_36), none]) rfl fun H1 R => ?_
    obtain ⟨g_37, h_g_37, h⟩ := bd_some h
    obtain ⟨⟨found_44o, rest_45o⟩, hl_39, h⟩ := bd_some h
    try dsimp only at h
    refine st_rng1 R (ev_len (f := PyData.int) (xs := menu_34) (ga_arg R rfl A_menu_34)) (gd_some h_g_37) (fun i σ' H' => ∃ (found_44 : (List Int)), ∃ (rest_45 : Int), ∃ (y_4 : Option V), forP (m_law_draws_l1 cellhere_33 menu_34) (List.drop i (rng 0 ((menu_34).length : Int))) ⟨found_44, rest_45⟩ = some (found_44o, rest_45o) ∧ σ' = [some (V.int cellhere_33), some v_menu_34, some (V.ref p_found_35), some (V.int rest_45), y_4] ∧ Rg K H0 [] [(p_found_35, (List.map PyData.int found_44))] H') (fun H1 R => ⟨_, _, _, hl_39, rfl, (R.pick trivial)⟩) (fun i k_38 σ' H' hx hM => ?_) (fun σ' H' hM => ?_)
    · obtain ⟨found_44, rest_45, y_4, hl_39, rfl, R⟩ := hM
      obtain ⟨s1, h, hl_39⟩ := forP_step hx hl_39
      unfold m_law_draws_l1 at h
      try dsimp only at h
      refine st_go (σ' := [some (V.int cellhere_33), some v_menu_34, some (V.ref p_found_35), some (V.int rest_45), some (V.int k_38)]) rfl ?_
      refine st_if R (Evl.et_and (Evl.et_test (ev_I0 (Evl.ev_var rfl) (ev_eqn (ev_I Evl.ev_c Evl.ev_c ⟨by decide, by decide, by decide⟩) (show (10 : Int) ^ ((18 : Int).toNat) = 1000000000000000000 by decide)))) fun _ => (Evl.et_test (ev_I0 (Evl.ev_var rfl) Evl.ev_c))) (fun hc H1 R => ?_) (fun hc H1 R => ?_)
      · rw [ite_t hc] at h
        obtain ⟨q_47, h_q_47, h⟩ := bd_some h
        obtain ⟨g_48, h_g_48, h⟩ := bd_some h
        obtain ⟨g_49, h_g_49, h⟩ := bd_some h
        obtain ⟨found_46, h_found_46, h⟩ := bd_some h
        have h_found_46 := Option.some.inj h_found_46
        refine st_appT R rfl (j := 0) rfl (gl_int (ev_I (C := fun _ j => j ≠ 0) (ev_int1 (Evl.ev_var rfl)) (ev_int (ga_ix (f := PyData.int) (xs := menu_34) (ga_arg R rfl A_menu_34) (Evl.ev_var rfl) h_q_47)) (gd_some h_g_48))) (gd_some h_g_49) h_found_46 (os' := [(p_found_35, (List.map PyData.int found_46))]) rfl fun H1 R => ?_
        obtain ⟨q_50, h_q_50, h⟩ := bd_some h
        obtain ⟨g_51, h_g_51, h⟩ := bd_some h
        obtain ⟨rest_52, h_rest_52, h⟩ := bd_some h
        have h_rest_52 := Option.some.inj h_rest_52
        refine st_asgI R (ev_eqn (ev_I (Evl.ev_var rfl) (ev_int (ga_ix (f := PyData.int) (xs := menu_34) (ga_arg R rfl A_menu_34) (Evl.ev_var rfl) h_q_50)) (gd_some h_g_51)) h_rest_52) (σ' := [some (V.int cellhere_33), some v_menu_34, some (V.ref p_found_35), some (V.int rest_52), some (V.int k_38)]) rfl fun H1 R => ?_
        cases h
        repeat with_reducible refine st_fall1 ?_
        exact ⟨_, _, _, hl_39, rfl, (R.pick trivial)⟩
      · rw [ite_f hc] at h
        obtain ⟨q_54, h_q_54, h⟩ := bd_some h
        obtain ⟨r_55, h_r_55, h⟩ := bd_some h
        obtain ⟨g_56, h_g_56, h⟩ := bd_some h
        obtain ⟨found_53, h_found_53, h⟩ := bd_some h
        have h_found_53 := Option.some.inj h_found_53
        refine st_appT R rfl (j := 0) rfl (gl_int (ev_int (ga_gv (gv_call (gaA_cons (ga_int (Evl.ev_var rfl)) (gaA_cons (ga_int (Evl.ev_var rfl)) (gaA_cons (ga_int (ev_int (ga_ix (f := PyData.int) (xs := menu_34) (ga_arg R rfl A_menu_34) (Evl.ev_var rfl) h_q_54))) gaA_nil))) fun _ _ _ _ f q => ⟨_, _, _, _, h_r_55, f, q⟩)))) (gd_some h_g_56) h_found_53 (os' := [(p_found_35, (List.map PyData.int found_53))]) rfl fun H1 R => ?_
        cases h
        repeat with_reducible refine st_fall1 ?_
        exact ⟨_, _, _, hl_39, rfl, (R.pick trivial)⟩
    · obtain ⟨found_44, rest_45, y_4, hl_39, rfl, R⟩ := hM
      have e_0 := forP_end rfl hl_39
      obtain ⟨x_0, e_1⟩ := Prod.mk.inj e_0
      subst x_0
      subst e_1
      have R := R.rel (i := 0) (os' := []) rfl rfl
      have h_ := Option.some.inj h
      subst h_
      exact st_rt R (gl_loc R rfl 0 rfl) q rfl
abbrev s__law_like : Stmt := topS 7
theorem sc__law_like : FnScope ["_law_actual", "_law_due", "_law_k"] ["_law_actual", "_law_due"] (defScope s__law_like) := ⟨rfl, rfl, rfl, by decide +kernel, rfl, by decide +kernel, by decide +kernel⟩
def m_law_like_l1 (rec_ : PyData → PyData → Option Bool) (actual_58 : PyData) (due_59 : PyData) (s_ : Unit) (x_ : Int) : Option (Ctl Unit Bool) :=
  match s_, x_ with
  | _, k_82 =>
    bd (ixD actual_58 k_82) fun q_88 =>
    bd (ixD due_59 k_82) fun q_89 =>
    bd (rec_ q_88 q_89) fun r_90 =>
    if (!r_90) = true then
    (some (.ret false))
    else
    (some (.go ()))
def m_law_like (n_ : Nat) (actual_58 : PyData) (due_59 : PyData) : Option Bool :=
  match n_ with
  | 0 => none
  | n + 1 =>
    if (isNoneD due_59) = true then
    (some (isNoneD actual_58))
    else
    (if (isBlD true due_59) = true then
    (some (isBlD true actual_58))
    else
    (if (isBlD false due_59) = true then
    (some (isBlD false actual_58))
    else
    (bd (isStrD due_59) fun i_60 =>
    if i_60 = true then
    (bd (isStrD actual_58) fun i_61 =>
    bd (if i_61 = true then (bd (eqD actual_58 due_59) fun d_62 => some d_62) else some false) fun c_63 =>
    some c_63)
    else
    (bd (isIntD due_59) fun i_64 =>
    if i_64 = true then
    (bd (isIntD actual_58) fun i_65 =>
    bd (if i_65 = true then (bd (isBoolD actual_58) fun i_66 => (bd (if (!i_66) = true then (bd (eqD actual_58 due_59) fun d_67 => some d_67) else some false) fun c_68 => some c_68)) else some false) fun c_69 =>
    some c_69)
    else
    (bd (isListD due_59) fun i_70 =>
    bd (if i_70 = true then
    (bd (isListD actual_58) fun i_72 =>
    bd (if (!i_72) = true then some true else (bd (lenD actual_58) fun n_73 => (bd (lenD due_59) fun n_74 => some (!(decide (n_73 = n_74)))))) fun c_75 =>
    if c_75 = true then
    (some (.ret false))
    else
    (some (.go ())))
    else
    (bd (isTupD actual_58) fun i_76 =>
    bd (if (!i_76) = true then some true else (bd (lenD actual_58) fun n_77 => (bd (lenD due_59) fun n_78 => some (!(decide (n_77 = n_78)))))) fun c_79 =>
    if c_79 = true then
    (some (.ret false))
    else
    (some (.go ())))) fun o_ => ctl o_ (fun c_ => some c_) fun _ =>
    bd (lenD due_59) fun n_80 =>
    bd (gd (-(2 ^ 62) ≤ n_80 ∧ n_80 < 2 ^ 62)) fun g_81 =>
    bd (forC (m_law_like_l1 (m_law_like n) actual_58 due_59) (rng 0 n_80) ()) fun o_ => ctl o_ (fun c_ => some c_) fun _ =>
    some true)))))
def sp__law_like (K : PySem.W.Frag) (n : Nat) : Sp := fun vs H Q _ => ∃ (actual_58 : PyData), ∃ (due_59 : PyData), ∃ r, m_law_like n actual_58 due_59 = some r ∧ DdAll K H vs [actual_58, due_59] ∧ ∀ v H2, Ex H H2 → Dd K (mn H2 H) v (PyData.bool r) → Q v H2
theorem ok__law_like {f__law_like : Addr} {fd__law_like : FuncData} (F__law_like : FnP K "_law_like" s__law_like f__law_like fd__law_like) (z_bool : mg "bool" = none) (z_int : mg "int" = none) (z_isinstance : mg "isinstance" = none) (z_len : mg "len" = none) (z_list : mg "list" = none) (z_range : mg "range" = none) (z_str : mg "str" = none) (z_tuple : mg "tuple" = none) (g__law_like : mg "_law_like" = some (.ref f__law_like)) (b__law_like : Binds K fd__law_like ["_law_actual", "_law_due"] []) : ∀ n : Nat, FnOk P w K mg base CX0 (1 + n) f__law_like fd__law_like ["_law_actual", "_law_due"] (sp__law_like K n)
  | 0 => ⟨fun _ _ _ _ h => by obtain ⟨_, _, _, h, _⟩ := h; exact (nomatch (show none = some _ from h)), fun _ _ _ _ _ _ _ _ _ _ _ _ _ h => by obtain ⟨_, _, _, h, _⟩ := h; exact (nomatch (show none = some _ from h))⟩
  | n + 1 => by
    have G__law_like := ok__law_like F__law_like z_bool z_int z_isinstance z_len z_list z_range z_str z_tuple g__law_like b__law_like n
    refine F__law_like.ok sc__law_like (fun vs H Q E h => ?_) (fun cdv A outer s H0 vs Q E hr h => ?_)
    · obtain ⟨_, _, _, _, f, _⟩ := h; exact f.length
    · obtain ⟨actual_58, due_59, r, h, f, q⟩ := h
      obtain ⟨v_actual_58, vs0, A_actual_58, f0, e_0⟩ := dd_cons f; subst e_0
      obtain ⟨v_due_59, vs1, A_due_59, f1, e_1⟩ := dd_cons f0; subst e_1
      obtain rfl := dd_nil f1
      unfold m_law_like at h
      try dsimp only at h
      have hr : Room (1 + n) _ := hr
      refine ⟨_, PSs.nox (pss_cons (ps_if (pt_cmpR op_isN (pv 1) pe_non (nomark _)) (pss_cons (ps_ret (pe_cmpR op_isN (pv 0) pe_non (nomark _))) pss_nil) pss_nil) (pss_cons (ps_if (pt_cmpR op_isAnyBl (pv 1) pe_bl (nomark _)) (pss_cons (ps_ret (pe_cmpR op_isAnyBl (pv 0) pe_bl (nomark _))) pss_nil) pss_nil) (pss_cons (ps_if (pt_cmpR op_isAnyBl (pv 1) pe_bl (nomark _)) (pss_cons (ps_ret (pe_cmpR op_isAnyBl (pv 0) pe_bl (nomark _))) pss_nil) pss_nil) (pss_cons (ps_if (pt_val (pe_callB (r := rIsi K) call_isi (by rfl) z_isinstance (by decide +kernel) (pa_cons (pv 1) (pa_cons (pe_bltn (v := .ty "str") (by rfl) z_str (by decide +kernel) rfl) pa_nil)))) (pss_cons (ps_ret (pe_and (pe_callB (r := rIsi K) call_isi (by rfl) z_isinstance (by decide +kernel) (pa_cons (pv 0) (pa_cons (pe_bltn (v := .ty "str") (by rfl) z_str (by decide +kernel) rfl) pa_nil))) (pe_one (pe_cmpR op_eq (pv 0) (pv 1) (nomark _))))) pss_nil) pss_nil) (pss_cons (ps_if (pt_val (pe_callB (r := rIsi K) call_isi (by rfl) z_isinstance (by decide +kernel) (pa_cons (pv 1) (pa_cons (pe_bltn (v := .ty "int") (by rfl) z_int (by decide +kernel) rfl) pa_nil)))) (pss_cons (ps_ret (pe_and (pe_callB (r := rIsi K) call_isi (by rfl) z_isinstance (by decide +kernel) (pa_cons (pv 0) (pa_cons (pe_bltn (v := .ty "int") (by rfl) z_int (by decide +kernel) rfl) pa_nil))) (pe_and (pe_not (pe_callB (r := rIsi K) call_isi (by rfl) z_isinstance (by decide +kernel) (pa_cons (pv 0) (pa_cons (pe_bltn (v := .ty "bool") (by rfl) z_bool (by decide +kernel) rfl) pa_nil)))) (pe_one (pe_cmpR op_eq (pv 0) (pv 1) (nomark _)))))) pss_nil) pss_nil) (Evl.pss_cut (ps_if (pt_val (pe_callB (r := rIsi K) call_isi (by rfl) z_isinstance (by decide +kernel) (pa_cons (pv 1) (pa_cons (pe_bltn (v := .ty "list") (by rfl) z_list (by decide +kernel) rfl) pa_nil)))) (pss_cons (ps_if (PW.pt (pw_or (pt_not (pt_val (pe_callB (r := rIsi K) call_isi (by rfl) z_isinstance (by decide +kernel) (pa_cons (pv 0) (pa_cons (pe_bltn (v := .ty "list") (by rfl) z_list (by decide +kernel) rfl) pa_nil))))) (pw_or1 (pt_cmpR op_ne (pe_callB (r := rLen1 K) call_len (by rfl) z_len PySem.boot_len (pa_cons (pv 0) pa_nil)) (pe_callB (r := rLen1 K) call_len (by rfl) z_len PySem.boot_len (pa_cons (pv 1) pa_nil)) (nomark _))))) (pss_cons (ps_ret pe_bl) pss_nil) pss_nil) pss_nil) (pss_cons (ps_if (PW.pt (pw_or (pt_not (pt_val (pe_callB (r := rIsi K) call_isi (by rfl) z_isinstance (by decide +kernel) (pa_cons (pv 0) (pa_cons (pe_bltn (v := .ty "tuple") (by rfl) z_tuple (by decide +kernel) rfl) pa_nil))))) (pw_or1 (pt_cmpR op_ne (pe_callB (r := rLen1 K) call_len (by rfl) z_len PySem.boot_len (pa_cons (pv 0) pa_nil)) (pe_callB (r := rLen1 K) call_len (by rfl) z_len PySem.boot_len (pa_cons (pv 1) pa_nil)) (nomark _))))) (pss_cons (ps_ret pe_bl) pss_nil) pss_nil) pss_nil)) (pss_cons (ps_for PassesOwn.never rfl (pi_range1 (by rfl) z_range (pa_cons (pe_callB (r := rLen1 K) call_len (by rfl) z_len PySem.boot_len (pa_cons (pv 1) pa_nil)) pa_nil)) (pg_name (i := 2) sc__law_like.nd rfl (Or.inl rfl)) (pss_cons (ps_if (pt_not (pt_val (pe_call G__law_like (hr.mono (by omega)) (by rfl) g__law_like F__law_like.kp b__law_like .nil pass0 (pa_cons (pe_ix (r := rIx K) ix_seq (pv 0) (pv 2) (fun _ _ => rfl)) (pa_cons (pe_ix (r := rIx K) ix_seq (pv 1) (pv 2) (fun _ _ => rfl)) pa_nil))))) (pss_cons (ps_ret pe_bl) pss_nil) pss_nil) pss_nil)) (pss_cons (ps_ret pe_bl) pss_nil)))))))), ?_⟩
      have R : Rg K H0 [] [] H0 := .init
      refine st_go (σ' := [some v_actual_58, some v_due_59, none]) rfl ?_
      refine st_if R (Evl.et_test (ev_isND (ga_arg R rfl A_due_59))) (fun hc H1 R => ?_) (fun hc H1 R => ?_)
      · rw [ite_t hc] at h
        have h_ := Option.some.inj h
        subst h_
        exact st_rt R (gl_bl (ev_isND (ga_arg R rfl A_actual_58))) q rfl
      · rw [ite_f hc] at h
        repeat with_reducible refine st_fall1 ?_
        with_reducible refine st_fall2 ?_
        refine st_if R (Evl.et_test (ev_isBD (ga_arg R rfl A_due_59))) (fun hc H1 R => ?_) (fun hc H1 R => ?_)
        · rw [ite_t hc] at h
          have h_ := Option.some.inj h
          subst h_
          exact st_rt R (gl_bl (ev_isBD (ga_arg R rfl A_actual_58))) q rfl
        · rw [ite_f hc] at h
          repeat with_reducible refine st_fall1 ?_
          with_reducible refine st_fall2 ?_
          refine st_if R (Evl.et_test (ev_isBD (ga_arg R rfl A_due_59))) (fun hc H1 R => ?_) (fun hc H1 R => ?_)
          · rw [ite_t hc] at h
            have h_ := Option.some.inj h
            subst h_
            exact st_rt R (gl_bl (ev_isBD (ga_arg R rfl A_actual_58))) q rfl
          · rw [ite_f hc] at h
            repeat with_reducible refine st_fall1 ?_
            with_reducible refine st_fall2 ?_
            obtain ⟨i_60, h_i_60, h⟩ := bd_some h
            refine st_if R (et_val (ev_isi (ga_arg R rfl A_due_59) h_i_60 isi_str)) (fun hc H1 R => ?_) (fun hc H1 R => ?_)
            · rw [ite_t hc] at h
              obtain ⟨i_61, h_i_61, h⟩ := bd_some h
              obtain ⟨c_63, h_c_63, h⟩ := bd_some h
              have h_ := Option.some.inj h
              subst h_
              exact st_rt R (gl_bl (ev_andP (ev_isi (ga_arg R rfl A_actual_58) h_i_61 isi_str) h_c_63 fun hM => by obtain ⟨d_62, h_d_62, hM⟩ := bd_some hM; exact ev_eqb (ev_eqDy (ga_arg R rfl A_actual_58) (ga_arg R rfl A_due_59) h_d_62) (Option.some.inj hM))) q rfl
            · rw [ite_f hc] at h
              repeat with_reducible refine st_fall1 ?_
              with_reducible refine st_fall2 ?_
              obtain ⟨i_64, h_i_64, h⟩ := bd_some h
              refine st_if R (et_val (ev_isi (ga_arg R rfl A_due_59) h_i_64 isi_int)) (fun hc H1 R => ?_) (fun hc H1 R => ?_)
              · rw [ite_t hc] at h
                obtain ⟨i_65, h_i_65, h⟩ := bd_some h
                obtain ⟨c_69, h_c_69, h⟩ := bd_some h
                have h_ := Option.some.inj h
                subst h_
                exact st_rt R (gl_bl (ev_andP (ev_isi (ga_arg R rfl A_actual_58) h_i_65 isi_int) h_c_69 fun hM => by obtain ⟨i_66, h_i_66, hM⟩ := bd_some hM; obtain ⟨c_68, h_c_68, hM⟩ := bd_some hM; exact ev_eqb (ev_andP (Evl.ev_notV (ev_isi (ga_arg R rfl A_actual_58) h_i_66 isi_bool)) h_c_68 fun hM => by obtain ⟨d_67, h_d_67, hM⟩ := bd_some hM; exact ev_eqb (ev_eqDy (ga_arg R rfl A_actual_58) (ga_arg R rfl A_due_59) h_d_67) (Option.some.inj hM)) (Option.some.inj hM))) q rfl
              · rw [ite_f hc] at h
                repeat with_reducible refine st_fall1 ?_
                with_reducible refine st_fall2 ?_
                obtain ⟨i_70, h_i_70, h⟩ := bd_some h
                obtain ⟨o_92, hj, hO_71⟩ := bd_some h
                refine Evl.q_cut (M := fun σ' H' => o_92 = .go () ∧ σ' = [some v_actual_58, some v_due_59, none] ∧ Rg K H0 [] [] H') (st_if1 R (et_val (ev_isi (ga_arg R rfl A_due_59) h_i_70 isi_list)) (fun hc H1 R => ?_) (fun hc H1 R => ?_)) (fun σ' H' hM => ?_)
                · rw [ite_t hc] at hj
                  have h := hj
                  obtain ⟨i_72, h_i_72, h⟩ := bd_some h
                  obtain ⟨c_75, h_c_75, h⟩ := bd_some h
                  refine st_if R (et_orP (Evl.et_not (et_val (ev_isi (ga_arg R rfl A_actual_58) h_i_72 isi_list))) h_c_75 fun hM => by obtain ⟨n_73, h_n_73, hM⟩ := bd_some hM; obtain ⟨n_74, h_n_74, hM⟩ := bd_some hM; exact et_eq (Evl.et_test (ev_neI (ev_lenD (ga_arg R rfl A_actual_58) h_n_73) (ev_lenD (ga_arg R rfl A_due_59) h_n_74))) (Option.some.inj hM)) (fun hc H1 R => ?_) (fun hc H1 R => ?_)
                  · rw [ite_t hc] at h
                    cases h
                    have h : some false = some _ := hO_71
                    have h_ := Option.some.inj h
                    subst h_
                    exact st_rt R (gl_bl Evl.ev_c) q rfl
                  · rw [ite_f hc] at h
                    cases h
                    repeat with_reducible refine st_fall1 ?_
                    exact ⟨rfl, rfl, (R.pick trivial)⟩
                · rw [ite_f hc] at hj
                  have h := hj
                  obtain ⟨i_76, h_i_76, h⟩ := bd_some h
                  obtain ⟨c_79, h_c_79, h⟩ := bd_some h
                  refine st_if R (et_orP (Evl.et_not (et_val (ev_isi (ga_arg R rfl A_actual_58) h_i_76 isi_tuple))) h_c_79 fun hM => by obtain ⟨n_77, h_n_77, hM⟩ := bd_some hM; obtain ⟨n_78, h_n_78, hM⟩ := bd_some hM; exact et_eq (Evl.et_test (ev_neI (ev_lenD (ga_arg R rfl A_actual_58) h_n_77) (ev_lenD (ga_arg R rfl A_due_59) h_n_78))) (Option.some.inj hM)) (fun hc H1 R => ?_) (fun hc H1 R => ?_)
                  · rw [ite_t hc] at h
                    cases h
                    have h : some false = some _ := hO_71
                    have h_ := Option.some.inj h
                    subst h_
                    exact st_rt R (gl_bl Evl.ev_c) q rfl
                  · rw [ite_f hc] at h
                    cases h
                    repeat with_reducible refine st_fall1 ?_
                    exact ⟨rfl, rfl, (R.pick trivial)⟩
                obtain ⟨ho_, rfl, R⟩ := hM
                subst ho_
                have h := hO_71
                try dsimp only [ctl] at h
                obtain ⟨n_80, h_n_80, h⟩ := bd_some h
                obtain ⟨g_81, h_g_81, h⟩ := bd_some h
                obtain ⟨out_91, hl_83, hO_84⟩ := bd_some h
                refine st_rng1 R (ev_lenD (ga_arg R rfl A_due_59) h_n_80) (gd_some h_g_81) (fun i σ' H' => ∃ (y_2 : Option V), forC (m_law_like_l1 (m_law_like n) actual_58 due_59) (List.drop i (rng 0 n_80)) _ = some out_91 ∧ σ' = [some v_actual_58, some v_due_59, y_2] ∧ Rg K H0 [] [] H') (fun H1 R => ⟨_, hl_83, rfl, (R.pick trivial)⟩) (fun i k_82 σ' H' hx hM => ?_) (fun σ' H' hM => ?_)
                · obtain ⟨y_2, hl_83, rfl, R⟩ := hM
                  obtain ⟨o1, h, hgo_86, hret_85, hbrk_87⟩ := forC_step hx hl_83
                  unfold m_law_like_l1 at h
                  try dsimp only at h
                  refine st_go (σ' := [some v_actual_58, some v_due_59, some (V.int k_82)]) rfl ?_
                  obtain ⟨q_88, h_q_88, h⟩ := bd_some h
                  obtain ⟨q_89, h_q_89, h⟩ := bd_some h
                  obtain ⟨r_90, h_r_90, h⟩ := bd_some h
                  refine st_if R (Evl.et_not (et_val (ev_bl (ga_gv (gv_call (gaA_cons (ga_ixD (ga_arg R rfl A_actual_58) (Evl.ev_var rfl) h_q_88) (gaA_cons (ga_ixD (ga_arg R rfl A_due_59) (Evl.ev_var rfl) h_q_89) gaA_nil)) fun _ _ _ _ f q => ⟨_, _, _, h_r_90, f, q⟩))))) (fun hc H1 R => ?_) (fun hc H1 R => ?_)
                  · rw [ite_t hc] at h
                    cases h
                    obtain rfl := hret_85 _ rfl
                    have h : some false = some _ := hO_84
                    have h_ := Option.some.inj h
                    subst h_
                    exact st_rt R (gl_bl Evl.ev_c) q rfl
                  · rw [ite_f hc] at h
                    cases h
                    repeat with_reducible refine st_fall1 ?_
                    exact ⟨_, hgo_86 _ rfl, rfl, (R.pick trivial)⟩
                · obtain ⟨y_2, hl_83, rfl, R⟩ := hM
                  obtain rfl := forC_end rfl hl_83
                  have h := hO_84
                  try dsimp only [ctl] at h
                  have h_ := Option.some.inj h
                  subst h_
                  exact st_rt R (gl_bl Evl.ev_c) q rfl
abbrev s__law_list : Stmt := topS 8
theorem sc__law_list : FnScope ["_law_cell_here", "_law_total", "_law_head", "_law_draws_here", "_law_found", "_law_rest", "_law_k", "_law_part"] ["_law_cell_here", "_law_total"] (defScope s__law_list) := ⟨rfl, rfl, rfl, by decide +kernel, rfl, by decide +kernel, by decide +kernel⟩
def m_law_list_l1 (drawshere_100 : (List Int)) (head_96 : (List Int)) (s_ : ((List Int) × Int)) (x_ : Int) : Option ((List Int) × Int) :=
  match s_, x_ with
  | (found_110, rest_111), k_104 =>
    if (decide ((0 : Int) < rest_111)) = true then
    (bd (atI drawshere_100 ((2 : Int) + k_104)) fun q_112 =>
    bd (gd (rest_111 ≠ 0)) fun g_113 =>
    bd (some ((1 : Int) + (Int.fmod q_112 rest_111))) fun part_114 =>
    bd (atI head_96 (0 : Int)) fun q_115 =>
    bd (if (decide (q_115 = (1 : Int))) = true then
    (bd (atI drawshere_100 ((2 : Int) + k_104)) fun q_117 =>
    bd (gd ((if (3 : Int) < rest_111 then (3 : Int) else rest_111) ≠ 0)) fun g_118 =>
    bd (some ((1 : Int) + (Int.fmod q_117 (if (3 : Int) < rest_111 then (3 : Int) else rest_111)))) fun part_119 =>
    some part_119)
    else
    (some part_114)) fun part_120 =>
    bd (atI head_96 (0 : Int)) fun q_121 =>
    bd (if (decide (q_121 = (2 : Int))) = true then
    (bd (atI head_96 (1 : Int)) fun q_123 =>
    bd (atI drawshere_100 ((2 : Int) + k_104)) fun q_124 =>
    bd (some (if (((1 : Int) + q_123) + (q_124 % (2 : Int))) < rest_111 then (((1 : Int) + q_123) + (q_124 % (2 : Int))) else rest_111)) fun part_125 =>
    some part_125)
    else
    (some part_120)) fun part_126 =>
    bd (atI head_96 (0 : Int)) fun q_127 =>
    bd (if ((decide (q_127 = (3 : Int))) && (decide ((0 : Int) < k_104))) = true then
    (bd (some (1 : Int)) fun part_129 =>
    some part_129)
    else
    (some part_126)) fun part_130 =>
    bd (gd ((found_110).length < sizeLine)) fun g_132 =>
    bd (some (found_110 ++ [part_130])) fun found_131 =>
    bd (some (rest_111 - part_130)) fun rest_133 =>
    some (found_131, rest_133))
    else
    (some (found_110, rest_111))
def m_law_list (cellhere_93 : Int) (total_94 : Int) : Option (List Int) :=
  bd (m_law_draws cellhere_93 [(4 : Int), (9 : Int)]) fun r_95 =>
  bd (some r_95) fun head_96 =>
  bd (gd (RepOk ([(if (1 : Int) < total_94 then total_94 else (1 : Int))]).length total_94)) fun g_97 =>
  bd (gd (([(4 : Int), (9 : Int)]).length + ((repI [(if (1 : Int) < total_94 then total_94 else (1 : Int))] total_94)).length ≤ sizeLine)) fun g_98 =>
  bd (m_law_draws cellhere_93 ([(4 : Int), (9 : Int)] ++ (repI [(if (1 : Int) < total_94 then total_94 else (1 : Int))] total_94))) fun r_99 =>
  bd (some r_99) fun drawshere_100 =>
  bd (some []) fun found_101 =>
  bd (some total_94) fun rest_102 =>
  bd (gd (-(2 ^ 62) ≤ total_94 ∧ total_94 < 2 ^ 62)) fun g_103 =>
  bd (forP (m_law_list_l1 drawshere_100 head_96) (rng 0 total_94) (found_101, rest_102)) fun (found_110, rest_111) =>
  some (srtD found_110)
def sp__law_list (K : PySem.W.Frag) : Sp := fun vs H Q _ => ∃ (cellhere_93 : Int), ∃ (total_94 : Int), ∃ r, m_law_list cellhere_93 total_94 = some r ∧ DdAll K H vs [(PyData.int cellhere_93), (PyData.int total_94)] ∧ ∀ v H2, Ex H H2 → Dd K (mn H2 H) v ((eL PyData.int) r) → Q v H2
theorem ok__law_list {f__law_list : Addr} {fd__law_list : FuncData} (F : FnP K "_law_list" s__law_list f__law_list fd__law_list) {f__law_draws : Addr} {fd__law_draws : FuncData} (F__law_draws : FnP K "_law_draws" s__law_draws f__law_draws fd__law_draws) (G__law_draws : FnOk P w K mg base CX0 2 f__law_draws fd__law_draws ["_law_cell_here", "_law_menu"] (sp__law_draws K)) (g__law_draws : mg "_law_draws" = some (.ref f__law_draws)) (b__law_draws : Binds K fd__law_draws ["_law_cell_here", "_law_menu"] []) (z_int : mg "int" = none) (z_max : mg "max" = none) (z_min : mg "min" = none) (z_range : mg "range" = none) (z_sorted : mg "sorted" = none) : FnOk P w K mg base CX0 3 f__law_list fd__law_list ["_law_cell_here", "_law_total"] (sp__law_list K) := by
  refine F.ok sc__law_list (fun vs H Q E h => ?_) (fun cdv A outer s H0 vs Q E hr h => ?_)
  · obtain ⟨_, _, _, _, f, _⟩ := h; exact f.length
  · obtain ⟨cellhere_93, total_94, r, h, f, q⟩ := h
    obtain ⟨v_cellhere_93, vs0, A_cellhere_93, f0, e_0⟩ := dd_cons f; subst e_0
    obtain ⟨v_total_94, vs1, A_total_94, f1, e_1⟩ := dd_cons f0; subst e_1
    obtain rfl := dd_nil f1
    obtain rfl := dd_int A_cellhere_93
    obtain rfl := dd_int A_total_94
    unfold m_law_list at h
    refine ⟨_, PSs.nox (pss_cons (ps_set (i := 2) sc__law_list.nd rfl (Or.inl rfl) (pe_call G__law_draws (hr.mono (by omega)) (by rfl) g__law_draws F__law_draws.kp b__law_draws .nil pass0 (pa_cons (pv 0) (pa_cons (pe_lst (pa_cons pe_int (pa_cons pe_int pa_nil))) pa_nil)))) (pss_cons (ps_set (i := 3) sc__law_list.nd rfl (Or.inl rfl) (pe_call G__law_draws (hr.mono (by omega)) (by rfl) g__law_draws F__law_draws.kp b__law_draws .nil pass0 (pa_cons (pv 0) (pa_cons (pe_op op_cat (pe_lst (pa_cons pe_int (pa_cons pe_int pa_nil))) (pe_op op_rep (pe_lst (pa_cons (pe_callB (call_max2 rfl) (by rfl) z_max (by decide +kernel) (pa_cons pe_int (pa_cons (pv 1) pa_nil))) pa_nil)) (pv 1))) pa_nil)))) (pss_cons (ps_set (i := 4) sc__law_list.nd rfl (Or.inl rfl) (pe_lst pa_nil)) (pss_cons (ps_set (i := 5) sc__law_list.nd rfl (Or.inl rfl) (pv 1)) (pss_cons (ps_for PassesOwn.never rfl (pi_range1 (by rfl) z_range (pa_cons (pv 1) pa_nil)) (pg_name (i := 6) sc__law_list.nd rfl (Or.inl rfl)) (pss_cons (ps_if (pt_cmpR op_gt (pv 5) pe_int (nomark _)) (pss_cons (ps_set (i := 7) sc__law_list.nd rfl (Or.inl rfl) (pe_op op_add pe_int (pe_op op_modN (pe_callTy call_int1 (by rfl) z_int (by decide +kernel) (pa_cons (pe_ix (r := rIxL K) ix_list (pv 3) (pe_op op_add pe_int (pv 6)) (fun _ _ => rfl)) pa_nil)) (pv 5)))) (Evl.pss_cut (ps_if (pt_cmpR op_eq (pe_ix (r := rIxL K) ix_list (pv 2) pe_int (fun _ _ => rfl)) pe_int (nomark _)) (pss_cons (ps_set (i := 7) sc__law_list.nd rfl (Or.inl rfl) (pe_op op_add pe_int (pe_op op_modN (pe_callTy call_int1 (by rfl) z_int (by decide +kernel) (pa_cons (pe_ix (r := rIxL K) ix_list (pv 3) (pe_op op_add pe_int (pv 6)) (fun _ _ => rfl)) pa_nil)) (pe_callB (call_min2 rfl) (by rfl) z_min (by decide +kernel) (pa_cons (pv 5) (pa_cons pe_int pa_nil)))))) pss_nil) pss_nil) (Evl.pss_cut (ps_if (pt_cmpR op_eq (pe_ix (r := rIxL K) ix_list (pv 2) pe_int (fun _ _ => rfl)) pe_int (nomark _)) (pss_cons (ps_set (i := 7) sc__law_list.nd rfl (Or.inl rfl) (pe_callB (call_min2 rfl) (by rfl) z_min (by decide +kernel) (pa_cons (pv 5) (pa_cons (pe_op op_add (pe_op op_add pe_int (pe_ix (r := rIxL K) ix_list (pv 2) pe_int (fun _ _ => rfl))) (pe_op op_mod (pe_callTy call_int1 (by rfl) z_int (by decide +kernel) (pa_cons (pe_ix (r := rIxL K) ix_list (pv 3) (pe_op op_add pe_int (pv 6)) (fun _ _ => rfl)) pa_nil)) pe_int)) pa_nil)))) pss_nil) pss_nil) (Evl.pss_cut (ps_if (PW.pt (pw_and (pt_cmpR op_eq (pe_ix (r := rIxL K) ix_list (pv 2) pe_int (fun _ _ => rfl)) pe_int (nomark _)) (pw_and1 (pt_cmpR op_gt (pv 6) pe_int (nomark _))))) (pss_cons (ps_set (i := 7) sc__law_list.nd rfl (Or.inl rfl) pe_int) pss_nil) pss_nil) (pss_cons (ps_expr (pe_bm PySem.F.plainAttrs_list PySem.F.slot_list_append PySem.F.type_list_append mt_append (pv 4) (pa_cons (pv 7) pa_nil))) (pss_cons (ps_set (i := 5) sc__law_list.nd rfl (Or.inl rfl) (pe_op op_sub (pv 5) (pv 7))) pss_nil)))))) pss_nil) pss_nil)) (pss_cons (ps_ret (pe_callBK (r := rSortedKw K true [.bl true]) (cr_sortedRev (b := true)) (by rfl) z_sorted (by decide +kernel) (pa_cons (pv 4) pa_nil) (pk_cons pe_bl pk_nil))) pss_nil)))))), ?_⟩
    have R : Rg K H0 [] [] H0 := .init
    refine st_go (σ' := [some (V.int cellhere_93), some (V.int total_94), none, none, none, none, none, none]) rfl ?_
    obtain ⟨r_95, h_r_95, h⟩ := bd_some h
    obtain ⟨head_96, h_head_96, h⟩ := bd_some h
    have h_head_96 := Option.some.inj h_head_96
    refine st_asgL' R (gl_eqn (f := (eL PyData.int)) (gl_gv R (gv_call (gaA_cons (ga_int (Evl.ev_var rfl)) (gaA_cons (ga_gl (gl_gn R (gn_lstT (f := PyData.int) (xs := [(4 : Int), (9 : Int)]) (glA_cons (gl_int Evl.ev_c) (glA_cons (gl_int Evl.ev_c) glA_nil)) (by simp only [List.length_cons, List.length_nil]; decide)))) gaA_nil)) fun _ _ _ _ f q => ⟨_, _, _, h_r_95, f, q⟩)) h_head_96) fun v_head_96 H1 R => (st_go (σ' := [some (V.int cellhere_93), some (V.int total_94), some v_head_96, none, none, none, none, none]) rfl ?_)
    obtain ⟨g_97, h_g_97, h⟩ := bd_some h
    obtain ⟨g_98, h_g_98, h⟩ := bd_some h
    obtain ⟨r_99, h_r_99, h⟩ := bd_some h
    obtain ⟨drawshere_100, h_drawshere_100, h⟩ := bd_some h
    have h_drawshere_100 := Option.some.inj h_drawshere_100
    refine st_asgL' R (gl_eqn (f := (eL PyData.int)) (gl_gv R (gv_call (gaA_cons (ga_int (Evl.ev_var rfl)) (gaA_cons (ga_gl (gl_gn R (gn_catT (f := PyData.int) (xs := [(4 : Int), (9 : Int)]) (ys := (repI [(if (1 : Int) < total_94 then total_94 else (1 : Int))] total_94)) (ge_gn (gn_lstT (f := PyData.int) (xs := [(4 : Int), (9 : Int)]) (glA_cons (gl_int Evl.ev_c) (glA_cons (gl_int Evl.ev_c) glA_nil)) (by simp only [List.length_cons, List.length_nil]; decide))) (ge_gn (gn_repT (f := PyData.int) (xs := [(if (1 : Int) < total_94 then total_94 else (1 : Int))]) (ge_gn (gn_lstT (f := PyData.int) (xs := [(if (1 : Int) < total_94 then total_94 else (1 : Int))]) (glA_cons (gl_int (ev_max2 Evl.ev_c (Evl.ev_var rfl))) glA_nil) (by simp only [List.length_cons, List.length_nil]; decide))) (Evl.ev_var rfl) (gd_some h_g_97))) (gd_some h_g_98)))) gaA_nil)) fun _ _ _ _ f q => ⟨_, _, _, h_r_99, f, q⟩)) h_drawshere_100) fun v_drawshere_100 H1 R => (st_go (σ' := [some (V.int cellhere_93), some (V.int total_94), some v_head_96, some v_drawshere_100, none, none, none, none]) rfl ?_)
    obtain ⟨found_101, h_found_101, h⟩ := bd_some h
    have h_found_101 := Option.some.inj h_found_101
    refine st_asgO' R (gn_eqn (gn_lstT (f := PyData.int) (xs := ([] : List Int)) glA_nil (Nat.zero_le _)) h_found_101) fun p_found_101 H1 R => (st_go (σ' := [some (V.int cellhere_93), some (V.int total_94), some v_head_96, some v_drawshere_100, some (V.ref p_found_101), none, none, none]) rfl ?_)
    obtain ⟨rest_102, h_rest_102, h⟩ := bd_some h
    have h_rest_102 := Option.some.inj h_rest_102
    refine st_asgI R (ev_eqn (Evl.ev_var rfl) h_rest_102) (σ' := [some (V.int cellhere_93), some (V.int total_94), some v_head_96, some v_drawshere_100, some (V.ref p_found_101), some (V.int rest_102), none, none]) rfl fun H1 R => ?_
    obtain ⟨g_103, h_g_103, h⟩ := bd_some h
    obtain ⟨⟨found_110o, rest_111o⟩, hl_105, h⟩ := bd_some h
    try dsimp only at h
    refine st_rng1 R (Evl.ev_var rfl) (gd_some h_g_103) (fun i σ' H' => ∃ (found_110 : (List Int)), ∃ (rest_111 : Int), ∃ (y_7 : Option V), ∃ (y_6 : Option V), forP (m_law_list_l1 drawshere_100 head_96) (List.drop i (rng 0 total_94)) ⟨found_110, rest_111⟩ = some (found_110o, rest_111o) ∧ σ' = [some (V.int cellhere_93), some (V.int total_94), some v_head_96, some v_drawshere_100, some (V.ref p_found_101), some (V.int rest_111), y_6, y_7] ∧ Rg K H0 [(v_drawshere_100, ((eL PyData.int) drawshere_100)), (v_head_96, ((eL PyData.int) head_96))] [(p_found_101, (List.map PyData.int found_110))] H') (fun H1 R => ⟨_, _, _, _, hl_105, rfl, (R.pick ⟨R.at 0 rfl, R.at 1 rfl, trivial⟩)⟩) (fun i k_104 σ' H' hx hM => ?_) (fun σ' H' hM => ?_)
    · obtain ⟨found_110, rest_111, y_7, y_6, hl_105, rfl, R⟩ := hM
      obtain ⟨s1, h, hl_105⟩ := forP_step hx hl_105
      unfold m_law_list_l1 at h
      try dsimp only at h
      refine st_go (σ' := [some (V.int cellhere_93), some (V.int total_94), some v_head_96, some v_drawshere_100, some (V.ref p_found_101), some (V.int rest_111), some (V.int k_104), y_7]) rfl ?_
      refine st_if R (Evl.et_test (ev_I0 (Evl.ev_var rfl) Evl.ev_c)) (fun hc H1 R => ?_) (fun hc H1 R => ?_)
      · rw [ite_t hc] at h
        obtain ⟨q_112, h_q_112, h⟩ := bd_some h
        obtain ⟨g_113, h_g_113, h⟩ := bd_some h
        obtain ⟨part_114, h_part_114, h⟩ := bd_some h
        have h_part_114 := Option.some.inj h_part_114
        refine st_asgI R (ev_eqn (ev_I0 Evl.ev_c (ev_I (C := fun _ j => j ≠ 0) (ev_int1 (ev_int (ga_ix (f := PyData.int) (xs := drawshere_100) (ga_loc R rfl 0 rfl) (ev_I0 Evl.ev_c (Evl.ev_var rfl)) h_q_112))) (Evl.ev_var rfl) (gd_some h_g_113))) h_part_114) (σ' := [some (V.int cellhere_93), some (V.int total_94), some v_head_96, some v_drawshere_100, some (V.ref p_found_101), some (V.int rest_111), some (V.int k_104), some (V.int part_114)]) rfl fun H1 R => ?_
        obtain ⟨q_115, h_q_115, h⟩ := bd_some h
        obtain ⟨part_120, hj, h⟩ := bd_some h
        try dsimp only at h
        refine Evl.q_cut (M := fun σ' H' => σ' = [some (V.int cellhere_93), some (V.int total_94), some v_head_96, some v_drawshere_100, some (V.ref p_found_101), some (V.int rest_111), some (V.int k_104), some (V.int part_120)] ∧ Rg K H0 [(v_drawshere_100, ((eL PyData.int) drawshere_100)), (v_head_96, ((eL PyData.int) head_96))] [(p_found_101, (List.map PyData.int found_110))] H') (st_if1 R (Evl.et_test (ev_eqI (ev_int (ga_ix (f := PyData.int) (xs := head_96) (ga_loc R rfl 1 rfl) Evl.ev_c h_q_115)) Evl.ev_c)) (fun hc H1 R => ?_) (fun hc H1 R => ?_)) (fun σ' H' hM => ?_)
        · rw [ite_t hc] at hj
          have h := hj
          obtain ⟨q_117, h_q_117, h⟩ := bd_some h
          obtain ⟨g_118, h_g_118, h⟩ := bd_some h
          obtain ⟨part_119, h_part_119, h⟩ := bd_some h
          have h_part_119 := Option.some.inj h_part_119
          refine st_asgI R (ev_eqn (ev_I0 Evl.ev_c (ev_I (C := fun _ j => j ≠ 0) (ev_int1 (ev_int (ga_ix (f := PyData.int) (xs := drawshere_100) (ga_loc R rfl 0 rfl) (ev_I0 Evl.ev_c (Evl.ev_var rfl)) h_q_117))) (ev_min2 (Evl.ev_var rfl) Evl.ev_c) (gd_some h_g_118))) h_part_119) (σ' := [some (V.int cellhere_93), some (V.int total_94), some v_head_96, some v_drawshere_100, some (V.ref p_found_101), some (V.int rest_111), some (V.int k_104), some (V.int part_119)]) rfl fun H1 R => ?_
          cases h
          repeat with_reducible refine st_fall1 ?_
          exact ⟨rfl, (R.pick ⟨R.at 0 rfl, R.at 1 rfl, trivial⟩)⟩
        · rw [ite_f hc] at hj
          have h := hj
          cases h
          repeat with_reducible refine st_fall1 ?_
          exact ⟨rfl, (R.pick ⟨R.at 0 rfl, R.at 1 rfl, trivial⟩)⟩
        obtain ⟨rfl, R⟩ := hM
        obtain ⟨q_121, h_q_121, h⟩ := bd_some h
        obtain ⟨part_126, hj, h⟩ := bd_some h
        try dsimp only at h
        refine Evl.q_cut (M := fun σ' H' => σ' = [some (V.int cellhere_93), some (V.int total_94), some v_head_96, some v_drawshere_100, some (V.ref p_found_101), some (V.int rest_111), some (V.int k_104), some (V.int part_126)] ∧ Rg K H0 [(v_drawshere_100, ((eL PyData.int) drawshere_100)), (v_head_96, ((eL PyData.int) head_96))] [(p_found_101, (List.map PyData.int found_110))] H') (st_if1 R (Evl.et_test (ev_eqI (ev_int (ga_ix (f := PyData.int) (xs := head_96) (ga_loc R rfl 1 rfl) Evl.ev_c h_q_121)) Evl.ev_c)) (fun hc H1 R => ?_) (fun hc H1 R => ?_)) (fun σ' H' hM => ?_)
        · rw [ite_t hc] at hj
          have h := hj
          obtain ⟨q_123, h_q_123, h⟩ := bd_some h
          obtain ⟨q_124, h_q_124, h⟩ := bd_some h
          obtain ⟨part_125, h_part_125, h⟩ := bd_some h
          have h_part_125 := Option.some.inj h_part_125
          refine st_asgI R (ev_eqn (ev_min2 (Evl.ev_var rfl) (ev_I0 (ev_I0 Evl.ev_c (ev_int (ga_ix (f := PyData.int) (xs := head_96) (ga_loc R rfl 1 rfl) Evl.ev_c h_q_123))) (ev_I (ev_int1 (ev_int (ga_ix (f := PyData.int) (xs := drawshere_100) (ga_loc R rfl 0 rfl) (ev_I0 Evl.ev_c (Evl.ev_var rfl)) h_q_124))) Evl.ev_c (by decide)))) h_part_125) (σ' := [some (V.int cellhere_93), some (V.int total_94), some v_head_96, some v_drawshere_100, some (V.ref p_found_101), some (V.int rest_111), some (V.int k_104), some (V.int part_125)]) rfl fun H1 R => ?_
          cases h
          repeat with_reducible refine st_fall1 ?_
          exact ⟨rfl, (R.pick ⟨R.at 0 rfl, R.at 1 rfl, trivial⟩)⟩
        · rw [ite_f hc] at hj
          have h := hj
          cases h
          repeat with_reducible refine st_fall1 ?_
          exact ⟨rfl, (R.pick ⟨R.at 0 rfl, R.at 1 rfl, trivial⟩)⟩
        obtain ⟨rfl, R⟩ := hM
        obtain ⟨q_127, h_q_127, h⟩ := bd_some h
        obtain ⟨part_130, hj, h⟩ := bd_some h
        try dsimp only at h
        refine Evl.q_cut (M := fun σ' H' => σ' = [some (V.int cellhere_93), some (V.int total_94), some v_head_96, some v_drawshere_100, some (V.ref p_found_101), some (V.int rest_111), some (V.int k_104), some (V.int part_130)] ∧ Rg K H0 [(v_drawshere_100, ((eL PyData.int) drawshere_100)), (v_head_96, ((eL PyData.int) head_96))] [(p_found_101, (List.map PyData.int found_110))] H') (st_if1 R (Evl.et_and (Evl.et_test (ev_eqI (ev_int (ga_ix (f := PyData.int) (xs := head_96) (ga_loc R rfl 1 rfl) Evl.ev_c h_q_127)) Evl.ev_c)) fun _ => (Evl.et_test (ev_I0 (Evl.ev_var rfl) Evl.ev_c))) (fun hc H1 R => ?_) (fun hc H1 R => ?_)) (fun σ' H' hM => ?_)
        · rw [ite_t hc] at hj
          have h := hj
          obtain ⟨part_129, h_part_129, h⟩ := bd_some h
          have h_part_129 := Option.some.inj h_part_129
          refine st_asgI R (ev_eqn Evl.ev_c h_part_129) (σ' := [some (V.int cellhere_93), some (V.int total_94), some v_head_96, some v_drawshere_100, some (V.ref p_found_101), some (V.int rest_111), some (V.int k_104), some (V.int part_129)]) rfl fun H1 R => ?_
          cases h
          repeat with_reducible refine st_fall1 ?_
          exact ⟨rfl, (R.pick ⟨R.at 0 rfl, R.at 1 rfl, trivial⟩)⟩
        · rw [ite_f hc] at hj
          have h := hj
          cases h
          repeat with_reducible refine st_fall1 ?_
          exact ⟨rfl, (R.pick ⟨R.at 0 rfl, R.at 1 rfl, trivial⟩)⟩
        obtain ⟨rfl, R⟩ := hM
        obtain ⟨g_132, h_g_132, h⟩ := bd_some h
        obtain ⟨found_131, h_found_131, h⟩ := bd_some h
        have h_found_131 := Option.some.inj h_found_131
        refine st_appT R rfl (j := 0) rfl (gl_int (Evl.ev_var rfl)) (gd_some h_g_132) h_found_131 (os' := [(p_found_101, (List.map PyData.int found_131))]) rfl fun H1 R => ?_
        obtain ⟨rest_133, h_rest_133, h⟩ := bd_some h
        have h_rest_133 := Option.some.inj h_rest_133
        refine st_asgI R (ev_eqn (ev_I0 (Evl.ev_var rfl) (Evl.ev_var rfl)) h_rest_133) (σ' := [some (V.int cellhere_93), some (V.int total_94), some v_head_96, some v_drawshere_100, some (V.ref p_found_101), some (V.int rest_133), some (V.int k_104), some (V.int part_130)]) rfl fun H1 R => ?_
        cases h
        repeat with_reducible refine st_fall1 ?_
        exact ⟨_, _, _, _, hl_105, rfl, (R.pick ⟨R.at 0 rfl, R.at 1 rfl, trivial⟩)⟩
      · rw [ite_f hc] at h
        cases h
        repeat with_reducible refine st_fall1 ?_
        exact ⟨_, _, _, _, hl_105, rfl, (R.pick ⟨R.at 0 rfl, R.at 1 rfl, trivial⟩)⟩
    · obtain ⟨found_110, rest_111, y_7, y_6, hl_105, rfl, R⟩ := hM
      have e_0 := forP_end rfl hl_105
      obtain ⟨x_0, e_1⟩ := Prod.mk.inj e_0
      subst x_0
      subst e_1
      have h_ := Option.some.inj h
      subst h_
      exact st_rt R (gl_gn R (gn_sortedR (xs := found_110) (ga_own R rfl 0 rfl) (fun H1 e1 Q q => q H1 (Ex.refl _)))) q rfl
abbrev s__law_lower : Stmt := topS 9
theorem sc__law_lower : FnScope ["_law_sizes", "_law_place", "_law_lowered", "_law_entry"] ["_law_sizes", "_law_place"] (defScope s__law_lower) := ⟨rfl, rfl, rfl, by decide +kernel, rfl, by decide +kernel, by decide +kernel⟩
def m_law_lower (sizes_135 : (List Int)) (place_136 : Int) : Option (List Int) :=
  bd (atI sizes_135 place_136) fun q_137 =>
  bd (gd (((sln sizes_135 none (some place_136))).length + ([(q_137 - (1 : Int))]).length ≤ sizeLine)) fun g_138 =>
  bd (gd ((((sln sizes_135 none (some place_136)) ++ [(q_137 - (1 : Int))])).length + ((sln sizes_135 (some (place_136 + (1 : Int))) none)).length ≤ sizeLine)) fun g_139 =>
  bd (some (((sln sizes_135 none (some place_136)) ++ [(q_137 - (1 : Int))]) ++ (sln sizes_135 (some (place_136 + (1 : Int))) none))) fun lowered_140 =>
  bd (cmP (fun entry_141 => (if (decide ((0 : Int) < entry_141)) = true then some (some entry_141) else some none)) lowered_140) fun l_145 =>
  bd (gd (l_145.length ≤ sizeLine)) fun g_146 =>
  some (srtD l_145)
def sp__law_lower (K : PySem.W.Frag) : Sp := fun vs H Q _ => ∃ (sizes_135 : (List Int)), ∃ (place_136 : Int), ∃ r, m_law_lower sizes_135 place_136 = some r ∧ DdAll K H vs [((eL PyData.int) sizes_135), (PyData.int place_136)] ∧ ∀ v H2, Ex H H2 → Dd K (mn H2 H) v ((eL PyData.int) r) → Q v H2
theorem ok__law_lower {f__law_lower : Addr} {fd__law_lower : FuncData} (F : FnP K "_law_lower" s__law_lower f__law_lower fd__law_lower) (z_sorted : mg "sorted" = none) : FnOk P w K mg base CX0 1 f__law_lower fd__law_lower ["_law_sizes", "_law_place"] (sp__law_lower K) := by
  refine F.ok sc__law_lower (fun vs H Q E h => ?_) (fun cdv A outer s H0 vs Q E hr h => ?_)
  · obtain ⟨_, _, _, _, f, _⟩ := h; exact f.length
  · obtain ⟨sizes_135, place_136, r, h, f, q⟩ := h
    obtain ⟨v_sizes_135, vs0, A_sizes_135, f0, e_0⟩ := dd_cons f; subst e_0
    obtain ⟨v_place_136, vs1, A_place_136, f1, e_1⟩ := dd_cons f0; subst e_1
    obtain rfl := dd_nil f1
    obtain rfl := dd_int A_place_136
    unfold m_law_lower at h
    refine ⟨_, PSs.nox (pss_cons (ps_set (i := 2) sc__law_lower.nd rfl (Or.inl rfl) (pe_op op_cat (pe_op op_cat (pe_slice (r := rSlL K) sl_list (pv 0) po_none (po_some (pv 1))) (pe_lst (pa_cons (pe_op op_sub (pe_ix (r := rIxL K) ix_list (pv 0) (pv 1) (fun _ _ => rfl)) pe_int) pa_nil))) (pe_slice (r := rSlL K) sl_list (pv 0) (po_some (pe_op op_add (pv 1) pe_int)) po_none))) (pss_cons (ps_ret (pe_callBK (r := rSortedKw K true [.bl true]) (cr_sortedRev (b := true)) (by rfl) z_sorted (by decide +kernel) (pa_cons (pe_lc (own := [("_law_entry", 3)]) (g := gName 3) rfl sc__law_lower.nd (pi_list (pv 2)) (blkOk_by (N := ["_law_sizes", "_law_place", "_law_lowered", "_law_entry"]) (sc := (defScope s__law_lower)) (by decide +kernel)) (fun _ _ _ _ _ => pg_name (i := 3) sc__law_lower.nd rfl (Or.inl rfl)) (fun _ _ _ _ _ => pts_one (pt_cmpR op_gt (pv 3) pe_int (nomark _))) (fun _ _ _ _ _ => (pv 3))) pa_nil) (pk_cons pe_bl pk_nil))) pss_nil)), ?_⟩
    have R : Rg K H0 [] [] H0 := .init
    refine st_go (σ' := [some v_sizes_135, some (V.int place_136), none, none]) rfl ?_
    obtain ⟨q_137, h_q_137, h⟩ := bd_some h
    obtain ⟨g_138, h_g_138, h⟩ := bd_some h
    obtain ⟨g_139, h_g_139, h⟩ := bd_some h
    obtain ⟨lowered_140, h_lowered_140, h⟩ := bd_some h
    have h_lowered_140 := Option.some.inj h_lowered_140
    refine st_asgL' R (gl_eqn (f := (eL PyData.int)) (gl_gn R (gn_catT (f := PyData.int) (xs := ((sln sizes_135 none (some place_136)) ++ [(q_137 - (1 : Int))])) (ys := (sln sizes_135 (some (place_136 + (1 : Int))) none)) (ge_gn (gn_catT (f := PyData.int) (xs := (sln sizes_135 none (some place_136))) (ys := [(q_137 - (1 : Int))]) (ge_gn (gn_slT (f := PyData.int) (xs := sizes_135) (ge_flat (ga_arg R rfl A_sizes_135) flat_ints) eo_no (eo_int (Evl.ev_var rfl)))) (ge_gn (gn_lstT (f := PyData.int) (xs := [(q_137 - (1 : Int))]) (glA_cons (gl_int (ev_I0 (ev_int (ga_ix (f := PyData.int) (xs := sizes_135) (ga_arg R rfl A_sizes_135) (Evl.ev_var rfl) h_q_137)) Evl.ev_c)) glA_nil) (by simp only [List.length_cons, List.length_nil]; decide))) (gd_some h_g_138))) (ge_gn (gn_slT (f := PyData.int) (xs := sizes_135) (ge_flat (ga_arg R rfl A_sizes_135) flat_ints) (eo_int (ev_I0 (Evl.ev_var rfl) Evl.ev_c)) eo_no)) (gd_some h_g_139))) h_lowered_140) fun v_lowered_140 H1 R => (st_go (σ' := [some v_sizes_135, some (V.int place_136), some v_lowered_140, none]) rfl ?_)
    obtain ⟨l_145, h_l_145, h⟩ := bd_some h
    obtain ⟨g_146, h_g_146, h⟩ := bd_some h
    have h_ := Option.some.inj h
    subst h_
    exact st_rt R (gl_gn R (gn_sortedR (xs := l_145) (ga_gl (gl_gn R (gn_lcG R (gl_loc R rfl 0 rfl) (fun _ => rfl) h_l_145 (gd_some h_g_146) (f := PyData.int) (gb := PyData.int) (fun v_144 Dl_142 ds_143 i entry_141 w_entry_141 H1 R e1 hx hw o ho => by
                obtain rfl := in_int hw (R.atH 0 rfl)
                rcases Bool.eq_false_or_eq_true (decide ((0 : Int) < entry_141)) with hc | hc
                · rw [ite_t hc] at ho; obtain rfl := Option.some.inj ho; exact ⟨et_eq (Evl.et_test (ev_I0 (Evl.ev_var rfl) Evl.ev_c)) hc, fun y hy => by obtain rfl := Option.some.inj hy; exact (gl_int (Evl.ev_var rfl))⟩
                · rw [ite_f hc] at ho; obtain rfl := Option.some.inj ho; exact ⟨et_eq (Evl.et_test (ev_I0 (Evl.ev_var rfl) Evl.ev_c)) hc, fun y hy => nomatch hy⟩)))) (fun H1 e1 Q q => q H1 (Ex.refl _)))) q rfl
abbrev s__law_sums : Stmt := topS 11
theorem sc__law_sums : FnScope ["_law_sizes", "_law_k"] ["_law_sizes"] (defScope s__law_sums) := ⟨rfl, rfl, rfl, by decide +kernel, rfl, by decide +kernel, by decide +kernel⟩
def m_law_sums (sizes_147 : (List Int)) : Option (List Int) :=
  bd (gd (-(2 ^ 62) ≤ (sizes_147).sum ∧ (sizes_147).sum < 2 ^ 62)) fun g_153 =>
  bd (cmP (fun k_148 => some (some (((sln sizes_147 none (some (k_148 + (1 : Int))))).sum))) (rng 0 ((sizes_147).sum))) fun l_151 =>
  bd (gd (l_151.length ≤ sizeLine)) fun g_152 =>
  some l_151
def sp__law_sums (K : PySem.W.Frag) : Sp := fun vs H Q _ => ∃ (sizes_147 : (List Int)), ∃ r, m_law_sums sizes_147 = some r ∧ DdAll K H vs [((eL PyData.int) sizes_147)] ∧ ∀ v H2, Ex H H2 → Dd K (mn H2 H) v ((eL PyData.int) r) → Q v H2
theorem ok__law_sums {f__law_sums : Addr} {fd__law_sums : FuncData} (F : FnP K "_law_sums" s__law_sums f__law_sums fd__law_sums) (z_range : mg "range" = none) (z_sum : mg "sum" = none) : FnOk P w K mg base CX0 1 f__law_sums fd__law_sums ["_law_sizes"] (sp__law_sums K) := by
  refine F.ok sc__law_sums (fun vs H Q E h => ?_) (fun cdv A outer s H0 vs Q E hr h => ?_)
  · obtain ⟨_, _, _, f, _⟩ := h; exact f.length
  · obtain ⟨sizes_147, r, h, f, q⟩ := h
    obtain ⟨v_sizes_147, vs0, A_sizes_147, f0, e_0⟩ := dd_cons f; subst e_0
    obtain rfl := dd_nil f0
    unfold m_law_sums at h
    refine ⟨_, PSs.nox (pss_cons (ps_ret (pe_lc (own := [("_law_k", 1)]) (g := gName 1) (tt := tYes) rfl sc__law_sums.nd (pi_range1 (by rfl) z_range (pa_cons (pe_callB (r := rSum K) (cr_sum rfl) (by rfl) z_sum (by decide +kernel) (pa_cons (pv 0) pa_nil)) pa_nil)) (blkOk_by (N := ["_law_sizes", "_law_k"]) (sc := (defScope s__law_sums)) (by decide +kernel)) (fun _ _ _ _ _ => pg_name (i := 1) sc__law_sums.nd rfl (Or.inl rfl)) (fun _ _ _ _ _ => pts_nil) (fun _ _ _ _ _ => (pe_callB (r := rSum K) (cr_sum rfl) (by rfl) z_sum (by decide +kernel) (pa_cons (pe_slice (r := rSlL K) sl_list (pv 0) po_none (po_some (pe_op op_add (pv 1) pe_int))) pa_nil))))) pss_nil), ?_⟩
    have R : Rg K H0 [] [] H0 := .init
    refine st_go (σ' := [some v_sizes_147, none]) rfl ?_
    obtain ⟨g_153, h_g_153, h⟩ := bd_some h
    obtain ⟨l_151, h_l_151, h⟩ := bd_some h
    obtain ⟨g_152, h_g_152, h⟩ := bd_some h
    have h_ := Option.some.inj h
    subst h_
    exact st_rt R (gl_gn R (gn_lcR1 R (ev_sum (xs := sizes_147) (ga_arg R rfl A_sizes_147)) (gd_some h_g_153) (fun _ => rfl) h_l_151 (gd_some h_g_152) (gb := PyData.int) (fun Dl_149 ds_150 i k_148 H1 R e1 hx o ho => by
                obtain rfl := Option.some.inj ho
                exact ⟨et_yes, fun y hy => by obtain rfl := Option.some.inj hy; exact (gl_int (ev_sum (xs := (sln sizes_147 none (some (k_148 + (1 : Int))))) (ga_gl (gl_gn R (gn_slT (f := PyData.int) (xs := sizes_147) (ge_flat (ga_arg R rfl A_sizes_147) flat_ints) eo_no (eo_int (ev_I0 (Evl.ev_var rfl) Evl.ev_c)))))))⟩))) q rfl
abbrev s__law_fits : Stmt := topS 12
theorem sc__law_fits : FnScope ["_law_sizes", "_law_row_here", "_law_sums_here", "_law_k"] ["_law_sizes", "_law_row_here"] (defScope s__law_fits) := ⟨rfl, rfl, rfl, by decide +kernel, rfl, by decide +kernel, by decide +kernel⟩
def m_law_fits_l1 (sumshere_157 : (List Int)) (rowhere_155 : (List Int)) (s_ : Unit) (x_ : Int) : Option (Ctl Unit Bool) :=
  match s_, x_ with
  | _, k_159 =>
    bd (atI sumshere_157 k_159) fun q_165 =>
    bd (atI rowhere_155 k_159) fun q_166 =>
    if (decide (q_166 < q_165)) = true then
    (some (.ret false))
    else
    (some (.go ()))
def m_law_fits (sizes_154 : (List Int)) (rowhere_155 : (List Int)) : Option Bool :=
  bd (m_law_sums sizes_154) fun r_156 =>
  bd (some r_156) fun sumshere_157 =>
  bd (gd (-(2 ^ 62) ≤ ((sumshere_157).length : Int) ∧ ((sumshere_157).length : Int) < 2 ^ 62)) fun g_158 =>
  bd (forC (m_law_fits_l1 sumshere_157 rowhere_155) (rng 0 ((sumshere_157).length : Int)) ()) fun o_ => ctl o_ (fun c_ => some c_) fun _ =>
  some true
def sp__law_fits (K : PySem.W.Frag) : Sp := fun vs H Q _ => ∃ (sizes_154 : (List Int)), ∃ (rowhere_155 : (List Int)), ∃ r, m_law_fits sizes_154 rowhere_155 = some r ∧ DdAll K H vs [((eL PyData.int) sizes_154), ((eL PyData.int) rowhere_155)] ∧ ∀ v H2, Ex H H2 → Dd K (mn H2 H) v (PyData.bool r) → Q v H2
theorem ok__law_fits {f__law_fits : Addr} {fd__law_fits : FuncData} (F : FnP K "_law_fits" s__law_fits f__law_fits fd__law_fits) {f__law_sums : Addr} {fd__law_sums : FuncData} (F__law_sums : FnP K "_law_sums" s__law_sums f__law_sums fd__law_sums) (G__law_sums : FnOk P w K mg base CX0 1 f__law_sums fd__law_sums ["_law_sizes"] (sp__law_sums K)) (g__law_sums : mg "_law_sums" = some (.ref f__law_sums)) (b__law_sums : Binds K fd__law_sums ["_law_sizes"] []) (z_len : mg "len" = none) (z_range : mg "range" = none) : FnOk P w K mg base CX0 2 f__law_fits fd__law_fits ["_law_sizes", "_law_row_here"] (sp__law_fits K) := by
  refine F.ok sc__law_fits (fun vs H Q E h => ?_) (fun cdv A outer s H0 vs Q E hr h => ?_)
  · obtain ⟨_, _, _, _, f, _⟩ := h; exact f.length
  · obtain ⟨sizes_154, rowhere_155, r, h, f, q⟩ := h
    obtain ⟨v_sizes_154, vs0, A_sizes_154, f0, e_0⟩ := dd_cons f; subst e_0
    obtain ⟨v_rowhere_155, vs1, A_rowhere_155, f1, e_1⟩ := dd_cons f0; subst e_1
    obtain rfl := dd_nil f1
    unfold m_law_fits at h
    refine ⟨_, PSs.nox (pss_cons (ps_set (i := 2) sc__law_fits.nd rfl (Or.inl rfl) (pe_call G__law_sums (hr.mono (by omega)) (by rfl) g__law_sums F__law_sums.kp b__law_sums .nil pass0 (pa_cons (pv 0) pa_nil))) (pss_cons (ps_for PassesOwn.never rfl (pi_range1 (by rfl) z_range (pa_cons (pe_callB (r := rLen1 K) call_len (by rfl) z_len PySem.boot_len (pa_cons (pv 2) pa_nil)) pa_nil)) (pg_name (i := 3) sc__law_fits.nd rfl (Or.inl rfl)) (pss_cons (ps_if (pt_cmpR op_gt (pe_ix (r := rIxL K) ix_list (pv 2) (pv 3) (fun _ _ => rfl)) (pe_ix (r := rIxL K) ix_list (pv 1) (pv 3) (fun _ _ => rfl)) (nomark _)) (pss_cons (ps_ret pe_bl) pss_nil) pss_nil) pss_nil)) (pss_cons (ps_ret pe_bl) pss_nil))), ?_⟩
    have R : Rg K H0 [] [] H0 := .init
    refine st_go (σ' := [some v_sizes_154, some v_rowhere_155, none, none]) rfl ?_
    obtain ⟨r_156, h_r_156, h⟩ := bd_some h
    obtain ⟨sumshere_157, h_sumshere_157, h⟩ := bd_some h
    have h_sumshere_157 := Option.some.inj h_sumshere_157
    refine st_asgL' R (gl_eqn (f := (eL PyData.int)) (gl_gv R (gv_call (gaA_cons (ga_arg R rfl A_sizes_154) gaA_nil) fun _ _ _ _ f q => ⟨_, _, h_r_156, f, q⟩)) h_sumshere_157) fun v_sumshere_157 H1 R => (st_go (σ' := [some v_sizes_154, some v_rowhere_155, some v_sumshere_157, none]) rfl ?_)
    obtain ⟨g_158, h_g_158, h⟩ := bd_some h
    obtain ⟨out_167, hl_160, hO_161⟩ := bd_some h
    refine st_rng1 R (ev_len (f := PyData.int) (xs := sumshere_157) (ga_loc R rfl 0 rfl)) (gd_some h_g_158) (fun i σ' H' => ∃ (y_3 : Option V), forC (m_law_fits_l1 sumshere_157 rowhere_155) (List.drop i (rng 0 ((sumshere_157).length : Int))) _ = some out_167 ∧ σ' = [some v_sizes_154, some v_rowhere_155, some v_sumshere_157, y_3] ∧ Rg K H0 [(v_sumshere_157, ((eL PyData.int) sumshere_157))] [] H') (fun H1 R => ⟨_, hl_160, rfl, (R.pick ⟨R.at 0 rfl, trivial⟩)⟩) (fun i k_159 σ' H' hx hM => ?_) (fun σ' H' hM => ?_)
    · obtain ⟨y_3, hl_160, rfl, R⟩ := hM
      obtain ⟨o1, h, hgo_163, hret_162, hbrk_164⟩ := forC_step hx hl_160
      unfold m_law_fits_l1 at h
      try dsimp only at h
      refine st_go (σ' := [some v_sizes_154, some v_rowhere_155, some v_sumshere_157, some (V.int k_159)]) rfl ?_
      obtain ⟨q_165, h_q_165, h⟩ := bd_some h
      obtain ⟨q_166, h_q_166, h⟩ := bd_some h
      refine st_if R (Evl.et_test (ev_I0 (ev_int (ga_ix (f := PyData.int) (xs := sumshere_157) (ga_loc R rfl 0 rfl) (Evl.ev_var rfl) h_q_165)) (ev_int (ga_ix (f := PyData.int) (xs := rowhere_155) (ga_arg R rfl A_rowhere_155) (Evl.ev_var rfl) h_q_166)))) (fun hc H1 R => ?_) (fun hc H1 R => ?_)
      · rw [ite_t hc] at h
        cases h
        obtain rfl := hret_162 _ rfl
        have h : some false = some _ := hO_161
        have h_ := Option.some.inj h
        subst h_
        exact st_rt R (gl_bl Evl.ev_c) q rfl
      · rw [ite_f hc] at h
        cases h
        repeat with_reducible refine st_fall1 ?_
        exact ⟨_, hgo_163 _ rfl, rfl, (R.pick ⟨R.at 0 rfl, trivial⟩)⟩
    · obtain ⟨y_3, hl_160, rfl, R⟩ := hM
      obtain rfl := forC_end rfl hl_160
      have h := hO_161
      try dsimp only [ctl] at h
      have h_ := Option.some.inj h
      subst h_
      exact st_rt R (gl_bl Evl.ev_c) q rfl
abbrev s__law_all_lists : Stmt := topS 13
theorem sc__law_all_lists : FnScope ["_law_total", "_law_most", "_law_found", "_law_k", "_law_first", "_law_rest"] ["_law_total", "_law_most"] (defScope s__law_all_lists) := ⟨rfl, rfl, rfl, by decide +kernel, rfl, by decide +kernel, by decide +kernel⟩
def m_law_all_lists_l1 (first_179 : Int) (s_ : (List (List Int))) (x_ : (List Int)) : Option (List (List Int)) :=
  match s_, x_ with
  | found_188, rest_181 =>
    bd (gd (([first_179]).length + (rest_181).length ≤ sizeLine)) fun g_190 =>
    bd (gd ((found_188).length < sizeLine)) fun g_191 =>
    bd (some (found_188 ++ [([first_179] ++ rest_181)])) fun found_189 =>
    some found_189
def m_law_all_lists_l2 (rec_ : Int → Int → Option (List (List Int))) (most_169 : Int) (total_168 : Int) (s_ : (List (List Int))) (x_ : Int) : Option (List (List Int)) :=
  match s_, x_ with
  | found_178, k_172 =>
    bd (some ((if most_169 < total_168 then most_169 else total_168) - k_172)) fun first_179 =>
    bd (rec_ (total_168 - first_179) first_179) fun r_180 =>
    bd (forP (m_law_all_lists_l1 first_179) r_180 found_178) fun found_188 =>
    some found_188
def m_law_all_lists (n_ : Nat) (total_168 : Int) (most_169 : Int) : Option (List (List Int)) :=
  match n_ with
  | 0 => none
  | n + 1 =>
    if (decide (total_168 = (0 : Int))) = true then
    (some [[]])
    else
    (bd (some []) fun found_170 =>
    bd (gd (-(2 ^ 62) ≤ (if most_169 < total_168 then most_169 else total_168) ∧ (if most_169 < total_168 then most_169 else total_168) < 2 ^ 62)) fun g_171 =>
    bd (forP (m_law_all_lists_l2 (m_law_all_lists n) most_169 total_168) (rng 0 (if most_169 < total_168 then most_169 else total_168)) found_170) fun found_178 =>
    some found_178)
def sp__law_all_lists (K : PySem.W.Frag) (n : Nat) : Sp := fun vs H Q _ => ∃ (total_168 : Int), ∃ (most_169 : Int), ∃ r, m_law_all_lists n total_168 most_169 = some r ∧ DdAll K H vs [(PyData.int total_168), (PyData.int most_169)] ∧ ∀ v H2, Ex H H2 → Dd K (mn H2 H) v ((eL (eL PyData.int)) r) → Q v H2
theorem ok__law_all_lists {f__law_all_lists : Addr} {fd__law_all_lists : FuncData} (F__law_all_lists : FnP K "_law_all_lists" s__law_all_lists f__law_all_lists fd__law_all_lists) (z_min : mg "min" = none) (z_range : mg "range" = none) (g__law_all_lists : mg "_law_all_lists" = some (.ref f__law_all_lists)) (b__law_all_lists : Binds K fd__law_all_lists ["_law_total", "_law_most"] []) : ∀ n : Nat, FnOk P w K mg base CX0 (1 + n) f__law_all_lists fd__law_all_lists ["_law_total", "_law_most"] (sp__law_all_lists K n)
  | 0 => ⟨fun _ _ _ _ h => by obtain ⟨_, _, _, h, _⟩ := h; exact (nomatch (show none = some _ from h)), fun _ _ _ _ _ _ _ _ _ _ _ _ _ h => by obtain ⟨_, _, _, h, _⟩ := h; exact (nomatch (show none = some _ from h))⟩
  | n + 1 => by
    have G__law_all_lists := ok__law_all_lists F__law_all_lists z_min z_range g__law_all_lists b__law_all_lists n
    refine F__law_all_lists.ok sc__law_all_lists (fun vs H Q E h => ?_) (fun cdv A outer s H0 vs Q E hr h => ?_)
    · obtain ⟨_, _, _, _, f, _⟩ := h; exact f.length
    · obtain ⟨total_168, most_169, r, h, f, q⟩ := h
      obtain ⟨v_total_168, vs0, A_total_168, f0, e_0⟩ := dd_cons f; subst e_0
      obtain ⟨v_most_169, vs1, A_most_169, f1, e_1⟩ := dd_cons f0; subst e_1
      obtain rfl := dd_nil f1
      obtain rfl := dd_int A_total_168
      obtain rfl := dd_int A_most_169
      unfold m_law_all_lists at h
      try dsimp only at h
      have hr : Room (1 + n) _ := hr
      refine ⟨_, PSs.nox (pss_cons (ps_if (pt_cmpR op_eq (pv 0) pe_int (nomark _)) (pss_cons (ps_ret (pe_lst (pa_cons (pe_lst pa_nil) pa_nil))) pss_nil) pss_nil) (pss_cons (ps_set (i := 2) sc__law_all_lists.nd rfl (Or.inl rfl) (pe_lst pa_nil)) (pss_cons (ps_for PassesOwn.never rfl (pi_range1 (by rfl) z_range (pa_cons (pe_callB (call_min2 rfl) (by rfl) z_min (by decide +kernel) (pa_cons (pv 0) (pa_cons (pv 1) pa_nil))) pa_nil)) (pg_name (i := 3) sc__law_all_lists.nd rfl (Or.inl rfl)) (pss_cons (ps_set (i := 4) sc__law_all_lists.nd rfl (Or.inl rfl) (pe_op op_sub (pe_callB (call_min2 rfl) (by rfl) z_min (by decide +kernel) (pa_cons (pv 0) (pa_cons (pv 1) pa_nil))) (pv 3))) (pss_cons (ps_for PassesOwn.never rfl (pi_list (pe_call G__law_all_lists (hr.mono (by omega)) (by rfl) g__law_all_lists F__law_all_lists.kp b__law_all_lists .nil pass0 (pa_cons (pe_op op_sub (pv 0) (pv 4)) (pa_cons (pv 4) pa_nil)))) (pg_name (i := 5) sc__law_all_lists.nd rfl (Or.inl rfl)) (pss_cons (ps_expr (pe_bm PySem.F.plainAttrs_list PySem.F.slot_list_append PySem.F.type_list_append mt_append (pv 2) (pa_cons (pe_op op_cat (pe_lst (pa_cons (pv 4) pa_nil)) (pv 5)) pa_nil))) pss_nil)) pss_nil))) (pss_cons (ps_ret (pv 2)) pss_nil)))), ?_⟩
      have R : Rg K H0 [] [] H0 := .init
      refine st_go (σ' := [some (V.int total_168), some (V.int most_169), none, none, none, none]) rfl ?_
      refine st_if R (Evl.et_test (ev_eqI (Evl.ev_var rfl) Evl.ev_c)) (fun hc H1 R => ?_) (fun hc H1 R => ?_)
      · rw [ite_t hc] at h
        have h_ := Option.some.inj h
        subst h_
        exact st_rt R (gl_gn R (gn_lstT (f := (eL PyData.int)) (xs := [[]]) (glA_cons (gl_gn R (gn_lstT (f := PyData.int) (xs := ([] : List Int)) glA_nil (Nat.zero_le _))) glA_nil) (by simp only [List.length_cons, List.length_nil]; decide))) q rfl
      · rw [ite_f hc] at h
        repeat with_reducible refine st_fall1 ?_
        with_reducible refine st_fall2 ?_
        obtain ⟨found_170, h_found_170, h⟩ := bd_some h
        have h_found_170 := Option.some.inj h_found_170
        refine st_asgO' R (gn_eqn (gn_lstT (f := (eL PyData.int)) (xs := ([] : List (List Int))) glA_nil (Nat.zero_le _)) h_found_170) fun p_found_170 H1 R => (st_go (σ' := [some (V.int total_168), some (V.int most_169), some (V.ref p_found_170), none, none, none]) rfl ?_)
        obtain ⟨g_171, h_g_171, h⟩ := bd_some h
        obtain ⟨found_178o, hl_173, h⟩ := bd_some h
        try dsimp only at h
        refine st_rng1 R (ev_min2 (Evl.ev_var rfl) (Evl.ev_var rfl)) (gd_some h_g_171) (fun i σ' H' => ∃ (found_178 : (List (List Int))), ∃ (y_5 : Option V), ∃ (y_4 : Option V), ∃ (y_3 : Option V), forP (m_law_all_lists_l2 (m_law_all_lists n) most_169 total_168) (List.drop i (rng 0 (if most_169 < total_168 then most_169 else total_168))) found_178 = some found_178o ∧ σ' = [some (V.int total_168), some (V.int most_169), some (V.ref p_found_170), y_3, y_4, y_5] ∧ Rg K H0 [] [(p_found_170, (List.map (eL PyData.int) found_178))] H') (fun H1 R => ⟨_, _, _, _, hl_173, rfl, (R.pick trivial)⟩) (fun i k_172 σ' H' hx hM => ?_) (fun σ' H' hM => ?_)
        · obtain ⟨found_178, y_5, y_4, y_3, hl_173, rfl, R⟩ := hM
          obtain ⟨s1, h, hl_173⟩ := forP_step hx hl_173
          unfold m_law_all_lists_l2 at h
          try dsimp only at h
          refine st_go (σ' := [some (V.int total_168), some (V.int most_169), some (V.ref p_found_170), some (V.int k_172), y_4, y_5]) rfl ?_
          obtain ⟨first_179, h_first_179, h⟩ := bd_some h
          have h_first_179 := Option.some.inj h_first_179
          refine st_asgI R (ev_eqn (ev_I0 (ev_min2 (Evl.ev_var rfl) (Evl.ev_var rfl)) (Evl.ev_var rfl)) h_first_179) (σ' := [some (V.int total_168), some (V.int most_169), some (V.ref p_found_170), some (V.int k_172), some (V.int first_179), y_5]) rfl fun H1 R => ?_
          obtain ⟨r_180, h_r_180, h⟩ := bd_some h
          obtain ⟨found_188o, hl_183, h⟩ := bd_some h
          try dsimp only at h
          refine st_forG (f := (eL PyData.int)) (xs := r_180) R (gl_gv R (gv_call (gaA_cons (ga_int (ev_I0 (Evl.ev_var rfl) (Evl.ev_var rfl))) (gaA_cons (ga_int (Evl.ev_var rfl)) gaA_nil)) fun _ _ _ _ f q => ⟨_, _, _, h_r_180, f, q⟩)) (fun v_182 i σ' H' => ∃ (found_188 : (List (List Int))), ∃ (y_5 : Option V), forP (m_law_all_lists_l1 first_179) (List.drop i r_180) found_188 = some found_188o ∧ σ' = [some (V.int total_168), some (V.int most_169), some (V.ref p_found_170), some (V.int k_172), some (V.int first_179), y_5] ∧ Rg K H0 [(v_182, ((eL (eL PyData.int)) r_180))] [(p_found_170, (List.map (eL PyData.int) found_188))] H') (fun v_182 H1 R => ⟨_, _, hl_183, rfl, (R.pick ⟨R.at 0 rfl, trivial⟩)⟩) (fun v_182 i σ' H' hM => ?_) (fun v_182 i rest_181 w_rest_181 σ' H' hx hw hM => ?_) (fun v_182 σ' H' hM => ?_)
          · obtain ⟨found_188, y_5, hl_183, rfl, R⟩ := hM
            exact R.atH 0 rfl
          · obtain ⟨found_188, y_5, hl_183, rfl, R⟩ := hM
            have R := R.add (hw _ ex_lc (R.at 0 rfl))
            obtain ⟨s1, h, hl_183⟩ := forP_step hx hl_183
            unfold m_law_all_lists_l1 at h
            try dsimp only at h
            refine st_go (σ' := [some (V.int total_168), some (V.int most_169), some (V.ref p_found_170), some (V.int k_172), some (V.int first_179), some w_rest_181]) rfl ?_
            obtain ⟨g_190, h_g_190, h⟩ := bd_some h
            obtain ⟨g_191, h_g_191, h⟩ := bd_some h
            obtain ⟨found_189, h_found_189, h⟩ := bd_some h
            have h_found_189 := Option.some.inj h_found_189
            refine st_appT R rfl (j := 0) rfl (gl_gn R (gn_catT (f := PyData.int) (xs := [first_179]) (ys := rest_181) (ge_gn (gn_lstT (f := PyData.int) (xs := [first_179]) (glA_cons (gl_int (Evl.ev_var rfl)) glA_nil) (by simp only [List.length_cons, List.length_nil]; decide))) (ge_gl (gl_loc R rfl 0 rfl)) (gd_some h_g_190))) (gd_some h_g_191) h_found_189 (os' := [(p_found_170, (List.map (eL PyData.int) found_189))]) rfl fun H1 R => ?_
            cases h
            repeat with_reducible refine st_fall1 ?_
            exact ⟨_, _, hl_183, rfl, (R.pick ⟨R.at 1 rfl, trivial⟩)⟩
          · obtain ⟨found_188, y_5, hl_183, rfl, R⟩ := hM
            have e_0 := forP_end rfl hl_183
            subst e_0
            cases h
            repeat with_reducible refine st_fall1 ?_
            exact ⟨_, _, _, _, hl_173, rfl, (R.pick trivial)⟩
        · obtain ⟨found_178, y_5, y_4, y_3, hl_173, rfl, R⟩ := hM
          have e_0 := forP_end rfl hl_173
          subst e_0
          have R := R.rel (i := 0) (os' := []) rfl rfl
          have h_ := Option.some.inj h
          subst h_
          exact st_rt R (gl_loc R rfl 0 rfl) q rfl
abbrev s__law_row : Stmt := topS 14
theorem sc__law_row : FnScope ["_law_script", "_law_head", "_law_count", "_law_low", "_law_menu", "_law_draws_here", "_law_sums_here", "_law_k", "_law_draw"] ["_law_script"] (defScope s__law_row) := ⟨rfl, rfl, rfl, by decide +kernel, rfl, by decide +kernel, by decide +kernel⟩
def m_law_row (script_194 : (List Int)) : Option (List Int) :=
  bd (m_law_cell script_194 (0 : Int)) fun r_195 =>
  bd (m_law_draws r_195 [(8 : Int), (6 : Int), (51 : Int), (198 : Int), (2 : Int)]) fun r_196 =>
  bd (some r_196) fun head_197 =>
  bd (atI head_197 (1 : Int)) fun q_198 =>
  bd (some q_198) fun count_199 =>
  bd (atI head_197 (0 : Int)) fun q_200 =>
  bd (if (decide (q_200 = (6 : Int))) = true then
  (bd (atI head_197 (2 : Int)) fun q_202 =>
  bd (some q_202) fun count_203 =>
  some count_203)
  else
  (some count_199)) fun count_204 =>
  bd (atI head_197 (0 : Int)) fun q_205 =>
  bd (if (decide (q_205 = (7 : Int))) = true then
  (bd (atI head_197 (3 : Int)) fun q_207 =>
  bd (some q_207) fun count_208 =>
  some count_208)
  else
  (some count_204)) fun count_209 =>
  bd (some (-2 : Int)) fun low_210 =>
  bd (gd (RepOk ([(count_209 + (5 : Int))]).length count_209)) fun g_211 =>
  bd (some (repI [(count_209 + (5 : Int))] count_209)) fun menu_212 =>
  bd (atI head_197 (0 : Int)) fun q_213 =>
  bd (if (decide ((5 : Int) < q_213)) = true then (bd (atI head_197 (4 : Int)) fun q_214 => some (decide (q_214 = (1 : Int)))) else some false) fun c_215 =>
  bd (if c_215 = true then
  (bd (some (-999999 : Int)) fun low_217 =>
  bd (gd (RepOk ([(1999999 : Int)]).length count_209)) fun g_218 =>
  bd (some (repI [(1999999 : Int)] count_209)) fun menu_219 =>
  some (low_217, menu_219))
  else
  (some (low_210, menu_212))) fun (low_220, menu_221) =>
  bd (m_law_cell script_194 (1 : Int)) fun r_222 =>
  bd (m_law_draws r_222 menu_221) fun r_223 =>
  bd (some r_223) fun drawshere_224 =>
  bd (atI head_197 (0 : Int)) fun q_225 =>
  bd (if (decide ((2 : Int) < q_225)) = true then (bd (atI head_197 (0 : Int)) fun q_226 => some (decide (q_226 < (6 : Int)))) else some false) fun c_227 =>
  if c_227 = true then
  (bd (m_law_cell script_194 (2 : Int)) fun r_228 =>
  bd (m_law_list r_228 count_209) fun r_229 =>
  bd (m_law_sums r_229) fun r_230 =>
  bd (some r_230) fun sumshere_231 =>
  bd (gd (-(2 ^ 62) ≤ count_209 ∧ count_209 < 2 ^ 62)) fun g_239 =>
  bd (cmP (fun k_232 => (bd (atI sumshere_231 k_232) fun q_237 => (bd (atI drawshere_224 k_232) fun q_238 => some (some ((q_237 + (q_238 % (4 : Int))) - (1 : Int)))))) (rng 0 count_209)) fun l_235 =>
  bd (gd (l_235.length ≤ sizeLine)) fun g_236 =>
  some l_235)
  else
  (bd (cmP (fun draw_240 => some (some (low_220 + draw_240))) drawshere_224) fun l_244 =>
  bd (gd (l_244.length ≤ sizeLine)) fun g_245 =>
  some l_244)
def sp__law_row (K : PySem.W.Frag) : Sp := fun vs H Q _ => ∃ (script_194 : (List Int)), ∃ r, m_law_row script_194 = some r ∧ DdAll K H vs [(eS script_194)] ∧ ∀ v H2, Ex H H2 → Dd K (mn H2 H) v ((eL PyData.int) r) → Q v H2
theorem ok__law_row {f__law_row : Addr} {fd__law_row : FuncData} (F : FnP K "_law_row" s__law_row f__law_row fd__law_row) {f__law_cell : Addr} {fd__law_cell : FuncData} (F__law_cell : FnP K "_law_cell" s__law_cell f__law_cell fd__law_cell) (G__law_cell : FnOk P w K mg base CX0 1 f__law_cell fd__law_cell ["_law_script", "_law_k"] (sp__law_cell K)) (g__law_cell : mg "_law_cell" = some (.ref f__law_cell)) (b__law_cell : Binds K fd__law_cell ["_law_script", "_law_k"] []) {f__law_draws : Addr} {fd__law_draws : FuncData} (F__law_draws : FnP K "_law_draws" s__law_draws f__law_draws fd__law_draws) (G__law_draws : FnOk P w K mg base CX0 2 f__law_draws fd__law_draws ["_law_cell_here", "_law_menu"] (sp__law_draws K)) (g__law_draws : mg "_law_draws" = some (.ref f__law_draws)) (b__law_draws : Binds K fd__law_draws ["_law_cell_here", "_law_menu"] []) {f__law_list : Addr} {fd__law_list : FuncData} (F__law_list : FnP K "_law_list" s__law_list f__law_list fd__law_list) (G__law_list : FnOk P w K mg base CX0 3 f__law_list fd__law_list ["_law_cell_here", "_law_total"] (sp__law_list K)) (g__law_list : mg "_law_list" = some (.ref f__law_list)) (b__law_list : Binds K fd__law_list ["_law_cell_here", "_law_total"] []) {f__law_sums : Addr} {fd__law_sums : FuncData} (F__law_sums : FnP K "_law_sums" s__law_sums f__law_sums fd__law_sums) (G__law_sums : FnOk P w K mg base CX0 1 f__law_sums fd__law_sums ["_law_sizes"] (sp__law_sums K)) (g__law_sums : mg "_law_sums" = some (.ref f__law_sums)) (b__law_sums : Binds K fd__law_sums ["_law_sizes"] []) (z_int : mg "int" = none) (z_range : mg "range" = none) : FnOk P w K mg base CX0 4 f__law_row fd__law_row ["_law_script"] (sp__law_row K) := by
  refine F.ok sc__law_row (fun vs H Q E h => ?_) (fun cdv A outer s H0 vs Q E hr h => ?_)
  · obtain ⟨_, _, _, f, _⟩ := h; exact f.length
  · obtain ⟨script_194, r, h, f, q⟩ := h
    obtain ⟨v_script_194, vs0, A_script_194, f0, e_0⟩ := dd_cons f; subst e_0
    obtain rfl := dd_nil f0
    unfold m_law_row at h
    refine ⟨_, PSs.nox (pss_cons (ps_set (i := 1) sc__law_row.nd rfl (Or.inl rfl) (pe_call G__law_draws (hr.mono (by omega)) (by rfl) g__law_draws F__law_draws.kp b__law_draws .nil pass0 (pa_cons (pe_call G__law_cell (hr.mono (by omega)) (by rfl) g__law_cell F__law_cell.kp b__law_cell .nil pass0 (pa_cons (pv 0) (pa_cons pe_int pa_nil))) (pa_cons (pe_lst (pa_cons pe_int (pa_cons pe_int (pa_cons pe_int (pa_cons pe_int (pa_cons pe_int pa_nil)))))) pa_nil)))) (pss_cons (ps_set (i := 2) sc__law_row.nd rfl (Or.inl rfl) (pe_ix (r := rIxL K) ix_list (pv 1) pe_int (fun _ _ => rfl))) (Evl.pss_cut (ps_if (pt_cmpR op_eq (pe_ix (r := rIxL K) ix_list (pv 1) pe_int (fun _ _ => rfl)) pe_int (nomark _)) (pss_cons (ps_set (i := 2) sc__law_row.nd rfl (Or.inl rfl) (pe_ix (r := rIxL K) ix_list (pv 1) pe_int (fun _ _ => rfl))) pss_nil) pss_nil) (Evl.pss_cut (ps_if (pt_cmpR op_eq (pe_ix (r := rIxL K) ix_list (pv 1) pe_int (fun _ _ => rfl)) pe_int (nomark _)) (pss_cons (ps_set (i := 2) sc__law_row.nd rfl (Or.inl rfl) (pe_ix (r := rIxL K) ix_list (pv 1) pe_int (fun _ _ => rfl))) pss_nil) pss_nil) (pss_cons (ps_set (i := 3) sc__law_row.nd rfl (Or.inr rfl) (pe_un un_neg pe_int)) (pss_cons (ps_set (i := 4) sc__law_row.nd rfl (Or.inl rfl) (pe_op op_rep (pe_lst (pa_cons (pe_op op_add (pv 2) pe_int) pa_nil)) (pv 2))) (Evl.pss_cut (ps_if (PW.pt (pw_and (pt_cmpR op_gt (pe_ix (r := rIxL K) ix_list (pv 1) pe_int (fun _ _ => rfl)) pe_int (nomark _)) (pw_and1 (pt_cmpR op_eq (pe_ix (r := rIxL K) ix_list (pv 1) pe_int (fun _ _ => rfl)) pe_int (nomark _))))) (pss_cons (ps_set (i := 3) sc__law_row.nd rfl (Or.inr rfl) (pe_un un_neg pe_int)) (pss_cons (ps_set (i := 4) sc__law_row.nd rfl (Or.inl rfl) (pe_op op_rep (pe_lst (pa_cons pe_int pa_nil)) (pv 2))) pss_nil)) pss_nil) (pss_cons (ps_set (i := 5) sc__law_row.nd rfl (Or.inr rfl) (pe_call G__law_draws (hr.mono (by omega)) (by rfl) g__law_draws F__law_draws.kp b__law_draws .nil pass0 (pa_cons (pe_call G__law_cell (hr.mono (by omega)) (by rfl) g__law_cell F__law_cell.kp b__law_cell .nil pass0 (pa_cons (pv 0) (pa_cons pe_int pa_nil))) (pa_cons (pv 4) pa_nil)))) (pss_cons (ps_if (PW.pt (pw_and (pt_cmpR op_gt (pe_ix (r := rIxL K) ix_list (pv 1) pe_int (fun _ _ => rfl)) pe_int (nomark _)) (pw_and1 (pt_cmpR op_lt (pe_ix (r := rIxL K) ix_list (pv 1) pe_int (fun _ _ => rfl)) pe_int (nomark _))))) (pss_cons (ps_set (i := 6) sc__law_row.nd rfl (Or.inr rfl) (pe_call G__law_sums (hr.mono (by omega)) (by rfl) g__law_sums F__law_sums.kp b__law_sums .nil pass0 (pa_cons (pe_call G__law_list (hr.mono (by omega)) (by rfl) g__law_list F__law_list.kp b__law_list .nil pass0 (pa_cons (pe_call G__law_cell (hr.mono (by omega)) (by rfl) g__law_cell F__law_cell.kp b__law_cell .nil pass0 (pa_cons (pv 0) (pa_cons pe_int pa_nil))) (pa_cons (pv 2) pa_nil))) pa_nil))) (pss_cons (ps_ret (pe_lc (own := [("_law_k", 7)]) (g := gName 7) (tt := tYes) rfl sc__law_row.nd (pi_range1 (by rfl) z_range (pa_cons (pv 2) pa_nil)) (blkOk_by (N := ["_law_script", "_law_head", "_law_count", "_law_low", "_law_menu", "_law_draws_here", "_law_sums_here", "_law_k", "_law_draw"]) (sc := (defScope s__law_row)) (by decide +kernel)) (fun _ _ _ _ _ => pg_name (i := 7) sc__law_row.nd rfl (Or.inl rfl)) (fun _ _ _ _ _ => pts_nil) (fun _ _ _ _ _ => (pe_op op_sub (pe_op op_add (pe_ix (r := rIxL K) ix_list (pv 6) (pv 7) (fun _ _ => rfl)) (pe_op op_mod (pe_callTy call_int1 (by rfl) z_int (by decide +kernel) (pa_cons (pe_ix (r := rIxL K) ix_list (pv 5) (pv 7) (fun _ _ => rfl)) pa_nil)) pe_int)) pe_int)))) pss_nil)) pss_nil) (pss_cons (ps_ret (pe_lc (own := [("_law_draw", 8)]) (g := gName 8) (tt := tYes) rfl sc__law_row.nd (pi_list (pv 5)) (blkOk_by (N := ["_law_script", "_law_head", "_law_count", "_law_low", "_law_menu", "_law_draws_here", "_law_sums_here", "_law_k", "_law_draw"]) (sc := (defScope s__law_row)) (by decide +kernel)) (fun _ _ _ _ _ => pg_name (i := 8) sc__law_row.nd rfl (Or.inl rfl)) (fun _ _ _ _ _ => pts_nil) (fun _ _ _ _ _ => (pe_op op_add (pv 3) (pv 8))))) pss_nil)))))))))), ?_⟩
    have R : Rg K H0 [] [] H0 := .init
    refine st_go (σ' := [some v_script_194, none, none, none, none, none, none, none, none]) rfl ?_
    obtain ⟨r_195, h_r_195, h⟩ := bd_some h
    obtain ⟨r_196, h_r_196, h⟩ := bd_some h
    obtain ⟨head_197, h_head_197, h⟩ := bd_some h
    have h_head_197 := Option.some.inj h_head_197
    refine st_asgL' R (gl_eqn (f := (eL PyData.int)) (gl_gv R (gv_call (gaA_cons (ga_int (ev_int (ga_gv (gv_call (gaA_cons (ga_arg R rfl A_script_194) (gaA_cons (ga_int Evl.ev_c) gaA_nil)) fun _ _ _ _ f q => ⟨_, _, _, h_r_195, f, q⟩)))) (gaA_cons (ga_gl (gl_gn R (gn_lstT (f := PyData.int) (xs := [(8 : Int), (6 : Int), (51 : Int), (198 : Int), (2 : Int)]) (glA_cons (gl_int Evl.ev_c) (glA_cons (gl_int Evl.ev_c) (glA_cons (gl_int Evl.ev_c) (glA_cons (gl_int Evl.ev_c) (glA_cons (gl_int Evl.ev_c) glA_nil))))) (by simp only [List.length_cons, List.length_nil]; decide)))) gaA_nil)) fun _ _ _ _ f q => ⟨_, _, _, h_r_196, f, q⟩)) h_head_197) fun v_head_197 H1 R => (st_go (σ' := [some v_script_194, some v_head_197, none, none, none, none, none, none, none]) rfl ?_)
    obtain ⟨q_198, h_q_198, h⟩ := bd_some h
    obtain ⟨count_199, h_count_199, h⟩ := bd_some h
    have h_count_199 := Option.some.inj h_count_199
    refine st_asgI R (ev_eqn (ev_int (ga_ix (f := PyData.int) (xs := head_197) (ga_loc R rfl 0 rfl) Evl.ev_c h_q_198)) h_count_199) (σ' := [some v_script_194, some v_head_197, some (V.int count_199), none, none, none, none, none, none]) rfl fun H1 R => ?_
    obtain ⟨q_200, h_q_200, h⟩ := bd_some h
    obtain ⟨count_204, hj, h⟩ := bd_some h
    try dsimp only at h
    refine Evl.q_cut (M := fun σ' H' => σ' = [some v_script_194, some v_head_197, some (V.int count_204), none, none, none, none, none, none] ∧ Rg K H0 [(v_head_197, ((eL PyData.int) head_197))] [] H') (st_if1 R (Evl.et_test (ev_eqI (ev_int (ga_ix (f := PyData.int) (xs := head_197) (ga_loc R rfl 0 rfl) Evl.ev_c h_q_200)) Evl.ev_c)) (fun hc H1 R => ?_) (fun hc H1 R => ?_)) (fun σ' H' hM => ?_)
    · rw [ite_t hc] at hj
      have h := hj
      obtain ⟨q_202, h_q_202, h⟩ := bd_some h
      obtain ⟨count_203, h_count_203, h⟩ := bd_some h
      have h_count_203 := Option.some.inj h_count_203
      refine st_asgI R (ev_eqn (ev_int (ga_ix (f := PyData.int) (xs := head_197) (ga_loc R rfl 0 rfl) Evl.ev_c h_q_202)) h_count_203) (σ' := [some v_script_194, some v_head_197, some (V.int count_203), none, none, none, none, none, none]) rfl fun H1 R => ?_
      cases h
      repeat with_reducible refine st_fall1 ?_
      exact ⟨rfl, (R.pick ⟨R.at 0 rfl, trivial⟩)⟩
    · rw [ite_f hc] at hj
      have h := hj
      cases h
      repeat with_reducible refine st_fall1 ?_
      exact ⟨rfl, (R.pick ⟨R.at 0 rfl, trivial⟩)⟩
    obtain ⟨rfl, R⟩ := hM
    obtain ⟨q_205, h_q_205, h⟩ := bd_some h
    obtain ⟨count_209, hj, h⟩ := bd_some h
    try dsimp only at h
    refine Evl.q_cut (M := fun σ' H' => σ' = [some v_script_194, some v_head_197, some (V.int count_209), none, none, none, none, none, none] ∧ Rg K H0 [(v_head_197, ((eL PyData.int) head_197))] [] H') (st_if1 R (Evl.et_test (ev_eqI (ev_int (ga_ix (f := PyData.int) (xs := head_197) (ga_loc R rfl 0 rfl) Evl.ev_c h_q_205)) Evl.ev_c)) (fun hc H1 R => ?_) (fun hc H1 R => ?_)) (fun σ' H' hM => ?_)
    · rw [ite_t hc] at hj
      have h := hj
      obtain ⟨q_207, h_q_207, h⟩ := bd_some h
      obtain ⟨count_208, h_count_208, h⟩ := bd_some h
      have h_count_208 := Option.some.inj h_count_208
      refine st_asgI R (ev_eqn (ev_int (ga_ix (f := PyData.int) (xs := head_197) (ga_loc R rfl 0 rfl) Evl.ev_c h_q_207)) h_count_208) (σ' := [some v_script_194, some v_head_197, some (V.int count_208), none, none, none, none, none, none]) rfl fun H1 R => ?_
      cases h
      repeat with_reducible refine st_fall1 ?_
      exact ⟨rfl, (R.pick ⟨R.at 0 rfl, trivial⟩)⟩
    · rw [ite_f hc] at hj
      have h := hj
      cases h
      repeat with_reducible refine st_fall1 ?_
      exact ⟨rfl, (R.pick ⟨R.at 0 rfl, trivial⟩)⟩
    obtain ⟨rfl, R⟩ := hM
    obtain ⟨low_210, h_low_210, h⟩ := bd_some h
    have h_low_210 := Option.some.inj h_low_210
    refine st_asgI R (ev_eqn (ev_neg Evl.ev_c) h_low_210) (σ' := [some v_script_194, some v_head_197, some (V.int count_209), some (V.int low_210), none, none, none, none, none]) rfl fun H1 R => ?_
    obtain ⟨g_211, h_g_211, h⟩ := bd_some h
    obtain ⟨menu_212, h_menu_212, h⟩ := bd_some h
    have h_menu_212 := Option.some.inj h_menu_212
    refine st_asgL' R (gl_eqn (f := (eL PyData.int)) (gl_gn R (gn_repT (f := PyData.int) (xs := [(count_209 + (5 : Int))]) (ge_gn (gn_lstT (f := PyData.int) (xs := [(count_209 + (5 : Int))]) (glA_cons (gl_int (ev_I0 (Evl.ev_var rfl) Evl.ev_c)) glA_nil) (by simp only [List.length_cons, List.length_nil]; decide))) (Evl.ev_var rfl) (gd_some h_g_211))) h_menu_212) fun v_menu_212 H1 R => (st_go (σ' := [some v_script_194, some v_head_197, some (V.int count_209), some (V.int low_210), some v_menu_212, none, none, none, none]) rfl ?_)
    obtain ⟨q_213, h_q_213, h⟩ := bd_some h
    obtain ⟨c_215, h_c_215, h⟩ := bd_some h
    obtain ⟨⟨low_220, menu_221⟩, hj, h⟩ := bd_some h
    try dsimp only at h
    refine Evl.q_cut (M := fun σ' H' => ∃ (u_4 : V), σ' = [some v_script_194, some v_head_197, some (V.int count_209), some (V.int low_220), some u_4, none, none, none, none] ∧ Rg K H0 [(u_4, ((eL PyData.int) menu_221)), (v_head_197, ((eL PyData.int) head_197))] [] H') (st_if1 R (et_andP (Evl.et_test (ev_I0 (ev_int (ga_ix (f := PyData.int) (xs := head_197) (ga_loc R rfl 1 rfl) Evl.ev_c h_q_213)) Evl.ev_c)) h_c_215 fun hM => by obtain ⟨q_214, h_q_214, hM⟩ := bd_some hM; exact et_eq (Evl.et_test (ev_eqI (ev_int (ga_ix (f := PyData.int) (xs := head_197) (ga_loc R rfl 1 rfl) Evl.ev_c h_q_214)) Evl.ev_c)) (Option.some.inj hM)) (fun hc H1 R => ?_) (fun hc H1 R => ?_)) (fun σ' H' hM => ?_)
    · rw [ite_t hc] at hj
      have h := hj
      obtain ⟨low_217, h_low_217, h⟩ := bd_some h
      have h_low_217 := Option.some.inj h_low_217
      refine st_asgI R (ev_eqn (ev_neg Evl.ev_c) h_low_217) (σ' := [some v_script_194, some v_head_197, some (V.int count_209), some (V.int low_217), some v_menu_212, none, none, none, none]) rfl fun H1 R => ?_
      obtain ⟨g_218, h_g_218, h⟩ := bd_some h
      obtain ⟨menu_219, h_menu_219, h⟩ := bd_some h
      have h_menu_219 := Option.some.inj h_menu_219
      refine st_asgL' R (gl_eqn (f := (eL PyData.int)) (gl_gn R (gn_repT (f := PyData.int) (xs := [(1999999 : Int)]) (ge_gn (gn_lstT (f := PyData.int) (xs := [(1999999 : Int)]) (glA_cons (gl_int Evl.ev_c) glA_nil) (by simp only [List.length_cons, List.length_nil]; decide))) (Evl.ev_var rfl) (gd_some h_g_218))) h_menu_219) fun v_menu_219 H1 R => (st_go (σ' := [some v_script_194, some v_head_197, some (V.int count_209), some (V.int low_217), some v_menu_219, none, none, none, none]) rfl ?_)
      cases h
      repeat with_reducible refine st_fall1 ?_
      exact ⟨_, rfl, (R.pick ⟨R.at 0 rfl, R.at 2 rfl, trivial⟩)⟩
    · rw [ite_f hc] at hj
      have h := hj
      cases h
      repeat with_reducible refine st_fall1 ?_
      exact ⟨_, rfl, (R.pick ⟨R.at 0 rfl, R.at 1 rfl, trivial⟩)⟩
    obtain ⟨u_4, rfl, R⟩ := hM
    obtain ⟨r_222, h_r_222, h⟩ := bd_some h
    obtain ⟨r_223, h_r_223, h⟩ := bd_some h
    obtain ⟨drawshere_224, h_drawshere_224, h⟩ := bd_some h
    have h_drawshere_224 := Option.some.inj h_drawshere_224
    refine st_asgL' R (gl_eqn (f := (eL PyData.int)) (gl_gv R (gv_call (gaA_cons (ga_int (ev_int (ga_gv (gv_call (gaA_cons (ga_arg R rfl A_script_194) (gaA_cons (ga_int Evl.ev_c) gaA_nil)) fun _ _ _ _ f q => ⟨_, _, _, h_r_222, f, q⟩)))) (gaA_cons (ga_loc R rfl 0 rfl) gaA_nil)) fun _ _ _ _ f q => ⟨_, _, _, h_r_223, f, q⟩)) h_drawshere_224) fun v_drawshere_224 H1 R => (st_go (σ' := [some v_script_194, some v_head_197, some (V.int count_209), some (V.int low_220), some u_4, some v_drawshere_224, none, none, none]) rfl ?_)
    obtain ⟨q_225, h_q_225, h⟩ := bd_some h
    obtain ⟨c_227, h_c_227, h⟩ := bd_some h
    refine st_if R (et_andP (Evl.et_test (ev_I0 (ev_int (ga_ix (f := PyData.int) (xs := head_197) (ga_loc R rfl 2 rfl) Evl.ev_c h_q_225)) Evl.ev_c)) h_c_227 fun hM => by obtain ⟨q_226, h_q_226, hM⟩ := bd_some hM; exact et_eq (Evl.et_test (ev_I0 (ev_int (ga_ix (f := PyData.int) (xs := head_197) (ga_loc R rfl 2 rfl) Evl.ev_c h_q_226)) Evl.ev_c)) (Option.some.inj hM)) (fun hc H1 R => ?_) (fun hc H1 R => ?_)
    · rw [ite_t hc] at h
      obtain ⟨r_228, h_r_228, h⟩ := bd_some h
      obtain ⟨r_229, h_r_229, h⟩ := bd_some h
      obtain ⟨r_230, h_r_230, h⟩ := bd_some h
      obtain ⟨sumshere_231, h_sumshere_231, h⟩ := bd_some h
      have h_sumshere_231 := Option.some.inj h_sumshere_231
      refine st_asgL' R (gl_eqn (f := (eL PyData.int)) (gl_gv R (gv_call (gaA_cons (ga_gv (gv_call (gaA_cons (ga_int (ev_int (ga_gv (gv_call (gaA_cons (ga_arg R rfl A_script_194) (gaA_cons (ga_int Evl.ev_c) gaA_nil)) fun _ _ _ _ f q => ⟨_, _, _, h_r_228, f, q⟩)))) (gaA_cons (ga_int (Evl.ev_var rfl)) gaA_nil)) fun _ _ _ _ f q => ⟨_, _, _, h_r_229, f, q⟩)) gaA_nil) fun _ _ _ _ f q => ⟨_, _, h_r_230, f, q⟩)) h_sumshere_231) fun v_sumshere_231 H1 R => (st_go (σ' := [some v_script_194, some v_head_197, some (V.int count_209), some (V.int low_220), some u_4, some v_drawshere_224, some v_sumshere_231, none, none]) rfl ?_)
      obtain ⟨g_239, h_g_239, h⟩ := bd_some h
      obtain ⟨l_235, h_l_235, h⟩ := bd_some h
      obtain ⟨g_236, h_g_236, h⟩ := bd_some h
      have h_ := Option.some.inj h
      subst h_
      exact st_rt R (gl_gn R (gn_lcR1 R (Evl.ev_var rfl) (gd_some h_g_239) (fun _ => rfl) h_l_235 (gd_some h_g_236) (gb := PyData.int) (fun Dl_233 ds_234 i k_232 H1 R e1 hx o ho => by
                  obtain ⟨q_237, h_q_237, ho⟩ := bd_some ho
                  obtain ⟨q_238, h_q_238, ho⟩ := bd_some ho
                  obtain rfl := Option.some.inj ho
                  exact ⟨et_yes, fun y hy => by obtain rfl := Option.some.inj hy; exact (gl_int (ev_I0 (ev_I0 (ev_int (ga_ix (f := PyData.int) (xs := sumshere_231) (ga_loc R rfl 0 rfl) (Evl.ev_var rfl) h_q_237)) (ev_I (ev_int1 (ev_int (ga_ix (f := PyData.int) (xs := drawshere_224) (ga_loc R rfl 1 rfl) (Evl.ev_var rfl) h_q_238))) Evl.ev_c (by decide))) Evl.ev_c))⟩))) q rfl
    · rw [ite_f hc] at h
      repeat with_reducible refine st_fall1 ?_
      with_reducible refine st_fall2 ?_
      obtain ⟨l_244, h_l_244, h⟩ := bd_some h
      obtain ⟨g_245, h_g_245, h⟩ := bd_some h
      have h_ := Option.some.inj h
      subst h_
      exact st_rt R (gl_gn R (gn_lcG R (gl_loc R rfl 0 rfl) (fun _ => rfl) h_l_244 (gd_some h_g_245) (f := PyData.int) (gb := PyData.int) (fun v_243 Dl_241 ds_242 i draw_240 w_draw_240 H1 R e1 hx hw o ho => by
                  obtain rfl := in_int hw (R.atH 0 rfl)
                  obtain rfl := Option.some.inj ho
                  exact ⟨et_yes, fun y hy => by obtain rfl := Option.some.inj hy; exact (gl_int (ev_I0 (Evl.ev_var rfl) (Evl.ev_var rfl)))⟩))) q rfl
abbrev s__law_stepped : Stmt := topS 15
theorem sc__law_stepped : FnScope ["_law_row_here", "_law_most", "_law_before", "_law_bound", "_law_found", "_law_k"] ["_law_row_here"] (defScope s__law_stepped) := ⟨rfl, rfl, rfl, by decide +kernel, rfl, by decide +kernel, by decide +kernel⟩
def m_law_stepped_l1 (before_254 : (List Int)) (most_247 : Int) (s_ : (List Int)) (x_ : Int) : Option (List Int) :=
  match s_, x_ with
  | found_264, k_258 =>
    bd (atI before_254 k_258) fun q_265 =>
    if (decide (q_265 < most_247)) = true then
    (bd (atI before_254 k_258) fun q_267 =>
    bd (gd ((found_264).length < sizeLine)) fun g_268 =>
    bd (some (found_264 ++ [q_267])) fun found_266 =>
    some found_266)
    else
    (bd (gd ((found_264).length < sizeLine)) fun g_270 =>
    bd (some (found_264 ++ [(most_247 + (1 : Int))])) fun found_269 =>
    some found_269)
def m_law_stepped (rowhere_246 : (List Int)) : Option (List Int) :=
  bd (some ((rowhere_246).length : Int)) fun most_247 =>
  bd (cmP (fun bound_248 => some (some (if most_247 < bound_248 then most_247 else bound_248))) rowhere_246) fun l_251 =>
  bd (gd (l_251.length ≤ sizeLine)) fun g_252 =>
  bd (gd ((l_251).length + ([most_247]).length ≤ sizeLine)) fun g_253 =>
  bd (some (l_251 ++ [most_247])) fun before_254 =>
  bd (atI before_254 (0 : Int)) fun q_255 =>
  bd (some [q_255]) fun found_256 =>
  bd (gd (-(2 ^ 62) ≤ (1 : Int) ∧ (1 : Int) < 2 ^ 62 ∧ -(2 ^ 62) ≤ (most_247 + (1 : Int)) ∧ (most_247 + (1 : Int)) < 2 ^ 62)) fun g_257 =>
  bd (forP (m_law_stepped_l1 before_254 most_247) (rng (1 : Int) (most_247 + (1 : Int))) found_256) fun found_264 =>
  some found_264
def sp__law_stepped (K : PySem.W.Frag) : Sp := fun vs H Q _ => ∃ (rowhere_246 : (List Int)), ∃ r, m_law_stepped rowhere_246 = some r ∧ DdAll K H vs [((eL PyData.int) rowhere_246)] ∧ ∀ v H2, Ex H H2 → Dd K (mn H2 H) v ((eL PyData.int) r) → Q v H2
theorem ok__law_stepped {f__law_stepped : Addr} {fd__law_stepped : FuncData} (F : FnP K "_law_stepped" s__law_stepped f__law_stepped fd__law_stepped) (z_len : mg "len" = none) (z_min : mg "min" = none) (z_range : mg "range" = none) : FnOk P w K mg base CX0 1 f__law_stepped fd__law_stepped ["_law_row_here"] (sp__law_stepped K) := by
  refine F.ok sc__law_stepped (fun vs H Q E h => ?_) (fun cdv A outer s H0 vs Q E hr h => ?_)
  · obtain ⟨_, _, _, f, _⟩ := h; exact f.length
  · obtain ⟨rowhere_246, r, h, f, q⟩ := h
    obtain ⟨v_rowhere_246, vs0, A_rowhere_246, f0, e_0⟩ := dd_cons f; subst e_0
    obtain rfl := dd_nil f0
    unfold m_law_stepped at h
    refine ⟨_, PSs.nox (pss_cons (ps_set (i := 1) sc__law_stepped.nd rfl (Or.inr rfl) (pe_callB (r := rLen1 K) call_len (by rfl) z_len PySem.boot_len (pa_cons (pv 0) pa_nil))) (pss_cons (ps_set (i := 2) sc__law_stepped.nd rfl (Or.inl rfl) (pe_op op_cat (pe_lc (own := [("_law_bound", 3)]) (g := gName 3) (tt := tYes) rfl sc__law_stepped.nd (pi_list (pv 0)) (blkOk_by (N := ["_law_row_here", "_law_most", "_law_before", "_law_bound", "_law_found", "_law_k"]) (sc := (defScope s__law_stepped)) (by decide +kernel)) (fun _ _ _ _ _ => pg_name (i := 3) sc__law_stepped.nd rfl (Or.inl rfl)) (fun _ _ _ _ _ => pts_nil) (fun _ _ _ _ _ => (pe_callB (call_min2 rfl) (by rfl) z_min (by decide +kernel) (pa_cons (pv 3) (pa_cons (pv 1) pa_nil))))) (pe_lst (pa_cons (pv 1) pa_nil)))) (pss_cons (ps_set (i := 4) sc__law_stepped.nd rfl (Or.inl rfl) (pe_lst (pa_cons (pe_ix (r := rIxL K) ix_list (pv 2) pe_int (fun _ _ => rfl)) pa_nil))) (pss_cons (ps_for PassesOwn.never rfl (pi_range2 (by rfl) z_range (pa_cons pe_int (pa_cons (pe_op op_add (pv 1) pe_int) pa_nil))) (pg_name (i := 5) sc__law_stepped.nd rfl (Or.inl rfl)) (pss_cons (ps_if (pt_cmpR op_lt (pe_ix (r := rIxL K) ix_list (pv 2) (pv 5) (fun _ _ => rfl)) (pv 1) (nomark _)) (pss_cons (ps_expr (pe_bm PySem.F.plainAttrs_list PySem.F.slot_list_append PySem.F.type_list_append mt_append (pv 4) (pa_cons (pe_ix (r := rIxL K) ix_list (pv 2) (pv 5) (fun _ _ => rfl)) pa_nil))) pss_nil) (pss_cons (ps_expr (pe_bm PySem.F.plainAttrs_list PySem.F.slot_list_append PySem.F.type_list_append mt_append (pv 4) (pa_cons (pe_op op_add (pv 1) pe_int) pa_nil))) pss_nil)) pss_nil)) (pss_cons (ps_ret (pv 4)) pss_nil))))), ?_⟩
    have R : Rg K H0 [] [] H0 := .init
    refine st_go (σ' := [some v_rowhere_246, none, none, none, none, none]) rfl ?_
    obtain ⟨most_247, h_most_247, h⟩ := bd_some h
    have h_most_247 := Option.some.inj h_most_247
    refine st_asgI R (ev_eqn (ev_len (f := PyData.int) (xs := rowhere_246) (ga_arg R rfl A_rowhere_246)) h_most_247) (σ' := [some v_rowhere_246, some (V.int most_247), none, none, none, none]) rfl fun H1 R => ?_
    obtain ⟨l_251, h_l_251, h⟩ := bd_some h
    obtain ⟨g_252, h_g_252, h⟩ := bd_some h
    obtain ⟨g_253, h_g_253, h⟩ := bd_some h
    obtain ⟨before_254, h_before_254, h⟩ := bd_some h
    have h_before_254 := Option.some.inj h_before_254
    refine st_asgL' R (gl_eqn (f := (eL PyData.int)) (gl_gn R (gn_catT (f := PyData.int) (xs := l_251) (ys := [most_247]) (ge_gn (gn_lcV R (Evl.ev_var rfl) (A_rowhere_246.mono R.base) (fun _ => rfl) h_l_251 (gd_some h_g_252) (f := PyData.int) (gb := PyData.int) (fun Dl_249 ds_250 i bound_248 w_bound_248 H1 R e1 hx hw o ho => by
                obtain rfl := in_int hw (A_rowhere_246.mono R.base)
                obtain rfl := Option.some.inj ho
                exact ⟨et_yes, fun y hy => by obtain rfl := Option.some.inj hy; exact (gl_int (ev_min2 (Evl.ev_var rfl) (Evl.ev_var rfl)))⟩))) (ge_gn (gn_lstT (f := PyData.int) (xs := [most_247]) (glA_cons (gl_int (Evl.ev_var rfl)) glA_nil) (by simp only [List.length_cons, List.length_nil]; decide))) (gd_some h_g_253))) h_before_254) fun v_before_254 H1 R => (st_go (σ' := [some v_rowhere_246, some (V.int most_247), some v_before_254, none, none, none]) rfl ?_)
    obtain ⟨q_255, h_q_255, h⟩ := bd_some h
    obtain ⟨found_256, h_found_256, h⟩ := bd_some h
    have h_found_256 := Option.some.inj h_found_256
    refine st_asgO' R (gn_eqn (gn_lstT (f := PyData.int) (xs := [q_255]) (glA_cons (gl_int (ev_int (ga_ix (f := PyData.int) (xs := before_254) (ga_loc R rfl 0 rfl) Evl.ev_c h_q_255))) glA_nil) (by simp only [List.length_cons, List.length_nil]; decide)) h_found_256) fun p_found_256 H1 R => (st_go (σ' := [some v_rowhere_246, some (V.int most_247), some v_before_254, none, some (V.ref p_found_256), none]) rfl ?_)
    obtain ⟨g_257, h_g_257, h⟩ := bd_some h
    obtain ⟨found_264o, hl_259, h⟩ := bd_some h
    try dsimp only at h
    refine st_rng2 R Evl.ev_c (ev_I0 (Evl.ev_var rfl) Evl.ev_c) (gd_some h_g_257) (fun i σ' H' => ∃ (found_264 : (List Int)), ∃ (y_5 : Option V), forP (m_law_stepped_l1 before_254 most_247) (List.drop i (rng (1 : Int) (most_247 + (1 : Int)))) found_264 = some found_264o ∧ σ' = [some v_rowhere_246, some (V.int most_247), some v_before_254, none, some (V.ref p_found_256), y_5] ∧ Rg K H0 [(v_before_254, ((eL PyData.int) before_254))] [(p_found_256, (List.map PyData.int found_264))] H') (fun H1 R => ⟨_, _, hl_259, rfl, (R.pick ⟨R.at 0 rfl, trivial⟩)⟩) (fun i k_258 σ' H' hx hM => ?_) (fun σ' H' hM => ?_)
    · obtain ⟨found_264, y_5, hl_259, rfl, R⟩ := hM
      obtain ⟨s1, h, hl_259⟩ := forP_step hx hl_259
      unfold m_law_stepped_l1 at h
      try dsimp only at h
      refine st_go (σ' := [some v_rowhere_246, some (V.int most_247), some v_before_254, none, some (V.ref p_found_256), some (V.int k_258)]) rfl ?_
      obtain ⟨q_265, h_q_265, h⟩ := bd_some h
      refine st_if R (Evl.et_test (ev_I0 (ev_int (ga_ix (f := PyData.int) (xs := before_254) (ga_loc R rfl 0 rfl) (Evl.ev_var rfl) h_q_265)) (Evl.ev_var rfl))) (fun hc H1 R => ?_) (fun hc H1 R => ?_)
      · rw [ite_t hc] at h
        obtain ⟨q_267, h_q_267, h⟩ := bd_some h
        obtain ⟨g_268, h_g_268, h⟩ := bd_some h
        obtain ⟨found_266, h_found_266, h⟩ := bd_some h
        have h_found_266 := Option.some.inj h_found_266
        refine st_appT R rfl (j := 0) rfl (gl_int (ev_int (ga_ix (f := PyData.int) (xs := before_254) (ga_loc R rfl 0 rfl) (Evl.ev_var rfl) h_q_267))) (gd_some h_g_268) h_found_266 (os' := [(p_found_256, (List.map PyData.int found_266))]) rfl fun H1 R => ?_
        cases h
        repeat with_reducible refine st_fall1 ?_
        exact ⟨_, _, hl_259, rfl, (R.pick ⟨R.at 0 rfl, trivial⟩)⟩
      · rw [ite_f hc] at h
        obtain ⟨g_270, h_g_270, h⟩ := bd_some h
        obtain ⟨found_269, h_found_269, h⟩ := bd_some h
        have h_found_269 := Option.some.inj h_found_269
        refine st_appT R rfl (j := 0) rfl (gl_int (ev_I0 (Evl.ev_var rfl) Evl.ev_c)) (gd_some h_g_270) h_found_269 (os' := [(p_found_256, (List.map PyData.int found_269))]) rfl fun H1 R => ?_
        cases h
        repeat with_reducible refine st_fall1 ?_
        exact ⟨_, _, hl_259, rfl, (R.pick ⟨R.at 0 rfl, trivial⟩)⟩
    · obtain ⟨found_264, y_5, hl_259, rfl, R⟩ := hM
      have e_0 := forP_end rfl hl_259
      subst e_0
      have R := R.rel (i := 0) (os' := []) rfl rfl
      have h_ := Option.some.inj h
      subst h_
      exact st_rt R (gl_loc R rfl 0 rfl) q rfl
abbrev s__law_best : Stmt := topS 10
theorem sc__law_best : FnScope ["_law_sizes", "_law_letter"] ["_law_sizes", "_law_letter"] (defScope s__law_best) := ⟨rfl, rfl, rfl, by decide +kernel, rfl, by decide +kernel, by decide +kernel⟩
def m_law_best (sizes_272 : (List Int)) (letter_273 : Str) : Option (Option (List Int)) :=
  if (decide (letter_273 = ("K" : Str))) = true then
  (bd (m_law_lower sizes_272 (0 : Int)) fun r_274 =>
  some (some r_274))
  else
  (if (decide (((sizes_272).length : Int) ≤ (1 : Int))) = true then
  (some none)
  else
  (bd (m_law_lower sizes_272 (((sizes_272).length : Int) - (1 : Int))) fun r_275 =>
  some (some r_275)))
def sp__law_best (K : PySem.W.Frag) : Sp := fun vs H Q _ => ∃ (sizes_272 : (List Int)), ∃ (letter_273 : Str), ∃ r, m_law_best sizes_272 letter_273 = some r ∧ DdAll K H vs [((eL PyData.int) sizes_272), (PyData.str letter_273)] ∧ ∀ v H2, Ex H H2 → Dd K (mn H2 H) v ((eO (eL PyData.int)) r) → Q v H2
theorem ok__law_best {f__law_best : Addr} {fd__law_best : FuncData} (F : FnP K "_law_best" s__law_best f__law_best fd__law_best) {f__law_lower : Addr} {fd__law_lower : FuncData} (F__law_lower : FnP K "_law_lower" s__law_lower f__law_lower fd__law_lower) (G__law_lower : FnOk P w K mg base CX0 1 f__law_lower fd__law_lower ["_law_sizes", "_law_place"] (sp__law_lower K)) (g__law_lower : mg "_law_lower" = some (.ref f__law_lower)) (b__law_lower : Binds K fd__law_lower ["_law_sizes", "_law_place"] []) (z_len : mg "len" = none) : FnOk P w K mg base CX0 2 f__law_best fd__law_best ["_law_sizes", "_law_letter"] (sp__law_best K) := by
  refine F.ok sc__law_best (fun vs H Q E h => ?_) (fun cdv A outer s H0 vs Q E hr h => ?_)
  · obtain ⟨_, _, _, _, f, _⟩ := h; exact f.length
  · obtain ⟨sizes_272, letter_273, r, h, f, q⟩ := h
    obtain ⟨v_sizes_272, vs0, A_sizes_272, f0, e_0⟩ := dd_cons f; subst e_0
    obtain ⟨v_letter_273, vs1, A_letter_273, f1, e_1⟩ := dd_cons f0; subst e_1
    obtain rfl := dd_nil f1
    obtain rfl := dd_str A_letter_273
    unfold m_law_best at h
    refine ⟨_, PSs.nox (pss_cons (ps_if (pt_cmpR op_eq (pv 1) pe_str (nomark _)) (pss_cons (ps_ret (pe_call G__law_lower (hr.mono (by omega)) (by rfl) g__law_lower F__law_lower.kp b__law_lower .nil pass0 (pa_cons (pv 0) (pa_cons pe_int pa_nil)))) pss_nil) pss_nil) (pss_cons (ps_if (pt_cmpR op_le (pe_callB (r := rLen1 K) call_len (by rfl) z_len PySem.boot_len (pa_cons (pv 0) pa_nil)) pe_int (nomark _)) (pss_cons (ps_ret pe_non) pss_nil) pss_nil) (pss_cons (ps_ret (pe_call G__law_lower (hr.mono (by omega)) (by rfl) g__law_lower F__law_lower.kp b__law_lower .nil pass0 (pa_cons (pv 0) (pa_cons (pe_op op_sub (pe_callB (r := rLen1 K) call_len (by rfl) z_len PySem.boot_len (pa_cons (pv 0) pa_nil)) pe_int) pa_nil)))) pss_nil))), ?_⟩
    have R : Rg K H0 [] [] H0 := .init
    refine st_go (σ' := [some v_sizes_272, some (V.str letter_273)]) rfl ?_
    refine st_if R (Evl.et_test (ev_eqS (Evl.ev_var rfl) Evl.ev_c)) (fun hc H1 R => ?_) (fun hc H1 R => ?_)
    · rw [ite_t hc] at h
      obtain ⟨r_274, h_r_274, h⟩ := bd_some h
      have h_ := Option.some.inj h
      subst h_
      exact st_rt R (gl_gv R (gv_call (gaA_cons (ga_arg R rfl A_sizes_272) (gaA_cons (ga_int Evl.ev_c) gaA_nil)) fun _ _ _ _ f q => ⟨_, _, _, h_r_274, f, q⟩)) q rfl
    · rw [ite_f hc] at h
      repeat with_reducible refine st_fall1 ?_
      with_reducible refine st_fall2 ?_
      refine st_if R (Evl.et_test (ev_I0 (ev_len (f := PyData.int) (xs := sizes_272) (ga_arg R rfl A_sizes_272)) Evl.ev_c)) (fun hc H1 R => ?_) (fun hc H1 R => ?_)
      · rw [ite_t hc] at h
        have h_ := Option.some.inj h
        subst h_
        exact st_rt R (gl_non Evl.ev_c) q rfl
      · rw [ite_f hc] at h
        repeat with_reducible refine st_fall1 ?_
        with_reducible refine st_fall2 ?_
        obtain ⟨r_275, h_r_275, h⟩ := bd_some h
        have h_ := Option.some.inj h
        subst h_
        exact st_rt R (gl_gv R (gv_call (gaA_cons (ga_arg R rfl A_sizes_272) (gaA_cons (ga_int (ev_I0 (ev_len (f := PyData.int) (xs := sizes_272) (ga_arg R rfl A_sizes_272)) Evl.ev_c)) gaA_nil)) fun _ _ _ _ f q => ⟨_, _, _, h_r_275, f, q⟩)) q rfl
abbrev s__law_won : Stmt := topS 16
theorem sc__law_won : FnScope ["_law_sizes", "_law_row_here", "_law_reached"] ["_law_sizes", "_law_row_here"] (defScope s__law_won) := ⟨rfl, rfl, rfl, by decide +kernel, rfl, by decide +kernel, by decide +kernel⟩
def m_law_won (sizes_276 : (List Int)) (rowhere_277 : (List Int)) : Option Bool :=
  bd (m_law_best sizes_276 ("R" : Str)) fun r_278 =>
  bd (some r_278) fun reached_279 =>
  if (reached_279).isNone = true then
  (some false)
  else
  (bd reached_279 fun u_280 =>
  bd (m_law_fits u_280 rowhere_277) fun r_281 =>
  some r_281)
def sp__law_won (K : PySem.W.Frag) : Sp := fun vs H Q _ => ∃ (sizes_276 : (List Int)), ∃ (rowhere_277 : (List Int)), ∃ r, m_law_won sizes_276 rowhere_277 = some r ∧ DdAll K H vs [((eL PyData.int) sizes_276), ((eL PyData.int) rowhere_277)] ∧ ∀ v H2, Ex H H2 → Dd K (mn H2 H) v (PyData.bool r) → Q v H2
theorem ok__law_won {f__law_won : Addr} {fd__law_won : FuncData} (F : FnP K "_law_won" s__law_won f__law_won fd__law_won) {f__law_best : Addr} {fd__law_best : FuncData} (F__law_best : FnP K "_law_best" s__law_best f__law_best fd__law_best) (G__law_best : FnOk P w K mg base CX0 2 f__law_best fd__law_best ["_law_sizes", "_law_letter"] (sp__law_best K)) (g__law_best : mg "_law_best" = some (.ref f__law_best)) (b__law_best : Binds K fd__law_best ["_law_sizes", "_law_letter"] []) {f__law_fits : Addr} {fd__law_fits : FuncData} (F__law_fits : FnP K "_law_fits" s__law_fits f__law_fits fd__law_fits) (G__law_fits : FnOk P w K mg base CX0 2 f__law_fits fd__law_fits ["_law_sizes", "_law_row_here"] (sp__law_fits K)) (g__law_fits : mg "_law_fits" = some (.ref f__law_fits)) (b__law_fits : Binds K fd__law_fits ["_law_sizes", "_law_row_here"] []) : FnOk P w K mg base CX0 3 f__law_won fd__law_won ["_law_sizes", "_law_row_here"] (sp__law_won K) := by
  refine F.ok sc__law_won (fun vs H Q E h => ?_) (fun cdv A outer s H0 vs Q E hr h => ?_)
  · obtain ⟨_, _, _, _, f, _⟩ := h; exact f.length
  · obtain ⟨sizes_276, rowhere_277, r, h, f, q⟩ := h
    obtain ⟨v_sizes_276, vs0, A_sizes_276, f0, e_0⟩ := dd_cons f; subst e_0
    obtain ⟨v_rowhere_277, vs1, A_rowhere_277, f1, e_1⟩ := dd_cons f0; subst e_1
    obtain rfl := dd_nil f1
    unfold m_law_won at h
    refine ⟨_, PSs.nox (pss_cons (ps_set (i := 2) sc__law_won.nd rfl (Or.inl rfl) (pe_call G__law_best (hr.mono (by omega)) (by rfl) g__law_best F__law_best.kp b__law_best .nil pass0 (pa_cons (pv 0) (pa_cons pe_str pa_nil)))) (pss_cons (ps_if (pt_cmpR op_isN (pv 2) pe_non (nomark _)) (pss_cons (ps_ret pe_bl) pss_nil) pss_nil) (pss_cons (ps_ret (pe_call G__law_fits (hr.mono (by omega)) (by rfl) g__law_fits F__law_fits.kp b__law_fits .nil pass0 (pa_cons (pv 2) (pa_cons (pv 1) pa_nil)))) pss_nil))), ?_⟩
    have R : Rg K H0 [] [] H0 := .init
    refine st_go (σ' := [some v_sizes_276, some v_rowhere_277, none]) rfl ?_
    obtain ⟨r_278, h_r_278, h⟩ := bd_some h
    obtain ⟨reached_279, h_reached_279, h⟩ := bd_some h
    have h_reached_279 := Option.some.inj h_reached_279
    refine st_asgL' R (gl_eqn (f := (eO (eL PyData.int))) (gl_gv R (gv_call (gaA_cons (ga_arg R rfl A_sizes_276) (gaA_cons (ga_str Evl.ev_c) gaA_nil)) fun _ _ _ _ f q => ⟨_, _, _, h_r_278, f, q⟩)) h_reached_279) fun v_reached_279 H1 R => (st_go (σ' := [some v_sizes_276, some v_rowhere_277, some v_reached_279]) rfl ?_)
    refine st_if R (Evl.et_test (ev_isNO (f := (eL PyData.int)) (fun _ => rfl) (ga_loc R rfl 0 rfl))) (fun hc H1 R => ?_) (fun hc H1 R => ?_)
    · rw [ite_t hc] at h
      have h_ := Option.some.inj h
      subst h_
      exact st_rt R (gl_bl Evl.ev_c) q rfl
    · rw [ite_f hc] at h
      repeat with_reducible refine st_fall1 ?_
      with_reducible refine st_fall2 ?_
      obtain ⟨u_280, h_u_280, h⟩ := bd_some h
      obtain ⟨r_281, h_r_281, h⟩ := bd_some h
      have h_ := Option.some.inj h
      subst h_
      exact st_rt R (gl_bl (ev_bl (ga_gv (gv_call (gaA_cons (ga_opt (f := (eL PyData.int)) (ga_loc R rfl 0 rfl) h_u_280) (gaA_cons (ga_arg R rfl A_rowhere_277) gaA_nil)) fun _ _ _ _ f q => ⟨_, _, _, h_r_281, f, q⟩)))) q rfl
abbrev s_law : Stmt := topS 17
theorem sc_law : FnScope ["_law_script", "_law_row_here", "_law_due", "_law_passed", "_law_told", "_law_other", "_law_sizes"] ["_law_script"] (defScope s_law) := ⟨rfl, rfl, rfl, by decide +kernel, rfl, by decide +kernel, by decide +kernel⟩
def m_law_l1 (due_286 : (List Int)) (rowhere_284 : (List Int)) (s_ : Unit) (x_ : (List Int)) : Option (Ctl Unit Bool) :=
  match s_, x_ with
  | _, sizes_312 =>
    bd (m_law_fits sizes_312 due_286) fun r_319 =>
    bd (m_law_won sizes_312 rowhere_284) fun r_320 =>
    if (!(decide (r_319 = r_320))) = true then
    (some (.ret false))
    else
    (some (.go ()))
def m_law (script_282 : (List Int)) : Option Bool :=
  bd (m_law_row script_282) fun r_283 =>
  bd (some r_283) fun rowhere_284 =>
  bd (m_law_stepped rowhere_284) fun r_285 =>
  bd (some r_285) fun due_286 =>
  bd (some rowhere_284) fun passed_287 =>
  bd (m_raider_step passed_287) fun r_288 =>
  bd (some r_288) fun told_289 =>
  bd (m_law_like 8 ((eL PyData.int) told_289) ((eL PyData.int) due_286)) fun r_290 =>
  bd (if (!r_290) = true then some true else (bd (m_law_like 8 ((eL PyData.int) passed_287) ((eL PyData.int) rowhere_284)) fun r_291 => some (!r_291))) fun c_292 =>
  if c_292 = true then
  (some false)
  else
  (bd (gd ((passed_287).length < sizeLine)) fun g_294 =>
  bd (some (passed_287 ++ [(1 : Int)])) fun passed_293 =>
  bd (atI passed_293 (0 : Int)) fun q_295 =>
  bd (setP passed_293 (0 : Int) (q_295 + (1 : Int))) fun passed_296 =>
  bd (some passed_296) fun other_297 =>
  bd (m_law_like 8 ((eL PyData.int) told_289) ((eL PyData.int) due_286)) fun r_298 =>
  bd (if (!r_298) = true then some true else (bd (m_raider_step passed_296) fun r_299 => (bd (m_law_stepped other_297) fun r_300 => (bd (m_law_like 8 ((eL PyData.int) r_299) ((eL PyData.int) r_300)) fun r_301 => some (!r_301))))) fun c_302 =>
  if c_302 = true then
  (some false)
  else
  (bd (atI told_289 (0 : Int)) fun q_303 =>
  bd (setP told_289 (0 : Int) (q_303 - (1 : Int))) fun told_304 =>
  bd (gd ((told_304).length < sizeLine)) fun g_306 =>
  bd (some (told_304 ++ [(0 : Int)])) fun told_305 =>
  bd (m_law_like 8 ((eL PyData.int) passed_296) ((eL PyData.int) other_297)) fun r_307 =>
  bd (if (!r_307) = true then some true else (bd (m_raider_step rowhere_284) fun r_308 => (bd (m_law_like 8 ((eL PyData.int) r_308) ((eL PyData.int) due_286)) fun r_309 => some (!r_309)))) fun c_310 =>
  if c_310 = true then
  (some false)
  else
  (if (decide ((5 : Int) < ((rowhere_284).length : Int))) = true then
  (some true)
  else
  (bd (m_law_all_lists 20 (((rowhere_284).length : Int) + (1 : Int)) (((rowhere_284).length : Int) + (1 : Int))) fun r_311 =>
  bd (forC (m_law_l1 due_286 rowhere_284) r_311 ()) fun o_ => ctl o_ (fun c_ => some c_) fun _ =>
  some true))))
def sp_law (K : PySem.W.Frag) : Sp := fun vs H Q _ => ∃ (script_282 : (List Int)), ∃ r, m_law script_282 = some r ∧ DdAll K H vs [(eS script_282)] ∧ ∀ v H2, Ex H H2 → Dd K (mn H2 H) v (PyData.bool r) → Q v H2
theorem ok_law {f_law : Addr} {fd_law : FuncData} (F : FnP K "law" s_law f_law fd_law) {f__law_all_lists : Addr} {fd__law_all_lists : FuncData} (F__law_all_lists : FnP K "_law_all_lists" s__law_all_lists f__law_all_lists fd__law_all_lists) (G__law_all_lists : FnOk P w K mg base CX0 21 f__law_all_lists fd__law_all_lists ["_law_total", "_law_most"] (sp__law_all_lists K 20)) (g__law_all_lists : mg "_law_all_lists" = some (.ref f__law_all_lists)) (b__law_all_lists : Binds K fd__law_all_lists ["_law_total", "_law_most"] []) {f__law_fits : Addr} {fd__law_fits : FuncData} (F__law_fits : FnP K "_law_fits" s__law_fits f__law_fits fd__law_fits) (G__law_fits : FnOk P w K mg base CX0 2 f__law_fits fd__law_fits ["_law_sizes", "_law_row_here"] (sp__law_fits K)) (g__law_fits : mg "_law_fits" = some (.ref f__law_fits)) (b__law_fits : Binds K fd__law_fits ["_law_sizes", "_law_row_here"] []) {f__law_like : Addr} {fd__law_like : FuncData} (F__law_like : FnP K "_law_like" s__law_like f__law_like fd__law_like) (G__law_like : FnOk P w K mg base CX0 9 f__law_like fd__law_like ["_law_actual", "_law_due"] (sp__law_like K 8)) (g__law_like : mg "_law_like" = some (.ref f__law_like)) (b__law_like : Binds K fd__law_like ["_law_actual", "_law_due"] []) {f__law_row : Addr} {fd__law_row : FuncData} (F__law_row : FnP K "_law_row" s__law_row f__law_row fd__law_row) (G__law_row : FnOk P w K mg base CX0 4 f__law_row fd__law_row ["_law_script"] (sp__law_row K)) (g__law_row : mg "_law_row" = some (.ref f__law_row)) (b__law_row : Binds K fd__law_row ["_law_script"] []) {f__law_stepped : Addr} {fd__law_stepped : FuncData} (F__law_stepped : FnP K "_law_stepped" s__law_stepped f__law_stepped fd__law_stepped) (G__law_stepped : FnOk P w K mg base CX0 1 f__law_stepped fd__law_stepped ["_law_row_here"] (sp__law_stepped K)) (g__law_stepped : mg "_law_stepped" = some (.ref f__law_stepped)) (b__law_stepped : Binds K fd__law_stepped ["_law_row_here"] []) {f__law_won : Addr} {fd__law_won : FuncData} (F__law_won : FnP K "_law_won" s__law_won f__law_won fd__law_won) (G__law_won : FnOk P w K mg base CX0 3 f__law_won fd__law_won ["_law_sizes", "_law_row_here"] (sp__law_won K)) (g__law_won : mg "_law_won" = some (.ref f__law_won)) (b__law_won : Binds K fd__law_won ["_law_sizes", "_law_row_here"] []) {f_raider_step : Addr} {fd_raider_step : FuncData} (F_raider_step : FnP K "raider_step" s_raider_step f_raider_step fd_raider_step) (G_raider_step : FnOk P w K mg base CX0 2 f_raider_step fd_raider_step ["row"] (sp_raider_step K)) (g_raider_step : mg "raider_step" = some (.ref f_raider_step)) (b_raider_step : Binds K fd_raider_step ["row"] []) (z_len : mg "len" = none) (z_list : mg "list" = none) : FnOk P w K mg base CX0 22 f_law fd_law ["_law_script"] (sp_law K) := by
  refine F.ok sc_law (fun vs H Q E h => ?_) (fun cdv A outer s H0 vs Q E hr h => ?_)
  · obtain ⟨_, _, _, f, _⟩ := h; exact f.length
  · obtain ⟨script_282, r, h, f, q⟩ := h
    obtain ⟨v_script_282, vs0, A_script_282, f0, e_0⟩ := dd_cons f; subst e_0
    obtain rfl := dd_nil f0
    unfold m_law at h
    refine ⟨_, PSs.nox (pss_cons (ps_set (i := 1) sc_law.nd rfl (Or.inl rfl) (pe_call G__law_row (hr.mono (by omega)) (by rfl) g__law_row F__law_row.kp b__law_row .nil pass0 (pa_cons (pv 0) pa_nil))) (pss_cons (ps_set (i := 2) sc_law.nd rfl (Or.inl rfl) (pe_call G__law_stepped (hr.mono (by omega)) (by rfl) g__law_stepped F__law_stepped.kp b__law_stepped .nil pass0 (pa_cons (pv 1) pa_nil))) (pss_cons (ps_set (i := 3) sc_law.nd rfl (Or.inl rfl) (pe_callTy (r := rList1 K) call_list_of (by rfl) z_list (by decide +kernel) (pa_cons (pv 1) pa_nil))) (pss_cons (ps_set (i := 4) sc_law.nd rfl (Or.inl rfl) (pe_call G_raider_step (hr.mono (by omega)) (by rfl) g_raider_step F_raider_step.kp b_raider_step .nil pass0 (pa_cons (pv 3) pa_nil))) (pss_cons (ps_if (PW.pt (pw_or (pt_not (pt_val (pe_call G__law_like (hr.mono (by omega)) (by rfl) g__law_like F__law_like.kp b__law_like .nil pass0 (pa_cons (pv 4) (pa_cons (pv 2) pa_nil))))) (pw_or1 (pt_not (pt_val (pe_call G__law_like (hr.mono (by omega)) (by rfl) g__law_like F__law_like.kp b__law_like .nil pass0 (pa_cons (pv 3) (pa_cons (pv 1) pa_nil)))))))) (pss_cons (ps_ret pe_bl) pss_nil) pss_nil) (pss_cons (ps_expr (pe_bm PySem.F.plainAttrs_list PySem.F.slot_list_append PySem.F.type_list_append mt_append (pv 3) (pa_cons pe_int pa_nil))) (pss_cons (ps_asg (pe_op op_add (pe_ix (r := rIxL K) ix_list (pv 3) pe_int (fun _ _ => rfl)) pe_int) (pg_sub (pv 3) pe_int set_list)) (pss_cons (ps_set (i := 5) sc_law.nd rfl (Or.inl rfl) (pe_callTy (r := rList1 K) call_list_of (by rfl) z_list (by decide +kernel) (pa_cons (pv 3) pa_nil))) (pss_cons (ps_if (PW.pt (pw_or (pt_not (pt_val (pe_call G__law_like (hr.mono (by omega)) (by rfl) g__law_like F__law_like.kp b__law_like .nil pass0 (pa_cons (pv 4) (pa_cons (pv 2) pa_nil))))) (pw_or1 (pt_not (pt_val (pe_call G__law_like (hr.mono (by omega)) (by rfl) g__law_like F__law_like.kp b__law_like .nil pass0 (pa_cons (pe_call G_raider_step (hr.mono (by omega)) (by rfl) g_raider_step F_raider_step.kp b_raider_step .nil pass0 (pa_cons (pv 3) pa_nil)) (pa_cons (pe_call G__law_stepped (hr.mono (by omega)) (by rfl) g__law_stepped F__law_stepped.kp b__law_stepped .nil pass0 (pa_cons (pv 5) pa_nil)) pa_nil)))))))) (pss_cons (ps_ret pe_bl) pss_nil) pss_nil) (pss_cons (ps_asg (pe_op op_sub (pe_ix (r := rIxL K) ix_list (pv 4) pe_int (fun _ _ => rfl)) pe_int) (pg_sub (pv 4) pe_int set_list)) (pss_cons (ps_expr (pe_bm PySem.F.plainAttrs_list PySem.F.slot_list_append PySem.F.type_list_append mt_append (pv 4) (pa_cons pe_int pa_nil))) (pss_cons (ps_if (PW.pt (pw_or (pt_not (pt_val (pe_call G__law_like (hr.mono (by omega)) (by rfl) g__law_like F__law_like.kp b__law_like .nil pass0 (pa_cons (pv 3) (pa_cons (pv 5) pa_nil))))) (pw_or1 (pt_not (pt_val (pe_call G__law_like (hr.mono (by omega)) (by rfl) g__law_like F__law_like.kp b__law_like .nil pass0 (pa_cons (pe_call G_raider_step (hr.mono (by omega)) (by rfl) g_raider_step F_raider_step.kp b_raider_step .nil pass0 (pa_cons (pe_callTy (r := rList1 K) call_list_of (by rfl) z_list (by decide +kernel) (pa_cons (pv 1) pa_nil)) pa_nil)) (pa_cons (pv 2) pa_nil)))))))) (pss_cons (ps_ret pe_bl) pss_nil) pss_nil) (pss_cons (ps_if (pt_cmpR op_gt (pe_callB (r := rLen1 K) call_len (by rfl) z_len PySem.boot_len (pa_cons (pv 1) pa_nil)) pe_int (nomark _)) (pss_cons (ps_ret pe_bl) pss_nil) pss_nil) (pss_cons (ps_for PassesOwn.never rfl (pi_list (pe_call G__law_all_lists (hr.mono (by omega)) (by rfl) g__law_all_lists F__law_all_lists.kp b__law_all_lists .nil pass0 (pa_cons (pe_op op_add (pe_callB (r := rLen1 K) call_len (by rfl) z_len PySem.boot_len (pa_cons (pv 1) pa_nil)) pe_int) (pa_cons (pe_op op_add (pe_callB (r := rLen1 K) call_len (by rfl) z_len PySem.boot_len (pa_cons (pv 1) pa_nil)) pe_int) pa_nil)))) (pg_name (i := 6) sc_law.nd rfl (Or.inl rfl)) (pss_cons (ps_if (pt_cmpR op_ne (pe_call G__law_fits (hr.mono (by omega)) (by rfl) g__law_fits F__law_fits.kp b__law_fits .nil pass0 (pa_cons (pv 6) (pa_cons (pv 2) pa_nil))) (pe_call G__law_won (hr.mono (by omega)) (by rfl) g__law_won F__law_won.kp b__law_won .nil pass0 (pa_cons (pv 6) (pa_cons (pv 1) pa_nil))) (nomark _)) (pss_cons (ps_ret pe_bl) pss_nil) pss_nil) pss_nil)) (pss_cons (ps_ret pe_bl) pss_nil))))))))))))))), ?_⟩
    have R : Rg K H0 [] [] H0 := .init
    refine st_go (σ' := [some v_script_282, none, none, none, none, none, none]) rfl ?_
    obtain ⟨r_283, h_r_283, h⟩ := bd_some h
    obtain ⟨rowhere_284, h_rowhere_284, h⟩ := bd_some h
    have h_rowhere_284 := Option.some.inj h_rowhere_284
    refine st_asgL' R (gl_eqn (f := (eL PyData.int)) (gl_gv R (gv_call (gaA_cons (ga_arg R rfl A_script_282) gaA_nil) fun _ _ _ _ f q => ⟨_, _, h_r_283, f, q⟩)) h_rowhere_284) fun v_rowhere_284 H1 R => (st_go (σ' := [some v_script_282, some v_rowhere_284, none, none, none, none, none]) rfl ?_)
    obtain ⟨r_285, h_r_285, h⟩ := bd_some h
    obtain ⟨due_286, h_due_286, h⟩ := bd_some h
    have h_due_286 := Option.some.inj h_due_286
    refine st_asgL' R (gl_eqn (f := (eL PyData.int)) (gl_gv R (gv_call (gaA_cons (ga_loc R rfl 0 rfl) gaA_nil) fun _ _ _ _ f q => ⟨_, _, h_r_285, f, q⟩)) h_due_286) fun v_due_286 H1 R => (st_go (σ' := [some v_script_282, some v_rowhere_284, some v_due_286, none, none, none, none]) rfl ?_)
    obtain ⟨passed_287, h_passed_287, h⟩ := bd_some h
    have h_passed_287 := Option.some.inj h_passed_287
    refine st_asgO' R (gn_eqn (gn_list (ge_gl (gl_loc R rfl 1 rfl))) h_passed_287) fun p_passed_287 H1 R => (st_go (σ' := [some v_script_282, some v_rowhere_284, some v_due_286, some (V.ref p_passed_287), none, none, none]) rfl ?_)
    obtain ⟨r_288, h_r_288, h⟩ := bd_some h
    obtain ⟨told_289, h_told_289, h⟩ := bd_some h
    have h_told_289 := Option.some.inj h_told_289
    refine st_asgO' R (gn_eqn (gn_flat (gv_call (gaA_cons (ga_own R rfl 0 rfl) gaA_nil) fun _ _ _ _ f q => ⟨_, _, h_r_288, f, q⟩) flat_ints) h_told_289) fun p_told_289 H1 R => (st_go (σ' := [some v_script_282, some v_rowhere_284, some v_due_286, some (V.ref p_passed_287), some (V.ref p_told_289), none, none]) rfl ?_)
    obtain ⟨r_290, h_r_290, h⟩ := bd_some h
    obtain ⟨c_292, h_c_292, h⟩ := bd_some h
    refine st_if R (et_orP (Evl.et_not (et_val (ev_bl (ga_gv (gv_call (gaA_cons (ga_own R rfl 0 rfl) (gaA_cons (ga_loc R rfl 0 rfl) gaA_nil)) fun _ _ _ _ f q => ⟨_, _, _, h_r_290, f, q⟩))))) h_c_292 fun hM => by obtain ⟨r_291, h_r_291, hM⟩ := bd_some hM; exact et_eq (Evl.et_not (et_val (ev_bl (ga_gv (gv_call (gaA_cons (ga_own R rfl 1 rfl) (gaA_cons (ga_loc R rfl 1 rfl) gaA_nil)) fun _ _ _ _ f q => ⟨_, _, _, h_r_291, f, q⟩))))) (Option.some.inj hM)) (fun hc H1 R => ?_) (fun hc H1 R => ?_)
    · rw [ite_t hc] at h
      have h_ := Option.some.inj h
      subst h_
      exact st_rt R (gl_bl Evl.ev_c) q rfl
    · rw [ite_f hc] at h
      repeat with_reducible refine st_fall1 ?_
      with_reducible refine st_fall2 ?_
      obtain ⟨g_294, h_g_294, h⟩ := bd_some h
      obtain ⟨passed_293, h_passed_293, h⟩ := bd_some h
      have h_passed_293 := Option.some.inj h_passed_293
      refine st_appT R rfl (j := 1) rfl (gl_int Evl.ev_c) (gd_some h_g_294) h_passed_293 (os' := [(p_told_289, (List.map PyData.int told_289)), (p_passed_287, (List.map PyData.int passed_293))]) rfl fun H1 R => ?_
      obtain ⟨q_295, h_q_295, h⟩ := bd_some h
      obtain ⟨passed_296, h_passed_296, h⟩ := bd_some h
      refine st_setT R rfl (j := 1) rfl (gl_int (ev_I0 (ev_int (ga_ix (f := PyData.int) (xs := passed_293) (ga_own R rfl 1 rfl) Evl.ev_c h_q_295)) Evl.ev_c)) Evl.ev_c h_passed_296 (os' := [(p_told_289, (List.map PyData.int told_289)), (p_passed_287, (List.map PyData.int passed_296))]) rfl fun H1 R => ?_
      obtain ⟨other_297, h_other_297, h⟩ := bd_some h
      have h_other_297 := Option.some.inj h_other_297
      refine st_asgL' R (gl_eqn (f := (eL PyData.int)) (gl_gn R (gn_list (ge_own R rfl 1 rfl))) h_other_297) fun v_other_297 H1 R => (st_go (σ' := [some v_script_282, some v_rowhere_284, some v_due_286, some (V.ref p_passed_287), some (V.ref p_told_289), some v_other_297, none]) rfl ?_)
      obtain ⟨r_298, h_r_298, h⟩ := bd_some h
      obtain ⟨c_302, h_c_302, h⟩ := bd_some h
      refine st_if R (et_orP (Evl.et_not (et_val (ev_bl (ga_gv (gv_call (gaA_cons (ga_own R rfl 0 rfl) (gaA_cons (ga_loc R rfl 1 rfl) gaA_nil)) fun _ _ _ _ f q => ⟨_, _, _, h_r_298, f, q⟩))))) h_c_302 fun hM => by obtain ⟨r_299, h_r_299, hM⟩ := bd_some hM; obtain ⟨r_300, h_r_300, hM⟩ := bd_some hM; obtain ⟨r_301, h_r_301, hM⟩ := bd_some hM; exact et_eq (Evl.et_not (et_val (ev_bl (ga_gv (gv_call (gaA_cons (ga_gv (gv_call (gaA_cons (ga_own R rfl 1 rfl) gaA_nil) fun _ _ _ _ f q => ⟨_, _, h_r_299, f, q⟩)) (gaA_cons (ga_gv (gv_call (gaA_cons (ga_loc R rfl 0 rfl) gaA_nil) fun _ _ _ _ f q => ⟨_, _, h_r_300, f, q⟩)) gaA_nil)) fun _ _ _ _ f q => ⟨_, _, _, h_r_301, f, q⟩))))) (Option.some.inj hM)) (fun hc H1 R => ?_) (fun hc H1 R => ?_)
      · rw [ite_t hc] at h
        have h_ := Option.some.inj h
        subst h_
        exact st_rt R (gl_bl Evl.ev_c) q rfl
      · rw [ite_f hc] at h
        repeat with_reducible refine st_fall1 ?_
        with_reducible refine st_fall2 ?_
        obtain ⟨q_303, h_q_303, h⟩ := bd_some h
        obtain ⟨told_304, h_told_304, h⟩ := bd_some h
        refine st_setT R rfl (j := 0) rfl (gl_int (ev_I0 (ev_int (ga_ix (f := PyData.int) (xs := told_289) (ga_own R rfl 0 rfl) Evl.ev_c h_q_303)) Evl.ev_c)) Evl.ev_c h_told_304 (os' := [(p_told_289, (List.map PyData.int told_304)), (p_passed_287, (List.map PyData.int passed_296))]) rfl fun H1 R => ?_
        obtain ⟨g_306, h_g_306, h⟩ := bd_some h
        obtain ⟨told_305, h_told_305, h⟩ := bd_some h
        have h_told_305 := Option.some.inj h_told_305
        refine st_appT R rfl (j := 0) rfl (gl_int Evl.ev_c) (gd_some h_g_306) h_told_305 (os' := [(p_told_289, (List.map PyData.int told_305)), (p_passed_287, (List.map PyData.int passed_296))]) rfl fun H1 R => ?_
        obtain ⟨r_307, h_r_307, h⟩ := bd_some h
        obtain ⟨c_310, h_c_310, h⟩ := bd_some h
        refine st_if R (et_orP (Evl.et_not (et_val (ev_bl (ga_gv (gv_call (gaA_cons (ga_own R rfl 1 rfl) (gaA_cons (ga_loc R rfl 0 rfl) gaA_nil)) fun _ _ _ _ f q => ⟨_, _, _, h_r_307, f, q⟩))))) h_c_310 fun hM => by obtain ⟨r_308, h_r_308, hM⟩ := bd_some hM; obtain ⟨r_309, h_r_309, hM⟩ := bd_some hM; exact et_eq (Evl.et_not (et_val (ev_bl (ga_gv (gv_call (gaA_cons (ga_gv (gv_call (gaA_cons (ga_gl (gl_gn R (gn_list (ge_gl (gl_loc R rfl 2 rfl))))) gaA_nil) fun _ _ _ _ f q => ⟨_, _, h_r_308, f, q⟩)) (gaA_cons (ga_loc R rfl 1 rfl) gaA_nil)) fun _ _ _ _ f q => ⟨_, _, _, h_r_309, f, q⟩))))) (Option.some.inj hM)) (fun hc H1 R => ?_) (fun hc H1 R => ?_)
        · rw [ite_t hc] at h
          have h_ := Option.some.inj h
          subst h_
          exact st_rt R (gl_bl Evl.ev_c) q rfl
        · rw [ite_f hc] at h
          repeat with_reducible refine st_fall1 ?_
          with_reducible refine st_fall2 ?_
          refine st_if R (Evl.et_test (ev_I0 (ev_len (f := PyData.int) (xs := rowhere_284) (ga_loc R rfl 2 rfl)) Evl.ev_c)) (fun hc H1 R => ?_) (fun hc H1 R => ?_)
          · rw [ite_t hc] at h
            have h_ := Option.some.inj h
            subst h_
            exact st_rt R (gl_bl Evl.ev_c) q rfl
          · rw [ite_f hc] at h
            repeat with_reducible refine st_fall1 ?_
            with_reducible refine st_fall2 ?_
            obtain ⟨r_311, h_r_311, h⟩ := bd_some h
            obtain ⟨out_321, hl_314, hO_315⟩ := bd_some h
            refine st_forG (f := (eL PyData.int)) (xs := r_311) R (gl_gv R (gv_call (gaA_cons (ga_int (ev_I0 (ev_len (f := PyData.int) (xs := rowhere_284) (ga_loc R rfl 2 rfl)) Evl.ev_c)) (gaA_cons (ga_int (ev_I0 (ev_len (f := PyData.int) (xs := rowhere_284) (ga_loc R rfl 2 rfl)) Evl.ev_c)) gaA_nil)) fun _ _ _ _ f q => ⟨_, _, _, h_r_311, f, q⟩)) (fun v_313 i σ' H' => ∃ (y_6 : Option V), forC (m_law_l1 due_286 rowhere_284) (List.drop i r_311) _ = some out_321 ∧ σ' = [some v_script_282, some v_rowhere_284, some v_due_286, some (V.ref p_passed_287), some (V.ref p_told_289), some v_other_297, y_6] ∧ Rg K H0 [(v_313, ((eL (eL PyData.int)) r_311)), (v_other_297, ((eL PyData.int) other_297)), (v_due_286, ((eL PyData.int) due_286)), (v_rowhere_284, ((eL PyData.int) rowhere_284))] [(p_told_289, (List.map PyData.int told_305)), (p_passed_287, (List.map PyData.int passed_296))] H') (fun v_313 H1 R => ⟨_, hl_314, rfl, (R.pick ⟨R.at 0 rfl, R.at 1 rfl, R.at 2 rfl, R.at 3 rfl, trivial⟩)⟩) (fun v_313 i σ' H' hM => ?_) (fun v_313 i sizes_312 w_sizes_312 σ' H' hx hw hM => ?_) (fun v_313 σ' H' hM => ?_)
            · obtain ⟨y_6, hl_314, rfl, R⟩ := hM
              exact R.atH 0 rfl
            · obtain ⟨y_6, hl_314, rfl, R⟩ := hM
              have R := R.add (hw _ ex_lc (R.at 0 rfl))
              obtain ⟨o1, h, hgo_317, hret_316, hbrk_318⟩ := forC_step hx hl_314
              unfold m_law_l1 at h
              try dsimp only at h
              refine st_go (σ' := [some v_script_282, some v_rowhere_284, some v_due_286, some (V.ref p_passed_287), some (V.ref p_told_289), some v_other_297, some w_sizes_312]) rfl ?_
              obtain ⟨r_319, h_r_319, h⟩ := bd_some h
              obtain ⟨r_320, h_r_320, h⟩ := bd_some h
              refine st_if R (Evl.et_test (ev_neB (ev_bl (ga_gv (gv_call (gaA_cons (ga_loc R rfl 0 rfl) (gaA_cons (ga_loc R rfl 3 rfl) gaA_nil)) fun _ _ _ _ f q => ⟨_, _, _, h_r_319, f, q⟩))) (ev_bl (ga_gv (gv_call (gaA_cons (ga_loc R rfl 0 rfl) (gaA_cons (ga_loc R rfl 4 rfl) gaA_nil)) fun _ _ _ _ f q => ⟨_, _, _, h_r_320, f, q⟩))))) (fun hc H1 R => ?_) (fun hc H1 R => ?_)
              · rw [ite_t hc] at h
                cases h
                obtain rfl := hret_316 _ rfl
                have h : some false = some _ := hO_315
                have h_ := Option.some.inj h
                subst h_
                exact st_rt R (gl_bl Evl.ev_c) q rfl
              · rw [ite_f hc] at h
                cases h
                repeat with_reducible refine st_fall1 ?_
                exact ⟨_, hgo_317 _ rfl, rfl, (R.pick ⟨R.at 1 rfl, R.at 2 rfl, R.at 3 rfl, R.at 4 rfl, trivial⟩)⟩
            · obtain ⟨y_6, hl_314, rfl, R⟩ := hM
              obtain rfl := forC_end rfl hl_314
              have h := hO_315
              try dsimp only [ctl] at h
              have h_ := Option.some.inj h
              subst h_
              exact st_rt R (gl_bl Evl.ev_c) q rfl
end
def spLaw (K : PySem.W.Frag) : Sp := fun vs H Q _ => ∃ (a : Addr) (ns : List Int), vs = [.ref a] ∧ SqL K H a (ns.map V.int) ∧ ns.length ≤ 63 ∧ ∀ H', Q (.bl true) H'
def d_counted_bounds : He.DefD := ⟨("counted_bounds", none), "counted_bounds", "counted_bounds", defArgs s_counted_bounds, defBody s_counted_bounds, defScope s_counted_bounds, [], []⟩
def d_raider_step : He.DefD := ⟨("raider_step", none), "raider_step", "raider_step", defArgs s_raider_step, defBody s_raider_step, defScope s_raider_step, [], []⟩
def d__law_cell : He.DefD := ⟨("_law_cell", none), "_law_cell", "_law_cell", defArgs s__law_cell, defBody s__law_cell, defScope s__law_cell, [], []⟩
def d__law_mixed : He.DefD := ⟨("_law_mixed", none), "_law_mixed", "_law_mixed", defArgs s__law_mixed, defBody s__law_mixed, defScope s__law_mixed, [], []⟩
def d__law_draws : He.DefD := ⟨("_law_draws", none), "_law_draws", "_law_draws", defArgs s__law_draws, defBody s__law_draws, defScope s__law_draws, [], []⟩
def d__law_like : He.DefD := ⟨("_law_like", none), "_law_like", "_law_like", defArgs s__law_like, defBody s__law_like, defScope s__law_like, [], []⟩
def d__law_list : He.DefD := ⟨("_law_list", none), "_law_list", "_law_list", defArgs s__law_list, defBody s__law_list, defScope s__law_list, [], []⟩
def d__law_lower : He.DefD := ⟨("_law_lower", none), "_law_lower", "_law_lower", defArgs s__law_lower, defBody s__law_lower, defScope s__law_lower, [], []⟩
def d__law_sums : He.DefD := ⟨("_law_sums", none), "_law_sums", "_law_sums", defArgs s__law_sums, defBody s__law_sums, defScope s__law_sums, [], []⟩
def d__law_fits : He.DefD := ⟨("_law_fits", none), "_law_fits", "_law_fits", defArgs s__law_fits, defBody s__law_fits, defScope s__law_fits, [], []⟩
def d__law_all_lists : He.DefD := ⟨("_law_all_lists", none), "_law_all_lists", "_law_all_lists", defArgs s__law_all_lists, defBody s__law_all_lists, defScope s__law_all_lists, [], []⟩
def d__law_row : He.DefD := ⟨("_law_row", none), "_law_row", "_law_row", defArgs s__law_row, defBody s__law_row, defScope s__law_row, [], []⟩
def d__law_stepped : He.DefD := ⟨("_law_stepped", none), "_law_stepped", "_law_stepped", defArgs s__law_stepped, defBody s__law_stepped, defScope s__law_stepped, [], []⟩
def d__law_best : He.DefD := ⟨("_law_best", none), "_law_best", "_law_best", defArgs s__law_best, defBody s__law_best, defScope s__law_best, [], []⟩
def d__law_won : He.DefD := ⟨("_law_won", none), "_law_won", "_law_won", defArgs s__law_won, defBody s__law_won, defScope s__law_won, [], []⟩
def d_law : He.DefD := ⟨("law", none), "law", "law", defArgs s_law, defBody s_law, defScope s_law, [], []⟩
def fn : List He.DefD := [d_counted_bounds, d_raider_step, d__law_cell, d__law_mixed, d__law_draws, d__law_like, d__law_list, d__law_lower, d__law_sums, d__law_fits, d__law_all_lists, d__law_row, d__law_stepped, d__law_best, d__law_won, d_law]
def fa : List He.Fa := [.glo "counted_bounds", .glo "raider_step", .glo "_law_cell", .glo "_law_mixed", .glo "_law_draws", .glo "_law_like", .glo "_law_list", .glo "_law_lower", .glo "_law_sums", .glo "_law_fits", .glo "_law_all_lists", .glo "_law_row", .glo "_law_stepped", .glo "_law_best", .glo "_law_won", .glo "law", .free "abs", .free "bool", .free "int", .free "isinstance", .free "len", .free "list", .free "max", .free "min", .free "range", .free "sorted", .free "str", .free "sum", .free "tuple"]
abbrev Rw : PySem.W.OpenRow := PySem.W.OpenLaw.row PySem.Challenge.rw_barebough_k09_raider_step
abbrev hk : PySem.W.Hook := He.hookD 4 fa fn
def ob (s : PySem.W.SharedT) : He.AlD := He.obsDG 4 fa fn (HandSHeadRun.getT s)
theorem ob_eq (s : PySem.W.SharedT) : ob s = hk.obs s.abs := He.obsDG_eq (HandSHeadRun.getT_eq s)
def loose0 : List Str := ["counted_bounds", "raider_step", "_law_cell", "_law_mixed", "_law_draws", "_law_like", "_law_list", "_law_lower", "_law_best", "_law_sums", "_law_fits", "_law_all_lists", "_law_row", "_law_stepped", "_law_won"]
def loose : List Str := loose0
theorem run (w : World) : HandSHeadRun.RunEq Rw (PySem.W.view Rw.prog [17]) hk ob 1280 ["counted_bounds", "raider_step", "_law_cell", "_law_mixed", "_law_draws", "_law_like", "_law_list", "_law_lower", "_law_best", "_law_sums", "_law_fits", "_law_all_lists", "_law_row", "_law_stepped", "_law_won"] w := by
  intro os
  kernel_rfl
theorem nodict {m : Nat} {a : PyData} (ha : Dok m a) : ∀ kvs, a ≠ .dict kvs := by
  rintro kvs rfl
  cases m <;> simp [Dok] at ha
theorem like_sc (n : Nat) (a b : PyData) (hb : Dok 0 b) (ha : ∀ kvs, a ≠ .dict kvs) : m_law_like (n + 1) a b = some (beqD a b) := by
  unfold m_law_like
  cases b with
  | none => cases a <;> rfl
  | bool c => cases c <;> cases a <;> first | rfl | (rename_i d; cases d <;> rfl)
  | int i => cases a <;> first | rfl | exact absurd rfl (ha _)
  | str x => cases a <;> first | rfl | exact absurd rfl (ha _)
  | list ds => simp [Dok] at hb
  | tuple ds => simp [Dok] at hb
  | dict _ => simp [Dok] at hb
theorem like_step (n : Nat) (ih : ∀ (m : Nat) (a b : PyData), Dok n b → Dok m a → m_law_like (n + 1) a b = some (beqD a b)) (ds es : List PyData) (x y : PyData) (hx : x = .list ds ∨ x = .tuple ds) (hy : y = .list es ∨ y = .tuple es) (hl : ds.length = es.length) (hds : ∀ z ∈ ds, ∃ k, Dok k z) (hes : ∀ z ∈ es, Dok n z) :
    forC (m_law_like_l1 (m_law_like (n + 1)) x y) (rng 0 (es.length : Int)) () = some (if beqDs ds es = true then .go () else .ret false) := by
  have key := sat_forU (f := m_law_like_l1 (m_law_like (n + 1)) x y) (xs := rng 0 (es.length : Int)) (fun i => ∀ (j : Nat) a b, j < i → ds[j]? = some a → es[j]? = some b → beqD a b = true) (fun c => c = false ∧ beqDs ds es = false) (fun j a b h => absurd h (Nat.not_lt_zero _)) (fun i k hk hi => ?_)
  · obtain ⟨o, e, h⟩ := key
    rw [e]
    cases o with
    | go s =>
      have h' : beqDs ds es = true := (beqDs_get hl).mpr fun i a b h1 h2 => h i a b (by
        rw [rng_len]
        have := (List.getElem?_eq_some_iff.mp h2).1
        omega) h1 h2
      rw [if_pos h']
    | ret c =>
      obtain ⟨rfl, h2⟩ := h
      rw [h2]
      rfl
    | brk s => exact h.elim
  · obtain ⟨rfl, hlt⟩ := rng_at hk
    have h1 : i < ds.length := by omega
    have h2 : i < es.length := by omega
    have e1 : ixD x (0 + (i : Int)) = some ds[i] := by
      rcases hx with rfl | rfl <;> (simp only [ixD]; rw [Int.zero_add]; exact atI_nat (List.getElem?_eq_getElem h1))
    have e2 : ixD y (0 + (i : Int)) = some es[i] := by
      rcases hy with rfl | rfl <;> (simp only [ixD]; rw [Int.zero_add]; exact atI_nat (List.getElem?_eq_getElem h2))
    unfold m_law_like_l1
    refine sat_eq e1 (sat_eq e2 ?_)
    obtain ⟨k, hk'⟩ := hds _ (List.getElem_mem h1)
    refine sat_eq (ih k _ _ (hes _ (List.getElem_mem h2)) hk') (sat_if (fun c => sat_some ?_) (fun c => sat_some ?_))
    · refine ⟨rfl, ?_⟩
      have c' : beqD ds[i] es[i] = false := by simpa using c
      cases q : beqDs ds es with
      | false => rfl
      | true =>
        have := (beqDs_get hl).mp q i _ _ (List.getElem?_eq_getElem h1) (List.getElem?_eq_getElem h2)
        rw [c'] at this
        cases this
    · intro j a b hj ha hb
      by_cases e : j = i
      · subst e
        rw [List.getElem?_eq_getElem h1] at ha
        rw [List.getElem?_eq_getElem h2] at hb
        obtain rfl := Option.some.inj ha
        obtain rfl := Option.some.inj hb
        simpa using c
      · exact hi j a b (by omega) ha hb
theorem dok_kids (m : Nat) (ds : List PyData) (h : Dok m (.list ds) ∨ Dok m (.tuple ds)) : ∀ z ∈ ds, ∃ k, Dok k z := by
  intro z hz
  cases m with
  | zero => rcases h with h | h <;> simp [Dok] at h
  | succ m => rcases h with h | h <;> (unfold Dok at h; exact ⟨m, h.2 z hz⟩)
theorem gd62 {k : Nat} (h : k < 2 ^ 60) : gd (-(2 ^ 62) ≤ (k : Int) ∧ (k : Int) < 2 ^ 62) = some () := gd_mk (by omega)
theorem like_ok : ∀ (n m : Nat) (a b : PyData), Dok n b → Dok m a → m_law_like (n + 1) a b = some (beqD a b)
  | 0, m, a, b, hb, ha => like_sc 0 a b hb (nodict ha)
  | n + 1, m, a, b, hb, ha => by
    have ih := like_ok n
    cases b with
    | list es =>
      unfold Dok at hb
      cases a with
      | list ds =>
        unfold m_law_like
        refine Sat.val ?_
        refine sat_iff rfl (sat_iff rfl (sat_iff rfl (sat_eq (a := false) rfl (sat_iff rfl (sat_eq (a := false) rfl (sat_iff rfl ?_))))))
        refine sat_eq (a := true) rfl ?_
        by_cases hl : ds.length = es.length
        · refine sat_eq (a := .go ()) (by simp [isListD, bd, lenD, hl]) ?_
          refine sat_go (sat_eq (a := (es.length : Int)) rfl (sat_eq (gd62 hb.1) ?_))
          refine sat_eq (like_step n ih ds es _ _ (.inl rfl) (.inl rfl) hl (dok_kids m ds (.inl ha)) hb.2) ?_
          show Sat _ fun x => x = beqDs ds es
          cases beqDs ds es with
          | true => exact sat_go (sat_some rfl)
          | false => exact sat_ret (sat_some rfl)
        · have hl' : ¬ (ds.length : Int) = (es.length : Int) := by omega
          refine sat_eq (a := .ret false) (by simp [isListD, bd, lenD, hl']) (sat_ret (sat_some ?_))
          exact (beqDs_len hl).symm
      | dict _ => exact absurd rfl (nodict ha _)
      | _ => unfold m_law_like; rfl
    | tuple es =>
      unfold Dok at hb
      cases a with
      | tuple ds =>
        unfold m_law_like
        refine Sat.val ?_
        refine sat_iff rfl (sat_iff rfl (sat_iff rfl (sat_eq (a := false) rfl (sat_iff rfl (sat_eq (a := false) rfl (sat_iff rfl ?_))))))
        refine sat_eq (a := false) rfl ?_
        by_cases hl : ds.length = es.length
        · refine sat_eq (a := .go ()) (by simp [isTupD, bd, lenD, hl]) ?_
          refine sat_go (sat_eq (a := (es.length : Int)) rfl (sat_eq (gd62 hb.1) ?_))
          refine sat_eq (like_step n ih ds es _ _ (.inr rfl) (.inr rfl) hl (dok_kids m ds (.inr ha)) hb.2) ?_
          show Sat _ fun x => x = beqDs ds es
          cases beqDs ds es with
          | true => exact sat_go (sat_some rfl)
          | false => exact sat_ret (sat_some rfl)
        · have hl' : ¬ (ds.length : Int) = (es.length : Int) := by omega
          refine sat_eq (a := .ret false) (by simp [isTupD, bd, lenD, hl']) (sat_ret (sat_some ?_))
          exact (beqDs_len hl).symm
      | dict _ => exact absurd rfl (nodict ha _)
      | _ => unfold m_law_like; rfl
    | dict _ => simp [Dok] at hb
    | none => exact like_sc _ a _ (dok_none 0) (nodict ha)
    | bool c => exact like_sc _ a _ (dok_bool 0 c) (nodict ha)
    | int c => exact like_sc _ a _ (dok_int 0 c) (nodict ha)
    | str c => exact like_sc _ a _ (dok_str 0 c) (nodict ha)
theorem dok_mono : ∀ (j i : Nat) (d : PyData), Dok i d → i ≤ j → Dok j d
  | 0, i, d, h, hi => by
    have : i = 0 := by omega
    subst this
    exact h
  | j + 1, 0, d, h, hi => by cases d <;> simp [Dok] at h ⊢
  | j + 1, i + 1, d, h, hi => by
    cases d <;> first | (simp [Dok]; done) | (simp [Dok] at h; done) | (unfold Dok at h ⊢; exact ⟨h.1, fun x hx => dok_mono j i x (h.2 x hx) (by omega)⟩)
theorem like_self {n m : Nat} {d : PyData} (h : Dok n d) (hm : n < m) : m_law_like m d d = some true := by
  obtain ⟨k, rfl⟩ : ∃ k, m = k + 1 := ⟨m - 1, by omega⟩
  rw [like_ok k n d d (dok_mono k n d h (by omega)) h, beqD_refl n d h]

theorem cell_ok (ns : List Int) {k : Int} (hk : 0 ≤ k) : Sat (m_law_cell ns k) fun c => 0 ≤ c := by
  unfold m_law_cell
  refine sat_ifd (fun h => ?_) (fun _ => sat_some (by omega))
  refine sat_bd (sat_atI hk h fun v _ => trivial) fun q _ => sat_some ?_
  show 0 ≤ if q < 0 then -q else q
  split <;> omega
theorem mixed_ok (c k : Int) {size : Int} (hs : 0 < size) : Sat (m_law_mixed c k size) fun v => 0 ≤ v ∧ v < size := by
  unfold m_law_mixed
  refine sat_let ?_
  generalize hx : (c + 7919 * k + 13) % 2147483647 = x
  have x0 : 0 ≤ x := by omega
  have x1 : x < 2147483647 := by omega
  refine sat_gd (.inl ⟨by omega, by omega⟩) (sat_let ?_)
  generalize hy : x * (x + 48271) % 2147483629 = y
  have y0 : 0 ≤ y := by omega
  have y1 : y < 2147483629 := by omega
  refine sat_gd (.inl ⟨by omega, by omega⟩) (sat_let ?_)
  generalize hz : (y * (y + 69621) + 31 * k) % 2147483647 = z
  have z0 : 0 ≤ z := by omega
  refine sat_gd (by omega) (sat_some ?_)
  rw [Int.fmod_eq_emod_of_nonneg _ (by omega)]
  exact ⟨Int.emod_nonneg _ (by omega), Int.emod_lt_of_pos _ hs⟩
abbrev Menu (m : Int) : Prop := 0 < m ∧ m < 1073741824
abbrev Drawn (m d : Int) : Prop := 0 ≤ d ∧ d < m
theorem draws_ok (c : Int) {menu : List Int} (hm : ∀ m ∈ menu, Menu m) (hl : menu.length ≤ 90000) : Sat (m_law_draws c menu) fun ds => F2 Drawn menu ds := by
  unfold m_law_draws
  refine sat_let (sat_let (sat_gd (by omega) ?_))
  refine sat_bd (sat_forP (fun i (s : List Int × Int) => i ≤ menu.length ∧ F2 Drawn (menu.take i) s.1) ⟨Nat.zero_le _, .nil⟩ ?_) ?_
  · rintro i ⟨found, rest⟩ k hk ⟨hi, h⟩
    obtain ⟨rfl, hlt⟩ := rng_at hk
    have hi' : i < menu.length := by omega
    have hat : atI menu (0 + (i : Int)) = some menu[i] := by rw [Int.zero_add]; exact atI_nat (List.getElem?_eq_getElem hi')
    obtain ⟨m1, m2⟩ := hm _ (List.getElem_mem hi')
    have hlen : found.length < sizeLine := szl (by
      have := h.length
      rw [List.length_take] at this
      have h' : found.length = min i menu.length := this.symm
      omega)
    have take : ∀ d, Drawn menu[i] d → F2 Drawn (menu.take (i + 1)) (found ++ [d]) := fun d hd => by
      rw [List.take_succ_eq_append_getElem hi']
      exact h.append (.cons hd .nil)
    unfold m_law_draws_l1
    refine sat_if (fun _ => ?_) (fun _ => ?_)
    · refine sat_eq hat (sat_gd (by omega) (sat_gd hlen (sat_let (sat_eq hat (sat_gd ⟨by omega, by omega⟩ (sat_let (sat_some ⟨hi', ?_⟩)))))))
      refine take _ ?_
      rw [Int.fmod_eq_emod_of_nonneg _ (by omega)]
      exact ⟨Int.emod_nonneg _ (by omega), Int.emod_lt_of_pos _ m1⟩
    · refine sat_eq hat (sat_bd (mixed_ok _ _ m1) fun r hr => sat_gd hlen (sat_let (sat_some ⟨hi', take _ hr⟩)))
  · rintro ⟨found, rest⟩ ⟨_, h⟩
    refine sat_some ?_
    have e : (rng 0 (menu.length : Int)).length = menu.length := by rw [rng_len]; omega
    rw [e, List.take_length] at h
    exact h

/-! ### size lists -/
structure SL (xs : List Int) : Prop where
  dec : xs.Pairwise (· ≥ ·)
  pos : ∀ x ∈ xs, 1 ≤ x
theorem sum_pos : ∀ {xs : List Int}, (∀ x ∈ xs, (1 : Int) ≤ x) → (xs.length : Int) ≤ xs.sum
  | [], _ => by simp
  | x :: xs, h => by
    have h1 := h x List.mem_cons_self
    have h2 := sum_pos (xs := xs) fun y hy => h y (List.mem_cons_of_mem _ hy)
    rw [List.length_cons, List.sum_cons]
    omega
theorem sum_nonneg : ∀ {xs : List Int}, (∀ x ∈ xs, (0 : Int) ≤ x) → 0 ≤ xs.sum
  | [], _ => by simp
  | x :: xs, h => by
    have h1 := h x List.mem_cons_self
    have h2 := sum_nonneg (xs := xs) fun y hy => h y (List.mem_cons_of_mem _ hy)
    rw [List.sum_cons]
    omega
theorem sum_perm {xs ys : List Int} (h : xs.Perm ys) : xs.sum = ys.sum := by
  induction h with
  | nil => rfl
  | cons x _ ih => rw [List.sum_cons, List.sum_cons, ih]
  | swap x y l => rw [List.sum_cons, List.sum_cons, List.sum_cons, List.sum_cons]; omega
  | trans _ _ h1 h2 => exact h1.trans h2
theorem SL.srt {xs : List Int} (h : ∀ x ∈ xs, (1 : Int) ≤ x) : SL (srtD xs) := ⟨pw_srtD xs, fun x hx => h x ((perm_srtD xs).mem_iff.mp hx)⟩
theorem SL.len {xs : List Int} (h : SL xs) : (xs.length : Int) ≤ xs.sum := sum_pos h.pos
theorem SL.nonneg {xs : List Int} (h : SL xs) : 0 ≤ xs.sum := by have := h.len; omega
theorem SL.tail {x : Int} {xs : List Int} (h : SL (x :: xs)) : SL xs := ⟨(List.pairwise_cons.mp h.dec).2, fun y hy => h.pos y (List.mem_cons_of_mem _ hy)⟩
theorem SL.head {x : Int} {xs : List Int} (h : SL (x :: xs)) : 1 ≤ x := h.pos x List.mem_cons_self
theorem SL.le {x : Int} {xs : List Int} (h : SL (x :: xs)) : ∀ y ∈ xs, y ≤ x := (List.pairwise_cons.mp h.dec).1
theorem srtD_self {xs : List Int} (h : xs.Pairwise (· ≥ ·)) : srtD xs = xs := (srtD_eq (List.Perm.refl xs) h).symm
/-- the sum of the first k entries -/
def tp (xs : List Int) (k : Nat) : Int := (xs.take k).sum
theorem tp_zero (xs : List Int) : tp xs 0 = 0 := by simp [tp]
theorem tp_nil (k : Nat) : tp [] k = 0 := by simp [tp]
theorem tp_cons (x : Int) (xs : List Int) (k : Nat) : tp (x :: xs) (k + 1) = x + tp xs k := by simp [tp]
theorem tp_all {xs : List Int} {k : Nat} (h : xs.length ≤ k) : tp xs k = xs.sum := by unfold tp; rw [List.take_of_length_le h]
theorem tp_le_sum : ∀ {xs : List Int} (k : Nat), (∀ x ∈ xs, (0 : Int) ≤ x) → tp xs k ≤ xs.sum
  | [], k, _ => by simp [tp]
  | x :: xs, 0, h => by rw [tp_zero]; exact sum_nonneg h
  | x :: xs, k + 1, h => by
    rw [tp_cons, List.sum_cons]
    have := tp_le_sum (xs := xs) k fun y hy => h y (List.mem_cons_of_mem _ hy)
    omega
theorem tp_succ {xs : List Int} {k : Nat} {x : Int} (h : xs[k]? = some x) : tp xs (k + 1) = tp xs k + x := by
  unfold tp
  have hl := (List.getElem?_eq_some_iff.mp h).1
  rw [List.take_succ_eq_append_getElem hl, List.sum_append]
  have := (List.getElem?_eq_some_iff.mp h).2
  simp [this]
theorem tp_lt_of {xs : List Int} {k : Nat} (h : SL xs) (hk : k < xs.length) : tp xs k < xs.sum := by
  have hx := List.getElem?_eq_getElem hk
  have h1 := tp_succ hx
  have h2 := tp_le_sum (xs := xs) (k + 1) fun x hx => by have := h.pos x hx; omega
  have := h.pos _ (List.getElem_mem hk)
  omega
/-! ### a largest entry lowered -/
def lw : List Int → List Int
  | [] => []
  | [x] => if x = 1 then [] else [x - 1]
  | x :: y :: r => if x = y then x :: lw (y :: r) else (x - 1) :: y :: r
theorem lw_perm : ∀ {x : Int} {r : List Int}, SL (x :: r) → (lw (x :: r)).Perm (((x - 1) :: r).filter fun e => decide (0 < e))
  | x, [], h => by
    have := h.head
    unfold lw
    by_cases c : x = 1
    · subst c; simp
    · have : 0 < x - 1 := by omega
      rw [if_neg c, List.filter_cons, if_pos (decide_eq_true this)]
      simp
  | x, y :: r, h => by
    have h1 := h.head
    have h2 := h.tail.head
    have h3 := h.le y List.mem_cons_self
    have hf : (y :: r).filter (fun e => decide (0 < e)) = y :: r := List.filter_eq_self.mpr fun e he => by
      have := h.tail.pos e he
      simp; omega
    unfold lw
    by_cases c : x = y
    · subst c
      rw [if_pos rfl]
      have ih := lw_perm h.tail
      rw [List.filter_cons] at ih ⊢
      rw [hf]
      have hr : r.filter (fun e => decide (0 < e)) = r := List.filter_eq_self.mpr fun e he => by
        have := h.tail.tail.pos e he
        simp; omega
      rw [hr] at ih
      by_cases d : 0 < x - 1
      · rw [if_pos (decide_eq_true d)] at ih ⊢
        exact (ih.cons x).trans (List.Perm.swap _ _ _)
      · rw [if_neg (by simpa using d)] at ih ⊢
        exact ih.cons x
    · rw [if_neg c, List.filter_cons, if_pos (by simp; omega), hf]
theorem lw_le : ∀ {x : Int} {r : List Int} {b : Int}, SL (x :: r) → x ≤ b → ∀ e ∈ lw (x :: r), e ≤ b
  | x, [], b, h, hb, e, he => by
    unfold lw at he
    by_cases c : x = 1
    · rw [if_pos c] at he; simp at he
    · rw [if_neg c] at he; simp at he; omega
  | x, y :: r, b, h, hb, e, he => by
    have h3 := h.le y List.mem_cons_self
    unfold lw at he
    by_cases c : x = y
    · rw [if_pos c] at he
      rcases List.mem_cons.mp he with rfl | he
      · exact hb
      · exact lw_le h.tail (by omega) e he
    · rw [if_neg c] at he
      rcases List.mem_cons.mp he with rfl | he
      · omega
      · have := h.le e he
        omega
theorem lw_SL : ∀ {x : Int} {r : List Int}, SL (x :: r) → SL (lw (x :: r))
  | x, [], h => by
    have := h.head
    unfold lw
    by_cases c : x = 1
    · rw [if_pos c]; exact ⟨List.Pairwise.nil, by simp⟩
    · rw [if_neg c]; exact ⟨List.pairwise_singleton _ _, by simp; omega⟩
  | x, y :: r, h => by
    have h3 := h.le y List.mem_cons_self
    unfold lw
    by_cases c : x = y
    · rw [if_pos c]
      have ih := lw_SL h.tail
      refine ⟨List.pairwise_cons.mpr ⟨fun e he => ?_, ih.dec⟩, fun e he => ?_⟩
      · exact lw_le h.tail (by omega) e he
      · rcases List.mem_cons.mp he with rfl | he
        · exact h.head
        · exact ih.pos e he
    · rw [if_neg c]
      refine ⟨List.pairwise_cons.mpr ⟨fun e he => ?_, h.tail.dec⟩, fun e he => ?_⟩
      · have : e ≤ y := by
          rcases List.mem_cons.mp he with rfl | he
          · omega
          · exact h.tail.le e he
        show x - 1 ≥ e
        omega
      · rcases List.mem_cons.mp he with rfl | he
        · have := h.tail.head; omega
        · exact h.tail.pos e he
theorem lw_srt {x : Int} {r : List Int} (h : SL (x :: r)) : srtD (((x - 1) :: r).filter fun e => decide (0 < e)) = lw (x :: r) := (srtD_eq (lw_perm h) (lw_SL h).dec).symm
theorem lw_sum : ∀ {x : Int} {r : List Int}, SL (x :: r) → (lw (x :: r)).sum = (x :: r).sum - 1
  | x, [], h => by
    unfold lw
    by_cases c : x = 1
    · rw [if_pos c]; subst c; simp
    · rw [if_neg c]; simp
  | x, y :: r, h => by
    unfold lw
    by_cases c : x = y
    · rw [if_pos c, List.sum_cons, lw_sum h.tail, List.sum_cons (a := x)]; omega
    · rw [if_neg c, List.sum_cons, List.sum_cons (a := x)]; omega
theorem tp_ge : ∀ {xs : List Int} (h : SL xs) (j : Nat) {a : Int}, (0 ≤ a) → (∀ b, xs[j]? = some b → a ≤ b) → (xs.length ≤ j → a = 0) → (j : Int) * a ≤ tp xs j
  | [], h, j, a, h0, h1, h2 => by rw [h2 (Nat.zero_le _), tp_nil]; simp
  | x :: xs, h, 0, a, h0, h1, h2 => by simp [tp]
  | x :: xs, h, j + 1, a, h0, h1, h2 => by
    have ih := tp_ge h.tail j h0 (fun b hb => h1 b hb) (fun hl => h2 (by simp only [List.length_cons]; omega))
    rw [tp_cons]
    have hx : a ≤ x := by
      by_cases c : j + 1 < (x :: xs).length
      · have hb := List.getElem?_eq_getElem c
        have ha := h1 _ hb
        have := h.le _ (List.mem_of_getElem? (show xs[j]? = some (x :: xs)[j + 1] from hb))
        omega
      · rw [h2 (by omega)]
        have := h.head
        omega
    have e : ((j + 1 : Nat) : Int) * a = (j : Int) * a + a := by push_cast; rw [Int.add_mul, Int.one_mul]
    omega
/-- the entry at j, 0 beyond -/
def en (xs : List Int) (j : Nat) : Int := xs.getD j 0
theorem en_some {xs : List Int} {j : Nat} {a : Int} (h : xs[j]? = some a) : en xs j = a := by unfold en; rw [List.getD_eq_getElem?_getD, h]; rfl
theorem en_none {xs : List Int} {j : Nat} (h : xs.length ≤ j) : en xs j = 0 := by unfold en; rw [List.getD_eq_getElem?_getD, List.getElem?_eq_none h]; rfl
theorem en_nonneg {xs : List Int} (h : SL xs) (j : Nat) : 0 ≤ en xs j := by
  by_cases c : j < xs.length
  · rw [en_some (List.getElem?_eq_getElem c)]
    have := h.pos _ (List.getElem_mem c)
    omega
  · rw [en_none (by omega)]; omega
theorem tp_en {xs : List Int} (j : Nat) : tp xs (j + 1) = tp xs j + en xs j := by
  by_cases c : j < xs.length
  · rw [tp_succ (List.getElem?_eq_getElem c), en_some (List.getElem?_eq_getElem c)]
  · rw [en_none (by omega), tp_all (by omega), tp_all (by omega)]; omega
theorem tp_ge_en {xs : List Int} (h : SL xs) (j : Nat) : (j : Int) * en xs j ≤ tp xs j :=
  tp_ge h j (en_nonneg h j) (fun b hb => by rw [en_some hb]; omega) (fun hl => en_none hl)
theorem lw_tp : ∀ {x : Int} {r : List Int} (_ : SL (x :: r)) (j : Nat), (tp (lw (x :: r)) (j + 1) = tp (x :: r) (j + 1) - 1 ∧ ((j + 1 : Nat) : Int) * en (x :: r) (j + 1) + 1 ≤ tp (x :: r) (j + 1)) ∨
    (tp (lw (x :: r)) (j + 1) = tp (x :: r) (j + 1) ∧ tp (x :: r) (j + 1) = ((j + 1 : Nat) : Int) * x ∧ en (x :: r) (j + 1) = x)
  | x, [], h, j => by
    left
    have h1 := h.head
    have e1 : tp [x] (j + 1) = x := by rw [tp_cons, tp_nil]; omega
    have e2 : en [x] (j + 1) = 0 := en_none (by simp)
    rw [e1, e2]
    refine ⟨?_, by omega⟩
    unfold lw
    by_cases c : x = 1
    · rw [if_pos c, tp_nil]; omega
    · rw [if_neg c, tp_cons, tp_nil]; omega
  | x, y :: r, h, j => by
    have h3 := h.le y List.mem_cons_self
    unfold lw
    by_cases c : x = y
    · subst c
      rw [if_pos rfl, tp_cons, tp_cons]
      have e0 : en (x :: x :: r) (j + 1) = en (x :: r) j := rfl
      rw [e0]
      cases j with
      | zero =>
        right
        rw [tp_zero, tp_zero]
        exact ⟨rfl, by simp, rfl⟩
      | succ j =>
        have e2 : ((j + 1 + 1 : Nat) : Int) * en (x :: r) (j + 1) = ((j + 1 : Nat) : Int) * en (x :: r) (j + 1) + en (x :: r) (j + 1) := by push_cast; rw [Int.add_mul _ 1, Int.one_mul]
        have e3 : ((j + 1 + 1 : Nat) : Int) * x = ((j + 1 : Nat) : Int) * x + x := by push_cast; rw [Int.add_mul _ 1, Int.one_mul]
        rcases lw_tp h.tail j with ⟨a, b⟩ | ⟨a, b, d⟩
        · left
          have hx : en (x :: r) (j + 1) ≤ x := by
            by_cases q : j < r.length
            · rw [show en (x :: r) (j + 1) = en r j from rfl, en_some (List.getElem?_eq_getElem q)]
              exact h.tail.le _ (List.getElem_mem q)
            · rw [show en (x :: r) (j + 1) = en r j from rfl, en_none (by omega)]
              have := h.head
              omega
          exact ⟨by omega, by omega⟩
        · right
          exact ⟨by omega, by omega, d⟩
    · left
      rw [if_neg c, tp_cons, tp_cons]
      refine ⟨by omega, ?_⟩
      have e0 : en (x :: y :: r) (j + 1) = en (y :: r) j := rfl
      rw [e0]
      have g := tp_ge_en h.tail j
      have e2 : ((j + 1 : Nat) : Int) * en (y :: r) j = (j : Int) * en (y :: r) j + en (y :: r) j := by push_cast; rw [Int.add_mul, Int.one_mul]
      have hy : en (y :: r) j ≤ y := by
        cases j with
        | zero => exact Int.le_refl _
        | succ j =>
          by_cases q : j < r.length
          · rw [show en (y :: r) (j + 1) = en r j from rfl, en_some (List.getElem?_eq_getElem q)]
            exact h.tail.le _ (List.getElem_mem q)
          · rw [show en (y :: r) (j + 1) = en r j from rfl, en_none (by omega)]
            have := h.tail.head
            omega
      omega
/-- THE KEEPER'S STEP -/
theorem keeper_iff {x : Int} {r : List Int} (h : SL (x :: r)) {n : Nat} (hs : (x :: r).sum = n + 1) (B : Nat → Int) (hB : B n = n) :
    (∀ k, k < n → tp (lw (x :: r)) (k + 1) ≤ B k) ↔ (tp (x :: r) 1 ≤ B 0 + 1 ∧ ∀ k, 1 ≤ k → k ≤ n → tp (x :: r) (k + 1) ≤ B k + 1 ∧ tp (x :: r) (k + 1) ≤ B (k - 1) + 1 + Int.fdiv (B (k - 1)) k) := by
  have nn : ∀ e ∈ (x :: r), (0 : Int) ≤ e := fun e he => by have := h.pos e he; omega
  have fl : ∀ (b : Int) (j : Nat), 1 ≤ j → (j : Int) * Int.fdiv b j ≤ b ∧ b < (j : Int) * Int.fdiv b j + j := fun b j hj => by
    have e1 := Int.mul_fdiv_add_fmod b j
    have e2 : Int.fmod b j = b % j := Int.fmod_eq_emod_of_nonneg _ (by omega)
    have e3 := Int.emod_nonneg b (show (j : Int) ≠ 0 by omega)
    have e4 := Int.emod_lt_of_pos b (show (0 : Int) < j by omega)
    omega
  have mono : ∀ (a q : Int) (j : Nat) (b : Int), (j : Int) * a ≤ b → b < (j : Int) * q + j → a ≤ q := fun a q j b h1 h2 => by
    have h3 : (j : Int) * a < (j : Int) * (q + 1) := by rw [Int.mul_add, Int.mul_one]; omega
    have : a < q + 1 := Int.lt_of_mul_lt_mul_left h3 (by omega)
    omega
  constructor
  · intro H
    have up : ∀ k, k ≤ n → tp (x :: r) (k + 1) ≤ B k + 1 := fun k hk => by
      by_cases c : k < n
      · have := H k c
        rcases lw_tp h k with ⟨a, _⟩ | ⟨a, _, _⟩ <;> omega
      · have e : k = n := by omega
        subst e
        have := tp_le_sum (xs := x :: r) (k + 1) nn
        omega
    refine ⟨up 0 (Nat.zero_le _), fun k h1 h2 => ⟨up k h2, ?_⟩⟩
    obtain ⟨j, rfl⟩ : ∃ j, k = j + 1 := ⟨k - 1, by omega⟩
    have hb := H j (by omega)
    rw [Nat.add_sub_cancel, tp_en (j + 1)]
    obtain ⟨f1, f2⟩ := fl (B j) (j + 1) (by omega)
    rcases lw_tp h j with ⟨a, b⟩ | ⟨a, b, d⟩
    · have := mono (en (x :: r) (j + 1)) (Int.fdiv (B j) ((j + 1 : Nat) : Int)) (j + 1) (B j) (by omega) f2
      omega
    · have := mono x (Int.fdiv (B j) ((j + 1 : Nat) : Int)) (j + 1) (B j) (by omega) f2
      omega
  · rintro ⟨H0, H⟩ k hk
    have hk1 : tp (x :: r) (k + 1) ≤ B k + 1 := by
      cases k with
      | zero => exact H0
      | succ k => exact (H (k + 1) (by omega) (by omega)).1
    rcases lw_tp h k with ⟨a, _⟩ | ⟨a, b, d⟩
    · omega
    · have hk2 := (H (k + 1) (by omega) (by omega)).2
      rw [Nat.add_sub_cancel, tp_en (k + 1), d] at hk2
      obtain ⟨f1, f2⟩ := fl (B k) (k + 1) (by omega)
      rw [a, b]
      by_cases c : ((k + 1 : Nat) : Int) * x ≤ B k
      · exact c
      · exfalso
        -- the quotient is below x
        have q1 : Int.fdiv (B k) ((k + 1 : Nat) : Int) < x := by
          by_cases q : Int.fdiv (B k) ((k + 1 : Nat) : Int) < x
          · exact q
          · exfalso
            have := Int.mul_le_mul_of_nonneg_left (show x ≤ Int.fdiv (B k) ((k + 1 : Nat) : Int) by omega) (show (0 : Int) ≤ ((k + 1 : Nat) : Int) by omega)
            omega
        omega
/-! ### a smallest entry lowered -/
def lwS (r : List Int) (x : Int) : List Int := if x = 1 then r else r ++ [x - 1]
theorem SL.left {r s : List Int} (h : SL (r ++ s)) : SL r := ⟨(List.pairwise_append.mp h.dec).1, fun y hy => h.pos y (List.mem_append_left _ hy)⟩
theorem lwS_SL {r : List Int} {x : Int} (h : SL (r ++ [x])) : SL (lwS r x) := by
  have h1 := h.pos x (by simp)
  unfold lwS
  by_cases c : x = 1
  · rw [if_pos c]; exact h.left
  · rw [if_neg c]
    refine ⟨List.pairwise_append.mpr ⟨h.left.dec, List.pairwise_singleton _ _, fun a ha b hb => ?_⟩, fun y hy => ?_⟩
    · have := (List.pairwise_append.mp h.dec).2.2 a ha x (by simp)
      have : b = x - 1 := by simpa using hb
      omega
    · rcases List.mem_append.mp hy with hy | hy
      · exact h.left.pos y hy
      · have : y = x - 1 := by simpa using hy
        omega
theorem lwS_sum (r : List Int) (x : Int) : (lwS r x).sum = (r ++ [x]).sum - 1 := by
  unfold lwS
  by_cases c : x = 1
  · rw [if_pos c]; subst c; simp
  · rw [if_neg c]; simp; omega
theorem lwS_srt {r : List Int} {x : Int} (h : SL (r ++ [x])) : srtD ((r ++ [x - 1]).filter fun e => decide (0 < e)) = lwS r x := by
  have h1 := h.pos x (by simp)
  have hr : r.filter (fun e => decide (0 < e)) = r := List.filter_eq_self.mpr fun e he => by
    have := h.left.pos e he
    simp; omega
  have e : (r ++ [x - 1]).filter (fun e => decide (0 < e)) = lwS r x := by
    rw [List.filter_append, hr]
    unfold lwS
    by_cases c : x = 1
    · subst c; simp
    · have : 0 < x - 1 := by omega
      rw [if_neg c, List.filter_cons, if_pos (decide_eq_true this)]
      simp
  rw [e, srtD_self (lwS_SL h).dec]
theorem lwS_tp {r : List Int} {x : Int} (k : Nat) (hk : k ≤ r.length) : tp (lwS r x) k = tp (r ++ [x]) k := by
  have e : ∀ s, tp (r ++ s) k = tp r k := fun s => by
    unfold tp
    rw [List.take_append_of_le_length hk]
  unfold lwS
  split
  · rw [e]
  · rw [e, e]
theorem lwS_tp' {r : List Int} {x : Int} (k : Nat) (hk : r.length < k) : tp (lwS r x) k = (r ++ [x]).sum - 1 := by
  rw [← lwS_sum, tp_all]
  unfold lwS
  split
  · omega
  · rw [List.length_append, List.length_singleton]; omega

theorem list_ok (c : Int) {total : Int} (h0 : 0 ≤ total) (h1 : total ≤ 1000) : Sat (m_law_list c total) fun xs => SL xs ∧ xs.sum = total := by
  unfold m_law_list
  refine sat_bd (draws_ok c (menu := [4, 9]) (by simp [Menu]) (by simp)) fun head hh => sat_let ?_
  have hmx : 1 ≤ (if 1 < total then total else 1) ∧ (if 1 < total then total else 1) ≤ 1000 := by split <;> omega
  generalize (if 1 < total then total else 1) = mx at *
  rw [repI_one]
  refine sat_gd (repOk (by omega) (by omega) (by simp; omega)) (sat_gd (sz (by simp; omega)) ?_)
  refine sat_bd (draws_ok c (menu := [4, 9] ++ List.replicate total.toNat mx) (fun m hm => ?_) (by simp; omega)) fun dr hd => sat_let (sat_let (sat_let ?_))
  · rcases List.mem_append.mp hm with h | h
    · simp at h
      rcases h with rfl | rfl <;> simp [Menu]
    · rw [(List.mem_replicate.mp h).2]
      exact ⟨by omega, by omega⟩
  have hdl : dr.length = 2 + total.toNat := by
    have := hd.length
    simp at this
    omega
  have hd0 : ∀ v ∈ dr, 0 ≤ v := fun v hv => let ⟨_, _, r⟩ := hd.mem hv; r.1
  have hhl : head.length = 2 := by
    have := hh.length
    simp at this
    omega
  have hh0 : ∀ v ∈ head, 0 ≤ v := fun v hv => let ⟨_, _, r⟩ := hh.mem hv; r.1
  refine sat_gd (by omega) ?_
  refine sat_bd (sat_forP (fun i (s : List Int × Int) => (∀ x ∈ s.1, (1 : Int) ≤ x) ∧ s.1.sum + s.2 = total ∧ 0 ≤ s.2 ∧ s.1.length ≤ i ∧ (i : Int) ≤ total ∧ (s.2 + i ≤ total ∨ s.2 = 0)) ⟨by simp, by simp, h0, by simp, by omega, .inl (by simp)⟩ ?_) ?_
  · rintro i ⟨found, rest⟩ k hk ⟨i1, i2, i3, i4, i5, i6⟩
    obtain ⟨rfl, hlt⟩ := rng_at hk
    simp only at i1 i2 i3 i4 i6
    unfold m_law_list_l1
    refine sat_ifd (fun hr => ?_) (fun hr => sat_some ⟨i1, i2, i3, by simp only; omega, by omega, .inr (by simp only; omega)⟩)
    have fm : ∀ q m : Int, 0 < m → 0 ≤ Int.fmod q m ∧ Int.fmod q m < m := fun q m hm => by
      rw [Int.fmod_eq_emod_of_nonneg _ (by omega)]
      exact ⟨Int.emod_nonneg _ (by omega), Int.emod_lt_of_pos _ hm⟩
    refine sat_bd (sat_atM (P := fun v => 0 ≤ v) (by omega) (by omega) hd0) fun q1 hq1 => sat_gd (by omega) (sat_let ?_)
    have p1 := fm q1 rest hr
    refine sat_bd (sat_atM (P := fun v => 0 ≤ v) (by omega) (by omega) hh0) fun a1 _ => ?_
    refine sat_bd (P := fun p => 1 ≤ p ∧ p ≤ rest) (sat_ifd (fun _ => ?_) (fun _ => sat_some (by omega))) fun p2 hp2 => ?_
    · refine sat_bd (sat_atM (P := fun v => 0 ≤ v) (by omega) (by omega) hd0) fun q2 _ => ?_
      have hm3 : 0 < (if 3 < rest then 3 else rest) ∧ (if 3 < rest then 3 else rest) ≤ rest := by split <;> omega
      generalize (if 3 < rest then 3 else rest) = m3 at *
      have := fm q2 m3 hm3.1
      exact sat_gd (by omega) (sat_let (sat_some (by omega)))
    refine sat_bd (sat_atM (P := fun v => 0 ≤ v) (by omega) (by omega) hh0) fun a2 _ => ?_
    refine sat_bd (P := fun p => 1 ≤ p ∧ p ≤ rest) (sat_ifd (fun _ => ?_) (fun _ => sat_some hp2)) fun p3 hp3 => ?_
    · refine sat_bd (sat_atM (P := fun v => 0 ≤ v) (by omega) (by omega) hh0) fun a3 ha3 => ?_
      refine sat_bd (sat_atM (P := fun v => 0 ≤ v) (by omega) (by omega) hd0) fun q3 hq3 => sat_let (sat_some ?_)
      show 1 ≤ (if 1 + a3 + q3 % 2 < rest then 1 + a3 + q3 % 2 else rest) ∧ (if 1 + a3 + q3 % 2 < rest then 1 + a3 + q3 % 2 else rest) ≤ rest
      split <;> omega
    refine sat_bd (sat_atM (P := fun v => 0 ≤ v) (by omega) (by omega) hh0) fun a4 _ => ?_
    refine sat_bd (P := fun p => 1 ≤ p ∧ p ≤ rest) (sat_if (fun _ => sat_let (sat_some (by omega))) (fun _ => sat_some hp3)) fun p4 hp4 => ?_
    refine sat_gd (szl (by omega)) (sat_let (sat_let (sat_some ⟨fun x hx => ?_, ?_, ?_, ?_, by omega, ?_⟩)))
    · rcases List.mem_append.mp hx with h | h
      · exact i1 x h
      · simp at h
        omega
    · simp only [List.sum_append, List.sum_cons, List.sum_nil]
      omega
    · simp only; omega
    · simp only [List.length_append, List.length_singleton]; omega
    · simp only
      left
      push_cast
      omega
  · rintro ⟨found, rest⟩ ⟨i1, i2, i3, i4, i5, i6⟩
    rw [rng_len] at i5 i6
    simp only at i1 i2 i3 i6
    refine sat_some ⟨.srt i1, ?_⟩
    rw [sum_perm (perm_srtD found)]
    omega

/-! ### sums, fitting, lowering -/
theorem sums_ok {xs : List Int} (h : SL xs) (hb : xs.sum ≤ 1000) : m_law_sums xs = some ((rng 0 xs.sum).map fun k => tp xs (k.toNat + 1)) := by
  have h0 := h.nonneg
  unfold m_law_sums
  rw [gd_mk (by omega)]
  refine Sat.val (sat_let ?_)
  refine sat_eq (cmP_map (fun k => tp xs (k.toNat + 1)) fun k hk => ?_) (sat_gd (sz ?_) (sat_some rfl))
  · have := (mem_rng.mp hk).1
    rw [sln_take (by omega)]
    congr 2
    unfold tp
    congr 2
    omega
  · rw [List.length_map, rng_len]; omega
def FitsP (xs row : List Int) : Prop := ∀ (k : Nat) b, (k : Int) < xs.sum → row[k]? = some b → tp xs (k + 1) ≤ b
theorem fits_ok {xs row : List Int} (h : SL xs) (hb : xs.sum ≤ 1000) (hr : xs.sum ≤ row.length) : Sat (m_law_fits xs row) fun b => (b = true ↔ FitsP xs row) := by
  have h0 := h.nonneg
  unfold m_law_fits
  have el : ((rng 0 xs.sum).map fun k => tp xs (k.toNat + 1)).length = xs.sum.toNat := by rw [List.length_map, rng_len]; congr 1; omega
  refine sat_eq (sums_ok h hb) (sat_let (sat_gd (by omega) ?_))
  refine sat_bd (sat_forU (fun i => ∀ (k : Nat) b, k < i → row[k]? = some b → tp xs (k + 1) ≤ b) (fun c => c = false ∧ ¬ FitsP xs row) (fun k b hk => absurd hk (Nat.not_lt_zero _)) ?_) ?_
  · intro i k hk hi
    obtain ⟨rfl, hlt⟩ := rng_at hk
    unfold m_law_fits_l1
    have hi1 : (i : Int) < xs.sum := by omega
    have e1 : atI ((rng 0 xs.sum).map fun k => tp xs (k.toNat + 1)) (0 + (i : Int)) = some (tp xs (i + 1)) := by
      refine atI_some (by omega) ?_
      rw [List.getElem?_map, show (0 + (i : Int)).toNat = i by omega, rng_get (by omega)]
      show some (tp xs ((0 + (i : Int)).toNat + 1)) = _
      rw [show (0 + (i : Int)).toNat = i by omega]
    have hri : i < row.length := by omega
    have e2 : atI row (0 + (i : Int)) = some row[i] := by rw [Int.zero_add]; exact atI_nat (List.getElem?_eq_getElem hri)
    refine sat_eq e1 (sat_eq e2 (sat_ifd (fun c => sat_some ⟨rfl, fun z => ?_⟩) (fun c => sat_some fun k b hk hb => ?_)))
    · have := z i _ hi1 (List.getElem?_eq_getElem hri)
      omega
    · by_cases e : k = i
      · subst e
        rw [List.getElem?_eq_getElem hri] at hb
        have := Option.some.inj hb
        omega
      · exact hi k b (by omega) hb
  · intro o ho
    cases o with
    | go s =>
      refine sat_go (sat_some ⟨fun _ k b hk hb => ho k b ?_ hb, fun _ => rfl⟩)
      rw [rng_len, el]
      omega
    | ret c => exact sat_ret (sat_some ⟨fun z => (by rw [ho.1] at z; cases z), fun z => absurd z ho.2⟩)
    | brk s => exact ho.elim
theorem lower0_ok {x : Int} {r : List Int} (h : SL (x :: r)) (hb : (x :: r).sum ≤ 1000) : m_law_lower (x :: r) 0 = some (lw (x :: r)) := by
  have hl := h.len
  have hl2 : (r.length : Int) + 1 ≤ 1000 := by simp only [List.length_cons] at hl; push_cast at hl; omega
  unfold m_law_lower
  refine Sat.val ?_
  refine sat_eq (a := x) (atI_some (by omega) rfl) ?_
  rw [sln_take (by omega), sln_drop (by omega)]
  refine sat_gd (sz (by simp)) (sat_gd (sz ?_) (sat_let ?_))
  · simp; omega
  refine sat_eq (a := (((x - 1) :: r).filter fun e => decide (0 < e))) (cmP_filter (fun e => decide (0 < e)) fun e _ => by by_cases c : 0 < e <;> simp [c]) (sat_gd (sz ?_) (sat_some (lw_srt h)))
  refine Nat.le_trans (List.length_filter_le _ _) ?_
  simp only [List.length_cons]; omega

/-! ### all size lists with a sum -/
theorem all_ok : ∀ (n : Nat) (total most : Int), 0 ≤ total → total < n → total ≤ 15 → 0 ≤ most → Sat (m_law_all_lists n total most) fun ls => ls.length ≤ 2 ^ total.toNat ∧ ∀ xs ∈ ls, SL xs ∧ xs.sum = total ∧ ∀ x ∈ xs, x ≤ most
  | 0, total, most, h0, h1, _, _ => by omega
  | n + 1, total, most, h0, h1, h16, hm => by
    unfold m_law_all_lists
    refine sat_ifd (fun c => sat_some ?_) (fun c => ?_)
    · subst c
      refine ⟨by simp, fun xs hx => ?_⟩
      simp at hx
      subst hx
      exact ⟨⟨List.Pairwise.nil, by simp⟩, by simp, by simp⟩
    · have hmn : 0 ≤ (if most < total then most else total) ∧ (if most < total then most else total) ≤ total ∧ (if most < total then most else total) ≤ most := by split <;> omega
      refine sat_let (sat_gd (by omega) ?_)
      generalize hg : (if most < total then most else total) = mn at *
      refine sat_bd (sat_forP (fun i (s : List (List Int)) => i ≤ mn ∧ s.length + 1 ≤ 2 ^ ((total - mn).toNat + i) ∧ ∀ xs ∈ s, SL xs ∧ xs.sum = total ∧ ∀ x ∈ xs, x ≤ most) ⟨by omega, by simp; exact Nat.one_le_two_pow, by simp⟩ ?_) ?_
      · rintro i found k hk ⟨i1, i2, i3⟩
        obtain ⟨rfl, hlt⟩ := rng_at hk
        unfold m_law_all_lists_l2
        rw [hg]
        refine sat_let ?_
        refine sat_bd (all_ok n (total - (mn - (0 + (i : Int)))) (mn - (0 + (i : Int))) (by omega) (by omega) (by omega) (by omega)) fun ls hls => ?_
        obtain ⟨l1, l2⟩ := hls
        have hpw : (total - (mn - (0 + (i : Int)))).toNat = (total - mn).toNat + i := by omega
        rw [hpw] at l1
        have hb16 : 2 ^ ((total - mn).toNat + i) ≤ 2 ^ 15 := Nat.pow_le_pow_right (by omega) (by omega)
        refine sat_bd (sat_forP (fun j (s : List (List Int)) => j ≤ ls.length ∧ s.length = found.length + j ∧ ∀ xs ∈ s, SL xs ∧ xs.sum = total ∧ ∀ x ∈ xs, x ≤ most) ⟨Nat.zero_le _, rfl, i3⟩ ?_) ?_
        · rintro j s rest hrest ⟨j1, j2, j3⟩
          obtain ⟨r1, r2, r3⟩ := l2 rest (List.mem_of_getElem? hrest)
          have hj : j < ls.length := (List.getElem?_eq_some_iff.mp hrest).1
          have hr := r1.len
          unfold m_law_all_lists_l1
          refine sat_gd (sz (by simp; omega)) (sat_gd (szl (by omega)) (sat_let (sat_some ⟨hj, by simp; omega, fun xs hx => ?_⟩)))
          rcases List.mem_append.mp hx with hx | hx
          · exact j3 xs hx
          · have e : xs = (mn - (0 + (i : Int))) :: rest := by simpa using hx
            subst e
            refine ⟨⟨List.pairwise_cons.mpr ⟨fun y hy => r3 y hy, r1.dec⟩, fun y hy => ?_⟩, ?_, fun y hy => ?_⟩
            · rcases List.mem_cons.mp hy with rfl | hy
              · omega
              · exact r1.pos y hy
            · rw [List.sum_cons, r2]; omega
            · rcases List.mem_cons.mp hy with rfl | hy
              · omega
              · have := r3 y hy; omega
        · rintro s ⟨_, j2, j3⟩
          refine sat_some ⟨by omega, ?_, j3⟩
          rw [j2, ← Nat.add_assoc, Nat.pow_succ]
          omega
      · rintro s ⟨i1, i2, i3⟩
        refine sat_some ⟨?_, i3⟩
        rw [rng_len] at i2
        have : (total - mn).toNat + (mn - 0).toNat = total.toNat := by omega
        rw [this] at i2
        omega

/-! ### the counted bounds -/
def cb (row : List Int) : List Int := (row.map fun b => if (row.length : Int) < b then (row.length : Int) else b) ++ [(row.length : Int)]
theorem cb_len (row : List Int) : (cb row).length = row.length + 1 := by simp [cb]
theorem atI_D {bs : List Int} {i : Int} {j : Nat} (e : i = j) (h : j < bs.length) : atI bs i = some (bs.getD j 0) := by
  subst e
  rw [List.getD_eq_getElem?_getD, List.getElem?_eq_getElem h]
  exact atI_nat (List.getElem?_eq_getElem h)
theorem counted_ok {row : List Int} (h : row.length ≤ 1000) : m_counted_bounds row = some (cb row) := by
  unfold m_counted_bounds
  refine Sat.val (sat_let ?_)
  exact sat_eq (cmP_map (fun b => if (row.length : Int) < b then (row.length : Int) else b) fun _ _ => rfl) (sat_gd (sz (by simp; omega)) (sat_gd (sz (by simp; omega)) (sat_some rfl)))

/-! ### the raider's step as a list -/
def rb (bs : List Int) (most : Int) (i : Nat) : Int := if i = 0 then bs.getD 0 0 else (if bs.getD i 0 < most then bs.getD i 0 else most + 1)
def rst (row : List Int) : List Int := (List.range (row.length + 1)).map (rb (cb row) row.length)
theorem rst_len (row : List Int) : (rst row).length = row.length + 1 := by simp [rst]
theorem rst_get {row : List Int} {i : Nat} (h : i < row.length + 1) : (rst row)[i]? = some (rb (cb row) row.length i) := by
  unfold rst
  rw [List.getElem?_map, List.getElem?_range h]
  rfl
theorem cb_get (row : List Int) {k : Nat} (hk : k < row.length) : ∃ b, row[k]? = some b ∧ (cb row).getD k 0 = if (row.length : Int) < b then (row.length : Int) else b := by
  refine ⟨row[k], List.getElem?_eq_getElem hk, ?_⟩
  rw [List.getD_eq_getElem?_getD]
  unfold cb
  rw [List.getElem?_append_left (by simpa using hk), List.getElem?_map, List.getElem?_eq_getElem hk]
  rfl
theorem cb_last (row : List Int) : (cb row).getD row.length 0 = row.length := by
  rw [List.getD_eq_getElem?_getD]
  unfold cb
  rw [List.getElem?_append_right (by simp)]
  simp
theorem cb_le (row : List Int) {k : Nat} (hk : k ≤ row.length) : (cb row).getD k 0 ≤ row.length := by
  by_cases c : k < row.length
  · obtain ⟨b, _, e⟩ := cb_get row c
    rw [e]
    split <;> omega
  · have : k = row.length := by omega
    rw [this, cb_last]
    omega
theorem raider_ok {row : List Int} (h : row.length ≤ 1000) : m_raider_step row = some (rst row) := by
  have hl := cb_len row
  have h0 := cb_le row (k := 0) (Nat.zero_le _)
  unfold m_raider_step
  refine Sat.val (sat_let (sat_eq (counted_ok h) ?_))
  refine sat_eq (cmP_map (fun b => if decide (b < (row.length : Int)) = true then b else (row.length : Int) + 1) fun _ _ => rfl) (sat_gd (sz (by simp; omega)) (sat_let ?_))
  have e0 : ((cb row).map fun b => if decide (b < (row.length : Int)) = true then b else (row.length : Int) + 1)[(0 : Int).toNat]? = some (if decide ((cb row).getD 0 0 < (row.length : Int)) = true then (cb row).getD 0 0 else (row.length : Int) + 1) := by
    rw [List.getElem?_map, List.getD_eq_getElem?_getD, show (0 : Int).toNat = 0 from rfl, List.getElem?_eq_getElem (by omega)]
    rfl
  refine sat_eq (atI_some (by omega) e0) (sat_eq (setP_pos (by omega) (by simp; omega)) (sat_some ?_))
  refine List.ext_getElem? fun i => ?_
  by_cases c : i < row.length + 1
  · rw [rst_get c]
    unfold rb
    by_cases c0 : i = 0
    · subst c0
      rw [if_pos rfl, show (0 : Int).toNat = 0 from rfl, List.getElem?_set_self (by simp; omega)]
      congr 1
      by_cases c1 : (cb row).getD 0 0 < (row.length : Int)
      · rw [if_pos (decide_eq_true c1), if_neg (by omega)]
      · have e : decide ((cb row).getD 0 0 < (row.length : Int)) = false := decide_eq_false c1
        rw [e, if_neg Bool.false_ne_true, if_pos (by omega)]
        omega
    · rw [if_neg c0, show (0 : Int).toNat = 0 from rfl, List.getElem?_set_ne (by omega), List.getElem?_map, List.getD_eq_getElem?_getD, List.getElem?_eq_getElem (by omega)]
      simp
  · rw [List.getElem?_eq_none (by simp; omega), List.getElem?_eq_none (by rw [rst_len]; omega)]
theorem step_fitsR {x : Int} {r row : List Int} (h : SL (r ++ [x])) (hs : (r ++ [x]).sum = (row.length : Int) + 1) : FitsP (r ++ [x]) (rst row) ↔ (1 ≤ r.length ∧ FitsP (lwS r x) row) := by
  have hsl := lwS_sum r x
  have hln := h.len
  have hx := h.pos x (by simp)
  have hll : (r ++ [x]).length = r.length + 1 := by simp
  have nn : ∀ e ∈ (r ++ [x]), (0 : Int) ≤ e := fun e he => by have := h.pos e he; omega
  have small : ∀ k, k ≤ r.length → tp (r ++ [x]) k ≤ row.length := fun k hk => by
    have := tp_lt_of h (k := k) (by omega)
    omega
  constructor
  · intro H
    have g : ∀ k, k < row.length + 1 → tp (r ++ [x]) (k + 1) ≤ rb (cb row) row.length k := fun k hk => H k _ (by omega) (rst_get hk)
    have h1 : 1 ≤ r.length := by
      have g0 := g 0 (by omega)
      unfold rb at g0
      rw [if_pos rfl] at g0
      have := cb_le row (k := 0) (Nat.zero_le _)
      by_cases c : 1 ≤ r.length
      · exact c
      · have e := tp_all (xs := r ++ [x]) (k := 0 + 1) (by omega)
        omega
    refine ⟨h1, fun k b hk hb => ?_⟩
    have hk' : k < row.length := (List.getElem?_eq_some_iff.mp hb).1
    obtain ⟨b', hb', e⟩ := cb_get row hk'
    rw [hb] at hb'
    obtain rfl := Option.some.inj hb'
    have gk := g k (by omega)
    unfold rb at gk
    by_cases c : k + 1 ≤ r.length
    · rw [lwS_tp _ c]
      have := small _ c
      by_cases c0 : k = 0
      · subst c0
        rw [if_pos rfl, e] at gk
        split at gk <;> omega
      · rw [if_neg c0, e] at gk
        split at gk <;> split at gk <;> omega
    · rw [lwS_tp' _ (by omega)]
      rw [tp_all (by omega)] at gk
      rw [if_neg (by omega), e] at gk
      split at gk <;> split at gk <;> omega
  · rintro ⟨h1, H⟩ k b hk hb
    have hk' : k < row.length + 1 := by
      have := (List.getElem?_eq_some_iff.mp hb).1
      rwa [rst_len] at this
    rw [rst_get hk'] at hb
    obtain rfl := Option.some.inj hb
    unfold rb
    by_cases c0 : k = 0
    · subst c0
      rw [if_pos rfl]
      have s1 := small 1 h1
      have hn : 0 < row.length := by
        have := tp_en (xs := r ++ [x]) 0
        rw [tp_zero] at this
        have p := h.pos _ (List.getElem_mem (show 0 < (r ++ [x]).length by omega))
        have q := en_some (List.getElem?_eq_getElem (show 0 < (r ++ [x]).length by omega))
        omega
      obtain ⟨b, hb, e⟩ := cb_get row hn
      have := H 0 b (by omega) hb
      rw [lwS_tp _ (by omega)] at this
      rw [e]
      split <;> omega
    · rw [if_neg c0]
      have top := tp_le_sum (xs := r ++ [x]) (k + 1) nn
      by_cases c : (cb row).getD k 0 < (row.length : Int)
      · rw [if_pos c]
        have hk2 : k < row.length := by
          by_cases q : k < row.length
          · exact q
          · have : k = row.length := by omega
            rw [this, cb_last] at c
            omega
        obtain ⟨b, hb, e⟩ := cb_get row hk2
        have := H k b (by omega) hb
        rw [e] at c ⊢
        by_cases q : k + 1 ≤ r.length
        · rw [lwS_tp _ q] at this
          split <;> omega
        · rw [lwS_tp' _ (by omega)] at this
          split at c <;> omega
      · rw [if_neg c]
        omega
theorem lowerS_ok {x : Int} {r : List Int} (h : SL (r ++ [x])) (hb : (r ++ [x]).sum ≤ 1000) : m_law_lower (r ++ [x]) (((r ++ [x]).length : Int) - 1) = some (lwS r x) := by
  have hl := h.len
  have hll : (r ++ [x]).length = r.length + 1 := by simp
  have ei : (((r ++ [x]).length : Int) - 1) = (r.length : Int) := by omega
  rw [ei]
  unfold m_law_lower
  refine Sat.val ?_
  refine sat_eq (a := x) (atI_some (by omega) (by simp)) ?_
  rw [sln_take (by omega), sln_drop (by omega)]
  have e1 : (r ++ [x]).take ((r.length : Int)).toNat = r := by simp
  have e2 : (r ++ [x]).drop ((r.length : Int) + 1).toNat = [] := by
    rw [show ((r.length : Int) + 1).toNat = r.length + 1 by omega]
    simp
  rw [e1, e2, List.append_nil]
  refine sat_gd (sz (by simp; omega)) (sat_gd (sz (by simp; omega)) (sat_let ?_))
  refine sat_eq (a := ((r ++ [x - 1]).filter fun e => decide (0 < e))) (cmP_filter (fun e => decide (0 < e)) fun e _ => by by_cases c : 0 < e <;> simp [c]) (sat_gd (sz ?_) (sat_some (lwS_srt h)))
  refine Nat.le_trans (List.length_filter_le _ _) ?_
  simp; omega

theorem repl_menu {a : Int} (n : Int) (ha : Menu a) : ∀ m ∈ repI [a] n, Menu m := fun m hm => by
  rw [repI_one] at hm
  rw [(List.mem_replicate.mp hm).2]
  exact ha
theorem repl_len {a n : Int} : (repI [a] n).length = n.toNat := by rw [repI_one, List.length_replicate]
theorem row_ok (ns : List Int) : Sat (m_law_row ns) fun row => row.length ≤ 200 := by
  unfold m_law_row
  refine sat_bd (cell_ok ns (by omega)) fun c hc => ?_
  refine sat_bd (draws_ok c (menu := [8, 6, 51, 198, 2]) (by simp [Menu]) (by simp)) fun hd hh => sat_let ?_
  have hhl : hd.length = 5 := by have := hh.length; simpa using this.symm
  have h01 : ∃ v, hd[1]? = some v ∧ Drawn 6 v := hh.get (i := 1) rfl
  have h02 : ∃ v, hd[2]? = some v ∧ Drawn 51 v := hh.get (i := 2) rfl
  have h03 : ∃ v, hd[3]? = some v ∧ Drawn 198 v := hh.get (i := 3) rfl
  obtain ⟨v1, e1, d1⟩ := h01
  obtain ⟨v2, e2, d2⟩ := h02
  obtain ⟨v3, e3, d3⟩ := h03
  have any : ∀ (i : Int) (Q : Int → Prop), 0 ≤ i → i < 5 → (∀ v, Q v) → Sat (atI hd i) Q := fun i Q h0 h1 hq => sat_atI h0 (by omega) fun v _ => hq v
  refine sat_eq (atI_some (by omega) e1) (sat_let ?_)
  refine sat_bd (any 0 (fun _ => True) (by omega) (by omega) fun _ => trivial) fun a0 _ => ?_
  refine sat_bd (P := fun c => 0 ≤ c ∧ c ≤ 197) (sat_ifd (fun _ => sat_eq (atI_some (by omega) e2) (sat_let (sat_some (by omega)))) (fun _ => sat_some (by omega))) fun c1 hc1 => ?_
  refine sat_bd (any 0 (fun _ => True) (by omega) (by omega) fun _ => trivial) fun a1 _ => ?_
  refine sat_bd (P := fun c => 0 ≤ c ∧ c ≤ 197) (sat_ifd (fun _ => sat_eq (atI_some (by omega) e3) (sat_let (sat_some (by omega)))) (fun _ => sat_some hc1)) fun cn hcn => ?_
  refine sat_let (sat_gd (repOk (by omega) (by omega) (by simp; omega)) (sat_let ?_))
  refine sat_bd (any 0 (fun _ => True) (by omega) (by omega) fun _ => trivial) fun a2 _ => ?_
  refine sat_bd (P := fun _ => True) (sat_ifd (fun _ => sat_bd (any 4 (fun _ => True) (by omega) (by omega) fun _ => trivial) fun _ _ => sat_some trivial) (fun _ => sat_some trivial)) fun cc _ => ?_
  refine sat_bd (P := fun p : Int × List Int => (∀ m ∈ p.2, Menu m) ∧ p.2.length = cn.toNat) (sat_if (fun _ => sat_let (sat_gd (repOk (by omega) (by omega) (by simp; omega)) (sat_let (sat_some ⟨repl_menu _ (by simp [Menu]), repl_len⟩)))) (fun _ => sat_some ⟨repl_menu _ ⟨by omega, by omega⟩, repl_len⟩)) ?_
  rintro ⟨low, menu⟩ ⟨hm, hml⟩
  simp only at hm hml
  refine sat_bd (cell_ok ns (by omega)) fun c2 hc2 => ?_
  refine sat_bd (draws_ok c2 hm (by omega)) fun dr hdr => sat_let ?_
  have hdl : dr.length = cn.toNat := by rw [← hdr.length, hml]
  refine sat_bd (any 0 (fun _ => True) (by omega) (by omega) fun _ => trivial) fun a3 _ => ?_
  refine sat_bd (P := fun _ => True) (sat_ifd (fun _ => sat_bd (any 0 (fun _ => True) (by omega) (by omega) fun _ => trivial) fun _ _ => sat_some trivial) (fun _ => sat_some trivial)) fun cd _ => ?_
  refine sat_if (fun _ => ?_) (fun _ => ?_)
  · refine sat_bd (cell_ok ns (by omega)) fun c3 hc3 => ?_
    refine sat_bd (list_ok c3 (total := cn) (by omega) (by omega)) fun sl hsl => ?_
    refine sat_eq (sums_ok hsl.1 (by omega)) (sat_let (sat_gd (by omega) ?_))
    refine sat_bd (sat_cm (fun _ _ => True) fun k hk => ?_) fun ys hys => ?_
    · have hk' := mem_rng.mp hk
      refine sat_bd (sat_atI (P := fun _ => True) hk'.1 (by rw [List.length_map, rng_len]; omega) fun _ _ => trivial) fun _ _ => ?_
      refine sat_bd (sat_atI (P := fun _ => True) hk'.1 (by omega) fun _ _ => trivial) fun _ _ => sat_some ⟨_, rfl, trivial⟩
    · have := hys.length
      rw [rng_len] at this
      exact sat_gd (sz (by omega)) (sat_some (by omega))
  · refine sat_eq (cmP_map (fun d => low + d) fun _ _ => rfl) (sat_gd (sz (by rw [List.length_map]; omega)) (sat_some (by rw [List.length_map]; omega)))

theorem stepped_ok {row : List Int} (h : row.length ≤ 1000) : m_law_stepped row = some (rst row) := by
  have hl := cb_len row
  unfold m_law_stepped
  refine Sat.val (sat_let ?_)
  refine sat_eq (cmP_map (fun b => if (row.length : Int) < b then (row.length : Int) else b) fun _ _ => rfl) (sat_gd (sz (by simp; omega)) (sat_gd (sz (by simp; omega)) (sat_let ?_)))
  rw [show (row.map fun b => if (row.length : Int) < b then (row.length : Int) else b) ++ [(row.length : Int)] = cb row from rfl]
  refine sat_eq (atI_D (j := 0) rfl (by omega)) (sat_let (sat_gd (by omega) ?_))
  have stp : ∀ (i : Nat) (v : Int), rb (cb row) row.length i = v → (List.range i).map (rb (cb row) row.length) ++ [v] = (List.range (i + 1)).map (rb (cb row) row.length) := fun i v e => by
    rw [List.range_succ, List.map_append, ← e]
    rfl
  refine sat_bd (sat_forP (fun i (s : List Int) => i + 1 ≤ row.length + 1 ∧ s = (List.range (i + 1)).map (rb (cb row) row.length)) ⟨by omega, rfl⟩ ?_) ?_
  · rintro i s k hk ⟨hi, rfl⟩
    obtain ⟨rfl, hlt⟩ := rng_at hk
    unfold m_law_stepped_l1
    have hat := atI_D (bs := cb row) (i := 1 + (i : Int)) (j := i + 1) (by omega) (by omega)
    refine sat_eq hat (sat_ifd (fun c => sat_eq hat (sat_gd (szl (by simp; omega)) (sat_let (sat_some ⟨by omega, stp (i + 1) _ ?_⟩)))) (fun c => sat_gd (szl (by simp; omega)) (sat_let (sat_some ⟨by omega, stp (i + 1) _ ?_⟩))))
    · unfold rb
      rw [if_neg (by omega), if_pos c]
    · unfold rb
      rw [if_neg (by omega), if_neg c]
  · rintro s ⟨_, rfl⟩
    refine sat_some ?_
    rw [rng_len, show ((row.length : Int) + 1 - 1).toNat + 1 = row.length + 1 by omega]
    rfl
theorem law_true (ns : List Int) : m_law ns = some true := by
  refine Sat.val ?_
  unfold m_law
  refine sat_bd (row_ok ns) fun row hrow => sat_let ?_
  have hkl : (rst row).length = row.length + 1 := rst_len _
  refine sat_eq (stepped_ok (by omega)) (sat_let (sat_let (sat_eq (raider_ok (by omega)) (sat_let ?_))))
  have ls : ∀ (xs : List Int), xs.length ≤ 1000 → m_law_like 8 (eL .int xs) (eL .int xs) = some true := fun xs hx => like_self (n := 1) (dok_ints (by omega)) (by omega)
  refine sat_eq (ls _ (by omega)) ?_
  refine sat_eq (a := false) (by rw [if_neg (by simp), ls _ (by omega)]; rfl) (sat_iff rfl ?_)
  refine sat_gd (szl (by omega)) (sat_let ?_)
  refine sat_bd (sat_atI (P := fun _ => True) (by omega) (by simp <;> omega) fun _ _ => trivial) fun q _ => ?_
  refine sat_eq (setP_pos (by omega) (by simp <;> omega)) (sat_let ?_)
  have hpl : ((row ++ [1]).set (0 : Int).toNat (q + 1)).length = row.length + 1 := by simp
  generalize (row ++ [1]).set (0 : Int).toNat (q + 1) = row2 at *
  have hkl2 : (rst row2).length = row2.length + 1 := rst_len _
  refine sat_eq (ls _ (by omega)) ?_
  refine sat_eq (a := false) (by rw [if_neg (by simp), raider_ok (by omega), stepped_ok (by omega)]; show bd (m_law_like 8 _ _) _ = _; rw [ls _ (by omega)]; rfl) (sat_iff rfl ?_)
  refine sat_bd (sat_atI (P := fun _ => True) (by omega) (by omega) fun _ _ => trivial) fun q2 _ => ?_
  refine sat_eq (setP_pos (by omega) (by omega)) (sat_gd (szl (by simp; omega)) (sat_let ?_))
  refine sat_eq (ls _ (by omega)) ?_
  refine sat_eq (a := false) (by rw [if_neg (by simp), raider_ok (by omega)]; show bd (m_law_like 8 _ _) _ = _; rw [ls _ (by omega)]; rfl) (sat_iff rfl ?_)
  refine sat_ifd (fun _ => sat_some rfl) (fun h5 => ?_)
  refine sat_bd (all_ok 20 _ _ (by omega) (by omega) (by omega) (by omega)) fun ll hll => ?_
  refine sat_bd (sat_forU (fun _ => True) (fun _ => False) trivial ?_) ?_
  · intro i xs hx _
    obtain ⟨h1, h2, _⟩ := hll.2 xs (List.mem_of_getElem? hx)
    unfold m_law_l1
    have hne : xs ≠ [] := by
      rintro rfl
      simp at h2
      omega
    obtain ⟨r, x, rfl⟩ : ∃ r x, xs = r ++ [x] := ⟨xs.dropLast, xs.getLast hne, (List.dropLast_concat_getLast hne).symm⟩
    have hln := h1.len
    have hll : (r ++ [x]).length = r.length + 1 := by simp
    refine sat_bd (fits_ok (row := rst row) h1 (by omega) (by omega)) fun b1 hb1 => ?_
    have hw : Sat (m_law_won (r ++ [x]) row) fun b2 => (b2 = true ↔ (1 ≤ r.length ∧ FitsP (lwS r x) row)) := by
      unfold m_law_won m_law_best
      by_cases c : 1 ≤ r.length
      · refine sat_eq (a := some (lwS r x)) ?_ (sat_let (sat_iff rfl (sat_let ?_)))
        · rw [if_neg (by decide), if_neg (by simp; omega), lowerS_ok h1 (by omega)]
          rfl
        · have hls := lwS_sum r x
          refine sat_bd (fits_ok (row := row) (lwS_SL h1) (by omega) (by omega)) fun b hb => sat_some ?_
          rw [hb]
          exact ⟨fun z => ⟨c, z⟩, fun z => z.2⟩
      · refine sat_eq (a := none) ?_ (sat_let (sat_ift rfl (sat_some ?_)))
        · rw [if_neg (by decide), if_pos (by simp; omega)]
        · exact ⟨fun z => (nomatch z), fun z => absurd z.1 c⟩
    refine sat_bd hw fun b2 hb2 => ?_
    have e : b1 = b2 := by
      have := step_fitsR (row := row) h1 (by omega)
      rw [← hb1, ← hb2] at this
      cases b1 <;> cases b2 <;> first | rfl | (simp at this)
    subst e
    exact sat_iff (by simp) (sat_some trivial)
  · intro o ho
    cases o with
    | go s => exact sat_go (sat_some rfl)
    | ret c => exact ho.elim
    | brk s => exact ho.elim

theorem math : ∀ ns : List Int, ns.length ≤ 63 → m_law ns = some true := by
  intro ns hl
  exact law_true ns
theorem facts {P : Program} {w : World} {K : PySem.W.Frag} {h : Heap} {mg : Str → Option Value} {f : Addr} (X : K.In h) (G : h.Ns mainGlobals mg) (hfa : mg ("law" : Str) = some (.ref f)) (c : He.SaysD fa fn K) :
    ∃ fd : FuncData, (∀ (s : Shared) (v : Value), BindsTo s fd ⟨[v], []⟩ [("_law_script", v)]) ∧ ∀ base : Heap, K.In base → base.Ns mainGlobals mg → FnOk P w K mg base CX0 22 f fd ["_law_script"] (spLaw K) := by
  obtain ⟨fd_counted_bounds, F_counted_bounds⟩ := c.def_ 0 (d := d_counted_bounds) rfl
  obtain ⟨fd_raider_step, F_raider_step⟩ := c.def_ 1 (d := d_raider_step) rfl
  obtain ⟨fd__law_cell, F__law_cell⟩ := c.def_ 2 (d := d__law_cell) rfl
  obtain ⟨fd__law_mixed, F__law_mixed⟩ := c.def_ 3 (d := d__law_mixed) rfl
  obtain ⟨fd__law_draws, F__law_draws⟩ := c.def_ 4 (d := d__law_draws) rfl
  obtain ⟨fd__law_like, F__law_like⟩ := c.def_ 5 (d := d__law_like) rfl
  obtain ⟨fd__law_list, F__law_list⟩ := c.def_ 6 (d := d__law_list) rfl
  obtain ⟨fd__law_lower, F__law_lower⟩ := c.def_ 7 (d := d__law_lower) rfl
  obtain ⟨fd__law_sums, F__law_sums⟩ := c.def_ 8 (d := d__law_sums) rfl
  obtain ⟨fd__law_fits, F__law_fits⟩ := c.def_ 9 (d := d__law_fits) rfl
  obtain ⟨fd__law_all_lists, F__law_all_lists⟩ := c.def_ 10 (d := d__law_all_lists) rfl
  obtain ⟨fd__law_row, F__law_row⟩ := c.def_ 11 (d := d__law_row) rfl
  obtain ⟨fd__law_stepped, F__law_stepped⟩ := c.def_ 12 (d := d__law_stepped) rfl
  obtain ⟨fd__law_best, F__law_best⟩ := c.def_ 13 (d := d__law_best) rfl
  obtain ⟨fd__law_won, F__law_won⟩ := c.def_ 14 (d := d__law_won) rfl
  obtain ⟨fd_law, F_law⟩ := c.def_ 15 (d := d_law) rfl
  have g_counted_bounds := He.glo_ok X G (c.fact 0 (f := .glo "counted_bounds") rfl)
  have g_raider_step := He.glo_ok X G (c.fact 1 (f := .glo "raider_step") rfl)
  have g__law_cell := He.glo_ok X G (c.fact 2 (f := .glo "_law_cell") rfl)
  have g__law_mixed := He.glo_ok X G (c.fact 3 (f := .glo "_law_mixed") rfl)
  have g__law_draws := He.glo_ok X G (c.fact 4 (f := .glo "_law_draws") rfl)
  have g__law_like := He.glo_ok X G (c.fact 5 (f := .glo "_law_like") rfl)
  have g__law_list := He.glo_ok X G (c.fact 6 (f := .glo "_law_list") rfl)
  have g__law_lower := He.glo_ok X G (c.fact 7 (f := .glo "_law_lower") rfl)
  have g__law_sums := He.glo_ok X G (c.fact 8 (f := .glo "_law_sums") rfl)
  have g__law_fits := He.glo_ok X G (c.fact 9 (f := .glo "_law_fits") rfl)
  have g__law_all_lists := He.glo_ok X G (c.fact 10 (f := .glo "_law_all_lists") rfl)
  have g__law_row := He.glo_ok X G (c.fact 11 (f := .glo "_law_row") rfl)
  have g__law_stepped := He.glo_ok X G (c.fact 12 (f := .glo "_law_stepped") rfl)
  have g__law_best := He.glo_ok X G (c.fact 13 (f := .glo "_law_best") rfl)
  have g__law_won := He.glo_ok X G (c.fact 14 (f := .glo "_law_won") rfl)
  have z_abs := He.free_ok X G (c.fact 16 (f := .free "abs") rfl)
  have z_bool := He.free_ok X G (c.fact 17 (f := .free "bool") rfl)
  have z_int := He.free_ok X G (c.fact 18 (f := .free "int") rfl)
  have z_isinstance := He.free_ok X G (c.fact 19 (f := .free "isinstance") rfl)
  have z_len := He.free_ok X G (c.fact 20 (f := .free "len") rfl)
  have z_list := He.free_ok X G (c.fact 21 (f := .free "list") rfl)
  have z_max := He.free_ok X G (c.fact 22 (f := .free "max") rfl)
  have z_min := He.free_ok X G (c.fact 23 (f := .free "min") rfl)
  have z_range := He.free_ok X G (c.fact 24 (f := .free "range") rfl)
  have z_sorted := He.free_ok X G (c.fact 25 (f := .free "sorted") rfl)
  have z_str := He.free_ok X G (c.fact 26 (f := .free "str") rfl)
  have z_sum := He.free_ok X G (c.fact 27 (f := .free "sum") rfl)
  have z_tuple := He.free_ok X G (c.fact 28 (f := .free "tuple") rfl)
  have e := hfa.symm.trans (He.glo_ok X G (c.fact 15 (f := .glo "law") rfl))
  cases e
  have b_counted_bounds : Binds K fd_counted_bounds ["row"] [] := FunD.bindsN F_counted_bounds fun _ _ _ _ _ _ us hl => match us, hl with | [_], _ => rfl
  have b_raider_step : Binds K fd_raider_step ["row"] [] := FunD.bindsN F_raider_step fun _ _ _ _ _ _ us hl => match us, hl with | [_], _ => rfl
  have b__law_cell : Binds K fd__law_cell ["_law_script", "_law_k"] [] := FunD.bindsN F__law_cell fun _ _ _ _ _ _ us hl => match us, hl with | [_, _], _ => rfl
  have b__law_mixed : Binds K fd__law_mixed ["_law_cell_here", "_law_k", "_law_size"] [] := FunD.bindsN F__law_mixed fun _ _ _ _ _ _ us hl => match us, hl with | [_, _, _], _ => rfl
  have b__law_draws : Binds K fd__law_draws ["_law_cell_here", "_law_menu"] [] := FunD.bindsN F__law_draws fun _ _ _ _ _ _ us hl => match us, hl with | [_, _], _ => rfl
  have b__law_like : Binds K fd__law_like ["_law_actual", "_law_due"] [] := FunD.bindsN F__law_like fun _ _ _ _ _ _ us hl => match us, hl with | [_, _], _ => rfl
  have b__law_list : Binds K fd__law_list ["_law_cell_here", "_law_total"] [] := FunD.bindsN F__law_list fun _ _ _ _ _ _ us hl => match us, hl with | [_, _], _ => rfl
  have b__law_lower : Binds K fd__law_lower ["_law_sizes", "_law_place"] [] := FunD.bindsN F__law_lower fun _ _ _ _ _ _ us hl => match us, hl with | [_, _], _ => rfl
  have b__law_sums : Binds K fd__law_sums ["_law_sizes"] [] := FunD.bindsN F__law_sums fun _ _ _ _ _ _ us hl => match us, hl with | [_], _ => rfl
  have b__law_fits : Binds K fd__law_fits ["_law_sizes", "_law_row_here"] [] := FunD.bindsN F__law_fits fun _ _ _ _ _ _ us hl => match us, hl with | [_, _], _ => rfl
  have b__law_all_lists : Binds K fd__law_all_lists ["_law_total", "_law_most"] [] := FunD.bindsN F__law_all_lists fun _ _ _ _ _ _ us hl => match us, hl with | [_, _], _ => rfl
  have b__law_row : Binds K fd__law_row ["_law_script"] [] := FunD.bindsN F__law_row fun _ _ _ _ _ _ us hl => match us, hl with | [_], _ => rfl
  have b__law_stepped : Binds K fd__law_stepped ["_law_row_here"] [] := FunD.bindsN F__law_stepped fun _ _ _ _ _ _ us hl => match us, hl with | [_], _ => rfl
  have b__law_best : Binds K fd__law_best ["_law_sizes", "_law_letter"] [] := FunD.bindsN F__law_best fun _ _ _ _ _ _ us hl => match us, hl with | [_, _], _ => rfl
  have b__law_won : Binds K fd__law_won ["_law_sizes", "_law_row_here"] [] := FunD.bindsN F__law_won fun _ _ _ _ _ _ us hl => match us, hl with | [_, _], _ => rfl
  have b := FunD.bindsA (ps := ["_law_script"]) F_law fun _ _ _ _ _ _ us hl => match us, hl with | [_], _ => rfl
  refine ⟨fd_law, fun s v => b s [v] rfl, fun base _ _ => ?_⟩
  have G_counted_bounds := ok_counted_bounds (P := P) (w := w) (mg := mg) (base := base) F_counted_bounds z_len z_min
  have G_raider_step := ok_raider_step (P := P) (w := w) (mg := mg) (base := base) F_raider_step F_counted_bounds G_counted_bounds g_counted_bounds b_counted_bounds z_len z_min
  have G__law_cell := ok__law_cell (P := P) (w := w) (mg := mg) (base := base) F__law_cell z_abs z_int z_len
  have G__law_mixed := ok__law_mixed (P := P) (w := w) (mg := mg) (base := base) F__law_mixed z_int
  have G__law_draws := ok__law_draws (P := P) (w := w) (mg := mg) (base := base) F__law_draws F__law_mixed G__law_mixed g__law_mixed b__law_mixed z_int z_len z_range
  have G__law_like := ok__law_like (P := P) (w := w) (base := base) F__law_like z_bool z_int z_isinstance z_len z_list z_range z_str z_tuple g__law_like b__law_like 8
  have G__law_list := ok__law_list (P := P) (w := w) (mg := mg) (base := base) F__law_list F__law_draws G__law_draws g__law_draws b__law_draws z_int z_max z_min z_range z_sorted
  have G__law_lower := ok__law_lower (P := P) (w := w) (mg := mg) (base := base) F__law_lower z_sorted
  have G__law_sums := ok__law_sums (P := P) (w := w) (mg := mg) (base := base) F__law_sums z_range z_sum
  have G__law_fits := ok__law_fits (P := P) (w := w) (mg := mg) (base := base) F__law_fits F__law_sums G__law_sums g__law_sums b__law_sums z_len z_range
  have G__law_all_lists := ok__law_all_lists (P := P) (w := w) (base := base) F__law_all_lists z_min z_range g__law_all_lists b__law_all_lists 20
  have G__law_row := ok__law_row (P := P) (w := w) (mg := mg) (base := base) F__law_row F__law_cell G__law_cell g__law_cell b__law_cell F__law_draws G__law_draws g__law_draws b__law_draws F__law_list G__law_list g__law_list b__law_list F__law_sums G__law_sums g__law_sums b__law_sums z_int z_range
  have G__law_stepped := ok__law_stepped (P := P) (w := w) (mg := mg) (base := base) F__law_stepped z_len z_min z_range
  have G__law_best := ok__law_best (P := P) (w := w) (mg := mg) (base := base) F__law_best F__law_lower G__law_lower g__law_lower b__law_lower z_len
  have G__law_won := ok__law_won (P := P) (w := w) (mg := mg) (base := base) F__law_won F__law_best G__law_best g__law_best b__law_best F__law_fits G__law_fits g__law_fits b__law_fits
  have G_law := ok_law (P := P) (w := w) (mg := mg) (base := base) F_law F__law_all_lists G__law_all_lists g__law_all_lists b__law_all_lists F__law_fits G__law_fits g__law_fits b__law_fits F__law_like G__law_like g__law_like b__law_like F__law_row G__law_row g__law_row b__law_row F__law_stepped G__law_stepped g__law_stepped b__law_stepped F__law_won G__law_won g__law_won b__law_won F_raider_step G_raider_step g_raider_step b_raider_step z_len z_list
  exact G_law.imp fun vs H Q E h => by
    obtain ⟨a, ns, rfl, hS, hl, q⟩ := h
    exact ⟨ns, true, math ns hl, .cons (.scr hS) .nil, fun v H2 _ g => by rw [dd_bl g]; exact q H2⟩
end K09
open PySem PySem.W PySem.Calls PyProof.Rows
set_option maxRecDepth 100000 in
set_option maxHeartbeats 0 in
theorem PySem.Challenge.cw_barebough_k09_raider_step_holds : PySem.Challenge.rw_barebough_k09_raider_step.Holds := by
  w_on; o_law
  refine HandSHeadRun.head_any (r := OpenLaw.row PySem.Challenge.rw_barebough_k09_raider_step) (q := view (OpenLaw.row PySem.Challenge.rw_barebough_k09_raider_step).prog [17]) (H := K09.hk) (ob := K09.ob) (M := 1280) (loose := ["counted_bounds", "raider_step", "_law_cell", "_law_mixed", "_law_draws", "_law_like", "_law_list", "_law_lower", "_law_best", "_law_sums", "_law_fits", "_law_all_lists", "_law_row", "_law_stepped", "_law_won"]) (d := HandSHeadRun.topDef (OpenLaw.row PySem.Challenge.rw_barebough_k09_raider_step).prog 17) (kwd := []) K09.ob_eq
    (by kernel_rfl) (fun s => by kernel_rfl) K09.run (by kernel_rfl) (by kernel_rfl) (by kernel_rfl) (by rfl) (by first | assumption | decide +kernel) (by decide +kernel) ⟨rfl, rfl, rfl, rfl, rfl, by decide +kernel⟩ ?hw ?hc
  case hw => w_witness2
  case hc =>
    refine L2.walk_ofE (l := PySem.Challenge.rw_barebough_k09_raider_step) (n := 63) (k := 22) (x := "_law_script") (CX := L2.CX0) rfl (by decide) (by kernel_rfl) ⟨rfl, by decide, by decide⟩ ?F (fun _ _ _ _ z => z)
    intro w mg fa h Y G hmg0
    obtain ⟨K, KX, c⟩ := Y
    have hmg : mg ("law" : PySem.Str) = some (.ref fa) := by
      have e : (HandSHeadRun.topDef (OpenLaw.row PySem.Challenge.rw_barebough_k09_raider_step).prog 17).name = ("law" : PySem.Str) := by kernel_rfl
      rw [← e]
      exact hmg0
    obtain ⟨fd, hb, hF⟩ := K09.facts (P := (PySem.Challenge.rw_barebough_k09_raider_step).prog) (w := w) KX G hmg c
    exact ⟨K, fd, K09.spLaw K, KX, hb, fun H a ns hl _ hS => ⟨a, ns, rfl, hS, hl, fun _ => rfl⟩, hF⟩
