import PyProof.Rows.All
import Wide.All
import OpenK.AllK
import Wide.FinOn
import HandS.ForMost
import HandS.Evl
import HandS.Deep
import HandS.Walk
import HandS.Flow
import PySem.Challenge.RW_stonelay_k73_whole_plans_walked
import HandS.Text
import KE.SortData
import KE.KDictKeyed
import KE.KDictPairs
import HandS.SetKeys
import HandS.Conv
import HandS.IsInst
import HandS.WordsDict
set_option Elab.async false
set_option linter.all false
set_option maxRecDepth 100000
set_option maxHeartbeats 4000000
/-! A small logic over the hand layer: slots hold data, nothing is said of the heap. -/
namespace SL
open PySem L2 Evl

/-! ### data in a heap of things that stay -/
mutual
inductive Dq (G : Hp) : V → PyData → Prop
  | non : Dq G .non .none
  | bl (b : Bool) : Dq G (.bl b) (.bool b)
  | int (i : Int) : Dq G (.int i) (.int i)
  | str (x : Str) : Dq G (.str x) (.str x)
  | lst {a : Addr} {xs : List V} {ds : List PyData} : G a = some (.lst xs) → DqAll G xs ds → Dq G (.ref a) (.list ds)
  | tup {a : Addr} {xs : List V} {ds : List PyData} : G a = some (.tup xs) → DqAll G xs ds → Dq G (.ref a) (.tuple ds)
inductive DqAll (G : Hp) : List V → List PyData → Prop
  | nil : DqAll G [] []
  | cons {v : V} {vs : List V} {d : PyData} {ds : List PyData} : Dq G v d → DqAll G vs ds → DqAll G (v :: vs) (d :: ds)
end
mutual
theorem Dq.mono {G G' : Hp} (e : Ex G G') : ∀ {v : V} {d : PyData}, Dq G v d → Dq G' v d
  | _, _, .non => .non
  | _, _, .bl b => .bl b
  | _, _, .int i => .int i
  | _, _, .str x => .str x
  | _, _, .lst h t => .lst (e _ _ h) (DqAll.mono e t)
  | _, _, .tup h t => .tup (e _ _ h) (DqAll.mono e t)
theorem DqAll.mono {G G' : Hp} (e : Ex G G') : ∀ {vs : List V} {ds : List PyData}, DqAll G vs ds → DqAll G' vs ds
  | _, _, .nil => .nil
  | _, _, .cons h t => .cons (Dq.mono e h) (DqAll.mono e t)
end
mutual
theorem Dq.dp {K : PySem.W.Frag} {G : Hp} : ∀ {v : V} {d : PyData}, Dq G v d → Dp K G v d
  | _, _, .non => .non
  | _, _, .bl b => .bl b
  | _, _, .int i => .int i
  | _, _, .str x => .str x
  | _, _, .lst h t => .lst (SqL.of h) (DqAll.dp t)
  | _, _, .tup h t => .tup (SqT.of h) (DqAll.dp t)
theorem DqAll.dp {K : PySem.W.Frag} {G : Hp} : ∀ {vs : List V} {ds : List PyData}, DqAll G vs ds → DpAll K G vs ds
  | _, _, .nil => .nil
  | _, _, .cons h t => .cons (Dq.dp h) (DqAll.dp t)
end
section
variable {G : Hp} {v : V} {vs ws : List V} {d : PyData} {ds es : List PyData}
theorem Dq.int_inv {i : Int} (h : Dq G v (.int i)) : v = .int i := by cases h; rfl
theorem Dq.bl_inv {b : Bool} (h : Dq G v (.bool b)) : v = .bl b := by cases h; rfl
theorem Dq.str_inv {x : Str} (h : Dq G v (.str x)) : v = .str x := by cases h; rfl
theorem Dq.non_inv (h : Dq G v .none) : v = .non := by cases h; rfl
theorem Dq.lst_inv (h : Dq G v (.list ds)) : ∃ a xs, v = .ref a ∧ G a = some (.lst xs) ∧ DqAll G xs ds := by
  cases h with
  | lst h t => exact ⟨_, _, rfl, h, t⟩
theorem Dq.tup_inv (h : Dq G v (.tuple ds)) : ∃ a xs, v = .ref a ∧ G a = some (.tup xs) ∧ DqAll G xs ds := by
  cases h with
  | tup h t => exact ⟨_, _, rfl, h, t⟩
theorem DqAll.len : ∀ {vs : List V} {ds : List PyData}, DqAll G vs ds → vs.length = ds.length
  | _, _, .nil => rfl
  | _, _, .cons _ t => congrArg (· + 1) (DqAll.len t)
theorem DqAll.get : ∀ {vs : List V} {ds : List PyData} {i : Nat} {d : PyData}, DqAll G vs ds → ds[i]? = some d → ∃ v, vs[i]? = some v ∧ Dq G v d
  | _, _, _, _, .nil, h => by simp at h
  | _, _, 0, _, .cons a _, h => by
    simp at h
    subst h
    exact ⟨_, rfl, a⟩
  | _, _, i + 1, _, .cons _ t, h => by
    obtain ⟨v, h1, h2⟩ := DqAll.get (i := i) t (by simpa using h)
    exact ⟨v, by simpa using h1, h2⟩
theorem DqAll.append : ∀ {vs ws : List V} {ds es : List PyData}, DqAll G vs ds → DqAll G ws es → DqAll G (vs ++ ws) (ds ++ es)
  | _, _, _, _, .nil, h => h
  | _, _, _, _, .cons a t, h => .cons a (DqAll.append t h)
theorem DqAll.snoc (h : DqAll G vs ds) (hv : Dq G v d) : DqAll G (vs ++ [v]) (ds ++ [d]) := h.append (.cons hv .nil)
theorem DqAll.erase : ∀ {vs : List V} {ds : List PyData} (i : Nat), DqAll G vs ds → DqAll G (vs.eraseIdx i) (ds.eraseIdx i)
  | _, _, _, .nil => .nil
  | _, _, 0, .cons _ t => t
  | _, _, i + 1, .cons a t => .cons a (DqAll.erase i t)
theorem DqAll.drop : ∀ {vs : List V} {ds : List PyData} (i : Nat), DqAll G vs ds → DqAll G (vs.drop i) (ds.drop i)
  | _, _, 0, t => t
  | _, _, _ + 1, .nil => .nil
  | _, _, i + 1, .cons a t => DqAll.drop i t
theorem DqAll.take : ∀ {vs : List V} {ds : List PyData} (i : Nat), DqAll G vs ds → DqAll G (vs.take i) (ds.take i)
  | _, _, 0, _ => .nil
  | _, _, _ + 1, .nil => .nil
  | _, _, i + 1, .cons a t => .cons a (DqAll.take i t)
theorem DqAll.ints : ∀ {vs : List V} {ns : List Int}, DqAll G vs (ns.map .int) → vs = ns.map V.int
  | _, [], h => by cases h; rfl
  | _, n :: r, h => by
    cases h with
    | cons a t =>
      cases a
      rw [DqAll.ints t]
      rfl
theorem DqAll.bools : ∀ {vs : List V} {ns : List Bool}, DqAll G vs (ns.map .bool) → vs = ns.map V.bl
  | _, [], h => by cases h; rfl
  | _, n :: r, h => by
    cases h with
    | cons a t =>
      cases a
      rw [DqAll.bools t]
      rfl
theorem DqAll.strs : ∀ {vs : List V} {ns : List Str}, DqAll G vs (ns.map .str) → vs = ns.map V.str
  | _, [], h => by cases h; rfl
  | _, n :: r, h => by
    cases h with
    | cons a t =>
      cases a
      rw [DqAll.strs t]
      rfl
theorem DqAll.of_ints : ∀ {ns : List Int}, DqAll G (ns.map V.int) (ns.map .int)
  | [] => .nil
  | n :: r => .cons (.int n) DqAll.of_ints
theorem DqAll.two {d1 d2 : PyData} (h : DqAll G vs [d1, d2]) : ∃ v1 v2, vs = [v1, v2] ∧ Dq G v1 d1 ∧ Dq G v2 d2 := by
  cases h with
  | cons a t =>
    cases t with
    | cons b t =>
      cases t
      exact ⟨_, _, rfl, a, b⟩
end

/-! ### types of values -/
structure Ty where
  r : Hp → V → Prop
  mono : ∀ {G G' : Hp} {v : V}, Ex G G' → r G v → r G' v
def dat (d : PyData) : Ty := ⟨fun G v => Dq G v d, fun e h => h.mono e⟩
abbrev dI (i : Int) : Ty := dat (.int i)
abbrev dB (b : Bool) : Ty := dat (.bool b)
abbrev dS (x : Str) : Ty := dat (.str x)
abbrev dL (ds : List PyData) : Ty := dat (.list ds)
abbrev dT (ds : List PyData) : Ty := dat (.tuple ds)
abbrev dN : Ty := dat .none
def AllTy (G : Hp) : List Ty → List V → Prop
  | [], [] => True
  | R :: Rs, v :: vs => R.r G v ∧ AllTy G Rs vs
  | _, _ => False
theorem AllTy.mono {G G' : Hp} (e : Ex G G') : ∀ {Rs : List Ty} {vs : List V}, AllTy G Rs vs → AllTy G' Rs vs
  | [], [], _ => trivial
  | R :: _, _ :: _, ⟨a, t⟩ => ⟨R.mono e a, AllTy.mono e t⟩
  | [], _ :: _, h => h.elim
  | _ :: _, [], h => h.elim
theorem AllTy.len {G : Hp} : ∀ {Rs : List Ty} {vs : List V}, AllTy G Rs vs → vs.length = Rs.length
  | [], [], _ => rfl
  | _ :: _, _ :: _, ⟨_, t⟩ => congrArg (· + 1) (AllTy.len t)
  | [], _ :: _, h => h.elim
  | _ :: _, [], h => h.elim

/-! ### the world: what is hidden and changes -/
structure Wd where
  hid : Addr → Prop
  inv : Hp → Hp → Prop
  up : ∀ {G H G' H' : Hp}, inv G H → Ex G G' → (∀ a o, hid a → H a = some o → H' a = some o) → (∀ a, hid a → G a = none → G' a = none) → inv G' H'
  on : ∀ {G H : Hp} {a : Addr}, inv G H → hid a → H a ≠ none
  off : ∀ {G H : Hp} {a : Addr}, inv G H → hid a → G a = none
def W0 : Wd := ⟨fun _ => False, fun _ _ => True, fun _ _ _ _ => trivial, fun _ h => h.elim, fun _ h => h.elim⟩
structure Ok (W : Wd) (G H : Hp) : Prop where
  ex : Ex G H
  inv : W.inv G H
structure Rn (W : Wd) (G H G' H' : Hp) : Prop where
  gg : Ex G G'
  hh : ∀ a o, ¬ W.hid a → H a = some o → H' a = some o
  hd : ∀ a, H a ≠ none → H' a ≠ none
  dj : ∀ a, H a ≠ none → G a = none → G' a = none
section
variable {W : Wd} {G H G1 H1 G2 H2 : Hp} {p : Addr} {o : HO}
theorem Rn.refl : Rn W G H G H := ⟨Ex.refl G, fun _ _ _ h => h, fun _ h => h, fun _ _ h => h⟩
theorem Rn.trans (a : Rn W G H G1 H1) (b : Rn W G1 H1 G2 H2) : Rn W G H G2 H2 :=
  ⟨a.gg.trans b.gg, fun x o n h => b.hh x o n (a.hh x o n h), fun x h => b.hd x (a.hd x h), fun x h n => b.dj x (a.hd x h) (a.dj x h n)⟩
theorem none_of_ex (e : Ex G H) (h : H p = none) : G p = none := by
  cases q : G p with
  | none => rfl
  | some u =>
    rw [e p u q] at h
    cases h
theorem Ok.alloc (k : Ok W G H) (h : H p = none) : Ok W (upd G p o) (upd H p o) := by
  refine ⟨fun a u q => ?_, W.up k.inv (Ex.new (none_of_ex k.ex h)) (fun a u _ q => by rw [upd_ne (ne_of_none q h)]; exact q) fun a ha q => ?_⟩
  · by_cases e : a = p
    · subst e
      rw [upd_same] at q ⊢
      exact q
    · rw [upd_ne e] at q ⊢
      exact k.ex a u q
  · have e : a ≠ p := fun z => W.on k.inv ha (by rw [z]; exact h)
    rw [upd_ne e]
    exact q
theorem Rn.alloc (k : Ok W G H) (h : H p = none) : Rn W G H (upd G p o) (upd H p o) := by
  refine ⟨Ex.new (none_of_ex k.ex h), fun a u _ q => by rw [upd_ne (ne_of_none q h)]; exact q, fun a q => ?_, fun a q n => ?_⟩
  · have e : a ≠ p := fun z => q (by rw [z]; exact h)
    rw [upd_ne e]
    exact q
  · have e : a ≠ p := fun z => q (by rw [z]; exact h)
    rw [upd_ne e]
    exact n
/-- something new that may change -/
theorem Ok.allocM (k : Ok W G H) (h : H p = none) : Ok W G (upd H p o) :=
  ⟨k.ex.trans (Ex.new h), W.up k.inv (Ex.refl G) (fun a u _ q => by rw [upd_ne (ne_of_none q h)]; exact q) fun _ _ q => q⟩
theorem Rn.allocM (h : H p = none) : Rn W G H G (upd H p o) :=
  ⟨Ex.refl G, fun a u _ q => by rw [upd_ne (ne_of_none q h)]; exact q, fun a q => by
    have e : a ≠ p := fun z => q (by rw [z]; exact h)
    rw [upd_ne e]
    exact q, fun _ _ n => n⟩
theorem Ok.write (k : Ok W G H) (n : G p = none) (nh : ¬ W.hid p) : Ok W G (upd H p o) :=
  ⟨fun a u q => by rw [upd_ne (ne_of_none q n)]; exact k.ex a u q, W.up k.inv (Ex.refl G) (fun a u ha q => by
    have e : a ≠ p := fun z => nh (z ▸ ha)
    rw [upd_ne e]
    exact q) fun _ _ q => q⟩
theorem Rn.write (r : Rn W G H G1 H1) (n : H p = none) : Rn W G H G1 (upd H1 p o) :=
  ⟨r.gg, fun a u z q => by rw [upd_ne (ne_of_none q n)]; exact r.hh a u z q, fun a q => by
    have e : a ≠ p := fun z => q (by rw [z]; exact n)
    rw [upd_ne e]
    exact r.hd a q, r.dj⟩
theorem Ok.freeze (k : Ok W G H) (h : H p = some o) (n : G p = none) (nh : ¬ W.hid p) : Ok W (upd G p o) H :=
  ⟨fun a u q => by
    by_cases e : a = p
    · subst e
      rw [upd_same] at q
      rw [h, q]
    · rw [upd_ne e] at q
      exact k.ex a u q, W.up k.inv (Ex.new n) (fun _ _ _ q => q) fun a ha q => by
    have e : a ≠ p := fun z => nh (z ▸ ha)
    rw [upd_ne e]
    exact q⟩
theorem Rn.freeze (r : Rn W G H G1 H1) (n : G1 p = none) (n0 : H p = none) : Rn W G H (upd G1 p o) H1 :=
  ⟨r.gg.trans (Ex.new n), r.hh, r.hd, fun a q z => by
    have e : a ≠ p := fun y => q (by rw [y]; exact n0)
    rw [upd_ne e]
    exact r.dj a q z⟩
theorem Rn.same (r : Rn W G H G1 H1) {a : Addr} (nh : ¬ W.hid a) (h : H a = some o) : H1 a = some o := r.hh a o nh h
/-- a run where nothing is hidden is a run anywhere -/
theorem Rn.of0 (r : Rn W0 G H G1 H1) : Rn W G H G1 H1 := ⟨r.gg, fun a o _ h => r.hh a o (fun z => z) h, r.hd, r.dj⟩
theorem Ok.of0 (r : Rn W0 G H G1 H1) (k : Ok W G H) (e : Ok W0 G1 H1) : Ok W G1 H1 :=
  ⟨e.ex, W.up k.inv r.gg (fun a o _ h => r.hh a o (fun z => z) h) fun a ha n => r.dj a (W.on k.inv ha) n⟩
theorem Ok.to0 (k : Ok W G H) : Ok W0 G H := ⟨k.ex, trivial⟩
end

/-! ### slots -/
/-- what a local object that still changes is like -/
structure OTy where
  r : Hp → HO → Prop
  mono : ∀ {G G' : Hp} {o : HO}, Ex G G' → r G o → r G' o
def lstO (ds : List PyData) : OTy := ⟨fun G o => ∃ xs, o = .lst xs ∧ DqAll G xs ds, fun e h => let ⟨xs, h1, h2⟩ := h; ⟨xs, h1, h2.mono e⟩⟩
inductive Sd where
  | any
  | ty (R : Ty)
  | own (R : OTy)
abbrev Sd.mut (ds : List PyData) : Sd := .own (lstO ds)
abbrev sd (d : PyData) : Sd := .ty (dat d)
structure Sl (W : Wd) (H0 G H : Hp) (σ : L2.St) (Γ : List Sd) : Prop where
  len : σ.length = Γ.length
  ty : ∀ (i : Nat) (R : Ty), Γ[i]? = some (.ty R) → ∃ v, σ[i]? = some (some v) ∧ R.r G v
  mu : ∀ (i : Nat) (R : OTy), Γ[i]? = some (.own R) → ∃ (l : Addr) (o : HO), σ[i]? = some (some (.ref l)) ∧ H l = some o ∧ G l = none ∧ H0 l = none ∧ ¬ W.hid l ∧ R.r G o
  ap : ∀ (i j : Nat) (l : Addr) (ds es : OTy), i ≠ j → Γ[i]? = some (.own ds) → Γ[j]? = some (.own es) → σ[i]? = some (some (.ref l)) → σ[j]? ≠ some (some (.ref l))
section
variable {W : Wd} {H0 G H G1 H1 : Hp} {σ : L2.St} {Γ : List Sd}
theorem Sl.run (s : Sl W H0 G H σ Γ) (r : Rn W G H G1 H1) : Sl W H0 G1 H1 σ Γ := by
  refine ⟨s.len, fun i R h => ?_, fun i ds h => ?_, s.ap⟩
  · obtain ⟨v, e, q⟩ := s.ty i R h
    exact ⟨v, e, R.mono r.gg q⟩
  · obtain ⟨l, xs, e, h1, h2, h3, h4, h5⟩ := s.mu i ds h
    exact ⟨l, xs, e, r.hh l _ h4 h1, r.dj l (by rw [h1]; exact fun z => nomatch z) h2, h3, h4, ds.mono r.gg h5⟩
theorem get_set {α : Type} {l : List α} {i j : Nat} {x y : α} (h : (l.set i x)[j]? = some y) : (i = j ∧ x = y) ∨ (i ≠ j ∧ l[j]? = some y) := by
  by_cases e : i = j
  · subst e
    left
    refine ⟨rfl, ?_⟩
    have hl : i < l.length := by
      have := (List.getElem?_eq_some_iff.mp h).1
      simpa using this
    rw [List.getElem?_set_self hl] at h
    exact Option.some.inj h
  · right
    rw [List.getElem?_set_ne e] at h
    exact ⟨e, h⟩
theorem Sl.set (s : Sl W H0 G H σ Γ) {i : Nat} {v : V} {R : Ty} (h : R.r G v) : Sl W H0 G H (σ.set i (some v)) (Γ.set i (.ty R)) := by
  refine ⟨by simp [s.len], fun j S q => ?_, fun j ds q => ?_, fun j k l ds es n q1 q2 q3 => ?_⟩
  · rcases get_set q with ⟨e, z⟩ | ⟨e, z⟩
    · subst e
      cases z
      have hl : i < σ.length := by
        have := (List.getElem?_eq_some_iff.mp q).1
        rw [s.len]
        simpa using this
      exact ⟨v, by rw [List.getElem?_set_self hl], h⟩
    · obtain ⟨w, e1, e2⟩ := s.ty j S z
      exact ⟨w, by rw [List.getElem?_set_ne e]; exact e1, e2⟩
  · rcases get_set q with ⟨e, z⟩ | ⟨e, z⟩
    · cases z
    · obtain ⟨l, xs, e1, r⟩ := s.mu j ds z
      exact ⟨l, xs, by rw [List.getElem?_set_ne e]; exact e1, r⟩
  · rcases get_set q1 with ⟨e, z⟩ | ⟨e, z⟩
    · cases z
    · rcases get_set q2 with ⟨e', z'⟩ | ⟨e', z'⟩
      · cases z'
      · rw [List.getElem?_set_ne e] at q3
        rw [List.getElem?_set_ne e']
        exact s.ap j k l ds es n z z' q3
theorem Sl.wipe (s : Sl W H0 G H σ Γ) (i : Nat) : Sl W H0 G H (σ.set i none) (Γ.set i .any) := by
  refine ⟨by simp [s.len], fun j S q => ?_, fun j ds q => ?_, fun j k l ds es n q1 q2 q3 => ?_⟩
  · rcases get_set q with ⟨e, z⟩ | ⟨e, z⟩
    · cases z
    · obtain ⟨w, e1, e2⟩ := s.ty j S z
      exact ⟨w, by rw [List.getElem?_set_ne e]; exact e1, e2⟩
  · rcases get_set q with ⟨e, z⟩ | ⟨e, z⟩
    · cases z
    · obtain ⟨l, xs, e1, r⟩ := s.mu j ds z
      exact ⟨l, xs, by rw [List.getElem?_set_ne e]; exact e1, r⟩
  · rcases get_set q1 with ⟨e, z⟩ | ⟨e, z⟩
    · cases z
    · rcases get_set q2 with ⟨e', z'⟩ | ⟨e', z'⟩
      · cases z'
      · rw [List.getElem?_set_ne e] at q3
        rw [List.getElem?_set_ne e']
        exact s.ap j k l ds es n z z' q3
/-- a slot forgotten -/
theorem Sl.forget (s : Sl W H0 G H σ Γ) (i : Nat) : Sl W H0 G H σ (Γ.set i .any) := by
  refine ⟨by simp [s.len], fun j S q => ?_, fun j ds q => ?_, fun j k l ds es n q1 q2 q3 => ?_⟩
  · rcases get_set q with ⟨e, z⟩ | ⟨e, z⟩
    · cases z
    · exact s.ty j S z
  · rcases get_set q with ⟨e, z⟩ | ⟨e, z⟩
    · cases z
    · exact s.mu j ds z
  · rcases get_set q1 with ⟨e, z⟩ | ⟨e, z⟩
    · cases z
    · rcases get_set q2 with ⟨e', z'⟩ | ⟨e', z'⟩
      · cases z'
      · exact s.ap j k l ds es n z z' q3
def wipeG (Γ : List Sd) : List Nat → List Sd
  | [] => Γ
  | v :: vs => (wipeG Γ vs).set v .any
theorem Sl.wipes (s : Sl W H0 G H σ Γ) : ∀ vs : List Nat, Sl W H0 G H (L2.wipe σ vs) (wipeG Γ vs)
  | [] => s
  | v :: vs => (Sl.wipes s vs).wipe v
/-- less is known -/
inductive Le : Sd → Sd → Prop
  | any (x : Sd) : Le x .any
  | rfl (x : Sd) : Le x x
inductive LeG : List Sd → List Sd → Prop
  | nil : LeG [] []
  | cons {a b : Sd} {r s : List Sd} : Le a b → LeG r s → LeG (a :: r) (b :: s)
theorem LeG.len : ∀ {r s : List Sd}, LeG r s → r.length = s.length
  | _, _, .nil => rfl
  | _, _, .cons _ t => congrArg (· + 1) (LeG.len t)
theorem LeG.get : ∀ {r s : List Sd} {i : Nat} {b : Sd}, LeG r s → s[i]? = some b → b ≠ .any → r[i]? = some b
  | _, _, _, _, .nil, h, _ => by simp at h
  | _, _, 0, _, .cons a _, h, n => by
    simp at h
    subst h
    cases a with
    | any => exact absurd rfl n
    | rfl => rfl
  | _, _, i + 1, _, .cons _ t, h, n => by
    have := LeG.get (i := i) t (by simpa using h) n
    simpa using this
theorem LeG.refl : ∀ r : List Sd, LeG r r
  | [] => .nil
  | a :: r => .cons (.rfl a) (LeG.refl r)
theorem Sl.le {Γ' : List Sd} (s : Sl W H0 G H σ Γ) (l : LeG Γ Γ') : Sl W H0 G H σ Γ' :=
  ⟨s.len.trans l.len, fun i R h => s.ty i R (l.get h fun z => nomatch z), fun i ds h => s.mu i ds (l.get h fun z => nomatch z),
    fun i j a ds es n h1 h2 => s.ap i j a ds es n (l.get h1 fun z => nomatch z) (l.get h2 fun z => nomatch z)⟩
end

/-! ### readings that give a value of a type -/
def EvP (W : Wd) (te : TE) (Γ : List Sd) (R : Ty) : Prop := ∀ (H0 : Hp) (σ : L2.St) (G H : Hp), Ok W G H → Sl W H0 G H σ Γ → ∀ Q : VK, (∀ v G' H', Rn W G H G' H' → Ok W G' H' → R.r G' v → Q v H') → te σ H Q
def EvT (W : Wd) (tt : TT) (Γ : List Sd) (b : Bool) : Prop := ∀ (H0 : Hp) (σ : L2.St) (G H : Hp), Ok W G H → Sl W H0 G H σ Γ → ∀ Q : Bool → Hp → Prop, (∀ G' H', Rn W G H G' H' → Ok W G' H' → Q b H') → tt σ H Q
def EvA (W : Wd) (ta : TA) (Γ : List Sd) (Rs : List Ty) : Prop := ∀ (H0 : Hp) (σ : L2.St) (G H : Hp), Ok W G H → Sl W H0 G H σ Γ → ∀ Q : List V → Hp → Prop, (∀ vs G' H', Rn W G H G' H' → Ok W G' H' → AllTy G' Rs vs → Q vs H') → ta σ H Q
def XE (W : Wd) (X : Cx) (e : Expr) (Γ : List Sd) (R : Ty) : Prop := ∃ te, PE X e te ∧ EvP W te Γ R
def XT (W : Wd) (X : Cx) (e : Expr) (Γ : List Sd) (b : Bool) : Prop := ∃ tt, PT X e tt ∧ EvT W tt Γ b
def XTs (W : Wd) (X : Cx) (es : List Expr) (Γ : List Sd) (b : Bool) : Prop := ∃ tt, PTs X es tt ∧ EvT W tt Γ b
def XA (W : Wd) (X : Cx) (es : List Expr) (Γ : List Sd) (Rs : List Ty) : Prop := ∃ ta, PA X es ta ∧ EvA W ta Γ Rs
/-- what an operation on values gives -/
def R2v (W : Wd) (r : R2) (R S T : Ty) : Prop := ∀ (x y : V) (G H : Hp), Ok W G H → R.r G x → S.r G y → ∀ Q : VK, (∀ v G' H', Rn W G H G' H' → Ok W G' H' → T.r G' v → Q v H') → r x y H Q
def CRv (W : Wd) (r : List V → Hp → VK → Prop) (Rs : List Ty) (T : Ty) : Prop := ∀ (vs : List V) (G H : Hp), Ok W G H → AllTy G Rs vs → ∀ Q : VK, (∀ v G' H', Rn W G H G' H' → Ok W G' H' → T.r G' v → Q v H') → r vs H Q

section
variable {W : Wd} {X : Cx} {Γ : List Sd} {a b c e : Expr} {R S T : Ty} {pos : Pos}
theorem EvP.sub {te : TE} (h : EvP W te Γ R) (k : ∀ G v, R.r G v → S.r G v) : EvP W te Γ S := fun H0 σ G H o s Q q => h H0 σ G H o s Q fun v G' H' r o' m => q v G' H' r o' (k G' v m)
theorem XE.sub (h : XE W X e Γ R) (k : ∀ G v, R.r G v → S.r G v) : XE W X e Γ S := let ⟨t, h1, h2⟩ := h; ⟨t, h1, h2.sub k⟩
theorem XE.eq {d d' : PyData} (h : XE W X e Γ (dat d)) (k : d = d') : XE W X e Γ (dat d') := k ▸ h
theorem XE.ty (h : XE W X e Γ R) (k : R = S) : XE W X e Γ S := k ▸ h
theorem XT.eq {b b' : Bool} (h : XT W X e Γ b) (k : b = b') : XT W X e Γ b' := k ▸ h
/-- a name -/
theorem xn (i : Nat) {x : Str} (hG : Γ[i]? = some (.ty R) := by rfl) (hN : X.N[i]? = some x := by rfl) (hv : Vis X.env.scope x := by first | exact Or.inl rfl | exact Or.inr (Or.inl rfl) | exact Or.inr (Or.inr rfl)) (hd : (x == ("__debug__" : Str)) = false := by decide)
    (hcd : (x == ("__classdict__" : Str)) = false := by decide) : XE W X (.Name x pos) Γ R :=
  ⟨_, pe_var hN hv hd hcd, fun H0 σ G H o s Q q => by
    obtain ⟨v, e, m⟩ := s.ty i R hG
    exact ⟨v, e, q v G H Rn.refl o m⟩⟩
theorem xint {i : Int} {j} : XE W X (.Constant (.int i) j pos) Γ (dI i) := ⟨_, pe_int, fun H0 σ G H o s Q q => q _ G H Rn.refl o (Dq.int i)⟩
theorem xbool {i : Bool} {j} : XE W X (.Constant (.bool i) j pos) Γ (dB i) := ⟨_, pe_bl, fun H0 σ G H o s Q q => q _ G H Rn.refl o (Dq.bl i)⟩
theorem xnone {j} : XE W X (.Constant .none j pos) Γ dN := ⟨_, pe_non, fun H0 σ G H o s Q q => q _ G H Rn.refl o Dq.non⟩
theorem xstr {x : Str} {j} : XE W X (.Constant (.str x) j pos) Γ (dS x) := ⟨_, pe_str, fun H0 σ G H o s Q q => q _ G H Rn.refl o (Dq.str x)⟩
/-- a module's constant -/
theorem xglob {x : Str} {v : V} {u : Value} (hg : Gl X x) (hm : X.mg x = some u) (r : RelV v u) (hR : ∀ G, R.r G v) (hd : (x == ("__debug__" : Str)) = false := by decide) : XE W X (.Name x pos) Γ R :=
  ⟨_, pe_glob hg hm r hd, fun H0 σ G H o s Q q => q _ G H Rn.refl o (hR G)⟩
theorem ev_two {ta tb : TE} (ha : EvP W ta Γ R) (hb : EvP W tb Γ S) {H0 : Hp} {σ : L2.St} {G H : Hp} (o : Ok W G H) (s : Sl W H0 G H σ Γ) {P : V → V → Hp → Prop} (h : ∀ x y G' H', Rn W G H G' H' → Ok W G' H' → R.r G' x → S.r G' y → P x y H') :
    ta σ H fun x H1 => tb σ H1 fun y H2 => P x y H2 :=
  ha H0 σ G H o s _ fun x G1 H1 r1 o1 m1 => hb H0 σ G1 H1 o1 (s.run r1) _ fun y G2 H2 r2 o2 m2 => h x y G2 H2 (r1.trans r2) o2 (R.mono r2.gg m1) m2
theorem ev_op2 {ta tb : TE} {r : R2} (ha : EvP W ta Γ R) (hb : EvP W tb Γ S) (hr : R2v W r R S T) : EvP W (tOp r ta tb) Γ T := fun H0 σ G H o s Q q =>
  ev_two ha hb o s fun x y G1 H1 r1 o1 m1 m2 => hr x y G1 H1 o1 m1 m2 Q fun v G2 H2 r2 o2 m => q v G2 H2 (r1.trans r2) o2 m
theorem xop {op : Operator} {r : R2} (ho : OpR X (binaryOp op) r) (ha : XE W X a Γ R) (hb : XE W X b Γ S) (hr : R2v W r R S T) : XE W X (.BinOp a op b pos) Γ T := by
  obtain ⟨ta, a1, a2⟩ := ha
  obtain ⟨tb, b1, b2⟩ := hb
  exact ⟨_, pe_op ho a1 b1, ev_op2 a2 b2 hr⟩
theorem xcmp {op : CmpOp} {r : R2} (ho : OpR X (compareOp op) r) (ha : XE W X a Γ R) (hb : XE W X b Γ S) (hr : R2v W r R S T) (hm : behindInMarks op b = false) : XE W X (.Compare a [op] [b] pos) Γ T := by
  obtain ⟨ta, a1, a2⟩ := ha
  obtain ⟨tb, b1, b2⟩ := hb
  exact ⟨_, pe_cmpR ho a1 b1 hm, ev_op2 a2 b2 hr⟩
theorem xtcmp {op : CmpOp} {r : R2} {k : Bool} (ho : OpR X (compareOp op) r) (ha : XE W X a Γ R) (hb : XE W X b Γ S) (hr : R2v W r R S (dB k)) (hm : behindInMarks op b = false) : XT W X (.Compare a [op] [b] pos) Γ k := by
  obtain ⟨ta, a1, a2⟩ := ha
  obtain ⟨tb, b1, b2⟩ := hb
  exact ⟨_, pt_cmpR ho a1 b1 hm, fun H0 σ G H o s Q q => ev_op2 a2 b2 hr H0 σ G H o s _ fun v G' H' r o' m => ⟨k, Dq.bl_inv m, q G' H' r o'⟩⟩
theorem xix {r : R2} (ho : IxR X r) (ha : XE W X a Γ R) (hb : XE W X b Γ S) (hr : R2v W r R S T) (hs : PlainIx b) : XE W X (.Subscript a b pos) Γ T := by
  obtain ⟨ta, a1, a2⟩ := ha
  obtain ⟨tb, b1, b2⟩ := hb
  exact ⟨_, pe_ix ho a1 b1 hs, ev_op2 a2 b2 hr⟩
/-- a value that is a truth, as a test -/
theorem xtval {k : Bool} (h : XE W X e Γ (dB k)) (he : ∀ whole, isTrue e X.env whole = (do let v ← whole; standAt e.pos; holding [v] (truthy v)) := by intro _; rfl) : XT W X e Γ k := by
  obtain ⟨t, h1, h2⟩ := h
  exact ⟨_, pt_val h1 he, fun H0 σ G H o s Q q => h2 H0 σ G H o s _ fun v G' H' r o' m => ⟨k, Dq.bl_inv m, q G' H' r o'⟩⟩
theorem xtnot {k : Bool} (h : XT W X e Γ k) : XT W X (.UnaryOp .Not e pos) Γ (!k) := by
  obtain ⟨t, h1, h2⟩ := h
  exact ⟨_, pt_not h1, fun H0 σ G H o s Q q => h2 H0 σ G H o s _ fun G' H' r o' => q G' H' r o'⟩
/-- and, or: as tests whatever stands around -/
def XW (W : Wd) (X : Cx) (e : Expr) (Γ : List Sd) (b : Bool) : Prop := ∃ tt, PW X e tt ∧ EvT W tt Γ b
theorem XW.t {k : Bool} (h : XW W X e Γ k) : XT W X e Γ k := let ⟨t, h1, h2⟩ := h; ⟨t, h1.pt, h2⟩
theorem xwand1 {k : Bool} (h : XT W X e Γ k) : XW W X (.BoolOp .And [e] pos) Γ k := let ⟨t, h1, h2⟩ := h; ⟨t, pw_and1 h1, h2⟩
theorem xwor1 {k : Bool} (h : XT W X e Γ k) : XW W X (.BoolOp .Or [e] pos) Γ k := let ⟨t, h1, h2⟩ := h; ⟨t, pw_or1 h1, h2⟩
def tAny : TT := fun _ _ _ => False
theorem EvT.run {t : TT} {k : Bool} (h : EvT W t Γ k) {H0 : Hp} {σ : L2.St} {G H : Hp} (o : Ok W G H) (s : Sl W H0 G H σ Γ) {Q : Bool → Hp → Prop} (q : ∀ G' H', Rn W G H G' H' → Ok W G' H' → Q k H') : t σ H Q := h H0 σ G H o s Q q
theorem pw_false {e : Expr} : PW X e tAny := ⟨fun _ _ _ _ _ _ _ h => h.elim⟩
theorem xwand {rest : List Expr} {k l : Bool} (h : XT W X a Γ k) (h2 : k = true → XW W X (.BoolOp .And (b :: rest) pos) Γ l) : XW W X (.BoolOp .And (a :: b :: rest) pos) Γ (k && l) := by
  obtain ⟨t, a1, a2⟩ := h
  cases k with
  | true =>
    obtain ⟨u, b1, b2⟩ := h2 rfl
    refine ⟨_, pw_and a1 b1, fun H0 σ G H o s Q q => a2.run o s fun G1 H1 r1 o1 => ?_⟩
    exact iteT (b2.run o1 (s.run r1) fun G2 H2 r2 o2 => q G2 H2 (r1.trans r2) o2)
  | false =>
    refine ⟨_, pw_and a1 pw_false, fun H0 σ G H o s Q q => a2.run o s fun G1 H1 r1 o1 => ?_⟩
    exact iteF (q G1 H1 r1 o1)
theorem xwor {rest : List Expr} {k l : Bool} (h : XT W X a Γ k) (h2 : k = false → XW W X (.BoolOp .Or (b :: rest) pos) Γ l) : XW W X (.BoolOp .Or (a :: b :: rest) pos) Γ (k || l) := by
  obtain ⟨t, a1, a2⟩ := h
  cases k with
  | false =>
    obtain ⟨u, b1, b2⟩ := h2 rfl
    refine ⟨_, pw_or a1 b1, fun H0 σ G H o s Q q => a2.run o s fun G1 H1 r1 o1 => ?_⟩
    exact iteF (b2.run o1 (s.run r1) fun G2 H2 r2 o2 => q G2 H2 (r1.trans r2) o2)
  | true =>
    refine ⟨_, pw_or a1 pw_false, fun H0 σ G H o s Q q => a2.run o s fun G1 H1 r1 o1 => ?_⟩
    exact iteT (q G1 H1 r1 o1)
/-- as values -/
def tAnyE : TE := fun _ _ _ => False
theorem pe_false {e : Expr} : PE X e tAnyE := ⟨fun _ _ _ _ _ _ h => h.elim⟩
theorem xone {op : BoolOp} (h : XE W X e Γ R) : XE W X (.BoolOp op [e] pos) Γ R := let ⟨t, h1, h2⟩ := h; ⟨t, pe_one h1, h2⟩
theorem xand {rest : List Expr} {k l : Bool} (h : XE W X a Γ (dB k)) (h2 : k = true → XE W X (.BoolOp .And (b :: rest) pos) Γ (dB l)) : XE W X (.BoolOp .And (a :: b :: rest) pos) Γ (dB (k && l)) := by
  obtain ⟨t, a1, a2⟩ := h
  cases k with
  | true =>
    obtain ⟨u, b1, b2⟩ := h2 rfl
    refine ⟨_, pe_and a1 b1, fun H0 σ G H o s Q q => a2 H0 σ G H o s _ fun v G1 H1 r1 o1 m1 => ⟨true, Dq.bl_inv m1, ?_⟩⟩
    exact iteT (b2 H0 σ G1 H1 o1 (s.run r1) _ fun v2 G2 H2 r2 o2 m2 => q v2 G2 H2 (r1.trans r2) o2 m2)
  | false =>
    refine ⟨_, pe_and a1 pe_false, fun H0 σ G H o s Q q => a2 H0 σ G H o s _ fun v G1 H1 r1 o1 m1 => ⟨false, Dq.bl_inv m1, ?_⟩⟩
    exact iteF (q _ G1 H1 r1 o1 (Dq.bl false))
/-- arguments -/
theorem xanil : XA W X [] Γ [] := ⟨_, pa_nil, fun H0 σ G H o s Q q => q [] G H Rn.refl o trivial⟩
theorem xacons {es : List Expr} {Rs : List Ty} (h : XE W X e Γ R) (hr : XA W X es Γ Rs) (hs : starEach (e :: es) X.env = (false, eval e X.env) :: starEach es X.env := by rfl) : XA W X (e :: es) Γ (R :: Rs) := by
  obtain ⟨t, a1, a2⟩ := h
  obtain ⟨u, b1, b2⟩ := hr
  exact ⟨_, pa_cons a1 b1 hs, fun H0 σ G H o s Q q => a2 H0 σ G H o s _ fun v G1 H1 r1 o1 m1 => b2 H0 σ G1 H1 o1 (s.run r1) _ fun vs G2 H2 r2 o2 m2 => q (v :: vs) G2 H2 (r1.trans r2) o2 ⟨R.mono r2.gg m1, m2⟩⟩
theorem xa1 (h : XE W X e Γ R) (hs : starEach [e] X.env = (false, eval e X.env) :: starEach [] X.env := by rfl) : XA W X [e] Γ [R] := xacons h xanil hs
/-- calls of built-ins -/
theorem xcallB {x : Str} {p : Pos} {es : List Expr} {id : String} {r : List V → Hp → VK → Prop} {Rs : List Ty} (hc : CallR X (.builtin id) r) (hg : Gl X x) (hm : X.mg x = none) (hv : bootBuiltins x = some (.builtin id)) (ha : XA W X (e :: es) Γ Rs) (hr : CRv W r Rs T)
    (hn : x ≠ "__name__" := by decide) (hdb : (x == ("__debug__" : Str)) = false := by decide) (he : starEach (e :: es) X.env = (false, eval e X.env) :: starEach es X.env := by rfl) (hpl : (backTo pos (starEach es X.env)).any (·.1) = false := by rfl) :
    XE W X (.Call (.Name x p) (e :: es) [] pos) Γ T := by
  obtain ⟨t, a1, a2⟩ := ha
  exact ⟨_, pe_callB hc hg hm hv a1 hn hdb he hpl, fun H0 σ G H o s Q q => a2 H0 σ G H o s _ fun vs G1 H1 r1 o1 m1 => hr vs G1 H1 o1 m1 Q fun v G2 H2 r2 o2 m2 => q v G2 H2 (r1.trans r2) o2 m2⟩
theorem xcallTy {x : Str} {p : Pos} {es : List Expr} {id : String} {r : List V → Hp → VK → Prop} {Rs : List Ty} (hc : CallR X (.type id) r) (hg : Gl X x) (hm : X.mg x = none) (hv : bootBuiltins x = some (.type id)) (ha : XA W X (e :: es) Γ Rs) (hr : CRv W r Rs T)
    (hn : x ≠ "__name__" := by decide) (hdb : (x == ("__debug__" : Str)) = false := by decide) (he : starEach (e :: es) X.env = (false, eval e X.env) :: starEach es X.env := by rfl) (hpl : (backTo pos (starEach es X.env)).any (·.1) = false := by rfl) :
    XE W X (.Call (.Name x p) (e :: es) [] pos) Γ T := by
  obtain ⟨t, a1, a2⟩ := ha
  exact ⟨_, pe_callTy hc hg hm hv a1 hn hdb he hpl, fun H0 σ G H o s Q q => a2 H0 σ G H o s _ fun vs G1 H1 r1 o1 m1 => hr vs G1 H1 o1 m1 Q fun v G2 H2 r2 o2 m2 => q v G2 H2 (r1.trans r2) o2 m2⟩
/-- displays -/
theorem AllTy.dq {G : Hp} : ∀ {ds : List PyData} {vs : List V}, AllTy G (ds.map dat) vs → DqAll G vs ds
  | [], [], _ => .nil
  | _ :: _, _ :: _, ⟨a, t⟩ => .cons a (AllTy.dq t)
  | [], _ :: _, h => h.elim
  | _ :: _, [], h => h.elim
theorem xtup {es : List Expr} {ds : List PyData} {k : Nat} (h : XA W X es Γ (ds.map dat)) (hl : ds.length ≤ 100000) : XE W X (.Tuple es k pos) Γ (dT ds) := by
  obtain ⟨t, a1, a2⟩ := h
  refine ⟨_, pe_tup a1, fun H0 σ G H o s Q q => a2 H0 σ G H o s _ fun vs G1 H1 r1 o1 m1 => ⟨?_, fun p hp => ?_⟩⟩
  · have e := m1.len
    rw [List.length_map] at e
    exact sz_of (by omega)
  · exact q _ _ _ (r1.trans (Rn.alloc o1 hp)) (o1.alloc hp) (.tup upd_same (m1.dq.mono (Ex.new (none_of_ex o1.ex hp))))
theorem xlst {es : List Expr} {ds : List PyData} (h : XA W X es Γ (ds.map dat)) (hl : ds.length ≤ 100000) : XE W X (.List es pos) Γ (dL ds) := by
  obtain ⟨t, a1, a2⟩ := h
  refine ⟨_, pe_lst a1, fun H0 σ G H o s Q q => a2 H0 σ G H o s _ fun vs G1 H1 r1 o1 m1 => ⟨?_, fun p hp => ?_⟩⟩
  · have e := m1.len
    rw [List.length_map] at e
    exact sz_of (by omega)
  · exact q _ _ _ (r1.trans (Rn.alloc o1 hp)) (o1.alloc hp) (.lst upd_same (m1.dq.mono (Ex.new (none_of_ex o1.ex hp))))
end
end SL
set_option maxRecDepth 100000
set_option maxHeartbeats 4000000
/-! statements, loops, comprehensions, defs -/
namespace SL
open PySem L2 Evl

structure Fx where
  W : Wd
  G0 : Hp
  H0 : Hp
  gh : Hp → Prop
  ghm : ∀ {G G' : Hp}, Ex G G' → gh G → gh G'
structure At (F : Fx) (Γ : List Sd) (σ : L2.St) (G H : Hp) : Prop where
  rn : Rn F.W F.G0 F.H0 G H
  ok : Ok F.W G H
  sl : Sl F.W F.H0 G H σ Γ
  g : F.gh G
def Stt (F : Fx) (Γ : List Sd) : L2.St → Hp → Prop := fun σ H => ∃ G, At F Γ σ G H
theorem At.run {F : Fx} {Γ : List Sd} {σ : L2.St} {G H G1 H1 : Hp} (a : At F Γ σ G H) (r : Rn F.W G H G1 H1) (o : Ok F.W G1 H1) : At F Γ σ G1 H1 :=
  ⟨a.rn.trans r, o, a.sl.run r, F.ghm r.gg a.g⟩
def XS (F : Fx) (X : Cx) (st : Stmt) (Γ : List Sd) (D : Ends) : Prop := ∃ t, PS X st t ∧ ∀ σ H, Stt F Γ σ H → t D σ H
def XSs (F : Fx) (X : Cx) (sts : List Stmt) (Γ : List Sd) (D : Ends) : Prop := ∃ t, PSs X sts t ∧ ∀ σ H, Stt F Γ σ H → t D σ H
def Nx (F : Fx) (Γ : List Sd) (D : Ends) : Prop := ∀ σ H, Stt F Γ σ H → D.nx σ H
def Rt (F : Fx) (R : Ty) (D : Ends) : Prop := ∀ v G' H', Rn F.W F.G0 F.H0 G' H' → Ok F.W G' H' → R.r G' v → D.rt v H'
abbrev Ends.on (D : Ends) (n : L2.St → Hp → Prop) : Ends := ⟨n, D.rt, D.bk, D.ct⟩
theorem Stt.le {F : Fx} {Γ Γ' : List Sd} {σ : L2.St} {H : Hp} (h : Stt F Γ σ H) (l : LeG Γ Γ') : Stt F Γ' σ H := let ⟨G, a⟩ := h; ⟨G, a.rn, a.ok, a.sl.le l, a.g⟩
theorem Nx.id {F : Fx} {Γ : List Sd} {D : Ends} : Nx F Γ (Ends.on D (Stt F Γ)) := fun _ _ h => h
theorem Nx.le {F : Fx} {Γ Γ' : List Sd} {D : Ends} (k : Nx F Γ' D) (l : LeG Γ Γ') : Nx F Γ D := fun σ H h => k σ H (h.le l)
theorem nx_of {F : Fx} {Γ Γ' : List Sd} {r : VK} {b c : L2.St → Hp → Prop} (l : Γ = Γ') : Nx F Γ ⟨Stt F Γ', r, b, c⟩ := fun σ H h => l ▸ h
theorem nx_le {F : Fx} {Γ Γ' : List Sd} {r : VK} {b c : L2.St → Hp → Prop} (l : LeG Γ Γ') : Nx F Γ ⟨Stt F Γ', r, b, c⟩ := fun σ H h => h.le l

section
variable {F : Fx} {X : Cx} {Γ Γ' : List Sd} {D : Ends} {R : Ty} {e c : Expr} {pos : Pos} {st : Stmt} {rest as bs : List Stmt}
theorem xss_nil (k : Nx F Γ D) : XSs F X [] Γ D := ⟨_, pss_nil, fun σ H h => k σ H h⟩
theorem xss_one (h : XS F X st Γ D) : XSs F X [st] Γ D := let ⟨t, a, b⟩ := h; ⟨t, pss_one a, b⟩
theorem xss_cons (h : XS F X st Γ ⟨Stt F Γ', D.rt, D.bk, D.ct⟩) (k : XSs F X rest Γ' D) : XSs F X (st :: rest) Γ D := by
  obtain ⟨t, a1, a2⟩ := h
  obtain ⟨u, b1, b2⟩ := k
  exact ⟨_, pss_cut a1 b1, fun σ H s => ⟨Stt F Γ', a2 σ H s, b2⟩⟩
/-- what follows is never come to -/
theorem xss_last (h : XS F X st Γ ⟨fun _ _ => False, D.rt, D.bk, D.ct⟩) : XSs F X (st :: rest) Γ D := by
  obtain ⟨t, a1, a2⟩ := h
  exact ⟨_, pss_cut a1 pss_never, fun σ H s => ⟨fun _ _ => False, a2 σ H s, fun _ _ z => z.elim⟩⟩
theorem xss_le (l : LeG Γ Γ') (h : XSs F X rest Γ' D) : XSs F X rest Γ D := let ⟨t, a, b⟩ := h; ⟨t, a, fun σ H s => b σ H (s.le l)⟩
theorem xs_set (i : Nat) {x : Str} {pos' : Pos} (hN : X.N.Nodup) (he : XE F.W X e Γ R) (k : Nx F (Γ.set i (.ty R)) D) (hi : X.N[i]? = some x := by rfl) (hx : Loc X.env.scope x := by first | exact Or.inl rfl | exact Or.inr rfl)
    (hs : swapsWith e (some (.Name x pos')) pos.line X.env = pure false := by rfl) (hf : X.fn x = true ∨ X.env.scope.names.lookup x = some .local := by first | exact .inl rfl | exact .inr rfl | assumption) :
    XS F X (.Assign [.Name x pos'] e pos) Γ D := by
  obtain ⟨t, a1, a2⟩ := he
  exact ⟨_, ps_set hN hi hx a1 hs hf, fun σ H ⟨G, a⟩ => a2 _ σ G H a.ok a.sl _ fun v G1 H1 r1 o1 m1 => k _ _ ⟨G1, (a.run r1 o1).rn, o1, (a.run r1 o1).sl.set m1, (a.run r1 o1).g⟩⟩
theorem xs_aug (i : Nat) {x : Str} {pos' : Pos} {a b : Int} (hN : X.N.Nodup) (hG : Γ[i]? = some (.ty (dI a))) (he : XE F.W X e Γ (dI b)) (k : Nx F (Γ.set i (.ty (dI (a + b)))) D) (hi : X.N[i]? = some x := by rfl) (hx : Loc X.env.scope x := by first | exact Or.inl rfl | exact Or.inr rfl)
    (hf : X.fn x = true ∨ X.env.scope.names.lookup x = some .local := by first | exact .inl rfl | exact .inr rfl | assumption) :
    XS F X (.AugAssign (.Name x pos') .Add e pos) Γ D := by
  obtain ⟨t, a1, a2⟩ := he
  refine ⟨_, ps_aug hN hi hx a1 iop_add hf, fun σ H ⟨G, s⟩ => ?_⟩
  obtain ⟨v, e1, m⟩ := s.sl.ty i _ hG
  cases Dq.int_inv m
  refine ⟨_, e1, a2 _ σ G H s.ok s.sl _ fun v G1 H1 r1 o1 m1 => ?_⟩
  cases Dq.int_inv m1
  exact ⟨_, _, rfl, rfl, k _ _ ⟨G1, (s.run r1 o1).rn, o1, (s.run r1 o1).sl.set (R := dI (a + b)) (Dq.int _), (s.run r1 o1).g⟩⟩
theorem xs_ret (he : XE F.W X e Γ R) (k : Rt F R D) : XS F X (.Return (some e) pos) Γ D := by
  obtain ⟨t, a1, a2⟩ := he
  exact ⟨_, ps_ret a1, fun σ H ⟨G, a⟩ => a2 _ σ G H a.ok a.sl _ fun v G1 H1 r1 o1 m1 => k v G1 H1 (a.rn.trans r1) o1 m1⟩
theorem xs_drop (he : XE F.W X e Γ R) (k : Nx F Γ D) (hs : swapsWith e none pos.line X.env = pure false := by rfl) : XS F X (.Expr e pos) Γ D := by
  obtain ⟨t, a1, a2⟩ := he
  exact ⟨_, ps_expr a1 hs, fun σ H ⟨G, a⟩ => a2 _ σ G H a.ok a.sl _ fun v G1 H1 r1 o1 m1 => k _ _ ⟨G1, a.run r1 o1⟩⟩
theorem xs_if {b : Bool} (hc : XT F.W X c Γ b) (h1 : b = true → XSs F X as Γ D) (h2 : b = false → XSs F X bs Γ D) : XS F X (.If c as bs pos) Γ D := by
  obtain ⟨t, a1, a2⟩ := hc
  cases b with
  | true =>
    obtain ⟨u, b1, b2⟩ := h1 rfl
    exact ⟨_, ps_if a1 b1 pss_never, fun σ H ⟨G, a⟩ => a2 _ σ G H a.ok a.sl _ fun G1 H1 r1 o1 => iteT (b2 _ _ ⟨G1, a.run r1 o1⟩)⟩
  | false =>
    obtain ⟨u, b1, b2⟩ := h2 rfl
    exact ⟨_, ps_if a1 pss_never b1, fun σ H ⟨G, a⟩ => a2 _ σ G H a.ok a.sl _ fun G1 H1 r1 o1 => iteF (b2 _ _ ⟨G1, a.run r1 o1⟩)⟩
/-- a local object that may change -/
theorem Sl.setOwn {W : Wd} {H0 G H : Hp} {σ : L2.St} {i : Nat} {l : Addr} {o : HO} {R : OTy} (s : Sl W H0 G H σ Γ) (h : H l = some o) (n : G l = none) (n0 : H0 l = none) (nh : ¬ W.hid l) (hd : R.r G o)
    (fr : ∀ (j : Nat) (es : OTy), j ≠ i → Γ[j]? = some (Sd.own es) → σ[j]? ≠ some (some (V.ref l))) : Sl W H0 G H (σ.set i (some (.ref l))) (Γ.set i (.own R)) := by
  refine ⟨by simp [s.len], fun j S q => ?_, fun j es q => ?_, fun j k m es fs ne q1 q2 q3 => ?_⟩
  · rcases get_set q with ⟨e, z⟩ | ⟨e, z⟩
    · cases z
    · obtain ⟨w, e1, e2⟩ := s.ty j S z
      exact ⟨w, by rw [List.getElem?_set_ne e]; exact e1, e2⟩
  · rcases get_set q with ⟨e, z⟩ | ⟨e, z⟩
    · subst e
      cases z
      have hl : i < σ.length := by
        have := (List.getElem?_eq_some_iff.mp q).1
        rw [s.len]
        simpa using this
      exact ⟨l, o, by rw [List.getElem?_set_self hl], h, n, n0, nh, hd⟩
    · obtain ⟨m, ys, e1, r⟩ := s.mu j es z
      exact ⟨m, ys, by rw [List.getElem?_set_ne e]; exact e1, r⟩
  · rcases get_set q1 with ⟨e, z⟩ | ⟨e, z⟩
    · subst e
      cases z
      rcases get_set q2 with ⟨e', z'⟩ | ⟨e', z'⟩
      · exact absurd e' ne
      · have hl : i < σ.length := by
          have := (List.getElem?_eq_some_iff.mp q1).1
          rw [s.len]
          simpa using this
        rw [List.getElem?_set_self hl] at q3
        cases q3
        rw [List.getElem?_set_ne e']
        exact fr k fs (fun y => ne y.symm) z'
    · rcases get_set q2 with ⟨e', z'⟩ | ⟨e', z'⟩
      · subst e'
        cases z'
        have hl : i < σ.length := by
          have := (List.getElem?_eq_some_iff.mp q2).1
          rw [s.len]
          simpa using this
        rw [List.getElem?_set_self hl]
        rw [List.getElem?_set_ne e] at q3
        intro y
        cases y
        exact fr j es (fun y => e y.symm) z q3
      · rw [List.getElem?_set_ne e] at q3
        rw [List.getElem?_set_ne e']
        exact s.ap j k m es fs ne z z' q3
theorem Sl.noOwn {W : Wd} {H0 G H : Hp} {σ : L2.St} {l : Addr} (s : Sl W H0 G H σ Γ) (h : H l = none) : ∀ (j : Nat) (es : OTy), Γ[j]? = some (Sd.own es) → σ[j]? ≠ some (some (V.ref l)) := fun j es q z => by
  obtain ⟨m, ys, e1, h1, _⟩ := s.mu j es q
  rw [z] at e1
  cases e1
  rw [h] at h1
  cases h1
/-- the slot's object is written -/
theorem Sl.upOwn {W : Wd} {H0 G H : Hp} {σ : L2.St} {i : Nat} {l : Addr} {o : HO} {R S : OTy} (s : Sl W H0 G H σ Γ) (hi : Γ[i]? = some (.own R)) (hs : σ[i]? = some (some (.ref l))) (hd : S.r G o) :
    Sl W H0 G (upd H l o) σ (Γ.set i (.own S)) := by
  obtain ⟨l', xs', e1, h1, h2, h3, h4, h5⟩ := s.mu i R hi
  rw [hs] at e1
  cases e1
  refine ⟨by simp [s.len], fun j S q => ?_, fun j fs q => ?_, fun j k m as bs ne q1 q2 q3 => ?_⟩
  · rcases get_set q with ⟨e, z⟩ | ⟨e, z⟩
    · cases z
    · exact s.ty j S z
  · rcases get_set q with ⟨e, z⟩ | ⟨e, z⟩
    · subst e
      cases z
      exact ⟨l, o, hs, upd_same, h2, h3, h4, hd⟩
    · obtain ⟨m, zs, e2, g1, g2⟩ := s.mu j fs z
      have ne : m ≠ l := fun y => by
        subst y
        exact s.ap i j m R fs e hi z hs e2
      exact ⟨m, zs, e2, by rw [upd_ne ne]; exact g1, g2⟩
  · have p1 : ∃ as', Γ[j]? = some (.own as') := by
      rcases get_set q1 with ⟨e, z⟩ | ⟨e, z⟩
      · subst e; exact ⟨_, hi⟩
      · exact ⟨_, z⟩
    have p2 : ∃ bs', Γ[k]? = some (.own bs') := by
      rcases get_set q2 with ⟨e, z⟩ | ⟨e, z⟩
      · subst e; exact ⟨_, hi⟩
      · exact ⟨_, z⟩
    obtain ⟨_, z1⟩ := p1
    obtain ⟨_, z2⟩ := p2
    exact s.ap j k m _ _ ne z1 z2 q3
theorem At.fresh0 {σ : L2.St} {G H : Hp} {p : Addr} (a : At F Γ σ G H) (hp : H p = none) : F.H0 p = none := by
  cases q : F.H0 p with
  | none => rfl
  | some u => exact absurd hp (a.rn.hd p (by rw [q]; exact fun z => nomatch z))
theorem At.newOwn {σ : L2.St} {G H : Hp} {i : Nat} {p : Addr} {o : HO} {R : OTy} (a : At F Γ σ G H) (hp : H p = none) (hd : R.r G o) : At F (Γ.set i (.own R)) (σ.set i (some (.ref p))) G (upd H p o) := by
  have r : Rn F.W G H G (upd H p o) := Rn.allocM hp
  have k : Ok F.W G (upd H p o) := a.ok.allocM hp
  have a1 := a.run r k
  exact ⟨a1.rn, k, a1.sl.setOwn upd_same (none_of_ex a.ok.ex hp) (a.fresh0 hp) (fun z => F.W.on a.ok.inv z hp) hd fun j es _ q z => a.sl.noOwn hp j es q z, a1.g⟩
/-- the slot's object is written, the run goes on -/
theorem At.upOwn {σ : L2.St} {G H : Hp} {i : Nat} {l : Addr} {o : HO} {R S : OTy} (a : At F Γ σ G H) (hi : Γ[i]? = some (.own R)) (hs : σ[i]? = some (some (.ref l))) (hd : S.r G o) : At F (Γ.set i (.own S)) σ G (upd H l o) := by
  obtain ⟨l', xs', e1, h1, h2, h3, h4, h5⟩ := a.sl.mu i R hi
  rw [hs] at e1
  cases e1
  exact ⟨a.rn.write h3, a.ok.write h2 h4, a.sl.upOwn hi hs hd, a.g⟩
theorem At.newMut {σ : L2.St} {G H : Hp} {i : Nat} {p : Addr} {xs : List V} {ds : List PyData} (a : At F Γ σ G H) (hp : H p = none) (hd : DqAll G xs ds) : At F (Γ.set i (.mut ds)) (σ.set i (some (.ref p))) G (upd H p (.lst xs)) :=
  a.newOwn (R := lstO ds) hp ⟨xs, rfl, hd⟩
theorem xs_nil (i : Nat) {x : Str} {pos' ep : Pos} (hN : X.N.Nodup) (k : Nx F (Γ.set i (.mut [])) D) (hi : X.N[i]? = some x := by rfl) (hx : Loc X.env.scope x := by first | exact Or.inl rfl | exact Or.inr rfl)
    (hs : swapsWith (.List [] ep) (some (.Name x pos')) pos.line X.env = pure false := by rfl) (hf : X.fn x = true ∨ X.env.scope.names.lookup x = some .local := by first | exact .inl rfl | exact .inr rfl | assumption) :
    XS F X (.Assign [.Name x pos'] (.List [] ep) pos) Γ D :=
  ⟨_, ps_set hN hi hx (pe_lst pa_nil) hs hf, fun σ H ⟨G, a⟩ => ⟨Nat.zero_le _, fun p hp => k _ _ ⟨G, a.newMut hp .nil⟩⟩⟩
/-- x = list(e) -/
theorem xs_copy (i : Nat) {x y : Str} {pos' ep np : Pos} {ds : List PyData} (hN : X.N.Nodup) (hg : Gl X y) (hm : X.mg y = none) (hv : bootBuiltins y = some (.type "list")) (he : XE F.W X e Γ (dL ds)) (k : Nx F (Γ.set i (.mut ds)) D) (hi : X.N[i]? = some x := by rfl) (hx : Loc X.env.scope x := by first | exact Or.inl rfl | exact Or.inr rfl)
    (hs : swapsWith (.Call (.Name y np) [e] [] ep) (some (.Name x pos')) pos.line X.env = pure false := by rfl) (hf : X.fn x = true ∨ X.env.scope.names.lookup x = some .local := by first | exact .inl rfl | exact .inr rfl | assumption)
    (hn : y ≠ "__name__" := by decide) (hdb : (y == ("__debug__" : Str)) = false := by decide) (hse : starEach [e] X.env = (false, eval e X.env) :: starEach [] X.env := by rfl) (hpl : (backTo ep (starEach [] X.env)).any (·.1) = false := by rfl) :
    XS F X (.Assign [.Name x pos'] (.Call (.Name y np) [e] [] ep) pos) Γ D := by
  obtain ⟨t, a1, a2⟩ := he
  refine ⟨_, ps_set hN hi hx (pe_callTy call_list_of hg hm hv (pa_cons a1 pa_nil hse) hn hdb hse hpl) hs hf, fun σ H ⟨G, a⟩ => a2 _ σ G H a.ok a.sl _ fun v G1 H1 r1 o1 m1 => ?_⟩
  obtain ⟨b, xs, rfl, hb, hd⟩ := Dq.lst_inv m1
  exact ⟨b, xs, rfl, .inl (SqL.of (o1.ex _ _ hb)), fun p hp => k _ _ ⟨G1, (a.run r1 o1).newMut hp hd⟩⟩
/-- l.append(e) -/
theorem xs_app (i : Nat) {x : Str} {np ap cp : Pos} {ds : List PyData} {d : PyData} (hG : Γ[i]? = some (.mut ds)) (he : XE F.W X e Γ (dat d)) (hz : ds.length ≤ 50000) (k : Nx F (Γ.set i (.mut (ds ++ [d]))) D) (hN : X.N[i]? = some x := by rfl)
    (hv : Vis X.env.scope x := by first | exact Or.inl rfl | exact Or.inr (Or.inl rfl) | exact Or.inr (Or.inr rfl)) (hd : (x == ("__debug__" : Str)) = false := by decide) (hcd : (x == ("__classdict__" : Str)) = false := by decide)
    (hpe : ∀ {te : TE}, PE X e te → PE X (.Call (.Attribute (.Name x np) "append" ap) [e] [] cp) (tBM X.K "list" rAppend (tVar i) (tCons te tNil)) := by intro te h; exact pe_bm PySem.F.plainAttrs_list PySem.F.slot_list_append PySem.F.type_list_append mt_append (pv _) (pa_cons h pa_nil))
    (hs : swapsWith (.Call (.Attribute (.Name x np) "append" ap) [e] [] cp) none pos.line X.env = pure false := by rfl) : XS F X (.Expr (.Call (.Attribute (.Name x np) "append" ap) [e] [] cp) pos) Γ D := by
  obtain ⟨t, a1, a2⟩ := he
  refine ⟨_, ps_expr (hpe a1) hs, fun σ H ⟨G, a⟩ => ?_⟩
  obtain ⟨l, _, e1, h1, h2, h3, h4, xs, rfl, h5⟩ := a.sl.mu i _ hG
  refine ⟨_, e1, .inl ⟨rfl, _, SqL.of h1⟩, a2 _ σ G H a.ok a.sl _ fun v G1 H1 r1 o1 m1 => ?_⟩
  have a3 := a.run r1 o1
  obtain ⟨l', _, e1', g1, g2, g3, g4, xs', rfl, g5⟩ := a3.sl.mu i _ hG
  rw [e1] at e1'
  cases e1'
  have hlen := g5.len
  refine ⟨l, xs', v, rfl, rfl, g1, sz_lt (by omega), k _ _ ⟨G1, a3.upOwn (S := lstO (ds ++ [d])) hG e1 ⟨_, rfl, g5.snoc m1⟩⟩⟩
/-- a list that is done growing is data -/
theorem At.frzO {σ : L2.St} {G H : Hp} {i : Nat} {R : OTy} {S : Ty} (a : At F Γ σ G H) (hG : Γ[i]? = some (.own R)) (hS : ∀ (G : Hp) (l : Addr) (o : HO), G l = none → F.H0 l = none → R.r G o → S.r (upd G l o) (.ref l)) : ∃ G', At F (Γ.set i (.ty S)) σ G' H := by
  obtain ⟨l, ob, e1, h1, h2, h3, h4, h5⟩ := a.sl.mu i R hG
  have ex : Ex G (upd G l ob) := Ex.new h2
  refine ⟨upd G l ob, a.rn.freeze h2 h3, a.ok.freeze h1 h2 h4, ⟨by simp [a.sl.len], fun j S q => ?_, fun j es q => ?_, fun j k m es fs ne q1 q2 q3 => ?_⟩, F.ghm ex a.g⟩
  · rcases get_set q with ⟨e, z⟩ | ⟨e, z⟩
    · subst e
      cases z
      exact ⟨_, e1, hS G l ob h2 h3 h5⟩
    · obtain ⟨w, e1, e2⟩ := a.sl.ty j S z
      exact ⟨w, e1, S.mono ex e2⟩
  · rcases get_set q with ⟨e, z⟩ | ⟨e, z⟩
    · cases z
    · obtain ⟨m, ys, e2, g1, g2, g3, g4, g5⟩ := a.sl.mu j es z
      have ne : m ≠ l := fun y => by
        subst y
        exact a.sl.ap i j m R es e hG z e1 e2
      exact ⟨m, ys, e2, g1, by rw [upd_ne ne]; exact g2, g3, g4, es.mono ex g5⟩
  · rcases get_set q1 with ⟨e, z⟩ | ⟨e, z⟩
    · cases z
    · rcases get_set q2 with ⟨e', z'⟩ | ⟨e', z'⟩
      · cases z'
      · exact a.sl.ap j k m es fs ne z z' q3
theorem At.frz {σ : L2.St} {G H : Hp} {i : Nat} {ds : List PyData} (a : At F Γ σ G H) (hG : Γ[i]? = some (.mut ds)) : ∃ G', At F (Γ.set i (sd (.list ds))) σ G' H :=
  a.frzO (S := dL ds) hG fun G l o n _ ⟨xs, e, h⟩ => by
    subst e
    exact .lst upd_same (h.mono (Ex.new n))
theorem xss_frzO (i : Nat) {R : OTy} {S : Ty} (h : XSs F X rest (Γ.set i (.ty S)) D) (hG : Γ[i]? = some (.own R)) (hS : ∀ (G : Hp) (l : Addr) (o : HO), G l = none → F.H0 l = none → R.r G o → S.r (upd G l o) (.ref l)) : XSs F X rest Γ D := by
  obtain ⟨t, a1, a2⟩ := h
  exact ⟨t, a1, fun σ H ⟨G, a⟩ => let ⟨G', a'⟩ := a.frzO hG hS; a2 σ H ⟨G', a'⟩⟩
theorem xss_frz (i : Nat) {ds : List PyData} (h : XSs F X rest (Γ.set i (sd (.list ds))) D) (hG : Γ[i]? = some (.mut ds) := by rfl) : XSs F X rest Γ D := by
  obtain ⟨t, a1, a2⟩ := h
  exact ⟨t, a1, fun σ H ⟨G, a⟩ => let ⟨G', a'⟩ := a.frz hG; a2 σ H ⟨G', a'⟩⟩
theorem nx_frz (i : Nat) {ds : List PyData} (h : Nx F (Γ.set i (sd (.list ds))) D) (hG : Γ[i]? = some (.mut ds) := by rfl) : Nx F Γ D := fun σ H ⟨G, a⟩ => let ⟨G', a'⟩ := a.frz hG; h σ H ⟨G', a'⟩
/-- reads of a list that grows -/
theorem xlenM (i : Nat) {W : Wd} {x y : Str} {np ap : Pos} {ds : List PyData} (hG : Γ[i]? = some (.mut ds)) (hg : Gl X y) (hm : X.mg y = none) (hv : bootBuiltins y = some (.builtin "len")) (hN : X.N[i]? = some x := by rfl)
    (hvv : Vis X.env.scope x := by first | exact Or.inl rfl | exact Or.inr (Or.inl rfl) | exact Or.inr (Or.inr rfl)) (hd : (x == ("__debug__" : Str)) = false := by decide) (hcd : (x == ("__classdict__" : Str)) = false := by decide)
    (hn : y ≠ "__name__" := by decide) (hdb : (y == ("__debug__" : Str)) = false := by decide) (hse : starEach [.Name x ap] X.env = (false, eval (.Name x ap) X.env) :: starEach [] X.env := by rfl) (hpl : (backTo pos (starEach [] X.env)).any (·.1) = false := by rfl) :
    XE W X (.Call (.Name y np) [.Name x ap] [] pos) Γ (dI (ds.length : Int)) := by
  refine ⟨_, pe_callB call_len_seq hg hm hv (pa_cons (pe_var hN hvv hd hcd) pa_nil hse) hn hdb hse hpl, fun H0 σ G H o s Q q => ?_⟩
  obtain ⟨l, _, e1, h1, h2, h3, h4, xs, rfl, h5⟩ := s.mu i _ hG
  refine ⟨_, e1, l, xs, rfl, .inl (SqL.of h1), q _ G H Rn.refl o ?_⟩
  rw [h5.len]
  exact Dq.int _
end

/-! ### what is walked -/
def XI {α : Type} (W : Wd) (X : Cx) (tg iter : Expr) (Γ : List Sd) (xs : List α) (Y : α → Ty) : Prop := ∃ wi, PI X tg iter wi ∧ ∀ (H0 : Hp) (σ : L2.St) (G H : Hp), Ok W G H → Sl W H0 G H σ Γ → ∀ R : It → Hp → Prop,
  (∀ (J : It) (G' H' : Hp) (S Gw : Hp → Prop) (Yw : Nat → Hp → V → Hp → Prop), Rn W G H G' H' → Ok W G' H' → (∀ A B : Hp, Ex A B → S A → S B) → S G' → Walk J xs.length Gw Yw → (∀ Ga Ha, Ok W Ga Ha → S Ga → Gw Ha) →
    (∀ i x Ha v Hb Ga, xs[i]? = some x → Ok W Ga Ha → S Ga → Yw i Ha v Hb → ∃ Gb, Rn W Ga Ha Gb Hb ∧ Ok W Gb Hb ∧ (Y x).r Gb v) → R J H') → wi σ H R
section
variable {W : Wd} {X : Cx} {tg iter e e2 : Expr} {Γ : List Sd} {pos : Pos}
theorem xi_list {α : Type} {xs : List α} {enc : α → PyData} (h : XE W X iter Γ (dL (xs.map enc))) : XI W X tg iter Γ xs (fun x => dat (enc x)) := by
  obtain ⟨t, a1, a2⟩ := h
  refine ⟨_, pi_list a1, fun H0 σ G H o s R k => a2 H0 σ G H o s _ fun v G1 H1 r1 o1 m1 => ?_⟩
  obtain ⟨a, vs, rfl, ha, hd⟩ := Dq.lst_inv m1
  have hl : vs.length = xs.length := by rw [hd.len, List.length_map]
  refine ⟨a, rfl, ⟨vs, SqL.of (o1.ex _ _ ha)⟩, k (Itl X.K a) G1 H1 (fun A => A a = some (.lst vs) ∧ DqAll A vs (xs.map enc)) (fun A => SqL X.K A a vs) (YAt vs) r1 o1 (fun A B e z => ⟨e _ _ z.1, z.2.mono e⟩) ⟨ha, hd⟩ (hl ▸ walk_list) (fun Ga Ha oa z => SqL.of (oa.ex _ _ z.1)) ?_⟩
  rintro i x Ha v Hb Ga hi oa ⟨z1, z2⟩ ⟨rfl, hv⟩
  obtain ⟨u, hu, du⟩ := z2.get (i := i) (d := enc x) (by rw [List.getElem?_map, hi]; rfl)
  rw [hv] at hu
  cases hu
  exact ⟨Ga, Rn.refl, oa, du⟩
theorem rng_get {n : Nat} {i x : Nat} (h : (List.range n)[i]? = some x) : x = i ∧ i < n := by
  obtain ⟨h1, h2⟩ := List.getElem?_eq_some_iff.mp h
  simp at h1 h2
  omega
theorem xi_range1 {p : Pos} {j : Int} (hg : Gl X "range") (hm : X.mg "range" = none) (h : XE W X e Γ (dI j)) (h1 : -(2 ^ 62) ≤ j ∧ j < 2 ^ 62) (hs : starEach [e] X.env = [(false, eval e X.env)] := by rfl) :
    XI W X tg (.Call (.Name "range" p) [e] [] pos) Γ (List.range j.toNat) (fun i => dI (i : Int)) := by
  obtain ⟨t, a1, a2⟩ := h
  refine ⟨_, pi_range1 hg hm (pa_cons a1 pa_nil (by rw [hs]; rfl)) hs, fun H0 σ G H o s R k => a2 H0 σ G H o s _ fun v G1 H1 r1 o1 m1 => ?_⟩
  cases Dq.int_inv m1
  refine ⟨j, rfl, h1.1, h1.2, k (Itr 0 j.toNat) G1 H1 (fun _ => True) (fun _ => True) (YFn fun i => .int (0 + i)) r1 o1 (fun _ _ _ z => z) trivial (by rw [List.length_range]; exact walk_range) (fun _ _ _ _ => trivial) ?_⟩
  rintro i x Ha v Hb Ga hi oa _ ⟨rfl, rfl⟩
  obtain ⟨rfl, _⟩ := rng_get hi
  refine ⟨Ga, Rn.refl, oa, ?_⟩
  show Dq Ga (V.int (0 + (x : Int))) (.int (x : Int))
  rw [Int.zero_add]
  exact Dq.int _
theorem xi_range2 {p : Pos} {i j : Int} (hg : Gl X "range") (hm : X.mg "range" = none) (h : XE W X e Γ (dI i)) (h' : XE W X e2 Γ (dI j)) (h1 : -(2 ^ 62) ≤ i ∧ i < 2 ^ 62 ∧ -(2 ^ 62) ≤ j ∧ j < 2 ^ 62) (hs : starEach [e, e2] X.env = [(false, eval e X.env), (false, eval e2 X.env)] := by rfl) (hs2 : starEach [e2] X.env = [(false, eval e2 X.env)] := by rfl) :
    XI W X tg (.Call (.Name "range" p) [e, e2] [] pos) Γ (List.range (j - i).toNat) (fun x => dI (i + x)) := by
  obtain ⟨t, a1, a2⟩ := h
  obtain ⟨u, b1, b2⟩ := h'
  refine ⟨_, pi_range2 hg hm (pa_cons a1 (pa_cons b1 pa_nil (by rw [hs2]; rfl)) (by rw [hs, hs2])) hs hs2, fun H0 σ G H o s R k => a2 H0 σ G H o s _ fun v G1 H1 r1 o1 m1 => b2 H0 σ G1 H1 o1 (s.run r1) _ fun v2 G2 H2 r2 o2 m2 => ?_⟩
  cases Dq.int_inv m1
  cases Dq.int_inv m2
  refine ⟨i, j, rfl, h1, k (Itr i (j - i).toNat) G2 H2 (fun _ => True) (fun _ => True) (YFn fun x => .int (i + x)) (r1.trans r2) o2 (fun _ _ _ z => z) trivial (by rw [List.length_range]; exact walk_range) (fun _ _ _ _ => trivial) ?_⟩
  rintro y x Ha v Hb Ga hi oa _ ⟨rfl, rfl⟩
  obtain ⟨rfl, _⟩ := rng_get hi
  exact ⟨Ga, Rn.refl, oa, Dq.int _⟩
/-- a pair given out is a new tuple -/
theorem pair_new {Ga Ha Hb : Hp} {T : Addr} {x y : V} {d1 d2 : PyData} (oa : Ok W Ga Ha) (hT : Ha T = none) (hb : Hb = upd Ha T (.tup [x, y])) (h1 : Dq Ga x d1) (h2 : Dq Ga y d2) : ∃ Gb, Rn W Ga Ha Gb Hb ∧ Ok W Gb Hb ∧ (dT [d1, d2]).r Gb (.ref T) := by
  subst hb
  have ex : Ex Ga (upd Ga T (.tup [x, y])) := Ex.new (none_of_ex oa.ex hT)
  exact ⟨_, Rn.alloc oa hT, oa.alloc hT, .tup upd_same (.cons (h1.mono ex) (.cons (h2.mono ex) .nil))⟩
theorem xi_zip {α β : Type} {xs : List α} {ys : List β} {f : α → PyData} {g : β → PyData} {p tpos : Pos} {elts : List Expr} {kk : Nat} (hg : Gl X "zip") (hm : X.mg "zip" = none) (h : XE W X e Γ (dL (xs.map f))) (h' : XE W X e2 Γ (dL (ys.map g)))
    (hz : ∀ {ta tb : TE}, PE X e ta → PE X e2 tb → PI X (.Tuple elts kk tpos) (.Call (.Name "zip" p) [e, e2] [] pos) (iZip X.K (tCons ta (tCons tb tNil)))) :
    XI W X (.Tuple elts kk tpos) (.Call (.Name "zip" p) [e, e2] [] pos) Γ (xs.zip ys) (fun z => dT [f z.1, g z.2]) := by
  obtain ⟨t, a1, a2⟩ := h
  obtain ⟨u, b1, b2⟩ := h'
  refine ⟨_, hz a1 b1, fun H0 σ G H o s R k => a2 H0 σ G H o s _ fun v G1 H1 r1 o1 m1 => b2 H0 σ G1 H1 o1 (s.run r1) _ fun v2 G2 H2 r2 o2 m2 => ?_⟩
  obtain ⟨a, vs, rfl, ha, hd⟩ := Dq.lst_inv (Dq.mono r2.gg m1)
  obtain ⟨b, ws, rfl, hb, hd'⟩ := Dq.lst_inv m2
  have hl : (xs.zip ys).length = min vs.length ws.length := by rw [hd.len, hd'.len, List.length_map, List.length_map, List.length_zip]
  refine ⟨a, b, vs, ws, rfl, SqL.of (o2.ex _ _ ha), SqL.of (o2.ex _ _ hb), k (Itz X.K a b) G2 H2 (fun A => (A a = some (.lst vs) ∧ DqAll A vs (xs.map f)) ∧ A b = some (.lst ws) ∧ DqAll A ws (ys.map g)) (fun A => SqL X.K A a vs ∧ SqL X.K A b ws) (YPair (fun i => vs[i]?) (fun i => ws[i]?)) (r1.trans r2) o2
    (fun A B e z => ⟨⟨e _ _ z.1.1, z.1.2.mono e⟩, e _ _ z.2.1, z.2.2.mono e⟩) ⟨⟨ha, hd⟩, hb, hd'⟩ (walk_zip hl) (fun Ga Ha oa z => ⟨SqL.of (oa.ex _ _ z.1.1), SqL.of (oa.ex _ _ z.2.1)⟩) ?_⟩
  rintro i ⟨x, y⟩ Ha v Hb Ga hi oa ⟨⟨z1, z2⟩, z3, z4⟩ ⟨T, v1, v2, rfl, hT, hHb, g1, g2⟩
  obtain ⟨hx, hy⟩ : xs[i]? = some x ∧ ys[i]? = some y := by
    rw [List.getElem?_zip_eq_some] at hi
    exact hi
  obtain ⟨u1, hu1, du1⟩ := z2.get (i := i) (d := f x) (by rw [List.getElem?_map, hx]; rfl)
  obtain ⟨u2, hu2, du2⟩ := z4.get (i := i) (d := g y) (by rw [List.getElem?_map, hy]; rfl)
  cases hu1.symm.trans g1
  cases hu2.symm.trans g2
  exact pair_new oa hT hHb du1 du2
theorem xi_enum {α : Type} {xs : List α} {f : α → PyData} {p tpos : Pos} {elts : List Expr} {kk : Nat} (hg : Gl X "enumerate") (hm : X.mg "enumerate" = none) (h : XE W X e Γ (dL (xs.map f)))
    (hz : ∀ {ta : TE}, PE X e ta → PI X (.Tuple elts kk tpos) (.Call (.Name "enumerate" p) [e] [] pos) (iEnum X.K (tCons ta tNil))) :
    XI W X (.Tuple elts kk tpos) (.Call (.Name "enumerate" p) [e] [] pos) Γ xs.zipIdx (fun z => dT [.int (z.2 : Int), f z.1]) := by
  obtain ⟨t, a1, a2⟩ := h
  refine ⟨_, hz a1, fun H0 σ G H o s R k => a2 H0 σ G H o s _ fun v G1 H1 r1 o1 m1 => ?_⟩
  obtain ⟨a, vs, rfl, ha, hd⟩ := Dq.lst_inv m1
  have hl : vs.length = xs.zipIdx.length := by rw [hd.len, List.length_map, List.length_zipIdx]
  refine ⟨a, vs, rfl, SqL.of (o1.ex _ _ ha), k (Ite X.K a) G1 H1 (fun A => A a = some (.lst vs) ∧ DqAll A vs (xs.map f)) (fun A => SqL X.K A a vs) (YPair (fun i => some (.int (i : Nat))) (fun i => vs[i]?)) r1 o1
    (fun A B e z => ⟨e _ _ z.1, z.2.mono e⟩) ⟨ha, hd⟩ (hl ▸ walk_enum) (fun Ga Ha oa z => SqL.of (oa.ex _ _ z.1)) ?_⟩
  rintro i ⟨x, y⟩ Ha v Hb Ga hi oa ⟨z1, z2⟩ ⟨T, v1, v2, rfl, hT, hHb, g1, g2⟩
  obtain ⟨hx, hy⟩ : xs[i]? = some x ∧ y = i := by
    rw [List.getElem?_zipIdx] at hi
    obtain ⟨w, e1, e2⟩ := Option.map_eq_some_iff.mp hi
    cases e2
    exact ⟨e1, by simp⟩
  subst hy
  obtain ⟨u2, hu2, du2⟩ := z2.get (i := y) (d := f x) (by rw [List.getElem?_map, hx]; rfl)
  cases hu2.symm.trans g2
  cases Option.some.inj g1
  exact pair_new oa hT hHb (Dq.int _) du2
end

/-! ### targets -/
theorem wipe_get (σ : L2.St) (k : Nat) : ∀ vs : List Nat, (L2.wipe σ vs)[k]? = if k ∈ vs then σ[k]?.map (fun _ => none) else σ[k]?
  | [] => by simp [L2.wipe]
  | v :: vs => by
    have ih := wipe_get σ k vs
    show ((L2.wipe σ vs).set v none)[k]? = _
    rw [List.getElem?_set]
    have hl := L2.wipe_length σ vs
    by_cases e : v = k
    · subst e
      rw [if_pos rfl]
      by_cases h : v < σ.length
      · simp [h, hl]
      · have : σ[v]? = none := List.getElem?_eq_none (by omega)
        simp [h, hl, this]
    · rw [if_neg e, ih]
      have : (k ∈ v :: vs) ↔ k ∈ vs := ⟨fun z => (List.mem_cons.mp z).resolve_left fun y => e y.symm, fun z => List.mem_cons_of_mem _ z⟩
      simp only [this]
theorem wipe_set {σ : L2.St} {j : Nat} {x : Option V} {vs : List Nat} (h : j ∈ vs) : L2.wipe (σ.set j x) vs = L2.wipe σ vs := by
  apply List.ext_getElem?
  intro k
  rw [wipe_get, wipe_get]
  by_cases hk : k ∈ vs
  · rw [if_pos hk, if_pos hk, List.getElem?_set]
    by_cases e : j = k
    · subst e
      rw [if_pos rfl]
      by_cases hl : j < σ.length
      · simp [hl]
      · have : σ[j]? = none := List.getElem?_eq_none (by omega)
        simp [hl, this]
    · rw [if_neg e]
  · rw [if_neg hk, if_neg hk, List.getElem?_set_ne]
    rintro rfl
    exact hk h
theorem wipe_wipe {σ : L2.St} : ∀ {vs ws : List Nat}, (∀ v ∈ vs, v ∈ ws) → L2.wipe (L2.wipe σ vs) ws = L2.wipe σ ws
  | [], _, _ => rfl
  | v :: vs, ws, h => by
    show L2.wipe ((L2.wipe σ vs).set v none) ws = _
    rw [wipe_set (h v (by simp)), wipe_wipe fun u hu => h u (by simp [hu])]
structure TgOk (g : TG) (js : List Nat) (Γ : List Sd) (R : Ty) (Γ' : List Sd) : Prop where
  run : ∀ (W : Wd) (H0 : Hp) (σ : L2.St) (G H : Hp) (v : V), Ok W G H → Sl W H0 G H σ Γ → R.r G v → ∀ Q : L2.St → Hp → Prop, (∀ σ', Sl W H0 G H σ' Γ' → (∀ vs : List Nat, (∀ j ∈ js, j ∈ vs) → L2.wipe σ' vs = L2.wipe σ vs) → Q σ' H) → g v σ H Q
theorem tg_name {j : Nat} {Γ : List Sd} {R : Ty} : TgOk (gName j) [j] Γ R (Γ.set j (.ty R)) :=
  ⟨fun W H0 σ G H v o s m Q q => q _ (s.set m) fun vs h => wipe_set (h j (by simp))⟩
theorem tg_pair {K : PySem.W.Frag} {i j : Nat} {Γ : List Sd} {d1 d2 : PyData} : TgOk (gTup K 2 (gCons (gName i) (gCons (gName j) gNil))) [i, j] Γ (dT [d1, d2]) ((Γ.set i (sd d1)).set j (sd d2)) :=
  ⟨fun W H0 σ G H v o s m Q q => by
    obtain ⟨a, xs, rfl, ha, hd⟩ := Dq.tup_inv m
    obtain ⟨v1, v2, rfl, h1, h2⟩ := hd.two
    refine ⟨a, [v1, v2], rfl, SqT.of (o.ex _ _ ha), rfl, v1, [v2], rfl, v2, [], rfl, rfl, q _ ((s.set (R := dat d1) h1).set (R := dat d2) h2) fun vs h => ?_⟩
    rw [wipe_set (h j (by simp)), wipe_set (h i (by simp))]⟩

/-! ### for -/
/-- what a block's reading says of itself -/
def tSemS (X : Cx) (sts : List Stmt) : TS := fun D σ H => ∀ (pins : List (Addr × Obj)) (s : Shared), Inv X pins σ H s → wpAny (model X.prog X.w) X.A (execs sts X.env) (SP X pins D) X.xe s
theorem pss_sem {X : Cx} {sts : List Stmt} : PSs X sts (tSemS X sts) := ⟨fun pins s σ H D I h => h pins s I⟩
theorem XSs.sem {F : Fx} {X : Cx} {sts : List Stmt} {Γ : List Sd} {D : Ends} (h : XSs F X sts Γ D) {σ : L2.St} {H : Hp} (s : Stt F Γ σ H) : tSemS X sts D σ H := fun pins st I => let ⟨_, a, b⟩ := h; a.run pins st σ H D I (b σ H s)
abbrev Fx.ghost (F : Fx) (S : Hp → Prop) (hS : ∀ A B : Hp, Ex A B → S A → S B) : Fx := ⟨F.W, F.G0, F.H0, fun G => F.gh G ∧ S G, fun e h => ⟨F.ghm e h.1, hS _ _ e h.2⟩⟩
theorem split_at {α : Type} {xs : List α} {i : Nat} {x : α} (h : xs[i]? = some x) : xs = xs.take i ++ x :: xs.drop (i + 1) ∧ xs.take (i + 1) = xs.take i ++ [x] := by
  obtain ⟨h1, h2⟩ := List.getElem?_eq_some_iff.mp h
  refine ⟨?_, ?_⟩
  · conv => lhs; rw [← List.take_append_drop i xs, List.drop_eq_getElem_cons h1, h2]
  · rw [List.take_succ, h]
    rfl
section
variable {F : Fx} {X : Cx} {tg iter : Expr} {body : List Stmt} {Γ : List Sd} {D : Ends} {pos : Pos}
theorem xs_for {α : Type} {xs : List α} {Y : α → Ty} {g : TG} {js : List Nat} (hp : PassesOwn (model X.prog X.w) X.A X.env X.xe) (hc : X.calm = true) (hi : XI F.W X tg iter Γ xs Y) (hg : PG X tg g) (Γi : List α → List Sd) (Γb : List α → α → List Sd)
    (h0 : LeG Γ (Γi [])) (ht : ∀ pre x post, xs = pre ++ x :: post → TgOk g js (Γi pre) (Y x) (Γb pre x))
    (hb : ∀ pre x post, xs = pre ++ x :: post → ∀ S hS, XSs (F.ghost S hS) X body (Γb pre x) ⟨Stt (F.ghost S hS) (Γi (pre ++ [x])), D.rt, D.nx, Stt (F.ghost S hS) (Γi (pre ++ [x]))⟩) (k : Nx F (Γi xs) D)
    (hs : ∀ x, foldedSetIterable iter X.env x = pure x := by intro _; rfl) : XS F X (.For tg iter body [] pos) Γ D := by
  obtain ⟨wi, i1, i2⟩ := hi
  refine ⟨_, ps_for hp hc i1 hg pss_sem hs, fun σ H ⟨G, a⟩ => i2 F.H0 σ G H a.ok a.sl _ fun J G1 H1 S Gw Yw r1 o1 hS s1 w hw hy => ?_⟩
  have a1 := a.run r1 o1
  refine for_it w (fun i σ H => Stt (F.ghost S hS) (Γi (xs.take i)) σ H) ⟨G1, a1.rn, o1, a1.sl.le (by rw [List.take_zero]; exact h0), a1.g, s1⟩ (fun i σ H _ ⟨G, z⟩ => hw G H z.ok z.g.2) ?_ ?_
  · rintro i v σ' Ha Hb hlt ⟨Ga, z⟩ y
    have hx : xs[i]? = some xs[i] := List.getElem?_eq_getElem hlt
    obtain ⟨e1, e2⟩ := split_at hx
    obtain ⟨Gb, rb, ob, mb⟩ := hy i xs[i] Ha v Hb Ga hx z.ok z.g.2 y
    have zb := z.run rb ob
    refine (ht _ _ _ e1).run F.W F.H0 σ' Gb Hb v ob zb.sl mb _ fun σ2 s2 _ => ?_
    rw [e2]
    exact (hb _ _ _ e1 S hS).sem ⟨Gb, zb.rn, ob, s2, zb.g⟩
  · rintro σ' Ha ⟨Ga, z⟩
    rw [List.take_length] at z
    exact k σ' Ha ⟨Ga, z.rn, z.ok, z.sl, z.g.1⟩
end

/-! ### comprehensions -/
section
variable {W : Wd} {X : Cx} {tg iter elt : Expr} {ifs : List Expr} {scope : Scope} {own : List (Str × Nat)} {Γ : List Sd} {pos : Pos}
abbrev Bk (X : Cx) (scope : Scope) (s : Shared) (H : Hp) (C : Addr) (cl : List (Str × Addr)) (fp : List Addr) : Cx := X.blk s H scope (compEnvC scope cl C X.env) fp
def tSemE (X : Cx) (scope : Scope) (e : Expr) : TE := fun σ H Q => ∀ (s0 : Shared) (H0 : Hp) (C : Addr) (cl : List (Str × Addr)) (fp : List Addr) (pins : List (Addr × Obj)) (s : Shared), Inv (Bk X scope s0 H0 C cl fp) pins σ H s →
  wpAny (model (Bk X scope s0 H0 C cl fp).prog (Bk X scope s0 H0 C cl fp).w) (Bk X scope s0 H0 C cl fp).A (eval e (Bk X scope s0 H0 C cl fp).env) (EP (Bk X scope s0 H0 C cl fp) pins σ Q) (Bk X scope s0 H0 C cl fp).xe s
theorem pe_sem {s0 : Shared} {H0 : Hp} {C : Addr} {cl : List (Str × Addr)} {fp : List Addr} : PE (Bk X scope s0 H0 C cl fp) elt (tSemE X scope elt) := ⟨fun pins s σ H Q I h => h s0 H0 C cl fp pins s I⟩
theorem XE.sem {R : Ty} (h : ∀ s H C cl fp, XE W (Bk X scope s H C cl fp) elt Γ R) : EvP W (tSemE X scope elt) Γ R := fun H0 σ G H o s Q q s0 H0' C cl fp pins st I => by
  obtain ⟨t, a, b⟩ := h s0 H0' C cl fp
  exact a.run pins st σ H Q I (b H0 σ G H o s Q q)
/-- the tests of a block: none or one -/
inductive Ifs (W : Wd) (X : Cx) (scope : Scope) : List Expr → List Sd → Bool → Prop
  | none {Γ : List Sd} : Ifs W X scope [] Γ true
  | one {c : Expr} {Γ : List Sd} {b : Bool} : (∀ s H C cl fp, XT W (Bk X scope s H C cl fp) c Γ b) → Ifs W X scope [c] Γ b
def tSemC (X : Cx) (scope : Scope) (c : Expr) : TT := fun σ H Q => ∀ (s0 : Shared) (H0 : Hp) (C : Addr) (cl : List (Str × Addr)) (fp : List Addr) (pins : List (Addr × Obj)) (s : Shared), Inv (Bk X scope s0 H0 C cl fp) pins σ H s →
  wpAny (model (Bk X scope s0 H0 C cl fp).prog (Bk X scope s0 H0 C cl fp).w) (Bk X scope s0 H0 C cl fp).A (isTrue c (Bk X scope s0 H0 C cl fp).env (eval c (Bk X scope s0 H0 C cl fp).env)) (TP (Bk X scope s0 H0 C cl fp) pins σ Q) (Bk X scope s0 H0 C cl fp).xe s
def tIfs (X : Cx) (scope : Scope) : List Expr → TT
  | [c] => tSemC X scope c
  | _ => tYes
theorem pts_sem {ifs : List Expr} (h : ifs.length ≤ 1) {s0 : Shared} {H0 : Hp} {C : Addr} {cl : List (Str × Addr)} {fp : List Addr} : PTs (Bk X scope s0 H0 C cl fp) ifs (tIfs X scope ifs) := by
  match ifs, h with
  | [], _ => exact pts_nil
  | [c], _ => exact pts_one ⟨fun pins s σ H Q I h => h s0 H0 C cl fp pins s I⟩
  | _ :: _ :: _, h => simp at h
theorem Ifs.ev {ifs : List Expr} {b : Bool} (h : Ifs W X scope ifs Γ b) : EvT W (tIfs X scope ifs) Γ b := by
  cases h with
  | none => exact fun H0 σ G H o s Q q => q G H Rn.refl o
  | one h =>
    intro H0 σ G H o s Q q s0 H0' C cl fp pins st I
    obtain ⟨t, a, b⟩ := h s0 H0' C cl fp
    exact a.run pins st σ H Q I (b H0 σ G H o s Q q)
theorem filter_map_snoc {α β : Type} {f : α → Bool} {d : α → β} {pre : List α} {x : α} : ((pre ++ [x]).filter f).map d = if f x = true then (pre.filter f).map d ++ [d x] else (pre.filter f).map d := by
  rw [List.filter_append, List.map_append]
  by_cases h : f x = true
  · rw [if_pos h, List.filter_cons, if_pos h]
    rfl
  · rw [if_neg h, List.filter_cons, if_neg h]
    simp
theorem ev_lc {α : Type} {xs : List α} {Y : α → Ty} {g : TG} {js : List Nat} {wi : TI} {vs : List Nat} {tt : TT} {te : TE}
    (hi : ∀ (H0 : Hp) (σ : L2.St) (G H : Hp), Ok W G H → Sl W H0 G H σ Γ → ∀ R : It → Hp → Prop, (∀ (J : It) (G' H' : Hp) (S Gw : Hp → Prop) (Yw : Nat → Hp → V → Hp → Prop), Rn W G H G' H' → Ok W G' H' → (∀ A B : Hp, Ex A B → S A → S B) → S G' → Walk J xs.length Gw Yw → (∀ Ga Ha, Ok W Ga Ha → S Ga → Gw Ha) →
      (∀ i x Ha v Hb Ga, xs[i]? = some x → Ok W Ga Ha → S Ga → Yw i Ha v Hb → ∃ Gb, Rn W Ga Ha Gb Hb ∧ Ok W Gb Hb ∧ (Y x).r Gb v) → R J H') → wi σ H R)
    (hjs : ∀ j ∈ js, j ∈ vs) (Γb : α → List Sd) (ht : ∀ x, x ∈ xs → TgOk g js (wipeG Γ vs) (Y x) (Γb x)) (f : α → Bool) (d : α → PyData)
    (hif : ∀ x, x ∈ xs → EvT W tt (Γb x) (f x)) (he : ∀ x, x ∈ xs → f x = true → EvP W te (Γb x) (dat (d x))) (hz : xs.length ≤ 50000) :
    EvP W (tLc wi g tt te vs) Γ (dL ((xs.filter f).map d)) := by
  intro H0 σ G H o s Q q
  refine hi H0 σ G H o s _ fun J G1 H1 S Gw Yw r1 o1 hS s1 w hw hy D hD => ?_
  have nD : G1 D = none := none_of_ex o1.ex hD
  have s0 := s.run r1
  refine lc_it w (fun i H2 => ∃ G2, Rn W G1 H1 G2 H2 ∧ Ok W G2 H2 ∧ S G2 ∧ G2 D = none ∧ ∃ acc, H2 D = some (.lst acc) ∧ DqAll G2 acc (((xs.take i).filter f).map d)) ?_ ?_ ?_ ?_
  · exact ⟨G1, Rn.allocM hD, o1.allocM hD, s1, nD, [], upd_same, by rw [List.take_zero]; exact .nil⟩
  · rintro i H2 _ ⟨G2, _, o2, s2, _⟩
    exact hw G2 H2 o2 s2
  · rintro i v H2 H3 hlt ⟨G2, r2, o2, s2, n2, acc, h2, d2⟩ y
    have hx : xs[i]? = some xs[i] := List.getElem?_eq_getElem hlt
    obtain ⟨_, e2⟩ := split_at hx
    have hm : xs[i] ∈ xs := List.getElem_mem hlt
    obtain ⟨G3, r3, o3, m3⟩ := hy i xs[i] H2 v H3 G2 hx o2 s2 y
    have sl3 : Sl W H0 G3 H3 (L2.wipe σ vs) (wipeG Γ vs) := ((s0.run r2).run r3).wipes vs
    refine (ht _ hm).run W H0 (L2.wipe σ vs) G3 H3 v o3 sl3 m3 _ fun σ2 sl4 hwp => ⟨?_, ?_⟩
    · rw [hwp vs hjs, wipe_wipe fun _ z => z]
    · have nh : ¬ W.hid D := fun z => W.on o1.inv z hD
      have keepD : ∀ {A B : Hp}, Rn W G2 H2 A B → B D = some (.lst acc) ∧ A D = none := fun r => ⟨r.hh D _ nh h2, r.dj D (by rw [h2]; exact fun z => nomatch z) n2⟩
      refine (hif _ hm) H0 σ2 G3 H3 o3 sl4 _ fun G4 H4 r4 o4 => ?_
      cases hf : f xs[i] with
      | true =>
        refine iteT ((he _ hm hf) H0 σ2 G4 H4 o4 (sl4.run r4) _ fun u G5 H5 r5 o5 m5 => ?_)
        have r25 := (r3.trans r4).trans r5
        obtain ⟨k1, k2⟩ := keepD r25
        have hlen := d2.len
        have hle : (((xs.take i).filter f).map d).length ≤ 50000 := by
          rw [List.length_map]
          have h1 := List.length_filter_le f (xs.take i)
          rw [List.length_take] at h1
          omega
        refine ⟨acc, k1, sz_lt (by omega), G5, (r2.trans r25).write hD, o5.write k2 nh, hS _ _ r25.gg s2, k2, acc ++ [u], upd_same, ?_⟩
        rw [e2, filter_map_snoc, if_pos hf]
        exact (d2.mono r25.gg).snoc m5
      | false =>
        have r24 := r3.trans r4
        obtain ⟨k1, k2⟩ := keepD r24
        refine iteF ⟨G4, r2.trans r24, o4, hS _ _ r24.gg s2, k2, acc, k1, ?_⟩
        rw [e2, filter_map_snoc, if_neg (by rw [hf]; exact Bool.false_ne_true)]
        exact d2.mono r24.gg
  · rintro H2 ⟨G2, r2, o2, s2, n2, acc, h2, d2⟩
    rw [List.take_length] at d2
    have nh : ¬ W.hid D := fun z => W.on o1.inv z hD
    have n0 : H D = none := by
      cases z : H D with
      | none => rfl
      | some u => exact absurd hD (r1.hd D (by rw [z]; exact fun y => nomatch y))
    exact q (.ref D) (upd G2 D (.lst acc)) H2 ((r1.trans r2).freeze n2 n0) (o2.freeze h2 n2 nh) (.lst upd_same (d2.mono (Ex.new n2)))
theorem xlc {α : Type} {xs : List α} {Y : α → Ty} {g : TG} {js : List Nat} (hc : X.calm = true) (hN : X.N.Nodup) (hi : XI W X tg iter Γ xs Y) (ok : BlkOk X.N X.env.scope scope own) (hg : ∀ (s : Shared) (H : Hp) (C : Addr) (cl : List (Str × Addr)) (fp : List Addr), PG (Bk X scope s H C cl fp) tg g)
    (hjs : ∀ j ∈ js, j ∈ own.map (·.2)) (Γb : α → List Sd) (ht : ∀ x, x ∈ xs → TgOk g js (wipeG Γ (own.map (·.2))) (Y x) (Γb x)) (f : α → Bool) (d : α → PyData) (hl : ifs.length ≤ 1)
    (hif : ∀ x, x ∈ xs → Ifs W X scope ifs (Γb x) (f x)) (he : ∀ x, x ∈ xs → f x = true → ∀ s H C cl fp, XE W (Bk X scope s H C cl fp) elt (Γb x) (dat (d x))) (hz : xs.length ≤ 50000)
    (hs : ∀ x, foldedSetIterable iter X.env x = pure x := by intro _; rfl) : XE W X (.ListComp elt [⟨tg, iter, ifs, 0⟩] scope pos) Γ (dL ((xs.filter f).map d)) := by
  obtain ⟨wi, i1, i2⟩ := hi
  exact ⟨_, pe_lc hc hN i1 ok hg (fun _ _ _ _ _ => pts_sem hl) (fun _ _ _ _ _ => pe_sem) hs, ev_lc i2 hjs Γb ht f d (fun x hx => (hif x hx).ev) (fun x hx hf => XE.sem (he x hx hf)) hz⟩
end
section
variable {F : Fx} {X : Cx} {tg iter elt : Expr} {ifs : List Expr} {scope : Scope} {own : List (Str × Nat)} {Γ : List Sd} {D : Ends} {pos spos py : Pos}
/-- y = [..] -/
theorem xs_lc (i : Nat) {α : Type} {xs : List α} {Y : α → Ty} {g : TG} {js : List Nat} {y : Str} (hc : X.calm = true) (hN : X.N.Nodup) (hi : XI F.W X tg iter Γ xs Y) (ok : BlkOk X.N X.env.scope scope own) (hg : ∀ (s : Shared) (H : Hp) (C : Addr) (cl : List (Str × Addr)) (fp : List Addr), PG (Bk X scope s H C cl fp) tg g)
    (hjs : ∀ j ∈ js, j ∈ own.map (·.2)) (Γb : α → List Sd) (ht : ∀ x, x ∈ xs → TgOk g js (wipeG Γ (own.map (·.2))) (Y x) (Γb x)) (f : α → Bool) (d : α → PyData) (hl : ifs.length ≤ 1)
    (hif : ∀ x, x ∈ xs → Ifs F.W X scope ifs (Γb x) (f x)) (he : ∀ x, x ∈ xs → f x = true → ∀ s H C cl fp, XE F.W (Bk X scope s H C cl fp) elt (Γb x) (dat (d x))) (hz : xs.length ≤ 50000)
    (k : Nx F (Γ.set i (sd (.list ((xs.filter f).map d)))) D) (hy : X.N[i]? = some y := by rfl) (hyl : X.env.scope.names.lookup y = some .local := by rfl)
    (hsw : swapsWith (.ListComp elt [⟨tg, iter, ifs, 0⟩] scope pos) (some (.Name y py)) spos.line X.env = pure true := by exact sw_true rfl rfl rfl (by decide +kernel)) (hs : ∀ x, foldedSetIterable iter X.env x = pure x := by intro _; rfl) :
    XS F X (.Assign [.Name y py] (.ListComp elt [⟨tg, iter, ifs, 0⟩] scope pos) spos) Γ D := by
  obtain ⟨wi, i1, i2⟩ := hi
  refine ⟨_, ps_setLc hc hN hy hyl hsw i1 ok hg (fun _ _ _ _ _ => pts_sem hl) (fun _ _ _ _ _ => pe_sem) hs, fun σ H ⟨G, a⟩ => ?_⟩
  refine (ev_lc i2 hjs Γb ht f d (fun x hx => (hif x hx).ev) (fun x hx hf => XE.sem (he x hx hf)) hz) F.H0 σ G H a.ok a.sl _ fun v G1 H1 r1 o1 m1 => ?_
  have a1 := a.run r1 o1
  exact k _ _ ⟨G1, a1.rn, o1, a1.sl.set (R := dL ((xs.filter f).map d)) m1, a1.g⟩
end

/-! ### defs -/
def spF (W : Wd) (pre : List Ty → Ty → Prop) : Sp := fun vs H Q _ => ∃ Rs R G, pre Rs R ∧ Ok W G H ∧ AllTy G Rs vs ∧ ∀ v G' H', Rn W G H G' H' → Ok W G' H' → R.r G' v → Q v H'
/-- a def as the text has it -/
structure Src (K : PySem.W.Frag) (mg : Str → Option Value) (x : Str) (st : Stmt) (ps : List Str) : Prop where
  ex : ∃ f fd, Fun K x x st f fd ∧ mg x = some (.ref f) ∧ Binds K fd ps []
/-- a def that keeps its promise -/
structure Def (P : Program) (w : World) (K : PySem.W.Frag) (mg : Str → Option Value) (base : Heap) (k : Nat) (x : Str) (ps : List Str) (sp : Sp) : Prop where
  ex : ∃ f fd, FnOk P w K mg base CX0 k f fd ps sp ∧ mg x = some (.ref f) ∧ PySem.W.keepIn K (.ref f) = true ∧ Binds K fd ps []
abbrev Xc (P : Program) (w : World) (K : PySem.W.Frag) (mg : Str → Option Value) (base : Heap) (N : List Str) (x : Str) (st : Stmt) (f : Addr) (cdv : Value) (A : Around) (outer : List Env) (s : Shared) (H : Hp) (E : XK) : Cx :=
  (cxOf CX0 P w K mg base N x (defScope st) f cdv A outer s H E).nox
def Fx.of (W : Wd) (G H : Hp) : Fx := ⟨W, G, H, fun _ => True, fun _ _ => trivial⟩
section
variable {P : Program} {w : World} {K : PySem.W.Frag} {mg : Str → Option Value} {base : Heap} {k : Nat} {x : Str} {st : Stmt} {ps N : List Str} {W : Wd} {pre : List Ty → Ty → Prop}
theorem Def.of (S : Src K mg x st ps) (sc : FnScope N ps (defScope st)) (len : ∀ Rs R, pre Rs R → Rs.length = ps.length)
    (body : ∀ (f : Addr) (cdv : Value) (A : Around) (outer : List Env) (s : Shared) (H : Hp) (E : XK), Room k (A.deeper (PyProof.Rows.envOfC x (defScope st) s.heap.objs.size f cdv)) → ∀ (Rs : List Ty) (R : Ty), pre Rs R → ∀ (F : Fx) (D : Ends), F.W = W → Rt F R D → (∀ σ H', D.nx σ H' = D.rt .non H') →
      XSs F (Xc P w K mg base N x st f cdv A outer s H E) (defBody st) (Rs.map Sd.ty ++ List.replicate (N.length - Rs.length) Sd.any) D) :
    Def P w K mg base (k + 1) x ps (spF W pre) := by
  obtain ⟨f, fd, F, hm, hb⟩ := S.ex
  refine ⟨f, fd, F.ok sc (fun vs H Q E ⟨Rs, R, G, hp, _, ha, _⟩ => by rw [ha.len, len Rs R hp]) (fun cdv A outer s H vs Q E hr h => ?_), hm, F.kp, hb⟩
  obtain ⟨Rs, R, G, hp, o, ha, q⟩ := h
  obtain ⟨t, a1, a2⟩ := body f cdv A outer s H E hr Rs R hp (Fx.of W G H) { nx := fun _ H' => Q .non H', rt := Q } rfl (fun v G' H' r o m => q v G' H' r o m) (fun _ _ => rfl)
  refine ⟨t, a1, a2 _ _ ⟨G, Rn.refl, o, ?_, trivial⟩⟩
  have hlen := ha.len
  have get : ∀ (Rs : List Ty) (vs : List V), AllTy G Rs vs → ∀ (i : Nat) (S : Ty), Rs[i]? = some S → ∃ v, vs[i]? = some v ∧ S.r G v := by
    intro Rs
    induction Rs with
    | nil => intro vs _ i S h; simp at h
    | cons R Rs ih =>
      intro vs ha i S h
      cases vs with
      | nil => exact ha.elim
      | cons v vs =>
        cases i with
        | zero =>
          simp at h
          subst h
          exact ⟨v, rfl, ha.1⟩
        | succ i =>
          obtain ⟨u, h1, h2⟩ := ih vs ha.2 i S (by simpa using h)
          exact ⟨u, by simpa using h1, h2⟩
  have noMut : ∀ (i : Nat) (ds : OTy), (Rs.map Sd.ty ++ List.replicate (N.length - Rs.length) Sd.any)[i]? = some (.own ds) → False := by
    intro i ds h
    have hm := List.mem_of_getElem? h
    rcases List.mem_append.mp hm with z | z
    · obtain ⟨_, _, e⟩ := List.mem_map.mp z
      cases e
    · have := (List.mem_replicate.mp z).2
      cases this
  refine ⟨by simp [L2.start, hlen], fun i S h => ?_, fun i ds h => (noMut i ds h).elim, fun i j l ds es _ h => (noMut i ds h).elim⟩
  by_cases hi : i < Rs.length
  · rw [List.getElem?_append_left (by simpa using hi), List.getElem?_map] at h
    obtain ⟨S', e1, e2⟩ := Option.map_eq_some_iff.mp h
    cases e2
    obtain ⟨v, h1, h2⟩ := get Rs vs ha i S e1
    refine ⟨v, ?_, h2⟩
    unfold L2.start
    rw [List.getElem?_append_left (by simp; omega), List.getElem?_map, h1]
    rfl
  · have hm := List.mem_of_getElem? h
    rw [List.getElem?_append_right (by simp; omega)] at h
    have := (List.mem_replicate.mp (List.mem_of_getElem? h)).2
    cases this
end
section
variable {W W' : Wd} {X : Cx} {Γ : List Sd} {e : Expr} {es : List Expr} {k : Nat} {x : Str} {ps : List Str} {pre : List Ty → Ty → Prop} {Rs : List Ty} {R : Ty} {p pos : Pos}
theorem xcall (F : Def X.prog X.w X.K X.mg X.base k x ps (spF W pre)) (hr : Room k X.A) (hg : Gl X x) (ha : XA W X (e :: es) Γ Rs) (hp : pre Rs R)
    (hdb : (x == ("__debug__" : Str)) = false := by decide) (he : starEach (e :: es) X.env = (false, eval e X.env) :: starEach es X.env := by rfl) (hpl : (backTo pos (starEach es X.env)).any (·.1) = false := by rfl) :
    XE W X (.Call (.Name x p) (e :: es) [] pos) Γ R := by
  obtain ⟨f, fd, F, hm, hk, hb⟩ := F.ex
  obtain ⟨t, a1, a2⟩ := ha
  refine ⟨_, pe_call F hr hg hm hk hb .nil pass0 a1 hdb he hpl, fun H0 σ G H o s Q q => a2 H0 σ G H o s _ fun vs G1 H1 r1 o1 m1 => ?_⟩
  rw [List.append_nil]
  exact ⟨Rs, R, G1, hp, o1, m1, fun v G' H' r o' m => q v G' H' (r1.trans r) o' m⟩
theorem xcall0 (F : Def X.prog X.w X.K X.mg X.base k x ps (spF W0 pre)) (hr : Room k X.A) (hg : Gl X x) (ha : XA W X (e :: es) Γ Rs) (hp : pre Rs R)
    (hdb : (x == ("__debug__" : Str)) = false := by decide) (he : starEach (e :: es) X.env = (false, eval e X.env) :: starEach es X.env := by rfl) (hpl : (backTo pos (starEach es X.env)).any (·.1) = false := by rfl) :
    XE W X (.Call (.Name x p) (e :: es) [] pos) Γ R := by
  obtain ⟨f, fd, F, hm, hk, hb⟩ := F.ex
  obtain ⟨t, a1, a2⟩ := ha
  refine ⟨_, pe_call F hr hg hm hk hb .nil pass0 a1 hdb he hpl, fun H0 σ G H o s Q q => a2 H0 σ G H o s _ fun vs G1 H1 r1 o1 m1 => ?_⟩
  rw [List.append_nil]
  exact ⟨Rs, R, G1, hp, o1.to0, m1, fun v G' H' r o' m => q v G' H' (r1.trans r.of0) (Ok.of0 r o1 o') m⟩
end
end SL
set_option maxRecDepth 100000
set_option maxHeartbeats 4000000
/-! operations on data; enumerate of a text -/
namespace SL
open PySem L2 Evl

/-! ### enumerate(text) -/
def IteS (x : Str) : It := ⟨fun i _ => i < x.cps.size, fun i H v H' => ∃ T c, v = .ref T ∧ H T = none ∧ x.cps[i]? = some c ∧ H' = upd H T (.tup [.int (i : Nat), .str ⟨#[c]⟩]), fun i _ => i = x.cps.size⟩
theorem draws_str {P : Program} {w : World} {A : Around} (hh : A.handled = none) (it : Addr) (x : Str) (t : Tok) :
    Draws P w A it [it] x.cps.size (fun i v => ∃ c u, x.cps[i]? = some c ∧ v = .str ⟨#[c]⟩ u) (fun i h => h.IsStrIter it (strIterType x) x t i) := by
  by_cases h : x.cps.all (· < 128) = true
  · have e : strIterType x = "str_ascii_iterator" := by unfold strIterType; rw [if_pos h]
    rw [e]
    exact Draws.strAscii hh it x t
  · have e : strIterType x = "str_iterator" := by unfold strIterType; rw [if_neg h]
    rw [e]
    exact Draws.strWide hh it x t
theorem turn_enumS {P : Program} {w : World} {K : PySem.W.Frag} {elts : List Expr} {kk : Nat} {tpos : Pos} (x : Str) (t : Tok) (e it : Addr) :
    Turn P w K (.Tuple elts kk tpos) (IteS x) [e, it] e (fun i h => (∃ old, IsEnum h e it ((i : Nat) : Int) old) ∧ h.IsStrIter it (strIterType x) x t i ∧ e ≠ it) where
  mem := by simp
  obj := fun i h st b hb => by
    obtain ⟨⟨old, he⟩, ⟨o, ho, hc, hd⟩, _⟩ := st
    have e' : b = e ∨ b = it := by simpa using hb
    rcases e' with z | z
    · rw [z]; exact ⟨_, he, fun v q => nomatch q⟩
    · rw [z]; exact ⟨o, ho, fun v q => by rw [hd] at q; cases q⟩
  keep := fun i h h' st k => by
    obtain ⟨⟨old, he⟩, ⟨o, ho, r⟩, hne⟩ := st
    exact ⟨⟨old, k e (by simp) _ he⟩, ⟨o, k it (by simp) o ho, r⟩, hne⟩
  item := by
    intro X hP hw hK hc i pins s σ H E I hf st hg
    subst hP hw hK
    obtain ⟨⟨old, he⟩, hit, hne⟩ := st
    have hel : e < s.heap.objs.size := Heap.lt_size he
    have hil : it < s.heap.objs.size := by obtain ⟨_, q, _⟩ := hit; exact Heap.lt_size q
    have D := draws_str (P := X.prog) (w := X.w) (A := X.A.in1) (show X.A.in1.handled = none from I.ok.hd hc) it x t
    refine wpAny_pyNext_enum_itemD D he hit hg hne (by simpa using hne) fun u h' tk hP ho hit' hT hsz hk => ?_
    obtain ⟨c, u', hx, rfl⟩ := hP
    refine ⟨_, rfl, wpAny_letOwnedTupleGo_enum (s := { s with heap := h', toks := tk + 1 }) ho fun h'' he' sb => ?_⟩
    have hT2 : h''.get? s.heap.objs.size = some { cls := .type "tuple", data := .seq #[.int i tk, .str ⟨#[c]⟩ u'] } := (sb.2 _ (Nat.ne_of_gt hel)).trans hT
    have new : ObjOk X.prog X.w (upd H s.heap.objs.size (.tup [.int (i : Nat), .str ⟨#[c]⟩])) h'' s.heap.objs.size (.tup [.int (i : Nat), .str ⟨#[c]⟩]) :=
      ⟨by show 2 ≤ sizeLine; decide, [.int i tk, .str ⟨#[c]⟩ u'], .cons ⟨_, rfl⟩ (.cons ⟨_, rfl⟩ .nil), ⟨_, hT2, rfl, _, rfl⟩⟩
    have I1 : Inv X pins σ (upd H s.heap.objs.size (.tup [.int (i : Nat), .str ⟨#[c]⟩])) { s with heap := h'', toks := tk + 1 } :=
      I.turnedNew (ch := [e, it]) (fun b ob hb q => (sb.2 b (fun z => hb (by simp [z]))).trans (hk b ob (fun z => hb (by simp [z])) (fun z => hb (by simp [z])) q)) hf (Nat.le_refl _) new
    refine ⟨.ref s.heap.objs.size, _, I1, rfl, ⟨_, c, rfl, I.hok.fresh (Nat.le_refl _), hx, rfl⟩, ⟨⟨Value.str ⟨#[c]⟩ u', ?_⟩, ?_, hne⟩, fun b hb => ?_⟩
    · have e1 : ((i + 1 : Nat) : Int) = (i : Int) + 1 := by omega
      rw [e1]; exact he'
    · obtain ⟨o, ho', r⟩ := hit'
      exact ⟨o, (sb.2 it (Ne.symm hne)).trans ho', r⟩
    · have hb' : b < s.heap.objs.size := by
        have e' : b = e ∨ b = it := by simpa using hb
        rcases e' with z | z
        · rw [z]; exact hel
        · rw [z]; exact hil
      rw [upd_ne (Nat.ne_of_lt hb')]
      exact (hf b hb).1
  done := by
    intro X hP hw hK hc i pins s σ H E I hf st hg
    subst hP hw hK
    obtain ⟨⟨old, he⟩, hit, hne⟩ := st
    obtain ⟨f0, f1, f2, f3, f4, f5⟩ := hf it (by simp)
    have hi : i = x.cps.size := hg
    subst hi
    have D := draws_str (P := X.prog) (w := X.w) (A := X.A.in1) (show X.A.in1.handled = none from I.ok.hd hc) it x t
    exact wpAny_pyNext_enum_endD D he hit fun h' eb => ⟨rfl, I.turned (t' := s.toks) (fun b o hb q => eb b o hb q) f0 f1 f3 f4 f5⟩
  self := fun A i s Q E st h => let ⟨⟨_, he⟩, _⟩ := st; wpAny_pyIter_enum he h
def iEnumS (ta : TA) : TI := fun σ H R => ta σ H fun vs H1 => ∃ x, vs = [.str x] ∧ R (IteS x) H1
theorem pi_enumS {X : Cx} {e : Expr} {ta : TA} {p pos tpos : Pos} {elts : List Expr} {kk : Nat} (hg : Gl X "enumerate") (hm : X.mg "enumerate" = none) (ha : PA X [e] ta) (hs : starEach [e] X.env = [(false, eval e X.env)] := by rfl) :
    PI X (.Tuple elts kk tpos) (.Call (.Name "enumerate" p) [e] [] pos) (iEnumS ta) := by
  refine ⟨fun pins s σ H R I h => ?_⟩
  refine PyProof.Rows.Call_ (ld_blt I hg hm PyProof.Rows.boot_enumerate (PyProof.Rows.callWith_type1 (thn (ha.run pos pins s σ H _ I h) fun us s1 ⟨vs, H1, I1, r1, q1⟩ => ?_) hs rfl))
  obtain ⟨x, ex, q⟩ := q1
  subst ex
  cases r1 with
  | cons r rr =>
    cases rr
    obtain ⟨t, rfl⟩ := r
    refine call_enumerate_str fun h' he hit hsz hk => wpAny_pyIter_enum he ?_
    have I2 : Inv X pins σ H1 { s1 with heap := h' } := I1.kept (t' := s1.toks) hk
    refine ⟨s1.heap.objs.size + 1, [s1.heap.objs.size + 1, s1.heap.objs.size], _, _, H1, rfl, I2, turn_enumS x t (s1.heap.objs.size + 1) s1.heap.objs.size, ⟨⟨.none, he⟩, hit, Nat.succ_ne_self _⟩, fun b hb => ?_, q⟩
    have e' : b = s1.heap.objs.size + 1 ∨ b = s1.heap.objs.size := by simpa using hb
    have hle : s1.heap.objs.size ≤ b := by
      rcases e' with z | z
      · rw [z]; exact Nat.le_add_right _ _
      · rw [z]; exact Nat.le_refl _
    exact I1.fpOk hle (I1.hok.fresh hle)
theorem walk_enumS {z : Str} : Walk (IteS z) z.cps.size (fun _ => True) (YPair (fun i => some (.int (i : Nat))) (fun i => z.cps[i]?.map fun c => V.str ⟨#[c]⟩)) := by
  refine ⟨fun _ _ hi _ => hi, fun _ _ => rfl, fun i H v H' _ _ y => ?_⟩
  obtain ⟨T, c, h1, h2, h3, h4⟩ := y
  exact ⟨T, .int (i : Nat), .str ⟨#[c]⟩, h1, h2, h4, rfl, by simp only [h3]; rfl⟩
abbrev sg (c : Nat) : Str := ⟨#[c]⟩
abbrev rw_ (cs : List Nat) : Str := ⟨cs.toArray⟩
theorem xi_enumS {W : Wd} {X : Cx} {e : Expr} {Γ : List Sd} {pos p tpos : Pos} {elts : List Expr} {kk : Nat} {cs : List Nat} (hg : Gl X "enumerate") (hm : X.mg "enumerate" = none) (h : XE W X e Γ (dS (rw_ cs)))
    (hz : ∀ {ta : TE}, PE X e ta → PI X (.Tuple elts kk tpos) (.Call (.Name "enumerate" p) [e] [] pos) (iEnumS (tCons ta tNil))) :
    XI W X (.Tuple elts kk tpos) (.Call (.Name "enumerate" p) [e] [] pos) Γ cs.zipIdx (fun z => dT [.int (z.2 : Int), .str (sg z.1)]) := by
  obtain ⟨t, a1, a2⟩ := h
  refine ⟨_, hz a1, fun H0 σ G H o s R k => a2 H0 σ G H o s _ fun v G1 H1 r1 o1 m1 => ?_⟩
  cases Dq.str_inv m1
  refine ⟨rw_ cs, rfl, k (IteS (rw_ cs)) G1 H1 (fun _ => True) (fun _ => True) _ r1 o1 (fun _ _ _ z => z) trivial (by rw [List.length_zipIdx]; exact walk_enumS (z := rw_ cs)) (fun _ _ _ _ => trivial) ?_⟩
  rintro i ⟨x, y⟩ Ha v Hb Ga hi oa _ ⟨T, v1, v2, rfl, hT, hHb, g1, g2⟩
  obtain ⟨hx, hy⟩ : cs[i]? = some x ∧ y = i := by
    rw [List.getElem?_zipIdx] at hi
    obtain ⟨w, e1, e2⟩ := Option.map_eq_some_iff.mp hi
    cases e2
    exact ⟨e1, by simp⟩
  subst hy
  have g2' : cs[y]?.map (fun c => V.str ⟨#[c]⟩) = some v2 := by simpa using g2
  rw [hx] at g2'
  cases g2'
  cases Option.some.inj g1
  exact pair_new oa hT hHb (Dq.int _) (Dq.str _)

/-! ### operations on values -/
section
variable {W : Wd} {K : PySem.W.Frag} {X : Cx} {i j : Int} {d e : PyData} {ds es : List PyData}
theorem rv_int {g : Int → Int → Int} : R2v W (rI0 fun i j => .int (g i j)) (dI i) (dI j) (dI (g i j)) := fun x y G H o h1 h2 Q q => by
  cases Dq.int_inv h1
  cases Dq.int_inv h2
  exact ⟨i, j, rfl, rfl, q _ G H Rn.refl o (Dq.int _)⟩
theorem rv_bl {g : Int → Int → Bool} : R2v W (rI0 fun i j => .bl (g i j)) (dI i) (dI j) (dB (g i j)) := fun x y G H o h1 h2 Q q => by
  cases Dq.int_inv h1
  cases Dq.int_inv h2
  exact ⟨i, j, rfl, rfl, q _ G H Rn.refl o (Dq.bl _)⟩
theorem rv_intC {C : Int → Int → Prop} {g : Int → Int → Int} (hc : C i j) : R2v W (rI C fun i j => .int (g i j)) (dI i) (dI j) (dI (g i j)) := fun x y G H o h1 h2 Q q => by
  cases Dq.int_inv h1
  cases Dq.int_inv h2
  exact ⟨i, j, rfl, rfl, hc, q _ G H Rn.refl o (Dq.int _)⟩
theorem rv_eqI : R2v W rEq (dI i) (dI j) (dB (decide (i = j))) := fun x y G H o h1 h2 Q q => by
  cases Dq.int_inv h1
  cases Dq.int_inv h2
  refine ⟨rfl, q _ G H Rn.refl o ?_⟩
  have : decide (V.int i = V.int j) = decide (i = j) := by simp
  rw [this]
  exact Dq.bl _
theorem rv_neI : R2v W rNe (dI i) (dI j) (dB (!decide (i = j))) := fun x y G H o h1 h2 Q q => by
  cases Dq.int_inv h1
  cases Dq.int_inv h2
  refine ⟨rfl, q _ G H Rn.refl o ?_⟩
  have : decide (V.int i = V.int j) = decide (i = j) := by simp
  rw [this]
  exact Dq.bl _
theorem rv_eqS {a b : Str} : R2v W rEq (dS a) (dS b) (dB (decide (a = b))) := fun x y G H o h1 h2 Q q => by
  cases Dq.str_inv h1
  cases Dq.str_inv h2
  refine ⟨rfl, q _ G H Rn.refl o ?_⟩
  have : decide (V.str a = V.str b) = decide (a = b) := by simp
  rw [this]
  exact Dq.bl _
theorem rv_neS {a b : Str} : R2v W rNe (dS a) (dS b) (dB (!decide (a = b))) := fun x y G H o h1 h2 Q q => by
  cases Dq.str_inv h1
  cases Dq.str_inv h2
  refine ⟨rfl, q _ G H Rn.refl o ?_⟩
  have : decide (V.str a = V.str b) = decide (a = b) := by simp
  rw [this]
  exact Dq.bl _
theorem rv_eqD (h1 : SeqAt.shaped d = true) (h2 : SeqAt.shaped e = true) : R2v W (rEqD K) (dat d) (dat e) (dB (PyData.eqv d e)) := fun x y G H o m1 m2 Q q =>
  ⟨d, e, (Dq.mono o.ex m1).dp, (Dq.mono o.ex m2).dp, h1, h2, q _ G H Rn.refl o (Dq.bl _)⟩
theorem rv_neD (h1 : SeqAt.shaped d = true) (h2 : SeqAt.shaped e = true) : R2v W (rNeD K) (dat d) (dat e) (dB (!PyData.eqv d e)) := fun x y G H o m1 m2 Q q =>
  ⟨d, e, (Dq.mono o.ex m1).dp, (Dq.mono o.ex m2).dp, h1, h2, q _ G H Rn.refl o (Dq.bl _)⟩
theorem rv_inD (h1 : SeqAt.shaped d = true) (h2 : SeqAt.shaped (.list ds) = true) : R2v W (rInD K) (dat d) (dL ds) (dB (ds.any fun z => PyData.eqv z d)) := fun x y G H o m1 m2 Q q =>
  ⟨d, ds, (Dq.mono o.ex m1).dp, (Dq.mono o.ex m2).dp, h1, h2, q _ G H Rn.refl o (Dq.bl _)⟩
theorem rv_notInD (h1 : SeqAt.shaped d = true) (h2 : SeqAt.shaped (.list ds) = true) : R2v W (rNotInD K) (dat d) (dL ds) (dB (!ds.any fun z => PyData.eqv z d)) := fun x y G H o m1 m2 Q q =>
  ⟨d, ds, (Dq.mono o.ex m1).dp, (Dq.mono o.ex m2).dp, h1, h2, q _ G H Rn.refl o (Dq.bl _)⟩
theorem atI_of {α : Type} {xs : List α} {i : Int} {n : Nat} {v : α} (h : i = (n : Int)) (e : xs[n]? = some v) : atI xs i = some v := by
  subst h
  exact atI_nat e
theorem atI_dq {G : Hp} {vs : List V} (h : DqAll G vs ds) (e : atI ds i = some d) : ∃ v, atI vs i = some v ∧ Dq G v d := by
  unfold atI at e ⊢
  rw [h.len]
  cases z : ixN ds.length i with
  | none =>
    rw [z] at e
    cases e
  | some n =>
    rw [z] at e
    exact h.get (i := n) e
theorem rv_ixL (h : atI ds i = some d) : R2v W (rIxL K) (dL ds) (dI i) (dat d) := fun x y G H o m1 m2 Q q => by
  cases Dq.int_inv m2
  obtain ⟨a, vs, rfl, ha, hd⟩ := Dq.lst_inv m1
  obtain ⟨v, h1, h2⟩ := atI_dq hd h
  exact ⟨a, vs, i, v, rfl, rfl, SqL.of (o.ex _ _ ha), h1, q v G H Rn.refl o h2⟩
theorem rv_ixT (h : atI ds i = some d) : R2v W (rIxT K) (dT ds) (dI i) (dat d) := fun x y G H o m1 m2 Q q => by
  cases Dq.int_inv m2
  obtain ⟨a, vs, rfl, ha, hd⟩ := Dq.tup_inv m1
  obtain ⟨v, h1, h2⟩ := atI_dq hd h
  exact ⟨a, vs, i, v, rfl, rfl, SqT.of (o.ex _ _ ha), h1, q v G H Rn.refl o h2⟩
theorem rv_ixS {cs : List Nat} {c : Nat} (h : atI cs i = some c) (hl : cs.length ≤ 1000) : R2v W rIxS (dS (rw_ cs)) (dI i) (dS (sg c)) := fun x y G H o m1 m2 Q q => by
  cases Dq.int_inv m2
  cases Dq.str_inv m1
  exact ⟨rw_ cs, i, c, rfl, rfl, sz_of (by show (cs.toArray).size ≤ 100000; rw [List.size_toArray]; omega), h, q _ G H Rn.refl o (Dq.str _)⟩
theorem rv_cat (hl : ds.length + es.length ≤ 100000) : R2v W rCat (dL ds) (dL es) (dL (ds ++ es)) := fun x y G H o m1 m2 Q q => by
  obtain ⟨a, vs, rfl, ha, hd⟩ := Dq.lst_inv m1
  obtain ⟨b, ws, rfl, hb, he⟩ := Dq.lst_inv m2
  refine ⟨a, b, vs, ws, rfl, rfl, o.ex _ _ ha, o.ex _ _ hb, by rw [hd.len, he.len]; exact sz_of hl, fun p hp => ?_⟩
  exact q _ _ _ (Rn.alloc o hp) (o.alloc hp) (.lst upd_same ((hd.append he).mono (Ex.new (none_of_ex o.ex hp))))
def rAddS : R2 := fun x y H Q => ∃ i j, x = .str i ∧ y = .str j ∧ i.length + j.length ≤ sizeLine ∧ Q (.str (i ++ j)) H
theorem op_addS : OpR X (binaryOp .Add) rAddS := op_add_str
theorem rv_addS {a b : List Nat} (hl : a.length + b.length ≤ 100000) : R2v W rAddS (dS (rw_ a)) (dS (rw_ b)) (dS (rw_ (a ++ b))) := fun x y G H o m1 m2 Q q => by
  cases Dq.str_inv m1
  cases Dq.str_inv m2
  refine ⟨_, _, rfl, rfl, ?_, ?_⟩
  · show a.toArray.size + b.toArray.size ≤ sizeLine
    rw [List.size_toArray, List.size_toArray]
    exact sz_of hl
  · have e : (rw_ a ++ rw_ b : Str) = rw_ (a ++ b) := by
      show (⟨a.toArray ++ b.toArray⟩ : Str) = ⟨(a ++ b).toArray⟩
      simp
    rw [e]
    exact q _ G H Rn.refl o (Dq.str _)
def rIn1 : R2 := fun x y H Q => ∃ (c : Nat) (z : Str), x = .str ⟨#[c]⟩ ∧ y = .str z ∧ Q (.bl (decide (c ∈ z.cps.toList))) H
theorem op_in1 : OpR X (compareOp .In) rIn1 := op_in_sign
theorem rv_inS {c : Nat} {cs : List Nat} : R2v W rIn1 (dS (sg c)) (dS (rw_ cs)) (dB (decide (c ∈ cs))) := fun x y G H o m1 m2 Q q => by
  cases Dq.str_inv m1
  cases Dq.str_inv m2
  refine ⟨c, rw_ cs, rfl, rfl, q _ G H Rn.refl o ?_⟩
  exact Dq.bl _
/-- calls -/
theorem cr_len : CRv W (rLenS K) [dL ds] (dI (ds.length : Int)) := fun vs G H o m Q q => by
  match vs, m with
  | [v], ⟨m, _⟩ =>
    obtain ⟨a, vs, rfl, ha, hd⟩ := Dq.lst_inv m
    refine ⟨a, vs, rfl, .inl (SqL.of (o.ex _ _ ha)), q _ G H Rn.refl o ?_⟩
    rw [hd.len]
    exact Dq.int _
theorem call_lenS : CallR X (.builtin "len") (rLenS X.K) := call_len_seq
def rLenStr : List V → Hp → VK → Prop := fun xs H Q => ∃ z, xs = [.str z] ∧ z.length ≤ sizeLine ∧ Q (.int z.length) H
theorem call_lenStr : CallR X (.builtin "len") rLenStr := call_len_str
theorem cr_lenStr {cs : List Nat} (hl : cs.length ≤ 1000) : CRv W rLenStr [dS (rw_ cs)] (dI (cs.length : Int)) := fun vs G H o m Q q => by
  match vs, m with
  | [v], ⟨m, _⟩ =>
    cases Dq.str_inv m
    have e : (rw_ cs).length = cs.length := by
      show cs.toArray.size = cs.length
      rw [List.size_toArray]
    refine ⟨_, rfl, by rw [e]; exact sz_of (by omega), ?_⟩
    rw [e]
    exact q _ G H Rn.refl o (Dq.int _)
def rAbs : List V → Hp → VK → Prop := fun xs H Q => ∃ i, xs = [.int i] ∧ Q (.int (if i < 0 then -i else i)) H
theorem call_absI : CallR X (.builtin "abs") rAbs := call_abs
theorem cr_abs : CRv W rAbs [dI i] (dI (if i < 0 then -i else i)) := fun vs G H o m Q q => by
  match vs, m with
  | [v], ⟨m, _⟩ =>
    cases Dq.int_inv m
    exact ⟨i, rfl, q _ G H Rn.refl o (Dq.int _)⟩
def rMin2 : List V → Hp → VK → Prop := fun xs H Q => ∃ i j, xs = [.int i, .int j] ∧ Q (.int (if j < i then j else i)) H
def rMax2 : List V → Hp → VK → Prop := fun xs H Q => ∃ i j, xs = [.int i, .int j] ∧ Q (.int (if j > i then j else i)) H
theorem call_min2I (hc : X.calm = true) : CallR X (.builtin "min") rMin2 := call_min2 hc
theorem call_max2I (hc : X.calm = true) : CallR X (.builtin "max") rMax2 := call_max2 hc
theorem cr_min2 : CRv W rMin2 [dI i, dI j] (dI (if j < i then j else i)) := fun vs G H o m Q q => by
  match vs, m with
  | [v, u], ⟨m, m', _⟩ =>
    cases Dq.int_inv m
    cases Dq.int_inv m'
    exact ⟨i, j, rfl, q _ G H Rn.refl o (Dq.int _)⟩
theorem cr_max2 : CRv W rMax2 [dI i, dI j] (dI (if j > i then j else i)) := fun vs G H o m Q q => by
  match vs, m with
  | [v, u], ⟨m, m', _⟩ =>
    cases Dq.int_inv m
    cases Dq.int_inv m'
    exact ⟨i, j, rfl, q _ G H Rn.refl o (Dq.int _)⟩
def rInt1 : List V → Hp → VK → Prop := fun xs H Q => (∃ i, xs = [.int i] ∧ Q (.int i) H) ∨ ∃ k, xs = [.bl k] ∧ Q (.int (if k then 1 else 0)) H
theorem call_intB : CallR X (.type "int") rInt1 := call_int1
theorem cr_intB {b : Bool} : CRv W rInt1 [dB b] (dI (if b then 1 else 0)) := fun vs G H o m Q q => by
  match vs, m with
  | [v], ⟨m, _⟩ =>
    cases Dq.bl_inv m
    exact .inr ⟨b, rfl, q _ G H Rn.refl o (Dq.int _)⟩
theorem crv_any {bs : List Bool} : CRv W (rAny K) [dL (bs.map .bool)] (dB (bs.any id)) := fun vs G H o m Q q => by
  match vs, m with
  | [v], ⟨m, _⟩ =>
    obtain ⟨a, vs, rfl, ha, hd⟩ := Dq.lst_inv m
    cases hd.bools
    exact ⟨a, bs, rfl, SqL.of (o.ex _ _ ha), q _ G H Rn.refl o (Dq.bl _)⟩
theorem crv_all {bs : List Bool} : CRv W (rAll K) [dL (bs.map .bool)] (dB (bs.all id)) := fun vs G H o m Q q => by
  match vs, m with
  | [v], ⟨m, _⟩ =>
    obtain ⟨a, vs, rfl, ha, hd⟩ := Dq.lst_inv m
    cases hd.bools
    exact ⟨a, bs, rfl, SqL.of (o.ex _ _ ha), q _ G H Rn.refl o (Dq.bl _)⟩
theorem cr_maxL {ns : List Int} {m : Int} (hm : m ∈ ns) (hb : ∀ y, y ∈ ns → y ≤ m) : CRv W (rMax K) [dL (ns.map .int)] (dI m) := fun vs G H o z Q q => by
  match vs, z with
  | [v], ⟨z, _⟩ =>
    obtain ⟨a, vs, rfl, ha, hd⟩ := Dq.lst_inv z
    cases hd.ints
    refine ⟨a, ns, rfl, SqL.of (o.ex _ _ ha), List.length_pos_of_mem hm, fun k hk hk2 => ?_⟩
    have e : k = m := Int.le_antisymm (hb k hk) (hk2 m hm)
    subst e
    exact q _ G H Rn.refl o (Dq.int _)
theorem cr_list : CRv W (rListS K) [dL ds] (dL ds) := fun vs G H o m Q q => by
  match vs, m with
  | [v], ⟨m, _⟩ =>
    obtain ⟨a, vs, rfl, ha, hd⟩ := Dq.lst_inv m
    exact ⟨a, vs, rfl, .inl (SqL.of (o.ex _ _ ha)), fun p hp => q _ _ _ (Rn.alloc o hp) (o.alloc hp) (.lst upd_same (hd.mono (Ex.new (none_of_ex o.ex hp))))⟩
theorem call_listS : CallR X (.type "list") (rListS X.K) := call_list_of
def rTupleS (K : PySem.W.Frag) : List V → Hp → VK → Prop := fun xs H Q => ∃ p ys, xs = [.ref p] ∧ ((SqL K H p ys ∧ ∀ l, H l = none → Q (.ref l) (upd H l (.tup ys))) ∨ (SqT K H p ys ∧ Q (.ref p) H))
theorem call_tupleS : CallR X (.type "tuple") (rTupleS X.K) := call_tuple_of
theorem cr_tuple : CRv W (rTupleS K) [dL ds] (dT ds) := fun vs G H o m Q q => by
  match vs, m with
  | [v], ⟨m, _⟩ =>
    obtain ⟨a, vs, rfl, ha, hd⟩ := Dq.lst_inv m
    exact ⟨a, vs, rfl, .inl ⟨SqL.of (o.ex _ _ ha), fun p hp => q _ _ _ (Rn.alloc o hp) (o.alloc hp) (.tup upd_same (hd.mono (Ex.new (none_of_ex o.ex hp))))⟩⟩
end

/-! ### chains -/
section
variable {W : Wd} {X : Cx} {Γ : List Sd} {a b c : Expr} {pos : Pos} {i j k : Int}
theorem ev_chain {g g' : Int → Int → Bool} {ta tb tc : TE} (ha : EvP W ta Γ (dI i)) (hb : EvP W tb Γ (dI j)) (hc : g i j = true → EvP W tc Γ (dI k)) :
    EvP W (tChain (rI0 fun i j => .bl (g i j)) (rI0 fun i j => .bl (g' i j)) ta tb (if g i j = true then tc else tAnyE)) Γ (dB (g i j && g' j k)) := fun H0 σ G H o s Q q =>
  ev_two ha hb o s fun x y G1 H1 r1 o1 m1 m2 => by
    cases Dq.int_inv m1
    cases Dq.int_inv m2
    refine ⟨i, j, rfl, rfl, g i j, rfl, ?_⟩
    cases h : g i j with
    | true =>
      rw [if_pos rfl, if_pos rfl]
      refine hc h H0 σ G1 H1 o1 (s.run r1) _ fun z G2 H2 r2 o2 m3 => ?_
      cases Dq.int_inv m3
      refine ⟨j, k, rfl, rfl, q _ G2 H2 (r1.trans r2) o2 ?_⟩
      rw [h, Bool.true_and]
      exact Dq.bl _
    | false =>
      rw [if_neg Bool.false_ne_true]
      refine q _ G1 H1 r1 o1 ?_
      rw [h, Bool.false_and]
      exact Dq.bl _
theorem xchain {op op' : CmpOp} {g g' : Int → Int → Bool} (ho : OpR X (compareOp op) (rI0 fun i j => .bl (g i j))) (ho' : OpR X (compareOp op') (rI0 fun i j => .bl (g' i j))) (ha : XE W X a Γ (dI i)) (hb : XE W X b Γ (dI j)) (hc : g i j = true → XE W X c Γ (dI k))
    (hm : lastMarks [op, op'] [b, c] = false := by with_unfolding_all rfl) : XE W X (.Compare a [op, op'] [b, c] pos) Γ (dB (g i j && g' j k)) := by
  obtain ⟨ta, a1, a2⟩ := ha
  obtain ⟨tb, b1, b2⟩ := hb
  by_cases h : g i j = true
  · obtain ⟨tc, c1, c2⟩ := hc h
    have e := ev_chain (g := g) (g' := g') (k := k) a2 b2 (fun _ => c2)
    rw [if_pos h] at e
    exact ⟨_, pe_chain ho ho' a1 b1 c1 hm, e⟩
  · have e := ev_chain (g := g) (g' := g') (k := k) (tc := tAnyE) a2 b2 (fun z => absurd z h)
    rw [if_neg h] at e
    exact ⟨_, pe_chain ho ho' a1 b1 pe_false hm, e⟩
theorem xtchain {op op' : CmpOp} {g g' : Int → Int → Bool} (ho : OpR X (compareOp op) (rI0 fun i j => .bl (g i j))) (ho' : OpR X (compareOp op') (rI0 fun i j => .bl (g' i j))) (ha : XE W X a Γ (dI i)) (hb : XE W X b Γ (dI j)) (hc : g i j = true → XE W X c Γ (dI k))
    (hm : lastMarks [op, op'] [b, c] = false := by with_unfolding_all rfl) : XT W X (.Compare a [op, op'] [b, c] pos) Γ (g i j && g' j k) := by
  obtain ⟨ta, a1, a2⟩ := ha
  obtain ⟨tb, b1, b2⟩ := hb
  by_cases h : g i j = true
  · obtain ⟨tc, c1, c2⟩ := hc h
    have e := ev_chain (g := g) (g' := g') (k := k) a2 b2 (fun _ => c2)
    rw [if_pos h] at e
    exact ⟨_, pt_chain ho ho' a1 b1 c1 hm, fun H0 σ G H o s Q q => e H0 σ G H o s _ fun v G' H' r o' m => ⟨_, Dq.bl_inv m, q G' H' r o'⟩⟩
  · have e := ev_chain (g := g) (g' := g') (k := k) (tc := tAnyE) a2 b2 (fun z => absurd z h)
    rw [if_neg h] at e
    exact ⟨_, pt_chain ho ho' a1 b1 pe_false hm, fun H0 σ G H o s Q q => e H0 σ G H o s _ fun v G' H' r o' m => ⟨_, Dq.bl_inv m, q G' H' r o'⟩⟩
end

/-! ### cells -/
abbrev Cell := Int × Int
def encC (c : Cell) : PyData := .tuple [.int c.1, .int c.2]
theorem encC_lay (c : Cell) : (encC c).canLay0 = true := by simp [encC, PyData.canLay0, PyData.canLayAll0]
theorem encC_depth (c : Cell) : (encC c).depth = 1 := by simp [encC, PyData.depth, PyData.depthAll]
theorem encCs_lay : ∀ cs : List Cell, PyData.canLayAll0 (cs.map encC) = true
  | [] => by simp [PyData.canLayAll0]
  | c :: cs => by simp [PyData.canLayAll0, encC_lay c, encCs_lay cs]
theorem encCs_depth : ∀ cs : List Cell, PyData.depthAll (cs.map encC) ≤ 1
  | [] => by simp [PyData.depthAll]
  | c :: cs => by
    have h1 := encCs_depth cs
    have h2 := encC_depth c
    simp only [List.map_cons, PyData.depthAll]
    omega
theorem shaped_C (c : Cell) : SeqAt.shaped (encC c) = true := by
  have h := encC_depth c
  show ((encC c).canLay0 && decide ((encC c).depth ≤ 64)) = true
  rw [Bool.and_eq_true]
  exact ⟨encC_lay c, decide_eq_true (by omega)⟩
theorem shaped_Cs (cs : List Cell) : SeqAt.shaped (.list (cs.map encC)) = true := by
  have h1 := encCs_depth cs
  show (PyData.canLay0 (.list (cs.map encC)) && decide (PyData.depth (.list (cs.map encC)) ≤ 64)) = true
  rw [Bool.and_eq_true]
  refine ⟨by simp only [PyData.canLay0]; exact encCs_lay cs, decide_eq_true ?_⟩
  simp only [PyData.depth]
  omega
theorem eqv_C (c d : Cell) : PyData.eqv (encC c) (encC d) = decide (c = d) := by
  obtain ⟨a, b⟩ := c
  obtain ⟨a', b'⟩ := d
  have e : PyData.eqv (encC (a, b)) (encC (a', b')) = ((a == a') && ((b == b') && true)) := by simp only [encC, PyData.eqv, PyData.eqvAll]
  rw [e, Bool.eq_iff_iff]
  simp
theorem any_C (c : Cell) (cs : List Cell) : ((cs.map encC).any fun z => PyData.eqv z (encC c)) = decide (c ∈ cs) := by
  rw [List.any_map, Bool.eq_iff_iff, List.any_eq_true, decide_eq_true_iff]
  constructor
  · rintro ⟨x, hx, e⟩
    have e : PyData.eqv (encC x) (encC c) = true := e
    rw [eqv_C, decide_eq_true_iff] at e
    exact e ▸ hx
  · intro h
    refine ⟨c, h, ?_⟩
    show PyData.eqv (encC c) (encC c) = true
    rw [eqv_C]
    simp
end SL
set_option maxRecDepth 100000
set_option maxHeartbeats 4000000
/-! the text by places; boards -/
namespace SL
open PySem L2 Evl

def top (i : Nat) : Stmt := PySem.Challenge.pw_stonelay_k73_whole_plans_walked.main.body.getD i (.Pass ⟨0, 0, 0, 0⟩)
abbrev sSign : Stmt := top 6
abbrev sCellsW : Stmt := top 7
abbrev sClosed : Stmt := top 8
abbrev sOpen : Stmt := top 9
abbrev sNearIn : Stmt := top 10
abbrev sAround : Stmt := top 11
abbrev sNumAt : Stmt := top 12
/-- the built-ins are what they are -/
structure Bn (mg : Str → Option Value) : Prop where
  len : mg "len" = none
  range : mg "range" = none
  enumerate : mg "enumerate" = none
  zip : mg "zip" = none
  abs : mg "abs" = none
  min : mg "min" = none
  max : mg "max" = none
  int : mg "int" = none
  str : mg "str" = none
  list : mg "list" = none
  tuple : mg "tuple" = none
  any : mg "any" = none
  all : mg "all" = none
  sorted : mg "sorted" = none
  divmod : mg "divmod" = none
  isinstance : mg "isinstance" = none
  dict : mg "dict" = none

section
variable {F : Fx} {X : Cx} {Γ : List Sd} {D : Ends} {e : Expr} {pos : Pos}
/-- if c: .. return; the rest -/
theorem xss_ifr {c : Expr} {as rest : List Stmt} {b : Bool} (hc : XT F.W X c Γ b) (h1 : b = true → XSs F X as Γ ⟨fun _ _ => False, D.rt, D.bk, D.ct⟩) (h2 : b = false → XSs F X rest Γ D) : XSs F X (.If c as [] pos :: rest) Γ D := by
  cases b with
  | true => exact xss_last (xs_if hc (fun h => h1 h) fun h => by cases h)
  | false => exact xss_cons (xs_if hc (fun h => by cases h) fun _ => xss_nil (nx_of rfl)) (h2 rfl)
theorem pg2 {X : Cx} {i j : Nat} {x y : Str} {px py pt : Pos} {kk : Nat} (hc : X.calm = true) (hN : X.N.Nodup) (hi : X.N[i]? = some x) (hj : X.N[j]? = some y) (hx : Loc X.env.scope x) (hy : Loc X.env.scope y)
    (hf : X.fn x = true ∨ X.env.scope.names.lookup x = some .local) (hf' : X.fn y = true ∨ X.env.scope.names.lookup y = some .local)
    (h1 : (assignEach [.Name x px, .Name y py] X.env).map (·.2) = assign (.Name x px) X.env :: (assignEach [.Name y py] X.env).map (·.2) := by rfl)
    (h2 : (assignEach [.Name y py] X.env).map (·.2) = assign (.Name y py) X.env :: (assignEach [] X.env).map (·.2) := by rfl)
    (hn : (assignEach [.Name x px, .Name y py] X.env).length = 2 := by rfl) (hst : (assignEach [.Name x px, .Name y py] X.env).findIdx? (·.1) = none := by rfl) :
    PG X (.Tuple [.Name x px, .Name y py] kk pt) (gTup X.K 2 (gCons (gName i) (gCons (gName j) gNil))) :=
  pg_tup hc (pgs_cons (pg_name hN hi hx hf) (pgs_cons (pg_name hN hj hy hf') pgs_nil h2) h1) hn hst
theorem xs_unpack (i j : Nat) {x y : Str} {px py pt : Pos} {kk : Nat} {d1 d2 : PyData} (hc : X.calm = true) (hN : X.N.Nodup) (he : XE F.W X e Γ (dT [d1, d2])) (k : Nx F ((Γ.set i (sd d1)).set j (sd d2)) D) (hi : X.N[i]? = some x := by rfl) (hj : X.N[j]? = some y := by rfl)
    (hx : Loc X.env.scope x := by first | exact Or.inl rfl | exact Or.inr rfl) (hy : Loc X.env.scope y := by first | exact Or.inl rfl | exact Or.inr rfl)
    (hf : X.fn x = true ∨ X.env.scope.names.lookup x = some .local := by first | exact .inl rfl | exact .inr rfl) (hf' : X.fn y = true ∨ X.env.scope.names.lookup y = some .local := by first | exact .inl rfl | exact .inr rfl)
    (h3 : (assignEach [.Name x px, .Name y py] X.env).map (·.2) = assign (.Name x px) X.env :: (assignEach [.Name y py] X.env).map (·.2) := by rfl)
    (h4 : (assignEach [.Name y py] X.env).map (·.2) = assign (.Name y py) X.env :: (assignEach [] X.env).map (·.2) := by rfl)
    (hn : (assignEach [.Name x px, .Name y py] X.env).length = 2 := by rfl) (hst : (assignEach [.Name x px, .Name y py] X.env).findIdx? (·.1) = none := by rfl)
    (hs : swapsWithSole [.Tuple [.Name x px, .Name y py] kk pt] e pos.line X.env = pure false := by rfl) (hw : swappedStores [.Tuple [.Name x px, .Name y py] kk pt] e X.env = pure none := by rfl)
    (h1 : (assignEach [.Tuple [.Name x px, .Name y py] kk pt] X.env).map (·.2) = [assign (.Tuple [.Name x px, .Name y py] kk pt) X.env] := by rfl) :
    XS F X (.Assign [.Tuple [.Name x px, .Name y py] kk pt] e pos) Γ D := by
  obtain ⟨t, a1, a2⟩ := he
  refine ⟨_, ps_asg a1 (pg2 hc hN hi hj hx hy hf hf' h3 h4 hn hst) hs hw h1, fun σ H ⟨G, a⟩ => a2 _ σ G H a.ok a.sl _ fun v G1 H1 r1 o1 m1 => ?_⟩
  have z := a.run r1 o1
  exact (tg_pair (K := X.K)).run F.W F.H0 σ G1 H1 v o1 z.sl m1 _ fun σ' s' _ => k _ _ ⟨G1, z.rn, o1, s', z.g⟩
end

/-! ### the mirror: boards -/
def encR (rows : List (List Nat)) : PyData := .list (rows.map fun r => .str (rw_ r))
def Gd (rows : List (List Nat)) : Prop := rows.length ≤ 16 ∧ ∀ r ∈ rows, r.length ≤ 16
def signAt (rows : List (List Nat)) (c : Cell) : Nat := if 0 ≤ c.1 ∧ 0 ≤ c.2 then (((rows[c.1.toNat]?).getD [])[c.2.toNat]?).getD 35 else 35
def preSign : List Ty → Ty → Prop := fun Rs R => ∃ rows c, Rs = [dat (encR rows), dat (encC c)] ∧ R = dS (sg (signAt rows c)) ∧ Gd rows
section
variable {P : Program} {w : World} {K : PySem.W.Frag} {mg : Str → Option Value} {base : Heap}
theorem scSign : FnScope ["rows", "cell", "row", "column"] ["rows", "cell"] (defScope sSign) := ⟨rfl, rfl, rfl, by decide +kernel, rfl, by decide +kernel, by decide +kernel⟩
theorem def_sign (S : Src K mg "sign_at" sSign ["rows", "cell"]) (B : Bn mg) : Def P w K mg base 1 "sign_at" ["rows", "cell"] (spF W0 preSign) := by
  refine Def.of S scSign (fun Rs R h => by obtain ⟨rows, c, rfl, _⟩ := h; rfl) fun f cdv A outer s H E hr Rs R hp F D hW hrt _ => ?_
  obtain ⟨rows, c, rfl, rfl, hg1, hg2⟩ := hp
  refine xss_cons (xs_unpack 2 3 rfl scSign.nd (xn 1) (nx_of rfl)) ?_
  have row_at : 0 ≤ c.1 → c.1 < (rows.length : Int) → atI (rows.map fun r => PyData.str (rw_ r)) c.1 = some (.str (rw_ ((rows[c.1.toNat]?).getD []))) := fun h0 h1 => by
    have hl : c.1.toNat < rows.length := by omega
    exact atI_of (n := c.1.toNat) (by omega) (by rw [List.getElem?_map, List.getElem?_eq_getElem hl]; rfl)
  have hlen : ((rows[c.1.toNat]?).getD []).length ≤ 16 := by
    cases z : rows[c.1.toNat]? with
    | none => exact Nat.zero_le _
    | some r => exact hg2 r (List.mem_of_getElem? z)
  have el : (((rows.map fun r => PyData.str (rw_ r)).length : Nat) : Int) = (rows.length : Int) := by rw [List.length_map]
  refine xss_ifr (XW.t (xwand (xtchain op_le op_lt xint (xn 2) (fun _ => xcallB call_lenS rfl B.len PySem.boot_len (xa1 (xn 0)) cr_len)) fun h => xwand1 (xtchain op_le op_lt xint (xn 3)
        (fun _ => xcallB call_lenStr rfl B.len PySem.boot_len (xa1 (xix ix_list (xn 0) (xn 2) (rv_ixL (row_at ?_ ?_)) (fun _ _ => rfl))) (cr_lenStr (by omega))))))
    (fun h => xss_one (xs_ret (xix ix_str (xix ix_list (xn 0) (xn 2) (rv_ixL (row_at ?_ ?_)) (fun _ _ => rfl)) (xn 3) (rv_ixS (c := signAt rows c) ?_ (by omega)) (fun _ _ => rfl)) hrt)) (fun h => xss_one (xs_ret (XE.eq xstr ?_) hrt))
  all_goals simp only [el, Bool.and_eq_true, decide_eq_true_iff, Bool.and_eq_false_iff, decide_eq_false_iff_not] at h
  · exact h.1
  · exact h.2
  · exact h.1.1
  · exact h.1.2
  · have hl : c.2.toNat < ((rows[c.1.toNat]?).getD []).length := by omega
    refine atI_of (n := c.2.toNat) (by omega) ?_
    unfold signAt
    rw [if_pos ⟨h.1.1, h.2.1⟩, List.getElem?_eq_getElem hl]
    rfl
  · unfold signAt
    have e : (if 0 ≤ c.1 ∧ 0 ≤ c.2 then (((rows[c.1.toNat]?).getD [])[c.2.toNat]?).getD 35 else 35) = 35 := by
      by_cases z : 0 ≤ c.1 ∧ 0 ≤ c.2
      · rw [if_pos z]
        by_cases z2 : c.1 < (rows.length : Int)
        · have z3 : ¬ c.2 < (((rows[c.1.toNat]?).getD []).length : Int) := by omega
          rw [List.getElem?_eq_none (by omega)]
          rfl
        · rw [List.getElem?_eq_none (l := rows) (by omega)]
          rfl
      · rw [if_neg z]
    rw [e]
    rfl
end
end SL
set_option maxRecDepth 100000
set_option maxHeartbeats 4000000
namespace SL
open PySem L2 Evl
local macro_rules | `(tactic| trivial) => `(tactic| (repeat (first | exact SL.LeG.nil | refine SL.LeG.cons (by first | exact SL.Le.rfl _ | exact SL.Le.any _) ?_)); done)

section
variable {F : Fx} {X : Cx} {iter : Expr} {body : List Stmt} {Γ : List Sd} {D : Ends} {pos : Pos}
theorem xs_forN (j : Nat) {α : Type} {xs : List α} {Y : α → Ty} {x : Str} {px : Pos} (hN : X.N.Nodup) (hi : XI F.W X (.Name x px) iter Γ xs Y) (Γi : List α → List Sd)
    (hb : ∀ pre x post, xs = pre ++ x :: post → ∀ S hS, XSs (F.ghost S hS) X body ((Γi pre).set j (.ty (Y x))) ⟨Stt (F.ghost S hS) (Γi (pre ++ [x])), D.rt, D.nx, Stt (F.ghost S hS) (Γi (pre ++ [x]))⟩) (k : Nx F (Γi xs) D)
    (h0 : LeG Γ (Γi []) := by repeat (first | exact LeG.nil | refine LeG.cons (by first | exact Le.rfl _ | exact Le.any _) ?_))
    (hp : PassesOwn (model X.prog X.w) X.A X.env X.xe := by exact PassesOwn.never) (hc : X.calm = true := by rfl) (hx : X.N[j]? = some x := by rfl) (hl : Loc X.env.scope x := by first | exact Or.inl rfl | exact Or.inr rfl)
    (hf : X.fn x = true ∨ X.env.scope.names.lookup x = some .local := by first | exact .inl rfl | exact .inr rfl)
    (hs : ∀ x, foldedSetIterable iter X.env x = pure x := by intro _; rfl) : XS F X (.For (.Name x px) iter body [] pos) Γ D :=
  xs_for hp hc hi (pg_name hN hx hl hf) Γi _ h0 (fun pre x post _ => tg_name) hb k hs
theorem xs_forP (i j : Nat) {α : Type} {xs : List α} {d1 d2 : α → PyData} {x y : Str} {px py pt : Pos} {kk : Nat} (hN : X.N.Nodup) (hi : XI F.W X (.Tuple [.Name x px, .Name y py] kk pt) iter Γ xs (fun z => dT [d1 z, d2 z])) (Γi : List α → List Sd)
    (hb : ∀ pre x post, xs = pre ++ x :: post → ∀ S hS, XSs (F.ghost S hS) X body (((Γi pre).set i (sd (d1 x))).set j (sd (d2 x))) ⟨Stt (F.ghost S hS) (Γi (pre ++ [x])), D.rt, D.nx, Stt (F.ghost S hS) (Γi (pre ++ [x]))⟩) (k : Nx F (Γi xs) D)
    (h0 : LeG Γ (Γi []) := by repeat (first | exact LeG.nil | refine LeG.cons (by first | exact Le.rfl _ | exact Le.any _) ?_))
    (hp : PassesOwn (model X.prog X.w) X.A X.env X.xe := by exact PassesOwn.never) (hc : X.calm = true := by rfl) (hx : X.N[i]? = some x := by rfl) (hy : X.N[j]? = some y := by rfl) (hl : Loc X.env.scope x := by first | exact Or.inl rfl | exact Or.inr rfl) (hl' : Loc X.env.scope y := by first | exact Or.inl rfl | exact Or.inr rfl)
    (hf : X.fn x = true ∨ X.env.scope.names.lookup x = some .local := by first | exact .inl rfl | exact .inr rfl) (hf' : X.fn y = true ∨ X.env.scope.names.lookup y = some .local := by first | exact .inl rfl | exact .inr rfl)
    (h1 : (assignEach [.Name x px, .Name y py] X.env).map (·.2) = assign (.Name x px) X.env :: (assignEach [.Name y py] X.env).map (·.2) := by rfl)
    (h2 : (assignEach [.Name y py] X.env).map (·.2) = assign (.Name y py) X.env :: (assignEach [] X.env).map (·.2) := by rfl)
    (hn : (assignEach [.Name x px, .Name y py] X.env).length = 2 := by rfl) (hst : (assignEach [.Name x px, .Name y py] X.env).findIdx? (·.1) = none := by rfl)
    (hs : ∀ x, foldedSetIterable iter X.env x = pure x := by intro _; rfl) : XS F X (.For (.Tuple [.Name x px, .Name y py] kk pt) iter body [] pos) Γ D :=
  xs_for hp hc hi (pg2 hc hN hx hy hl hl' hf hf' h1 h2 hn hst) Γi _ h0 (fun pre x post _ => tg_pair) hb k hs
variable {W : Wd} {elt : Expr} {ifs : List Expr} {scope : Scope} {own : List (Str × Nat)} {spos py : Pos}
theorem xlcN (j : Nat) (own : List (Str × Nat)) {r : List PyData} {α : Type} {xs : List α} {Y : α → Ty} {x : Str} {px : Pos} (hN : X.N.Nodup) (hi : XI W X (.Name x px) iter Γ xs Y) (ok : BlkOk X.N X.env.scope scope own) (f : α → Bool) (d : α → PyData)
    (hif : ∀ z, z ∈ xs → Ifs W X scope ifs ((wipeG Γ (own.map (·.2))).set j (.ty (Y z))) (f z)) (he : ∀ z, z ∈ xs → f z = true → ∀ s H C cl fp, XE W (Bk X scope s H C cl fp) elt ((wipeG Γ (own.map (·.2))).set j (.ty (Y z))) (dat (d z))) (hz : xs.length ≤ 50000) (hr : (xs.filter f).map d = r := by rfl)
    (hl : ifs.length ≤ 1 := by decide) (hc : X.calm = true := by rfl) (hj : ∀ k ∈ [j], k ∈ own.map (·.2) := by decide)
    (hg : ∀ (s : Shared) (H : Hp) (C : Addr) (cl : List (Str × Addr)) (fp : List Addr), PG (Bk X scope s H C cl fp) (.Name x px) (gName j) := by exact fun _ _ _ _ _ => pg_name (by assumption) rfl (by first | exact Or.inl rfl | exact Or.inr rfl))
    (hs : ∀ x, foldedSetIterable iter X.env x = pure x := by intro _; rfl) : XE W X (.ListComp elt [⟨.Name x px, iter, ifs, 0⟩] scope pos) Γ (dL r) := by
  subst hr
  exact xlc hc hN hi ok hg hj _ (fun z _ => tg_name) f d hl hif he hz hs
end

/-! ### cells -/
def rowCells (p : Nat → Bool) (i : Nat) (row : List Nat) : List Cell := (row.zipIdx.filter fun z => p z.1).map fun z => ((i : Int), (z.2 : Int))
def cellsOf (p : Nat → Bool) (rows : List (List Nat)) : List Cell := rows.zipIdx.flatMap fun z => rowCells p z.2 z.1
theorem rowCells_len (p : Nat → Bool) (i : Nat) (row : List Nat) : (rowCells p i row).length ≤ row.length := by
  unfold rowCells
  rw [List.length_map]
  have h := List.length_filter_le (fun z : Nat × Nat => p z.1) row.zipIdx
  rw [List.length_zipIdx] at h
  exact h
theorem flat_len {α β : Type} {f : α → List β} {n : Nat} : ∀ {l : List α}, (∀ x ∈ l, (f x).length ≤ n) → (l.flatMap f).length ≤ l.length * n
  | [], _ => by simp
  | a :: r, h => by
    have h1 := h a (by simp)
    have h2 := flat_len (l := r) fun x hx => h x (by simp [hx])
    rw [List.flatMap_cons, List.length_append, List.length_cons, Nat.add_mul]
    omega
theorem cells_len {p : Nat → Bool} {rows : List (List Nat)} (h : Gd rows) : (cellsOf p rows).length ≤ 256 := by
  have h1 : (cellsOf p rows).length ≤ rows.zipIdx.length * 16 := flat_len fun z hz => by
    have h2 := rowCells_len p z.2 z.1
    have h3 : z.1 ∈ rows := by
      obtain ⟨a, b⟩ := z
      exact (List.mem_zipIdx hz).2.2 ▸ List.getElem_mem _
    have := h.2 _ h3
    omega
  rw [List.length_zipIdx] at h1
  have := h.1
  omega
def preCellsW : List Ty → Ty → Prop := fun Rs R => ∃ rows signs, Rs = [dat (encR rows), dS (rw_ signs)] ∧ R = dL ((cellsOf (fun c => decide (c ∈ signs)) rows).map encC) ∧ Gd rows
section
variable {P : Program} {w : World} {K : PySem.W.Frag} {mg : Str → Option Value} {base : Heap}
theorem scCellsW : FnScope ["rows", "signs", "found", "row", "text", "column", "sign"] ["rows", "signs"] (defScope sCellsW) := ⟨rfl, rfl, rfl, by decide +kernel, rfl, by decide +kernel, by decide +kernel⟩
theorem def_cellsW (S : Src K mg "cells_with" sCellsW ["rows", "signs"]) (B : Bn mg) : Def P w K mg base 1 "cells_with" ["rows", "signs"] (spF W0 preCellsW) := by
  refine Def.of S scCellsW (fun Rs R h => by obtain ⟨rows, c, rfl, _⟩ := h; rfl) fun f cdv A outer s H E hr Rs R hp F D hW hrt _ => ?_
  obtain ⟨rows, signs, rfl, rfl, hg⟩ := hp
  refine xss_cons (xs_nil 2 scCellsW.nd (nx_of rfl)) ?_
  refine xss_cons (xs_forP 3 4 scCellsW.nd (xi_enum rfl B.enumerate (xn 0) (fun h => pi_enum rfl B.enumerate (pa_cons h pa_nil)))
    (fun pre => [sd (encR rows), sd (.str (rw_ signs)), .mut ((pre.flatMap fun z => rowCells (fun c => decide (c ∈ signs)) z.2 z.1).map encC), .any, .any, .any, .any])
    (fun pre x post he S hS => ?_) (nx_of rfl)) (xss_frz 2 (xss_one (xs_ret (xn 2) hrt)))
  have hcl := cells_len (p := fun c => decide (c ∈ signs)) hg
  unfold cellsOf at hcl
  rw [he, List.flatMap_append, List.flatMap_cons, List.length_append, List.length_append] at hcl
  refine xss_one (xs_forP 5 6 scCellsW.nd (xi_enumS rfl B.enumerate (xn 4) (fun h => pi_enumS rfl B.enumerate (pa_cons h pa_nil)))
    (fun pre' => [sd (encR rows), sd (.str (rw_ signs)), .mut ((pre.flatMap fun z => rowCells (fun c => decide (c ∈ signs)) z.2 z.1).map encC ++ ((pre'.filter fun z => decide (z.1 ∈ signs)).map fun z => encC ((x.2 : Int), (z.2 : Int)))), sd (.int (x.2 : Int)), sd (.str (rw_ x.1)), .any, .any])
    (fun pre' y post' he' S' hS' => ?_) ?_ (by simp only [List.filter_nil, List.map_nil, List.append_nil]; trivial))
  · refine xss_one (xs_if (xtcmp op_in1 (xn 6) (xn 1) rv_inS rfl) (fun h => xss_one (xs_app 2 rfl (xtup (ds := [.int (x.2 : Int), .int (y.2 : Int)]) (xacons (xn 3) (xa1 (xn 5))) (by simp)) ?_ ?_)) (fun h => xss_nil ?_))
    · have h2 : (rowCells (fun c => decide (c ∈ signs)) x.2 x.1).length = ((x.1.zipIdx.filter fun z => decide (z.1 ∈ signs)).map fun z => encC ((x.2 : Int), (z.2 : Int))).length := by
        unfold rowCells
        rw [List.length_map, List.length_map]
      rw [he', List.filter_append, List.map_append, List.length_append] at h2
      rw [List.length_append, List.length_map]
      omega
    · rw [filter_map_snoc, if_pos h, ← List.append_assoc]
      exact nx_le (by trivial)
    · rw [filter_map_snoc, if_neg (by rw [h]; exact Bool.false_ne_true)]
      exact nx_le (by trivial)
  · have e : (List.flatMap (fun z : List Nat × Nat => rowCells (fun c => decide (c ∈ signs)) z.2 z.1) [x]).map encC = (x.1.zipIdx.filter fun z => decide (z.1 ∈ signs)).map fun z => encC ((x.2 : Int), (z.2 : Int)) := by
      rw [List.flatMap_cons, List.flatMap_nil, List.append_nil]
      unfold rowCells
      rw [List.map_map]
      rfl
    rw [List.flatMap_append, List.map_append, e]
    exact nx_le (by trivial)
/-! closed, open_cells -/
def preBd (p : List Nat) : List Ty → Ty → Prop := fun Rs R => ∃ rows n, Rs = [dT [encR rows, .int n]] ∧ R = dL ((cellsOf (fun c => decide (c ∈ p)) rows).map encC) ∧ Gd rows
abbrev qm : List Nat := [63]
abbrev figs : List Nat := [48, 49, 50, 51, 52, 53, 54, 55, 56]
theorem scClosed : FnScope ["board"] ["board"] (defScope sClosed) := ⟨rfl, rfl, rfl, by decide +kernel, rfl, by decide +kernel, by decide +kernel⟩
theorem def_closed (S : Src K mg "closed" sClosed ["board"]) (C : Def P w K mg base 1 "cells_with" ["rows", "signs"] (spF W0 preCellsW)) : Def P w K mg base 2 "closed" ["board"] (spF W0 (preBd qm)) := by
  refine Def.of S scClosed (fun Rs R h => by obtain ⟨rows, n, rfl, _⟩ := h; rfl) fun f cdv A outer s H E hr Rs R hp F D hW hrt _ => ?_
  obtain ⟨rows, n, rfl, rfl, hg⟩ := hp
  exact xss_one (xs_ret (xcall0 C hr rfl (xacons (xix ix_tup (xn 0) xint (rv_ixT (d := encR rows) rfl) (fun _ _ => rfl)) (xa1 xstr)) ⟨rows, qm, rfl, rfl, hg⟩) hrt)
theorem scOpen : FnScope ["board"] ["board"] (defScope sOpen) := ⟨rfl, rfl, rfl, by decide +kernel, rfl, by decide +kernel, by decide +kernel⟩
theorem def_open (S : Src K mg "open_cells" sOpen ["board"]) (C : Def P w K mg base 1 "cells_with" ["rows", "signs"] (spF W0 preCellsW)) {t : Tok} (hF : mg "FIGURES" = some (.str "012345678" t)) : Def P w K mg base 2 "open_cells" ["board"] (spF W0 (preBd figs)) := by
  refine Def.of S scOpen (fun Rs R h => by obtain ⟨rows, n, rfl, _⟩ := h; rfl) fun f cdv A outer s H E hr Rs R hp F D hW hrt _ => ?_
  obtain ⟨rows, n, rfl, rfl, hg⟩ := hp
  exact xss_one (xs_ret (xcall0 C hr rfl (xacons (xix ix_tup (xn 0) xint (rv_ixT (d := encR rows) rfl) (fun _ _ => rfl)) (xa1 (xglob (v := .str "012345678") rfl hF ⟨_, rfl⟩ fun G => Dq.str _))) ⟨rows, figs, rfl, rfl, hg⟩) hrt)
end
end SL
set_option maxRecDepth 100000
set_option maxHeartbeats 4000000
namespace SL
open PySem L2 Evl
local macro_rules | `(tactic| trivial) => `(tactic| (repeat (first | exact SL.LeG.nil | refine SL.LeG.cons (by first | exact SL.Le.rfl _ | exact SL.Le.any _) ?_)); done)

theorem XI.eq {α : Type} {W : Wd} {X : Cx} {tg iter : Expr} {Γ : List Sd} {xs ys : List α} {Y : α → Ty} (h : XI W X tg iter Γ xs Y) (e : xs = ys) : XI W X tg iter Γ ys Y := e ▸ h
theorem XI.ty {α : Type} {W : Wd} {X : Cx} {tg iter : Expr} {Γ : List Sd} {xs : List α} {Y Z : α → Ty} (h : XI W X tg iter Γ xs Y) (e : Y = Z) : XI W X tg iter Γ xs Z := e ▸ h
/-! ### near_in -/
abbrev sCommon : Stmt := top 14
abbrev sFraction : Stmt := top 15
def nearOk (rows : List (List Nat)) (c p : Cell) : Bool := !decide (p = c) && !decide (signAt rows p = 35)
def near1 (rows : List (List Nat)) (c : Cell) (i : Nat) : List Cell := ((List.range 3).filter fun j : Nat => nearOk rows c (c.1 - 1 + i, c.2 - 1 + j)).map fun j : Nat => (c.1 - 1 + i, c.2 - 1 + j)
def nearIn (rows : List (List Nat)) (c : Cell) : List Cell := (List.range 3).flatMap fun i => near1 rows c i
def SmC (c : Cell) : Prop := -1000 ≤ c.1 ∧ c.1 ≤ 1000 ∧ -1000 ≤ c.2 ∧ c.2 ≤ 1000
def preNearIn : List Ty → Ty → Prop := fun Rs R => ∃ rows c, Rs = [dat (encR rows), dat (encC c)] ∧ R = dL ((nearIn rows c).map encC) ∧ Gd rows ∧ SmC c
theorem sg_eq {a b : Nat} : decide (sg a = sg b) = decide (a = b) := by
  rw [Bool.eq_iff_iff, decide_eq_true_iff, decide_eq_true_iff]
  constructor
  · intro h
    have := congrArg (fun s : Str => s.cps.toList) h
    simpa using this
  · rintro rfl
    rfl
theorem near1_len (rows : List (List Nat)) (c : Cell) (i : Nat) : (near1 rows c i).length ≤ 3 := by
  unfold near1
  rw [List.length_map]
  have h := List.length_filter_le (fun j : Nat => nearOk rows c (c.1 - 1 + i, c.2 - 1 + j)) (List.range 3)
  rwa [List.length_range] at h
section
variable {P : Program} {w : World} {K : PySem.W.Frag} {mg : Str → Option Value} {base : Heap}
theorem scNearIn : FnScope ["rows", "cell", "found", "row", "column"] ["rows", "cell"] (defScope sNearIn) := ⟨rfl, rfl, rfl, by decide +kernel, rfl, by decide +kernel, by decide +kernel⟩
theorem def_nearIn (S : Src K mg "near_in" sNearIn ["rows", "cell"]) (B : Bn mg) (C : Def P w K mg base 1 "sign_at" ["rows", "cell"] (spF W0 preSign)) : Def P w K mg base 2 "near_in" ["rows", "cell"] (spF W0 preNearIn) := by
  refine Def.of S scNearIn (fun Rs R h => by obtain ⟨rows, c, rfl, _⟩ := h; rfl) fun f cdv A outer s H E hr Rs R hp F D hW hrt _ => ?_
  obtain ⟨rows, c, rfl, rfl, hg, hc1, hc2, hc3, hc4⟩ := hp
  refine xss_cons (xs_nil 2 scNearIn.nd (nx_of rfl)) ?_
  refine xss_cons (xs_forN 3 scNearIn.nd (XI.eq (xi_range2 rfl B.range (xop op_sub (xix ix_tup (xn 1) xint (rv_ixT (d := .int c.1) rfl) (fun _ _ => rfl)) xint rv_int) (xop op_add (xix ix_tup (xn 1) xint (rv_ixT (d := .int c.1) rfl) (fun _ _ => rfl)) xint rv_int) (by omega)) (by rw [show (c.1 + 2 - (c.1 - 1)).toNat = 3 by omega]))
    (fun pre => [sd (encR rows), sd (encC c), .mut ((pre.flatMap fun i => near1 rows c i).map encC), .any, .any]) (fun pre x post he S hS => ?_) (nx_of rfl)) (xss_frz 2 (xss_one (xs_ret (xn 2) hrt)))
  have h3 : pre.length ≤ 3 := by
    have := congrArg List.length he
    simp at this
    omega
  have hA : (pre.flatMap fun i => near1 rows c i).length ≤ pre.length * 3 := flat_len fun i _ => near1_len rows c i
  refine xss_one (xs_forN 4 scNearIn.nd (XI.eq (xi_range2 rfl B.range (xop op_sub (xix ix_tup (xn 1) xint (rv_ixT (d := .int c.2) rfl) (fun _ _ => rfl)) xint rv_int) (xop op_add (xix ix_tup (xn 1) xint (rv_ixT (d := .int c.2) rfl) (fun _ _ => rfl)) xint rv_int) (by omega)) (by rw [show (c.2 + 2 - (c.2 - 1)).toNat = 3 by omega]))
    (fun pre' => [sd (encR rows), sd (encC c), .mut ((pre.flatMap fun i => near1 rows c i).map encC ++ ((pre'.filter fun j : Nat => nearOk rows c (c.1 - 1 + x, c.2 - 1 + j)).map fun j : Nat => encC (c.1 - 1 + x, c.2 - 1 + j))), sd (.int (c.1 - 1 + x)), .any]) (fun pre' y post' he' S' hS' => ?_) ?_ (by simp only [List.filter_nil, List.map_nil, List.append_nil]; trivial))
  · have h3' : pre'.length ≤ 3 := by
      have := congrArg List.length he'
      simp at this
      omega
    refine xss_one (xs_if (b := nearOk rows c (c.1 - 1 + x, c.2 - 1 + y)) (XT.eq (XW.t (xwand (xtcmp (op_neD hr.units) (xtup (ds := [.int (c.1 - 1 + x), .int (c.2 - 1 + y)]) (xacons (xn 3) (xa1 (xn 4))) (by simp)) (xn 1) (rv_neD (shaped_C (c.1 - 1 + x, c.2 - 1 + y)) (shaped_C c)) (nomark _)) fun _ => xwand1 (xtcmp op_ne (xcall0 C hr rfl (xacons (xn 0) (xa1 (xtup (ds := [.int (c.1 - 1 + x), .int (c.2 - 1 + y)]) (xacons (xn 3) (xa1 (xn 4))) (by simp)))) ⟨rows, (c.1 - 1 + x, c.2 - 1 + y), rfl, rfl, hg⟩) xstr rv_neS (nomark _)))) ?_)
      (fun h => xss_one (xs_app 2 rfl (xtup (ds := [.int (c.1 - 1 + x), .int (c.2 - 1 + y)]) (xacons (xn 3) (xa1 (xn 4))) (by simp)) ?_ ?_)) (fun h => xss_nil ?_))
    · unfold nearOk
      have e1 := eqv_C (c.1 - 1 + x, c.2 - 1 + y) c
      have e2 := sg_eq (a := signAt rows (c.1 - 1 + x, c.2 - 1 + y)) (b := 35)
      show (!PyData.eqv (encC (c.1 - 1 + x, c.2 - 1 + y)) (encC c) && !decide (sg (signAt rows (c.1 - 1 + x, c.2 - 1 + y)) = sg 35)) = _
      rw [e1, e2]
    · have hB := List.length_filter_le (fun j : Nat => nearOk rows c (c.1 - 1 + x, c.2 - 1 + j)) pre'
      rw [List.length_append, List.length_map, List.length_map]
      omega
    · rw [filter_map_snoc, if_pos h, ← List.append_assoc]
      exact nx_le (by trivial)
    · rw [filter_map_snoc, if_neg (by rw [h]; exact Bool.false_ne_true)]
      exact nx_le (by trivial)
  · have e : (List.flatMap (fun i : Nat => near1 rows c i) [x]).map encC = ((List.range 3).filter fun j : Nat => nearOk rows c (c.1 - 1 + x, c.2 - 1 + j)).map fun j : Nat => encC (c.1 - 1 + x, c.2 - 1 + j) := by
      rw [List.flatMap_cons, List.flatMap_nil, List.append_nil]
      unfold near1
      rw [List.map_map]
      rfl
    rw [List.flatMap_append, List.map_append, e]
    exact nx_le (by trivial)
def preAround : List Ty → Ty → Prop := fun Rs R => ∃ rows n c, Rs = [dT [encR rows, .int n], dat (encC c)] ∧ R = dL ((nearIn rows c).map encC) ∧ Gd rows ∧ SmC c
theorem scAround : FnScope ["board", "cell"] ["board", "cell"] (defScope sAround) := ⟨rfl, rfl, rfl, by decide +kernel, rfl, by decide +kernel, by decide +kernel⟩
theorem def_around (S : Src K mg "around" sAround ["board", "cell"]) (C : Def P w K mg base 2 "near_in" ["rows", "cell"] (spF W0 preNearIn)) : Def P w K mg base 3 "around" ["board", "cell"] (spF W0 preAround) := by
  refine Def.of S scAround (fun Rs R h => by obtain ⟨rows, n, c, rfl, _⟩ := h; rfl) fun f cdv A outer s H E hr Rs R hp F D hW hrt _ => ?_
  obtain ⟨rows, n, c, rfl, rfl, hg, hc⟩ := hp
  exact xss_one (xs_ret (xcall0 C hr rfl (xacons (xix ix_tup (xn 0) xint (rv_ixT (d := encR rows) rfl) (fun _ _ => rfl)) (xa1 (xn 1))) ⟨rows, c, rfl, rfl, hg, hc⟩) hrt)
/-! ### number_at -/
def numAt (rows : List (List Nat)) (c : Cell) : Int := (signAt rows c : Int) - 48
def preNum : List Ty → Ty → Prop := fun Rs R => ∃ rows n c, Rs = [dT [encR rows, .int n], dat (encC c)] ∧ R = dI (numAt rows c) ∧ Gd rows ∧ signAt rows c ∈ figs
def rIntS : List V → Hp → VK → Prop := fun xs H Q => ∃ a n, xs = [.str a] ∧ PySem.intText? a = some n ∧ a.length ≤ 640 ∧ Q (.int n) H
theorem call_intS {X : Cx} : CallR X (.type "int") rIntS := fun pins s σ H xs us Q I r ⟨a, n, h1, h2, h3, q⟩ => call_int_str pins s σ H xs us Q I r ⟨a, n, h1, h2, h3, q⟩
theorem int_fig : ∀ {c : Nat}, c ∈ figs → PySem.intText? (sg c) = some ((c : Int) - 48) := by
  intro c h
  simp only [List.mem_cons, List.not_mem_nil, or_false] at h
  rcases h with rfl | rfl | rfl | rfl | rfl | rfl | rfl | rfl | rfl <;> decide +kernel
theorem cr_intS {W : Wd} {c : Nat} (h : c ∈ figs) : CRv W rIntS [dS (sg c)] (dI ((c : Int) - 48)) := fun vs G H o m Q q => by
  match vs, m with
  | [v], ⟨m, _⟩ =>
    cases Dq.str_inv m
    exact ⟨_, _, rfl, int_fig h, by show 1 ≤ 640; decide, q _ G H Rn.refl o (Dq.int _)⟩
theorem scNum : FnScope ["board", "cell"] ["board", "cell"] (defScope sNumAt) := ⟨rfl, rfl, rfl, by decide +kernel, rfl, by decide +kernel, by decide +kernel⟩
theorem def_num (S : Src K mg "number_at" sNumAt ["board", "cell"]) (B : Bn mg) (C : Def P w K mg base 1 "sign_at" ["rows", "cell"] (spF W0 preSign)) : Def P w K mg base 2 "number_at" ["board", "cell"] (spF W0 preNum) := by
  refine Def.of S scNum (fun Rs R h => by obtain ⟨rows, n, c, rfl, _⟩ := h; rfl) fun f cdv A outer s H E hr Rs R hp F D hW hrt _ => ?_
  obtain ⟨rows, n, c, rfl, rfl, hg, hc⟩ := hp
  exact xss_one (xs_ret (xcallTy call_intS rfl B.int (by decide +kernel) (xa1 (xcall0 C hr rfl (xacons (xix ix_tup (xn 0) xint (rv_ixT (d := encR rows) rfl) (fun _ _ => rfl)) (xa1 (xn 1))) ⟨rows, c, rfl, rfl, hg⟩)) (cr_intS hc)) hrt)
end
end SL
set_option maxRecDepth 100000
set_option maxHeartbeats 4000000
namespace SL
open PySem L2 Evl
local macro_rules | `(tactic| trivial) => `(tactic| (repeat (first | exact SL.LeG.nil | refine SL.LeG.cons (by first | exact SL.Le.rfl _ | exact SL.Le.any _) ?_)); done)

/-! ### while -/
def tSemT1 (X : Cx) (c : Expr) : TT := fun σ H Q => ∀ (pins : List (Addr × Obj)) (s : Shared), Inv X pins σ H s → wpAny (model X.prog X.w) X.A (isTrue c X.env (eval c X.env)) (TP X pins σ Q) X.xe s
section
variable {F : Fx} {X : Cx} {c : Expr} {body : List Stmt} {Γ : List Sd} {D : Ends} {pos : Pos}
theorem xs_while {α : Type} (Γi : α → List Sd) (μ : α → Nat) (b : α → Bool) (P : α → Prop) (nxt : α → α) (a0 : α) (h0 : P a0) (hΓ : LeG Γ (Γi a0)) (hc : ∀ a, P a → XT F.W X c (Γi a) (b a))
    (hb : ∀ a, P a → b a = true → XSs F X body (Γi a) ⟨fun σ H => Stt F (Γi (nxt a)) σ H ∧ P (nxt a) ∧ μ (nxt a) < μ a, D.rt, D.nx, fun σ H => Stt F (Γi (nxt a)) σ H ∧ P (nxt a) ∧ μ (nxt a) < μ a⟩)
    (k : ∀ a, P a → b a = false → Nx F (Γi a) D) (hp : PassesOwn (model X.prog X.w) X.A X.env X.xe := by exact PassesOwn.never) : XS F X (.While c body [] pos) Γ D := by
  refine ⟨_, ps_while (tc := tSemT1 X c) hp ⟨fun pins s σ H Q I h => h pins s I⟩ pss_sem, fun σ H st => ?_⟩
  refine ⟨fun m σ H => ∃ a, m = μ a ∧ P a ∧ Stt F (Γi a) σ H, ⟨μ a0, a0, rfl, h0, st.le hΓ⟩, ?_⟩
  rintro m σ H ⟨a, rfl, pa, G, z⟩
  intro pins s I
  obtain ⟨t, t1, t2⟩ := hc a pa
  refine t1.run pins s σ H _ I (t2 F.H0 σ G H z.ok z.sl _ fun G1 H1 r1 o1 => ?_)
  cases e : b a with
  | true =>
    refine iteT ⟨fun σ' H' => Stt F (Γi (nxt a)) σ' H' ∧ P (nxt a) ∧ μ (nxt a) < μ a, fun σ' H' q => ⟨μ (nxt a), q.2.2, nxt a, rfl, q.2.1, q.1⟩, (hb a pa e).sem ⟨G1, z.run r1 o1⟩⟩
  | false => exact iteF (k a pa e σ H1 ⟨G1, z.run r1 o1⟩)
/-- a, b = x, y -/
theorem xs_par (i j : Nat) {x y : Str} {px py pt : Pos} {kt k2 : Nat} {pt2 : Pos} {ea eb : Expr} {R S : Ty} (hc : X.calm = true) (hN : X.N.Nodup) (hij : i ≠ j) (ha : XA F.W X [ea, eb] Γ [R, S]) (k : Nx F ((Γ.set i (.ty R)).set j (.ty S)) D)
    (hi : X.N[i]? = some x := by rfl) (hj : X.N[j]? = some y := by rfl) (hx : X.env.scope.names.lookup x = some .local := by rfl) (hy : X.env.scope.names.lookup y = some .local := by rfl)
    (hw : swappedStores [.Tuple [.Name x px, .Name y py] kt pt] (.Tuple [ea, eb] k2 pt2) X.env = pure (some [x, y]) := by rfl)
    (hs : swapsWithSole [.Tuple [.Name x px, .Name y py] kt pt] (.Tuple [ea, eb] k2 pt2) pos.line X.env = pure false := by rfl) :
    XS F X (.Assign [.Tuple [.Name x px, .Name y py] kt pt] (.Tuple [ea, eb] k2 pt2) pos) Γ D := by
  obtain ⟨t, a1, a2⟩ := ha
  refine ⟨_, ps_par hc hN hi hj hij hx hy a1 hw hs, fun σ H ⟨G, z⟩ => a2 _ σ G H z.ok z.sl _ fun vs G1 H1 r1 o1 m1 => ?_⟩
  match vs, m1 with
  | [v, u], ⟨m, m', _⟩ =>
    have w := z.run r1 o1
    exact ⟨v, u, rfl, k _ _ ⟨G1, w.rn, o1, (w.sl.set m).set m', w.g⟩⟩
end
/-! ### fractions -/
def rDivmod : List V → Hp → VK → Prop := fun xs H Q => ∃ i j, xs = [.int i, .int j] ∧ CDiv i j ∧ ∀ p, H p = none → Q (.ref p) (upd H p (.tup [.int (i / j), .int (i % j)]))
theorem call_divmodI {X : Cx} : CallR X (.builtin "divmod") rDivmod := call_divmod
theorem cr_divmod {W : Wd} {i j : Int} (h : CDiv i j) : CRv W rDivmod [dI i, dI j] (dT [.int (i / j), .int (i % j)]) := fun vs G H o m Q q => by
  match vs, m with
  | [v, u], ⟨m, m', _⟩ =>
    cases Dq.int_inv m
    cases Dq.int_inv m'
    exact ⟨i, j, rfl, h, fun p hp => q _ _ _ (Rn.alloc o hp) (o.alloc hp) (.tup upd_same (.cons (.int _) (.cons (.int _) .nil)))⟩
def preCommon : List Ty → Ty → Prop := fun Rs R => ∃ m n : Nat, Rs = [dI m, dI n] ∧ R = dI (Nat.gcd m n : Nat) ∧ m < 1000000 ∧ n < 1000000
section
variable {P : Program} {w : World} {K : PySem.W.Frag} {mg : Str → Option Value} {base : Heap}
theorem scCommon : FnScope ["one", "other"] ["one", "other"] (defScope sCommon) := ⟨rfl, rfl, rfl, by decide +kernel, rfl, by decide +kernel, by decide +kernel⟩
theorem def_common (S : Src K mg "common" sCommon ["one", "other"]) (B : Bn mg) : Def P w K mg base 1 "common" ["one", "other"] (spF W0 preCommon) := by
  refine Def.of S scCommon (fun Rs R h => by obtain ⟨m, n, rfl, _⟩ := h; rfl) fun f cdv A outer s H E hr Rs R hp F D hW hrt _ => ?_
  obtain ⟨m, n, rfl, rfl, hm, hn⟩ := hp
  refine xss_cons (xs_set 0 scCommon.nd (XE.eq (xcallB call_absI rfl B.abs (by decide +kernel) (xa1 (xn 0)) cr_abs) (d' := .int m) (by rw [if_neg (by omega)])) (nx_of rfl)) ?_
  refine xss_cons (D := D) (Γ' := [sd (.int (Nat.gcd m n : Nat)), .any]) (xs_while (α := Nat × Nat) (fun a => [sd (.int a.1), sd (.int a.2)]) (fun a => a.2) (fun a => decide (0 < a.2)) (fun a => Nat.gcd a.1 a.2 = Nat.gcd m n ∧ a.1 < 1000000 ∧ a.2 < 1000000) (fun a => (a.2, a.1 % a.2)) (m, n) ⟨rfl, hm, hn⟩ (by trivial) ?_ ?_ ?_) (xss_one (xs_ret (xn 0) hrt))
  · rintro ⟨a, b⟩ _
    refine XT.eq (xtcmp op_gt (xn 1) xint rv_bl (nomark _)) ?_
    rw [Bool.eq_iff_iff, decide_eq_true_iff, decide_eq_true_iff]
    exact Int.natCast_pos
  · rintro ⟨a, b⟩ ⟨h1, h2, h3⟩ hb
    have hb : 0 < b := of_decide_eq_true hb
    refine xss_one (xs_par 0 1 rfl scCommon.nd (by decide) (xacons (xn 1) (xa1 (xix ix_tup (xcallB call_divmodI rfl B.divmod (by decide +kernel) (xacons (xn 0) (xa1 (xn 1))) (cr_divmod ⟨by omega, by omega⟩)) xint (rv_ixT (d := .int ((a : Int) % (b : Int))) rfl) (fun _ _ => rfl)))) ?_)
    intro σ H st
    refine ⟨st, ⟨?_, h3, ?_⟩, Nat.mod_lt _ hb⟩
    · show Nat.gcd b (a % b) = _
      rw [← h1, Nat.gcd_comm b, ← Nat.gcd_rec, Nat.gcd_comm]
    · exact Nat.lt_trans (Nat.mod_lt _ hb) h3
  · rintro ⟨a, b⟩ ⟨h1, h2, h3⟩ hb
    have hb : ¬ 0 < b := of_decide_eq_false hb
    have e : b = 0 := by omega
    subst e
    have e1 : a = Nat.gcd m n := by
      rw [← h1]
      exact (Nat.gcd_zero_right a).symm
    rw [e1]
    exact nx_le (by trivial)
def frac (m n : Nat) : Cell := ((m / Nat.gcd m n : Nat), (n / Nat.gcd m n : Nat))
def preFrac : List Ty → Ty → Prop := fun Rs R => ∃ m n : Nat, Rs = [dI m, dI n] ∧ R = dat (encC (frac m n)) ∧ m < 1000000 ∧ n < 1000000 ∧ 0 < n
theorem scFraction : FnScope ["top", "bottom", "by"] ["top", "bottom"] (defScope sFraction) := ⟨rfl, rfl, rfl, by decide +kernel, rfl, by decide +kernel, by decide +kernel⟩
theorem def_fraction (S : Src K mg "fraction" sFraction ["top", "bottom"]) (C : Def P w K mg base 1 "common" ["one", "other"] (spF W0 preCommon)) : Def P w K mg base 2 "fraction" ["top", "bottom"] (spF W0 preFrac) := by
  refine Def.of S scFraction (fun Rs R h => by obtain ⟨m, n, rfl, _⟩ := h; rfl) fun f cdv A outer s H E hr Rs R hp F D hW hrt _ => ?_
  obtain ⟨m, n, rfl, rfl, hm, hn, h0⟩ := hp
  have hg : 0 < Nat.gcd m n := Nat.gcd_pos_of_pos_right m h0
  have hg2 : Nat.gcd m n ≤ n := Nat.gcd_le_right m h0
  refine xss_cons (xs_set 2 scFraction.nd (xcall0 C hr rfl (xacons (xn 0) (xa1 (xn 1))) ⟨m, n, rfl, rfl, hm, hn⟩) (nx_of rfl)) ?_
  exact xss_one (xs_ret (xtup (ds := [.int ((m / Nat.gcd m n : Nat)), .int ((n / Nat.gcd m n : Nat))]) (xacons (XE.eq (xop op_fdiv (xn 0) (xn 2) (rv_intC ⟨by omega, by omega⟩)) (by simp)) (xa1 (XE.eq (xop op_fdiv (xn 1) (xn 2) (rv_intC ⟨by omega, by omega⟩)) (by simp)))) (by simp)) hrt)
end
/-! ### sorted of layings -/
def encL (l : List Cell) : PyData := .list (l.map encC)
def sortL (L : List (List Cell)) : List (List Cell) := L.mergeSort (PySem.W.dataLe false encL)
theorem sortL_perm (L : List (List Cell)) : (sortL L).Perm L := List.mergeSort_perm _ _
theorem alike_C (c d : Cell) : PySem.W.alike (encC c) (encC d) = true := by simp [encC, PySem.W.alike, PySem.W.alikeAll]
theorem alike_Cs : ∀ cs ds : List Cell, PySem.W.alikeAll (cs.map encC) (ds.map encC) = true
  | [], _ => by simp [PySem.W.alikeAll]
  | _ :: _, [] => by simp [PySem.W.alikeAll]
  | c :: cs, d :: ds => by
    simp only [List.map_cons]
    rw [PySem.W.alikeAll, alike_C, alike_Cs cs ds]
    rfl
theorem alike_L (a b : List Cell) : PySem.W.alike (encL a) (encL b) = true := by
  show PySem.W.alike (.list (a.map encC)) (.list (b.map encC)) = true
  rw [PySem.W.alike]
  exact alike_Cs a b
abbrev leP : V × List Cell → V × List Cell → Bool := PySem.W.dataLe false fun b : V × List Cell => encL b.2
def rSortL : List V → Hp → VK → Prop := fun vs H Q => ∃ (a : Addr) (bs : List (V × List Cell)), vs = [.ref a] ∧ H a = some (.lst (bs.map (·.1))) ∧ (∀ b ∈ bs, Dq H b.1 (encL b.2)) ∧ bs.length ≤ 100000 ∧
  ∀ p, H p = none → Q (.ref p) (upd H p (.lst ((bs.mergeSort leP).map (·.1))))
theorem pairs_of {G : Hp} : ∀ {xs : List V} {L : List (List Cell)}, DqAll G xs (L.map encL) → ∃ bs : List (V × List Cell), bs.map (·.1) = xs ∧ bs.map (·.2) = L ∧ ∀ b ∈ bs, Dq G b.1 (encL b.2)
  | _, [], .nil => ⟨[], rfl, rfl, fun _ h => absurd h (by simp)⟩
  | _, l :: L, .cons (v := v) a t => by
    obtain ⟨bs, h1, h2, h3⟩ := pairs_of t
    refine ⟨(v, l) :: bs, by rw [List.map_cons, h1], by rw [List.map_cons, h2], fun b hb => ?_⟩
    rcases List.mem_cons.mp hb with e | e
    · subst e; exact a
    · exact h3 b e
theorem each_of {X : Cx} {pins : List (Addr × Obj)} {σ : L2.St} {H : Hp} {s : Shared} (I : Inv X pins σ H s) : ∀ {bs : List (V × List Cell)} {us : List Value}, (∀ b ∈ bs, Dq H b.1 (encL b.2)) → Vals (bs.map (·.1)) us →
    PySem.W.EachIs (fun v (b : V × List Cell) => RelV b.1 v) us bs ∧ PySem.W.EachIs (fun v (b : V × List Cell) => ∃ as, Reads s.heap v (encL b.2) as) us bs
  | [], _, _, .nil => ⟨.nil, .nil⟩
  | b :: bs, _, h, .cons r rr => by
    obtain ⟨h4, h5⟩ := each_of I (fun x hx => h x (by simp [hx])) rr
    exact ⟨.cons r h4, .cons (Dp.reads I (encL b.2) b.1 _ (Dq.dp (h b (by simp))) r) h5⟩
theorem vals_of_each : ∀ {us : List Value} {bs : List (V × List Cell)}, PySem.W.EachIs (fun v (b : V × List Cell) => RelV b.1 v) us bs → Vals (bs.map (·.1)) us
  | _, _, .nil => .nil
  | _, _, .cons a t => .cons a (vals_of_each t)
theorem dq_of_all {H : Hp} : ∀ {bs : List (V × List Cell)}, (∀ b ∈ bs, Dq H b.1 (encL b.2)) → DqAll H (bs.map (·.1)) ((bs.map (·.2)).map encL)
  | [], _ => .nil
  | b :: bs, h => .cons (h b (by simp)) (dq_of_all fun x hx => h x (by simp [hx]))
theorem encL_depth (l : List Cell) : (encL l).depth ≤ 2 := by
  have h := encCs_depth l
  show PyData.depth (.list (l.map encC)) ≤ 2
  simp only [PyData.depth]
  omega
theorem call_sortedL {X : Cx} (hu : X.A.units + 64 < cLine) : CallR X (.builtin "sorted") rSortL := by
  intro pins s σ H vs us Q I r h
  obtain ⟨a, bs, rfl, ha, hd, hl, q⟩ := h
  cases Vals.ref1 r
  obtain ⟨its, rv, pl, _⟩ := I.list (SqL.of ha)
  obtain ⟨b4, b5⟩ := each_of I hd rv
  refine PySem.W.sorted_data (enc := fun b : V × List Cell => encL b.2) (R := fun v (b : V × List Cell) => RelV b.1 v) (vs := its) (bs := bs) pl.isList b4 b5 (PySem.W.AllAlike.of fun b b' => alike_L _ _)
    (PySem.W.Sortable.others fun b => ⟨fun z => (by cases z), fun ys z => (by cases z)⟩) (sz_of hl) (fun b _ => by have := encL_depth b.2; omega) fun out ho eo => ?_
  obtain ⟨c, hc⟩ := PyProof.Rows.sortedAll_at s.heap its out.toArray
  have hv := vals_of_each eo
  have hf : H (s.heap.objs.size + 1) = none := I.hok.fresh (Nat.le_succ _)
  refine ⟨.ref (s.heap.objs.size + 1), _, I.laid (t' := s.toks) (fun b o q => PyProof.Rows.sortedAll_old q) (Nat.le_succ _) (o := .lst ((bs.mergeSort leP).map (·.1))) ?_, rfl, q _ hf⟩
  refine ⟨?_, out, c, hv, hc⟩
  rw [hv.length, ho]
  exact sz_of hl
theorem cr_sortedL {W : Wd} {L : List (List Cell)} (hl : L.length ≤ 100000) : CRv W rSortL [dL (L.map encL)] (dL ((sortL L).map encL)) := fun vs G H o m Q q => by
  match vs, m with
  | [v], ⟨m, _⟩ =>
    obtain ⟨a, xs, rfl, ha, hd⟩ := Dq.lst_inv m
    obtain ⟨bs, b1, b2, b3⟩ := pairs_of hd
    subst b1
    have hbl : bs.length = L.length := by rw [← b2, List.length_map]
    refine ⟨a, bs, rfl, o.ex _ _ ha, fun b hb => (b3 b hb).mono o.ex, by omega, fun p hp => ?_⟩
    have em : (bs.mergeSort leP).map (·.2) = sortL L := by
      unfold sortL
      rw [← b2]
      exact List.map_mergeSort fun _ _ _ _ => rfl
    have hq := dq_of_all (H := G) (bs := bs.mergeSort leP) fun b hb => b3 b ((List.mergeSort_perm _ _).mem_iff.mp hb)
    rw [em] at hq
    exact q _ _ _ (Rn.alloc o hp) (o.alloc hp) (.lst upd_same (hq.mono (Ex.new (none_of_ex o.ex hp))))
end SL
set_option maxRecDepth 100000
set_option maxHeartbeats 4000000
namespace SL
open PySem L2 Evl
local macro_rules | `(tactic| trivial) => `(tactic| (repeat (first | exact SL.LeG.nil | refine SL.LeG.cons (by first | exact SL.Le.rfl _ | exact SL.Le.any _) ?_)); done)
abbrev sMet : Stmt := top 18
abbrev sChoices : Stmt := top 19
abbrev sWants : Stmt := top 20
abbrev sLayings : Stmt := top 21
section
variable {W : Wd} {F : Fx} {X : Cx} {iter elt : Expr} {ifs : List Expr} {scope : Scope} {Γ : List Sd} {D : Ends} {pos spos : Pos}
theorem pgB {i j : Nat} {x y : Str} {px py pt : Pos} {kk : Nat} (hc : X.calm = true) (hN : X.N.Nodup) (hi : X.N[i]? = some x) (hj : X.N[j]? = some y)
    (hx : ∀ s H C cl fp, Loc (Bk X scope s H C cl fp).env.scope x) (hy : ∀ s H C cl fp, Loc (Bk X scope s H C cl fp).env.scope y)
    (hf : ∀ s H C cl fp, (Bk X scope s H C cl fp).fn x = true ∨ (Bk X scope s H C cl fp).env.scope.names.lookup x = some .local) (hf' : ∀ s H C cl fp, (Bk X scope s H C cl fp).fn y = true ∨ (Bk X scope s H C cl fp).env.scope.names.lookup y = some .local)
    (h1 : ∀ s H C cl fp, (assignEach [.Name x px, .Name y py] (Bk X scope s H C cl fp).env).map (·.2) = assign (.Name x px) (Bk X scope s H C cl fp).env :: (assignEach [.Name y py] (Bk X scope s H C cl fp).env).map (·.2))
    (h2 : ∀ s H C cl fp, (assignEach [.Name y py] (Bk X scope s H C cl fp).env).map (·.2) = assign (.Name y py) (Bk X scope s H C cl fp).env :: (assignEach [] (Bk X scope s H C cl fp).env).map (·.2))
    (hn : ∀ s H C cl fp, (assignEach [.Name x px, .Name y py] (Bk X scope s H C cl fp).env).length = 2) (hst : ∀ s H C cl fp, (assignEach [.Name x px, .Name y py] (Bk X scope s H C cl fp).env).findIdx? (·.1) = none) :
    ∀ (s : Shared) (H : Hp) (C : Addr) (cl : List (Str × Addr)) (fp : List Addr), PG (Bk X scope s H C cl fp) (.Tuple [.Name x px, .Name y py] kk pt) (gTup X.K 2 (gCons (gName i) (gCons (gName j) gNil))) :=
  fun s H C cl fp => pg2 (X := Bk X scope s H C cl fp) hc hN hi hj (hx s H C cl fp) (hy s H C cl fp) (hf s H C cl fp) (hf' s H C cl fp) (h1 s H C cl fp) (h2 s H C cl fp) (hn s H C cl fp) (hst s H C cl fp)
theorem xlcP (i j : Nat) (own : List (Str × Nat)) {r : List PyData} {α : Type} {xs : List α} {d1 d2 : α → PyData} {x y : Str} {px py pt : Pos} {kk : Nat} (hN : X.N.Nodup) (hi : XI W X (.Tuple [.Name x px, .Name y py] kk pt) iter Γ xs (fun z => dT [d1 z, d2 z])) (ok : BlkOk X.N X.env.scope scope own) (f : α → Bool) (d : α → PyData)
    (hif : ∀ z, z ∈ xs → Ifs W X scope ifs (((wipeG Γ (own.map (·.2))).set i (sd (d1 z))).set j (sd (d2 z))) (f z)) (he : ∀ z, z ∈ xs → f z = true → ∀ s H C cl fp, XE W (Bk X scope s H C cl fp) elt (((wipeG Γ (own.map (·.2))).set i (sd (d1 z))).set j (sd (d2 z))) (dat (d z))) (hz : xs.length ≤ 50000) (hr : (xs.filter f).map d = r := by rfl)
    (hl : ifs.length ≤ 1 := by decide) (hc : X.calm = true := by rfl) (hj : ∀ k ∈ [i, j], k ∈ own.map (·.2) := by decide)
    (hg : ∀ (s : Shared) (H : Hp) (C : Addr) (cl : List (Str × Addr)) (fp : List Addr), PG (Bk X scope s H C cl fp) (.Tuple [.Name x px, .Name y py] kk pt) (gTup X.K 2 (gCons (gName i) (gCons (gName j) gNil))) :=
      by exact pgB rfl (by assumption) rfl rfl (fun _ _ _ _ _ => Or.inl rfl) (fun _ _ _ _ _ => Or.inl rfl) (fun _ _ _ _ _ => .inr rfl) (fun _ _ _ _ _ => .inr rfl) (fun _ _ _ _ _ => rfl) (fun _ _ _ _ _ => rfl) (fun _ _ _ _ _ => rfl) (fun _ _ _ _ _ => rfl))
    (hs : ∀ x, foldedSetIterable iter X.env x = pure x := by intro _; rfl) : XE W X (.ListComp elt [⟨.Tuple [.Name x px, .Name y py] kk pt, iter, ifs, 0⟩] scope pos) Γ (dL r) := by
  subst hr
  exact xlc hc hN hi ok hg hj _ (fun z _ => tg_pair) f d hl hif he hz hs
end
section
variable {F : Fx} {X : Cx} {iter elt : Expr} {ifs : List Expr} {scope : Scope} {Γ : List Sd} {D : Ends} {pos spos py' : Pos}
theorem xs_lcN (i j : Nat) (own : List (Str × Nat)) {r : List PyData} {α : Type} {xs : List α} {Y : α → Ty} {x y : Str} {px : Pos} (hN : X.N.Nodup) (hi : XI F.W X (.Name x px) iter Γ xs Y) (ok : BlkOk X.N X.env.scope scope own) (f : α → Bool) (d : α → PyData)
    (hif : ∀ z, z ∈ xs → Ifs F.W X scope ifs ((wipeG Γ (own.map (·.2))).set j (.ty (Y z))) (f z)) (he : ∀ z, z ∈ xs → f z = true → ∀ s H C cl fp, XE F.W (Bk X scope s H C cl fp) elt ((wipeG Γ (own.map (·.2))).set j (.ty (Y z))) (dat (d z))) (hz : xs.length ≤ 50000)
    (k : Nx F (Γ.set i (sd (.list r))) D) (hr : (xs.filter f).map d = r := by rfl)
    (hl : ifs.length ≤ 1 := by decide) (hc : X.calm = true := by rfl) (hj : ∀ k ∈ [j], k ∈ own.map (·.2) := by decide)
    (hg : ∀ (s : Shared) (H : Hp) (C : Addr) (cl : List (Str × Addr)) (fp : List Addr), PG (Bk X scope s H C cl fp) (.Name x px) (gName j) := by exact fun _ _ _ _ _ => pg_name (by assumption) rfl (by first | exact Or.inl rfl | exact Or.inr rfl))
    (hy : X.N[i]? = some y := by rfl) (hyl : X.env.scope.names.lookup y = some .local := by rfl)
    (hsw : swapsWith (.ListComp elt [⟨.Name x px, iter, ifs, 0⟩] scope pos) (some (.Name y py')) spos.line X.env = pure true := by exact sw_true rfl rfl rfl (by decide +kernel))
    (hs : ∀ x, foldedSetIterable iter X.env x = pure x := by intro _; rfl) : XS F X (.Assign [.Name y py'] (.ListComp elt [⟨.Name x px, iter, ifs, 0⟩] scope pos) spos) Γ D := by
  subst hr
  exact xs_lc i hc hN hi ok hg hj _ (fun z _ => tg_name) f d hl hif he hz k hy hyl hsw hs
theorem xs_lcP (l i j : Nat) (own : List (Str × Nat)) {r : List PyData} {α : Type} {xs : List α} {d1 d2 : α → PyData} {x y z : Str} {px py pt : Pos} {kk : Nat} (hN : X.N.Nodup) (hi : XI F.W X (.Tuple [.Name x px, .Name y py] kk pt) iter Γ xs (fun z => dT [d1 z, d2 z])) (ok : BlkOk X.N X.env.scope scope own) (f : α → Bool) (d : α → PyData)
    (hif : ∀ z, z ∈ xs → Ifs F.W X scope ifs (((wipeG Γ (own.map (·.2))).set i (sd (d1 z))).set j (sd (d2 z))) (f z)) (he : ∀ z, z ∈ xs → f z = true → ∀ s H C cl fp, XE F.W (Bk X scope s H C cl fp) elt (((wipeG Γ (own.map (·.2))).set i (sd (d1 z))).set j (sd (d2 z))) (dat (d z))) (hz : xs.length ≤ 50000)
    (k : Nx F (Γ.set l (sd (.list r))) D) (hr : (xs.filter f).map d = r := by rfl)
    (hl : ifs.length ≤ 1 := by decide) (hc : X.calm = true := by rfl) (hj : ∀ k ∈ [i, j], k ∈ own.map (·.2) := by decide)
    (hg : ∀ (s : Shared) (H : Hp) (C : Addr) (cl : List (Str × Addr)) (fp : List Addr), PG (Bk X scope s H C cl fp) (.Tuple [.Name x px, .Name y py] kk pt) (gTup X.K 2 (gCons (gName i) (gCons (gName j) gNil))) :=
      by exact pgB rfl (by assumption) rfl rfl (fun _ _ _ _ _ => Or.inl rfl) (fun _ _ _ _ _ => Or.inl rfl) (fun _ _ _ _ _ => .inr rfl) (fun _ _ _ _ _ => .inr rfl) (fun _ _ _ _ _ => rfl) (fun _ _ _ _ _ => rfl) (fun _ _ _ _ _ => rfl) (fun _ _ _ _ _ => rfl))
    (hy : X.N[l]? = some z := by rfl) (hyl : X.env.scope.names.lookup z = some .local := by rfl)
    (hsw : swapsWith (.ListComp elt [⟨.Tuple [.Name x px, .Name y py] kk pt, iter, ifs, 0⟩] scope pos) (some (.Name z py')) spos.line X.env = pure true := by exact sw_true rfl rfl rfl (by decide +kernel))
    (hs : ∀ x, foldedSetIterable iter X.env x = pure x := by intro _; rfl) : XS F X (.Assign [.Name z py'] (.ListComp elt [⟨.Tuple [.Name x px, .Name y py] kk pt, iter, ifs, 0⟩] scope pos) spos) Γ D := by
  subst hr
  exact xs_lc l hc hN hi ok hg hj _ (fun z _ => tg_pair) f d hl hif he hz k hy hyl hsw hs
end
/-! ### can_be_met -/
def met (ls ss : List Int) : Bool := ((ls.zip ss).map fun z => decide (0 ≤ z.1) && decide (z.1 ≤ z.2)).all id
def preMet : List Ty → Ty → Prop := fun Rs R => ∃ ls ss : List Int, Rs = [dL (ls.map .int), dL (ss.map .int)] ∧ R = dB (met ls ss) ∧ ls.length ≤ 1000
section
variable {P : Program} {w : World} {K : PySem.W.Frag} {mg : Str → Option Value} {base : Heap}
theorem filter_true {α : Type} (l : List α) : l.filter (fun _ => true) = l := by
  induction l with
  | nil => rfl
  | cons a r ih => rw [List.filter_cons, if_pos rfl, ih]
theorem scMet : FnScope ["lefts", "spare", "left", "more"] ["lefts", "spare"] (defScope sMet) := ⟨rfl, rfl, rfl, by decide +kernel, rfl, by decide +kernel, by decide +kernel⟩
theorem def_met (S : Src K mg "can_be_met" sMet ["lefts", "spare"]) (B : Bn mg) : Def P w K mg base 1 "can_be_met" ["lefts", "spare"] (spF W0 preMet) := by
  refine Def.of S scMet (fun Rs R h => by obtain ⟨m, n, rfl, _⟩ := h; rfl) fun f cdv A outer s H E hr Rs R hp F D hW hrt _ => ?_
  obtain ⟨ls, ss, rfl, rfl, hl⟩ := hp
  have nd := scMet.nd
  refine xss_one (xs_ret (xcallB (L2.cr_all rfl) rfl B.all (by decide +kernel) (xa1 (xlcP 2 3 [("left", 2), ("more", 3)] (r := ((ls.zip ss).map fun z : Int × Int => decide (0 ≤ z.1) && decide (z.1 ≤ z.2)).map .bool) nd (xi_zip rfl B.zip (xn 0) (xn 1) (fun h1 h2 => pi_zip rfl B.zip (pa_cons h1 (pa_cons h2 pa_nil))))
    (blkOk_by (N := ["lefts", "spare", "left", "more"]) (sc := defScope sMet) (by decide +kernel)) (fun _ => true) (fun z : Int × Int => .bool (decide (0 ≤ z.1) && decide (z.1 ≤ z.2)))
    (fun z _ => .none) (fun z _ _ s H C cl fp => xchain op_le op_le xint (xn 2) (fun _ => xn 3)) (by rw [List.length_zip]; omega) ?_)) (crv_all (bs := (ls.zip ss).map fun z : Int × Int => decide (0 ≤ z.1) && decide (z.1 ≤ z.2)))) hrt)
  rw [filter_true, List.map_map]
  rfl
end
end SL
set_option maxRecDepth 100000
set_option maxHeartbeats 4000000
namespace SL
open PySem L2 Evl
local macro_rules | `(tactic| trivial) => `(tactic| (repeat (first | exact SL.LeG.nil | refine SL.LeG.cons (by first | exact SL.Le.rfl _ | exact SL.Le.any _) ?_)); done)
theorem _root_.L2.Room.u65 {k : Nat} {A : Around} (r : Room k A) : A.units + 65 < cLine := by
  have := r.un
  omega
theorem snoc_ind {α : Type} {P : List α → Prop} (h0 : P []) (hs : ∀ l a, P l → P (l ++ [a])) : ∀ l, P l := by
  have h : ∀ n (l : List α), l.length = n → P l := by
    intro n
    induction n with
    | zero =>
      intro l e
      have : l = [] := List.length_eq_zero_iff.mp e
      subst this
      exact h0
    | succ n ih =>
      intro l e
      have ne : l ≠ [] := by
        rintro rfl
        simp at e
      have q := List.dropLast_concat_getLast ne
      rw [← q]
      exact hs _ _ (ih _ (by rw [List.length_dropLast]; omega))
  exact fun l => h _ l rfl
abbrev Want := List Cell × Int
def encW (w : Want) : PyData := .tuple [.list (w.1.map encC), .int w.2]
abbrev Row := List Cell × List Int
def encRw (r : Row) : PyData := .tuple [.list (r.1.map encC), .list (r.2.map .int)]
def hitsOf (wants : List Want) (c : Cell) : List Int := wants.map fun w => if decide (c ∈ w.1) = true then 1 else 0
def subL (a b : List Int) : List Int := (a.zip b).map fun z => z.1 - z.2
def longerC (rows : List Row) (h : List Int) (c : Cell) : List Row := rows.flatMap fun r => [r, (r.1 ++ [c], subL r.2 h)]
def stepC (wants : List Want) (st : List Row × List Int) (c : Cell) : List Row × List Int :=
  ((longerC st.1 (hitsOf wants c) c).filter (fun r => met r.2 (subL st.2 (hitsOf wants c))), subL st.2 (hitsOf wants c))
def initC (wants : List Want) : List Row × List Int :=
  ([(([] : List Cell), wants.map (·.2))].filter (fun r => met r.2 (wants.map fun w => (w.1.length : Int))), wants.map fun w => (w.1.length : Int))
def runC (wants : List Want) (pre : List Cell) : List Row × List Int := pre.foldl (stepC wants) (initC wants)
def choicesU (cells : List Cell) (wants : List Want) : List (List Cell) := (runC wants cells).1.map (·.1)
theorem runC_snoc (wants : List Want) (pre : List Cell) (c : Cell) : runC wants (pre ++ [c]) = stepC wants (runC wants pre) c := by
  unfold runC
  rw [List.foldl_append]
  rfl
theorem subL_len (a b : List Int) : (subL a b).length ≤ a.length := by
  unfold subL
  rw [List.length_map, List.length_zip]
  omega
structure RI (wants : List Want) (n : Nat) (st : List Row × List Int) : Prop where
  len : st.1.length ≤ 2 ^ n
  el : ∀ r ∈ st.1, r.1.length ≤ n ∧ r.2.length ≤ wants.length
  sp : st.2.length ≤ wants.length
theorem longer_len (rows : List Row) (h : List Int) (c : Cell) : (longerC rows h c).length = 2 * rows.length := by
  unfold longerC
  induction rows with
  | nil => rfl
  | cons r rs ih =>
    rw [List.flatMap_cons, List.length_append, ih, List.length_cons]
    simp
    omega
theorem longer_mem {rows : List Row} {h : List Int} {c : Cell} {r : Row} (m : r ∈ longerC rows h c) : ∃ q ∈ rows, r = q ∨ r = (q.1 ++ [c], subL q.2 h) := by
  obtain ⟨q, hq, e⟩ := List.mem_flatMap.mp m
  refine ⟨q, hq, ?_⟩
  simpa using e
theorem ri_run (wants : List Want) : ∀ pre : List Cell, RI wants pre.length (runC wants pre) := by
  refine snoc_ind ?_ fun pre c ih => ?_
  · refine ⟨?_, fun r hr => ?_, by show (wants.map _).length ≤ _; rw [List.length_map]; exact Nat.le_refl _⟩
    · have h := List.length_filter_le (fun r : Row => met r.2 (wants.map fun w => (w.1.length : Int))) [(([] : List Cell), wants.map (·.2))]
      exact h
    · have h := (List.mem_filter.mp hr).1
      have e : r = (([] : List Cell), wants.map (·.2)) := by simpa using h
      subst e
      exact ⟨Nat.le_refl _, by rw [List.length_map]; exact Nat.le_refl _⟩
  · rw [runC_snoc, List.length_append, List.length_singleton]
    refine ⟨?_, fun r hr => ?_, ?_⟩
    · have h := List.length_filter_le (fun r : Row => met r.2 (subL (runC wants pre).2 (hitsOf wants c))) (longerC (runC wants pre).1 (hitsOf wants c) c)
      have h2 := longer_len (runC wants pre).1 (hitsOf wants c) c
      have h3 := ih.len
      have h4 : 2 ^ (pre.length + 1) = 2 ^ pre.length * 2 := Nat.pow_succ _ _
      show (List.filter _ _).length ≤ _
      omega
    · have h := (List.mem_filter.mp hr).1
      obtain ⟨q, hq, e⟩ := longer_mem h
      obtain ⟨h1, h2⟩ := ih.el q hq
      rcases e with e | e
      · subst e
        omega
      · subst e
        refine ⟨by show (q.1 ++ [c]).length ≤ _; rw [List.length_append, List.length_singleton]; omega, ?_⟩
        have := subL_len q.2 (hitsOf wants c)
        show (subL q.2 (hitsOf wants c)).length ≤ _
        omega
    · have := subL_len (runC wants pre).2 (hitsOf wants c)
      have := ih.sp
      show (subL (runC wants pre).2 (hitsOf wants c)).length ≤ _
      omega
def preChoices : List Ty → Ty → Prop := fun Rs R => ∃ cells wants, Rs = [dL (cells.map encC), dL (wants.map encW)] ∧ R = dL ((sortL (choicesU cells wants)).map encL) ∧ cells.length ≤ 8 ∧ wants.length ≤ 900 ∧ ∀ w ∈ wants, w.1.length ≤ 1000
abbrev nCh : List Str := ["cells", "wants", "rows", "spare", "cell", "hits", "longer", "chosen", "lefts", "some", "number", "row", "more", "hit", "left"]
section
variable {P : Program} {w : World} {K : PySem.W.Frag} {mg : Str → Option Value} {base : Heap}
theorem scCh : FnScope nCh ["cells", "wants"] (defScope sChoices) := ⟨rfl, rfl, rfl, by decide +kernel, rfl, by decide +kernel, by decide +kernel⟩
theorem def_choices (S : Src K mg "choices_met" sChoices ["cells", "wants"]) (B : Bn mg) (C : Def P w K mg base 1 "can_be_met" ["lefts", "spare"] (spF W0 preMet)) : Def P w K mg base 2 "choices_met" ["cells", "wants"] (spF W0 preChoices) := by
  refine Def.of S scCh (fun Rs R h => by obtain ⟨m, n, rfl, _⟩ := h; rfl) fun f cdv A outer s H E hr Rs R hp F D hW hrt _ => ?_
  obtain ⟨cells, wants, rfl, rfl, hcl, hwl, hww⟩ := hp
  have nd := scCh.nd
  -- rows = [([], [number for some, number in wants])]
  refine xss_cons (xs_set 2 nd (xlst (ds := [encRw ([], wants.map (·.2))]) (xa1 (xtup (ds := [.list [], .list ((wants.map (·.2)).map .int)]) (xacons (xlst (ds := []) xanil (by simp)) (xa1 (xlcP 9 10 [("some", 9), ("number", 10)] nd (xi_list (enc := encW) (xn 1)) (blkOk_by (N := nCh) (sc := defScope sChoices) (by decide +kernel)) (fun _ => true) (fun w : Want => .int w.2) (fun z _ => .none) (fun z _ _ s H C cl fp => xn 10) (by omega) (by rw [filter_true, List.map_map]; rfl)))) (by simp))) (by simp)) (nx_of rfl)) ?_
  -- spare = [len(some) for some, number in wants]
  refine xss_cons (xs_set 3 nd (xlcP 9 10 [("some", 9), ("number", 10)] nd (xi_list (enc := encW) (xn 1)) (blkOk_by (N := nCh) (sc := defScope sChoices) (by decide +kernel)) (fun _ => true) (fun w : Want => .int (w.1.length : Int)) (fun z _ => .none) (fun z _ _ s H C cl fp => XE.eq (xcallB call_lenS rfl B.len PySem.boot_len (xa1 (xn 9)) cr_len) (by rw [List.length_map])) (by omega) (r := (wants.map fun w => (w.1.length : Int)).map .int) (by rw [filter_true, List.map_map]; rfl)) (nx_of rfl)) ?_
  -- rows = [row for row in rows if can_be_met(row[1], spare)]
  refine xss_cons (xs_lcN 2 11 [("row", 11)] nd (xi_list (xs := [(([] : List Cell), wants.map (·.2))]) (enc := encRw) (xn 2)) (blkOk_by (N := nCh) (sc := defScope sChoices) (by decide +kernel)) (fun r : Row => met r.2 (wants.map fun w => (w.1.length : Int))) encRw
    (fun z hz => .one fun s H C' cl fp => xtval (xcall0 C hr rfl (xacons (xix ix_tup (xn 11) xint (rv_ixT (d := .list (z.2.map .int)) rfl) (fun _ _ => rfl)) (xa1 (xn 3))) ⟨z.2, _, rfl, rfl, ?_⟩)) (fun z hz _ s H C' cl fp => xn 11) (by simp) (nx_of rfl)) ?_
  · have : z = (([] : List Cell), wants.map (·.2)) := by simpa using hz
    subst this
    rw [List.length_map]
    omega
  -- for cell in cells
  refine xss_cons (D := D) (Γ' := [sd (.list (cells.map encC)), sd (.list (wants.map encW)), sd (.list ((runC wants cells).1.map encRw)), .any, .any, .any, .any, .any, .any, .any, .any, .any, .any, .any, .any]) (xs_forN 4 nd (xi_list (enc := encC) (xn 0))
    (fun pre => [sd (.list (cells.map encC)), sd (.list (wants.map encW)), sd (.list ((runC wants pre).1.map encRw)), sd (.list ((runC wants pre).2.map .int)), .any, .any, .any, .any, .any, .any, .any, .any, .any, .any, .any]) (fun pre x post he Sg hS => ?_) (nx_le (by trivial))) ?_
  · have hpl : pre.length ≤ 8 := by
      have := congrArg List.length he
      simp at this
      omega
    have ri := ri_run wants pre
    have h28 : (runC wants pre).1.length ≤ 256 := Nat.le_trans ri.len (Nat.pow_le_pow_right (by decide) hpl)
    have hsp := ri.sp
    have hhits : (hitsOf wants x).length = wants.length := List.length_map _
    -- hits
    refine xss_cons (xs_lcP 5 9 10 [("some", 9), ("number", 10)] (r := (hitsOf wants x).map .int) nd (xi_list (enc := encW) (xn 1)) (blkOk_by (N := nCh) (sc := defScope sChoices) (by decide +kernel)) (fun _ => true) (fun w : Want => .int (if decide (x ∈ w.1) = true then 1 else 0)) (fun z _ => .none)
      (fun z _ _ s H C' cl fp => XE.eq (xcallTy call_intB rfl B.int (by decide +kernel) (xa1 (xcmp (op_inD hr.u65) (xn 4) (xn 9) (rv_inD (shaped_C x) (shaped_Cs z.1)) rfl)) cr_intB) (by rw [any_C])) (by omega) (nx_of rfl) (by rw [filter_true]; unfold hitsOf; rw [List.map_map]; rfl)) ?_
    -- spare
    refine xss_cons (xs_set 3 nd (xlcP 12 13 [("more", 12), ("hit", 13)] (r := (subL (runC wants pre).2 (hitsOf wants x)).map .int) nd (xi_zip (f := .int) (g := .int) rfl B.zip (xn 3) (xn 5) (fun h1 h2 => pi_zip rfl B.zip (pa_cons h1 (pa_cons h2 pa_nil)))) (blkOk_by (N := nCh) (sc := defScope sChoices) (by decide +kernel)) (fun _ => true) (fun z : Int × Int => .int (z.1 - z.2)) (fun z _ => .none)
      (fun z _ _ s H C' cl fp => xop op_sub (xn 12) (xn 13) rv_int) (by rw [List.length_zip]; omega) (by rw [filter_true]; unfold subL; rw [List.map_map]; rfl)) (nx_of rfl)) ?_
    -- longer = []; for chosen, lefts in rows
    refine xss_cons (xs_nil 6 nd (nx_of rfl)) ?_
    refine xss_cons (xs_forP 7 8 nd (xi_list (enc := encRw) (xn 2))
      (fun pr => [sd (.list (cells.map encC)), sd (.list (wants.map encW)), sd (.list ((runC wants pre).1.map encRw)), sd (.list ((subL (runC wants pre).2 (hitsOf wants x)).map .int)), sd (encC x), sd (.list ((hitsOf wants x).map .int)), .mut ((longerC pr (hitsOf wants x) x).map encRw), .any, .any, .any, .any, .any, .any, .any, .any]) (fun pr r pt he' Sg' hS' => ?_) (nx_of rfl)) ?_
    · have hpr : pr.length ≤ 256 := by
        have := congrArg List.length he'
        simp at this
        omega
      have hrm : r ∈ (runC wants pre).1 := by rw [he']; simp
      obtain ⟨hr1, hr2⟩ := ri.el r hrm
      have hlong := longer_len pr (hitsOf wants x) x
      refine xss_cons (xs_app 6 rfl (xtup (ds := [.list (r.1.map encC), .list (r.2.map .int)]) (xacons (xn 7) (xa1 (xn 8))) (by simp)) (by rw [List.length_map]; omega) (nx_of rfl)) ?_
      refine xss_one (xs_app 6 rfl (xtup (ds := [.list ((r.1 ++ [x]).map encC), .list ((subL r.2 (hitsOf wants x)).map .int)]) (xacons (XE.eq (xop op_cat (xn 7) (xlst (ds := [encC x]) (xa1 (xn 4)) (by simp)) (rv_cat (by simp; omega))) (by rw [List.map_append]; rfl))
        (xa1 (xlcP 14 13 [("left", 14), ("hit", 13)] (r := (subL r.2 (hitsOf wants x)).map .int) nd (xi_zip (f := .int) (g := .int) rfl B.zip (xn 8) (xn 5) (fun h1 h2 => pi_zip rfl B.zip (pa_cons h1 (pa_cons h2 pa_nil)))) (blkOk_by (N := nCh) (sc := defScope sChoices) (by decide +kernel)) (fun _ => true) (fun z : Int × Int => .int (z.1 - z.2)) (fun z _ => .none)
      (fun z _ _ s H C' cl fp => xop op_sub (xn 14) (xn 13) rv_int) (by rw [List.length_zip]; omega) (by rw [filter_true]; unfold subL; rw [List.map_map]; rfl)))) (by simp)) (by rw [List.length_append, List.length_map, List.length_singleton]; omega) ?_)
      have e : (longerC (pr ++ [r]) (hitsOf wants x) x).map encRw = (longerC pr (hitsOf wants x) x).map encRw ++ [.tuple [.list (r.1.map encC), .list (r.2.map .int)]] ++ [.tuple [.list ((r.1 ++ [x]).map encC), .list ((subL r.2 (hitsOf wants x)).map .int)]] := by
        unfold longerC
        rw [List.flatMap_append, List.map_append, List.append_assoc]
        rfl
      rw [e]
      exact nx_le (by trivial)
    · refine xss_frz 6 ?_
      have hlong := longer_len (runC wants pre).1 (hitsOf wants x) x
      refine xss_one (xs_lcN 2 11 [("row", 11)] nd (xi_list (enc := encRw) (xn 6)) (blkOk_by (N := nCh) (sc := defScope sChoices) (by decide +kernel)) (fun r : Row => met r.2 (subL (runC wants pre).2 (hitsOf wants x))) encRw
        (fun z hz => .one fun s H C' cl fp => xtval (xcall0 C hr rfl (xacons (xix ix_tup (xn 11) xint (rv_ixT (d := .list (z.2.map .int)) rfl) (fun _ _ => rfl)) (xa1 (xn 3))) ⟨z.2, _, rfl, rfl, ?_⟩)) (fun z hz _ s H C' cl fp => xn 11) (by omega) ?_)
      · obtain ⟨q, hq, e⟩ := longer_mem hz
        obtain ⟨h1, h2⟩ := ri.el q hq
        rcases e with e | e
        · rw [e]; omega
        · rw [e]
          have := subL_len q.2 (hitsOf wants x)
          show (subL q.2 (hitsOf wants x)).length ≤ 1000
          omega
      · rw [runC_snoc]
        exact nx_le (by trivial)
  have ri := ri_run wants cells
  have h28 : (runC wants cells).1.length ≤ 256 := Nat.le_trans ri.len (Nat.pow_le_pow_right (by decide) hcl)
  refine xss_one (xs_ret (xcallB (call_sortedL hr.units) rfl B.sorted (by decide +kernel) (xa1 (xlcP 7 8 [("chosen", 7), ("lefts", 8)] (r := (choicesU cells wants).map encL) nd (xi_list (enc := encRw) (xn 2)) (blkOk_by (N := nCh) (sc := defScope sChoices) (by decide +kernel)) (fun _ => true) (fun r : Row => encL r.1) (fun z _ => .none)
    (fun z _ _ s H C' cl fp => xcallTy call_listS rfl B.list (by decide +kernel) (xa1 (xn 7)) cr_list) (by omega) (by rw [filter_true]; unfold choicesU; rw [List.map_map]; rfl))) (cr_sortedL (by unfold choicesU; rw [List.length_map]; omega))) hrt)
end
end SL
set_option maxRecDepth 100000
set_option maxHeartbeats 4000000
namespace SL
open PySem L2 Evl
local macro_rules | `(tactic| trivial) => `(tactic| (repeat (first | exact SL.LeG.nil | refine SL.LeG.cons (by first | exact SL.Le.rfl _ | exact SL.Le.any _) ?_)); done)
def closedC (rows : List (List Nat)) : List Cell := cellsOf (fun c => decide (c ∈ qm)) rows
def openC (rows : List (List Nat)) : List Cell := cellsOf (fun c => decide (c ∈ figs)) rows
def wantOf (rows : List (List Nat)) (cells : List Cell) (c : Cell) : Want := (cells.filter (fun o => decide (o ∈ nearIn rows c)), numAt rows c)
def wantsAll (rows : List (List Nat)) (n : Int) : List Want := (openC rows).map (wantOf rows (closedC rows)) ++ [(closedC rows, n)]
def layU (rows : List (List Nat)) (n : Int) : List (List Cell) := choicesU (closedC rows) (wantsAll rows n)
theorem mem_rowCells {p : Nat → Bool} {i : Nat} {row : List Nat} {c : Cell} : c ∈ rowCells p i row ↔ ∃ (j k : Nat), c = ((i : Int), (j : Int)) ∧ row[j]? = some k ∧ p k = true := by
  unfold rowCells
  rw [List.mem_map]
  constructor
  · rintro ⟨⟨k, j⟩, h, rfl⟩
    obtain ⟨h1, h2⟩ := List.mem_filter.mp h
    exact ⟨j, k, rfl, by simpa using List.mem_zipIdx_iff_getElem?.mp h1, h2⟩
  · rintro ⟨j, k, rfl, h1, h2⟩
    exact ⟨(k, j), List.mem_filter.mpr ⟨List.mem_zipIdx_iff_getElem?.mpr h1, h2⟩, rfl⟩
theorem mem_cellsOf {p : Nat → Bool} {rows : List (List Nat)} {c : Cell} : c ∈ cellsOf p rows ↔ ∃ (i j : Nat) (r : List Nat) (k : Nat), c = ((i : Int), (j : Int)) ∧ rows[i]? = some r ∧ r[j]? = some k ∧ p k = true := by
  unfold cellsOf
  rw [List.mem_flatMap]
  constructor
  · rintro ⟨⟨r, i⟩, h, h2⟩
    obtain ⟨j, k, e, h3, h4⟩ := mem_rowCells.mp h2
    exact ⟨i, j, r, k, e, by simpa using List.mem_zipIdx_iff_getElem?.mp h, h3, h4⟩
  · rintro ⟨i, j, r, k, e, h1, h2, h3⟩
    exact ⟨(r, i), List.mem_zipIdx_iff_getElem?.mpr h1, mem_rowCells.mpr ⟨j, k, e, h2, h3⟩⟩
theorem signAt_of {rows : List (List Nat)} {i j k : Nat} {r : List Nat} (h1 : rows[i]? = some r) (h2 : r[j]? = some k) : signAt rows ((i : Int), (j : Int)) = k := by
  unfold signAt
  rw [if_pos ⟨Int.natCast_nonneg _, Int.natCast_nonneg _⟩]
  show (((rows[(i : Int).toNat]?).getD [])[(j : Int).toNat]?).getD 35 = k
  rw [Int.toNat_natCast, Int.toNat_natCast, h1]
  show ((r[j]?)).getD 35 = k
  rw [h2]
  rfl
theorem cells_sign {p : Nat → Bool} {rows : List (List Nat)} {c : Cell} (h : c ∈ cellsOf p rows) : p (signAt rows c) = true := by
  obtain ⟨i, j, r, k, rfl, h1, h2, h3⟩ := mem_cellsOf.mp h
  rw [signAt_of h1 h2]
  exact h3
theorem cells_sm {p : Nat → Bool} {rows : List (List Nat)} {c : Cell} (hg : Gd rows) (h : c ∈ cellsOf p rows) : SmC c := by
  obtain ⟨i, j, r, k, rfl, h1, h2, h3⟩ := mem_cellsOf.mp h
  have a := (List.getElem?_eq_some_iff.mp h1).1
  have b := (List.getElem?_eq_some_iff.mp h2).1
  have c := hg.2 r (List.mem_of_getElem? h1)
  have d := hg.1
  refine ⟨?_, ?_, ?_, ?_⟩ <;> show _ ≤ _ <;> omega
theorem open_figs {rows : List (List Nat)} {c : Cell} (h : c ∈ openC rows) : signAt rows c ∈ figs := of_decide_eq_true (cells_sign (p := fun c => decide (c ∈ figs)) h)
def preWants : List Ty → Ty → Prop := fun Rs R => ∃ (rows : List (List Nat)) (n : Int) (cells opens : List Cell), Rs = [dT [encR rows, .int n], dL (cells.map encC), dL (opens.map encC)] ∧ R = dL ((opens.map (wantOf rows cells)).map encW) ∧ Gd rows ∧ cells.length ≤ 1000 ∧ opens.length ≤ 800 ∧ ∀ c ∈ opens, SmC c ∧ signAt rows c ∈ figs
abbrev nWa : List Str := ["board", "cells", "opens", "wants", "cell", "near", "one"]
section
variable {P : Program} {w : World} {K : PySem.W.Frag} {mg : Str → Option Value} {base : Heap}
theorem scWa : FnScope nWa ["board", "cells", "opens"] (defScope sWants) := ⟨rfl, rfl, rfl, by decide +kernel, rfl, by decide +kernel, by decide +kernel⟩
theorem def_wants (S : Src K mg "wants_of" sWants ["board", "cells", "opens"]) (A1 : Def P w K mg base 3 "around" ["board", "cell"] (spF W0 preAround)) (A2 : Def P w K mg base 2 "number_at" ["board", "cell"] (spF W0 preNum)) : Def P w K mg base 4 "wants_of" ["board", "cells", "opens"] (spF W0 preWants) := by
  refine Def.of S scWa (fun Rs R h => by obtain ⟨a, b, c, d, rfl, _⟩ := h; rfl) fun f cdv A outer s H E hr Rs R hp F D hW hrt _ => ?_
  obtain ⟨rows, n, cells, opens, rfl, rfl, hg, hcl, hol, ho⟩ := hp
  have nd := scWa.nd
  refine xss_cons (xs_nil 3 nd (nx_of rfl)) ?_
  refine xss_cons (xs_forN 4 nd (xi_list (enc := encC) (xn 2)) (fun pre => [sd (.tuple [encR rows, .int n]), sd (.list (cells.map encC)), sd (.list (opens.map encC)), .mut ((pre.map (wantOf rows cells)).map encW), .any, .any, .any]) (fun pre x post he Sg hS => ?_) (nx_of rfl)) (xss_frz 3 (xss_one (xs_ret (xn 3) hrt)))
  obtain ⟨hx1, hx2⟩ := ho x (by rw [he]; simp)
  have hpl : pre.length ≤ 800 := by
    have := congrArg List.length he
    simp at this
    omega
  refine xss_cons (xs_set 5 nd (xcall0 A1 hr rfl (xacons (xn 0) (xa1 (xn 4))) ⟨rows, n, x, rfl, rfl, hg, hx1⟩) (nx_of rfl)) ?_
  refine xss_one (xs_app 3 rfl (xtup (ds := [.list ((cells.filter (fun o => decide (o ∈ nearIn rows x))).map encC), .int (numAt rows x)]) (xacons (xlcN 6 [("one", 6)] nd (xi_list (enc := encC) (xn 1)) (blkOk_by (N := nWa) (sc := defScope sWants) (by decide +kernel)) (fun o => decide (o ∈ nearIn rows x)) encC
    (fun z hz => .one fun s H C' cl fp => XT.eq (xtcmp (op_inD hr.u65) (xn 6) (xn 5) (rv_inD (shaped_C z) (shaped_Cs _)) rfl) (any_C z _)) (fun z hz _ s H C' cl fp => xn 6) (by omega)) (xa1 (xcall0 A2 (hr.mono (by decide)) rfl (xacons (xn 0) (xa1 (xn 4))) ⟨rows, n, x, rfl, rfl, hg, hx2⟩))) (by simp)) (by rw [List.length_map, List.length_map]; omega) ?_)
  rw [List.map_append, List.map_append]
  exact nx_le (by trivial)
def preLay : List Ty → Ty → Prop := fun Rs R => ∃ rows n, Rs = [dT [encR rows, .int n]] ∧ R = dL ((sortL (layU rows n)).map encL) ∧ Gd rows ∧ (closedC rows).length ≤ 8
theorem scLay : FnScope ["board", "cells"] ["board"] (defScope sLayings) := ⟨rfl, rfl, rfl, by decide +kernel, rfl, by decide +kernel, by decide +kernel⟩
theorem def_lay (S : Src K mg "layings" sLayings ["board"]) (B : Bn mg) (A1 : Def P w K mg base 2 "closed" ["board"] (spF W0 (preBd qm))) (A2 : Def P w K mg base 2 "open_cells" ["board"] (spF W0 (preBd figs))) (A3 : Def P w K mg base 4 "wants_of" ["board", "cells", "opens"] (spF W0 preWants))
    (A4 : Def P w K mg base 2 "choices_met" ["cells", "wants"] (spF W0 preChoices)) {t : Tok} (hM : mg "MOST" = some (.int 12 t)) : Def P w K mg base 5 "layings" ["board"] (spF W0 preLay) := by
  refine Def.of S scLay (fun Rs R h => by obtain ⟨a, b, rfl, _⟩ := h; rfl) fun f cdv A outer s H E hr Rs R hp F D hW hrt _ => ?_
  obtain ⟨rows, n, rfl, rfl, hg, hcl⟩ := hp
  have nd := scLay.nd
  have hol : (openC rows).length ≤ 256 := cells_len hg
  refine xss_cons (xs_set 1 nd (xcall0 A1 (hr.mono (by decide)) rfl (xa1 (xn 0)) ⟨rows, n, rfl, rfl, hg⟩) (nx_of rfl)) ?_
  refine xss_ifr (b := false) (XT.eq (xtcmp op_gt (xcallB call_lenS rfl B.len PySem.boot_len (xa1 (xn 1)) cr_len) (xglob (v := .int 12) (R := dI 12) rfl hM ⟨_, rfl⟩ fun G => Dq.int _) rv_bl (nomark _)) ?_) (fun h => by cases h) (fun _ => ?_)
  · rw [List.length_map]
    exact decide_eq_false (by have : (cellsOf (fun c => decide (c ∈ qm)) rows).length ≤ 8 := hcl; omega)
  refine xss_one (xs_ret (xcall0 A4 (hr.mono (by decide)) rfl (xacons (xn 1) (xa1 (XE.eq (xop op_cat (xcall0 A3 hr rfl (xacons (xn 0) (xacons (xn 1) (xa1 (xcall0 A2 (hr.mono (by decide)) rfl (xa1 (xn 0)) ⟨rows, n, rfl, rfl, hg⟩)))) ⟨rows, n, closedC rows, openC rows, rfl, rfl, hg, by omega, by omega, fun c hc => ⟨cells_sm hg hc, open_figs hc⟩⟩)
    (xlst (ds := [encW (closedC rows, n)]) (xa1 (xtup (ds := [.list ((closedC rows).map encC), .int n]) (xacons (xn 1) (xa1 (xix ix_tup (xn 0) xint (rv_ixT (d := .int n) rfl) (fun _ _ => rfl)))) (by simp))) (by simp)) (rv_cat (by simp; omega))) (d' := .list ((wantsAll rows n).map encW)) ?_))) ⟨closedC rows, wantsAll rows n, rfl, rfl, hcl, ?_, ?_⟩) hrt)
  · unfold wantsAll
    rw [List.map_append]
    rfl
  · unfold wantsAll
    simp
    omega
  · intro x hx
    unfold wantsAll at hx
    rcases List.mem_append.mp hx with h | h
    · obtain ⟨c, _, rfl⟩ := List.mem_map.mp h
      have := List.length_filter_le (fun o => decide (o ∈ nearIn rows c)) (closedC rows)
      show (List.filter _ _).length ≤ _
      omega
    · have : x = (closedC rows, n) := by simpa using h
      subst this
      show (closedC rows).length ≤ _
      omega
end
end SL
set_option maxRecDepth 100000
set_option maxHeartbeats 4000000
/-! a dict whose keys are (tuple of ints, tuple of ints, int): what is known -/
namespace SL
open PySem L2 Evl
abbrev KX := List (NestedKey × Addr × Value)
def keyN (ls ps : List Int) (d : Int) : NestedKey := .tup [.tup (ls.map .num), .tup (ps.map .num), .num d]
theorem map_num_inj : ∀ {a b : List Int}, a.map NestedKey.num = b.map NestedKey.num → a = b
  | [], [], _ => rfl
  | [], _ :: _, h => by simp at h
  | _ :: _, [], h => by simp at h
  | x :: xs, y :: ys, h => by
    simp only [List.map_cons, List.cons.injEq, NestedKey.num.injEq] at h
    rw [h.1, map_num_inj h.2]
theorem keyN_inj {ls ps ls' ps' : List Int} {d d' : Int} (h : keyN ls ps d = keyN ls' ps' d') : ls = ls' ∧ ps = ps' ∧ d = d' := by
  unfold keyN at h
  simp only [NestedKey.tup.injEq, List.cons.injEq, NestedKey.num.injEq, and_true] at h
  exact ⟨map_num_inj h.1, map_num_inj h.2.1, h.2.2⟩
theorem nums_depth : ∀ ls : List Int, NestedKey.depthAll (ls.map .num) = 0
  | [] => by simp [NestedKey.depthAll]
  | x :: xs => by simp [NestedKey.depthAll, NestedKey.depth, nums_depth xs]
theorem keyN_depth (ls ps : List Int) (d : Int) : (keyN ls ps d).depth ≤ 8 := by
  simp [keyN, NestedKey.depth, NestedKey.depthAll, nums_depth]
/-- at b stands that key -/
def IsKey (H : Hp) (b : Addr) (ls ps : List Int) (d : Int) : Prop := ∃ p q, H b = some (.tup [.ref p, .ref q, .int d]) ∧ H p = some (.tup (ls.map .int)) ∧ H q = some (.tup (ps.map .int))
theorem IsKey.mono {H H' : Hp} {b : Addr} {ls ps : List Int} {d : Int} (k : IsKey H b ls ps d) (h : ∀ a xs, H a = some (.tup xs) → H' a = some (.tup xs)) : IsKey H' b ls ps d :=
  let ⟨p, q, h1, h2, h3⟩ := k; ⟨p, q, h _ _ h1, h _ _ h2, h _ _ h3⟩
theorem nested_ints {h : Heap} : ∀ {ls : List Int} {us : List Value}, Vals (ls.map V.int) us → NestedAll h (ls.map .num) us
  | [], _, .nil => .nil
  | i :: r, _, .cons a t => by
    obtain ⟨k, rfl⟩ := a
    exact .cons (.int i k) (nested_ints t)
theorem IsKey.is {P : Program} {w : World} {H : Hp} {h : Heap} {b : Addr} {ls ps : List Int} {d : Int} (ok : HOk P w H h) (k : IsKey H b ls ps d) : (nestedKind P w).is h (keyN ls ps d) b := by
  obtain ⟨p, q, h1, h2, h3⟩ := k
  obtain ⟨_, its, r1, o1, e1, c1, n1, d1⟩ := (show ObjOk P w H h b (.tup _) from ok b _ h1)
  obtain ⟨_, its2, r2, o2, e2, c2, n2, d2⟩ := (show ObjOk P w H h p (.tup _) from ok p _ h2)
  obtain ⟨_, its3, r3, o3, e3, c3, n3, d3⟩ := (show ObjOk P w H h q (.tup _) from ok q _ h3)
  refine ⟨?_, keyN_depth _ _ _⟩
  cases r1 with
  | cons a1 t1 =>
    cases t1 with
    | cons a2 t2 =>
      cases t2 with
      | cons a3 t3 =>
        cases t3
        cases a1
        cases a2
        obtain ⟨tk, rfl⟩ := a3
        refine .tup e1 c1 d1 ?_
        simp only [List.toList_toArray]
        exact .cons (.tup e2 c2 d2 (by simpa using nested_ints r2)) (.cons (.tup e3 c3 d3 (by simpa using nested_ints r3)) (.cons (.int _ _) .nil))
/-- the dict's own object -/
def KnObj (P : Program) (w : World) (kd : Addr) (xs : KX) : Heap → Prop := fun h => (kd == sysModules) = false ∧ ∃ o es ep, h.get? kd = some o ∧ o.ExactDict ∧ o.data = .dict es ep ∧ es.toList = xs.map (entryOfKey (nestedKind P w)) ∧ (xs.map (·.1)).Nodup
abbrev knO (P : Program) (w : World) (kd : Addr) (xs : KX) : HO := .ext (KnObj P w kd xs)
def Keys (H : Hp) (xs : KX) : Prop := ∀ x ∈ xs, ∃ ls ps d, x.1 = keyN ls ps d ∧ IsKey H x.2.1 ls ps d
theorem Keys.mono {H H' : Hp} {xs : KX} (k : Keys H xs) (h : ∀ a ys, H a = some (.tup ys) → H' a = some (.tup ys)) : Keys H' xs := fun x hx => let ⟨ls, ps, d, e, q⟩ := k x hx; ⟨ls, ps, d, e, q.mono h⟩
theorem kn_dict {P : Program} {w : World} {H : Hp} {h : Heap} {kd : Addr} {xs : KX} (ok : HOk P w H h) (e : H kd = some (knO P w kd xs)) (k : Keys H xs) : (kd == sysModules) = false ∧ h.DictOfH (nestedKind P w) kd xs := by
  obtain ⟨⟨hs, o, es, ep, h1, h2, h3, h4, h5⟩, _, _⟩ := (show ObjOk P w H h kd (.ext _) from ok kd _ e)
  refine ⟨hs, o, es, ep, h1, h2, h3, h4, fun x hx => ?_, h5⟩
  obtain ⟨ls, ps, d, e, q⟩ := k x hx
  rw [e]
  exact q.is ok
theorem kn_new {P : Program} {w : World} {H' : Hp} {h' : Heap} {kd : Addr} {xs : KX} (hs : (kd == sysModules) = false) (dd : h'.DictOfH (nestedKind P w) kd xs) : ObjOk P w H' h' kd (knO P w kd xs) := by
  obtain ⟨o, es, ep, h1, h2, h3, h4, _, h5⟩ := dd
  refine ⟨⟨hs, o, es, ep, h1, h2, h3, h4, h5⟩, ⟨o, h1⟩, fun g1 g2 ⟨_, o', es', ep', k1, k2, k3, k4, k5⟩ k => ⟨hs, o', es', ep', k _ k1, k2, k3, k4, k5⟩⟩
section
variable {X : Cx} {o i e value key : Expr} {pos pos' tpos : Pos} {td ty tv : TE}
/-- {} -/
def tDNewN (P : Program) (w : World) : TE := fun _ H Q => ∀ p, H p = none → Q (.ref p) (upd H p (knO P w p []))
theorem pe_dnewN : PE X (.Dict [] [] pos) (tDNewN X.prog X.w) := ⟨fun pins s σ H Q I h =>
  wpAny_Dict_empty ⟨.ref s.heap.objs.size, _, I.laid (a := s.heap.objs.size) (o := knO X.prog X.w s.heap.objs.size []) (t' := s.toks) (fun _ _ q => Heap.get?_push_of_some _ q) (Nat.le_refl _)
    (kn_new (beq_eq_false_iff_ne.mpr (Ne.symm (Nat.ne_of_lt I.big))) (Heap.DictOfH.new s.heap)), rfl, h _ (I.hok.fresh (Nat.le_refl _))⟩⟩
theorem kroom {A : Around} (h : A.units + 64 < cLine) {P : Program} {w : World} : (nestedKind P w).room A.in1 := by
  show A.units + 1 + 8 < cLine
  omega
/-- k not in d -/
def tKNotIn (P : Program) (w : World) (ty td : TE) : TE := fun σ H Q => ty σ H fun y H1 => td σ H1 fun x H2 => ∃ kd xs b ls ps d, x = .ref kd ∧ y = .ref b ∧ H2 kd = some (knO P w kd xs) ∧ Keys H2 xs ∧ IsKey H2 b ls ps d ∧ Q (.bl (!(atKey xs (keyN ls ps d)).isSome)) H2
theorem pc_knotin (hu : X.A.units + 64 < cLine) (hi : PE X i ty) (ho : PE X o td) : PC X .NotIn i o (tKNotIn X.prog X.w ty td) := by
  refine ⟨fun pins s σ H Q I h => ?_⟩
  refine thn (hi.run pins s σ H _ I h) fun iv s1 ⟨y, H1, I1, ry, q1⟩ => thn (ho.run pins s1 σ H1 _ I1 q1) fun u s2 ⟨x, H2, I2, rx, kd, xs, b, ls, ps, d, ex, ey, hk, hks, hb, q2⟩ => ?_
  subst ex ey
  obtain rfl : u = Value.ref kd := rx
  obtain rfl : iv = Value.ref b := ry
  obtain ⟨hs, dd⟩ := kn_dict I2.hok hk hks
  exact PyProof.Rows.wpAny_notIn_heap (kroom hu) (hb.is I2.hok) hs dd ⟨.bl _, H2, I2.tok _, rfl, q2⟩
/-- d[k], there -/
def tKGet (P : Program) (w : World) (td ty : TE) : TE := fun σ H Q => td σ H fun x H1 => ty σ H1 fun y H2 => ∃ kd xs b ls ps d p v, x = .ref kd ∧ y = .ref b ∧ H2 kd = some (knO P w kd xs) ∧ Keys H2 xs ∧ IsKey H2 b ls ps d ∧ atKey xs (keyN ls ps d) = some p ∧ RelV v p.2 ∧ Q v H2
theorem pe_kget (hu : X.A.units + 64 < cLine) (ho : PE X o td) (hi : PE X i ty) (hs : NoSl i) : PE X (.Subscript o i pos) (tKGet X.prog X.w td ty) := by
  refine ⟨fun pins s σ H Q I h => ?_⟩
  refine subD_of PySem.F.slot_dict_getitem.lookup hs (thn (ho.run pins s σ H _ I h) fun u s1 ⟨x, H1, I1, rx, q1⟩ => thn (hi.run pins s1 σ H1 _ I1 q1) fun iv s2 ⟨y, H2, I2, ry, kd, xs, b, ls, ps, d, p, v, ex, ey, hk, hks, hb, ha, rv, q2⟩ => ?_)
  subst ex ey
  obtain rfl : u = Value.ref kd := rx
  obtain rfl : iv = Value.ref b := ry
  obtain ⟨hs, dd⟩ := kn_dict I2.hok hk hks
  exact ⟨dd.typeIs, wpAny_getItem_heap (kroom hu) (hb.is I2.hok) dd ha ⟨v, H2, I2.tok _, rv, q2⟩⟩
/-- d[k] = v -/
def sKPut (P : Program) (w : World) (td ty tv : TE) : TS := fun D σ H => tv σ H fun v H1 => td σ H1 fun x H2 => ty σ H2 fun y H3 => ∃ kd xs b ls ps d, x = .ref kd ∧ y = .ref b ∧ H3 kd = some (knO P w kd xs) ∧ Keys H3 xs ∧ IsKey H3 b ls ps d ∧ xs.length ≤ sizeLine ∧
  ∀ r, RelV v r → D.nx σ (upd H3 kd (knO P w kd (storedH xs (keyN ls ps d) b r)))
theorem ps_kput (hu : X.A.units + 64 < cLine) (ho : PE X o td) (hi : PE X i ty) (hv : PE X value tv) (hs : swapsWith value (some (.Subscript o i pos')) pos.line X.env = pure false) :
    PS X (.Assign [.Subscript o i pos'] value pos) (sKPut X.prog X.w td ty tv) := by
  refine ⟨fun pins s σ H D I h => ?_⟩
  refine wpAny_Assign_Subscript (thn (hv.run pins s σ H _ I h) fun r s1 ⟨v, H1, I1, rv, q1⟩ => thn (ho.run pins s1 σ H1 _ I1 q1) fun u s2 ⟨x, H2, I2, rx, q2⟩ => thn (hi.run pins s2 σ H2 _ I2 q2) fun iv s3 ⟨y, H3, I3, ry, kd, xs, b, ls, ps, d, ex, ey, hk, hks, hb, hz, q3⟩ => ?_) hs
  subst ex ey
  obtain rfl : u = Value.ref kd := rx
  obtain rfl : iv = Value.ref b := ry
  obtain ⟨hs, dd⟩ := kn_dict I3.hok hk hks
  refine wpAny_setItem_heap (hsz := hz) (kroom hu) (hb.is I3.hok) dd fun h' dd' sb => ⟨σ, _, ?_, q3 r rv⟩
  have he : ∃ q, h'.get? kd = some q := let ⟨q, _, _, hq, _⟩ := dd'; ⟨q, hq⟩
  exact d_write I3 (by rw [hk]; exact True.intro) sb he (kn_new hs dd')
end
end SL
set_option maxRecDepth 100000
set_option maxHeartbeats 4000000
/-! the game, and the object that plays it -/
namespace SL
open PySem L2 Evl
def encI (l : List Int) : PyData := .list (l.map .int)
def ofN (l : List Nat) : List Int := l.map fun i : Nat => (i : Int)
structure Gm where
  cells : List Cell
  lay : List (List Cell)
  told : List (List Int)
def cellAt (cells : List Cell) (p : Nat) : Cell := cells.getD p (0, 0)
def layAt (L : List (List Cell)) (i : Nat) : List Cell := L.getD i []
def tAt (T : List (List Int)) (p i : Nat) : Int := (T.getD p []).getD i 0
abbrev Grp := Int × List Nat
def addG : List Grp → Int → Nat → List Grp
  | [], t, i => [(t, [i])]
  | (u, l) :: r, t, i => if u = t then (u, l ++ [i]) :: r else (u, l) :: addG r t i
def rest (places : List Nat) (p : Nat) : List Nat := places.filter fun o => !decide (o = p)
def sumN (l : List Nat) : Nat := l.foldl (· + ·) 0
def maxN (l : List Nat) : Nat := l.foldl Nat.max 0
inductive Pl where
  | no
  | op (c : Cell) (subs : List (Int × Pl))
namespace Gm
variable (g : Gm)
def has (p i : Nat) : Bool := decide (cellAt g.cells p ∈ layAt g.lay i)
def stepG (p : Nat) (gs : List Grp) (i : Nat) : List Grp := if g.has p i = true then gs else addG gs (tAt g.told p i) i
def groups (left : List Nat) (p : Nat) : List Grp := left.foldl (g.stepG p) []
def over (left places : List Nat) : Bool := places.all fun p => left.all fun i => g.has p i
def val : Nat → List Nat → List Nat → Nat
  | 0, left, _ => left.length
  | d + 1, left, places => if g.over left places = true then left.length else maxN (places.map fun p => sumN ((g.groups left p).map fun x => val d x.2 (SL.rest places p)))
def valIf (d : Nat) (left places : List Nat) (p : Nat) : Nat := sumN ((g.groups left p).map fun x => g.val d x.2 (SL.rest places p))
def bestP (f : Nat → Nat) : Nat → List Nat → Nat
  | b, [] => b
  | b, p :: r => if f b < f p then bestP f p r else bestP f b r
def best (d : Nat) (left places : List Nat) : Nat := bestP (g.valIf d left places) (places.headD 0) places.tail
def plan : Nat → List Nat → List Nat → Pl
  | 0, _, _ => .no
  | d + 1, left, places => if g.over left places = true then .no else .op (cellAt g.cells (g.best d left places)) ((g.groups left (g.best d left places)).map fun x => (x.1, plan d x.2 (SL.rest places (g.best d left places))))
def nextL (L : List (List Nat × List Nat)) : List (List Nat × List Nat) := L.flatMap fun x => x.2.flatMap fun p => (g.groups x.1 p).map fun y => (y.2, SL.rest x.2 p)
def lev : Nat → List (List Nat × List Nat)
  | 0 => [(List.range g.lay.length, List.range g.cells.length)]
  | k + 1 => g.nextL (lev k)
def Re (dep : Nat) (left places : List Nat) (d : Nat) : Prop := ∃ k, (left, places) ∈ g.lev k ∧ d + k = dep
structure Fine : Prop where
  c8 : g.cells.length ≤ 8
  l256 : g.lay.length ≤ 256
  tl : g.told.length = g.cells.length
  tr : ∀ r ∈ g.told, r.length = g.lay.length
  lc : ∀ l ∈ g.lay, l.length ≤ 8
end Gm
theorem Re.down {g : Gm} {dep d : Nat} {left places : List Nat} {p : Nat} {x : Grp} (h : g.Re dep left places (d + 1)) (hp : p ∈ places) (hx : x ∈ g.groups left p) : g.Re dep x.2 (rest places p) d := by
  obtain ⟨k, h1, h2⟩ := h
  refine ⟨k + 1, ?_, by omega⟩
  show _ ∈ g.nextL (g.lev k)
  unfold Gm.nextL
  rw [List.mem_flatMap]
  refine ⟨_, h1, ?_⟩
  rw [List.mem_flatMap]
  exact ⟨p, hp, List.mem_map.mpr ⟨x, hx, rfl⟩⟩
/-- every group's members are of the left -/
def tot (gs : List Grp) : Nat := sumN (gs.map fun x => x.2.length)
theorem foldl_add (l : List Nat) : ∀ n, l.foldl (· + ·) n = n + l.foldl (· + ·) 0 := by
  induction l with
  | nil => intro n; rfl
  | cons a r ih =>
    intro n
    rw [List.foldl_cons, List.foldl_cons, ih, ih (0 + a)]
    omega
theorem sumN_cons (a : Nat) (l : List Nat) : sumN (a :: l) = a + sumN l := by
  unfold sumN
  rw [List.foldl_cons, foldl_add]
  omega
theorem sumN_append (a b : List Nat) : sumN (a ++ b) = sumN a + sumN b := by
  induction a with
  | nil => simp [sumN]
  | cons x r ih => rw [List.cons_append, sumN_cons, sumN_cons, ih]; omega
theorem tot_addG : ∀ (gs : List Grp) (t : Int) (i : Nat), tot (addG gs t i) = tot gs + 1
  | [], t, i => rfl
  | (u, l) :: r, t, i => by
    unfold addG
    by_cases h : u = t
    · rw [if_pos h]
      unfold tot
      rw [List.map_cons, List.map_cons, sumN_cons, sumN_cons, List.length_append]
      simp
      omega
    · rw [if_neg h]
      have ih := tot_addG r t i
      unfold tot at ih ⊢
      rw [List.map_cons, List.map_cons, sumN_cons, sumN_cons, ih]
      omega
theorem mem_addG : ∀ {gs : List Grp} {t : Int} {i : Nat} {x : Grp}, x ∈ addG gs t i → x ∈ gs ∨ x = (t, [i]) ∨ ∃ l, (t, l) ∈ gs ∧ x = (t, l ++ [i])
  | [], t, i, x, h => .inr (.inl (by simpa [addG] using h))
  | (u, l) :: r, t, i, x, h => by
    unfold addG at h
    by_cases e : u = t
    · rw [if_pos e] at h
      subst e
      rcases List.mem_cons.mp h with h | h
      · exact .inr (.inr ⟨l, by simp, h⟩)
      · exact .inl (List.mem_cons_of_mem _ h)
    · rw [if_neg e] at h
      rcases List.mem_cons.mp h with h | h
      · exact .inl (by rw [h]; simp)
      · rcases mem_addG h with h | h | ⟨m, h1, h2⟩
        · exact .inl (List.mem_cons_of_mem _ h)
        · exact .inr (.inl h)
        · exact .inr (.inr ⟨m, List.mem_cons_of_mem _ h1, h2⟩)
section
variable {g : Gm} {left : List Nat} {p : Nat}
theorem groups_snoc {i : Nat} : g.groups (left ++ [i]) p = g.stepG p (g.groups left p) i := by
  unfold Gm.groups
  rw [List.foldl_append]
  rfl
theorem groups_tot : ∀ left : List Nat, tot (g.groups left p) ≤ left.length := by
  refine snoc_ind (Nat.le_refl _) fun l i ih => ?_
  rw [groups_snoc, List.length_append, List.length_singleton]
  unfold Gm.stepG
  by_cases h : g.has p i = true
  · rw [if_pos h]; omega
  · rw [if_neg h, tot_addG]; omega
theorem groups_mem : ∀ left : List Nat, ∀ x ∈ g.groups left p, x.2 ≠ [] ∧ ∀ i ∈ x.2, i ∈ left := by
  refine snoc_ind (fun x h => by simp [Gm.groups] at h) fun l i ih x hx => ?_
  rw [groups_snoc] at hx
  unfold Gm.stepG at hx
  have old : x ∈ g.groups l p → x.2 ≠ [] ∧ ∀ j ∈ x.2, j ∈ l ++ [i] := fun h => ⟨(ih x h).1, fun j hj => List.mem_append_left _ ((ih x h).2 j hj)⟩
  by_cases h : g.has p i = true
  · rw [if_pos h] at hx
    exact old hx
  · rw [if_neg h] at hx
    rcases mem_addG hx with h | h | ⟨m, h1, h2⟩
    · exact old h
    · rw [h]
      exact ⟨by simp, fun j hj => by simp at hj; simp [hj]⟩
    · rw [h2]
      refine ⟨by simp, fun j hj => ?_⟩
      rcases List.mem_append.mp hj with h | h
      · exact List.mem_append_left _ ((ih _ h1).2 j h)
      · exact List.mem_append_right _ h
theorem len_tot : ∀ {gs : List Grp}, (∀ x ∈ gs, x.2 ≠ []) → gs.length ≤ tot gs
  | [], _ => Nat.le_refl _
  | x :: r, h => by
    have ih := len_tot (gs := r) fun y hy => h y (List.mem_cons_of_mem _ hy)
    have h1 := List.length_pos_iff.mpr (h x (by simp))
    unfold tot at ih ⊢
    rw [List.map_cons, sumN_cons, List.length_cons]
    omega
theorem part_tot : ∀ {gs : List Grp} {x : Grp}, x ∈ gs → x.2.length ≤ tot gs
  | y :: r, x, h => by
    unfold tot
    rw [List.map_cons, sumN_cons]
    rcases List.mem_cons.mp h with e | e
    · subst e; omega
    · have := part_tot e
      unfold tot at this
      omega
theorem groups_len : (g.groups left p).length ≤ left.length := Nat.le_trans (len_tot fun x hx => (groups_mem left x hx).1) (groups_tot left)
theorem group_len {x : Grp} (h : x ∈ g.groups left p) : x.2.length ≤ left.length := Nat.le_trans (part_tot h) (groups_tot left)
end
/-- what holds of every left and places that are reached -/
structure Lv (g : Gm) (x : List Nat × List Nat) : Prop where
  l : x.1.length ≤ 256
  p : x.2.length ≤ 8
  li : ∀ i ∈ x.1, i < g.lay.length
  pi : ∀ i ∈ x.2, i < g.cells.length
  nd : x.2.Nodup
theorem lv_all {g : Gm} (f : g.Fine) : ∀ k x, x ∈ g.lev k → Lv g x
  | 0, x, h => by
    have e : x = (List.range g.lay.length, List.range g.cells.length) := by simpa [Gm.lev] using h
    subst e
    exact ⟨by rw [List.length_range]; exact f.l256, by rw [List.length_range]; exact f.c8, fun i hi => List.mem_range.mp hi, fun i hi => List.mem_range.mp hi, List.nodup_range⟩
  | k + 1, x, h => by
    have h : x ∈ g.nextL (g.lev k) := h
    unfold Gm.nextL at h
    obtain ⟨y, hy, h⟩ := List.mem_flatMap.mp h
    obtain ⟨p, hp, h⟩ := List.mem_flatMap.mp h
    obtain ⟨z, hz, rfl⟩ := List.mem_map.mp h
    have L := lv_all f k y hy
    have h1 : (rest y.2 p).length ≤ y.2.length := List.length_filter_le _ _
    refine ⟨Nat.le_trans (group_len hz) L.l, Nat.le_trans h1 L.p, fun i hi => L.li i ((groups_mem _ z hz).2 i hi), fun i hi => L.pi i (List.mem_filter.mp hi).1, L.nd.filter _⟩
theorem flat_le {α β : Type} {f : α → List β} {n : Nat} {l : List α} (h : ∀ x ∈ l, (f x).length ≤ n) : (l.flatMap f).length ≤ l.length * n := flat_len h
theorem lev_len {g : Gm} (f : g.Fine) (k : Nat) : (g.lev (k + 1)).length ≤ (g.lev k).length * 2048 := by
  refine flat_len fun x hx => ?_
  have L := lv_all f k x hx
  have h1 : (x.2.flatMap fun p => (g.groups x.1 p).map fun y => (y.2, rest x.2 p)).length ≤ x.2.length * 256 := flat_len fun p _ => by
    rw [List.length_map]
    exact Nat.le_trans groups_len L.l
  have := L.p
  omega
def keyI (left places : List Nat) (d : Nat) : NestedKey := keyN (ofN left) (ofN places) (d : Int)
def univ (g : Gm) (dep : Nat) : List NestedKey := (g.lev 0).map (fun x => keyI x.1 x.2 dep) ++ ((g.lev 1).map (fun x => keyI x.1 x.2 (dep - 1)) ++ (g.lev 2).map (fun x => keyI x.1 x.2 (dep - 2)))
theorem univ_len {g : Gm} (f : g.Fine) (dep : Nat) : (univ g dep).length ≤ 4200000 := by
  have h0 : (g.lev 0).length = 1 := rfl
  have h1 : (g.lev 1).length ≤ (g.lev 0).length * 2048 := lev_len f 0
  have h2 : (g.lev 2).length ≤ (g.lev 1).length * 2048 := lev_len f 1
  unfold univ
  simp only [List.length_append, List.length_map]
  omega
theorem Re.univ {g : Gm} {dep d : Nat} {left places : List Nat} (h : g.Re dep left places d) (h1 : 1 ≤ d) (h3 : dep ≤ 3) : keyI left places d ∈ univ g dep := by
  obtain ⟨k, hk, e⟩ := h
  unfold SL.univ
  rw [List.mem_append, List.mem_append]
  have hk3 : k = 0 ∨ k = 1 ∨ k = 2 := by omega
  rcases hk3 with rfl | rfl | rfl
  · have : d = dep := by omega
    subst this
    exact .inl (List.mem_map.mpr ⟨_, hk, rfl⟩)
  · have : d = dep - 1 := by omega
    subst this
    exact .inr (.inl (List.mem_map.mpr ⟨_, hk, rfl⟩))
  · have : d = dep - 2 := by omega
    subst this
    exact .inr (.inr (List.mem_map.mpr ⟨_, hk, rfl⟩))
theorem nd_len {α : Type} [DecidableEq α] : ∀ {l m : List α}, l.Nodup → (∀ x ∈ l, x ∈ m) → l.length ≤ m.length
  | [], _, _, _ => Nat.zero_le _
  | x :: l, m, h, hs => by
    obtain ⟨h1, h2⟩ := List.nodup_cons.mp h
    have hx : x ∈ m := hs x (by simp)
    have ih := nd_len (l := l) (m := m.erase x) h2 fun y hy => by
      have ne : y ≠ x := fun e => h1 (e ▸ hy)
      exact (List.mem_erase_of_ne ne).mpr (hs y (by simp [hy]))
    rw [List.length_erase_of_mem hx] at ih
    have := List.length_pos_of_mem hx
    rw [List.length_cons]
    omega
end SL
set_option maxRecDepth 100000
set_option maxHeartbeats 4000000
namespace SL
open PySem L2 Evl
local macro_rules | `(tactic| trivial) => `(tactic| (repeat (first | exact SL.LeG.nil | refine SL.LeG.cons (by first | exact SL.Le.rfl _ | exact SL.Le.any _) ?_)); done)

/-! ### a for that searches: a fact of what is gone through -/
section
variable {F : Fx} {X : Cx} {iter : Expr} {body : List Stmt} {Γ : List Sd} {D : Ends} {pos : Pos}
theorem nx_and {F : Fx} {Γ Γ' : List Sd} {r : VK} {b c : L2.St → Hp → Prop} {P : Prop} (l : LeG Γ Γ') (p : P) : Nx F Γ ⟨fun σ H => Stt F Γ' σ H ∧ P, r, b, c⟩ := fun σ H h => ⟨h.le l, p⟩
theorem xs_forS (j : Nat) {α : Type} {xs : List α} {Y : α → Ty} {x : Str} {px : Pos} (hN : X.N.Nodup) (hi : XI F.W X (.Name x px) iter Γ xs Y) (Pm : List α → Prop) (Γi : List α → List Sd) (hP : Pm [])
    (hb : ∀ pre x post, xs = pre ++ x :: post → Pm pre → ∀ S hS, XSs (F.ghost S hS) X body ((Γi pre).set j (.ty (Y x))) ⟨fun σ H => Stt (F.ghost S hS) (Γi (pre ++ [x])) σ H ∧ Pm (pre ++ [x]), D.rt, D.nx, fun σ H => Stt (F.ghost S hS) (Γi (pre ++ [x])) σ H ∧ Pm (pre ++ [x])⟩) (k : Pm xs → Nx F (Γi xs) D)
    (h0 : LeG Γ (Γi []) := by repeat (first | exact LeG.nil | refine LeG.cons (by first | exact Le.rfl _ | exact Le.any _) ?_))
    (hp : PassesOwn (model X.prog X.w) X.A X.env X.xe := by exact PassesOwn.never) (hc : X.calm = true := by rfl) (hx : X.N[j]? = some x := by rfl) (hl : Loc X.env.scope x := by first | exact Or.inl rfl | exact Or.inr rfl)
    (hf : X.fn x = true ∨ X.env.scope.names.lookup x = some .local := by first | exact .inl rfl | exact .inr rfl)
    (hs : ∀ x, foldedSetIterable iter X.env x = pure x := by intro _; rfl) : XS F X (.For (.Name x px) iter body [] pos) Γ D := by
  obtain ⟨wi, i1, i2⟩ := hi
  refine ⟨_, ps_for hp hc i1 (pg_name hN hx hl hf) pss_sem hs, fun σ H ⟨G, a⟩ => i2 F.H0 σ G H a.ok a.sl _ fun J G1 H1 S Gw Yw r1 o1 hS s1 w hw hy => ?_⟩
  have a1 := a.run r1 o1
  refine for_it w (fun i σ H => Stt (F.ghost S hS) (Γi (xs.take i)) σ H ∧ Pm (xs.take i)) ⟨⟨G1, a1.rn, o1, a1.sl.le (by rw [List.take_zero]; exact h0), a1.g, s1⟩, by rw [List.take_zero]; exact hP⟩ (fun i σ H _ ⟨⟨G, z⟩, _⟩ => hw G H z.ok z.g.2) ?_ ?_
  · rintro i v σ' Ha Hb hlt ⟨⟨Ga, z⟩, zp⟩ y
    have hx : xs[i]? = some xs[i] := List.getElem?_eq_getElem hlt
    obtain ⟨e1, e2⟩ := split_at hx
    obtain ⟨Gb, rb, ob, mb⟩ := hy i xs[i] Ha v Hb Ga hx z.ok z.g.2 y
    have zb := z.run rb ob
    refine (tg_name (j := j)).run F.W F.H0 σ' Gb Hb v ob zb.sl mb _ fun σ2 s2 _ => ?_
    rw [e2]
    exact (hb _ _ _ e1 zp S hS).sem ⟨Gb, zb.rn, ob, s2, zb.g⟩
  · rintro σ' Ha ⟨⟨Ga, z⟩, zp⟩
    rw [List.take_length] at z zp
    exact k zp σ' Ha ⟨Ga, z.rn, z.ok, z.sl, z.g.1⟩
end

/-! ### what is handed back new and whole -/
def EvO (W : Wd) (te : TE) (Γ : List Sd) (R : OTy) : Prop := ∀ (H0 : Hp) (σ : L2.St) (G H : Hp), Ok W G H → Sl W H0 G H σ Γ → ∀ Q : VK, (∀ l o G' H', Rn W G H G' H' → Ok W G' H' → H l = none → H' l = some o → G' l = none → R.r G' o → Q (.ref l) H') → te σ H Q
def XEO (W : Wd) (X : Cx) (e : Expr) (Γ : List Sd) (R : OTy) : Prop := ∃ te, PE X e te ∧ EvO W te Γ R
def spO (W : Wd) (pre : List Ty → OTy → Prop) : Sp := fun vs H Q _ => ∃ Rs R G, pre Rs R ∧ Ok W G H ∧ AllTy G Rs vs ∧ ∀ l o G' H', Rn W G H G' H' → Ok W G' H' → H l = none → H' l = some o → G' l = none → R.r G' o → Q (.ref l) H'
def RtO (F : Fx) (R : OTy) (D : Ends) : Prop := ∀ l o G' H', Rn F.W F.G0 F.H0 G' H' → Ok F.W G' H' → F.H0 l = none → H' l = some o → G' l = none → R.r G' o → D.rt (.ref l) H'

/-! ### methods -/
structure MSrc (K : PySem.W.Frag) (C : Addr) (m qual : Str) (st : Stmt) (ps : List Str) : Prop where
  ex : ∃ f fd, Fun K m qual st f fd ∧ Meth K C m f ∧ Binds K fd ps []
structure MDef (P : Program) (w : World) (K : PySem.W.Frag) (mg : Str → Option Value) (base : Heap) (C : Addr) (k : Nat) (m : Str) (ps : List Str) (sp : Sp) : Prop where
  ex : ∃ f fd, FnOk P w K mg base CX0 k f fd ps sp ∧ Meth K C m f ∧ Binds K fd ps []
theorem MDef.mono {P : Program} {w : World} {K : PySem.W.Frag} {mg : Str → Option Value} {base : Heap} {C : Addr} {j k : Nat} {m : Str} {ps : List Str} {sp : Sp} (h : MDef P w K mg base C j m ps sp) (l : j ≤ k) : MDef P w K mg base C k m ps sp :=
  let ⟨f, fd, a, b, c⟩ := h.ex; ⟨f, fd, a.mono l, b, c⟩
theorem Def.mono {P : Program} {w : World} {K : PySem.W.Frag} {mg : Str → Option Value} {base : Heap} {j k : Nat} {m : Str} {ps : List Str} {sp : Sp} (h : Def P w K mg base j m ps sp) (l : j ≤ k) : Def P w K mg base k m ps sp :=
  let ⟨f, fd, a, b, c, d⟩ := h.ex; ⟨f, fd, a.mono l, b, c, d⟩
theorem start_at {W : Wd} {G H : Hp} {N : List Str} {Rs : List Ty} {vs : List V} (o : Ok W G H) (ha : AllTy G Rs vs) : At (Fx.of W G H) (Rs.map Sd.ty ++ List.replicate (N.length - Rs.length) Sd.any) (L2.start N vs) G H := by
  refine ⟨Rn.refl, o, ?_, trivial⟩
  have hlen := ha.len
  have get : ∀ (Rs : List Ty) (vs : List V), AllTy G Rs vs → ∀ (i : Nat) (S : Ty), Rs[i]? = some S → ∃ v, vs[i]? = some v ∧ S.r G v := by
    intro Rs
    induction Rs with
    | nil => intro vs _ i S h; simp at h
    | cons R Rs ih =>
      intro vs ha i S h
      cases vs with
      | nil => exact ha.elim
      | cons v vs =>
        cases i with
        | zero =>
          simp at h
          subst h
          exact ⟨v, rfl, ha.1⟩
        | succ i =>
          obtain ⟨u, h1, h2⟩ := ih vs ha.2 i S (by simpa using h)
          exact ⟨u, by simpa using h1, h2⟩
  have noMut : ∀ (i : Nat) (ds : OTy), (Rs.map Sd.ty ++ List.replicate (N.length - Rs.length) Sd.any)[i]? = some (.own ds) → False := by
    intro i ds h
    have hm := List.mem_of_getElem? h
    rcases List.mem_append.mp hm with z | z
    · obtain ⟨_, _, e⟩ := List.mem_map.mp z
      cases e
    · have := (List.mem_replicate.mp z).2
      cases this
  refine ⟨by simp [L2.start, hlen], fun i S h => ?_, fun i ds h => (noMut i ds h).elim, fun i j l ds es _ h => (noMut i ds h).elim⟩
  by_cases hi : i < Rs.length
  · rw [List.getElem?_append_left (by simpa using hi), List.getElem?_map] at h
    obtain ⟨S', e1, e2⟩ := Option.map_eq_some_iff.mp h
    cases e2
    obtain ⟨v, h1, h2⟩ := get Rs vs ha i S e1
    refine ⟨v, ?_, h2⟩
    unfold L2.start
    rw [List.getElem?_append_left (by simp; omega), List.getElem?_map, h1]
    rfl
  · have hm := List.mem_of_getElem? h
    rw [List.getElem?_append_right (by simp; omega)] at h
    have := (List.mem_replicate.mp (List.mem_of_getElem? h)).2
    cases this
section
variable {P : Program} {w : World} {K : PySem.W.Frag} {mg : Str → Option Value} {base : Heap} {k : Nat} {C : Addr} {m qual : Str} {st : Stmt} {ps N : List Str} {W : Wd}
theorem MDef.of {pre : List Ty → Ty → Prop} (S : MSrc K C m qual st ps) (sc : FnScope N ps (defScope st)) (len : ∀ Rs R, pre Rs R → Rs.length = ps.length)
    (body : ∀ (f : Addr) (cdv : Value) (A : Around) (outer : List Env) (s : Shared) (H : Hp) (E : XK), Room k (A.deeper (PyProof.Rows.envOfC qual (defScope st) s.heap.objs.size f cdv)) → ∀ (Rs : List Ty) (R : Ty), pre Rs R → ∀ (F : Fx) (D : Ends), F.W = W → Rt F R D → (∀ σ H', D.nx σ H' = D.rt .non H') →
      XSs F (Xc P w K mg base N qual st f cdv A outer s H E) (defBody st) (Rs.map Sd.ty ++ List.replicate (N.length - Rs.length) Sd.any) D) : MDef P w K mg base C (k + 1) m ps (spF W pre) := by
  obtain ⟨f, fd, F, hm, hb⟩ := S.ex
  refine ⟨f, fd, F.ok sc (fun vs H Q E ⟨Rs, R, G, hp, _, ha, _⟩ => by rw [ha.len, len Rs R hp]) (fun cdv A outer s H vs Q E hr h => ?_), hm, hb⟩
  obtain ⟨Rs, R, G, hp, o, ha, q⟩ := h
  obtain ⟨t, a1, a2⟩ := body f cdv A outer s H E hr Rs R hp (Fx.of W G H) { nx := fun _ H' => Q .non H', rt := Q } rfl (fun v G' H' r o m => q v G' H' r o m) (fun _ _ => rfl)
  exact ⟨t, a1, a2 _ _ ⟨G, start_at o ha⟩⟩
theorem MDef.ofO {pre : List Ty → OTy → Prop} (S : MSrc K C m qual st ps) (sc : FnScope N ps (defScope st)) (len : ∀ Rs R, pre Rs R → Rs.length = ps.length)
    (body : ∀ (f : Addr) (cdv : Value) (A : Around) (outer : List Env) (s : Shared) (H : Hp) (E : XK), Room k (A.deeper (PyProof.Rows.envOfC qual (defScope st) s.heap.objs.size f cdv)) → ∀ (Rs : List Ty) (R : OTy), pre Rs R → ∀ (F : Fx) (D : Ends), F.W = W → RtO F R D → (∀ σ H', D.nx σ H' = D.rt .non H') →
      XSs F (Xc P w K mg base N qual st f cdv A outer s H E) (defBody st) (Rs.map Sd.ty ++ List.replicate (N.length - Rs.length) Sd.any) D) : MDef P w K mg base C (k + 1) m ps (spO W pre) := by
  obtain ⟨f, fd, F, hm, hb⟩ := S.ex
  refine ⟨f, fd, F.ok sc (fun vs H Q E ⟨Rs, R, G, hp, _, ha, _⟩ => by rw [ha.len, len Rs R hp]) (fun cdv A outer s H vs Q E hr h => ?_), hm, hb⟩
  obtain ⟨Rs, R, G, hp, o, ha, q⟩ := h
  obtain ⟨t, a1, a2⟩ := body f cdv A outer s H E hr Rs R hp (Fx.of W G H) { nx := fun _ H' => Q .non H', rt := Q } rfl (fun l o G' H' r k h1 h2 h3 m => q l o G' H' r k h1 h2 h3 m) (fun _ _ => rfl)
  exact ⟨t, a1, a2 _ _ ⟨G, start_at o ha⟩⟩
end
/-! ### the object -/
def gf (ca so to kd : Addr) : List (Str × V) := putF "known" (.ref kd) (putF "told" (.ref to) (putF "some" (.ref so) (putF "cells" (.ref ca) [])))
theorem gf_cells (ca so to kd : Addr) : (gf ca so to kd).lookup ("cells" : Str) = some (.ref ca) := by
  unfold gf
  rw [lookup_putF, if_neg (by decide +kernel), lookup_putF, if_neg (by decide +kernel), lookup_putF, if_neg (by decide +kernel), lookup_putF, if_pos rfl]
theorem gf_some (ca so to kd : Addr) : (gf ca so to kd).lookup ("some" : Str) = some (.ref so) := by
  unfold gf
  rw [lookup_putF, if_neg (by decide +kernel), lookup_putF, if_neg (by decide +kernel), lookup_putF, if_pos rfl]
theorem gf_told (ca so to kd : Addr) : (gf ca so to kd).lookup ("told" : Str) = some (.ref to) := by
  unfold gf
  rw [lookup_putF, if_neg (by decide +kernel), lookup_putF, if_pos rfl]
theorem gf_known (ca so to kd : Addr) : (gf ca so to kd).lookup ("known" : Str) = some (.ref kd) := by
  unfold gf
  rw [lookup_putF, if_pos rfl]
theorem gf_no (ca so to kd : Addr) {m : Str} (h1 : ¬ m = "known") (h2 : ¬ m = "told") (h3 : ¬ m = "some") (h4 : ¬ m = "cells") : (gf ca so to kd).lookup m = none := by
  unfold gf
  rw [lookup_putF, if_neg h1, lookup_putF, if_neg h2, lookup_putF, if_neg h3, lookup_putF, if_neg h4]
  rfl
def goTy (C kd : Addr) (g : Gm) : Ty := ⟨fun G v => ∃ a dx ca so to, v = .ref a ∧ G a = some (.ins C dx (gf ca so to kd)) ∧ Dq G (.ref ca) (.list (g.cells.map encC)) ∧ Dq G (.ref so) (.list (g.lay.map encL)) ∧ Dq G (.ref to) (.list (g.told.map encI)),
  fun e h => by
    obtain ⟨a, dx, ca, so, to, h1, h2, h3, h4, h5⟩ := h
    exact ⟨a, dx, ca, so, to, h1, e _ _ h2, h3.mono e, h4.mono e, h5.mono e⟩⟩
structure GC (K : PySem.W.Frag) (mg : Str → Option Value) (C : Addr) : Prop where
  cl : Cls K C
  nC : NoAttr K C "cells"
  nS : NoAttr K C "some"
  nT : NoAttr K C "told"
  nK : NoAttr K C "known"
  mgC : mg "Going" = some (.ref C)
def refTy (a : Addr) : Ty := ⟨fun _ v => v = .ref a, fun _ h => h⟩
section
variable {W : Wd} {X : Cx} {Γ : List Sd} {o : Expr} {pos : Pos} {C kd : Addr} {g : Gm} {mg : Str → Option Value}
theorem xf_cells (T : GC X.K mg C) (h : XE W X o Γ (goTy C kd g)) (hb : attributeBase o "cells" X.env (eval o X.env) = eval o X.env := by rfl) : XE W X (.Attribute o "cells" pos) Γ (dL (g.cells.map encC)) := by
  obtain ⟨t, a1, a2⟩ := h
  refine ⟨_, pe_fld a1 hb, fun H0 σ G H k s Q q => a2 H0 σ G H k s _ fun v G1 H1 r1 o1 m1 => ?_⟩
  obtain ⟨a, dx, ca, so, to, rfl, h2, h3, h4, h5⟩ := m1
  exact ⟨a, C, dx, _, .ref ca, rfl, o1.ex _ _ h2, T.cl, T.nC, gf_cells _ _ _ _, q _ G1 H1 r1 o1 h3⟩
theorem xf_some (T : GC X.K mg C) (h : XE W X o Γ (goTy C kd g)) (hb : attributeBase o "some" X.env (eval o X.env) = eval o X.env := by rfl) : XE W X (.Attribute o "some" pos) Γ (dL (g.lay.map encL)) := by
  obtain ⟨t, a1, a2⟩ := h
  refine ⟨_, pe_fld a1 hb, fun H0 σ G H k s Q q => a2 H0 σ G H k s _ fun v G1 H1 r1 o1 m1 => ?_⟩
  obtain ⟨a, dx, ca, so, to, rfl, h2, h3, h4, h5⟩ := m1
  exact ⟨a, C, dx, _, .ref so, rfl, o1.ex _ _ h2, T.cl, T.nS, gf_some _ _ _ _, q _ G1 H1 r1 o1 h4⟩
theorem xf_told (T : GC X.K mg C) (h : XE W X o Γ (goTy C kd g)) (hb : attributeBase o "told" X.env (eval o X.env) = eval o X.env := by rfl) : XE W X (.Attribute o "told" pos) Γ (dL (g.told.map encI)) := by
  obtain ⟨t, a1, a2⟩ := h
  refine ⟨_, pe_fld a1 hb, fun H0 σ G H k s Q q => a2 H0 σ G H k s _ fun v G1 H1 r1 o1 m1 => ?_⟩
  obtain ⟨a, dx, ca, so, to, rfl, h2, h3, h4, h5⟩ := m1
  exact ⟨a, C, dx, _, .ref to, rfl, o1.ex _ _ h2, T.cl, T.nT, gf_told _ _ _ _, q _ G1 H1 r1 o1 h5⟩
theorem xf_known (T : GC X.K mg C) (h : XE W X o Γ (goTy C kd g)) (hb : attributeBase o "known" X.env (eval o X.env) = eval o X.env := by rfl) : XE W X (.Attribute o "known" pos) Γ (refTy kd) := by
  obtain ⟨t, a1, a2⟩ := h
  refine ⟨_, pe_fld a1 hb, fun H0 σ G H k s Q q => a2 H0 σ G H k s _ fun v G1 H1 r1 o1 m1 => ?_⟩
  obtain ⟨a, dx, ca, so, to, rfl, h2, h3, h4, h5⟩ := m1
  exact ⟨a, C, dx, _, .ref kd, rfl, o1.ex _ _ h2, T.cl, T.nK, gf_known _ _ _ _, q _ G1 H1 r1 o1 rfl⟩
variable {W' : Wd} {k : Nat} {m : Str} {ps : List Str} {e : Expr} {es : List Expr} {Rs : List Ty} {R : Ty} {apos : Pos}
theorem xmeth {pre : List Ty → Ty → Prop} {pl : Sem Bool} (T : GC X.K mg C) (F : MDef X.prog X.w X.K X.mg X.base C k m ps (spF W pre)) (hr : Room k X.A) (ho : XE W X o Γ (goTy C kd g)) (ha : XA W X (e :: es) Γ Rs) (hp : pre (goTy C kd g :: Rs) R) (hm : ∀ ca so to kd, (gf ca so to kd).lookup m = none)
    (hst : starEach (e :: es) X.env = (false, eval e X.env) :: starEach es X.env := by rfl) (hpl : (backTo pos (starEach es X.env)).any (·.1) = false := by rfl)
    (ht : eval (.Call (.Attribute o m apos) (e :: es) [] pos) X.env = (do
      let ov ← eval o X.env
      standAt apos.atName
      let (f, first) ← holding [ov] (getMethod ov m pl)
      callWith pos f first (backTo pos (starEach (e :: es) X.env)) (backToKw pos (keywordEach [] X.env))) := by rfl) : XE W X (.Call (.Attribute o m apos) (e :: es) [] pos) Γ R := by
  obtain ⟨f, fd, F, hme, hb⟩ := F.ex
  obtain ⟨t, a1, a2⟩ := ho
  obtain ⟨u, b1, b2⟩ := ha
  refine ⟨_, pe_meth a1 T.cl hme F hr hb .nil pass0 b1 hst hpl ht, fun H0 σ G H k s Q q => a2 H0 σ G H k s _ fun v G1 H1 r1 o1 m1 => ?_⟩
  obtain ⟨a, dx, ca, so, to, rfl, h2⟩ := id m1
  refine ⟨a, dx, _, rfl, o1.ex _ _ h2.1, hm _ _ _ _, b2 H0 σ G1 H1 o1 (s.run r1) _ fun vs G2 H2 r2 o2 m2 => ?_⟩
  rw [List.append_nil]
  exact ⟨_, R, G2, hp, o2, ⟨(goTy C kd g).mono r2.gg m1, m2⟩, fun v G' H' r o' z => q v G' H' ((r1.trans r2).trans r) o' z⟩
theorem xmeth0 {pre : List Ty → Ty → Prop} {pl : Sem Bool} (T : GC X.K mg C) (F : MDef X.prog X.w X.K X.mg X.base C k m ps (spF W0 pre)) (hr : Room k X.A) (ho : XE W X o Γ (goTy C kd g)) (ha : XA W X (e :: es) Γ Rs) (hp : pre (goTy C kd g :: Rs) R) (hm : ∀ ca so to kd, (gf ca so to kd).lookup m = none)
    (hst : starEach (e :: es) X.env = (false, eval e X.env) :: starEach es X.env := by rfl) (hpl : (backTo pos (starEach es X.env)).any (·.1) = false := by rfl)
    (ht : eval (.Call (.Attribute o m apos) (e :: es) [] pos) X.env = (do
      let ov ← eval o X.env
      standAt apos.atName
      let (f, first) ← holding [ov] (getMethod ov m pl)
      callWith pos f first (backTo pos (starEach (e :: es) X.env)) (backToKw pos (keywordEach [] X.env))) := by rfl) : XE W X (.Call (.Attribute o m apos) (e :: es) [] pos) Γ R := by
  obtain ⟨f, fd, F, hme, hb⟩ := F.ex
  obtain ⟨t, a1, a2⟩ := ho
  obtain ⟨u, b1, b2⟩ := ha
  refine ⟨_, pe_meth a1 T.cl hme F hr hb .nil pass0 b1 hst hpl ht, fun H0 σ G H k s Q q => a2 H0 σ G H k s _ fun v G1 H1 r1 o1 m1 => ?_⟩
  obtain ⟨a, dx, ca, so, to, rfl, h2⟩ := id m1
  refine ⟨a, dx, _, rfl, o1.ex _ _ h2.1, hm _ _ _ _, b2 H0 σ G1 H1 o1 (s.run r1) _ fun vs G2 H2 r2 o2 m2 => ?_⟩
  rw [List.append_nil]
  exact ⟨_, R, G2, hp, o2.to0, ⟨(goTy C kd g).mono r2.gg m1, m2⟩, fun v G' H' r o' z => q v G' H' ((r1.trans r2).trans r.of0) (Ok.of0 r o2 o') z⟩
/-- a method that hands back something new -/
theorem xmethO {pre : List Ty → OTy → Prop} {R : OTy} {pl : Sem Bool} (T : GC X.K mg C) (F : MDef X.prog X.w X.K X.mg X.base C k m ps (spO W0 pre)) (hr : Room k X.A) (ho : XE W X o Γ (goTy C kd g)) (ha : XA W X (e :: es) Γ Rs) (hp : pre (goTy C kd g :: Rs) R) (hm : ∀ ca so to kd, (gf ca so to kd).lookup m = none)
    (hst : starEach (e :: es) X.env = (false, eval e X.env) :: starEach es X.env := by rfl) (hpl : (backTo pos (starEach es X.env)).any (·.1) = false := by rfl)
    (ht : eval (.Call (.Attribute o m apos) (e :: es) [] pos) X.env = (do
      let ov ← eval o X.env
      standAt apos.atName
      let (f, first) ← holding [ov] (getMethod ov m pl)
      callWith pos f first (backTo pos (starEach (e :: es) X.env)) (backToKw pos (keywordEach [] X.env))) := by rfl) : XEO W X (.Call (.Attribute o m apos) (e :: es) [] pos) Γ R := by
  obtain ⟨f, fd, F, hme, hb⟩ := F.ex
  obtain ⟨t, a1, a2⟩ := ho
  obtain ⟨u, b1, b2⟩ := ha
  refine ⟨_, pe_meth a1 T.cl hme F hr hb .nil pass0 b1 hst hpl ht, fun H0 σ G H k s Q q => a2 H0 σ G H k s _ fun v G1 H1 r1 o1 m1 => ?_⟩
  obtain ⟨a, dx, ca, so, to, rfl, h2⟩ := id m1
  refine ⟨a, dx, _, rfl, o1.ex _ _ h2.1, hm _ _ _ _, b2 H0 σ G1 H1 o1 (s.run r1) _ fun vs G2 H2 r2 o2 m2 => ?_⟩
  rw [List.append_nil]
  have r12 := r1.trans r2
  refine ⟨_, R, G2, hp, o2.to0, ⟨(goTy C kd g).mono r2.gg m1, m2⟩, fun l ob G' H' r o' z1 z2 z3 z4 => q l ob G' H' (r12.trans r.of0) (Ok.of0 r o2 o') ?_ z2 z3 z4⟩
  cases q0 : H l with
  | none => rfl
  | some u => exact absurd z1 (r12.hd l (by rw [q0]; exact fun y => nomatch y))
end
end SL
set_option maxRecDepth 100000
set_option maxHeartbeats 4000000
namespace SL
open PySem L2 Evl
local macro_rules | `(tactic| trivial) => `(tactic| (repeat (first | exact SL.LeG.nil | refine SL.LeG.cons (by first | exact SL.Le.rfl _ | exact SL.Le.any _) ?_)); done)
abbrev encN (l : List Nat) : PyData := .list (l.map fun i : Nat => PyData.int (i : Int))
inductive GrK (G : Hp) : List (Key × V) → List Grp → Prop where
  | nil : GrK G [] []
  | cons {t : Int} {l : List Nat} {v : V} {r : List (Key × V)} {s : List Grp} : Dq G v (encN l) → GrK G r s → GrK G ((Sum.inl t, v) :: r) ((t, l) :: s)
theorem GrK.mono {G G' : Hp} (e : Ex G G') : ∀ {r : List (Key × V)} {s : List Grp}, GrK G r s → GrK G' r s
  | _, _, .nil => .nil
  | _, _, .cons a t => .cons (a.mono e) (t.mono e)
theorem GrK.len {G : Hp} : ∀ {r : List (Key × V)} {s : List Grp}, GrK G r s → r.length = s.length
  | _, _, .nil => rfl
  | _, _, .cons _ t => congrArg (· + 1) t.len
theorem GrK.get {G : Hp} : ∀ {r : List (Key × V)} {s : List Grp} {i : Nat} {x : Grp}, GrK G r s → s[i]? = some x → ∃ v, r[i]? = some (Sum.inl x.1, v) ∧ Dq G v (encN x.2)
  | _, _, _, _, .nil, h => by simp at h
  | _, _, 0, x, .cons a t, h => by
    simp at h
    subst h
    exact ⟨_, rfl, a⟩
  | _, _, i + 1, x, .cons _ t, h => by
    obtain ⟨v, h1, h2⟩ := GrK.get (i := i) t (by simpa using h)
    exact ⟨v, by simpa using h1, h2⟩
def grO (gs : List Grp) : OTy := ⟨fun G o => ∃ kvs, o = .dK kvs ∧ GrK G kvs gs, fun e h => let ⟨kvs, h1, h2⟩ := h; ⟨kvs, h1, h2.mono e⟩⟩
/-- a dict just made is locked -/
def tLk (td : TE) : TE := fun σ H Q => td σ H fun x H1 => ∃ d u, x = .ref d ∧ H1 d = some u ∧ Mut (some u) ∧ ∀ od, Q x (upd H1 d (.frz od u))
theorem pe_lk {X : Cx} {e : Expr} {td : TE} (h : PE X e td) : PE X e (tLk td) := by
  refine ⟨fun pins s σ H Q I hw => ?_⟩
  refine thn (h.run pins s σ H _ I hw) fun u s1 ⟨x, H1, I1, rx, d, ob, ex, hd, mu, q⟩ => ?_
  obtain ⟨od, I2⟩ := I1.lock hd mu
  exact ⟨x, _, I2, rx, q od⟩
section
variable {W : Wd} {X : Cx} {Γ : List Sd} {e : Expr} {pos apos tpos : Pos} {elts : List Expr} {kk : Nat} {gs : List Grp}
theorem xi_items (h : XEO W X e Γ (grO gs)) (hz : ∀ {te : TE}, PE X e te → PI X (.Tuple elts kk tpos) (.Call (.Attribute e "items" apos) [] [] pos) (iItems te)) :
    XI W X (.Tuple elts kk tpos) (.Call (.Attribute e "items" apos) [] [] pos) Γ gs (fun g => dT [.int g.1, encN g.2]) := by
  obtain ⟨t, a1, a2⟩ := h
  refine ⟨_, hz (pe_lk a1), fun H0 σ G H o s R k => a2 H0 σ G H o s _ fun d ob G1 H1 r1 o1 h0 h1 h2 m1 => ?_⟩
  obtain ⟨kvs, rfl, hk⟩ := m1
  refine ⟨d, _, rfl, h1, trivial, fun od => ⟨d, od, kvs, rfl, upd_same, ?_⟩⟩
  have nh : ¬ W.hid d := fun z => W.on o.inv z h0
  have ex1 : Ex G1 (upd G1 d (.frz od (.dK kvs))) := Ex.new h2
  have o2 : Ok W (upd G1 d (.frz od (.dK kvs))) (upd H1 d (.frz od (.dK kvs))) := (o1.write h2 nh).freeze upd_same h2 nh
  have r2 : Rn W G H (upd G1 d (.frz od (.dK kvs))) (upd H1 d (.frz od (.dK kvs))) := (r1.write h0).freeze h2 h0
  refine k (Iti d od kvs) _ _ (fun A => A d = some (.frz od (.dK kvs)) ∧ GrK A kvs gs) (fun A => A d = some (.frz od (.dK kvs))) _ r2 o2 (fun A B e z => ⟨e _ _ z.1, z.2.mono e⟩) ⟨upd_same, hk.mono ex1⟩ (hk.len ▸ walk_items) (fun Ga Ha oa z => oa.ex _ _ z.1) ?_
  rintro i x Ha v Hb Ga hi oa ⟨z1, z2⟩ ⟨T, v1, v2, rfl, hT, hHb, g1, g2⟩
  obtain ⟨u, hu, du⟩ := z2.get hi
  have g1 : Option.map (fun kv : Key × V => kV kv.1) kvs[i]? = some v1 := g1
  have g2 : Option.map Prod.snd kvs[i]? = some v2 := g2
  rw [hu] at g1 g2
  cases g1
  cases g2
  exact pair_new oa hT hHb (Dq.int _) du
end
/-! ### by hand, with any state -/
def XSP (X : Cx) (st : Stmt) (Pre : L2.St → Hp → Prop) (D : Ends) : Prop := ∃ t, PS X st t ∧ ∀ σ H, Pre σ H → t D σ H
def XSPs (X : Cx) (st : List Stmt) (Pre : L2.St → Hp → Prop) (D : Ends) : Prop := ∃ t, PSs X st t ∧ ∀ σ H, Pre σ H → t D σ H
section
variable {F : Fx} {X : Cx} {iter : Expr} {body rest : List Stmt} {st : Stmt} {Γ : List Sd} {D : Ends} {pos : Pos} {Pre Mid : L2.St → Hp → Prop}
theorem xp_cons (h : XSP X st Pre ⟨Mid, D.rt, D.bk, D.ct⟩) (k : XSPs X rest Mid D) : XSPs X (st :: rest) Pre D := by
  obtain ⟨t, a1, a2⟩ := h
  obtain ⟨u, b1, b2⟩ := k
  exact ⟨_, pss_cut a1 b1, fun σ H s => ⟨Mid, a2 σ H s, b2⟩⟩
theorem xp_one (h : XSP X st Pre D) : XSPs X [st] Pre D := let ⟨t, a, b⟩ := h; ⟨t, pss_one a, b⟩
theorem XSPs.sem (h : XSPs X body Pre D) {σ : L2.St} {H : Hp} (s : Pre σ H) : tSemS X body D σ H := fun pins st I => let ⟨_, a, b⟩ := h; a.run pins st σ H D I (b σ H s)
theorem xp_forN (j : Nat) {α : Type} {xs : List α} {Y : α → Ty} {x : Str} {px : Pos} (hN : X.N.Nodup) (I : List α → L2.St → Hp → Hp → Prop) (hi : XI F.W X (.Name x px) iter Γ xs Y) (hat : ∀ pre σ G H, I pre σ G H → At F Γ σ G H) (hrun : ∀ pre σ G H G' H', I pre σ G H → Rn F.W G H G' H' → Ok F.W G' H' → I pre σ G' H')
    (h0 : ∀ σ H, Pre σ H → ∃ G, I [] σ G H)
    (hb : ∀ pre x post, xs = pre ++ x :: post → ∀ S : Hp → Prop, (∀ A B : Hp, Ex A B → S A → S B) → XSPs X body (fun σ H => ∃ σ0 G v, I pre σ0 G H ∧ S G ∧ σ = σ0.set j (some v) ∧ (Y x).r G v) ⟨fun σ H => ∃ G, I (pre ++ [x]) σ G H ∧ S G, D.rt, D.nx, fun σ H => ∃ G, I (pre ++ [x]) σ G H ∧ S G⟩)
    (k : ∀ σ G H, I xs σ G H → D.nx σ H)
    (hp : PassesOwn (model X.prog X.w) X.A X.env X.xe := by exact PassesOwn.never) (hc : X.calm = true := by rfl) (hx : X.N[j]? = some x := by rfl) (hl : Loc X.env.scope x := by first | exact Or.inl rfl | exact Or.inr rfl)
    (hf : X.fn x = true ∨ X.env.scope.names.lookup x = some .local := by first | exact .inl rfl | exact .inr rfl)
    (hs : ∀ x, foldedSetIterable iter X.env x = pure x := by intro _; rfl) : XSP X (.For (.Name x px) iter body [] pos) Pre D := by
  obtain ⟨wi, i1, i2⟩ := hi
  refine ⟨_, ps_for hp hc i1 (pg_name hN hx hl hf) pss_sem hs, fun σ H hpre => ?_⟩
  obtain ⟨G, z⟩ := h0 σ H hpre
  have a := hat _ _ _ _ z
  refine i2 F.H0 σ G H a.ok a.sl _ fun J G1 H1 S Gw Yw r1 o1 hS s1 w hw hy => ?_
  refine for_it w (fun i σ H => ∃ G, I (xs.take i) σ G H ∧ S G) ⟨G1, by rw [List.take_zero]; exact hrun _ _ _ _ _ _ z r1 o1, s1⟩ (fun i σ H _ ⟨G, z, s⟩ => hw G H (hat _ _ _ _ z).ok s) ?_ ?_
  · rintro i v σ' Ha Hb hlt ⟨Ga, z, sz⟩ y
    have hx : xs[i]? = some xs[i] := List.getElem?_eq_getElem hlt
    obtain ⟨e1, e2⟩ := split_at hx
    obtain ⟨Gb, rb, ob, mb⟩ := hy i xs[i] Ha v Hb Ga hx (hat _ _ _ _ z).ok sz y
    show tSemS X body _ (σ'.set j (some v)) Hb
    rw [e2]
    exact (hb _ _ _ e1 S hS).sem ⟨σ', Gb, v, hrun _ _ _ _ _ _ z rb ob, hS _ _ rb.gg sz, rfl, mb⟩
  · rintro σ' Ha ⟨Ga, z, _⟩
    rw [List.take_length] at z
    exact k σ' Ga Ha z
end
section
variable {F : Fx} {X : Cx} {c : Expr} {as bs : List Stmt} {Γ1 : List Sd} {D : Ends} {pos : Pos} {Pre : L2.St → Hp → Prop} {Res : L2.St → Hp → Hp → Prop}
theorem xp_if {b : Bool} (hc : XT F.W X c Γ1 b) (hat : ∀ σ H, Pre σ H → ∃ G, At F Γ1 σ G H ∧ Res σ G H) (hrun : ∀ σ G H G' H', At F Γ1 σ G H → Res σ G H → Rn F.W G H G' H' → Ok F.W G' H' → Res σ G' H')
    (h1 : b = true → XSPs X as (fun σ H => ∃ G, At F Γ1 σ G H ∧ Res σ G H) D) (h2 : b = false → XSPs X bs (fun σ H => ∃ G, At F Γ1 σ G H ∧ Res σ G H) D) : XSP X (.If c as bs pos) Pre D := by
  obtain ⟨t, a1, a2⟩ := hc
  cases b with
  | true =>
    obtain ⟨u, b1, b2⟩ := h1 rfl
    exact ⟨_, ps_if a1 b1 pss_never, fun σ H z => let ⟨G, a, r⟩ := hat σ H z; a2 _ σ G H a.ok a.sl _ fun G1 H1 r1 o1 => iteT (b2 _ _ ⟨G1, a.run r1 o1, hrun _ _ _ _ _ a r r1 o1⟩)⟩
  | false =>
    obtain ⟨u, b1, b2⟩ := h2 rfl
    exact ⟨_, ps_if a1 pss_never b1, fun σ H z => let ⟨G, a, r⟩ := hat σ H z; a2 _ σ G H a.ok a.sl _ fun G1 H1 r1 o1 => iteF (b2 _ _ ⟨G1, a.run r1 o1, hrun _ _ _ _ _ a r r1 o1⟩)⟩
theorem xp_nil (k : ∀ σ H, Pre σ H → D.nx σ H) : XSPs X [] Pre D := ⟨_, pss_nil, fun σ H h => k σ H h⟩
end
theorem xp_with {F : Fx} {X : Cx} {Γ1 : List Sd} {D : Ends} {st : Stmt} {e : Expr} {Pre : L2.St → Hp → Prop} (R : Ty) (hst : ∀ {te : TE}, PE X e te → EvP F.W te Γ1 R → ∃ t, PS X st t ∧ ∀ σ H, Pre σ H → t D σ H) (he : XE F.W X e Γ1 R) : XSP X st Pre D := by
  obtain ⟨te, h1, h2⟩ := he
  exact hst h1 h2
/-! ### groups -/
theorem at_map {α β : Type} {f : α → β} {l : List α} {d : α} {p : Nat} (h : p < l.length) : atI (l.map f) (p : Int) = some (f (l.getD p d)) := by
  refine atI_of (n := p) rfl ?_
  rw [List.getElem?_map, List.getElem?_eq_getElem h, List.getD_eq_getElem?_getD, List.getElem?_eq_getElem h]
  rfl
theorem at_mapI {l : List Int} {p : Nat} (h : p < l.length) : atI (l.map PyData.int) (p : Int) = some (.int (l.getD p 0)) := at_map h
/-- lists that are still filled, one a group -/
inductive GrM (W : Wd) (H0 G H : Hp) : List (Key × V) → List Grp → List Addr → Prop where
  | nil : GrM W H0 G H [] [] []
  | cons {t : Int} {m : List Nat} {l : Addr} {r : List (Key × V)} {s : List Grp} {ls : List Addr} : H l = some (.lst (m.map fun i : Nat => V.int (i : Int))) → G l = none → H0 l = none → ¬ W.hid l → GrM W H0 G H r s ls → GrM W H0 G H ((Sum.inl t, .ref l) :: r) ((t, m) :: s) (l :: ls)
section
variable {W : Wd} {H0 G H G1 H1 : Hp} {r : List (Key × V)} {s : List Grp} {ls : List Addr}
theorem GrM.run (a : Rn W G H G1 H1) : ∀ {r : List (Key × V)} {s : List Grp} {ls : List Addr}, GrM W H0 G H r s ls → GrM W H0 G1 H1 r s ls
  | _, _, _, .nil => .nil
  | _, _, _, .cons h1 h2 h3 h4 t => .cons (a.hh _ _ h4 h1) (a.dj _ (by rw [h1]; exact fun z => nomatch z) h2) h3 h4 (t.run a)
theorem GrM.len : ∀ {r : List (Key × V)} {s : List Grp} {ls : List Addr}, GrM W H0 G H r s ls → r.length = s.length
  | _, _, _, .nil => rfl
  | _, _, _, .cons _ _ _ _ t => congrArg (· + 1) t.len
/-- written elsewhere -/
theorem GrM.upd {d : Addr} {o : HO} : ∀ {r : List (Key × V)} {s : List Grp} {ls : List Addr}, GrM W H0 G H r s ls → d ∉ ls → GrM W H0 G (upd H d o) r s ls
  | _, _, _, .nil, _ => .nil
  | _, _, _, .cons (l := l) h1 h2 h3 h4 t, n => .cons (by rw [upd_ne (fun e => n (by simp [← e]))]; exact h1) h2 h3 h4 (t.upd fun z => n (List.mem_cons_of_mem _ z))
theorem GrM.there : ∀ {r : List (Key × V)} {s : List Grp} {ls : List Addr}, GrM W H0 G H r s ls → ∀ l ∈ ls, ∃ o, H l = some o
  | _, _, _, .cons h1 h2 h3 h4 t, l, hl => by
    rcases List.mem_cons.mp hl with e | e
    · subst e; exact ⟨_, h1⟩
    · exact t.there l e
/-- the group of t, where it is -/
theorem GrM.find {t : Int} {i : Nat} : ∀ {r : List (Key × V)} {s : List Grp} {ls : List Addr} {v : V}, GrM W H0 G H r s ls → ls.Nodup → valV r (Sum.inl t) = some v → ∃ l m, v = .ref l ∧ l ∈ ls ∧ H l = some (.lst (m.map fun i : Nat => V.int (i : Int))) ∧
    GrM W H0 G (L2.upd H l (.lst ((m ++ [i]).map fun i : Nat => V.int (i : Int)))) r (addG s t i) ls ∧ ∃ u, (u, m) ∈ s
  | _, _, _, v, .cons (t := u) (m := m) (l := l) (r := r) (s := s) (ls := ls) h1 h2 h3 h4 tl, nd, hv => by
    obtain ⟨nl, nd'⟩ := List.nodup_cons.mp nd
    by_cases e : u = t
    · subst e
      rw [valV_pos rfl] at hv
      cases hv
      refine ⟨l, m, rfl, by simp, h1, ?_, u, by simp⟩
      unfold addG
      rw [if_pos rfl]
      exact .cons upd_same h2 h3 h4 (tl.upd nl)
    · rw [valV_neg (fun z => e (Sum.inl.inj z))] at hv
      obtain ⟨l2, m2, q1, q2, q3, q4, w, q5⟩ := GrM.find (i := i) tl nd' hv
      have ne : l ≠ l2 := fun z => nl (z ▸ q2)
      refine ⟨l2, m2, q1, List.mem_cons_of_mem _ q2, q3, ?_, w, List.mem_cons_of_mem _ q5⟩
      unfold addG
      rw [if_neg e]
      exact .cons (by rw [upd_ne ne]; exact h1) h2 h3 h4 q4
/-- a new group -/
theorem GrM.new {t : Int} {i : Nat} {p : Addr} (hp : H p = some (.lst [V.int (i : Int)])) (g : G p = none) (g0 : H0 p = none) (nh : ¬ W.hid p) : ∀ {r : List (Key × V)} {s : List Grp} {ls : List Addr}, GrM W H0 G H r s ls → valV r (Sum.inl t) = none → GrM W H0 G H (r ++ [(Sum.inl t, .ref p)]) (addG s t i) (ls ++ [p])
  | _, _, _, .nil, _ => .cons hp g g0 nh .nil
  | _, _, _, .cons (t := u) (m := m) (l := l) (r := r) (s := s) (ls := ls) h1 h2 h3 h4 tl, hv => by
    have e : ¬ u = t := fun z => by
      subst z
      rw [valV_pos rfl] at hv
      cases hv
    rw [valV_neg (fun z => e (Sum.inl.inj z))] at hv
    unfold addG
    rw [if_neg e]
    exact .cons h1 h2 h3 h4 (GrM.new hp g g0 nh tl hv)
end
/-- all frozen -/
theorem GrM.frz {F : Fx} {Γ : List Sd} {σ : L2.St} {H : Hp} : ∀ {r : List (Key × V)} {s : List Grp} {ls : List Addr} {G : Hp}, At F Γ σ G H → GrM F.W F.H0 G H r s ls → ls.Nodup → (∀ (i : Nat) (R : OTy) (l : Addr), Γ[i]? = some (Sd.own R) → σ[i]? = some (some (V.ref l)) → l ∉ ls) → ∃ G', At F Γ σ G' H ∧ Ex G G' ∧ GrK G' r s ∧ ∀ a, a ∉ ls → G' a = G a
  | _, _, _, G, a, .nil, _, _ => ⟨G, a, Ex.refl G, .nil, fun _ _ => rfl⟩
  | _, _, _, G, a, .cons (l := l) (ls := ls) (m := m) h1 h2 h3 h4 t, nd, no => by
    obtain ⟨nl, nd'⟩ := List.nodup_cons.mp nd
    obtain ⟨G1, a1, e1, k1, f1⟩ := GrM.frz a t nd' fun i R l hi hs hm => no i R l hi hs (List.mem_cons_of_mem _ hm)
    have g1 : G1 l = none := by rw [f1 l nl]; exact h2
    have ex : Ex G1 (L2.upd G1 l (.lst (m.map fun i : Nat => V.int (i : Int)))) := Ex.new g1
    refine ⟨L2.upd G1 l (.lst (m.map fun i : Nat => V.int (i : Int))), ⟨a1.rn.freeze g1 h3, a1.ok.freeze h1 g1 h4, ⟨a1.sl.len, fun i R hi => ?_, fun i R hi => ?_, a1.sl.ap⟩, F.ghm ex a1.g⟩, e1.trans ex, .cons ?_ (k1.mono ex), fun b hb => ?_⟩
    · obtain ⟨v, q1, q2⟩ := a1.sl.ty i R hi
      exact ⟨v, q1, R.mono ex q2⟩
    · obtain ⟨b, o, q1, q2, q3, q4, q5, q6⟩ := a1.sl.mu i R hi
      have ne : b ≠ l := fun e => no i R b hi q1 (by simp [e])
      exact ⟨b, o, q1, q2, by rw [upd_ne ne]; exact q3, q4, q5, R.mono ex q6⟩
    · refine .lst upd_same ?_
      have all : ∀ m : List Nat, DqAll (L2.upd G1 l (.lst (m.map fun i : Nat => V.int (i : Int)))) (m.map fun i : Nat => V.int (i : Int)) (m.map fun i : Nat => PyData.int (i : Int)) := fun m => by
        generalize L2.upd G1 l (.lst (m.map fun i : Nat => V.int (i : Int))) = A
        induction m with
        | nil => exact .nil
        | cons x r ih => exact .cons (.int _) ih
      exact all m
    · have hb1 : b ≠ l := fun e => hb (by simp [e])
      rw [upd_ne hb1]
      exact f1 b fun z => hb (List.mem_cons_of_mem _ z)
abbrev sGo : Stmt := top 25
abbrev sGroups : Stmt := inClass sGo 1
abbrev sOver : Stmt := inClass sGo 2
abbrev sManyIf : Stmt := inClass sGo 3
abbrev sMany : Stmt := inClass sGo 4
abbrev sBestP : Stmt := inClass sGo 5
abbrev sPlan : Stmt := inClass sGo 6
abbrev sInit : Stmt := inClass sGo 0
structure LvOk (g : Gm) (left : List Nat) : Prop where
  f : g.Fine
  l : left.length ≤ 256
  i : ∀ i ∈ left, i < g.lay.length
def preGroups (C kd : Addr) (g : Gm) : List Ty → OTy → Prop := fun Rs R => ∃ (left : List Nat) (p : Nat), Rs = [goTy C kd g, dat (encN left), dI (p : Int)] ∧ R = grO (g.groups left p) ∧ LvOk g left ∧ p < g.cells.length
abbrev nGr : List Str := ["self", "left", "place", "found", "one"]
section
variable {P : Program} {w : World} {K : PySem.W.Frag} {mg : Str → Option Value} {base : Heap} {C kd : Addr} {g : Gm}
theorem scGr : FnScope nGr ["self", "left", "place"] (defScope sGroups) := ⟨rfl, rfl, rfl, by decide +kernel, rfl, by decide +kernel, by decide +kernel⟩
theorem def_groups (S : MSrc K C "groups" "Going.groups" sGroups ["self", "left", "place"]) (T : GC K mg C) : MDef P w K mg base C 1 "groups" ["self", "left", "place"] (spO W0 (preGroups C kd g)) := by
  refine MDef.ofO S scGr (fun Rs R h => by obtain ⟨a, b, rfl, _⟩ := h; rfl) fun f cdv A outer s H E hr Rs R hp F D hW hrt _ => ?_
  obtain ⟨left, p, rfl, rfl, hL, hpc⟩ := hp
  have nd := scGr.nd
  have htl : p < g.told.length := by rw [hL.f.tl]; exact hpc
  -- the state between the turns
  let Γ0 : List Sd := [Sd.ty (goTy C kd g), sd (encN left), sd (.int (p : Int)), .any, .any]
  let GI : List Nat → L2.St → Hp → Hp → Prop := fun pre σ G H => At F Γ0 σ G H ∧ ∃ d kvs ls, σ[3]? = some (some (.ref d)) ∧ H d = some (.dK kvs) ∧ G d = none ∧ F.H0 d = none ∧ ¬ F.W.hid d ∧ GrM F.W F.H0 G H kvs (g.groups pre p) ls ∧ ls.Nodup ∧ d ∉ ls
  have hd0 : ∀ {σ : L2.St} {G H : Hp} {Γ : List Sd}, At F Γ σ G H → ∀ q, H q = none → F.H0 q = none ∧ G q = none ∧ ¬ F.W.hid q := fun a q hq => ⟨a.fresh0 hq, none_of_ex a.ok.ex hq, fun z => F.W.on a.ok.inv z hq⟩
  show XSPs _ _ (Stt F Γ0) D
  refine xp_cons (Mid := fun σ H => ∃ G, GI [] σ G H) ⟨_, ps_set (i := 3) nd rfl (Or.inl rfl) pe_dnewK, ?_⟩ (xp_cons (Mid := fun σ H => ∃ G, GI left σ G H) (xp_forN 4 nd GI (Γ := Γ0) (xi_list (xs := left) (enc := fun i : Nat => PyData.int (i : Int)) (xn 1)) (fun pre σ G H z => z.1) ?_ (fun σ H z => z) ?_ (fun σ G H z => ⟨G, z⟩)) (xp_one ⟨_, ps_ret (pv 3), ?_⟩))
  · rintro σ H ⟨G, a⟩ d hd
    have q := hd0 a d hd
    have a1 : At F Γ0 σ G (upd H d (.dK [])) := a.run (Rn.allocM hd) (a.ok.allocM hd)
    have hlen : 3 < σ.length := by rw [a.sl.len]; show 3 < 5; decide
    refine ⟨G, ⟨a1.rn, a1.ok, ?_, a1.g⟩, d, [], [], by rw [List.getElem?_set_self hlen], upd_same, q.2.1, q.1, q.2.2, .nil, List.nodup_nil, by simp⟩
    exact (a1.sl.set (i := 3) (v := .ref d) (R := refTy d) rfl).forget 3
  · rintro pre σ G H G' H' ⟨a, d, kvs, ls, h1, h2, h3, h4, h5, h6, h7, h8⟩ r o
    exact ⟨a.run r o, d, kvs, ls, h1, r.hh _ _ h5 h2, r.dj _ (by rw [h2]; exact fun z => nomatch z) h3, h4, h5, h6.run r, h7, h8⟩
  · intro pre x post he S hS
    have hx : x ∈ left := by rw [he]; simp
    have hxl : x < g.lay.length := hL.i x hx
    let Γ1 : List Sd := [Sd.ty (goTy C kd g), sd (encN left), sd (.int (p : Int)), .any, sd (.int (x : Int))]
    let Res : L2.St → Hp → Hp → Prop := fun σ G H => S G ∧ ∃ d kvs ls, σ[3]? = some (some (.ref d)) ∧ H d = some (.dK kvs) ∧ G d = none ∧ F.H0 d = none ∧ ¬ F.W.hid d ∧ GrM F.W F.H0 G H kvs (g.groups pre p) ls ∧ ls.Nodup ∧ d ∉ ls
    refine xp_one (xp_if (F := F) (Γ1 := Γ1) (Res := Res) (b := !g.has p x) (XT.eq (xtcmp (op_notInD hr.u65) (xix ix_list (xf_cells T (xn 0)) (xn 2) (rv_ixL (at_map (d := ((0 : Int), (0 : Int))) hpc)) (fun _ _ => rfl)) (xix ix_list (xf_some T (xn 0)) (xn 4) (rv_ixL (at_map (d := ([] : List Cell)) hxl)) (fun _ _ => rfl)) (rv_notInD (shaped_C _) (shaped_Cs _)) rfl) ?_) ?_ ?_ (fun hb => ?_) (fun hb => xp_nil ?_))
    · rw [any_C]
      rfl
    · rintro σ H ⟨σ0, G, v, ⟨a, d, kvs, ls, h1, h⟩, s, rfl, hv⟩
      exact ⟨G, ⟨a.rn, a.ok, a.sl.set (i := 4) (R := dI (x : Int)) hv, a.g⟩, s, d, kvs, ls, by rw [List.getElem?_set_ne (by decide)]; exact h1, h⟩
    · rintro σ G H G' H' a ⟨s, d, kvs, ls, h1, h2, h3, h4, h5, h6, h7, h8⟩ r o
      exact ⟨hS _ _ r.gg s, d, kvs, ls, h1, r.hh _ _ h5 h2, r.dj _ (by rw [h2]; exact fun z => nomatch z) h3, h4, h5, h6.run r, h7, h8⟩
    · have hb : g.has p x = false := by simpa using hb
      have hstep : g.groups (pre ++ [x]) p = addG (g.groups pre p) (tAt g.told p x) x := by
        rw [groups_snoc]
        unfold Gm.stepG
        rw [if_neg (by rw [hb]; exact Bool.false_ne_true)]
      have hplen : pre.length ≤ 256 := by
        have := congrArg List.length he
        have := hL.l
        simp at *
        omega
      refine xp_one (xp_with (F := F) (Γ1 := Γ1) (dI (tAt g.told p x)) (fun h1 h2 => ⟨_, ps_expr (pe_bm PySem.F.plainAttrs_list PySem.F.slot_list_append PySem.F.type_list_append mt_append (pe_dsetd (pv 3) h1 (pe_lst pa_nil) ⟨rfl, rfl, rfl, rfl⟩) (pa_cons (pv 4) pa_nil)), ?_⟩) ?_)
      · rintro σ H ⟨G, a, s, d, kvs, ls, k1, k2, k3, k4, k5, k6, k7, k8⟩
        have hkl : kvs.length ≤ 256 := by
          rw [k6.len]
          exact Nat.le_trans groups_len hplen
        obtain ⟨v4, e4, m4⟩ := a.sl.ty 4 (dI (x : Int)) rfl
        cases Dq.int_inv m4
        refine ⟨_, k1, d, rfl, .inl ⟨_, .inl k2⟩, h2 _ σ G H a.ok a.sl _ fun vt G1 H1 r1 o1 m1 => ?_⟩
        cases Dq.int_inv m1
        have a1 := a.run r1 o1
        have q2 : H1 d = some (.dK kvs) := r1.hh _ _ k5 k2
        have q3 : G1 d = none := r1.dj _ (by rw [k2]; exact fun z => nomatch z) k3
        have q6 := k6.run r1
        refine ⟨Nat.zero_le _, fun q hq => ⟨kvs, Sum.inl (tAt g.told p x), ?_, rfl, small1000 (by omega), fun v hv => ?_, fun hn => ?_⟩⟩
        · rw [upd_ne (ne_of_none q2 hq)]
          exact q2
        · -- the group is there
          have a2 : At F Γ1 σ G1 (upd H1 q (.lst [])) := a1.run (Rn.allocM hq) (o1.allocM hq)
          have hqd : q ≠ d := fun e => by rw [e, q2] at hq; cases hq
          have hql : q ∉ ls := fun z => by
            obtain ⟨o, ho⟩ := q6.there q z
            rw [ho] at hq
            cases hq
          have q6' := q6.upd (o := .lst []) hql
          obtain ⟨l, m, rfl, hl, hm, hM, u, hu⟩ := q6'.find (i := x) k7 hv
          have hml : m.length ≤ 256 := Nat.le_trans (group_len hu) hplen
          have hld : l ≠ d := fun e => k8 (e ▸ hl)
          have lg : ∃ o, H1 l = some o := q6.there l hl
          refine ⟨.inl ⟨rfl, _, SqL.of hm⟩, _, e4, l, _, _, rfl, rfl, hm, small1000 (by rw [List.length_map]; omega), ?_⟩
          have hG : G1 l = none ∧ F.H0 l = none ∧ ¬ F.W.hid l := by
            have gen : ∀ {r : List (Key × V)} {s : List Grp} {ls : List Addr}, GrM F.W F.H0 G1 H1 r s ls → ∀ l ∈ ls, G1 l = none ∧ F.H0 l = none ∧ ¬ F.W.hid l := by
              intro r s ls hg
              induction hg with
              | nil => intro l hl; simp at hl
              | cons z1 z2 z3 z4 _ ih =>
                intro l hl
                rcases List.mem_cons.mp hl with e | e
                · subst e; exact ⟨z2, z3, z4⟩
                · exact ih l e
            exact gen q6 l hl
          have sl3 : At F Γ1 σ G1 (upd (upd H1 q (.lst [])) l (.lst ((m.map fun i : Nat => V.int (i : Int)) ++ [.int (x : Int)]))) := by
            refine ⟨a2.rn.write hG.2.1, a2.ok.write hG.1 hG.2.2, ⟨a2.sl.len, a2.sl.ty, fun i R hi => ?_, a2.sl.ap⟩, a2.g⟩
            have hm := List.mem_of_getElem? hi
            simp [Γ1] at hm
          have em : (m.map fun i : Nat => V.int (i : Int)) ++ [.int (x : Int)] = (m ++ [x]).map fun i : Nat => V.int (i : Int) := by simp
          refine ⟨G1, ⟨⟨sl3.rn, sl3.ok, sl3.sl.le (by trivial), sl3.g⟩, d, kvs, ls, k1, ?_, q3, k4, k5, ?_, k7, k8⟩, hS _ _ r1.gg s⟩
          · rw [upd_ne (fun e => hld e.symm), upd_ne (fun e => hqd e.symm)]
            exact q2
          · rw [hstep, em]
            exact hM
        · -- a new group
          have hqd : q ≠ d := fun e => by rw [e, q2] at hq; cases hq
          have hql : q ∉ ls := fun z => by
            obtain ⟨o, ho⟩ := q6.there q z
            rw [ho] at hq
            cases hq
          obtain ⟨g1, g2, g3⟩ := hd0 a1 q hq
          rw [putK_new _ hn]
          refine ⟨.inl ⟨rfl, [], SqL.of (by rw [upd_ne hqd, upd_same])⟩, _, e4, q, [], _, rfl, rfl, by rw [upd_ne hqd, upd_same], small1000 (by simp), ?_⟩
          have H3e : ∀ b, b ≠ q → b ≠ d → (upd (upd (upd H1 q (.lst [])) d (.dK (kvs ++ [(Sum.inl (tAt g.told p x), V.ref q)]))) q (.lst ([] ++ [V.int (x : Int)]))) b = H1 b := fun b n1 n2 => by rw [upd_ne n1, upd_ne n2, upd_ne n1]
          have hdl : F.H0 d = none := k4
          have sl3 : At F Γ1 σ G1 (upd (upd (upd H1 q (.lst [])) d (.dK (kvs ++ [(Sum.inl (tAt g.told p x), V.ref q)]))) q (.lst ([] ++ [V.int (x : Int)]))) := by
            have b1 : At F Γ1 σ G1 (upd H1 q (.lst [])) := a1.run (Rn.allocM hq) (o1.allocM hq)
            refine ⟨(b1.rn.write hdl).write g1, (b1.ok.write q3 k5).write g2 g3, ⟨b1.sl.len, b1.sl.ty, fun i R hi => ?_, b1.sl.ap⟩, b1.g⟩
            have hm := List.mem_of_getElem? hi
            simp [Γ1] at hm
          have q6' : GrM F.W F.H0 G1 (upd (upd (upd H1 q (.lst [])) d (.dK (kvs ++ [(Sum.inl (tAt g.told p x), V.ref q)]))) q (.lst ([] ++ [V.int (x : Int)]))) kvs (g.groups pre p) ls := ((q6.upd hql).upd k8).upd hql
          refine ⟨G1, ⟨⟨sl3.rn, sl3.ok, sl3.sl.le (by trivial), sl3.g⟩, d, _, ls ++ [q], k1, by rw [upd_ne (fun e => hqd e.symm), upd_same], q3, k4, k5, ?_, ?_, ?_⟩, hS _ _ r1.gg s⟩
          · rw [hstep]
            exact q6'.new upd_same g2 g1 g3 hn
          · exact nd_snoc k7 hql
          · intro z
            rcases List.mem_append.mp z with z | z
            · exact k8 z
            · exact hqd (List.mem_singleton.mp z).symm
      · have hrow : (g.told.getD p []).length = g.lay.length := hL.f.tr _ (by
          rw [List.getD_eq_getElem?_getD, List.getElem?_eq_getElem htl]
          exact List.getElem_mem htl)
        exact xix ix_list (xix ix_list (xf_told T (xn 0)) (xn 2) (rv_ixL (at_map (d := ([] : List Int)) htl)) (fun _ _ => rfl)) (xn 4) (rv_ixL (at_mapI (by rw [hrow]; exact hxl))) (fun _ _ => rfl)
    · have hb : g.has p x = true := by simpa using hb
      rintro σ H ⟨G, a, s, d, kvs, ls, h1, h⟩
      refine ⟨G, ⟨⟨a.rn, a.ok, a.sl.le (by trivial), a.g⟩, d, kvs, ls, h1, ?_⟩, s⟩
      rw [groups_snoc]
      unfold Gm.stepG
      rw [if_pos hb]
      exact h
  · rintro σ H ⟨G, a, d, kvs, ls, h1, h2, h3, h4, h5, h6, h7, h8⟩
    obtain ⟨G', a', e', k', f'⟩ := h6.frz a h7 (fun i R l hi => by
      have hm := List.mem_of_getElem? hi
      simp [Γ0] at hm)
    exact ⟨_, h1, hrt d _ G' H a'.rn a'.ok h4 h2 (by rw [f' d h8]; exact h3) ⟨kvs, rfl, k'⟩⟩
end
end SL
set_option maxRecDepth 100000
set_option maxHeartbeats 4000000
namespace SL
open PySem L2 Evl
local macro_rules | `(tactic| trivial) => `(tactic| (repeat (first | exact SL.LeG.nil | refine SL.LeG.cons (by first | exact SL.Le.rfl _ | exact SL.Le.any _) ?_)); done)
section
variable {F : Fx} {X : Cx} {iter : Expr} {body rest : List Stmt} {Γ : List Sd} {D : Ends} {pos : Pos}
theorem xss_forS (j : Nat) {α : Type} {xs : List α} {Y : α → Ty} {x : Str} {px : Pos} (hN : X.N.Nodup) (hi : XI F.W X (.Name x px) iter Γ xs Y) (Pm : List α → Prop) (Γi : List α → List Sd) (hP : Pm [])
    (hb : ∀ pre x post, xs = pre ++ x :: post → Pm pre → ∀ S hS (n : L2.St → Hp → Prop), XSs (F.ghost S hS) X body ((Γi pre).set j (.ty (Y x))) ⟨fun σ H => Stt (F.ghost S hS) (Γi (pre ++ [x])) σ H ∧ Pm (pre ++ [x]), D.rt, n, fun σ H => Stt (F.ghost S hS) (Γi (pre ++ [x])) σ H ∧ Pm (pre ++ [x])⟩) (k : Pm xs → XSs F X rest (Γi xs) D)
    (h0 : LeG Γ (Γi []) := by repeat (first | exact LeG.nil | refine LeG.cons (by first | exact Le.rfl _ | exact Le.any _) ?_))
    (hp : PassesOwn (model X.prog X.w) X.A X.env X.xe := by exact PassesOwn.never) (hc : X.calm = true := by rfl) (hx : X.N[j]? = some x := by rfl) (hl : Loc X.env.scope x := by first | exact Or.inl rfl | exact Or.inr rfl)
    (hf : X.fn x = true ∨ X.env.scope.names.lookup x = some .local := by first | exact .inl rfl | exact .inr rfl)
    (hs : ∀ x, foldedSetIterable iter X.env x = pure x := by intro _; rfl) : XSs F X (.For (.Name x px) iter body [] pos :: rest) Γ D := by
  by_cases h : Pm xs
  · exact xss_cons (xs_forS j hN hi Pm Γi hP (fun pre x post e p S hS => hb pre x post e p S hS _) (fun _ => nx_of rfl) h0 hp hc hx hl hf hs) (k h)
  · exact xss_last (xs_forS j hN hi Pm Γi hP (fun pre x post e p S hS => hb pre x post e p S hS _) (fun p => absurd p h) h0 hp hc hx hl hf hs)
end
def preOver (C kd : Addr) (g : Gm) : List Ty → Ty → Prop := fun Rs R => ∃ (left places : List Nat), Rs = [goTy C kd g, dat (encN left), dat (encN places)] ∧ R = dB (g.over left places) ∧ LvOk g left ∧ ∀ p ∈ places, p < g.cells.length
abbrev nOv : List Str := ["self", "left", "places", "place", "one"]
section
variable {P : Program} {w : World} {K : PySem.W.Frag} {mg : Str → Option Value} {base : Heap} {C kd : Addr} {g : Gm}
theorem scOv : FnScope nOv ["self", "left", "places"] (defScope sOver) := ⟨rfl, rfl, rfl, by decide +kernel, rfl, by decide +kernel, by decide +kernel⟩
theorem def_over (S : MSrc K C "is_over" "Going.is_over" sOver ["self", "left", "places"]) (T : GC K mg C) (B : Bn mg) : MDef P w K mg base C 1 "is_over" ["self", "left", "places"] (spF W0 (preOver C kd g)) := by
  refine MDef.of S scOv (fun Rs R h => by obtain ⟨a, b, rfl, _⟩ := h; rfl) fun f cdv A outer s H E hr Rs R hp F D hW hrt _ => ?_
  obtain ⟨left, places, rfl, rfl, hL, hpc⟩ := hp
  have nd := scOv.nd
  refine xss_forS 3 nd (xi_list (xs := places) (enc := fun i : Nat => PyData.int (i : Int)) (xn 2)) (fun pre => ∀ p ∈ pre, ∀ i ∈ left, g.has p i = true) (fun _ => [Sd.ty (goTy C kd g), sd (encN left), sd (encN places), .any, .any]) (fun p h => by simp at h) (fun pre x post he hpre Sg hS n => ?_) (fun hall => ?_)
  · have hx : x ∈ places := by rw [he]; simp
    refine xss_one (xs_if (b := (left.map fun i => !g.has x i).any id) (xtval (xcallB (L2.cr_any rfl) rfl B.any (by decide +kernel) (xa1 (xlcN 4 [("one", 4)] (r := (left.map fun i => !g.has x i).map .bool) nd (xi_list (xs := left) (enc := fun i : Nat => PyData.int (i : Int)) (xn 1)) (blkOk_by (N := nOv) (sc := defScope sOver) (by decide +kernel)) (fun _ => true) (fun i : Nat => .bool (!g.has x i)) (fun z _ => .none)
      (fun z hz _ s H C' cl fp => XE.eq (xcmp (op_notInD hr.u65) (xix ix_list (xf_cells T (xn 0)) (xn 3) (rv_ixL (at_map (d := ((0 : Int), (0 : Int))) (hpc x hx))) (fun _ _ => rfl)) (xix ix_list (xf_some T (xn 0)) (xn 4) (rv_ixL (at_map (d := ([] : List Cell)) (hL.i z hz))) (fun _ _ => rfl)) (rv_notInD (shaped_C _) (shaped_Cs _)) rfl) (by rw [any_C]; rfl)) (by have := hL.l; omega) (by rw [filter_true, List.map_map]; rfl))) crv_any))
      (fun h => xss_one (xs_ret (XE.eq xbool ?_) hrt)) (fun h => xss_nil (nx_and (by trivial) ?_)))
    · rw [List.any_eq_true] at h
      obtain ⟨b, hb, hb2⟩ := h
      obtain ⟨i, hi, rfl⟩ := List.mem_map.mp hb
      have : g.over left places = false := by
        unfold Gm.over
        rw [List.all_eq_false]
        refine ⟨x, hx, ?_⟩
        rw [List.all_eq_true]
        intro z
        have := z i hi
        simp [this] at hb2
      rw [this]
    · intro p hp i hi
      rcases List.mem_append.mp hp with q | q
      · exact hpre p q i hi
      · have e : p = x := by simpa using q
        subst e
        cases z : g.has p i with
        | true => rfl
        | false =>
          have : (left.map fun i => !g.has p i).any id = true := by
            rw [List.any_eq_true]
            exact ⟨true, List.mem_map.mpr ⟨i, hi, by rw [z]; rfl⟩, rfl⟩
          rw [h] at this
          cases this
  · refine xss_one (xs_ret (XE.eq xbool ?_) hrt)
    have : g.over left places = true := by
      unfold Gm.over
      rw [List.all_eq_true]
      intro p hp
      rw [List.all_eq_true]
      exact hall p hp
    rw [this]
/-! ### what is known -/
def KInv (P : Program) (w : World) (kd : Addr) (g : Gm) (dep : Nat) (G : Hp) (xs : KX) : Prop := Keys G xs ∧ (xs.map (·.1)).Nodup ∧ ∀ x ∈ xs, ∃ left places d t, x.1 = keyI left places d ∧ g.Re dep left places d ∧ 1 ≤ d ∧ x.2.2 = Value.int (g.val d left places) t
def Wk (P : Program) (w : World) (kd : Addr) (g : Gm) (dep : Nat) : Wd where
  hid := fun a => a = kd
  inv := fun G H => G kd = none ∧ ∃ xs, H kd = some (knO P w kd xs) ∧ KInv P w kd g dep G xs
  up := fun {G H G' H'} h e k n => by
    obtain ⟨h1, xs, h2, h3, h4⟩ := h
    exact ⟨n kd rfl h1, xs, k kd _ rfl h2, h3.mono fun a ys z => e a _ z, h4⟩
  on := fun {G H a} h e => by
    obtain ⟨_, xs, h2, _⟩ := h
    subst e
    rw [h2]
    exact fun z => nomatch z
  off := fun {G H a} h e => by
    subst e
    exact h.1
def preManyIf (P : Program) (w : World) (C kd : Addr) (g : Gm) (dep n : Nat) : List Ty → Ty → Prop := fun Rs R => ∃ (left places : List Nat) (p d : Nat), Rs = [goTy C kd g, dat (encN left), dat (encN places), dI (p : Int), dI ((d + 1 : Nat) : Int)] ∧ R = dI (g.valIf d left places p : Nat) ∧ g.Fine ∧ dep ≤ 3 ∧ g.Re dep left places (d + 1) ∧ p ∈ places ∧ d + 1 ≤ n
def preMany (P : Program) (w : World) (C kd : Addr) (g : Gm) (dep n : Nat) : List Ty → Ty → Prop := fun Rs R => ∃ (left places : List Nat) (d : Nat), Rs = [goTy C kd g, dat (encN left), dat (encN places), dI (d : Int)] ∧ R = dI (g.val d left places : Nat) ∧ g.Fine ∧ dep ≤ 3 ∧ g.Re dep left places d ∧ d ≤ n
theorem Re.lv {dep d : Nat} {left places : List Nat} (h : g.Re dep left places d) (f : g.Fine) : Lv g (left, places) := let ⟨k, h1, _⟩ := h; lv_all f k _ h1
abbrev nMi : List Str := ["self", "left", "places", "place", "depth", "rest", "total", "number", "group", "other"]
theorem scMi : FnScope nMi ["self", "left", "places", "place", "depth"] (defScope sManyIf) := ⟨rfl, rfl, rfl, by decide +kernel, rfl, by decide +kernel, by decide +kernel⟩
theorem def_manyif {dep n k : Nat} (S : MSrc K C "many_if" "Going.many_if" sManyIf ["self", "left", "places", "place", "depth"]) (T : GC K mg C) (B : Bn mg) (A1 : MDef P w K mg base C 1 "groups" ["self", "left", "place"] (spO W0 (preGroups C kd g)))
    (A2 : MDef P w K mg base C (k + 1) "many" ["self", "left", "places", "depth"] (spF (Wk P w kd g dep) (preMany P w C kd g dep n))) : MDef P w K mg base C (k + 2) "many_if" ["self", "left", "places", "place", "depth"] (spF (Wk P w kd g dep) (preManyIf P w C kd g dep (n + 1))) := by
  refine MDef.of S scMi (fun Rs R h => by obtain ⟨a, b, c, d, rfl, _⟩ := h; rfl) fun f cdv A outer s H E hr Rs R hp F D hW hrt _ => ?_
  obtain ⟨left, places, p, d, rfl, rfl, hf, hdep, hre, hpp, hdn⟩ := hp
  have nd := scMi.nd
  have hlv := Re.lv hre hf
  have hl8 : places.length ≤ 8 := hlv.p
  have hl256 : left.length ≤ 256 := hlv.l
  refine xss_cons (xs_lcN 5 9 [("other", 9)] (r := (rest places p).map fun i : Nat => PyData.int (i : Int)) nd (xi_list (xs := places) (enc := fun i : Nat => PyData.int (i : Int)) (xn 2)) (blkOk_by (N := nMi) (sc := defScope sManyIf) (by decide +kernel)) (fun o => !decide (o = p)) (fun i : Nat => .int (i : Int))
    (fun z hz => .one fun s H C' cl fp => XT.eq (xtcmp op_ne (xn 9) (xn 3) rv_neI (nomark _)) ?_) (fun z hz _ s H C' cl fp => xn 9) (by omega) (nx_of rfl)) ?_
  · have : decide ((z : Int) = (p : Int)) = decide (z = p) := by
      rw [Bool.eq_iff_iff, decide_eq_true_iff, decide_eq_true_iff]
      omega
    rw [this]
  refine xss_cons (xs_set 6 nd xint (nx_of rfl)) ?_
  refine xss_cons (D := D) (Γ' := [Sd.ty (goTy C kd g), sd (encN left), sd (encN places), sd (.int (p : Int)), sd (.int ((d + 1 : Nat) : Int)), sd (encN (rest places p)), sd (.int (g.valIf d left places p : Nat)), .any, .any, .any])
    (xs_forP 7 8 nd (xi_items (gs := g.groups left p) (xmethO T A1 (hr.mono (by omega)) (xn 0) (xacons (xn 1) (xa1 (xn 3))) ⟨left, p, rfl, rfl, ⟨hf, hl256, hlv.li⟩, hlv.pi p hpp⟩ (fun _ _ _ _ => gf_no _ _ _ _ (by decide +kernel) (by decide +kernel) (by decide +kernel) (by decide +kernel))) (fun h => pi_items h))
    (fun pre => [Sd.ty (goTy C kd g), sd (encN left), sd (encN places), sd (.int (p : Int)), sd (.int ((d + 1 : Nat) : Int)), sd (encN (rest places p)), sd (.int (sumN (pre.map fun x => g.val d x.2 (rest places p)) : Nat)), .any, .any, .any]) (fun pre x post he Sg hS => ?_) (nx_le (by trivial))) (xss_one (xs_ret (xn 6) hrt))
  have hx : x ∈ g.groups left p := by rw [he]; simp
  refine xss_one (xs_aug (a := (sumN (pre.map fun x => g.val d x.2 (rest places p)) : Nat)) 6 nd rfl (by rw [show (Fx.ghost F Sg hS).W = Wk P w kd g dep from hW]; exact xmeth T A2 hr (xn 0) (xacons (xn 8) (xacons (xn 5) (xa1 (XE.eq (xop op_sub (xn 4) xint rv_int) (d' := .int (d : Int)) (by rw [show ((d + 1 : Nat) : Int) - 1 = (d : Int) by omega]))))) ⟨x.2, rest places p, d, rfl, rfl, hf, hdep, Re.down hre hpp hx, by omega⟩ (fun _ _ _ _ => gf_no _ _ _ _ (by decide +kernel) (by decide +kernel) (by decide +kernel) (by decide +kernel))) ?_)
  have e : ((sumN (pre.map fun x => g.val d x.2 (rest places p)) : Nat) : Int) + ((g.val d x.2 (rest places p) : Nat) : Int) = ((sumN ((pre ++ [x]).map fun x => g.val d x.2 (rest places p)) : Nat) : Int) := by
    rw [List.map_append, sumN_append, List.map_cons, List.map_nil, sumN_cons]
    simp [sumN]
  rw [e]
  exact nx_le (by trivial)
end
end SL
set_option maxRecDepth 100000
set_option maxHeartbeats 4000000
namespace SL
open PySem L2 Evl
local macro_rules | `(tactic| trivial) => `(tactic| (repeat (first | exact SL.LeG.nil | refine SL.LeG.cons (by first | exact SL.Le.rfl _ | exact SL.Le.any _) ?_)); done)
section
variable {xs : KX} {k : NestedKey} {b : Addr} {r : Value}
theorem at_mem {p : Addr × Value} (h : atKey xs k = some p) : (k, p.1, p.2) ∈ xs := by
  unfold atKey at h
  obtain ⟨x, hx, e⟩ := Option.map_eq_some_iff.mp h
  have h1 := List.mem_of_find?_eq_some hx
  have h2 := List.find?_some hx
  have h2 : x.1 = k := of_decide_eq_true h2
  obtain ⟨x1, x2, x3⟩ := x
  cases e
  cases h2
  exact h1
theorem stH_mem {x : NestedKey × Addr × Value} (h : x ∈ storedH xs k b r) : (x ∈ xs ∧ x.1 ≠ k) ∨ (x.1 = k ∧ x.2.2 = r ∧ (x.2.1 = b ∨ ∃ y ∈ xs, y.1 = k ∧ x.2.1 = y.2.1)) := by
  cases q : atKey xs k with
  | none =>
    rw [storedH_new q] at h
    rcases List.mem_append.mp h with h | h
    · refine .inl ⟨h, fun e => ?_⟩
      unfold atKey at q
      have q := Option.map_eq_none_iff.mp q
      rw [List.find?_eq_none] at q
      exact q x h (decide_eq_true e)
    · have : x = (k, b, r) := by simpa using h
      subst this
      exact .inr ⟨rfl, rfl, .inl rfl⟩
  | some p =>
    rw [storedH_old q] at h
    obtain ⟨y, hy, rfl⟩ := List.mem_map.mp h
    unfold putAt
    by_cases e : y.1 = k
    · rw [if_pos e]
      exact .inr ⟨e, rfl, .inr ⟨y, hy, e, rfl⟩⟩
    · rw [if_neg e]
      exact .inl ⟨hy, e⟩
theorem stH_keys : (storedH xs k b r).map (·.1) = if (atKey xs k).isSome = true then xs.map (·.1) else xs.map (·.1) ++ [k] := by
  cases q : atKey xs k with
  | none =>
    rw [storedH_new q]
    simp
  | some p =>
    rw [storedH_old q]
    simp only [Option.isSome_some, if_true, List.map_map]
    apply List.map_congr_left
    intro x _
    show (putAt k r x).1 = x.1
    unfold putAt
    split <;> rfl
theorem at_none {q : atKey xs k = none} : k ∉ xs.map (·.1) := by
  intro h
  obtain ⟨x, hx, e⟩ := List.mem_map.mp h
  unfold atKey at q
  have q := Option.map_eq_none_iff.mp q
  rw [List.find?_eq_none] at q
  exact q x hx (decide_eq_true e)
theorem stH_nodup (h : (xs.map (·.1)).Nodup) : ((storedH xs k b r).map (·.1)).Nodup := by
  rw [stH_keys]
  cases q : atKey xs k with
  | none =>
    rw [if_neg (by simp)]
    exact nd_snoc h (at_none (q := q))
  | some p =>
    rw [if_pos (by simp)]
    exact h
theorem find_map {f : NestedKey × Addr × Value → NestedKey × Addr × Value} (hf : ∀ x, (f x).1 = x.1) : ∀ xs : KX, (xs.map f).find? (fun x => decide (x.1 = k)) = (xs.find? fun x => decide (x.1 = k)).map f
  | [] => rfl
  | x :: r => by
    rw [List.map_cons, List.find?_cons, List.find?_cons, hf]
    split
    · rfl
    · exact find_map hf r
theorem stH_at : ∃ p, atKey (storedH xs k b r) k = some (p, r) := by
  cases q : atKey xs k with
  | none =>
    rw [storedH_new q]
    refine ⟨b, ?_⟩
    unfold atKey at q ⊢
    have q := Option.map_eq_none_iff.mp q
    rw [List.find?_append, q]
    simp
  | some p =>
    rw [storedH_old q]
    unfold atKey at q ⊢
    obtain ⟨x, hx, e⟩ := Option.map_eq_some_iff.mp q
    have h2 := List.find?_some hx
    have h2 : x.1 = k := of_decide_eq_true h2
    refine ⟨x.2.1, ?_⟩
    rw [find_map (fun y => by unfold putAt; split <;> rfl), hx]
    show some (putAt k r x).2 = _
    unfold putAt
    rw [if_pos h2]
end
theorem ofN_inj : ∀ {a b : List Nat}, ofN a = ofN b → a = b
  | [], [], _ => rfl
  | [], _ :: _, h => by simp [ofN] at h
  | _ :: _, [], h => by simp [ofN] at h
  | x :: xs, y :: ys, h => by
    have h : ((x : Int) :: ofN xs) = (y : Int) :: ofN ys := h
    simp only [List.cons.injEq] at h
    rw [ofN_inj h.2]
    have := h.1
    congr 1
    omega
theorem keyI_inj {l l' p p' : List Nat} {d d' : Nat} (h : keyI l p d = keyI l' p' d') : l = l' ∧ p = p' ∧ d = d' := by
  obtain ⟨h1, h2, h3⟩ := keyN_inj h
  exact ⟨ofN_inj h1, ofN_inj h2, by omega⟩
theorem dq_ints {G : Hp} : ∀ {l : List Nat} {vs : List V}, DqAll G vs (l.map fun i : Nat => PyData.int (i : Int)) → vs = (ofN l).map V.int
  | [], _, .nil => rfl
  | i :: r, _, .cons a t => by
    cases a
    rw [dq_ints t]
    rfl
theorem key_of_dq {G : Hp} {v : V} {l p : List Nat} {d : Int} (h : Dq G v (.tuple [.tuple (l.map fun i : Nat => .int (i : Int)), .tuple (p.map fun i : Nat => .int (i : Int)), .int d])) : ∃ b, v = .ref b ∧ IsKey G b (ofN l) (ofN p) d := by
  obtain ⟨b, vs, rfl, hb, hd⟩ := Dq.tup_inv h
  cases hd with
  | cons h1 t =>
    cases t with
    | cons h2 t =>
      cases t with
      | cons h3 t =>
        cases t
        cases h3
        obtain ⟨p1, v1, rfl, q1, q2⟩ := Dq.tup_inv h1
        obtain ⟨p2, v2, rfl, q3, q4⟩ := Dq.tup_inv h2
        refine ⟨b, rfl, p1, p2, hb, ?_, ?_⟩
        · rw [q1, dq_ints q2]
        · rw [q3, dq_ints q4]
theorem maxN_foldl (l : List Nat) : ∀ n, l.foldl Nat.max n = max n (l.foldl Nat.max 0) := by
  induction l with
  | nil => intro n; simp
  | cons a r ih =>
    intro n
    rw [List.foldl_cons, List.foldl_cons, ih, ih (Nat.max 0 a)]
    show max (max n a) _ = max n (max (max 0 a) _)
    omega
theorem maxN_cons (a : Nat) (l : List Nat) : maxN (a :: l) = max a (maxN l) := by
  unfold maxN
  rw [List.foldl_cons, maxN_foldl]
  show max (max 0 a) _ = _
  omega
theorem maxN_mem : ∀ {l : List Nat}, l ≠ [] → maxN l ∈ l
  | [a], _ => by simp [maxN]
  | a :: b :: r, _ => by
    have ih := maxN_mem (l := b :: r) (by simp)
    rw [maxN_cons]
    by_cases h : a ≤ maxN (b :: r)
    · rw [Nat.max_eq_right h]
      exact List.mem_cons_of_mem _ ih
    · rw [Nat.max_eq_left (by omega)]
      simp
theorem maxN_le : ∀ {l : List Nat} {x : Nat}, x ∈ l → x ≤ maxN l
  | a :: r, x, h => by
    rw [maxN_cons]
    rcases List.mem_cons.mp h with e | e
    · subst e; omega
    · have := maxN_le e
      omega
theorem kx_len {P : Program} {w : World} {kd : Addr} {g : Gm} {dep : Nat} {G : Hp} {xs : KX} (f : g.Fine) (h3 : dep ≤ 3) (h : KInv P w kd g dep G xs) : xs.length ≤ sizeLine := by
  have h1 : (xs.map (·.1)).length ≤ (univ g dep).length := nd_len h.2.1 fun k hk => by
    obtain ⟨x, hx, rfl⟩ := List.mem_map.mp hk
    obtain ⟨l, p, d, t, e, hre, h1, _⟩ := h.2.2 x hx
    rw [e]
    exact Re.univ hre h1 h3
  rw [List.length_map] at h1
  have h2 := univ_len f dep
  rw [sizeLine_eq]
  omega
theorem XW.eq {W : Wd} {X : Cx} {e : Expr} {Γ : List Sd} {b b' : Bool} (h : XW W X e Γ b) (k : b = b') : XW W X e Γ b' := k ▸ h
abbrev nMa : List Str := ["self", "left", "places", "depth", "key", "place"]
section
variable {P : Program} {w : World} {K : PySem.W.Frag} {mg : Str → Option Value} {base : Heap} {C kd : Addr} {g : Gm}
theorem scMa : FnScope nMa ["self", "left", "places", "depth"] (defScope sMany) := ⟨rfl, rfl, rfl, by decide +kernel, rfl, by decide +kernel, by decide +kernel⟩
theorem def_many {dep n k : Nat} (S : MSrc K C "many" "Going.many" sMany ["self", "left", "places", "depth"]) (T : GC K mg C) (B : Bn mg) (A1 : MDef P w K mg base C 1 "is_over" ["self", "left", "places"] (spF W0 (preOver C kd g)))
    (A2 : MDef P w K mg base C (k + 1) "many_if" ["self", "left", "places", "place", "depth"] (spF (Wk P w kd g dep) (preManyIf P w C kd g dep n))) : MDef P w K mg base C (k + 2) "many" ["self", "left", "places", "depth"] (spF (Wk P w kd g dep) (preMany P w C kd g dep n)) := by
  refine MDef.of S scMa (fun Rs R h => by obtain ⟨a, b, c, rfl, _⟩ := h; rfl) fun f cdv A outer s H E hr Rs R hp F D hW hrt _ => ?_
  obtain ⟨left, places, d, rfl, rfl, hf, hdep, hre, hdn⟩ := hp
  obtain ⟨FW, G0, H0, gh, ghm⟩ := F
  cases hW
  have nd := scMa.nd
  have hlv := Re.lv hre hf
  have hl8 : places.length ≤ 8 := hlv.p
  have hl256 : left.length ≤ 256 := hlv.l
  refine xss_ifr (b := decide (d = 0) || g.over left places) (XW.t (XW.eq (xwor (xtcmp op_eq (xn 3) xint rv_eqI (nomark _)) fun _ => xwor1 (xtval (xmeth0 T A1 (hr.mono (by omega)) (xn 0) (xacons (xn 1) (xa1 (xn 2))) ⟨left, places, rfl, rfl, ⟨hf, hl256, hlv.li⟩, hlv.pi⟩ (fun _ _ _ _ => gf_no _ _ _ _ (by decide +kernel) (by decide +kernel) (by decide +kernel) (by decide +kernel))))) ?_))
    (fun h => xss_one (xs_ret (XE.eq (xcallB call_lenS rfl B.len PySem.boot_len (xa1 (xn 1)) cr_len) ?_) hrt)) (fun h => ?_)
  · congr 1
    rw [Bool.eq_iff_iff, decide_eq_true_iff, decide_eq_true_iff]
    omega
  · rw [List.length_map]
    have e : g.val d left places = left.length := by
      cases d with
      | zero => rfl
      | succ d =>
        have h : g.over left places = true := by simpa using h
        show (if g.over left places = true then _ else _) = _
        rw [if_pos h]
    rw [e]
  · -- depth from 1 on, not over
    rw [Bool.or_eq_false_iff] at h
    obtain ⟨hd0, hov⟩ := h
    have hd0 : d ≠ 0 := of_decide_eq_false hd0
    obtain ⟨e, rfl⟩ : ∃ e, d = e + 1 := ⟨d - 1, by omega⟩
    have hval : g.val (e + 1) left places = maxN (places.map fun p => g.valIf e left places p) := by
      show (if g.over left places = true then _ else _) = _
      rw [if_neg (by rw [hov]; exact Bool.false_ne_true)]
      rfl
    have hne : places ≠ [] := by
      rintro rfl
      simp [Gm.over] at hov
    let keyD : PyData := .tuple [.tuple (left.map fun i : Nat => .int (i : Int)), .tuple (places.map fun i : Nat => .int (i : Int)), .int ((e + 1 : Nat) : Int)]
    refine xss_cons (xs_set (R := dat keyD) 4 nd (xtup (ds := [.tuple (left.map fun i : Nat => .int (i : Int)), .tuple (places.map fun i : Nat => .int (i : Int)), .int ((e + 1 : Nat) : Int)]) (xacons (xcallTy call_tupleS rfl B.tuple (by decide +kernel) (xa1 (xn 1)) cr_tuple) (xacons (xcallTy call_tupleS rfl B.tuple (by decide +kernel) (xa1 (xn 2)) cr_tuple) (xa1 (xn 3)))) (by simp)) (nx_of rfl)) ?_
    let Γ1 : List Sd := [Sd.ty (goTy C kd g), sd (encN left), sd (encN places), sd (.int ((e + 1 : Nat) : Int)), sd keyD, .any]
    let F : Fx := ⟨Wk P w kd g dep, G0, H0, gh, ghm⟩
    -- what is there of the state
    have facts : ∀ {σ : L2.St} {G H : Hp}, At F Γ1 σ G H → ∃ a dx ca so to b xs, σ[0]? = some (some (.ref a)) ∧ σ[4]? = some (some (.ref b)) ∧ H a = some (.ins C dx (gf ca so to kd)) ∧ H kd = some (knO P w kd xs) ∧ KInv P w kd g dep G xs ∧ Keys H xs ∧ IsKey G b (ofN left) (ofN places) ((e + 1 : Nat) : Int) := fun {σ G H} a => by
      obtain ⟨v0, e0, a0, dx, ca, so, to, rfl, m2, _⟩ := a.sl.ty 0 (goTy C kd g) rfl
      obtain ⟨v4, e4, m4⟩ := a.sl.ty 4 (dat keyD) rfl
      obtain ⟨b, rfl, hb⟩ := key_of_dq m4
      obtain ⟨_, xs, hx, hk⟩ := a.ok.inv
      exact ⟨a0, dx, ca, so, to, b, xs, e0, e4, a.ok.ex _ _ m2, hx, hk, hk.1.mono fun c ys z => a.ok.ex _ _ z, hb⟩
    have last : XSPs (Xc P w K mg base nMa "Going.many" sMany f cdv A outer s H E) ((defBody sMany).drop 3) (fun σ H => ∃ G, At F Γ1 σ G H ∧ ∃ xs p t, H kd = some (knO P w kd xs) ∧ KInv P w kd g dep G xs ∧ atKey xs (keyI left places (e + 1)) = some (p, Value.int (g.val (e + 1) left places : Nat) t)) D := by
      refine xp_one ⟨_, ps_ret (pe_kget hr.units (pe_fld (pv 0) rfl) (pv 4) (fun _ _ => rfl)), ?_⟩
      rintro σ H ⟨G, a, xs, p, t, hx, hk, ha⟩
      obtain ⟨a0, dx, ca, so, to, b, xs', e0, e4, m2, hx', hk', hks, hb⟩ := facts a
      refine ⟨_, e0, a0, C, dx, _, .ref kd, rfl, m2, T.cl, T.nK, gf_known _ _ _ _, _, e4, kd, xs, b, ofN left, ofN places, ((e + 1 : Nat) : Int), (p, _), .int (g.val (e + 1) left places : Nat), rfl, rfl, hx, hk.1.mono fun c ys z => a.ok.ex _ _ z, hb.mono fun c ys z => a.ok.ex _ _ z, ha, ⟨t, rfl⟩, ?_⟩
      exact hrt _ G H a.rn a.ok (Dq.int _)
    show XSPs _ _ (Stt F Γ1) D
    refine xp_cons (Mid := fun σ H => ∃ G, At F Γ1 σ G H ∧ ∃ xs p t, H kd = some (knO P w kd xs) ∧ KInv P w kd g dep G xs ∧ atKey xs (keyI left places (e + 1)) = some (p, Value.int (g.val (e + 1) left places : Nat) t))
      (xp_with (F := F) (Γ1 := Γ1) (dI (g.val (e + 1) left places : Nat)) (fun h1 h2 => ⟨_, ps_if (pt_cmp (pc_knotin hr.units (pv 4) (pe_fld (pv 0) rfl))) (pss_one (ps_kput hr.units (pe_fld (pv 0) rfl) (pv 4) h1 rfl)) pss_nil, ?_⟩) ?_) last
    · rintro σ H ⟨G, a⟩
      obtain ⟨a0, dx, ca, so, to, b, xs, e0, e4, m2, hx, hk, hks, hb⟩ := facts a
      refine ⟨_, e4, _, e0, a0, C, dx, _, .ref kd, rfl, m2, T.cl, T.nK, gf_known _ _ _ _, kd, xs, b, ofN left, ofN places, ((e + 1 : Nat) : Int), rfl, rfl, hx, hks, hb.mono fun c ys z => a.ok.ex _ _ z, _, rfl, ?_⟩
      cases q : atKey xs (keyN (ofN left) (ofN places) ((e + 1 : Nat) : Int)) with
      | some p =>
        refine iteF ⟨G, a, xs, p.1, ?_⟩
        obtain ⟨l', p', d', t, k1, k2, k3, k4⟩ := hk.2.2 _ (at_mem q)
        obtain ⟨rfl, rfl, rfl⟩ := keyI_inj (l := left) (p := places) (d := e + 1) k1
        refine ⟨t, hx, hk, ?_⟩
        show atKey xs (keyN (ofN left) (ofN places) ((e + 1 : Nat) : Int)) = _
        rw [q]
        obtain ⟨p1, p2⟩ := p
        cases k4
        rfl
      | none =>
        refine iteT (h2 _ σ G H a.ok a.sl _ fun v G1 H1 r1 o1 m1 => ?_)
        cases Dq.int_inv m1
        have a1 := a.run r1 o1
        obtain ⟨a0', dx', ca', so', to', b', xs1, e0', e4', m2', hx1, hk1, hks1, hb1⟩ := facts a1
        refine ⟨_, e0', a0', C, dx', _, .ref kd, rfl, m2', T.cl, T.nK, gf_known _ _ _ _, _, e4', kd, xs1, b', ofN left, ofN places, ((e + 1 : Nat) : Int), rfl, rfl, hx1, hks1, hb1.mono fun c ys z => o1.ex _ _ z, kx_len hf hdep hk1, fun r hr' => ?_⟩
        obtain ⟨t, rfl⟩ := hr'
        have hkd : G1 kd = none := a1.ok.inv.1
        have hk2 : KInv P w kd g dep G1 (storedH xs1 (keyN (ofN left) (ofN places) ((e + 1 : Nat) : Int)) b' (Value.int (g.val (e + 1) left places : Nat) t)) := by
          refine ⟨fun x hx => ?_, stH_nodup hk1.2.1, fun x hx => ?_⟩
          · rcases stH_mem hx with ⟨q1, q2⟩ | ⟨q1, q2, q3⟩
            · exact hk1.1 x q1
            · refine ⟨_, _, _, q1, ?_⟩
              rcases q3 with q3 | ⟨y, hy, q4, q5⟩
              · rw [q3]; exact hb1
              · obtain ⟨ls, ps, d, z1, z2⟩ := hk1.1 y hy
                rw [q4] at z1
                obtain ⟨rfl, rfl, rfl⟩ := keyN_inj z1
                rw [q5]
                exact z2
          · rcases stH_mem hx with ⟨q1, q2⟩ | ⟨q1, q2, q3⟩
            · exact hk1.2.2 x q1
            · exact ⟨left, places, e + 1, t, q1, hre, by omega, q2⟩
        obtain ⟨p, hp⟩ := stH_at (xs := xs1) (k := keyN (ofN left) (ofN places) ((e + 1 : Nat) : Int)) (b := b') (r := Value.int (g.val (e + 1) left places : Nat) t)
        have o2 : Ok F.W G1 (upd H1 kd (knO P w kd (storedH xs1 (keyN (ofN left) (ofN places) ((e + 1 : Nat) : Int)) b' (Value.int (g.val (e + 1) left places : Nat) t)))) :=
          ⟨fun c u z => by rw [upd_ne (ne_of_none z hkd)]; exact o1.ex _ _ z, hkd, _, upd_same, hk2⟩
        have r2 : Rn F.W G1 H1 G1 (upd H1 kd (knO P w kd (storedH xs1 (keyN (ofN left) (ofN places) ((e + 1 : Nat) : Int)) b' (Value.int (g.val (e + 1) left places : Nat) t)))) :=
          ⟨Ex.refl _, fun c u n z => by rw [upd_ne n]; exact z, fun c z => by
            by_cases q : c = kd
            · subst q; rw [upd_same]; exact fun y => nomatch y
            · rw [upd_ne q]; exact z, fun _ _ n => n⟩
        exact ⟨G1, a1.run r2 o2, _, p, t, upd_same, hk2, hp⟩
    · have hmem := maxN_mem (l := places.map fun p => g.valIf e left places p) (by simpa using hne)
      refine xcallB (L2.cr_max rfl) rfl B.max (by decide +kernel) (xa1 (xlcN 5 [("place", 5)] (r := (places.map fun p => ((g.valIf e left places p : Nat) : Int)).map .int) nd (xi_list (xs := places) (enc := fun i : Nat => PyData.int (i : Int)) (xn 2)) (blkOk_by (N := nMa) (sc := defScope sMany) (by decide +kernel)) (fun _ => true) (fun p : Nat => .int ((g.valIf e left places p : Nat) : Int)) (fun z _ => .none)
        (fun z hz _ s H C' cl fp => xmeth T A2 hr (xn 0) (xacons (xn 1) (xacons (xn 2) (xacons (xn 5) (xa1 (xn 3))))) ⟨left, places, z, e, rfl, rfl, hf, hdep, hre, hz, hdn⟩ (fun _ _ _ _ => gf_no _ _ _ _ (by decide +kernel) (by decide +kernel) (by decide +kernel) (by decide +kernel))) (by omega) (by rw [filter_true, List.map_map]; rfl))) (cr_maxL ?_ ?_)
      · rw [hval]
        obtain ⟨p, hp, e1⟩ := List.mem_map.mp hmem
        exact List.mem_map.mpr ⟨p, hp, by rw [e1]⟩
      · intro y hy
        obtain ⟨p, hp, rfl⟩ := List.mem_map.mp hy
        have := maxN_le (l := places.map fun p => g.valIf e left places p) (List.mem_map.mpr ⟨p, hp, rfl⟩)
        rw [hval]
        omega
end
end SL
set_option maxRecDepth 100000
set_option maxHeartbeats 4000000
namespace SL
open PySem L2 Evl
local macro_rules | `(tactic| trivial) => `(tactic| (repeat (first | exact SL.LeG.nil | refine SL.LeG.cons (by first | exact SL.Le.rfl _ | exact SL.Le.any _) ?_)); done)
/-! ### slices -/
theorem cut_from {xs : List V} {k : Nat} : cutV xs (some (k : Int)) none = xs.drop k := by
  unfold cutV
  rw [HT.sIx_nat, HT.sIx_none]
  by_cases h : k ≤ xs.length
  · rw [Nat.min_eq_left h, List.take_of_length_le (by rw [List.length_drop]; omega)]
  · rw [Nat.min_eq_right (by omega), List.drop_eq_nil_of_le (Nat.le_refl _), List.drop_eq_nil_of_le (by omega)]
    simp
theorem cut_to {xs : List V} {k : Nat} : cutV xs none (some (k : Int)) = xs.take k := by
  unfold cutV
  rw [HT.sIx_nat, HT.sIx_none, List.drop_zero, Nat.sub_zero]
  by_cases h : k ≤ xs.length
  · rw [Nat.min_eq_left h]
  · rw [Nat.min_eq_right (by omega), List.take_of_length_le (Nat.le_refl _), List.take_of_length_le (by omega)]
section
variable {W : Wd} {X : Cx} {Γ : List Sd} {e lo hi : Expr} {pos p2 : Pos} {ds : List PyData}
theorem xdrop {k : Nat} (h : XE W X e Γ (dL ds)) (hk : XE W X lo Γ (dI (k : Int))) : XE W X (.Subscript e (.Slice (some lo) none none p2) pos) Γ (dL (ds.drop k)) := by
  obtain ⟨t, a1, a2⟩ := h
  obtain ⟨u, b1, b2⟩ := hk
  refine ⟨_, pe_slice sl_list a1 (po_some b1) po_none, fun H0 σ G H o s Q q => a2 H0 σ G H o s _ fun v G1 H1 r1 o1 m1 => b2 H0 σ G1 H1 o1 (s.run r1) _ fun v2 G2 H2 r2 o2 m2 => ?_⟩
  cases Dq.int_inv m2
  obtain ⟨a, xs, rfl, ha, hd⟩ := Dq.lst_inv (Dq.mono r2.gg m1)
  refine ⟨(k : Int), rfl, a, xs, rfl, SqL.of (o2.ex _ _ ha), fun p hp => ?_⟩
  rw [cut_from]
  exact q _ _ _ ((r1.trans r2).trans (Rn.alloc o2 hp)) (o2.alloc hp) (.lst upd_same ((hd.drop k).mono (Ex.new (none_of_ex o2.ex hp))))
theorem xtake {k : Nat} (h : XE W X e Γ (dL ds)) (hk : XE W X hi Γ (dI (k : Int))) : XE W X (.Subscript e (.Slice none (some hi) none p2) pos) Γ (dL (ds.take k)) := by
  obtain ⟨t, a1, a2⟩ := h
  obtain ⟨u, b1, b2⟩ := hk
  refine ⟨_, pe_slice sl_list a1 po_none (po_some b1), fun H0 σ G H o s Q q => a2 H0 σ G H o s _ fun v G1 H1 r1 o1 m1 => b2 H0 σ G1 H1 o1 (s.run r1) _ fun v2 G2 H2 r2 o2 m2 => ?_⟩
  cases Dq.int_inv m2
  obtain ⟨a, xs, rfl, ha, hd⟩ := Dq.lst_inv (Dq.mono r2.gg m1)
  refine ⟨(k : Int), rfl, a, xs, rfl, SqL.of (o2.ex _ _ ha), fun p hp => ?_⟩
  rw [cut_to]
  exact q _ _ _ ((r1.trans r2).trans (Rn.alloc o2 hp)) (o2.alloc hp) (.lst upd_same ((hd.take k).mono (Ex.new (none_of_ex o2.ex hp))))
end
theorem bestP_snoc (f : Nat → Nat) (x : Nat) : ∀ (pre : List Nat) (b : Nat), Gm.bestP f b (pre ++ [x]) = if f (Gm.bestP f b pre) < f x then x else Gm.bestP f b pre
  | [], b => by
    show Gm.bestP f b [x] = _
    unfold Gm.bestP
    split <;> rfl
  | p :: r, b => by
    show Gm.bestP f b (p :: (r ++ [x])) = if f (Gm.bestP f b (p :: r)) < f x then x else Gm.bestP f b (p :: r)
    unfold Gm.bestP
    split
    · exact bestP_snoc f x r p
    · exact bestP_snoc f x r b
theorem bestP_mem (f : Nat → Nat) : ∀ (l : List Nat) (b : Nat), Gm.bestP f b l = b ∨ Gm.bestP f b l ∈ l
  | [], b => .inl rfl
  | p :: r, b => by
    unfold Gm.bestP
    split
    · rcases bestP_mem f r p with h | h
      · exact .inr (by rw [h]; simp)
      · exact .inr (List.mem_cons_of_mem _ h)
    · rcases bestP_mem f r b with h | h
      · exact .inl h
      · exact .inr (List.mem_cons_of_mem _ h)
theorem best_mem {g : Gm} {d : Nat} {left places : List Nat} (h : places ≠ []) : g.best d left places ∈ places := by
  unfold Gm.best
  match places, h with
  | p :: r, _ =>
    rcases bestP_mem (g.valIf d left (p :: r)) r p with h | h
    · show Gm.bestP _ p r ∈ _
      rw [h]; simp
    · exact List.mem_cons_of_mem _ h
def preBest (P : Program) (w : World) (C kd : Addr) (g : Gm) (dep n : Nat) : List Ty → Ty → Prop := fun Rs R => ∃ (left places : List Nat) (d : Nat), Rs = [goTy C kd g, dat (encN left), dat (encN places), dI ((d + 1 : Nat) : Int)] ∧ R = dI ((g.best d left places : Nat) : Int) ∧ g.Fine ∧ dep ≤ 3 ∧ g.Re dep left places (d + 1) ∧ places ≠ [] ∧ d + 1 ≤ n
abbrev nBp : List Str := ["self", "left", "places", "depth", "found", "most", "place", "other"]
section
variable {P : Program} {w : World} {K : PySem.W.Frag} {mg : Str → Option Value} {base : Heap} {C kd : Addr} {g : Gm}
theorem scBp : FnScope nBp ["self", "left", "places", "depth"] (defScope sBestP) := ⟨rfl, rfl, rfl, by decide +kernel, rfl, by decide +kernel, by decide +kernel⟩
theorem def_best {dep n k : Nat} (S : MSrc K C "best_place" "Going.best_place" sBestP ["self", "left", "places", "depth"]) (T : GC K mg C)
    (A2 : MDef P w K mg base C (k + 1) "many_if" ["self", "left", "places", "place", "depth"] (spF (Wk P w kd g dep) (preManyIf P w C kd g dep n))) : MDef P w K mg base C (k + 2) "best_place" ["self", "left", "places", "depth"] (spF (Wk P w kd g dep) (preBest P w C kd g dep n)) := by
  refine MDef.of S scBp (fun Rs R h => by obtain ⟨a, b, c, rfl, _⟩ := h; rfl) fun f cdv A outer s H E hr Rs R hp F D hW hrt _ => ?_
  obtain ⟨left, places, d, rfl, rfl, hf, hdep, hre, hne, hdn⟩ := hp
  obtain ⟨FW, G0, H0, gh, ghm⟩ := F
  cases hW
  have nd := scBp.nd
  obtain ⟨p0, pr, rfl⟩ : ∃ p0 pr, places = p0 :: pr := by
    cases places with
    | nil => exact absurd rfl hne
    | cons a b => exact ⟨a, b, rfl⟩
  have hlv := Re.lv hre hf
  have hl8 : (p0 :: pr).length ≤ 8 := hlv.p
  refine xss_cons (xs_set 4 nd (xix ix_list (xn 2) xint (rv_ixL (d := .int (p0 : Int)) (atI_of (n := 0) rfl rfl)) (fun _ _ => rfl)) (nx_of rfl)) ?_
  refine xss_cons (xs_set 5 nd (xmeth T A2 hr (xn 0) (xacons (xn 1) (xacons (xn 2) (xacons (xn 4) (xa1 (xn 3))))) ⟨left, p0 :: pr, p0, d, rfl, rfl, hf, hdep, hre, by simp, hdn⟩ (fun _ _ _ _ => gf_no _ _ _ _ (by decide +kernel) (by decide +kernel) (by decide +kernel) (by decide +kernel))) (nx_of rfl)) ?_
  refine xss_cons (D := D) (Γ' := [Sd.ty (goTy C kd g), sd (encN left), sd (encN (p0 :: pr)), sd (.int ((d + 1 : Nat) : Int)), sd (.int ((g.best d left (p0 :: pr) : Nat) : Int)), .any, .any, .any])
    (xs_forN 6 nd (xi_list (xs := pr) (enc := fun i : Nat => PyData.int (i : Int)) (XE.eq (xdrop (ds := (p0 :: pr).map fun i : Nat => PyData.int (i : Int)) (k := 1) (xn 2) xint) rfl))
    (fun pre => [Sd.ty (goTy C kd g), sd (encN left), sd (encN (p0 :: pr)), sd (.int ((d + 1 : Nat) : Int)), sd (.int ((Gm.bestP (g.valIf d left (p0 :: pr)) p0 pre : Nat) : Int)), sd (.int ((g.valIf d left (p0 :: pr) (Gm.bestP (g.valIf d left (p0 :: pr)) p0 pre) : Nat) : Int)), .any, .any]) (fun pre x post he Sg hS => ?_) (nx_le (by trivial))) (xss_one (xs_ret (xn 4) hrt))
  have hx : x ∈ p0 :: pr := by rw [he]; simp
  refine xss_cons (xs_set 7 nd (xmeth T A2 hr (xn 0) (xacons (xn 1) (xacons (xn 2) (xacons (xn 6) (xa1 (xn 3))))) ⟨left, p0 :: pr, x, d, rfl, rfl, hf, hdep, hre, hx, hdn⟩ (fun _ _ _ _ => gf_no _ _ _ _ (by decide +kernel) (by decide +kernel) (by decide +kernel) (by decide +kernel))) (nx_of rfl)) ?_
  have eb := bestP_snoc (g.valIf d left (p0 :: pr)) x pre p0
  refine xss_one (xs_if (b := decide (g.valIf d left (p0 :: pr) (Gm.bestP (g.valIf d left (p0 :: pr)) p0 pre) < g.valIf d left (p0 :: pr) x)) (XT.eq (xtcmp op_gt (xn 7) (xn 5) rv_bl (nomark _)) ?_) (fun h => ?_) (fun h => xss_nil ?_))
  · rw [Bool.eq_iff_iff, decide_eq_true_iff, decide_eq_true_iff]
    omega
  · have h := of_decide_eq_true h
    rw [if_pos h] at eb
    refine xss_cons (xs_set 4 nd (xn 6) (nx_of rfl)) (xss_one (xs_set 5 nd (xn 7) ?_))
    rw [eb]
    exact nx_le (by trivial)
  · have h := of_decide_eq_false h
    rw [if_neg h] at eb
    rw [eb]
    exact nx_le (by trivial)
end
end SL
set_option maxRecDepth 100000
set_option maxHeartbeats 4000000
namespace SL
open PySem L2 Evl
local macro_rules | `(tactic| trivial) => `(tactic| (repeat (first | exact SL.LeG.nil | refine SL.LeG.cons (by first | exact SL.Le.rfl _ | exact SL.Le.any _) ?_)); done)
/-! ### plans as they lie -/
mutual
inductive PlA (G : Hp) : V → Pl → List Addr → Prop
  | no : PlA G .non .no []
  | op {a d : Addr} {x : V} {c : Cell} {kvs : List (Key × V)} {subs : List (Int × Pl)} {as : List Addr} : G a = some (.tup [x, .ref d]) → Dq G x (encC c) → G d = some (.dK kvs) → PlAs G kvs subs as → (subs.map (·.1)).Nodup ∧ subs.length ≤ 1000 → PlA G (.ref a) (.op c subs) (d :: as)
inductive PlAs (G : Hp) : List (Key × V) → List (Int × Pl) → List Addr → Prop
  | nil : PlAs G [] [] []
  | cons {n : Int} {v : V} {t : Pl} {as bs : List Addr} {r : List (Key × V)} {s : List (Int × Pl)} : PlA G v t as → PlAs G r s bs → PlAs G ((Sum.inl n, v) :: r) ((n, t) :: s) (as ++ bs)
end
mutual
theorem PlA.mono {G G' : Hp} (e : Ex G G') : ∀ {v : V} {t : Pl} {as : List Addr}, PlA G v t as → PlA G' v t as
  | _, _, _, .no => .no
  | _, _, _, .op h1 h2 h3 h4 h5 => .op (e _ _ h1) (h2.mono e) (e _ _ h3) (PlAs.mono e h4) h5
theorem PlAs.mono {G G' : Hp} (e : Ex G G') : ∀ {r : List (Key × V)} {s : List (Int × Pl)} {as : List Addr}, PlAs G r s as → PlAs G' r s as
  | _, _, _, .nil => .nil
  | _, _, _, .cons h1 h2 => .cons (PlA.mono e h1) (PlAs.mono e h2)
end
mutual
theorem PlA.there {G : Hp} : ∀ {v : V} {t : Pl} {as : List Addr}, PlA G v t as → ∀ a ∈ as, G a ≠ none
  | _, _, _, .no, a, h => by simp at h
  | _, _, _, .op h1 h2 h3 h4 _, a, h => by
    rcases List.mem_cons.mp h with e | e
    · subst e; rw [h3]; exact fun z => nomatch z
    · exact PlAs.there h4 a e
theorem PlAs.there {G : Hp} : ∀ {r : List (Key × V)} {s : List (Int × Pl)} {as : List Addr}, PlAs G r s as → ∀ a ∈ as, G a ≠ none
  | _, _, _, .nil, a, h => by simp at h
  | _, _, _, .cons h1 h2, a, h => by
    rcases List.mem_append.mp h with e | e
    · exact PlA.there h1 a e
    · exact PlAs.there h2 a e
end
section
variable {G : Hp}
theorem PlAs.snoc {n : Int} {v : V} {t : Pl} {bs : List Addr} (hv : PlA G v t bs) : ∀ {r : List (Key × V)} {s : List (Int × Pl)} {as : List Addr}, PlAs G r s as → PlAs G (r ++ [(Sum.inl n, v)]) (s ++ [(n, t)]) (as ++ bs)
  | _, _, _, .nil => by
    have h := PlAs.cons (n := n) hv PlAs.nil
    rw [List.append_nil] at h
    exact h
  | _, _, _, .cons h1 h2 => by
    rw [List.append_assoc]
    exact .cons h1 (PlAs.snoc hv h2)
theorem PlAs.len : ∀ {r : List (Key × V)} {s : List (Int × Pl)} {as : List Addr}, PlAs G r s as → r.length = s.length
  | _, _, _, .nil => rfl
  | _, _, _, .cons _ h => congrArg (· + 1) h.len
theorem PlAs.none {n : Int} : ∀ {r : List (Key × V)} {s : List (Int × Pl)} {as : List Addr}, PlAs G r s as → n ∉ s.map (·.1) → valV r (Sum.inl n) = none
  | _, _, _, .nil, _ => rfl
  | _, _, _, .cons (n := m) _ h, hn => by
    rw [valV_neg (fun e => hn (by rw [List.map_cons]; rw [show m = n from Sum.inl.inj e]; simp))]
    exact h.none fun z => hn (by rw [List.map_cons]; exact List.mem_cons_of_mem _ z)
end
def plTy (H0 : Hp) (t : Pl) : Ty := ⟨fun G v => ∃ as, PlA G v t as ∧ as.Nodup ∧ ∀ a ∈ as, H0 a = none, fun e h => let ⟨as, h1, h2, h3⟩ := h; ⟨as, h1.mono e, h2, h3⟩⟩
def plN (t : Pl) : Ty := ⟨fun G v => ∃ as, PlA G v t as ∧ as.Nodup, fun e h => let ⟨as, h1, h2⟩ := h; ⟨as, h1.mono e, h2⟩⟩
def plO (H0 : Hp) (subs : List (Int × Pl)) : OTy := ⟨fun G o => ∃ kvs as, o = .dK kvs ∧ PlAs G kvs subs as ∧ as.Nodup ∧ ∀ a ∈ as, H0 a = none, fun e h => let ⟨kvs, as, h1, h2, h3, h4⟩ := h; ⟨kvs, as, h1, h2.mono e, h3, h4⟩⟩
def plD (H0 : Hp) (subs : List (Int × Pl)) : Ty := ⟨fun G v => ∃ d kvs as, v = .ref d ∧ G d = some (.dK kvs) ∧ PlAs G kvs subs as ∧ (d :: as).Nodup ∧ ∀ a ∈ d :: as, H0 a = none, fun e h => let ⟨d, kvs, as, h1, h2, h3, h4⟩ := h; ⟨d, kvs, as, h1, e _ _ h2, h3.mono e, h4⟩⟩
theorem plTy_less {H H1 G : Hp} {v : V} {t : Pl} (h : ∀ a, H a ≠ none → H1 a ≠ none) (m : (plTy H1 t).r G v) : (plTy H t).r G v := by
  obtain ⟨as, h1, h2, h3⟩ := m
  refine ⟨as, h1, h2, fun a ha => ?_⟩
  cases q : H a with
  | none => rfl
  | some u => exact absurd (h3 a ha) (h a (by rw [q]; exact fun z => nomatch z))
/-! ### promises that look at where they began -/
def XEH (W : Wd) (X : Cx) (e : Expr) (Γ : List Sd) (R : Hp → Ty) : Prop := ∃ te, PE X e te ∧ ∀ (H0 : Hp) (σ : L2.St) (G H : Hp), Ok W G H → Sl W H0 G H σ Γ → ∀ Q : VK, (∀ v G' H', Rn W G H G' H' → Ok W G' H' → (R H).r G' v → Q v H') → te σ H Q
theorem XEH.xe {W : Wd} {X : Cx} {e : Expr} {Γ : List Sd} {R : Hp → Ty} {S : Ty} (h : XEH W X e Γ R) (k : ∀ H G v, (R H).r G v → S.r G v) : XE W X e Γ S := let ⟨t, h1, h2⟩ := h; ⟨t, h1, fun H0 σ G H o s Q q => h2 H0 σ G H o s Q fun v G' H' r o' m => q v G' H' r o' (k _ _ _ m)⟩
def spH (W : Wd) (pre : Hp → List Ty → Ty → Prop) : Sp := fun vs H Q _ => ∃ Rs R G, pre H Rs R ∧ Ok W G H ∧ AllTy G Rs vs ∧ ∀ v G' H', Rn W G H G' H' → Ok W G' H' → R.r G' v → Q v H'
section
variable {P : Program} {w : World} {K : PySem.W.Frag} {mg : Str → Option Value} {base : Heap} {k : Nat} {C : Addr} {m qual : Str} {st : Stmt} {ps N : List Str} {W : Wd}
theorem MDef.ofH {pre : Hp → List Ty → Ty → Prop} (S : MSrc K C m qual st ps) (sc : FnScope N ps (defScope st)) (len : ∀ H Rs R, pre H Rs R → Rs.length = ps.length)
    (body : ∀ (f : Addr) (cdv : Value) (A : Around) (outer : List Env) (s : Shared) (H : Hp) (E : XK), Room k (A.deeper (PyProof.Rows.envOfC qual (defScope st) s.heap.objs.size f cdv)) → ∀ (Rs : List Ty) (R : Ty) (F : Fx) (D : Ends), pre F.H0 Rs R → F.W = W → Rt F R D → (∀ σ H', D.nx σ H' = D.rt .non H') →
      XSs F (Xc P w K mg base N qual st f cdv A outer s H E) (defBody st) (Rs.map Sd.ty ++ List.replicate (N.length - Rs.length) Sd.any) D) : MDef P w K mg base C (k + 1) m ps (spH W pre) := by
  obtain ⟨f, fd, F, hm, hb⟩ := S.ex
  refine ⟨f, fd, F.ok sc (fun vs H Q E ⟨Rs, R, G, hp, _, ha, _⟩ => by rw [ha.len, len H Rs R hp]) (fun cdv A outer s H vs Q E hr h => ?_), hm, hb⟩
  obtain ⟨Rs, R, G, hp, o, ha, q⟩ := h
  obtain ⟨t, a1, a2⟩ := body f cdv A outer s H E hr Rs R (Fx.of W G H) { nx := fun _ H' => Q .non H', rt := Q } hp rfl (fun v G' H' r o m => q v G' H' r o m) (fun _ _ => rfl)
  exact ⟨t, a1, a2 _ _ ⟨G, start_at o ha⟩⟩
end
section
variable {W : Wd} {X : Cx} {Γ : List Sd} {o : Expr} {pos : Pos} {C kd : Addr} {g : Gm} {k : Nat} {m : Str} {ps : List Str} {e : Expr} {es : List Expr} {Rs : List Ty} {R : Hp → Ty} {apos : Pos}
theorem xmethH {pre : Hp → List Ty → Ty → Prop} {pl : Sem Bool} (T : GC X.K X.mg C) (F : MDef X.prog X.w X.K X.mg X.base C k m ps (spH W pre)) (hr : Room k X.A) (ho : XE W X o Γ (goTy C kd g)) (ha : XA W X (e :: es) Γ Rs) (hp : ∀ H, pre H (goTy C kd g :: Rs) (R H)) (anti : ∀ H H1 G v, (∀ a, H a ≠ none → H1 a ≠ none) → (R H1).r G v → (R H).r G v) (hm : ∀ ca so to kd, (gf ca so to kd).lookup m = none)
    (hst : starEach (e :: es) X.env = (false, eval e X.env) :: starEach es X.env := by rfl) (hpl : (backTo pos (starEach es X.env)).any (·.1) = false := by rfl)
    (ht : eval (.Call (.Attribute o m apos) (e :: es) [] pos) X.env = (do
      let ov ← eval o X.env
      standAt apos.atName
      let (f, first) ← holding [ov] (getMethod ov m pl)
      callWith pos f first (backTo pos (starEach (e :: es) X.env)) (backToKw pos (keywordEach [] X.env))) := by rfl) : XEH W X (.Call (.Attribute o m apos) (e :: es) [] pos) Γ R := by
  obtain ⟨f, fd, F, hme, hb⟩ := F.ex
  obtain ⟨t, a1, a2⟩ := ho
  obtain ⟨u, b1, b2⟩ := ha
  refine ⟨_, pe_meth a1 T.cl hme F hr hb .nil pass0 b1 hst hpl ht, fun H0 σ G H k s Q q => a2 H0 σ G H k s _ fun v G1 H1 r1 o1 m1 => ?_⟩
  obtain ⟨a, dx, ca, so, to, rfl, h2⟩ := id m1
  refine ⟨a, dx, _, rfl, o1.ex _ _ h2.1, hm _ _ _ _, b2 H0 σ G1 H1 o1 (s.run r1) _ fun vs G2 H2 r2 o2 m2 => ?_⟩
  rw [List.append_nil]
  exact ⟨_, R H2, G2, hp H2, o2, ⟨(goTy C kd g).mono r2.gg m1, m2⟩, fun v G' H' r o' z => q v G' H' ((r1.trans r2).trans r) o' (anti _ _ _ _ (r1.trans r2).hd z)⟩
end
/-! ### tuples of anything -/
def tupT (Rs : List Ty) : Ty := ⟨fun G v => ∃ a vs, v = .ref a ∧ G a = some (.tup vs) ∧ AllTy G Rs vs, fun e h => let ⟨a, vs, h1, h2, h3⟩ := h; ⟨a, vs, h1, e _ _ h2, h3.mono e⟩⟩
section
variable {W : Wd} {X : Cx} {Γ : List Sd} {pos : Pos}
theorem xtupT {es : List Expr} {Rs : List Ty} {k : Nat} (h : XA W X es Γ Rs) (hl : Rs.length ≤ 100000) : XE W X (.Tuple es k pos) Γ (tupT Rs) := by
  obtain ⟨t, a1, a2⟩ := h
  refine ⟨_, pe_tup a1, fun H0 σ G H o s Q q => a2 H0 σ G H o s _ fun vs G1 H1 r1 o1 m1 => ⟨?_, fun p hp => ?_⟩⟩
  · have e := m1.len
    exact sz_of (by omega)
  · exact q _ _ _ (r1.trans (Rn.alloc o1 hp)) (o1.alloc hp) ⟨p, vs, rfl, upd_same, m1.mono (Ex.new (none_of_ex o1.ex hp))⟩
end
section
variable {F : Fx} {X : Cx} {Γ : List Sd} {D : Ends} {pos : Pos}
/-- x = {} -/
theorem xs_dnew (i : Nat) {x : Str} {pos' ep : Pos} {R : OTy} (hN : X.N.Nodup) (hR : ∀ G, R.r G (.dK [])) (k : Nx F (Γ.set i (.own R)) D) (hi : X.N[i]? = some x := by rfl) (hx : Loc X.env.scope x := by first | exact Or.inl rfl | exact Or.inr rfl)
    (hs : swapsWith (.Dict [] [] ep) (some (.Name x pos')) pos.line X.env = pure false := by rfl) (hf : X.fn x = true ∨ X.env.scope.names.lookup x = some .local := by first | exact .inl rfl | exact .inr rfl | assumption) :
    XS F X (.Assign [.Name x pos'] (.Dict [] [] ep) pos) Γ D :=
  ⟨_, ps_set hN hi hx pe_dnewK hs hf, fun σ H ⟨G, a⟩ p hp => k _ _ ⟨G, a.newOwn hp (hR G)⟩⟩
theorem xs_plput (i : Nat) {x : Str} {xp pos' : Pos} {ek value : Expr} {n : Int} {t : Pl} {subs : List (Int × Pl)} (hu : X.A.units + 1 < cLine) (hG : Γ[i]? = some (.own (plO F.H0 subs))) (hk : XE F.W X ek Γ (dI n)) (hv : XEH F.W X value Γ (fun H => plTy H t)) (hn : n ∉ subs.map (·.1)) (hl : subs.length ≤ 1000)
    (k : Nx F (Γ.set i (.own (plO F.H0 (subs ++ [(n, t)])))) D) (hN : X.N[i]? = some x := by rfl)
    (hvs : Vis X.env.scope x := by first | exact Or.inl rfl | exact Or.inr (Or.inl rfl) | exact Or.inr (Or.inr rfl)) (hd : (x == ("__debug__" : Str)) = false := by decide) (hcd : (x == ("__classdict__" : Str)) = false := by decide)
    (hs : swapsWith value (some (.Subscript (.Name x xp) ek pos')) pos.line X.env = pure false := by rfl) : XS F X (.Assign [.Subscript (.Name x xp) ek pos'] value pos) Γ D := by
  obtain ⟨tv, v1, v2⟩ := hv
  obtain ⟨tk, k1, k2⟩ := hk
  refine ⟨_, ps_dput hu (pe_var hN hvs hd hcd) k1 v1 hs, fun σ H ⟨G, a⟩ => ?_⟩
  obtain ⟨l, _, e1, h1, h2, h3, h4, kvs, as, rfl, p1, p2, p3⟩ := a.sl.mu i _ hG
  refine v2 _ σ G H a.ok a.sl _ fun v G1 H1 r1 o1 m1 => ⟨_, e1, ?_⟩
  have a1 := a.run r1 o1
  refine k2 _ σ G1 H1 o1 a1.sl _ fun y G2 H2 r2 o2 m2 => ?_
  cases Dq.int_inv m2
  have a2 := a1.run r2 o2
  have r12 := r1.trans r2
  obtain ⟨bs, q1, q2, q3⟩ := m1
  have hlen : kvs.length < sizeLine := by
    have := p1.len
    rw [sizeLine_eq]
    omega
  refine ⟨l, _, rfl, DPut.k (k := Sum.inl n) (r12.hh _ _ h4 h1) hlen, k _ _ ⟨G2, a2.upOwn (S := plO F.H0 (subs ++ [(n, t)])) hG e1 ⟨_, as ++ bs, rfl, ?_, ?_, ?_⟩⟩⟩
  · rw [putK_new _ (p1.none hn)]
    exact (p1.mono r12.gg).snoc (q1.mono r2.gg)
  · rw [List.nodup_append]
    refine ⟨p2, q2, fun b hb c hc e => ?_⟩
    subst e
    have h5 := p1.there b hb
    cases z : G b with
    | none => exact h5 z
    | some u =>
      have := a.ok.ex _ _ z
      rw [q3 b hc] at this
      cases this
  · intro b hb
    rcases List.mem_append.mp hb with z | z
    · exact p3 b z
    · exact a.fresh0 (q3 b z)
end
/-! ### the keys of the groups -/
theorem addG_keys {t : Int} {i : Nat} : ∀ {gs : List Grp}, (gs.map (·.1)).Nodup → ((addG gs t i).map (·.1)).Nodup ∧ ∀ u, u ∈ (addG gs t i).map (·.1) → u ∈ gs.map (·.1) ∨ u = t
  | [], _ => ⟨by simp [addG], fun u hu => .inr (by simpa [addG] using hu)⟩
  | (u, l) :: r, h => by
    rw [List.map_cons, List.nodup_cons] at h
    unfold addG
    by_cases e : u = t
    · rw [if_pos e]
      exact ⟨by rw [List.map_cons, List.nodup_cons]; exact h, fun v hv => .inl hv⟩
    · rw [if_neg e]
      obtain ⟨h1, h2⟩ := addG_keys (t := t) (i := i) h.2
      refine ⟨?_, fun v hv => ?_⟩
      · rw [List.map_cons, List.nodup_cons]
        refine ⟨fun z => ?_, h1⟩
        rcases h2 u z with q | q
        · exact h.1 q
        · exact e q
      · rw [List.map_cons] at hv
        rcases List.mem_cons.mp hv with q | q
        · exact .inl (by rw [q]; simp)
        · rcases h2 v q with q | q
          · exact .inl (by rw [List.map_cons]; exact List.mem_cons_of_mem _ q)
          · exact .inr q
theorem groups_keys {g : Gm} {p : Nat} : ∀ left : List Nat, ((g.groups left p).map (·.1)).Nodup := by
  refine snoc_ind (by simp [Gm.groups]) fun l i ih => ?_
  rw [groups_snoc]
  unfold Gm.stepG
  split
  · exact ih
  · exact (addG_keys ih).1
/-! ### plan -/
def prePl (P : Program) (w : World) (C kd : Addr) (g : Gm) (dep n : Nat) : Hp → List Ty → Ty → Prop := fun H Rs R => ∃ (left places : List Nat) (d : Nat), Rs = [goTy C kd g, dat (encN left), dat (encN places), dI (d : Int)] ∧ R = plTy H (g.plan d left places) ∧ g.Fine ∧ dep ≤ 3 ∧ g.Re dep left places d ∧ d < n
abbrev nPl : List Str := ["self", "left", "places", "depth", "place", "rest", "plans", "number", "group", "other"]
section
variable {P : Program} {w : World} {K : PySem.W.Frag} {mg : Str → Option Value} {base : Heap} {C kd : Addr} {g : Gm}
theorem scPl : FnScope nPl ["self", "left", "places", "depth"] (defScope sPlan) := ⟨rfl, rfl, rfl, by decide +kernel, rfl, by decide +kernel, by decide +kernel⟩
theorem def_plan {dep n k : Nat} (S : MSrc K C "plan" "Going.plan" sPlan ["self", "left", "places", "depth"]) (T : GC K mg C) (B : Bn mg) (A0 : MDef P w K mg base C 1 "is_over" ["self", "left", "places"] (spF W0 (preOver C kd g))) (A1 : MDef P w K mg base C 1 "groups" ["self", "left", "place"] (spO W0 (preGroups C kd g)))
    (A2 : MDef P w K mg base C (k + 1) "best_place" ["self", "left", "places", "depth"] (spF (Wk P w kd g dep) (preBest P w C kd g dep 3))) (A3 : MDef P w K mg base C (k + 1) "plan" ["self", "left", "places", "depth"] (spH (Wk P w kd g dep) (prePl P w C kd g dep n))) :
    MDef P w K mg base C (k + 2) "plan" ["self", "left", "places", "depth"] (spH (Wk P w kd g dep) (prePl P w C kd g dep (n + 1))) := by
  refine MDef.ofH S scPl (fun H Rs R h => by obtain ⟨a, b, c, rfl, _⟩ := h; rfl) fun f cdv A outer s H E hr Rs R F D hp hW hrt _ => ?_
  obtain ⟨left, places, d, rfl, rfl, hf, hdep, hre, hdn⟩ := hp
  obtain ⟨FW, G0, H0, gh, ghm⟩ := F
  cases hW
  have nd := scPl.nd
  have hlv := Re.lv hre hf
  have hl8 : places.length ≤ 8 := hlv.p
  have hl256 : left.length ≤ 256 := hlv.l
  refine xss_ifr (b := decide (d = 0) || g.over left places) (XW.t (XW.eq (xwor (xtcmp op_eq (xn 3) xint rv_eqI (nomark _)) fun _ => xwor1 (xtval (xmeth0 T A0 (hr.mono (by omega)) (xn 0) (xacons (xn 1) (xa1 (xn 2))) ⟨left, places, rfl, rfl, ⟨hf, hl256, hlv.li⟩, hlv.pi⟩ (fun _ _ _ _ => gf_no _ _ _ _ (by decide +kernel) (by decide +kernel) (by decide +kernel) (by decide +kernel))))) ?_))
    (fun h => xss_one (xs_ret (XE.sub xnone fun G v hv => ?_) hrt)) (fun h => ?_)
  · congr 1
    rw [Bool.eq_iff_iff, decide_eq_true_iff, decide_eq_true_iff]
    omega
  · cases Dq.non_inv hv
    have e : g.plan d left places = .no := by
      cases d with
      | zero => rfl
      | succ d =>
        have h : g.over left places = true := by simpa using h
        show (if g.over left places = true then _ else _) = _
        rw [if_pos h]
    rw [e]
    exact ⟨[], .no, List.nodup_nil, fun a ha => by simp at ha⟩
  · rw [Bool.or_eq_false_iff] at h
    obtain ⟨hd0, hov⟩ := h
    have hd0 : d ≠ 0 := of_decide_eq_false hd0
    obtain ⟨e, rfl⟩ : ∃ e, d = e + 1 := ⟨d - 1, by omega⟩
    have hne : places ≠ [] := by
      rintro rfl
      simp [Gm.over] at hov
    have hd3 : e + 1 ≤ 3 := by
      obtain ⟨k', _, e'⟩ := hre
      omega
    obtain ⟨p, ep⟩ : ∃ p, p = g.best e left places := ⟨_, rfl⟩
    have hpp : p ∈ places := by rw [ep]; exact best_mem hne
    have hpl : g.plan (e + 1) left places = .op (cellAt g.cells p) ((g.groups left p).map fun x => (x.1, g.plan e x.2 (rest places p))) := by
      show (if g.over left places = true then _ else _) = _
      rw [if_neg (by rw [hov]; exact Bool.false_ne_true), ep]
    rw [hpl] at hrt
    refine xss_cons (xs_set (R := dI (p : Int)) 4 nd (XE.eq (xmeth T A2 hr (xn 0) (xacons (xn 1) (xacons (xn 2) (xa1 (xn 3)))) ⟨left, places, e, rfl, rfl, hf, hdep, hre, hne, hd3⟩ (fun _ _ _ _ => gf_no _ _ _ _ (by decide +kernel) (by decide +kernel) (by decide +kernel) (by decide +kernel))) (by rw [ep])) (nx_of rfl)) ?_
    refine xss_cons (xs_lcN 5 9 [("other", 9)] (r := (rest places p).map fun i : Nat => PyData.int (i : Int)) nd (xi_list (xs := places) (enc := fun i : Nat => PyData.int (i : Int)) (xn 2)) (blkOk_by (N := nPl) (sc := defScope sPlan) (by decide +kernel)) (fun o => !decide (o = p)) (fun i : Nat => .int (i : Int))
      (fun z hz => .one fun s H C' cl fp => XT.eq (xtcmp op_ne (xn 9) (xn 4) rv_neI (nomark _)) ?_) (fun z hz _ s H C' cl fp => xn 9) (by omega) (nx_of rfl)) ?_
    · have : decide ((z : Int) = (p : Int)) = decide (z = p) := by
        rw [Bool.eq_iff_iff, decide_eq_true_iff, decide_eq_true_iff]
        omega
      rw [this]
    refine xss_cons (xs_dnew 6 (R := plO H0 []) nd (fun G => ⟨[], [], rfl, .nil, List.nodup_nil, fun a ha => by simp at ha⟩) (nx_of rfl)) ?_
    refine xss_cons (D := D) (Γ' := [Sd.ty (goTy C kd g), sd (encN left), sd (encN places), sd (.int ((e + 1 : Nat) : Int)), sd (.int (p : Int)), sd (encN (rest places p)), .own (plO H0 ((g.groups left p).map fun x => (x.1, g.plan e x.2 (rest places p)))), .any, .any, .any])
      (xs_forP 7 8 nd (xi_items (gs := g.groups left p) (xmethO T A1 (hr.mono (by omega)) (xn 0) (xacons (xn 1) (xa1 (xn 4))) ⟨left, p, rfl, rfl, ⟨hf, hl256, hlv.li⟩, hlv.pi p hpp⟩ (fun _ _ _ _ => gf_no _ _ _ _ (by decide +kernel) (by decide +kernel) (by decide +kernel) (by decide +kernel))) (fun h => pi_items h))
      (fun pre => [Sd.ty (goTy C kd g), sd (encN left), sd (encN places), sd (.int ((e + 1 : Nat) : Int)), sd (.int (p : Int)), sd (encN (rest places p)), .own (plO H0 (pre.map fun x => (x.1, g.plan e x.2 (rest places p)))), .any, .any, .any]) (fun pre x post he Sg hS => ?_) (nx_le (by trivial)))
      (xss_frzO 6 (S := plD H0 ((g.groups left p).map fun x => (x.1, g.plan e x.2 (rest places p)))) ?_ rfl (fun G l o n n0 h => ?_))
    · have hx : x ∈ g.groups left p := by rw [he]; simp
      have hgl : (g.groups left p).length ≤ 256 := Nat.le_trans groups_len hl256
      have hk := groups_keys (g := g) (p := p) left
      rw [he] at hk hgl
      refine xss_one (xs_plput (n := x.1) (t := g.plan e x.2 (rest places p)) (subs := pre.map fun x => (x.1, g.plan e x.2 (rest places p))) 6 (Nat.lt_of_le_of_lt (Nat.add_le_add_left (by decide : 1 ≤ 64) _) hr.units) rfl (xn 7) (xmethH T A3 hr (xn 0) (xacons (xn 8) (xacons (xn 5) (xa1 (XE.eq (xop op_sub (xn 3) xint rv_int) (d' := .int (e : Int)) (by rw [show ((e + 1 : Nat) : Int) - 1 = (e : Int) by omega]))))) (fun H => ⟨x.2, rest places p, e, rfl, rfl, hf, hdep, Re.down hre hpp hx, by omega⟩) (fun H H1 G v h m => plTy_less h m) (fun _ _ _ _ => gf_no _ _ _ _ (by decide +kernel) (by decide +kernel) (by decide +kernel) (by decide +kernel))) ?_ ?_ ?_)
      · intro hin
        rw [List.map_map] at hin
        rw [List.map_append, List.nodup_append] at hk
        exact hk.2.2 x.1 hin x.1 (by simp) rfl
      · rw [List.length_map]
        rw [List.length_append] at hgl
        omega
      · have e1 : (pre.map fun x => (x.1, g.plan e x.2 (rest places p))) ++ [(x.1, g.plan e x.2 (rest places p))] = (pre ++ [x]).map fun x => (x.1, g.plan e x.2 (rest places p)) := by rw [List.map_append]; rfl
        rw [e1]
        exact nx_le (by trivial)
    · refine xss_one (xs_ret (XE.sub (xtupT (Rs := [dat (encC (cellAt g.cells p)), plD H0 ((g.groups left p).map fun x => (x.1, g.plan e x.2 (rest places p)))]) (xacons (xix ix_list (xf_cells T (xn 0)) (xn 4) (rv_ixL (at_map (d := ((0 : Int), (0 : Int))) (hlv.pi p hpp))) (fun _ _ => rfl)) (xa1 (xn 6))) (by simp)) fun G v hv => ?_) hrt)
      obtain ⟨a, vs, rfl, ha, hvs⟩ := hv
      match vs, hvs with
      | [x, y], ⟨h1, ⟨d, kvs, as, e1, h2, h3, h4, h5⟩, _⟩ =>
        cases e1
        refine ⟨d :: as, .op ha h1 h2 h3 ?_, h4, h5⟩
        refine ⟨?_, ?_⟩
        · rw [List.map_map]
          exact groups_keys left
        · rw [List.length_map]
          have := groups_len (g := g) (left := left) (p := p)
          omega
    · obtain ⟨kvs, as, rfl, h1, h2, h3⟩ := h
      have ex : Ex G (upd G l (.dK kvs)) := Ex.new n
      refine ⟨l, kvs, as, rfl, upd_same, h1.mono ex, ?_, fun a ha => ?_⟩
      · rw [List.nodup_cons]
        exact ⟨fun z => h1.there l z n, h2⟩
      · rcases List.mem_cons.mp ha with z | z
        · rw [z]; exact n0
        · exact h3 a z
/-! ### all of it -/
theorem def_plan0 {dep : Nat} (S : MSrc K C "plan" "Going.plan" sPlan ["self", "left", "places", "depth"]) : MDef P w K mg base C 1 "plan" ["self", "left", "places", "depth"] (spH (Wk P w kd g dep) (prePl P w C kd g dep 0)) := by
  refine MDef.ofH S scPl (fun H Rs R h => by obtain ⟨a, b, c, rfl, _⟩ := h; rfl) fun f cdv A outer s H E hr Rs R F D hp hW hrt _ => ?_
  obtain ⟨left, places, d, rfl, rfl, hf, hdep, hre, hdn⟩ := hp
  omega
theorem def_manyif0 {dep : Nat} (S : MSrc K C "many_if" "Going.many_if" sManyIf ["self", "left", "places", "place", "depth"]) : MDef P w K mg base C 1 "many_if" ["self", "left", "places", "place", "depth"] (spF (Wk P w kd g dep) (preManyIf P w C kd g dep 0)) := by
  refine MDef.of S scMi (fun Rs R h => by obtain ⟨a, b, c, d, rfl, _⟩ := h; rfl) fun f cdv A outer s H E hr Rs R hp F D hW hrt _ => ?_
  obtain ⟨left, places, p, d, rfl, rfl, hf, hdep, hre, hpp, hdn⟩ := hp
  omega
structure GoSrc (K : PySem.W.Frag) (C : Addr) : Prop where
  init : MSrc K C "__init__" "Going.__init__" sInit ["self", "board"]
  groups : MSrc K C "groups" "Going.groups" sGroups ["self", "left", "place"]
  over : MSrc K C "is_over" "Going.is_over" sOver ["self", "left", "places"]
  manyif : MSrc K C "many_if" "Going.many_if" sManyIf ["self", "left", "places", "place", "depth"]
  many : MSrc K C "many" "Going.many" sMany ["self", "left", "places", "depth"]
  best : MSrc K C "best_place" "Going.best_place" sBestP ["self", "left", "places", "depth"]
  plan : MSrc K C "plan" "Going.plan" sPlan ["self", "left", "places", "depth"]
structure GoDef (P : Program) (w : World) (K : PySem.W.Frag) (mg : Str → Option Value) (base : Heap) (C kd : Addr) (g : Gm) (dep : Nat) : Prop where
  over : MDef P w K mg base C 1 "is_over" ["self", "left", "places"] (spF W0 (preOver C kd g))
  manyif : MDef P w K mg base C 7 "many_if" ["self", "left", "places", "place", "depth"] (spF (Wk P w kd g dep) (preManyIf P w C kd g dep 3))
  best : MDef P w K mg base C 8 "best_place" ["self", "left", "places", "depth"] (spF (Wk P w kd g dep) (preBest P w C kd g dep 3))
  plan : MDef P w K mg base C 12 "plan" ["self", "left", "places", "depth"] (spH (Wk P w kd g dep) (prePl P w C kd g dep 4))
theorem go_defs {dep : Nat} (S : GoSrc K C) (T : GC K mg C) (B : Bn mg) : GoDef P w K mg base C kd g dep := by
  have G1 : MDef P w K mg base C 1 "groups" ["self", "left", "place"] (spO W0 (preGroups C kd g)) := def_groups S.groups T
  have O1 : MDef P w K mg base C 1 "is_over" ["self", "left", "places"] (spF W0 (preOver C kd g)) := def_over S.over T B
  have I0 := def_manyif0 (P := P) (w := w) (mg := mg) (base := base) (kd := kd) (g := g) (dep := dep) S.manyif
  have M0 := def_many (k := 0) S.many T B O1 I0
  have I1 := def_manyif (k := 1) S.manyif T B G1 M0
  have M1 := def_many (k := 2) S.many T B O1 I1
  have I2 := def_manyif (k := 3) S.manyif T B G1 M1
  have M2 := def_many (k := 4) S.many T B O1 I2
  have I3 := def_manyif (k := 5) S.manyif T B G1 M2
  have B3 := def_best (k := 6) S.best T I3
  have P0 := def_plan0 (P := P) (w := w) (mg := mg) (base := base) (kd := kd) (g := g) (dep := dep) S.plan
  have P1 := def_plan (k := 7) S.plan T B O1 G1 B3 (P0.mono (by omega))
  have P2 := def_plan (k := 8) S.plan T B O1 G1 (B3.mono (by omega)) P1
  have P3 := def_plan (k := 9) S.plan T B O1 G1 (B3.mono (by omega)) P2
  have P4 := def_plan (k := 10) S.plan T B O1 G1 (B3.mono (by omega)) P3
  exact ⟨O1, I3, B3, P4⟩
end
end SL
set_option maxRecDepth 100000
set_option maxHeartbeats 4000000
namespace SL
open PySem L2 Evl
local macro_rules | `(tactic| trivial) => `(tactic| (repeat (first | exact SL.LeG.nil | refine SL.LeG.cons (by first | exact SL.Le.rfl _ | exact SL.Le.any _) ?_)); done)
def lcSc : Expr → Scope
  | .ListComp _ _ sc _ => sc
  | _ => defScope sInit
def forBd : Stmt → List Stmt
  | .For _ _ b _ _ => b
  | _ => []
def exArg : Stmt → Expr
  | .Expr (.Call _ (e :: _) _ _) _ => e
  | _ => .Constant .none 0 ⟨0, 0, 0, 0⟩
/-! ### fields of a local object -/
section
variable {F : Fx} {W : Wd} {X : Cx} {Γ : List Sd} {D : Ends} {pos : Pos}
theorem xfo (i : Nat) {x f : Str} {xp : Pos} {R : OTy} {S : Ty} {C : Addr} (hG : Γ[i]? = some (.own R)) (hR : ∀ G o, R.r G o → ∃ dx fs v, o = .ins C dx fs ∧ fs.lookup f = some v ∧ S.r G v) (hc : Cls X.K C) (hn : NoAttr X.K C f) (hN : X.N[i]? = some x := by rfl)
    (hvs : Vis X.env.scope x := by first | exact Or.inl rfl | exact Or.inr (Or.inl rfl) | exact Or.inr (Or.inr rfl)) (hd : (x == ("__debug__" : Str)) = false := by decide) (hcd : (x == ("__classdict__" : Str)) = false := by decide)
    (hb : attributeBase (.Name x xp) f X.env (eval (.Name x xp) X.env) = eval (.Name x xp) X.env := by rfl) : XE W X (.Attribute (.Name x xp) f pos) Γ S := by
  refine ⟨_, pe_fld (pe_var hN hvs hd hcd) hb, fun H0 σ G H o s Q q => ?_⟩
  obtain ⟨l, ob, e1, h1, h2, h3, h4, h5⟩ := s.mu i _ hG
  obtain ⟨dx, fs, v, rfl, hl, hv⟩ := hR G ob h5
  exact ⟨_, e1, l, C, dx, fs, v, rfl, h1, hc, hn, hl, q v G H Rn.refl o hv⟩
theorem xp_fset (i : Nat) {x f : Str} {xp pos' : Pos} {e : Expr} {R R' : OTy} {S : Ty} {C : Addr} {Ps : L2.St → Prop} (hG : Γ[i]? = some (.own R)) (he : XE F.W X e Γ S) (hR : ∀ G o v, R.r G o → S.r G v → ∃ dx fs, o = .ins C dx fs ∧ fs.length < 1000 ∧ R'.r G (.ins C dx (putF f v fs))) (hc : Cls X.K C) (hn : NoAttr X.K C f)
    (k : ∀ σ H, Stt F (Γ.set i (.own R')) σ H → Ps σ → D.nx σ H) (hN : X.N[i]? = some x := by rfl)
    (hvs : Vis X.env.scope x := by first | exact Or.inl rfl | exact Or.inr (Or.inl rfl) | exact Or.inr (Or.inr rfl)) (hd : (x == ("__debug__" : Str)) = false := by decide) (hcd : (x == ("__classdict__" : Str)) = false := by decide)
    (hs : swapsWith e (some (.Attribute (.Name x xp) f pos')) pos.line X.env = pure false := by rfl) : XSP X (.Assign [.Attribute (.Name x xp) f pos'] e pos) (fun σ H => Stt F Γ σ H ∧ Ps σ) D := by
  obtain ⟨t, a1, a2⟩ := he
  refine ⟨_, ps_fld (pe_var hN hvs hd hcd) a1 hs, fun σ H ⟨⟨G, a⟩, ps⟩ => a2 _ σ G H a.ok a.sl _ fun v G1 H1 r1 o1 m1 => ?_⟩
  have a1 := a.run r1 o1
  obtain ⟨l, ob, e1, h1, h2, h3, h4, h5⟩ := a1.sl.mu i _ hG
  obtain ⟨dx, fs, rfl, hl, hv⟩ := hR G1 ob v h5 m1
  exact ⟨_, e1, l, C, dx, fs, rfl, h1, hc, hn, hl, k _ _ ⟨G1, a1.upOwn hG e1 hv⟩ ps⟩
end
theorem sem_xp {X : Cx} {sts : List Stmt} {Pre : L2.St → Hp → Prop} {D : Ends} (h : ∀ σ H, Pre σ H → tSemS X sts D σ H) : XSPs X sts Pre D := ⟨_, pss_sem, h⟩
/-! ### the game of a board -/
def hitN (rows : List (List Nat)) (c : Cell) (l : List Cell) : Nat := (l.filter fun o => decide (o ∈ nearIn rows c)).length
def gmOf (rows : List (List Nat)) (n : Int) : Gm := ⟨closedC rows, sortL (layU rows n), (closedC rows).map fun c => (sortL (layU rows n)).map fun l => ((hitN rows c l : Nat) : Int)⟩
theorem layU_len {rows : List (List Nat)} {n : Int} (h : (closedC rows).length ≤ 8) : (sortL (layU rows n)).length ≤ 256 ∧ ∀ l ∈ sortL (layU rows n), l.length ≤ 8 := by
  have R := ri_run (wantsAll rows n) (closedC rows)
  refine ⟨?_, fun l hl => ?_⟩
  · rw [(sortL_perm _).length_eq]
    show ((runC _ _).1.map _).length ≤ _
    rw [List.length_map]
    have h2 := R.len
    have h3 : 2 ^ (closedC rows).length ≤ 2 ^ 8 := Nat.pow_le_pow_right (by decide) h
    omega
  · have hl := (sortL_perm _).mem_iff.mp hl
    obtain ⟨r, hr, rfl⟩ := List.mem_map.mp hl
    have := (R.el r hr).1
    omega
theorem gm_fine {rows : List (List Nat)} {n : Int} (h : (closedC rows).length ≤ 8) : (gmOf rows n).Fine := by
  refine ⟨h, (layU_len h).1, by simp [gmOf], fun r hr => ?_, (layU_len h).2⟩
  obtain ⟨c, _, rfl⟩ := List.mem_map.mp hr
  simp [gmOf]
abbrev sGoingOf : Stmt := top 26
abbrev nIn : List Str := ["self", "board", "cell", "near", "one", "laying"]
def fld1 (ca : V) : List (Str × V) := putF "cells" ca []
def fld2 (ca so : V) : List (Str × V) := putF "some" so (fld1 ca)
def fld3 (ca so to : V) : List (Str × V) := putF "told" to (fld2 ca so)
def insO (C : Addr) (p : Hp → List (Str × V) → Prop) (hp : ∀ G G' fs, Ex G G' → p G fs → p G' fs) : OTy := ⟨fun G o => ∃ dx fs, o = .ins C dx fs ∧ p G fs, fun e h => let ⟨dx, fs, h1, h2⟩ := h; ⟨dx, fs, h1, hp _ _ _ e h2⟩⟩
def io0 (C : Addr) : OTy := insO C (fun _ fs => fs = []) (fun _ _ _ _ h => h)
def io1 (C : Addr) (g : Gm) : OTy := insO C (fun G fs => ∃ ca, fs = fld1 ca ∧ Dq G ca (.list (g.cells.map encC))) (fun _ _ _ e ⟨ca, h1, h2⟩ => ⟨ca, h1, h2.mono e⟩)
def io2 (C : Addr) (g : Gm) : OTy := insO C (fun G fs => ∃ ca so, fs = fld2 ca so ∧ Dq G ca (.list (g.cells.map encC)) ∧ Dq G so (.list (g.lay.map encL))) (fun _ _ _ e ⟨ca, so, h1, h2, h3⟩ => ⟨ca, so, h1, h2.mono e, h3.mono e⟩)
def io3 (C : Addr) (g : Gm) : OTy := insO C (fun G fs => ∃ ca so to, fs = fld3 ca so to ∧ Dq G ca (.list (g.cells.map encC)) ∧ Dq G so (.list (g.lay.map encL))) (fun _ _ _ e ⟨ca, so, to, h1, h2, h3⟩ => ⟨ca, so, to, h1, h2.mono e, h3.mono e⟩)
theorem fl_c1 (ca : V) : (fld1 ca).lookup ("cells" : Str) = some ca := by unfold fld1; rw [lookup_putF, if_pos rfl]
theorem fl_c3 (ca so to : V) : (fld3 ca so to).lookup ("cells" : Str) = some ca := by
  unfold fld3 fld2
  rw [lookup_putF, if_neg (by decide +kernel), lookup_putF, if_neg (by decide +kernel)]
  exact fl_c1 ca
theorem fl_s3 (ca so to : V) : (fld3 ca so to).lookup ("some" : Str) = some so := by
  unfold fld3 fld2
  rw [lookup_putF, if_neg (by decide +kernel), lookup_putF, if_pos rfl]
theorem fl_t3 (ca so to : V) : (fld3 ca so to).lookup ("told" : Str) = some to := by
  unfold fld3
  rw [lookup_putF, if_pos rfl]
def scLaying : Scope := { kind := .function, names := [(".0", .local), ("laying", .local), ("len", .globalImplicit), ("near", .cell)], isGenerator := false, isCoroutine := false }
def spInit (P : Program) (w : World) (C : Addr) : Sp := fun vs H Q _ => ∃ (a dx : Addr) (vb : V) (rows : List (List Nat)) (n : Int) (G Hb : Hp), vs = [.ref a, vb] ∧ H = upd (upd Hb dx (.own a)) a (.ins C dx []) ∧ Hb a = none ∧ Hb dx = none ∧ dx ≠ a ∧ Ok W0 G Hb ∧ Dq G vb (.tuple [encR rows, .int n]) ∧ Gd rows ∧ (closedC rows).length ≤ 8 ∧
  ∀ kd G' H', Rn W0 G Hb G' H' → Ok W0 G' H' → (goTy C kd (gmOf rows n)).r G' (.ref a) → H' kd = some (knO P w kd []) → Hb kd = none → G' kd = none → Q .non H'
section
variable {P : Program} {w : World} {K : PySem.W.Frag} {mg : Str → Option Value} {base : Heap} {C : Addr}
theorem scIn : FnScope nIn ["self", "board"] (defScope sInit) := ⟨rfl, rfl, rfl, by decide +kernel, rfl, by decide +kernel, by decide +kernel⟩
theorem putF_len (k : Str) (v : V) : ∀ l : List (Str × V), (putF k v l).length ≤ l.length + 1
  | [] => by simp [putF]
  | (u, x) :: r => by
    have := putF_len k v r
    unfold putF
    split <;> simp <;> omega
theorem put_len1 (ca : V) : (fld1 ca).length ≤ 1 := by unfold fld1 putF; simp
theorem put_len2 (ca so : V) : (fld2 ca so).length ≤ 2 := by
  have := put_len1 ca
  have := putF_len "some" so (fld1 ca)
  unfold fld2
  omega
theorem put_len3 (ca so to : V) : (fld3 ca so to).length ≤ 3 := by
  have := put_len2 ca so
  have := putF_len "told" to (fld2 ca so)
  unfold fld3
  omega
theorem def_init (S : MSrc K C "__init__" "Going.__init__" sInit ["self", "board"]) (T : GC K mg C) (B : Bn mg) (A1 : Def P w K mg base 2 "closed" ["board"] (spF W0 (preBd qm))) (A2 : Def P w K mg base 5 "layings" ["board"] (spF W0 preLay))
    (A3 : Def P w K mg base 3 "around" ["board", "cell"] (spF W0 preAround)) : MDef P w K mg base C 6 "__init__" ["self", "board"] (spInit P w C) := by
  obtain ⟨f, fd, F, hm, hb⟩ := S.ex
  refine ⟨f, fd, F.ok scIn (fun vs H Q E ⟨a, dx, vb, rows, n, G, Hb, e, _⟩ => by rw [e]; rfl) (fun cdv A outer s H vs Q E hr h => ?_), hm, hb⟩
  obtain ⟨a, dx, vb, rows, n, G, Hb, rfl, rfl, ha, hdx, hne, ok, hvb, hg, hcl, q⟩ := h
  let D : Ends := { nx := fun _ H' => Q .non H', rt := Q }
  have nd := scIn.nd
  let F : Fx := Fx.of W0 G Hb
  let Γ0 : List Sd := [.own (io0 C), sd (.tuple [encR rows, .int n]), .any, .any, .any, .any]
  let g := gmOf rows n
  let X := Xc P w K mg base nIn "Going.__init__" sInit f cdv A outer s (upd (upd Hb dx (.own a)) a (.ins C dx [])) E
  have hna : upd Hb dx (.own a) a = none := by rw [upd_ne (fun e => hne e.symm)]; exact ha
  have hst : Stt F Γ0 (L2.start nIn [.ref a, vb]) (upd (upd Hb dx (.own a)) a (.ins C dx [])) := by
    have z := start_at (N := nIn) (Rs := [refTy a, dat (.tuple [encR rows, .int n])]) (vs := [.ref a, vb]) ok ⟨rfl, hvb, trivial⟩
    have z1 := z.run (Rn.allocM (o := .own a) hdx) (z.ok.allocM hdx)
    have z2 := z1.newOwn (i := 0) (p := a) (o := .ins C dx []) (R := io0 C) hna ⟨dx, [], rfl, rfl⟩
    exact ⟨G, z2⟩
  have body : XSPs X (defBody sInit) (fun σ H => Stt F Γ0 σ H ∧ σ[0]? = some (some (.ref a))) D := by
    let Γ3 : List Sd := [.own (io3 C g), sd (.tuple [encR rows, .int n]), .any, .any, .any, .any]
    let I : List Cell → L2.St → Hp → Hp → Prop := fun pre σ G H => At F Γ3 σ G H ∧ ∃ dx ca so to xs, σ[0]? = some (some (.ref a)) ∧ H a = some (.ins C dx (fld3 ca so (.ref to))) ∧ Dq G ca (.list (g.cells.map encC)) ∧ Dq G so (.list (g.lay.map encL)) ∧ H to = some (.lst xs) ∧ DqAll G xs ((pre.map fun c => g.lay.map fun l => ((hitN rows c l : Nat) : Int)).map encI) ∧ G to = none ∧ F.H0 to = none ∧ to ≠ a
    have hI : ∀ {pre : List Cell} {σ : L2.St} {G H G' H' : Hp}, I pre σ G H → Rn F.W G H G' H' → Ok F.W G' H' → I pre σ G' H' := by
      rintro pre σ G H G' H' ⟨z, dx, ca, so, to, xs, h1, h2, h3, h4, h5, h6, h7, h8, h9⟩ r o
      exact ⟨z.run r o, dx, ca, so, to, xs, h1, r.hh _ _ (fun z => z) h2, h3.mono r.gg, h4.mono r.gg, r.hh _ _ (fun z => z) h5, h6.mono r.gg, r.dj _ (by rw [h5]; exact fun z => nomatch z) h7, h8, h9⟩
    refine xp_cons (Mid := fun σ H => Stt F (Γ0.set 0 (.own (io1 C g))) σ H ∧ σ[0]? = some (some (.ref a))) (xp_fset (F := F) (R' := io1 C g) 0 rfl (xcall0 A1 (hr.mono (by decide)) rfl (xa1 (xn 1)) ⟨rows, n, rfl, rfl, hg⟩) ?_ T.cl T.nC (fun σ H h1 h2 => ⟨h1, h2⟩)) ?_
    · rintro G o v ⟨dx, fs, rfl, rfl⟩ hv
      exact ⟨dx, [], rfl, by simp, dx, _, rfl, v, rfl, hv⟩
    refine xp_cons (Mid := fun σ H => Stt F (Γ0.set 0 (.own (io2 C g))) σ H ∧ σ[0]? = some (some (.ref a))) (xp_fset (F := F) (R' := io2 C g) 0 rfl (xcall0 A2 hr rfl (xa1 (xn 1)) ⟨rows, n, rfl, rfl, hg, hcl⟩) ?_ T.cl T.nS (fun σ H h1 h2 => ⟨h1, h2⟩)) ?_
    · rintro G o v ⟨dx, fs, rfl, ca, rfl, hca⟩ hv
      exact ⟨dx, _, rfl, by have := put_len1 ca; omega, dx, _, rfl, ca, v, rfl, hca, hv⟩
    refine xp_cons (Mid := fun σ H => ∃ G, I [] σ G H) ⟨_, ps_fld (pv 0) (pe_lst pa_nil) rfl, ?_⟩ ?_
    · rintro σ H ⟨⟨G1, z⟩, hs0⟩
      refine ⟨Nat.zero_le _, fun p hp => ?_⟩
      have z1 := z.run (Rn.allocM (o := .lst []) hp) (z.ok.allocM hp)
      have p0 := z.fresh0 hp
      have pG := none_of_ex z.ok.ex hp
      obtain ⟨b, ob, e1, h1, h2, h3, h4, dx', fs, rfl, ca, so, rfl, hca, hso⟩ := z1.sl.mu 0 (io2 C g) rfl
      rw [hs0] at e1
      cases e1
      have hpb : p ≠ a := fun e => by
        subst e
        rw [upd_same] at h1
        cases h1
      refine ⟨_, hs0, a, C, dx', _, rfl, h1, T.cl, T.nT, by have := put_len2 ca so; omega, G1, z1.upOwn (i := 0) (S := io3 C g) rfl hs0 ⟨dx', _, rfl, ca, so, .ref p, rfl, hca, hso⟩, dx', ca, so, p, [], hs0, upd_same, hca, hso, ?_, .nil, pG, p0, hpb⟩
      rw [upd_ne hpb, upd_same]
    refine xp_cons (Mid := fun σ H => ∃ G, I g.cells σ G H) (xp_forN (F := F) 2 scIn.nd I (Γ := Γ3) (xs := g.cells) (xi_list (xs := g.cells) (enc := encC) (xfo (R := io3 C g) 0 rfl ?_ T.cl T.nC)) (fun pre σ G H z => z.1) (fun pre σ G H G' H' => hI) (fun σ H z => z) ?_ (fun σ G H z => ⟨G, z⟩)) ?_
    · rintro G o ⟨dx, fs, rfl, ca, so, to, rfl, hca, hso⟩
      exact ⟨dx, _, ca, rfl, fl_c3 _ _ _, hca⟩
    · intro pre x post he Sg hS
      have hx : x ∈ closedC rows := by
        show x ∈ g.cells
        rw [he]; simp
      have hlen : pre.length ≤ 8 := by
        have h1 : g.cells.length ≤ 8 := hcl
        rw [he, List.length_append] at h1
        omega
      let Γ4 : List Sd := [.own (io3 C g), sd (.tuple [encR rows, .int n]), sd (encC x), .any, .any, .any]
      let Γ5 : List Sd := [.own (io3 C g), sd (.tuple [encR rows, .int n]), sd (encC x), sd (.list ((nearIn rows x).map encC)), .any, .any]
      let I4 : List Sd → L2.St → Hp → Hp → Prop := fun Γ σ G H => At F Γ σ G H ∧ ∃ dx ca so to xs, σ[0]? = some (some (.ref a)) ∧ H a = some (.ins C dx (fld3 ca so (.ref to))) ∧ Dq G ca (.list (g.cells.map encC)) ∧ Dq G so (.list (g.lay.map encL)) ∧ H to = some (.lst xs) ∧ DqAll G xs ((pre.map fun c => g.lay.map fun l => ((hitN rows c l : Nat) : Int)).map encI) ∧ G to = none ∧ F.H0 to = none ∧ to ≠ a ∧ Sg G
      have hI4 : ∀ {Γ : List Sd} {σ : L2.St} {G H G' H' : Hp}, I4 Γ σ G H → Rn F.W G H G' H' → Ok F.W G' H' → I4 Γ σ G' H' := by
        rintro Γ σ G H G' H' ⟨z, dx, ca, so, to, xs, h1, h2, h3, h4, h5, h6, h7, h8, h9, h10⟩ r o
        exact ⟨z.run r o, dx, ca, so, to, xs, h1, r.hh _ _ (fun z => z) h2, h3.mono r.gg, h4.mono r.gg, r.hh _ _ (fun z => z) h5, h6.mono r.gg, r.dj _ (by rw [h5]; exact fun z => nomatch z) h7, h8, h9, hS _ _ r.gg h10⟩
      have he4 : XE W0 X (.Call (.Name "around" ⟨0, 0, 0, 0⟩) [] [] ⟨0, 0, 0, 0⟩) Γ4 (dL []) → True := fun _ => trivial
      refine xp_cons (Mid := fun σ H => ∃ G, I4 Γ5 σ G H) (xp_with (F := F) (Γ1 := Γ4) (dL ((nearIn rows x).map encC)) (fun h1 h2 => ⟨_, ps_set (i := 3) scIn.nd rfl (by first | exact Or.inl rfl | exact Or.inr rfl) h1, ?_⟩) (xcall0 A3 (hr.mono (by decide)) rfl (xacons (xn 1) (xa1 (xn 2))) ⟨rows, n, x, rfl, rfl, hg, cells_sm hg hx⟩)) ?_
      · rintro σ H ⟨σ0, G1, v, ⟨z, dx, ca, so, to, xs, k1, k⟩, s, rfl, hv⟩
        have z4 : At F Γ4 (σ0.set 2 (some v)) G1 H := ⟨z.rn, z.ok, z.sl.set (i := 2) (R := dat (encC x)) hv, z.g⟩
        have y4 : I4 Γ4 (σ0.set 2 (some v)) G1 H := ⟨z4, dx, ca, so, to, xs, by rw [List.getElem?_set_ne (by decide)]; exact k1, k.1, k.2.1, k.2.2.1, k.2.2.2.1, k.2.2.2.2.1, k.2.2.2.2.2.1, k.2.2.2.2.2.2.1, k.2.2.2.2.2.2.2, s⟩
        refine h2 _ _ G1 H z4.ok z4.sl _ fun u G2 H2 r2 o2 m2 => ?_
        obtain ⟨y, dx', ca', so', to', xs', j1, j⟩ := hI4 y4 r2 o2
        exact ⟨G2, ⟨y.rn, y.ok, y.sl.set (i := 3) (R := dL ((nearIn rows x).map encC)) m2, y.g⟩, dx', ca', so', to', xs', by rw [List.getElem?_set_ne (by decide)]; exact j1, j⟩
      · refine xp_one (xp_with (F := F) (Γ1 := Γ5) (dat (encI (g.lay.map fun l => ((hitN rows x l : Nat) : Int)))) (fun h1 h2 => ⟨_, ps_expr (pe_bm PySem.F.plainAttrs_list PySem.F.slot_list_append PySem.F.type_list_append mt_append (pe_fld (pv 0) rfl) (pa_cons h1 pa_nil)), ?_⟩) ?_)
        · rintro σ H ⟨G1, z⟩
          obtain ⟨z4, dx, ca, so, to, xs, k1, k2, k3, k4, k5, k6, k7, k8, k9, k10⟩ := id z
          refine ⟨_, k1, a, C, dx, _, .ref to, rfl, k2, T.cl, T.nT, fl_t3 _ _ _, .inl ⟨rfl, _, SqL.of k5⟩, h2 _ σ G1 H z4.ok z4.sl _ fun v G2 H2 r2 o2 m2 => ?_⟩
          have z2 := z4.run r2 o2
          have k5' := r2.hh _ _ (fun z => z) k5
          have k7' : G2 to = none := r2.dj _ (by rw [k5]; exact fun z => nomatch z) k7
          have hl : xs.length ≤ 8 := by rw [k6.len, List.length_map, List.length_map]; exact hlen
          refine ⟨to, xs, v, rfl, rfl, k5', sz_lt (by omega), ?_⟩
          have em : ((pre ++ [x]).map fun c => g.lay.map fun l => ((hitN rows c l : Nat) : Int)).map encI = ((pre.map fun c => g.lay.map fun l => ((hitN rows c l : Nat) : Int)).map encI) ++ [encI (g.lay.map fun l => ((hitN rows x l : Nat) : Int))] := by simp
          have sl3 : At F Γ5 σ G2 (upd H2 to (.lst (xs ++ [v]))) := by
            refine ⟨z2.rn.write k8, z2.ok.write k7' (fun z => z), ⟨z2.sl.len, z2.sl.ty, fun i R hi => ?_, z2.sl.ap⟩, z2.g⟩
            obtain ⟨l, ob, q1, q2, q3⟩ := z2.sl.mu i R hi
            have hi0 : i = 0 := by
              match i, hi with
              | 0, _ => rfl
              | 1, h => exact absurd h (by simp [Γ5])
              | 2, h => exact absurd h (by simp [Γ5])
              | 3, h => exact absurd h (by simp [Γ5])
              | 4, h => exact absurd h (by simp [Γ5])
              | 5, h => exact absurd h (by simp [Γ5])
              | i + 6, h => exact absurd h (by simp [Γ5])
            subst hi0
            have : l = a := by
              rw [k1] at q1
              cases q1
              rfl
            subst this
            exact ⟨l, ob, q1, by rw [upd_ne (fun e => k9 e.symm)]; exact q2, q3⟩
          refine ⟨G2, ⟨⟨sl3.rn, sl3.ok, sl3.sl.le (by trivial), sl3.g⟩, dx, ca, so, to, xs ++ [v], k1, ?_, k3.mono r2.gg, k4.mono r2.gg, upd_same, ?_, k7', k8, k9⟩, hS _ _ r2.gg k10⟩
          · rw [upd_ne (fun e => k9 e.symm)]
            exact r2.hh _ _ (fun z => z) k2
          · rw [em]
            exact (k6.mono r2.gg).snoc m2
        · refine xlcN 5 [("laying", 5)] (r := (g.lay.map fun l => ((hitN rows x l : Nat) : Int)).map .int) scIn.nd (xi_list (xs := g.lay) (enc := encL) (xfo (R := io3 C g) 0 rfl ?_ T.cl T.nS)) (blkOk_by (N := nIn) (sc := defScope sInit) (by decide +kernel)) (fun _ => true) (fun l => .int ((hitN rows x l : Nat) : Int)) (fun z _ => .none)
            (fun z hz _ s H C' cl fp => XE.eq (xcallB call_lenS rfl B.len PySem.boot_len (xa1 (xlcN 4 [("one", 4)] (r := (z.filter fun o => decide (o ∈ nearIn rows x)).map encC) scIn.nd (xi_list (xs := z) (enc := encC) (xn 5)) (blkOk_by (N := nIn) (sc := scLaying) (by decide +kernel)) (fun o => decide (o ∈ nearIn rows x)) encC
              (fun y hy => .one fun s H C'' cl fp => XT.eq (xtcmp (op_inD hr.u65) (xn 4) (xn 3) (rv_inD (shaped_C _) (shaped_Cs _)) rfl) (any_C _ _)) (fun y hy _ s H C'' cl fp => xn 4) (by have := (layU_len (n := n) hcl).2 z hz; omega))) cr_len) (by rw [List.length_map]; rfl)) (by have := (layU_len (n := n) hcl).1; show g.lay.length ≤ _; have e : g.lay = sortL (layU rows n) := rfl; rw [e]; omega) (by rw [filter_true, List.map_map]; rfl)
          rintro G o ⟨dx, fs, rfl, ca, so, to, rfl, hca, hso⟩
          exact ⟨dx, _, so, rfl, fl_s3 _ _ _, hso⟩
    · refine xp_one ⟨_, ps_fld (pv 0) pe_dnewN rfl, ?_⟩
      rintro σ H ⟨G1, z, dx', ca, so, to, xs, k1, k2, k3, k4, k5, k6, k7, k8, k9⟩ kd hkd
      have hkb : kd ≠ a := fun e => by rw [e, k2] at hkd; cases hkd
      have hkt : kd ≠ to := fun e => by rw [e, k5] at hkd; cases hkd
      have kG := none_of_ex z.ok.ex hkd
      have k0 : Hb kd = none := z.fresh0 hkd
      have aG : G1 a = none := by
        obtain ⟨b', ob, e1, h1, h2, h3, h4, h5⟩ := z.sl.mu 0 (io3 C g) rfl
        rw [k1] at e1
        cases e1
        exact h2
      refine ⟨_, k1, a, C, dx', _, rfl, by rw [upd_ne (fun e => hkb e.symm)]; exact k2, T.cl, T.nK, by have := put_len3 ca so (.ref to); omega, ?_⟩
      obtain ⟨ca', _, rfl, _, _⟩ := k3.lst_inv
      obtain ⟨so', _, rfl, _, _⟩ := k4.lst_inv
      let H2 : Hp := upd (upd H kd (knO P w kd [])) a (.ins C dx' (putF "known" (.ref kd) (fld3 (.ref ca') (.ref so') (.ref to))))
      let G2 : Hp := upd (upd G1 to (.lst xs)) a (.ins C dx' (putF "known" (.ref kd) (fld3 (.ref ca') (.ref so') (.ref to))))
      have toa : to ≠ a := k9
      have r1 : Rn W0 G Hb G1 H := z.rn
      have gTo : (upd G1 to (.lst xs)) a = none := by rw [upd_ne (fun e => toa e.symm)]; exact aG
      have r2 : Rn W0 G Hb G2 H2 := by
        have r3 : Rn W0 G Hb G1 (upd (upd H kd (knO P w kd [])) a (.ins C dx' (putF "known" (.ref kd) (fld3 (.ref ca') (.ref so') (.ref to))))) := (r1.write k0).write ha
        exact (r3.freeze k7 k8).freeze gTo ha
      have o2 : Ok W0 G2 H2 := by
        have o3 : Ok W0 G1 H2 := (z.ok.write kG (fun z => z)).write aG (fun z => z)
        have hto : H2 to = some (.lst xs) := by
          show upd (upd H kd _) a _ to = _
          rw [upd_ne toa, upd_ne (fun e => hkt e.symm)]
          exact k5
        exact (o3.freeze hto k7 (fun z => z)).freeze upd_same gTo (fun z => z)
      have ex1 : Ex G1 (upd G1 to (.lst xs)) := Ex.new k7
      have ex2 : Ex (upd G1 to (.lst xs)) G2 := Ex.new gTo
      refine q kd G2 H2 r2 o2 ⟨a, dx', ca', so', to, rfl, upd_same, (k3.mono ex1).mono ex2, (k4.mono ex1).mono ex2, ?_⟩ ?_ k0 ?_
      · refine .lst (xs := xs) ?_ ((k6.mono ex1).mono ex2)
        show upd (upd G1 to _) a _ to = _
        rw [upd_ne toa, upd_same]
      · show upd (upd H kd _) a _ kd = _
        rw [upd_ne hkb, upd_same]
      · show upd (upd G1 to _) a _ kd = _
        rw [upd_ne hkb, upd_ne hkt]
        exact kG
  obtain ⟨t, a1, a2⟩ := body
  exact ⟨t, a1, a2 _ _ ⟨hst, rfl⟩⟩
end
end SL
set_option maxRecDepth 100000
set_option maxHeartbeats 4000000
namespace SL
open PySem L2 Evl
local macro_rules | `(tactic| trivial) => `(tactic| (repeat (first | exact SL.LeG.nil | refine SL.LeG.cons (by first | exact SL.Le.rfl _ | exact SL.Le.any _) ?_)); done)
abbrev sChances : Stmt := top 27
abbrev sBest : Stmt := top 28
abbrev sPlanF : Stmt := top 29
theorem xlrange' {W : Wd} {X : Cx} {Γ : List Sd} {e : Expr} {pos p p2 pos2 : Pos} {n : Nat} (hg : Gl X "list") (hm : X.mg "list" = none) (hg2 : Gl X "range") (hm2 : X.mg "range" = none) (h : XE W X e Γ (dI (n : Int))) (hn : n ≤ 1000) (hc : X.calm = true := by rfl)
    (na : starEach [e] X.env = (false, eval e X.env) :: starEach [] X.env := by rfl) (na2 : starEach [.Call (.Name "range" p2) [e] [] pos2] X.env = (false, eval (.Call (.Name "range" p2) [e] [] pos2) X.env) :: starEach [] X.env := by rfl) :
    XE W X (.Call (.Name "list" p) [.Call (.Name "range" p2) [e] [] pos2] [] pos) Γ (dat (encN (List.range n))) := by
  obtain ⟨t, a1, a2⟩ := h
  refine ⟨_, pe_listRg hc hg hm (prg_1 hg2 hm2 a1 na) na2, fun H0 σ G H o s Q q => a2 H0 σ G H o s _ fun v G1 H1 r1 o1 m1 => ?_⟩
  cases Dq.int_inv m1
  refine ⟨(n : Int), rfl, RgOk.of_le (by omega) (by omega) (by omega) (by omega), fun l hl => q _ _ _ (r1.trans (Rn.alloc o1 hl)) (o1.alloc hl) (.lst upd_same ?_)⟩
  have all : ∀ l : List Nat, ∀ A, DqAll A (l.map fun i => V.int (0 + (i : Nat))) (l.map fun i : Nat => PyData.int (i : Int)) := fun l A => by
    induction l with
    | nil => exact .nil
    | cons x r ih =>
      refine .cons ?_ ih
      show Dq A (V.int (0 + (x : Int))) (.int (x : Int))
      rw [Int.zero_add]
      exact .int _
  have e1 : ((n : Int) - 0).toNat = n := by omega
  unfold rgV
  rw [e1]
  exact all _ _
/-! ### going_of -/
theorem encL_lay (l : List Cell) : (encL l).canLay0 = true := by unfold encL; simp only [PyData.canLay0]; exact encCs_lay l
theorem encLs_lay : ∀ L : List (List Cell), PyData.canLayAll0 (L.map encL) = true
  | [] => by simp [PyData.canLayAll0]
  | c :: cs => by simp [PyData.canLayAll0, encL_lay c, encLs_lay cs]
theorem encLs_depth : ∀ L : List (List Cell), PyData.depthAll (L.map encL) ≤ 2
  | [] => by simp [PyData.depthAll]
  | c :: cs => by
    have h1 := encLs_depth cs
    have h2 := encL_depth c
    simp only [List.map_cons, PyData.depthAll]
    omega
theorem shaped_Ls (L : List (List Cell)) : SeqAt.shaped (.list (L.map encL)) = true := by
  have h1 := encLs_depth L
  show (PyData.canLay0 (.list (L.map encL)) && decide (PyData.depth (.list (L.map encL)) ≤ 64)) = true
  rw [Bool.and_eq_true]
  refine ⟨by simp only [PyData.canLay0]; exact encLs_lay L, decide_eq_true ?_⟩
  simp only [PyData.depth]
  omega
def spGoing (P : Program) (w : World) (C : Addr) : Sp := fun vs H Q _ => ∃ (vb : V) (rows : List (List Nat)) (n : Int) (d : Nat) (G : Hp), vs = [vb, .int (d : Int)] ∧ Ok W0 G H ∧ Dq G vb (.tuple [encR rows, .int n]) ∧ Gd rows ∧ (closedC rows).length ≤ 8 ∧ d ≤ 3 ∧ sortL (layU rows n) ≠ [] ∧
  ∀ a kd G' H', Rn W0 G H G' H' → Ok W0 G' H' → (goTy C kd (gmOf rows n)).r G' (.ref a) → H' kd = some (knO P w kd []) → H kd = none → G' kd = none → Q (.ref a) H'
structure GMk (K : PySem.W.Frag) (C : Addr) : Prop where
  makes : PySem.W.makesIn K C = true
  kp : PySem.W.keepIn K (.ref C) = true
abbrev nGo : List Str := ["board", "depth", "going"]
section
variable {P : Program} {w : World} {K : PySem.W.Frag} {mg : Str → Option Value} {base : Heap} {C : Addr}
theorem scGo : FnScope nGo ["board", "depth"] (defScope sGoingOf) := ⟨rfl, rfl, rfl, by decide +kernel, rfl, by decide +kernel, by decide +kernel⟩
theorem def_going (S : Src K mg "going_of" sGoingOf ["board", "depth"]) (T : GC K mg C) (M : GMk K C) (B : Bn mg) (A1 : Def P w K mg base 2 "closed" ["board"] (spF W0 (preBd qm))) (I : MDef P w K mg base C 6 "__init__" ["self", "board"] (spInit P w C))
    {t1 t2 : Tok} (h1 : mg "MOST_CLOSED" = some (.int 8 t1)) (h2 : mg "MOST_DEPTH" = some (.int 3 t2)) : Def P w K mg base 8 "going_of" ["board", "depth"] (spGoing P w C) := by
  obtain ⟨f, fd, F, hm, hb⟩ := S.ex
  refine ⟨f, fd, F.ok scGo (fun vs H Q E ⟨vb, rows, n, d, G, e, _⟩ => by rw [e]; rfl) (fun cdv A outer s H vs Q E hr h => ?_), hm, F.kp, hb⟩
  obtain ⟨vb, rows, n, d, G, rfl, ok, hvb, hg, hcl, hd, hne, q⟩ := h
  let D : Ends := { nx := fun _ H' => Q .non H', rt := Q }
  let F : Fx := Fx.of W0 G H
  let bd : PyData := .tuple [encR rows, .int n]
  let Γ0 : List Sd := [sd bd, sd (.int (d : Int)), .any]
  let g := gmOf rows n
  let X := Xc P w K mg base nGo "going_of" sGoingOf f cdv A outer s H E
  have nd := scGo.nd
  have hst : Stt F Γ0 (L2.start nGo [vb, .int (d : Int)]) H := ⟨G, start_at (N := nGo) (Rs := [dat bd, dI (d : Int)]) (vs := [vb, .int (d : Int)]) ok ⟨hvb, .int _, trivial⟩⟩
  have hcl' : (closedC rows).length ≤ 8 := hcl
  obtain ⟨fi, fdi, Fi, hmi, hbi⟩ := I.ex
  have body : XSs F X (defBody sGoingOf) Γ0 D := by
    refine xss_ifr (b := false) (XW.t (XW.eq (xwor (xtcmp op_gt (xcallB call_lenS rfl B.len PySem.boot_len (xa1 (xcall0 A1 (hr.mono (by decide)) rfl (xa1 (xn 0)) ⟨rows, n, rfl, rfl, hg⟩)) cr_len) (xglob (v := .int 8) (R := dI 8) rfl h1 ⟨_, rfl⟩ fun G => Dq.int _) rv_bl (nomark _)) fun _ =>
      xwor1 (xtnot (xtchain (i := 0) (j := (d : Int)) (k := 3) op_le op_le xint (xn 1) (fun _ => xglob (v := .int 3) (R := dI 3) rfl h2 ⟨_, rfl⟩ fun G => Dq.int _)))) ?_)) (fun h => by cases h) (fun _ => ?_)
    · have e1 : decide (((List.map encC (cellsOf (fun c => decide (c ∈ qm)) rows)).length : Int) > 8) = false := by
        rw [List.length_map]
        exact decide_eq_false (by have : (cellsOf (fun c => decide (c ∈ qm)) rows).length ≤ 8 := hcl; omega)
      rw [e1, Bool.false_or]
      have e2 : (decide ((0 : Int) ≤ (d : Int)) && decide ((d : Int) ≤ 3)) = true := by
        rw [Bool.and_eq_true]
        exact ⟨decide_eq_true (by omega), decide_eq_true (by omega)⟩
      rw [e2]
      rfl
    show XSPs X _ (Stt F Γ0) D
    let Res : Addr → Addr → L2.St → Hp → Hp → Prop := fun a kd σ G H => σ[2]? = some (some (.ref a)) ∧ (goTy C kd g).r G (.ref a) ∧ H kd = some (knO P w kd []) ∧ F.H0 kd = none ∧ G kd = none
    have hR : ∀ {a kd : Addr} {Γ : List Sd} {σ : L2.St} {G H G' H' : Hp}, At F Γ σ G H → Res a kd σ G H → Rn F.W G H G' H' → Ok F.W G' H' → Res a kd σ G' H' := by
      rintro a kd Γ σ G H G' H' _ ⟨k1, k2, k3, k4, k5⟩ r o
      exact ⟨k1, (goTy C kd g).mono r.gg k2, r.hh _ _ (fun z => z) k3, k4, r.dj _ (by rw [k3]; exact fun z => nomatch z) k5⟩
    refine xp_cons (Mid := fun σ H => ∃ a kd G, At F [sd bd, sd (.int (d : Int)), .ty (goTy C kd g)] σ G H ∧ Res a kd σ G H)
      ⟨_, ps_set (i := 2) nd rfl (Or.inl rfl) (pe_make ⟨M.makes, hmi.at_, hmi.fn, M.kp⟩ Fi (hr.mono (by decide)) rfl T.mgC hbi .nil pass0 (pa_cons (pv 0) pa_nil rfl)), ?_⟩ (sem_xp fun σ H ⟨a, kd, G, z, r⟩ => ?_)
    · rintro σ H ⟨G1, z⟩
      obtain ⟨v, e0, m0⟩ := z.sl.ty 0 (dat bd) rfl
      refine ⟨_, e0, fun a dx ha hdx hne => ⟨a, dx, v, rows, n, G1, H, rfl, rfl, ha, hdx, hne, z.ok, m0, hg, hcl, fun kd G' H' r o hgo hk hk0 hkG => ⟨rfl, ?_⟩⟩⟩
      have z1 := z.run r o
      refine ⟨a, kd, G', ⟨z1.rn, o, z1.sl.set (i := 2) (R := goTy C kd g) hgo, z1.g⟩, ?_, hgo, hk, z.fresh0 hk0, hkG⟩
      have hl : 2 < σ.length := by rw [z.sl.len]; show 2 < 3; decide
      rw [List.getElem?_set_self hl]
    · refine XSPs.sem (Pre := fun σ H => ∃ G, At F [sd bd, sd (.int (d : Int)), .ty (goTy C kd g)] σ G H ∧ Res a kd σ G H) ?_ ⟨G, z, r⟩
      refine xp_cons (xp_if (F := F) (Γ1 := [sd bd, sd (.int (d : Int)), .ty (goTy C kd g)]) (Res := Res a kd) (b := false) (XT.eq (xtcmp (op_eqD hr.units) (xf_some T (xn 2)) (xlst (ds := []) xanil (by simp)) (rv_eqD (shaped_Ls _) (by decide +kernel)) rfl) ?_) (fun σ H h => h) (fun σ G H G' H' h1 h2 h3 h4 => hR h1 h2 h3 h4) (fun h => by cases h) (fun _ => xp_nil fun σ H h => h)) (xp_one ⟨_, ps_ret (pv 2), ?_⟩)
      · show PyData.eqv (.list (g.lay.map encL)) (.list []) = false
        have : g.lay ≠ [] := hne
        cases hh : g.lay with
        | nil => exact absurd hh this
        | cons x r => simp [PyData.eqv, PyData.eqvAll]
      · rintro σ H ⟨G1, z1, k1, k2, k3, k4, k5⟩
        exact ⟨_, k1, q a kd G1 H z1.rn z1.ok k2 k3 k4 k5⟩
  obtain ⟨t, a1, a2⟩ := body
  exact ⟨t, a1, a2 _ _ hst⟩
end
/-! ### in comes the world of the known -/
abbrev Fx.kn (F : Fx) (P : Program) (w : World) (kd : Addr) (g : Gm) (dep : Nat) : Fx := ⟨Wk P w kd g dep, F.G0, F.H0, F.gh, F.ghm⟩
theorem Rt.kn {F : Fx} {P : Program} {w : World} {kd : Addr} {g : Gm} {dep : Nat} {R : Ty} {D : Ends} (hW : F.W = W0) (h0 : F.H0 kd = none) (h : Rt F R D) : Rt (F.kn P w kd g dep) R D := fun v G' H' r o m => by
  obtain ⟨FW, G0, H0, gh, ghm⟩ := F
  cases hW
  refine h v G' H' ⟨r.gg, fun a u _ e => r.hh a u (fun z => ?_) e, r.hd, r.dj⟩ ⟨o.ex, trivial⟩ m
  have z : a = kd := z
  subst z
  cases h0.symm.trans e
section
variable {F : Fx} {X : Cx} {Γ : List Sd} {D : Ends} {eb ed : Expr} {pos pos' cp np : Pos} {C : Addr} {rest : List Stmt} {x : Str}
theorem xss_going (i dep : Nat) {rows : List (List Nat)} {n : Int} (hW : F.W = W0) (hno : ∀ (j : Nat) (R : OTy), Γ[j]? ≠ some (.own R)) (hN : X.N.Nodup) (A : Def X.prog X.w X.K X.mg X.base 8 "going_of" ["board", "depth"] (spGoing X.prog X.w C)) (hr : Room 8 X.A) (hgl : Gl X "going_of")
    (hb : XE F.W X eb Γ (dat (.tuple [encR rows, .int n]))) (hd : XE F.W X ed Γ (dI (dep : Int))) (hg : Gd rows) (hcl : (closedC rows).length ≤ 8) (hd3 : dep ≤ 3) (hne : sortL (layU rows n) ≠ [])
    (k : ∀ kd, F.H0 kd = none → XSs (F.kn X.prog X.w kd (gmOf rows n) dep) X rest (Γ.set i (.ty (goTy C kd (gmOf rows n)))) D) (hi : X.N[i]? = some x := by rfl) (hx : Loc X.env.scope x := by first | exact Or.inl rfl | exact Or.inr rfl)
    (hs : swapsWith (.Call (.Name "going_of" np) [eb, ed] [] cp) (some (.Name x pos')) pos.line X.env = pure false := by rfl) (hf : X.fn x = true ∨ X.env.scope.names.lookup x = some .local := by first | exact .inl rfl | exact .inr rfl)
    (he1 : starEach [eb, ed] X.env = (false, eval eb X.env) :: starEach [ed] X.env := by rfl) (he2 : starEach [ed] X.env = (false, eval ed X.env) :: starEach [] X.env := by rfl) (hpl : (backTo cp (starEach [ed] X.env)).any (·.1) = false := by rfl) :
    XSs F X (.Assign [.Name x pos'] (.Call (.Name "going_of" np) [eb, ed] [] cp) pos :: rest) Γ D := by
  obtain ⟨FW, G0, H0, gh, ghm⟩ := F
  cases hW
  obtain ⟨f, fd, Ff, hm, hk, hbi⟩ := A.ex
  obtain ⟨t, a1, a2⟩ := hb
  obtain ⟨u, b1, b2⟩ := hd
  show XSPs X _ (Stt ⟨W0, G0, H0, gh, ghm⟩ Γ) D
  refine xp_cons (Mid := fun σ H => ∃ kd, H0 kd = none ∧ Stt (Fx.kn ⟨W0, G0, H0, gh, ghm⟩ X.prog X.w kd (gmOf rows n) dep) (Γ.set i (.ty (goTy C kd (gmOf rows n)))) σ H) ⟨_, ps_set hN hi hx (pe_call Ff hr hgl hm hk hbi .nil pass0 (pa_cons a1 (pa_cons b1 pa_nil he2) he1) (by decide) he1 hpl) hs hf, ?_⟩
    (sem_xp fun σ H ⟨kd, h0, z⟩ => (k kd h0).sem z)
  rintro σ H ⟨G, z⟩
  refine a2 _ σ G H z.ok z.sl _ fun v G1 H1 r1 o1 m1 => b2 _ σ G1 H1 o1 (z.sl.run r1) _ fun v2 G2 H2 r2 o2 m2 => ?_
  cases Dq.int_inv m2
  have z2 := (z.run r1 o1).run r2 o2
  refine ⟨v, rows, n, dep, G2, rfl, o2, Dq.mono r2.gg m1, hg, hcl, hd3, hne, fun a kd G' H' r o hgo hk hk0 hkG => ?_⟩
  have z3 := z2.run r o
  refine ⟨kd, z2.fresh0 hk0, G', Rn.of0 z3.rn, ⟨o.ex, hkG, [], hk, fun x hx => by simp at hx, List.nodup_nil, fun x hx => by simp at hx⟩, ?_, z3.g⟩
  have s4 := z3.sl.set (i := i) (v := .ref a) (R := goTy C kd (gmOf rows n)) hgo
  refine ⟨s4.len, s4.ty, fun j R hj => ?_, s4.ap⟩
  rcases get_set hj with ⟨_, e⟩ | ⟨_, e⟩
  · cases e
  · exact absurd e (hno j R)
end
/-! ### how much at most -/
theorem sumN_map_le {α : Type} {f h : α → Nat} : ∀ {l : List α}, (∀ x ∈ l, f x ≤ h x) → sumN (l.map f) ≤ sumN (l.map h)
  | [], _ => Nat.le_refl _
  | x :: r, hh => by
    rw [List.map_cons, List.map_cons, sumN_cons, sumN_cons]
    have h1 := hh x (by simp)
    have h2 := sumN_map_le (l := r) fun y hy => hh y (List.mem_cons_of_mem _ hy)
    omega
theorem val_le {g : Gm} : ∀ (d : Nat) (left places : List Nat), g.val d left places ≤ left.length
  | 0, left, _ => Nat.le_refl _
  | d + 1, left, places => by
    show (if g.over left places = true then _ else _) ≤ _
    split
    · exact Nat.le_refl _
    · rename_i h
      have hne : (places.map fun p => sumN ((g.groups left p).map fun x => g.val d x.2 (rest places p))) ≠ [] := by
        intro e
        rw [List.map_eq_nil_iff] at e
        subst e
        simp [Gm.over] at h
      obtain ⟨p, _, e⟩ := List.mem_map.mp (maxN_mem hne)
      rw [← e]
      exact Nat.le_trans (sumN_map_le fun x _ => val_le d x.2 _) (groups_tot left)
theorem valIf_le {g : Gm} {d : Nat} {left places : List Nat} {p : Nat} : g.valIf d left places p ≤ left.length :=
  Nat.le_trans (sumN_map_le fun x _ => val_le d x.2 _) (groups_tot left)
/-! ### chances, best, plan -/
def startL (g : Gm) : List Nat := List.range g.lay.length
def startP (g : Gm) : List Nat := List.range g.cells.length
theorem re_start (g : Gm) (d : Nat) : g.Re d (startL g) (startP g) d := ⟨0, by show _ ∈ [_]; simp [startL, startP], rfl⟩
def chN (g : Gm) (d p : Nat) : Nat := match d with
  | 0 => g.lay.length
  | d + 1 => g.valIf d (startL g) (startP g) p
theorem chN_le (g : Gm) (d p : Nat) : chN g d p ≤ g.lay.length := by
  cases d with
  | zero => exact Nat.le_refl _
  | succ d =>
    have := valIf_le (g := g) (d := d) (left := startL g) (places := startP g) (p := p)
    unfold startL at this
    rw [List.length_range] at this
    exact this
def keyC (c : Cell) : List Key := [Sum.inl c.1, Sum.inl c.2]
theorem keyC_inj {c d : Cell} (h : keyC c = keyC d) : c = d := by
  obtain ⟨a, b⟩ := c
  obtain ⟨a', b'⟩ := d
  unfold keyC at h
  simp only [List.cons.injEq, Sum.inl.injEq, and_true] at h
  obtain ⟨rfl, rfl⟩ := h
  rfl
def ChK (G : Hp) (kvs : List (List Key × V)) (g : Gm) (d n : Nat) : Prop := kvs.length ≤ n ∧ ∀ p, p < n → ∃ u, valV kvs (keyC (cellAt g.cells p)) = some u ∧ Dq G u (encC (frac (chN g d p) g.lay.length))
theorem ChK.mono {G G' : Hp} {kvs : List (List Key × V)} {g : Gm} {d n : Nat} (e : Ex G G') (h : ChK G kvs g d n) : ChK G' kvs g d n := ⟨h.1, fun p hp => let ⟨u, h1, h2⟩ := h.2 p hp; ⟨u, h1, h2.mono e⟩⟩
def chO (g : Gm) (d n : Nat) : OTy := ⟨fun G o => ∃ kvs, o = .dT kvs ∧ ChK G kvs g d n, fun e h => let ⟨kvs, h1, h2⟩ := h; ⟨kvs, h1, h2.mono e⟩⟩
def chT (g : Gm) (d : Nat) : Ty := ⟨fun G v => ∃ a kvs, v = .ref a ∧ G a = some (.dT kvs) ∧ ChK G kvs g d g.cells.length, fun e h => let ⟨a, kvs, h1, h2, h3⟩ := h; ⟨a, kvs, h1, e _ _ h2, h3.mono e⟩⟩
section
variable {F : Fx} {X : Cx} {Γ : List Sd} {D : Ends} {pos : Pos}
theorem xs_dnewT (i : Nat) {x : Str} {pos' ep : Pos} {R : OTy} (hN : X.N.Nodup) (hR : ∀ G, R.r G (.dT [])) (k : Nx F (Γ.set i (.own R)) D) (hi : X.N[i]? = some x := by rfl) (hx : Loc X.env.scope x := by first | exact Or.inl rfl | exact Or.inr rfl)
    (hs : swapsWith (.Dict [] [] ep) (some (.Name x pos')) pos.line X.env = pure false := by rfl) (hf : X.fn x = true ∨ X.env.scope.names.lookup x = some .local := by first | exact .inl rfl | exact .inr rfl | assumption) :
    XS F X (.Assign [.Name x pos'] (.Dict [] [] ep) pos) Γ D :=
  ⟨_, ps_set hN hi hx pe_dnewT hs hf, fun σ H ⟨G, a⟩ p hp => k _ _ ⟨G, a.newOwn hp (hR G)⟩⟩
theorem cell_key {G : Hp} {v : V} {c : Cell} (h : Dq G v (encC c)) : ∃ b, v = .ref b ∧ G b = some (.tup ((keyC c).map kV)) := by
  obtain ⟨b, vs, rfl, hb, hd⟩ := Dq.tup_inv h
  obtain ⟨v1, v2, rfl, h1, h2⟩ := hd.two
  cases h1
  cases h2
  exact ⟨b, rfl, hb⟩
theorem putK_len1 {κ : Type} [DecidableEq κ] (c : List (κ × V)) (k : κ) (x : V) : (putK c k x).length ≤ c.length + 1 := by
  unfold putK
  split <;> simp
theorem xs_chput (i : Nat) {x : Str} {xp pos' : Pos} {ek value : Expr} {g : Gm} {d n : Nat} (hu : X.A.units + 1 < cLine) (hG : Γ[i]? = some (.own (chO g d n))) (hk : XE F.W X ek Γ (dat (encC (cellAt g.cells n)))) (hv : XE F.W X value Γ (dat (encC (frac (chN g d n) g.lay.length)))) (hn : ∀ p, p < n → cellAt g.cells p ≠ cellAt g.cells n) (hl : n ≤ 1000)
    (k : Nx F (Γ.set i (.own (chO g d (n + 1)))) D) (hN : X.N[i]? = some x := by rfl)
    (hvs : Vis X.env.scope x := by first | exact Or.inl rfl | exact Or.inr (Or.inl rfl) | exact Or.inr (Or.inr rfl)) (hd : (x == ("__debug__" : Str)) = false := by decide) (hcd : (x == ("__classdict__" : Str)) = false := by decide)
    (hs : swapsWith value (some (.Subscript (.Name x xp) ek pos')) pos.line X.env = pure false := by rfl) : XS F X (.Assign [.Subscript (.Name x xp) ek pos'] value pos) Γ D := by
  obtain ⟨tv, v1, v2⟩ := hv
  obtain ⟨tk, k1, k2⟩ := hk
  refine ⟨_, ps_dput hu (pe_var hN hvs hd hcd) k1 v1 hs, fun σ H ⟨G, a⟩ => ?_⟩
  obtain ⟨l, _, e1, h1, h2, h3, h4, kvs, rfl, p1⟩ := a.sl.mu i _ hG
  refine v2 _ σ G H a.ok a.sl _ fun v G1 H1 r1 o1 m1 => ⟨_, e1, ?_⟩
  have a1 := a.run r1 o1
  refine k2 _ σ G1 H1 o1 a1.sl _ fun y G2 H2 r2 o2 m2 => ?_
  obtain ⟨b, rfl, hb⟩ := cell_key m2
  have a2 := a1.run r2 o2
  have r12 := r1.trans r2
  have hlen : kvs.length < sizeLine := by
    have := p1.1
    rw [sizeLine_eq]
    omega
  refine ⟨l, _, rfl, DPut.t (r12.hh _ _ h4 h1) (o2.ex _ _ hb) hlen, k _ _ ⟨G2, a2.upOwn (S := chO g d (n + 1)) hG e1 ⟨_, rfl, ?_, fun p hp => ?_⟩⟩⟩
  · have := putK_len1 kvs (keyC (cellAt g.cells n)) v
    have := p1.1
    omega
  · rw [valV_put]
    by_cases e : p = n
    · subst e
      rw [if_pos rfl]
      exact ⟨v, rfl, m1.mono r2.gg⟩
    · have hp' : p < n := by omega
      rw [if_neg (fun z => hn p hp' (keyC_inj z))]
      obtain ⟨u, q1, q2⟩ := p1.2 p hp'
      exact ⟨u, q1, q2.mono r12.gg⟩
end
end SL
set_option maxRecDepth 100000
set_option maxHeartbeats 4000000
namespace SL
open PySem L2 Evl
local macro_rules | `(tactic| trivial) => `(tactic| (repeat (first | exact SL.LeG.nil | refine SL.LeG.cons (by first | exact SL.Le.rfl _ | exact SL.Le.any _) ?_)); done)
theorem nd_rowCells (p : Nat → Bool) (i : Nat) (row : List Nat) : (rowCells p i row).Nodup := by
  unfold rowCells
  have h : ((row.zipIdx.filter fun z => p z.1).map (·.2)).Nodup := by
    refine List.Nodup.sublist (l₂ := row.zipIdx.map (·.2)) ?_ ?_
    · exact List.Sublist.map _ List.filter_sublist
    · rw [List.zipIdx_map_snd]
      exact List.nodup_range'
  have e : ((row.zipIdx.filter fun z => p z.1).map fun z => ((i : Int), (z.2 : Int))) = ((row.zipIdx.filter fun z => p z.1).map (·.2)).map fun j : Nat => ((i : Int), (j : Int)) := by
    rw [List.map_map]
    rfl
  rw [e]
  refine List.Pairwise.map _ (fun a b hab hc => ?_) h
  simp at hc
  omega
theorem nd_cellsOf (p : Nat → Bool) (rows : List (List Nat)) : (cellsOf p rows).Nodup := by
  unfold cellsOf
  have h : ∀ (l : List (List Nat)) (k : Nat), ((l.zipIdx k).flatMap fun z => rowCells p z.2 z.1).Nodup ∧ ∀ c ∈ (l.zipIdx k).flatMap fun z => rowCells p z.2 z.1, (k : Int) ≤ c.1 := by
    intro l
    induction l with
    | nil => intro k; simp
    | cons r l ih =>
      intro k
      rw [List.zipIdx_cons, List.flatMap_cons]
      obtain ⟨h1, h2⟩ := ih (k + 1)
      refine ⟨?_, fun c hc => ?_⟩
      · rw [List.nodup_append]
        refine ⟨nd_rowCells p k r, h1, fun a ha b hb e => ?_⟩
        subst e
        have h3 := h2 a hb
        obtain ⟨j, x, e1, _⟩ := mem_rowCells.mp ha
        rw [e1] at h3
        simp at h3
        omega
      · rcases List.mem_append.mp hc with q | q
        · obtain ⟨j, x, e1, _⟩ := mem_rowCells.mp q
          rw [e1]
          exact Int.le_refl _
        · have := h2 c q
          omega
  exact (h rows 0).1
theorem cellAt_inj {cells : List Cell} (nd : cells.Nodup) {p q : Nat} (hp : p < cells.length) (hq : q < cells.length) (e : cellAt cells p = cellAt cells q) : p = q := by
  unfold cellAt at e
  rw [List.getD_eq_getElem?_getD, List.getD_eq_getElem?_getD, List.getElem?_eq_getElem hp, List.getElem?_eq_getElem hq] at e
  exact (List.getElem_inj nd).mp e
def bdD (rows : List (List Nat)) (n : Int) : PyData := .tuple [encR rows, .int n]
structure BdOk (rows : List (List Nat)) (n : Int) : Prop where
  gd : Gd rows
  c8 : (closedC rows).length ≤ 8
  ne : sortL (layU rows n) ≠ []
def preCh : List Ty → Ty → Prop := fun Rs R => ∃ (rows : List (List Nat)) (n : Int) (d : Nat), Rs = [dat (bdD rows n), dI (d : Int)] ∧ R = chT (gmOf rows n) d ∧ BdOk rows n ∧ d ≤ 3
def bestD (g : Gm) (d : Nat) : PyData :=
  if g.over (startL g) (startP g) = true then .none else match d with
  | 0 => .tuple [encC (cellAt g.cells 0), encC (frac 1 1)]
  | d + 1 => .tuple [encC (cellAt g.cells (g.best d (startL g) (startP g))), encC (frac (g.valIf d (startL g) (startP g) (g.best d (startL g) (startP g))) g.lay.length)]
def preBe : List Ty → Ty → Prop := fun Rs R => ∃ (rows : List (List Nat)) (n : Int) (d : Nat), Rs = [dat (bdD rows n), dI (d : Int)] ∧ R = dat (bestD (gmOf rows n) d) ∧ BdOk rows n ∧ d ≤ 3
def prePn : List Ty → Ty → Prop := fun Rs R => ∃ (rows : List (List Nat)) (n : Int) (d : Nat), Rs = [dat (bdD rows n), dI (d : Int)] ∧ R = plN ((gmOf rows n).plan d (startL (gmOf rows n)) (startP (gmOf rows n))) ∧ BdOk rows n ∧ d ≤ 3
theorem bd_lay {rows : List (List Nat)} {n : Int} (h : BdOk rows n) : 0 < (gmOf rows n).lay.length ∧ (gmOf rows n).lay.length ≤ 256 ∧ (gmOf rows n).cells.length ≤ 8 :=
  ⟨List.length_pos_iff.mpr h.ne, (layU_len h.c8).1, h.c8⟩
abbrev nChs : List Str := ["board", "depth", "going", "left", "places", "found", "place", "cell", "many"]
abbrev nBe : List Str := ["board", "depth", "going", "left", "places", "place"]
abbrev nPf : List Str := ["board", "depth", "going"]
section
variable {P : Program} {w : World} {K : PySem.W.Frag} {mg : Str → Option Value} {base : Heap} {C : Addr}
theorem scChs : FnScope nChs ["board", "depth"] (defScope sChances) := ⟨rfl, rfl, rfl, by decide +kernel, rfl, by decide +kernel, by decide +kernel⟩
theorem scBe : FnScope nBe ["board", "depth"] (defScope sBest) := ⟨rfl, rfl, rfl, by decide +kernel, rfl, by decide +kernel, by decide +kernel⟩
theorem scPf : FnScope nPf ["board", "depth"] (defScope sPlanF) := ⟨rfl, rfl, rfl, by decide +kernel, rfl, by decide +kernel, by decide +kernel⟩
theorem no_own {l : List Ty} {n : Nat} (j : Nat) (R : OTy) : (l.map Sd.ty ++ List.replicate n Sd.any)[j]? ≠ some (.own R) := fun h => by
  have hm := List.mem_of_getElem? h
  rcases List.mem_append.mp hm with z | z
  · obtain ⟨_, _, e⟩ := List.mem_map.mp z
    cases e
  · have := (List.mem_replicate.mp z).2
    cases this
theorem def_chances (S : Src K mg "chances" sChances ["board", "depth"]) (T : GC K mg C) (SG : GoSrc K C) (B : Bn mg) (A : Def P w K mg base 8 "going_of" ["board", "depth"] (spGoing P w C)) (A2 : Def P w K mg base 2 "fraction" ["top", "bottom"] (spF W0 preFrac)) :
    Def P w K mg base 13 "chances" ["board", "depth"] (spF W0 preCh) := by
  refine Def.of S scChs (fun Rs R h => by obtain ⟨a, b, d, rfl, _⟩ := h; rfl) fun f cdv A' outer s H E hr Rs R hp F D hW hrt _ => ?_
  obtain ⟨rows, n, d, rfl, rfl, hbd, hd⟩ := hp
  have nd := scChs.nd
  obtain ⟨l0, l256, c8⟩ := bd_lay hbd
  have hf := gm_fine (n := n) hbd.c8
  refine xss_going 2 d hW (fun j R => no_own (l := [dat (bdD rows n), dI (d : Int)]) (n := 7) j R) nd A (hr.mono (by decide)) rfl (xn 0) (xn 1) hbd.gd hbd.c8 hd hbd.ne fun kd h0 => ?_
  have GD := go_defs (P := P) (w := w) (base := base) (kd := kd) (g := gmOf rows n) (dep := d) SG T B
  have hrt := hrt.kn (P := P) (w := w) (g := gmOf rows n) (dep := d) hW h0
  obtain ⟨g, eg⟩ : ∃ g, g = gmOf rows n := ⟨_, rfl⟩
  have hcn : g.cells.Nodup := by rw [eg]; exact nd_cellsOf _ rows
  rw [← eg] at GD hrt hf l0 l256 c8 ⊢
  refine xss_cons (xs_set 3 nd (xlrange' (n := g.lay.length) rfl B.list rfl B.range (XE.eq (xcallB call_lenS rfl B.len PySem.boot_len (xa1 (xf_some T (xn 2))) cr_len) (by rw [List.length_map])) (by omega)) (nx_of rfl)) ?_
  refine xss_cons (xs_set 4 nd (xlrange' (n := g.cells.length) rfl B.list rfl B.range (XE.eq (xcallB call_lenS rfl B.len PySem.boot_len (xa1 (xf_cells T (xn 2))) cr_len) (by rw [List.length_map])) (by omega)) (nx_of rfl)) ?_
  refine xss_cons (xs_dnewT 5 (R := chO g d 0) nd (fun G => ⟨[], rfl, Nat.zero_le _, fun p hp => by omega⟩) (nx_of rfl)) ?_
  refine xss_cons (D := D) (Γ' := [sd (bdD rows n), sd (.int (d : Int)), .ty (goTy C kd g), sd (encN (startL g)), sd (encN (startP g)), .own (chO g d g.cells.length), .any, .any, .any])
    (xs_forP 6 7 nd (xi_enum (xs := g.cells) (f := encC) rfl B.enumerate (xf_cells T (xn 2)) (fun h => pi_enum rfl B.enumerate (pa_cons h pa_nil rfl) rfl))
      (fun pre => [sd (bdD rows n), sd (.int (d : Int)), .ty (goTy C kd g), sd (encN (startL g)), sd (encN (startP g)), .own (chO g d pre.length), .any, .any, .any]) (fun pre z post he Sg hS => ?_) ?_)
    (xss_frzO 5 (S := chT g d) (xss_one (xs_ret (xn 5) hrt)) rfl (fun G l o n n0 h => ?_))
  · have hz : z = (cellAt g.cells pre.length, pre.length) ∧ pre.length < g.cells.length := by
      have h1 : g.cells.zipIdx[pre.length]? = some z := by rw [he]; simp
      rw [List.getElem?_zipIdx] at h1
      obtain ⟨c, h2, h3⟩ := Option.map_eq_some_iff.mp h1
      refine ⟨?_, (List.getElem?_eq_some_iff.mp h2).1⟩
      rw [← h3]
      unfold cellAt
      rw [List.getD_eq_getElem?_getD, h2]
      simp
    obtain ⟨hz, hpl⟩ := hz
    have hW' : (Fx.ghost (F.kn P w kd g d) Sg hS).W = Wk P w kd g d := rfl
    refine xss_cons (xs_set (R := dI (g.lay.length : Nat)) 8 nd (XE.eq (xcallB call_lenS rfl B.len PySem.boot_len (xa1 (xn 3)) cr_len) (by rw [List.length_map]; unfold startL; rw [List.length_range])) (nx_of rfl)) ?_
    refine xss_cons (D := _) (Γ' := [sd (bdD rows n), sd (.int (d : Int)), .ty (goTy C kd g), sd (encN (startL g)), sd (encN (startP g)), .own (chO g d pre.length), sd (.int (z.2 : Int)), sd (encC z.1), sd (.int (chN g d pre.length : Nat))])
      (xs_if (b := decide (0 < d)) (XT.eq (xtcmp op_gt (xn 1) xint rv_bl (nomark _)) ?_) (fun h => ?_) (fun h => xss_nil ?_)) ?_
    · rw [Bool.eq_iff_iff, decide_eq_true_iff, decide_eq_true_iff]
      omega
    · have h := of_decide_eq_true h
      obtain ⟨e, rfl⟩ : ∃ e, d = e + 1 := ⟨d - 1, by omega⟩
      refine xss_one (xs_set (R := dI (chN g (e + 1) pre.length : Nat)) 8 nd (xmeth T GD.manyif (hr.mono (by decide)) (xn 2) (xacons (xn 3) (xacons (xn 4) (xacons (xn 6) (xa1 (xn 1))))) ⟨startL g, startP g, pre.length, e, by rw [hz], rfl, hf, hd, re_start g _, List.mem_range.mpr hpl, hd⟩ (fun _ _ _ _ => gf_no _ _ _ _ (by decide +kernel) (by decide +kernel) (by decide +kernel) (by decide +kernel))) (nx_of rfl))
    · have h := of_decide_eq_false h
      obtain rfl : d = 0 := by omega
      exact nx_of rfl
    · have hle := chN_le g d pre.length
      refine xss_one (xs_chput 5 (g := g) (d := d) (n := pre.length) (Nat.lt_of_le_of_lt (Nat.add_le_add_left (by decide : 1 ≤ 64) _) hr.units) rfl (XE.eq (xn 7) (by rw [hz])) (xcall0 A2 (hr.mono (by decide)) rfl (xacons (xn 8) (xa1 (XE.eq (xcallB call_lenS rfl B.len PySem.boot_len (xa1 (xn 3)) cr_len) (d' := .int (g.lay.length : Nat)) (by rw [List.length_map]; unfold startL; rw [List.length_range])))) ⟨chN g d pre.length, g.lay.length, rfl, rfl, by omega, by omega, l0⟩) (fun p hp e => ?_) (by omega) ?_)
      · exact absurd (cellAt_inj hcn (by omega) hpl e) (by omega)
      · have e1 : (pre ++ [z]).length = pre.length + 1 := by simp
        rw [e1]
        exact nx_le (by trivial)
  · rw [List.length_zipIdx]
    exact nx_le (by trivial)
  · obtain ⟨kvs, rfl, h1⟩ := h
    exact ⟨l, kvs, rfl, upd_same, h1.mono (Ex.new n)⟩
theorem def_bestF (S : Src K mg "best" sBest ["board", "depth"]) (T : GC K mg C) (SG : GoSrc K C) (B : Bn mg) (A : Def P w K mg base 8 "going_of" ["board", "depth"] (spGoing P w C)) (A2 : Def P w K mg base 2 "fraction" ["top", "bottom"] (spF W0 preFrac)) :
    Def P w K mg base 13 "best" ["board", "depth"] (spF W0 preBe) := by
  refine Def.of S scBe (fun Rs R h => by obtain ⟨a, b, d, rfl, _⟩ := h; rfl) fun f cdv A' outer s H E hr Rs R hp F D hW hrt _ => ?_
  obtain ⟨rows, n, d, rfl, rfl, hbd, hd⟩ := hp
  have nd := scBe.nd
  obtain ⟨l0, l256, c8⟩ := bd_lay hbd
  have hf := gm_fine (n := n) hbd.c8
  refine xss_going 2 d hW (fun j R => no_own (l := [dat (bdD rows n), dI (d : Int)]) (n := 4) j R) nd A (hr.mono (by decide)) rfl (xn 0) (xn 1) hbd.gd hbd.c8 hd hbd.ne fun kd h0 => ?_
  have GD := go_defs (P := P) (w := w) (base := base) (kd := kd) (g := gmOf rows n) (dep := d) SG T B
  have hrt := hrt.kn (P := P) (w := w) (g := gmOf rows n) (dep := d) hW h0
  obtain ⟨g, eg⟩ : ∃ g, g = gmOf rows n := ⟨_, rfl⟩
  rw [← eg] at GD hrt hf l0 l256 c8 ⊢
  refine xss_cons (xs_set (R := dat (encN (startL g))) 3 nd (xlrange' (n := g.lay.length) rfl B.list rfl B.range (XE.eq (xcallB call_lenS rfl B.len PySem.boot_len (xa1 (xf_some T (xn 2))) cr_len) (by rw [List.length_map])) (by omega)) (nx_of rfl)) ?_
  refine xss_cons (xs_set (R := dat (encN (startP g))) 4 nd (xlrange' (n := g.cells.length) rfl B.list rfl B.range (XE.eq (xcallB call_lenS rfl B.len PySem.boot_len (xa1 (xf_cells T (xn 2))) cr_len) (by rw [List.length_map])) (by omega)) (nx_of rfl)) ?_
  have hlv : Lv g (startL g, startP g) := Re.lv (re_start g d) hf
  refine xss_ifr (b := g.over (startL g) (startP g)) (xtval (xmeth0 T GD.over (hr.mono (by decide)) (xn 2) (xacons (xn 3) (xa1 (xn 4))) ⟨startL g, startP g, rfl, rfl, ⟨hf, hlv.l, hlv.li⟩, hlv.pi⟩ (fun _ _ _ _ => gf_no _ _ _ _ (by decide +kernel) (by decide +kernel) (by decide +kernel) (by decide +kernel))))
    (fun h => xss_one (xs_ret (XE.eq xnone (by unfold bestD; rw [if_pos h])) hrt)) (fun hov => ?_)
  have hne : startP g ≠ [] := by
    intro e
    rw [e] at hov
    simp [Gm.over] at hov
  have hc0 : 0 < g.cells.length := by
    cases h : g.cells.length with
    | zero => exact absurd (by unfold startP; rw [h]; rfl) hne
    | succ m => omega
  refine xss_ifr (b := decide (d = 0)) (XT.eq (xtcmp op_eq (xn 1) xint rv_eqI (nomark _)) ?_) (fun h => ?_) (fun h => ?_)
  · rw [Bool.eq_iff_iff, decide_eq_true_iff, decide_eq_true_iff]
    omega
  · obtain rfl : d = 0 := of_decide_eq_true h
    refine xss_one (xs_ret (XE.eq (xtup (ds := [encC (cellAt g.cells 0), encC (frac 1 1)]) (xacons (xix ix_list (xf_cells T (xn 2)) xint (rv_ixL (at_map (p := 0) (d := ((0 : Int), (0 : Int))) hc0)) (fun _ _ => rfl)) (xa1 (xcall0 A2 (hr.mono (by decide)) rfl (xacons xint (xa1 xint)) ⟨1, 1, rfl, rfl, by decide, by decide, by decide⟩))) (by simp)) ?_) hrt)
    unfold bestD
    rw [if_neg (by rw [hov]; exact Bool.false_ne_true)]
  · have h := of_decide_eq_false h
    obtain ⟨e, rfl⟩ : ∃ e, d = e + 1 := ⟨d - 1, by omega⟩
    have hbm := best_mem (g := g) (d := e) (left := startL g) hne
    have hpl : g.best e (startL g) (startP g) < g.cells.length := List.mem_range.mp hbm
    have hvl := valIf_le (g := g) (d := e) (left := startL g) (places := startP g) (p := g.best e (startL g) (startP g))
    have hsl : (startL g).length = g.lay.length := by unfold startL; rw [List.length_range]
    refine xss_cons (xs_set 5 nd (xmeth T GD.best (hr.mono (by decide)) (xn 2) (xacons (xn 3) (xacons (xn 4) (xa1 (xn 1)))) ⟨startL g, startP g, e, rfl, rfl, hf, hd, re_start g _, hne, hd⟩ (fun _ _ _ _ => gf_no _ _ _ _ (by decide +kernel) (by decide +kernel) (by decide +kernel) (by decide +kernel))) (nx_of rfl)) ?_
    refine xss_one (xs_ret (XE.eq (xtup (ds := [encC (cellAt g.cells (g.best e (startL g) (startP g))), encC (frac (g.valIf e (startL g) (startP g) (g.best e (startL g) (startP g))) g.lay.length)]) (xacons (xix ix_list (xf_cells T (xn 2)) (xn 5) (rv_ixL (at_map (d := ((0 : Int), (0 : Int))) hpl)) (fun _ _ => rfl)) (xa1 (xcall0 A2 (hr.mono (by decide)) rfl (xacons
      (xmeth T GD.manyif (hr.mono (by decide)) (xn 2) (xacons (xn 3) (xacons (xn 4) (xacons (xn 5) (xa1 (xn 1))))) ⟨startL g, startP g, g.best e (startL g) (startP g), e, rfl, rfl, hf, hd, re_start g _, hbm, hd⟩ (fun _ _ _ _ => gf_no _ _ _ _ (by decide +kernel) (by decide +kernel) (by decide +kernel) (by decide +kernel)))
      (xa1 (XE.eq (xcallB call_lenS rfl B.len PySem.boot_len (xa1 (xn 3)) cr_len) (d' := .int (g.lay.length : Nat)) (by rw [List.length_map, hsl])))) ⟨_, g.lay.length, rfl, rfl, by omega, by omega, l0⟩))) (by simp)) ?_) hrt)
    unfold bestD
    rw [if_neg (by rw [hov]; exact Bool.false_ne_true)]
theorem def_planF (S : Src K mg "plan" sPlanF ["board", "depth"]) (T : GC K mg C) (SG : GoSrc K C) (B : Bn mg) (A : Def P w K mg base 8 "going_of" ["board", "depth"] (spGoing P w C)) :
    Def P w K mg base 13 "plan" ["board", "depth"] (spF W0 prePn) := by
  refine Def.of S scPf (fun Rs R h => by obtain ⟨a, b, d, rfl, _⟩ := h; rfl) fun f cdv A' outer s H E hr Rs R hp F D hW hrt _ => ?_
  obtain ⟨rows, n, d, rfl, rfl, hbd, hd⟩ := hp
  have nd := scPf.nd
  obtain ⟨l0, l256, c8⟩ := bd_lay hbd
  have hf := gm_fine (n := n) hbd.c8
  refine xss_going 2 d hW (fun j R => no_own (l := [dat (bdD rows n), dI (d : Int)]) (n := 1) j R) nd A (hr.mono (by decide)) rfl (xn 0) (xn 1) hbd.gd hbd.c8 hd hbd.ne fun kd h0 => ?_
  have GD := go_defs (P := P) (w := w) (base := base) (kd := kd) (g := gmOf rows n) (dep := d) SG T B
  have hrt := hrt.kn (P := P) (w := w) (g := gmOf rows n) (dep := d) hW h0
  obtain ⟨g, eg⟩ : ∃ g, g = gmOf rows n := ⟨_, rfl⟩
  rw [← eg] at GD hrt hf l0 l256 c8 ⊢
  refine xss_one (xs_ret (XEH.xe (S := plN (g.plan d (startL g) (startP g))) (xmethH (R := fun H => plTy H (g.plan d (startL g) (startP g))) T GD.plan (hr.mono (by decide)) (xn 2) (xacons (xlrange' (n := g.lay.length) rfl B.list rfl B.range (XE.eq (xcallB call_lenS rfl B.len PySem.boot_len (xa1 (xf_some T (xn 2))) cr_len) (by rw [List.length_map])) (by omega))
    (xacons (xlrange' (n := g.cells.length) rfl B.list rfl B.range (XE.eq (xcallB call_lenS rfl B.len PySem.boot_len (xa1 (xf_cells T (xn 2))) cr_len) (by rw [List.length_map])) (by omega)) (xa1 (xn 1))))
    (fun H => ⟨startL g, startP g, d, rfl, rfl, hf, hd, re_start g _, by omega⟩) (fun H H1 G v h m => plTy_less h m) (fun _ _ _ _ => gf_no _ _ _ _ (by decide +kernel) (by decide +kernel) (by decide +kernel) (by decide +kernel))) (fun H G v h => let ⟨as, h1, h2, _⟩ := h; ⟨as, h1, h2⟩)) hrt)
end
end SL
set_option maxRecDepth 100000
set_option maxHeartbeats 4000000
/-! tools for the law's own functions -/
namespace SL
open PySem L2 Evl
local macro_rules | `(tactic| trivial) => `(tactic| (repeat (first | exact SL.LeG.nil | refine SL.LeG.cons (by first | exact SL.Le.rfl _ | exact SL.Le.any _) ?_)); done)
abbrev sCellAt : Stmt := top 31
abbrev sMixed : Stmt := top 32
abbrev sMark : Stmt := top 33
abbrev sDrawn : Stmt := top 34
abbrev sCells : Stmt := top 35
abbrev sNear : Stmt := top 36
abbrev sBoard : Stmt := top 37
abbrev sBent : Stmt := top 38
abbrev sAll : Stmt := top 39
abbrev sToldAt : Stmt := top 40
abbrev sGoes : Stmt := top 41
abbrev sStops : Stmt := top 42
abbrev sWalked : Stmt := top 43
abbrev sRival : Stmt := top 44
abbrev sDicts : Stmt := top 45
abbrev sOwn : Stmt := top 46
abbrev sLaw : Stmt := top 47
/-! ### data of which only something is known -/
def exTy (p : PyData → Prop) : Ty := ⟨fun G v => ∃ d, p d ∧ Dq G v d, fun e h => let ⟨d, h1, h2⟩ := h; ⟨d, h1, h2.mono e⟩⟩
section
variable {F : Fx} {X : Cx} {iter : Expr} {body rest : List Stmt} {Γ : List Sd} {D : Ends} {pos : Pos}
theorem xss_ex (i : Nat) {p : PyData → Prop} (hG : Γ[i]? = some (.ty (exTy p))) (k : ∀ d, p d → XSs F X rest (Γ.set i (sd d)) D) : XSs F X rest Γ D := by
  refine sem_xp fun σ H ⟨G, a⟩ => ?_
  obtain ⟨v, e1, d, hp, hd⟩ := a.sl.ty i _ hG
  refine (k d hp).sem ⟨G, a.rn, a.ok, ⟨by simp [a.sl.len], fun j R hj => ?_, fun j R hj => ?_, fun j l m es fs ne q1 q2 => ?_⟩, a.g⟩
  · rcases get_set hj with ⟨e, z⟩ | ⟨e, z⟩
    · subst e
      cases z
      exact ⟨v, e1, hd⟩
    · exact a.sl.ty j R z
  · rcases get_set hj with ⟨e, z⟩ | ⟨e, z⟩
    · cases z
    · exact a.sl.mu j R z
  · rcases get_set q1 with ⟨e, z⟩ | ⟨e, z⟩
    · cases z
    · rcases get_set q2 with ⟨e', z'⟩ | ⟨e', z'⟩
      · cases z'
      · exact a.sl.ap j l m es fs ne z z'
/-- a for that keeps what is known of several slots at once -/
theorem xss_forE (j : Nat) {α β : Type} {xs : List α} {Y : α → Ty} {x : Str} {px : Pos} (hN : X.N.Nodup) (hi : XI F.W X (.Name x px) iter Γ xs Y) (Pm : List α → β → Prop) (Γi : List α → β → List Sd) (b0 : β) (hP : Pm [] b0) (h0 : LeG Γ (Γi [] b0))
    (hb : ∀ pre x post a, xs = pre ++ x :: post → Pm pre a → ∀ S hS (n : L2.St → Hp → Prop), XSs (F.ghost S hS) X body ((Γi pre a).set j (.ty (Y x))) ⟨fun σ H => ∃ b, Pm (pre ++ [x]) b ∧ Stt (F.ghost S hS) (Γi (pre ++ [x]) b) σ H, D.rt, n, fun σ H => ∃ b, Pm (pre ++ [x]) b ∧ Stt (F.ghost S hS) (Γi (pre ++ [x]) b) σ H⟩)
    (k : ∀ b, Pm xs b → XSs F X rest (Γi xs b) D)
    (hp : PassesOwn (model X.prog X.w) X.A X.env X.xe := by exact PassesOwn.never) (hc : X.calm = true := by rfl) (hx : X.N[j]? = some x := by rfl) (hl : Loc X.env.scope x := by first | exact Or.inl rfl | exact Or.inr rfl)
    (hf : X.fn x = true ∨ X.env.scope.names.lookup x = some .local := by first | exact .inl rfl | exact .inr rfl)
    (hs : ∀ x, foldedSetIterable iter X.env x = pure x := by intro _; rfl) : XSs F X (.For (.Name x px) iter body [] pos :: rest) Γ D := by
  obtain ⟨wi, i1, i2⟩ := hi
  show XSPs X _ (Stt F Γ) D
  refine xp_cons (Mid := fun σ H => ∃ b, Pm xs b ∧ Stt F (Γi xs b) σ H) ⟨_, ps_for hp hc i1 (pg_name hN hx hl hf) pss_sem hs, fun σ H ⟨G, a⟩ => ?_⟩ (sem_xp fun σ H ⟨b, hb, z⟩ => (k b hb).sem z)
  refine i2 F.H0 σ G H a.ok a.sl _ fun J G1 H1 S Gw Yw r1 o1 hS s1 w hw hy => ?_
  have a1 := a.run r1 o1
  refine for_it w (fun i σ H => ∃ b, Pm (xs.take i) b ∧ Stt (F.ghost S hS) (Γi (xs.take i) b) σ H) ⟨b0, by rw [List.take_zero]; exact hP, G1, a1.rn, o1, a1.sl.le (by rw [List.take_zero]; exact h0), a1.g, s1⟩ (fun i σ H _ ⟨_, _, ⟨G, z⟩⟩ => hw G H z.ok z.g.2) ?_ ?_
  · rintro i v σ' Ha Hb hlt ⟨b, zp, ⟨Ga, z⟩⟩ y
    have hx : xs[i]? = some xs[i] := List.getElem?_eq_getElem hlt
    obtain ⟨e1, e2⟩ := split_at hx
    obtain ⟨Gb, rb, ob, mb⟩ := hy i xs[i] Ha v Hb Ga hx z.ok z.g.2 y
    have zb := z.run rb ob
    refine (tg_name (j := j)).run F.W F.H0 σ' Gb Hb v ob zb.sl mb _ fun σ2 s2 _ => ?_
    rw [e2]
    exact (hb _ _ _ b e1 zp S hS _).sem ⟨Gb, zb.rn, ob, s2, zb.g⟩
  · rintro σ' Ha ⟨b, zp, ⟨Ga, z⟩⟩
    rw [List.take_length] at z zp
    exact ⟨b, zp, Ga, z.rn, z.ok, z.sl, z.g.1⟩
theorem nx_ex {F : Fx} {β : Type} {Γ : List Sd} {Γi : β → List Sd} {Pm : β → Prop} {r : VK} {b c : L2.St → Hp → Prop} (a : β) (h : Pm a) (l : LeG Γ (Γi a)) : Nx F Γ ⟨fun σ H => ∃ b, Pm b ∧ Stt F (Γi b) σ H, r, b, c⟩ := fun σ H z => ⟨a, h, z.le l⟩
end
/-! ### operations -/
def cellK (cs : List Int) (k : Nat) : Int := cs.getD k 0
section
variable {W : Wd} {X : Cx} {K : PySem.W.Frag} {Γ : List Sd} {i j : Int}
theorem rv_mod (h : 0 < j) : R2v W (rI (fun _ j => 0 < j) fun i j => .int (i % j)) (dI i) (dI j) (dI (i % j)) := rv_intC h
theorem rv_fdiv (h : 0 < j) (h2 : j < 1073741824) : R2v W (rI CDiv fun i j => .int (i / j)) (dI i) (dI j) (dI (i / j)) := rv_intC ⟨h, h2⟩
theorem rv_mul (h : CMul i j) : R2v W (rI CMul fun i j => .int (i * j)) (dI i) (dI j) (dI (i * j)) := rv_intC h
theorem rv_inTS {c : Nat} {cs : List Nat} : R2v W (rIn K false) (dS (sg c)) (dT (cs.map fun c => PyData.str (sg c))) (dB (decide (c ∈ cs))) := fun x y G H o m1 m2 Q q => by
  cases Dq.str_inv m1
  obtain ⟨a, vs, rfl, ha, hd⟩ := Dq.tup_inv m2
  have e : (cs.map fun c => PyData.str (sg c)) = (cs.map sg).map PyData.str := by rw [List.map_map]; rfl
  rw [e] at hd
  cases hd.strs
  refine ⟨a, _, rfl, .inr (SqT.of (o.ex _ _ ha)), rfl, ?_, ?_⟩
  · rw [List.all_map, List.all_eq_true]
    exact fun _ _ => rfl
  · have e2 : (if false = true then !inV (V.str (sg c)) ((cs.map sg).map V.str) else inV (V.str (sg c)) ((cs.map sg).map V.str)) = decide (c ∈ cs) := by
      rw [if_neg Bool.false_ne_true]
      unfold inV
      rw [List.any_map, List.any_map, Bool.eq_iff_iff, List.any_eq_true, decide_eq_true_iff]
      have key : ∀ x : Nat, eqV (V.str (sg x)) (V.str (sg c)) = true ↔ x = c := fun x => by
        simp [eqV]
      constructor
      · rintro ⟨x, hx, e⟩
        exact (key x).mp e ▸ hx
      · intro h
        exact ⟨c, h, (key c).mpr rfl⟩
    rw [e2]
    exact q _ G H Rn.refl o (Dq.bl _)
theorem rv_inLS {c : Nat} {cs : List Nat} : R2v W (rIn K false) (dS (sg c)) (dL (cs.map fun c => PyData.str (sg c))) (dB (decide (c ∈ cs))) := fun x y G H o m1 m2 Q q => by
  cases Dq.str_inv m1
  obtain ⟨a, vs, rfl, ha, hd⟩ := Dq.lst_inv m2
  have e : (cs.map fun c => PyData.str (sg c)) = (cs.map sg).map PyData.str := by rw [List.map_map]; rfl
  rw [e] at hd
  cases hd.strs
  refine ⟨a, _, rfl, .inl (SqL.of (o.ex _ _ ha)), rfl, ?_, ?_⟩
  · rw [List.all_map, List.all_eq_true]
    exact fun _ _ => rfl
  · have e2 : (if false = true then !inV (V.str (sg c)) ((cs.map sg).map V.str) else inV (V.str (sg c)) ((cs.map sg).map V.str)) = decide (c ∈ cs) := by
      rw [if_neg Bool.false_ne_true]
      unfold inV
      rw [List.any_map, List.any_map, Bool.eq_iff_iff, List.any_eq_true, decide_eq_true_iff]
      have key : ∀ x : Nat, eqV (V.str (sg x)) (V.str (sg c)) = true ↔ x = c := fun x => by
        simp [eqV]
      constructor
      · rintro ⟨x, hx, e⟩
        exact (key x).mp e ▸ hx
      · intro h
        exact ⟨c, h, (key c).mpr rfl⟩
    rw [e2]
    exact q _ G H Rn.refl o (Dq.bl _)
/-- reads of a list that grows: l[i] -/
theorem xixM (s : Nat) {x : Str} {np pos : Pos} {ei : Expr} {ds : List PyData} {d : PyData} {i : Int} (hG : Γ[s]? = some (.mut ds)) (hi : XE W X ei Γ (dI i)) (h : atI ds i = some d) (hs : PlainIx ei) (hN : X.N[s]? = some x := by rfl)
    (hvv : Vis X.env.scope x := by first | exact Or.inl rfl | exact Or.inr (Or.inl rfl) | exact Or.inr (Or.inr rfl)) (hd : (x == ("__debug__" : Str)) = false := by decide) (hcd : (x == ("__classdict__" : Str)) = false := by decide) : XE W X (.Subscript (.Name x np) ei pos) Γ (dat d) := by
  obtain ⟨t, a1, a2⟩ := hi
  refine ⟨_, pe_ix ix_list (pe_var hN hvv hd hcd) a1 hs, fun H0 σ G H o s' Q q => ?_⟩
  obtain ⟨l, _, e1, h1, h2, h3, h4, xs, rfl, h5⟩ := s'.mu s _ hG
  refine ⟨_, e1, a2 H0 σ G H o s' _ fun v G1 H1 r1 o1 m1 => ?_⟩
  cases Dq.int_inv m1
  obtain ⟨v, g1, g2⟩ := atI_dq h5 h
  exact ⟨l, xs, i, v, rfl, rfl, SqL.of (r1.hh _ _ h4 h1), g1, q v G1 H1 r1 o1 (g2.mono r1.gg)⟩
theorem xneg {e : Expr} {pos : Pos} (h : XE W X e Γ (dI i)) : XE W X (.UnaryOp .USub e pos) Γ (dI (-i)) := by
  obtain ⟨t, a1, a2⟩ := h
  refine ⟨_, pe_un un_neg a1, fun H0 σ G H o s Q q => a2 H0 σ G H o s _ fun v G1 H1 r1 o1 m1 => ?_⟩
  cases Dq.int_inv m1
  exact ⟨i, rfl, q _ G1 H1 r1 o1 (Dq.int _)⟩
/-- list of a text -/
def rListTx : List V → Hp → VK → Prop := fun xs H Q => ∃ cs : List Nat, xs = [.str (rw_ cs)] ∧ cs.length ≤ 1000 ∧ ∀ l, H l = none → Q (.ref l) (upd H l (.lst (cs.map fun c => V.str (sg c))))
theorem call_listTx (hc : X.calm = true) : CallR X (.type "list") rListTx := by
  intro pins s σ H xs us Q I r h
  obtain ⟨cs, rfl, hl, q⟩ := h
  obtain ⟨u, rfl, t, rfl⟩ := vals1 r
  have hz : (rw_ cs).cps.size ≤ sizeLine := by
    show cs.toArray.size ≤ _
    rw [List.size_toArray]
    exact sz_of (by omega)
  refine PySem.call_list_str (I.ok.hd hc) (rw_ cs) t (hn := hz) fun h' tk acc c' hk e' hi => ?_
  refine ⟨.ref s.heap.objs.size, upd H s.heap.objs.size (.lst (cs.map fun c => V.str (sg c))), I.laid hk (Nat.le_refl _) (show ObjOk X.prog X.w _ _ _ (.lst (cs.map fun c => V.str (sg c))) from ⟨?_, acc.toList, c', ?_, ?_⟩), rfl, q _ (I.hok.fresh (Nat.le_refl _))⟩
  · rw [List.length_map, sizeLine_eq]; omega
  · have hsz : acc.toList.length = cs.length := by
      rw [Array.length_toList, hi.1]
      show cs.toArray.size = _
      rw [List.size_toArray]
    refine vals_of_at (by rw [List.length_map, hsz]) fun j x u h1 h2 => ?_
    obtain ⟨c, u', g1, rfl⟩ := hi.2 j u (by rw [← Array.getElem?_toList]; exact h2)
    have g1 : cs[j]? = some c := by simpa using g1
    rw [List.getElem?_map, g1] at h1
    cases h1
    exact ⟨u', rfl⟩
  · rw [Array.toArray_toList]; exact e'
theorem cr_listTx {cs : List Nat} (hl : cs.length ≤ 1000) : CRv W rListTx [dS (rw_ cs)] (dL (cs.map fun c => PyData.str (sg c))) := fun vs G H o m Q q => by
  match vs, m with
  | [v], ⟨m, _⟩ =>
    cases Dq.str_inv m
    refine ⟨cs, rfl, hl, fun p hp => q _ _ _ (Rn.alloc o hp) (o.alloc hp) (.lst upd_same ?_)⟩
    have all : ∀ (cs : List Nat) (A : Hp), DqAll A (cs.map fun c => V.str (sg c)) (cs.map fun c => PyData.str (sg c)) := fun cs A => by
      induction cs with
      | nil => exact .nil
      | cons c r ih => exact .cons (.str _) ih
    exact all _ _
end
theorem SqL.up {K : PySem.W.Frag} {G G' : Hp} {a : Addr} {xs : List V} (e : Ex G G') (h : SqL K G a xs) : SqL K G' a xs := by
  rcases h with (h | ⟨o, h⟩) | h
  · exact .inl (.inl (e _ _ h))
  · exact .inl (.inr ⟨o, e _ _ h⟩)
  · exact .inr h
/-- the script -/
def scTy (K : PySem.W.Frag) (cs : List Int) : Ty := ⟨fun G v => ∃ a, v = .ref a ∧ SqL K G a (cs.map V.int), fun e h => let ⟨a, h1, h2⟩ := h; ⟨a, h1, SqL.up e h2⟩⟩
theorem scTy_inv {K : PySem.W.Frag} {cs : List Int} {G : Hp} {v : V} (m : (scTy K cs).r G v) : ∃ a, v = .ref a ∧ SqL K G a (cs.map V.int) := m
theorem cr_lenSc {W : Wd} {K : PySem.W.Frag} {cs : List Int} : CRv W (rLenS K) [scTy K cs] (dI (cs.length : Int)) := fun vs G H o m Q q => by
  have hl := m.len
  cases vs with
  | nil => cases hl
  | cons v r =>
    cases r with
    | cons u r => cases hl
    | nil =>
      have h0 : (scTy K cs).r G v := And.left m
      have h1 := scTy_inv h0
      cases h1 with
      | intro a h2 =>
        have e : v = .ref a := h2.1
        subst e
        have h3 : SqL K H a (cs.map V.int) := SqL.up o.ex h2.2
        have e2 : (cs.map V.int).length = cs.length := List.length_map _
        have q2 : Q (.int ((cs.map V.int).length : Nat)) H := by
          rw [e2]
          exact q _ G H Rn.refl o (Dq.int _)
        exact ⟨a, cs.map V.int, rfl, Or.inl h3, q2⟩
theorem rv_ixSc {W : Wd} {K : PySem.W.Frag} {cs : List Int} {k : Nat} (h : k < cs.length) : R2v W (rIxL K) (scTy K cs) (dI (k : Int)) (dI (cs.getD k 0)) := fun x y G H o m1 m2 Q q => by
  cases Dq.int_inv m2
  have h1 := scTy_inv m1
  cases h1 with
  | intro a h2 =>
    have e : x = .ref a := h2.1
    subst e
    have h3 : SqL K H a (cs.map V.int) := SqL.up o.ex h2.2
    have h4 : atI (cs.map V.int) (k : Int) = some (.int (cs.getD k 0)) := by
      refine atI_of (n := k) rfl ?_
      rw [List.getElem?_map, List.getElem?_eq_getElem h, List.getD_eq_getElem?_getD, List.getElem?_eq_getElem h]
      rfl
    exact ⟨a, _, (k : Int), .int (cs.getD k 0), rfl, rfl, h3, h4, q _ G H Rn.refl o (Dq.int _)⟩
/-! ### the draw -/
def mixX (c k : Int) : Int := (c % 2147483629 + 7919 * k + 11) % 2147483647
def mixZ (c k : Int) : Int := (mixX c k * mixX c k % 2147483647 * 48271 % 2147483587) / 8
def markZ (d often many : Int) (room : Bool) : Nat := if d / 64 % 13 = 0 then 35 else if room = true ∧ d % 64 % often = 0 then 111 else if room = true ∧ d / 1024 % 5 < many then 99 else 46
def preCellAt (K : PySem.W.Frag) : List Ty → Ty → Prop := fun Rs R => ∃ (cs : List Int) (k : Nat), Rs = [scTy K cs, dI (k : Int)] ∧ R = dI (cellK cs k)
def preMixed : List Ty → Ty → Prop := fun Rs R => ∃ (c k : Int), Rs = [dI c, dI k] ∧ R = dI (mixZ c k) ∧ -1000000000 < k ∧ k < 1000000000
def preMark : List Ty → Ty → Prop := fun Rs R => ∃ (d often many : Int) (room : Bool), Rs = [dI d, dI often, dI many, dB room] ∧ R = dS (sg (markZ d often many room)) ∧ 0 < often
theorem mixX_lt (c k : Int) : 0 ≤ mixX c k ∧ mixX c k < 2147483647 := ⟨Int.emod_nonneg _ (by decide), Int.emod_lt_of_pos _ (by decide)⟩
section
variable {P : Program} {w : World} {K : PySem.W.Frag} {mg : Str → Option Value} {base : Heap}
theorem scCa : FnScope ["_law_script", "_law_k"] ["_law_script", "_law_k"] (defScope sCellAt) := ⟨rfl, rfl, rfl, by decide +kernel, rfl, by decide +kernel, by decide +kernel⟩
theorem def_cellat (S : Src K mg "_law_cell_at" sCellAt ["_law_script", "_law_k"]) (B : Bn mg) : Def P w K mg base 1 "_law_cell_at" ["_law_script", "_law_k"] (spF W0 (preCellAt K)) := by
  refine Def.of S scCa (fun Rs R h => by obtain ⟨a, b, rfl, _⟩ := h; rfl) fun f cdv A outer s H E hr Rs R hp F D hW hrt _ => ?_
  obtain ⟨cs, k, rfl, rfl⟩ := hp
  refine xss_ifr (b := decide (k < cs.length)) (XT.eq (xtcmp op_lt (xn 1) (xcallB call_lenS rfl B.len PySem.boot_len (xa1 (xn 0 (R := scTy K cs))) (cr_lenSc (K := K))) rv_bl (nomark _)) ?_) (fun h => ?_) (fun h => ?_)
  · rw [Bool.eq_iff_iff, decide_eq_true_iff, decide_eq_true_iff]
    omega
  · exact xss_one (xs_ret (xix ix_list (xn 0 (R := scTy K cs)) (xn 1) (rv_ixSc (K := K) (of_decide_eq_true h)) (fun _ _ => rfl)) hrt)
  · have h := of_decide_eq_false h
    refine xss_one (xs_ret (XE.eq xint ?_) hrt)
    unfold cellK
    rw [List.getD_eq_getElem?_getD, List.getElem?_eq_none (by omega)]
    rfl
theorem scMx : FnScope ["_law_cell", "_law_k", "_law_drawn_here"] ["_law_cell", "_law_k"] (defScope sMixed) := ⟨rfl, rfl, rfl, by decide +kernel, rfl, by decide +kernel, by decide +kernel⟩
theorem def_mixed (S : Src K mg "_law_mixed" sMixed ["_law_cell", "_law_k"]) : Def P w K mg base 1 "_law_mixed" ["_law_cell", "_law_k"] (spF W0 preMixed) := by
  refine Def.of S scMx (fun Rs R h => by obtain ⟨a, b, rfl, _⟩ := h; rfl) fun f cdv A outer s H E hr Rs R hp F D hW hrt _ => ?_
  obtain ⟨c, k, rfl, rfl, hk1, hk2⟩ := hp
  have nd := scMx.nd
  obtain ⟨x0, x1⟩ := mixX_lt c k
  refine xss_cons (xs_set (R := dI (mixX c k)) 2 nd (xop op_mod (xop op_add (xop op_add (xop op_mod (xn 0) xint (rv_mod (by decide))) (xop op_mul xint (xn 1) (rv_mul (.inl ⟨by decide, by decide⟩))) rv_int) xint rv_int) xint (rv_mod (by decide))) (nx_of rfl)) ?_
  have y0 : 0 ≤ mixX c k * mixX c k % 2147483647 := Int.emod_nonneg _ (by decide)
  have y1 : mixX c k * mixX c k % 2147483647 < 2147483647 := Int.emod_lt_of_pos _ (by decide)
  refine xss_cons (xs_set (R := dI (mixX c k * mixX c k % 2147483647 * 48271 % 2147483587)) 2 nd (xop op_mod (xop op_mul (xop op_mod (xop op_mul (xn 2) (xn 2) (rv_mul (.inl ⟨by omega, by omega⟩))) xint (rv_mod (by decide))) xint (rv_mul (.inr ⟨by decide, by decide⟩))) xint (rv_mod (by decide))) (nx_of rfl)) ?_
  exact xss_one (xs_ret (xop op_fdiv (xn 2) xint (rv_fdiv (by decide) (by decide))) hrt)
theorem scMk : FnScope ["_law_drawn_here", "_law_often", "_law_many", "_law_room"] ["_law_drawn_here", "_law_often", "_law_many", "_law_room"] (defScope sMark) := ⟨rfl, rfl, rfl, by decide +kernel, rfl, by decide +kernel, by decide +kernel⟩
theorem def_mark (S : Src K mg "_law_mark" sMark ["_law_drawn_here", "_law_often", "_law_many", "_law_room"]) : Def P w K mg base 1 "_law_mark" ["_law_drawn_here", "_law_often", "_law_many", "_law_room"] (spF W0 preMark) := by
  refine Def.of S scMk (fun Rs R h => by obtain ⟨a, b, c, d, rfl, _⟩ := h; rfl) fun f cdv A outer s H E hr Rs R hp F D hW hrt _ => ?_
  obtain ⟨d, often, many, room, rfl, rfl, ho⟩ := hp
  unfold markZ at hrt
  refine xss_ifr (b := decide (d / 64 % 13 = 0)) (xtcmp op_eq (xop op_mod (xop op_fdiv (xn 0) xint (rv_fdiv (by decide) (by decide))) xint (rv_mod (by decide))) xint rv_eqI (nomark _)) (fun h => ?_) (fun h => ?_)
  · rw [if_pos (of_decide_eq_true h)] at hrt
    exact xss_one (xs_ret xstr hrt)
  rw [if_neg (of_decide_eq_false h)] at hrt
  refine xss_ifr (b := room && decide (d % 64 % often = 0)) (XW.t (xwand (xtval (xn 3)) fun _ => xwand1 (xtcmp op_eq (xop op_mod (xop op_mod (xn 0) xint (rv_mod (by decide))) (xn 1) (rv_mod ho)) xint rv_eqI (nomark _)))) (fun h => ?_) (fun h => ?_)
  · rw [Bool.and_eq_true] at h
    rw [if_pos ⟨h.1, of_decide_eq_true h.2⟩] at hrt
    exact xss_one (xs_ret xstr hrt)
  rw [if_neg (fun z => by rw [Bool.and_eq_false_iff] at h; rcases h with h | h; exact absurd z.1 (by rw [h]; exact Bool.false_ne_true); exact of_decide_eq_false h z.2)] at hrt
  refine xss_ifr (b := room && decide (d / 1024 % 5 < many)) (XW.t (xwand (xtval (xn 3)) fun _ => xwand1 (xtcmp op_lt (xop op_mod (xop op_fdiv (xn 0) xint (rv_fdiv (by decide) (by decide))) xint (rv_mod (by decide))) (xn 2) rv_bl (nomark _)))) (fun h => ?_) (fun h => ?_)
  · rw [Bool.and_eq_true] at h
    rw [if_pos ⟨h.1, of_decide_eq_true h.2⟩] at hrt
    exact xss_one (xs_ret xstr hrt)
  rw [if_neg (fun z => by rw [Bool.and_eq_false_iff] at h; rcases h with h | h; exact absurd z.1 (by rw [h]; exact Bool.false_ne_true); exact of_decide_eq_false h z.2)] at hrt
  exact xss_one (xs_ret xstr hrt)
end
end SL
set_option maxRecDepth 100000
set_option maxHeartbeats 4000000
namespace SL
open PySem L2 Evl
local macro_rules | `(tactic| trivial) => `(tactic| (repeat (first | exact SL.LeG.nil | refine SL.LeG.cons (by first | exact SL.Le.rfl _ | exact SL.Le.any _) ?_)); done)
abbrev dSg (c : Nat) : PyData := .str (sg c)
abbrev encT (r : List Nat) : PyData := .list (r.map dSg)
abbrev encM (ms : List (List Nat)) : PyData := .list (ms.map encT)
def ocs : List Nat := [111, 99]
def cnt (p : List Nat) (r : List Nat) : Nat := (r.filter fun c => decide (c ∈ p)).length
def cntA (p : List Nat) (ms : List (List Nat)) : Nat := sumN (ms.map (cnt p))
theorem cnt_snoc (p r : List Nat) (c : Nat) : cnt p (r ++ [c]) = cnt p r + if c ∈ p then 1 else 0 := by
  unfold cnt
  rw [List.filter_append, List.length_append]
  by_cases h : c ∈ p
  · rw [if_pos h, List.filter_cons, if_pos (decide_eq_true h)]
    rfl
  · rw [if_neg h, List.filter_cons, if_neg (by simpa using h)]
    rfl
theorem cntA_snoc (p : List Nat) (ms : List (List Nat)) (r : List Nat) : cntA p (ms ++ [r]) = cntA p ms + cnt p r := by
  unfold cntA
  rw [List.map_append, sumN_append, List.map_cons, List.map_nil, sumN_cons]
  simp [sumN]
structure MkOk (ms : List (List Nat)) : Prop where
  l : ms.length ≤ 8
  r : ∀ r ∈ ms, r.length ≤ 8 ∧ ∀ c ∈ r, c ∈ [35, 111, 99, 46]
  n : cntA ocs ms ≤ 8
def preDrawn (K : PySem.W.Frag) : List Ty → Ty → Prop := fun Rs R => ∃ cs : List Int, Rs = [scTy K cs, dI 16, dI 8] ∧ R = exTy fun d => ∃ ms, d = encM ms ∧ MkOk ms
theorem mark_in (d o m : Int) (b : Bool) : markZ d o m b ∈ [35, 111, 99, 46] := by
  unfold markZ
  split
  · simp
  · split
    · simp
    · split <;> simp
theorem mark_room {d o m : Int} {b : Bool} (h : markZ d o m b ∈ ocs) : b = true := by
  unfold markZ at h
  split at h
  · simp [ocs] at h
  · split at h
    · rename_i z; exact z.1
    · split at h
      · rename_i z; exact z.1
      · simp [ocs] at h
theorem atI_last {α : Type} (l : List α) (x : α) : atI (l ++ [x]) (-1) = some x := by
  unfold atI ixN
  rw [if_neg (by decide)]
  simp
  rw [if_pos (by omega)]
  have e : (-1 + ((l.length : Int) + 1)).toNat = l.length := by omega
  simp [e]
abbrev nDr : List Str := ["_law_script", "_law_most", "_law_limit", "_law_high", "_law_wide", "_law_often", "_law_many", "_law_marks", "_law_shut", "_law_row", "_law_line", "_law_column", "_law_place", "_law_drawn_here"]
theorem wide_b (h : Int) (h1 : 1 ≤ h) (h2 : h ≤ 8) : 0 < (if 16 / h < 8 then 16 / h else 8) ∧ (if 16 / h < 8 then 16 / h else 8) ≤ 8 := by
  have : h = 1 ∨ h = 2 ∨ h = 3 ∨ h = 4 ∨ h = 5 ∨ h = 6 ∨ h = 7 ∨ h = 8 := by omega
  rcases this with rfl | rfl | rfl | rfl | rfl | rfl | rfl | rfl <;> decide
section
variable {P : Program} {w : World} {K : PySem.W.Frag} {mg : Str → Option Value} {base : Heap}
theorem scDr : FnScope nDr ["_law_script", "_law_most", "_law_limit"] (defScope sDrawn) := ⟨rfl, rfl, rfl, by decide +kernel, rfl, by decide +kernel, by decide +kernel⟩
theorem def_drawn (S : Src K mg "_law_drawn" sDrawn ["_law_script", "_law_most", "_law_limit"]) (B : Bn mg) (A1 : Def P w K mg base 1 "_law_cell_at" ["_law_script", "_law_k"] (spF W0 (preCellAt K))) (A2 : Def P w K mg base 1 "_law_mixed" ["_law_cell", "_law_k"] (spF W0 preMixed))
    (A3 : Def P w K mg base 1 "_law_mark" ["_law_drawn_here", "_law_often", "_law_many", "_law_room"] (spF W0 preMark)) : Def P w K mg base 2 "_law_drawn" ["_law_script", "_law_most", "_law_limit"] (spF W0 (preDrawn K)) := by
  refine Def.of S scDr (fun Rs R h => by obtain ⟨a, rfl, _⟩ := h; rfl) fun f cdv A outer s H E hr Rs R hp F D hW hrt _ => ?_
  obtain ⟨cs, rfl, rfl⟩ := hp
  have nd := scDr.nd
  obtain ⟨h, eh⟩ : ∃ h, h = 1 + cellK cs 0 % 8 := ⟨_, rfl⟩
  have h1 : 1 ≤ h := by omega
  have h8 : h ≤ 8 := by omega
  obtain ⟨m0, m8⟩ := wide_b h h1 h8
  obtain ⟨m, em⟩ : ∃ m, m = (if 16 / h < 8 then 16 / h else 8) := ⟨_, rfl⟩
  rw [← em] at m0 m8
  have hw0 : 0 ≤ cellK cs 0 / 8 % m := Int.emod_nonneg _ (by omega)
  have hw1 : cellK cs 0 / 8 % m < m := Int.emod_lt_of_pos _ m0
  obtain ⟨w', ew⟩ : ∃ w', w' = 1 + cellK cs 0 / 8 % m := ⟨_, rfl⟩
  have w1 : 1 ≤ w' ∧ w' ≤ 8 := by omega
  have ca : ∀ {X : Cx} {Γ : List Sd} {k : Nat} {pos p p2 : Pos} {j : Nat}, True := fun {_ _ _ _ _ _ _} => trivial
  refine xss_cons (xs_set (R := dI h) 3 nd (XE.eq (xop op_add xint (xop op_mod (xcall0 A1 hr rfl (xacons (xn 0) (xa1 xint)) ⟨cs, 0, rfl, rfl⟩) (xcallB (call_min2I rfl) rfl B.min (by decide +kernel) (xacons xint (xa1 (xn 1))) cr_min2) (rv_mod (by decide))) rv_int) (by rw [eh]; rfl)) (nx_of rfl)) ?_
  refine xss_cons (xs_set (R := dI w') 4 nd (XE.eq (xop op_add xint (xop op_mod (xop op_fdiv (xcall0 A1 hr rfl (xacons (xn 0) (xa1 xint)) ⟨cs, 0, rfl, rfl⟩) xint (rv_fdiv (by decide) (by decide))) (xcallB (call_min2I rfl) rfl B.min (by decide +kernel) (xacons xint (xa1 (xop op_fdiv (xn 1) (xn 3) (rv_fdiv (by omega) (by omega))))) cr_min2) (rv_mod (by rw [← em]; exact m0))) rv_int) (by rw [ew, em])) (nx_of rfl)) ?_
  refine xss_cons (xs_set 5 nd (xop op_add xint (xop op_mod (xcall0 A1 hr rfl (xacons (xn 0) (xa1 xint)) ⟨cs, 1, rfl, rfl⟩) xint (rv_mod (by decide))) rv_int) (nx_of rfl)) ?_
  refine xss_cons (xs_set 6 nd (xop op_mod (xop op_fdiv (xcall0 A1 hr rfl (xacons (xn 0) (xa1 xint)) ⟨cs, 1, rfl, rfl⟩) xint (rv_fdiv (by decide) (by decide))) xint (rv_mod (by decide))) (nx_of rfl)) ?_
  have ho : 0 < 2 + cellK cs 1 % 5 := by omega
  obtain ⟨o, eo⟩ : ∃ o, o = 2 + cellK cs 1 % 5 := ⟨_, rfl⟩
  obtain ⟨y, ey⟩ : ∃ y, y = cellK cs 1 / 5 % 5 := ⟨_, rfl⟩
  rw [← eo] at ho
  have eo' : dI (2 + cellK cs ((1 : Nat) : Int).toNat % 5) = dI o := by rw [eo]; rfl
  refine xss_cons (xs_nil 7 nd (nx_of rfl)) ?_
  refine xss_cons (xs_set 8 nd xint (nx_of rfl)) ?_
  refine xss_forE 9 nd (xi_range1 rfl B.range (xn 3) ⟨by omega, by omega⟩) (fun pre (a : List (List Nat) × Nat) => a.1.length = pre.length ∧ (∀ r ∈ a.1, r.length ≤ 8 ∧ ∀ c ∈ r, c ∈ [35, 111, 99, 46]) ∧ cntA ocs a.1 = a.2 ∧ a.2 ≤ 8)
    (fun pre a => [.ty (scTy K cs), sd (.int 16), sd (.int 8), sd (.int h), sd (.int w'), sd (.int (2 + cellK cs 1 % 5)), sd (.int (cellK cs 1 / 5 % 5)), .mut (a.1.map encT), sd (.int (a.2 : Int)), .any, .any, .any, .any, .any]) ([], 0) ⟨rfl, by simp, rfl, by decide⟩ (by trivial) (fun pre x post a he hpre Sg hS nn => ?_) (fun a ha => ?_)
  · obtain ⟨ms, sh⟩ := a
    obtain ⟨p1, p2, p3, p4⟩ := hpre
    have p1 : ms.length = pre.length := p1
    have p3 : cntA ocs ms = sh := p3
    have hx : pre.length + post.length + 1 = h.toNat := by
      have := congrArg List.length he
      simp at this
      omega
    have hxx : x < 8 := by
      have : x ∈ List.range h.toNat := by rw [he]; simp
      have := List.mem_range.mp this
      omega
    refine xss_cons (xs_nil 10 nd (nx_of rfl)) ?_
    refine xss_forE 11 nd (xi_range1 rfl B.range (xn 4) ⟨by omega, by omega⟩) (fun pre' (a' : List Nat × Nat) => a'.1.length = pre'.length ∧ (∀ c ∈ a'.1, c ∈ [35, 111, 99, 46]) ∧ cntA ocs ms + cnt ocs a'.1 = a'.2 ∧ a'.2 ≤ 8)
      (fun pre' a' => [.ty (scTy K cs), sd (.int 16), sd (.int 8), sd (.int h), sd (.int w'), sd (.int (2 + cellK cs 1 % 5)), sd (.int (cellK cs 1 / 5 % 5)), .mut (ms.map encT), sd (.int (a'.2 : Int)), sd (.int (x : Int)), .mut (a'.1.map dSg), .any, .any, .any]) ([], sh) ⟨rfl, by simp, by simpa [cnt] using p3, p4⟩ (by trivial) (fun pre' x' post' a' he' hpre' Sg' hS' nn' => ?_) (fun a' ha' => ?_)
    · obtain ⟨ln, sh'⟩ := a'
      obtain ⟨q1, q2, q3, q4⟩ := hpre'
      have q1 : ln.length = pre'.length := q1
      have q3 : cntA ocs ms + cnt ocs ln = sh' := q3
      have hx' : pre'.length + post'.length + 1 = w'.toNat := by
        have := congrArg List.length he'
        simp at this
        omega
      have hxx' : x' < 8 := by
        have : x' ∈ List.range w'.toNat := by rw [he']; simp
        have := List.mem_range.mp this
        omega
      refine xss_cons (xs_set (R := dI ((8 * x + x' : Nat) : Int)) 12 nd (XE.eq (xop op_add (xop op_mul xint (xn 9) (rv_mul (.inl ⟨by decide, by decide⟩))) (xn 11) rv_int) (by rw [show ((8 * x + x' : Nat) : Int) = 8 * (x : Int) + (x' : Int) by omega])) (nx_of rfl)) ?_
      refine xss_cons (xs_set 13 nd (xcall0 A2 hr rfl (xacons (xcall0 A1 hr rfl (xacons (xn 0) (xa1 (XE.eq (xop op_add xint (xop op_mod (xn 12) xint (rv_mod (by decide))) rv_int) (d' := .int ((4 + (8 * x + x') % 58 : Nat) : Int)) (by congr 1 <;> omega)))) ⟨cs, _, rfl, rfl⟩) (xa1 (xn 12))) ⟨_, _, rfl, rfl, by omega, by omega⟩) (nx_of rfl)) ?_
      obtain ⟨c, ec⟩ : ∃ c, c = markZ (mixZ (cellK cs (4 + (8 * x + x') % 58)) ((8 * x + x' : Nat) : Int)) (2 + cellK cs 1 % 5) (cellK cs 1 / 5 % 5) (decide ((sh' : Int) < 8)) := ⟨_, rfl⟩
      have hc : c ∈ [35, 111, 99, 46] := ec ▸ mark_in _ _ _ _
      have hroom : c ∈ ocs → sh' < 8 := fun z => by
        have := mark_room (ec ▸ z)
        have := of_decide_eq_true this
        omega
      refine xss_cons (xs_app (d := dSg c) 10 rfl (XE.eq (xcall0 A3 hr rfl (xacons (xn 13) (xacons (xn 5) (xacons (xn 6) (xa1 (xcmp op_lt (xn 8) (xn 2) rv_bl (nomark _)))))) ⟨_, _, _, _, rfl, rfl, by omega⟩) (by rw [ec])) (by rw [List.length_map]; omega) (nx_of rfl)) ?_
      refine xss_one (xs_set (R := dI ((sh' + (if c ∈ ocs then 1 else 0) : Nat) : Int)) 8 nd (XE.eq (xop op_add (xn 8) (xcallTy call_intB rfl B.int (by decide +kernel) (xa1 (xcmp op_in_seq (xixM (d := dSg c) 10 rfl (xneg xint) (atI_last _ _) (fun _ _ => rfl)) (xtup (ds := ocs.map dSg) (xacons xstr (xa1 xstr)) (by decide)) rv_inTS rfl)) cr_intB) rv_int) ?_) (nx_ex (ln ++ [c], sh' + (if c ∈ ocs then 1 else 0)) ⟨by simp [q1], fun e he => ?_, ?_, ?_⟩ ?_))
      · by_cases z : c ∈ ocs
        · rw [if_pos z, decide_eq_true z]
          simp
        · rw [if_neg z, decide_eq_false z]
          simp
      · rcases List.mem_append.mp he with z | z
        · exact q2 e z
        · rw [List.mem_singleton.mp z]; exact hc
      · rw [cnt_snoc]
        omega
      · by_cases z : c ∈ ocs
        · rw [if_pos z]
          have := hroom z
          show sh' + 1 ≤ 8
          omega
        · rw [if_neg z]
          exact q4
      · have e : (ln ++ [c]).map dSg = ln.map dSg ++ [dSg c] := by simp
        show LeG _ [_, _, _, _, _, _, _, _, _, _, Sd.mut ((ln ++ [c]).map dSg), _, _, _]
        rw [e]
        trivial
    · obtain ⟨ln, sh'⟩ := a'
      obtain ⟨q1, q2, q3, q4⟩ := ha'
      have q1 : ln.length = (List.range w'.toNat).length := q1
      have q3 : cntA ocs ms + cnt ocs ln = sh' := q3
      have hln : ln.length ≤ 8 := by
        rw [q1, List.length_range]
        omega
      refine xss_frz 10 (xss_one (xs_app (d := encT ln) 7 rfl (xn 10) (by rw [List.length_map]; omega) (nx_ex (ms ++ [ln], sh') ⟨by simp [p1], fun r hr => ?_, ?_, q4⟩ ?_)))
      · rcases List.mem_append.mp hr with z | z
        · exact p2 r z
        · rw [List.mem_singleton.mp z]; exact ⟨hln, q2⟩
      · rw [cntA_snoc]
        exact q3
      · have e : (ms ++ [ln]).map encT = ms.map encT ++ [encT ln] := by simp
        show LeG _ [_, _, _, _, _, _, _, Sd.mut ((ms ++ [ln]).map encT), _, _, _, _, _, _]
        rw [e]
        trivial
  · obtain ⟨ms, sh⟩ := a
    obtain ⟨p1, p2, p3, p4⟩ := ha
    have p1 : ms.length = (List.range h.toNat).length := p1
    have p3 : cntA ocs ms = sh := p3
    have p4 : sh ≤ 8 := p4
    refine xss_frz 7 (xss_one (xs_ret (XE.sub (S := exTy fun d => ∃ ms, d = encM ms ∧ MkOk ms) (xn 7) fun G v hv => ⟨_, ⟨ms, rfl, ⟨?_, p2, ?_⟩⟩, hv⟩) hrt))
    · rw [p1, List.length_range]
      omega
    · rw [p3]; exact p4
end
end SL
set_option maxRecDepth 100000
set_option maxHeartbeats 4000000
namespace SL
open PySem L2 Evl
local macro_rules | `(tactic| trivial) => `(tactic| (repeat (first | exact SL.LeG.nil | refine SL.LeG.cons (by first | exact SL.Le.rfl _ | exact SL.Le.any _) ?_)); done)
/-- a row as a text, or as a list of signs -/
def encRow (m : Bool) (r : List Nat) : PyData := if m = true then encT r else .str (rw_ r)
def encRows (m : Bool) (rs : List (List Nat)) : PyData := .list (rs.map (encRow m))
section
variable {W : Wd} {X : Cx} {Γ : List Sd} {e ei : Expr} {pos p : Pos} {m : Bool} {r : List Nat}
theorem xlenR (hg : Gl X "len") (hm : X.mg "len" = none) (h : XE W X e Γ (dat (encRow m r))) (hl : r.length ≤ 1000) (he : starEach [e] X.env = (false, eval e X.env) :: starEach [] X.env := by rfl) (hpl : (backTo pos (starEach [] X.env)).any (·.1) = false := by rfl) : XE W X (.Call (.Name "len" p) [e] [] pos) Γ (dI (r.length : Int)) := by
  cases m with
  | true => exact XE.eq (xcallB call_lenS hg hm PySem.boot_len (xa1 (h : XE W X e Γ (dL (r.map dSg))) he) cr_len (he := he) (hpl := hpl)) (by rw [List.length_map])
  | false => exact xcallB call_lenStr hg hm PySem.boot_len (xa1 (h : XE W X e Γ (dS (rw_ r))) he) (cr_lenStr hl) (he := he) (hpl := hpl)
theorem xixR {i : Int} {c : Nat} (h : XE W X e Γ (dat (encRow m r))) (hi : XE W X ei Γ (dI i)) (hc : atI r i = some c) (hl : r.length ≤ 1000) (hs : PlainIx ei := by exact fun _ _ => rfl) : XE W X (.Subscript e ei pos) Γ (dS (sg c)) := by
  cases m with
  | true =>
    refine xix ix_list (h : XE W X e Γ (dL (r.map dSg))) hi (rv_ixL ?_) hs
    unfold atI at hc ⊢
    rw [List.length_map]
    cases z : ixN r.length i with
    | none => rw [z] at hc; cases hc
    | some n =>
      rw [z] at hc
      have hc : r[n]? = some c := hc
      show (r.map dSg)[n]? = _
      rw [List.getElem?_map, hc]
      rfl
  | false => exact xix ix_str (h : XE W X e Γ (dS (rw_ r))) hi (rv_ixS hc hl) hs
end
theorem rowCells_range (p : Nat → Bool) (i : Nat) (row : List Nat) : rowCells p i row = ((List.range row.length).filter fun j => p (row.getD j 0)).map fun j : Nat => ((i : Int), (j : Int)) := by
  have e : row.zipIdx = (List.range row.length).map fun j => (row.getD j 0, j) := by
    apply List.ext_getElem?
    intro k
    rw [List.getElem?_zipIdx, List.getElem?_map]
    by_cases h : k < row.length
    · rw [List.getElem?_range h, List.getElem?_eq_getElem h]
      simp [List.getD_eq_getElem?_getD, List.getElem?_eq_getElem h]
    · rw [List.getElem?_eq_none (by omega), List.getElem?_eq_none (by rw [List.length_range]; omega)]
      rfl
  unfold rowCells
  rw [e, List.filter_map, List.map_map]
  rfl
theorem cellsOf_range (p : Nat → Bool) (rows : List (List Nat)) : cellsOf p rows = (List.range rows.length).flatMap fun i => rowCells p i (rows.getD i []) := by
  have e : rows.zipIdx = (List.range rows.length).map fun j => (rows.getD j [], j) := by
    apply List.ext_getElem?
    intro k
    rw [List.getElem?_zipIdx, List.getElem?_map]
    by_cases h : k < rows.length
    · rw [List.getElem?_range h, List.getElem?_eq_getElem h]
      simp [List.getD_eq_getElem?_getD, List.getElem?_eq_getElem h]
    · rw [List.getElem?_eq_none (by omega), List.getElem?_eq_none (by rw [List.length_range]; omega)]
      rfl
  unfold cellsOf
  rw [e, List.flatMap_map]
def preCells : List Ty → Ty → Prop := fun Rs R => ∃ (m : Bool) (rows : List (List Nat)) (signs : List Nat), Rs = [dat (encRows m rows), dL (signs.map dSg)] ∧ R = dL ((cellsOf (fun c => decide (c ∈ signs)) rows).map encC) ∧ Gd rows
abbrev nCe : List Str := ["_law_rows", "_law_signs", "_law_found", "_law_row", "_law_column"]
theorem gd_get {rows : List (List Nat)} (h : Gd rows) {x : Nat} (hx : x < rows.length) : (rows.getD x []).length ≤ 16 := by
  refine h.2 _ ?_
  rw [List.getD_eq_getElem?_getD, List.getElem?_eq_getElem hx]
  exact List.getElem_mem hx
theorem flat_pre_len {p : Nat → Bool} {rows : List (List Nat)} (h : Gd rows) {pre : List Nat} (hl : ∀ x ∈ pre, x < rows.length) : (pre.flatMap fun i => rowCells p i (rows.getD i [])).length ≤ pre.length * 16 :=
  flat_len fun x hx => Nat.le_trans (rowCells_len _ _ _) (gd_get h (hl x hx))
section
variable {P : Program} {w : World} {K : PySem.W.Frag} {mg : Str → Option Value} {base : Heap}
theorem scCe : FnScope nCe ["_law_rows", "_law_signs"] (defScope sCells) := ⟨rfl, rfl, rfl, by decide +kernel, rfl, by decide +kernel, by decide +kernel⟩
theorem def_cells (S : Src K mg "_law_cells" sCells ["_law_rows", "_law_signs"]) (B : Bn mg) : Def P w K mg base 1 "_law_cells" ["_law_rows", "_law_signs"] (spF W0 preCells) := by
  refine Def.of S scCe (fun Rs R h => by obtain ⟨a, b, c, rfl, _⟩ := h; rfl) fun f cdv A outer s H E hr Rs R hp F D hW hrt _ => ?_
  obtain ⟨m, rows, signs, rfl, rfl, hg⟩ := hp
  have nd := scCe.nd
  have h16 := hg.1
  obtain ⟨p, ep⟩ : ∃ p : Nat → Bool, p = fun c => decide (c ∈ signs) := ⟨_, rfl⟩
  refine xss_cons (xs_nil 2 nd (nx_of rfl)) ?_
  refine xss_cons (D := D) (Γ' := [sd (encRows m rows), sd (.list (signs.map dSg)), .mut (((List.range rows.length).flatMap fun i => rowCells p i (rows.getD i [])).map encC), .any, .any])
    (xs_forN 3 nd (xi_range1 rfl B.range (XE.eq (xcallB call_lenS rfl B.len PySem.boot_len (xa1 (xn 0)) cr_len) (by rw [List.length_map])) ⟨by omega, by omega⟩)
    (fun pre => [sd (encRows m rows), sd (.list (signs.map dSg)), .mut ((pre.flatMap fun i => rowCells p i (rows.getD i [])).map encC), .any, .any]) (fun pre x post he Sg hS => ?_) (nx_of rfl)) (xss_frz 2 (xss_one (xs_ret (XE.eq (d := .list (((List.range rows.length).flatMap fun i => rowCells p i (rows.getD i [])).map encC)) (xn 2) (by rw [cellsOf_range, ep])) hrt)))
  have he : List.range rows.length = pre ++ x :: post := by simpa using he
  have hlt : ∀ y ∈ pre, y < rows.length := fun y hy => List.mem_range.mp (by rw [he]; exact List.mem_append_left _ hy)
  have hx : x < rows.length := List.mem_range.mp (by rw [he]; simp)
  have hpl : pre.length ≤ 16 := by
    have := congrArg List.length he
    rw [List.length_range, List.length_append] at this
    omega
  have hfl := flat_pre_len (p := p) hg hlt
  obtain ⟨row, er⟩ : ∃ row, row = rows.getD x [] := ⟨_, rfl⟩
  have hrl : row.length ≤ 16 := by rw [er]; exact gd_get hg hx
  have xrow : ∀ {W : Wd} {X : Cx} {Γ : List Sd} {e1 e2 : Expr} {pos : Pos}, XE W X e1 Γ (dat (encRows m rows)) → XE W X e2 Γ (dI (x : Int)) → PlainIx e2 → XE W X (.Subscript e1 e2 pos) Γ (dat (encRow m row)) := fun h1 h2 h3 => xix ix_list h1 h2 (rv_ixL (by rw [er]; exact at_map hx)) h3
  refine xss_one (xs_forN 4 nd (xi_range1 rfl B.range (xlenR rfl B.len (xrow (xn 0) (xn 3) (fun _ _ => rfl)) (by omega)) ⟨by omega, by omega⟩)
    (fun pre' => [sd (encRows m rows), sd (.list (signs.map dSg)), .mut ((pre.flatMap fun i => rowCells p i (rows.getD i [])).map encC ++ ((pre'.filter fun j => p (row.getD j 0)).map fun j : Nat => encC ((x : Int), (j : Int)))), sd (.int (x : Int)), .any]) (fun pre' y post' he' Sg' hS' => ?_) ?_ (h0 := ?_))
  · have he' : List.range row.length = pre' ++ y :: post' := by simpa using he'
    have hy : y < row.length := List.mem_range.mp (by rw [he']; simp)
    have hpl' : pre'.length ≤ 16 := by
      have := congrArg List.length he'
      rw [List.length_range, List.length_append] at this
      omega
    refine xss_one (xs_if (b := p (row.getD y 0)) (XT.eq (xtcmp op_in_seq (xixR (r := row) (c := row.getD y 0) (xrow (xn 0) (xn 3) (fun _ _ => rfl)) (xn 4) (atI_of rfl (by rw [List.getD_eq_getElem?_getD, List.getElem?_eq_getElem hy]; rfl)) (by omega)) (xn 1) rv_inLS rfl) (by rw [ep])) (fun h => xss_one (xs_app (d := encC ((x : Int), (y : Int))) 2 rfl (xtup (ds := [.int (x : Int), .int (y : Int)]) (xacons (xn 3) (xa1 (xn 4))) (by simp)) ?_ ?_)) (fun h => xss_nil ?_))
    · have hB := List.length_filter_le (fun j => p (row.getD j 0)) pre'
      rw [List.length_append, List.length_map, List.length_map]
      omega
    · rw [filter_map_snoc, if_pos h, ← List.append_assoc]
      exact nx_le (by trivial)
    · rw [filter_map_snoc, if_neg (by rw [h]; exact Bool.false_ne_true)]
      exact nx_le (by trivial)
  · have e : ((pre ++ [x]).flatMap fun i => rowCells p i (rows.getD i [])).map encC = (pre.flatMap fun i => rowCells p i (rows.getD i [])).map encC ++ (((List.range row.length).filter fun j => p (row.getD j 0)).map fun j : Nat => encC ((x : Int), (j : Int))) := by
      rw [List.flatMap_append, List.map_append, List.flatMap_cons, List.flatMap_nil, List.append_nil, rowCells_range, List.map_map, er]
      rfl
    rw [e]
    exact nx_le (by trivial)
  · simp only [List.filter_nil, List.map_nil, List.append_nil]
    trivial
/-! ### near -/
def nearC (a b : Cell) : Bool := !decide (a = b) && (decide ((if a.1 - b.1 < 0 then -(a.1 - b.1) else a.1 - b.1) < 2) && decide ((if a.2 - b.2 < 0 then -(a.2 - b.2) else a.2 - b.2) < 2))
def preNear : List Ty → Ty → Prop := fun Rs R => ∃ (a b : Cell), Rs = [dat (encC a), dat (encC b)] ∧ R = dB (nearC a b)
theorem scNe : FnScope ["_law_one", "_law_other"] ["_law_one", "_law_other"] (defScope sNear) := ⟨rfl, rfl, rfl, by decide +kernel, rfl, by decide +kernel, by decide +kernel⟩
theorem def_nearL (S : Src K mg "_law_near" sNear ["_law_one", "_law_other"]) (B : Bn mg) : Def P w K mg base 1 "_law_near" ["_law_one", "_law_other"] (spF W0 preNear) := by
  refine Def.of S scNe (fun Rs R h => by obtain ⟨a, b, rfl, _⟩ := h; rfl) fun f cdv A outer s H E hr Rs R hp F D hW hrt _ => ?_
  obtain ⟨a, b, rfl, rfl⟩ := hp
  refine xss_one (xs_ret (XE.eq (xand (xcmp (op_neD hr.units) (xn 0) (xn 1) (rv_neD (shaped_C a) (shaped_C b)) rfl) fun _ => xand (xcmp op_lt (xcallB call_absI rfl B.abs (by decide +kernel) (xa1 (xop op_sub (xix ix_tup (xn 0) xint (rv_ixT (d := .int a.1) rfl) (fun _ _ => rfl)) (xix ix_tup (xn 1) xint (rv_ixT (d := .int b.1) rfl) (fun _ _ => rfl)) rv_int)) cr_abs) xint rv_bl (nomark _)) fun _ =>
    xone (xcmp op_lt (xcallB call_absI rfl B.abs (by decide +kernel) (xa1 (xop op_sub (xix ix_tup (xn 0) xint (rv_ixT (d := .int a.2) rfl) (fun _ _ => rfl)) (xix ix_tup (xn 1) xint (rv_ixT (d := .int b.2) rfl) (fun _ _ => rfl)) rv_int)) cr_abs) xint rv_bl (nomark _))) ?_) hrt)
  rw [eqv_C]
  rfl
end
end SL
set_option maxRecDepth 100000
set_option maxHeartbeats 4000000
namespace SL
open PySem L2 Evl
local macro_rules | `(tactic| trivial) => `(tactic| (repeat (first | exact SL.LeG.nil | refine SL.LeG.cons (by first | exact SL.Le.rfl _ | exact SL.Le.any _) ?_)); done)
def oks : List Nat := [35, 63, 48, 49, 50, 51, 52, 53, 54, 55, 56]
structure BdW (rows : List (List Nat)) : Prop where
  l : rows.length ≤ 8
  r : ∀ r ∈ rows, r.length ≤ 8 ∧ ∀ c ∈ r, c ∈ oks
  n : cntA qm rows ≤ 8
theorem BdW.gd {rows : List (List Nat)} (h : BdW rows) : Gd rows := ⟨by have := h.l; omega, fun r hr => by have := (h.r r hr).1; omega⟩
def bdTy : Ty := exTy fun d => ∃ rows n, d = bdD rows n ∧ BdW rows
def preBoard : List Ty → Ty → Prop := fun Rs R => ∃ ms, Rs = [dat (encM ms)] ∧ R = bdTy ∧ MkOk ms
theorem cells_cnt (p : List Nat) (rows : List (List Nat)) : (cellsOf (fun c => decide (c ∈ p)) rows).length = cntA p rows := by
  unfold cellsOf
  have h : ∀ (l : List (List Nat)) (k : Nat), ((l.zipIdx k).flatMap fun z => rowCells (fun c => decide (c ∈ p)) z.2 z.1).length = cntA p l := by
    intro l
    induction l with
    | nil => intro k; rfl
    | cons r l ih =>
      intro k
      rw [List.zipIdx_cons, List.flatMap_cons, List.length_append, ih]
      unfold cntA
      rw [List.map_cons, sumN_cons]
      have e : (rowCells (fun c => decide (c ∈ p)) k r).length = cnt p r := by
        unfold rowCells cnt
        rw [List.length_map]
        have h2 : ∀ (r : List Nat) (j : Nat), ((r.zipIdx j).filter fun z => decide (z.1 ∈ p)).length = (r.filter fun c => decide (c ∈ p)).length := by
          intro r
          induction r with
          | nil => intro j; rfl
          | cons c r ih =>
            intro j
            rw [List.zipIdx_cons, List.filter_cons, List.filter_cons]
            by_cases h : c ∈ p
            · rw [if_pos (by simpa using h), if_pos (by simpa using h), List.length_cons, List.length_cons, ih]
            · rw [if_neg (by simpa using h), if_neg (by simpa using h), ih]
        exact h2 r 0
      rw [e]
  exact h rows 0
theorem cnt_mono {p q : List Nat} (h : ∀ c ∈ p, c ∈ q) (r : List Nat) : cnt p r ≤ cnt q r := by
  induction r with
  | nil => exact Nat.le_refl _
  | cons c r ih =>
    unfold cnt at ih ⊢
    rw [List.filter_cons, List.filter_cons]
    by_cases h1 : c ∈ p
    · rw [if_pos (by simpa using h1), if_pos (by simpa using h c h1), List.length_cons, List.length_cons]
      omega
    · rw [if_neg (by simpa using h1)]
      split
      · rw [List.length_cons]; omega
      · exact ih
theorem cntA_mono {p q : List Nat} (h : ∀ c ∈ p, c ∈ q) (rows : List (List Nat)) : cntA p rows ≤ cntA q rows := by
  unfold cntA
  exact sumN_map_le fun r _ => cnt_mono h r
/-- {'o': '?', 'c': '?'}.get(e, e) -/
def swapC (c : Nat) : Nat := if c ∈ ocs then 63 else c
theorem sg_inj {a b : Nat} (h : sg a = sg b) : a = b := by
  have : decide (sg a = sg b) = decide (a = b) := sg_eq
  by_cases e : a = b
  · exact e
  · rw [decide_eq_true h, decide_eq_false e] at this
    cases this
section
variable {W : Wd} {X : Cx} {Γ : List Sd} {e e2 : Expr}
theorem xswap {c : Nat} {p1 p2 p3 p4 dp ap cp : Pos} {j1 j2 j3 j4} (hu : X.A.units + 1 < cLine) (h : XE W X e Γ (dS (sg c))) (h' : XE W X e2 Γ (dS (sg c))) (m : M2 X (.Dict [some (.Constant (.str (sg 111)) j1 p1), some (.Constant (.str (sg 99)) j2 p2)] [.Constant (.str (sg 63)) j3 p3, .Constant (.str (sg 63)) j4 p4] dp) "get" ap e e2 cp) :
    XE W X (.Call (.Attribute (.Dict [some (.Constant (.str (sg 111)) j1 p1), some (.Constant (.str (sg 99)) j2 p2)] [.Constant (.str (sg 63)) j3 p3, .Constant (.str (sg 63)) j4 p4] dp) "get" ap) [e, e2] [] cp) Γ (dS (sg (swapC c))) := by
  obtain ⟨t, a1, a2⟩ := h
  obtain ⟨t', b1, b2⟩ := h'
  refine ⟨_, pe_dget2 hu (pe_disp (pps_cons pe_str pe_str (pps_cons pe_str pe_str pps_nil)) rfl rfl (by simp) (by simp)) a1 b1 m, fun H0 σ G H o s Q q => ?_⟩
  intro p hp
  refine ⟨upd_same, [(Sum.inr (sg 111), .str (sg 63)), (Sum.inr (sg 99), .str (sg 63))], rfl, by simp, p, rfl, .inl ⟨_, .inl upd_same⟩, ?_⟩
  have o1 : Ok W G (upd (upd H p (.dK [])) p (.dK (mergeK [] [(Sum.inr (sg 111), .str (sg 63)), (Sum.inr (sg 99), .str (sg 63))]))) := (o.allocM hp).write (none_of_ex o.ex hp) (fun z => W.on o.inv z hp)
  have r1 : Rn W G H G (upd (upd H p (.dK [])) p (.dK (mergeK [] [(Sum.inr (sg 111), .str (sg 63)), (Sum.inr (sg 99), .str (sg 63))]))) := (Rn.allocM hp).write hp
  have nh : ¬ W.hid p := fun z => W.on o.inv z hp
  refine a2 H0 σ G _ o1 (s.run r1) _ fun v G2 H2 r2 o2 m2 => b2 H0 σ G2 H2 o2 ((s.run r1).run r2) _ fun v3 G3 H3 r3 o3 m3 => ?_
  cases Dq.str_inv m2
  cases Dq.str_inv m3
  have hd : H3 p = some (.dK (mergeK [] [(Sum.inr (sg 111), .str (sg 63)), (Sum.inr (sg 99), .str (sg 63))])) := r3.hh _ _ nh (r2.hh _ _ nh upd_same)
  refine ⟨_, DGet.k (k := Sum.inr (sg c)) hd, ?_⟩
  have e1 : (valV (mergeK [] [((Sum.inr (sg 111) : Key), V.str (sg 63)), (Sum.inr (sg 99), .str (sg 63))]) (Sum.inr (sg c))).getD (V.str (sg c)) = V.str (sg (swapC c)) := by
    unfold mergeK
    rw [List.foldl_cons, List.foldl_cons, List.foldl_nil, valV_put, valV_put]
    unfold swapC
    by_cases h1 : c = 99
    · subst h1
      rfl
    · rw [if_neg (fun z => h1 (sg_inj (Sum.inr.inj z)))]
      by_cases h2 : c = 111
      · subst h2
        rfl
      · rw [if_neg (fun z => h2 (sg_inj (Sum.inr.inj z))), if_neg (by simp [ocs, h1, h2])]
        rfl
  rw [e1]
  exact q _ G3 H3 ((r1.trans r2).trans r3) o3 (Dq.str _)
theorem xswap' {c : Nat} {k1 k2 v1 v2 : Str} {p1 p2 p3 p4 dp ap cp : Pos} {j1 j2 j3 j4} (hu : X.A.units + 1 < cLine) (h : XE W X e Γ (dS (sg c))) (h' : XE W X e2 Γ (dS (sg c))) (m : M2 X (.Dict [some (.Constant (.str k1) j1 p1), some (.Constant (.str k2) j2 p2)] [.Constant (.str v1) j3 p3, .Constant (.str v2) j4 p4] dp) "get" ap e e2 cp) (h1 : k1 = sg 111) (h2 : k2 = sg 99) (h3 : v1 = sg 63) (h4 : v2 = sg 63) :
    XE W X (.Call (.Attribute (.Dict [some (.Constant (.str k1) j1 p1), some (.Constant (.str k2) j2 p2)] [.Constant (.str v1) j3 p3, .Constant (.str v2) j4 p4] dp) "get" ap) [e, e2] [] cp) Γ (dS (sg (swapC c))) := by
  subst h1 h2 h3 h4
  exact xswap hu h h' m
/-- str(k) of a small number -/
def rStr1 : List V → Hp → VK → Prop := fun xs H Q => ∃ i, xs = [.int i] ∧ i.natAbs.log2 < 1920 ∧ Q (.str (toString i)) H
theorem call_str1 : CallR X (.type "str") rStr1 := call_str_int
theorem str_fig : ∀ {k : Nat}, k ≤ 8 → (toString ((k : Nat) : Int) : Str) = sg (48 + k) := by
  intro k h
  have : k = 0 ∨ k = 1 ∨ k = 2 ∨ k = 3 ∨ k = 4 ∨ k = 5 ∨ k = 6 ∨ k = 7 ∨ k = 8 := by omega
  rcases this with rfl | rfl | rfl | rfl | rfl | rfl | rfl | rfl | rfl <;> decide +kernel
theorem log_fig : ∀ {k : Nat}, k ≤ 8 → ((k : Nat) : Int).natAbs.log2 < 1920 := by
  intro k h
  have : k = 0 ∨ k = 1 ∨ k = 2 ∨ k = 3 ∨ k = 4 ∨ k = 5 ∨ k = 6 ∨ k = 7 ∨ k = 8 := by omega
  rcases this with rfl | rfl | rfl | rfl | rfl | rfl | rfl | rfl | rfl <;> decide +kernel
theorem cr_str1 {k : Nat} (h : k ≤ 8) : CRv W rStr1 [dI ((k : Nat) : Int)] (dS (sg (48 + k))) := fun vs G H o m Q q => by
  match vs, m with
  | [v], ⟨m, _⟩ =>
    cases Dq.int_inv m
    refine ⟨_, rfl, log_fig h, ?_⟩
    rw [show (Str.ofString (toString ((k : Nat) : Int)) : Str) = sg (48 + k) from str_fig h]
    exact q _ G H Rn.refl o (Dq.str _)
end
abbrev nBo : List Str := ["_law_marks", "_law_stones", "_law_rows", "_law_row", "_law_text", "_law_column", "_law_sign", "_law_one"]
section
variable {P : Program} {w : World} {K : PySem.W.Frag} {mg : Str → Option Value} {base : Heap}
theorem scBo : FnScope nBo ["_law_marks"] (defScope sBoard) := ⟨rfl, rfl, rfl, by decide +kernel, rfl, by decide +kernel, by decide +kernel⟩
theorem cnt_take {p r : List Nat} {k : Nat} (h : k < r.length) : cnt p (r.take (k + 1)) = cnt p (r.take k) + if r.getD k 0 ∈ p then 1 else 0 := by
  have e : r.take (k + 1) = r.take k ++ [r.getD k 0] := by
    rw [List.getD_eq_getElem?_getD, List.getElem?_eq_getElem h]
    exact (split_at (List.getElem?_eq_getElem h)).2
  rw [e, cnt_snoc]
theorem def_board (S : Src K mg "_law_board" sBoard ["_law_marks"]) (B : Bn mg) (A1 : Def P w K mg base 1 "_law_cells" ["_law_rows", "_law_signs"] (spF W0 preCells)) (A2 : Def P w K mg base 1 "_law_near" ["_law_one", "_law_other"] (spF W0 preNear)) : Def P w K mg base 2 "_law_board" ["_law_marks"] (spF W0 preBoard) := by
  refine Def.of S scBo (fun Rs R h => by obtain ⟨a, rfl, _⟩ := h; rfl) fun f cdv A outer s H E hr Rs R hp F D hW hrt _ => ?_
  obtain ⟨ms, rfl, rfl, hm⟩ := hp
  have nd := scBo.nd
  have hg : Gd ms := ⟨by have := hm.l; omega, fun r hr => by have := (hm.r r hr).1; omega⟩
  have hl8 := hm.l
  obtain ⟨st, est⟩ : ∃ st, st = cellsOf (fun c => decide (c ∈ [111])) ms := ⟨_, rfl⟩
  have hst : st.length ≤ 8 := by
    rw [est, cells_cnt]
    exact Nat.le_trans (cntA_mono (q := ocs) (by simp [ocs]) ms) hm.n
  refine xss_cons (xs_set (R := dL (st.map encC)) 1 nd (XE.eq (xcall0 A1 hr rfl (xacons (xn 0) (xa1 (xlst (ds := [dSg 111]) (xa1 xstr) (by simp)))) ⟨true, ms, [111], rfl, rfl, hg⟩) (by rw [est])) (nx_of rfl)) ?_
  refine xss_cons (xs_nil 2 nd (nx_of rfl)) ?_
  refine xss_forE 3 nd (xi_range1 rfl B.range (XE.eq (xcallB call_lenS rfl B.len PySem.boot_len (xa1 (xn 0)) cr_len) (d' := .int (ms.length : Nat)) (by rw [List.length_map])) ⟨by omega, by omega⟩) (fun pre (a : List (List Nat)) => a.length = pre.length ∧ (∀ r ∈ a, r.length ≤ 8 ∧ ∀ c ∈ r, c ∈ oks) ∧ cntA qm a = cntA ocs (ms.take pre.length))
    (fun pre a => [sd (encM ms), sd (.list (st.map encC)), .mut (a.map fun r => .str (rw_ r)), .any, .any, .any, .any, .any]) [] ⟨rfl, by simp, rfl⟩ (by trivial) (fun pre x post a he hpre Sg hS nn => ?_) (fun a ha => ?_)
  · obtain ⟨p1, p2, p3⟩ := hpre
    have he : List.range ms.length = pre ++ x :: post := by simpa using he
    have hx : x < ms.length := List.mem_range.mp (by rw [he]; simp)
    have hxp : x = pre.length := by
      have h1 : (List.range ms.length)[pre.length]? = some x := by rw [he]; simp
      have := (rng_get h1).1
      exact this
    have hpl : pre.length ≤ 8 := by omega
    obtain ⟨row, er⟩ : ∃ row, row = ms.getD x [] := ⟨_, rfl⟩
    have hrow : row ∈ ms := by
      rw [er, List.getD_eq_getElem?_getD, List.getElem?_eq_getElem hx]
      exact List.getElem_mem hx
    have hrl : row.length ≤ 8 := (hm.r row hrow).1
    have xrow : ∀ {W : Wd} {X : Cx} {Γ : List Sd} {e1 e2 : Expr} {pos : Pos}, XE W X e1 Γ (dat (encM ms)) → XE W X e2 Γ (dI (x : Int)) → PlainIx e2 → XE W X (.Subscript e1 e2 pos) Γ (dL (row.map dSg)) := fun h1 h2 h3 => xix ix_list h1 h2 (rv_ixL (by rw [er]; exact at_map hx)) h3
    refine xss_cons (xs_set (R := dS (rw_ [])) 4 nd xstr (nx_of rfl)) ?_
    refine xss_forE 5 nd (xi_range1 rfl B.range (XE.eq (xcallB call_lenS rfl B.len PySem.boot_len (xa1 (xrow (xn 0) (xn 3) (fun _ _ => rfl))) cr_len) (d' := .int (row.length : Nat)) (by rw [List.length_map])) ⟨by omega, by omega⟩) (fun pre' (t : List Nat) => t.length = pre'.length ∧ (∀ c ∈ t, c ∈ oks) ∧ cnt qm t = cnt ocs (row.take pre'.length))
      (fun pre' t => [sd (encM ms), sd (.list (st.map encC)), .mut (a.map fun r => .str (rw_ r)), sd (.int (x : Int)), .ty (dS (rw_ t)), .any, .any, .any]) [] ⟨rfl, by simp, rfl⟩ (by trivial) (fun pre' y post' t he' hpre' Sg' hS' nn' => ?_) (fun t ht => ?_)
    · obtain ⟨q1, q2, q3⟩ := hpre'
      have he' : List.range row.length = pre' ++ y :: post' := by simpa using he'
      have hy : y < row.length := List.mem_range.mp (by rw [he']; simp)
      have hyp : y = pre'.length := by
        have h1 : (List.range row.length)[pre'.length]? = some y := by rw [he']; simp
        exact (rng_get h1).1
      obtain ⟨c, ec⟩ : ∃ c, c = row.getD y 0 := ⟨_, rfl⟩
      have hcm : c ∈ [35, 111, 99, 46] := (hm.r row hrow).2 c (by
        rw [ec, List.getD_eq_getElem?_getD, List.getElem?_eq_getElem hy]
        exact List.getElem_mem hy)
      obtain ⟨k, ek⟩ : ∃ k, k = (st.filter fun o => nearC o ((x : Int), (y : Int))).length := ⟨_, rfl⟩
      have hk8 : k ≤ 8 := by
        have := List.length_filter_le (fun o => nearC o ((x : Int), (y : Int))) st
        omega
      refine xss_cons (xs_set (R := dS (sg c)) 6 nd (xix ix_list (xrow (xn 0) (xn 3) (fun _ _ => rfl)) (xn 5) (rv_ixL (by rw [ec]; exact at_map hy)) (fun _ _ => rfl)) (nx_of rfl)) ?_
      refine xss_cons (Γ' := [sd (encM ms), sd (.list (st.map encC)), .mut (a.map fun r => .str (rw_ r)), sd (.int (x : Int)), .ty (dS (rw_ t)), sd (.int (y : Int)), .ty (dS (sg (if c = 46 then 48 + k else c))), .any])
        (xs_if (b := decide (c = 46)) (XT.eq (xtcmp op_eq (xn 6) (xstr (x := sg 46)) rv_eqS (nomark _)) sg_eq) (fun h => ?_) (fun h => xss_nil ?_)) ?_
      · rw [if_pos (of_decide_eq_true h)]
        refine xss_one (xs_set 6 nd (xcallTy call_str1 rfl B.str (by decide +kernel) (xa1 (XE.eq (xcallB call_lenS rfl B.len PySem.boot_len (xa1 (xlcN 7 [("_law_one", 7)] (r := (st.filter fun o => nearC o ((x : Int), (y : Int))).map encC) nd (xi_list (xs := st) (enc := encC) (xn 1)) (blkOk_by (N := nBo) (sc := defScope sBoard) (by decide +kernel)) (fun o => nearC o ((x : Int), (y : Int))) encC
          (fun z hz => .one fun s H C'' cl fp => xtval (xcall0 A2 hr rfl (xacons (xn 7) (xa1 (xtup (ds := [.int (x : Int), .int (y : Int)]) (xacons (xn 3) (xa1 (xn 5))) (by simp)))) ⟨z, ((x : Int), (y : Int)), rfl, rfl⟩)) (fun z hz _ s H C'' cl fp => xn 7) (by omega))) cr_len) (d' := .int ((k : Nat) : Int)) (by rw [List.length_map, ek]))) (cr_str1 hk8)) (nx_le (by trivial)))
      · rw [if_neg (of_decide_eq_false h)]
        exact nx_le (by trivial)
      · obtain ⟨c2, ec2⟩ : ∃ c2, c2 = (if c = 46 then 48 + k else c) := ⟨_, rfl⟩
        rw [← ec2]
        have hc2 : swapC c2 ∈ oks ∧ (swapC c2 ∈ qm ↔ c ∈ ocs) := by
          have hk : k = 0 ∨ k = 1 ∨ k = 2 ∨ k = 3 ∨ k = 4 ∨ k = 5 ∨ k = 6 ∨ k = 7 ∨ k = 8 := by omega
          simp only [List.mem_cons, List.not_mem_nil, or_false] at hcm
          rw [ec2]
          rcases hcm with rfl | rfl | rfl | rfl
          · rw [if_neg (by decide)]; decide
          · rw [if_neg (by decide)]; decide
          · rw [if_neg (by decide)]; decide
          · rw [if_pos rfl]
            rcases hk with rfl | rfl | rfl | rfl | rfl | rfl | rfl | rfl | rfl <;> decide
        refine xss_one (xs_set (R := dS (rw_ (t ++ [swapC c2]))) 4 nd (xop op_addS (xn 4) (XE.eq (d := .str (sg (swapC c2))) (d' := .str (rw_ [swapC c2])) (xswap' (c := c2) (Nat.lt_of_le_of_lt (Nat.add_le_add_left (by decide : 1 ≤ 64) _) hr.units) (xn 6) (xn 6) ⟨rfl, rfl, rfl, rfl⟩ rfl rfl rfl rfl) rfl) (rv_addS (a := t) (b := [swapC c2]) (by simp; omega))) (nx_ex (t ++ [swapC c2]) ⟨by simp [q1], fun e hee => ?_, ?_⟩ (by trivial)))
        · rcases List.mem_append.mp hee with z | z
          · exact q2 e z
          · rw [List.mem_singleton.mp z]; exact hc2.1
        · rw [cnt_snoc, List.length_append, List.length_singleton, cnt_take (by omega), q3, ← hyp, ← ec]
          by_cases z : c ∈ ocs
          · rw [if_pos (hc2.2.mpr z), if_pos z]
          · rw [if_neg (fun y => z (hc2.2.mp y)), if_neg z]
    · obtain ⟨q1, q2, q3⟩ := ht
      rw [List.length_range] at q1 q3
      refine xss_one (xs_app (d := .str (rw_ t)) 2 rfl (xn 4) (by rw [List.length_map]; omega) (nx_ex (a ++ [t]) ⟨by simp [p1], fun r hr => ?_, ?_⟩ ?_))
      · rcases List.mem_append.mp hr with z | z
        · exact p2 r z
        · rw [List.mem_singleton.mp z]; exact ⟨by omega, q2⟩
      · have e : ms.take (pre ++ [x]).length = ms.take pre.length ++ [row] := by
          rw [List.length_append, List.length_singleton, er, ← hxp, List.getD_eq_getElem?_getD, List.getElem?_eq_getElem hx]
          exact (split_at (List.getElem?_eq_getElem hx)).2
        have q3 : cnt qm t = cnt ocs row := by rw [q3]; congr 1; exact List.take_of_length_le (by simp)
        rw [cntA_snoc, e, cntA_snoc, p3, q3]
      · have e : (a ++ [t]).map (fun r => PyData.str (rw_ r)) = a.map (fun r => PyData.str (rw_ r)) ++ [.str (rw_ t)] := by simp
        show LeG _ [_, _, Sd.mut ((a ++ [t]).map fun r => .str (rw_ r)), _, _, _, _, _]
        rw [e]
        trivial
  · obtain ⟨p1, p2, p3⟩ := ha
    have p1 : a.length = (List.range ms.length).length := by simpa using p1
    rw [List.length_range] at p1
    refine xss_frz 2 (xss_one (xs_ret (XE.sub (S := bdTy) (xtup (ds := [encR a, .int (st.length : Nat)]) (xacons (xn 2) (xa1 (XE.eq (xcallB call_lenS rfl B.len PySem.boot_len (xa1 (xn 1)) cr_len) (by rw [List.length_map])))) (by simp)) fun G v hv => ⟨_, ⟨a, _, rfl, ⟨by omega, p2, ?_⟩⟩, hv⟩) hrt))
    rw [p3]
    have : ms.take (List.range ((ms.length : Nat) : Int).toNat).length = ms := List.take_of_length_le (by simp)
    rw [this]
    exact hm.n
end
end SL
set_option maxRecDepth 100000
set_option maxHeartbeats 4000000
namespace SL
open PySem L2 Evl
local macro_rules | `(tactic| trivial) => `(tactic| (repeat (first | exact SL.LeG.nil | refine SL.LeG.cons (by first | exact SL.Le.rfl _ | exact SL.Le.any _) ?_)); done)
section
variable {W : Wd} {X : Cx} {Γ : List Sd} {e lo hi : Expr} {pos p2 : Pos} {cs : List Nat}
theorem xdropS {k : Nat} (h : XE W X e Γ (dS (rw_ cs))) (hl : cs.length ≤ 1000) (hk : XE W X lo Γ (dI (k : Int))) (hkl : k ≤ cs.length) : XE W X (.Subscript e (.Slice (some lo) none none p2) pos) Γ (dS (rw_ (cs.drop k))) := by
  obtain ⟨t, a1, a2⟩ := h
  obtain ⟨u, b1, b2⟩ := hk
  have hz : (rw_ cs).length = cs.length := by show cs.toArray.size = _; rw [List.size_toArray]
  refine ⟨_, pe_slice sl_str a1 (po_some b1) po_none, fun H0 σ G H o s Q q => a2 H0 σ G H o s _ fun v G1 H1 r1 o1 m1 => b2 H0 σ G1 H1 o1 (s.run r1) _ fun v2 G2 H2 r2 o2 m2 => ?_⟩
  cases Dq.int_inv m2
  cases Dq.str_inv m1
  refine ⟨(k : Int), rfl, _, rfl, by rw [hz]; exact sz_of (by omega), ?_⟩
  have e1 : cutS (rw_ cs) (some (k : Int)) none = rw_ (cs.drop k) := by
    unfold cutS
    rw [hz, HT.sIx_nat, HT.sIx_none, Nat.min_eq_left hkl]
    show (⟨((cs.drop k).take (cs.length - k)).toArray⟩ : Str) = _
    rw [List.take_of_length_le (by rw [List.length_drop]; omega)]
  rw [e1]
  exact q _ G2 H2 (r1.trans r2) o2 (Dq.str _)
theorem xtakeS {k : Nat} (h : XE W X e Γ (dS (rw_ cs))) (hl : cs.length ≤ 1000) (hk : XE W X hi Γ (dI (k : Int))) (hkl : k ≤ cs.length) : XE W X (.Subscript e (.Slice none (some hi) none p2) pos) Γ (dS (rw_ (cs.take k))) := by
  obtain ⟨t, a1, a2⟩ := h
  obtain ⟨u, b1, b2⟩ := hk
  have hz : (rw_ cs).length = cs.length := by show cs.toArray.size = _; rw [List.size_toArray]
  refine ⟨_, pe_slice sl_str a1 po_none (po_some b1), fun H0 σ G H o s Q q => a2 H0 σ G H o s _ fun v G1 H1 r1 o1 m1 => b2 H0 σ G1 H1 o1 (s.run r1) _ fun v2 G2 H2 r2 o2 m2 => ?_⟩
  cases Dq.int_inv m2
  cases Dq.str_inv m1
  refine ⟨(k : Int), rfl, _, rfl, by rw [hz]; exact sz_of (by omega), ?_⟩
  have e1 : cutS (rw_ cs) none (some (k : Int)) = rw_ (cs.take k) := by
    unfold cutS
    rw [hz, HT.sIx_nat, HT.sIx_none, Nat.min_eq_left hkl]
    show (⟨((cs.drop 0).take (k - 0)).toArray⟩ : Str) = _
    rw [List.drop_zero, Nat.sub_zero]
  rw [e1]
  exact q _ G2 H2 (r1.trans r2) o2 (Dq.str _)
end
theorem eqv_nilC (cs : List Cell) : PyData.eqv (.list (cs.map encC)) (.list []) = decide (cs = []) := by
  cases cs with
  | nil => simp [PyData.eqv, PyData.eqvAll]
  | cons c r => simp [PyData.eqv, PyData.eqvAll]
theorem eqv_nilL (L : List (List Cell)) : PyData.eqv (.list (L.map encL)) (.list []) = decide (L = []) := by
  cases L with
  | nil => simp [PyData.eqv, PyData.eqvAll]
  | cons c r => simp [PyData.eqv, PyData.eqvAll]
theorem shaped_nil : SeqAt.shaped (.list []) = true := by decide +kernel
theorem cnt_append (p a b : List Nat) : cnt p (a ++ b) = cnt p a + cnt p b := by
  unfold cnt
  rw [List.filter_append, List.length_append]
theorem cntA_append (p : List Nat) (a b : List (List Nat)) : cntA p (a ++ b) = cntA p a + cntA p b := by
  unfold cntA
  rw [List.map_append, sumN_append]
theorem cntA_cons (p : List Nat) (r : List Nat) (b : List (List Nat)) : cntA p (r :: b) = cnt p r + cntA p b := by
  unfold cntA
  rw [List.map_cons, sumN_cons]
theorem cnt_cons (p : List Nat) (c : Nat) (b : List Nat) : cnt p (c :: b) = (if c ∈ p then 1 else 0) + cnt p b := by
  have := cnt_append p [c] b
  rw [List.singleton_append] at this
  rw [this]
  congr 1
  have := cnt_snoc p [] c
  simpa [cnt] using this
theorem bdW_bent {rows : List (List Nat)} {i j c k : Nat} {r : List Nat} (h : BdW rows) (h1 : rows[i]? = some r) (h2 : r[j]? = some c) (hc : c ∈ figs) (hk : k ≤ 8) : BdW (rows.take i ++ [r.take j ++ [48 + k] ++ r.drop (j + 1)] ++ rows.drop (i + 1)) := by
  obtain ⟨e1, _⟩ := split_at h1
  obtain ⟨e2, _⟩ := split_at h2
  have hi := (List.getElem?_eq_some_iff.mp h1).1
  have hj := (List.getElem?_eq_some_iff.mp h2).1
  have hr : r ∈ rows := List.mem_of_getElem? h1
  have hnew : 48 + k ∈ oks ∧ 48 + k ∉ qm := by
    have : k = 0 ∨ k = 1 ∨ k = 2 ∨ k = 3 ∨ k = 4 ∨ k = 5 ∨ k = 6 ∨ k = 7 ∨ k = 8 := by omega
    rcases this with rfl | rfl | rfl | rfl | rfl | rfl | rfl | rfl | rfl <;> decide
  have hcq : c ∉ qm := by
    simp only [List.mem_cons, List.not_mem_nil, or_false] at hc
    rcases hc with rfl | rfl | rfl | rfl | rfl | rfl | rfl | rfl | rfl <;> decide
  refine ⟨?_, fun x hx => ?_, ?_⟩
  · have := h.l
    simp
    omega
  · rcases List.mem_append.mp hx with hx | hx
    · rcases List.mem_append.mp hx with hx | hx
      · exact h.r x (List.mem_of_mem_take hx)
      · rw [List.mem_singleton.mp hx]
        have h8 := (h.r r hr).1
        refine ⟨by simp; omega, fun y hy => ?_⟩
        rcases List.mem_append.mp hy with hy | hy
        · rcases List.mem_append.mp hy with hy | hy
          · exact (h.r r hr).2 y (List.mem_of_mem_take hy)
          · rw [List.mem_singleton.mp hy]; exact hnew.1
        · exact (h.r r hr).2 y (List.mem_of_mem_drop hy)
    · exact h.r x (List.mem_of_mem_drop hx)
  · have h3 := h.n
    rw [e1, cntA_append, cntA_cons, e2, cnt_append, cnt_cons, if_neg hcq] at h3
    rw [cntA_append, cntA_snoc, cnt_append, cnt_snoc, if_neg hnew.2]
    omega
def preBent : List Ty → Ty → Prop := fun Rs R => ∃ rows n cell, Rs = [dat (bdD rows n), dI cell] ∧ R = bdTy ∧ BdW rows
abbrev nBn : List Str := ["_law_board_here", "_law_cell", "_law_rows", "_law_stones", "_law_opens", "_law_row", "_law_column", "_law_number", "_law_text"]
section
variable {P : Program} {w : World} {K : PySem.W.Frag} {mg : Str → Option Value} {base : Heap}
theorem scBn : FnScope nBn ["_law_board_here", "_law_cell"] (defScope sBent) := ⟨rfl, rfl, rfl, by decide +kernel, rfl, by decide +kernel, by decide +kernel⟩
theorem def_bent (S : Src K mg "_law_bent" sBent ["_law_board_here", "_law_cell"]) (B : Bn mg) (A1 : Def P w K mg base 1 "_law_cells" ["_law_rows", "_law_signs"] (spF W0 preCells)) : Def P w K mg base 2 "_law_bent" ["_law_board_here", "_law_cell"] (spF W0 preBent) := by
  refine Def.of S scBn (fun Rs R h => by obtain ⟨a, b, c, rfl, _⟩ := h; rfl) fun f cdv A outer s H E hr Rs R hp F D hW hrt _ => ?_
  obtain ⟨rows, n, cell, rfl, rfl, hb⟩ := hp
  have nd := scBn.nd
  have hg := hb.gd
  have step : atI [PyData.int (-1), PyData.int 1] (cell / 4 % 2) = some (.int (if cell / 4 % 2 = 0 then -1 else 1)) := by
    have : cell / 4 % 2 = 0 ∨ cell / 4 % 2 = 1 := by omega
    rcases this with h | h <;> rw [h] <;> rfl
  obtain ⟨s1, es1⟩ : ∃ s1 : Int, s1 = (if cell / 4 % 2 = 0 then -1 else 1) := ⟨_, rfl⟩
  rw [← es1] at step
  refine xss_cons (xs_unpack 2 3 rfl nd (d1 := encR rows) (d2 := .int n) (xn 0) (nx_of rfl)) ?_
  refine xss_cons (xs_set (R := dL ((openC rows).map encC)) 4 nd (xcall0 A1 hr rfl (xacons (xn 2) (xa1 (xcallTy (call_listTx rfl) rfl B.list (by decide +kernel) (xa1 (xstr (x := rw_ figs))) (cr_listTx (by decide))))) ⟨false, rows, figs, rfl, rfl, hg⟩) (nx_of rfl)) ?_
  refine xss_ifr (b := decide (cell % 4 = 2) && !decide (openC rows = [])) (XW.t (XW.eq (xwand (xtcmp op_eq (xop op_mod (xn 1) xint (rv_mod (by decide))) xint rv_eqI (nomark _)) fun _ => xwand1 (xtcmp (op_neD hr.units) (xn 4) (xlst (ds := []) xanil (by simp)) (rv_neD (shaped_Cs _) shaped_nil) rfl)) (by rw [eqv_nilC]))) (fun h => ?_) (fun h => ?_)
  · rw [Bool.and_eq_true] at h
    have hne : openC rows ≠ [] := by simpa using h.2
    have hlen : 0 < (openC rows).length := List.length_pos_iff.mpr hne
    have hol : (openC rows).length ≤ 256 := cells_len hg
    obtain ⟨q, eq⟩ : ∃ q, q = (cell / 8 % ((openC rows).length : Int)).toNat := ⟨_, rfl⟩
    have hq0 : 0 ≤ cell / 8 % ((openC rows).length : Int) := Int.emod_nonneg _ (by omega)
    have hq1 : cell / 8 % ((openC rows).length : Int) < ((openC rows).length : Int) := Int.emod_lt_of_pos _ (by omega)
    have hq : q < (openC rows).length := by omega
    have hmem : (openC rows)[q] ∈ openC rows := List.getElem_mem hq
    obtain ⟨i, j, r, c, e0, h1, h2, h3⟩ := mem_cellsOf.mp hmem
    have hc : c ∈ figs := of_decide_eq_true h3
    have hi := (List.getElem?_eq_some_iff.mp h1).1
    have hj := (List.getElem?_eq_some_iff.mp h2).1
    have hr8 := (hb.r r (List.mem_of_getElem? h1)).1
    have hl8 := hb.l
    have xrow : ∀ {W : Wd} {X : Cx} {Γ : List Sd} {e1 e2 : Expr} {pos : Pos}, XE W X e1 Γ (dat (encR rows)) → XE W X e2 Γ (dI (i : Int)) → PlainIx e2 → XE W X (.Subscript e1 e2 pos) Γ (dS (rw_ r)) := fun h1' h2' h3 => xix ix_list h1' h2' (rv_ixL (atI_of rfl (by rw [List.getElem?_map, h1]; rfl))) h3
    obtain ⟨e1, ee1⟩ : ∃ e1 : Int, e1 = (c : Int) - 48 + s1 := ⟨_, rfl⟩
    obtain ⟨k, ek⟩ : ∃ k : Nat, k = (if (if e1 < 8 then e1 else 8) > 0 then (if e1 < 8 then e1 else 8) else 0).toNat := ⟨_, rfl⟩
    have hk8 : k ≤ 8 := by
      rw [ek]
      split <;> split <;> omega
    have hk : ((k : Nat) : Int) = (if (if e1 < 8 then e1 else 8) > 0 then (if e1 < 8 then e1 else 8) else 0) := by
      rw [ek]
      split <;> split <;> omega
    refine xss_cons (xs_unpack 5 6 rfl nd (d1 := .int (i : Int)) (d2 := .int (j : Int)) (xix ix_list (xn 4) (xop op_mod (xop op_fdiv (xn 1) xint (rv_fdiv (by decide) (by decide))) (XE.eq (xcallB call_lenS rfl B.len PySem.boot_len (xa1 (xn 4)) cr_len) (d' := .int ((openC rows).length : Int)) (by rw [List.length_map])) (rv_mod (by omega))) (rv_ixL (atI_of (n := q) (by omega) (by rw [List.getElem?_map, List.getElem?_eq_getElem hq, e0]; rfl))) (fun _ _ => rfl)) (nx_of rfl)) ?_
    refine xss_cons (xs_set (R := dI ((k : Nat) : Int)) 7 nd (XE.eq (xcallB (call_max2I rfl) rfl B.max (by decide +kernel) (xacons xint (xa1 (xcallB (call_min2I rfl) rfl B.min (by decide +kernel) (xacons xint (xa1 (xop op_add (xcallTy call_intS rfl B.int (by decide +kernel) (xa1 (xix ix_str (xrow (xn 2) (xn 5) (fun _ _ => rfl)) (xn 6) (rv_ixS (atI_of rfl h2) (by omega)) (fun _ _ => rfl))) (cr_intS hc))
      (xix ix_list (xlst (ds := [.int (-1), .int 1]) (xacons (xneg xint) (xa1 xint)) (by simp)) (xop op_mod (xop op_fdiv (xn 1) xint (rv_fdiv (by decide) (by decide))) xint (rv_mod (by decide))) (rv_ixL step) (fun _ _ => rfl)) rv_int))) cr_min2))) cr_max2) (by rw [hk, ee1])) (nx_of rfl)) ?_
    refine xss_cons (xs_set (R := dS (rw_ (r.take j ++ [48 + k] ++ r.drop (j + 1)))) 8 nd (xop op_addS (xop op_addS (xtakeS (k := j) (xrow (xn 2) (xn 5) (fun _ _ => rfl)) (by omega) (xn 6) (by omega)) (XE.eq (xcallTy call_str1 rfl B.str (by decide +kernel) (xa1 (xn 7)) (cr_str1 hk8)) (d' := .str (rw_ [48 + k])) rfl) (rv_addS (by simp; omega))) (xdropS (k := j + 1) (xrow (xn 2) (xn 5) (fun _ _ => rfl)) (by omega) (xop op_add (xn 6) xint rv_int) (by omega)) (rv_addS (by simp; omega))) (nx_of rfl)) ?_
    refine xss_one (xs_ret (XE.sub (S := bdTy) (xtup (ds := [encR (rows.take i ++ [r.take j ++ [48 + k] ++ r.drop (j + 1)] ++ rows.drop (i + 1)), .int n]) (xacons (XE.eq (xop op_cat (xop op_cat (xtake (k := i) (xn 2) (xn 5)) (xlst (ds := [.str (rw_ (r.take j ++ [48 + k] ++ r.drop (j + 1)))]) (xa1 (xn 8)) (by simp)) (rv_cat (by simp; omega))) (xdrop (k := i + 1) (xn 2) (xop op_add (xn 5) xint rv_int)) (rv_cat (by simp; omega))) ?_) (xa1 (xn 3))) (by simp)) fun G v hv => ⟨_, ⟨_, _, rfl, bdW_bent hb h1 h2 hc hk8⟩, hv⟩) hrt)
    unfold encR
    rw [List.map_append, List.map_append, List.map_take, List.map_drop]
    rfl
  · refine xss_ifr (b := decide (cell % 4 = 3)) (xtcmp op_eq (xop op_mod (xn 1) xint (rv_mod (by decide))) xint rv_eqI (nomark _)) (fun _ => ?_) (fun _ => ?_)
    · refine xss_one (xs_ret (XE.sub (S := bdTy) (xtup (ds := [encR rows, .int _]) (xacons (xn 2) (xa1 (xcallB (call_max2I rfl) rfl B.max (by decide +kernel) (xacons xint (xa1 (xop op_add (xn 3) (xix ix_list (xlst (ds := [.int (-1), .int 1]) (xacons (xneg xint) (xa1 xint)) (by simp)) (xop op_mod (xop op_fdiv (xn 1) xint (rv_fdiv (by decide) (by decide))) xint (rv_mod (by decide))) (rv_ixL step) (fun _ _ => rfl)) rv_int))) cr_max2))) (by simp)) fun G v hv => ⟨_, ⟨rows, _, rfl, hb⟩, hv⟩) hrt)
    · exact xss_one (xs_ret (XE.sub (S := bdTy) (xn 0) fun G v hv => ⟨_, ⟨rows, n, rfl, hb⟩, hv⟩) hrt)
end
end SL
set_option maxRecDepth 100000
set_option maxHeartbeats 4000000
namespace SL
open PySem L2 Evl
local macro_rules | `(tactic| trivial) => `(tactic| (repeat (first | exact SL.LeG.nil | refine SL.LeG.cons (by first | exact SL.Le.rfl _ | exact SL.Le.any _) ?_)); done)
def dblC (L : List (List Cell)) (c : Cell) : List (List Cell) := L ++ L.map fun s => s ++ [c]
def powD (cs : List Cell) : List (List Cell) := cs.foldl dblC [[]]
def nearN (c : Cell) (l : List Cell) : Nat := (l.filter fun o => nearC o c).length
def nearN' (c : Cell) (l : List Cell) : Nat := (l.filter fun o => nearC c o).length
def fitO (rows : List (List Nat)) (o : Cell) (s : List Cell) : Bool := decide (((nearN' o s : Nat) : Int) = numAt rows o)
def allF (rows : List (List Nat)) (L : List (List Cell)) (os : List Cell) : List (List Cell) := os.foldl (fun L o => L.filter (fitO rows o)) L
def allU (rows : List (List Nat)) (n : Int) : List (List Cell) := allF rows ((powD (closedC rows)).filter fun s => decide ((s.length : Int) = n)) (openC rows)
theorem powD_snoc (cs : List Cell) (c : Cell) : powD (cs ++ [c]) = dblC (powD cs) c := by
  unfold powD
  rw [List.foldl_append]
  rfl
theorem allF_snoc (rows : List (List Nat)) (L : List (List Cell)) (os : List Cell) (o : Cell) : allF rows L (os ++ [o]) = (allF rows L os).filter (fitO rows o) := by
  unfold allF
  rw [List.foldl_append]
  rfl
theorem powD_len : ∀ cs : List Cell, (powD cs).length = 2 ^ cs.length := by
  refine snoc_ind rfl fun l a ih => ?_
  rw [powD_snoc, List.length_append, List.length_singleton, Nat.pow_succ]
  unfold dblC
  rw [List.length_append, List.length_map, ih]
  omega
theorem powD_el : ∀ cs : List Cell, ∀ s ∈ powD cs, s.length ≤ cs.length := by
  refine snoc_ind (fun s hs => by simp [powD] at hs; simp [hs]) fun l a ih s hs => ?_
  rw [powD_snoc] at hs
  unfold dblC at hs
  rw [List.length_append, List.length_singleton]
  rcases List.mem_append.mp hs with h | h
  · have := ih s h
    omega
  · obtain ⟨t, ht, rfl⟩ := List.mem_map.mp h
    have := ih t ht
    rw [List.length_append, List.length_singleton]
    omega
theorem allF_mem {rows : List (List Nat)} {L : List (List Cell)} : ∀ (os : List Cell) (s : List Cell), s ∈ allF rows L os → s ∈ L := by
  refine snoc_ind (fun s hs => hs) fun l a ih s hs => ?_
  rw [allF_snoc] at hs
  exact ih s (List.mem_filter.mp hs).1
theorem allF_len {rows : List (List Nat)} {L : List (List Cell)} : ∀ os : List Cell, (allF rows L os).length ≤ L.length := by
  refine snoc_ind (Nat.le_refl _) fun l a ih => ?_
  rw [allF_snoc]
  exact Nat.le_trans (List.length_filter_le _ _) ih
def preAll : List Ty → Ty → Prop := fun Rs R => ∃ rows n, Rs = [dat (bdD rows n)] ∧ R = dL ((sortL (allU rows n)).map encL) ∧ BdW rows
def preToldAt : List Ty → Ty → Prop := fun Rs R => ∃ (l : List Cell) (c : Cell), Rs = [dat (encL l), dat (encC c)] ∧ R = dI ((nearN c l : Nat) : Int) ∧ l.length ≤ 1000
abbrev nAl : List Str := ["_law_board_here", "_law_cells_here", "_law_opens", "_law_found", "_law_cell", "_law_left", "_law_one", "_law_number", "_law_some"]
def scSome : Scope := { kind := .function, names := [(".0", .local), ("_law_some", .local), ("len", .globalImplicit), ("_law_number", .cell), ("_law_one", .cell)], isGenerator := false, isCoroutine := false }
section
variable {P : Program} {w : World} {K : PySem.W.Frag} {mg : Str → Option Value} {base : Heap}
theorem scTa : FnScope ["_law_laying", "_law_cell", "_law_one"] ["_law_laying", "_law_cell"] (defScope sToldAt) := ⟨rfl, rfl, rfl, by decide +kernel, rfl, by decide +kernel, by decide +kernel⟩
theorem def_toldat (S : Src K mg "_law_told_at" sToldAt ["_law_laying", "_law_cell"]) (B : Bn mg) (A2 : Def P w K mg base 1 "_law_near" ["_law_one", "_law_other"] (spF W0 preNear)) : Def P w K mg base 2 "_law_told_at" ["_law_laying", "_law_cell"] (spF W0 preToldAt) := by
  refine Def.of S scTa (fun Rs R h => by obtain ⟨a, b, rfl, _⟩ := h; rfl) fun f cdv A outer s H E hr Rs R hp F D hW hrt _ => ?_
  obtain ⟨l, c, rfl, rfl, hl⟩ := hp
  have nd := scTa.nd
  refine xss_one (xs_ret (XE.eq (xcallB call_lenS rfl B.len PySem.boot_len (xa1 (xlcN 2 [("_law_one", 2)] (r := (l.filter fun o => nearC o c).map encC) nd (xi_list (xs := l) (enc := encC) (xn 0)) (blkOk_by (N := ["_law_laying", "_law_cell", "_law_one"]) (sc := defScope sToldAt) (by decide +kernel)) (fun o => nearC o c) encC
    (fun z hz => .one fun s H C'' cl fp => xtval (xcall0 A2 hr rfl (xacons (xn 2) (xa1 (xn 1))) ⟨z, c, rfl, rfl⟩)) (fun z hz _ s H C'' cl fp => xn 2) (by omega))) cr_len) (by rw [List.length_map]; rfl)) hrt)
theorem scAl : FnScope nAl ["_law_board_here"] (defScope sAll) := ⟨rfl, rfl, rfl, by decide +kernel, rfl, by decide +kernel, by decide +kernel⟩
theorem def_all (S : Src K mg "_law_all" sAll ["_law_board_here"]) (B : Bn mg) (A1 : Def P w K mg base 1 "_law_cells" ["_law_rows", "_law_signs"] (spF W0 preCells)) (A2 : Def P w K mg base 1 "_law_near" ["_law_one", "_law_other"] (spF W0 preNear)) : Def P w K mg base 2 "_law_all" ["_law_board_here"] (spF W0 preAll) := by
  refine Def.of S scAl (fun Rs R h => by obtain ⟨a, b, rfl, _⟩ := h; rfl) fun f cdv A outer s H E hr Rs R hp F D hW hrt _ => ?_
  obtain ⟨rows, n, rfl, rfl, hb⟩ := hp
  have nd := scAl.nd
  have hg := hb.gd
  have hcl : (closedC rows).length ≤ 8 := by
    have := cells_cnt qm rows
    have := hb.n
    show (cellsOf _ rows).length ≤ 8
    omega
  obtain ⟨CC, eCC⟩ : ∃ CC, CC = closedC rows := ⟨_, rfl⟩
  obtain ⟨L0, eL0⟩ : ∃ L0, L0 = ((powD CC).filter fun s => decide ((s.length : Int) = n)) := ⟨_, rfl⟩
  have hpow : (powD CC).length ≤ 256 := by
    rw [powD_len, eCC]
    exact Nat.le_trans (Nat.pow_le_pow_right (by decide) hcl) (by decide)
  have hL0 : L0.length ≤ 256 := by
    rw [eL0]
    exact Nat.le_trans (List.length_filter_le _ _) hpow
  have hel : ∀ s ∈ L0, s.length ≤ 8 := fun s hs => by
    rw [eL0] at hs
    have := powD_el CC s (List.mem_filter.mp hs).1
    rw [eCC] at this
    omega
  refine xss_cons (xs_set (R := dL (CC.map encC)) 1 nd (XE.eq (xcall0 A1 hr rfl (xacons (xix ix_tup (xn 0) xint (rv_ixT (d := encR rows) rfl) (fun _ _ => rfl)) (xa1 (xlst (ds := [dSg 63]) (xa1 xstr) (by simp)))) ⟨false, rows, qm, rfl, rfl, hg⟩) (by rw [eCC]; rfl)) (nx_of rfl)) ?_
  refine xss_cons (xs_set (R := dL ((openC rows).map encC)) 2 nd (xcall0 A1 hr rfl (xacons (xix ix_tup (xn 0) xint (rv_ixT (d := encR rows) rfl) (fun _ _ => rfl)) (xa1 (xcallTy (call_listTx rfl) rfl B.list (by decide +kernel) (xa1 (xstr (x := rw_ figs))) (cr_listTx (by decide))))) ⟨false, rows, figs, rfl, rfl, hg⟩) (nx_of rfl)) ?_
  refine xss_cons (xs_set (R := dL (([[]] : List (List Cell)).map encL)) 3 nd (xlst (ds := [encL []]) (xa1 (xlst (ds := []) xanil (by simp))) (by simp)) (nx_of rfl)) ?_
  refine xss_cons (D := D) (Γ' := [sd (bdD rows n), sd (.list (CC.map encC)), sd (.list ((openC rows).map encC)), sd (.list ((powD CC).map encL)), .any, .any, .any, .any, .any])
    (xs_forN 4 nd (xi_list (xs := CC) (enc := encC) (xn 1)) (fun pre => [sd (bdD rows n), sd (.list (CC.map encC)), sd (.list ((openC rows).map encC)), sd (.list ((powD pre).map encL)), .any, .any, .any, .any, .any]) (fun pre x post he Sg hS => ?_) (nx_of rfl)) ?_
  · have hpl : pre.length ≤ 7 := by
      have h1 : CC.length ≤ 8 := by rw [eCC]; exact hcl
      rw [he, List.length_append, List.length_cons] at h1
      omega
    have h28 : (powD pre).length ≤ 128 := by
      rw [powD_len]
      exact Nat.le_trans (Nat.pow_le_pow_right (by decide) hpl) (by decide)
    refine xss_one (xs_set (R := dL ((powD (pre ++ [x])).map encL)) 3 nd (XE.eq (xop op_cat (xn 3) (xlcN 8 [("_law_some", 8)] (r := ((powD pre).map fun s => s ++ [x]).map encL) nd (xi_list (xs := powD pre) (enc := encL) (xn 3)) (blkOk_by (N := nAl) (sc := defScope sAll) (by decide +kernel)) (fun _ => true) (fun s => encL (s ++ [x])) (fun z _ => .none)
      (fun z hz _ s H C'' cl fp => XE.eq (xop op_cat (xn 8) (xlst (ds := [encC x]) (xa1 (xn 4)) (by simp)) (rv_cat (by have := powD_el pre z hz; simp; omega))) (by unfold encL; rw [List.map_append]; rfl)) (by omega) (by rw [filter_true, List.map_map]; rfl)) (rv_cat (by simp; omega))) ?_) (nx_le (by trivial)))
    rw [powD_snoc]
    unfold dblC
    rw [List.map_append]
  refine xss_cons (xs_lcN 5 8 [("_law_some", 8)] (r := L0.map encL) nd (xi_list (xs := powD CC) (enc := encL) (xn 3)) (blkOk_by (N := nAl) (sc := defScope sAll) (by decide +kernel)) (fun s => decide ((s.length : Int) = n)) encL
    (fun z hz => .one fun s H C' cl fp => xtcmp op_eq (XE.eq (xcallB call_lenS rfl B.len PySem.boot_len (xa1 (xn 8)) cr_len) (d' := .int (z.length : Int)) (by rw [List.length_map])) (xix ix_tup (xn 0) xint (rv_ixT (d := .int n) rfl) (fun _ _ => rfl)) rv_eqI (nomark _)) (fun z hz _ s H C' cl fp => xn 8) (by omega) (nx_of rfl) (by rw [eL0])) ?_
  refine xss_cons (D := D) (Γ' := [sd (bdD rows n), sd (.list (CC.map encC)), sd (.list ((openC rows).map encC)), .any, .any, sd (.list ((allU rows n).map encL)), .any, .any, .any])
    (xs_forN 6 nd (xi_list (xs := openC rows) (enc := encC) (xn 2)) (fun pre => [sd (bdD rows n), sd (.list (CC.map encC)), sd (.list ((openC rows).map encC)), .any, .any, sd (.list ((allF rows L0 pre).map encL)), .any, .any, .any]) (fun pre x post he Sg hS => ?_) ?_) ?_
  · have hx : x ∈ openC rows := by rw [he]; simp
    obtain ⟨i, j, r, c, e0, h1, h2, h3⟩ := mem_cellsOf.mp hx
    subst e0
    have hc : c ∈ figs := of_decide_eq_true h3
    have hr8 := (hb.r r (List.mem_of_getElem? h1)).1
    have hnum : numAt rows ((i : Int), (j : Int)) = (c : Int) - 48 := by
      unfold numAt
      rw [signAt_of h1 h2]
    have hL : (allF rows L0 pre).length ≤ 256 := Nat.le_trans (allF_len pre) hL0
    refine xss_cons (xs_set (R := dI (numAt rows ((i : Int), (j : Int)))) 7 nd (XE.eq (xcallTy call_intS rfl B.int (by decide +kernel) (xa1 (xix ix_str (xix ix_list (xix ix_tup (xn 0) xint (rv_ixT (d := encR rows) rfl) (fun _ _ => rfl)) (xix ix_tup (xn 6) xint (rv_ixT (d := .int (i : Int)) rfl) (fun _ _ => rfl)) (rv_ixL (d := .str (rw_ r)) (atI_of rfl (by rw [List.getElem?_map, h1]; rfl))) (fun _ _ => rfl)) (xix ix_tup (xn 6) xint (rv_ixT (d := .int (j : Int)) rfl) (fun _ _ => rfl)) (rv_ixS (atI_of rfl h2) (by omega)) (fun _ _ => rfl))) (cr_intS hc)) (by rw [hnum])) (nx_of rfl)) ?_
    refine xss_one (xs_lcN 5 8 [("_law_some", 8)] (r := (allF rows L0 (pre ++ [((i : Int), (j : Int))])).map encL) nd (xi_list (xs := allF rows L0 pre) (enc := encL) (xn 5)) (blkOk_by (N := nAl) (sc := defScope sAll) (by decide +kernel)) (fitO rows ((i : Int), (j : Int))) encL
      (fun z hz => .one fun s H C' cl fp => XT.eq (xtcmp op_eq (XE.eq (xcallB call_lenS rfl B.len PySem.boot_len (xa1 (xlcN 4 [("_law_cell", 4)] (r := (z.filter fun o => nearC ((i : Int), (j : Int)) o).map encC) nd (xi_list (xs := z) (enc := encC) (xn 8)) (blkOk_by (N := nAl) (sc := scSome) (by decide +kernel)) (fun o => nearC ((i : Int), (j : Int)) o) encC
        (fun y hy => .one fun s H C'' cl fp => xtval (xcall0 A2 hr rfl (xacons (xn 6) (xa1 (xn 4))) ⟨((i : Int), (j : Int)), y, rfl, rfl⟩)) (fun y hy _ s H C'' cl fp => xn 4) (by have := hel z (allF_mem pre z hz); omega))) cr_len) (d' := .int ((nearN' ((i : Int), (j : Int)) z : Nat) : Int)) (by rw [List.length_map]; rfl)) (xn 7) rv_eqI (nomark _)) rfl) (fun z hz _ s H C' cl fp => xn 8) (by omega) (nx_le (by trivial)) (by rw [allF_snoc]))
  · unfold allU
    rw [← eCC, ← eL0]
    exact nx_le (by trivial)
  · refine xss_one (xs_ret (xcallB (call_sortedL hr.units) rfl B.sorted (by decide +kernel) (xa1 (xn 5)) (cr_sortedL ?_)) hrt)
    have h1 : (allU rows n).length ≤ L0.length := by
      unfold allU
      rw [← eCC, ← eL0]
      exact allF_len _
    omega
end
end SL
set_option maxRecDepth 100000
set_option maxHeartbeats 4000000
namespace SL
open PySem L2 Evl
local macro_rules | `(tactic| trivial) => `(tactic| (repeat (first | exact SL.LeG.nil | refine SL.LeG.cons (by first | exact SL.Le.rfl _ | exact SL.Le.any _) ?_)); done)
def plT (t : Pl) : Ty := ⟨fun G v => ∃ as, PlA G v t as, fun e h => let ⟨as, h1⟩ := h; ⟨as, h1.mono e⟩⟩
def plDk (subs : List (Int × Pl)) : Ty := ⟨fun G v => ∃ d kvs as, v = .ref d ∧ G d = some (.dK kvs) ∧ PlAs G kvs subs as, fun e h => let ⟨d, kvs, as, h1, h2, h3⟩ := h; ⟨d, kvs, as, h1, e _ _ h2, h3.mono e⟩⟩
theorem plN_T {t : Pl} {G : Hp} {v : V} (h : (plN t).r G v) : (plT t).r G v := let ⟨as, h1, _⟩ := h; ⟨as, h1⟩
def tyTy (n : String) : Ty := ⟨fun _ v => v = .ty n, fun _ h => h⟩
def lookS : List (Int × Pl) → Int → Option Pl
  | [], _ => none
  | (m, t) :: r, n => if m = n then some t else lookS r n
def isNo : Pl → Bool
  | .no => true
  | .op _ _ => false
theorem look_some {G : Hp} {n : Int} : ∀ {r : List (Key × V)} {s : List (Int × Pl)} {as : List Addr} {t : Pl}, PlAs G r s as → lookS s n = some t → ∃ v bs, valV r (Sum.inl n) = some v ∧ PlA G v t bs
  | _, _, _, t, .cons (n := m) h1 h2, h => by
    unfold lookS at h
    by_cases e : m = n
    · rw [if_pos e] at h
      cases h
      exact ⟨_, _, valV_pos (by rw [e]), h1⟩
    · rw [if_neg e] at h
      obtain ⟨v, bs, q1, q2⟩ := look_some h2 h
      exact ⟨v, bs, by rw [valV_neg (fun z => e (Sum.inl.inj z))]; exact q1, q2⟩
section
variable {W : Wd} {X : Cx} {K : PySem.W.Frag} {Γ : List Sd} {e ei : Expr} {pos p : Pos} {t : Pl} {c : Cell} {subs : List (Int × Pl)}
def rIsNo : R2 := fun x y H Q => y = .non ∧ Q (.bl (decide (x = .non))) H
def rNotNo : R2 := fun x y H Q => y = .non ∧ Q (.bl (!decide (x = .non))) H
theorem op_isNo {X : Cx} : OpR X (compareOp .Is) rIsNo := op_isN
theorem op_notNo {X : Cx} : OpR X (compareOp .IsNot) rNotNo := op_notN
theorem xty {x : Str} {n : String} (hg : Gl X x) (hm : X.mg x = none) (hv : bootBuiltins x = some (.type n)) (hn : x ≠ "__name__" := by decide) (hd : (x == ("__debug__" : Str)) = false := by decide) : XE W X (.Name x pos) Γ (tyTy n) :=
  ⟨_, pe_bltn (v := .ty n) hg hm hv rfl hn hd, fun H0 σ G H o s Q q => q _ G H Rn.refl o rfl⟩
theorem rv_notN : R2v W rNotNo (plT t) dN (dB (!isNo t)) := fun x y G H o m1 m2 Q q => by
  cases Dq.non_inv m2
  obtain ⟨as, h⟩ := m1
  cases h with
  | no => exact And.intro rfl (q _ G H Rn.refl o (Dq.bl _))
  | op h1 h2 h3 h4 => exact And.intro rfl (q _ G H Rn.refl o (Dq.bl _))
theorem rv_isN : R2v W rIsNo (plT t) dN (dB (isNo t)) := fun x y G H o m1 m2 Q q => by
  cases Dq.non_inv m2
  obtain ⟨as, h⟩ := m1
  cases h with
  | no => exact And.intro rfl (q _ G H Rn.refl o (Dq.bl _))
  | op h1 h2 h3 h4 => exact And.intro rfl (q _ G H Rn.refl o (Dq.bl _))
theorem cr_isTup : CRv W (rIsi K) [plT (.op c subs), tyTy "tuple"] (dB true) := fun vs G H o m Q q => by
  match vs, m with
  | [v, u], ⟨m1, m2, _⟩ =>
    obtain ⟨as, h⟩ := m1
    obtain rfl : u = .ty "tuple" := m2
    cases h with
    | op h1 h2 h3 h4 => exact ⟨_, .ty "tuple", .type "tuple", .type "tuple", true, rfl, .ty _, .base (.tup (o.ex _ _ h1)), kit_ty (by decide +kernel), q _ G H Rn.refl o (Dq.bl _)⟩
theorem cr_isDict : CRv W (rIsi K) [plDk subs, tyTy "dict"] (dB true) := fun vs G H o m Q q => by
  match vs, m with
  | [v, u], ⟨m1, m2, _⟩ =>
    obtain ⟨d, kvs, as, rfl, h1, _⟩ := m1
    obtain rfl : u = .ty "dict" := m2
    exact ⟨_, .ty "dict", .type "dict", .type "dict", true, rfl, .ty _, .base (.dK (o.ex _ _ h1)), kit_ty (by decide +kernel), q _ G H Rn.refl o (Dq.bl _)⟩
theorem cr_lenP : CRv W (rLenS K) [plT (.op c subs)] (dI 2) := fun vs G H o m Q q => by
  match vs, m with
  | [v], ⟨m1, _⟩ =>
    obtain ⟨as, h⟩ := m1
    cases h with
    | op h1 h2 h3 h4 => exact ⟨_, _, rfl, .inr (SqT.of (o.ex _ _ h1)), q _ G H Rn.refl o (Dq.int 2)⟩
theorem rv_p0 : R2v W (rIxT K) (plT (.op c subs)) (dI 0) (dat (encC c)) := fun x y G H o m1 m2 Q q => by
  cases Dq.int_inv m2
  obtain ⟨as, h⟩ := m1
  cases h with
  | op h1 h2 h3 h4 => exact ⟨_, _, 0, _, rfl, rfl, SqT.of (o.ex _ _ h1), rfl, q _ G H Rn.refl o h2⟩
theorem rv_p1 : R2v W (rIxT K) (plT (.op c subs)) (dI 1) (plDk subs) := fun x y G H o m1 m2 Q q => by
  cases Dq.int_inv m2
  obtain ⟨as, h⟩ := m1
  cases h with
  | op h1 h2 h3 h4 => exact ⟨_, _, 1, _, rfl, rfl, SqT.of (o.ex _ _ h1), rfl, q _ G H Rn.refl o ⟨_, _, _, rfl, h3, h4⟩⟩
theorem xp0 (h : XE W X e Γ (plT (.op c subs))) (hi : XE W X ei Γ (dI 0)) (hs : PlainIx ei := by exact fun _ _ => rfl) : XE W X (.Subscript e ei pos) Γ (dat (encC c)) := xix ix_tup h hi rv_p0 hs
theorem xp1 (h : XE W X e Γ (plT (.op c subs))) (hi : XE W X ei Γ (dI 1)) (hs : PlainIx ei := by exact fun _ _ => rfl) : XE W X (.Subscript e ei pos) Γ (plDk subs) := xix ix_tup h hi rv_p1 hs
/-- number not in told[1]: it is there -/
theorem xtPnot {n : Int} (hu : X.A.units + 1 < cLine) (hn : XE W X ei Γ (dI n)) (hd : XE W X e Γ (plDk subs)) (hl : lookS subs n = some t) (h1 : behindInMarks .NotIn e = false := by rfl) : XT W X (.Compare ei [.NotIn] [e] pos) Γ false := by
  obtain ⟨tn, a1, a2⟩ := hn
  obtain ⟨td, b1, b2⟩ := hd
  refine ⟨_, pt_cmp (pc_dnotin hu a1 b1) h1, fun H0 σ G H o s Q q => a2 H0 σ G H o s _ fun v G1 H1 r1 o1 m1 => b2 H0 σ G1 H1 o1 (s.run r1) _ fun u G2 H2 r2 o2 m2 => ?_⟩
  cases Dq.int_inv m1
  obtain ⟨d, kvs, as, rfl, h1, h2⟩ := m2
  obtain ⟨v, bs, q1, q2⟩ := look_some h2 hl
  refine ⟨d, _, rfl, DGet.k (k := Sum.inl n) (o2.ex _ _ h1), _, rfl, ?_⟩
  rw [q1]
  exact q G2 H2 (r1.trans r2) o2
theorem xPget {n : Int} (hu : X.A.units + 1 < cLine) (hd : XE W X e Γ (plDk subs)) (hn : XE W X ei Γ (dI n)) (hl : lookS subs n = some t) (hs : NoSl ei := by exact fun _ _ => rfl) : XE W X (.Subscript e ei pos) Γ (plT t) := by
  obtain ⟨tn, a1, a2⟩ := hn
  obtain ⟨td, b1, b2⟩ := hd
  refine ⟨_, pe_dget hu b1 a1 hs, fun H0 σ G H o s Q q => b2 H0 σ G H o s _ fun u G1 H1 r1 o1 m1 => a2 H0 σ G1 H1 o1 (s.run r1) _ fun v G2 H2 r2 o2 m2 => ?_⟩
  cases Dq.int_inv m2
  obtain ⟨d, kvs, as, rfl, h1, h2⟩ := (plDk subs).mono r2.gg m1
  obtain ⟨v, bs, q1, q2⟩ := look_some h2 hl
  refine ⟨d, v, rfl, ?_, q _ G2 H2 (r1.trans r2) o2 ⟨bs, q2⟩⟩
  have := DGet.k (k := Sum.inl n) (o2.ex _ _ h1)
  rw [q1] at this
  exact this
/-- x in a list that grows -/
theorem xtinM (i : Nat) {x : Str} {np : Pos} {ds : List PyData} {d : PyData} (hu : X.A.units + 65 < cLine) (hG : Γ[i]? = some (.mut ds)) (he : XE W X e Γ (dat d)) (h1 : SeqAt.shaped d = true) (h2 : SeqAt.shaped (.list ds) = true) (hN : X.N[i]? = some x := by rfl)
    (hvv : Vis X.env.scope x := by first | exact Or.inl rfl | exact Or.inr (Or.inl rfl) | exact Or.inr (Or.inr rfl)) (hd : (x == ("__debug__" : Str)) = false := by decide) (hcd : (x == ("__classdict__" : Str)) = false := by decide) : XT W X (.Compare e [.In] [.Name x np] pos) Γ (ds.any fun z => PyData.eqv z d) := by
  obtain ⟨t, a1, a2⟩ := he
  refine ⟨_, pt_cmpR (op_inD hu) a1 (pe_var hN hvv hd hcd) rfl, fun H0 σ G H o s Q q => a2 H0 σ G H o s _ fun v G1 H1 r1 o1 m1 => ?_⟩
  obtain ⟨l, _, e1, g1, g2, g3, g4, xs, rfl, g5⟩ := s.mu i _ hG
  refine ⟨_, e1, d, ds, (Dq.mono o1.ex m1).dp, .lst (SqL.of (r1.hh _ _ g4 g1)) ((g5.mono r1.gg).mono o1.ex).dp, h1, h2, _, rfl, q G1 H1 r1 o1⟩
end
/-- how a plan is gone -/
inductive GoP (dep : Nat) (l : List Cell) : Pl → List Cell → List Cell × Bool → Prop
  | no {gone : List Cell} : GoP dep l .no gone (gone, true)
  | hit {c : Cell} {subs : List (Int × Pl)} {gone : List Cell} : c ∉ gone → gone.length < dep → c ∈ l → GoP dep l (.op c subs) gone (gone ++ [c], false)
  | go {c : Cell} {subs : List (Int × Pl)} {gone : List Cell} {t : Pl} {r : List Cell × Bool} : c ∉ gone → gone.length < dep → c ∉ l → lookS subs ((nearN c l : Nat) : Int) = some t → GoP dep l t (gone ++ [c]) r → GoP dep l (.op c subs) gone r
def goD (r : List Cell × Bool) : PyData := .tuple [.list (r.1.map encC), .bool r.2]
def preGoes : List Ty → Ty → Prop := fun Rs R => ∃ (t : Pl) (l : List Cell) (dep : Nat) (r : List Cell × Bool), Rs = [plT t, dat (encL l), dI (dep : Int)] ∧ R = dat (goD r) ∧ GoP dep l t [] r ∧ l.length ≤ 1000 ∧ dep ≤ 100
abbrev nGs : List Str := ["_law_told", "_law_laying", "_law_depth", "_law_gone", "_law_cell", "_law_number"]
section
variable {P : Program} {w : World} {K : PySem.W.Frag} {mg : Str → Option Value} {base : Heap}
theorem scGs : FnScope nGs ["_law_told", "_law_laying", "_law_depth"] (defScope sGoes) := ⟨rfl, rfl, rfl, by decide +kernel, rfl, by decide +kernel, by decide +kernel⟩
theorem def_goes (S : Src K mg "_law_goes" sGoes ["_law_told", "_law_laying", "_law_depth"]) (B : Bn mg) (A2 : Def P w K mg base 2 "_law_told_at" ["_law_laying", "_law_cell"] (spF W0 preToldAt)) : Def P w K mg base 3 "_law_goes" ["_law_told", "_law_laying", "_law_depth"] (spF W0 preGoes) := by
  refine Def.of S scGs (fun Rs R h => by obtain ⟨a, b, c, d, rfl, _⟩ := h; rfl) fun f cdv A outer s H E hr Rs R hp F D hW hrt _ => ?_
  obtain ⟨t, l, dep, r, rfl, rfl, hgo, hl, hdep⟩ := hp
  have nd := scGs.nd
  have hu1 : (Xc P w K mg base nGs "_law_goes" sGoes f cdv A outer s H E).A.units + 1 < cLine := Nat.lt_of_le_of_lt (Nat.add_le_add_left (by decide : 1 ≤ 64) _) hr.units
  let nx : Pl × List Cell → Pl × List Cell := fun a => match a.1 with
    | .no => a
    | .op c subs => ((lookS subs ((nearN c l : Nat) : Int)).getD .no, a.2 ++ [c])
  refine xss_cons (xs_nil 3 nd (nx_of rfl)) ?_
  let Γi : Pl × List Cell → List Sd := fun a => [.ty (plT a.1), sd (encL l), sd (.int (dep : Int)), .mut (a.2.map encC), .any, .any]
  have loop : ∀ (D' : Ends), D'.rt = D.rt → (r.2 = true → Nx F [.any, .any, .any, .mut (r.1.map encC), .any, .any] D') → XS F (Xc P w K mg base nGs "_law_goes" sGoes f cdv A outer s H E) ((defBody sGoes).getD 1 (.Pass ⟨0, 0, 0, 0⟩)) [.ty (plT t), sd (encL l), sd (.int (dep : Int)), .mut [], .any, .any] D' := by
    intro D' hD k
    refine xs_while Γi (fun a => dep + 1 - a.2.length) (fun a => !isNo a.1) (fun a => GoP dep l a.1 a.2 r) nx (t, []) hgo (by trivial) (fun a ha => xtcmp op_notNo (xn 0) xnone rv_notN rfl) (fun a ha hb => ?_) (fun a ha hb => ?_)
    · obtain ⟨t1, gone⟩ := a
      cases t1 with
      | no => cases hb
      | op c subs =>
        have hg1 : c ∉ gone ∧ gone.length < dep := by cases ha with
          | hit h1 h2 h3 => exact ⟨h1, h2⟩
          | go h1 h2 h3 h4 h5 => exact ⟨h1, h2⟩
        obtain ⟨hcg, hgd⟩ := hg1
        refine xss_ifr (b := false) (XW.t (XW.eq (xwor (xtnot (xtval (xcallB call_isi rfl B.isinstance (by decide +kernel) (xacons (xn 0) (xa1 (xty rfl B.tuple (by decide +kernel)))) cr_isTup))) fun _ => xwor (xtcmp op_ne (xcallB call_lenS rfl B.len PySem.boot_len (xa1 (xn 0)) cr_lenP) xint rv_neI (nomark _)) fun _ => xwor1 (xtnot (xtval (xcallB call_isi rfl B.isinstance (by decide +kernel) (xacons (xp1 (xn 0) xint) (xa1 (xty rfl B.dict (by decide +kernel)))) cr_isDict)))) rfl)) (fun h => by cases h) (fun _ => ?_)
        refine xss_cons (xs_set (R := dat (encC c)) 4 nd (xp0 (xn 0) xint) (nx_of rfl)) ?_
        refine xss_ifr (b := false) (XW.t (XW.eq (xwor (xtinM (d := encC c) 3 hr.u65 rfl (xn 4) (shaped_C c) (shaped_Cs gone)) fun _ => xwor1 (xtcmp op_ge (xlenM 3 rfl rfl B.len PySem.boot_len) (xn 2) rv_bl (nomark _))) ?_)) (fun h => by cases h) (fun _ => ?_)
        · rw [any_C, decide_eq_false hcg, Bool.false_or, List.length_map]
          refine decide_eq_false ?_
          have hgd : gone.length < dep := hgd
          show ¬ ((dep : Int) ≤ ((gone.length : Nat) : Int))
          omega
        have hgd : gone.length < dep := hgd
        have hgl : (gone.map encC).length ≤ 50000 := by
          rw [List.length_map]
          show gone.length ≤ 50000
          omega
        refine xss_cons (xs_app (d := encC c) 3 rfl (xn 4) hgl (nx_of rfl)) ?_
        have em : gone.map encC ++ [encC c] = (gone ++ [c]).map encC := by simp
        show XSs F _ _ [.ty (plT (.op c subs)), sd (encL l), sd (.int (dep : Int)), .mut (gone.map encC ++ [encC c]), sd (encC c), .any] _
        rw [em]
        refine xss_ifr (b := decide (c ∈ l)) (XT.eq (xtcmp (op_inD hr.u65) (xn 4) (xn 1) (rv_inD (shaped_C c) (shaped_Cs l)) rfl) (any_C _ _)) (fun h => ?_) (fun h => ?_)
        · have hcl : c ∈ l := of_decide_eq_true h
          cases ha with
          | go h1 h2 h3 h4 h5 => exact absurd hcl h3
          | hit h1 h2 h3 =>
            refine xss_frz 3 (xss_one (xs_ret (xtup (ds := [.list ((gone ++ [c]).map encC), .bool false]) (xacons (xn 3) (xa1 xbool)) (by simp)) ?_))
            rw [hD]
            exact hrt
        · have hcl : c ∉ l := of_decide_eq_false h
          cases ha with
          | hit h1 h2 h3 => exact absurd h3 hcl
          | go h1 h2 h3 h4 h5 =>
            rename_i t2
            refine xss_cons (xs_set 5 nd (xcall0 A2 hr rfl (xacons (xn 1) (xa1 (xn 4))) ⟨l, c, rfl, rfl, hl⟩) (nx_of rfl)) ?_
            refine xss_ifr (b := false) (xtPnot hu1 (xn 5) (xp1 (xn 0) xint) h4) (fun h => by cases h) (fun _ => ?_)
            refine xss_one (xs_set (R := plT t2) 0 nd (xPget hu1 (xp1 (xn 0) xint) (xn 5) h4) (nx_and ?_ ⟨?_, ?_⟩))
            · have e : nx (.op c subs, gone) = (t2, gone ++ [c]) := by
                show ((lookS subs ((nearN c l : Nat) : Int)).getD .no, gone ++ [c]) = _
                rw [h4]
                rfl
              rw [e]
              trivial
            · have e : nx (.op c subs, gone) = (t2, gone ++ [c]) := by
                show ((lookS subs ((nearN c l : Nat) : Int)).getD .no, gone ++ [c]) = _
                rw [h4]
                rfl
              rw [e]
              exact h5
            · show dep + 1 - (gone ++ [c]).length < dep + 1 - gone.length
              rw [List.length_append, List.length_singleton]
              omega
    · obtain ⟨t1, gone⟩ := a
      cases t1 with
      | op c subs => cases hb
      | no =>
        have e : r = (gone, true) := by
          cases ha with
          | no => rfl
        subst e
        exact (k rfl).le (by trivial)
  by_cases hr2 : r.2 = true
  · refine xss_cons (D := D) (Γ' := [.any, .any, .any, .mut (r.1.map encC), .any, .any]) (loop ⟨_, D.rt, D.bk, D.ct⟩ rfl fun _ => nx_of rfl) (xss_frz 3 (xss_one (xs_ret (XE.eq (xtup (ds := [.list (r.1.map encC), .bool true]) (xacons (xn 3) (xa1 xbool)) (by simp)) ?_) hrt)))
    unfold goD
    rw [hr2]
  · exact xss_last (loop ⟨_, D.rt, D.bk, D.ct⟩ rfl fun h => absurd h hr2)
end
end SL
set_option maxRecDepth 100000
set_option maxHeartbeats 4000000
namespace SL
open PySem L2 Evl
local macro_rules | `(tactic| trivial) => `(tactic| (repeat (first | exact SL.LeG.nil | refine SL.LeG.cons (by first | exact SL.Le.rfl _ | exact SL.Le.any _) ?_)); done)
section
variable {W : Wd} {X : Cx} {K : PySem.W.Frag} {Γ : List Sd}
theorem inV_false : ∀ bs : List Bool, (!inV (V.bl false) (bs.map V.bl)) = bs.all id
  | [] => rfl
  | b :: r => by
    have ih := inV_false r
    unfold inV at ih ⊢
    rw [List.map_cons, List.any_cons, List.all_cons, Bool.not_or, ih]
    cases b <;> rfl
theorem rv_notInB {bs : List Bool} : R2v W (rIn K true) (dB false) (dL (bs.map .bool)) (dB (bs.all id)) := fun x y G H o m1 m2 Q q => by
  cases Dq.bl_inv m1
  obtain ⟨a, vs, rfl, ha, hd⟩ := Dq.lst_inv m2
  cases hd.bools
  refine ⟨a, _, rfl, .inl (SqL.of (o.ex _ _ ha)), rfl, ?_, ?_⟩
  · rw [List.all_map, List.all_eq_true]
    exact fun _ _ => rfl
  · have e2 : (if true = true then !inV (V.bl false) (bs.map V.bl) else inV (V.bl false) (bs.map V.bl)) = bs.all id := by
      rw [if_pos rfl]
      exact inV_false bs
    rw [e2]
    exact q _ G H Rn.refl o (Dq.bl _)
theorem rv_isNT {ds : List PyData} : R2v W rIsNo (dT ds) dN (dB false) := fun x y G H o m1 m2 Q q => by
  cases Dq.non_inv m2
  obtain ⟨a, vs, rfl, _, _⟩ := Dq.tup_inv m1
  exact And.intro rfl (q _ G H Rn.refl o (Dq.bl _))
end
def alk (gone l o : List Cell) : Bool := (gone.map fun c => !decide (c ∈ o) && decide (((nearN c o : Nat) : Int) = ((nearN c l : Nat) : Int))).all id
def StOk (cells : List Cell) (some_ : List (List Cell)) (gone l : List Cell) (dep : Nat) : Prop := gone.length = dep ∨ ∀ c ∈ cells, c ∉ gone → ∀ o ∈ some_, alk gone l o = true → c ∈ o
structure Sm (cells : List Cell) (L : List (List Cell)) : Prop where
  c : cells.length ≤ 8
  l : L.length ≤ 256
  e : ∀ o ∈ L, o.length ≤ 8
def preStops : List Ty → Ty → Prop := fun Rs R => ∃ (cells : List Cell) (L : List (List Cell)) (gone l : List Cell) (dep : Nat), Rs = [dat (encL cells), dL (L.map encL), dat (encL gone), dat (encL l), dI (dep : Int)] ∧ R = dB true ∧ Sm cells L ∧ gone.length ≤ 100 ∧ l.length ≤ 1000 ∧ StOk cells L gone l dep
abbrev nSt : List Str := ["_law_cells_here", "_law_some", "_law_gone", "_law_laying", "_law_depth", "_law_alike", "_law_other", "_law_told", "_law_cell"]
abbrev nWl : List Str := ["_law_told", "_law_cells_here", "_law_some", "_law_depth", "_law_through", "_law_laying", "_law_found", "_law_cell"]
def preWalked : List Ty → Ty → Prop := fun Rs R => ∃ (t : Pl) (cells : List Cell) (L : List (List Cell)) (dep : Nat) (rr : List Cell → List Cell × Bool), Rs = [plT t, dat (encL cells), dL (L.map encL), dI (dep : Int)] ∧ R = dI (((L.filter fun l => (rr l).2).length : Nat) : Int) ∧ Sm cells L ∧ dep ≤ 100 ∧
  ∀ l ∈ L, GoP dep l t [] (rr l) ∧ (∀ c ∈ (rr l).1, c ∈ cells) ∧ (rr l).1.length ≤ 100 ∧ ((rr l).2 = true → StOk cells L (rr l).1 l dep)
section
variable {P : Program} {w : World} {K : PySem.W.Frag} {mg : Str → Option Value} {base : Heap}
theorem scSt : FnScope nSt ["_law_cells_here", "_law_some", "_law_gone", "_law_laying", "_law_depth"] (defScope sStops) := ⟨rfl, rfl, rfl, by decide +kernel, rfl, by decide +kernel, by decide +kernel⟩
theorem def_stops (S : Src K mg "_law_stops_rightly" sStops ["_law_cells_here", "_law_some", "_law_gone", "_law_laying", "_law_depth"]) (B : Bn mg) (A2 : Def P w K mg base 2 "_law_told_at" ["_law_laying", "_law_cell"] (spF W0 preToldAt)) : Def P w K mg base 3 "_law_stops_rightly" ["_law_cells_here", "_law_some", "_law_gone", "_law_laying", "_law_depth"] (spF W0 preStops) := by
  refine Def.of S scSt (fun Rs R h => by obtain ⟨a, b, c, d, e, rfl, _⟩ := h; rfl) fun f cdv A outer s H E hr Rs R hp F D hW hrt _ => ?_
  obtain ⟨cells, L, gone, l, dep, rfl, rfl, hs, hgl, hll, hok⟩ := hp
  have nd := scSt.nd
  have hc8 := hs.c
  have hl256 := hs.l
  refine xss_ifr (b := decide (gone.length = dep)) (XT.eq (xtcmp op_eq (xcallB call_lenS rfl B.len PySem.boot_len (xa1 (xn 2 (R := dL (gone.map encC)))) cr_len) (xn 4) rv_eqI (nomark _)) ?_) (fun h => xss_one (xs_ret xbool hrt)) (fun h => ?_)
  · rw [List.length_map, Bool.eq_iff_iff, decide_eq_true_iff, decide_eq_true_iff]
    omega
  have hnd := of_decide_eq_false h
  refine xss_cons (xs_nil 5 nd (nx_of rfl)) ?_
  refine xss_cons (D := D) (Γ' := [sd (encL cells), sd (.list (L.map encL)), sd (encL gone), sd (encL l), sd (.int (dep : Int)), .mut ((L.filter (alk gone l)).map encL), .any, .any, .any])
    (xs_forN 6 nd (xi_list (xs := L) (enc := encL) (xn 1)) (fun pre => [sd (encL cells), sd (.list (L.map encL)), sd (encL gone), sd (encL l), sd (.int (dep : Int)), .mut ((pre.filter (alk gone l)).map encL), .any, .any, .any]) (fun pre x post he Sg hS => ?_) (nx_of rfl)) ?_
  · have hx : x ∈ L := by rw [he]; simp
    have hx8 := hs.e x hx
    have hpl : pre.length ≤ 256 := by
      have := congrArg List.length he
      rw [List.length_append, List.length_cons] at this
      omega
    refine xss_cons (xs_lcN 7 8 [("_law_cell", 8)] (r := (gone.map fun c => !decide (c ∈ x) && decide (((nearN c x : Nat) : Int) = ((nearN c l : Nat) : Int))).map .bool) nd (xi_list (xs := gone) (enc := encC) (xn 2)) (blkOk_by (N := nSt) (sc := defScope sStops) (by decide +kernel)) (fun _ => true) (fun c => .bool (!decide (c ∈ x) && decide (((nearN c x : Nat) : Int) = ((nearN c l : Nat) : Int)))) (fun z _ => .none)
      (fun z hz _ s H C' cl fp => xand (k := !decide (z ∈ x)) (XE.eq (xcmp (op_notInD hr.u65) (xn 8) (xn 6) (rv_notInD (shaped_C _) (shaped_Cs _)) rfl) (by rw [any_C])) fun _ => xone (xcmp op_eq (xcall0 A2 hr rfl (xacons (xn 6) (xa1 (xn 8))) ⟨x, z, rfl, rfl, by omega⟩) (xcall0 A2 hr rfl (xacons (xn 3) (xa1 (xn 8))) ⟨l, z, rfl, rfl, hll⟩) rv_eqI (nomark _))) (by omega) (nx_of rfl) (by rw [filter_true, List.map_map]; rfl)) ?_
    refine xss_one (xs_if (b := alk gone l x) (xtcmp op_notIn_seq xbool (xn 7) rv_notInB rfl) (fun h => xss_one (xs_app (d := encL x) 5 rfl (xn 6) ?_ ?_)) (fun h => xss_nil ?_))
    · have := List.length_filter_le (alk gone l) pre
      rw [List.length_map]
      omega
    · rw [filter_map_snoc, if_pos h]
      exact nx_le (by trivial)
    · rw [filter_map_snoc, if_neg (by rw [h]; exact Bool.false_ne_true)]
      exact nx_le (by trivial)
  have hfl := List.length_filter_le (alk gone l) L
  refine xss_frz 5 (xss_cons (D := D) (Γ' := [sd (encL cells), sd (.list (L.map encL)), sd (encL gone), sd (encL l), sd (.int (dep : Int)), sd (.list ((L.filter (alk gone l)).map encL)), .any, .any, .any])
    (xs_forN 8 nd (xi_list (xs := cells) (enc := encC) (xn 0)) (fun pre => [sd (encL cells), sd (.list (L.map encL)), sd (encL gone), sd (encL l), sd (.int (dep : Int)), sd (.list ((L.filter (alk gone l)).map encL)), .any, .any, .any]) (fun pre x post he Sg hS => ?_) (nx_of rfl)) (xss_one (xs_ret xbool hrt)))
  have hx : x ∈ cells := by rw [he]; simp
  have hgood : x ∉ gone → (L.filter (alk gone l)).filter (fun o => !decide (x ∈ o)) = [] := fun hxg => by
    rw [List.filter_eq_nil_iff]
    intro o ho
    obtain ⟨h1, h2⟩ := List.mem_filter.mp ho
    rcases hok with h3 | h3
    · exact absurd h3 hnd
    · simp [h3 x hx hxg o h1 h2]
  refine xss_one (xs_if (b := false) (XW.t (XW.eq (xwand (k := !decide (x ∈ gone)) (XT.eq (xtcmp (op_notInD hr.u65) (xn 8) (xn 2) (rv_notInD (shaped_C _) (shaped_Cs _)) rfl) (by rw [any_C])) fun hh => xwand1 (k := false) (XT.eq (xtcmp (op_neD hr.units) (xlcN 6 [("_law_other", 6)] (r := ((L.filter (alk gone l)).filter (fun o => !decide (x ∈ o))).map encL) nd (xi_list (xs := L.filter (alk gone l)) (enc := encL) (xn 5)) (blkOk_by (N := nSt) (sc := defScope sStops) (by decide +kernel)) (fun o => !decide (x ∈ o)) encL
    (fun z hz => .one fun s H C' cl fp => XT.eq (xtcmp (op_notInD hr.u65) (xn 8) (xn 6) (rv_notInD (shaped_C _) (shaped_Cs _)) rfl) (by rw [any_C])) (fun z hz _ s H C' cl fp => xn 6) (by omega)) (xlst (ds := []) xanil (by simp)) (rv_neD (shaped_Ls _) shaped_nil) rfl) ?_)) ?_)) (fun h => by cases h) (fun h => xss_nil (nx_le (by trivial))))
  · have hxg : x ∉ gone := by simpa using hh
    rw [eqv_nilL, hgood hxg]
    rfl
  · rw [Bool.and_false]
theorem scWl : FnScope nWl ["_law_told", "_law_cells_here", "_law_some", "_law_depth"] (defScope sWalked) := ⟨rfl, rfl, rfl, by decide +kernel, rfl, by decide +kernel, by decide +kernel⟩
theorem def_walked (S : Src K mg "_law_walked" sWalked ["_law_told", "_law_cells_here", "_law_some", "_law_depth"]) (B : Bn mg) (A1 : Def P w K mg base 3 "_law_goes" ["_law_told", "_law_laying", "_law_depth"] (spF W0 preGoes)) (A2 : Def P w K mg base 3 "_law_stops_rightly" ["_law_cells_here", "_law_some", "_law_gone", "_law_laying", "_law_depth"] (spF W0 preStops)) : Def P w K mg base 4 "_law_walked" ["_law_told", "_law_cells_here", "_law_some", "_law_depth"] (spF W0 preWalked) := by
  refine Def.of S scWl (fun Rs R h => by obtain ⟨a, b, c, d, e, rfl, _⟩ := h; rfl) fun f cdv A outer s H E hr Rs R hp F D hW hrt _ => ?_
  obtain ⟨t, cells, L, dep, rr, rfl, rfl, hs, hdep, hall⟩ := hp
  have nd := scWl.nd
  refine xss_cons (xs_set 4 nd xint (nx_of rfl)) ?_
  refine xss_cons (D := D) (Γ' := [.ty (plT t), sd (encL cells), sd (.list (L.map encL)), sd (.int (dep : Int)), sd (.int (((L.filter fun l => (rr l).2).length : Nat) : Int)), .any, .any, .any])
    (xs_forN 5 nd (xi_list (xs := L) (enc := encL) (xn 2)) (fun pre => [.ty (plT t), sd (encL cells), sd (.list (L.map encL)), sd (.int (dep : Int)), sd (.int (((pre.filter fun l => (rr l).2).length : Nat) : Int)), .any, .any, .any]) (fun pre x post he Sg hS => ?_) (nx_of rfl)) (xss_one (xs_ret (xn 4) hrt))
  have hx : x ∈ L := by rw [he]; simp
  have hx8 := hs.e x hx
  obtain ⟨h1, h2, h3, h4⟩ := hall x hx
  refine xss_cons (xs_set (R := dat (goD (rr x))) 6 nd (xcall0 A1 hr rfl (xacons (xn 0) (xacons (xn 5) (xa1 (xn 3)))) ⟨t, x, dep, rr x, rfl, rfl, h1, by omega, hdep⟩) (nx_of rfl)) ?_
  refine xss_ifr (b := false) (XW.t (XW.eq (xwor (xtcmp op_isNo (xn 6) xnone rv_isNT rfl) fun _ => xwor1 (xtcmp (op_neD hr.units) (xlcN 7 [("_law_cell", 7)] (r := (((rr x).1.filter fun c => !decide (c ∈ cells)).map encC)) nd (xi_list (xs := (rr x).1) (enc := encC) (xix ix_tup (xn 6) xint (rv_ixT (d := .list ((rr x).1.map encC)) rfl) (fun _ _ => rfl))) (blkOk_by (N := nWl) (sc := defScope sWalked) (by decide +kernel)) (fun c => !decide (c ∈ cells)) encC
    (fun z hz => .one fun s H C' cl fp => XT.eq (xtcmp (op_notInD hr.u65) (xn 7) (xn 1) (rv_notInD (shaped_C _) (shaped_Cs _)) rfl) (by rw [any_C])) (fun z hz _ s H C' cl fp => xn 7) (by omega)) (xlst (ds := []) xanil (by simp)) (rv_neD (shaped_Cs _) shaped_nil) rfl)) ?_)) (fun h => by cases h) (fun _ => ?_)
  · have e : (rr x).1.filter (fun c => !decide (c ∈ cells)) = [] := by
      rw [List.filter_eq_nil_iff]
      intro c hc
      simp [h2 c hc]
    rw [eqv_nilC, e]
    rfl
  refine xss_one (xs_if (b := (rr x).2) (xtval (xix ix_tup (xn 6) xint (rv_ixT (d := .bool (rr x).2) rfl) (fun _ _ => rfl))) (fun h => ?_) (fun h => xss_nil ?_))
  · refine xss_cons (xs_set (R := dI (((pre.filter fun l => (rr l).2).length + 1 : Nat) : Int)) 4 nd (XE.eq (xop op_add (xn 4) xint rv_int) (by congr 1 <;> omega)) (nx_of rfl)) ?_
    refine xss_one (xs_if (b := false) (xtnot (k := true) (xtval (xcall0 A2 hr rfl (xacons (xn 1) (xacons (xn 2) (xacons (xix ix_tup (xn 6) xint (rv_ixT (d := .list ((rr x).1.map encC)) rfl) (fun _ _ => rfl)) (xacons (xn 5) (xa1 (xn 3)))))) ⟨cells, L, (rr x).1, x, dep, rfl, rfl, hs, h3, by omega, h4 h⟩))) (fun h => by cases h) (fun _ => xss_nil ?_))
    have e : ((pre ++ [x]).filter fun l => (rr l).2).length = (pre.filter fun l => (rr l).2).length + 1 := by
      rw [List.filter_append, List.length_append, List.filter_cons, if_pos h]
      rfl
    rw [e]
    exact nx_le (by trivial)
  · have e : ((pre ++ [x]).filter fun l => (rr l).2).length = (pre.filter fun l => (rr l).2).length := by
      rw [List.filter_append, List.length_append, List.filter_cons, if_neg (by rw [h]; exact Bool.false_ne_true)]
      rfl
    rw [e]
    exact nx_le (by trivial)
end
end SL
set_option maxRecDepth 100000
set_option maxHeartbeats 4000000
namespace SL
open PySem L2 Evl
local macro_rules | `(tactic| trivial) => `(tactic| (repeat (first | exact SL.LeG.nil | refine SL.LeG.cons (by first | exact SL.Le.rfl _ | exact SL.Le.any _) ?_)); done)
theorem map_erase {α β : Type} (f : α → β) : ∀ (l : List α) (k : Nat), (l.eraseIdx k).map f = (l.map f).eraseIdx k
  | [], _ => rfl
  | _ :: _, 0 => rfl
  | a :: r, k + 1 => by
    show f a :: (r.eraseIdx k).map f = f a :: (r.map f).eraseIdx k
    rw [map_erase f r k]
section
variable {F : Fx} {X : Cx} {Γ : List Sd} {D : Ends} {pos : Pos}
/-- y = l.pop(e) -/
theorem xs_popAt (i s : Nat) {x y : Str} {np ap cp pos' : Pos} {e : Expr} {ds : List PyData} {d : PyData} {k : Nat} (hN : X.N.Nodup) (his : i ≠ s) (hG : Γ[s]? = some (.mut ds)) (he : XE F.W X e Γ (dI (k : Int))) (hk : ds[k]? = some d) (hl : ds.length ≤ 1000)
    (kk : Nx F ((Γ.set s (.mut (ds.eraseIdx k))).set i (sd d)) D) (hNs : X.N[s]? = some x := by rfl) (hNi : X.N[i]? = some y := by rfl) (hx : Loc X.env.scope y := by first | exact Or.inl rfl | exact Or.inr rfl)
    (hv : Vis X.env.scope x := by first | exact Or.inl rfl | exact Or.inr (Or.inl rfl) | exact Or.inr (Or.inr rfl)) (hd : (x == ("__debug__" : Str)) = false := by decide) (hcd : (x == ("__classdict__" : Str)) = false := by decide)
    (hpe : ∀ {te to : TE}, PE X (.Name x np) to → PE X e te → PE X (.Call (.Attribute (.Name x np) "pop" ap) [e] [] cp) (tBM X.K "list" rPopAt to (tCons te tNil)) := by intro te to h0 h; exact pe_bm PySem.F.plainAttrs_list PySem.F.slot_list_pop PySem.F.type_list_pop mt_popAt h0 (pa_cons h pa_nil))
    (hs : swapsWith (.Call (.Attribute (.Name x np) "pop" ap) [e] [] cp) (some (.Name y pos')) pos.line X.env = pure false := by rfl) (hf : X.fn y = true ∨ X.env.scope.names.lookup y = some .local := by first | exact .inl rfl | exact .inr rfl) :
    XS F X (.Assign [.Name y pos'] (.Call (.Attribute (.Name x np) "pop" ap) [e] [] cp) pos) Γ D := by
  obtain ⟨t, a1, a2⟩ := he
  refine ⟨_, ps_set hN hNi hx (hpe (pe_var hNs hv hd hcd) a1) hs hf, fun σ H ⟨G, a⟩ => ?_⟩
  obtain ⟨l, _, e1, h1, h2, h3, h4, xs, rfl, h5⟩ := a.sl.mu s _ hG
  refine ⟨_, e1, .inl ⟨rfl, _, SqL.of h1⟩, a2 _ σ G H a.ok a.sl _ fun v G1 H1 r1 o1 m1 => ?_⟩
  cases Dq.int_inv m1
  have a3 := a.run r1 o1
  have g1 := r1.hh _ _ h4 h1
  have h5' := h5.mono r1.gg
  obtain ⟨u, hu, du⟩ := h5'.get hk
  have hklt : k < xs.length := (List.getElem?_eq_some_iff.mp hu).1
  have hxl : xs.length ≤ 1000 := by rw [h5.len]; exact hl
  have hix : ixN xs.length (k : Int) = some k := by
    unfold ixN
    rw [if_pos (by omega)]
    simp [hklt]
  have a4 := a3.upOwn (S := lstO (ds.eraseIdx k)) hG e1 (o := .lst (xs.eraseIdx k)) ⟨_, rfl, h5'.erase k⟩
  refine ⟨l, xs, (k : Int), k, u, rfl, rfl, g1, by omega, by omega, (ixN_seq hix).1, hu, kk _ _ ⟨G1, a4.rn, a4.ok, a4.sl.set (i := i) (R := dat d) du, a4.g⟩⟩
end
abbrev RvS := List Cell × Nat × Bool
def stepR (cs : List Int) (l : List Cell) (s : Nat) (a : RvS) : RvS :=
  if a.2.2 = true then (a.1.eraseIdx (mixZ (cellK cs (4 + (a.2.1 + 5 * s) % 58)) (a.2.1 : Int) % (a.1.length : Int)).toNat,
    9 * a.2.1 + 1 + nearN (a.1.getD (mixZ (cellK cs (4 + (a.2.1 + 5 * s) % 58)) (a.2.1 : Int) % (a.1.length : Int)).toNat (0, 0)) l,
    !decide (a.1.getD (mixZ (cellK cs (4 + (a.2.1 + 5 * s) % 58)) (a.2.1 : Int) % (a.1.length : Int)).toNat (0, 0) ∈ l)) else a
def runR (cs : List Int) (l : List Cell) (a : RvS) (ss : List Nat) : RvS := ss.foldl (fun a s => stepR cs l s a) a
def rivS (cs : List Int) (cells : List Cell) (dep k : Nat) (l : List Cell) : Bool := (runR cs l (cells, k, true) (List.range (min dep cells.length))).2.2
theorem runR_snoc (cs : List Int) (l : List Cell) (a : RvS) (ss : List Nat) (s : Nat) : runR cs l a (ss ++ [s]) = stepR cs l s (runR cs l a ss) := by
  unfold runR
  rw [List.foldl_append]
  rfl
theorem run_facts {cs : List Int} {l : List Cell} {cells : List Cell} {k : Nat} (hl : l.length ≤ 8) (hk : k ≤ 30) : ∀ ss : List Nat, cells.length ≤ (runR cs l (cells, k, true) ss).1.length + ss.length ∧ (runR cs l (cells, k, true) ss).1.length ≤ cells.length ∧ (runR cs l (cells, k, true) ss).2.1 ≤ 30 * 10 ^ ss.length := by
  refine snoc_ind ⟨Nat.le_refl _, Nat.le_refl _, by simpa [runR] using hk⟩ fun ss s ih => ?_
  obtain ⟨h1, h2, h3⟩ := ih
  rw [runR_snoc, List.length_append, List.length_singleton, Nat.pow_succ]
  generalize runR cs l (cells, k, true) ss = a at h1 h2 h3
  have hp : 0 < 10 ^ ss.length := Nat.pow_pos (by decide)
  unfold stepR
  by_cases h : a.2.2 = true
  · rw [if_pos h]
    refine ⟨?_, ?_, ?_⟩
    · show cells.length ≤ (a.1.eraseIdx _).length + _
      rw [List.length_eraseIdx]
      split <;> omega
    · show (a.1.eraseIdx _).length ≤ _
      rw [List.length_eraseIdx]
      split <;> omega
    · have hn : ∀ c, nearN c l ≤ 8 := fun c => Nat.le_trans (List.length_filter_le _ _) hl
      have := hn (a.1.getD (mixZ (cellK cs (4 + (a.2.1 + 5 * s) % 58)) (a.2.1 : Int) % (a.1.length : Int)).toNat (0, 0))
      show 9 * a.2.1 + 1 + nearN _ l ≤ _
      omega
  · rw [if_neg h]
    exact ⟨by omega, h2, by omega⟩
def preRival (K : PySem.W.Frag) : List Ty → Ty → Prop := fun Rs R => ∃ (cs : List Int) (cells : List Cell) (L : List (List Cell)) (dep k : Nat), Rs = [scTy K cs, dat (encL cells), dL (L.map encL), dI (dep : Int), dI (k : Int)] ∧ R = dI (((L.filter (rivS cs cells dep k)).length : Nat) : Int) ∧ Sm cells L ∧ dep ≤ 3 ∧ k ≤ 30
abbrev nRi : List Str := ["_law_script", "_law_cells_here", "_law_some", "_law_depth", "_law_k", "_law_through", "_law_laying", "_law_left", "_law_seed", "_law_safe", "_law_step", "_law_cell"]
section
variable {P : Program} {w : World} {K : PySem.W.Frag} {mg : Str → Option Value} {base : Heap}
theorem scRi : FnScope nRi ["_law_script", "_law_cells_here", "_law_some", "_law_depth", "_law_k"] (defScope sRival) := ⟨rfl, rfl, rfl, by decide +kernel, rfl, by decide +kernel, by decide +kernel⟩
theorem def_rival (S : Src K mg "_law_rival" sRival ["_law_script", "_law_cells_here", "_law_some", "_law_depth", "_law_k"]) (B : Bn mg) (A1 : Def P w K mg base 1 "_law_cell_at" ["_law_script", "_law_k"] (spF W0 (preCellAt K))) (A2 : Def P w K mg base 1 "_law_mixed" ["_law_cell", "_law_k"] (spF W0 preMixed))
    (A3 : Def P w K mg base 2 "_law_told_at" ["_law_laying", "_law_cell"] (spF W0 preToldAt)) : Def P w K mg base 3 "_law_rival" ["_law_script", "_law_cells_here", "_law_some", "_law_depth", "_law_k"] (spF W0 (preRival K)) := by
  refine Def.of S scRi (fun Rs R h => by obtain ⟨a, b, c, d, e, rfl, _⟩ := h; rfl) fun f cdv A outer s H E hr Rs R hp F D hW hrt _ => ?_
  obtain ⟨cs, cells, L, dep, k, rfl, rfl, hs, hdep, hk⟩ := hp
  have nd := scRi.nd
  have hc8 := hs.c
  refine xss_cons (xs_set 5 nd xint (nx_of rfl)) ?_
  refine xss_cons (D := D) (Γ' := [.ty (scTy K cs), sd (encL cells), sd (.list (L.map encL)), sd (.int (dep : Int)), sd (.int (k : Int)), sd (.int (((L.filter (rivS cs cells dep k)).length : Nat) : Int)), .any, .any, .any, .any, .any, .any])
    (xs_forN 6 nd (xi_list (xs := L) (enc := encL) (xn 2)) (fun pre => [.ty (scTy K cs), sd (encL cells), sd (.list (L.map encL)), sd (.int (dep : Int)), sd (.int (k : Int)), sd (.int (((pre.filter (rivS cs cells dep k)).length : Nat) : Int)), .any, .any, .any, .any, .any, .any]) (fun pre x post he Sg hS => ?_) (nx_of rfl)) (xss_one (xs_ret (xn 5) hrt))
  have hx : x ∈ L := by rw [he]; simp
  have hx8 := hs.e x hx
  refine xss_cons (xs_copy 7 (ds := cells.map encC) nd rfl B.list (by decide +kernel) (xn 1 (R := dL (cells.map encC))) (nx_of rfl)) ?_
  refine xss_cons (xs_set 8 nd (xn 4) (nx_of rfl)) ?_
  refine xss_cons (xs_set 9 nd xbool (nx_of rfl)) ?_
  have emin : (if ((cells.length : Nat) : Int) < (dep : Int) then ((cells.length : Nat) : Int) else (dep : Int)).toNat = min dep cells.length := by
    split <;> omega
  let Γi : List Nat → List Sd := fun ss => [.ty (scTy K cs), sd (encL cells), sd (.list (L.map encL)), sd (.int (dep : Int)), sd (.int (k : Int)), sd (.int (((pre.filter (rivS cs cells dep k)).length : Nat) : Int)), sd (encL x), .mut ((runR cs x (cells, k, true) ss).1.map encC), sd (.int ((runR cs x (cells, k, true) ss).2.1 : Int)), sd (.bool (runR cs x (cells, k, true) ss).2.2), .any, .any]
  refine xss_cons (Γ' := Γi (List.range (min dep cells.length))) (xs_forN 10 nd (XI.eq (xi_range1 rfl B.range (xcallB (call_min2I rfl) rfl B.min (by decide +kernel) (xacons (xn 3) (xa1 (XE.eq (xcallB call_lenS rfl B.len PySem.boot_len (xa1 (xn 1 (R := dL (cells.map encC)))) cr_len) (d' := .int ((cells.length : Nat) : Int)) (by rw [List.length_map])))) cr_min2) ⟨by split <;> omega, by split <;> omega⟩) (by rw [emin])) Γi (fun ss y post' he' Sg' hS' => ?_) (nx_of rfl)) ?_
  · obtain ⟨f1, f2, f3⟩ := run_facts (cs := cs) (l := x) (cells := cells) (k := k) hx8 hk ss
    have hsl : ss.length < min dep cells.length := by
      have := congrArg List.length he'
      rw [List.length_range, List.length_append, List.length_cons] at this
      omega
    have hys : y = ss.length := by
      have h1 : (List.range (min dep cells.length))[ss.length]? = some y := by rw [he']; simp
      exact (rng_get h1).1
    have hp10 : 10 ^ ss.length ≤ 10 ^ 3 := Nat.pow_le_pow_right (by decide) (by omega)
    have hsnoc := runR_snoc cs x (cells, k, true) ss y
    obtain ⟨a, ea⟩ : ∃ a, a = runR cs x (cells, k, true) ss := ⟨_, rfl⟩
    rw [← ea] at f1 f2 f3 hsnoc
    show XSs _ _ _ ([.ty (scTy K cs), sd (encL cells), sd (.list (L.map encL)), sd (.int (dep : Int)), sd (.int (k : Int)), sd (.int (((pre.filter (rivS cs cells dep k)).length : Nat) : Int)), sd (encL x), .mut ((runR cs x (cells, k, true) ss).1.map encC), sd (.int ((runR cs x (cells, k, true) ss).2.1 : Int)), sd (.bool (runR cs x (cells, k, true) ss).2.2), sd (.int (y : Int)), .any]) _
    rw [← ea]
    obtain ⟨lf, sd', sf⟩ := a
    have f1 : cells.length ≤ lf.length + ss.length := f1
    have f2 : lf.length ≤ cells.length := f2
    have f3 : sd' ≤ 30 * 10 ^ ss.length := f3
    have hlf : 0 < lf.length := by omega
    refine xss_one (xs_if (b := sf) (xtval (xn 9)) (fun h => ?_) (fun h => xss_nil ?_))
    · subst h
      obtain ⟨i, ei⟩ : ∃ i, i = (mixZ (cellK cs (4 + (sd' + 5 * y) % 58)) (sd' : Int) % (lf.length : Int)).toNat := ⟨_, rfl⟩
      have hi0 : 0 ≤ mixZ (cellK cs (4 + (sd' + 5 * y) % 58)) (sd' : Int) % (lf.length : Int) := Int.emod_nonneg _ (by omega)
      have hi1 : mixZ (cellK cs (4 + (sd' + 5 * y) % 58)) (sd' : Int) % (lf.length : Int) < (lf.length : Int) := Int.emod_lt_of_pos _ (by omega)
      have hil : i < lf.length := by omega
      obtain ⟨c, ec⟩ : ∃ c, c = lf.getD i (0, 0) := ⟨_, rfl⟩
      have hget : (lf.map encC)[i]? = some (encC c) := by
        rw [List.getElem?_map, List.getElem?_eq_getElem hil, ec, List.getD_eq_getElem?_getD, List.getElem?_eq_getElem hil]
        rfl
      have hst : stepR cs x y (lf, sd', true) = (lf.eraseIdx i, 9 * sd' + 1 + nearN c x, !decide (c ∈ x)) := by
        unfold stepR
        rw [if_pos rfl, ec, ei]
      rw [hst] at hsnoc
      refine xss_cons (xs_popAt 11 7 (k := i) (d := encC c) nd (by decide) rfl (XE.eq (xop op_mod (xcall0 A2 (hr.mono (by decide)) rfl (xacons (xcall0 A1 (hr.mono (by decide)) rfl (xacons (xn 0) (xa1 (XE.eq (xop op_add xint (xop op_mod (xop op_add (xn 8) (xop op_mul xint (xn 10) (rv_mul (.inl ⟨by decide, by decide⟩))) rv_int) xint (rv_mod (by decide))) rv_int) (d' := .int ((4 + (sd' + 5 * y) % 58 : Nat) : Int)) (by congr 1 <;> omega)))) ⟨cs, _, rfl, rfl⟩) (xa1 (xn 8))) ⟨_, _, rfl, rfl, by omega, by omega⟩)
        (XE.eq (xlenM 7 rfl rfl B.len PySem.boot_len) (d' := .int (lf.length : Int)) (by rw [List.length_map])) (rv_mod (by omega))) (by rw [ei]; exact congrArg PyData.int (Int.toNat_of_nonneg hi0).symm)) hget (by rw [List.length_map]; omega) (nx_of rfl)) ?_
      refine xss_cons (xs_set (R := dB (!decide (c ∈ x))) 9 nd (XE.eq (xcmp (op_notInD hr.u65) (xn 11) (xn 6) (rv_notInD (shaped_C _) (shaped_Cs _)) rfl) (by rw [any_C])) (nx_of rfl)) ?_
      refine xss_one (xs_set (R := dI ((9 * sd' + 1 + nearN c x : Nat) : Int)) 8 nd (XE.eq (xop op_add (xop op_add (xop op_mul xint (xn 8) (rv_mul (.inl ⟨by decide, by decide⟩))) xint rv_int) (xcall0 A3 hr rfl (xacons (xn 6) (xa1 (xn 11))) ⟨x, c, rfl, rfl, by omega⟩) rv_int) (by congr 1 <;> omega)) ?_)
      have e1 : (lf.map encC).eraseIdx i = (lf.eraseIdx i).map encC := (map_erase _ _ _).symm
      show Nx _ [.ty (scTy K cs), sd (encL cells), sd (.list (L.map encL)), sd (.int (dep : Int)), sd (.int (k : Int)), sd (.int (((pre.filter (rivS cs cells dep k)).length : Nat) : Int)), sd (encL x), .mut ((lf.map encC).eraseIdx i), sd (.int ((9 * sd' + 1 + nearN c x : Nat) : Int)), sd (.bool (!decide (c ∈ x))), sd (.int (y : Int)), sd (encC c)] _
      rw [e1]
      have e2 : Γi (ss ++ [y]) = [.ty (scTy K cs), sd (encL cells), sd (.list (L.map encL)), sd (.int (dep : Int)), sd (.int (k : Int)), sd (.int (((pre.filter (rivS cs cells dep k)).length : Nat) : Int)), sd (encL x), .mut ((lf.eraseIdx i).map encC), sd (.int ((9 * sd' + 1 + nearN c x : Nat) : Int)), sd (.bool (!decide (c ∈ x))), .any, .any] := by
        show [_, _, _, _, _, _, _, Sd.mut ((runR cs x (cells, k, true) (ss ++ [y])).1.map encC), sd (.int ((runR cs x (cells, k, true) (ss ++ [y])).2.1 : Int)), sd (.bool (runR cs x (cells, k, true) (ss ++ [y])).2.2), _, _] = _
        rw [hsnoc]
      rw [e2]
      exact nx_le (by trivial)
    · subst h
      have hst : stepR cs x y (lf, sd', false) = (lf, sd', false) := by
        unfold stepR
        rw [if_neg (by exact Bool.false_ne_true)]
      rw [hst] at hsnoc
      have e2 : Γi (ss ++ [y]) = [.ty (scTy K cs), sd (encL cells), sd (.list (L.map encL)), sd (.int (dep : Int)), sd (.int (k : Int)), sd (.int (((pre.filter (rivS cs cells dep k)).length : Nat) : Int)), sd (encL x), .mut (lf.map encC), sd (.int (sd' : Int)), sd (.bool false), .any, .any] := by
        show [_, _, _, _, _, _, _, Sd.mut ((runR cs x (cells, k, true) (ss ++ [y])).1.map encC), sd (.int ((runR cs x (cells, k, true) (ss ++ [y])).2.1 : Int)), sd (.bool (runR cs x (cells, k, true) (ss ++ [y])).2.2), _, _] = _
        rw [hsnoc]
      rw [e2]
      exact nx_le (by trivial)
  · have hsf : rivS cs cells dep k x = (runR cs x (cells, k, true) (List.range (min dep cells.length))).2.2 := rfl
    refine xss_one (xs_set (R := dI ((((pre ++ [x]).filter (rivS cs cells dep k)).length : Nat) : Int)) 5 nd (XE.eq (xop op_add (xn 5) (xcallTy call_intB rfl B.int (by decide +kernel) (xa1 (xn 9)) cr_intB) rv_int) ?_) (nx_le (by trivial)))
    rw [← hsf, List.filter_append, List.length_append, List.filter_cons]
    cases rivS cs cells dep k x <;> simp
end
end SL
set_option maxRecDepth 100000
set_option maxHeartbeats 4000000
namespace SL
open PySem L2 Evl
local macro_rules | `(tactic| trivial) => `(tactic| (repeat (first | exact SL.LeG.nil | refine SL.LeG.cons (by first | exact SL.Le.rfl _ | exact SL.Le.any _) ?_)); done)
def hgtLe : Nat → Pl → Prop
  | _, .no => True
  | 0, .op _ _ => False
  | n + 1, .op _ subs => ∀ x ∈ subs, hgtLe n x.2
/-! ### a heap changed at a dict -/
mutual
theorem Dq.chg {G G' : Hp} {d : Addr} {kvs : List (Key × V)} (hd : G d = some (.dK kvs)) (h : ∀ a, a ≠ d → G' a = G a) : ∀ {v : V} {e : PyData}, Dq G v e → Dq G' v e
  | _, _, .non => .non
  | _, _, .bl b => .bl b
  | _, _, .int i => .int i
  | _, _, .str x => .str x
  | _, _, .lst g t => .lst ((h _ (fun z => by rw [z, hd] at g; cases g)).trans g) (DqAll.chg hd h t)
  | _, _, .tup g t => .tup ((h _ (fun z => by rw [z, hd] at g; cases g)).trans g) (DqAll.chg hd h t)
theorem DqAll.chg {G G' : Hp} {d : Addr} {kvs : List (Key × V)} (hd : G d = some (.dK kvs)) (h : ∀ a, a ≠ d → G' a = G a) : ∀ {vs : List V} {es : List PyData}, DqAll G vs es → DqAll G' vs es
  | _, _, .nil => .nil
  | _, _, .cons a t => .cons (Dq.chg hd h a) (DqAll.chg hd h t)
end
mutual
theorem PlA.chg {G G' : Hp} {d : Addr} {kvs : List (Key × V)} (hd : G d = some (.dK kvs)) (h : ∀ a, a ≠ d → G' a = G a) : ∀ {v : V} {t : Pl} {as : List Addr}, PlA G v t as → d ∉ as → PlA G' v t as
  | _, _, _, .no, _ => .no
  | _, _, _, .op (a := a) (d := b) h1 h2 h3 h4 h5, n => .op ((h _ (fun z => by rw [z, hd] at h1; cases h1)).trans h1) (h2.chg hd h) ((h _ (fun z => n (by rw [z]; simp))).trans h3) (PlAs.chg hd h h4 fun z => n (List.mem_cons_of_mem _ z)) h5
theorem PlAs.chg {G G' : Hp} {d : Addr} {kvs : List (Key × V)} (hd : G d = some (.dK kvs)) (h : ∀ a, a ≠ d → G' a = G a) : ∀ {r : List (Key × V)} {s : List (Int × Pl)} {as : List Addr}, PlAs G r s as → d ∉ as → PlAs G' r s as
  | _, _, _, .nil, _ => .nil
  | _, _, _, .cons h1 h2, n => .cons (PlA.chg hd h h1 fun z => n (List.mem_append_left _ z)) (PlAs.chg hd h h2 fun z => n (List.mem_append_right _ z))
end
abbrev Part := Int × V × Pl × List Addr
theorem PlAs.parts {G : Hp} : ∀ {r : List (Key × V)} {s : List (Int × Pl)} {as : List Addr}, PlAs G r s as → ∃ ps : List Part, r = ps.map (fun p => ((Sum.inl p.1 : Key), p.2.1)) ∧ s = ps.map (fun p => (p.1, p.2.2.1)) ∧ as = ps.flatMap (fun p => p.2.2.2) ∧ ∀ p ∈ ps, PlA G p.2.1 p.2.2.1 p.2.2.2
  | _, _, _, .nil => ⟨[], rfl, rfl, rfl, by simp⟩
  | _, _, _, .cons (n := n) (v := v) (t := t) (as := as) h1 h2 => by
    obtain ⟨ps, e1, e2, e3, e4⟩ := PlAs.parts h2
    refine ⟨(n, v, t, as) :: ps, by rw [e1]; rfl, by rw [e2]; rfl, by rw [e3]; rfl, fun p hp => ?_⟩
    rcases List.mem_cons.mp hp with z | z
    · subst z; exact h1
    · exact e4 p z
theorem nodup_part {α β : Type} {f : α → List β} : ∀ {ps : List α} {p : α}, (ps.flatMap f).Nodup → p ∈ ps → (f p).Nodup
  | q :: ps, p, nd, hp => by
    rw [List.flatMap_cons, List.nodup_append] at nd
    rcases List.mem_cons.mp hp with z | z
    · subst z; exact nd.1
    · exact nodup_part nd.2.1 z
theorem parts_val : ∀ {ps : List Part} {p : Part}, (ps.map (fun p => p.1)).Nodup → p ∈ ps → valV (ps.map (fun p => ((Sum.inl p.1 : Key), p.2.1))) (Sum.inl p.1) = some p.2.1
  | q :: ps, p, nd, hp => by
    rw [List.map_cons, List.nodup_cons] at nd
    rw [List.map_cons]
    rcases List.mem_cons.mp hp with z | z
    · subst z
      exact valV_pos rfl
    · rw [valV_neg (fun e => nd.1 (by rw [show q.1 = p.1 from Sum.inl.inj e]; exact List.mem_map.mpr ⟨p, z, rfl⟩))]
      exact parts_val nd.2 z
def plAT (t : Pl) (as : List Addr) : Ty := ⟨fun G v => PlA G v t as, fun e h => h.mono e⟩
def refsTy (as : List Addr) : Ty := ⟨fun G v => ∃ l, v = .ref l ∧ G l = some (.lst (as.map V.ref)), fun e h => let ⟨l, h1, h2⟩ := h; ⟨l, h1, e _ _ h2⟩⟩
def refsO (as : List Addr) : OTy := ⟨fun _ o => o = .lst (as.map V.ref), fun _ h => h⟩
def opTy (a d : Addr) (x : V) (ps : List Part) : Ty := ⟨fun G v => v = .ref a ∧ G a = some (.tup [x, .ref d]) ∧ ∀ p ∈ ps, PlA G p.2.1 p.2.2.1 p.2.2.2, fun e h => ⟨h.1, e _ _ h.2.1, fun p hp => (h.2.2 p hp).mono e⟩⟩
/-- the world while the dict at d is locked -/
def Wlk (d : Addr) (od : Obj) (kvs : List (Key × V)) : Wd where
  hid := fun a => a = d
  inv := fun G H => G d = none ∧ H d = some (.frz od (.dK kvs))
  up := fun {G H G' H'} h e k n => ⟨n d rfl h.1, k d _ rfl h.2⟩
  on := fun {G H a} h e => by
    subst e
    rw [h.2]
    exact fun z => nomatch z
  off := fun {G H a} h e => by
    subst e
    exact h.1
def lkF (F : Fx) (d : Addr) (od : Obj) (kvs : List (Key × V)) : Fx := ⟨Wlk d od kvs, F.G0, F.H0, F.gh, F.ghm⟩
section
variable {F : Fx} {Γ : List Sd} {σ : L2.St} {G H : Hp} {d : Addr} {od : Obj} {kvs : List (Key × V)}
theorem at_lock (hW : F.W = W0) (a : At F Γ σ G H) (h0 : F.H0 d ≠ none) (hG : G d = none) : At (lkF F d od kvs) Γ σ G (upd H d (.frz od (.dK kvs))) := by
  obtain ⟨FW, G0, H0, gh, ghm⟩ := F
  cases hW
  refine ⟨⟨a.rn.gg, fun b u n e => ?_, fun b e => ?_, a.rn.dj⟩, ⟨fun b u e => ?_, hG, upd_same⟩, ⟨a.sl.len, a.sl.ty, fun i R hi => ?_, a.sl.ap⟩, a.g⟩
  · have n : b ≠ d := n
    rw [upd_ne n]
    exact a.rn.hh b u (fun z => z) e
  · by_cases z : b = d
    · subst z; rw [upd_same]; exact fun y => nomatch y
    · rw [upd_ne z]; exact a.rn.hd b e
  · have z : b ≠ d := fun z => by rw [z, hG] at e; cases e
    rw [upd_ne z]
    exact a.ok.ex b u e
  · obtain ⟨l, o, e1, h1, h2, h3, h4, h5⟩ := a.sl.mu i R hi
    have z : l ≠ d := fun z => h0 (z ▸ h3)
    exact ⟨l, o, e1, by rw [upd_ne z]; exact h1, h2, h3, z, h5⟩
theorem at_unlock (hW : F.W = W0) (a : At (lkF F d od kvs) Γ σ G H) (h0 : F.H0 d = some (.dK kvs)) : H d = some (.frz od (.dK kvs)) ∧ At F Γ σ G (upd H d (.dK kvs)) := by
  obtain ⟨FW, G0, H0, gh, ghm⟩ := F
  cases hW
  obtain ⟨i1, i2⟩ := a.ok.inv
  refine ⟨i2, ⟨a.rn.gg, fun b u n e => ?_, fun b e => ?_, a.rn.dj⟩, ⟨fun b u e => ?_, trivial⟩, ⟨a.sl.len, a.sl.ty, fun i R hi => ?_, a.sl.ap⟩, a.g⟩
  · by_cases z : b = d
    · subst z
      have h0 : H0 b = some (.dK kvs) := h0
      rw [upd_same]
      exact h0.symm.trans e
    · rw [upd_ne z]
      exact a.rn.hh b u z e
  · by_cases z : b = d
    · subst z; rw [upd_same]; exact fun y => nomatch y
    · rw [upd_ne z]; exact a.rn.hd b e
  · have z : b ≠ d := fun z => by rw [z, i1] at e; cases e
    rw [upd_ne z]
    exact a.ok.ex b u e
  · obtain ⟨l, o, e1, h1, h2, h3, h4, h5⟩ := a.sl.mu i R hi
    have z : l ≠ d := h4
    exact ⟨l, o, e1, by rw [upd_ne z]; exact h1, h2, h3, fun y => y, h5⟩
end
def preDicts (n : Nat) : List Ty → Ty → Prop := fun Rs R => ∃ (t : Pl) (as : List Addr), Rs = [plAT t as] ∧ R = refsTy as ∧ as.Nodup ∧ hgtLe n t ∧ as.length ≤ 10000
abbrev nDi : List Str := ["_law_told", "_law_found", "_law_number"]
section
variable {P : Program} {w : World} {K : PySem.W.Frag} {mg : Str → Option Value} {base : Heap}
theorem scDi : FnScope nDi ["_law_told"] (defScope sDicts) := ⟨rfl, rfl, rfl, by decide +kernel, rfl, by decide +kernel, by decide +kernel⟩
theorem refs_nil {G : Hp} {v : V} (h : (dL []).r G v) : (refsTy []).r G v := by
  obtain ⟨l, xs, rfl, h1, h2⟩ := h.lst_inv
  cases h2
  exact ⟨l, rfl, h1⟩
theorem def_dicts (n k : Nat) (S : Src K mg "_law_dicts" sDicts ["_law_told"]) (A : ∀ m, n = m + 1 → Def P w K mg base k "_law_dicts" ["_law_told"] (spF W0 (preDicts m))) : Def P w K mg base (k + 1) "_law_dicts" ["_law_told"] (spF W0 (preDicts n)) := by
  obtain ⟨f, fd, FF, hm, hb⟩ := S.ex
  refine ⟨f, fd, FF.ok scDi (fun vs H Q E ⟨Rs, R, G, ⟨t, as, e, _⟩, _, ha, _⟩ => by rw [ha.len, e]; rfl) (fun cdv AA outer s H vs Q E hr h => ?_), hm, FF.kp, hb⟩
  obtain ⟨Rs, R, G, ⟨t, as, rfl, rfl, hnd, hh, hlen⟩, ok, ha, q⟩ := h
  have nd := scDi.nd
  match vs, ha with
  | [v], ⟨hv, _⟩ =>
    have hv : PlA G v t as := hv
    let D : Ends := { nx := fun _ H' => Q .non H', rt := Q }
    let X := Xc P w K mg base nDi "_law_dicts" sDicts f cdv AA outer s H E
    cases hv with
    | no =>
      have body : XSs (Fx.of W0 G H) X (defBody sDicts) [.ty (plT .no), .any, .any] D := by
        refine xss_ifr (b := true) (xtcmp op_isNo (xn 0) xnone rv_isN rfl) (fun _ => xss_one (xs_ret (XE.sub (S := refsTy []) (xlst (ds := []) xanil (by simp)) fun G v h => refs_nil h) (fun v G' H' r o m => q v G' H' r o m))) (fun h => by cases h)
      obtain ⟨t, a1, a2⟩ := body
      exact ⟨t, a1, a2 _ _ ⟨G, start_at (N := nDi) (Rs := [plT .no]) (vs := [.non]) ok ⟨⟨[], .no⟩, trivial⟩⟩⟩
    | op h1 h2 h3 h4 h5 =>
      rename_i a d x c kvs subs as'
      obtain ⟨m, rfl⟩ : ∃ m, n = m + 1 := by
        cases n with
        | zero => exact hh.elim
        | succ m => exact ⟨m, rfl⟩
      have A := A m rfl
      have hh : ∀ x ∈ subs, hgtLe m x.2 := hh
      obtain ⟨hdn, hnd'⟩ := List.nodup_cons.mp hnd
      obtain ⟨ps, e1, e2, e3, e4⟩ := h4.parts
      have hkeys : (ps.map fun p => p.1).Nodup := by
        have h5 := h5.1
        rw [e2, List.map_map] at h5
        exact h5
      let G' : Hp := fun b => if b = d then none else G b
      have hG' : ∀ b, b ≠ d → G' b = G b := fun b z => if_neg z
      have hG'd : G' d = none := if_pos rfl
      have hda : a ≠ d := fun z => by rw [z, h3] at h1; cases h1
      let F0 : Fx := Fx.of W0 G' H
      have hHd : H d = some (.dK kvs) := ok.ex _ _ h3
      have ok' : Ok W0 G' H := ⟨fun b u e => ok.ex b u (by
        by_cases z : b = d
        · subst z; rw [hG'd] at e; cases e
        · rw [← hG' b z]; exact e), trivial⟩
      have hsub : ∀ p ∈ ps, ∀ b ∈ p.2.2.2, b ∈ as' := fun p hp b hb => by rw [e3]; exact List.mem_flatMap.mpr ⟨p, hp, hb⟩
      have hrt : Rt F0 (refsTy (d :: as')) D := by
        intro v G1 H1 r o m
        have hd1 : H1 d = some (.dK kvs) := r.hh _ _ (fun z => z) hHd
        have gd1 : G1 d = none := r.dj d (by rw [show F0.H0 = H from rfl, hHd]; exact fun z => nomatch z) hG'd
        refine q v (upd G1 d (.dK kvs)) H1 ⟨fun b u e => ?_, r.hh, r.hd, fun b e z => ?_⟩ ⟨fun b u e => ?_, trivial⟩ ((refsTy _).mono (Ex.new gd1) m)
        · by_cases z : b = d
          · subst z; rw [upd_same, ← h3]; exact e
          · rw [upd_ne z]
            exact r.gg b u ((hG' b z).trans e)
        · have zz : b ≠ d := fun y => by rw [y, h3] at z; cases z
          rw [upd_ne zz]
          exact r.dj b e ((hG' b zz).trans z)
        · by_cases z : b = d
          · subst z; rw [upd_same] at e; rw [hd1]; exact e
          · rw [upd_ne z] at e
            exact o.ex b u e
      let Γ0 : List Sd := [.ty (opTy a d x ps), .any, .any]
      have hst : Stt F0 Γ0 (L2.start nDi [.ref a]) H := ⟨G', start_at (N := nDi) (Rs := [opTy a d x ps]) (vs := [.ref a]) ok' ⟨⟨rfl, (hG' a hda).trans h1, fun p hp => (e4 p hp).chg h3 hG' fun z => hdn (hsub p hp d z)⟩, trivial⟩⟩
      have isN : ∀ {W : Wd}, R2v W rIsNo (opTy a d x ps) dN (dB false) := fun {W} x y G H o m1 m2 Q q => by
        cases Dq.non_inv m2
        obtain ⟨rfl, _⟩ := m1
        exact And.intro rfl (q _ G H Rn.refl o (Dq.bl _))
      have ix1 : ∀ {W : Wd} {K : PySem.W.Frag}, R2v W (rIxT K) (opTy a d x ps) (dI 1) (refTy d) := fun {W K} x' y G H o m1 m2 Q q => by
        cases Dq.int_inv m2
        obtain ⟨rfl, g, _⟩ := m1
        exact ⟨_, _, 1, _, rfl, rfl, SqT.of (o.ex _ _ g), rfl, q _ G H Rn.refl o rfl⟩
      have body : XSs F0 X (defBody sDicts) Γ0 D := by
        refine xss_ifr (b := false) (xtcmp op_isNo (xn 0) xnone isN rfl) (fun h => by cases h) (fun _ => ?_)
        show XSPs X _ (Stt F0 Γ0) D
        let Γ1 : List Addr → List Sd := fun bs => [.ty (opTy a d x ps), .own (refsO bs), .any]
        refine xp_cons (Mid := Stt F0 (Γ1 [d])) (xp_with (F := F0) (Γ1 := Γ0) (refTy d) (fun g1 g2 => ⟨_, ps_set (i := 1) nd rfl (Or.inl rfl) (pe_lst (pa_cons g1 pa_nil)), ?_⟩) (xix ix_tup (xn 0) xint ix1 (fun _ _ => rfl))) ?_
        · rintro σ H1 ⟨G1, z⟩
          refine g2 _ σ G1 H1 z.ok z.sl _ fun v G2 H2 r2 o2 m2 => ⟨sz_of (by simp), fun p hp => ?_⟩
          obtain rfl : v = .ref d := m2
          exact ⟨G2, (z.run r2 o2).newOwn (i := 1) hp rfl⟩
        refine xp_cons (Mid := Stt F0 (Γ1 (d :: as'))) ⟨_, ps_lock (ps_for (by exact PassesOwn.never) rfl (pi_keys (pe_ix ix_tup (pv 0) pe_int (fun _ _ => rfl))) (pg_name (i := 2) nd rfl (Or.inl rfl) (by first | exact .inl rfl | exact .inr rfl)) pss_sem (fun _ => rfl)), ?_⟩ (xss_frzO 1 (S := refsTy (d :: as')) (xss_one (xs_ret (xn 1) hrt)) rfl (fun G l o n n0 h => ⟨l, rfl, by rw [upd_same]; exact congrArg some h⟩))
        rintro σ H1 ⟨G1, z⟩
        have hd1 : H1 d = some (.dK kvs) := z.rn.hh _ _ (fun z => z) hHd
        have gd1 : G1 d = none := z.rn.dj d (by rw [show F0.H0 = H from rfl, hHd]; exact fun z => nomatch z) hG'd
        refine ⟨d, _, hd1, trivial, fun od => ?_⟩
        have zl := at_lock (od := od) (kvs := kvs) rfl z (by rw [show F0.H0 = H from rfl, hHd]; exact fun z => nomatch z) gd1
        obtain ⟨v0, e0, rfl, g0, _⟩ := zl.sl.ty 0 (opTy a d x ps) rfl
        refine ⟨_, e0, _, _, 1, _, rfl, rfl, SqT.of (zl.ok.ex _ _ g0), rfl, d, od, rfl, .inl ⟨kvs, upd_same, ?_⟩⟩
        let F1 := lkF F0 d od kvs
        have hkl : kvs.length = ps.length := by rw [e1, List.length_map]
        refine for_it walk_keys (fun i σ H => Stt F1 (Γ1 (d :: (ps.take i).flatMap fun p => p.2.2.2)) σ H) ⟨G1, by rw [List.take_zero]; exact zl⟩ (fun i σ H _ ⟨G, z⟩ => z.ok.inv.2) ?_ ?_
        · rintro i v σ' Ha Hb hlt ⟨Ga, za⟩ ⟨eH, k0, v0, hk0, rfl⟩
          subst eH
          have hil : i < ps.length := by omega
          have hx : ps[i]? = some ps[i] := List.getElem?_eq_getElem hil
          obtain ⟨p, ep⟩ : ∃ p, p = ps[i] := ⟨_, rfl⟩
          rw [← ep] at hx
          have hp : p ∈ ps := List.mem_of_getElem? hx
          have hk1 : (k0, v0) = ((Sum.inl p.1 : Key), p.2.1) := by
            rw [e1, List.getElem?_map, hx] at hk0
            exact (Option.some.inj hk0).symm
          cases hk1
          have e2' : ps.take (i + 1) = ps.take i ++ [p] := (split_at hx).2
          refine (tg_name (j := 2)).run F1.W F1.H0 σ' Ga _ (.int p.1) za.ok za.sl (R := dI p.1) (Dq.int _) _ fun σ2 s2 _ => ?_
          have bodyX : XSs F1 X (forBd ((defBody sDicts).getD 2 (.Pass ⟨0, 0, 0, 0⟩))) ((Γ1 (d :: (ps.take i).flatMap fun p => p.2.2.2)).set 2 (.ty (dI p.1))) ⟨fun σ H => Stt F1 (Γ1 (d :: (ps.take (i + 1)).flatMap fun p => p.2.2.2)) σ H, fun v H' => H' d = some (.frz od (.dK kvs)) ∧ D.rt v (upd H' d (.dK kvs)), fun σ' H' => H' d = some (.frz od (.dK kvs)) ∧ Stt F0 (Γ1 (d :: as')) σ' (upd H' d (.dK kvs)), fun σ H => Stt F1 (Γ1 (d :: (ps.take (i + 1)).flatMap fun p => p.2.2.2)) σ H⟩ := by
            have hpl : ∀ q ∈ ps, q.2.2.2.length ≤ as'.length := fun q hq => nd_len (by
              have : (ps.flatMap fun p => p.2.2.2).Nodup := e3 ▸ hnd'
              exact nodup_part (f := fun p : Part => p.2.2.2) this hq) (hsub q hq)
            have has : as'.length ≤ 9999 := by
              rw [List.length_cons] at hlen
              omega
            have htk : ((ps.take i).flatMap fun p => p.2.2.2).length ≤ as'.length := by
              rw [e3]
              have : ps.flatMap (fun p => p.2.2.2) = (ps.take i).flatMap (fun p => p.2.2.2) ++ (ps.drop i).flatMap (fun p => p.2.2.2) := by
                rw [← List.flatMap_append, List.take_append_drop]
              rw [this, List.length_append]
              omega
            show XSPs X _ (Stt F1 _) _
            refine xp_one (xp_with (F := F1) (Γ1 := (Γ1 (d :: (ps.take i).flatMap fun p => p.2.2.2)).set 2 (.ty (dI p.1))) (refsTy p.2.2.2) (fun g1 g2 => ⟨_, ps_expr (pe_bm PySem.F.plainAttrs_list PySem.F.slot_list_extend PySem.F.type_list_extend mt_extend (pv 1) (pa_cons g1 pa_nil)), ?_⟩) (xcall0 A hr rfl (xa1 (R := plAT p.2.2.1 p.2.2.2) ⟨_, pe_dget (Nat.lt_of_le_of_lt (Nat.add_le_add_left (by decide : 1 ≤ 64) _) hr.units) (pe_ix ix_tup (pv 0) pe_int (fun _ _ => rfl)) (pv 2) (fun _ _ => rfl), ?_⟩) ⟨p.2.2.1, p.2.2.2, rfl, rfl, ?_, ?_, ?_⟩))
            · rintro σ3 H3 ⟨G3, z3⟩
              obtain ⟨l, ob, q1, q2, q3, q4, q5, q6⟩ := z3.sl.mu 1 (refsO (d :: (ps.take i).flatMap fun p => p.2.2.2)) rfl
              obtain rfl : ob = .lst _ := q6
              refine ⟨_, q1, .inl ⟨rfl, _, SqL.of q2⟩, g2 _ σ3 G3 H3 z3.ok z3.sl _ fun v G4 H4 r4 o4 m4 => ?_⟩
              obtain ⟨b, rfl, hb⟩ := m4
              have z4 := z3.run r4 o4
              refine ⟨l, b, _, _, rfl, rfl, r4.hh _ _ q5 q2, o4.ex _ _ hb, ?_, ?_⟩
              · have := hpl p hp
                rw [List.length_map, List.length_map, List.length_cons, sizeLine_eq]
                omega
              · have e5 : (d :: (ps.take i).flatMap fun p => p.2.2.2).map V.ref ++ p.2.2.2.map V.ref = (d :: (ps.take (i + 1)).flatMap fun p => p.2.2.2).map V.ref := by
                  rw [e2', List.flatMap_append, ← List.map_append]
                  simp
                rw [e5]
                have z5 := z4.upOwn (i := 1) (S := refsO (d :: (ps.take (i + 1)).flatMap fun p : Part => p.2.2.2)) rfl q1 (o := .lst ((d :: (ps.take (i + 1)).flatMap fun p => p.2.2.2).map V.ref)) rfl
                exact ⟨G4, z5.rn, z5.ok, z5.sl.le (by trivial), z5.g⟩
            · intro H0' σ3 G3 H3 o3 s3 Q3 q3
              obtain ⟨_, q1, rfl, g0, gp⟩ := s3.ty 0 (opTy a d x ps) rfl
              obtain ⟨_, q2, m2⟩ := s3.ty 2 (dI p.1) rfl
              cases Dq.int_inv m2
              refine ⟨_, q1, _, _, 1, _, rfl, rfl, SqT.of (o3.ex _ _ g0), rfl, _, q2, d, p.2.1, rfl, .inl ⟨kvs, Sum.inl p.1, .inr ⟨od, o3.inv.2⟩, rfl, ?_⟩, q3 _ G3 H3 Rn.refl o3 (gp p hp)⟩
              rw [e1]
              exact (parts_val hkeys hp).symm
            · have : (ps.flatMap fun p => p.2.2.2).Nodup := e3 ▸ hnd'
              exact nodup_part (f := fun p : Part => p.2.2.2) this hp
            · exact hh (p.1, p.2.2.1) (by rw [e2]; exact List.mem_map.mpr ⟨p, hp, rfl⟩)
            · have := hpl p hp
              omega
          exact bodyX.sem ⟨Ga, za.rn, za.ok, s2, za.g⟩
        · rintro σ' Ha ⟨Ga, za⟩
          rw [hkl, List.take_of_length_le (Nat.le_refl _), ← e3] at za
          obtain ⟨q1, q2⟩ := at_unlock rfl za hHd
          exact ⟨q1, Ga, q2⟩
      obtain ⟨t, a1, a2⟩ := body
      exact ⟨t, a1, a2 _ _ hst⟩
end
end SL
set_option maxRecDepth 100000
set_option maxHeartbeats 4000000
namespace SL
open PySem L2 Evl
local macro_rules | `(tactic| trivial) => `(tactic| (repeat (first | exact SL.LeG.nil | refine SL.LeG.cons (by first | exact SL.Le.rfl _ | exact SL.Le.any _) ?_)); done)
abbrev moreK : Key := Sum.inr "more"
theorem PlAs.noMore {G : Hp} : ∀ {r : List (Key × V)} {s : List (Int × Pl)} {as : List Addr}, PlAs G r s as → valV r moreK = Option.none
  | _, _, _, .nil => rfl
  | _, _, _, .cons _ h => by
    rw [valV_neg (fun z => by cases z)]
    exact h.noMore
mutual
theorem PlA.dicts {G : Hp} : ∀ {v : V} {t : Pl} {as : List Addr}, PlA G v t as → ∀ a ∈ as, ∃ kvs, G a = some (.dK kvs) ∧ valV kvs moreK = Option.none ∧ kvs.length ≤ 1000
  | _, _, _, .no, a, h => by simp at h
  | _, _, _, .op h1 h2 h3 h4 h5, a, h => by
    rcases List.mem_cons.mp h with e | e
    · subst e
      exact ⟨_, h3, h4.noMore, by rw [h4.len]; exact h5.2⟩
    · exact PlAs.dicts h4 a e
theorem PlAs.dicts {G : Hp} : ∀ {r : List (Key × V)} {s : List (Int × Pl)} {as : List Addr}, PlAs G r s as → ∀ a ∈ as, ∃ kvs, G a = some (.dK kvs) ∧ valV kvs moreK = Option.none ∧ kvs.length ≤ 1000
  | _, _, _, .nil, a, h => by simp at h
  | _, _, _, .cons h1 h2, a, h => by
    rcases List.mem_append.mp h with e | e
    · exact PlA.dicts h1 a e
    · exact PlAs.dicts h2 a e
end
/-- dicts of known sizes -/
def Wsz (as : List Addr) (f : Addr → Nat) (b : Bool) : Wd where
  hid := fun a => a ∈ as
  inv := fun G H => ∀ a ∈ as, G a = none ∧ ∃ kvs, H a = some (.dK kvs) ∧ kvs.length = f a ∧ (b = true → valV kvs moreK = none ∧ kvs.length ≤ 1000)
  up := fun {G H G' H'} h e k n => fun a ha => ⟨n a ha (h a ha).1, let ⟨kvs, h1, h2⟩ := (h a ha).2; ⟨kvs, k a _ ha h1, h2⟩⟩
  on := fun {G H a} h e => by
    obtain ⟨_, kvs, h1, _⟩ := h a e
    rw [h1]
    exact fun z => nomatch z
  off := fun {G H a} h e => (h a e).1
def anyF (W : Wd) : Fx := ⟨W, fun _ => none, fun _ => none, fun _ => True, fun _ _ => trivial⟩
theorem rn_any {W : Wd} {G H : Hp} : Rn W (fun _ => none) (fun _ => none) G H := ⟨fun _ _ e => (nomatch e), fun _ _ _ e => (nomatch e), fun _ e => absurd rfl e, fun _ e => absurd rfl e⟩
def rLenD1 : List V → Hp → VK → Prop := fun xs H Q => ∃ a kvs, xs = [V.ref a] ∧ H a = some (.dK kvs) ∧ Q (.int kvs.length) H
theorem call_lenD1 {X : Cx} : CallR X (.builtin "len") rLenD1 := call_lenD
theorem cr_lenD1 {as : List Addr} {f : Addr → Nat} {b : Bool} {a : Addr} (ha : a ∈ as) : CRv (Wsz as f b) rLenD1 [refTy a] (dI (f a : Int)) := fun vs G H o m Q q => by
  match vs, m with
  | [v], ⟨m1, _⟩ =>
    obtain rfl : v = .ref a := m1
    obtain ⟨_, kvs, h1, h2, _⟩ := o.inv a ha
    refine ⟨a, kvs, rfl, h1, ?_⟩
    rw [h2]
    exact q _ G H Rn.refl o (Dq.int _)
theorem xi_refs {W : Wd} {X : Cx} {tg iter : Expr} {Γ : List Sd} {as : List Addr} (h : XE W X iter Γ (refsTy as)) : XI W X tg iter Γ as (fun a => refTy a) := by
  obtain ⟨t, a1, a2⟩ := h
  refine ⟨_, pi_list a1, fun H0 σ G H o s R k => a2 H0 σ G H o s _ fun v G1 H1 r1 o1 m1 => ?_⟩
  obtain ⟨a, rfl, ha⟩ := m1
  refine ⟨a, rfl, ⟨_, SqL.of (o1.ex _ _ ha)⟩, k (Itl X.K a) G1 H1 (fun A => A a = some (.lst (as.map V.ref))) (fun A => SqL X.K A a (as.map V.ref)) (YAt (as.map V.ref)) r1 o1 (fun A B e z => e _ _ z) ha (by rw [show as.length = (as.map V.ref).length by rw [List.length_map]]; exact walk_list) (fun Ga Ha oa z => SqL.of (oa.ex _ _ z)) ?_⟩
  rintro i x Ha v Hb Ga hi oa z1 ⟨rfl, hv⟩
  rw [List.getElem?_map, hi] at hv
  cases hv
  exact ⟨Ga, Rn.refl, oa, rfl⟩
theorem eqv_ints : ∀ l : List Int, PyData.eqvAll (l.map .int) (l.map .int) = true
  | [] => by simp [PyData.eqvAll]
  | x :: r => by
    simp only [List.map_cons, PyData.eqvAll, eqv_ints r, Bool.and_true]
    simp [PyData.eqv]
theorem ints_lay : ∀ cs : List Int, PyData.canLayAll0 (cs.map .int) = true
  | [] => by simp [PyData.canLayAll0]
  | c :: cs => by simp [PyData.canLayAll0, PyData.canLay0, ints_lay cs]
theorem ints_depth : ∀ cs : List Int, PyData.depthAll (cs.map .int) ≤ 1
  | [] => by simp [PyData.depthAll]
  | c :: cs => by
    have h1 := ints_depth cs
    simp only [List.map_cons, PyData.depthAll, PyData.depth]
    omega
theorem shaped_Is (cs : List Int) : SeqAt.shaped (.list (cs.map .int)) = true := by
  have h1 := ints_depth cs
  show (PyData.canLay0 (.list (cs.map .int)) && decide (PyData.depth (.list (cs.map .int)) ≤ 64)) = true
  rw [Bool.and_eq_true]
  refine ⟨by simp only [PyData.canLay0]; exact ints_lay cs, decide_eq_true ?_⟩
  simp only [PyData.depth]
  omega
def spOwn : Sp := fun vs H Q _ => ∃ (v : V) (t : Pl) (as : List Addr) (G : Hp), vs = [v] ∧ Ok W0 G H ∧ PlA G v t as ∧ as.Nodup ∧ hgtLe 3 t ∧ as.length ≤ 10000 ∧ ∀ H', Q (.bl true) H'
abbrev nOw : List Str := ["_law_told", "_law_dicts_here", "_law_sizes", "_law_one", "_law_size"]
section
variable {P : Program} {w : World} {K : PySem.W.Frag} {mg : Str → Option Value} {base : Heap}
theorem scOw : FnScope nOw ["_law_told"] (defScope sOwn) := ⟨rfl, rfl, rfl, by decide +kernel, rfl, by decide +kernel, by decide +kernel⟩
theorem def_own (k : Nat) (S : Src K mg "_law_own" sOwn ["_law_told"]) (B : Bn mg) (A : Def P w K mg base k "_law_dicts" ["_law_told"] (spF W0 (preDicts 3))) : Def P w K mg base (k + 1) "_law_own" ["_law_told"] spOwn := by
  obtain ⟨f, fd, FF, hm, hb⟩ := S.ex
  refine ⟨f, fd, FF.ok scOw (fun vs H Q E ⟨v, t, as, G, e, _⟩ => by rw [e]; rfl) (fun cdv AA outer s H vs Q E hr h => ?_), hm, FF.kp, hb⟩
  obtain ⟨v, t, as, G, rfl, ok, hv, hnd, hh, hlen, q⟩ := h
  have nd := scOw.nd
  let D : Ends := { nx := fun _ H' => Q .non H', rt := Q }
  let X := Xc P w K mg base nOw "_law_own" sOwn f cdv AA outer s H E
  let f0 : Addr → Nat := fun a => match G a with
    | some (.dK kvs) => kvs.length
    | _ => 0
  have hdic : ∀ a ∈ as, ∃ kvs, G a = some (.dK kvs) ∧ valV kvs moreK = Option.none ∧ kvs.length ≤ 1000 ∧ kvs.length = f0 a := fun a ha => by
    obtain ⟨kvs, h1, h2, h3⟩ := hv.dicts a ha
    refine ⟨kvs, h1, h2, h3, ?_⟩
    show _ = match G a with
      | some (.dK kvs) => kvs.length
      | _ => 0
    rw [h1]
  let szs : List Int := as.map fun a => (f0 a : Int)
  let Γ2 : List Sd := [.any, .ty (refsTy as), sd (.list (szs.map .int)), .any, .any]
  -- what is known of the dicts
  let Dk : List Addr → Hp → Hp → Prop := fun pre G H => ∀ a ∈ as, G a = none ∧ ∃ kvs, H a = some (.dK kvs) ∧ kvs.length = f0 a + (if a ∈ pre then 1 else 0) ∧ kvs.length ≤ 1001 ∧ (a ∉ pre → valV kvs moreK = none ∧ kvs.length ≤ 1000)
  have last : XSPs X ((defBody sOwn).drop 3) (fun σ H => ∃ G, At (anyF W0) Γ2 σ G H ∧ Dk as G H) D := by
    refine sem_xp fun σ H ⟨G1, z, hd⟩ => ?_
    have z1 : At (anyF (Wsz as (fun a => f0 a + 1) false)) Γ2 σ G1 H := by
      refine ⟨rn_any, ⟨z.ok.ex, fun a ha => ?_⟩, ⟨z.sl.len, z.sl.ty, fun i R hi => ?_, z.sl.ap⟩, trivial⟩
      · obtain ⟨h1, kvs, h2, h3, _⟩ := hd a ha
        rw [if_pos ha] at h3
        exact ⟨h1, kvs, h2, h3, fun z => by cases z⟩
      · have hm := List.mem_of_getElem? hi
        simp [Γ2] at hm
    have b : XSs (anyF (Wsz as (fun a => f0 a + 1) false)) X ((defBody sOwn).drop 3) Γ2 D := by
      refine xss_one (xs_ret (XE.eq (xcmp (op_eqD hr.units) (xlcN 3 [("_law_one", 3)] (r := (as.map fun a => ((f0 a : Int) + 1)).map .int) nd (xi_refs (xn 1)) (blkOk_by (N := nOw) (sc := defScope sOwn) (by decide +kernel)) (fun _ => true) (fun a => .int ((f0 a : Int) + 1)) (fun z _ => .none)
        (fun a ha _ s H C' cl fp => XE.eq (xcallB call_lenD1 rfl B.len PySem.boot_len (xa1 (xn 3)) (cr_lenD1 (f := fun a => f0 a + 1) ha)) (by congr 1 <;> omega)) (by omega) (by rw [filter_true, List.map_map]; rfl))
        (xlcN 4 [("_law_size", 4)] (r := (as.map fun a => ((f0 a : Int) + 1)).map .int) nd (xi_list (xs := szs) (enc := .int) (xn 2)) (blkOk_by (N := nOw) (sc := defScope sOwn) (by decide +kernel)) (fun _ => true) (fun i => .int (i + 1)) (fun z _ => .none)
        (fun a ha _ s H C' cl fp => xop op_add (xn 4) xint rv_int) (by show (as.map _).length ≤ _; rw [List.length_map]; omega) (by rw [filter_true]; show (as.map _).map _ = _; rw [List.map_map, List.map_map]; rfl)) (rv_eqD (shaped_Is _) (shaped_Is _)) rfl) (d' := .bool true) ?_) (fun v G' H' r o m => ?_))
      · have e := eqv_ints (as.map fun a => ((f0 a : Int) + 1))
        have : PyData.eqv (.list ((as.map fun a => ((f0 a : Int) + 1)).map .int)) (.list ((as.map fun a => ((f0 a : Int) + 1)).map .int)) = true := by simpa only [PyData.eqv] using e
        rw [this]
      · cases Dq.bl_inv m
        exact q H'
    exact b.sem ⟨G1, z1⟩
  have loop : XSPs X ((defBody sOwn).drop 2) (fun σ H => ∃ G, At (anyF W0) Γ2 σ G H ∧ Dk [] G H) D := by
    refine xp_cons (Mid := fun σ H => ∃ G, At (anyF W0) Γ2 σ G H ∧ Dk as G H) (xp_forN (F := anyF W0) (Γ := Γ2) 3 nd (fun pre σ G H => At (anyF W0) Γ2 σ G H ∧ Dk pre G H) (xi_refs (as := as) (xn 1)) (fun pre σ G H z => z.1) ?_ (fun σ H z => z) ?_ (fun σ G H z => ⟨G, z⟩)) last
    · rintro pre σ G H G' H' ⟨z, hd⟩ r o
      refine ⟨z.run r o, fun a ha => ?_⟩
      obtain ⟨h1, kvs, h2, h3⟩ := hd a ha
      exact ⟨r.dj _ (by rw [h2]; exact fun z => nomatch z) h1, kvs, r.hh _ _ (fun z => z) h2, h3⟩
    · intro pre x post he Sg hS
      have hx : x ∈ as := by rw [he]; simp
      have hxp : x ∉ pre := by
        have := hnd
        rw [he, List.nodup_append] at this
        exact fun z => this.2.2 x z x (by simp) rfl
      refine xp_one ⟨_, ps_dput (Nat.lt_of_le_of_lt (Nat.add_le_add_left (by decide : 1 ≤ 64) _) hr.units) (pv 3) pe_str pe_non rfl, ?_⟩
      rintro σ H ⟨σ0, G1, v, ⟨z, hd⟩, s, rfl, rfl⟩
      have hlen3 : 3 < σ0.length := by rw [z.sl.len]; show 3 < 5; decide
      obtain ⟨h1, kvs, h2, h3, h4, h5⟩ := hd x hx
      obtain ⟨h6, h7⟩ := h5 hxp
      rw [if_neg hxp] at h3
      have z1 : At (anyF W0) Γ2 (σ0.set 3 (some (.ref x))) G1 H := ⟨z.rn, z.ok, (z.sl.set (i := 3) (v := .ref x) (R := refTy x) rfl).forget 3, z.g⟩
      refine ⟨_, by rw [List.getElem?_set_self hlen3], x, _, rfl, DPut.k (k := moreK) h2 (by rw [sizeLine_eq]; omega), G1, ⟨⟨rn_any, z1.ok.write h1 (fun z => z), ⟨z1.sl.len, z1.sl.ty, fun i R hi => ?_, z1.sl.ap⟩, trivial⟩, fun a ha => ?_⟩, s⟩
      · have hm := List.mem_of_getElem? hi
        simp [Γ2] at hm
      · by_cases e : a = x
        · subst e
          refine ⟨h1, _, upd_same, ?_, ?_, fun n => absurd (by simp) n⟩
          · rw [putK_new _ h6, List.length_append, if_pos (by simp), h3]
            rfl
          · rw [putK_new _ h6, List.length_append]
            show kvs.length + 1 ≤ 1001
            omega
        · obtain ⟨g1, kvs', g2, g3, g4, g5⟩ := hd a ha
          have em : (a ∈ pre ++ [x]) ↔ a ∈ pre := by simp [e]
          refine ⟨g1, kvs', by rw [upd_ne e]; exact g2, ?_, g4, fun n => g5 fun z => n (em.mpr z)⟩
          rw [g3]
          by_cases y : a ∈ pre
          · rw [if_pos y, if_pos (em.mpr y)]
          · rw [if_neg y, if_neg (fun z => y (em.mp z))]
  let Γ1 : List Sd := [.any, .ty (refsTy as), .any, .any, .any]
  have mid : XSs (anyF (Wsz as f0 true)) X ((defBody sOwn).drop 1) Γ1 D := by
    refine xss_cons (Γ' := Γ2) (xs_lcN 2 3 [("_law_one", 3)] (r := szs.map .int) nd (xi_refs (as := as) (xn 1)) (blkOk_by (N := nOw) (sc := defScope sOwn) (by decide +kernel)) (fun _ => true) (fun a => .int (f0 a : Int)) (fun z _ => .none)
      (fun a ha _ s H C' cl fp => xcallB call_lenD1 rfl B.len PySem.boot_len (xa1 (xn 3)) (cr_lenD1 (f := f0) ha)) (by omega) (nx_le (by trivial)) (by rw [filter_true]; show _ = (as.map _).map _; rw [List.map_map]; rfl)) (sem_xp fun σ H ⟨G1, z⟩ => ?_)
    refine loop.sem ⟨G1, ⟨rn_any, ⟨z.ok.ex, trivial⟩, ⟨z.sl.len, z.sl.ty, fun i R hi => ?_, z.sl.ap⟩, trivial⟩, fun a ha => ?_⟩
    · have hm := List.mem_of_getElem? hi
      simp [Γ2] at hm
    · obtain ⟨h1, kvs, h2, h3, h4⟩ := z.ok.inv a ha
      exact ⟨h1, kvs, h2, by rw [if_neg (by simp)]; exact h3, by have := (h4 rfl).2; omega, fun _ => h4 rfl⟩
  have body : XSs (Fx.of W0 G H) X (defBody sOwn) [.ty (plAT t as), .any, .any, .any, .any] D := by
    refine xss_cons (Γ' := Γ1) (xs_set (R := refsTy as) 1 nd (xcall0 A hr rfl (xa1 (xn 0)) ⟨t, as, rfl, rfl, hnd, hh, hlen⟩) (nx_le (by trivial))) (sem_xp fun σ H1 ⟨G1, z⟩ => mid.sem ?_)
    have g1 : ∀ a ∈ as, ∃ kvs, G a = some (.dK kvs) ∧ valV kvs moreK = Option.none ∧ kvs.length ≤ 1000 ∧ kvs.length = f0 a := hdic
    refine ⟨fun b => if b ∈ as then none else G1 b, rn_any, ⟨fun b u e => ?_, fun a ha => ?_⟩, ⟨z.sl.len, fun i R hi => ?_, fun i R hi => ?_, z.sl.ap⟩, trivial⟩
    · by_cases y : b ∈ as
      · rw [if_pos y] at e
        cases e
      · rw [if_neg y] at e
        exact z.ok.ex b u e
    · obtain ⟨kvs, h1, h2, h3, h4⟩ := hdic a ha
      exact ⟨if_pos ha, kvs, z.ok.ex _ _ (z.rn.gg _ _ h1), h4, fun _ => ⟨h2, h3⟩⟩
    · have hi1 : i = 1 := by
        match i, hi with
        | 0, h => exact absurd h (by simp [Γ1])
        | 1, _ => rfl
        | 2, h => exact absurd h (by simp [Γ1])
        | 3, h => exact absurd h (by simp [Γ1])
        | 4, h => exact absurd h (by simp [Γ1])
        | i + 5, h => exact absurd h (by simp [Γ1])
      subst hi1
      obtain ⟨v, e1, l, rfl, hl⟩ := z.sl.ty 1 (refsTy as) rfl
      have hR : R = refsTy as := by
        have : some (Sd.ty (refsTy as)) = some (Sd.ty R) := hi
        cases this
        rfl
      subst hR
      refine ⟨_, e1, l, rfl, ?_⟩
      have hla : l ∉ as := fun y => by
        obtain ⟨kvs, h1, _⟩ := hdic l y
        have := z.rn.gg _ _ h1
        rw [hl] at this
        cases this
      show (if l ∈ as then none else G1 l) = _
      rw [if_neg hla]
      exact hl
    · have hm := List.mem_of_getElem? hi
      simp [Γ1] at hm
  obtain ⟨tt, a1, a2⟩ := body
  exact ⟨tt, a1, a2 _ _ ⟨G, start_at (N := nOw) (Rs := [plAT t as]) (vs := [v]) ok ⟨hv, trivial⟩⟩⟩
end
end SL
set_option maxRecDepth 100000
set_option maxHeartbeats 4000000
/-! plain: the law's layings are the code's layings -/
namespace SL
open PySem L2 Evl
theorem mem_nearIn {rows : List (List Nat)} {c x : Cell} : x ∈ nearIn rows c ↔ x ≠ c ∧ signAt rows x ≠ 35 ∧ c.1 - 1 ≤ x.1 ∧ x.1 ≤ c.1 + 1 ∧ c.2 - 1 ≤ x.2 ∧ x.2 ≤ c.2 + 1 := by
  unfold nearIn near1
  rw [List.mem_flatMap]
  constructor
  · rintro ⟨i, hi, h⟩
    obtain ⟨j, hj, rfl⟩ := List.mem_map.mp h
    obtain ⟨h1, h2⟩ := List.mem_filter.mp hj
    have hi := List.mem_range.mp hi
    have hj := List.mem_range.mp h1
    unfold nearOk at h2
    rw [Bool.and_eq_true] at h2
    refine ⟨by simpa using h2.1, by simpa using h2.2, ?_, ?_, ?_, ?_⟩ <;> simp <;> omega
  · rintro ⟨h1, h2, h3, h4, h5, h6⟩
    refine ⟨(x.1 - (c.1 - 1)).toNat, List.mem_range.mpr (by omega), List.mem_map.mpr ⟨(x.2 - (c.2 - 1)).toNat, List.mem_filter.mpr ⟨List.mem_range.mpr (by omega), ?_⟩, ?_⟩⟩
    · have e : (c.1 - 1 + ((x.1 - (c.1 - 1)).toNat : Int), c.2 - 1 + ((x.2 - (c.2 - 1)).toNat : Int)) = x := by
        refine Prod.ext ?_ ?_ <;> simp <;> omega
      rw [e]
      unfold nearOk
      simp [h1, h2]
    · refine Prod.ext ?_ ?_ <;> simp <;> omega
theorem nearC_iff {a b : Cell} : nearC a b = true ↔ a ≠ b ∧ b.1 - 1 ≤ a.1 ∧ a.1 ≤ b.1 + 1 ∧ b.2 - 1 ≤ a.2 ∧ a.2 ≤ b.2 + 1 := by
  unfold nearC
  rw [Bool.and_eq_true, Bool.and_eq_true]
  constructor
  · rintro ⟨h1, h2, h3⟩
    have h2 := of_decide_eq_true h2
    have h3 := of_decide_eq_true h3
    refine ⟨by simpa using h1, ?_, ?_, ?_, ?_⟩
    · split at h2 <;> omega
    · split at h2 <;> omega
    · split at h3 <;> omega
    · split at h3 <;> omega
  · rintro ⟨h1, h2, h3, h4, h5⟩
    refine ⟨by simpa using h1, decide_eq_true ?_, decide_eq_true ?_⟩
    · split <;> omega
    · split <;> omega
theorem closed_sign {rows : List (List Nat)} {c : Cell} (h : c ∈ closedC rows) : signAt rows c = 63 := by
  have := cells_sign (p := fun c => decide (c ∈ qm)) h
  simpa using this
theorem near_closed {rows : List (List Nat)} {c x : Cell} (h : x ∈ closedC rows) : decide (x ∈ nearIn rows c) = nearC x c := by
  rw [Bool.eq_iff_iff, decide_eq_true_iff, mem_nearIn, nearC_iff]
  have := closed_sign h
  constructor
  · rintro ⟨h1, _, h3⟩; exact ⟨h1, h3⟩
  · rintro ⟨h1, h3⟩; exact ⟨h1, by rw [this]; decide, h3⟩
theorem near_comm (a b : Cell) : nearC a b = nearC b a := by
  rw [Bool.eq_iff_iff, nearC_iff, nearC_iff]
  constructor <;> rintro ⟨h1, h2, h3, h4, h5⟩ <;> refine ⟨fun e => h1 e.symm, ?_, ?_, ?_, ?_⟩ <;> omega
theorem hit_near {rows : List (List Nat)} {c : Cell} {l : List Cell} (h : ∀ x ∈ l, x ∈ closedC rows) : hitN rows c l = nearN c l := by
  unfold hitN nearN
  congr 1
  exact List.filter_congr fun x hx => near_closed (h x hx)
/-! ### powersets -/
def powF (cs : List Cell) : List (List Cell) := cs.foldl (fun L c => L.flatMap fun s => [s, s ++ [c]]) [[]]
theorem powF_snoc (cs : List Cell) (c : Cell) : powF (cs ++ [c]) = (powF cs).flatMap fun s => [s, s ++ [c]] := by
  unfold powF
  rw [List.foldl_append]
  rfl
theorem flat_two {α : Type} (f : α → α) : ∀ L : List α, (L.flatMap fun s => [s, f s]).Perm (L ++ L.map f)
  | [] => .nil
  | s :: L => by
    rw [List.flatMap_cons, List.map_cons]
    refine List.Perm.cons s ?_
    exact ((flat_two f L).cons (f s)).trans List.perm_middle.symm
theorem pow_perm : ∀ cs : List Cell, (powF cs).Perm (powD cs) := by
  refine snoc_ind (List.Perm.refl _) fun l a ih => ?_
  rw [powF_snoc, powD_snoc]
  unfold dblC
  exact (flat_two (fun s => s ++ [a]) (powF l)).trans (ih.append (ih.map _))
theorem powD_sub : ∀ cs : List Cell, ∀ s ∈ powD cs, ∀ x ∈ s, x ∈ cs := by
  refine snoc_ind (fun s hs x hx => by simp [powD] at hs; subst hs; simp at hx) fun l a ih s hs x hx => ?_
  rw [powD_snoc] at hs
  unfold dblC at hs
  rcases List.mem_append.mp hs with h | h
  · exact List.mem_append_left _ (ih s h x hx)
  · obtain ⟨t, ht, rfl⟩ := List.mem_map.mp h
    rcases List.mem_append.mp hx with q | q
    · exact List.mem_append_left _ (ih t ht x q)
    · exact List.mem_append_right _ q
/-! ### the choices -/
def cntW (w : Want) (s : List Cell) : Int := ((s.filter fun c => decide (c ∈ w.1)).length : Nat)
def leftW (wants : List Want) (s : List Cell) : List Int := wants.map fun w => w.2 - cntW w s
def spareW (wants : List Want) (pre : List Cell) : List Int := wants.map fun w => (w.1.length : Int) - cntW w pre
theorem cntW_snoc (w : Want) (s : List Cell) (c : Cell) : cntW w (s ++ [c]) = cntW w s + (if decide (c ∈ w.1) = true then 1 else 0) := by
  unfold cntW
  rw [List.filter_append, List.length_append, List.filter_cons]
  by_cases h : c ∈ w.1
  · rw [if_pos (by simpa using h), if_pos (by simpa using h)]
    simp
  · rw [if_neg (by simpa using h), if_neg (by simpa using h)]
    simp
theorem zip_maps {α β γ δ : Type} (f : α → β) (h : α → γ) (k : β × γ → δ) : ∀ l : List α, ((l.map f).zip (l.map h)).map k = l.map fun x => k (f x, h x)
  | [] => rfl
  | x :: r => by
    rw [List.map_cons, List.map_cons, List.zip_cons_cons, List.map_cons, zip_maps f h k r]
    rfl
theorem left_snoc (wants : List Want) (s : List Cell) (c : Cell) : subL (leftW wants s) (hitsOf wants c) = leftW wants (s ++ [c]) := by
  unfold subL leftW hitsOf
  rw [zip_maps]
  refine List.map_congr_left fun w _ => ?_
  rw [cntW_snoc]
  simp only
  omega
theorem spare_snoc (wants : List Want) (s : List Cell) (c : Cell) : subL (spareW wants s) (hitsOf wants c) = spareW wants (s ++ [c]) := by
  unfold subL spareW hitsOf
  rw [zip_maps]
  refine List.map_congr_left fun w _ => ?_
  rw [cntW_snoc]
  simp only
  omega
def Fe (wants : List Want) (pre s : List Cell) : Bool := met (leftW wants s) (spareW wants pre)
theorem Fe_iff {wants : List Want} {pre s : List Cell} : Fe wants pre s = true ↔ ∀ w ∈ wants, 0 ≤ w.2 - cntW w s ∧ w.2 - cntW w s ≤ (w.1.length : Int) - cntW w pre := by
  unfold Fe met leftW spareW
  rw [zip_maps, List.all_map, List.all_eq_true]
  simp
theorem filter_flat {α β : Type} {p : α → Bool} {h : α → List β} {q : β → Bool} : ∀ {L : List α}, (∀ s ∈ L, p s = false → (h s).filter q = []) → ((L.filter p).flatMap h).filter q = (L.flatMap h).filter q
  | [], _ => rfl
  | s :: L, hh => by
    have ih := filter_flat (p := p) (h := h) (q := q) (L := L) fun x hx => hh x (List.mem_cons_of_mem _ hx)
    rw [List.flatMap_cons, List.filter_append, List.filter_cons]
    by_cases e : p s = true
    · rw [if_pos e, List.flatMap_cons, List.filter_append, ih]
    · rw [if_neg e, ih, hh s (by simp) (by simpa using e)]
      rfl
theorem run_eq (wants : List Want) : ∀ pre : List Cell, runC wants pre = (((powF pre).filter (Fe wants pre)).map (fun s => (s, leftW wants s)), spareW wants pre) := by
  refine snoc_ind ?_ fun pre c ih => ?_
  · show initC wants = _
    have e1 : (wants.map fun w => (w.1.length : Int)) = spareW wants [] := by
      unfold spareW cntW
      refine List.map_congr_left fun w _ => ?_
      simp
    have e2 : wants.map (·.2) = leftW wants [] := by
      unfold leftW cntW
      refine List.map_congr_left fun w _ => ?_
      simp
    unfold initC
    rw [e1, e2]
    show (List.filter _ _, _) = _
    congr 1
    show List.filter _ [(([] : List Cell), leftW wants [])] = (List.filter (Fe wants []) [[]]).map _
    rw [List.filter_cons, List.filter_cons]
    show (if Fe wants [] [] = true then _ else _) = _
    split <;> rfl
  · rw [runC_snoc, ih]
    unfold stepC
    rw [spare_snoc]
    refine Prod.ext ?_ rfl
    show ((longerC (((powF pre).filter (Fe wants pre)).map fun s => (s, leftW wants s)) (hitsOf wants c) c).filter fun r => met r.2 (spareW wants (pre ++ [c]))) = ((powF (pre ++ [c])).filter (Fe wants (pre ++ [c]))).map fun s => (s, leftW wants s)
    unfold longerC
    rw [List.flatMap_map]
    have e3 : (fun s : List Cell => [((s, leftW wants s) : Row), (s ++ [c], subL (leftW wants s) (hitsOf wants c))]) = fun s => [s, s ++ [c]].map fun t => ((t, leftW wants t) : Row) := by
      funext s
      rw [left_snoc]
      rfl
    have e4 : ((powF pre).filter (Fe wants pre)).flatMap (fun a => [((a, leftW wants a) : Row), ((a, leftW wants a).1 ++ [c], subL (a, leftW wants a).2 (hitsOf wants c))]) = (((powF pre).filter (Fe wants pre)).flatMap fun s => [s, s ++ [c]]).map fun t => ((t, leftW wants t) : Row) := by
      rw [List.map_flatMap]
      exact congrArg (fun f => List.flatMap f _) e3
    rw [e4, List.filter_map]
    have e5 : ((fun r : Row => met r.2 (spareW wants (pre ++ [c]))) ∘ fun t : List Cell => ((t, leftW wants t) : Row)) = Fe wants (pre ++ [c]) := rfl
    rw [e5, powF_snoc]
    congr 1
    refine filter_flat fun s _ hs => ?_
    rw [List.filter_eq_nil_iff]
    intro t ht
    intro hF
    have hF := Fe_iff.mp hF
    have : Fe wants pre s = true := by
      rw [Fe_iff]
      intro w hw
      have h1 := hF w hw
      have h2 := cntW_snoc w pre c
      have h3 := cntW_snoc w s c
      have : t = s ∨ t = s ++ [c] := by simpa using ht
      rcases this with rfl | rfl
      · split at h2 <;> omega
      · split at h2 <;> rename_i hh
        · rw [if_pos hh] at h3; omega
        · rw [if_neg hh] at h3; omega
    rw [hs] at this
    cases this
def good (rows : List (List Nat)) (n : Int) (s : List Cell) : Bool := decide ((s.length : Int) = n) && (openC rows).all (fitO rows · s)
theorem layU_eq {rows : List (List Nat)} {n : Int} : layU rows n = (powF (closedC rows)).filter (good rows n) := by
  unfold layU choicesU
  rw [run_eq, List.map_map]
  have e : (Prod.fst ∘ fun s : List Cell => (s, leftW (wantsAll rows n) s)) = id := rfl
  rw [e, List.map_id]
  refine List.filter_congr fun s hs => ?_
  have hsub : ∀ x ∈ s, x ∈ closedC rows := fun x hx => powD_sub _ s ((pow_perm _).mem_iff.mp hs) x hx
  have hfull : ∀ q : Cell → Bool, ((closedC rows).filter fun c => decide (c ∈ (closedC rows).filter q)).length = ((closedC rows).filter q).length := fun q => by
    congr 1
    refine List.filter_congr fun c hc => ?_
    rw [Bool.eq_iff_iff, decide_eq_true_iff, List.mem_filter]
    exact ⟨fun h => h.2, fun h => ⟨hc, h⟩⟩
  have hcnt : ∀ q : Cell → Bool, (s.filter fun c => decide (c ∈ (closedC rows).filter q)).length = (s.filter q).length := fun q => by
    congr 1
    refine List.filter_congr fun c hc => ?_
    rw [Bool.eq_iff_iff, decide_eq_true_iff, List.mem_filter]
    exact ⟨fun h => h.2, fun h => ⟨hsub c hc, h⟩⟩
  have hnear : ∀ o, (s.filter fun x => decide (x ∈ nearIn rows o)).length = nearN' o s := fun o => by
    unfold nearN'
    congr 1
    refine List.filter_congr fun x hx => ?_
    rw [near_closed (hsub x hx), near_comm]
  have hall : ∀ t : List Cell, (∀ x ∈ t, x ∈ closedC rows) → (t.filter fun c => decide (c ∈ closedC rows)).length = t.length := fun t ht => by
    congr 1
    exact List.filter_eq_self.mpr fun c hc => decide_eq_true (ht c hc)
  unfold good
  rw [Bool.eq_iff_iff, Fe_iff, Bool.and_eq_true, List.all_eq_true, decide_eq_true_iff]
  have hw : ∀ o, cntW (wantOf rows (closedC rows) o) s = (nearN' o s : Nat) ∧ ((wantOf rows (closedC rows) o).1.length : Int) - cntW (wantOf rows (closedC rows) o) (closedC rows) = 0 ∧ (wantOf rows (closedC rows) o).2 = numAt rows o := fun o => by
    refine ⟨?_, ?_, rfl⟩
    · unfold cntW wantOf
      show ((s.filter fun c => decide (c ∈ (closedC rows).filter _)).length : Int) = _
      rw [hcnt, hnear]
    · unfold cntW wantOf
      show (((closedC rows).filter _).length : Int) - (((closedC rows).filter fun c => decide (c ∈ (closedC rows).filter _)).length : Nat) = 0
      rw [hfull]
      omega
  have hc1 : cntW (closedC rows, n) s = (s.length : Nat) := by
    unfold cntW
    rw [hall s hsub]
  have hc2 : cntW (closedC rows, n) (closedC rows) = ((closedC rows).length : Nat) := by
    unfold cntW
    rw [hall _ fun x hx => hx]
  constructor
  · intro h
    refine ⟨?_, fun o ho => ?_⟩
    · have := h (closedC rows, n) (by unfold wantsAll; simp)
      rw [hc1, hc2] at this
      simp only at this
      omega
    · have h1 := h (wantOf rows (closedC rows) o) (by unfold wantsAll; exact List.mem_append_left _ (List.mem_map.mpr ⟨o, ho, rfl⟩))
      obtain ⟨a1, a2, a3⟩ := hw o
      rw [a2, a1, a3] at h1
      unfold fitO
      exact decide_eq_true (by omega)
  · rintro ⟨h1, h2⟩ w hwm
    unfold wantsAll at hwm
    rcases List.mem_append.mp hwm with z | z
    · obtain ⟨o, ho, rfl⟩ := List.mem_map.mp z
      obtain ⟨a1, a2, a3⟩ := hw o
      have := of_decide_eq_true (h2 o ho)
      rw [a2, a1, a3]
      omega
    · have : w = (closedC rows, n) := by simpa using z
      subst this
      rw [hc1, hc2]
      simp only
      omega
theorem allF_eq (rows : List (List Nat)) (L : List (List Cell)) : ∀ os : List Cell, allF rows L os = L.filter fun s => os.all (fitO rows · s) := by
  refine snoc_ind (by show L = _; rw [show (fun s => ([] : List Cell).all (fitO rows · s)) = fun _ => true from rfl, filter_true]) fun os o ih => ?_
  rw [allF_snoc, ih, List.filter_filter]
  refine List.filter_congr fun s _ => ?_
  rw [List.all_append, Bool.and_comm]
  simp
theorem allU_eq (rows : List (List Nat)) (n : Int) : allU rows n = (powD (closedC rows)).filter (good rows n) := by
  unfold allU
  rw [allF_eq, List.filter_filter]
  refine List.filter_congr fun s _ => ?_
  unfold good
  rw [Bool.and_comm]
theorem all_perm (rows : List (List Nat)) (n : Int) : (sortL (allU rows n)).Perm (sortL (layU rows n)) := by
  refine (sortL_perm _).trans (List.Perm.trans ?_ (sortL_perm _).symm)
  rw [allU_eq, layU_eq]
  exact ((pow_perm _).filter _).symm
theorem lay_sub {rows : List (List Nat)} {n : Int} {l : List Cell} (h : l ∈ sortL (layU rows n)) : ∀ x ∈ l, x ∈ closedC rows := by
  have h := (sortL_perm _).mem_iff.mp h
  rw [layU_eq] at h
  exact powD_sub _ l ((pow_perm _).mem_iff.mp (List.mem_filter.mp h).1)
end SL
set_option maxRecDepth 100000
set_option maxHeartbeats 4000000
/-! plain: the game -/
namespace SL
open PySem L2 Evl
/-! ### groups -/
def lookG : List Grp → Int → List Nat
  | [], _ => []
  | (u, l) :: r, t => if u = t then l else lookG r t
theorem look_addG {t : Int} {i : Nat} : ∀ (gs : List Grp) (u : Int), lookG (addG gs t i) u = if u = t then lookG gs t ++ [i] else lookG gs u
  | [], u => by
    unfold addG lookG
    by_cases e : t = u
    · rw [if_pos e, if_pos e.symm]; rfl
    · rw [if_neg e, if_neg (fun z => e z.symm)]; rfl
  | (v, l) :: r, u => by
    unfold addG
    by_cases e : v = t
    · rw [if_pos e]
      subst e
      by_cases e2 : v = u
      · rw [if_pos e2.symm]
        unfold lookG
        rw [if_pos e2, if_pos rfl]
      · rw [if_neg (fun z => e2 z.symm)]
        unfold lookG
        rw [if_neg e2, if_neg e2]
    · rw [if_neg e]
      have ih := look_addG (t := t) (i := i) r u
      unfold lookG
      by_cases e2 : v = u
      · rw [if_pos e2, if_pos e2, if_neg (fun z => e (e2.trans z))]
      · rw [if_neg e2, if_neg e2, if_neg e, ih]
theorem look_mem : ∀ {gs : List Grp} {x : Grp}, (gs.map (·.1)).Nodup → x ∈ gs → lookG gs x.1 = x.2
  | (v, l) :: r, x, nd, h => by
    rw [List.map_cons, List.nodup_cons] at nd
    unfold lookG
    rcases List.mem_cons.mp h with e | e
    · rw [e, if_pos rfl]
    · rw [if_neg (fun z => nd.1 (List.mem_map.mpr ⟨x, e, z.symm⟩))]
      exact look_mem nd.2 e
theorem look_in : ∀ {gs : List Grp} {t : Int}, lookG gs t ≠ [] → ∃ x ∈ gs, x.1 = t ∧ x.2 = lookG gs t
  | [], t, h => absurd rfl h
  | (v, l) :: r, t, h => by
    unfold lookG at h ⊢
    by_cases e : v = t
    · rw [if_pos e]
      exact ⟨(v, l), by simp, e, rfl⟩
    · rw [if_neg e] at h ⊢
      obtain ⟨x, h1, h2⟩ := look_in h
      exact ⟨x, List.mem_cons_of_mem _ h1, h2⟩
def grpB (g : Gm) (p : Nat) (t : Int) (j : Nat) : Bool := !g.has p j && decide (tAt g.told p j = t)
theorem look_groups {g : Gm} {p : Nat} {t : Int} : ∀ left : List Nat, lookG (g.groups left p) t = left.filter (grpB g p t) := by
  refine snoc_ind rfl fun l i ih => ?_
  rw [groups_snoc, List.filter_append, List.filter_cons]
  unfold Gm.stepG
  by_cases h : g.has p i = true
  · rw [if_pos h, ih, if_neg (by unfold grpB; rw [h]; simp)]
    simp
  · rw [if_neg h, look_addG]
    by_cases e : t = tAt g.told p i
    · rw [if_pos e, if_pos (by unfold grpB; simp [h, e]), ← e, ih]
      rfl
    · rw [if_neg e, if_neg (by unfold grpB; simp [h]; exact fun z => e z.symm), ih]
      simp
theorem group_eq {g : Gm} {p : Nat} {left : List Nat} {x : Grp} (h : x ∈ g.groups left p) : x.2 = left.filter (grpB g p x.1) := by
  rw [← look_groups]
  exact (look_mem (groups_keys left) h).symm
theorem group_in {g : Gm} {p : Nat} {left : List Nat} {i : Nat} (hi : i ∈ left) (h : g.has p i = false) : ∃ x ∈ g.groups left p, x.1 = tAt g.told p i ∧ i ∈ x.2 := by
  have hm : i ∈ left.filter (grpB g p (tAt g.told p i)) := List.mem_filter.mpr ⟨hi, by unfold grpB; simp [h]⟩
  rw [← look_groups] at hm
  obtain ⟨x, h1, h2, h3⟩ := look_in (List.ne_nil_of_mem hm)
  exact ⟨x, h1, h2, h3 ▸ hm⟩
theorem group_of {g : Gm} {p : Nat} {left : List Nat} {x : Grp} {i : Nat} (h : x ∈ g.groups left p) (hi : i ∈ x.2) : i ∈ left ∧ g.has p i = false ∧ tAt g.told p i = x.1 := by
  rw [group_eq h] at hi
  obtain ⟨h1, h2⟩ := List.mem_filter.mp hi
  unfold grpB at h2
  rw [Bool.and_eq_true] at h2
  exact ⟨h1, by simpa using h2.1, of_decide_eq_true h2.2⟩
def sumG (f : Nat → Nat) (gs : List Grp) : Nat := sumN (gs.map fun x => sumN (x.2.map f))
theorem sum_addG {f : Nat → Nat} {t : Int} {i : Nat} : ∀ gs : List Grp, sumG f (addG gs t i) = sumG f gs + f i
  | [] => by simp [sumG, addG, sumN]
  | (v, l) :: r => by
    unfold addG
    by_cases e : v = t
    · rw [if_pos e]
      unfold sumG
      rw [List.map_cons, List.map_cons, sumN_cons, sumN_cons, List.map_append, sumN_append]
      simp [sumN]
      omega
    · rw [if_neg e]
      have ih := sum_addG (f := f) (t := t) (i := i) r
      unfold sumG at ih ⊢
      rw [List.map_cons, List.map_cons, sumN_cons, sumN_cons, ih]
      omega
theorem sum_groups {g : Gm} {p : Nat} (f : Nat → Nat) : ∀ left : List Nat, sumN (left.map fun i => if g.has p i = true then 0 else f i) = sumG f (g.groups left p) := by
  refine snoc_ind rfl fun l i ih => ?_
  rw [groups_snoc, List.map_append, sumN_append, ih]
  unfold Gm.stepG
  by_cases h : g.has p i = true
  · simp [h, sumN]
  · rw [if_neg h, sum_addG]
    simp [h, sumN]
/-! ### the best place -/
theorem bestP_ge (f : Nat → Nat) : ∀ (l : List Nat) (b : Nat), ∀ q ∈ b :: l, f q ≤ f (Gm.bestP f b l)
  | [], b, q, hq => by
    have : q = b := by simpa using hq
    subst this
    exact Nat.le_refl _
  | p :: r, b, q, hq => by
    unfold Gm.bestP
    by_cases h : f b < f p
    · rw [if_pos h]
      have h1 := bestP_ge f r p p (by simp)
      rcases List.mem_cons.mp hq with e | e
      · subst e; omega
      · exact bestP_ge f r p q e
    · rw [if_neg h]
      have h1 := bestP_ge f r b b (by simp)
      rcases List.mem_cons.mp hq with e | e
      · subst e; exact h1
      · rcases List.mem_cons.mp e with e | e
        · subst e; omega
        · exact bestP_ge f r b q (List.mem_cons_of_mem _ e)
/-- nothing before it is as good -/
theorem bestP_first (f : Nat → Nat) : ∀ (l : List Nat) (b : Nat), ∃ pre post, b :: l = pre ++ Gm.bestP f b l :: post ∧ ∀ q ∈ pre, f q < f (Gm.bestP f b l)
  | [], b => ⟨[], [], rfl, by simp⟩
  | p :: r, b => by
    unfold Gm.bestP
    by_cases h : f b < f p
    · rw [if_pos h]
      obtain ⟨pre, post, e, hp⟩ := bestP_first f r p
      have h1 := bestP_ge f r p p (by simp)
      refine ⟨b :: pre, post, by rw [e]; rfl, fun q hq => ?_⟩
      rcases List.mem_cons.mp hq with z | z
      · subst z; omega
      · exact hp q z
    · rw [if_neg h]
      obtain ⟨pre, post, e, hp⟩ := bestP_first f r b
      cases pre with
      | nil =>
        rw [List.nil_append] at e
        injection e with e1 e2
        exact ⟨[], p :: post, by rw [← e1, ← e2]; rfl, by simp⟩
      | cons a pre =>
        rw [List.cons_append] at e
        injection e with e1 e2
        subst e1
        have hb := hp b (by simp)
        refine ⟨b :: p :: pre, post, congrArg (fun l => b :: p :: l) e2, fun q hq => ?_⟩
        rcases List.mem_cons.mp hq with z | z
        · subst z; exact hb
        · rcases List.mem_cons.mp z with z | z
          · subst z; omega
          · exact hp q (List.mem_cons_of_mem _ z)
theorem best_ge {g : Gm} {d : Nat} {left places : List Nat} {q : Nat} (h : q ∈ places) : g.valIf d left places q ≤ g.valIf d left places (g.best d left places) := by
  unfold Gm.best
  match places, h with
  | p :: r, h => exact bestP_ge (g.valIf d left (p :: r)) r p q h
theorem val_best {g : Gm} {d : Nat} {left places : List Nat} (h : g.over left places = false) : g.val (d + 1) left places = g.valIf d left places (g.best d left places) := by
  have hne : places ≠ [] := by
    rintro rfl
    simp [Gm.over] at h
  have e : g.val (d + 1) left places = maxN (places.map fun p => g.valIf d left places p) := by
    show (if g.over left places = true then _ else _) = _
    rw [if_neg (by rw [h]; exact Bool.false_ne_true)]
    rfl
  rw [e]
  refine Nat.le_antisymm ?_ ?_
  · obtain ⟨q, hq, e⟩ := List.mem_map.mp (maxN_mem (l := places.map fun p => g.valIf d left places p) (by simpa using hne))
    rw [← e]
    exact best_ge hq
  · exact maxN_le (List.mem_map.mpr ⟨_, best_mem hne, rfl⟩)
theorem val_over {g : Gm} {d : Nat} {left places : List Nat} (h : g.over left places = true) : g.val d left places = left.length := by
  cases d with
  | zero => rfl
  | succ d =>
    show (if g.over left places = true then _ else _) = _
    rw [if_pos h]
/-! ### how a plan is gone -/
structure Gt (g : Gm) : Prop where
  f : g.Fine
  nd : g.cells.Nodup
  t : ∀ p < g.cells.length, ∀ i < g.lay.length, tAt g.told p i = ((nearN (cellAt g.cells p) (layAt g.lay i) : Nat) : Int)
def goR (g : Gm) : Nat → List Nat → List Nat → List Cell → Nat → List Cell × Bool
  | 0, _, _, gone, _ => (gone, true)
  | d + 1, left, places, gone, i => if g.over left places = true then (gone, true) else
    if g.has (g.best d left places) i = true then (gone ++ [cellAt g.cells (g.best d left places)], false) else
      goR g d (left.filter (grpB g (g.best d left places) (tAt g.told (g.best d left places) i))) (rest places (g.best d left places)) (gone ++ [cellAt g.cells (g.best d left places)]) i
theorem go_count {g : Gm} : ∀ (d : Nat) (left places : List Nat) (gone : List Cell), sumN (left.map fun i => if (goR g d left places gone i).2 = true then 1 else 0) = g.val d left places
  | 0, left, places, gone => by
    show sumN (left.map fun i => if (gone, true).2 = true then 1 else 0) = left.length
    have : ∀ l : List Nat, sumN (l.map fun _ => 1) = l.length := fun l => by
      induction l with
      | nil => rfl
      | cons a r ih => rw [List.map_cons, sumN_cons, ih, List.length_cons]; omega
    exact this left
  | d + 1, left, places, gone => by
    by_cases h : g.over left places = true
    · rw [val_over h]
      have e : (left.map fun i => if (goR g (d + 1) left places gone i).2 = true then 1 else 0) = left.map fun _ => 1 := by
        refine List.map_congr_left fun i _ => ?_
        unfold goR
        rw [if_pos h]
        rfl
      rw [e]
      have : ∀ l : List Nat, sumN (l.map fun _ => 1) = l.length := fun l => by
        induction l with
        | nil => rfl
        | cons a r ih => rw [List.map_cons, sumN_cons, ih, List.length_cons]; omega
      exact this left
    · have h' : g.over left places = false := by simpa using h
      rw [val_best h']
      obtain ⟨p, ep⟩ : ∃ p, p = g.best d left places := ⟨_, rfl⟩
      rw [← ep]
      have e : (left.map fun i => if (goR g (d + 1) left places gone i).2 = true then 1 else 0) = left.map fun i => if g.has p i = true then 0 else (if (goR g d (left.filter (grpB g p (tAt g.told p i))) (rest places p) (gone ++ [cellAt g.cells p]) i).2 = true then 1 else 0) := by
        refine List.map_congr_left fun i _ => ?_
        rw [show goR g (d + 1) left places gone i = (if g.over left places = true then (gone, true) else if g.has (g.best d left places) i = true then (gone ++ [cellAt g.cells (g.best d left places)], false) else goR g d (left.filter (grpB g (g.best d left places) (tAt g.told (g.best d left places) i))) (rest places (g.best d left places)) (gone ++ [cellAt g.cells (g.best d left places)]) i) from rfl, if_neg h, ← ep]
        by_cases hh : g.has p i = true
        · rw [if_pos hh, if_pos hh]
          rfl
        · rw [if_neg hh, if_neg hh]
      rw [e, sum_groups]
      unfold sumG Gm.valIf
      congr 1
      refine List.map_congr_left fun x hx => ?_
      rw [← go_count d x.2 (rest places p) (gone ++ [cellAt g.cells p])]
      congr 1
      refine List.map_congr_left fun i hi => ?_
      obtain ⟨_, _, h3⟩ := group_of hx hi
      rw [h3, ← group_eq hx]
theorem lookS_map {f : Grp → Pl} : ∀ {gs : List Grp} {x : Grp}, (gs.map (·.1)).Nodup → x ∈ gs → lookS (gs.map fun x => (x.1, f x)) x.1 = some (f x)
  | y :: r, x, nd, h => by
    rw [List.map_cons, List.nodup_cons] at nd
    rw [List.map_cons]
    unfold lookS
    rcases List.mem_cons.mp h with e | e
    · rw [e, if_pos rfl]
    · rw [if_neg (fun z => nd.1 (List.mem_map.mpr ⟨x, e, z.symm⟩))]
      exact lookS_map nd.2 e
theorem mem_cellAt {cells : List Cell} {p : Nat} (h : p < cells.length) : cellAt cells p ∈ cells := by
  unfold cellAt
  rw [List.getD_eq_getElem?_getD, List.getElem?_eq_getElem h]
  exact List.getElem_mem h
theorem layAt_mem {L : List (List Cell)} {i : Nat} (h : i < L.length) : layAt L i ∈ L := by
  unfold layAt
  rw [List.getD_eq_getElem?_getD, List.getElem?_eq_getElem h]
  exact List.getElem_mem h
theorem mem_layAt {L : List (List Cell)} {l : List Cell} (h : l ∈ L) : ∃ i < L.length, layAt L i = l := by
  obtain ⟨i, hi, e⟩ := List.mem_iff_getElem.mp h
  refine ⟨i, hi, ?_⟩
  unfold layAt
  rw [List.getD_eq_getElem?_getD, List.getElem?_eq_getElem hi]
  exact e
theorem has_iff {g : Gm} {p i : Nat} : g.has p i = true ↔ cellAt g.cells p ∈ layAt g.lay i := by
  unfold Gm.has
  exact decide_eq_true_iff
theorem alk_snoc {gone l o : List Cell} {c : Cell} : alk (gone ++ [c]) l o = (alk gone l o && (!decide (c ∈ o) && decide (((nearN c o : Nat) : Int) = ((nearN c l : Nat) : Int)))) := by
  unfold alk
  rw [List.map_append, List.all_append]
  simp
structure Iv (g : Gm) (dep d : Nat) (left places : List Nat) (gone : List Cell) : Prop where
  dep : gone.length + d = dep
  li : ∀ i ∈ left, i < g.lay.length
  pi : ∀ p ∈ places, p < g.cells.length
  nd : places.Nodup
  no : ∀ p ∈ places, cellAt g.cells p ∉ gone
  all : ∀ c ∈ g.cells, c ∉ gone → ∃ p ∈ places, cellAt g.cells p = c
  sub : ∀ c ∈ gone, c ∈ g.cells
theorem go_ok {g : Gm} (hg : Gt g) {dep : Nat} : ∀ (d : Nat) (left places : List Nat) (gone : List Cell) (i : Nat), Iv g dep d left places gone → i ∈ left → (∀ j < g.lay.length, alk gone (layAt g.lay i) (layAt g.lay j) = true → j ∈ left) →
    GoP dep (layAt g.lay i) (g.plan d left places) gone (goR g d left places gone i) ∧ (∀ c ∈ (goR g d left places gone i).1, c ∈ g.cells) ∧ (goR g d left places gone i).1.length ≤ dep ∧ ((goR g d left places gone i).2 = true → ∀ L : List (List Cell), L.Perm g.lay → StOk g.cells L (goR g d left places gone i).1 (layAt g.lay i) dep)
  | 0, left, places, gone, i, iv, hi, ha => ⟨.no, iv.sub, by have := iv.dep; show gone.length ≤ _; omega, fun _ L _ => .inl (by have := iv.dep; show gone.length = _; omega)⟩
  | d + 1, left, places, gone, i, iv, hi, ha => by
    by_cases h : g.over left places = true
    · have e1 : g.plan (d + 1) left places = .no := by
        show (if g.over left places = true then _ else _) = _
        rw [if_pos h]
      have e2 : goR g (d + 1) left places gone i = (gone, true) := by
        show (if g.over left places = true then _ else _) = _
        rw [if_pos h]
      rw [e1, e2]
      refine ⟨.no, iv.sub, by have := iv.dep; show gone.length ≤ _; omega, fun _ L hL => .inr fun c hc hcg o ho hal => ?_⟩
      obtain ⟨p, hp, rfl⟩ := iv.all c hc hcg
      obtain ⟨j, hj, rfl⟩ := mem_layAt (hL.mem_iff.mp ho)
      have hjl := ha j hj hal
      unfold Gm.over at h
      rw [List.all_eq_true] at h
      have := h p hp
      rw [List.all_eq_true] at this
      exact has_iff.mp (this j hjl)
    · have h' : g.over left places = false := by simpa using h
      have hne : places ≠ [] := by
        rintro rfl
        simp [Gm.over] at h
      obtain ⟨p, ep⟩ : ∃ p, p = g.best d left places := ⟨_, rfl⟩
      have hp : p ∈ places := ep ▸ best_mem hne
      have hpl := iv.pi p hp
      have hil := iv.li i hi
      obtain ⟨c, ec⟩ : ∃ c, c = cellAt g.cells p := ⟨_, rfl⟩
      have hcn : c ∉ gone := ec ▸ iv.no p hp
      have hdep := iv.dep
      have e1 : g.plan (d + 1) left places = .op c ((g.groups left p).map fun x => (x.1, g.plan d x.2 (rest places p))) := by
        show (if g.over left places = true then _ else _) = _
        rw [if_neg h, ← ep, ← ec]
      have hsub : ∀ x ∈ gone ++ [c], x ∈ g.cells := fun x hx => by
        rcases List.mem_append.mp hx with z | z
        · exact iv.sub x z
        · rw [List.mem_singleton.mp z, ec]; exact mem_cellAt hpl
      by_cases hh : g.has p i = true
      · have e2 : goR g (d + 1) left places gone i = (gone ++ [c], false) := by
          show (if g.over left places = true then _ else _) = _
          rw [if_neg h, ← ep, if_pos hh, ← ec]
        rw [e1, e2]
        refine ⟨.hit hcn (by omega) (ec ▸ has_iff.mp hh), hsub, ?_, fun z => by cases z⟩
        show (gone ++ [c]).length ≤ dep
        rw [List.length_append, List.length_singleton]
        omega
      · have hh' : g.has p i = false := by simpa using hh
        obtain ⟨x, hx, hx1, hx2⟩ := group_in hi hh'
        have hxe := group_eq hx
        have e2 : goR g (d + 1) left places gone i = goR g d x.2 (rest places p) (gone ++ [c]) i := by
          show (if g.over left places = true then _ else _) = _
          rw [if_neg h, ← ep, if_neg hh, ← ec, ← hx1, ← hxe]
        have iv' : Iv g dep d x.2 (rest places p) (gone ++ [c]) := by
          refine ⟨?_, fun j hj => iv.li j (group_of hx hj).1, fun q hq => iv.pi q (List.mem_filter.mp hq).1, iv.nd.filter _, fun q hq hm => ?_, fun y hy hyn => ?_, hsub⟩
          · rw [List.length_append, List.length_singleton]; omega
          · obtain ⟨h1, h2⟩ := List.mem_filter.mp hq
            rcases List.mem_append.mp hm with z | z
            · exact iv.no q h1 z
            · have e := List.mem_singleton.mp z
              rw [ec] at e
              have := cellAt_inj hg.nd (iv.pi q h1) hpl e
              simp [this] at h2
          · obtain ⟨q, hq, rfl⟩ := iv.all y hy fun z => hyn (List.mem_append_left _ z)
            refine ⟨q, List.mem_filter.mpr ⟨hq, ?_⟩, rfl⟩
            have : q ≠ p := fun z => hyn (by rw [z, ← ec]; simp)
            simp [this]
        have ha' : ∀ j < g.lay.length, alk (gone ++ [c]) (layAt g.lay i) (layAt g.lay j) = true → j ∈ x.2 := fun j hj hal => by
          rw [alk_snoc, Bool.and_eq_true, Bool.and_eq_true] at hal
          obtain ⟨h1, h2, h3⟩ := hal
          have hjl := ha j hj h1
          have h2 : c ∉ layAt g.lay j := by simpa using h2
          have h3 := of_decide_eq_true h3
          rw [hxe]
          refine List.mem_filter.mpr ⟨hjl, ?_⟩
          unfold grpB
          rw [Bool.and_eq_true]
          refine ⟨?_, decide_eq_true ?_⟩
          · rw [Bool.not_eq_true']
            cases z : g.has p j with
            | false => rfl
            | true => exact absurd (has_iff.mp z) (ec ▸ h2)
          · rw [hx1, hg.t p hpl j hj, hg.t p hpl i hil, ← ec]
            exact h3
        obtain ⟨r1, r2, r3, r4⟩ := go_ok hg d x.2 (rest places p) (gone ++ [c]) i iv' hx2 ha'
        rw [e1, e2]
        refine ⟨.go (t := g.plan d x.2 (rest places p)) hcn (by omega) (fun z => hh (has_iff.mpr (ec ▸ z))) ?_ r1, r2, r3, r4⟩
        have := lookS_map (f := fun x => g.plan d x.2 (rest places p)) (groups_keys left) hx
        rw [ec, ← hg.t p hpl i hil, ← hx1]
        exact this
end SL
set_option maxRecDepth 100000
set_option maxHeartbeats 4000000
/-! plain: rivals, fractions, order -/
namespace SL
open PySem L2 Evl
theorem run_false {cs : List Int} {l : List Cell} : ∀ (ss : List Nat) (lf : List Cell) (seed : Nat), (runR cs l (lf, seed, false) ss).2.2 = false
  | [], _, _ => rfl
  | s :: ss, lf, seed => by
    have e : stepR cs l s (lf, seed, false) = (lf, seed, false) := by
      unfold stepR
      rw [if_neg (by exact Bool.false_ne_true)]
    show (runR cs l (stepR cs l s (lf, seed, false)) ss).2.2 = false
    rw [e]
    exact run_false ss lf seed
theorem sum_le_len {f : Nat → Nat} (h : ∀ i, f i ≤ 1) : ∀ l : List Nat, sumN (l.map f) ≤ l.length
  | [] => Nat.le_refl _
  | a :: r => by
    rw [List.map_cons, sumN_cons, List.length_cons]
    have := sum_le_len h r
    have := h a
    omega
theorem perm_rest : ∀ {l : List Nat} {p : Nat}, l.Nodup → p ∈ l → l.Perm (p :: rest l p)
  | a :: r, p, nd, h => by
    rw [List.nodup_cons] at nd
    unfold rest
    rw [List.filter_cons]
    by_cases e : a = p
    · subst e
      rw [if_neg (by simp)]
      have : r.filter (fun o => !decide (o = a)) = r := List.filter_eq_self.mpr fun x hx => by
        have : x ≠ a := fun z => nd.1 (z ▸ hx)
        simp [this]
      rw [this]
    · rw [if_pos (by simpa using e)]
      have hp : p ∈ r := by
        rcases List.mem_cons.mp h with z | z
        · exact absurd z.symm e
        · exact z
      exact ((perm_rest nd.2 hp).cons a).trans (List.Perm.swap _ _ _)
theorem erase_perm : ∀ {l : List Cell} {e : Nat} {c : Cell}, l[e]? = some c → l.Perm (c :: l.eraseIdx e)
  | a :: r, 0, c, h => by
    simp at h
    subst h
    exact List.Perm.refl _
  | a :: r, e + 1, c, h => by
    have h : r[e]? = some c := by simpa using h
    show (a :: r).Perm (c :: a :: r.eraseIdx e)
    exact ((erase_perm h).cons a).trans (List.Perm.swap _ _ _)
theorem riv_le {g : Gm} (hg : Gt g) {cs : List Int} : ∀ (ss : List Nat) (d : Nat) (left places : List Nat) (lf : List Cell) (seed : Nat), lf.Perm (places.map (cellAt g.cells)) → places.Nodup → (∀ p ∈ places, p < g.cells.length) → (∀ i ∈ left, i < g.lay.length) → ss.length = min d places.length →
    sumN (left.map fun i => if (runR cs (layAt g.lay i) (lf, seed, true) ss).2.2 = true then 1 else 0) ≤ g.val d left places
  | [], d, left, places, lf, seed, hp, nd, hpi, hli, hl => by
    have hv : g.val d left places = left.length := by
      cases d with
      | zero => rfl
      | succ d =>
        refine val_over ?_
        have : places = [] := by
          rw [← List.length_eq_zero_iff]
          simp at hl
          omega
        rw [this]
        rfl
    rw [hv]
    exact sum_le_len (fun i => by split <;> omega) left
  | s :: ss, d, left, places, lf, seed, hp, nd, hpi, hli, hl => by
    by_cases h : g.over left places = true
    · rw [val_over h]
      exact sum_le_len (fun i => by split <;> omega) left
    · have h' : g.over left places = false := by simpa using h
      rw [List.length_cons] at hl
      obtain ⟨d', rfl⟩ : ∃ d', d = d' + 1 := ⟨d - 1, by omega⟩
      have hlen : lf.length = places.length := by rw [hp.length_eq, List.length_map]
      have hpos : 0 < places.length := by omega
      obtain ⟨e, ee⟩ : ∃ e, e = (mixZ (cellK cs (4 + (seed + 5 * s) % 58)) (seed : Int) % (lf.length : Int)).toNat := ⟨_, rfl⟩
      have h0 : 0 ≤ mixZ (cellK cs (4 + (seed + 5 * s) % 58)) (seed : Int) % (lf.length : Int) := Int.emod_nonneg _ (by omega)
      have h1 : mixZ (cellK cs (4 + (seed + 5 * s) % 58)) (seed : Int) % (lf.length : Int) < (lf.length : Int) := Int.emod_lt_of_pos _ (by omega)
      have hel : e < lf.length := by omega
      obtain ⟨c, ec⟩ : ∃ c, c = lf.getD e (0, 0) := ⟨_, rfl⟩
      have hce : lf[e]? = some c := by
        rw [ec, List.getD_eq_getElem?_getD, List.getElem?_eq_getElem hel]
        rfl
      obtain ⟨p, hpp, epc⟩ := List.mem_map.mp (hp.mem_iff.mp (List.mem_of_getElem? hce))
      have hpl := hpi p hpp
      have hst : ∀ l : List Cell, stepR cs l s (lf, seed, true) = (lf.eraseIdx e, 9 * seed + 1 + nearN c l, !decide (c ∈ l)) := fun l => by
        unfold stepR
        rw [if_pos rfl, ec, ee]
      have hp' : (lf.eraseIdx e).Perm ((rest places p).map (cellAt g.cells)) := by
        have q1 := erase_perm hce
        have q2 := (perm_rest nd hpp).map (cellAt g.cells)
        rw [List.map_cons, epc] at q2
        exact (q1.symm.trans (hp.trans q2)).cons_inv
      have hl' : ss.length = min d' (rest places p).length := by
        have := (perm_rest nd hpp).length_eq
        rw [List.length_cons] at this
        omega
      have e1 : (left.map fun i => if (runR cs (layAt g.lay i) (lf, seed, true) (s :: ss)).2.2 = true then 1 else 0) = left.map fun i => if g.has p i = true then 0 else (if (runR cs (layAt g.lay i) (lf.eraseIdx e, 9 * seed + 1 + (tAt g.told p i).toNat, true) ss).2.2 = true then 1 else 0) := by
        refine List.map_congr_left fun i hi => ?_
        show (if (runR cs (layAt g.lay i) (stepR cs (layAt g.lay i) s (lf, seed, true)) ss).2.2 = true then 1 else 0) = _
        rw [hst]
        by_cases hh : g.has p i = true
        · have hm := has_iff.mp hh
          rw [epc] at hm
          rw [if_pos hh, decide_eq_true hm]
          show (if (runR cs (layAt g.lay i) (lf.eraseIdx e, 9 * seed + 1 + nearN c (layAt g.lay i), false) ss).2.2 = true then 1 else 0) = 0
          rw [run_false]
          rfl
        · have hm : c ∉ layAt g.lay i := fun z => hh (has_iff.mpr (epc ▸ z))
          rw [if_neg hh, decide_eq_false hm, hg.t p hpl i (hli i hi), epc]
          rfl
      rw [e1, sum_groups]
      refine Nat.le_trans ?_ (by rw [val_best h']; exact best_ge hpp)
      unfold sumG Gm.valIf
      refine sumN_map_le fun x hx => ?_
      refine Nat.le_trans (Nat.le_of_eq ?_) (riv_le hg (cs := cs) ss d' x.2 (rest places p) (lf.eraseIdx e) (9 * seed + 1 + x.1.toNat) hp' (nd.filter _) (fun q hq => hpi q (List.mem_filter.mp hq).1) (fun j hj => hli j (group_of hx hj).1) hl')
      congr 1
      refine List.map_congr_left fun i hi => ?_
      rw [(group_of hx hi).2.2]
/-! ### counting -/
theorem sum_filter {P : Nat → Bool} : ∀ l : List Nat, sumN (l.map fun i => if P i = true then 1 else 0) = (l.filter P).length
  | [] => rfl
  | a :: r => by
    rw [List.map_cons, sumN_cons, List.filter_cons, sum_filter r]
    by_cases h : P a = true
    · rw [if_pos h, if_pos h, List.length_cons]; omega
    · rw [if_neg h, if_neg h]; omega
theorem lay_range (L : List (List Cell)) : (List.range L.length).map (layAt L) = L := by
  apply List.ext_getElem?
  intro k
  rw [List.getElem?_map]
  by_cases h : k < L.length
  · rw [List.getElem?_range h, List.getElem?_eq_getElem h]
    show some (L.getD k []) = _
    rw [List.getD_eq_getElem?_getD, List.getElem?_eq_getElem h]
    rfl
  · rw [List.getElem?_eq_none (by rw [List.length_range]; omega), List.getElem?_eq_none (by omega)]
    rfl
theorem count_idx {L : List (List Cell)} {P : List Cell → Bool} : (L.filter P).length = sumN ((List.range L.length).map fun i => if P (layAt L i) = true then 1 else 0) := by
  rw [sum_filter (P := fun i => P (layAt L i))]
  conv => lhs; rw [← lay_range L]
  rw [List.filter_map, List.length_map]
  rfl
/-! ### heights and sizes of plans -/
theorem hgt_plan {g : Gm} : ∀ (d : Nat) (left places : List Nat), hgtLe d (g.plan d left places)
  | 0, _, _ => trivial
  | d + 1, left, places => by
    show hgtLe (d + 1) (if g.over left places = true then _ else _)
    split
    · trivial
    · intro x hx
      obtain ⟨y, _, rfl⟩ := List.mem_map.mp hx
      exact hgt_plan d y.2 _
theorem pls_len {G : Hp} {d : Nat} {F : Grp → Pl} : ∀ {gs : List Grp} {kvs : List (Key × V)} {as : List Addr}, PlAs G kvs (gs.map fun x => (x.1, F x)) as → (∀ x ∈ gs, ∀ v bs, PlA G v (F x) bs → bs.length ≤ d * x.2.length) → as.length ≤ d * tot gs
  | [], _, _, h, _ => by
    cases h
    exact Nat.zero_le _
  | x :: gs, kvs, as, h, hh => by
    rw [List.map_cons] at h
    cases h with
    | cons h1 h2 =>
      have q1 := hh x (by simp) _ _ h1
      have q2 := pls_len h2 fun y hy => hh y (List.mem_cons_of_mem _ hy)
      unfold tot at q2 ⊢
      rw [List.length_append, List.map_cons, sumN_cons, Nat.mul_add]
      omega
theorem plan_len {G : Hp} {g : Gm} : ∀ (d : Nat) (left places : List Nat) (v : V) (as : List Addr), PlA G v (g.plan d left places) as → as.length ≤ d * left.length
  | 0, left, places, v, as, h => by
    have h : PlA G v .no as := h
    cases h
    exact Nat.zero_le _
  | d + 1, left, places, v, as, h => by
    by_cases ho : g.over left places = true
    · have e : g.plan (d + 1) left places = .no := by
        show (if g.over left places = true then _ else _) = _
        rw [if_pos ho]
      rw [e] at h
      cases h
      exact Nat.zero_le _
    · have e : g.plan (d + 1) left places = .op (cellAt g.cells (g.best d left places)) ((g.groups left (g.best d left places)).map fun x => (x.1, g.plan d x.2 (rest places (g.best d left places)))) := by
        show (if g.over left places = true then _ else _) = _
        rw [if_neg ho]
      rw [e] at h
      have hl : 0 < left.length := by
        cases left with
        | nil => exact absurd (by simp [Gm.over]) ho
        | cons a r => simp
      cases h with
      | op h1 h2 h3 h4 h5 =>
        have q1 := pls_len (d := d) (F := fun x => g.plan d x.2 (rest places (g.best d left places))) h4 fun x _ v bs hb => plan_len d x.2 _ v bs hb
        have q2 := groups_tot (g := g) (p := g.best d left places) left
        have q3 := Nat.mul_le_mul_left d q2
        rw [List.length_cons, Nat.succ_mul]
        omega
/-! ### fractions -/
theorem frac_parts {m n : Nat} (hn : 0 < n) : ∃ a b k, 0 < k ∧ m = a * k ∧ n = b * k ∧ frac m n = ((a : Int), (b : Int)) ∧ 0 < b := by
  have hk : 0 < Nat.gcd m n := Nat.gcd_pos_of_pos_right m hn
  refine ⟨m / Nat.gcd m n, n / Nat.gcd m n, Nat.gcd m n, hk, (Nat.div_mul_cancel (Nat.gcd_dvd_left m n)).symm, (Nat.div_mul_cancel (Nat.gcd_dvd_right m n)).symm, rfl, ?_⟩
  exact Nat.div_pos (Nat.le_of_dvd hn (Nat.gcd_dvd_right m n)) hk
theorem frac_cross {m n : Nat} (hn : 0 < n) : (frac m n).1 * (n : Int) = (m : Int) * (frac m n).2 := by
  obtain ⟨a, b, k, hk, h1, h2, e, hb⟩ := frac_parts (m := m) hn
  rw [e]
  show (a : Int) * (n : Int) = (m : Int) * (b : Int)
  rw [h1, h2]
  push_cast
  rw [Int.mul_assoc, Int.mul_comm (b : Int) (k : Int)]
theorem frac_le {m m' n : Nat} (hn : 0 < n) (h : m ≤ m') : (frac m n).1 * (frac m' n).2 ≤ (frac m' n).1 * (frac m n).2 := by
  obtain ⟨a, b, k, hk, h1, h2, e, hb⟩ := frac_parts (m := m) hn
  obtain ⟨a', b', k', hk', h1', h2', e', hb'⟩ := frac_parts (m := m') hn
  rw [e, e']
  show (a : Int) * (b' : Int) ≤ (a' : Int) * (b : Int)
  have : a * b' ≤ a' * b := by
    refine Nat.le_of_mul_le_mul_right (c := k * k') ?_ (Nat.mul_pos hk hk')
    have e1 : a * b' * (k * k') = m * n := by
      rw [h1, h2']
      simp only [Nat.mul_assoc, Nat.mul_comm, Nat.mul_left_comm]
    have e2 : a' * b * (k * k') = m' * n := by
      rw [h1', h2]
      simp only [Nat.mul_assoc, Nat.mul_comm, Nat.mul_left_comm]
    rw [e1, e2]
    exact Nat.mul_le_mul_right n h
  exact_mod_cast this
theorem frac_inj {m m' n : Nat} (hn : 0 < n) (h : frac m n = frac m' n) : m = m' := by
  have h1 := frac_cross (m := m) hn
  have h2 := frac_cross (m := m') hn
  obtain ⟨a, b, k, hk, _, _, e, hb⟩ := frac_parts (m := m) hn
  rw [h] at h1
  rw [h1, ← h, e] at h2
  have h2 : (m : Int) * (b : Int) = (m' : Int) * (b : Int) := h2
  have h2 : m * b = m' * b := by exact_mod_cast h2
  exact Nat.eq_of_mul_eq_mul_right hb h2
theorem frac_self {n : Nat} (hn : 0 < n) : frac n n = frac 1 1 := by
  unfold frac
  rw [Nat.gcd_self, Nat.div_self hn]
  rfl
/-! ### the order of the cells -/
def lexL (c d : Cell) : Prop := c.1 < d.1 ∨ (c.1 = d.1 ∧ c.2 < d.2)
theorem pw_row (p : Nat → Bool) (i : Nat) (row : List Nat) : (rowCells p i row).Pairwise lexL := by
  rw [rowCells_range]
  refine List.Pairwise.map _ (fun a b hab => ?_) ((List.pairwise_lt_range (n := row.length)).filter _)
  right
  simp
  exact hab
theorem pw_cells (p : Nat → Bool) (rows : List (List Nat)) : (cellsOf p rows).Pairwise lexL := by
  unfold cellsOf
  have h : ∀ (l : List (List Nat)) (k : Nat), ((l.zipIdx k).flatMap fun z => rowCells p z.2 z.1).Pairwise lexL ∧ ∀ c ∈ (l.zipIdx k).flatMap fun z => rowCells p z.2 z.1, (k : Int) ≤ c.1 := by
    intro l
    induction l with
    | nil => intro k; simp
    | cons r l ih =>
      intro k
      rw [List.zipIdx_cons, List.flatMap_cons]
      obtain ⟨h1, h2⟩ := ih (k + 1)
      refine ⟨?_, fun c hc => ?_⟩
      · rw [List.pairwise_append]
        refine ⟨pw_row p k r, h1, fun a ha b hb => ?_⟩
        have h3 := h2 b hb
        obtain ⟨j, x, e1, _⟩ := mem_rowCells.mp ha
        left
        rw [e1]
        simp at h3 ⊢
        omega
      · rcases List.mem_append.mp hc with q | q
        · obtain ⟨j, x, e1, _⟩ := mem_rowCells.mp q
          rw [e1]
          exact Int.le_refl _
        · have := h2 c q
          omega
  exact (h rows 0).1
def ltC (c d : Cell) : Bool := HT.lexLt [c.1, c.2] [d.1, d.2]
theorem ltC_iff {c d : Cell} : ltC c d = true ↔ lexL c d := by
  unfold ltC lexL
  rw [HT.lexLt_cons, HT.lexLt_cons, HT.lexLt_nil_nil]
  by_cases e : c.1 = d.1
  · rw [if_pos e]
    by_cases e2 : c.2 = d.2
    · rw [if_pos e2]
      constructor
      · intro h; cases h
      · rintro (h | ⟨_, h⟩) <;> omega
    · rw [if_neg e2, decide_eq_true_iff]
      constructor
      · intro h; exact .inr ⟨e, h⟩
      · rintro (h | ⟨_, h⟩)
        · omega
        · exact h
  · rw [if_neg e, decide_eq_true_iff]
    constructor
    · intro h; exact .inl h
    · rintro (h | ⟨h, _⟩)
      · exact h
      · exact absurd h e
theorem lt_index {rows : List (List Nat)} {p q : Nat} (hp : p < (closedC rows).length) (hq : q < (closedC rows).length) (h : ltC (cellAt (closedC rows) q) (cellAt (closedC rows) p) = true) : q < p := by
  have h := ltC_iff.mp h
  have pw := pw_cells (fun c => decide (c ∈ qm)) rows
  rw [List.pairwise_iff_getElem] at pw
  have eg : ∀ k (hk : k < (closedC rows).length), cellAt (closedC rows) k = (closedC rows)[k] := fun k hk => by
    unfold cellAt
    rw [List.getD_eq_getElem?_getD, List.getElem?_eq_getElem hk]
    rfl
  rw [eg q hq, eg p hp] at h
  by_cases e : q < p
  · exact e
  · exfalso
    by_cases e2 : q = p
    · subst e2
      rcases h with h | ⟨_, h⟩ <;> omega
    · have := pw p q hp hq (by omega)
      have this : lexL (closedC rows)[p] (closedC rows)[q] := this
      rcases h with h | ⟨h, h'⟩ <;> rcases this with g | ⟨g, g'⟩ <;> omega
end SL
set_option maxRecDepth 100000
set_option maxHeartbeats 4000000
/-! plain: what the law asks, of the game of a board -/
namespace SL
open PySem L2 Evl
theorem getD_map {α β : Type} {f : α → β} {l : List α} {p : Nat} {d : β} {d' : α} (h : p < l.length) : (l.map f).getD p d = f (l.getD p d') := by
  rw [List.getD_eq_getElem?_getD, List.getD_eq_getElem?_getD, List.getElem?_map, List.getElem?_eq_getElem h]
  rfl
theorem gt_of {rows : List (List Nat)} {n : Int} (hb : BdOk rows n) : Gt (gmOf rows n) := by
  refine ⟨gm_fine hb.c8, nd_cellsOf _ rows, fun p hp i hi => ?_⟩
  have hp : p < (closedC rows).length := hp
  have hi : i < (sortL (layU rows n)).length := hi
  have e1 : tAt (gmOf rows n).told p i = ((hitN rows (cellAt (closedC rows) p) (layAt (sortL (layU rows n)) i) : Nat) : Int) := by
    show (((closedC rows).map fun c => (sortL (layU rows n)).map fun l => ((hitN rows c l : Nat) : Int)).getD p []).getD i 0 = _
    rw [getD_map (d' := ((0 : Int), (0 : Int))) hp, getD_map (d' := ([] : List Cell)) hi]
    rfl
  rw [e1, hit_near (lay_sub (layAt_mem hi))]
  rfl
structure BF (g : Gm) (d : Nat) (p0 : Nat) : Prop where
  lt : p0 < g.cells.length
  dat : bestD g d = .tuple [encC (cellAt g.cells p0), encC (frac (chN g d p0) g.lay.length)]
  val : g.val d (startL g) (startP g) = chN g d p0
  ge : ∀ p < g.cells.length, chN g d p ≤ chN g d p0
  first : ∀ q < p0, chN g d q ≠ chN g d p0
  plan : g.plan d (startL g) (startP g) = .no ∨ ∃ subs, g.plan d (startL g) (startP g) = .op (cellAt g.cells p0) subs
theorem best_facts {g : Gm} {d : Nat} (hl : 0 < g.lay.length) (h : g.over (startL g) (startP g) = false) : ∃ p0, BF g d p0 := by
  have hne : startP g ≠ [] := by
    intro e
    rw [e] at h
    simp [Gm.over] at h
  have hc0 : 0 < g.cells.length := by
    cases h : g.cells.length with
    | zero => exact absurd (by unfold startP; rw [h]; rfl) hne
    | succ m => omega
  cases d with
  | zero =>
    refine ⟨0, hc0, ?_, ?_, fun p hp => Nat.le_refl _, fun q hq => absurd hq (Nat.not_lt_zero _), .inl rfl⟩
    · unfold bestD
      rw [if_neg (by rw [h]; exact Bool.false_ne_true)]
      show PyData.tuple [encC (cellAt g.cells 0), encC (frac 1 1)] = _
      rw [← frac_self hl]
      rfl
    · show (startL g).length = g.lay.length
      unfold startL
      rw [List.length_range]
  | succ d =>
    have hbm := best_mem (g := g) (d := d) (left := startL g) hne
    refine ⟨g.best d (startL g) (startP g), List.mem_range.mp hbm, ?_, val_best h, fun p hp => best_ge (List.mem_range.mpr hp), fun q hq => ?_, .inr ⟨(g.groups (startL g) (g.best d (startL g) (startP g))).map fun x => (x.1, g.plan d x.2 (rest (startP g) (g.best d (startL g) (startP g)))), ?_⟩⟩
    · unfold bestD
      rw [if_neg (by rw [h]; exact Bool.false_ne_true)]
      rfl
    · have hlen : 0 < g.cells.length := hc0
      obtain ⟨m, hm⟩ : ∃ m, g.cells.length = m + 1 := ⟨g.cells.length - 1, by omega⟩
      have hsp : startP g = 0 :: (List.range m).map Nat.succ := by
        unfold startP
        rw [hm, List.range_succ_eq_map]
      obtain ⟨pre, post, e, hpre⟩ := bestP_first (g.valIf d (startL g) (startP g)) ((List.range m).map Nat.succ) 0
      have eb : g.best d (startL g) (startP g) = Gm.bestP (g.valIf d (startL g) (startP g)) 0 ((List.range m).map Nat.succ) := by
        unfold Gm.best
        rw [hsp]
        rfl
      obtain ⟨b, hbd⟩ : ∃ b, b = g.best d (startL g) (startP g) := ⟨_, rfl⟩
      rw [← hsp, ← eb, ← hbd] at e
      rw [← hbd] at hq
      have e2 : startP g = List.range g.cells.length := rfl
      have hx : (List.range g.cells.length)[pre.length]? = some b := by
        rw [← e2, e]
        simp
      have hpl := (rng_get hx).1
      have hq' : q < pre.length := by omega
      have hqm : q ∈ pre := by
        have h1 : (List.range g.cells.length)[q]? = some q := by
          rw [List.getElem?_range (by have := (rng_get hx).2; omega)]
        rw [← e2, e, List.getElem?_append_left hq'] at h1
        exact List.mem_of_getElem? h1
      have := hpre q hqm
      rw [← eb, ← hbd] at this
      rw [← hbd]
      show g.valIf d (startL g) (startP g) q ≠ g.valIf d (startL g) (startP g) b
      omega
    · show (if g.over (startL g) (startP g) = true then _ else _) = _
      rw [if_neg (by rw [h]; exact Bool.false_ne_true)]
theorem plan_over {g : Gm} {d : Nat} (h : g.over (startL g) (startP g) = true) : g.plan d (startL g) (startP g) = .no := by
  cases d with
  | zero => rfl
  | succ d =>
    show (if g.over (startL g) (startP g) = true then _ else _) = _
    rw [if_pos h]
theorem best_over {g : Gm} {d : Nat} (h : g.over (startL g) (startP g) = true) : bestD g d = .none := by
  unfold bestD
  rw [if_pos h]
theorem iv_start {g : Gm} (d : Nat) : Iv g d d (startL g) (startP g) [] := by
  refine ⟨by simp, fun i hi => List.mem_range.mp hi, fun p hp => List.mem_range.mp hp, List.nodup_range, fun p _ => by simp, fun c hc _ => ?_, fun c hc => by simp at hc⟩
  obtain ⟨p, hp, e⟩ := List.mem_iff_getElem.mp hc
  refine ⟨p, List.mem_range.mpr hp, ?_⟩
  unfold cellAt
  rw [List.getD_eq_getElem?_getD, List.getElem?_eq_getElem hp]
  exact e
/-- the walk of a plan, for every laying -/
theorem walk_all {g : Gm} (hg : Gt g) (d : Nat) {L : List (List Cell)} (hL : L.Perm g.lay) (hnd : L.Nodup) : ∃ rr : List Cell → List Cell × Bool, (L.filter fun l => (rr l).2).length = g.val d (startL g) (startP g) ∧
    ∀ l ∈ L, GoP d l (g.plan d (startL g) (startP g)) [] (rr l) ∧ (∀ c ∈ (rr l).1, c ∈ g.cells) ∧ (rr l).1.length ≤ d ∧ ((rr l).2 = true → StOk g.cells L (rr l).1 l d) := by
  -- the place of a laying
  let ix : List Cell → Nat := fun l => g.lay.idxOf l
  have hnd' : g.lay.Nodup := hL.nodup_iff.mp hnd
  have hix : ∀ i < g.lay.length, ix (layAt g.lay i) = i := fun i hi => by
    have : layAt g.lay i = g.lay[i] := by
      unfold layAt
      rw [List.getD_eq_getElem?_getD, List.getElem?_eq_getElem hi]
      rfl
    show g.lay.idxOf _ = i
    rw [this]
    exact hnd'.idxOf_getElem i hi
  refine ⟨fun l => goR g d (startL g) (startP g) [] (ix l), ?_, fun l hl => ?_⟩
  · rw [(hL.filter _).length_eq, count_idx, ← go_count d (startL g) (startP g) []]
    congr 1
    refine List.map_congr_left fun i hi => ?_
    show (if (goR g d (startL g) (startP g) [] (ix (layAt g.lay i))).2 = true then 1 else 0) = _
    rw [hix i (List.mem_range.mp hi)]
  · obtain ⟨i, hi, rfl⟩ := mem_layAt (hL.mem_iff.mp hl)
    have h := go_ok hg d (startL g) (startP g) [] i (iv_start d) (List.mem_range.mpr hi) (fun j hj _ => List.mem_range.mpr hj)
    have key : ∀ j, j = i → GoP d (layAt g.lay i) (g.plan d (startL g) (startP g)) [] (goR g d (startL g) (startP g) [] j) ∧ (∀ c ∈ (goR g d (startL g) (startP g) [] j).1, c ∈ g.cells) ∧ (goR g d (startL g) (startP g) [] j).1.length ≤ d ∧ ((goR g d (startL g) (startP g) [] j).2 = true → StOk g.cells L (goR g d (startL g) (startP g) [] j).1 (layAt g.lay i) d) := fun j e => by
      subst e
      exact ⟨h.1, h.2.1, h.2.2.1, fun z => h.2.2.2 z L hL⟩
    exact key _ (hix i hi)
theorem rival_le {g : Gm} (hg : Gt g) (cs : List Int) (d k : Nat) {L : List (List Cell)} (hL : L.Perm g.lay) : (L.filter (rivS cs g.cells d k)).length ≤ g.val d (startL g) (startP g) := by
  rw [(hL.filter _).length_eq, count_idx]
  refine riv_le hg (cs := cs) (List.range (min d g.cells.length)) d (startL g) (startP g) g.cells k ?_ List.nodup_range (fun p hp => List.mem_range.mp hp) (fun i hi => List.mem_range.mp hi) ?_
  · have e : (startP g).map (cellAt g.cells) = g.cells := by
      apply List.ext_getElem?
      intro k
      unfold startP
      rw [List.getElem?_map]
      by_cases h : k < g.cells.length
      · rw [List.getElem?_range h, List.getElem?_eq_getElem h]
        show some (cellAt g.cells k) = _
        unfold cellAt
        rw [List.getD_eq_getElem?_getD, List.getElem?_eq_getElem h]
        rfl
      · rw [List.getElem?_eq_none (by rw [List.length_range]; omega), List.getElem?_eq_none (by omega)]
        rfl
    rw [e]
  · rw [List.length_range]
    unfold startP
    rw [List.length_range]
theorem powD_nodup : ∀ cs : List Cell, cs.Nodup → (powD cs).Nodup := by
  refine snoc_ind (fun _ => by simp [powD]) fun l a ih nd => ?_
  rw [List.nodup_append] at nd
  obtain ⟨h1, _, h3⟩ := nd
  have han : a ∉ l := fun z => h3 a z a (by simp) rfl
  have ih := ih h1
  rw [powD_snoc]
  unfold dblC
  rw [List.nodup_append]
  refine ⟨ih, List.Pairwise.map _ (fun x y hxy e => hxy (List.append_cancel_right e)) ih, fun x hx y hy e => ?_⟩
  subst e
  obtain ⟨t, _, rfl⟩ := List.mem_map.mp hy
  exact han (powD_sub l _ hx a (by simp))
theorem law_nodup {rows : List (List Nat)} {n : Int} : (sortL (allU rows n)).Nodup := by
  rw [(sortL_perm _).nodup_iff, allU_eq]
  exact (powD_nodup _ (nd_cellsOf _ rows)).filter _
theorem frac_small {m n : Nat} (hn : 0 < n) (hm : m ≤ 256) (hn2 : n ≤ 256) : 0 ≤ (frac m n).1 ∧ (frac m n).1 ≤ 256 ∧ 0 ≤ (frac m n).2 ∧ (frac m n).2 ≤ 256 := by
  obtain ⟨a, b, k, hk, h1, h2, e, hb⟩ := frac_parts (m := m) hn
  rw [e]
  have ha : a ≤ m := by rw [h1]; exact Nat.le_mul_of_pos_right a hk
  have hb2 : b ≤ n := by rw [h2]; exact Nat.le_mul_of_pos_right b hk
  refine ⟨?_, ?_, ?_, ?_⟩ <;> show _ ≤ _ <;> simp <;> omega
end SL
set_option maxRecDepth 100000
set_option maxHeartbeats 4000000
namespace SL
open PySem L2 Evl
local macro_rules | `(tactic| trivial) => `(tactic| (repeat (first | exact SL.LeG.nil | refine SL.LeG.cons (by first | exact SL.Le.rfl _ | exact SL.Le.any _) ?_)); done)
section
variable {W : Wd} {X : Cx} {Γ : List Sd} {e ei : Expr} {es : List Expr} {k : Nat} {x : Str} {ps : List Str} {pre : List Ty → Ty → Prop} {Rs0 : List Ty} {R : Ty} {p pos : Pos}
theorem xcall0E (F : Def X.prog X.w X.K X.mg X.base k x ps (spF W0 pre)) (hr : Room k X.A) (hg : Gl X x) (ha : XA W X (e :: es) Γ Rs0) (hp : ∀ G vs, AllTy G Rs0 vs → ∃ Rs, pre Rs R ∧ AllTy G Rs vs)
    (hdb : (x == ("__debug__" : Str)) = false := by decide) (he : starEach (e :: es) X.env = (false, eval e X.env) :: starEach es X.env := by rfl) (hpl : (backTo pos (starEach es X.env)).any (·.1) = false := by rfl) :
    XE W X (.Call (.Name x p) (e :: es) [] pos) Γ R := by
  obtain ⟨f, fd, F, hm, hk, hb⟩ := F.ex
  obtain ⟨t, a1, a2⟩ := ha
  refine ⟨_, pe_call F hr hg hm hk hb .nil pass0 a1 hdb he hpl, fun H0 σ G H o s Q q => a2 H0 σ G H o s _ fun vs G1 H1 r1 o1 m1 => ?_⟩
  rw [List.append_nil]
  obtain ⟨Rs, h1, h2⟩ := hp G1 vs m1
  exact ⟨Rs, R, G1, h1, o1.to0, h2, fun v G' H' r o' m => q v G' H' (r1.trans r.of0) (Ok.of0 r o1 o') m⟩
theorem rv_isNI {i : Int} : R2v W rIsNo (dI i) dN (dB false) := fun x y G H o m1 m2 Q q => by
  cases Dq.non_inv m2
  cases Dq.int_inv m1
  exact And.intro rfl (q _ G H Rn.refl o (Dq.bl _))
theorem rv_isNN : R2v W rIsNo dN dN (dB true) := fun x y G H o m1 m2 Q q => by
  cases Dq.non_inv m2
  cases Dq.non_inv m1
  exact And.intro rfl (q _ G H Rn.refl o (Dq.bl _))
theorem rv_ltT {K : PySem.W.Frag} {c d : Cell} : R2v W (rLtT K) (dat (encC c)) (dat (encC d)) (dB (ltC c d)) := fun x y G H o m1 m2 Q q => by
  obtain ⟨a, rfl, ha⟩ := cell_key m1
  obtain ⟨b, rfl, hb⟩ := cell_key m2
  exact ⟨a, b, [c.1, c.2], [d.1, d.2], rfl, rfl, SqT.of (o.ex _ _ ha), SqT.of (o.ex _ _ hb), q _ G H Rn.refl o (Dq.bl _)⟩
theorem xchget {g : Gm} {d q : Nat} {c : Cell} (hu : X.A.units + 1 < cLine) (h : XE W X e Γ (chT g d)) (hi : XE W X ei Γ (dat (encC c))) (hc : c = cellAt g.cells q) (hq : q < g.cells.length) (hs : NoSl ei := by exact fun _ _ => rfl) : XE W X (.Subscript e ei pos) Γ (dat (encC (frac (chN g d q) g.lay.length))) := by
  subst hc
  obtain ⟨td, b1, b2⟩ := h
  obtain ⟨tn, a1, a2⟩ := hi
  refine ⟨_, pe_dget hu b1 a1 hs, fun H0 σ G H o s Q k => b2 H0 σ G H o s _ fun u G1 H1 r1 o1 m1 => a2 H0 σ G1 H1 o1 (s.run r1) _ fun v G2 H2 r2 o2 m2 => ?_⟩
  obtain ⟨b, rfl, hb⟩ := cell_key m2
  obtain ⟨a, kvs, rfl, h1, h2⟩ := (chT g d).mono r2.gg m1
  obtain ⟨z, q1, q2⟩ := h2.2 q hq
  refine ⟨a, z, rfl, ?_, k _ G2 H2 (r1.trans r2) o2 q2⟩
  have := DGet.t (k := keyC (cellAt g.cells q)) (o2.ex _ _ h1) (o2.ex _ _ hb)
  rw [q1] at this
  exact this
end
def spLaw (K : PySem.W.Frag) : Sp := fun vs H Q _ => ∃ (a : Addr) (ns : List Int), vs = [.ref a] ∧ SqL K H a (ns.map V.int) ∧ ∀ H', Q (.bl true) H'
abbrev nLaw : List Str := ["_law_script", "_law_board_here", "_law_depth", "_law_some", "_law_cells_here", "_law_told", "_law_through", "_law_found", "_law_top", "_law_bottom", "_law_each", "_law_cell", "_law_k"]
structure LawDefs (P : Program) (w : World) (K : PySem.W.Frag) (mg : Str → Option Value) (base : Heap) : Prop where
  cellat : Def P w K mg base 1 "_law_cell_at" ["_law_script", "_law_k"] (spF W0 (preCellAt K))
  drawn : Def P w K mg base 2 "_law_drawn" ["_law_script", "_law_most", "_law_limit"] (spF W0 (preDrawn K))
  board : Def P w K mg base 2 "_law_board" ["_law_marks"] (spF W0 preBoard)
  bent : Def P w K mg base 2 "_law_bent" ["_law_board_here", "_law_cell"] (spF W0 preBent)
  all : Def P w K mg base 2 "_law_all" ["_law_board_here"] (spF W0 preAll)
  cells : Def P w K mg base 1 "_law_cells" ["_law_rows", "_law_signs"] (spF W0 preCells)
  plan : Def P w K mg base 13 "plan" ["board", "depth"] (spF W0 prePn)
  walked : Def P w K mg base 4 "_law_walked" ["_law_told", "_law_cells_here", "_law_some", "_law_depth"] (spF W0 preWalked)
  best : Def P w K mg base 13 "best" ["board", "depth"] (spF W0 preBe)
  chances : Def P w K mg base 13 "chances" ["board", "depth"] (spF W0 preCh)
  rival : Def P w K mg base 3 "_law_rival" ["_law_script", "_law_cells_here", "_law_some", "_law_depth", "_law_k"] (spF W0 (preRival K))
  own : Def P w K mg base 5 "_law_own" ["_law_told"] spOwn
section
variable {P : Program} {w : World} {K : PySem.W.Frag} {mg : Str → Option Value} {base : Heap}
theorem scLaw : FnScope nLaw ["_law_script"] (defScope sLaw) := ⟨rfl, rfl, rfl, by decide +kernel, rfl, by decide +kernel, by decide +kernel⟩
theorem ok_law {f : Addr} {fd : FuncData} (FF : Fun K "law" "law" sLaw f fd) (B : Bn mg) (A : LawDefs P w K mg base) : FnOk P w K mg base CX0 14 f fd ["_law_script"] (spLaw K) := by
  refine FF.ok scLaw (fun vs H Q E ⟨a, ns, e, _⟩ => by rw [e]; rfl) (fun cdv AA outer s H vs Q E hr h => ?_)
  obtain ⟨a, ns, rfl, hS, q⟩ := h
  have nd := scLaw.nd
  let D : Ends := { nx := fun _ H' => Q .non H', rt := Q }
  let X := Xc P w K mg base nLaw "law" sLaw f cdv AA outer s H E
  let G0 : Hp := H
  let F : Fx := Fx.of W0 G0 H
  have ok : Ok W0 G0 H := ⟨Ex.refl H, trivial⟩
  have hrt : Rt F (dB true) D := fun v G' H' r o m => by
    cases Dq.bl_inv m
    exact q H'
  have hu1 : X.A.units + 1 < cLine := Nat.lt_of_le_of_lt (Nat.add_le_add_left (by decide : 1 ≤ 64) _) hr.units
  have body : XSs F X (defBody sLaw) [.ty (scTy K ns), .any, .any, .any, .any, .any, .any, .any, .any, .any, .any, .any, .any] D := by
    -- the board
    refine xss_cons (xs_set (R := bdTy) 1 nd (xcall0E A.bent (hr.mono (by decide)) rfl (xacons (xcall0E A.board (R := bdTy) (hr.mono (by decide)) rfl (xa1 (xcall0 A.drawn (R := exTy fun d => ∃ ms, d = encM ms ∧ MkOk ms) (hr.mono (by decide)) rfl (xacons (xn 0) (xacons xint (xa1 xint))) ⟨ns, rfl, rfl⟩)) ?_) (xa1 (xcall0 A.cellat (hr.mono (by decide)) rfl (xacons (xn 0) (xa1 xint)) ⟨ns, 2, rfl, rfl⟩))) ?_) (nx_of rfl)) ?_
    · intro G vs hv
      match vs, hv with
      | [v], ⟨⟨d, ⟨ms, ed, hms⟩, hd⟩, _⟩ =>
        subst ed
        exact ⟨[dat (encM ms)], ⟨ms, rfl, rfl, hms⟩, hd, trivial⟩
    · intro G vs hv
      match vs, hv with
      | [v, u], ⟨⟨d, ⟨rows, n, ed, hb⟩, hd⟩, hu, _⟩ =>
        subst ed
        exact ⟨[dat (bdD rows n), dI (cellK ns 2)], ⟨rows, n, _, rfl, rfl, hb⟩, hd, hu, trivial⟩
    refine xss_ex 1 (p := fun d => ∃ rows n, d = bdD rows n ∧ BdW rows) rfl fun d ⟨rows, n, ed, hb⟩ => ?_
    subst ed
    have hg := hb.gd
    have hc8 : (closedC rows).length ≤ 8 := by
      have := cells_cnt qm rows
      have := hb.n
      show (cellsOf _ rows).length ≤ 8
      omega
    obtain ⟨dep, edep⟩ : ∃ dep : Nat, dep = (cellK ns 3 % 4).toNat := ⟨_, rfl⟩
    have hd3 : dep ≤ 3 := by omega
    obtain ⟨L, eL⟩ : ∃ L, L = sortL (allU rows n) := ⟨_, rfl⟩
    refine xss_cons (xs_set (R := dI (dep : Int)) 2 nd (XE.eq (xop op_mod (xcall0 A.cellat (hr.mono (by decide)) rfl (xacons (xn 0) (xa1 xint)) ⟨ns, 3, rfl, rfl⟩) xint (rv_mod (by decide))) (by rw [edep]; congr 1 <;> omega)) (nx_of rfl)) ?_
    refine xss_cons (xs_set (R := dL (L.map encL)) 3 nd (XE.eq (xcall0 A.all (hr.mono (by decide)) rfl (xa1 (xn 1)) ⟨rows, n, rfl, rfl, hb⟩) (by rw [eL])) (nx_of rfl)) ?_
    refine xss_ifr (b := decide (L = [])) (XT.eq (xtcmp (op_eqD hr.units) (xn 3) (xlst (ds := []) xanil (by simp)) (rv_eqD (shaped_Ls _) shaped_nil) rfl) (eqv_nilL L)) (fun _ => xss_one (xs_ret xbool hrt)) (fun hL => ?_)
    have hL : L ≠ [] := of_decide_eq_false hL
    have hperm : L.Perm (gmOf rows n).lay := by rw [eL]; exact all_perm rows n
    have hbd : BdOk rows n := ⟨hg, hc8, fun e => hL (by
      have h1 := hperm.length_eq
      have h2 : (gmOf rows n).lay = [] := e
      rw [h2] at h1
      exact List.length_eq_zero_iff.mp h1)⟩
    have hgt := gt_of hbd
    obtain ⟨l0, l256, c8⟩ := bd_lay hbd
    obtain ⟨g, eg⟩ : ∃ g, g = gmOf rows n := ⟨_, rfl⟩
    have hcells : g.cells = closedC rows := by rw [eg]; rfl
    have hlayL : L.length = g.lay.length := by rw [eg]; exact hperm.length_eq
    have hle8 : ∀ l ∈ L, l.length ≤ 8 := fun l hl => (layU_len (n := n) hc8).2 l (hperm.mem_iff.mp hl)
    rw [← eg] at hperm hgt l0 l256 c8
    have hsm : Sm g.cells L := ⟨c8, by omega, hle8⟩
    have hNd : L.Nodup := by rw [eL]; exact law_nodup
    refine xss_cons (xs_set (R := dat (encL g.cells)) 4 nd (XE.eq (xcall0 A.cells (hr.mono (by decide)) rfl (xacons (xix ix_tup (xn 1) xint (rv_ixT (d := encR rows) rfl) (fun _ _ => rfl)) (xa1 (xlst (ds := [dSg 63]) (xa1 xstr) (by simp)))) ⟨false, rows, qm, rfl, rfl, hg⟩) (by rw [hcells]; rfl)) (nx_of rfl)) ?_
    obtain ⟨T, eT⟩ : ∃ T, T = g.plan dep (startL g) (startP g) := ⟨_, rfl⟩
    refine xss_cons (xs_set (R := plN T) 5 nd (XE.ty (xcall0 A.plan (hr.mono (by decide)) rfl (xacons (xn 1) (xa1 (xn 2))) ⟨rows, n, dep, rfl, rfl, hbd, hd3⟩) (by rw [eT, eg])) (nx_of rfl)) ?_
    obtain ⟨rr, hrr, hall⟩ := walk_all hgt dep hperm hNd
    rw [← eT] at hall
    obtain ⟨v, ev⟩ : ∃ v, v = g.val dep (startL g) (startP g) := ⟨_, rfl⟩
    have hv256 : v ≤ g.lay.length := by
      have := val_le (g := g) dep (startL g) (startP g)
      unfold startL at this
      rw [List.length_range] at this
      rw [ev]
      exact this
    refine xss_cons (xs_set (R := dI (v : Int)) 6 nd (XE.eq (xcall0 A.walked (hr.mono (by decide)) rfl (xacons (XE.sub (S := plT T) (xn 5) fun G v h => plN_T h) (xacons (xn 4) (xacons (xn 3) (xa1 (xn 2))))) ⟨T, g.cells, L, dep, rr, rfl, rfl, hsm, by omega, fun l hl => ⟨(hall l hl).1, (hall l hl).2.1, by have := (hall l hl).2.2.1; omega, (hall l hl).2.2.2⟩⟩) (by rw [hrr, ev])) (nx_of rfl)) ?_
    refine xss_ifr (b := false) (xtcmp op_isNo (xn 6) xnone rv_isNI rfl) (fun h => by cases h) (fun _ => ?_)
    refine xss_cons (xs_set (R := dat (bestD g dep)) 7 nd (XE.eq (xcall0 A.best (hr.mono (by decide)) rfl (xacons (xn 1) (xa1 (xn 2))) ⟨rows, n, dep, rfl, rfl, hbd, hd3⟩) (by rw [eg])) (nx_of rfl)) ?_
    by_cases hov : g.over (startL g) (startP g) = true
    · -- nothing to open
      rw [best_over hov]
      have hTn : T = .no := by rw [eT]; exact plan_over hov
      have hvl : v = g.lay.length := by
        rw [ev, val_over hov]
        unfold startL
        rw [List.length_range]
      refine xss_ifr (b := true) (xtcmp op_isNo (xn 7) xnone rv_isNN rfl) (fun _ => xss_one (xs_ret (XE.eq (xand (xcmp op_isNo (XE.sub (S := plT T) (xn 5) fun G v h => plN_T h) xnone rv_isN rfl) fun _ => xone (xcmp op_eq (xn 6) (XE.eq (xcallB call_lenS rfl B.len PySem.boot_len (xa1 (xn 3)) cr_len) (d' := .int ((L.length : Nat) : Int)) (by rw [List.length_map])) rv_eqI (nomark _))) ?_) hrt)) (fun h => by cases h)
      rw [hTn, hvl, hlayL]
      simp [isNo]
    · have hov : g.over (startL g) (startP g) = false := by simpa using hov
      obtain ⟨p0, bf⟩ := best_facts (d := dep) l0 hov
      rw [bf.dat]
      obtain ⟨N, eN⟩ : ∃ N, N = g.lay.length := ⟨_, rfl⟩
      have hchle : ∀ p, chN g dep p ≤ N := fun p => by rw [eN]; exact chN_le g dep p
      rw [← eN] at l0 l256 hv256 hlayL
      obtain ⟨c0, ec0⟩ : ∃ c0, c0 = cellAt g.cells p0 := ⟨_, rfl⟩
      obtain ⟨m0, em0⟩ : ∃ m0, m0 = chN g dep p0 := ⟨_, rfl⟩
      have hvm : v = m0 := by rw [ev, bf.val, em0]
      rw [← eN, ← ec0, ← em0]
      have hm0 : m0 ≤ 256 := by have := hchle p0; omega
      obtain ⟨f1, f2, f3, f4⟩ := frac_small (m := m0) l0 hm0 l256
      refine xss_ifr (b := false) (xtcmp op_isNo (xn 7) xnone rv_isNT rfl) (fun h => by cases h) (fun _ => ?_)
      have lenL : ∀ {W : Wd} {X : Cx} {Γ : List Sd} {j : Int}, True := fun {_ _ _ _} => trivial
      -- the fraction against the walk
      refine xss_ifr (b := false) (XT.eq (xtcmp op_ne (xop op_mul (xix ix_tup (xix ix_tup (xn 7) xint (rv_ixT (d := encC (frac m0 N)) rfl) (fun _ _ => rfl)) xint (rv_ixT (d := .int (frac m0 N).1) rfl) (fun _ _ => rfl)) (XE.eq (xcallB call_lenS rfl B.len PySem.boot_len (xa1 (xn 3)) cr_len) (d' := .int ((N : Nat) : Int)) (by rw [List.length_map, hlayL])) (rv_mul (.inr ⟨by omega, by omega⟩)))
        (xop op_mul (xn 6) (xix ix_tup (xix ix_tup (xn 7) xint (rv_ixT (d := encC (frac m0 N)) rfl) (fun _ _ => rfl)) xint (rv_ixT (d := .int (frac m0 N).2) rfl) (fun _ _ => rfl)) (rv_mul (.inl ⟨by omega, by omega⟩))) rv_neI (nomark _)) ?_) (fun h => by cases h) (fun _ => ?_)
      · rw [hvm, decide_eq_true (frac_cross l0)]
        rfl
      refine xss_cons (xs_unpack 8 9 rfl nd (d1 := .int (frac m0 N).1) (d2 := .int (frac m0 N).2) (xix ix_tup (xn 7) xint (rv_ixT (d := encC (frac m0 N)) rfl) (fun _ _ => rfl)) (nx_of rfl)) ?_
      refine xss_cons (xs_set (R := chT g dep) 10 nd (XE.ty (xcall0 A.chances (hr.mono (by decide)) rfl (xacons (xn 1) (xa1 (xn 2))) ⟨rows, n, dep, rfl, rfl, hbd, hd3⟩) (by rw [eg])) (nx_of rfl)) ?_
      have xfound : ∀ {W : Wd} {X : Cx} {Γ : List Sd} {e1 e2 : Expr} {pos : Pos}, XE W X e1 Γ (dT [encC c0, encC (frac m0 N)]) → XE W X e2 Γ (dI 0) → PlainIx e2 → XE W X (.Subscript e1 e2 pos) Γ (dat (encC c0)) := fun h1 h2 h3 => xix ix_tup h1 h2 (rv_ixT (d := encC c0) rfl) h3
      have xfound1 : ∀ {W : Wd} {X : Cx} {Γ : List Sd} {e1 e2 : Expr} {pos : Pos}, XE W X e1 Γ (dT [encC c0, encC (frac m0 N)]) → XE W X e2 Γ (dI 1) → PlainIx e2 → XE W X (.Subscript e1 e2 pos) Γ (dat (encC (frac m0 N))) := fun h1 h2 h3 => xix ix_tup h1 h2 (rv_ixT (d := encC (frac m0 N)) rfl) h3
      refine xss_ifr (b := false) (XT.eq (xtcmp (op_neD hr.units) (xchget (q := p0) hu1 (xn 10) (xfound (xn 7) xint (fun _ _ => rfl)) ec0 bf.lt) (xfound1 (xn 7) xint (fun _ _ => rfl)) (rv_neD (shaped_C _) (shaped_C _)) rfl) ?_) (fun h => by cases h) (fun _ => ?_)
      · rw [eqv_C, ← em0, ← eN, decide_eq_true rfl]
        rfl
      -- no chance is better
      have hmem : ∀ c ∈ g.cells, ∃ q, q < g.cells.length ∧ c = cellAt g.cells q := fun c hc => by
        obtain ⟨q, hq, e⟩ := List.mem_iff_getElem.mp hc
        refine ⟨q, hq, ?_⟩
        unfold cellAt
        rw [List.getD_eq_getElem?_getD, List.getElem?_eq_getElem hq]
        exact e.symm
      let Γ1 : List Sd := [.ty (scTy K ns), sd (bdD rows n), sd (.int (dep : Int)), sd (.list (L.map encL)), sd (encL g.cells), .ty (plN T), sd (.int (v : Int)), sd (.tuple [encC c0, encC (frac m0 N)]), sd (.int (frac m0 N).1), sd (.int (frac m0 N).2), .ty (chT g dep), .any, .any]
      show XSs F X _ Γ1 D
      refine xss_cons (Γ' := Γ1) (xs_forN 11 nd (xi_list (xs := g.cells) (enc := encC) (xn 4)) (fun _ => Γ1) (fun pre x post he Sg hS => ?_) (nx_le (by trivial))) ?_
      · obtain ⟨q, hq, eq⟩ := hmem x (by rw [he]; simp)
        obtain ⟨mq, emq⟩ : ∃ mq, mq = chN g dep q := ⟨_, rfl⟩
        have hmq : mq ≤ 256 := by have := hchle q; omega
        obtain ⟨g1, g2, g3, g4⟩ := frac_small (m := mq) l0 hmq l256
        have hge := bf.ge q hq
        rw [← emq, ← em0] at hge
        have hfl := frac_le (n := N) l0 hge
        have xe : ∀ {W : Wd} {X : Cx} {Γ : List Sd} {e1 e2 : Expr} {pos : Pos}, X.A.units + 1 < cLine → XE W X e1 Γ (chT g dep) → XE W X e2 Γ (dat (encC x)) → NoSl e2 → XE W X (.Subscript e1 e2 pos) Γ (dat (encC (frac mq N))) := fun {W X Γ e1 e2 pos} h0 h1 h2 h3 => by
          have := xchget (q := q) (pos := pos) h0 h1 h2 eq hq h3
          rw [← emq, ← eN] at this
          exact this
        refine xss_one (xs_if (b := false) (XT.eq (xtcmp op_gt (xop op_mul (xix ix_tup (xe hu1 (xn 10) (xn 11) (fun _ _ => rfl)) xint (rv_ixT (d := .int (frac mq N).1) rfl) (fun _ _ => rfl)) (xn 9) (rv_mul (.inl ⟨by omega, by omega⟩))) (xop op_mul (xn 8) (xix ix_tup (xe hu1 (xn 10) (xn 11) (fun _ _ => rfl)) xint (rv_ixT (d := .int (frac mq N).2) rfl) (fun _ _ => rfl)) (rv_mul (.inl ⟨by omega, by omega⟩))) rv_bl (nomark _)) ?_) (fun h => by cases h) (fun _ => xss_nil (nx_le (by trivial))))
        exact decide_eq_false (Int.not_lt.mpr hfl)
      -- none before it is as good
      refine xss_ifr (b := false) (XT.eq (xtcmp (op_neD hr.units) (xlcN 11 [("_law_cell", 11)] (r := (g.cells.filter fun c => ltC c c0 && decide (∀ q, q < g.cells.length → c = cellAt g.cells q → frac (chN g dep q) N = frac m0 N)).map encC) nd (xi_list (xs := g.cells) (enc := encC) (xn 4)) (blkOk_by (N := nLaw) (sc := defScope sLaw) (by decide +kernel)) (fun c => ltC c c0 && decide (∀ q, q < g.cells.length → c = cellAt g.cells q → frac (chN g dep q) N = frac m0 N)) encC
        (fun z hz => .one fun s H C' cl fp => ?_) (fun z hz _ s H C' cl fp => xn 11) (by omega)) (xlst (ds := []) xanil (by simp)) (rv_neD (shaped_Cs _) shaped_nil) rfl) ?_) (fun h => by cases h) (fun _ => ?_)
      · obtain ⟨q, hq, eq⟩ := hmem z hz
        have xe : ∀ {W : Wd} {X : Cx} {Γ : List Sd} {e1 e2 : Expr} {pos : Pos}, X.A.units + 1 < cLine → XE W X e1 Γ (chT g dep) → XE W X e2 Γ (dat (encC z)) → NoSl e2 → XE W X (.Subscript e1 e2 pos) Γ (dat (encC (frac (chN g dep q) N))) := fun {W X Γ e1 e2 pos} h0 h1 h2 h3 => by
          have := xchget (q := q) (pos := pos) h0 h1 h2 eq hq h3
          rw [← eN] at this
          exact this
        have eb : decide (∀ q, q < g.cells.length → z = cellAt g.cells q → frac (chN g dep q) N = frac m0 N) = PyData.eqv (encC (frac (chN g dep q) N)) (encC (frac m0 N)) := by
          rw [eqv_C, Bool.eq_iff_iff, decide_eq_true_iff, decide_eq_true_iff]
          constructor
          · intro h; exact h q hq eq
          · intro h q' hq' e'
            have : q' = q := cellAt_inj hgt.nd hq' hq (e'.symm.trans eq)
            rw [this]
            exact h
        rw [eb]
        exact XW.t (xwand (xtcmp (op_ltT (Nat.lt_of_le_of_lt (Nat.le_add_right _ _) hu1)) (xn 11) (xfound (xn 7) xint (fun _ _ => rfl)) rv_ltT rfl) fun _ => xwand1 (xtcmp (op_eqD hr.units) (xe hu1 (xn 10) (xn 11) (fun _ _ => rfl)) (xfound1 (xn 7) xint (fun _ _ => rfl)) (rv_eqD (shaped_C _) (shaped_C _)) rfl))
      · have e : (g.cells.filter fun c => ltC c c0 && decide (∀ q, q < g.cells.length → c = cellAt g.cells q → frac (chN g dep q) N = frac m0 N)) = [] := by
          rw [List.filter_eq_nil_iff]
          intro c hc hh
          rw [Bool.and_eq_true] at hh
          obtain ⟨q, hq, eq⟩ := hmem c hc
          have h2 := of_decide_eq_true hh.2 q hq eq
          have h3 : q < p0 := by
            have hp0 := bf.lt
            have h1 := hh.1
            rw [eq, ec0, hcells] at h1
            rw [hcells] at hq hp0
            exact lt_index hp0 hq h1
          have h4 := bf.first q h3
          rw [← em0] at h4
          exact h4 (frac_inj l0 h2)
        rw [eqv_nilC, e]
        rfl
      -- the plan's first cell
      refine xss_ifr (b := false) ?_ (fun h => by cases h) (fun _ => ?_)
      · have hp := bf.plan
        rw [← eT, ← ec0] at hp
        rcases hp with hp | ⟨subs, hp⟩
        · exact XW.t (XW.eq (xwand (xtcmp op_notNo (XE.sub (S := plT T) (xn 5) fun G v h => plN_T h) xnone rv_notN rfl) (l := false) fun h => by rw [hp] at h; cases h) (by rw [Bool.and_false]))
        · refine XW.t (XW.eq (xwand (xtcmp op_notNo (XE.sub (S := plT T) (xn 5) fun G v h => plN_T h) xnone rv_notN rfl) (l := false) fun h => xwand1 (XT.eq (xtcmp (op_neD hr.units) (xp0 (c := c0) (subs := subs) (XE.sub (xn 5) fun G v h => by rw [hp] at h; exact plN_T h) xint) (xfound (xn 7) xint (fun _ _ => rfl)) (rv_neD (shaped_C _) (shaped_C _)) rfl) ?_)) (by rw [Bool.and_false]))
          rw [eqv_C, decide_eq_true rfl]
          rfl
      -- the rivals
      refine xss_cons (Γ' := Γ1) (xs_forN 12 nd (xi_range1 rfl B.range xint ⟨by decide, by decide⟩) (fun _ => Γ1) (fun pre x post he Sg hS => ?_) (nx_le (by trivial))) ?_
      · have hx : x < 3 := List.mem_range.mp (by rw [show (3 : Int).toNat = 3 from rfl] at he; rw [he]; simp)
        have hrv := rival_le hgt ns dep x hperm
        rw [← ev] at hrv
        refine xss_one (xs_if (b := false) (XT.eq (xtcmp op_gt (xcall0 A.rival (hr.mono (by decide)) rfl (xacons (xn 0) (xacons (xn 4) (xacons (xn 3) (xacons (xn 2) (xa1 (xn 12)))))) ⟨ns, g.cells, L, dep, x, rfl, rfl, hsm, hd3, by omega⟩) (xn 6) rv_bl (nomark _)) ?_) (fun h => by cases h) (fun _ => xss_nil (nx_le (by trivial))))
        exact decide_eq_false (by omega)
      -- every dict its own
      obtain ⟨fo, fdo, Fo, hmo, hko, hbo⟩ := A.own.ex
      refine ⟨_, pss_one (ps_ret (pe_call Fo (hr.mono (by decide)) rfl hmo hko hbo .nil pass0 (pa_cons (pv 5) pa_nil rfl))), fun σ H1 ⟨G1, z⟩ => ?_⟩
      obtain ⟨v5, e5, as, h5, h6⟩ := z.sl.ty 5 (plN T) rfl
      refine ⟨_, e5, v5, T, as, G1, rfl, z.ok, h5, h6, ?_, ?_, fun H' => q H'⟩
      · rw [eT]
        have h := hgt_plan (g := g) dep (startL g) (startP g)
        have mono : ∀ (n m : Nat) (t : Pl), n ≤ m → hgtLe n t → hgtLe m t := by
          intro n
          induction n with
          | zero =>
            intro m t _ ht
            cases t with
            | no => cases m <;> trivial
            | op c subs => exact ht.elim
          | succ n ih =>
            intro m t hm ht
            cases t with
            | no => cases m <;> trivial
            | op c subs =>
              obtain ⟨m', rfl⟩ : ∃ m', m = m' + 1 := ⟨m - 1, by omega⟩
              intro x hx
              exact ih m' x.2 (by omega) (ht x hx)
        exact mono dep 3 _ hd3 h
      · rw [eT] at h5
        have h7 := plan_len dep (startL g) (startP g) v5 as h5
        have h8 : (startL g).length = g.lay.length := by
          unfold startL
          rw [List.length_range]
        have h9 : dep * (startL g).length ≤ 3 * 256 := Nat.mul_le_mul hd3 (by omega)
        omega
  obtain ⟨t, a1, a2⟩ := body
  exact ⟨t, a1, a2 _ _ ⟨G0, start_at (N := nLaw) (Rs := [scTy K ns]) (vs := [.ref a]) ok ⟨⟨a, rfl, hS⟩, trivial⟩⟩⟩
end
end SL
set_option maxRecDepth 100000
set_option maxHeartbeats 4000000
/-! the top as it stands, and the join -/
namespace SL
open PySem L2 Evl
structure Tops (K : PySem.W.Frag) (mg : Str → Option Value) : Prop where
  sign : Src K mg "sign_at" sSign ["rows", "cell"]
  cellsW : Src K mg "cells_with" sCellsW ["rows", "signs"]
  closed : Src K mg "closed" sClosed ["board"]
  openc : Src K mg "open_cells" sOpen ["board"]
  nearIn : Src K mg "near_in" sNearIn ["rows", "cell"]
  around : Src K mg "around" sAround ["board", "cell"]
  num : Src K mg "number_at" sNumAt ["board", "cell"]
  common : Src K mg "common" sCommon ["one", "other"]
  fraction : Src K mg "fraction" sFraction ["top", "bottom"]
  met : Src K mg "can_be_met" sMet ["lefts", "spare"]
  choices : Src K mg "choices_met" sChoices ["cells", "wants"]
  wants : Src K mg "wants_of" sWants ["board", "cells", "opens"]
  lay : Src K mg "layings" sLayings ["board"]
  going : Src K mg "going_of" sGoingOf ["board", "depth"]
  chances : Src K mg "chances" sChances ["board", "depth"]
  best : Src K mg "best" sBest ["board", "depth"]
  planF : Src K mg "plan" sPlanF ["board", "depth"]
  cellat : Src K mg "_law_cell_at" sCellAt ["_law_script", "_law_k"]
  mixed : Src K mg "_law_mixed" sMixed ["_law_cell", "_law_k"]
  mark : Src K mg "_law_mark" sMark ["_law_drawn_here", "_law_often", "_law_many", "_law_room"]
  drawn : Src K mg "_law_drawn" sDrawn ["_law_script", "_law_most", "_law_limit"]
  cells : Src K mg "_law_cells" sCells ["_law_rows", "_law_signs"]
  near : Src K mg "_law_near" sNear ["_law_one", "_law_other"]
  board : Src K mg "_law_board" sBoard ["_law_marks"]
  bent : Src K mg "_law_bent" sBent ["_law_board_here", "_law_cell"]
  all : Src K mg "_law_all" sAll ["_law_board_here"]
  toldat : Src K mg "_law_told_at" sToldAt ["_law_laying", "_law_cell"]
  goes : Src K mg "_law_goes" sGoes ["_law_told", "_law_laying", "_law_depth"]
  stops : Src K mg "_law_stops_rightly" sStops ["_law_cells_here", "_law_some", "_law_gone", "_law_laying", "_law_depth"]
  walked : Src K mg "_law_walked" sWalked ["_law_told", "_law_cells_here", "_law_some", "_law_depth"]
  rival : Src K mg "_law_rival" sRival ["_law_script", "_law_cells_here", "_law_some", "_law_depth", "_law_k"]
  dicts : Src K mg "_law_dicts" sDicts ["_law_told"]
  own : Src K mg "_law_own" sOwn ["_law_told"]
section
variable {P : Program} {w : World} {K : PySem.W.Frag} {mg : Str → Option Value} {base : Heap} {C : Addr}
theorem all_defs (T : Tops K mg) (SG : GoSrc K C) (TC : GC K mg C) (M : GMk K C) (B : Bn mg) {t1 t2 t3 t4 : Tok} (c1 : mg "FIGURES" = some (.str "012345678" t1)) (c2 : mg "MOST" = some (.int 12 t2)) (c3 : mg "MOST_CLOSED" = some (.int 8 t3)) (c4 : mg "MOST_DEPTH" = some (.int 3 t4)) : LawDefs P w K mg base := by
  have d1 := def_sign (P := P) (w := w) (base := base) T.sign B
  have d2 := def_cellsW (P := P) (w := w) (base := base) T.cellsW B
  have d3 := def_closed T.closed d2
  have d4 := def_open T.openc d2 c1
  have d5 := def_nearIn T.nearIn B d1
  have d6 := def_around T.around d5
  have d7 := def_num T.num B d1
  have d8 := def_common (P := P) (w := w) (base := base) T.common B
  have d9 := def_fraction T.fraction d8
  have d10 := def_met (P := P) (w := w) (base := base) T.met B
  have d11 := def_choices T.choices B d10
  have d12 := def_wants T.wants d6 d7
  have d13 := def_lay T.lay B d3 d4 d12 d11 c2
  have d14 := def_init SG.init TC B d3 d13 d6
  have d15 := def_going T.going TC M B d3 d14 c3 c4
  have d16 := def_chances T.chances TC SG B d15 d9
  have d17 := def_bestF T.best TC SG B d15 d9
  have d18 := def_planF T.planF TC SG B d15
  have e1 := def_cellat (P := P) (w := w) (base := base) T.cellat B
  have e2 := def_mixed (P := P) (w := w) (base := base) T.mixed
  have e3 := def_mark (P := P) (w := w) (base := base) T.mark
  have e4 := def_drawn T.drawn B e1 e2 e3
  have e5 := def_cells (P := P) (w := w) (base := base) T.cells B
  have e6 := def_nearL (P := P) (w := w) (base := base) T.near B
  have e7 := def_board T.board B e5 e6
  have e8 := def_bent T.bent B e5
  have e9 := def_all T.all B e5 e6
  have e10 := def_toldat T.toldat B e6
  have e11 := def_goes T.goes B e10
  have e12 := def_stops T.stops B e10
  have e13 := def_walked T.walked B e11 e12
  have e14 := def_rival T.rival B e1 e2 e10
  have x0 := def_dicts (P := P) (w := w) (base := base) 0 0 T.dicts (fun m h => by omega)
  have x1 := def_dicts (P := P) (w := w) (base := base) 1 1 T.dicts (fun m h => by have e : m = 0 := (by omega); subst e; exact x0)
  have x2 := def_dicts (P := P) (w := w) (base := base) 2 2 T.dicts (fun m h => by have e : m = 1 := (by omega); subst e; exact x1)
  have x3 := def_dicts (P := P) (w := w) (base := base) 3 3 T.dicts (fun m h => by have e : m = 2 := (by omega); subst e; exact x2)
  have e15 := def_own 4 T.own B x3
  exact ⟨e1, e4, e7, e8, e9, e5, d18, e13, d17, d16, e14, e15⟩
end
theorem src_mk {K : PySem.W.Frag} {h : Heap} {mg : Str → Option Value} {x : Str} {st : Stmt} {ps : List Str} {f : Addr} {oc : Value} {od an : Option Addr} {osl : Array (Option Value)} {kV doc pm cdv ct : Value} (X : K.In h) (G : h.Ns mainGlobals mg)
    (a : PySem.W.nsIn K mainGlobals x = some (some (.ref f))) (l : K.lookup f = some ⟨oc, od, .func (PySem.W.fnOf x x (defArgs st) (defBody st) (defScope st) .none kV doc pm an cdv ct), osl⟩) (c : PySem.W.codeIn K cdv x = true) (k : PySem.W.keepIn K (.ref f) = true)
    (hb : ∀ (kV doc pm : Value) (an : Option Addr) (cdv ct : Value) (us : List Value), us.length = ps.length → bindArgs (PySem.W.fnOf x x (defArgs st) (defBody st) (defScope st) .none kV doc pm an cdv ct) ⟨us, []⟩ = pure (ps.zip us)) : Src K mg x st ps :=
  ⟨f, _, fun_mk l c k, PySem.W.mg_of X G a, (fun_mk l c k).binds hb⟩
theorem msrc_mk {K : PySem.W.Frag} {C : Addr} {m qual : Str} {st : Stmt} {ps : List Str} {f : Addr} {oc : Value} {od an : Option Addr} {osl : Array (Option Value)} {kV doc pm cdv ct : Value}
    (a : PySem.W.findIn K (.ref C) m = some (some (.ref f))) (i : PySem.W.isFn K (.ref f) = true) (l : K.lookup f = some ⟨oc, od, .func (PySem.W.fnOf m qual (defArgs st) (defBody st) (defScope st) .none kV doc pm an cdv ct), osl⟩) (c : PySem.W.codeIn K cdv qual = true) (k : PySem.W.keepIn K (.ref f) = true)
    (hb : ∀ (kV doc pm : Value) (an : Option Addr) (cdv ct : Value) (us : List Value), us.length = ps.length → bindArgs (PySem.W.fnOf m qual (defArgs st) (defBody st) (defScope st) .none kV doc pm an cdv ct) ⟨us, []⟩ = pure (ps.zip us)) : MSrc K C m qual st ps :=
  ⟨f, _, fun_mk l c k, ⟨a, i, k⟩, (fun_mk l c k).binds hb⟩
theorem all_mk {l : PySem.W.OpenLaw} {w : World} {K : PySem.W.Frag} {h : Heap} {mg : Str → Option Value} {fa C : Addr} (X : K.In h) (G : h.Ns mainGlobals mg) (hfa : mg "law" = some (.ref fa)) (T : Tops K mg) (SG : GoSrc K C) (cl : Cls K C) (nC : PySem.W.findIn K (.ref C) "cells" = some none) (nS : PySem.W.findIn K (.ref C) "some" = some none) (nT : PySem.W.findIn K (.ref C) "told" = some none) (nK : PySem.W.findIn K (.ref C) "known" = some none)
    (aC : PySem.W.nsIn K mainGlobals "Going" = some (some (.ref C))) (mk : PySem.W.makesIn K C = true) (kc : PySem.W.keepIn K (.ref C) = true) {t1 t2 t3 t4 : Tok}
    (g1 : PySem.W.nsIn K mainGlobals "FIGURES" = some (some (.str "012345678" t1))) (g2 : PySem.W.nsIn K mainGlobals "MOST" = some (some (.int 12 t2))) (g3 : PySem.W.nsIn K mainGlobals "MOST_CLOSED" = some (some (.int 8 t3))) (g4 : PySem.W.nsIn K mainGlobals "MOST_DEPTH" = some (some (.int 3 t4)))
    {f : Addr} {oc : Value} {od an : Option Addr} {osl : Array (Option Value)} {kV doc pm cdv ct : Value} (a : PySem.W.nsIn K mainGlobals "law" = some (some (.ref f))) (lk : K.lookup f = some ⟨oc, od, .func (PySem.W.fnOf "law" "law" (defArgs sLaw) (defBody sLaw) (defScope sLaw) .none kV doc pm an cdv ct), osl⟩) (c : PySem.W.codeIn K cdv "law" = true) (k : PySem.W.keepIn K (.ref f) = true)
    (z_len : PySem.W.nsIn K mainGlobals "len" = some none)
    (z_range : PySem.W.nsIn K mainGlobals "range" = some none)
    (z_enumerate : PySem.W.nsIn K mainGlobals "enumerate" = some none)
    (z_zip : PySem.W.nsIn K mainGlobals "zip" = some none)
    (z_abs : PySem.W.nsIn K mainGlobals "abs" = some none)
    (z_min : PySem.W.nsIn K mainGlobals "min" = some none)
    (z_max : PySem.W.nsIn K mainGlobals "max" = some none)
    (z_int : PySem.W.nsIn K mainGlobals "int" = some none)
    (z_str : PySem.W.nsIn K mainGlobals "str" = some none)
    (z_list : PySem.W.nsIn K mainGlobals "list" = some none)
    (z_tuple : PySem.W.nsIn K mainGlobals "tuple" = some none)
    (z_any : PySem.W.nsIn K mainGlobals "any" = some none)
    (z_all : PySem.W.nsIn K mainGlobals "all" = some none)
    (z_sorted : PySem.W.nsIn K mainGlobals "sorted" = some none)
    (z_divmod : PySem.W.nsIn K mainGlobals "divmod" = some none)
    (z_isinstance : PySem.W.nsIn K mainGlobals "isinstance" = some none)
    (z_dict : PySem.W.nsIn K mainGlobals "dict" = some none)
    : ∃ fd : FuncData, (∀ (s : Shared) (v : Value), BindsTo s fd ⟨[v], []⟩ [("_law_script", v)]) ∧ ∀ base : Heap, K.In base → base.Ns mainGlobals mg → FnOk l.prog w K mg base CX0 14 fa fd ["_law_script"] (spLaw K) := by
  have e := hfa.symm.trans (PySem.W.mg_of X G a)
  cases e
  have F := fun_mk (st := sLaw) lk c k
  have B : Bn mg := ⟨PySem.W.mg_none_of X G z_len, PySem.W.mg_none_of X G z_range, PySem.W.mg_none_of X G z_enumerate, PySem.W.mg_none_of X G z_zip, PySem.W.mg_none_of X G z_abs, PySem.W.mg_none_of X G z_min, PySem.W.mg_none_of X G z_max, PySem.W.mg_none_of X G z_int, PySem.W.mg_none_of X G z_str, PySem.W.mg_none_of X G z_list, PySem.W.mg_none_of X G z_tuple, PySem.W.mg_none_of X G z_any, PySem.W.mg_none_of X G z_all, PySem.W.mg_none_of X G z_sorted, PySem.W.mg_none_of X G z_divmod, PySem.W.mg_none_of X G z_isinstance, PySem.W.mg_none_of X G z_dict⟩
  refine ⟨PySem.W.fnOf "law" "law" (defArgs sLaw) (defBody sLaw) (defScope sLaw) .none kV doc pm an cdv ct, fun s v => .of_eq rfl, fun base _ _ => ?_⟩
  exact ok_law F B (all_defs T SG ⟨cl, nC, nS, nT, nK, PySem.W.mg_of X G aC⟩ ⟨mk, kc⟩ B (PySem.W.mg_of X G g1) (PySem.W.mg_of X G g2) (PySem.W.mg_of X G g3) (PySem.W.mg_of X G g4))
theorem walk {l : PySem.W.OpenLaw} {q : Program} {loose : List Str} {XP : (Str → Option Value) → Heap → Prop} {YP : World → Heap → Prop} {d : DefRec} {K : Params → PySem.W.Frag} {n : Nat} (hn : l.most = some n) (hn2 : n ≤ sizeLine) (hdf : d.params.defaults = [])
    (hY : ∀ (w : World) (h : Heap), YP w h → (K w.params).In h)
    (F : ∀ (w : World) (mg : Str → Option Value) (fa : Addr) (h : Heap), (K w.params).In h → h.Ns mainGlobals mg → mg d.name = some (.ref fa) →
      ∃ fd : FuncData, (∀ (s : Shared) (u : Value), BindsTo s fd ⟨[u], []⟩ [("_law_script", u)]) ∧ ∀ base : Heap, (K w.params).In base → base.Ns mainGlobals mg → FnOk l.prog w (K w.params) mg base CX0 14 fa fd ["_law_script"] (spLaw (K w.params))) :
    PySem.W.WalkO q loose XP YP l.row.toRowW d [] (fun f vs => PySem.call f vs) :=
  L2.walk_of (n := n) (k := 14) (x := "_law_script") (CX := fun _ => CX0) (sp := fun w => spLaw (K w.params)) hn hn2 hdf ⟨rfl, by decide, by decide⟩ hY F (fun _ _ a ns hl _ hS => ⟨a, ns, rfl, hS, fun _ => rfl⟩) fun _ _ _ _ _ z => z
end SL
open PySem PySem.W PyProof.Rows
set_option maxRecDepth 100000 in
set_option maxHeartbeats 0 in
theorem PySem.Challenge.cw_stonelay_k73_whole_plans_walked_holds : PySem.Challenge.rw_stonelay_k73_whole_plans_walked.Holds := by
  w_on; o_law; k_head; (case hw => w_witness2)
  k_fill
  refine SL.walk (l := PySem.Challenge.rw_stonelay_k73_whole_plans_walked) (n := 63) rfl (by decide) rfl (fun w h Y => PySem.W.kIn_of Y) ?F
  case F =>
    intro w mg fa h KX G hmg
    refine' SL.all_mk (C := ?C) KX G hmg ?T ?SG ⟨?pg, ?hd, ?po, ?sa⟩ ?nC ?nS ?nT ?nK ?aC ?mk ?kc ?g1 ?g2 ?g3 ?g4 ?a ?lk ?c ?k ?z_len ?z_range ?z_enumerate ?z_zip ?z_abs ?z_min ?z_max ?z_int ?z_str ?z_list ?z_tuple ?z_any ?z_all ?z_sorted ?z_divmod ?z_isinstance ?z_dict
    (case aC => k_is)
    (case pg => k_is); (case hd => k_is); (case po => k_is); (case sa => k_is); (case mk => k_is); (case kc => k_is)
    (case nC => k_is); (case nS => k_is); (case nT => k_is); (case nK => k_is)
    (case g1 => k_is); (case g2 => k_is); (case g3 => k_is); (case g4 => k_is)
    (case a => k_is); (case lk => k_is); (case c => k_is); (case k => k_is)
    (case z_len => k_is); (case z_range => k_is); (case z_enumerate => k_is); (case z_zip => k_is); (case z_abs => k_is); (case z_min => k_is); (case z_max => k_is); (case z_int => k_is); (case z_str => k_is); (case z_list => k_is); (case z_tuple => k_is); (case z_any => k_is); (case z_all => k_is); (case z_sorted => k_is); (case z_divmod => k_is); (case z_isinstance => k_is); (case z_dict => k_is)
    case T =>
      refine' ⟨?t0, ?t1, ?t2, ?t3, ?t4, ?t5, ?t6, ?t7, ?t8, ?t9, ?t10, ?t11, ?t12, ?t13, ?t14, ?t15, ?t16, ?t17, ?t18, ?t19, ?t20, ?t21, ?t22, ?t23, ?t24, ?t25, ?t26, ?t27, ?t28, ?t29, ?t30, ?t31, ?t32⟩
      case t0 =>
        refine' SL.src_mk KX G ?a ?l ?c ?k (fun _ _ _ _ _ _ us hl => match us, hl with | [_, _], _ => rfl)
        (case a => k_is); (case l => k_is); (case c => k_is); (case k => k_is)
      case t1 =>
        refine' SL.src_mk KX G ?a ?l ?c ?k (fun _ _ _ _ _ _ us hl => match us, hl with | [_, _], _ => rfl)
        (case a => k_is); (case l => k_is); (case c => k_is); (case k => k_is)
      case t2 =>
        refine' SL.src_mk KX G ?a ?l ?c ?k (fun _ _ _ _ _ _ us hl => match us, hl with | [_], _ => rfl)
        (case a => k_is); (case l => k_is); (case c => k_is); (case k => k_is)
      case t3 =>
        refine' SL.src_mk KX G ?a ?l ?c ?k (fun _ _ _ _ _ _ us hl => match us, hl with | [_], _ => rfl)
        (case a => k_is); (case l => k_is); (case c => k_is); (case k => k_is)
      case t4 =>
        refine' SL.src_mk KX G ?a ?l ?c ?k (fun _ _ _ _ _ _ us hl => match us, hl with | [_, _], _ => rfl)
        (case a => k_is); (case l => k_is); (case c => k_is); (case k => k_is)
      case t5 =>
        refine' SL.src_mk KX G ?a ?l ?c ?k (fun _ _ _ _ _ _ us hl => match us, hl with | [_, _], _ => rfl)
        (case a => k_is); (case l => k_is); (case c => k_is); (case k => k_is)
      case t6 =>
        refine' SL.src_mk KX G ?a ?l ?c ?k (fun _ _ _ _ _ _ us hl => match us, hl with | [_, _], _ => rfl)
        (case a => k_is); (case l => k_is); (case c => k_is); (case k => k_is)
      case t7 =>
        refine' SL.src_mk KX G ?a ?l ?c ?k (fun _ _ _ _ _ _ us hl => match us, hl with | [_, _], _ => rfl)
        (case a => k_is); (case l => k_is); (case c => k_is); (case k => k_is)
      case t8 =>
        refine' SL.src_mk KX G ?a ?l ?c ?k (fun _ _ _ _ _ _ us hl => match us, hl with | [_, _], _ => rfl)
        (case a => k_is); (case l => k_is); (case c => k_is); (case k => k_is)
      case t9 =>
        refine' SL.src_mk KX G ?a ?l ?c ?k (fun _ _ _ _ _ _ us hl => match us, hl with | [_, _], _ => rfl)
        (case a => k_is); (case l => k_is); (case c => k_is); (case k => k_is)
      case t10 =>
        refine' SL.src_mk KX G ?a ?l ?c ?k (fun _ _ _ _ _ _ us hl => match us, hl with | [_, _], _ => rfl)
        (case a => k_is); (case l => k_is); (case c => k_is); (case k => k_is)
      case t11 =>
        refine' SL.src_mk KX G ?a ?l ?c ?k (fun _ _ _ _ _ _ us hl => match us, hl with | [_, _, _], _ => rfl)
        (case a => k_is); (case l => k_is); (case c => k_is); (case k => k_is)
      case t12 =>
        refine' SL.src_mk KX G ?a ?l ?c ?k (fun _ _ _ _ _ _ us hl => match us, hl with | [_], _ => rfl)
        (case a => k_is); (case l => k_is); (case c => k_is); (case k => k_is)
      case t13 =>
        refine' SL.src_mk KX G ?a ?l ?c ?k (fun _ _ _ _ _ _ us hl => match us, hl with | [_, _], _ => rfl)
        (case a => k_is); (case l => k_is); (case c => k_is); (case k => k_is)
      case t14 =>
        refine' SL.src_mk KX G ?a ?l ?c ?k (fun _ _ _ _ _ _ us hl => match us, hl with | [_, _], _ => rfl)
        (case a => k_is); (case l => k_is); (case c => k_is); (case k => k_is)
      case t15 =>
        refine' SL.src_mk KX G ?a ?l ?c ?k (fun _ _ _ _ _ _ us hl => match us, hl with | [_, _], _ => rfl)
        (case a => k_is); (case l => k_is); (case c => k_is); (case k => k_is)
      case t16 =>
        refine' SL.src_mk KX G ?a ?l ?c ?k (fun _ _ _ _ _ _ us hl => match us, hl with | [_, _], _ => rfl)
        (case a => k_is); (case l => k_is); (case c => k_is); (case k => k_is)
      case t17 =>
        refine' SL.src_mk KX G ?a ?l ?c ?k (fun _ _ _ _ _ _ us hl => match us, hl with | [_, _], _ => rfl)
        (case a => k_is); (case l => k_is); (case c => k_is); (case k => k_is)
      case t18 =>
        refine' SL.src_mk KX G ?a ?l ?c ?k (fun _ _ _ _ _ _ us hl => match us, hl with | [_, _], _ => rfl)
        (case a => k_is); (case l => k_is); (case c => k_is); (case k => k_is)
      case t19 =>
        refine' SL.src_mk KX G ?a ?l ?c ?k (fun _ _ _ _ _ _ us hl => match us, hl with | [_, _, _, _], _ => rfl)
        (case a => k_is); (case l => k_is); (case c => k_is); (case k => k_is)
      case t20 =>
        refine' SL.src_mk KX G ?a ?l ?c ?k (fun _ _ _ _ _ _ us hl => match us, hl with | [_, _, _], _ => rfl)
        (case a => k_is); (case l => k_is); (case c => k_is); (case k => k_is)
      case t21 =>
        refine' SL.src_mk KX G ?a ?l ?c ?k (fun _ _ _ _ _ _ us hl => match us, hl with | [_, _], _ => rfl)
        (case a => k_is); (case l => k_is); (case c => k_is); (case k => k_is)
      case t22 =>
        refine' SL.src_mk KX G ?a ?l ?c ?k (fun _ _ _ _ _ _ us hl => match us, hl with | [_, _], _ => rfl)
        (case a => k_is); (case l => k_is); (case c => k_is); (case k => k_is)
      case t23 =>
        refine' SL.src_mk KX G ?a ?l ?c ?k (fun _ _ _ _ _ _ us hl => match us, hl with | [_], _ => rfl)
        (case a => k_is); (case l => k_is); (case c => k_is); (case k => k_is)
      case t24 =>
        refine' SL.src_mk KX G ?a ?l ?c ?k (fun _ _ _ _ _ _ us hl => match us, hl with | [_, _], _ => rfl)
        (case a => k_is); (case l => k_is); (case c => k_is); (case k => k_is)
      case t25 =>
        refine' SL.src_mk KX G ?a ?l ?c ?k (fun _ _ _ _ _ _ us hl => match us, hl with | [_], _ => rfl)
        (case a => k_is); (case l => k_is); (case c => k_is); (case k => k_is)
      case t26 =>
        refine' SL.src_mk KX G ?a ?l ?c ?k (fun _ _ _ _ _ _ us hl => match us, hl with | [_, _], _ => rfl)
        (case a => k_is); (case l => k_is); (case c => k_is); (case k => k_is)
      case t27 =>
        refine' SL.src_mk KX G ?a ?l ?c ?k (fun _ _ _ _ _ _ us hl => match us, hl with | [_, _, _], _ => rfl)
        (case a => k_is); (case l => k_is); (case c => k_is); (case k => k_is)
      case t28 =>
        refine' SL.src_mk KX G ?a ?l ?c ?k (fun _ _ _ _ _ _ us hl => match us, hl with | [_, _, _, _, _], _ => rfl)
        (case a => k_is); (case l => k_is); (case c => k_is); (case k => k_is)
      case t29 =>
        refine' SL.src_mk KX G ?a ?l ?c ?k (fun _ _ _ _ _ _ us hl => match us, hl with | [_, _, _, _], _ => rfl)
        (case a => k_is); (case l => k_is); (case c => k_is); (case k => k_is)
      case t30 =>
        refine' SL.src_mk KX G ?a ?l ?c ?k (fun _ _ _ _ _ _ us hl => match us, hl with | [_, _, _, _, _], _ => rfl)
        (case a => k_is); (case l => k_is); (case c => k_is); (case k => k_is)
      case t31 =>
        refine' SL.src_mk KX G ?a ?l ?c ?k (fun _ _ _ _ _ _ us hl => match us, hl with | [_], _ => rfl)
        (case a => k_is); (case l => k_is); (case c => k_is); (case k => k_is)
      case t32 =>
        refine' SL.src_mk KX G ?a ?l ?c ?k (fun _ _ _ _ _ _ us hl => match us, hl with | [_], _ => rfl)
        (case a => k_is); (case l => k_is); (case c => k_is); (case k => k_is)
    case SG =>
      refine' ⟨?t0, ?t1, ?t2, ?t3, ?t4, ?t5, ?t6⟩
      case t0 =>
        refine' SL.msrc_mk ?a ?i ?l ?c ?k (fun _ _ _ _ _ _ us hl => match us, hl with | [_, _], _ => rfl)
        (case a => k_is); (case i => k_is); (case l => k_is); (case c => k_is); (case k => k_is)
      case t1 =>
        refine' SL.msrc_mk ?a ?i ?l ?c ?k (fun _ _ _ _ _ _ us hl => match us, hl with | [_, _, _], _ => rfl)
        (case a => k_is); (case i => k_is); (case l => k_is); (case c => k_is); (case k => k_is)
      case t2 =>
        refine' SL.msrc_mk ?a ?i ?l ?c ?k (fun _ _ _ _ _ _ us hl => match us, hl with | [_, _, _], _ => rfl)
        (case a => k_is); (case i => k_is); (case l => k_is); (case c => k_is); (case k => k_is)
      case t3 =>
        refine' SL.msrc_mk ?a ?i ?l ?c ?k (fun _ _ _ _ _ _ us hl => match us, hl with | [_, _, _, _, _], _ => rfl)
        (case a => k_is); (case i => k_is); (case l => k_is); (case c => k_is); (case k => k_is)
      case t4 =>
        refine' SL.msrc_mk ?a ?i ?l ?c ?k (fun _ _ _ _ _ _ us hl => match us, hl with | [_, _, _, _], _ => rfl)
        (case a => k_is); (case i => k_is); (case l => k_is); (case c => k_is); (case k => k_is)
      case t5 =>
        refine' SL.msrc_mk ?a ?i ?l ?c ?k (fun _ _ _ _ _ _ us hl => match us, hl with | [_, _, _, _], _ => rfl)
        (case a => k_is); (case i => k_is); (case l => k_is); (case c => k_is); (case k => k_is)
      case t6 =>
        refine' SL.msrc_mk ?a ?i ?l ?c ?k (fun _ _ _ _ _ _ us hl => match us, hl with | [_, _, _, _], _ => rfl)
        (case a => k_is); (case i => k_is); (case l => k_is); (case c => k_is); (case k => k_is)
