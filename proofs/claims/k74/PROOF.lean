import PyProof.Rows.All
import Wide.All
import OpenK.AllK
import Wide.FinOn
import HandS.ForMost
import HandS.Wide
import HandS.TupLe
import HandS.TupAny
import HandS.TupMul
import HandS.Deep
import HandS.Zip
import HandS.Conv
import HandS.Style
import HandS.SortKw
import HandS.Gcd
import HandS.Walk
import HandS.Defaults
import HandS.WordsExc
import KE.GoesMore
import KE.GoesEnum
import KE.GoesZip
import KE.DataCmp
import KE.DataMinMax
import KE.KTupSum
import HandS.HeadHook4
import KE.SortData
import KE.KStateDown
import HandS.Head0
import HandS.Head1
import HandS.Head2
import HandS.Head3
import PySem.Challenge.RW_marketguild_k74_whole_loans_together
import HandS.Base
import HandS.Call
import HandS.Ends
import HandS.More
import HandS.Words
import HandS.HeadEnd
import HandS.HeadHook1
import HandS.HeadHook2
set_option Elab.async false
set_option linter.all false
set_option maxRecDepth 100000
/-! Pu: a pure layer over HandS. Python data as plain trees, defs as functions in a small monad. -/
namespace Pu
open PySem PySem.Spec PyProof.Rows L2

abbrev SZ : Nat := sizeLine
/-- pure data; rng stands for the law's own draw object -/
inductive D where
  | non | bl (b : Bool) | int (i : Int) | str (x : Str) | tup (xs : List D) | lst (xs : List D) | rng

/-- the state of the law's draw object -/
structure DS where
  ns : List Int
  pos : Int
  acc : Int
  seed : Int
structure DS.ok (d : DS) : Prop where
  p0 : 0 ≤ d.pos
  a0 : 0 ≤ d.acc
  s0 : 0 ≤ d.seed
  s1 : d.seed < 2147483647
  nl : d.ns.length ≤ 63
/-- computations -/
abbrev M (α : Type) := DS → Option (α × DS)
def Mp {α : Type} (a : α) : M α := fun s => some (a, s)
def Mf {α : Type} : M α := fun _ => none
def Mb {α β : Type} (x : M α) (f : α → M β) : M β := fun s => match x s with
  | none => none
  | some (a, s') => f a s'
def Mo {α : Type} : Option α → M α
  | none => Mf
  | some a => Mp a
section
variable {α β γ : Type}
theorem Mb_eq {x : M α} {f : α → M β} {s s' : DS} {b : β} (h : Mb x f s = some (b, s')) : ∃ a s1, x s = some (a, s1) ∧ f a s1 = some (b, s') := by
  unfold Mb at h
  cases e : x s with
  | none => rw [e] at h; cases h
  | some p => obtain ⟨a, s1⟩ := p; rw [e] at h; exact ⟨a, s1, rfl, h⟩
theorem Mp_eq {a b : α} {s s' : DS} (h : Mp a s = some (b, s')) : a = b ∧ s = s' := by
  unfold Mp at h
  have := Option.some.inj h
  exact ⟨congrArg Prod.fst this, congrArg Prod.snd this⟩
theorem Mo_eq {o : Option α} {b : α} {s s' : DS} (h : Mo o s = some (b, s')) : o = some b ∧ s = s' := by
  cases o with
  | none => cases h
  | some a => obtain ⟨e1, e2⟩ := Mp_eq h; exact ⟨by rw [e1], e2⟩
theorem Mf_eq {b : α} {s s' : DS} (h : (Mf : M α) s = some (b, s')) : False := by cases h
@[simp] theorem Mb_Mp (a : α) (f : α → M β) : Mb (Mp a) f = f a := rfl
@[simp] theorem Mb_Mf (f : α → M β) : Mb (Mf : M α) f = Mf := rfl
@[simp] theorem Mb_id (x : M α) : Mb x Mp = x := by
  funext s; unfold Mb; cases h : x s with
  | none => rfl
  | some p => rfl
@[simp] theorem Mb_assoc (x : M α) (f : α → M β) (g : β → M γ) : Mb (Mb x f) g = Mb x fun a => Mb (f a) g := by
  funext s; unfold Mb; cases h : x s with
  | none => rfl
  | some p => rfl
@[simp] theorem Mo_some (a : α) : Mo (some a) = Mp a := rfl
@[simp] theorem Mo_none : Mo (none : Option α) = Mf := rfl
end

/-- where the law's draw object lies, and the script's copy -/
structure PD where
  p : Addr
  q : Addr
@[simp] def pp : Option PD → Option Addr
  | none => none
  | some x => some x.p
/-! ### how data lie in the abstract heap -/
section
variable (K : PySem.W.Frag) (pd : Option PD) (F : Hp)
mutual
def Rep : D → V → Prop
  | .non, v => v = .non
  | .bl b, v => v = .bl b
  | .int i, v => v = .int i
  | .str x, v => v = .str x
  | .tup ds, v => ∃ a xs, v = .ref a ∧ SqT K F a xs ∧ ds.length ≤ SZ ∧ RepL ds xs
  | .lst ds, v => ∃ a xs, v = .ref a ∧ F a = some (.lst xs) ∧ ds.length ≤ SZ ∧ RepL ds xs
  | .rng, v => ∃ a, v = .ref a ∧ pp pd = some a
def RepL : List D → List V → Prop
  | [], xs => xs = []
  | d :: ds, xs => ∃ y ys, xs = y :: ys ∧ Rep d y ∧ RepL ds ys
end
end
section
variable {K : PySem.W.Frag} {pd : Option PD} {F F' H H' : Hp}
theorem RepL.length : ∀ {ds : List D} {xs : List V}, RepL K pd F ds xs → xs.length = ds.length
  | [], xs, h => by simp only [RepL] at h; rw [h]; rfl
  | d :: ds, xs, h => by
    simp only [RepL] at h
    obtain ⟨y, ys, rfl, _, h⟩ := h
    simp [RepL.length h]
theorem RepL.get : ∀ {ds : List D} {xs : List V} {i : Nat} {d : D}, RepL K pd F ds xs → ds[i]? = some d → ∃ x, xs[i]? = some x ∧ Rep K pd F d x
  | [], _, _, _, _, e => by simp at e
  | d :: ds, xs, 0, _, h, e => by
    simp only [RepL] at h
    obtain ⟨y, ys, rfl, h1, _⟩ := h
    simp at e; subst e
    exact ⟨y, rfl, h1⟩
  | d :: ds, xs, i + 1, _, h, e => by
    simp only [RepL] at h
    obtain ⟨y, ys, rfl, _, h⟩ := h
    obtain ⟨x, e1, r⟩ := RepL.get (i := i) h (by simpa using e)
    exact ⟨x, by simpa using e1, r⟩
theorem RepL.getV : ∀ {ds : List D} {xs : List V} {i : Nat} {x : V}, RepL K pd F ds xs → xs[i]? = some x → ∃ d, ds[i]? = some d ∧ Rep K pd F d x
  | [], xs, _, _, h, e => by simp only [RepL] at h; subst h; simp at e
  | d :: ds, xs, 0, _, h, e => by
    simp only [RepL] at h
    obtain ⟨y, ys, rfl, h1, _⟩ := h
    simp at e; subst e
    exact ⟨d, rfl, h1⟩
  | d :: ds, xs, i + 1, _, h, e => by
    simp only [RepL] at h
    obtain ⟨y, ys, rfl, _, h⟩ := h
    obtain ⟨x, e1, r⟩ := RepL.getV (i := i) h (by simpa using e)
    exact ⟨x, by simpa using e1, r⟩
theorem RepL.nil : RepL K pd F [] [] := by simp [RepL]
theorem RepL.cons {d : D} {ds : List D} {x : V} {xs : List V} (h : Rep K pd F d x) (t : RepL K pd F ds xs) : RepL K pd F (d :: ds) (x :: xs) := by
  simp only [RepL]; exact ⟨x, xs, rfl, h, t⟩
theorem RepL.cases {d : D} {ds : List D} {xs : List V} (h : RepL K pd F (d :: ds) xs) : ∃ y ys, xs = y :: ys ∧ Rep K pd F d y ∧ RepL K pd F ds ys := by
  simpa only [RepL] using h
theorem RepL.cases0 {xs : List V} (h : RepL K pd F [] xs) : xs = [] := by simpa only [RepL] using h
theorem RepL.append : ∀ {ds es : List D} {xs ys : List V}, RepL K pd F ds xs → RepL K pd F es ys → RepL K pd F (ds ++ es) (xs ++ ys)
  | [], _, _, _, h, h' => by have := h.cases0; subst this; exact h'
  | d :: ds, _, _, _, h, h' => by
    obtain ⟨y, ys, rfl, h1, h2⟩ := h.cases
    exact .cons h1 (RepL.append h2 h')
theorem RepL.take : ∀ {ds : List D} {xs : List V} (n : Nat), RepL K pd F ds xs → RepL K pd F (ds.take n) (xs.take n)
  | _, _, 0, _ => by simp; exact .nil
  | [], _, n + 1, h => by have := h.cases0; subst this; exact .nil
  | d :: ds, _, n + 1, h => by
    obtain ⟨y, ys, rfl, h1, h2⟩ := h.cases
    exact .cons h1 (RepL.take n h2)
theorem RepL.drop : ∀ {ds : List D} {xs : List V} (n : Nat), RepL K pd F ds xs → RepL K pd F (ds.drop n) (xs.drop n)
  | _, _, 0, h => h
  | [], _, n + 1, h => by have := h.cases0; subst this; exact .nil
  | d :: ds, _, n + 1, h => by
    obtain ⟨y, ys, rfl, h1, h2⟩ := h.cases
    exact RepL.drop n h2
theorem RepL.set : ∀ {ds : List D} {xs : List V} (n : Nat) {d : D} {x : V}, RepL K pd F ds xs → Rep K pd F d x → RepL K pd F (ds.set n d) (xs.set n x)
  | [], _, _, _, _, h, _ => by have := h.cases0; subst this; exact .nil
  | e :: ds, _, 0, d, x, h, r => by
    obtain ⟨y, ys, rfl, h1, h2⟩ := h.cases
    exact .cons r h2
  | e :: ds, _, n + 1, d, x, h, r => by
    obtain ⟨y, ys, rfl, h1, h2⟩ := h.cases
    exact .cons h1 (RepL.set n h2 r)
theorem RepL.reverse : ∀ {ds : List D} {xs : List V}, RepL K pd F ds xs → RepL K pd F ds.reverse xs.reverse
  | [], _, h => by have := h.cases0; subst this; exact .nil
  | d :: ds, _, h => by
    obtain ⟨y, ys, rfl, h1, h2⟩ := h.cases
    rw [List.reverse_cons, List.reverse_cons]
    exact (RepL.reverse h2).append (.cons h1 .nil)
theorem RepL.eraseIdx : ∀ {ds : List D} {xs : List V} (n : Nat), RepL K pd F ds xs → RepL K pd F (ds.eraseIdx n) (xs.eraseIdx n)
  | [], _, _, h => by have := h.cases0; subst this; exact .nil
  | e :: ds, _, 0, h => by
    obtain ⟨y, ys, rfl, h1, h2⟩ := h.cases
    exact h2
  | e :: ds, _, n + 1, h => by
    obtain ⟨y, ys, rfl, h1, h2⟩ := h.cases
    exact .cons h1 (RepL.eraseIdx n h2)
theorem RepL.dropLast : ∀ {ds : List D} {xs : List V}, RepL K pd F ds xs → RepL K pd F ds.dropLast xs.dropLast := fun {ds xs} h => by
  rw [List.dropLast_eq_take, List.dropLast_eq_take, h.length]
  exact h.take _
theorem RepL.rep {ds : List D} {xs : List V} (h : RepL K pd F ds xs) : ∀ n : Nat, RepL K pd F (List.replicate n ds).flatten (List.replicate n xs).flatten
  | 0 => .nil
  | n + 1 => by
    rw [List.replicate_succ, List.replicate_succ, List.flatten_cons, List.flatten_cons]
    exact h.append (RepL.rep h n)
theorem RepL.ints : ∀ {ns : List Int} {xs : List V}, RepL K pd F (ns.map D.int) xs → xs = ns.map V.int
  | [], _, h => h.cases0
  | n :: ns, _, h => by
    obtain ⟨y, ys, rfl, h1, h2⟩ := h.cases
    simp only [Rep] at h1
    rw [h1, RepL.ints h2]; rfl
theorem RepL.ofInts : ∀ (ns : List Int), RepL K pd F (ns.map D.int) (ns.map V.int)
  | [] => .nil
  | n :: ns => .cons (by simp [Rep]) (RepL.ofInts ns)
theorem RepL.bls : ∀ {ns : List Bool} {xs : List V}, RepL K pd F (ns.map D.bl) xs → xs = ns.map V.bl
  | [], _, h => h.cases0
  | n :: ns, _, h => by
    obtain ⟨y, ys, rfl, h1, h2⟩ := h.cases
    simp only [Rep] at h1
    rw [h1, RepL.bls h2]; rfl
theorem sqT_mono {a : Addr} {xs : List V} (e : Same F F') (h : SqT K F a xs) : SqT K F' a xs := by
  rcases h with (h | ⟨o, h⟩) | h
  · exact .inl (.inl (e _ _ h))
  · exact .inl (.inr ⟨o, e _ _ h⟩)
  · exact .inr h
mutual
theorem Rep.mono (e : Same F F') : ∀ {d : D} {v : V}, Rep K pd F d v → Rep K pd F' d v
  | .non, _, h => by simpa only [Rep] using h
  | .bl _, _, h => by simpa only [Rep] using h
  | .int _, _, h => by simpa only [Rep] using h
  | .str _, _, h => by simpa only [Rep] using h
  | .rng, _, h => by simpa only [Rep] using h
  | .tup ds, _, h => by
    simp only [Rep] at h ⊢
    obtain ⟨a, xs, r, s, hl, q⟩ := h
    exact ⟨a, xs, r, sqT_mono e s, hl, RepL.mono e q⟩
  | .lst ds, _, h => by
    simp only [Rep] at h ⊢
    obtain ⟨a, xs, r, s, hl, q⟩ := h
    exact ⟨a, xs, r, e _ _ s, hl, RepL.mono e q⟩
theorem RepL.mono (e : Same F F') : ∀ {ds : List D} {xs : List V}, RepL K pd F ds xs → RepL K pd F' ds xs
  | [], _, h => by simpa only [RepL] using h
  | d :: ds, _, h => by
    simp only [RepL] at h ⊢
    obtain ⟨y, ys, r, h1, h2⟩ := h
    exact ⟨y, ys, r, Rep.mono e h1, RepL.mono e h2⟩
end
theorem same_upd {p : Addr} {o : HO} (h : H p = none) : Same H (upd H p o) := fun b x e => by
  rw [upd_ne (ne_of_none e h)]
  exact e
end

/-! ### evolution -/
structure Ext (pd : Option PD) (F H F' H' : Hp) : Prop where
  ff : Same F F'
  hh : ∀ a o, H a = some o → some a ≠ pp pd → H' a = some o
  hd : ∀ a, H a ≠ none → H' a ≠ none
  nw : ∀ a o, F' a = some o → F a = some o ∨ H a = none
  fh : Same F' H'
section
variable {K : PySem.W.Frag} {pd : Option PD} {F H F' H' F'' H'' : Hp}
theorem Ext.refl (h : Same F H) : Ext pd F H F H := ⟨Same.refl _, fun _ _ e _ => e, fun _ e => e, fun _ _ e => .inl e, h⟩
theorem Ext.trans (a : Ext pd F H F' H') (b : Ext pd F' H' F'' H'') : Ext pd F H F'' H'' :=
  ⟨a.ff.trans b.ff, fun x o e n => b.hh x o (a.hh x o e n) n, fun x e => b.hd x (a.hd x e), fun x o e => by
    rcases b.nw x o e with z | z
    · exact a.nw x o z
    · refine .inr ?_
      cases q : H x with
      | none => rfl
      | some u => exact absurd z (a.hd x (by rw [q]; simp)), b.fh⟩
theorem Ext.lift (a : Ext none F H F' H') : Ext pd F H F' H' := ⟨a.ff, fun x o e _ => a.hh x o e (by simp), a.hd, a.nw, a.fh⟩
theorem Ext.same (a : Ext none F H F' H') : Same H H' := fun x o e => a.hh x o e (by simp)
/-- a new object that is known -/
theorem Ext.new {p : Addr} {o : HO} (h : Same F H) (n : H p = none) : Ext none F H (upd F p o) (upd H p o) := by
  have nF : F p = none := by
    cases q : F p with
    | none => rfl
    | some u => have := h _ _ q; rw [n] at this; cases this
  refine ⟨same_upd nF, fun x u e _ => same_upd n _ _ e, fun x e => ?_, fun x u e => ?_, fun x u e => ?_⟩
  · by_cases hx : x = p
    · subst hx; rw [upd_same]; simp
    · rw [upd_ne hx]; exact e
  · by_cases hx : x = p
    · subst hx; exact .inr n
    · rw [upd_ne hx] at e; exact .inl e
  · by_cases hx : x = p
    · subst hx; rw [upd_same] at e ⊢; exact e
    · rw [upd_ne hx] at e ⊢; exact h _ _ e
/-- a new object that is a def's own -/
theorem Ext.own {p : Addr} {o : HO} (h : Same F H) (n : H p = none) : Ext none F H F (upd H p o) :=
  ⟨Same.refl _, fun x u e _ => same_upd n _ _ e, fun x e => by
    by_cases hx : x = p
    · subst hx; rw [upd_same]; simp
    · rw [upd_ne hx]; exact e, fun _ _ e => .inl e, fun x u e => same_upd n _ _ (h _ _ e)⟩
theorem Ext.Fnone {p : Addr} (e : Ext pd F H F' H') (h : F p = none) (t : H p ≠ none) : F' p = none := by
  cases q : F' p with
  | none => rfl
  | some u =>
    rcases e.nw p u q with z | z
    · rw [h] at z; cases z
    · exact absurd z t

def DOk (K : PySem.W.Frag) (pd : Option PD) (F H : Hp) (ds : DS) : Prop := match pd with
  | none => True
  | some x => F x.p = none ∧ ds.ok ∧ H x.p = some (.lst [.ref x.q, .int ds.pos, .int ds.acc, .int ds.seed]) ∧ F x.q = some (.lst (ds.ns.map V.int))
theorem DOk.grow {ds : DS} (e : Ext none F H F' H') (h : DOk K pd F H ds) : DOk K pd F' H' ds := by
  cases pd with
  | none => trivial
  | some p =>
    obtain ⟨h1, h2, h3, h4⟩ := h
    exact ⟨e.Fnone h1 (by rw [h3]; simp), h2, e.same _ _ h3, e.ff _ _ h4⟩

/-- data at a value; at the top it may be a def's own list -/
def RepB (K : PySem.W.Frag) (pd : Option PD) (F H : Hp) (d : D) (v : V) : Prop :=
  Rep K pd F d v ∨ ∃ p ds xs, d = .lst ds ∧ v = .ref p ∧ H p = some (.lst xs) ∧ some p ≠ pp pd ∧ F p = none ∧ ds.length ≤ SZ ∧ RepL K pd F ds xs
theorem RepB.mono {d : D} {v : V} (e : Ext pd F H F' H') (h : RepB K pd F H d v) : RepB K pd F' H' d v := by
  rcases h with h | ⟨p, ds, xs, h1, h2, h3, h4, h5, h7, h6⟩
  · exact .inl (h.mono e.ff)
  · exact .inr ⟨p, ds, xs, h1, h2, e.hh _ _ h3 h4, h4, e.Fnone h5 (by rw [h3]; simp), h7, h6.mono e.ff⟩
theorem RepB.lst {ds : List D} {v : V} (fh : Same F H) (h : RepB K pd F H (.lst ds) v) : ∃ p xs, v = .ref p ∧ H p = some (.lst xs) ∧ ds.length ≤ SZ ∧ RepL K pd F ds xs := by
  rcases h with h | ⟨p, es, xs, h1, h2, h3, h4, h5, h7, h6⟩
  · simp only [Rep] at h
    obtain ⟨a, xs, r, s, hl, q⟩ := h
    exact ⟨a, xs, r, fh _ _ s, hl, q⟩
  · cases h1
    exact ⟨p, xs, h2, h3, h7, h6⟩
theorem RepB.tup {ds : List D} {v : V} (fh : Same F H) (h : RepB K pd F H (.tup ds) v) : ∃ p xs, v = .ref p ∧ SqT K H p xs ∧ SqT K F p xs ∧ ds.length ≤ SZ ∧ RepL K pd F ds xs := by
  rcases h with h | ⟨p, es, xs, h1, _⟩
  · simp only [Rep] at h
    obtain ⟨a, xs, r, s, hl, q⟩ := h
    exact ⟨a, xs, r, sqT_mono fh s, s, hl, q⟩
  · cases h1
theorem RepB.int {i : Int} {v : V} (h : RepB K pd F H (.int i) v) : v = .int i := by
  rcases h with h | ⟨p, es, xs, h1, _⟩
  · simpa only [Rep] using h
  · cases h1
theorem RepB.bl {i : Bool} {v : V} (h : RepB K pd F H (.bl i) v) : v = .bl i := by
  rcases h with h | ⟨p, es, xs, h1, _⟩
  · simpa only [Rep] using h
  · cases h1
theorem RepB.str {i : Str} {v : V} (h : RepB K pd F H (.str i) v) : v = .str i := by
  rcases h with h | ⟨p, es, xs, h1, _⟩
  · simpa only [Rep] using h
  · cases h1
theorem RepB.non {v : V} (h : RepB K pd F H .non v) : v = .non := by
  rcases h with h | ⟨p, es, xs, h1, _⟩
  · simpa only [Rep] using h
  · cases h1
/-- a list of such -/
inductive RepBL (K : PySem.W.Frag) (pd : Option PD) (F H : Hp) : List D → List V → Prop
  | nil : RepBL K pd F H [] []
  | cons {d ds v vs} : RepB K pd F H d v → RepBL K pd F H ds vs → RepBL K pd F H (d :: ds) (v :: vs)
theorem RepBL.mono (e : Ext pd F H F' H') : ∀ {ds : List D} {vs : List V}, RepBL K pd F H ds vs → RepBL K pd F' H' ds vs
  | _, _, .nil => .nil
  | _, _, .cons h t => .cons (h.mono e) (RepBL.mono e t)
end

/-! ### the slots of a def -/
inductive Slot where
  | un | sh (d : D) | ow (ds : List D)
abbrev Rho := List Slot
section
variable (K : PySem.W.Frag) (pd : Option PD) (F H H0 : Hp)
def SlotR : Slot → Option V → Prop
  | .un, _ => True
  | .sh d, o => ∃ x, o = some x ∧ Rep K pd F d x
  | .ow ds, o => ∃ p xs, o = some (.ref p) ∧ F p = none ∧ H0 p = none ∧ some p ≠ pp pd ∧ H p = some (.lst xs) ∧ ds.length ≤ SZ ∧ RepL K pd F ds xs
structure ERel (ρ : Rho) (σ : L2.St) : Prop where
  len : ρ.length = σ.length
  at' : ∀ (i : Nat) (s : Slot), ρ[i]? = some s → ∃ o, σ[i]? = some o ∧ SlotR K pd F H H0 s o
  ap : ∀ (i j : Nat) (ds es : List D) (p : Addr), i ≠ j → ρ[i]? = some (.ow ds) → ρ[j]? = some (.ow es) → σ[i]? = some (some (.ref p)) → σ[j]? ≠ some (some (.ref p))
end
structure Ok (K : PySem.W.Frag) (pd : Option PD) (F0 H0 F H : Hp) (ρ : Rho) (σ : L2.St) (ds : DS) : Prop where
  ext : Ext pd F0 H0 F H
  env : ERel K pd F H H0 ρ σ
  dok : DOk K pd F H ds
section
variable {K : PySem.W.Frag} {pd : Option PD} {F0 H0 F H F' H' : Hp} {ρ : Rho} {σ : L2.St} {ds ds' : DS}
theorem SlotR.mono {s : Slot} {o : Option V} (e : Ext pd F H F' H') (h : SlotR K pd F H H0 s o) : SlotR K pd F' H' H0 s o := by
  cases s with
  | un => trivial
  | sh d => obtain ⟨x, h1, h2⟩ := h; exact ⟨x, h1, h2.mono e.ff⟩
  | ow es =>
    obtain ⟨p, xs, h1, h2, h3, h4, h5, h7, h6⟩ := h
    exact ⟨p, xs, h1, e.Fnone h2 (by rw [h5]; simp), h3, h4, e.hh _ _ h5 h4, h7, h6.mono e.ff⟩
theorem Ok.step (o : Ok K pd F0 H0 F H ρ σ ds) (e : Ext pd F H F' H') (d : DOk K pd F' H' ds') : Ok K pd F0 H0 F' H' ρ σ ds' :=
  ⟨o.ext.trans e, ⟨o.env.len, fun i s h => let ⟨x, h1, h2⟩ := o.env.at' i s h; ⟨x, h1, h2.mono e⟩, o.env.ap⟩, d⟩
theorem Ok.fh (o : Ok K pd F0 H0 F H ρ σ ds) : Same F H := o.ext.fh
theorem Ok.sh {i : Nat} {d : D} (o : Ok K pd F0 H0 F H ρ σ ds) (h : ρ[i]? = some (.sh d)) : ∃ x, σ[i]? = some (some x) ∧ Rep K pd F d x := by
  obtain ⟨q, h1, x, rfl, h2⟩ := o.env.at' i _ h
  exact ⟨x, h1, h2⟩
/-- a slot is stored -/
theorem Ok.set {i : Nat} {d : D} {x : V} (o : Ok K pd F0 H0 F H ρ σ ds) (r : Rep K pd F d x) : Ok K pd F0 H0 F H (ρ.set i (.sh d)) (σ.set i (some x)) ds := by
  refine ⟨o.ext, ⟨by simp [o.env.len], fun j s h => ?_, fun j k es fs p hjk h1 h2 h3 => ?_⟩, o.dok⟩
  · by_cases hj : i = j
    · subst hj
      have hl : i < ρ.length := by
        have := (List.getElem?_eq_some_iff.mp h).1
        simpa using this
      rw [List.getElem?_set_self hl] at h
      cases h
      exact ⟨some x, by rw [List.getElem?_set_self (by rw [← o.env.len]; exact hl)], x, rfl, r⟩
    · rw [List.getElem?_set_ne hj] at h
      obtain ⟨q, h1, h2⟩ := o.env.at' j s h
      exact ⟨q, by rw [List.getElem?_set_ne hj]; exact h1, h2⟩
  · have a1 : i ≠ j := by
      rintro rfl
      have hl : i < ρ.length := by have := (List.getElem?_eq_some_iff.mp h1).1; simpa using this
      rw [List.getElem?_set_self hl] at h1; cases h1
    have a2 : i ≠ k := by
      rintro rfl
      have hl : i < ρ.length := by have := (List.getElem?_eq_some_iff.mp h2).1; simpa using this
      rw [List.getElem?_set_self hl] at h2; cases h2
    rw [List.getElem?_set_ne a1] at h1 h3
    rw [List.getElem?_set_ne a2] at h2 ⊢
    exact o.env.ap j k es fs p hjk h1 h2 h3
/-- a slot becomes the owner of a new list -/
theorem Ok.setOw {i : Nat} {es : List D} {p : Addr} {xs : List V} (o : Ok K pd F0 H0 F H ρ σ ds) (h1 : F p = none) (h2 : H0 p = none) (h3 : some p ≠ pp pd) (h4 : H p = some (.lst xs)) (hl : es.length ≤ SZ) (r : RepL K pd F es xs)
    (ap : ∀ j fs, i ≠ j → ρ[j]? = some (.ow fs) → σ[j]? ≠ some (some (.ref p))) : Ok K pd F0 H0 F H (ρ.set i (.ow es)) (σ.set i (some (.ref p))) ds := by
  refine ⟨o.ext, ⟨by simp [o.env.len], fun j s h => ?_, fun j k as bs q hjk a1 a2 a3 => ?_⟩, o.dok⟩
  · by_cases hj : i = j
    · subst hj
      have hl' : i < ρ.length := by
        have := (List.getElem?_eq_some_iff.mp h).1
        simpa using this
      rw [List.getElem?_set_self hl'] at h
      cases h
      exact ⟨_, by rw [List.getElem?_set_self (by rw [← o.env.len]; exact hl')], p, xs, rfl, h1, h2, h3, h4, hl, r⟩
    · rw [List.getElem?_set_ne hj] at h
      obtain ⟨q, h1, h2⟩ := o.env.at' j s h
      exact ⟨q, by rw [List.getElem?_set_ne hj]; exact h1, h2⟩
  · by_cases hj : i = j
    · subst hj
      have hk : i ≠ k := hjk
      have hl' : i < ρ.length := by have := (List.getElem?_eq_some_iff.mp a1).1; simpa using this
      rw [List.getElem?_set_self (by rw [← o.env.len]; exact hl')] at a3
      cases a3
      rw [List.getElem?_set_ne hk] at a2 ⊢
      exact ap k bs hk a2
    · rw [List.getElem?_set_ne hj] at a1 a3
      by_cases hk : i = k
      · subst hk
        have hl' : i < ρ.length := by have := (List.getElem?_eq_some_iff.mp a2).1; simpa using this
        rw [List.getElem?_set_self (by rw [← o.env.len]; exact hl')]
        intro z
        have z' : p = q := by simpa using z
        subst z'
        exact ap j as hj a1 a3
      · rw [List.getElem?_set_ne hk] at a2 ⊢
        exact o.env.ap j k as bs q hjk a1 a2 a3
/-- a slot is forgotten -/
theorem Ok.forget {i : Nat} {x : Option V} (o : Ok K pd F0 H0 F H ρ σ ds) : Ok K pd F0 H0 F H (ρ.set i .un) (σ.set i x) ds := by
  refine ⟨o.ext, ⟨by simp [o.env.len], fun j s h => ?_, fun j k es fs p hjk h1 h2 h3 => ?_⟩, o.dok⟩
  · by_cases hj : i = j
    · subst hj
      have hl : i < ρ.length := by
        have := (List.getElem?_eq_some_iff.mp h).1
        simpa using this
      rw [List.getElem?_set_self hl] at h
      cases h
      exact ⟨x, by rw [List.getElem?_set_self (by rw [← o.env.len]; exact hl)], trivial⟩
    · rw [List.getElem?_set_ne hj] at h
      obtain ⟨q, h1, h2⟩ := o.env.at' j s h
      exact ⟨q, by rw [List.getElem?_set_ne hj]; exact h1, h2⟩
  · have a1 : i ≠ j := by
      rintro rfl
      have hl : i < ρ.length := by have := (List.getElem?_eq_some_iff.mp h1).1; simpa using this
      rw [List.getElem?_set_self hl] at h1; cases h1
    have a2 : i ≠ k := by
      rintro rfl
      have hl : i < ρ.length := by have := (List.getElem?_eq_some_iff.mp h2).1; simpa using this
      rw [List.getElem?_set_self hl] at h2; cases h2
    rw [List.getElem?_set_ne a1] at h1 h3
    rw [List.getElem?_set_ne a2] at h2 ⊢
    exact o.env.ap j k es fs p hjk h1 h2 h3
end
end Pu
namespace Pu
open PySem PySem.Spec PyProof.Rows L2

/-! ### what a reading means in data -/
abbrev EF := Rho → M D
abbrev TF := Rho → M Bool
abbrev AF := Rho → M (List D)
section
variable (K : PySem.W.Frag)
def SemE (t : TE) (f : EF) : Prop := ∀ (pd : Option PD) (F0 H0 F H : Hp) (ρ : Rho) (σ : L2.St) (s : DS) (d : D) (s' : DS), Ok K pd F0 H0 F H ρ σ s → f ρ s = some (d, s') →
  ∀ Q : VK, (∀ v F' H', Ext pd F H F' H' → DOk K pd F' H' s' → Rep K pd F' d v → Q v H') → t σ H Q
def SemB (t : TE) (f : EF) : Prop := ∀ (pd : Option PD) (F0 H0 F H : Hp) (ρ : Rho) (σ : L2.St) (s : DS) (d : D) (s' : DS), Ok K pd F0 H0 F H ρ σ s → f ρ s = some (d, s') →
  ∀ Q : VK, (∀ v F' H', Ext pd F H F' H' → DOk K pd F' H' s' → RepB K pd F' H' d v → Q v H') → t σ H Q
/-- a new list, nobody's yet -/
def SemO (t : TE) (f : AF) : Prop := ∀ (pd : Option PD) (F0 H0 F H : Hp) (ρ : Rho) (σ : L2.St) (s : DS) (ds : List D) (s' : DS), Ok K pd F0 H0 F H ρ σ s → f ρ s = some (ds, s') →
  ∀ Q : VK, (∀ p xs F' H', Ext pd F H F' H' → DOk K pd F' H' s' → H p = none → F' p = none → H' p = some (.lst xs) → ds.length ≤ SZ → RepL K pd F' ds xs → Q (.ref p) H') → t σ H Q
def SemT (t : TT) (f : TF) : Prop := ∀ (pd : Option PD) (F0 H0 F H : Hp) (ρ : Rho) (σ : L2.St) (s : DS) (b : Bool) (s' : DS), Ok K pd F0 H0 F H ρ σ s → f ρ s = some (b, s') →
  ∀ Q : Bool → Hp → Prop, (∀ F' H', Ext pd F H F' H' → DOk K pd F' H' s' → Q b H') → t σ H Q
def SemA (t : TA) (f : AF) : Prop := ∀ (pd : Option PD) (F0 H0 F H : Hp) (ρ : Rho) (σ : L2.St) (s : DS) (ds : List D) (s' : DS), Ok K pd F0 H0 F H ρ σ s → f ρ s = some (ds, s') →
  ∀ Q : List V → Hp → Prop, (∀ vs F' H', Ext pd F H F' H' → DOk K pd F' H' s' → RepL K pd F' ds vs → Q vs H') → t σ H Q
def SemAB (t : TA) (f : AF) : Prop := ∀ (pd : Option PD) (F0 H0 F H : Hp) (ρ : Rho) (σ : L2.St) (s : DS) (ds : List D) (s' : DS), Ok K pd F0 H0 F H ρ σ s → f ρ s = some (ds, s') →
  ∀ Q : List V → Hp → Prop, (∀ vs F' H', Ext pd F H F' H' → DOk K pd F' H' s' → RepBL K pd F' H' ds vs → Q vs H') → t σ H Q
/-- operations by values -/
def V1 (r : V → Hp → VK → Prop) (g : D → Option D) : Prop := ∀ (pd : Option PD) (F H : Hp) (x d : D) (v : V), Same F H → RepB K pd F H x v → g x = some d →
  ∀ Q : VK, (∀ u F' H', Ext none F H F' H' → Rep K pd F' d u → Q u H') → r v H Q
def V2 (r : R2) (g : D → D → Option D) : Prop := ∀ (pd : Option PD) (F H : Hp) (x y d : D) (v w : V), Same F H → RepB K pd F H x v → RepB K pd F H y w → g x y = some d →
  ∀ Q : VK, (∀ u F' H', Ext none F H F' H' → Rep K pd F' d u → Q u H') → r v w H Q
def VL (r : List V → Hp → VK → Prop) (g : List D → Option D) : Prop := ∀ (pd : Option PD) (F H : Hp) (xs : List D) (d : D) (vs : List V), Same F H → RepBL K pd F H xs vs → g xs = some d →
  ∀ Q : VK, (∀ u F' H', Ext none F H F' H' → Rep K pd F' d u → Q u H') → r vs H Q
def V2O (r : R2) (g : D → D → Option (List D)) : Prop := ∀ (pd : Option PD) (F H : Hp) (x y : D) (ds : List D) (v w : V), Same F H → RepB K pd F H x v → RepB K pd F H y w → g x y = some ds →
  ∀ Q : VK, (∀ p xs F' H', Ext none F H F' H' → H p = none → F' p = none → H' p = some (.lst xs) → ds.length ≤ SZ → RepL K pd F' ds xs → Q (.ref p) H') → r v w H Q
def VLO (r : List V → Hp → VK → Prop) (g : List D → Option (List D)) : Prop := ∀ (pd : Option PD) (F H : Hp) (xs : List D) (ds : List D) (vs : List V), Same F H → RepBL K pd F H xs vs → g xs = some ds →
  ∀ Q : VK, (∀ p xs F' H', Ext none F H F' H' → H p = none → F' p = none → H' p = some (.lst xs) → ds.length ≤ SZ → RepL K pd F' ds xs → Q (.ref p) H') → r vs H Q
end

/-! ### families of contexts -/
structure Fam {ι : Type} (X : ι → Cx) (P : Program) (w : World) (K : PySem.W.Frag) (mg : Str → Option Value) (base : Heap) (N : List Str) (lv : Nat) : Prop where
  p : ∀ i, (X i).prog = P
  w : ∀ i, (X i).w = w
  k : ∀ i, (X i).K = K
  m : ∀ i, (X i).mg = mg
  b : ∀ i, (X i).base = base
  n : ∀ i, (X i).N = N
  c : ∀ i, (X i).calm = true
  nd : N.Nodup
  r : ∀ i, Room lv (X i).A
section
variable {ι : Type}
def CE (X : ι → Cx) (K : PySem.W.Frag) (e : Expr) (f : EF) : Prop := ∃ t, (∀ i, PE (X i) e t) ∧ SemE K t f
def CB (X : ι → Cx) (K : PySem.W.Frag) (e : Expr) (f : EF) : Prop := ∃ t, (∀ i, PE (X i) e t) ∧ SemB K t f
def CO (X : ι → Cx) (K : PySem.W.Frag) (e : Expr) (f : AF) : Prop := ∃ t, (∀ i, PE (X i) e t) ∧ SemO K t f
def CT (X : ι → Cx) (K : PySem.W.Frag) (e : Expr) (f : TF) : Prop := ∃ t, (∀ i, PT (X i) e t) ∧ SemT K t f
def CW (X : ι → Cx) (K : PySem.W.Frag) (e : Expr) (f : TF) : Prop := ∃ t, (∀ i, PW (X i) e t) ∧ SemT K t f
def CA (X : ι → Cx) (K : PySem.W.Frag) (es : List Expr) (f : AF) : Prop := ∃ t, (∀ i, PA (X i) es t) ∧ SemA K t f
def CAB (X : ι → Cx) (K : PySem.W.Frag) (es : List Expr) (f : AF) : Prop := ∃ t, (∀ i, PA (X i) es t) ∧ SemAB K t f
end

/-! ### the pure words -/
def xSh (i : Nat) : EF := fun ρ => match ρ[i]? with
  | some (.sh d) => Mp d
  | _ => Mf
def xNm (i : Nat) : EF := fun ρ => match ρ[i]? with
  | some (.sh d) => Mp d
  | some (.ow ds) => Mp (.lst ds)
  | _ => Mf
def xC (d : D) : EF := fun _ => Mp d
def x1 (g : D → Option D) (a : EF) : EF := fun ρ => Mb (a ρ) fun x => Mo (g x)
def x2 (g : D → D → Option D) (a b : EF) : EF := fun ρ => Mb (a ρ) fun x => Mb (b ρ) fun y => Mo (g x y)
def xL (g : List D → Option D) (a : AF) : EF := fun ρ => Mb (a ρ) fun x => Mo (g x)
def o2 (g : D → D → Option (List D)) (a b : EF) : AF := fun ρ => Mb (a ρ) fun x => Mb (b ρ) fun y => Mo (g x y)
def oL (g : List D → Option (List D)) (a : AF) : AF := fun ρ => Mb (a ρ) fun x => Mo (g x)
def xOf (a : AF) : EF := fun ρ => Mb (a ρ) fun ds => Mp (.lst ds)
def aN : AF := fun _ => Mp []
def aC (a : EF) (r : AF) : AF := fun ρ => Mb (a ρ) fun x => Mb (r ρ) fun xs => Mp (x :: xs)
def asB : D → M Bool
  | .bl b => Mp b
  | _ => Mf
def xCh (g g' : D → D → Option D) (a b c : EF) : EF := fun ρ => Mb (a ρ) fun x => Mb (b ρ) fun y => Mb (Mo (g x y)) fun z => Mb (asB z) fun k => if k = true then Mb (c ρ) fun w => Mo (g' y w) else Mp (.bl false)
def xAnd (a b : EF) : EF := fun ρ => Mb (a ρ) fun x => Mb (asB x) fun k => if k = true then b ρ else Mp (.bl false)
def xOr (a b : EF) : EF := fun ρ => Mb (a ρ) fun x => Mb (asB x) fun k => if k = true then Mp (.bl true) else b ρ
def xNot (a : EF) : EF := fun ρ => Mb (a ρ) fun x => Mb (asB x) fun k => Mp (.bl (!k))
def xIf (t : TF) (a b : EF) : EF := fun ρ => Mb (t ρ) fun k => if k = true then a ρ else b ρ
def xTup (a : AF) : EF := fun ρ => Mb (a ρ) fun xs => if xs.length ≤ SZ then Mp (.tup xs) else Mf
def oLst (a : AF) : AF := fun ρ => Mb (a ρ) fun xs => if xs.length ≤ SZ then Mp xs else Mf
def tV (a : EF) : TF := fun ρ => Mb (a ρ) asB
def tAnd (a b : TF) : TF := fun ρ => Mb (a ρ) fun k => if k = true then b ρ else Mp false
def tOr (a b : TF) : TF := fun ρ => Mb (a ρ) fun k => if k = true then Mp true else b ρ
def tNot (a : TF) : TF := fun ρ => Mb (a ρ) fun k => Mp (!k)
def truD : D → Option Bool
  | .non => some false
  | .bl b => some b
  | .int i => some (i != 0)
  | .tup ds => some (!ds.isEmpty)
  | .lst ds => some (!ds.isEmpty)
  | _ => none
def tTr (a : EF) : TF := fun ρ => Mb (a ρ) fun x => Mo (truD x)

/-! ### the rules for expressions -/
section
variable {ι : Type} {X : ι → Cx} {P : Program} {w : World} {K : PySem.W.Frag} {mg : Str → Option Value} {base : Heap} {N : List Str} {lv : Nat} {pos : Pos} {a b c e : Expr} {es : List Expr} {f fa fb fc : EF} {g : AF}
theorem CE.brw (h : CE X K e f) : CB X K e f := by
  obtain ⟨t, h1, h2⟩ := h
  exact ⟨t, h1, fun pd F0 H0 F H ρ σ s d s' o e Q q => h2 pd F0 H0 F H ρ σ s d s' o e Q fun v F' H' x y z => q v F' H' x y (.inl z)⟩
theorem sem_of_O {t : TE} (h : SemO K t g) : SemE K t (xOf g) := fun pd F0 H0 F H ρ σ s d s' o e Q q => by
  obtain ⟨ds, s1, e1, e2⟩ := Mb_eq e
  obtain ⟨rfl, rfl⟩ := Mp_eq e2
  refine h pd F0 H0 F H ρ σ s ds s1 o e1 Q fun p xs F' H' x y n1 n2 l z r => ?_
  have eF : Same F' (upd F' p (.lst xs)) := same_upd n2
  refine q _ (upd F' p (.lst xs)) H' ⟨x.ff.trans eF, x.hh, x.hd, fun b u q => ?_, fun b u q => ?_⟩ ?_ ?_
  · by_cases hb : b = p
    · subst hb; exact .inr n1
    · rw [upd_ne hb] at q; exact x.nw b u q
  · by_cases hb : b = p
    · subst hb; rw [upd_same] at q; cases q; exact l
    · rw [upd_ne hb] at q; exact x.fh b u q
  · cases pd with
    | none => trivial
    | some a =>
      obtain ⟨h1, h2, h3, h4⟩ := y
      refine ⟨?_, h2, h3, eF _ _ h4⟩
      have : a.p ≠ p := by
        rintro rfl
        obtain ⟨_, _, h3', _⟩ := o.dok
        rw [n1] at h3'; cases h3'
      rw [upd_ne this]; exact h1
  · simp only [Rep]
    exact ⟨p, xs, rfl, upd_same, z, r.mono eF⟩
theorem CO.frz (h : CO X K e g) : CE X K e (xOf g) := let ⟨t, h1, h2⟩ := h; ⟨t, h1, sem_of_O h2⟩

theorem semE_var {i : Nat} : SemE K (tVar i) (xSh i) := fun pd F0 H0 F H ρ σ s d s' o e Q q => by
  unfold xSh at e
  cases h : ρ[i]? with
  | none => rw [h] at e; cases e
  | some sl =>
    rw [h] at e
    cases sl with
    | un => cases e
    | ow ds => cases e
    | sh d' =>
      obtain ⟨rfl, rfl⟩ := Mp_eq e
      obtain ⟨x, h1, h2⟩ := o.sh h
      exact ⟨x, h1, q x F H (.refl o.fh) o.dok h2⟩
theorem semB_var {i : Nat} : SemB K (tVar i) (xNm i) := fun pd F0 H0 F H ρ σ s d s' o e Q q => by
  unfold xNm at e
  cases h : ρ[i]? with
  | none => rw [h] at e; cases e
  | some sl =>
    rw [h] at e
    cases sl with
    | un => cases e
    | ow ds =>
      obtain ⟨rfl, rfl⟩ := Mp_eq e
      obtain ⟨x, h1, p, xs, rfl, h2, h3, h4, h5, h6, h7⟩ := o.env.at' i _ h
      exact ⟨_, h1, q _ F H (.refl o.fh) o.dok (.inr ⟨p, ds, xs, rfl, rfl, h5, h4, h2, h6, h7⟩)⟩
    | sh d' =>
      obtain ⟨rfl, rfl⟩ := Mp_eq e
      obtain ⟨x, h1, h2⟩ := o.sh h
      exact ⟨x, h1, q x F H (.refl o.fh) o.dok (.inl h2)⟩
theorem cSh (C : Fam X P w K mg base N lv) (i : Nat) {x : Str} (hN : N[i]? = some x := by rfl) (hv : ∀ j, Vis (X j).env.scope x := by intro _; first | exact Or.inl rfl | exact Or.inr (Or.inl rfl) | exact Or.inr (Or.inr rfl))
    (hd : (x == ("__debug__" : Str)) = false := by decide) (hcd : (x == ("__classdict__" : Str)) = false := by decide) : CE X K (.Name x pos) (xSh i) :=
  ⟨_, fun j => pe_var (by rw [C.n j]; exact hN) (hv j) hd hcd, semE_var⟩
theorem cNm (C : Fam X P w K mg base N lv) (i : Nat) {x : Str} (hN : N[i]? = some x := by rfl) (hv : ∀ j, Vis (X j).env.scope x := by intro _; first | exact Or.inl rfl | exact Or.inr (Or.inl rfl) | exact Or.inr (Or.inr rfl))
    (hd : (x == ("__debug__" : Str)) = false := by decide) (hcd : (x == ("__classdict__" : Str)) = false := by decide) : CB X K (.Name x pos) (xNm i) :=
  ⟨_, fun j => pe_var (by rw [C.n j]; exact hN) (hv j) hd hcd, semB_var⟩
theorem semE_c {v : V} {d : D} (h : ∀ pd F, Rep K pd F d v) : SemE K (tC v) (xC d) := fun pd F0 H0 F H ρ σ s d s' o e Q q => by
  obtain ⟨rfl, rfl⟩ := Mp_eq e
  exact q v F H (.refl o.fh) o.dok (h pd F)
theorem cInt {i : Int} {k} : CE X K (.Constant (.int i) k pos) (xC (.int i)) := ⟨_, fun _ => pe_int, semE_c fun _ _ => by simp [Rep]⟩
theorem cBl {i : Bool} {k} : CE X K (.Constant (.bool i) k pos) (xC (.bl i)) := ⟨_, fun _ => pe_bl, semE_c fun _ _ => by simp [Rep]⟩
theorem cNon {k} : CE X K (.Constant .none k pos) (xC .non) := ⟨_, fun _ => pe_non, semE_c fun _ _ => by simp [Rep]⟩
theorem cStr {i : Str} {k} : CE X K (.Constant (.str i) k pos) (xC (.str i)) := ⟨_, fun _ => pe_str, semE_c fun _ _ => by simp [Rep]⟩
/-- a module's constant -/
theorem cGlob (C : Fam X P w K mg base N lv) {x : Str} {v : V} {u : Value} {d : D} (hm : mg x = some u) (r : RelV v u) (h : ∀ pd F, Rep K pd F d v) (hg : ∀ j, Gl (X j) x := by intro _; rfl) (hd : (x == ("__debug__" : Str)) = false := by decide) :
    CE X K (.Name x pos) (xC d) := ⟨_, fun j => pe_glob (hg j) (by rw [C.m j]; exact hm) r hd, semE_c h⟩

/-! two operands -/
theorem semE_op2 {r : R2} {gg : D → D → Option D} {ta tb : TE} (hv : V2 K r gg) (ha : SemB K ta fa) (hb : SemB K tb fb) : SemE K (tOp r ta tb) (x2 gg fa fb) := fun pd F0 H0 F H ρ σ s d s' o e Q q => by
  obtain ⟨x, s1, e1, e⟩ := Mb_eq e
  obtain ⟨y, s2, e2, e⟩ := Mb_eq e
  obtain ⟨e3, rfl⟩ := Mo_eq e
  refine ha pd F0 H0 F H ρ σ s x s1 o e1 _ fun v F1 H1 x1 d1 r1 => ?_
  have o1 := o.step x1 d1
  refine hb pd F0 H0 F1 H1 ρ σ s1 y s2 o1 e2 _ fun u F2 H2 x2 d2 r2 => ?_
  have o2 := o1.step x2 d2
  exact hv pd F2 H2 x y d v u o2.fh (r1.mono x2) r2 e3 Q fun z F3 H3 x3 r3 => q z F3 H3 (x1.trans (x2.trans x3.lift)) (d2.grow x3) r3
theorem semO_op2 {r : R2} {gg : D → D → Option (List D)} {ta tb : TE} (hv : V2O K r gg) (ha : SemB K ta fa) (hb : SemB K tb fb) : SemO K (tOp r ta tb) (o2 gg fa fb) := fun pd F0 H0 F H ρ σ s d s' o e Q q => by
  obtain ⟨x, s1, e1, e⟩ := Mb_eq e
  obtain ⟨y, s2, e2, e⟩ := Mb_eq e
  obtain ⟨e3, rfl⟩ := Mo_eq e
  refine ha pd F0 H0 F H ρ σ s x s1 o e1 _ fun v F1 H1 x1 d1 r1 => ?_
  have o1 := o.step x1 d1
  refine hb pd F0 H0 F1 H1 ρ σ s1 y s2 o1 e2 _ fun u F2 H2 x2 d2 r2 => ?_
  have o2 := o1.step x2 d2
  refine hv pd F2 H2 x y d v u o2.fh (r1.mono x2) r2 e3 Q fun p xs F3 H3 x3 n1 n2 l z r3 => q p xs F3 H3 (x1.trans (x2.trans x3.lift)) (d2.grow x3) ?_ n2 l z r3
  cases hp : H p with
  | none => rfl
  | some o => exact absurd n1 ((x1.trans x2).hd p (by rw [hp]; simp))
theorem cBin {op : Operator} {r : R2} {gg : D → D → Option D} (ho : ∀ i, OpR (X i) (binaryOp op) r) (hv : V2 K r gg) (ha : CB X K a fa) (hb : CB X K b fb) : CE X K (.BinOp a op b pos) (x2 gg fa fb) :=
  let ⟨ta, a1, a2⟩ := ha; let ⟨tb, b1, b2⟩ := hb; ⟨_, fun i => pe_op (ho i) (a1 i) (b1 i), semE_op2 hv a2 b2⟩
theorem oBin {op : Operator} {r : R2} {gg : D → D → Option (List D)} (ho : ∀ i, OpR (X i) (binaryOp op) r) (hv : V2O K r gg) (ha : CB X K a fa) (hb : CB X K b fb) : CO X K (.BinOp a op b pos) (o2 gg fa fb) :=
  let ⟨ta, a1, a2⟩ := ha; let ⟨tb, b1, b2⟩ := hb; ⟨_, fun i => pe_op (ho i) (a1 i) (b1 i), semO_op2 hv a2 b2⟩
theorem cCmp {op : CmpOp} {r : R2} {gg : D → D → Option D} (ho : ∀ i, OpR (X i) (compareOp op) r) (hv : V2 K r gg) (ha : CB X K a fa) (hb : CB X K b fb) (hm : behindInMarks op b = false) : CE X K (.Compare a [op] [b] pos) (x2 gg fa fb) :=
  let ⟨ta, a1, a2⟩ := ha; let ⟨tb, b1, b2⟩ := hb; ⟨_, fun i => pe_cmpR (ho i) (a1 i) (b1 i) hm, semE_op2 hv a2 b2⟩
theorem semT_V {t : TE} (h : SemE K t f) : SemT K (tTest t) (tV f) := fun pd F0 H0 F H ρ σ s d s' o e Q q => by
  obtain ⟨x, s1, e1, e⟩ := Mb_eq e
  refine h pd F0 H0 F H ρ σ s x s1 o e1 _ fun v F1 H1 x1 d1 r1 => ?_
  cases x with
  | bl k =>
    obtain ⟨rfl, rfl⟩ := Mp_eq e
    simp only [Rep] at r1
    exact ⟨k, r1, q F1 H1 x1 d1⟩
  | _ => cases e
theorem tCmp {op : CmpOp} {r : R2} {gg : D → D → Option D} (ho : ∀ i, OpR (X i) (compareOp op) r) (hv : V2 K r gg) (ha : CB X K a fa) (hb : CB X K b fb) (hm : behindInMarks op b = false) : CT X K (.Compare a [op] [b] pos) (tV (x2 gg fa fb)) :=
  let ⟨ta, a1, a2⟩ := ha; let ⟨tb, b1, b2⟩ := hb; ⟨_, fun i => pt_cmpR (ho i) (a1 i) (b1 i) hm, semT_V (semE_op2 hv a2 b2)⟩
/-! chains -/
theorem semE_chain {r r' : R2} {gg gg' : D → D → Option D} {ta tb tc : TE} (hv : V2 K r gg) (hv' : V2 K r' gg') (ha : SemB K ta fa) (hb : SemB K tb fb) (hc : SemB K tc fc) : SemE K (tChain r r' ta tb tc) (xCh gg gg' fa fb fc) := fun pd F0 H0 F H ρ σ s d s' o e Q q => by
  obtain ⟨x, s1, e1, e⟩ := Mb_eq e
  obtain ⟨y, s2, e2, e⟩ := Mb_eq e
  obtain ⟨z, s3, e0, e⟩ := Mb_eq e
  obtain ⟨e3, rfl⟩ := Mo_eq e0
  obtain ⟨k, s4, e4, e⟩ := Mb_eq e
  refine ha pd F0 H0 F H ρ σ s x s1 o e1 _ fun v F1 H1 x1 d1 r1 => ?_
  have o1 := o.step x1 d1
  refine hb pd F0 H0 F1 H1 ρ σ s1 y _ o1 e2 _ fun u F2 H2 x2 d2 r2 => ?_
  have o2 := o1.step x2 d2
  refine hv pd F2 H2 x y z v u o2.fh (r1.mono x2) r2 e3 _ fun zv F3 H3 x3 r3 => ?_
  have o3 := o2.step (x3.lift (pd := pd)) (d2.grow x3)
  cases z with
  | bl k' =>
    obtain ⟨rfl, rfl⟩ := Mp_eq e4
    simp only [Rep] at r3
    refine ⟨k', r3, ?_⟩
    cases k' with
    | false =>
      obtain ⟨rfl, rfl⟩ := Mp_eq e
      exact iteF (q _ F3 H3 (x1.trans (x2.trans x3.lift)) o3.dok (by simp [Rep]))
    | true =>
      obtain ⟨w', s5, e5, e⟩ := Mb_eq (show Mb (fc ρ) (fun w => Mo (gg' y w)) _ = _ from e)
      obtain ⟨e6, rfl⟩ := Mo_eq e
      refine iteT (hc pd F0 H0 F3 H3 ρ σ _ w' _ o3 e5 _ fun wv F4 H4 x4 d4 r4 => ?_)
      exact hv' pd F4 H4 y w' d u wv (o3.step x4 d4).fh ((r2.mono x3.lift).mono x4) r4 e6 Q fun zz F5 H5 x5 r5 => q zz F5 H5 (x1.trans (x2.trans (x3.lift.trans (x4.trans x5.lift)))) (d4.grow x5) r5
  | _ => cases e4
theorem cChain {op op' : CmpOp} {r r' : R2} {gg gg' : D → D → Option D} (ho : ∀ i, OpR (X i) (compareOp op) r) (ho' : ∀ i, OpR (X i) (compareOp op') r') (hv : V2 K r gg) (hv' : V2 K r' gg') (ha : CB X K a fa) (hb : CB X K b fb) (hc : CB X K c fc)
    (hm : lastMarks [op, op'] [b, c] = false := by with_unfolding_all rfl) : CE X K (.Compare a [op, op'] [b, c] pos) (xCh gg gg' fa fb fc) :=
  let ⟨ta, a1, a2⟩ := ha; let ⟨tb, b1, b2⟩ := hb; let ⟨tc, c1, c2⟩ := hc; ⟨_, fun i => pe_chain (ho i) (ho' i) (a1 i) (b1 i) (c1 i) hm, semE_chain hv hv' a2 b2 c2⟩
theorem tChainR {op op' : CmpOp} {r r' : R2} {gg gg' : D → D → Option D} (ho : ∀ i, OpR (X i) (compareOp op) r) (ho' : ∀ i, OpR (X i) (compareOp op') r') (hv : V2 K r gg) (hv' : V2 K r' gg') (ha : CB X K a fa) (hb : CB X K b fb) (hc : CB X K c fc)
    (hm : lastMarks [op, op'] [b, c] = false := by with_unfolding_all rfl) : CT X K (.Compare a [op, op'] [b, c] pos) (tV (xCh gg gg' fa fb fc)) :=
  let ⟨ta, a1, a2⟩ := ha; let ⟨tb, b1, b2⟩ := hb; let ⟨tc, c1, c2⟩ := hc; ⟨_, fun i => pt_chain (ho i) (ho' i) (a1 i) (b1 i) (c1 i) hm, semT_V (semE_chain hv hv' a2 b2 c2)⟩
/-! truth, and, or, not -/
theorem tTruth (C : Fam X P w K mg base N lv) (ha : CB X K a fa) (he : ∀ i, ∀ whole, isTrue a (X i).env whole = (do let v ← whole; standAt a.pos; holding [v] (truthy v)) := by intro _ _; rfl) : CT X K a (tTr fa) := by
  obtain ⟨ta, a1, a2⟩ := ha
  refine ⟨fun σ H Q => ta σ H fun x H' => ∃ k, TruV K x H' k ∧ Q k H', fun i => by have := pt_truth (a1 i) (he i); rw [C.k i] at this; exact this, fun pd F0 H0 F H ρ σ s d s' o e Q q => ?_⟩
  obtain ⟨x, s1, e1, e⟩ := Mb_eq e
  obtain ⟨e2, rfl⟩ := Mo_eq e
  refine a2 pd F0 H0 F H ρ σ s x s1 o e1 _ fun v F1 H1 x1 d1 r1 => ⟨d, ?_, q F1 H1 x1 d1⟩
  have fh := (o.step x1 d1).fh
  cases x with
  | non => rw [r1.non]; exact (Option.some.inj e2).symm
  | bl k => rw [r1.bl]; exact (Option.some.inj e2).symm
  | int k => rw [r1.int]; exact (Option.some.inj e2).symm
  | tup ds =>
    obtain ⟨p, xs, rfl, h1, _, _, h2⟩ := r1.tup fh
    refine .inr (.inl ⟨xs, h1, ?_⟩)
    have e3 := (Option.some.inj e2).symm
    rw [e3]
    have := h2.length
    cases xs <;> cases ds <;> simp_all
  | lst ds =>
    obtain ⟨p, xs, rfl, h1, _, h2⟩ := r1.lst fh
    refine .inl ⟨xs, .of h1, ?_⟩
    have e3 := (Option.some.inj e2).symm
    rw [e3]
    have := h2.length
    cases xs <;> cases ds <;> simp_all
  | str _ => cases e2
  | rng => cases e2
theorem semT_and {ta tb : TT} {fa fb : TF} (ha : SemT K ta fa) (hb : SemT K tb fb) : SemT K (L2.tAnd ta tb) (tAnd fa fb) := fun pd F0 H0 F H ρ σ s d s' o e Q q => by
  obtain ⟨k, s1, e1, e⟩ := Mb_eq e
  refine ha pd F0 H0 F H ρ σ s k s1 o e1 _ fun F1 H1 x1 d1 => ?_
  cases k with
  | true => exact iteT (hb pd F0 H0 F1 H1 ρ σ s1 d s' (o.step x1 d1) e Q fun F2 H2 x2 d2 => q F2 H2 (x1.trans x2) d2)
  | false => obtain ⟨rfl, rfl⟩ := Mp_eq e; exact iteF (q F1 H1 x1 d1)
theorem semT_or {ta tb : TT} {fa fb : TF} (ha : SemT K ta fa) (hb : SemT K tb fb) : SemT K (L2.tOr ta tb) (tOr fa fb) := fun pd F0 H0 F H ρ σ s d s' o e Q q => by
  obtain ⟨k, s1, e1, e⟩ := Mb_eq e
  refine ha pd F0 H0 F H ρ σ s k s1 o e1 _ fun F1 H1 x1 d1 => ?_
  cases k with
  | false => exact iteF (hb pd F0 H0 F1 H1 ρ σ s1 d s' (o.step x1 d1) e Q fun F2 H2 x2 d2 => q F2 H2 (x1.trans x2) d2)
  | true => obtain ⟨rfl, rfl⟩ := Mp_eq e; exact iteT (q F1 H1 x1 d1)
theorem wAnd1 {fa : TF} (ha : CT X K a fa) : CW X K (.BoolOp .And [a] pos) fa := let ⟨t, h1, h2⟩ := ha; ⟨t, fun i => pw_and1 (h1 i), h2⟩
theorem wOr1 {fa : TF} (ha : CT X K a fa) : CW X K (.BoolOp .Or [a] pos) fa := let ⟨t, h1, h2⟩ := ha; ⟨t, fun i => pw_or1 (h1 i), h2⟩
theorem wAnd {fa fb : TF} (ha : CT X K a fa) (hb : CW X K (.BoolOp .And (b :: es) pos) fb) : CW X K (.BoolOp .And (a :: b :: es) pos) (tAnd fa fb) :=
  let ⟨t, h1, h2⟩ := ha; let ⟨u, b1, b2⟩ := hb; ⟨_, fun i => pw_and (h1 i) (b1 i), semT_and h2 b2⟩
theorem wOr {fa fb : TF} (ha : CT X K a fa) (hb : CW X K (.BoolOp .Or (b :: es) pos) fb) : CW X K (.BoolOp .Or (a :: b :: es) pos) (tOr fa fb) :=
  let ⟨t, h1, h2⟩ := ha; let ⟨u, b1, b2⟩ := hb; ⟨_, fun i => pw_or (h1 i) (b1 i), semT_or h2 b2⟩
theorem CW.t {fa : TF} (h : CW X K a fa) : CT X K a fa := let ⟨t, h1, h2⟩ := h; ⟨t, fun i => (h1 i).pt, h2⟩
theorem tNotR {fa : TF} (h : CT X K a fa) : CT X K (.UnaryOp .Not a pos) (tNot fa) := by
  obtain ⟨t, h1, h2⟩ := h
  refine ⟨_, fun i => pt_not (h1 i), fun pd F0 H0 F H ρ σ s d s' o e Q q => ?_⟩
  obtain ⟨k, s1, e1, e⟩ := Mb_eq e
  obtain ⟨rfl, rfl⟩ := Mp_eq e
  exact h2 pd F0 H0 F H ρ σ s k s1 o e1 _ fun F1 H1 x1 d1 => q F1 H1 x1 d1
theorem rep_bl {pd : Option PD} {F : Hp} {k : Bool} {v : V} (h : Rep K pd F (.bl k) v) : v = .bl k := by simpa only [Rep] using h
theorem cOne {op} (h : CE X K a f) : CE X K (.BoolOp op [a] pos) f := let ⟨t, h1, h2⟩ := h; ⟨t, fun i => pe_one (h1 i), h2⟩
theorem cAnd (ha : CE X K a fa) (hb : CE X K (.BoolOp .And (b :: es) pos) fb) : CE X K (.BoolOp .And (a :: b :: es) pos) (xAnd fa fb) := by
  obtain ⟨t, h1, h2⟩ := ha
  obtain ⟨u, b1, b2⟩ := hb
  refine ⟨_, fun i => pe_and (h1 i) (b1 i), fun pd F0 H0 F H ρ σ s d s' o e Q q => ?_⟩
  obtain ⟨x, s1, e1, e⟩ := Mb_eq e
  obtain ⟨k, s2, e2, e⟩ := Mb_eq e
  refine h2 pd F0 H0 F H ρ σ s x s1 o e1 _ fun v F1 H1 x1 d1 r1 => ?_
  cases x with
  | bl k' =>
    obtain ⟨rfl, rfl⟩ := Mp_eq e2
    refine ⟨k', rep_bl r1, ?_⟩
    cases k' with
    | true => exact iteT (b2 pd F0 H0 F1 H1 ρ σ _ d s' (o.step x1 d1) e Q fun v F2 H2 x2 d2 => q v F2 H2 (x1.trans x2) d2)
    | false => obtain ⟨rfl, rfl⟩ := Mp_eq e; exact iteF (q _ F1 H1 x1 d1 (by simp [Rep]))
  | _ => cases e2
theorem cOr (ha : CE X K a fa) (hb : CE X K (.BoolOp .Or (b :: es) pos) fb) : CE X K (.BoolOp .Or (a :: b :: es) pos) (xOr fa fb) := by
  obtain ⟨t, h1, h2⟩ := ha
  obtain ⟨u, b1, b2⟩ := hb
  refine ⟨_, fun i => pe_or (h1 i) (b1 i), fun pd F0 H0 F H ρ σ s d s' o e Q q => ?_⟩
  obtain ⟨x, s1, e1, e⟩ := Mb_eq e
  obtain ⟨k, s2, e2, e⟩ := Mb_eq e
  refine h2 pd F0 H0 F H ρ σ s x s1 o e1 _ fun v F1 H1 x1 d1 r1 => ?_
  cases x with
  | bl k' =>
    obtain ⟨rfl, rfl⟩ := Mp_eq e2
    refine ⟨k', rep_bl r1, ?_⟩
    cases k' with
    | false => exact iteF (b2 pd F0 H0 F1 H1 ρ σ _ d s' (o.step x1 d1) e Q fun v F2 H2 x2 d2 => q v F2 H2 (x1.trans x2) d2)
    | true => obtain ⟨rfl, rfl⟩ := Mp_eq e; exact iteT (q _ F1 H1 x1 d1 (by simp [Rep]))
  | _ => cases e2
theorem cNotV (ha : CE X K a fa) : CE X K (.UnaryOp .Not a pos) (xNot fa) := by
  obtain ⟨t, h1, h2⟩ := ha
  refine ⟨_, fun i => pe_not (h1 i), fun pd F0 H0 F H ρ σ s d s' o e Q q => ?_⟩
  obtain ⟨x, s1, e1, e⟩ := Mb_eq e
  obtain ⟨k, s2, e2, e⟩ := Mb_eq e
  obtain ⟨rfl, rfl⟩ := Mp_eq e
  refine h2 pd F0 H0 F H ρ σ s x s1 o e1 _ fun v F1 H1 x1 d1 r1 => ?_
  cases x with
  | bl k' =>
    obtain ⟨rfl, rfl⟩ := Mp_eq e2
    exact ⟨k', rep_bl r1, q _ F1 H1 x1 d1 (by simp [Rep])⟩
  | _ => cases e2
theorem cIf {ft : TF} (hc : CT X K c ft) (ha : CE X K a fa) (hb : CE X K b fb) : CE X K (.IfExp c a b pos) (xIf ft fa fb) := by
  obtain ⟨t, h1, h2⟩ := hc
  obtain ⟨ta, a1, a2⟩ := ha
  obtain ⟨tb, b1, b2⟩ := hb
  refine ⟨_, fun i => pe_ifExp (h1 i) (a1 i) (b1 i), fun pd F0 H0 F H ρ σ s d s' o e Q q => ?_⟩
  obtain ⟨k, s1, e1, e⟩ := Mb_eq e
  refine h2 pd F0 H0 F H ρ σ s k s1 o e1 _ fun F1 H1 x1 d1 => ?_
  cases k with
  | true => exact iteT (a2 pd F0 H0 F1 H1 ρ σ s1 d s' (o.step x1 d1) e Q fun v F2 H2 x2 d2 => q v F2 H2 (x1.trans x2) d2)
  | false => exact iteF (b2 pd F0 H0 F1 H1 ρ σ s1 d s' (o.step x1 d1) e Q fun v F2 H2 x2 d2 => q v F2 H2 (x1.trans x2) d2)
/-! one operand -/
theorem cUn {op : UnaryOp} {r : V → Hp → VK → Prop} {gg : D → Option D} (ho : ∀ i, UnR (X i) (unaryOp op) r) (hv : V1 K r gg) (ha : CB X K a fa) : CE X K (.UnaryOp op a pos) (x1 gg fa) := by
  obtain ⟨t, h1, h2⟩ := ha
  refine ⟨_, fun i => pe_un (ho i) (h1 i), fun pd F0 H0 F H ρ σ s d s' o e Q q => ?_⟩
  obtain ⟨x, s1, e1, e⟩ := Mb_eq e
  obtain ⟨e2, rfl⟩ := Mo_eq e
  refine h2 pd F0 H0 F H ρ σ s x s1 o e1 _ fun v F1 H1 x1 d1 r1 => ?_
  exact hv pd F1 H1 x d v (o.step x1 d1).fh r1 e2 Q fun z F3 H3 x3 r3 => q z F3 H3 (x1.trans x3.lift) (d1.grow x3) r3
/-! arguments -/
theorem caNil : CA X K [] aN := ⟨_, fun _ => pa_nil, fun pd F0 H0 F H ρ σ s d s' o e Q q => by obtain ⟨rfl, rfl⟩ := Mp_eq e; exact q _ F H (.refl o.fh) o.dok .nil⟩
theorem cbNil : CAB X K [] aN := ⟨_, fun _ => pa_nil, fun pd F0 H0 F H ρ σ s d s' o e Q q => by obtain ⟨rfl, rfl⟩ := Mp_eq e; exact q _ F H (.refl o.fh) o.dok .nil⟩
theorem caCons (ha : CE X K a fa) (hr : CA X K es g) (hs : ∀ i, starEach (a :: es) (X i).env = (false, eval a (X i).env) :: starEach es (X i).env := by intro _; rfl) : CA X K (a :: es) (aC fa g) := by
  obtain ⟨t, h1, h2⟩ := ha
  obtain ⟨u, b1, b2⟩ := hr
  refine ⟨_, fun i => pa_cons (h1 i) (b1 i) (hs i), fun pd F0 H0 F H ρ σ s d s' o e Q q => ?_⟩
  obtain ⟨x, s1, e1, e⟩ := Mb_eq e
  obtain ⟨xs, s2, e2, e⟩ := Mb_eq e
  obtain ⟨rfl, rfl⟩ := Mp_eq e
  refine h2 pd F0 H0 F H ρ σ s x s1 o e1 _ fun v F1 H1 x1 d1 r1 => ?_
  exact b2 pd F0 H0 F1 H1 ρ σ s1 xs s2 (o.step x1 d1) e2 _ fun vs F2 H2 x2 d2 r2 => q _ F2 H2 (x1.trans x2) d2 (.cons (r1.mono x2.ff) r2)
theorem cbCons (ha : CB X K a fa) (hr : CAB X K es g) (hs : ∀ i, starEach (a :: es) (X i).env = (false, eval a (X i).env) :: starEach es (X i).env := by intro _; rfl) : CAB X K (a :: es) (aC fa g) := by
  obtain ⟨t, h1, h2⟩ := ha
  obtain ⟨u, b1, b2⟩ := hr
  refine ⟨_, fun i => pa_cons (h1 i) (b1 i) (hs i), fun pd F0 H0 F H ρ σ s d s' o e Q q => ?_⟩
  obtain ⟨x, s1, e1, e⟩ := Mb_eq e
  obtain ⟨xs, s2, e2, e⟩ := Mb_eq e
  obtain ⟨rfl, rfl⟩ := Mp_eq e
  refine h2 pd F0 H0 F H ρ σ s x s1 o e1 _ fun v F1 H1 x1 d1 r1 => ?_
  exact b2 pd F0 H0 F1 H1 ρ σ s1 xs s2 (o.step x1 d1) e2 _ fun vs F2 H2 x2 d2 r2 => q _ F2 H2 (x1.trans x2) d2 (.cons (r1.mono x2) r2)
/-! displays -/
theorem cTup {k} (h : CA X K es g) : CE X K (.Tuple es k pos) (xTup g) := by
  obtain ⟨t, h1, h2⟩ := h
  refine ⟨_, fun i => pe_tup (h1 i), fun pd F0 H0 F H ρ σ s d s' o e Q q => ?_⟩
  obtain ⟨xs, s1, e1, e⟩ := Mb_eq e
  split at e
  · rename_i hl
    obtain ⟨rfl, rfl⟩ := Mp_eq e
    refine h2 pd F0 H0 F H ρ σ s xs s1 o e1 _ fun vs F1 H1 x1 d1 r1 => ⟨by rw [r1.length]; exact hl, fun p n => ?_⟩
    have o1 := o.step x1 d1
    have x2 := Ext.new (o := .tup vs) o1.fh n
    refine q _ _ _ (x1.trans x2.lift) (d1.grow x2) ?_
    simp only [Rep]
    exact ⟨p, vs, rfl, .of upd_same, hl, r1.mono x2.ff⟩
  · exact (Mf_eq e).elim
theorem oList (h : CA X K es g) : CO X K (.List es pos) (oLst g) := by
  obtain ⟨t, h1, h2⟩ := h
  refine ⟨_, fun i => pe_lst (h1 i), fun pd F0 H0 F H ρ σ s d s' o e Q q => ?_⟩
  obtain ⟨xs, s1, e1, e⟩ := Mb_eq e
  split at e
  · rename_i hl
    obtain ⟨rfl, rfl⟩ := Mp_eq e
    refine h2 pd F0 H0 F H ρ σ s xs s1 o e1 _ fun vs F1 H1 x1 d1 r1 => ⟨by rw [r1.length]; exact hl, fun p n => ?_⟩
    have o1 := o.step x1 d1
    have x2 := Ext.own (o := .lst vs) o1.fh n
    have nF : F1 p = none := by
      cases hF : F1 p with
      | none => rfl
      | some u => have := o1.fh _ _ hF; rw [n] at this; cases this
    have nH : H p = none := by
      cases hp : H p with
      | none => rfl
      | some u => exact absurd n (x1.hd p (by rw [hp]; simp))
    exact q p vs F1 _ (x1.trans x2.lift) (d1.grow x2) nH nF upd_same hl r1
  · exact (Mf_eq e).elim
/-! calls of built-ins -/
theorem semE_CB {r : List V → Hp → VK → Prop} {gg : List D → Option D} {t : TA} (hv : VL K r gg) (h : SemAB K t g) : SemE K (tCB r t) (xL gg g) := fun pd F0 H0 F H ρ σ s d s' o e Q q => by
  obtain ⟨xs, s1, e1, e⟩ := Mb_eq e
  obtain ⟨e2, rfl⟩ := Mo_eq e
  refine h pd F0 H0 F H ρ σ s xs s1 o e1 _ fun vs F1 H1 x1 d1 r1 => ?_
  exact hv pd F1 H1 xs d vs (o.step x1 d1).fh r1 e2 Q fun z F3 H3 x3 r3 => q z F3 H3 (x1.trans x3.lift) (d1.grow x3) r3
theorem semO_CB {r : List V → Hp → VK → Prop} {gg : List D → Option (List D)} {t : TA} (hv : VLO K r gg) (h : SemAB K t g) : SemO K (tCB r t) (oL gg g) := fun pd F0 H0 F H ρ σ s d s' o e Q q => by
  obtain ⟨xs, s1, e1, e⟩ := Mb_eq e
  obtain ⟨e2, rfl⟩ := Mo_eq e
  refine h pd F0 H0 F H ρ σ s xs s1 o e1 _ fun vs F1 H1 x1 d1 r1 => ?_
  refine hv pd F1 H1 xs d vs (o.step x1 d1).fh r1 e2 Q fun p ys F3 H3 x3 n1 n2 l z r3 => q p ys F3 H3 (x1.trans x3.lift) (d1.grow x3) ?_ n2 l z r3
  cases hp : H p with
  | none => rfl
  | some o => exact absurd n1 (x1.hd p (by rw [hp]; simp))
section
variable {x : Str} {p : Pos} {id T : String} {r : List V → Hp → VK → Prop}
theorem cCallB (C : Fam X P w K mg base N lv) {gg : List D → Option D} (hc : ∀ i, CallR (X i) (.builtin id) r) (hv' : VL K r gg) (hm : mg x = none) (hv : bootBuiltins x = some (.builtin id)) (ha : CAB X K (e :: es) g) (hg : ∀ i, Gl (X i) x := by intro _; rfl)
    (hn : x ≠ "__name__" := by decide) (hdb : (x == ("__debug__" : Str)) = false := by decide) (he : ∀ i, starEach (e :: es) (X i).env = (false, eval e (X i).env) :: starEach es (X i).env := by intro _; rfl)
    (hpl : ∀ i, (backTo pos (starEach es (X i).env)).any (·.1) = false := by intro _; rfl) : CE X K (.Call (.Name x p) (e :: es) [] pos) (xL gg g) :=
  let ⟨t, h1, h2⟩ := ha; ⟨_, fun i => pe_callB (hc i) (hg i) (by rw [C.m i]; exact hm) hv (h1 i) hn hdb (he i) (hpl i), semE_CB hv' h2⟩
theorem oCallB (C : Fam X P w K mg base N lv) {gg : List D → Option (List D)} (hc : ∀ i, CallR (X i) (.builtin id) r) (hv' : VLO K r gg) (hm : mg x = none) (hv : bootBuiltins x = some (.builtin id)) (ha : CAB X K (e :: es) g) (hg : ∀ i, Gl (X i) x := by intro _; rfl)
    (hn : x ≠ "__name__" := by decide) (hdb : (x == ("__debug__" : Str)) = false := by decide) (he : ∀ i, starEach (e :: es) (X i).env = (false, eval e (X i).env) :: starEach es (X i).env := by intro _; rfl)
    (hpl : ∀ i, (backTo pos (starEach es (X i).env)).any (·.1) = false := by intro _; rfl) : CO X K (.Call (.Name x p) (e :: es) [] pos) (oL gg g) :=
  let ⟨t, h1, h2⟩ := ha; ⟨_, fun i => pe_callB (hc i) (hg i) (by rw [C.m i]; exact hm) hv (h1 i) hn hdb (he i) (hpl i), semO_CB hv' h2⟩
theorem cCallT (C : Fam X P w K mg base N lv) {gg : List D → Option D} (hc : ∀ i, CallR (X i) (.type T) r) (hv' : VL K r gg) (hm : mg x = none) (hv : bootBuiltins x = some (.type T)) (ha : CAB X K (e :: es) g) (hg : ∀ i, Gl (X i) x := by intro _; rfl)
    (hn : x ≠ "__name__" := by decide) (hdb : (x == ("__debug__" : Str)) = false := by decide) (he : ∀ i, starEach (e :: es) (X i).env = (false, eval e (X i).env) :: starEach es (X i).env := by intro _; rfl)
    (hpl : ∀ i, (backTo pos (starEach es (X i).env)).any (·.1) = false := by intro _; rfl) : CE X K (.Call (.Name x p) (e :: es) [] pos) (xL gg g) :=
  let ⟨t, h1, h2⟩ := ha; ⟨_, fun i => pe_callTy (hc i) (hg i) (by rw [C.m i]; exact hm) hv (h1 i) hn hdb (he i) (hpl i), semE_CB hv' h2⟩
theorem oCallT (C : Fam X P w K mg base N lv) {gg : List D → Option (List D)} (hc : ∀ i, CallR (X i) (.type T) r) (hv' : VLO K r gg) (hm : mg x = none) (hv : bootBuiltins x = some (.type T)) (ha : CAB X K (e :: es) g) (hg : ∀ i, Gl (X i) x := by intro _; rfl)
    (hn : x ≠ "__name__" := by decide) (hdb : (x == ("__debug__" : Str)) = false := by decide) (he : ∀ i, starEach (e :: es) (X i).env = (false, eval e (X i).env) :: starEach es (X i).env := by intro _; rfl)
    (hpl : ∀ i, (backTo pos (starEach es (X i).env)).any (·.1) = false := by intro _; rfl) : CO X K (.Call (.Name x p) (e :: es) [] pos) (oL gg g) :=
  let ⟨t, h1, h2⟩ := ha; ⟨_, fun i => pe_callTy (hc i) (hg i) (by rw [C.m i]; exact hm) hv (h1 i) hn hdb (he i) (hpl i), semO_CB hv' h2⟩
end
end
end Pu
namespace Pu
open PySem PySem.Spec PyProof.Rows L2

/-! ### data as the library's data -/
mutual
def toP : D → PyData
  | .non => .none
  | .bl b => .bool b
  | .int i => .int i
  | .str x => .str x
  | .tup ds => .tuple (toPs ds)
  | .lst ds => .list (toPs ds)
  | .rng => .dict []
def toPs : List D → List PyData
  | [] => []
  | d :: ds => toP d :: toPs ds
end
mutual
def clean : D → Bool
  | .rng => false
  | .tup ds => cleanL ds
  | .lst ds => cleanL ds
  | _ => true
def cleanL : List D → Bool
  | [] => true
  | d :: ds => clean d && cleanL ds
end
section
variable {K : PySem.W.Frag} {pd : Option PD} {F H : Hp}
mutual
theorem Rep.dp (fh : Same F H) : ∀ {d : D} {v : V}, clean d = true → Rep K pd F d v → Dp K H v (toP d)
  | .non, _, _, h => by simp only [Rep] at h; subst h; exact .non
  | .bl _, _, _, h => by simp only [Rep] at h; subst h; exact .bl _
  | .int _, _, _, h => by simp only [Rep] at h; subst h; exact .int _
  | .str _, _, _, h => by simp only [Rep] at h; subst h; exact .str _
  | .rng, _, c, _ => by simp [clean] at c
  | .tup ds, _, c, h => by
    simp only [Rep] at h
    obtain ⟨a, xs, rfl, s, hl, q⟩ := h
    exact .tup (sqT_mono fh s) (RepL.dp fh (by simpa only [clean] using c) q)
  | .lst ds, _, c, h => by
    simp only [Rep] at h
    obtain ⟨a, xs, rfl, s, hl, q⟩ := h
    exact .lst (.of (fh _ _ s)) (RepL.dp fh (by simpa only [clean] using c) q)
theorem RepL.dp (fh : Same F H) : ∀ {ds : List D} {xs : List V}, cleanL ds = true → RepL K pd F ds xs → DpAll K H xs (toPs ds)
  | [], _, _, h => by have := h.cases0; subst this; exact .nil
  | d :: ds, _, c, h => by
    obtain ⟨y, ys, rfl, h1, h2⟩ := h.cases
    simp only [cleanL, Bool.and_eq_true] at c
    exact .cons (Rep.dp fh c.1 h1) (RepL.dp fh c.2 h2)
end
theorem RepB.dp {d : D} {v : V} (fh : Same F H) (c : clean d = true) (h : RepB K pd F H d v) : Dp K H v (toP d) := by
  rcases h with h | ⟨p, ds, xs, rfl, rfl, h3, _, _, _, h6⟩
  · exact h.dp fh c
  · exact .lst (.of h3) (RepL.dp fh (by simpa only [clean] using c) h6)
theorem toPs_eq : ∀ ds : List D, toPs ds = ds.map toP
  | [] => rfl
  | d :: ds => by rw [toPs, toPs_eq ds]; rfl
end
/-- may be compared -/
def cmpOk (d : D) : Bool := clean d && SeqAt.shaped (toP d)
def eqD (x y : D) : Option D := if cmpOk x = true ∧ cmpOk y = true then some (.bl (PyData.eqv (toP x) (toP y))) else none
def neD (x y : D) : Option D := if cmpOk x = true ∧ cmpOk y = true then some (.bl (!PyData.eqv (toP x) (toP y))) else none
def isNonD : D → Bool
  | .non => true
  | _ => false
def isD (x y : D) : Option D := match y with
  | .non => some (.bl (isNonD x))
  | _ => none
def isNotD (x y : D) : Option D := match y with
  | .non => some (.bl (!isNonD x))
  | _ => none
def ltD : D → D → Option D
  | .int a, .int b => some (.bl (decide (a < b)))
  | _, _ => none
def leD : D → D → Option D
  | .int a, .int b => some (.bl (decide (a ≤ b)))
  | _, _ => none
def gtD : D → D → Option D
  | .int a, .int b => some (.bl (decide (b < a)))
  | _, _ => none
def geD : D → D → Option D
  | .int a, .int b => some (.bl (decide (b ≤ a)))
  | _, _ => none
def addD : D → D → Option D
  | .int a, .int b => some (.int (a + b))
  | .tup a, .tup b => if a.length + b.length ≤ SZ then some (.tup (a ++ b)) else none
  | .lst a, .lst b => if a.length + b.length ≤ SZ then some (.lst (a ++ b)) else none
  | _, _ => none
def catO : D → D → Option (List D)
  | .lst a, .lst b => if a.length + b.length ≤ SZ then some (a ++ b) else none
  | _, _ => none
def subD : D → D → Option D
  | .int a, .int b => some (.int (a - b))
  | _, _ => none
def mulD : D → D → Option D
  | .int a, .int b => if a.natAbs.log2 + b.natAbs.log2 < 1000000 then some (.int (a * b)) else none
  | _, _ => none
def divD : D → D → Option D
  | .int a, .int b => if 0 < b ∧ b.natAbs.log2 < 9000 then some (.int (a / b)) else none
  | _, _ => none
def modD : D → D → Option D
  | .int a, .int b => if 0 < b then some (.int (a % b)) else none
  | _, _ => none
def negD : D → Option D
  | .int a => some (.int (-a))
  | _ => none
def repO : D → D → Option (List D)
  | .lst a, .int k => if -(2 ^ 63) ≤ k ∧ k < 2 ^ 63 ∧ a.length * k.toNat ≤ SZ then some (List.replicate k.toNat a).flatten else none
  | _, _ => none
def ixD : D → D → Option D
  | .lst a, .int k => atI a k
  | .tup a, .int k => atI a k
  | _, _ => none
def lenD : List D → Option D
  | [.lst a] => some (.int a.length)
  | [.tup a] => some (.int a.length)
  | _ => none
def tupD : List D → Option D
  | [.lst a] => some (.tup a)
  | [.tup a] => some (.tup a)
  | _ => none
def listO : List D → Option (List D)
  | [.lst a] => some a
  | [.tup a] => some a
  | _ => none
def absD : List D → Option D
  | [.int a] => some (.int (if a < 0 then -a else a))
  | _ => none
def intD : List D → Option D
  | [.int a] => some (.int a)
  | [.bl b] => some (.int (if b then 1 else 0))
  | _ => none
def max2D : List D → Option D
  | [.int a, .int b] => some (.int (if b > a then b else a))
  | _ => none
def min2D : List D → Option D
  | [.int a, .int b] => some (.int (if b < a then b else a))
  | _ => none

section
variable {K : PySem.W.Frag} {X : Cx}
theorem v2I {g : Int → Int → D} {gv : Int → Int → V} {C : Int → Int → Prop} (h : ∀ pd F i j, Rep K pd F (g i j) (gv i j)) {gg : D → D → Option D}
    (hg : ∀ x y d, gg x y = some d → ∃ i j, x = .int i ∧ y = .int j ∧ C i j ∧ d = g i j) : V2 K (rI C gv) gg := fun pd F H x y d v w fh rx ry e Q q => by
  obtain ⟨i, j, rfl, rfl, c, rfl⟩ := hg x y d e
  exact ⟨i, j, rx.int, ry.int, c, q _ F H (.refl fh) (h pd F i j)⟩
theorem v2I0 {g : Int → Int → D} {gv : Int → Int → V} (h : ∀ pd F i j, Rep K pd F (g i j) (gv i j)) {gg : D → D → Option D}
    (hg : ∀ x y d, gg x y = some d → ∃ i j, x = .int i ∧ y = .int j ∧ d = g i j) : V2 K (rI0 gv) gg := fun pd F H x y d v w fh rx ry e Q q => by
  obtain ⟨i, j, rfl, rfl, rfl⟩ := hg x y d e
  exact ⟨i, j, rx.int, ry.int, q _ F H (.refl fh) (h pd F i j)⟩
theorem int2 {gg : D → D → Option D} {g : Int → Int → D} (h1 : ∀ i j, gg (.int i) (.int j) = some (g i j)) (h2 : ∀ x y, (∀ i j, x = .int i → y = .int j → False) → gg x y = none) (x y d : D) (e : gg x y = some d) :
    ∃ i j, x = .int i ∧ y = .int j ∧ d = g i j := by
  by_cases hx : ∃ i j, x = .int i ∧ y = .int j
  · obtain ⟨i, j, rfl, rfl⟩ := hx
    rw [h1] at e
    exact ⟨i, j, rfl, rfl, (Option.some.inj e).symm⟩
  · rw [h2 x y fun i j e1 e2 => hx ⟨i, j, e1, e2⟩] at e
    cases e
theorem v_lt : V2 K (rI0 fun i j => .bl (decide (i < j))) ltD := v2I0 (g := fun i j => .bl (decide (i < j))) (fun _ _ _ _ => by simp [Rep]) (int2 (fun _ _ => rfl) fun x y h => by cases x <;> cases y <;> first | rfl | exact (h _ _ rfl rfl).elim)
theorem v_le : V2 K (rI0 fun i j => .bl (decide (i ≤ j))) leD := v2I0 (g := fun i j => .bl (decide (i ≤ j))) (fun _ _ _ _ => by simp [Rep]) (int2 (fun _ _ => rfl) fun x y h => by cases x <;> cases y <;> first | rfl | exact (h _ _ rfl rfl).elim)
theorem v_gt : V2 K (rI0 fun i j => .bl (decide (j < i))) gtD := v2I0 (g := fun i j => .bl (decide (j < i))) (fun _ _ _ _ => by simp [Rep]) (int2 (fun _ _ => rfl) fun x y h => by cases x <;> cases y <;> first | rfl | exact (h _ _ rfl rfl).elim)
theorem v_ge : V2 K (rI0 fun i j => .bl (decide (j ≤ i))) geD := v2I0 (g := fun i j => .bl (decide (j ≤ i))) (fun _ _ _ _ => by simp [Rep]) (int2 (fun _ _ => rfl) fun x y h => by cases x <;> cases y <;> first | rfl | exact (h _ _ rfl rfl).elim)
theorem v_sub : V2 K (rI0 fun i j => .int (i - j)) subD := v2I0 (g := fun i j => .int (i - j)) (fun _ _ _ _ => by simp [Rep]) (int2 (fun _ _ => rfl) fun x y h => by cases x <;> cases y <;> first | rfl | exact (h _ _ rfl rfl).elim)
theorem v_mul : V2 K (rI CMulW fun i j => .int (i * j)) mulD := v2I (g := fun i j => .int (i * j)) (fun _ _ _ _ => by simp [Rep]) fun x y d e => by
  cases x <;> cases y <;> first | (cases e; done) | skip
  rename_i i j
  simp only [mulD] at e
  split at e
  · rename_i h; exact ⟨i, j, rfl, rfl, h, (Option.some.inj e).symm⟩
  · cases e
theorem v_div : V2 K (rI CDivW fun i j => .int (i / j)) divD := v2I (g := fun i j => .int (i / j)) (fun _ _ _ _ => by simp [Rep]) fun x y d e => by
  cases x <;> cases y <;> first | (cases e; done) | skip
  rename_i i j
  simp only [divD] at e
  split at e
  · rename_i h; exact ⟨i, j, rfl, rfl, h, (Option.some.inj e).symm⟩
  · cases e
theorem v_mod : V2 K (rI (fun _ j => 0 < j) fun i j => .int (i % j)) modD := v2I (g := fun i j => .int (i % j)) (fun _ _ _ _ => by simp [Rep]) fun x y d e => by
  cases x <;> cases y <;> first | (cases e; done) | skip
  rename_i i j
  simp only [modD] at e
  split at e
  · rename_i h; exact ⟨i, j, rfl, rfl, h, (Option.some.inj e).symm⟩
  · cases e
theorem v_neg : V1 K (rU fun i => .int (-i)) negD := fun pd F H x d v fh rx e Q q => by
  cases x <;> first | (cases e; done) | skip
  rename_i i
  cases e
  exact ⟨i, rx.int, q _ F H (.refl fh) (by simp [Rep])⟩
/-! sums of ints, tuples, lists -/
def rAddAll (K : PySem.W.Frag) : R2 := fun x y H Q => (rI0 fun i j => .int (i + j)) x y H Q ∨ rCatA K x y H Q ∨ rCat x y H Q
theorem op_addAll (h : X.K = K) : OpR X (binaryOp .Add) (rAddAll K) := by subst h; exact op_add.or (op_catA.or op_cat)
theorem v_add : V2 K (rAddAll K) addD := fun pd F H x y d v w fh rx ry e Q q => by
  cases x <;> cases y <;> first | (cases e; done) | skip
  · rename_i i j
    cases e
    exact .inl ⟨i, j, rx.int, ry.int, q _ F H (.refl fh) (by simp [Rep])⟩
  · rename_i as bs
    simp only [addD] at e
    split at e
    · rename_i hl
      cases e
      obtain ⟨a, xs, rfl, t1, t2, l1, r1⟩ := rx.tup fh
      obtain ⟨b, ys, rfl, u1, u2, l2, r2⟩ := ry.tup fh
      refine .inr (.inl ⟨a, b, xs, ys, rfl, rfl, t1, u1, by rw [r1.length, r2.length]; exact hl, fun z => ?_, fun _ z => ?_, fun _ _ p n => ?_⟩)
      · subst z
        have : as = [] := List.eq_nil_of_length_eq_zero r1.length.symm
        subst this
        exact q _ F H (.refl fh) (by simp only [Rep]; exact ⟨b, ys, rfl, u2, l2, r2⟩)
      · subst z
        have : bs = [] := List.eq_nil_of_length_eq_zero r2.length.symm
        subst this
        rw [List.append_nil] at q
        exact q _ F H (.refl fh) (by simp only [Rep]; exact ⟨a, xs, rfl, t2, l1, r1⟩)
      · have x2 := Ext.new (o := .tup (xs ++ ys)) fh n
        exact q _ _ _ x2 (by simp only [Rep]; exact ⟨p, _, rfl, .of upd_same, by rw [List.length_append]; exact hl, (r1.append r2).mono x2.ff⟩)
    · cases e
  · rename_i as bs
    simp only [addD] at e
    split at e
    · rename_i hl
      cases e
      obtain ⟨a, xs, rfl, t1, l1, r1⟩ := rx.lst fh
      obtain ⟨b, ys, rfl, u1, l2, r2⟩ := ry.lst fh
      refine .inr (.inr ⟨a, b, xs, ys, rfl, rfl, t1, u1, by rw [r1.length, r2.length]; exact hl, fun p n => ?_⟩)
      have x2 := Ext.new (o := .lst (xs ++ ys)) fh n
      exact q _ _ _ x2 (by simp only [Rep]; exact ⟨p, _, rfl, upd_same, by rw [List.length_append]; exact hl, (r1.append r2).mono x2.ff⟩)
    · cases e
theorem nF_of {F H : Hp} {p : Addr} (fh : Same F H) (n : H p = none) : F p = none := fh.free n
theorem v_catO : V2O K rCat catO := fun pd F H x y d v w fh rx ry e Q q => by
  cases x <;> cases y <;> first | (cases e; done) | skip
  rename_i as bs
  simp only [catO] at e
  split at e
  · rename_i hl
    cases e
    obtain ⟨a, xs, rfl, t1, l1, r1⟩ := rx.lst fh
    obtain ⟨b, ys, rfl, u1, l2, r2⟩ := ry.lst fh
    refine ⟨a, b, xs, ys, rfl, rfl, t1, u1, by rw [r1.length, r2.length]; exact hl, fun p n => ?_⟩
    exact q p _ F _ (Ext.own fh n) n (nF_of fh n) upd_same (by rw [List.length_append]; exact hl) (r1.append r2)
  · cases e
theorem v_repO : V2O K rRep repO := fun pd F H x y d v w fh rx ry e Q q => by
  cases x <;> cases y <;> first | (cases e; done) | skip
  rename_i as k
  simp only [repO] at e
  split at e
  · rename_i hl
    cases e
    obtain ⟨a, xs, rfl, t1, l1, r1⟩ := rx.lst fh
    refine ⟨a, k, xs, rfl, ry.int, t1, hl.1, hl.2.1, by rw [r1.length]; exact hl.2.2, fun p n => ?_⟩
    refine q p _ F _ (Ext.own fh n) n (nF_of fh n) upd_same ?_ (r1.rep _)
    have : (List.replicate k.toNat as).flatten.length = as.length * k.toNat := by
      rw [List.length_flatten, List.map_replicate, List.sum_replicate_nat, Nat.mul_comm]
    rw [this]; exact hl.2.2
  · cases e
/-! subscripts -/
theorem atI_rep {pd : Option PD} {F : Hp} {ds : List D} {xs : List V} {k : Int} {d : D} (r : RepL K pd F ds xs) (e : atI ds k = some d) : ∃ x, atI xs k = some x ∧ Rep K pd F d x := by
  unfold atI at e ⊢
  rw [r.length]
  cases h : ixN ds.length k with
  | none => rw [h] at e; cases e
  | some j =>
    rw [h] at e
    exact r.get e
def rIxS2 (K : PySem.W.Frag) : R2 := fun x y H Q => rIxL K x y H Q ∨ rIxT K x y H Q
theorem ix_both (h : X.K = K) : IxR X (rIxS2 K) := by subst h; exact ix_list.or ix_tup
theorem v_ix : V2 K (rIxS2 K) ixD := fun pd F H x y d v w fh rx ry e Q q => by
  cases x <;> cases y <;> first | (cases e; done) | skip
  · rename_i as k
    obtain ⟨a, xs, rfl, t1, t2, l1, r1⟩ := rx.tup fh
    obtain ⟨z, h1, h2⟩ := atI_rep r1 e
    exact .inr ⟨a, xs, k, z, rfl, ry.int, t1, h1, q _ F H (.refl fh) h2⟩
  · rename_i as k
    obtain ⟨a, xs, rfl, t1, l1, r1⟩ := rx.lst fh
    obtain ⟨z, h1, h2⟩ := atI_rep r1 e
    exact .inl ⟨a, xs, k, z, rfl, ry.int, .of t1, h1, q _ F H (.refl fh) h2⟩
/-! equality -/
theorem v_eq : V2 K (rEqD K) eqD := fun pd F H x y d v w fh rx ry e Q q => by
  unfold eqD at e
  split at e
  · rename_i h
    cases e
    obtain ⟨h1, h2⟩ := h
    unfold cmpOk at h1 h2
    rw [Bool.and_eq_true] at h1 h2
    exact ⟨_, _, rx.dp fh h1.1, ry.dp fh h2.1, h1.2, h2.2, q _ F H (.refl fh) (by simp [Rep])⟩
  · cases e
theorem v_ne : V2 K (rNeD K) neD := fun pd F H x y d v w fh rx ry e Q q => by
  unfold neD at e
  split at e
  · rename_i h
    cases e
    obtain ⟨h1, h2⟩ := h
    unfold cmpOk at h1 h2
    rw [Bool.and_eq_true] at h1 h2
    exact ⟨_, _, rx.dp fh h1.1, ry.dp fh h2.1, h1.2, h2.2, q _ F H (.refl fh) (by simp [Rep])⟩
  · cases e
theorem non_iff {pd : Option PD} {F H : Hp} {x : D} {v : V} (h : RepB K pd F H x v) : decide (v = .non) = isNonD x := by
  cases x with
  | non => rw [h.non]; rfl
  | bl b => rw [h.bl]; rfl
  | int b => rw [h.int]; rfl
  | str b => rw [h.str]; rfl
  | rng =>
    rcases h with h | ⟨p, ds, xs, h1, _⟩
    · simp only [Rep] at h; obtain ⟨a, rfl, _⟩ := h; rfl
    · cases h1
  | tup ds =>
    rcases h with h | ⟨p, ds, xs, h1, _⟩
    · simp only [Rep] at h; obtain ⟨a, xs, rfl, _⟩ := h; rfl
    · cases h1
  | lst ds =>
    rcases h with h | ⟨p, ds, xs, h1, h2, _⟩
    · simp only [Rep] at h; obtain ⟨a, xs, rfl, _⟩ := h; rfl
    · subst h2; rfl
theorem v_is : V2 K (fun x y H Q => y = .non ∧ Q (.bl (decide (x = .non))) H) isD := fun pd F H x y d v w fh rx ry e Q q => by
  cases y <;> first | (cases e; done) | skip
  cases e
  exact ⟨ry.non, by rw [non_iff rx]; exact q _ F H (.refl fh) (by simp [Rep])⟩
theorem v_isNot : V2 K (fun x y H Q => y = .non ∧ Q (.bl (!decide (x = .non))) H) isNotD := fun pd F H x y d v w fh rx ry e Q q => by
  cases y <;> first | (cases e; done) | skip
  cases e
  exact ⟨ry.non, by rw [non_iff rx]; exact q _ F H (.refl fh) (by simp [Rep])⟩
/-! calls -/
theorem RepBL.one {pd : Option PD} {F H : Hp} {d : D} {vs : List V} (h : RepBL K pd F H [d] vs) : ∃ v, vs = [v] ∧ RepB K pd F H d v := by
  cases h with
  | cons a b => cases b; exact ⟨_, rfl, a⟩
theorem RepBL.two {pd : Option PD} {F H : Hp} {d e : D} {vs : List V} (h : RepBL K pd F H [d, e] vs) : ∃ v w, vs = [v, w] ∧ RepB K pd F H d v ∧ RepB K pd F H e w := by
  cases h with
  | cons a b => obtain ⟨w, rfl, r⟩ := b.one; exact ⟨_, _, rfl, a, r⟩
def rLen (K : PySem.W.Frag) : List V → Hp → VK → Prop := fun xs H Q => ∃ p ys, xs = [.ref p] ∧ (SqL K H p ys ∨ SqT K H p ys) ∧ Q (.int ys.length) H
theorem c_len (h : X.K = K) : CallR X (.builtin "len") (rLen K) := by subst h; exact call_len_seq
theorem v_len : VL K (rLen K) lenD := fun pd F H xs d vs fh r e Q q => by
  match xs, e with
  | [.lst a], e =>
    cases e
    obtain ⟨v, rfl, rb⟩ := r.one
    obtain ⟨p, ys, rfl, t, l, rl⟩ := rb.lst fh
    exact ⟨p, ys, rfl, .inl (.of t), by rw [rl.length]; exact q _ F H (.refl fh) (by simp [Rep])⟩
  | [.tup a], e =>
    cases e
    obtain ⟨v, rfl, rb⟩ := r.one
    obtain ⟨p, ys, rfl, t, _, l, rl⟩ := rb.tup fh
    exact ⟨p, ys, rfl, .inr t, by rw [rl.length]; exact q _ F H (.refl fh) (by simp [Rep])⟩
def rTupOf (K : PySem.W.Frag) : List V → Hp → VK → Prop := fun xs H Q => ∃ p ys, xs = [.ref p] ∧ ((SqL K H p ys ∧ ∀ l, H l = none → Q (.ref l) (upd H l (.tup ys))) ∨ (SqT K H p ys ∧ Q (.ref p) H))
theorem c_tup (h : X.K = K) : CallR X (.type "tuple") (rTupOf K) := by subst h; exact call_tuple_of
theorem v_tup : VL K (rTupOf K) tupD := fun pd F H xs d vs fh r e Q q => by
  match xs, e with
  | [.lst a], e =>
    cases e
    obtain ⟨v, rfl, rb⟩ := r.one
    obtain ⟨p, ys, rfl, t, l, rl⟩ := rb.lst fh
    refine ⟨p, ys, rfl, .inl ⟨.of t, fun b n => ?_⟩⟩
    have x2 := Ext.new (o := .tup ys) fh n
    exact q _ _ _ x2 (by simp only [Rep]; exact ⟨b, _, rfl, .of upd_same, l, rl.mono x2.ff⟩)
  | [.tup a], e =>
    cases e
    obtain ⟨v, rfl, rb⟩ := r.one
    obtain ⟨p, ys, rfl, t, t2, l, rl⟩ := rb.tup fh
    exact ⟨p, ys, rfl, .inr ⟨t, q _ F H (.refl fh) (by simp only [Rep]; exact ⟨p, _, rfl, t2, l, rl⟩)⟩⟩
def rListOf (K : PySem.W.Frag) : List V → Hp → VK → Prop := fun xs H Q => ∃ p ys, xs = [.ref p] ∧ (SqL K H p ys ∨ SqT K H p ys) ∧ ∀ l, H l = none → Q (.ref l) (upd H l (.lst ys))
theorem c_list (h : X.K = K) : CallR X (.type "list") (rListOf K) := by subst h; exact call_list_of
theorem v_list : VLO K (rListOf K) listO := fun pd F H xs d vs fh r e Q q => by
  match xs, e with
  | [.lst a], e =>
    cases e
    obtain ⟨v, rfl, rb⟩ := r.one
    obtain ⟨p, ys, rfl, t, l, rl⟩ := rb.lst fh
    exact ⟨p, ys, rfl, .inl (.of t), fun b n => q b _ F _ (Ext.own fh n) n (nF_of fh n) upd_same l rl⟩
  | [.tup a], e =>
    cases e
    obtain ⟨v, rfl, rb⟩ := r.one
    obtain ⟨p, ys, rfl, t, t2, l, rl⟩ := rb.tup fh
    exact ⟨p, ys, rfl, .inr t, fun b n => q b _ F _ (Ext.own fh n) n (nF_of fh n) upd_same l rl⟩
theorem v_abs : VL K (fun xs H Q => ∃ i, xs = [.int i] ∧ Q (.int (if i < 0 then -i else i)) H) absD := fun pd F H xs d vs fh r e Q q => by
  match xs, e with
  | [.int a], e =>
    cases e
    obtain ⟨v, rfl, rb⟩ := r.one
    exact ⟨a, by rw [rb.int], q _ F H (.refl fh) (by simp [Rep])⟩
theorem v_int : VL K (fun xs H Q => (∃ i, xs = [.int i] ∧ Q (.int i) H) ∨ ∃ k, xs = [.bl k] ∧ Q (.int (if k then 1 else 0)) H) intD := fun pd F H xs d vs fh r e Q q => by
  match xs, e with
  | [.int a], e =>
    cases e
    obtain ⟨v, rfl, rb⟩ := r.one
    exact .inl ⟨a, by rw [rb.int], q _ F H (.refl fh) (by simp [Rep])⟩
  | [.bl a], e =>
    cases e
    obtain ⟨v, rfl, rb⟩ := r.one
    exact .inr ⟨a, by rw [rb.bl], q _ F H (.refl fh) (by simp [Rep])⟩
theorem v_max2 : VL K (fun xs H Q => ∃ i j, xs = [.int i, .int j] ∧ Q (.int (if j > i then j else i)) H) max2D := fun pd F H xs d vs fh r e Q q => by
  match xs, e with
  | [.int a, .int b], e =>
    cases e
    obtain ⟨v, w, rfl, r1, r2⟩ := r.two
    exact ⟨a, b, by rw [r1.int, r2.int], q _ F H (.refl fh) (by simp [Rep])⟩
theorem v_min2 : VL K (fun xs H Q => ∃ i j, xs = [.int i, .int j] ∧ Q (.int (if j < i then j else i)) H) min2D := fun pd F H xs d vs fh r e Q q => by
  match xs, e with
  | [.int a, .int b], e =>
    cases e
    obtain ⟨v, w, rfl, r1, r2⟩ := r.two
    exact ⟨a, b, by rw [r1.int, r2.int], q _ F H (.refl fh) (by simp [Rep])⟩
end

/-! ### subscripts and slices as rules -/
def xSl (g : D → Option Int → Option Int → Option D) (a : EF) (lo hi : Option EF) : EF := fun ρ => Mb (a ρ) fun x =>
  Mb (match lo with | none => Mp none | some f => Mb (f ρ) fun d => match d with | .int i => Mp (some i) | _ => Mf) fun l =>
  Mb (match hi with | none => Mp none | some f => Mb (f ρ) fun d => match d with | .int i => Mp (some i) | _ => Mf) fun u => Mo (g x l u)
def cutD {α : Type} (xs : List α) (lo hi : Option Int) : List α := (xs.drop (HT.sIx xs.length 0 lo)).take (HT.sIx xs.length xs.length hi - HT.sIx xs.length 0 lo)
def slD : D → Option Int → Option Int → Option D
  | .lst a, l, u => some (.lst (cutD a l u))
  | .tup a, l, u => some (.tup (cutD a l u))
  | _, _, _ => none
section
variable {ι : Type} {X : ι → Cx} {P : Program} {w : World} {K : PySem.W.Frag} {mg : Str → Option Value} {base : Heap} {N : List Str} {lv : Nat} {pos : Pos} {a b c e : Expr} {es : List Expr} {f fa fb fc : EF} {g : AF}
theorem cIx {r : R2} {gg : D → D → Option D} (hr : ∀ i, IxR (X i) r) (hv : V2 K r gg) (ha : CB X K a fa) (hb : CB X K b fb) (hs : PlainIx b) : CE X K (.Subscript a b pos) (x2 gg fa fb) :=
  let ⟨ta, a1, a2⟩ := ha; let ⟨tb, b1, b2⟩ := hb; ⟨_, fun i => pe_ix (hr i) (a1 i) (b1 i) hs, semE_op2 hv a2 b2⟩
def SemP (K : PySem.W.Frag) (t : TO) (f : Option EF) : Prop := ∀ (pd : Option PD) (F0 H0 F H : Hp) (ρ : Rho) (σ : L2.St) (s : DS) (o : Option Int) (s' : DS), Ok K pd F0 H0 F H ρ σ s →
  (match f with | none => (Mp none : M (Option Int)) | some f => Mb (f ρ) fun d => match d with | .int i => Mp (some i) | _ => Mf) s = some (o, s') →
  ∀ Q : Option Int → Hp → Prop, (∀ F' H', Ext pd F H F' H' → DOk K pd F' H' s' → Q o H') → t σ H Q
def CP (X : ι → Cx) (K : PySem.W.Frag) (e : Option Expr) (f : Option EF) : Prop := ∃ t, (∀ i, PO (X i) e t) ∧ SemP K t f
theorem cpNone : CP X K none none := ⟨_, fun _ => po_none, fun pd F0 H0 F H ρ σ s d s' o e Q q => by obtain ⟨rfl, rfl⟩ := Mp_eq e; exact q F H (.refl o.fh) o.dok⟩
theorem cpSome (h : CE X K e f) : CP X K (some e) (some f) := by
  obtain ⟨t, h1, h2⟩ := h
  refine ⟨_, fun i => po_some (h1 i), fun pd F0 H0 F H ρ σ s d s' o e Q q => ?_⟩
  obtain ⟨x, s1, e1, e⟩ := Mb_eq e
  refine h2 pd F0 H0 F H ρ σ s x s1 o e1 _ fun v F1 H1 x1 d1 r1 => ?_
  cases x with
  | int i =>
    obtain ⟨rfl, rfl⟩ := Mp_eq e
    simp only [Rep] at r1
    exact ⟨i, r1, q F1 H1 x1 d1⟩
  | _ => cases e
def V3 (K : PySem.W.Frag) (r : V → Option Int → Option Int → Hp → VK → Prop) (g : D → Option Int → Option Int → Option D) : Prop := ∀ (pd : Option PD) (F H : Hp) (x d : D) (l u : Option Int) (v : V), Same F H → RepB K pd F H x v → g x l u = some d →
  ∀ Q : VK, (∀ u F' H', Ext none F H F' H' → Rep K pd F' d u → Q u H') → r v l u H Q
theorem cSlice {r : V → Option Int → Option Int → Hp → VK → Prop} {gg : D → Option Int → Option Int → Option D} {lo hi : Option Expr} {fl fu : Option EF} {p2 : Pos} (hr : ∀ i, SlR (X i) r) (hv : V3 K r gg) (ha : CB X K a fa) (hl : CP X K lo fl) (hu : CP X K hi fu) :
    CE X K (.Subscript a (.Slice lo hi none p2) pos) (xSl gg fa fl fu) := by
  obtain ⟨ta, a1, a2⟩ := ha
  obtain ⟨tl, l1, l2⟩ := hl
  obtain ⟨tu, u1, u2⟩ := hu
  refine ⟨_, fun i => pe_slice (hr i) (a1 i) (l1 i) (u1 i), fun pd F0 H0 F H ρ σ s d s' o e Q q => ?_⟩
  obtain ⟨x, s1, e1, e⟩ := Mb_eq e
  obtain ⟨l, s2, e2, e⟩ := Mb_eq e
  obtain ⟨u, s3, e3, e⟩ := Mb_eq e
  obtain ⟨e4, rfl⟩ := Mo_eq e
  refine a2 pd F0 H0 F H ρ σ s x s1 o e1 _ fun v F1 H1 x1 d1 r1 => ?_
  have o1 := o.step x1 d1
  refine l2 pd F0 H0 F1 H1 ρ σ s1 l s2 o1 e2 _ fun F2 H2 x2 d2 => ?_
  have o2 := o1.step x2 d2
  refine u2 pd F0 H0 F2 H2 ρ σ s2 u _ o2 e3 _ fun F3 H3 x3 d3 => ?_
  exact hv pd F3 H3 x d l u v (o2.step x3 d3).fh ((r1.mono x2).mono x3) e4 Q fun z F4 H4 x4 r4 => q z F4 H4 (x1.trans (x2.trans (x3.trans x4.lift))) (d3.grow x4) r4
end
section
variable {K : PySem.W.Frag} {X : Cx}
def rSlAll (K : PySem.W.Frag) : V → Option Int → Option Int → Hp → VK → Prop := fun x l u H Q => rSlL K x l u H Q ∨ rSlA K x l u H Q
theorem sl_all (h : X.K = K) : SlR X (rSlAll K) := by subst h; exact sl_list.or sl_tupA
theorem cut_rep {pd : Option PD} {F : Hp} {ds : List D} {xs : List V} (r : RepL K pd F ds xs) (l u : Option Int) : RepL K pd F (cutD ds l u) (cutV xs l u) := by
  unfold cutD cutV
  rw [r.length]
  exact (r.drop _).take _
theorem cutD_le {α : Type} (ds : List α) (l u : Option Int) : (cutD ds l u).length ≤ ds.length := by
  unfold cutD
  rw [List.length_take, List.length_drop]
  omega
theorem v_sl : V3 K (rSlAll K) slD := fun pd F H x d l u v fh rx e Q q => by
  cases x <;> first | (cases e; done) | skip
  · rename_i as
    cases e
    obtain ⟨a, xs, rfl, t1, t2, l1, r1⟩ := rx.tup fh
    have hc := cutD_le as l u
    refine .inr ⟨a, xs, rfl, t1, fun w => ?_, fun w p n => ?_⟩
    · have : cutD as l u = as := by
        unfold cutD
        rw [← r1.length, w.1, w.2]
        simp [r1.length]
      rw [this] at q
      exact q _ F H (.refl fh) (by simp only [Rep]; exact ⟨a, xs, rfl, t2, l1, r1⟩)
    · have x2 := Ext.new (o := .tup (cutV xs l u)) fh n
      exact q _ _ _ x2 (by simp only [Rep]; exact ⟨p, _, rfl, .of upd_same, Nat.le_trans hc l1, (cut_rep r1 l u).mono x2.ff⟩)
  · rename_i as
    cases e
    obtain ⟨a, xs, rfl, t1, l1, r1⟩ := rx.lst fh
    have hc := cutD_le as l u
    refine .inl ⟨a, xs, rfl, .of t1, fun p n => ?_⟩
    have x2 := Ext.new (o := .lst (cutV xs l u)) fh n
    exact q _ _ _ x2 (by simp only [Rep]; exact ⟨p, _, rfl, upd_same, Nat.le_trans hc l1, (cut_rep r1 l u).mono x2.ff⟩)
end
end Pu
namespace Pu
open PySem PySem.Spec PyProof.Rows L2

/-! ### what is walked -/
def WalkS (K : PySem.W.Frag) (pd : Option PD) (J : It) (F : Hp) (ds : List D) : Prop := ds.length ≤ SZ ∧ ∀ (i : Nat) (F1 H1 : Hp), Same F F1 → Same F1 H1 →
  (∀ d, ds[i]? = some d → J.go i H1 ∧ ∀ x H2, J.yld i H1 x H2 → ∃ F2, Ext none F1 H1 F2 H2 ∧ Rep K pd F2 d x) ∧ (i = ds.length → J.stop i H1)
def WalkW (K : PySem.W.Frag) (pd : Option PD) (J : It) (F H : Hp) (ds : List D) : Prop := ds.length ≤ SZ ∧ ∀ (i : Nat) (F1 H1 : Hp), Ext pd F H F1 H1 →
  (∀ d, ds[i]? = some d → J.go i H1 ∧ ∀ x H2, J.yld i H1 x H2 → ∃ F2, Ext none F1 H1 F2 H2 ∧ Rep K pd F2 d x) ∧ (i = ds.length → J.stop i H1)
theorem WalkS.w {K : PySem.W.Frag} {pd : Option PD} {J : It} {F H : Hp} {ds : List D} (h : WalkS K pd J F ds) : WalkW K pd J F H ds := ⟨h.1, fun i F1 H1 x => h.2 i F1 H1 x.ff x.fh⟩
def SemI (K : PySem.W.Frag) (t : TI) (f : AF) : Prop := ∀ (pd : Option PD) (F0 H0 F H : Hp) (ρ : Rho) (σ : L2.St) (s : DS) (ds : List D) (s' : DS), Ok K pd F0 H0 F H ρ σ s → f ρ s = some (ds, s') →
  ∀ R : It → Hp → Prop, (∀ J F' H', Ext pd F H F' H' → DOk K pd F' H' s' → WalkS K pd J F' ds → R J H') → t σ H R
def SemIW (K : PySem.W.Frag) (t : TI) (f : AF) : Prop := ∀ (pd : Option PD) (F0 H0 F H : Hp) (ρ : Rho) (σ : L2.St) (s : DS) (ds : List D) (s' : DS), Ok K pd F0 H0 F H ρ σ s → f ρ s = some (ds, s') →
  ∀ R : It → Hp → Prop, (∀ J F' H', Ext pd F H F' H' → DOk K pd F' H' s' → WalkW K pd J F' H' ds → R J H') → t σ H R
section
variable {ι : Type}
def CI (X : ι → Cx) (K : PySem.W.Frag) (tg e : Expr) (f : AF) : Prop := ∃ t, (∀ i, PI (X i) tg e t) ∧ SemI K t f
def CIW (X : ι → Cx) (K : PySem.W.Frag) (tg e : Expr) (f : AF) : Prop := ∃ t, (∀ i, PI (X i) tg e t) ∧ SemIW K t f
theorem CI.w {X : ι → Cx} {K : PySem.W.Frag} {tg e : Expr} {f : AF} (h : CI X K tg e f) : CIW X K tg e f :=
  let ⟨t, h1, h2⟩ := h; ⟨t, h1, fun pd F0 H0 F H ρ σ s d s' o e R q => h2 pd F0 H0 F H ρ σ s d s' o e R fun J F' H' x y z => q J F' H' x y z.w⟩
end
def seqD : D → Option (List D)
  | .lst a => some a
  | .tup a => some a
  | _ => none
def iSq (f : EF) : AF := fun ρ => Mb (f ρ) fun d => Mo (seqD d)
def rangeL (lo : Int) (n : Nat) : List D := (List.range n).map fun i => .int (lo + (i : Nat))
def rng1D : List D → Option (List D)
  | [.int j] => if j ≤ 16777216 ∧ -(2 ^ 62) ≤ j then some (rangeL 0 j.toNat) else none
  | _ => none
def rng2D : List D → Option (List D)
  | [.int i, .int j] => if -(2 ^ 61) ≤ i ∧ i < 2 ^ 61 ∧ -(2 ^ 61) ≤ j ∧ j < 2 ^ 61 ∧ j - i ≤ 16777216 then some (rangeL i (j - i).toNat) else none
  | _ => none
def iRg (gg : List D → Option (List D)) (f : AF) : AF := fun ρ => Mb (f ρ) fun xs => Mo (gg xs)

section
variable {K : PySem.W.Frag} {pd : Option PD}
theorem walkS_list {F : Hp} {a : Addr} {xs : List V} {ds : List D} (h : F a = some (.lst xs)) (hl : ds.length ≤ SZ) (r : RepL K pd F ds xs) : WalkS K pd (Itl K a) F ds := by
  refine ⟨hl, fun i F1 H1 f1 f2 => ⟨fun d hd => ?_, fun e => ⟨xs, .of (f2 _ _ (f1 _ _ h)), by rw [r.length, e]; exact Nat.le_refl _⟩⟩⟩
  obtain ⟨x, hx, rx⟩ := r.get hd
  refine ⟨⟨xs, x, .of (f2 _ _ (f1 _ _ h)), hx⟩, fun y H2 ⟨e1, e2⟩ => ?_⟩
  subst e1
  have := e2 xs (.of (f2 _ _ (f1 _ _ h)))
  rw [hx] at this; cases this
  exact ⟨F1, .refl f2, rx.mono f1⟩
theorem walkS_tup {F : Hp} {a : Addr} {xs : List V} {ds : List D} (h : SqT K F a xs) (hl : ds.length ≤ SZ) (r : RepL K pd F ds xs) : WalkS K pd (Itt K a) F ds := by
  refine ⟨hl, fun i F1 H1 f1 f2 => ⟨fun d hd => ?_, fun e => ⟨xs, sqT_mono f2 (sqT_mono f1 h), by rw [r.length, e]; exact Nat.le_refl _⟩⟩⟩
  obtain ⟨x, hx, rx⟩ := r.get hd
  refine ⟨⟨xs, x, sqT_mono f2 (sqT_mono f1 h), hx⟩, fun y H2 ⟨e1, e2⟩ => ?_⟩
  subst e1
  have := e2 xs (sqT_mono f2 (sqT_mono f1 h))
  rw [hx] at this; cases this
  exact ⟨F1, .refl f2, rx.mono f1⟩
theorem walkW_own {F H : Hp} {a : Addr} {xs : List V} {ds : List D} (h : H a = some (.lst xs)) (hp : some a ≠ pp pd) (hl : ds.length ≤ SZ) (r : RepL K pd F ds xs) : WalkW K pd (Itl K a) F H ds := by
  refine ⟨hl, fun i F1 H1 x => ⟨fun d hd => ?_, fun e => ⟨xs, .of (x.hh _ _ h hp), by rw [r.length, e]; exact Nat.le_refl _⟩⟩⟩
  obtain ⟨y, hx, rx⟩ := r.get hd
  refine ⟨⟨xs, y, .of (x.hh _ _ h hp), hx⟩, fun z H2 ⟨e1, e2⟩ => ?_⟩
  subst e1
  have := e2 xs (.of (x.hh _ _ h hp))
  rw [hx] at this; cases this
  exact ⟨F1, .refl x.fh, rx.mono x.ff⟩
theorem walkS_range {F : Hp} {lo : Int} {n : Nat} (hn : n ≤ SZ) : WalkS K pd (Itr lo n) F (rangeL lo n) := by
  have hl : (rangeL lo n).length = n := by simp [rangeL]
  refine ⟨by rw [hl]; exact hn, fun i F1 H1 f1 f2 => ⟨fun d hd => ?_, fun e => by rw [hl] at e; exact Nat.le_of_eq e.symm⟩⟩
  have hi : i < n := by have := (List.getElem?_eq_some_iff.mp hd).1; rw [hl] at this; exact this
  refine ⟨hi, fun y H2 ⟨e1, e2⟩ => ?_⟩
  subst e1
  refine ⟨F1, .refl f2, ?_⟩
  have : d = .int (lo + (i : Nat)) := by
    unfold rangeL at hd
    rw [List.getElem?_map, List.getElem?_range hi] at hd
    exact (Option.some.inj hd).symm
  subst this
  simp only [Rep]; exact e2
end
/-- a list or a tuple, as it comes -/
def iSeq (K : PySem.W.Frag) (tl : TE) : TI := fun σ H R => tl σ H fun x H1 => ∃ a, x = .ref a ∧ (((∃ xs, SqL K H1 a xs) ∧ R (Itl K a) H1) ∨ ((∃ xs, SqT K H1 a xs) ∧ R (Itt K a) H1))
theorem pi_seq {X : Cx} {tg l : Expr} {tl : TE} (hl : PE X l tl) : PI X tg l (iSeq X.K tl) := by
  refine ⟨fun pins s σ H R I h => thn (hl.run pins s σ H _ I h) fun v s1 ⟨x, H1, I1, r1, a, e, q⟩ => ?_⟩
  subst e
  cases r1
  have fp : ∀ {b : Addr}, b ∈ [s1.heap.objs.size] → FpOk X pins H1 b := fun {b} hb => by
    have e : b = s1.heap.objs.size := by simpa using hb
    subst e
    exact I1.fpOk (Nat.le_refl _) (I1.hok.fresh (Nat.le_refl _))
  rcases q with ⟨⟨xs, hq⟩, q⟩ | ⟨⟨xs, hq⟩, q⟩
  · obtain ⟨its, rv, p, hz⟩ := I1.list hq
    exact wpAny_pyIter_list p.isList ⟨s1.heap.objs.size, [s1.heap.objs.size], _, _, H1, rfl, I1.kept (t' := s1.toks) fun b o e => Heap.get?_push_of_some _ e, turn_list a _, ⟨_, Heap.get?_push_size _ rfl, rfl, rfl⟩, fun b hb => fp hb, q⟩
  · obtain ⟨its, rv, p, hz⟩ := I1.tuple hq
    exact wpAny_pyIter_tuple (show s1.heap.IsTuple a its.toArray from p) ⟨s1.heap.objs.size, [s1.heap.objs.size], _, _, H1, rfl, I1.kept (t' := s1.toks) fun b o e => Heap.get?_push_of_some _ e, turn_tuple a _, ⟨_, Heap.get?_push_size _ rfl, rfl, rfl⟩, fun b hb => fp hb, q⟩
section
variable {ι : Type} {X : ι → Cx} {P : Program} {w : World} {K : PySem.W.Frag} {mg : Str → Option Value} {base : Heap} {N : List Str} {lv : Nat} {pos : Pos} {tg a b c e : Expr} {es : List Expr} {f fa fb fc : EF} {g : AF}
theorem iSeqE (C : Fam X P w K mg base N lv) (h : CE X K e f) : CI X K tg e (iSq f) := by
  obtain ⟨t, h1, h2⟩ := h
  refine ⟨_, fun i => by have := pi_seq (tg := tg) (h1 i); rw [C.k i] at this; exact this, fun pd F0 H0 F H ρ σ s d s' o e R q => ?_⟩
  obtain ⟨x, s1, e1, e⟩ := Mb_eq e
  obtain ⟨e2, rfl⟩ := Mo_eq e
  refine h2 pd F0 H0 F H ρ σ s x s1 o e1 _ fun v F1 H1 x1 d1 r1 => ?_
  have fh := (o.step x1 d1).fh
  cases x <;> first | (cases e2; done) | skip
  · cases e2
    simp only [Rep] at r1
    obtain ⟨a, xs, rfl, t1, hl, r⟩ := r1
    exact ⟨a, rfl, .inr ⟨⟨xs, sqT_mono fh t1⟩, q _ F1 H1 x1 d1 (walkS_tup t1 hl r)⟩⟩
  · cases e2
    simp only [Rep] at r1
    obtain ⟨a, xs, rfl, t1, hl, r⟩ := r1
    exact ⟨a, rfl, .inl ⟨⟨xs, .of (fh _ _ t1)⟩, q _ F1 H1 x1 d1 (walkS_list t1 hl r)⟩⟩
theorem iSeqB (C : Fam X P w K mg base N lv) (h : CB X K e f) : CIW X K tg e (iSq f) := by
  obtain ⟨t, h1, h2⟩ := h
  refine ⟨_, fun i => by have := pi_seq (tg := tg) (h1 i); rw [C.k i] at this; exact this, fun pd F0 H0 F H ρ σ s d s' o e R q => ?_⟩
  obtain ⟨x, s1, e1, e⟩ := Mb_eq e
  obtain ⟨e2, rfl⟩ := Mo_eq e
  refine h2 pd F0 H0 F H ρ σ s x s1 o e1 _ fun v F1 H1 x1 d1 r1 => ?_
  have fh := (o.step x1 d1).fh
  rcases r1 with r1 | ⟨p, es, xs, h1, h2, h3, h4, h5, h7, h6⟩
  · cases x <;> first | (cases e2; done) | skip
    · cases e2
      simp only [Rep] at r1
      obtain ⟨a, xs, rfl, t1, hl, r⟩ := r1
      exact ⟨a, rfl, .inr ⟨⟨xs, sqT_mono fh t1⟩, q _ F1 H1 x1 d1 (walkS_tup t1 hl r).w⟩⟩
    · cases e2
      simp only [Rep] at r1
      obtain ⟨a, xs, rfl, t1, hl, r⟩ := r1
      exact ⟨a, rfl, .inl ⟨⟨xs, .of (fh _ _ t1)⟩, q _ F1 H1 x1 d1 (walkS_list t1 hl r).w⟩⟩
  · subst h1; subst h2
    cases e2
    exact ⟨p, rfl, .inl ⟨⟨xs, .of h3⟩, q _ F1 H1 x1 d1 (walkW_own h3 h4 h7 h6)⟩⟩
theorem iRng1E (C : Fam X P w K mg base N lv) {p : Pos} (hm : mg "range" = none) (h : CA X K [a] g) (hg : ∀ i, Gl (X i) "range" := by intro _; rfl) (hs : ∀ i, starEach [a] (X i).env = [(false, eval a (X i).env)] := by intro _; rfl) :
    CI X K tg (.Call (.Name "range" p) [a] [] pos) (iRg rng1D g) := by
  obtain ⟨t, h1, h2⟩ := h
  refine ⟨_, fun i => pi_range1 (hg i) (by rw [C.m i]; exact hm) (h1 i) (hs i), fun pd F0 H0 F H ρ σ s d s' o e R q => ?_⟩
  obtain ⟨xs, s1, e1, e⟩ := Mb_eq e
  obtain ⟨e2, rfl⟩ := Mo_eq e
  refine h2 pd F0 H0 F H ρ σ s xs s1 o e1 _ fun vs F1 H1 x1 d1 r1 => ?_
  unfold rng1D at e2
  split at e2
  · rename_i j
    split at e2
    · rename_i hj
      cases e2
      obtain ⟨y, ys, rfl, h3, h4⟩ := r1.cases
      have := h4.cases0; subst this
      simp only [Rep] at h3
      subst h3
      refine ⟨j, rfl, hj.2, ?_, q _ F1 H1 x1 d1 (walkS_range ?_)⟩
      · have := hj.1; omega
      · show j.toNat ≤ 2 ^ 24
        have := hj.1; omega
    · cases e2
  · cases e2
theorem iRng2E (C : Fam X P w K mg base N lv) {p : Pos} (hm : mg "range" = none) (h : CA X K [a, b] g) (hg : ∀ i, Gl (X i) "range" := by intro _; rfl)
    (hs : ∀ i, starEach [a, b] (X i).env = [(false, eval a (X i).env), (false, eval b (X i).env)] := by intro _; rfl) (hs2 : ∀ i, starEach [b] (X i).env = [(false, eval b (X i).env)] := by intro _; rfl) :
    CI X K tg (.Call (.Name "range" p) [a, b] [] pos) (iRg rng2D g) := by
  obtain ⟨t, h1, h2⟩ := h
  refine ⟨_, fun i => pi_range2 (hg i) (by rw [C.m i]; exact hm) (h1 i) (hs i) (hs2 i), fun pd F0 H0 F H ρ σ s d s' o e R q => ?_⟩
  obtain ⟨xs, s1, e1, e⟩ := Mb_eq e
  obtain ⟨e2, rfl⟩ := Mo_eq e
  refine h2 pd F0 H0 F H ρ σ s xs s1 o e1 _ fun vs F1 H1 x1 d1 r1 => ?_
  unfold rng2D at e2
  split at e2
  · rename_i i j
    split at e2
    · rename_i hj
      cases e2
      obtain ⟨y, ys, rfl, h3, h4⟩ := r1.cases
      obtain ⟨z, zs, rfl, h5, h6⟩ := h4.cases
      have := h6.cases0; subst this
      simp only [Rep] at h3 h5
      subst h3; subst h5
      refine ⟨i, j, rfl, ⟨by omega, by omega, by omega, by omega⟩, q _ F1 H1 x1 d1 (walkS_range ?_)⟩
      show (j - i).toNat ≤ 2 ^ 24
      omega
    · cases e2
  · cases e2
end

/-! ### targets -/
abbrev TGt := D → Rho → Option Rho
def gNm (i : Nat) : TGt := fun d ρ => some (ρ.set i (.sh d))
def gTs : List TGt → List D → Rho → Option Rho
  | [], [], ρ => some ρ
  | g :: gs, d :: ds, ρ => match g d ρ with
    | some ρ' => gTs gs ds ρ'
    | none => none
  | _, _, _ => none
def gTp (gs : List TGt) : TGt := fun d ρ => match d with
  | .tup ds => gTs gs ds ρ
  | _ => none
def SemG (K : PySem.W.Frag) (t : TG) (js : List Nat) (g : TGt) : Prop := ∀ (pd : Option PD) (F0 H0 F H : Hp) (ρ ρ' : Rho) (σ : L2.St) (s : DS) (d : D) (v : V), Ok K pd F0 H0 F H ρ σ s → Rep K pd F d v → g d ρ = some ρ' →
  ∀ Q : L2.St → Hp → Prop, (∀ σ', Ok K pd F0 H0 F H ρ' σ' s → (∀ j, j ∉ js → σ'[j]? = σ[j]?) → σ'.length = σ.length → Q σ' H) → t v σ H Q
def SemGs (K : PySem.W.Frag) (t : TGs) (js : List Nat) (g : List TGt) : Prop := ∀ (pd : Option PD) (F0 H0 F H : Hp) (ρ ρ' : Rho) (σ : L2.St) (s : DS) (ds : List D) (vs : List V), Ok K pd F0 H0 F H ρ σ s → RepL K pd F ds vs → gTs g ds ρ = some ρ' →
  ∀ Q : L2.St → Hp → Prop, (∀ σ', Ok K pd F0 H0 F H ρ' σ' s → (∀ j, j ∉ js → σ'[j]? = σ[j]?) → σ'.length = σ.length → Q σ' H) → t vs σ H Q
section
variable {ι : Type}
def CG (X : ι → Cx) (K : PySem.W.Frag) (tg : Expr) (js : List Nat) (g : TGt) : Prop := ∃ t, (∀ i, PG (X i) tg t) ∧ SemG K t js g
def CGs (X : ι → Cx) (K : PySem.W.Frag) (tg : List Expr) (js : List Nat) (n : Nat) (g : List TGt) : Prop := ∃ t, (∀ i, PGs (X i) tg t) ∧ SemGs K t js g ∧ g.length = n
variable {X : ι → Cx} {P : Program} {w : World} {K : PySem.W.Frag} {mg : Str → Option Value} {base : Heap} {N : List Str} {lv : Nat} {pos : Pos}
theorem gName' (C : Fam X P w K mg base N lv) (i : Nat) {x : Str} (hi : N[i]? = some x := by rfl) (hx : ∀ j, Loc (X j).env.scope x := by intro _; first | exact Or.inl rfl | exact Or.inr rfl)
    (hf : ∀ j, (X j).fn x = true ∨ (X j).env.scope.names.lookup x = some .local := by intro _; first | exact Or.inl rfl | exact Or.inr rfl) : CG X K (.Name x pos) [i] (gNm i) := by
  refine ⟨gName i, fun j => pg_name (by rw [C.n j]; exact C.nd) (by rw [C.n j]; exact hi) (hx j) (hf j), fun pd F0 H0 F H ρ ρ' σ s d v o r e Q q => ?_⟩
  cases e
  exact q _ (o.set r) (fun j hj => by
    rw [List.getElem?_set_ne]
    rintro rfl
    exact hj (by simp)) (by simp)
theorem gsNil : CGs X K [] [] 0 [] := by
  refine ⟨_, fun j => pgs_nil, fun pd F0 H0 F H ρ ρ' σ s d v o r e Q q => ?_, rfl⟩
  cases d with
  | nil => cases e; exact ⟨r.cases0, q σ o (fun _ _ => rfl) rfl⟩
  | cons a b => cases e
theorem gsCons {e : Expr} {es : List Expr} {js js' : List Nat} {n : Nat} {g : TGt} {gs : List TGt} (h : CG X K e js g) (h' : CGs X K es js' n gs)
    (hs : ∀ i, (assignEach (e :: es) (X i).env).map (·.2) = assign e (X i).env :: (assignEach es (X i).env).map (·.2) := by intro _; rfl) : CGs X K (e :: es) (js ++ js') (n + 1) (g :: gs) := by
  obtain ⟨t, h1, h2⟩ := h
  obtain ⟨u, u1, u2, u3⟩ := h'
  refine ⟨_, fun i => pgs_cons (h1 i) (u1 i) (hs i), fun pd F0 H0 F H ρ ρ' σ s d v o r e Q q => ?_, by simp [u3]⟩
  cases d with
  | nil => cases e
  | cons a b =>
    obtain ⟨y, ys, rfl, r1, r2⟩ := r.cases
    have e' : (match g a ρ with | some ρ' => gTs gs b ρ' | none => none) = some ρ' := e
    cases hg : g a ρ with
    | none => rw [hg] at e'; cases e'
    | some ρ1 =>
      rw [hg] at e'
      refine ⟨y, ys, rfl, h2 pd F0 H0 F H ρ ρ1 σ s a y o r1 hg _ fun σ1 o1 k1 l1 => ?_⟩
      exact u2 pd F0 H0 F H ρ1 ρ' σ1 s b ys o1 r2 e' Q fun σ2 o2 k2 l2 => q σ2 o2 (fun j hj => by
        rw [List.mem_append] at hj
        rw [k2 j fun z => hj (.inr z), k1 j fun z => hj (.inl z)]) (l2.trans l1)
theorem gTs_len : ∀ {gs : List TGt} {ds : List D} {ρ ρ' : Rho}, gTs gs ds ρ = some ρ' → ds.length = gs.length
  | [], [], _, _, _ => rfl
  | [], _ :: _, _, _, e => by simp [gTs] at e
  | _ :: _, [], _, _, e => by simp [gTs] at e
  | g :: gs, d :: ds, ρ, ρ', e => by
    simp only [gTs] at e
    split at e
    · simp [gTs_len e]
    · cases e
theorem gTup' (C : Fam X P w K mg base N lv) {es : List Expr} {k n : Nat} {js : List Nat} {gs : List TGt} (h : CGs X K es js n gs) (hn : ∀ i, (assignEach es (X i).env).length = n := by intro _; rfl)
    (hst : ∀ i, (assignEach es (X i).env).findIdx? (·.1) = none := by intro _; rfl) : CG X K (.Tuple es k pos) js (gTp gs) := by
  obtain ⟨t, h1, h2, h3⟩ := h
  refine ⟨gTup K n t, fun i => by have := pg_tup (pos := pos) (k := k) (C.c i) (h1 i) (hn i) (hst i); rw [C.k i] at this; exact this, fun pd F0 H0 F H ρ ρ' σ s d v o r e Q q => ?_⟩
  cases d <;> first | (cases e; done) | skip
  rename_i ds
  simp only [Rep] at r
  obtain ⟨a, xs, rfl, t1, _, r⟩ := r
  have e' : gTs gs ds ρ = some ρ' := e
  exact ⟨a, xs, rfl, sqT_mono o.fh t1, by rw [r.length, gTs_len e', h3], h2 pd F0 H0 F H ρ ρ' σ s ds xs o r e' Q q⟩
end

/-! ### comprehensions -/
def wipeR (ρ : Rho) : List Nat → Rho
  | [] => ρ
  | v :: vs => (wipeR ρ vs).set v .un
theorem Ok.wipe {K : PySem.W.Frag} {pd : Option PD} {F0 H0 F H : Hp} {ρ : Rho} {σ : L2.St} {s : DS} (o : Ok K pd F0 H0 F H ρ σ s) : ∀ vs : List Nat, Ok K pd F0 H0 F H (wipeR ρ vs) (L2.wipe σ vs) s
  | [] => o
  | v :: vs => (Ok.wipe o vs).forget
theorem wipe_get (σ : L2.St) : ∀ (vs : List Nat) (j : Nat), (L2.wipe σ vs)[j]? = if j ∈ vs then (if j < σ.length then some none else none) else σ[j]?
  | [], j => by simp [L2.wipe]
  | v :: vs, j => by
    unfold L2.wipe
    by_cases h : v = j
    · subst h
      rw [if_pos (by simp)]
      by_cases hl : v < σ.length
      · rw [if_pos hl, List.getElem?_set_self (by rw [wipe_length]; exact hl)]
      · rw [if_neg hl, List.getElem?_eq_none (by rw [List.length_set, wipe_length]; omega)]
    · rw [List.getElem?_set_ne h, wipe_get σ vs j]
      have : (j ∈ v :: vs) = (j ∈ vs) := by simp [Ne.symm h]
      simp only [this]
theorem wipe_eq {σ σ' : L2.St} {vs js : List Nat} (hs : ∀ j ∈ js, j ∈ vs) (hl : σ'.length = σ.length) (h : ∀ j, j ∉ js → σ'[j]? = (L2.wipe σ vs)[j]?) : L2.wipe σ' vs = L2.wipe σ vs := by
  refine List.ext_getElem? fun j => ?_
  rw [wipe_get, wipe_get]
  by_cases hj : j ∈ vs
  · rw [if_pos hj, if_pos hj, hl]
  · rw [if_neg hj, if_neg hj, h j fun z => hj (hs j z), wipe_get, if_neg hj]
def compM (gg : TGt) (ft : TF) (fe : EF) (ρ : Rho) : List D → M (List D)
  | [] => Mp []
  | x :: xs => match gg x ρ with
    | none => Mf
    | some ρ1 => Mb (ft ρ1) fun b => if b = true then Mb (fe ρ1) fun y => Mb (compM gg ft fe ρ xs) fun ys => Mp (y :: ys) else compM gg ft fe ρ xs
def oComp (fi : AF) (gg : TGt) (ft : TF) (fe : EF) (vs : List Nat) : AF := fun ρ => Mb (fi ρ) fun xs => compM gg ft fe (wipeR ρ vs) xs
def tYes' : TF := fun _ => Mp true
theorem semT_yes {K : PySem.W.Frag} : SemT K tYes tYes' := fun pd F0 H0 F H ρ σ s d s' o e Q q => by
  obtain ⟨rfl, rfl⟩ := Mp_eq e
  exact q F H (.refl o.fh) o.dok
section
variable {K : PySem.W.Frag}
theorem DOk.ne {pd : Option PD} {F H : Hp} {s : DS} {p : Addr} (d : DOk K pd F H s) (n : H p = none) : some p ≠ pp pd := by
  cases pd with
  | none => simp
  | some x =>
    intro e
    obtain ⟨_, _, h, _⟩ := d
    have e' : p = x.p := by simpa using e
    rw [← e', n] at h; cases h
theorem semO_comp {wi : TI} {tg : TG} {tt : TT} {te : TE} {vs js : List Nat} {fi : AF} {gg : TGt} {ft : TF} {fe : EF} (hi : SemIW K wi fi) (hg : SemG K tg js gg) (ht : SemT K tt ft) (he : SemE K te fe) (hj : ∀ j ∈ js, j ∈ vs) :
    SemO K (tLc wi tg tt te vs) (oComp fi gg ft fe vs) := fun pd F0 H0 F H ρ σ s ds s' o e Q q => by
  obtain ⟨items, s1, e1, e⟩ := Mb_eq e
  refine hi pd F0 H0 F H ρ σ s items s1 o e1 _ fun J F1 H1 x1 d1 wk A nA => ?_
  have o1 := o.step x1 d1
  have nF : F1 A = none := o1.fh.free nA
  have nH : H A = none := by
    cases hp : H A with
    | none => rfl
    | some u => exact absurd nA (x1.hd A (by rw [hp]; simp))
  have npd : some A ≠ pp pd := d1.ne nA
  obtain ⟨hsz, wk⟩ := wk
  refine ⟨fun i m Hc => i + m = items.length ∧ ∃ Fc sc accV accD rest, Ext pd F1 H1 Fc Hc ∧ DOk K pd Fc Hc sc ∧ Fc A = none ∧ Hc A = some (.lst accV) ∧ accD.length ≤ i ∧ RepL K pd Fc accD accV ∧
    compM gg ft fe (wipeR ρ vs) (items.drop i) sc = some (rest, s') ∧ ds = accD ++ rest, ⟨items.length, by simp, F1, s1, [], [], ds, (Ext.own o1.fh nA).lift, d1.grow (Ext.own o1.fh nA), nF, upd_same, Nat.le_refl _, .nil, e, rfl⟩, ?_⟩
  rintro i m Hc ⟨him, Fc, sc, accV, accD, rest, xc, dc, nA', hA, hlen, rc, ec, eds⟩
  by_cases hlt : i < items.length
  · have hd : items[i]? = some items[i] := List.getElem?_eq_getElem hlt
    have edrop : items.drop i = items[i] :: items.drop (i + 1) := List.drop_eq_getElem_cons hlt
    rw [edrop] at ec
    unfold compM at ec
    obtain ⟨w1, w2⟩ := (wk i Fc Hc xc).1 _ hd
    refine .inr ⟨w1, fun Hn => i + 1 + (m - 1) = items.length ∧ ∃ Fc sc accV accD rest', Ext pd F1 H1 Fc Hn ∧ DOk K pd Fc Hn sc ∧ Fc A = none ∧ Hn A = some (.lst accV) ∧ accD.length ≤ i + 1 ∧ RepL K pd Fc accD accV ∧
      compM gg ft fe (wipeR ρ vs) (items.drop (i + 1)) sc = some (rest', s') ∧ ds = accD ++ rest', fun Hn hn => ⟨m - 1, by omega, hn⟩, fun x H2 hy => ?_⟩
    obtain ⟨F2, x2, r2⟩ := w2 x H2 hy
    cases hgg : gg items[i] (wipeR ρ vs) with
    | none => rw [hgg] at ec; cases ec
    | some ρ1 =>
      rw [hgg] at ec
      obtain ⟨b, s2, e2, ec⟩ := Mb_eq (show Mb (ft ρ1) _ sc = _ from ec)
      have oc : Ok K pd F0 H0 F2 H2 (wipeR ρ vs) (L2.wipe σ vs) sc := ((o1.step xc dc).step (x2.lift (pd := pd)) (dc.grow x2)).wipe vs
      refine hg pd F0 H0 F2 H2 _ ρ1 _ sc _ x oc r2 hgg _ fun σ2 o2 k2 l2 => ⟨wipe_eq hj (by rw [l2, wipe_length]) k2, ?_⟩
      refine ht pd F0 H0 F2 H2 ρ1 σ2 sc b s2 o2 e2 _ fun F3 H3 x3 d3 => ?_
      have o3 := o2.step x3 d3
      have hA3 : H3 A = some (.lst accV) := x3.hh _ _ (x2.same _ _ hA) npd
      have nA3 : F3 A = none := x3.Fnone (x2.Fnone nA' (by rw [hA]; simp)) (by rw [x2.same _ _ hA]; simp)
      cases b with
      | false =>
        refine iteF ⟨by omega, F3, s2, accV, accD, rest, xc.trans (x2.lift.trans x3), d3, nA3, hA3, by omega, (rc.mono x2.ff).mono x3.ff, ec, eds⟩
      | true =>
        obtain ⟨y, s3, e3, ec⟩ := Mb_eq (show Mb (fe ρ1) _ s2 = _ from ec)
        obtain ⟨ys, s4, e4, ec⟩ := Mb_eq ec
        obtain ⟨rfl, rfl⟩ := Mp_eq ec
        refine iteT (he pd F0 H0 F3 H3 ρ1 σ2 s2 y s3 o3 e3 _ fun v F4 H4 x4 d4 r4 => ?_)
        have hA4 : H4 A = some (.lst accV) := x4.hh _ _ hA3 npd
        have nA4 : F4 A = none := x4.Fnone nA3 (by rw [hA3]; simp)
        have xx := xc.trans (x2.lift.trans (x3.trans x4))
        have rr : RepL K pd F4 accD accV := ((rc.mono x2.ff).mono x3.ff).mono x4.ff
        refine ⟨accV, hA4, ?_, by omega, F4, s3, accV ++ [v], accD ++ [y], ys, ⟨xx.ff, fun b u hb np => ?_, fun b hb => ?_, xx.nw, fun b u hb => ?_⟩, ?_, nA4, upd_same, by simp; omega, rr.append (.cons r4 .nil), e4, by rw [eds]; simp⟩
        · rw [rr.length]
          exact Nat.lt_of_le_of_lt hlen (Nat.lt_of_lt_of_le hlt hsz)
        · have hb' : b ≠ A := by rintro rfl; rw [nA] at hb; cases hb
          rw [upd_ne hb']; exact xx.hh b u hb np
        · by_cases hb' : b = A
          · subst hb'; rw [upd_same]; simp
          · rw [upd_ne hb']; exact xx.hd b hb
        · have hb' : b ≠ A := by rintro rfl; rw [nA4] at hb; cases hb
          rw [upd_ne hb']; exact xx.fh b u hb
        · cases pd with
          | none => trivial
          | some a =>
            obtain ⟨h1, h2, h3, h4⟩ := d4
            refine ⟨h1, h2, ?_, h4⟩
            rw [upd_ne (fun z => npd (by simp [z]))]
            exact h3
  · have ei : i = items.length := by omega
    refine .inl ⟨(wk i Fc Hc xc).2 ei, ?_⟩
    rw [ei, List.drop_length] at ec
    obtain ⟨rfl, rfl⟩ := Mp_eq ec
    rw [List.append_nil] at eds
    subst eds
    exact q A accV Fc Hc (x1.trans xc) dc nH nA' hA (Nat.le_trans hlen (by rw [ei]; exact hsz)) rc
end
end Pu
namespace Pu
open PySem PySem.Spec PyProof.Rows L2

/-! ### comprehensions as expressions -/
section
variable {ι : Type} {X : ι → Cx} {P : Program} {w : World} {K : PySem.W.Frag} {mg : Str → Option Value} {base : Heap} {N : List Str} {lv : Nat} {pos : Pos}
/-- the contexts of a comprehension's block -/
structure BlkI (ι : Type) where
  i : ι
  s : Shared
  H : Hp
  C : Addr
  cl : List (Str × Addr)
  fp : List Addr
abbrev blkF (X : ι → Cx) (scope : Scope) : BlkI ι → Cx := fun b => (X b.i).blk b.s b.H scope (compEnvC scope b.cl b.C (X b.i).env) b.fp
theorem Fam.blk (C : Fam X P w K mg base N lv) (scope : Scope) : Fam (blkF X scope) P w K mg base N lv :=
  ⟨fun b => C.p b.i, fun b => C.w b.i, fun b => C.k b.i, fun b => C.m b.i, fun b => C.b b.i, fun b => C.n b.i, fun b => C.c b.i, C.nd, fun b => C.r b.i⟩
theorem oLc (C : Fam X P w K mg base N lv) {elt tg iter : Expr} {ifs : List Expr} {scope : Scope} {js : List Nat} {fi : AF} {gg : TGt} {ft : TF} {fe : EF} (own : List (Str × Nat)) (hi : CIW X K tg iter fi) (ok : ∀ i, BlkOk N (X i).env.scope scope own)
    (hg : CG (blkF X scope) K tg js gg) (ht : ∃ t, (∀ b, PTs (blkF X scope b) ifs t) ∧ SemT K t ft) (he : CE (blkF X scope) K elt fe) (hj : ∀ j ∈ js, j ∈ own.map (·.2) := by decide) (hs : ∀ i, ∀ x, foldedSetIterable iter (X i).env x = pure x := by intro _ _; rfl) :
    CO X K (.ListComp elt [⟨tg, iter, ifs, 0⟩] scope pos) (oComp fi gg ft fe (own.map (·.2))) := by
  obtain ⟨wi, i1, i2⟩ := hi
  obtain ⟨g, g1, g2⟩ := hg
  obtain ⟨tt, t1, t2⟩ := ht
  obtain ⟨te, e1, e2⟩ := he
  exact ⟨_, fun i => pe_lc (own := own) (C.c i) (by rw [C.n i]; exact C.nd) (i1 i) (by rw [C.n i]; exact ok i) (fun s H Cc cl fp => g1 ⟨i, s, H, Cc, cl, fp⟩) (fun s H Cc cl fp => t1 ⟨i, s, H, Cc, cl, fp⟩) (fun s H Cc cl fp => e1 ⟨i, s, H, Cc, cl, fp⟩) (hs i), semO_comp i2 g2 t2 e2 hj⟩
theorem ctNone {ι : Type} {X : ι → Cx} : ∃ t, (∀ b, PTs (X b) [] t) ∧ SemT K t tYes' := ⟨_, fun _ => pts_nil, semT_yes⟩
theorem ctOne {ι : Type} {X : ι → Cx} {c : Expr} {ft : TF} (h : CT X K c ft) : ∃ t, (∀ b, PTs (X b) [c] t) ∧ SemT K t ft := let ⟨t, h1, h2⟩ := h; ⟨t, fun b => pts_one (h1 b), h2⟩
end

/-! ### statements -/
inductive Res where
  | nx | rt (d : D) | bk | ct
abbrev SF := Rho → M (Res × Rho)
def PostS (K : PySem.W.Frag) (pd : Option PD) (F0 H0 F : Hp) (ρ' : Rho) (s' : DS) : Res → Ends → Prop
  | .nx, E => ∀ σ' F' H', Same F F' → Ok K pd F0 H0 F' H' ρ' σ' s' → E.nx σ' H'
  | .bk, E => ∀ σ' F' H', Same F F' → Ok K pd F0 H0 F' H' ρ' σ' s' → E.bk σ' H'
  | .ct, E => ∀ σ' F' H', Same F F' → Ok K pd F0 H0 F' H' ρ' σ' s' → E.ct σ' H'
  | .rt d, E => ∀ v F' H', Ext pd F0 H0 F' H' → DOk K pd F' H' s' → Rep K pd F' d v → E.rt v H'
def SemS (K : PySem.W.Frag) (t : TS) (g : SF) : Prop := ∀ (pd : Option PD) (F0 H0 F H : Hp) (ρ : Rho) (σ : L2.St) (s : DS) (r : Res) (ρ' : Rho) (s' : DS), Ok K pd F0 H0 F H ρ σ s → g ρ s = some ((r, ρ'), s') →
  ∀ E : Ends, PostS K pd F0 H0 F ρ' s' r E → t E σ H
section
variable {ι : Type}
def CS (X : ι → Cx) (K : PySem.W.Frag) (st : Stmt) (g : SF) : Prop := ∃ t, (∀ i, PS (X i) st t) ∧ SemS K t g
def CSs (X : ι → Cx) (K : PySem.W.Frag) (st : List Stmt) (g : SF) : Prop := ∃ t, (∀ i, PSs (X i) st t) ∧ SemS K t g
end
theorem PostS.from {K : PySem.W.Frag} {pd : Option PD} {F0 H0 F F1 : Hp} {ρ' : Rho} {s' : DS} {r : Res} {E : Ends} (h : Same F F1) (p : PostS K pd F0 H0 F ρ' s' r E) : PostS K pd F0 H0 F1 ρ' s' r E := by
  cases r with
  | nx => exact fun σ' F' H' a b => p σ' F' H' (h.trans a) b
  | bk => exact fun σ' F' H' a b => p σ' F' H' (h.trans a) b
  | ct => exact fun σ' F' H' a b => p σ' F' H' (h.trans a) b
  | rt d => exact p

def sNext : SF := fun ρ => Mp (.nx, ρ)
def sFail : SF := fun _ => Mf
def sBreak : SF := fun ρ => Mp (.bk, ρ)
def sCont : SF := fun ρ => Mp (.ct, ρ)
def sSeq (a b : SF) : SF := fun ρ => Mb (a ρ) fun r => match r with
  | (.nx, ρ') => b ρ'
  | r => Mp r
def sSet (i : Nat) (f : EF) : SF := fun ρ => Mb (f ρ) fun d => Mp (.nx, ρ.set i (.sh d))
def sOwn (i : Nat) (f : AF) : SF := fun ρ => Mb (f ρ) fun ds => Mp (.nx, ρ.set i (.ow ds))
def sDrop (f : EF) : SF := fun ρ => Mb (f ρ) fun _ => Mp (.nx, ρ)
def sRet (f : EF) : SF := fun ρ => Mb (f ρ) fun d => Mp (.rt d, ρ)
def sRetN : SF := fun ρ => Mp (.rt .non, ρ)
def onOw {α : Type} (o : Option Slot) (k : List D → M α) : M α := match o with
  | some (.ow ds) => k ds
  | _ => Mf
def onSh {α : Type} (o : Option Slot) (k : D → M α) : M α := match o with
  | some (.sh d) => k d
  | _ => Mf
def onInt {α : Type} (d : D) (k : Int → M α) : M α := match d with
  | .int i => k i
  | _ => Mf
def onLst {α : Type} (d : D) (k : List D → M α) : M α := match d with
  | .lst i => k i
  | _ => Mf
def onSome {α β : Type} (o : Option β) (k : β → M α) : M α := match o with
  | some x => k x
  | none => Mf
section
variable {α β : Type}
@[simp] theorem onOw_ow (ds : List D) (k : List D → M α) : onOw (some (.ow ds)) k = k ds := rfl
@[simp] theorem onSh_sh (d : D) (k : D → M α) : onSh (some (.sh d)) k = k d := rfl
@[simp] theorem onInt_int (d : Int) (k : Int → M α) : onInt (.int d) k = k d := rfl
@[simp] theorem onLst_lst (d : List D) (k : List D → M α) : onLst (.lst d) k = k d := rfl
@[simp] theorem onSome_some (d : β) (k : β → M α) : onSome (some d) k = k d := rfl
@[simp] theorem onSome_none (k : β → M α) : onSome none k = Mf := rfl
theorem onOw_eq {o : Option Slot} {k : List D → M α} {s s' : DS} {a : α} (e : onOw o k s = some (a, s')) : ∃ ds, o = some (.ow ds) ∧ k ds s = some (a, s') := by
  cases o with
  | none => cases e
  | some x => cases x <;> first | (cases e; done) | exact ⟨_, rfl, e⟩
theorem onSh_eq {o : Option Slot} {k : D → M α} {s s' : DS} {a : α} (e : onSh o k s = some (a, s')) : ∃ d, o = some (.sh d) ∧ k d s = some (a, s') := by
  cases o with
  | none => cases e
  | some x => cases x <;> first | (cases e; done) | exact ⟨_, rfl, e⟩
theorem onInt_eq {d : D} {k : Int → M α} {s s' : DS} {a : α} (e : onInt d k s = some (a, s')) : ∃ i, d = .int i ∧ k i s = some (a, s') := by
  cases d <;> first | (cases e; done) | exact ⟨_, rfl, e⟩
theorem onLst_eq {d : D} {k : List D → M α} {s s' : DS} {a : α} (e : onLst d k s = some (a, s')) : ∃ i, d = .lst i ∧ k i s = some (a, s') := by
  cases d <;> first | (cases e; done) | exact ⟨_, rfl, e⟩
theorem onSome_eq {d : Option β} {k : β → M α} {s s' : DS} {a : α} (e : onSome d k s = some (a, s')) : ∃ i, d = some i ∧ k i s = some (a, s') := by
  cases d <;> first | (cases e; done) | exact ⟨_, rfl, e⟩
end
def sTo (g : TGt) (f : EF) : SF := fun ρ => Mb (f ρ) fun d => onSome (g d ρ) fun ρ' => Mp (.nx, ρ')
def sRetOw (i : Nat) : SF := fun ρ => onOw ρ[i]? fun ds => Mp (.rt (.lst ds), ρ)
def sMove (i j : Nat) : SF := fun ρ => onOw ρ[i]? fun ds => Mp (.nx, (ρ.set i (.sh (.lst ds))).set j (.sh (.lst ds)))
def sIf (t : TF) (a b : SF) : SF := fun ρ => Mb (t ρ) fun k => if k = true then a ρ else b ρ
def sAug (i : Nat) (g : D → D → Option D) (f : EF) : SF := fun ρ => onSh ρ[i]? fun x => Mb (f ρ) fun y => Mb (Mo (g x y)) fun z => Mp (.nx, ρ.set i (.sh z))
/-- an own list changed by a method -/
def sMeth (i : Nat) (u : List D → D → Option (List D)) (f : EF) : SF := fun ρ => Mb (f ρ) fun d => onOw ρ[i]? fun ds => onSome (u ds d) fun es => Mp (.nx, ρ.set i (.ow es))
def appU (ds : List D) (d : D) : Option (List D) := if ds.length < SZ then some (ds ++ [d]) else none
def extU (ds : List D) (d : D) : Option (List D) := match d with
  | .lst es => if ds.length + es.length ≤ SZ then some (ds ++ es) else none
  | _ => none
def sPut (i : Nat) (fk f : EF) : SF := fun ρ => Mb (f ρ) fun d => Mb (fk ρ) fun k => onOw ρ[i]? fun ds => onInt k fun k => onSome (ixN ds.length k) fun j => Mp (.nx, ρ.set i (.ow (ds.set j d)))
def sAugIx (i : Nat) (g : D → D → Option D) (fk f : EF) : SF := fun ρ => Mb (fk ρ) fun k => onOw ρ[i]? fun ds => onInt k fun k => onSome (ixN ds.length k) fun j => onSome ds[j]? fun x =>
  Mb (f ρ) fun y => Mb (Mo (g x y)) fun z => Mp (.nx, ρ.set i (.ow (ds.set j z)))
def loopM (g : TGt) (body : SF) : List D → SF
  | [], ρ => Mp (.nx, ρ)
  | x :: xs, ρ => match g x ρ with
    | none => Mf
    | some ρ1 => Mb (body ρ1) fun r => match r with
      | (.nx, ρ2) => loopM g body xs ρ2
      | (.ct, ρ2) => loopM g body xs ρ2
      | (.bk, ρ2) => Mp (.nx, ρ2)
      | (.rt d, ρ2) => Mp (.rt d, ρ2)
def sFor (fi : AF) (g : TGt) (body : SF) : SF := fun ρ => Mb (fi ρ) fun xs => loopM g body xs ρ
def whileM (t : TF) (body : SF) : Nat → SF
  | 0, _ => Mf
  | n + 1, ρ => Mb (t ρ) fun k => if k = true then Mb (body ρ) fun r => match r with
      | (.nx, ρ2) => whileM t body n ρ2
      | (.ct, ρ2) => whileM t body n ρ2
      | (.bk, ρ2) => Mp (.nx, ρ2)
      | (.rt d, ρ2) => Mp (.rt d, ρ2)
    else Mp (.nx, ρ)
/-- how many turns a while may take -/
def FUEL : Nat := 2 ^ 40
def sWhile (t : TF) (body : SF) : SF := whileM t body FUEL

section
variable {K : PySem.W.Frag} {pd : Option PD} {F0 H0 F H F' H' : Hp} {ρ : Rho} {σ : L2.St} {s s' : DS}
/-- an owned list gets a new content -/
theorem Ok.upd {i : Nat} {es es' : List D} {p : Addr} {ys : List V} (o : Ok K pd F0 H0 F H ρ σ s) (h : ρ[i]? = some (.ow es)) (hp : σ[i]? = some (some (.ref p))) (hl : es'.length ≤ SZ) (r : RepL K pd F es' ys) :
    Ok K pd F0 H0 F (L2.upd H p (.lst ys)) (ρ.set i (.ow es')) σ s := by
  obtain ⟨q, h1, p', xs, rfl, h2, h3, h4, h5, h6, h7⟩ := o.env.at' i _ h
  rw [hp] at h1; cases h1
  refine ⟨⟨o.ext.ff, fun a u e n => ?_, fun a e => ?_, o.ext.nw, fun a u e => ?_⟩, ⟨by simp [o.env.len], fun j sl e => ?_, fun j k as bs q hjk e1 e2 e3 => ?_⟩, ?_⟩
  · have : a ≠ p := by rintro rfl; rw [h3] at e; cases e
    rw [upd_ne this]; exact o.ext.hh a u e n
  · by_cases ha : a = p
    · subst ha; rw [upd_same]; simp
    · rw [upd_ne ha]; exact o.ext.hd a e
  · have : a ≠ p := by rintro rfl; rw [h2] at e; cases e
    rw [upd_ne this]; exact o.ext.fh a u e
  · by_cases hj : i = j
    · subst hj
      have hl' : i < ρ.length := by have := (List.getElem?_eq_some_iff.mp e).1; simpa using this
      rw [List.getElem?_set_self hl'] at e
      cases e
      exact ⟨_, hp, p, ys, rfl, h2, h3, h4, upd_same, hl, r⟩
    · rw [List.getElem?_set_ne hj] at e
      obtain ⟨q, e1, e2⟩ := o.env.at' j sl e
      refine ⟨q, e1, ?_⟩
      cases sl with
      | un => trivial
      | sh d => exact e2
      | ow fs =>
        obtain ⟨p', xs', rfl, a2, a3, a4, a5, a6, a7⟩ := e2
        have : p' ≠ p := by
          rintro rfl
          exact o.env.ap i j es fs p' hj h e hp e1
        exact ⟨p', xs', rfl, a2, a3, a4, by rw [upd_ne this]; exact a5, a6, a7⟩
  · by_cases hj : i = j
    · subst hj
      have hk : i ≠ k := hjk
      rw [List.getElem?_set_ne hk] at e2
      exact o.env.ap i k es bs q hk h e2 e3
    · rw [List.getElem?_set_ne hj] at e1
      by_cases hk : i = k
      · subst hk
        exact o.env.ap j i as es q hjk e1 h e3
      · rw [List.getElem?_set_ne hk] at e2
        exact o.env.ap j k as bs q hjk e1 e2 e3
  · have d := o.dok
    cases pd with
    | none => trivial
    | some x =>
      obtain ⟨d1, d2, d3, d4⟩ := d
      refine ⟨d1, d2, ?_, d4⟩
      rw [upd_ne (fun z => h4 (by simp [z]))]
      exact d3
/-- an owned list becomes known to all -/
theorem Ok.freeze {i : Nat} {es : List D} (o : Ok K pd F0 H0 F H ρ σ s) (h : ρ[i]? = some (.ow es)) : ∃ p F', σ[i]? = some (some (.ref p)) ∧ Same F F' ∧ Ok K pd F0 H0 F' H (ρ.set i (.sh (.lst es))) σ s ∧ Rep K pd F' (.lst es) (.ref p) := by
  obtain ⟨q, h1, p, xs, rfl, h2, h3, h4, h5, h6, h7⟩ := o.env.at' i _ h
  have f1 : Same F (L2.upd F p (.lst xs)) := same_upd h2
  have rr : Rep K pd (L2.upd F p (.lst xs)) (.lst es) (.ref p) := by
    simp only [Rep]
    exact ⟨p, xs, rfl, upd_same, h6, h7.mono f1⟩
  refine ⟨p, _, h1, f1, ⟨⟨o.ext.ff.trans f1, o.ext.hh, o.ext.hd, fun a u e => ?_, fun a u e => ?_⟩, ⟨by simp [o.env.len], fun j sl e => ?_, fun j k as bs q hjk e1 e2 e3 => ?_⟩, ?_⟩, rr⟩
  · by_cases ha : a = p
    · subst ha; exact .inr h3
    · rw [upd_ne ha] at e; exact o.ext.nw a u e
  · by_cases ha : a = p
    · subst ha; rw [upd_same] at e; cases e; exact h5
    · rw [upd_ne ha] at e; exact o.ext.fh a u e
  · by_cases hj : i = j
    · subst hj
      have hl' : i < ρ.length := by have := (List.getElem?_eq_some_iff.mp e).1; simpa using this
      rw [List.getElem?_set_self hl'] at e
      cases e
      exact ⟨_, h1, _, rfl, rr⟩
    · rw [List.getElem?_set_ne hj] at e
      obtain ⟨q, e1, e2⟩ := o.env.at' j sl e
      refine ⟨q, e1, ?_⟩
      cases sl with
      | un => trivial
      | sh d => obtain ⟨x, a1, a2⟩ := e2; exact ⟨x, a1, a2.mono f1⟩
      | ow fs =>
        obtain ⟨p', xs', rfl, a2, a3, a4, a5, a6, a7⟩ := e2
        have : p' ≠ p := by
          rintro rfl
          exact o.env.ap i j es fs p' hj h e h1 e1
        exact ⟨p', xs', rfl, by rw [upd_ne this]; exact a2, a3, a4, a5, a6, a7.mono f1⟩
  · have a1 : i ≠ j := by
      rintro rfl
      have hl' : i < ρ.length := by have := (List.getElem?_eq_some_iff.mp e1).1; simpa using this
      rw [List.getElem?_set_self hl'] at e1; cases e1
    have a2 : i ≠ k := by
      rintro rfl
      have hl' : i < ρ.length := by have := (List.getElem?_eq_some_iff.mp e2).1; simpa using this
      rw [List.getElem?_set_self hl'] at e2; cases e2
    rw [List.getElem?_set_ne a1] at e1
    rw [List.getElem?_set_ne a2] at e2
    exact o.env.ap j k as bs q hjk e1 e2 e3
  · have d := o.dok
    cases pd with
    | none => trivial
    | some x =>
      obtain ⟨d1, d2, d3, d4⟩ := d
      refine ⟨?_, d2, d3, f1 _ _ d4⟩
      rw [upd_ne (fun z => h4 (by simp [z]))]
      exact d1
end

section
variable {ι : Type} {X : ι → Cx} {P : Program} {w : World} {K : PySem.W.Frag} {mg : Str → Option Value} {base : Heap} {N : List Str} {lv : Nat} {pos : Pos} {st : Stmt} {rest : List Stmt} {e : Expr} {f fk : EF} {g g' : SF}
theorem ssNil : CSs X K [] sNext := ⟨_, fun _ => pss_nil, fun pd F0 H0 F H ρ σ s r ρ' s' o e E q => by cases Mp_eq e with | intro a b => cases a; cases b; exact q σ F H (Same.refl _) o⟩
theorem ssCons (h : CS X K st g) (h' : CSs X K rest g') : CSs X K (st :: rest) (sSeq g g') := by
  obtain ⟨t, h1, h2⟩ := h
  obtain ⟨u, u1, u2⟩ := h'
  refine ⟨_, fun i => pss_cons (h1 i) (u1 i), fun pd F0 H0 F H ρ σ s r ρ' s' o e E q => ?_⟩
  obtain ⟨⟨r1, ρ1⟩, s1, e1, e2⟩ := Mb_eq e
  refine h2 pd F0 H0 F H ρ σ s r1 ρ1 s1 o e1 _ ?_
  cases r1 with
  | nx => exact fun σ' F' H' a b => u2 pd F0 H0 F' H' ρ1 σ' s1 r ρ' s' b e2 E (q.from a)
  | bk => obtain ⟨a, rfl⟩ := Mp_eq e2; cases a; exact q
  | ct => obtain ⟨a, rfl⟩ := Mp_eq e2; cases a; exact q
  | rt d => obtain ⟨a, rfl⟩ := Mp_eq e2; cases a; exact q
theorem ssOne (h : CS X K st g) : CSs X K [st] g := by
  obtain ⟨t, h1, h2⟩ := h
  exact ⟨_, fun i => pss_one (h1 i), h2⟩
theorem cPass : CS X K (.Pass pos) sNext := ⟨_, fun _ => ps_pass, fun pd F0 H0 F H ρ σ s r ρ' s' o e E q => by cases Mp_eq e with | intro a b => cases a; cases b; exact q σ F H (Same.refl _) o⟩
theorem cBreak : CS X K (.Break pos) sBreak := ⟨_, fun _ => ps_break, fun pd F0 H0 F H ρ σ s r ρ' s' o e E q => by cases Mp_eq e with | intro a b => cases a; cases b; exact q σ F H (Same.refl _) o⟩
theorem cCont : CS X K (.Continue pos) sCont := ⟨_, fun _ => ps_continue, fun pd F0 H0 F H ρ σ s r ρ' s' o e E q => by cases Mp_eq e with | intro a b => cases a; cases b; exact q σ F H (Same.refl _) o⟩
theorem cNever : CS X K st sFail := ⟨_, fun _ => ps_never, fun pd F0 H0 F H ρ σ s r ρ' s' o e E q => (Mf_eq e).elim⟩
theorem cRet (h : CE X K e f) : CS X K (.Return (some e) pos) (sRet f) := by
  obtain ⟨t, h1, h2⟩ := h
  refine ⟨_, fun i => ps_ret (h1 i), fun pd F0 H0 F H ρ σ s r ρ' s' o e E q => ?_⟩
  obtain ⟨d, s1, e1, e2⟩ := Mb_eq e
  obtain ⟨a, rfl⟩ := Mp_eq e2
  cases a
  exact h2 pd F0 H0 F H _ σ s d _ o e1 _ fun v F' H' x d' r => q v F' H' (o.ext.trans x) d' r
theorem cRetN : CS X K (.Return none pos) sRetN := ⟨_, fun _ => ps_retN, fun pd F0 H0 F H ρ σ s r ρ' s' o e E q => by
  obtain ⟨a, rfl⟩ := Mp_eq e
  cases a
  exact q _ F H o.ext o.dok (by simp [Rep])⟩
theorem cRetOw (C : Fam X P w K mg base N lv) (i : Nat) {x : Str} {p2 : Pos} (hN : N[i]? = some x := by rfl) (hv : ∀ j, Vis (X j).env.scope x := by intro _; first | exact Or.inl rfl | exact Or.inr (Or.inl rfl) | exact Or.inr (Or.inr rfl))
    (hd : (x == ("__debug__" : Str)) = false := by decide) (hcd : (x == ("__classdict__" : Str)) = false := by decide) : CS X K (.Return (some (.Name x p2)) pos) (sRetOw i) := by
  refine ⟨_, fun j => ps_ret (pe_var (by rw [C.n j]; exact hN) (hv j) hd hcd), fun pd F0 H0 F H ρ σ s r ρ' s' o e E q => ?_⟩
  obtain ⟨ds, h, e⟩ := onOw_eq e
  obtain ⟨a, rfl⟩ := Mp_eq e
  cases a
  obtain ⟨p, F', h1, f1, o', rr⟩ := o.freeze h
  exact ⟨_, h1, q _ F' H o'.ext o'.dok rr⟩
theorem cExpr (h : CE X K e f) (hs : ∀ i, swapsWith e none pos.line (X i).env = pure false := by intro _; rfl) : CS X K (.Expr e pos) (sDrop f) := by
  obtain ⟨t, h1, h2⟩ := h
  refine ⟨_, fun i => ps_expr (h1 i) (hs i), fun pd F0 H0 F H ρ σ s r ρ' s' o e E q => ?_⟩
  obtain ⟨d, s1, e1, e2⟩ := Mb_eq e
  obtain ⟨a, rfl⟩ := Mp_eq e2
  cases a
  exact h2 pd F0 H0 F H _ σ s d _ o e1 _ fun v F' H' x d' r => q σ F' H' x.ff (o.step x d')
theorem cIfS {c : Expr} {a b : List Stmt} {ft : TF} (hc : CT X K c ft) (ha : CSs X K a g) (hb : CSs X K b g') : CS X K (.If c a b pos) (sIf ft g g') := by
  obtain ⟨t, h1, h2⟩ := hc
  obtain ⟨ta, a1, a2⟩ := ha
  obtain ⟨tb, b1, b2⟩ := hb
  refine ⟨_, fun i => ps_if (h1 i) (a1 i) (b1 i), fun pd F0 H0 F H ρ σ s r ρ' s' o e E q => ?_⟩
  obtain ⟨k, s1, e1, e2⟩ := Mb_eq e
  refine h2 pd F0 H0 F H ρ σ s k s1 o e1 _ fun F1 H1 x1 d1 => ?_
  cases k with
  | true => exact iteT (a2 pd F0 H0 F1 H1 ρ σ s1 r ρ' s' (o.step x1 d1) e2 E (q.from x1.ff))
  | false => exact iteF (b2 pd F0 H0 F1 H1 ρ σ s1 r ρ' s' (o.step x1 d1) e2 E (q.from x1.ff))
theorem cSet (C : Fam X P w K mg base N lv) (i : Nat) {x : Str} {p2 : Pos} (h : CE X K e f) (hi : N[i]? = some x := by rfl) (hx : ∀ j, Loc (X j).env.scope x := by intro _; first | exact Or.inl rfl | exact Or.inr rfl)
    (hs : ∀ j, swapsWith e (some (.Name x p2)) pos.line (X j).env = pure false := by intro _; rfl) (hf : ∀ j, (X j).fn x = true ∨ (X j).env.scope.names.lookup x = some .local := by intro _; first | exact Or.inl rfl | exact Or.inr rfl) :
    CS X K (.Assign [.Name x p2] e pos) (sSet i f) := by
  obtain ⟨t, h1, h2⟩ := h
  refine ⟨_, fun j => ps_set (by rw [C.n j]; exact C.nd) (by rw [C.n j]; exact hi) (hx j) (h1 j) (hs j) (hf j), fun pd F0 H0 F H ρ σ s r ρ' s' o e E q => ?_⟩
  obtain ⟨d, s1, e1, e2⟩ := Mb_eq e
  obtain ⟨a, rfl⟩ := Mp_eq e2
  cases a
  exact h2 pd F0 H0 F H _ σ s d _ o e1 _ fun v F' H' x d' r => q _ F' H' x.ff ((o.step x d').set r)
theorem semS_own {i : Nat} {te : TE} {fo : AF} (h2 : SemO K te fo) : SemS K (tAsg te (gName i)) (sOwn i fo) := fun pd F0 H0 F H ρ σ s r ρ' s' o e E q => by
  obtain ⟨d, s1, e1, e2⟩ := Mb_eq e
  obtain ⟨a, rfl⟩ := Mp_eq e2
  cases a
  refine h2 pd F0 H0 F H _ σ s d _ o e1 _ fun p xs F' H' x d' n1 n2 l z r => q _ F' H' x.ff ?_
  have o' := o.step x d'
  have n0 : H0 p = none := by
    cases hp : H0 p with
    | none => rfl
    | some u => exact absurd n1 (o.ext.hd p (by rw [hp]; simp))
  refine o'.setOw n2 n0 (o.dok.ne n1) l z r fun j fs hj e1 e2 => ?_
  obtain ⟨q, a1, p', xs', rfl, a2, a3, a4, a5, _⟩ := o.env.at' j _ e1
  rw [a1] at e2
  cases e2
  rw [n1] at a5; cases a5
theorem cOwn (C : Fam X P w K mg base N lv) (i : Nat) {x : Str} {p2 : Pos} {fo : AF} (h : CO X K e fo) (hi : N[i]? = some x := by rfl) (hx : ∀ j, Loc (X j).env.scope x := by intro _; first | exact Or.inl rfl | exact Or.inr rfl)
    (hs : ∀ j, swapsWith e (some (.Name x p2)) pos.line (X j).env = pure false := by intro _; rfl) (hf : ∀ j, (X j).fn x = true ∨ (X j).env.scope.names.lookup x = some .local := by intro _; first | exact Or.inl rfl | exact Or.inr rfl) :
    CS X K (.Assign [.Name x p2] e pos) (sOwn i fo) := by
  obtain ⟨t, h1, h2⟩ := h
  exact ⟨_, fun j => ps_set (by rw [C.n j]; exact C.nd) (by rw [C.n j]; exact hi) (hx j) (h1 j) (hs j) (hf j), semS_own h2⟩
theorem cTo {tg : Expr} {js : List Nat} {gg : TGt} (h : CE X K e f) (hg : CG X K tg js gg) (hs : ∀ j, swapsWithSole [tg] e pos.line (X j).env = pure false := by intro _; rfl) (hw : ∀ j, swappedStores [tg] e (X j).env = pure none := by intro _; rfl)
    (h1 : ∀ j, (assignEach [tg] (X j).env).map (·.2) = [assign tg (X j).env] := by intro _; rfl) : CS X K (.Assign [tg] e pos) (sTo gg f) := by
  obtain ⟨t, e1, e2⟩ := h
  obtain ⟨tg', g1, g2⟩ := hg
  refine ⟨_, fun j => ps_asg (e1 j) (g1 j) (hs j) (hw j) (h1 j), fun pd F0 H0 F H ρ σ s r ρ' s' o e E q => ?_⟩
  obtain ⟨d, s1, a1, a2⟩ := Mb_eq e
  obtain ⟨ρ1, hρ, a2⟩ := onSome_eq a2
  obtain ⟨a, rfl⟩ := Mp_eq a2
  cases a
  refine e2 pd F0 H0 F H _ σ s d _ o a1 _ fun v F' H' x d' r => ?_
  exact g2 pd F0 H0 F' H' _ _ σ _ d v (o.step x d') r hρ _ fun σ' o' _ _ => q σ' F' H' x.ff o'
theorem cMove (C : Fam X P w K mg base N lv) (i j : Nat) {x y : Str} {p2 p3 : Pos} (hN : N[i]? = some x := by rfl) (hv : ∀ k, Vis (X k).env.scope x := by intro _; first | exact Or.inl rfl | exact Or.inr (Or.inl rfl) | exact Or.inr (Or.inr rfl))
    (hi : N[j]? = some y := by rfl) (hx : ∀ k, Loc (X k).env.scope y := by intro _; first | exact Or.inl rfl | exact Or.inr rfl)
    (hd : (x == ("__debug__" : Str)) = false := by decide) (hcd : (x == ("__classdict__" : Str)) = false := by decide)
    (hs : ∀ k, swapsWith (.Name x p3) (some (.Name y p2)) pos.line (X k).env = pure false := by intro _; rfl) (hf : ∀ k, (X k).fn y = true ∨ (X k).env.scope.names.lookup y = some .local := by intro _; first | exact Or.inl rfl | exact Or.inr rfl) :
    CS X K (.Assign [.Name y p2] (.Name x p3) pos) (sMove i j) := by
  refine ⟨_, fun k => ps_set (by rw [C.n k]; exact C.nd) (by rw [C.n k]; exact hi) (hx k) (pe_var (by rw [C.n k]; exact hN) (hv k) hd hcd) (hs k) (hf k), fun pd F0 H0 F H ρ σ s r ρ' s' o e E q => ?_⟩
  obtain ⟨ds, h, e⟩ := onOw_eq e
  obtain ⟨a, rfl⟩ := Mp_eq e
  cases a
  obtain ⟨p, F', h1, f1, o', rr⟩ := o.freeze h
  exact ⟨_, h1, q _ F' H f1 (o'.set rr)⟩
theorem cAug (C : Fam X P w K mg base N lv) (i : Nat) {x : Str} {p2 : Pos} {op : Operator} {r : R2} {gg : D → D → Option D} (ho : ∀ j, OpR (X j) (inplaceOp op) r) (hv : V2 K r gg) (h : CE X K e f) (hi : N[i]? = some x := by rfl)
    (hx : ∀ j, Loc (X j).env.scope x := by intro _; first | exact Or.inl rfl | exact Or.inr rfl) (hf : ∀ j, (X j).fn x = true ∨ (X j).env.scope.names.lookup x = some .local := by intro _; first | exact Or.inl rfl | exact Or.inr rfl) :
    CS X K (.AugAssign (.Name x p2) op e pos) (sAug i gg f) := by
  obtain ⟨t, h1, h2⟩ := h
  refine ⟨_, fun j => ps_aug (by rw [C.n j]; exact C.nd) (by rw [C.n j]; exact hi) (hx j) (h1 j) (ho j) (hf j), fun pd F0 H0 F H ρ σ s r ρ' s' o e E q => ?_⟩
  obtain ⟨xd, hxd, e⟩ := onSh_eq e
  obtain ⟨y, s1, e1, e⟩ := Mb_eq e
  obtain ⟨z, s2, e0, e⟩ := Mb_eq e
  obtain ⟨e2, rfl⟩ := Mo_eq e0
  obtain ⟨a, rfl⟩ := Mp_eq e
  cases a
  obtain ⟨xv, a1, a2⟩ := o.sh hxd
  refine ⟨xv, a1, h2 pd F0 H0 F H _ σ s y _ o e1 _ fun v F1 H1 x1 d1 r1 => ?_⟩
  have o1 := o.step x1 d1
  exact hv pd F1 H1 xd y z xv v o1.fh (.inl (a2.mono x1.ff)) (.inl r1) e2 _ fun u F2 H2 x2 r2 => q _ F2 H2 (x1.ff.trans x2.ff) ((o1.step x2.lift (d1.grow x2)).set r2)
theorem semS_never : SemS K tNever sFail := fun pd F0 H0 F H ρ σ s r ρ' s' o e E q => (Mf_eq e).elim
/-! loops -/
theorem semS_for {wi : TI} {tg : TG} {tb : TS} {fi : AF} {gg : TGt} {js : List Nat} {body : SF} (hi : SemI K wi fi) (hg : SemG K tg js gg) (hb : SemS K tb body) : SemS K (tFor wi tg tb) (sFor fi gg body) := fun pd F0 H0 F H ρ σ s r ρ' s' o e E q => by
  obtain ⟨items, s1, e1, e⟩ := Mb_eq e
  refine hi pd F0 H0 F H ρ σ s items s1 o e1 _ fun J F1 H1 x1 d1 wk => ?_
  obtain ⟨hsz, wk⟩ := wk
  have q1 := q.from x1.ff
  refine ⟨fun i m σc Hc => i + m = items.length ∧ ∃ Fc ρc sc, Same F1 Fc ∧ Ok K pd F0 H0 Fc Hc ρc σc sc ∧ loopM gg body (items.drop i) ρc sc = some ((r, ρ'), s'), ⟨items.length, by simp, F1, ρ, s1, Same.refl _, o.step x1 d1, e⟩, ?_⟩
  rintro i m σc Hc ⟨him, Fc, ρc, sc, fc, oc, ec⟩
  by_cases hlt : i < items.length
  · have hd : items[i]? = some items[i] := List.getElem?_eq_getElem hlt
    rw [List.drop_eq_getElem_cons hlt] at ec
    unfold loopM at ec
    obtain ⟨w1, w2⟩ := (wk i Fc Hc fc oc.fh).1 _ hd
    refine .inr ⟨w1, ?_⟩
    cases hgg : gg items[i] ρc with
    | none => rw [hgg] at ec; exact (Mf_eq ec).elim
    | some ρ1 =>
      rw [hgg] at ec
      obtain ⟨⟨r1, ρ2⟩, s2, e2, ec⟩ := Mb_eq ec
      refine ⟨fun σn Hn => (r1 = .nx ∨ r1 = .ct) ∧ i + 1 + (m - 1) = items.length ∧ ∃ Fn, Same F1 Fn ∧ Ok K pd F0 H0 Fn Hn ρ2 σn s2, fun σn Hn ⟨h1, h2, Fn, h3, h4⟩ => ⟨m - 1, by omega, h2, Fn, ρ2, s2, h3, h4, ?_⟩, fun x H2 hy => ?_⟩
      · rcases h1 with rfl | rfl <;> exact ec
      · obtain ⟨F2, x2, r2⟩ := w2 x H2 hy
        have o2 := oc.step (x2.lift (pd := pd)) (oc.dok.grow x2)
        refine hg pd F0 H0 F2 H2 ρc ρ1 σc sc _ x o2 r2 hgg _ fun σ3 o3 _ _ => ?_
        refine hb pd F0 H0 F2 H2 ρ1 σ3 sc r1 ρ2 s2 o3 e2 _ ?_
        cases r1 with
        | nx => exact fun σn Fn Hn a b => ⟨.inl rfl, by omega, Fn, fc.trans (x2.ff.trans a), b⟩
        | ct => exact fun σn Fn Hn a b => ⟨.inr rfl, by omega, Fn, fc.trans (x2.ff.trans a), b⟩
        | bk => obtain ⟨a, rfl⟩ := Mp_eq ec; cases a; exact fun σn Fn Hn a b => q1 σn Fn Hn (fc.trans (x2.ff.trans a)) b
        | rt d => obtain ⟨a, rfl⟩ := Mp_eq ec; cases a; exact q1
  · have ei : i = items.length := by omega
    refine .inl ⟨(wk i Fc Hc fc oc.fh).2 ei, ?_⟩
    rw [ei, List.drop_length] at ec
    obtain ⟨a, rfl⟩ := Mp_eq ec
    cases a
    exact q1 σc Fc Hc fc oc
theorem cFor (C : Fam X P w K mg base N lv) {tg iter : Expr} {body : List Stmt} {fi : AF} {gg : TGt} {js : List Nat} (hp : ∀ i, PassesOwn (model (X i).prog (X i).w) (X i).A (X i).env (X i).xe) (hi : CI X K tg iter fi) (hg : CG X K tg js gg) (hb : CSs X K body g)
    (hs : ∀ i, ∀ x, foldedSetIterable iter (X i).env x = pure x := by intro _ _; rfl) : CS X K (.For tg iter body [] pos) (sFor fi gg g) := by
  obtain ⟨wi, i1, i2⟩ := hi
  obtain ⟨tg', g1, g2⟩ := hg
  obtain ⟨tb, b1, b2⟩ := hb
  exact ⟨_, fun i => ps_for (hp i) (C.c i) (i1 i) (g1 i) (b1 i) (hs i), semS_for i2 g2 b2⟩
theorem semS_while {tc : TT} {tb : TS} {ft : TF} {body : SF} (hc : SemT K tc ft) (hb : SemS K tb body) (n : Nat) : SemS K (tWhile tc tb) (whileM ft body n) := fun pd F0 H0 F H ρ σ s r ρ' s' o e E q => by
  refine ⟨fun m σc Hc => ∃ Fc ρc sc, Same F Fc ∧ Ok K pd F0 H0 Fc Hc ρc σc sc ∧ whileM ft body m ρc sc = some ((r, ρ'), s'), ⟨n, F, ρ, s, Same.refl _, o, e⟩, ?_⟩
  rintro m σc Hc ⟨Fc, ρc, sc, fc, oc, ec⟩
  cases m with
  | zero => exact (Mf_eq ec).elim
  | succ m =>
    unfold whileM at ec
    obtain ⟨k, s1, e1, ec⟩ := Mb_eq ec
    refine hc pd F0 H0 Fc Hc ρc σc sc k s1 oc e1 _ fun F1 H1 x1 d1 => ?_
    have o1 := oc.step x1 d1
    have f1 := fc.trans x1.ff
    cases k with
    | false =>
      obtain ⟨a, rfl⟩ := Mp_eq ec
      cases a
      exact iteF (q σc F1 H1 f1 o1)
    | true =>
      refine iteT ?_
      obtain ⟨⟨r1, ρ2⟩, s2, e2, ec⟩ := Mb_eq (show Mb (body ρc) _ s1 = _ from ec)
      refine ⟨fun σn Hn => (r1 = .nx ∨ r1 = .ct) ∧ ∃ Fn, Same F Fn ∧ Ok K pd F0 H0 Fn Hn ρ2 σn s2, fun σn Hn ⟨h1, Fn, h3, h4⟩ => ⟨m, Nat.lt_succ_self _, Fn, ρ2, s2, h3, h4, ?_⟩, ?_⟩
      · rcases h1 with rfl | rfl <;> exact ec
      · refine hb pd F0 H0 F1 H1 ρc σc s1 r1 ρ2 s2 o1 e2 _ ?_
        cases r1 with
        | nx => exact fun σn Fn Hn a b => ⟨.inl rfl, Fn, f1.trans a, b⟩
        | ct => exact fun σn Fn Hn a b => ⟨.inr rfl, Fn, f1.trans a, b⟩
        | bk => obtain ⟨a, rfl⟩ := Mp_eq ec; cases a; exact fun σn Fn Hn a b => q σn Fn Hn (f1.trans a) b
        | rt d => obtain ⟨a, rfl⟩ := Mp_eq ec; cases a; exact q
theorem cWhile {c : Expr} {body : List Stmt} {ft : TF} (hp : ∀ i, PassesOwn (model (X i).prog (X i).w) (X i).A (X i).env (X i).xe) (hc : CT X K c ft) (hb : CSs X K body g) : CS X K (.While c body [] pos) (sWhile ft g) := by
  obtain ⟨tc, c1, c2⟩ := hc
  obtain ⟨tb, b1, b2⟩ := hb
  exact ⟨_, fun i => ps_while (hp i) (c1 i) (b1 i), semS_while c2 b2 FUEL⟩
/-! own lists changed -/
theorem semS_meth {i : Nat} {t : TA} {fa : EF} {r : V → List V → Hp → VK → Prop} {u : List D → D → Option (List D)}
    (ha : ∀ (pd : Option PD) (F0 H0 F H : Hp) (ρ : Rho) (σ : L2.St) (s : DS) (d : D) (s' : DS), Ok K pd F0 H0 F H ρ σ s → fa ρ s = some (d, s') → ∀ Q : List V → Hp → Prop, (∀ v F' H', Ext pd F H F' H' → DOk K pd F' H' s' → RepB K pd F' H' d v → Q [v] H') → t σ H Q)
    (hr : ∀ (pd : Option PD) (F H : Hp) (p : Addr) (xs : List V) (es : List D) (d : D) (v : V) (es' : List D), Same F H → H p = some (.lst xs) → RepL K pd F es xs → es.length ≤ SZ → RepB K pd F H d v → u es d = some es' →
      ∀ Q : VK, (∀ ys, es'.length ≤ SZ → RepL K pd F es' ys → Q .non (upd H p (.lst ys))) → r (.ref p) [v] H Q) :
    SemS K (tDrop (tBM K "list" r (tVar i) t)) (sMeth i u fa) := fun pd F0 H0 F H ρ σ s r' ρ' s' o e E q => by
  obtain ⟨d, s1, e1, e⟩ := Mb_eq e
  obtain ⟨es, hes, e⟩ := onOw_eq e
  obtain ⟨es', hu, e⟩ := onSome_eq e
  obtain ⟨a, rfl⟩ := Mp_eq e
  cases a
  obtain ⟨z, h1, p, xs, rfl, h2, h3, h4, h5, h6, h7⟩ := o.env.at' i _ hes
  refine ⟨.ref p, h1, .inl ⟨rfl, xs, .of h5⟩, ha pd F0 H0 F H _ σ s d _ o e1 _ fun v F1 H1 x1 d1 r1 => ?_⟩
  have o1 := o.step x1 d1
  exact hr pd F1 H1 p xs es d v es' o1.fh (x1.hh _ _ h5 h4) (h7.mono x1.ff) h6 r1 hu _ fun ys hl ry => q σ F1 _ x1.ff (o1.upd hes h1 hl ry)
theorem v_app (pd : Option PD) (F H : Hp) (p : Addr) (xs : List V) (es : List D) (d : D) (v : V) (es' : List D) (fh : Same F H) (hp : H p = some (.lst xs)) (r : RepL K pd F es xs) (hl : es.length ≤ SZ) (rd : Rep K pd F d v) (e : appU es d = some es')
    (Q : VK) (q : ∀ ys, es'.length ≤ SZ → RepL K pd F es' ys → Q .non (upd H p (.lst ys))) : rAppend (.ref p) [v] H Q := by
  unfold appU at e
  split at e
  · rename_i h
    cases e
    exact ⟨p, xs, v, rfl, rfl, hp, by rw [r.length]; exact h, q _ (by simp; exact h) (r.append (.cons rd .nil))⟩
  · cases e
theorem v_ext (pd : Option PD) (F H : Hp) (p : Addr) (xs : List V) (es : List D) (d : D) (v : V) (es' : List D) (fh : Same F H) (hp : H p = some (.lst xs)) (r : RepL K pd F es xs) (hl : es.length ≤ SZ) (rd : RepB K pd F H d v) (e : extU es d = some es')
    (Q : VK) (q : ∀ ys, es'.length ≤ SZ → RepL K pd F es' ys → Q .non (upd H p (.lst ys))) : rExtend (.ref p) [v] H Q := by
  cases d <;> first | (cases e; done) | skip
  rename_i fs
  simp only [extU] at e
  split at e
  · rename_i h
    cases e
    obtain ⟨b, zs, rfl, h1, _, h2⟩ := rd.lst fh
    exact ⟨p, b, xs, zs, rfl, rfl, hp, h1, by rw [r.length, h2.length]; exact h, q _ (by simp; exact h) (r.append h2)⟩
  · cases e
end
section
variable {ι : Type} {X : ι → Cx} {P : Program} {w : World} {K : PySem.W.Frag} {mg : Str → Option Value} {base : Heap} {N : List Str} {lv : Nat} {pos cpos apos : Pos} {st : Stmt} {rest : List Stmt} {e : Expr} {f fk : EF} {g g' : SF}
/-- x.append(e) -/
theorem cApp (C : Fam X P w K mg base N lv) (i : Nat) {x : Str} {p2 : Pos} (h : CE X K e f) (hN : N[i]? = some x := by rfl) (hv : ∀ j, Vis (X j).env.scope x := by intro _; first | exact Or.inl rfl | exact Or.inr (Or.inl rfl) | exact Or.inr (Or.inr rfl))
    (hd : (x == ("__debug__" : Str)) = false := by decide) (hcd : (x == ("__classdict__" : Str)) = false := by decide)
    (hbase : ∀ j, attributeBase (.Name x p2) "append" (X j).env (eval (.Name x p2) (X j).env) = eval (.Name x p2) (X j).env := by intro _; rfl)
    (hfew : ∀ j, ((backTo cpos (starEach [e] (X j).env)).all (fun x => !x.1) && (backToKw cpos (keywordEach [] (X j).env)).all (fun x => x.1.isSome)
      && decide (([e] : List Expr).length + ([] : List Keyword).length + (if ([] : List Keyword).isEmpty then 0 else 1) < 30)) = true := by intro _; rfl)
    (hline : (apos.endLine == cpos.line) = true := by rfl) (hs : ∀ j, starEach [e] (X j).env = (false, eval e (X j).env) :: starEach [] (X j).env := by intro _; rfl) (hplain : ∀ j, (backTo cpos (starEach [] (X j).env)).any (·.1) = false := by intro _; rfl)
    (hsw : ∀ j, swapsWith (.Call (.Attribute (.Name x p2) "append" apos) [e] [] cpos) none pos.line (X j).env = pure false := by intro _; rfl) :
    CS X K (.Expr (.Call (.Attribute (.Name x p2) "append" apos) [e] [] cpos) pos) (sMeth i appU f) := by
  obtain ⟨t, h1, h2⟩ := h
  refine ⟨tDrop (tBM K "list" rAppend (tVar i) (tCons t tNil)), fun j => ps_expr (by
    have := pe_bm (X := X j) (cpos := cpos) (apos := apos) PySem.F.plainAttrs_list PySem.F.slot_list_append PySem.F.type_list_append mt_append (pe_var (pos := p2) (by rw [C.n j]; exact hN) (hv j) hd hcd) (pa_cons (h1 j) pa_nil (hs j)) (hbase j) (hfew j) hline (hs j) (hplain j)
    rw [C.k j] at this
    exact this) (hsw j), ?_⟩
  intro pd F0 H0 F H ρ σ s r' ρ' s' o e E q
  obtain ⟨d, s1, e1, e⟩ := Mb_eq e
  obtain ⟨es, hes, e⟩ := onOw_eq e
  obtain ⟨es', hu, e⟩ := onSome_eq e
  obtain ⟨a, rfl⟩ := Mp_eq e
  cases a
  obtain ⟨z, a1, p, xs, rfl, a2, a3, a4, a5, a6, a7⟩ := o.env.at' i _ hes
  refine ⟨.ref p, a1, .inl ⟨rfl, xs, .of a5⟩, h2 pd F0 H0 F H _ σ s d _ o e1 _ fun v F1 H1 x1 d1 r1 => ?_⟩
  have o1 := o.step x1 d1
  exact v_app pd F1 H1 p xs es d v es' o1.fh (x1.hh _ _ a5 a4) (a7.mono x1.ff) a6 r1 hu (fun _ Hn => E.nx σ Hn) fun ys hl ry => q σ F1 _ x1.ff (o1.upd hes a1 hl ry)
/-- x.extend(e) -/
theorem cExt (C : Fam X P w K mg base N lv) (i : Nat) {x : Str} {p2 : Pos} (h : CB X K e f) (hN : N[i]? = some x := by rfl) (hv : ∀ j, Vis (X j).env.scope x := by intro _; first | exact Or.inl rfl | exact Or.inr (Or.inl rfl) | exact Or.inr (Or.inr rfl))
    (hd : (x == ("__debug__" : Str)) = false := by decide) (hcd : (x == ("__classdict__" : Str)) = false := by decide)
    (hbase : ∀ j, attributeBase (.Name x p2) "extend" (X j).env (eval (.Name x p2) (X j).env) = eval (.Name x p2) (X j).env := by intro _; rfl)
    (hfew : ∀ j, ((backTo cpos (starEach [e] (X j).env)).all (fun x => !x.1) && (backToKw cpos (keywordEach [] (X j).env)).all (fun x => x.1.isSome)
      && decide (([e] : List Expr).length + ([] : List Keyword).length + (if ([] : List Keyword).isEmpty then 0 else 1) < 30)) = true := by intro _; rfl)
    (hline : (apos.endLine == cpos.line) = true := by rfl) (hs : ∀ j, starEach [e] (X j).env = (false, eval e (X j).env) :: starEach [] (X j).env := by intro _; rfl) (hplain : ∀ j, (backTo cpos (starEach [] (X j).env)).any (·.1) = false := by intro _; rfl)
    (hsw : ∀ j, swapsWith (.Call (.Attribute (.Name x p2) "extend" apos) [e] [] cpos) none pos.line (X j).env = pure false := by intro _; rfl) :
    CS X K (.Expr (.Call (.Attribute (.Name x p2) "extend" apos) [e] [] cpos) pos) (sMeth i extU f) := by
  obtain ⟨t, h1, h2⟩ := h
  refine ⟨tDrop (tBM K "list" rExtend (tVar i) (tCons t tNil)), fun j => ps_expr (by
    have := pe_bm (X := X j) (cpos := cpos) (apos := apos) PySem.F.plainAttrs_list PySem.F.slot_list_extend PySem.F.type_list_extend mt_extend (pe_var (pos := p2) (by rw [C.n j]; exact hN) (hv j) hd hcd) (pa_cons (h1 j) pa_nil (hs j)) (hbase j) (hfew j) hline (hs j) (hplain j)
    rw [C.k j] at this
    exact this) (hsw j), semS_meth (fun pd F0 H0 F H ρ σ s d s' o e Q q => h2 pd F0 H0 F H ρ σ s d s' o e _ fun v F' H' x y z => q v F' H' x y z) v_ext⟩
/-- x[k] = e -/
theorem cPut (C : Fam X P w K mg base N lv) (i : Nat) {x : Str} {p2 p3 : Pos} {ek : Expr} (h : CE X K e f) (hk : CE X K ek fk) (hN : N[i]? = some x := by rfl) (hv : ∀ j, Vis (X j).env.scope x := by intro _; first | exact Or.inl rfl | exact Or.inr (Or.inl rfl) | exact Or.inr (Or.inr rfl))
    (hd : (x == ("__debug__" : Str)) = false := by decide) (hcd : (x == ("__classdict__" : Str)) = false := by decide)
    (ha : ∀ j, ∀ v, assign (.Subscript (.Name x p2) ek p3) (X j).env v = (do
      let ov ← holding [v] (eval (.Name x p2) (X j).env)
      let iv ← holding [v, ov] (eval ek (X j).env)
      standAt p3
      holding [v, ov, iv] (setItem ov iv v)
      release [v, ov, iv] []) := by intro _ _; rfl)
    (hs : ∀ j, swapsWithSole [.Subscript (.Name x p2) ek p3] e pos.line (X j).env = pure false := by intro _; rfl) (hw : ∀ j, swappedStores [.Subscript (.Name x p2) ek p3] e (X j).env = pure none := by intro _; rfl)
    (h1 : ∀ j, (assignEach [.Subscript (.Name x p2) ek p3] (X j).env).map (·.2) = [assign (.Subscript (.Name x p2) ek p3) (X j).env] := by intro _; rfl) :
    CS X K (.Assign [.Subscript (.Name x p2) ek p3] e pos) (sPut i fk f) := by
  obtain ⟨t, e1, e2⟩ := h
  obtain ⟨tk, k1, k2⟩ := hk
  refine ⟨_, fun j => ps_asg (e1 j) (pg_sub (pe_var (by rw [C.n j]; exact hN) (hv j) hd hcd) (k1 j) set_list (ha j)) (hs j) (hw j) (h1 j), fun pd F0 H0 F H ρ σ s r ρ' s' o e E q => ?_⟩
  obtain ⟨d, s1, a1, e⟩ := Mb_eq e
  obtain ⟨kd, s2, a2, e⟩ := Mb_eq e
  obtain ⟨ds, hds, e⟩ := onOw_eq e
  obtain ⟨k, rfl, e⟩ := onInt_eq e
  obtain ⟨j, hj, e⟩ := onSome_eq e
  obtain ⟨a, rfl⟩ := Mp_eq e
  cases a
  refine e2 pd F0 H0 F H _ σ s d _ o a1 _ fun v F1 H1 x1 d1 r1 => ?_
  have o1 := o.step x1 d1
  obtain ⟨z, b1, p, xs, rfl, b2, b3, b4, b5, b6, b7⟩ := o1.env.at' i _ hds
  refine ⟨.ref p, b1, k2 pd F0 H0 F1 H1 _ σ s1 _ _ o1 a2 _ fun kv F2 H2 x2 d2 r2 => ?_⟩
  have o2 := o1.step x2 d2
  simp only [Rep] at r2
  refine ⟨p, xs, k, j, rfl, r2, x2.hh _ _ b5 b4, by rw [b7.length]; exact hj, q σ F2 _ (x1.ff.trans x2.ff) (o2.upd hds b1 (by rw [List.length_set]; exact b6) ((b7.mono x2.ff).set j (r1.mono x2.ff)))⟩
theorem pget_list {X : Cx} (hK : X.K = K) : PGet X (rIxL K) := by
  subst hK
  intro pins s σ H o i ov iv Q I ro ri h
  obtain ⟨p, xs, k, v, rfl, rfl, hq, he, q⟩ := h
  cases ro
  obtain ⟨t, rfl⟩ := ri
  obtain ⟨its, r, pl, hz⟩ := I.list hq
  obtain ⟨j, h1, h2, h3, h4, h5⟩ := atI_get he
  obtain ⟨u, eu, ru⟩ := r.get h2
  have hl := r.length
  have hn := line63
  have fin : EP X pins σ Q u s := ⟨v, H, I, ru, q⟩
  by_cases h0 : 0 ≤ k
  · have hj : k.toNat = j := by
      rw [seqIndex_of h0 h5] at h1
      exact Option.some.inj h1
    exact wpAny_getItem_list pl.isList h0 (by omega) (by rw [hj]; simpa using eu) fin
  · have hj : (k + (its.toArray.size : Int)).toNat = j := by
      rw [seqIndex_neg (by omega) h4] at h1
      rw [List.size_toArray, ← hl]
      exact Option.some.inj h1
    exact wpAny_getItem_list_neg pl.isList (by omega) (by rw [List.size_toArray] <;> omega) (by omega) (by rw [hj]; simpa using eu) fin
/-- x[k] op= e -/
theorem cAugIx (C : Fam X P w K mg base N lv) (i : Nat) {x : Str} {p2 p3 : Pos} {ek : Expr} {op : Operator} {r : R2} {gg : D → D → Option D} (ho : ∀ j, OpR (X j) (inplaceOp op) r) (hvv : V2 K r gg) (hk : CE X K ek fk) (h : CE X K e f) (hN : N[i]? = some x := by rfl)
    (hv : ∀ j, Vis (X j).env.scope x := by intro _; first | exact Or.inl rfl | exact Or.inr (Or.inl rfl) | exact Or.inr (Or.inr rfl))
    (hd : (x == ("__debug__" : Str)) = false := by decide) (hcd : (x == ("__classdict__" : Str)) = false := by decide)
    (ha : ∀ ov iv new, augStore ek ov iv new = (do holding [new, ov, iv] (setItem ov iv new); release [new, ov, iv] []; pure .next) := by intros; rfl) :
    CS X K (.AugAssign (.Subscript (.Name x p2) ek p3) op e pos) (sAugIx i gg fk f) := by
  obtain ⟨t, e1, e2⟩ := h
  obtain ⟨tk, k1, k2⟩ := hk
  refine ⟨_, fun j => ps_augS (pe_var (by rw [C.n j]; exact hN) (hv j) hd hcd) (k1 j) (pget_list (C.k j)) (e1 j) (ho j) set_list ha, fun pd F0 H0 F H ρ σ s r ρ' s' o e E q => ?_⟩
  obtain ⟨kd, s1, a1, e⟩ := Mb_eq e
  obtain ⟨ds, hds, e⟩ := onOw_eq e
  obtain ⟨k, rfl, e⟩ := onInt_eq e
  obtain ⟨j, hj, e⟩ := onSome_eq e
  obtain ⟨x0, hx0, e⟩ := onSome_eq e
  obtain ⟨y, s2, a2, e⟩ := Mb_eq e
  obtain ⟨z, s3, a3, e⟩ := Mb_eq e
  obtain ⟨a3, rfl⟩ := Mo_eq a3
  obtain ⟨a, rfl⟩ := Mp_eq e
  cases a
  obtain ⟨zz, b1, p, xs, rfl, b2, b3, b4, b5, b6, b7⟩ := o.env.at' i _ hds
  refine ⟨.ref p, b1, k2 pd F0 H0 F H _ σ s _ _ o a1 _ fun kv F1 H1 x1 d1 r1 => ?_⟩
  have o1 := o.step x1 d1
  simp only [Rep] at r1
  obtain ⟨xv, hxv, rxv⟩ := b7.get hx0
  have hp1 := x1.hh _ _ b5 b4
  refine ⟨p, xs, k, xv, rfl, r1, .of hp1, by unfold atI; rw [b7.length, hj]; exact hxv, e2 pd F0 H0 F1 H1 _ σ s1 y _ o1 a2 _ fun v F2 H2 x2 d2 r2 => ?_⟩
  have o2 := o1.step x2 d2
  refine hvv pd F2 H2 x0 y z xv v o2.fh (.inl ((rxv.mono x1.ff).mono x2.ff)) (.inl r2) (by assumption) _ fun u F3 H3 x3 r3 => ?_
  have o3 := o2.step (x3.lift (pd := pd)) (d2.grow x3)
  refine ⟨p, xs, k, j, rfl, r1, x3.same _ _ (x2.hh _ _ hp1 b4), by rw [b7.length]; exact hj, q σ F3 _ (x1.ff.trans (x2.ff.trans x3.ff)) (o3.upd hds b1 (by rw [List.length_set]; exact b6) ((((b7.mono x1.ff).mono x2.ff).mono x3.ff).set j r3))⟩
end

/-! ### defs -/
abbrev FnP (K : PySem.W.Frag) (x : Str) (st : Stmt) (f : Addr) (fd : FuncData) : Prop := FunD K x x (defArgs st) (defBody st) (defScope st) [] [] f fd
theorem FnP.okP {P : Program} {w : World} {K : PySem.W.Frag} {mg : Str → Option Value} {base : Heap} {x : Str} {st : Stmt} {f : Addr} {fd : FuncData} {N ps : List Str} {k : Nat} {sp : Sp} (F : FnP K x st f fd) (S : FnScope N ps (defScope st)) (len : ∀ vs H Q E, sp vs H Q E → vs.length = ps.length)
    (hbody : ∀ (cdv : Value) (A : Around) (outer : List Env) (s : Shared) (H : Hp) (vs : List V) (Q : VK) (E : XK), Room k (A.deeper (envOfC x (defScope st) s.heap.objs.size f cdv)) → sp vs H Q E →
      ∃ t, PSs (cxOf CX0 P w K mg base N x (defScope st) f cdv A outer s H E).nox (defBody st) t ∧ t { nx := fun _ H' => Q .non H', rt := Q } (L2.start N vs) H) : FnOk P w K mg base CX0 (k + 1) f fd ps sp :=
  F.ok S len fun cdv A outer s H vs Q E hr h => let ⟨t, t1, t2⟩ := hbody cdv A outer s H vs Q E hr h; ⟨t, PSs.nox t1, t2⟩
def runDef (n k : Nat) (g : SF) (args : List D) : M D := if args.length = k then Mb (g (args.map Slot.sh ++ List.replicate (n - args.length) Slot.un)) fun r => match r with
  | (.rt d, _) => Mp d
  | (.nx, _) => Mp .non
  | _ => Mf else Mf
def spM (K : PySem.W.Frag) (m : List D → M D) : Sp := fun vs H Q _ => ∃ (pd : Option PD) (F : Hp) (args : List D) (s : DS) (d : D) (s' : DS), Same F H ∧ DOk K pd F H s ∧ RepL K pd F args vs ∧ m args s = some (d, s') ∧
  ∀ v F' H', Ext pd F H F' H' → DOk K pd F' H' s' → Rep K pd F' d v → Q v H'
/-- a def of the text, its mirror m -/
structure DefOk (P : Program) (w : World) (K : PySem.W.Frag) (mg : Str → Option Value) (base : Heap) (name : Str) (k : Nat) (ps : List Str) (m : List D → M D) : Prop where
  ex : ∃ f fd, FnOk P w K mg base CX0 k f fd ps (spM K m) ∧ mg name = some (.ref f) ∧ PySem.W.keepIn K (.ref f) = true ∧ Binds K fd ps []
/-- the entries of a def -/
structure EntI (k : Nat) (qual : Str) (scope : Scope) (f : Addr) where
  cdv : Value
  A : Around
  outer : List Env
  s : Shared
  H : Hp
  E : XK
  hr : Room k (A.deeper (envOfC qual scope s.heap.objs.size f cdv))
abbrev entF (P : Program) (w : World) (K : PySem.W.Frag) (mg : Str → Option Value) (base : Heap) (N : List Str) (k : Nat) (qual : Str) (scope : Scope) (f : Addr) : EntI k qual scope f → Cx :=
  fun i => (cxOf CX0 P w K mg base N qual scope f i.cdv i.A i.outer i.s i.H i.E).nox
section
variable {P : Program} {w : World} {K : PySem.W.Frag} {mg : Str → Option Value} {base : Heap}
theorem Fam.ent {N : List Str} {k : Nat} {qual : Str} {scope : Scope} {f : Addr} (nd : N.Nodup) : Fam (entF P w K mg base N k qual scope f) P w K mg base N k :=
  ⟨fun _ => rfl, fun _ => rfl, fun _ => rfl, fun _ => rfl, fun _ => rfl, fun _ => rfl, fun _ => rfl, nd, fun i => ⟨i.hr.hd, i.hr.dp, i.hr.un⟩⟩
theorem ok_start {pd : Option PD} {F H : Hp} {N : List Str} {args : List D} {vs : List V} {s : DS} (fh : Same F H) (d : DOk K pd F H s) (r : RepL K pd F args vs) :
    Ok K pd F H F H (args.map Slot.sh ++ List.replicate (N.length - args.length) Slot.un) (L2.start N vs) s := by
  refine ⟨.refl fh, ⟨by simp [L2.start, r.length], fun i sl e => ?_, fun i j es fs p hij e1 => ?_⟩, d⟩
  · by_cases hi : i < args.length
    · rw [List.getElem?_append_left (by simpa using hi), List.getElem?_map, List.getElem?_eq_getElem hi] at e
      cases e
      obtain ⟨x, h1, h2⟩ := r.get (List.getElem?_eq_getElem hi)
      refine ⟨some x, ?_, x, rfl, h2⟩
      unfold L2.start
      rw [List.getElem?_append_left (by simpa [r.length] using hi), List.getElem?_map, h1]
      rfl
    · rw [List.getElem?_append_right (by simpa using hi), List.getElem?_replicate] at e
      split at e
      · cases e
        rename_i hlt
        refine ⟨none, ?_, trivial⟩
        unfold L2.start
        rw [List.getElem?_append_right (by simpa [r.length] using hi), List.getElem?_replicate, if_pos (by simpa [r.length] using hlt)]
      · cases e
  · exfalso
    have hm := List.mem_of_getElem? e1
    simp at hm
theorem runDef_len {n k : Nat} {g : SF} {args : List D} {s : DS} {r : D × DS} (h : runDef n k g args s = some r) : args.length = k := by
  unfold runDef at h
  split at h
  · assumption
  · cases h
theorem runDef_eq {n k : Nat} {g : SF} {args : List D} {s s' : DS} {d : D} (h : runDef n k g args s = some (d, s')) : ∃ r ρ', g (args.map Slot.sh ++ List.replicate (n - args.length) Slot.un) s = some ((r, ρ'), s') ∧ (r = .rt d ∨ (r = .nx ∧ d = .non)) := by
  unfold runDef at h
  split at h
  · obtain ⟨⟨r, ρ'⟩, s1, e1, e2⟩ := Mb_eq h
    cases r with
    | nx => obtain ⟨rfl, rfl⟩ := Mp_eq e2; exact ⟨_, _, e1, .inr ⟨rfl, rfl⟩⟩
    | rt d' => obtain ⟨rfl, rfl⟩ := Mp_eq e2; exact ⟨_, _, e1, .inl rfl⟩
    | bk => exact (Mf_eq e2).elim
    | ct => exact (Mf_eq e2).elim
  · cases h
/-- THE RULE for a def -/
theorem def_ok {x : Str} {st : Stmt} {f : Addr} {fd : FuncData} {N ps : List Str} {k : Nat} {g : SF} (F : FnP K x st f fd) (S : FnScope N ps (defScope st)) (h : CSs (entF P w K mg base N k x (defScope st) f) K (defBody st) g)
    (hm : mg x = some (.ref f)) (hb : Binds K fd ps []) (n : Nat := N.length) (kk : Nat := ps.length) (hn : N.length = n := by rfl) (hk : ps.length = kk := by rfl) : DefOk P w K mg base x (k + 1) ps (runDef n kk g) := by
  subst hn; subst hk
  refine ⟨f, fd, F.okP S (fun vs H Q E h => ?_) (fun cdv A outer s H vs Q E hr h' => ?_), hm, F.kp, hb⟩
  · obtain ⟨pd, F, args, s, d, s', _, _, r, e, _⟩ := h
    rw [r.length]
    exact runDef_len e
  · obtain ⟨t, t1, t2⟩ := h
    obtain ⟨pd, F, args, s0, d, s', fh, dk, r, e, q⟩ := h'
    refine ⟨t, t1 ⟨cdv, A, outer, s, H, E, hr⟩, ?_⟩
    obtain ⟨r1, ρ', e1, e2⟩ := runDef_eq e
    refine t2 pd F H F H _ _ s0 r1 ρ' s' (ok_start fh dk r) e1 _ ?_
    rcases e2 with rfl | ⟨rfl, rfl⟩
    · exact fun v F' H' a b c => q v F' H' a b c
    · exact fun σ' F' H' a b => q .non F' H' b.ext b.dok (by simp [Rep])
end
def xCall (m : List D → M D) (a : AF) : EF := fun ρ => Mb (a ρ) m
mutual
def noL : D → Bool
  | .lst _ => false
  | .rng => false
  | .tup ds => noLs ds
  | _ => true
def noLs : List D → Bool
  | [] => true
  | d :: ds => noL d && noLs ds
end
/-- a call whose arguments may be own lists; what comes back holds no list -/
def xCallB (m : List D → M D) (a : AF) : EF := fun ρ => Mb (a ρ) fun xs => Mb (m xs) fun d => if noL d = true then Mp d else Mf
section
variable {K : PySem.W.Frag} {pd : Option PD} {F F' H : Hp}
mutual
/-- data without lists lean on tuples alone -/
theorem Rep.keep (h : ∀ a xs, F a = some (.tup xs) → F' a = some (.tup xs)) (h' : ∀ a o xs, F a = some (.frz o (.tup xs)) → F' a = some (.frz o (.tup xs))) : ∀ {d : D} {v : V}, noL d = true → Rep K pd F d v → Rep K pd F' d v
  | .non, _, _, r => by simpa only [Rep] using r
  | .bl _, _, _, r => by simpa only [Rep] using r
  | .int _, _, _, r => by simpa only [Rep] using r
  | .str _, _, _, r => by simpa only [Rep] using r
  | .rng, _, n, _ => by simp [noL] at n
  | .lst _, _, n, _ => by simp [noL] at n
  | .tup ds, _, n, r => by
    simp only [Rep] at r ⊢
    obtain ⟨a, xs, e, s, hl, q⟩ := r
    refine ⟨a, xs, e, ?_, hl, RepL.keep h h' (by simpa only [noL] using n) q⟩
    rcases s with (s | ⟨o, s⟩) | s
    · exact .inl (.inl (h _ _ s))
    · exact .inl (.inr ⟨o, h' _ _ _ s⟩)
    · exact .inr s
theorem RepL.keep (h : ∀ a xs, F a = some (.tup xs) → F' a = some (.tup xs)) (h' : ∀ a o xs, F a = some (.frz o (.tup xs)) → F' a = some (.frz o (.tup xs))) : ∀ {ds : List D} {xs : List V}, noLs ds = true → RepL K pd F ds xs → RepL K pd F' ds xs
  | [], _, _, r => by simpa only [RepL] using r
  | d :: ds, _, n, r => by
    obtain ⟨y, ys, rfl, r1, r2⟩ := r.cases
    simp only [noLs, Bool.and_eq_true] at n
    exact .cons (Rep.keep h h' n.1 r1) (RepL.keep h h' n.2 r2)
end
end
section
variable {ι : Type} {X : ι → Cx} {P : Program} {w : World} {K : PySem.W.Frag} {mg : Str → Option Value} {base : Heap} {N : List Str} {lv : Nat} {pos p : Pos} {e : Expr} {es : List Expr} {g : AF} {x : Str} {k : Nat} {ps : List Str} {m : List D → M D}
theorem cCall (C : Fam X P w K mg base N lv) (Df : DefOk P w K mg base x k ps m) (hk : k ≤ lv) (ha : CA X K (e :: es) g) (hg : ∀ i, Gl (X i) x := by intro _; rfl) (hdb : (x == ("__debug__" : Str)) = false := by decide)
    (he : ∀ i, starEach (e :: es) (X i).env = (false, eval e (X i).env) :: starEach es (X i).env := by intro _; rfl) (hpl : ∀ i, (backTo pos (starEach es (X i).env)).any (·.1) = false := by intro _; rfl) :
    CE X K (.Call (.Name x p) (e :: es) [] pos) (xCall m g) := by
  obtain ⟨f, fd, F, hm, kp, hb⟩ := Df.ex
  obtain ⟨t, h1, h2⟩ := ha
  refine ⟨tCall (spM K m) [] E0 t, fun i => ?_, fun pd F0 H0 F H ρ σ s d s' o e Q q => ?_⟩
  · have hF : FnOk (X i).prog (X i).w (X i).K (X i).mg (X i).base CX0 k f fd ps (spM K m) := by rw [C.p i, C.w i, C.k i, C.m i, C.b i]; exact F
    exact pe_call hF ((C.r i).mono hk) (hg i) (by rw [C.m i]; exact hm) (by rw [C.k i]; exact kp) (by rw [C.k i]; exact hb) .nil pass0 (h1 i) hdb (he i) (hpl i)
  · obtain ⟨xs, s1, e1, e2⟩ := Mb_eq e
    refine h2 pd F0 H0 F H ρ σ s xs s1 o e1 _ fun vs F1 H1 x1 d1 r1 => ?_
    rw [List.append_nil]
    exact ⟨pd, F1, xs, s1, d, s', (o.step x1 d1).fh, d1, r1, e2, fun v F' H' x2 d2 r2 => q v F' H' (x1.trans x2) d2 r2⟩
theorem cCallB' (C : Fam X P w K mg base N lv) (Df : DefOk P w K mg base x k ps m) (hk : k ≤ lv) (ha : CAB X K (e :: es) g) (hg : ∀ i, Gl (X i) x := by intro _; rfl) (hdb : (x == ("__debug__" : Str)) = false := by decide)
    (he : ∀ i, starEach (e :: es) (X i).env = (false, eval e (X i).env) :: starEach es (X i).env := by intro _; rfl) (hpl : ∀ i, (backTo pos (starEach es (X i).env)).any (·.1) = false := by intro _; rfl) :
    CE X K (.Call (.Name x p) (e :: es) [] pos) (xCallB m g) := by
  obtain ⟨f, fd, F, hm, kp, hb⟩ := Df.ex
  obtain ⟨t, h1, h2⟩ := ha
  refine ⟨tCall (spM K m) [] E0 t, fun i => ?_, fun pd F0 H0 F H ρ σ s d s' o e Q q => ?_⟩
  · have hF : FnOk (X i).prog (X i).w (X i).K (X i).mg (X i).base CX0 k f fd ps (spM K m) := by rw [C.p i, C.w i, C.k i, C.m i, C.b i]; exact F
    exact pe_call hF ((C.r i).mono hk) (hg i) (by rw [C.m i]; exact hm) (by rw [C.k i]; exact kp) (by rw [C.k i]; exact hb) .nil pass0 (h1 i) hdb (he i) (hpl i)
  · obtain ⟨xs, s1, e1, e⟩ := Mb_eq e
    obtain ⟨d', s2, e2, e⟩ := Mb_eq e
    split at e
    · rename_i hno
      obtain ⟨rfl, rfl⟩ := Mp_eq e
      refine h2 pd F0 H0 F H ρ σ s xs s1 o e1 _ fun vs F1 H1 x1 d1 r1 => ?_
      have o1 := o.step x1 d1
      rw [List.append_nil]
      -- what is borrowed is told for the time of the call
      have hFb : ∃ Fb : Hp, (∀ a u, F1 a = some u → Fb a = some u) ∧ (∀ a u, Fb a = some u → H1 a = some u) ∧ (∀ a, some a = pp pd → Fb a = F1 a) ∧ RepL K pd Fb xs vs ∧ (∀ a, Fb a = F1 a ∨ ∃ ys, Fb a = some (.lst ys)) := by
        classical
        refine ⟨fun a => if V.ref a ∈ vs ∧ some a ≠ pp pd ∧ ∃ ys, H1 a = some (.lst ys) then H1 a else F1 a, fun a u h => ?_, fun a u h => ?_, fun a h => ?_, ?_, fun a => ?_⟩
        · show (if V.ref a ∈ vs ∧ some a ≠ pp pd ∧ ∃ ys, H1 a = some (.lst ys) then H1 a else F1 a) = some u
          split
          · exact o1.fh _ _ h
          · exact h
        · have h : (if V.ref a ∈ vs ∧ some a ≠ pp pd ∧ ∃ ys, H1 a = some (.lst ys) then H1 a else F1 a) = some u := h
          split at h
          · exact h
          · exact o1.fh _ _ h
        · show (if V.ref a ∈ vs ∧ some a ≠ pp pd ∧ ∃ ys, H1 a = some (.lst ys) then H1 a else F1 a) = F1 a
          rw [if_neg (fun z => z.2.1 h)]
        · have key : ∀ {xs : List D} {ws : List V}, RepBL K pd F1 H1 xs ws → (∀ v ∈ ws, v ∈ vs) → RepL K pd (fun a => if V.ref a ∈ vs ∧ some a ≠ pp pd ∧ ∃ ys, H1 a = some (.lst ys) then H1 a else F1 a) xs ws := by
            intro xs ws r
            induction r with
            | nil => intro _; exact .nil
            | @cons dd dds v ws h t ih =>
              intro hm
              have sm : Same F1 (fun a => if V.ref a ∈ vs ∧ some a ≠ pp pd ∧ ∃ ys, H1 a = some (.lst ys) then H1 a else F1 a) := fun a u h => by
                show (if V.ref a ∈ vs ∧ some a ≠ pp pd ∧ ∃ ys, H1 a = some (.lst ys) then H1 a else F1 a) = some u
                split
                · exact o1.fh _ _ h
                · exact h
              refine .cons ?_ (ih fun v hv => hm v (List.mem_cons_of_mem _ hv))
              rcases h with h | ⟨p, es, ys, rfl, rfl, h3, h4, h5, h6, h7⟩
              · exact h.mono sm
              · simp only [Rep]
                exact ⟨p, ys, rfl, by rw [if_pos ⟨hm _ (by simp), h4, ys, h3⟩]; exact h3, h6, h7.mono sm⟩
          exact key r1 fun v hv => hv
        · show (if V.ref a ∈ vs ∧ some a ≠ pp pd ∧ ∃ ys, H1 a = some (.lst ys) then H1 a else F1 a) = F1 a ∨ ∃ ys, (if V.ref a ∈ vs ∧ some a ≠ pp pd ∧ ∃ ys, H1 a = some (.lst ys) then H1 a else F1 a) = some (.lst ys)
          split
          · rename_i z; exact .inr z.2.2
          · exact .inl rfl
      obtain ⟨Fb, b1, b2, b3, b4, b5⟩ := hFb
      have db : DOk K pd Fb H1 s1 := by
        cases pd with
        | none => trivial
        | some y =>
          obtain ⟨c1, c2, c3, c4⟩ := d1
          exact ⟨by rw [b3 _ rfl]; exact c1, c2, c3, b1 _ _ c4⟩
      refine ⟨pd, Fb, xs, s1, d', s2, b2, db, b4, e2, fun v F' H' x2 d2 r2 => ?_⟩
      classical
      let F2 : Hp := fun a => if F1 a = none ∧ H1 a ≠ none then none else F' a
      have k1 : ∀ a u, F' a = some u → ¬ (F1 a = none ∧ H1 a ≠ none) → F2 a = some u := fun a u h n => by
        show (if F1 a = none ∧ H1 a ≠ none then none else F' a) = some u
        rw [if_neg n]; exact h
      have k2 : ∀ a u, F2 a = some u → F' a = some u ∧ ¬ (F1 a = none ∧ H1 a ≠ none) := fun a u h => by
        have h : (if F1 a = none ∧ H1 a ≠ none then none else F' a) = some u := h
        split at h
        · cases h
        · rename_i n; exact ⟨h, n⟩
      have keep1 : ∀ a u, F1 a = some u → F2 a = some u := fun a u h => k1 a u (x2.ff _ _ (b1 _ _ h)) fun z => by rw [h] at z; exact absurd z.1 (by simp)
      have xx : Ext pd F1 H1 F2 H' := by
        refine ⟨keep1, x2.hh, x2.hd, fun a u h => ?_, fun a u h => x2.fh _ _ (k2 a u h).1⟩
        obtain ⟨h, n⟩ := k2 a u h
        rcases x2.nw a u h with z | z
        · cases hF : F1 a with
          | none => exact absurd ⟨hF, by rw [b2 _ _ z]; simp⟩ n
          | some u' =>
            have := x2.ff _ _ (b1 _ _ hF)
            rw [h] at this; cases this; exact .inl rfl
        · exact .inr z
      refine q v F2 H' (x1.trans xx) ?_ ?_
      · cases pd with
        | none => trivial
        | some y =>
          obtain ⟨c1, c2, c3, c4⟩ := d2
          refine ⟨?_, c2, c3, ?_⟩
          · cases hz : F2 y.p with
            | none => rfl
            | some u => rw [(k2 _ _ hz).1] at c1; cases c1
          · obtain ⟨_, _, _, c4'⟩ := d1
            have := keep1 _ _ c4'
            have h0 := (k2 _ _ this).1
            rw [c4] at h0
            rw [this]; exact h0.symm
      · have known : ∀ a u, F' a = some u → (∀ ys, u ≠ .lst ys) → F2 a = some u := fun a u h ne => k1 a u h fun n => by
          rcases x2.nw a u h with z | z
          · rcases b5 a with y | ⟨ys, y⟩
            · rw [y] at z; rw [n.1] at z; cases z
            · rw [y] at z; cases z; exact ne ys rfl
          · exact n.2 z
        exact r2.keep (fun a ys h => known a _ h fun _ z => by cases z) (fun a ob ys h => known a _ h fun _ z => by cases z) hno
    · exact (Mf_eq e).elim
end
end Pu
namespace Pu
open PySem PySem.Spec PyProof.Rows L2

/-! ### enumerate, zip over lists and tuples as they come (b: a tuple) -/
def SqA (K : PySem.W.Frag) (H : Hp) (b : Bool) (a : Addr) (xs : List V) : Prop := if b = true then SqT K H a xs else SqL K H a xs
def ItA (h : Heap) (b : Bool) (it a : Addr) (i : Nat) : Prop := if b = true then h.IsTupleIter it a i else h.IsListIter it a i
def SeqB (h : Heap) (b : Bool) (a : Addr) (its : Array Value) : Prop := if b = true then h.IsTuple a its else h.IsList a its
def itOb (b : Bool) (a : Addr) : Obj := if b = true then { cls := .type "tuple_iterator", data := .fields #[.ref a, .int 0 0] } else { cls := .type "list_iterator", data := .fields #[.ref a, .int 0 0] }
theorem ItA.ob {h : Heap} {b : Bool} {it a : Addr} {i : Nat} (x : ItA h b it a i) : ∃ o, h.get? it = some o ∧ ∀ v, o.data ≠ .cell v := by
  unfold ItA at x
  cases b
  · obtain ⟨o, h1, _, h2⟩ : h.IsListIter it a i := x
    exact ⟨o, h1, fun v q => by rw [h2] at q; cases q⟩
  · obtain ⟨o, h1, _, h2⟩ : h.IsTupleIter it a i := x
    exact ⟨o, h1, fun v q => by rw [h2] at q; cases q⟩
theorem ItA.at' {h h' : Heap} {b : Bool} {it a : Addr} {i : Nat} (x : ItA h b it a i) (e : ∀ o, h.get? it = some o → h'.get? it = some o) : ItA h' b it a i := by
  unfold ItA at x ⊢
  cases b
  · exact Heap.IsListIter.at (show h.IsListIter it a i from x) e
  · exact Heap.IsTupleIter.at (show h.IsTupleIter it a i from x) e
theorem itA_new {h : Heap} {b : Bool} {it a : Addr} (e : h.get? it = some (itOb b a)) : ItA h b it a 0 := by
  cases b
  · exact ⟨_, e, rfl, rfl⟩
  · exact ⟨_, e, rfl, rfl⟩
theorem inv_seqA {X : Cx} {pins : List (Addr × Obj)} {σ : L2.St} {H : Hp} {s : Shared} {b : Bool} {a : Addr} {xs : List V} (I : Inv X pins σ H s) (h : SqA X.K H b a xs) : ∃ its : List Value, Vals xs its ∧ SeqB s.heap b a its.toArray := by
  cases b
  · obtain ⟨its, r, p, _⟩ := I.list (show SqL X.K H a xs from h)
    exact ⟨its, r, p.isList⟩
  · obtain ⟨its, r, p, _⟩ := I.tuple (show SqT X.K H a xs from h)
    exact ⟨its, r, p⟩
theorem inv_injA {X : Cx} {pins : List (Addr × Obj)} {σ : L2.St} {H : Hp} {s : Shared} {b : Bool} {a : Addr} {xs ys : List V} (I : Inv X pins σ H s) (h : SqA X.K H b a xs) (h' : SqA X.K H b a ys) : xs = ys := by
  cases b
  · exact I.list_inj (show SqL X.K H a xs from h) h'
  · exact I.tuple_inj (show SqT X.K H a xs from h) h'
theorem seqB_live {h : Heap} {b : Bool} {a : Addr} {its : Array Value} (x : SeqB h b a its) : a < h.objs.size := by
  cases b
  · obtain ⟨o, e, _⟩ := (show h.IsList a its from x); exact Heap.lt_size e
  · obtain ⟨o, e, _⟩ := (show h.IsTuple a its from x); exact Heap.lt_size e
theorem drawsB {prog : Program} {w : World} {A : Around} (hh : A.handled = none) (b : Bool) (it a : Addr) (hne : a ≠ it) (items : Array Value) :
    Draws prog w A it [it, a] items.size (fun i v => items[i]? = some v) (fun i h => ItA h b it a i ∧ SeqB h b a items) := by
  cases b
  · exact Draws.list hh it a hne items
  · exact Draws.tuple hh it a hne items
theorem beginsB (b : Bool) (a : Addr) (items : Array Value) : Begins (.ref a) (itOb b a) fun h => SeqB h b a items := by
  cases b
  · exact begins_list a items
  · exact begins_tuple a items
set_option maxHeartbeats 1000000 in
theorem meets_enum1 {v : Value} {o : Obj} {H : Heap → Prop} (B : Begins v o H) :
    Meets (Builtin.«enumerate.__new__» ⟨[.type "enumerate", v], []⟩) (fun _ R s => H s.heap ∧
      R (.ok (.ret (.ref (s.heap.push o).objs.size))) { s with heap := (s.heap.push o).push { cls := .type "enumerate", data := .fields #[.none, .bool false, .ref s.heap.objs.size, rawInt 0, .none, .none] } }) :=
  .of_wp fun prog w A R s h => by
    obtain ⟨hp, g, d, tk, os⟩ := s; obtain ⟨h1, h⟩ := h
    have hsub := sub_enumerate
    have go : ∀ {A' : Around} {E : Value → Shared → Prop} {Q : Value → Shared → Prop}, Q (.ref hp.objs.size) ⟨hp.push o, g, d, tk, os⟩ → wpAny (model prog w) A' (pyIter v) Q E ⟨hp, g, d, tk, os⟩ := fun q => B.iter prog w _ _ ⟨hp, g, d, tk, os⟩ _ h1 q
    wp_walk using go
    refine wpAny_stack_any fun st => wpAny_pure ?_
    split
    · rename_i c _ _ _ _ _
      cases (c == Value.type "enumerate")
      · wp_walk using go
        exact ⟨_, rfl, h⟩
      · wp_walk using go
        exact ⟨_, rfl, h⟩
    · wp_walk using go
      exact ⟨_, rfl, h⟩
theorem call_enum1 {prog : Program} {w : World} {A : Around} {E : Value → Shared → Prop} {s : Shared} {v : Value} {o : Obj} {H : Heap → Prop} {Q : Value → Shared → Prop} (B : Begins v o H) (h1 : H s.heap)
    (h : ∀ h', IsEnum h' (s.heap.objs.size + 1) s.heap.objs.size 0 .none → h'.get? s.heap.objs.size = some o → h'.objs.size = s.heap.objs.size + 2 →
      (∀ b o, s.heap.get? b = some o → h'.get? b = some o) → Q (.ref (s.heap.objs.size + 1)) { s with heap := h' }) : wpAny (model prog w) A (call (.type "enumerate") [v]) Q E s := by
  refine callType_new F.called_enumerate (by decide) (F.typeCall_enumerate_1 _) (F.newCall_enumerate_1 _) (fun obj => F.args_object_init_2 obj _) F.entry_enumerate_new (meets_enum1 B) ⟨h1, ?_⟩
  have hz : (s.heap.push o).objs.size = s.heap.objs.size + 1 := Heap.size_push ..
  show _ ∧ _
  rw [hz]
  have he : IsEnum ((s.heap.push o).push { cls := .type "enumerate", data := .fields #[.none, .bool false, .ref s.heap.objs.size, rawInt 0, .none, .none] }) (s.heap.objs.size + 1) s.heap.objs.size 0 .none := by
    have z := Heap.get?_push_size (s.heap.push o) (o := { cls := .type "enumerate", data := .fields #[.none, .bool false, .ref s.heap.objs.size, rawInt 0, .none, .none] }) rfl
    rw [hz] at z; exact z
  exact ⟨⟨_, he, rfl⟩, h _ he (Heap.get?_push_of_some _ (Heap.get?_push_size _ B.free)) (by rw [Heap.size_push, hz]) fun b o x => Heap.get?_push_of_some _ (Heap.get?_push_of_some _ x)⟩

def IteA (K : PySem.W.Frag) (b : Bool) (a : Addr) : It :=
  ⟨fun i H => ∃ (xs : List V) (x : V), SqA K H b a xs ∧ xs[i]? = some x, fun i H v H' => ∃ T x, v = .ref T ∧ H T = none ∧ H' = L2.upd H T (.tup [.int (i : Nat), x]) ∧ ∀ xs, SqA K H b a xs → xs[i]? = some x, fun i H => ∃ xs : List V, SqA K H b a xs ∧ xs.length = i⟩
theorem turn_enumA {P : Program} {w : World} {K : PySem.W.Frag} {elts : List Expr} {kk : Nat} {tpos : Pos} (b : Bool) (a e it : Addr) (nei : e ≠ it) (nae : a ≠ e) (nai : a ≠ it) :
    Turn P w K (.Tuple elts kk tpos) (IteA K b a) [e, it] e (fun i h => (∃ old, IsEnum h e it ((i : Nat) : Int) old) ∧ ItA h b it a i) where
  mem := by simp
  obj := fun i h st c hc => by
    obtain ⟨⟨old, he⟩, hi⟩ := st
    rcases (by simpa using hc : c = e ∨ c = it) with rfl | rfl
    · exact ⟨_, he, fun v q => nomatch q⟩
    · exact hi.ob
  keep := fun i h h' st k => let ⟨⟨old, he⟩, hi⟩ := st; ⟨⟨old, k e (by simp) _ he⟩, hi.at' fun o q => k it (by simp) o q⟩
  item := by
    intro X hP hw hK hc i pins s σ H E I hf st hg
    subst hP hw hK
    obtain ⟨⟨old, he⟩, hit⟩ := st
    obtain ⟨xs, x, hq, hx⟩ := hg
    obtain ⟨its, rv, p⟩ := inv_seqA I hq
    obtain ⟨u, hu, ru⟩ := rv.get hx
    have hlt : i < its.toArray.size := by
      have := (List.getElem?_eq_some_iff.mp hu).1
      simpa using this
    have hel : e < s.heap.objs.size := Heap.lt_size he
    have hil : it < s.heap.objs.size := by obtain ⟨_, q, _⟩ := hit.ob; exact Heap.lt_size q
    refine wpAny_pyNext_enum_itemD (drawsB (A := X.A.in1) (I.ok.hd hc) b it a nai its.toArray) he ⟨hit, p⟩ hlt nei (by simp [nei, Ne.symm nae]) fun z h' tk hz ho hs' hT hsz hk => ?_
    have hzu : z = u := by
      have h1 : its[i]? = some z := by simpa using hz
      rw [hu] at h1; exact (Option.some.inj h1).symm
    subst hzu
    refine ⟨_, rfl, wpAny_letOwnedTupleGo_enum (s := { s with heap := h', toks := tk + 1 }) ho fun h'' he' sb => ?_⟩
    have hT2 : h''.get? s.heap.objs.size = some { cls := .type "tuple", data := .seq #[.int i tk, z] } := (sb.2 _ (Nat.ne_of_gt hel)).trans hT
    have new : ObjOk X.prog X.w (L2.upd H s.heap.objs.size (.tup [.int (i : Nat), x])) h'' s.heap.objs.size (.tup [.int (i : Nat), x]) :=
      ⟨by show 2 ≤ sizeLine; decide, [.int i tk, z], .cons ⟨_, rfl⟩ (.cons ru .nil), ⟨_, hT2, rfl, _, rfl⟩⟩
    have I1 : Inv X pins σ (L2.upd H s.heap.objs.size (.tup [.int (i : Nat), x])) { s with heap := h'', toks := tk + 1 } :=
      I.turnedNew (ch := [e, it]) (fun c ob hb q => (sb.2 c (fun y => hb (by simp [y]))).trans (hk c ob (fun y => hb (by simp [y])) (fun y => hb (by simp [y])) q)) hf (Nat.le_refl _) new
    refine ⟨.ref s.heap.objs.size, _, I1, rfl, ⟨_, x, rfl, I.hok.fresh (Nat.le_refl _), rfl, fun ys hy => by rw [inv_injA I hy hq]; exact hx⟩, ⟨⟨z, ?_⟩, hs'.1.at' fun o q => (sb.2 it (Ne.symm nei)).trans q⟩, fun c hc' => ?_⟩
    · have e1 : ((i + 1 : Nat) : Int) = (i : Int) + 1 := by omega
      rw [e1]; exact he'
    · have hb' : c < s.heap.objs.size := by
        rcases (by simpa using hc' : c = e ∨ c = it) with rfl | rfl
        · exact hel
        · exact hil
      rw [upd_ne (Nat.ne_of_lt hb')]
      exact (hf c hc').1
  done := by
    intro X hP hw hK hc i pins s σ H E I hf st hg
    subst hP hw hK
    obtain ⟨⟨old, he⟩, hit⟩ := st
    obtain ⟨xs, hq, hx⟩ := hg
    obtain ⟨its, rv, p⟩ := inv_seqA I hq
    obtain ⟨f0, f1, f2, f3, f4, f5⟩ := hf it (by simp)
    have hl := rv.length
    have hn : its.toArray.size = i := by simp; omega
    have D := drawsB (prog := X.prog) (w := X.w) (A := X.A.in1) (I.ok.hd hc) b it a nai its.toArray
    rw [hn] at D
    exact wpAny_pyNext_enum_endD D he ⟨hit, p⟩ fun h' eb => ⟨rfl, I.turned (t' := s.toks) (fun c o hb q => eb c o hb q) f0 f1 f3 f4 f5⟩
  self := fun A i s Q E st h => let ⟨⟨_, he⟩, _⟩ := st; wpAny_pyIter_enum he h
def iEnumA (K : PySem.W.Frag) (ta : TA) : TI := fun σ H R => ta σ H fun vs H1 => ∃ b a xs, vs = [.ref a] ∧ SqA K H1 b a xs ∧ R (IteA K b a) H1
theorem pi_enumA {X : Cx} {e : Expr} {ta : TA} {p pos tpos : Pos} {elts : List Expr} {kk : Nat} (hg : Gl X "enumerate") (hm : X.mg "enumerate" = none) (ha : PA X [e] ta) (hs : starEach [e] X.env = [(false, eval e X.env)] := by rfl) :
    PI X (.Tuple elts kk tpos) (.Call (.Name "enumerate" p) [e] [] pos) (iEnumA X.K ta) := by
  refine ⟨fun pins s σ H R I h => ?_⟩
  refine Call_ (ld_blt I hg hm boot_enumerate (PyProof.Rows.callWith_type1 (thn (ha.run pos pins s σ H _ I h) fun us s1 ⟨vs, H1, I1, r1, q1⟩ => ?_) hs rfl))
  obtain ⟨b, a, xs, ex, hq, q⟩ := q1
  subst ex
  cases r1 with
  | cons r rr =>
    cases rr
    cases r
    obtain ⟨its, rv, p'⟩ := inv_seqA I1 hq
    have ha' := seqB_live p'
    refine call_enum1 (beginsB b a its.toArray) p' fun h' he hit hsz hk => wpAny_pyIter_enum he ?_
    have I2 : Inv X pins σ H1 { s1 with heap := h' } := I1.kept (t' := s1.toks) hk
    refine ⟨s1.heap.objs.size + 1, [s1.heap.objs.size + 1, s1.heap.objs.size], _, _, H1, rfl, I2, turn_enumA b a (s1.heap.objs.size + 1) s1.heap.objs.size (Nat.succ_ne_self _) (Nat.ne_of_lt (Nat.lt_succ_of_lt ha')) (Nat.ne_of_lt ha'), ⟨⟨.none, he⟩, itA_new hit⟩, fun c hb => ?_, q⟩
    have hle : s1.heap.objs.size ≤ c := by
      rcases (by simpa using hb : c = s1.heap.objs.size + 1 ∨ c = s1.heap.objs.size) with z | z
      · rw [z]; exact Nat.le_add_right _ _
      · rw [z]; exact Nat.le_refl _
    exact I1.fpOk hle (I1.hok.fresh hle)

def ItzA (K : PySem.W.Frag) (b c : Bool) (p q : Addr) : It :=
  ⟨fun i H => ∃ (xs ys : List V) (x y : V), SqA K H b p xs ∧ SqA K H c q ys ∧ xs[i]? = some x ∧ ys[i]? = some y,
    fun i H v H' => ∃ T x y, v = .ref T ∧ H T = none ∧ H' = L2.upd H T (.tup [x, y]) ∧ (∀ xs, SqA K H b p xs → xs[i]? = some x) ∧ ∀ ys, SqA K H c q ys → ys[i]? = some y,
    fun i H => ∃ xs ys : List V, SqA K H b p xs ∧ SqA K H c q ys ∧ i ≤ xs.length ∧ i ≤ ys.length ∧ (i = xs.length ∨ i = ys.length)⟩
theorem turn_zipB {P : Program} {w : World} {K : PySem.W.Frag} {elts : List Expr} {kk : Nat} {tpos : Pos} {b c : Bool} {p q z TI TO i1 i2 : Addr} (D : ZipSep2 z TI TO i1 i2 [i1, p] [i2, q]) (n1 : p ≠ i1) (n2 : q ≠ i2) :
    Turn P w K (.Tuple elts kk tpos) (ItzA K b c p q) [z, TI, TO, i1, i2] z (fun i h => IsZip h z TI TO .none ∧ IsTupOf2 h TI (.ref i1) (.ref i2) ∧ (∃ x y, IsTupOf2 h TO x y) ∧ ItA h b i1 p i ∧ ItA h c i2 q i) where
  mem := by simp
  obj := fun i h st k hk => by
    obtain ⟨hz, hTI, ⟨x, y, hTO⟩, h1, h2⟩ := st
    rcases (by simpa using hk : k = z ∨ k = TI ∨ k = TO ∨ k = i1 ∨ k = i2) with e | e | e | e | e
    · rw [e]; exact ⟨_, hz, fun v q => nomatch q⟩
    · rw [e]; exact ⟨_, hTI, fun v q => nomatch q⟩
    · rw [e]; exact ⟨_, hTO, fun v q => nomatch q⟩
    · rw [e]; exact h1.ob
    · rw [e]; exact h2.ob
  keep := fun i h h' st k => by
    obtain ⟨hz, hTI, ⟨x, y, hTO⟩, h1, h2⟩ := st
    exact ⟨k z (by simp) _ hz, k TI (by simp) _ hTI, ⟨x, y, k TO (by simp) _ hTO⟩, h1.at' fun o q => k i1 (by simp) o q, h2.at' fun o q => k i2 (by simp) o q⟩
  item := by
    intro X hP hw hK hc i pins s σ H E I hf st hg
    subst hP hw hK
    obtain ⟨hz, hTI, ⟨x0, y0, hTO⟩, h1, h2⟩ := st
    obtain ⟨xs, ys, x, y, hqx, hqy, hx, hy⟩ := hg
    obtain ⟨its, rv, p1⟩ := inv_seqA I hqx
    obtain ⟨its2, rv2, p2⟩ := inv_seqA I hqy
    obtain ⟨u, hu, ru⟩ := rv.get hx
    obtain ⟨u2, hu2, ru2⟩ := rv2.get hy
    have hlt : i < its.toArray.size := by
      have := (List.getElem?_eq_some_iff.mp hu).1
      simpa using this
    have hlt2 : i < its2.toArray.size := by
      have := (List.getElem?_eq_some_iff.mp hu2).1
      simpa using this
    have hzl : z < s.heap.objs.size := Heap.lt_size hz
    refine wpAny_pyNext_zipD2_item D (drawsB (A := X.A.in1) (I.ok.hd hc) b i1 p n1 its.toArray) (drawsB (A := X.A.in1) (I.ok.hd hc) c i2 q n2 its2.toArray) hz hTI hTO ⟨h1, p1⟩ ⟨h2, p2⟩ hlt hlt2 fun y1 y2 h' tk e1 e2 z' TO' s1 s2 hT hsz hk => ?_
    have hyu : y1 = u := by
      have h1 : its[i]? = some y1 := by simpa using e1
      rw [hu] at h1; exact (Option.some.inj h1).symm
    have hyu2 : y2 = u2 := by
      have h1 : its2[i]? = some y2 := by simpa using e2
      rw [hu2] at h1; exact (Option.some.inj h1).symm
    subst hyu hyu2
    refine ⟨_, rfl, wpAny_letOwnedTupleGo_zip (s := { s with heap := h', toks := tk }) z' fun h'' z'' sb => ?_⟩
    have hT2 : h''.get? s.heap.objs.size = some { cls := .type "tuple", data := .seq #[y1, y2] } := (sb.2 _ (Nat.ne_of_gt hzl)).trans hT
    have new : ObjOk X.prog X.w (L2.upd H s.heap.objs.size (.tup [x, y])) h'' s.heap.objs.size (.tup [x, y]) :=
      ⟨by show 2 ≤ sizeLine; decide, [y1, y2], .cons ru (.cons ru2 .nil), ⟨_, hT2, rfl, _, rfl⟩⟩
    have I1 : Inv X pins σ (L2.upd H s.heap.objs.size (.tup [x, y])) { s with heap := h'', toks := tk } :=
      I.turnedNew (t' := tk) (ch := [z, TI, TO, i1, i2]) (fun k o hb q => (sb.2 k (fun q' => hb (by simp [q']))).trans (hk k o (fun q' => hb (by simp [q'])) (fun q' => hb (by simp [q'])) (fun q' => hb (by simp [q'])) (fun q' => hb (by simp [q'])) q)) hf (Nat.le_refl _) new
    have TIi1 := D.TIi1
    have TIi2 := D.TIi2
    refine ⟨.ref s.heap.objs.size, _, I1, rfl, ⟨_, x, y, rfl, I.hok.fresh (Nat.le_refl _), rfl, fun l hl => by rw [inv_injA I hl hqx]; exact hx, fun l hl => by rw [inv_injA I hl hqy]; exact hy⟩, ⟨z'', ?_, ⟨y1, y2, ?_⟩, ?_, ?_⟩, fun k hk' => ?_⟩
    · exact (sb.2 _ D.TIz).trans (hk _ _ D.TIz D.TITO TIi1 TIi2 hTI)
    · exact (sb.2 _ D.TOz).trans TO'
    · exact s1.1.at' fun o q => (sb.2 _ (Ne.symm D.zi1)).trans q
    · exact s2.1.at' fun o q => (sb.2 _ (Ne.symm D.zi2)).trans q
    · have hlt : k < s.heap.objs.size := by
        rcases (by simpa using hk' : k = z ∨ k = TI ∨ k = TO ∨ k = i1 ∨ k = i2) with e | e | e | e | e
        · rw [e]; exact hzl
        · rw [e]; exact Heap.lt_size hTI
        · rw [e]; exact Heap.lt_size hTO
        · rw [e]; obtain ⟨_, e1, _⟩ := h1.ob; exact Heap.lt_size e1
        · rw [e]; obtain ⟨_, e2, _⟩ := h2.ob; exact Heap.lt_size e2
      rw [upd_ne (Nat.ne_of_lt hlt)]
      exact (hf k hk').1
  done := by
    intro X hP hw hK hc i pins s σ H E I hf st hg
    subst hP hw hK
    obtain ⟨hz, hTI, ⟨x0, y0, hTO⟩, h1, h2⟩ := st
    obtain ⟨xs, ys, hqx, hqy, l1, l2, hend⟩ := hg
    obtain ⟨its, rv, p1⟩ := inv_seqA I hqx
    obtain ⟨its2, rv2, p2⟩ := inv_seqA I hqy
    have e1 := rv.length
    have e2 := rv2.length
    exact wpAny_pyNext_zipD2_end D (drawsB (A := X.A.in1) (I.ok.hd hc) b i1 p n1 its.toArray) (drawsB (A := X.A.in1) (I.ok.hd hc) c i2 q n2 its2.toArray) hz hTI hTO ⟨h1, p1⟩ ⟨h2, p2⟩ (by simp; omega) (by simp; omega) (by simp; omega) fun h' tk hk =>
      ⟨rfl, I.turnedL (t' := tk) (ch := [z, TI, TO, i1, i2]) (fun k o hb q => hk k o (fun q' => hb (by simp [q'])) (fun q' => hb (by simp [q'])) (fun q' => hb (by simp [q'])) (fun q' => hb (by simp [q'])) q) hf⟩
  self := fun A i s Q E st h => wpAny_pyIter_zip st.1 h
def iZipB (K : PySem.W.Frag) (ta : TA) : TI := fun σ H R => ta σ H fun vs H1 => ∃ b c p q xs ys, vs = [.ref p, .ref q] ∧ SqA K H1 b p xs ∧ SqA K H1 c q ys ∧ R (ItzA K b c p q) H1
theorem pi_zipB {X : Cx} {e e2 : Expr} {ta : TA} {p pos tpos : Pos} {elts : List Expr} {kk : Nat} (hg : Gl X "zip") (hm : X.mg "zip" = none) (ha : PA X [e, e2] ta)
    (hs : starEach [e, e2] X.env = (false, eval e X.env) :: starEach [e2] X.env := by rfl) (hpl : (backTo pos (starEach [e2] X.env)).any (·.1) = false := by rfl) :
    PI X (.Tuple elts kk tpos) (.Call (.Name "zip" p) [e, e2] [] pos) (iZipB X.K ta) := by
  refine ⟨fun pins s σ H R I h => ?_⟩
  refine Call_ (ld_blt I hg hm PyProof.Rows.boot_zip (PyProof.Rows.callWith_type1 (thn (ha.run pos pins s σ H _ I h) fun us s1 ⟨vs, H1, I1, r1, q1⟩ => ?_) hs hpl))
  obtain ⟨b, c, p, q, xs, ys, ex, hqx, hqy, q1⟩ := q1
  subst ex
  cases r1 with
  | cons r rr =>
    cases rr with
    | cons r' rr =>
      cases rr
      cases r
      cases r'
      obtain ⟨its, rv, p1⟩ := inv_seqA I1 hqx
      obtain ⟨its2, rv2, p2⟩ := inv_seqA I1 hqy
      have l1 := seqB_live p1
      have l2 := seqB_live p2
      have sep : ZipSep2 (s1.heap.objs.size + 4) (s1.heap.objs.size + 2) (s1.heap.objs.size + 3) s1.heap.objs.size (s1.heap.objs.size + 1) [s1.heap.objs.size, p] [s1.heap.objs.size + 1, q] :=
        zip_sep2 (fp1 := [p]) (fp2 := [q]) (fun k hk => by rw [List.mem_singleton.mp hk]; exact l1) (fun k hk => by rw [List.mem_singleton.mp hk]; exact l2)
      refine zip_begins2 (beginsB b p its.toArray) (beginsB c q its2.toArray) p1 p2 fun h' hz hTI hTO h1 h2 hsz hk => wpAny_pyIter_zip hz ?_
      have I2 : Inv X pins σ H1 { s1 with heap := h' } := I1.kept (t' := s1.toks) hk
      refine ⟨s1.heap.objs.size + 4, [s1.heap.objs.size + 4, s1.heap.objs.size + 2, s1.heap.objs.size + 3, s1.heap.objs.size, s1.heap.objs.size + 1], _, _, H1, rfl, I2,
        turn_zipB sep (Nat.ne_of_lt l1) (Nat.ne_of_lt (Nat.lt_succ_of_lt l2)), ⟨hz, hTI, ⟨_, _, hTO⟩, itA_new h1, itA_new h2⟩, fun k hk' => ?_, q1⟩
      have hle : s1.heap.objs.size ≤ k := by
        rcases (by simpa using hk' : k = s1.heap.objs.size + 4 ∨ k = s1.heap.objs.size + 2 ∨ k = s1.heap.objs.size + 3 ∨ k = s1.heap.objs.size ∨ k = s1.heap.objs.size + 1) with z | z | z | z | z
        · rw [z]; exact Nat.le_add_right _ _
        · rw [z]; exact Nat.le_add_right _ _
        · rw [z]; exact Nat.le_add_right _ _
        · rw [z]; exact Nat.le_refl _
        · rw [z]; exact Nat.le_add_right _ _
      exact I1.fpOk hle (I1.hok.fresh hle)

/-! their pure side -/
def enL (ds : List D) : List D := ds.mapIdx fun i d => .tup [.int (i : Nat), d]
def zpL (xs ys : List D) : List D := List.zipWith (fun x y => .tup [x, y]) xs ys
def enD : List D → Option (List D)
  | [d] => (seqD d).map enL
  | _ => none
def zpD : List D → Option (List D)
  | [d, e] => match seqD d, seqD e with
    | some xs, some ys => some (zpL xs ys)
    | _, _ => none
  | _ => none
section
variable {K : PySem.W.Frag} {pd : Option PD} {F H : Hp}
theorem seqS {d : D} {v : V} {ds : List D} (r : Rep K pd F d v) (e : seqD d = some ds) : ∃ b a xs, v = .ref a ∧ ds.length ≤ SZ ∧ ∀ F1 H1, Same F F1 → Same F1 H1 → SqA K H1 b a xs ∧ RepL K pd F1 ds xs := by
  cases d <;> first | (cases e; done) | skip
  · cases e
    simp only [Rep] at r
    obtain ⟨a, xs, rfl, t1, hl, r⟩ := r
    exact ⟨true, a, xs, rfl, hl, fun F1 H1 f1 f2 => ⟨sqT_mono f2 (sqT_mono f1 t1), r.mono f1⟩⟩
  · cases e
    simp only [Rep] at r
    obtain ⟨a, xs, rfl, t1, hl, r⟩ := r
    exact ⟨false, a, xs, rfl, hl, fun F1 H1 f1 f2 => ⟨.of (f2 _ _ (f1 _ _ t1)), r.mono f1⟩⟩
theorem seqW {d : D} {v : V} {ds : List D} (r : RepB K pd F H d v) (e : seqD d = some ds) : ∃ b a xs, v = .ref a ∧ ds.length ≤ SZ ∧ ∀ F1 H1, Ext pd F H F1 H1 → SqA K H1 b a xs ∧ RepL K pd F1 ds xs := by
  rcases r with r | ⟨p, es, xs, rfl, rfl, h3, h4, h5, h6, h7⟩
  · obtain ⟨b, a, xs, h1, h2, h3⟩ := seqS r e
    exact ⟨b, a, xs, h1, h2, fun F1 H1 x => h3 F1 H1 x.ff x.fh⟩
  · cases e
    exact ⟨false, p, xs, rfl, h6, fun F1 H1 x => ⟨.of (x.hh _ _ h3 h4), h7.mono x.ff⟩⟩
theorem walk_en {G : Hp → Hp → Prop} {b : Bool} {a : Addr} {xs : List V} {ds : List D} (hG : ∀ F1 H1, G F1 H1 → Same F1 H1 ∧ SqA K H1 b a xs ∧ RepL K pd F1 ds xs) (i : Nat) (F1 H1 : Hp) (g : G F1 H1) :
    (∀ d, (enL ds)[i]? = some d → (IteA K b a).go i H1 ∧ ∀ x H2, (IteA K b a).yld i H1 x H2 → ∃ F2, Ext none F1 H1 F2 H2 ∧ Rep K pd F2 d x) ∧ (i = (enL ds).length → (IteA K b a).stop i H1) := by
  obtain ⟨fh, h1, h2⟩ := hG F1 H1 g
  refine ⟨fun d hd => ?_, fun e => ⟨xs, h1, by rw [h2.length, e]; simp [enL]⟩⟩
  unfold enL at hd
  rw [List.getElem?_mapIdx] at hd
  cases hdd : ds[i]? with
  | none => rw [hdd] at hd; cases hd
  | some d0 =>
    rw [hdd] at hd
    have hd := (Option.some.inj hd).symm
    subst hd
    obtain ⟨y, hy, ry⟩ := h2.get hdd
    refine ⟨⟨xs, y, h1, hy⟩, fun x H2 ⟨T, z, e1, e2, e3, e4⟩ => ?_⟩
    subst e1 e3
    have := e4 xs h1
    rw [hy] at this; cases this
    have x2 := Ext.new (o := .tup [V.int (i : Nat), y]) fh e2
    refine ⟨_, x2, ?_⟩
    simp only [Rep]
    exact ⟨T, _, rfl, .of upd_same, (by show 2 ≤ sizeLine; decide), .cons (by simp [Rep]) (.cons (ry.mono x2.ff) .nil)⟩
theorem walk_zp {G : Hp → Hp → Prop} {b c : Bool} {p q : Addr} {xs ys : List V} {ds es : List D} (hG : ∀ F1 H1, G F1 H1 → Same F1 H1 ∧ (SqA K H1 b p xs ∧ RepL K pd F1 ds xs) ∧ SqA K H1 c q ys ∧ RepL K pd F1 es ys) (i : Nat) (F1 H1 : Hp) (g : G F1 H1) :
    (∀ d, (zpL ds es)[i]? = some d → (ItzA K b c p q).go i H1 ∧ ∀ x H2, (ItzA K b c p q).yld i H1 x H2 → ∃ F2, Ext none F1 H1 F2 H2 ∧ Rep K pd F2 d x) ∧ (i = (zpL ds es).length → (ItzA K b c p q).stop i H1) := by
  obtain ⟨fh, ⟨h1, h2⟩, h3, h4⟩ := hG F1 H1 g
  refine ⟨fun d hd => ?_, fun e => ⟨xs, ys, h1, h3, ?_⟩⟩
  · unfold zpL at hd
    rw [List.getElem?_zipWith] at hd
    cases hdd : ds[i]? with
    | none => rw [hdd] at hd; cases hd
    | some d0 =>
      cases hee : es[i]? with
      | none => rw [hdd, hee] at hd; cases hd
      | some e0 =>
        rw [hdd, hee] at hd
        have hd := (Option.some.inj hd).symm
        subst hd
        obtain ⟨y, hy, ry⟩ := h2.get hdd
        obtain ⟨y', hy', ry'⟩ := h4.get hee
        refine ⟨⟨xs, ys, y, y', h1, h3, hy, hy'⟩, fun x H2 ⟨T, z, z', e1, e2, e3, e4, e5⟩ => ?_⟩
        subst e1 e3
        have a1 := e4 xs h1
        rw [hy] at a1; cases a1
        have a2 := e5 ys h3
        rw [hy'] at a2; cases a2
        have x2 := Ext.new (o := .tup [y, y']) fh e2
        refine ⟨_, x2, ?_⟩
        simp only [Rep]
        exact ⟨T, _, rfl, .of upd_same, (by show 2 ≤ sizeLine; decide), .cons (ry.mono x2.ff) (.cons (ry'.mono x2.ff) .nil)⟩
  · have : (zpL ds es).length = min ds.length es.length := by simp [zpL]
    rw [this] at e
    rw [h2.length, h4.length]
    omega
end
section
variable {ι : Type} {X : ι → Cx} {P : Program} {w : World} {K : PySem.W.Frag} {mg : Str → Option Value} {base : Heap} {N : List Str} {lv : Nat} {pos : Pos} {a b c e : Expr} {es elts : List Expr} {f fa fb fc : EF} {g : AF} {kk : Nat} {tpos p : Pos}
theorem iEnE (C : Fam X P w K mg base N lv) (hm : mg "enumerate" = none) (h : CA X K [a] g) (hg : ∀ i, Gl (X i) "enumerate" := by intro _; rfl) (hs : ∀ i, starEach [a] (X i).env = [(false, eval a (X i).env)] := by intro _; rfl) :
    CI X K (.Tuple elts kk tpos) (.Call (.Name "enumerate" p) [a] [] pos) (iRg enD g) := by
  obtain ⟨t, h1, h2⟩ := h
  refine ⟨iEnumA K t, fun i => by have := pi_enumA (pos := pos) (p := p) (elts := elts) (kk := kk) (tpos := tpos) (hg i) (by rw [C.m i]; exact hm) (h1 i) (hs i); rw [C.k i] at this; exact this, fun pd F0 H0 F H ρ σ s d s' o e R q => ?_⟩
  obtain ⟨xs, s1, e1, e⟩ := Mb_eq e
  obtain ⟨e2, rfl⟩ := Mo_eq e
  refine h2 pd F0 H0 F H ρ σ s xs s1 o e1 _ fun vs F1 H1 x1 d1 r1 => ?_
  have fh := (o.step x1 d1).fh
  unfold enD at e2
  split at e2
  · rename_i d0
    obtain ⟨y, ys, rfl, h3, h4⟩ := r1.cases
    have := h4.cases0; subst this
    cases h5 : seqD d0 with
    | none => rw [h5] at e2; cases e2
    | some ds =>
      rw [h5] at e2; cases e2
      obtain ⟨b, a, zs, rfl, hl, k⟩ := seqS h3 h5
      exact ⟨b, a, zs, rfl, (k F1 H1 (Same.refl _) fh).1, q _ F1 H1 x1 d1 ⟨by simp [enL]; exact hl, fun i F2 H2 f2 f3 => walk_en (G := fun F2 H2 => Same F1 F2 ∧ Same F2 H2) (fun F2 H2 g => ⟨g.2, k F2 H2 g.1 g.2⟩) i F2 H2 ⟨f2, f3⟩⟩⟩
  · cases e2
theorem iEnB (C : Fam X P w K mg base N lv) (hm : mg "enumerate" = none) (h : CAB X K [a] g) (hg : ∀ i, Gl (X i) "enumerate" := by intro _; rfl) (hs : ∀ i, starEach [a] (X i).env = [(false, eval a (X i).env)] := by intro _; rfl) :
    CIW X K (.Tuple elts kk tpos) (.Call (.Name "enumerate" p) [a] [] pos) (iRg enD g) := by
  obtain ⟨t, h1, h2⟩ := h
  refine ⟨iEnumA K t, fun i => by have := pi_enumA (pos := pos) (p := p) (elts := elts) (kk := kk) (tpos := tpos) (hg i) (by rw [C.m i]; exact hm) (h1 i) (hs i); rw [C.k i] at this; exact this, fun pd F0 H0 F H ρ σ s d s' o e R q => ?_⟩
  obtain ⟨xs, s1, e1, e⟩ := Mb_eq e
  obtain ⟨e2, rfl⟩ := Mo_eq e
  refine h2 pd F0 H0 F H ρ σ s xs s1 o e1 _ fun vs F1 H1 x1 d1 r1 => ?_
  have fh := (o.step x1 d1).fh
  unfold enD at e2
  split at e2
  · rename_i d0
    cases r1 with
    | cons h3 h4 =>
      cases h4
      cases h5 : seqD d0 with
      | none => rw [h5] at e2; cases e2
      | some ds =>
        rw [h5] at e2; cases e2
        obtain ⟨b, a, zs, rfl, hl, k⟩ := seqW h3 h5
        exact ⟨b, a, zs, rfl, (k F1 H1 (.refl fh)).1, q _ F1 H1 x1 d1 ⟨by simp [enL]; exact hl, fun i F2 H2 f2 => walk_en (G := fun F2 H2 => Ext pd F1 H1 F2 H2) (fun F2 H2 g => ⟨g.fh, k F2 H2 g⟩) i F2 H2 f2⟩⟩
  · cases e2
theorem iZpE (C : Fam X P w K mg base N lv) (hm : mg "zip" = none) (h : CA X K [a, b] g) (hg : ∀ i, Gl (X i) "zip" := by intro _; rfl) (hs : ∀ i, starEach [a, b] (X i).env = (false, eval a (X i).env) :: starEach [b] (X i).env := by intro _; rfl)
    (hpl : ∀ i, (backTo pos (starEach [b] (X i).env)).any (·.1) = false := by intro _; rfl) : CI X K (.Tuple elts kk tpos) (.Call (.Name "zip" p) [a, b] [] pos) (iRg zpD g) := by
  obtain ⟨t, h1, h2⟩ := h
  refine ⟨iZipB K t, fun i => by have := pi_zipB (pos := pos) (p := p) (elts := elts) (kk := kk) (tpos := tpos) (hg i) (by rw [C.m i]; exact hm) (h1 i) (hs i) (hpl i); rw [C.k i] at this; exact this, fun pd F0 H0 F H ρ σ s d s' o e R q => ?_⟩
  obtain ⟨xs, s1, e1, e⟩ := Mb_eq e
  obtain ⟨e2, rfl⟩ := Mo_eq e
  refine h2 pd F0 H0 F H ρ σ s xs s1 o e1 _ fun vs F1 H1 x1 d1 r1 => ?_
  have fh := (o.step x1 d1).fh
  unfold zpD at e2
  split at e2
  · rename_i d0 d1'
    obtain ⟨y, ys, rfl, h3, h4⟩ := r1.cases
    obtain ⟨y', ys', rfl, h3', h4'⟩ := h4.cases
    have := h4'.cases0; subst this
    cases h5 : seqD d0 with
    | none => rw [h5] at e2; cases e2
    | some ds =>
      cases h6 : seqD d1' with
      | none => rw [h5, h6] at e2; cases e2
      | some ds' =>
        rw [h5, h6] at e2; cases e2
        obtain ⟨b, a, zs, rfl, hl, k⟩ := seqS h3 h5
        obtain ⟨b', a', zs', rfl, hl', k'⟩ := seqS h3' h6
        exact ⟨b, b', a, a', zs, zs', rfl, (k F1 H1 (Same.refl _) fh).1, (k' F1 H1 (Same.refl _) fh).1, q _ F1 H1 x1 d1 ⟨by simp [zpL]; omega, fun i F2 H2 f2 f3 => walk_zp (G := fun F2 H2 => Same F1 F2 ∧ Same F2 H2) (fun F2 H2 g => ⟨g.2, k F2 H2 g.1 g.2, k' F2 H2 g.1 g.2⟩) i F2 H2 ⟨f2, f3⟩⟩⟩
  · cases e2
theorem iZpB (C : Fam X P w K mg base N lv) (hm : mg "zip" = none) (h : CAB X K [a, b] g) (hg : ∀ i, Gl (X i) "zip" := by intro _; rfl) (hs : ∀ i, starEach [a, b] (X i).env = (false, eval a (X i).env) :: starEach [b] (X i).env := by intro _; rfl)
    (hpl : ∀ i, (backTo pos (starEach [b] (X i).env)).any (·.1) = false := by intro _; rfl) : CIW X K (.Tuple elts kk tpos) (.Call (.Name "zip" p) [a, b] [] pos) (iRg zpD g) := by
  obtain ⟨t, h1, h2⟩ := h
  refine ⟨iZipB K t, fun i => by have := pi_zipB (pos := pos) (p := p) (elts := elts) (kk := kk) (tpos := tpos) (hg i) (by rw [C.m i]; exact hm) (h1 i) (hs i) (hpl i); rw [C.k i] at this; exact this, fun pd F0 H0 F H ρ σ s d s' o e R q => ?_⟩
  obtain ⟨xs, s1, e1, e⟩ := Mb_eq e
  obtain ⟨e2, rfl⟩ := Mo_eq e
  refine h2 pd F0 H0 F H ρ σ s xs s1 o e1 _ fun vs F1 H1 x1 d1 r1 => ?_
  have fh := (o.step x1 d1).fh
  unfold zpD at e2
  split at e2
  · rename_i d0 d1'
    cases r1 with
    | cons h3 h4 =>
      cases h4 with
      | cons h3' h4' =>
        cases h4'
        cases h5 : seqD d0 with
        | none => rw [h5] at e2; cases e2
        | some ds =>
          cases h6 : seqD d1' with
          | none => rw [h5, h6] at e2; cases e2
          | some ds' =>
            rw [h5, h6] at e2; cases e2
            obtain ⟨b, a, zs, rfl, hl, k⟩ := seqW h3 h5
            obtain ⟨b', a', zs', rfl, hl', k'⟩ := seqW h3' h6
            exact ⟨b, b', a, a', zs, zs', rfl, (k F1 H1 (.refl fh)).1, (k' F1 H1 (.refl fh)).1, q _ F1 H1 x1 d1 ⟨by simp [zpL]; omega, fun i F2 H2 f2 => walk_zp (G := fun F2 H2 => Ext pd F1 H1 F2 H2) (fun F2 H2 g => ⟨g.fh, k F2 H2 g, k' F2 H2 g⟩) i F2 H2 f2⟩⟩
  · cases e2
end
end Pu
namespace Pu
open PySem PySem.Spec PyProof.Rows L2

theorem blk_sc {ι : Type} {X : ι → Cx} {sc : Scope} {b : BlkI ι} : (blkF X sc b).env.scope = L2.relS sc (X b.i).env.scope := rfl
theorem ent_sc {P : Program} {w : World} {K : PySem.W.Frag} {mg : Str → Option Value} {base : Heap} {N : List Str} {k : Nat} {qual : Str} {scope : Scope} {f : Addr} {i : EntI k qual scope f} : (entF P w K mg base N k qual scope f i).env.scope = scope := rfl
theorem bt_len : bootBuiltins "len" = some (.builtin "len") := by decide +kernel
theorem bt_sum : bootBuiltins "sum" = some (.builtin "sum") := by decide +kernel
theorem bt_min : bootBuiltins "min" = some (.builtin "min") := by decide +kernel
theorem bt_max : bootBuiltins "max" = some (.builtin "max") := by decide +kernel
theorem bt_all : bootBuiltins "all" = some (.builtin "all") := by decide +kernel
theorem bt_any : bootBuiltins "any" = some (.builtin "any") := by decide +kernel
theorem bt_abs : bootBuiltins "abs" = some (.builtin "abs") := by decide +kernel
theorem bt_sorted : bootBuiltins "sorted" = some (.builtin "sorted") := by decide +kernel
theorem bt_tuple : bootBuiltins "tuple" = some (.type "tuple") := by decide +kernel
theorem bt_list : bootBuiltins "list" = some (.type "list") := by decide +kernel
theorem bt_int : bootBuiltins "int" = some (.type "int") := by decide +kernel
theorem roomU {lv : Nat} {A : Around} (r : Room lv A) : A.units + 200 < cLine := by have := r.un; omega

/-! ### D and the library's data -/
mutual
theorem toP_inj : ∀ {x y : D}, clean x = true → clean y = true → toP x = toP y → x = y
  | .non, y, _, c, e => by cases y <;> simp [toP] at e <;> first | rfl | simp [clean] at c
  | .bl a, y, _, c, e => by cases y <;> simp [toP] at e <;> first | (rw [e]; done) | simp [clean] at c
  | .int a, y, _, c, e => by cases y <;> simp [toP] at e <;> first | (rw [e]; done) | simp [clean] at c
  | .str a, y, _, c, e => by cases y <;> simp [toP] at e <;> first | (rw [e]; done) | simp [clean] at c
  | .rng, y, c, _, e => by simp [clean] at c
  | .tup a, y, c, c', e => by
    cases y <;> simp [toP] at e
    rw [toPs_inj (by simpa only [clean] using c) (by simpa only [clean] using c') e]
  | .lst a, y, c, c', e => by
    cases y <;> simp [toP] at e
    rw [toPs_inj (by simpa only [clean] using c) (by simpa only [clean] using c') e]
theorem toPs_inj : ∀ {x y : List D}, cleanL x = true → cleanL y = true → toPs x = toPs y → x = y
  | [], [], _, _, _ => rfl
  | [], _ :: _, _, _, e => by simp [toPs] at e
  | _ :: _, [], _, _, e => by simp [toPs] at e
  | a :: as, b :: bs, c, c', e => by
    simp only [toPs, List.cons.injEq] at e
    simp only [cleanL, Bool.and_eq_true] at c c'
    rw [toP_inj c.1 c'.1 e.1, toPs_inj c.2 c'.2 e.2]
end
theorem cleanL_all : ∀ {ds : List D}, cleanL ds = true ↔ ∀ d ∈ ds, clean d = true
  | [] => by simp [cleanL]
  | d :: ds => by simp [cleanL, cleanL_all (ds := ds)]

/-! ### order -/
def ordOk (x y : D) : Bool := cmpOk x && cmpOk y && PySem.W.alike (toP x) (toP y) && !isNonD x
def ltA (x y : D) : Option D := if ordOk x y = true then some (.bl (PySem.W.dataLt (toP x) (toP y))) else none
def gtA (x y : D) : Option D := if ordOk x y = true then some (.bl (PySem.W.dataLt (toP y) (toP x))) else none
def leA (x y : D) : Option D := if ordOk x y = true then some (.bl (!PySem.W.dataLt (toP y) (toP x))) else none
def geA (x y : D) : Option D := if ordOk x y = true then some (.bl (!PySem.W.dataLt (toP x) (toP y))) else none
theorem ordOk_ii (a b : Int) : ordOk (.int a) (.int b) = true := by simp [ordOk, cmpOk, clean, toP, SeqAt.shaped, PyData.canLay0, PyData.depth, PySem.W.alike, isNonD]
@[simp] theorem ltA_ii (a b : Int) : ltA (.int a) (.int b) = some (.bl (decide (a < b))) := by unfold ltA; rw [if_pos (ordOk_ii a b)]; simp [toP, PySem.W.dataLt_int]
@[simp] theorem gtA_ii (a b : Int) : gtA (.int a) (.int b) = some (.bl (decide (b < a))) := by unfold gtA; rw [if_pos (ordOk_ii a b)]; simp [toP, PySem.W.dataLt_int]
@[simp] theorem leA_ii (a b : Int) : leA (.int a) (.int b) = some (.bl (decide (a ≤ b))) := by unfold leA; rw [if_pos (ordOk_ii a b)]; simp only [toP, PySem.W.dataLt_int, ← decide_not]; exact congrArg (fun z => some (D.bl z)) (decide_eq_decide.mpr (by omega))
@[simp] theorem geA_ii (a b : Int) : geA (.int a) (.int b) = some (.bl (decide (b ≤ a))) := by unfold geA; rw [if_pos (ordOk_ii a b)]; simp only [toP, PySem.W.dataLt_int, ← decide_not]; exact congrArg (fun z => some (D.bl z)) (decide_eq_decide.mpr (by omega))
def rOrd (K : PySem.W.Frag) (f : PyData → PyData → Bool) : R2 := fun x y H Q => ∃ d e, Dp K H x d ∧ Dp K H y e ∧ PySem.W.alike d e = true ∧ d ≠ .none ∧ d.depth ≤ 64 ∧ Q (.bl (f d e)) H
section
variable {X : Cx} {K : PySem.W.Frag}
theorem dmin {d e : PyData} (h : d.depth ≤ 64) : min d.depth e.depth ≤ 64 := Nat.le_trans (Nat.min_le_left _ _) h
theorem op_ltA (hk : X.K = K) (hu : X.A.units + 200 < cLine) : OpR X (compareOp .Lt) (rOrd K fun d e => PySem.W.dataLt d e) := by
  subst hk
  intro pins s σ H x y v u Q I rx ry ⟨d, e, hd, he, ha, hn, hz, q⟩
  obtain ⟨as, r1⟩ := Dp.reads I d x v hd rx
  obtain ⟨bs, r2⟩ := Dp.reads I e y u he ry
  have := dmin (e := e) hz
  exact PySem.W.lt_data r1 r2 ha hn (by omega) ⟨.bl _, H, I, rfl, q⟩
theorem op_gtA (hk : X.K = K) (hu : X.A.units + 200 < cLine) : OpR X (compareOp .Gt) (rOrd K fun d e => PySem.W.dataLt e d) := by
  subst hk
  intro pins s σ H x y v u Q I rx ry ⟨d, e, hd, he, ha, hn, hz, q⟩
  obtain ⟨as, r1⟩ := Dp.reads I d x v hd rx
  obtain ⟨bs, r2⟩ := Dp.reads I e y u he ry
  have := dmin (e := e) hz
  exact PySem.W.gt_data r1 r2 ha hn (by omega) ⟨.bl _, H, I, rfl, q⟩
theorem op_leA (hk : X.K = K) (hu : X.A.units + 200 < cLine) : OpR X (compareOp .LtE) (rOrd K fun d e => !PySem.W.dataLt e d) := by
  subst hk
  intro pins s σ H x y v u Q I rx ry ⟨d, e, hd, he, ha, hn, hz, q⟩
  obtain ⟨as, r1⟩ := Dp.reads I d x v hd rx
  obtain ⟨bs, r2⟩ := Dp.reads I e y u he ry
  have := dmin (e := e) hz
  exact PySem.W.le_data r1 r2 ha hn (by omega) ⟨.bl _, H, I, rfl, q⟩
theorem op_geA (hk : X.K = K) (hu : X.A.units + 200 < cLine) : OpR X (compareOp .GtE) (rOrd K fun d e => !PySem.W.dataLt d e) := by
  subst hk
  intro pins s σ H x y v u Q I rx ry ⟨d, e, hd, he, ha, hn, hz, q⟩
  obtain ⟨as, r1⟩ := Dp.reads I d x v hd rx
  obtain ⟨bs, r2⟩ := Dp.reads I e y u he ry
  have := dmin (e := e) hz
  exact PySem.W.ge_data r1 r2 ha hn (by omega) ⟨.bl _, H, I, rfl, q⟩
theorem v_ord {f : PyData → PyData → Bool} {gg : D → D → Option D} (hg : ∀ x y, gg x y = if ordOk x y = true then some (.bl (f (toP x) (toP y))) else none) : V2 K (rOrd K f) gg := fun pd F H x y d v w fh rx ry e Q q => by
  rw [hg] at e
  split at e
  · rename_i h
    cases e
    unfold ordOk cmpOk at h
    simp only [Bool.and_eq_true, Bool.not_eq_true'] at h
    obtain ⟨⟨⟨⟨c1, s1⟩, c2, s2⟩, ha⟩, hn⟩ := h
    exact ⟨_, _, rx.dp fh c1, ry.dp fh c2, ha, by cases x <;> simp [toP, isNonD] at hn ⊢, SeqAt.depth_of_shaped s1, q _ F H (.refl fh) (by simp [Rep])⟩
  · cases e
theorem v_ltA : V2 K (rOrd K fun d e => PySem.W.dataLt d e) ltA := v_ord fun _ _ => rfl
theorem v_gtA : V2 K (rOrd K fun d e => PySem.W.dataLt e d) gtA := v_ord fun _ _ => rfl
theorem v_leA : V2 K (rOrd K fun d e => !PySem.W.dataLt e d) leA := v_ord fun _ _ => rfl
theorem v_geA : V2 K (rOrd K fun d e => !PySem.W.dataLt d e) geA := v_ord fun _ _ => rfl
theorem op_eqA (hk : X.K = K) (hu : X.A.units + 200 < cLine) : OpR X (compareOp .Eq) (rEqD K) := by subst hk; exact op_eqD (by omega)
theorem op_neA (hk : X.K = K) (hu : X.A.units + 200 < cLine) : OpR X (compareOp .NotEq) (rNeD K) := by subst hk; exact op_neD (by omega)

/-! ### in -/
def hasD (d : D) (ds : List D) : Bool := ds.any fun z => PyData.eqv (toP z) (toP d)
def inD (x y : D) : Option D := match seqD y with
  | some ds => if cmpOk x = true ∧ cmpOk y = true then some (.bl (hasD x ds)) else none
  | none => none
def ninD (x y : D) : Option D := match seqD y with
  | some ds => if cmpOk x = true ∧ cmpOk y = true then some (.bl (!hasD x ds)) else none
  | none => none
def sqP (b : Bool) (ds : List PyData) : PyData := if b = true then .tuple ds else .list ds
def rInA (K : PySem.W.Frag) (f : Bool → Bool) : R2 := fun x y H Q => ∃ b d ds, Dp K H x d ∧ Dp K H y (sqP b ds) ∧ SeqAt.shaped d = true ∧ SeqAt.shaped (sqP b ds) = true ∧ Q (.bl (f (ds.any fun z => PyData.eqv z d))) H
theorem op_inA (hk : X.K = K) (hu : X.A.units + 200 < cLine) : OpR X (compareOp .In) (rInA K id) := by
  subst hk
  intro pins s σ H x y v u Q I rx ry ⟨b, d, ds, hd, he, sd, se, q⟩
  obtain ⟨as, r1⟩ := Dp.reads I d x v hd rx
  cases b with
  | false =>
    obtain ⟨bs, r2⟩ := Dp.reads I (.list ds) y u he ry
    exact SeqAt.in_list_reads r2 r1 (SeqAt.canLay_of_shaped se) (SeqAt.canLay_of_shaped sd) (room_in_shaped sd (by omega)) ⟨.bl _, H, I, rfl, q⟩
  | true =>
    obtain ⟨bs, r2⟩ := Dp.reads I (.tuple ds) y u he ry
    exact SeqAt.in_tuple_reads r2 r1 (SeqAt.canLay_of_shaped se) (SeqAt.canLay_of_shaped sd) (room_in_shaped sd (by omega)) ⟨.bl _, H, I, rfl, q⟩
theorem op_ninA (hk : X.K = K) (hu : X.A.units + 200 < cLine) : OpR X (compareOp .NotIn) (rInA K not) := by
  subst hk
  intro pins s σ H x y v u Q I rx ry ⟨b, d, ds, hd, he, sd, se, q⟩
  obtain ⟨as, r1⟩ := Dp.reads I d x v hd rx
  cases b with
  | false =>
    obtain ⟨bs, r2⟩ := Dp.reads I (.list ds) y u he ry
    exact SeqAt.notIn_list_reads r2 r1 (SeqAt.canLay_of_shaped se) (SeqAt.canLay_of_shaped sd) (room_in_shaped sd (by omega)) ⟨.bl _, H, I, rfl, q⟩
  | true =>
    obtain ⟨bs, r2⟩ := Dp.reads I (.tuple ds) y u he ry
    exact SeqAt.notIn_tuple_reads r2 r1 (SeqAt.canLay_of_shaped se) (SeqAt.canLay_of_shaped sd) (room_in_shaped sd (by omega)) ⟨.bl _, H, I, rfl, q⟩
theorem any_toP (d : D) (ds : List D) : ((toPs ds).any fun z => PyData.eqv z (toP d)) = hasD d ds := by rw [toPs_eq, List.any_map]; rfl
theorem seq_sq {y : D} {ds : List D} (e : seqD y = some ds) : ∃ b, toP y = sqP b (toPs ds) := by
  cases y <;> first | (cases e; done) | skip
  · cases e; exact ⟨true, by simp [toP, sqP]⟩
  · cases e; exact ⟨false, by simp [toP, sqP]⟩
theorem v_inG {f : Bool → Bool} {gg : D → D → Option D} (hg : ∀ x y, gg x y = match seqD y with
    | some ds => if cmpOk x = true ∧ cmpOk y = true then some (.bl (f (hasD x ds))) else none
    | none => none) : V2 K (rInA K f) gg := fun pd F H x y d v w fh rx ry e Q q => by
  rw [hg] at e
  cases h5 : seqD y with
  | none => rw [h5] at e; cases e
  | some ds =>
    rw [h5] at e
    have e : (if cmpOk x = true ∧ cmpOk y = true then some (D.bl (f (hasD x ds))) else none) = some d := e
    split at e
    · rename_i h
      cases e
      unfold cmpOk at h
      simp only [Bool.and_eq_true] at h
      obtain ⟨⟨c1, s1⟩, c2, s2⟩ := h
      obtain ⟨b, hb⟩ := seq_sq h5
      have dy := ry.dp fh c2
      rw [hb] at dy s2
      exact ⟨b, _, _, rx.dp fh c1, dy, s1, s2, by rw [any_toP]; exact q _ F H (.refl fh) (by simp [Rep])⟩
    · cases e
theorem v_in : V2 K (rInA K id) inD := v_inG fun _ _ => rfl
theorem v_nin : V2 K (rInA K not) ninD := v_inG fun _ _ => rfl

/-! ### min, max of a sequence -/
def minA (x : D) (xs : List D) : D := xs.foldl (fun a y => if PySem.W.dataLt (toP y) (toP a) = true then y else a) x
def maxA (x : D) (xs : List D) : D := xs.foldl (fun a y => if PySem.W.dataLt (toP a) (toP y) = true then y else a) x
def allCmp (ds : List D) : Bool := (ds.all fun x => cmpOk x && !isNonD x) && ds.all fun x => ds.all fun y => PySem.W.alike (toP x) (toP y)
def onSeq {α : Type} (k : List D → Option α) : List D → Option α
  | [d] => match seqD d with
    | some ds => k ds
    | none => none
  | _ => none
def minD : List D → Option D := onSeq fun ds => match ds with
  | x :: xs => if allCmp (x :: xs) = true then some (minA x xs) else none
  | [] => none
def maxD : List D → Option D := onSeq fun ds => match ds with
  | x :: xs => if allCmp (x :: xs) = true then some (maxA x xs) else none
  | [] => none
theorem fold_toP (c : PyData → PyData → Bool) : ∀ (xs : List D) (x : D), toP (xs.foldl (fun a y => if c (toP y) (toP a) = true then y else a) x) = (toPs xs).foldl (fun a y => if c y a = true then y else a) (toP x)
  | [], x => rfl
  | y :: ys, x => by
    rw [List.foldl_cons, fold_toP c ys, toPs, List.foldl_cons]
    by_cases h : c (toP y) (toP x) = true
    · rw [if_pos h, if_pos h]
    · rw [if_neg h, if_neg h]
theorem minA_toP (x : D) (xs : List D) : toP (minA x xs) = PySem.W.minD (toP x) (toPs xs) := fold_toP (fun y a => PySem.W.dataLt y a) xs x
theorem maxA_toP (x : D) (xs : List D) : toP (maxA x xs) = PySem.W.maxD (toP x) (toPs xs) := fold_toP (fun y a => PySem.W.dataLt a y) xs x
theorem fold_mem (c : D → D → Bool) : ∀ (xs : List D) (x : D), xs.foldl (fun a y => if c y a = true then y else a) x ∈ x :: xs
  | [], x => by simp
  | y :: ys, x => by
    rw [List.foldl_cons]
    have := fold_mem c ys (if c y x = true then y else x)
    by_cases h : c y x = true
    · rw [if_pos h] at this ⊢
      exact List.mem_cons_of_mem _ this
    · rw [if_neg h] at this ⊢
      rcases List.mem_cons.mp this with z | z
      · rw [z]; simp
      · exact List.mem_cons_of_mem _ (List.mem_cons_of_mem _ z)
theorem minA_mem (x : D) (xs : List D) : minA x xs ∈ x :: xs := fold_mem (fun y a => PySem.W.dataLt (toP y) (toP a)) xs x
theorem maxA_mem (x : D) (xs : List D) : maxA x xs ∈ x :: xs := fold_mem (fun y a => PySem.W.dataLt (toP a) (toP y)) xs x
theorem allCmp_mem {ds : List D} (h : allCmp ds = true) : (∀ x ∈ ds, clean x = true ∧ SeqAt.shaped (toP x) = true ∧ isNonD x = false) ∧ ∀ x ∈ ds, ∀ y ∈ ds, PySem.W.alike (toP x) (toP y) = true := by
  unfold allCmp cmpOk at h
  simp only [Bool.and_eq_true, List.all_eq_true, Bool.not_eq_true'] at h
  exact ⟨fun x hx => ⟨(h.1 x hx).1.1, (h.1 x hx).1.2, (h.1 x hx).2⟩, h.2⟩
theorem alike_all {ds : List D} (h : allCmp ds = true) : PySem.W.AlikeAll (toPs ds) := by
  obtain ⟨h1, h2⟩ := allCmp_mem h
  rw [toPs_eq]
  refine ⟨fun x hx y hy => ?_, fun x hx => ?_⟩
  · obtain ⟨a, ha, rfl⟩ := List.mem_map.mp hx
    obtain ⟨b, hb, rfl⟩ := List.mem_map.mp hy
    exact h2 a ha b hb
  · obtain ⟨a, ha, rfl⟩ := List.mem_map.mp hx
    have := (h1 a ha).2.2
    cases a <;> simp [toP, isNonD] at this ⊢
theorem depthAll_le : ∀ {ds : List D}, (∀ x ∈ ds, SeqAt.shaped (toP x) = true) → PyData.depthAll (toPs ds) ≤ 64
  | [], _ => by simp [toPs, PyData.depthAll]
  | d :: ds, h => by
    have h1 := SeqAt.depth_of_shaped (h d (by simp))
    have h2 := depthAll_le (ds := ds) fun x hx => h x (by simp [hx])
    simp only [toPs, PyData.depthAll]
    omega
def rBest (K : PySem.W.Frag) (f : PyData → List PyData → PyData) : List V → Hp → VK → Prop := fun vs H Q => ∃ b a xs d ds, vs = [V.ref a] ∧ SqA K H b a xs ∧ DpAll K H xs (d :: ds) ∧ PySem.W.AlikeAll (d :: ds) ∧ PyData.depthAll (d :: ds) ≤ 64 ∧ (f d ds ∈ d :: ds) ∧
  ∀ (i : Nat) (v : V), (xs : List V)[i]? = some v → (d :: ds)[i]? = some (f d ds) → Q v H
theorem Vals.getB : ∀ {xs : List V} {us : List Value} {i : Nat} {u : Value}, Vals xs us → us[i]? = some u → ∃ x, xs[i]? = some x ∧ L2.RelV x u
  | _, _, i, u, .nil, e => by simp at e
  | _, _, 0, u, .cons r t, e => by simp at e; subst e; exact ⟨_, rfl, r⟩
  | _, _, i + 1, u, .cons r t, e => by
    obtain ⟨x, h1, h2⟩ := Vals.getB (i := i) t (by simpa using e)
    exact ⟨x, by simpa using h1, h2⟩
theorem readsAll_get : ∀ {h : Heap} {vs : List Value} {ds : List PyData} {as : List Addr} {i : Nat} {v : Value}, ReadsAll h vs ds as → vs[i]? = some v → ∃ d bs, ds[i]? = some d ∧ Reads h v d bs
  | _, _, _, _, i, v, .nil, e => by simp at e
  | _, _, _, _, 0, v, .cons r t, e => by simp at e; subst e; exact ⟨_, _, rfl, r⟩
  | _, _, _, _, i + 1, v, .cons r t, e => by
    obtain ⟨d, bs, h1, h2⟩ := readsAll_get (i := i) t (by simpa using e)
    exact ⟨d, bs, by simpa using h1, h2⟩
theorem c_best {id : String} {f : PyData → List PyData → PyData} (hk : X.K = K)
    (hl : ∀ {prog : Program} {w : World} {A : Around} {E : Value → Shared → Prop} {s : Shared} {l : Addr} {b : Bool} {vs : Array Value} {x : PyData} {xs : List PyData} {as : List Addr} {Q : Value → Shared → Prop}, A.handled = none → SeqB s.heap b l vs → ReadsAll s.heap vs.toList (x :: xs) as → PySem.W.AlikeAll (x :: xs) → A.units + 1 + PyData.depthAll (x :: xs) < cLine →
      (∀ (i : Nat) v h' tk bs, vs[i]? = some v → Reads h' v (f x xs) bs → (∀ b o, s.heap.get? b = some o → h'.get? b = some o) → Q v { s with heap := h', toks := tk }) → wpAny (model prog w) A (call (.builtin id) [.ref l]) Q E s)
    (hc : X.calm = true) (hu : X.A.units + 200 < cLine) : CallR X (.builtin id) (rBest K f) := by
  subst hk
  intro pins s σ H vs us Q I r h
  obtain ⟨b, a, xs, d, ds, rfl, hs, hd, ha, hz, hm, q⟩ := h
  obtain ⟨its, rv, p⟩ := inv_seqA I hs
  rw [Vals.ref1 r]
  obtain ⟨as, ra⟩ := Dp.readsAll I (d :: ds) xs its hd rv
  refine hl (I.ok.hd hc) p ra ha (by omega) fun i v h' tk bs hv rd hkeep => ?_
  have hv' : its[i]? = some v := by simpa using hv
  obtain ⟨x, hx, rx⟩ := Vals.getB rv hv'
  obtain ⟨e, cs, he, re⟩ := readsAll_get ra hv'
  have hmem : e ∈ d :: ds := List.mem_of_getElem? he
  have ee : e = f d ds := PySem.W.alike_unique e (f d ds) v cs bs (ha.1 _ hmem _ hm) (PySem.W.reads_keeps hkeep re) rd
  subst ee
  exact ⟨x, H, I.kept hkeep, rx, q i x hx he⟩
theorem c_min (hk : X.K = K) (hc : X.calm = true) (hu : X.A.units + 200 < cLine) : CallR X (.builtin "min") (rBest K PySem.W.minD) := c_best hk (fun {prog w A E s l b vs x xs as Q} h0 h1 h2 h3 h4 h5 => by
  cases b
  · exact PySem.W.min_list_data h0 h1 h2 h3 h4 h5
  · exact PySem.W.min_tuple_data h0 h1 h2 h3 h4 h5) hc hu
theorem c_max (hk : X.K = K) (hc : X.calm = true) (hu : X.A.units + 200 < cLine) : CallR X (.builtin "max") (rBest K PySem.W.maxD) := c_best hk (fun {prog w A E s l b vs x xs as Q} h0 h1 h2 h3 h4 h5 => by
  cases b
  · exact PySem.W.max_list_data h0 h1 h2 h3 h4 h5
  · exact PySem.W.max_tuple_data h0 h1 h2 h3 h4 h5) hc hu
theorem seqV {pd : Option PD} {F H : Hp} {d : D} {v : V} {ds : List D} (fh : Same F H) (r : RepB K pd F H d v) (e : seqD d = some ds) : ∃ b a xs, v = .ref a ∧ ds.length ≤ SZ ∧ SqA K H b a xs ∧ RepL K pd F ds xs := by
  obtain ⟨b, a, xs, h1, h2, h3⟩ := seqW r e
  exact ⟨b, a, xs, h1, h2, h3 F H (.refl fh)⟩
theorem v_best {f : PyData → List PyData → PyData} {fA : D → List D → D} (h1 : ∀ x xs, toP (fA x xs) = f (toP x) (toPs xs)) (h2 : ∀ x xs, fA x xs ∈ x :: xs) {gg : List D → Option D}
    (hg : gg = onSeq fun ds => match ds with
      | x :: xs => if allCmp (x :: xs) = true then some (fA x xs) else none
      | [] => none) : VL K (rBest K f) gg := fun pd F H xs d vs fh r e Q q => by
  subst hg
  unfold onSeq at e
  split at e
  · rename_i d0
    cases r with
    | cons r0 rt =>
      cases rt
      cases h5 : seqD d0 with
      | none => rw [h5] at e; cases e
      | some ds =>
        rw [h5] at e
        cases ds with
        | nil => cases e
        | cons x xs =>
          have e : (if allCmp (x :: xs) = true then some (fA x xs) else none) = some d := e
          split at e
          · rename_i hc
            cases e
            obtain ⟨b, a, ys, rfl, hl, sq, rr⟩ := seqV fh r0 h5
            obtain ⟨m1, m2⟩ := allCmp_mem hc
            have hcl : cleanL (x :: xs) = true := cleanL_all.mpr fun z hz => (m1 z hz).1
            refine ⟨b, a, ys, toP x, toPs xs, rfl, sq, RepL.dp fh hcl rr, alike_all hc, depthAll_le (ds := x :: xs) fun z hz => (m1 z hz).2.1, ?_, fun i v hv hi => ?_⟩
            · rw [← h1]
              have := List.mem_map_of_mem (f := toP) (h2 x xs)
              rw [← toPs_eq] at this
              exact this
            · obtain ⟨dd, hdd, rd⟩ := rr.getV hv
              have hi' : (toPs (x :: xs))[i]? = some (f (toP x) (toPs xs)) := hi
              rw [toPs_eq, List.getElem?_map, hdd, ← h1] at hi'
              have : dd = fA x xs := toP_inj (m1 _ (List.mem_of_getElem? hdd)).1 (m1 _ (h2 x xs)).1 (Option.some.inj hi')
              subst this
              exact q v F H (.refl fh) rd
          · cases e
  · cases e
theorem v_min : VL K (rBest K PySem.W.minD) minD := v_best minA_toP minA_mem rfl
theorem v_max : VL K (rBest K PySem.W.maxD) maxD := v_best maxA_toP maxA_mem rfl

/-! ### sum, all, any -/
def intsD : List D → Option (List Int)
  | [] => some []
  | .int i :: ds => (intsD ds).map (i :: ·)
  | _ => none
def blsD : List D → Option (List Bool)
  | [] => some []
  | .bl i :: ds => (blsD ds).map (i :: ·)
  | _ => none
theorem intsD_eq : ∀ {ds : List D} {ns : List Int}, intsD ds = some ns → ds = ns.map D.int
  | [], _, e => by cases e; rfl
  | .int i :: ds, ns, e => by
    simp only [intsD] at e
    cases h : intsD ds with
    | none => rw [h] at e; cases e
    | some ms => rw [h] at e; cases e; rw [intsD_eq h]; rfl
  | .non :: _, _, e => by cases e
  | .bl _ :: _, _, e => by cases e
  | .str _ :: _, _, e => by cases e
  | .tup _ :: _, _, e => by cases e
  | .lst _ :: _, _, e => by cases e
  | .rng :: _, _, e => by cases e
theorem blsD_eq : ∀ {ds : List D} {ns : List Bool}, blsD ds = some ns → ds = ns.map D.bl
  | [], _, e => by cases e; rfl
  | .bl i :: ds, ns, e => by
    simp only [blsD] at e
    cases h : blsD ds with
    | none => rw [h] at e; cases e
    | some ms => rw [h] at e; cases e; rw [blsD_eq h]; rfl
  | .non :: _, _, e => by cases e
  | .int _ :: _, _, e => by cases e
  | .str _ :: _, _, e => by cases e
  | .tup _ :: _, _, e => by cases e
  | .lst _ :: _, _, e => by cases e
  | .rng :: _, _, e => by cases e
@[simp] theorem intsD_map : ∀ ns : List Int, intsD (ns.map D.int) = some ns
  | [] => rfl
  | n :: ns => by simp [intsD, intsD_map ns]
@[simp] theorem blsD_map : ∀ ns : List Bool, blsD (ns.map D.bl) = some ns
  | [] => rfl
  | n :: ns => by simp [blsD, blsD_map ns]
def sumD : List D → Option D := onSeq fun ds => (intsD ds).map fun ns => .int ns.sum
def allD : List D → Option D
  | [.lst ds] => (blsD ds).map fun bs => .bl (bs.all id)
  | _ => none
def anyD : List D → Option D
  | [.lst ds] => (blsD ds).map fun bs => .bl (bs.any id)
  | _ => none
def rSumA (K : PySem.W.Frag) : List V → Hp → VK → Prop := fun vs H Q => ∃ (b : Bool) (a : Addr) (ns : List Int), vs = [V.ref a] ∧ SqA K H b a (ns.map V.int) ∧ Q (.int ns.sum) H
theorem c_sum (hk : X.K = K) (hc : X.calm = true) : CallR X (.builtin "sum") (rSumA K) := by
  subst hk
  intro pins s σ H vs us Q I r h
  obtain ⟨b, a, ns, rfl, hs, q⟩ := h
  cases b with
  | false => exact cr_sum hc pins s σ H _ us Q I r ⟨a, ns, rfl, hs, q⟩
  | true =>
    obtain ⟨its, rv, p, _⟩ := I.tuple (show SqT X.K H a (ns.map V.int) from hs)
    rw [Vals.ref1 r]
    have hi : IntsAre its ns := Vals.ints rv
    obtain ⟨xs, hx⟩ := hi.allInts.items
    have hn : numsOf its.toArray.toList = ns := by rw [show its.toArray.toList = its from rfl, hi.numsOf]
    have ht : s.heap.IsTuple a its.toArray := p
    rw [hx] at ht hn
    rw [nums_intItems] at hn
    refine PySem.W.ktm_sumG (I.ok.hd hc) ht fun h' tk t' hkp => ?_
    rw [preSum_eq, List.take_of_length_le (by simp), hn]
    exact ⟨.int _, H, I.kept hkp, ⟨_, rfl⟩, q⟩
theorem v_sum : VL K (rSumA K) sumD := fun pd F H xs d vs fh r e Q q => by
  unfold sumD onSeq at e
  split at e
  · rename_i d0
    cases r with
    | cons r0 rt =>
      cases rt
      cases h5 : seqD d0 with
      | none => rw [h5] at e; cases e
      | some ds =>
        rw [h5] at e
        have e : (intsD ds).map (fun ns => D.int ns.sum) = some d := e
        cases h6 : intsD ds with
        | none => rw [h6] at e; cases e
        | some ns =>
          rw [h6] at e; cases e
          obtain ⟨b, a, ys, rfl, hl, sq, rr⟩ := seqV fh r0 h5
          rw [intsD_eq h6] at rr
          rw [rr.ints] at sq
          exact ⟨b, a, ns, rfl, sq, q _ F H (.refl fh) (by simp [Rep])⟩
  · cases e
theorem c_all (hk : X.K = K) (hc : X.calm = true) : CallR X (.builtin "all") (rAll K) := by subst hk; exact cr_all hc
theorem c_any (hk : X.K = K) (hc : X.calm = true) : CallR X (.builtin "any") (rAny K) := by subst hk; exact cr_any hc
theorem v_all : VL K (rAll K) allD := fun pd F H xs d vs fh r e Q q => by
  unfold allD at e
  split at e
  · rename_i ds
    cases h6 : blsD ds with
    | none => rw [h6] at e; cases e
    | some bs =>
      rw [h6] at e; cases e
      cases r with
      | cons r0 rt =>
        cases rt
        obtain ⟨a, ys, rfl, h3, _, h4⟩ := r0.lst fh
        rw [blsD_eq h6] at h4
        rw [h4.bls] at h3
        exact ⟨a, bs, rfl, .of h3, q _ F H (.refl fh) (by simp [Rep])⟩
  · cases e
theorem v_any : VL K (rAny K) anyD := fun pd F H xs d vs fh r e Q q => by
  unfold anyD at e
  split at e
  · rename_i ds
    cases h6 : blsD ds with
    | none => rw [h6] at e; cases e
    | some bs =>
      rw [h6] at e; cases e
      cases r with
      | cons r0 rt =>
        cases rt
        obtain ⟨a, ys, rfl, h3, _, h4⟩ := r0.lst fh
        rw [blsD_eq h6] at h4
        rw [h4.bls] at h3
        exact ⟨a, bs, rfl, .of h3, q _ F H (.refl fh) (by simp [Rep])⟩
  · cases e

/-! ### is True -/
def isBD : D → D → Option D
  | .bl a, .bl b => some (.bl (decide (a = b)))
  | _, _ => none
def isNotBD : D → D → Option D
  | .bl a, .bl b => some (.bl (!decide (a = b)))
  | _, _ => none
theorem v_isB : V2 K rIsB isBD := fun pd F H x y d v w fh rx ry e Q q => by
  cases x <;> cases y <;> first | (cases e; done) | skip
  cases e
  exact ⟨_, _, rx.bl, ry.bl, q _ F H (.refl fh) (by simp [Rep])⟩
theorem v_isNotB : V2 K rNotB isNotBD := fun pd F H x y d v w fh rx ry e Q q => by
  cases x <;> cases y <;> first | (cases e; done) | skip
  cases e
  exact ⟨_, _, rx.bl, ry.bl, q _ F H (.refl fh) (by simp [Rep])⟩

/-! ### += of ints; powers -/
def addI : D → D → Option D
  | .int a, .int b => some (.int (a + b))
  | _, _ => none
theorem v_iadd : V2 K (rI0 fun i j => .int (i + j)) addI := v2I0 (g := fun i j => .int (i + j)) (fun _ _ _ _ => by simp [Rep]) (int2 (fun _ _ => rfl) fun x y h => by cases x <;> cases y <;> first | rfl | exact (h _ _ rfl rfl).elim)
def powD : D → D → Option D
  | .int i, .int j => if 0 ≤ j ∧ j ≤ 1000000 ∧ i.natAbs < 2 ^ 64 then some (.int (i ^ j.toNat)) else none
  | _, _ => none
theorem v_pow : V2 K (rI CPow fun i j => .int (i ^ j.toNat)) powD := v2I (g := fun i j => .int (i ^ j.toNat)) (fun _ _ _ _ => by simp [Rep]) fun x y d e => by
  cases x <;> cases y <;> first | (cases e; done) | skip
  rename_i i j
  simp only [powD] at e
  split at e
  · rename_i h; exact ⟨i, j, rfl, rfl, h, (Option.some.inj e).symm⟩
  · cases e
end
end Pu
namespace Pu
open PySem PySem.Spec PyProof.Rows L2

/-! ### tuple * int -/
theorem tmul_same (l : Addr) (items : Array Value) (n : Nat) (dd : Option Addr) (sl : Array (Option Value)) (x : Int) (u : Tok) (c0 : (decide (x < -(2 ^ 63)) || decide (x ≥ 2 ^ 63)) = false) (c1 : (items.isEmpty || x == 1) = true) :
    Meets (Builtin.«tuple.__mul__» ⟨[.ref l, .int x u], []⟩) (fun _ R s => s.heap.get? l = some { cls := .type "tuple", dict := dd, data := .seq items n, slots := sl } ∧ R (.ok (.ret (Value.ref l))) s) :=
  .of_wp fun prog w A R s h => by
    obtain ⟨hp, g, d, tk, os⟩ := s
    obtain ⟨hl, h⟩ := h
    have f1 := AutoSeq1.idx_int
    wp_walk using wpAny_loadPart' hl
    repeat (first
      | (refine wpAny_ite_false (decide_eq_false (by rw [c0]; exact Bool.false_ne_true)) ?_; wp_walk using wpAny_loadPart' hl)
      | (refine wpAny_ite_true (decide_eq_true c1) ?_; wp_walk using wpAny_loadPart' hl))
    exact ⟨_, rfl, h⟩
theorem tmul_none (l : Addr) (items : Array Value) (n : Nat) (dd : Option Addr) (sl : Array (Option Value)) (x : Int) (u : Tok) (c0 : (decide (x < -(2 ^ 63)) || decide (x ≥ 2 ^ 63)) = false) (c1 : (items.isEmpty || x == 1) = false) (c2 : (decide (x ≤ 0) || items.isEmpty) = true) :
    Meets (Builtin.«tuple.__mul__» ⟨[.ref l, .int x u], []⟩) (fun _ R s => s.heap.get? l = some { cls := .type "tuple", dict := dd, data := .seq items n, slots := sl } ∧
      R (.ok (.ret (Value.ref s.heap.objs.size))) { s with heap := s.heap.push { cls := Value.type "tuple", data := Data.seq #[] }, toks := s.toks }) :=
  .of_wp fun prog w A R s h => by
    obtain ⟨hp, g, d, tk, os⟩ := s
    obtain ⟨hl, h⟩ := h
    have f1 := AutoSeq1.idx_int
    wp_walk using wpAny_loadPart' hl
    repeat (first
      | (refine wpAny_ite_false (decide_eq_false (by rw [c0]; exact Bool.false_ne_true)) ?_; wp_walk using wpAny_loadPart' hl)
      | (refine wpAny_ite_false (decide_eq_false (by rw [c1]; exact Bool.false_ne_true)) ?_; wp_walk using wpAny_loadPart' hl)
      | (refine wpAny_ite_true (decide_eq_true c2) ?_; wp_walk using wpAny_loadPart' hl))
    exact ⟨_, rfl, h⟩
def rRepA (K : PySem.W.Frag) : R2 := fun x y H Q => ∃ l k xs, x = .ref l ∧ y = .int k ∧ SqT K H l xs ∧ -(2 ^ 63) ≤ k ∧ k ≤ 1000 ∧ xs.length ≤ 1000 ∧ (xs = [] ∨ k = 1 → Q (.ref l) H) ∧ (xs ≠ [] → k ≠ 1 → ∀ p, H p = none → Q (.ref p) (L2.upd H p (.tup (List.replicate k.toNat xs).flatten)))
section
variable {X : Cx} {K : PySem.W.Frag}
theorem op_repTA (hk : X.K = K) : OpR X (binaryOp .Mult) (rRepA K) := by
  subst hk
  intro pins s σ H x y v u Q I rx ry h
  obtain ⟨l, k, xs, rfl, rfl, hT, h1, h2, hz, q1, q2⟩ := h
  by_cases hbig : xs ≠ [] ∧ 2 ≤ k
  · exact op_repT pins s σ H _ _ v u Q I rx ry ⟨l, k, xs, rfl, rfl, hT, hbig.1, hbig.2, h2, hz, q2 hbig.1 (by omega)⟩
  cases rx
  obtain ⟨t, rfl⟩ := ry
  obtain ⟨its, r, ⟨⟨cls, dd, data, sl⟩, ho, hc, n, hd⟩, hs⟩ := I.tuple hT
  simp only at hc hd
  subst hc hd
  have hle : its.length = xs.length := r.length.symm
  have c0 : (decide (k < -(2 ^ 63)) || decide (k ≥ 2 ^ 63)) = false := by
    rw [decide_eq_false (by omega), decide_eq_false (by omega)] <;> rfl
  by_cases hsame : xs = [] ∨ k = 1
  · have c1 : (its.toArray.isEmpty || k == 1) = true := by
      rcases hsame with e | e
      · subst e
        cases its with
        | nil => rfl
        | cons a b => cases hle
      · subst e; simp
    exact wpAny_binaryOp_repeat_ref (T := "tuple") (U := "int") (by decide) ⟨_, ho, rfl⟩ (fun s' => typeIs_int s' k t) noFill_tuple_mul F.fills_int_mul F.slot_int_rmul repeat_tuple F.slot_int_index.lookup
      (call_meets F.slot_int_rmul (typeIs_int s k t) F.entry_int_rmul (F.args_int_rmul_2 _ _) (int_rmul_tuple k t l its.toArray n dd sl)
        ⟨ho, rfl, ⟨_, ho, rfl⟩, call_meets F.slot_tuple_mul ⟨_, ho, rfl⟩ F.entry_tuple_mul (F.args_tuple_mul_2 _ _) (tmul_same l its.toArray n dd sl k t c0 c1) ⟨ho, .ref l, H, I, rfl, q1 hsame⟩⟩)
  · have hx : xs ≠ [] := fun e => hsame (.inl e)
    have hk1 : k ≠ 1 := fun e => hsame (.inr e)
    have hk0 : k ≤ 0 := by
      by_cases h2 : 2 ≤ k
      · exact absurd ⟨hx, h2⟩ hbig
      · omega
    have hi : its.toArray.isEmpty = false := by
      cases its with
      | nil => exact absurd (List.eq_nil_of_length_eq_zero hle.symm) hx
      | cons a b => rfl
    have c1 : (its.toArray.isEmpty || k == 1) = false := by
      rw [hi, Bool.false_or]
      exact beq_eq_false_iff_ne.mpr hk1
    have c2 : (decide (k ≤ 0) || its.toArray.isEmpty) = true := by rw [decide_eq_true hk0]; rfl
    have e0 : k.toNat = 0 := by omega
    have q := q2 hx hk1
    rw [e0] at q
    refine wpAny_binaryOp_repeat_ref (T := "tuple") (U := "int") (by decide) ⟨_, ho, rfl⟩ (fun s' => typeIs_int s' k t) noFill_tuple_mul F.fills_int_mul F.slot_int_rmul repeat_tuple F.slot_int_index.lookup
      (call_meets F.slot_int_rmul (typeIs_int s k t) F.entry_int_rmul (F.args_int_rmul_2 _ _) (int_rmul_tuple k t l its.toArray n dd sl)
        ⟨ho, rfl, ⟨_, ho, rfl⟩, call_meets F.slot_tuple_mul ⟨_, ho, rfl⟩ F.entry_tuple_mul (F.args_tuple_mul_2 _ _) (tmul_none l its.toArray n dd sl k t c0 c1 c2) ⟨ho, ?_⟩⟩)
    refine ⟨.ref s.heap.objs.size, _, I.laid (t' := s.toks) (o := .tup []) (fun b ob q => Heap.get?_push_of_some _ q) (Nat.le_refl _) ?_, rfl, q _ (I.hok.fresh (Nat.le_refl _))⟩
    exact ⟨Nat.zero_le _, [], .nil, IsTup.new _ _⟩
def repT : D → D → Option D
  | .tup a, .int k => if -(2 ^ 63) ≤ k ∧ k ≤ 1000 ∧ a.length ≤ 1000 then some (.tup (List.replicate k.toNat a).flatten) else none
  | _, _ => none
theorem v_repT : V2 K (rRepA K) repT := fun pd F H x y d v w fh rx ry e Q q => by
  cases x <;> cases y <;> first | (cases e; done) | skip
  rename_i as k
  simp only [repT] at e
  split at e
  · rename_i hl
    cases e
    obtain ⟨a, xs, rfl, t1, t2, l1, r1⟩ := rx.tup fh
    refine ⟨a, k, xs, rfl, ry.int, t1, hl.1, hl.2.1, by rw [r1.length]; exact hl.2.2, fun z => ?_, fun _ _ p n => ?_⟩
    · have : (List.replicate k.toNat as).flatten = as := by
        rcases z with z | z
        · subst z
          have : as = [] := List.eq_nil_of_length_eq_zero r1.length.symm
          subst this
          simp
        · subst z; simp
      rw [this] at q
      exact q _ F H (.refl fh) (by simp only [Rep]; exact ⟨a, xs, rfl, t2, l1, r1⟩)
    · have x2 := Ext.new (o := .tup (List.replicate k.toNat xs).flatten) fh n
      refine q _ _ _ x2 ?_
      simp only [Rep]
      refine ⟨p, _, rfl, .of upd_same, ?_, (r1.rep _).mono x2.ff⟩
      rw [List.length_flatten, List.map_replicate, List.sum_replicate_nat]
      have a1 : k.toNat * as.length ≤ 1000 * 1000 := Nat.mul_le_mul (by omega) hl.2.2
      exact Nat.le_trans a1 (by decide)
  · cases e

/-! ### x[::-1] -/
theorem sliceRev {prog : Program} {w : World} {A : Around} {E : Value → Shared → Prop} {s : Shared} {sl : Addr} {vl vu vs : Value} {n : Nat} {Q : Int × Int × Nat → Shared → Prop} (hs : s.heap.IsSliceOf sl vl vu vs) (pl : IsPart vl none) (pu : IsPart vu none) (ps : IsPart vs (some (-1)))
    (h : Q ((n : Int) - 1, -1, n) s) : wpAny (model prog w) A (Builtin.Slice.sliceApplied (.ref sl) (pure (n : Int))) Q E s := by
  obtain ⟨os, hos, hcs, hds⟩ := id hs
  unfold Builtin.Slice.sliceApplied Builtin.Slice.sliceFields
  refine wpAny_bind (wpAny_bind (wpAny_field hos hds (x := vl) rfl (wpAny_bind (wpAny_field hos hds (x := vu) rfl (wpAny_bind (wpAny_field hos hds (x := vs) rfl (wpAny_pure ?_)))))))
  refine wpAny_bind (HT.slicePart_ ps ?_)
  show wpAny _ _ (if ((-1 : Int) == 0) = true then _ else _) _ _ s
  rw [if_neg (by decide)]
  refine wpAny_bind (HT.slicePart_ pl (wpAny_bind (HT.slicePart_ pu (wpAny_bind (wpAny_pure ?_)))))
  show wpAny _ _ (pure ((n : Int) - 1, (-1 : Int), Builtin.Slice.slicePlaces ((n : Int) - 1) (-1) (-1))) _ _ s
  have e : Builtin.Slice.slicePlaces ((n : Int) - 1) (-1) (-1) = n := by
    unfold Builtin.Slice.slicePlaces
    rw [if_neg (by decide)]
    by_cases h : (n : Int) - 1 > -1
    · rw [if_pos h, show (- -1 : Int) = 1 by decide, Int.ediv_one]; omega
    · rw [if_neg h]; omega
  rw [e]
  exact wpAny_pure h
theorem filterMap_same {α β : Type} {f g : α → Option β} : ∀ {l : List α}, (∀ x ∈ l, f x = g x) → l.filterMap f = l.filterMap g
  | [], _ => rfl
  | a :: l, h => by
    rw [List.filterMap_cons, List.filterMap_cons, h a (by simp), filterMap_same fun x hx => h x (by simp [hx])]
theorem pick_rev (xs : Array Value) : ((List.range xs.size).filterMap fun (m : Nat) => xs[((xs.size : Int) - 1 + (m : Int) * -1).toNat]?).toArray = xs.toList.reverse.toArray := by
  have e := PySem.W.krv_all xs
  have e2 : ((List.range xs.size).filterMap fun (m : Nat) => xs[((xs.size : Int) - 1 + (m : Int) * -1).toNat]?) = ((List.range xs.size).map fun k => xs.size - 1 - k).filterMap (xs[·]?) := by
    rw [List.filterMap_map]
    refine filterMap_same fun m hm => ?_
    have := List.mem_range.mp hm
    show xs[((xs.size : Int) - 1 + (m : Int) * -1).toNat]? = xs[xs.size - 1 - m]?
    rw [show ((xs.size : Int) - 1 + (m : Int) * -1).toNat = xs.size - 1 - m by omega]
  rw [e2, PySem.W.krv_range, List.filterMap_reverse, e]
theorem getItem_tuple_rev {prog : Program} {w : World} {A : Around} {E : Value → Shared → Prop} {s : Shared} {t sl : Addr} {items : Array Value} {vl vu vs : Value} {Q : Value → Shared → Prop} (ht : IsTup s.heap t items) (hs : s.heap.IsSliceOf sl vl vu vs) (pl : IsPart vl none) (pu : IsPart vu none) (ps : IsPart vs (some (-1)))
    (h : Q (.ref s.heap.objs.size) { s with heap := s.heap.push { cls := .type "tuple", data := .seq items.toList.reverse.toArray } })
    (hsz : items.size ≤ sizeLine) : wpAny (model prog w) A (getItem (.ref t) (.ref sl)) Q E s := by
  have htake : sizeOk (.seq items.toList.reverse.toArray) := by
    show items.toList.reverse.toArray.size ≤ sizeLine
    simpa using hsz
  obtain ⟨os, hos, hcs, hds⟩ := id hs
  have hTs : s.TypeIs (.ref sl) "slice" := ⟨os, hos, hcs⟩
  unfold getItem
  try with_reducible refine wpAny_holding ?_
  first | refine wpAny_bind (wpAny_pure ?_) | skip
  refine wpAny_bind (wpAny_sequenceKey ht.typeIs (by decide) ?_)
  refine wpAny_bind (wpAny_callSpecial?_slot (name := Str.ofString "__getitem__") ht.typeIs PyProof.Rows.slot_tuple_getitem
    (wpAny_call_entry PyProof.Rows.slot_tuple_getitem ht.typeIs entry_tuple_getitem ?_ (args_tuple_getitem _ _)))
  show wpAny _ _ (Builtin.Tuple.tupleItemsOf (.ref t) >>= _) _ _ s
  refine wpAny_bind (tupleItemsOf_ ht ?_)
  refine wpAny_bind (wpAny_typeOf hTs ?_)
  rw [if_pos (by decide)]
  refine wpAny_bind (sliceRev hs pl pu ps ?_)
  have hno : ¬ ((((items.size : Int) - 1) == 0 && (-1 : Int) == 1 && items.size == items.size) = true) := by simp
  show wpAny _ _ (if (((items.size : Int) - 1) == 0 && (-1 : Int) == 1 && items.size == items.size) = true then _ else _) _ _ s
  rw [if_neg hno, pick_rev]
  first
    | exact wpAny_bind (m := Builtin.Tuple.tupleExact _) (wpAny_newObj_type (wpAny_pure ⟨_, rfl, wpAny_pure h⟩) htake)
    | exact wpAny_bind (m := Builtin.Tuple.tupleExact _) (wpAny_newObj_type (wpAny_bind (wpAny_pure (wpAny_pure ⟨_, rfl, wpAny_pure h⟩))) htake)
    | exact wpAny_bind (wpAny_bind (m := Builtin.Tuple.tupleExact _) (wpAny_newObj_type (wpAny_pure (wpAny_pure ⟨_, rfl, wpAny_pure h⟩)) htake))
    | exact wpAny_bind (wpAny_bind (m := Builtin.Tuple.tupleExact _) (wpAny_newObj_type (wpAny_pure ⟨_, rfl, wpAny_pure h⟩) htake))
def tRevA (K : PySem.W.Frag) (te : TE) : TE := fun σ H Q => te σ H fun x H1 => ∃ b a xs, x = .ref a ∧ SqA K H1 b a xs ∧ ∀ p, H1 p = none → Q (.ref p) (L2.upd H1 p (if b = true then .tup xs.reverse else .lst xs.reverse))
theorem pe_revA {X : Cx} {e : Expr} {te : TE} {k : Nat} {p1 p2 p3 pos : Pos} (he : PE X e te) : PE X (.Subscript e (.Slice none none (some (.UnaryOp .USub (.Constant (.int 1) k p1) p2)) p3) pos) (tRevA X.K te) := by
  refine ⟨fun pins s σ H Q I h => ?_⟩
  refine Subscript_ (thn (he.run pins s σ H _ I h) fun v s1 ⟨x, H1, I1, r1, q1⟩ => ?_)
  obtain ⟨b, a, xs, ex, hx, q⟩ := q1
  subst ex
  cases r1
  have hst : PO X (some (.UnaryOp .USub (.Constant (.int 1) k p1) p2)) (tPart (tUn (rU fun i => .int (-i)) (tC (.int 1)))) := po_some (pe_un un_neg pe_int)
  refine wpAny_Slice (thn (po_none.run pins s1 σ H1 (fun o H2 => o = none ∧ H2 = H1) I1 ⟨rfl, rfl⟩) fun vl s2 ⟨l, H2, I2, pl, el, e2⟩ => ?_)
  subst el e2
  refine thn (po_none.run pins s2 σ H2 (fun o H3 => o = none ∧ H3 = H2) I2 ⟨rfl, rfl⟩) fun vu s3 ⟨u, H3, I3, pu, eu, e3⟩ => ?_
  subst eu e3
  refine thn (hst.run pins s3 σ H3 (fun o H4 => o = some (-1) ∧ H4 = H3) I3 ⟨1, rfl, -1, rfl, rfl, rfl⟩) fun vs s4 ⟨o, H4, I4, ps, eo, e4⟩ => ?_
  subst eo e4
  have I5 : Inv X pins σ H4 { s4 with heap := s4.heap.push { cls := .type "slice", data := .fields #[vl, vu, vs] } } := I4.kept (t' := s4.toks) fun b ob q => Heap.get?_push_of_some _ q
  show wpAny (model X.prog X.w) X.A (subscriptTail e (.Slice none none (some (.UnaryOp .USub (.Constant (.int 1) k p1) p2)) p3) (.ref a) (.ref s4.heap.objs.size)) (EP X pins σ Q) X.xe { s4 with heap := s4.heap.push { cls := .type "slice", data := .fields #[vl, vu, vs] } }
  cases b with
  | false =>
    obtain ⟨its, r, ht, hz⟩ := I5.list (show SqL X.K H4 a xs from hx)
    have hlen := r.length
    refine tail_any (ops := [.ref a, .ref s4.heap.objs.size]) ht.isList.typeIs (PySem.slot_list_getitem.lookup) ?_ (by with_unfolding_all rfl)
    refine wpAny_getItem_list_slice ht.isList (Heap.IsSliceOf.new _ vl vu vs) pl pu ps (by decide) ?_ (by rw [List.size_toArray]; omega)
    rw [PySem.W.krv_pick]
    refine ⟨.ref _, _, I5.laid (t' := s4.toks) (o := .lst xs.reverse) (fun b ob q => Heap.get?_push_of_some _ q) (Nat.le_refl _) ?_, rfl, q _ (I5.hok.fresh (Nat.le_refl _))⟩
    exact ⟨by rw [List.length_reverse]; exact hz, _, 0, r.reverse, Heap.get?_push_size _ rfl⟩
  | true =>
    obtain ⟨its, r, ht, hz⟩ := I5.tuple (show SqT X.K H4 a xs from hx)
    have hlen := r.length
    refine tail_any (ops := [.ref a, .ref s4.heap.objs.size]) ht.typeIs (PyProof.Rows.slot_tuple_getitem.lookup) ?_ (by with_unfolding_all rfl)
    refine getItem_tuple_rev ht (Heap.IsSliceOf.new _ vl vu vs) pl pu ps ?_ (by rw [List.size_toArray]; omega)
    refine ⟨.ref _, _, I5.laid (t' := s4.toks) (o := .tup xs.reverse) (fun b ob q => Heap.get?_push_of_some _ q) (Nat.le_refl _) ?_, rfl, q _ (I5.hok.fresh (Nat.le_refl _))⟩
    exact ⟨by rw [List.length_reverse]; exact hz, _, r.reverse, IsTup.new _ _⟩
def revD : D → Option D
  | .tup a => some (.tup a.reverse)
  | .lst a => some (.lst a.reverse)
  | _ => none
end
section
variable {ι : Type} {X : ι → Cx} {P : Program} {w : World} {K : PySem.W.Frag} {mg : Str → Option Value} {base : Heap} {N : List Str} {lv : Nat} {pos : Pos} {a b c e : Expr} {es elts : List Expr} {f fa fb fc : EF} {g : AF}
theorem cRev (C : Fam X P w K mg base N lv) {k : Nat} {p1 p2 p3 : Pos} (h : CB X K e f) : CE X K (.Subscript e (.Slice none none (some (.UnaryOp .USub (.Constant (.int 1) k p1) p2)) p3) pos) (x1 revD f) := by
  obtain ⟨t, h1, h2⟩ := h
  refine ⟨tRevA K t, fun i => by have := pe_revA (pos := pos) (k := k) (p1 := p1) (p2 := p2) (p3 := p3) (h1 i); rw [C.k i] at this; exact this, fun pd F0 H0 F H ρ σ s d s' o e Q q => ?_⟩
  obtain ⟨x, s1, e1, e⟩ := Mb_eq e
  obtain ⟨e2, rfl⟩ := Mo_eq e
  refine h2 pd F0 H0 F H ρ σ s x s1 o e1 _ fun v F1 H1 x1 d1 r1 => ?_
  have fh := (o.step x1 d1).fh
  cases x <;> first | (cases e2; done) | skip
  · cases e2
    obtain ⟨p, xs, rfl, t1, t2, hl, r⟩ := r1.tup fh
    refine ⟨true, p, xs, rfl, t1, fun z n => ?_⟩
    have x2 := Ext.new (o := .tup xs.reverse) fh n
    refine q _ _ _ (x1.trans x2.lift) (d1.grow x2) ?_
    simp only [Rep]
    exact ⟨z, _, rfl, .of upd_same, by rw [List.length_reverse]; exact hl, r.reverse.mono x2.ff⟩
  · cases e2
    obtain ⟨p, xs, rfl, t1, hl, r⟩ := r1.lst fh
    refine ⟨false, p, xs, rfl, .of t1, fun z n => ?_⟩
    have x2 := Ext.new (o := .lst xs.reverse) fh n
    refine q _ _ _ (x1.trans x2.lift) (d1.grow x2) ?_
    simp only [Rep]
    exact ⟨z, _, rfl, upd_same, by rw [List.length_reverse]; exact hl, r.reverse.mono x2.ff⟩

/-! ### l.index(x) -/
def idxD (d : D) (ds : List D) : Option Nat := ds.findIdx? fun z => PyData.eqv (toP z) (toP d)
def indexD (x y : D) : Option D := match x with
  | .lst ds => if cmpOk (.lst ds) = true ∧ cmpOk y = true then (idxD y ds).map fun j => .int (j : Nat) else none
  | _ => none
theorem cIndex (C : Fam X P w K mg base N lv) {apos cpos : Pos} (ho : CB X K a fa) (ha : CB X K b fb)
    (hbase : ∀ j, attributeBase a "index" (X j).env (eval a (X j).env) = eval a (X j).env := by intro _; rfl)
    (hfew : ∀ j, ((backTo cpos (starEach [b] (X j).env)).all (fun x => !x.1) && (backToKw cpos (keywordEach [] (X j).env)).all (fun x => x.1.isSome)
      && decide (([b] : List Expr).length + ([] : List Keyword).length + (if ([] : List Keyword).isEmpty then 0 else 1) < 30)) = true := by intro _; rfl)
    (hline : (apos.endLine == cpos.line) = true := by rfl) (hs : ∀ j, starEach [b] (X j).env = (false, eval b (X j).env) :: starEach [] (X j).env := by intro _; rfl) (hplain : ∀ j, (backTo cpos (starEach [] (X j).env)).any (·.1) = false := by intro _; rfl) :
    CE X K (.Call (.Attribute a "index" apos) [b] [] cpos) (x2 indexD fa fb) := by
  obtain ⟨ta, a1, a2⟩ := ho
  obtain ⟨tb, b1, b2⟩ := ha
  refine ⟨tBM K "list" (rIndexD K) ta (tCons tb tNil), fun j => by
    have := pe_bm (X := X j) (cpos := cpos) (apos := apos) PySem.F.plainAttrs_list PySem.F.slot_list_index PySem.F.type_list_index (mt_indexD (by have := (C.r j).un; omega)) (a1 j) (pa_cons (b1 j) pa_nil (hs j)) (hbase j) (hfew j) hline (hs j) (hplain j)
    rw [C.k j] at this
    exact this, fun pd F0 H0 F H ρ σ s d s' o e Q q => ?_⟩
  obtain ⟨x, s1, e1, e⟩ := Mb_eq e
  obtain ⟨y, s2, e2, e⟩ := Mb_eq e
  obtain ⟨e3, rfl⟩ := Mo_eq e
  refine a2 pd F0 H0 F H ρ σ s x s1 o e1 _ fun v F1 H1 x1 d1 r1 => ?_
  have o1 := o.step x1 d1
  obtain ⟨ds, rfl⟩ : ∃ ds, x = .lst ds := by cases x <;> first | (cases e3; done) | exact ⟨_, rfl⟩
  · simp only [indexD] at e3
    split at e3
    · rename_i hc
      cases hj : idxD y ds with
      | none => rw [hj] at e3; cases e3
      | some j =>
        rw [hj] at e3; cases e3
        obtain ⟨p, xs, rfl, h3, _, h4⟩ := r1.lst o1.fh
        refine ⟨.inl ⟨rfl, xs, .of h3⟩, b2 pd F0 H0 F1 H1 ρ σ s1 y s2 o1 e2 _ fun u F2 H2 x2 d2 r2 => ?_⟩
        have o2 := o1.step x2 d2
        have r1' := r1.mono x2
        unfold cmpOk at hc
        simp only [Bool.and_eq_true] at hc
        obtain ⟨⟨c1, s1'⟩, c2, s2'⟩ := hc
        have dl := r1'.dp o2.fh c1
        have hjj := hj
        unfold idxD at hjj
        rw [List.findIdx?_eq_some_iff_getElem] at hjj
        obtain ⟨hlt, h5, h6⟩ := hjj
        simp only [toP] at dl s1'
        refine ⟨p, u, toP y, toPs ds, j, toP ds[j], rfl, rfl, dl, r2.dp o2.fh c2, s1', s2', by rw [toPs_eq, List.getElem?_map, List.getElem?_eq_getElem hlt]; rfl, h5, fun m z' hm hz => ?_, q _ F2 H2 (x1.trans x2) o2.dok (by simp [Rep])⟩
        rw [toPs_eq, List.getElem?_map, List.getElem?_eq_getElem (by omega)] at hz
        have hz := Option.some.inj hz
        subst hz
        simpa using h6 m hm
    · cases e3

/-! ### list(range(..)), tuple(range(..)) -/
def o1 (g : D → Option (List D)) (f : EF) : AF := fun ρ => Mb (f ρ) fun x => Mo (g x)
def rgo1 : D → Option (List D)
  | .int j => if -(2 ^ 62) ≤ j ∧ j ≤ 16777216 then some (rangeL 0 j.toNat) else none
  | _ => none
def rgo2 : D → D → Option (List D)
  | .int i, .int j => if -(2 ^ 61) ≤ i ∧ i < 2 ^ 61 ∧ -(2 ^ 61) ≤ j ∧ j < 2 ^ 61 ∧ j - i ≤ 16777216 then some (rangeL i (j - i).toNat) else none
  | _, _ => none
def xTp (a : AF) : EF := fun ρ => Mb (a ρ) fun xs => Mp (.tup xs)
theorem rgV_rep {K : PySem.W.Frag} {pd : Option PD} {F : Hp} (i : Int) (j : Int) : RepL K pd F (rangeL i (j - i).toNat) (L2.rgV i j) := by
  have e1 : rangeL i (j - i).toNat = ((List.range (j - i).toNat).map fun (k : Nat) => i + (k : Int)).map D.int := by unfold rangeL; rw [List.map_map]; rfl
  have e2 : L2.rgV i j = ((List.range (j - i).toNat).map fun (k : Nat) => i + (k : Int)).map V.int := by unfold L2.rgV; rw [List.map_map]; rfl
  rw [e1, e2]
  exact RepL.ofInts _
theorem oListRg1 (C : Fam X P w K mg base N lv) (hm1 : mg "list" = none) (hm2 : mg "range" = none) {p p2 pos2 : Pos} (h : CE X K a fa) (hg : ∀ i, Gl (X i) "list" := by intro _; rfl) (hg2 : ∀ i, Gl (X i) "range" := by intro _; rfl)
    (na : ∀ i, starEach [a] (X i).env = (false, eval a (X i).env) :: starEach [] (X i).env := by intro _; rfl) (nb : ∀ i, starEach [.Call (.Name "range" p2) [a] [] pos2] (X i).env = (false, eval (.Call (.Name "range" p2) [a] [] pos2) (X i).env) :: starEach [] (X i).env := by intro _; rfl) :
    CO X K (.Call (.Name "list" p) [.Call (.Name "range" p2) [a] [] pos2] [] pos) (o1 rgo1 fa) := by
  obtain ⟨t, h1, h2⟩ := h
  refine ⟨_, fun i => pe_listRg (C.c i) (hg i) (by rw [C.m i]; exact hm1) (prg_1 (hg2 i) (by rw [C.m i]; exact hm2) (h1 i) (na i)) (nb i), fun pd F0 H0 F H ρ σ s d s' o e Q q => ?_⟩
  obtain ⟨x, s1, e1, e⟩ := Mb_eq e
  obtain ⟨e2, rfl⟩ := Mo_eq e
  refine h2 pd F0 H0 F H ρ σ s x s1 o e1 _ fun v F1 H1 x1 d1 r1 => ?_
  have fh := (o.step x1 d1).fh
  cases x <;> first | (cases e2; done) | skip
  rename_i j
  simp only [rgo1] at e2
  split at e2
  · rename_i hj
    cases e2
    simp only [Rep] at r1
    subst r1
    refine ⟨j, rfl, ⟨by omega, by omega, by omega, by omega, by omega⟩, fun z n => ?_⟩
    have x2 := Ext.own (o := .lst (L2.rgV 0 j)) fh n
    have rr := rgV_rep (K := K) (pd := pd) (F := F1) 0 j
    rw [Int.sub_zero] at rr
    refine q z (L2.rgV 0 j) F1 _ (x1.trans x2.lift) (d1.grow x2) ?_ (nF_of fh n) upd_same ?_ rr
    · cases hp : H z with
      | none => rfl
      | some u => exact absurd n (x1.hd z (by rw [hp]; simp))
    · unfold rangeL; rw [List.length_map, List.length_range]; show j.toNat ≤ 2 ^ 24; omega
  · cases e2
theorem oListRg2 (C : Fam X P w K mg base N lv) (hm1 : mg "list" = none) (hm2 : mg "range" = none) {p p2 pos2 : Pos} (h : CE X K a fa) (h' : CE X K b fb) (hg : ∀ i, Gl (X i) "list" := by intro _; rfl) (hg2 : ∀ i, Gl (X i) "range" := by intro _; rfl)
    (na : ∀ i, starEach [a, b] (X i).env = (false, eval a (X i).env) :: starEach [b] (X i).env := by intro _; rfl) (na2 : ∀ i, starEach [b] (X i).env = (false, eval b (X i).env) :: starEach [] (X i).env := by intro _; rfl)
    (hp : ∀ i, (backTo pos2 (starEach [b] (X i).env)).any (·.1) = false := by intro _; rfl)
    (nb : ∀ i, starEach [.Call (.Name "range" p2) [a, b] [] pos2] (X i).env = (false, eval (.Call (.Name "range" p2) [a, b] [] pos2) (X i).env) :: starEach [] (X i).env := by intro _; rfl) :
    CO X K (.Call (.Name "list" p) [.Call (.Name "range" p2) [a, b] [] pos2] [] pos) (o2 rgo2 fa fb) := by
  obtain ⟨t, h1, h2⟩ := h
  obtain ⟨u, u1, u2⟩ := h'
  refine ⟨_, fun i => pe_listRg (C.c i) (hg i) (by rw [C.m i]; exact hm1) (prg_2 (hg2 i) (by rw [C.m i]; exact hm2) (h1 i) (u1 i) (na i) (na2 i) (hp i)) (nb i), fun pd F0 H0 F H ρ σ s d s' o e Q q => ?_⟩
  obtain ⟨x, s1, e1, e⟩ := Mb_eq e
  obtain ⟨y, s2, e2, e⟩ := Mb_eq e
  obtain ⟨e3, rfl⟩ := Mo_eq e
  refine h2 pd F0 H0 F H ρ σ s x s1 o e1 _ fun v F1 H1 x1 d1 r1 => ?_
  refine u2 pd F0 H0 F1 H1 ρ σ s1 y s2 (o.step x1 d1) e2 _ fun v' F2 H2 x2 d2 r2 => ?_
  have fh := ((o.step x1 d1).step x2 d2).fh
  obtain ⟨i, j, rfl, rfl⟩ : ∃ i j, x = .int i ∧ y = .int j := by cases x <;> cases y <;> first | (cases e3; done) | exact ⟨_, _, rfl, rfl⟩
  simp only [rgo2] at e3
  split at e3
  · rename_i hj
    cases e3
    simp only [Rep] at r1 r2
    subst r1 r2
    refine ⟨i, j, rfl, rfl, ⟨by omega, by omega, by omega, by omega, by omega⟩, fun z n => ?_⟩
    have x3 := Ext.own (o := .lst (L2.rgV i j)) fh n
    refine q z (L2.rgV i j) F2 _ (x1.trans (x2.trans x3.lift)) (d2.grow x3) ?_ (nF_of fh n) upd_same ?_ (rgV_rep i j)
    · cases hp : H z with
      | none => rfl
      | some u => exact absurd n ((x1.trans x2).hd z (by rw [hp]; simp))
    · unfold rangeL; rw [List.length_map, List.length_range]; show (j - i).toNat ≤ 2 ^ 24; omega
  · cases e3
theorem cTupRg1 (C : Fam X P w K mg base N lv) (hm1 : mg "tuple" = none) (hm2 : mg "range" = none) {p p2 pos2 : Pos} (h : CE X K a fa) (hg : ∀ i, Gl (X i) "tuple" := by intro _; rfl) (hg2 : ∀ i, Gl (X i) "range" := by intro _; rfl)
    (na : ∀ i, starEach [a] (X i).env = (false, eval a (X i).env) :: starEach [] (X i).env := by intro _; rfl) (nb : ∀ i, starEach [.Call (.Name "range" p2) [a] [] pos2] (X i).env = (false, eval (.Call (.Name "range" p2) [a] [] pos2) (X i).env) :: starEach [] (X i).env := by intro _; rfl) :
    CE X K (.Call (.Name "tuple" p) [.Call (.Name "range" p2) [a] [] pos2] [] pos) (xTp (o1 rgo1 fa)) := by
  obtain ⟨t, h1, h2⟩ := h
  refine ⟨_, fun i => pe_tupRg (C.c i) (hg i) (by rw [C.m i]; exact hm1) (prg_1 (hg2 i) (by rw [C.m i]; exact hm2) (h1 i) (na i)) (nb i), fun pd F0 H0 F H ρ σ s d s' o e Q q => ?_⟩
  obtain ⟨x0, s0, e0, e⟩ := Mb_eq e
  obtain ⟨rfl, rfl⟩ := Mp_eq e
  obtain ⟨x, s1, e1, e⟩ := Mb_eq e0
  obtain ⟨e2, rfl⟩ := Mo_eq e
  refine h2 pd F0 H0 F H ρ σ s x s1 o e1 _ fun v F1 H1 x1 d1 r1 => ?_
  have fh := (o.step x1 d1).fh
  cases x <;> first | (cases e2; done) | skip
  rename_i j
  simp only [rgo1] at e2
  split at e2
  · rename_i hj
    cases e2
    simp only [Rep] at r1
    subst r1
    refine ⟨j, rfl, ⟨by omega, by omega, by omega, by omega, by omega⟩, fun z n => ?_⟩
    have x2 := Ext.new (o := .tup (L2.rgV 0 j)) fh n
    have rr := rgV_rep (K := K) (pd := pd) (F := F1) 0 j
    rw [Int.sub_zero] at rr
    refine q _ _ _ (x1.trans x2.lift) (d1.grow x2) ?_
    simp only [Rep]
    exact ⟨z, _, rfl, .of upd_same, by unfold rangeL; rw [List.length_map, List.length_range]; show j.toNat ≤ 2 ^ 24; omega, rr.mono x2.ff⟩
  · cases e2

/-! ### x = [.. for ..] -/
theorem semS_set {i : Nat} {te : TE} (h2 : SemE K te f) : SemS K (tAsg te (gName i)) (sSet i f) := fun pd F0 H0 F H ρ σ s r ρ' s' o e E q => by
  obtain ⟨d, s1, e1, e2⟩ := Mb_eq e
  obtain ⟨a, rfl⟩ := Mp_eq e2
  cases a
  exact h2 pd F0 H0 F H _ σ s d _ o e1 _ fun v F' H' x d' r => q _ F' H' x.ff ((o.step x d').set r)
theorem cSwLc (C : Fam X P w K mg base N lv) {y : Str} {py : Pos} {elt tg iter : Expr} {ifs : List Expr} {scope : Scope} {js : List Nat} {fi : AF} {gg : TGt} {ft : TF} {fe : EF} {lpos : Pos} (i : Nat) (own : List (Str × Nat)) (hi : CIW X K tg iter fi) (ok : ∀ i, BlkOk N (X i).env.scope scope own)
    (hg : CG (blkF X scope) K tg js gg) (ht : ∃ t, (∀ b, PTs (blkF X scope b) ifs t) ∧ SemT K t ft) (he : CE (blkF X scope) K elt fe) (hN : N[i]? = some y) (hk : ∀ j, (X j).env.scope.kind = .function) (hy : ∀ j, (X j).env.scope.names.lookup y = some .local) (hl : (py.line == lpos.line) = true)
    (ha : (scope.names.any fun (n, k) => n == y && (k == .local || k == .cell)) = false) (hj : ∀ j ∈ js, j ∈ own.map (·.2)) (hs : ∀ i, ∀ x, foldedSetIterable iter (X i).env x = pure x) :
    ∃ te, (∀ j, PS (X j) (.Assign [.Name y py] (.ListComp elt [⟨tg, iter, ifs, 0⟩] scope lpos) pos) (tAsg te (gName i))) ∧ SemO K te (oComp fi gg ft fe (own.map (·.2))) := by
  obtain ⟨wi, i1, i2⟩ := hi
  obtain ⟨g, g1, g2⟩ := hg
  obtain ⟨tt, t1, t2⟩ := ht
  obtain ⟨te, e1, e2⟩ := he
  exact ⟨_, fun i => ps_setLc (own := own) (C.c i) (by rw [C.n i]; exact C.nd) (by rw [C.n i]; exact hN) (hy i) (sw_true (hk i) (hy i) hl ha) (i1 i) (by rw [C.n i]; exact ok i) (fun s H Cc cl fp => g1 ⟨i, s, H, Cc, cl, fp⟩) (fun s H Cc cl fp => t1 ⟨i, s, H, Cc, cl, fp⟩) (fun s H Cc cl fp => e1 ⟨i, s, H, Cc, cl, fp⟩) (hs i), semO_comp i2 g2 t2 e2 hj⟩
theorem cOwnLc (C : Fam X P w K mg base N lv) {y : Str} {py : Pos} {elt tg iter : Expr} {ifs : List Expr} {scope : Scope} {js : List Nat} {fi : AF} {gg : TGt} {ft : TF} {fe : EF} {lpos : Pos} (i : Nat) (own : List (Str × Nat)) (hi : CIW X K tg iter fi) (ok : ∀ i, BlkOk N (X i).env.scope scope own)
    (hg : CG (blkF X scope) K tg js gg) (ht : ∃ t, (∀ b, PTs (blkF X scope b) ifs t) ∧ SemT K t ft) (he : CE (blkF X scope) K elt fe) (hN : N[i]? = some y := by rfl) (hk : ∀ j, (X j).env.scope.kind = .function := by intro _; rfl) (hy : ∀ j, (X j).env.scope.names.lookup y = some .local := by intro _; rfl) (hl : (py.line == lpos.line) = true := by rfl)
    (ha : (scope.names.any fun (n, k) => n == y && (k == .local || k == .cell)) = false := by decide +kernel) (hj : ∀ j ∈ js, j ∈ own.map (·.2) := by decide) (hs : ∀ i, ∀ x, foldedSetIterable iter (X i).env x = pure x := by intro _ _; rfl) :
    CS X K (.Assign [.Name y py] (.ListComp elt [⟨tg, iter, ifs, 0⟩] scope lpos) pos) (sOwn i (oComp fi gg ft fe (own.map (·.2)))) :=
  let ⟨te, h1, h2⟩ := cSwLc C i own hi ok hg ht he hN hk hy hl ha hj hs; ⟨_, h1, semS_own h2⟩
theorem cSetLc (C : Fam X P w K mg base N lv) {y : Str} {py : Pos} {elt tg iter : Expr} {ifs : List Expr} {scope : Scope} {js : List Nat} {fi : AF} {gg : TGt} {ft : TF} {fe : EF} {lpos : Pos} (i : Nat) (own : List (Str × Nat)) (hi : CIW X K tg iter fi) (ok : ∀ i, BlkOk N (X i).env.scope scope own)
    (hg : CG (blkF X scope) K tg js gg) (ht : ∃ t, (∀ b, PTs (blkF X scope b) ifs t) ∧ SemT K t ft) (he : CE (blkF X scope) K elt fe) (hN : N[i]? = some y := by rfl) (hk : ∀ j, (X j).env.scope.kind = .function := by intro _; rfl) (hy : ∀ j, (X j).env.scope.names.lookup y = some .local := by intro _; rfl) (hl : (py.line == lpos.line) = true := by rfl)
    (ha : (scope.names.any fun (n, k) => n == y && (k == .local || k == .cell)) = false := by decide +kernel) (hj : ∀ j ∈ js, j ∈ own.map (·.2) := by decide) (hs : ∀ i, ∀ x, foldedSetIterable iter (X i).env x = pure x := by intro _ _; rfl) :
    CS X K (.Assign [.Name y py] (.ListComp elt [⟨tg, iter, ifs, 0⟩] scope lpos) pos) (sSet i (xOf (oComp fi gg ft fe (own.map (·.2))))) :=
  let ⟨te, h1, h2⟩ := cSwLc C i own hi ok hg ht he hN hk hy hl ha hj hs; ⟨_, h1, semS_set (sem_of_O h2)⟩

/-! ### a module's names -/
structure CstOk (mg : Str → Option Value) (x : Str) (d : D) (K : PySem.W.Frag) : Prop where
  ex : ∃ v u, mg x = some u ∧ L2.RelV v u ∧ ∀ pd F, Rep K pd F d v
theorem CstOk.ce {x : Str} {d : D} (k : CstOk mg x d K) (C : Fam X P w K mg base N lv) (hg : ∀ j, Gl (X j) x := by intro _; rfl) (hd : (x == ("__debug__" : Str)) = false := by decide) : CE X K (.Name x pos) (xC d) :=
  let ⟨v, u, h1, h2, h3⟩ := k.ex; cGlob C h1 h2 h3 hg hd
theorem CstOk.int {x : Str} {i : Int} {t : Tok} (h : mg x = some (.int i t)) : CstOk mg x (.int i) K := ⟨.int i, _, h, ⟨t, rfl⟩, fun _ _ => by simp [Rep]⟩
structure Bi (mg : Str → Option Value) : Prop where
  len : mg "len" = none
  sum : mg "sum" = none
  min : mg "min" = none
  max : mg "max" = none
  all : mg "all" = none
  any : mg "any" = none
  abs : mg "abs" = none
  int : mg "int" = none
  sorted : mg "sorted" = none
  tuple : mg "tuple" = none
  list : mg "list" = none
  range : mg "range" = none
  enumerate : mg "enumerate" = none
  zip : mg "zip" = none
end
end Pu
namespace Pu
open PySem PySem.Spec PyProof.Rows L2

/-! ### a def's own list becomes known to all, ahead of a statement -/
def sFz (i : Nat) (g : SF) : SF := fun ρ => onOw ρ[i]? fun ds => g (ρ.set i (.sh (.lst ds)))
section
variable {ι : Type} {X : ι → Cx} {P : Program} {w : World} {K : PySem.W.Frag} {mg : Str → Option Value} {base : Heap} {N : List Str} {lv : Nat} {pos : Pos} {st : Stmt} {rest : List Stmt} {e : Expr} {f fk : EF} {g g' : SF}
theorem cFz (i : Nat) (h : CS X K st g) : CS X K st (sFz i g) := by
  obtain ⟨t, h1, h2⟩ := h
  refine ⟨t, h1, fun pd F0 H0 F H ρ σ s r ρ' s' o e E q => ?_⟩
  obtain ⟨ds, hds, e⟩ := onOw_eq e
  obtain ⟨p, F', _, f1, o', _⟩ := o.freeze hds
  exact h2 pd F0 H0 F' H _ σ s r ρ' s' o' e E (q.from f1)

/-! ### a, b = x, y: from the right -/
def sPar (i j : Nat) (f g : EF) : SF := fun ρ => Mb (f ρ) fun a => Mb (g ρ) fun b => Mp (.nx, (ρ.set i (.sh a)).set j (.sh b))

/-! ### the law's draw object -/
def rdD (k : Nat) (s : DS) : D := match k with
  | 0 => .lst (s.ns.map D.int)
  | 1 => .int s.pos
  | 2 => .int s.acc
  | _ => .int s.seed
def xRd (i k : Nat) : EF := fun ρ => onSh ρ[i]? fun d => match d with
  | .rng => fun s => some (rdD k s, s)
  | _ => Mf
def wrD (k : Nat) (v : Int) (s : DS) : DS := match k with
  | 1 => { s with pos := v }
  | 2 => { s with acc := v }
  | _ => { s with seed := v }
def wrOk (k : Nat) (v : Int) : Bool := decide (0 ≤ v) && (k != 3 || decide (v < 2147483647))
def sWr (i k : Nat) (f : EF) : SF := fun ρ => Mb (f ρ) fun d => onInt d fun v => onSh ρ[i]? fun x => match x with
  | .rng => fun s => if wrOk k v = true then some ((.nx, ρ), wrD k v s) else none
  | _ => Mf
theorem onSh_rng {i : Nat} {ρ : Rho} {α : Type} {k : M α} {s s' : DS} {a : α} (e : onSh ρ[i]? (fun d => match d with
  | .rng => k
  | _ => Mf) s = some (a, s')) : ρ[i]? = some (.sh .rng) ∧ k s = some (a, s') := by
  obtain ⟨d, h, e⟩ := onSh_eq e
  cases d <;> first | (cases e; done) | exact ⟨h, e⟩
theorem Ok.rng {K : PySem.W.Frag} {pd : Option PD} {F0 H0 F H : Hp} {ρ : Rho} {σ : L2.St} {s : DS} {i : Nat} (o : Ok K pd F0 H0 F H ρ σ s) (h : ρ[i]? = some (.sh .rng)) :
    ∃ x, pd = some x ∧ σ[i]? = some (some (.ref x.p)) ∧ F x.p = none ∧ s.ok ∧ H x.p = some (.lst [.ref x.q, .int s.pos, .int s.acc, .int s.seed]) ∧ F x.q = some (.lst (s.ns.map V.int)) := by
  obtain ⟨v, h1, h2⟩ := o.sh h
  simp only [Rep] at h2
  obtain ⟨a, rfl, h2⟩ := h2
  cases pd with
  | none => cases h2
  | some x =>
    have : x.p = a := Option.some.inj h2
    subst this
    obtain ⟨d1, d2, d3, d4⟩ := o.dok
    exact ⟨x, rfl, h1, d1, d2, d3, d4⟩
theorem Ok.wr {K : PySem.W.Frag} {x : PD} {F0 H0 F H : Hp} {ρ : Rho} {σ : L2.St} {s s' : DS} (o : Ok K (some x) F0 H0 F H ρ σ s) (ok : s'.ok) (hn : s'.ns = s.ns) :
    Ok K (some x) F0 H0 F (L2.upd H x.p (.lst [.ref x.q, .int s'.pos, .int s'.acc, .int s'.seed])) ρ σ s' := by
  obtain ⟨d1, d2, d3, d4⟩ := o.dok
  refine ⟨⟨o.ext.ff, fun a u e n => ?_, fun a e => ?_, o.ext.nw, fun a u e => ?_⟩, ⟨o.env.len, fun i sl e => ?_, o.env.ap⟩, d1, ok, upd_same, by rw [hn]; exact d4⟩
  · have : a ≠ x.p := fun z => n (by rw [z]; rfl)
    rw [upd_ne this]; exact o.ext.hh a u e n
  · by_cases ha : a = x.p
    · subst ha; rw [upd_same]; simp
    · rw [upd_ne ha]; exact o.ext.hd a e
  · have : a ≠ x.p := fun z => by rw [z, d1] at e; cases e
    rw [upd_ne this]; exact o.ext.fh a u e
  · obtain ⟨q, h1, h2⟩ := o.env.at' i sl e
    refine ⟨q, h1, ?_⟩
    cases sl with
    | un => trivial
    | sh d => exact h2
    | ow fs =>
      obtain ⟨p', xs', rfl, a2, a3, a4, a5, a6, a7⟩ := h2
      exact ⟨p', xs', rfl, a2, a3, a4, by rw [upd_ne (fun z => a4 (by rw [z]; rfl))]; exact a5, a6, a7⟩
theorem cRd (C : Fam X P w K mg base N lv) (i k : Nat) {x : Str} {p2 p3 : Pos} {kk} (hk : k ≤ 3) (hN : N[i]? = some x := by rfl) (hv : ∀ j, Vis (X j).env.scope x := by intro _; first | exact Or.inl rfl | exact Or.inr (Or.inl rfl) | exact Or.inr (Or.inr rfl))
    (hd : (x == ("__debug__" : Str)) = false := by decide) (hcd : (x == ("__classdict__" : Str)) = false := by decide) : CE X K (.Subscript (.Name x p2) (.Constant (.int (k : Nat)) kk p3) pos) (xRd i k) := by
  refine ⟨tOp (rIxL K) (tVar i) (tC (.int (k : Nat))), fun j => ?_, fun pd F0 H0 F H ρ σ s d s' o e Q q => ?_⟩
  · have := pe_ix (pos := pos) (X := X j) ix_list (pe_var (pos := p2) (by rw [C.n j]; exact hN) (hv j) hd hcd) (pe_int (i := ((k : Nat) : Int)) (j := kk) (pos := p3)) (fun _ _ => rfl)
    rw [C.k j] at this
    exact this
  · obtain ⟨h, e⟩ := onSh_rng e
    obtain ⟨e1, e2⟩ := Prod.mk.inj (Option.some.inj e)
    subst e2
    obtain ⟨x, rfl, h1, d1, d2, d3, d4⟩ := o.rng h
    have hcase : k = 0 ∨ k = 1 ∨ k = 2 ∨ k = 3 := by omega
    have fin : ∃ z, atI [V.ref x.q, .int s.pos, .int s.acc, .int s.seed] (k : Nat) = some z ∧ Rep K (some x) F d z := by
      rcases hcase with rfl | rfl | rfl | rfl
      · refine ⟨_, rfl, ?_⟩
        rw [← e1]
        simp only [rdD, Rep]
        exact ⟨x.q, _, rfl, d4, by rw [List.length_map]; exact Nat.le_trans d2.nl (by decide), RepL.ofInts _⟩
      · exact ⟨_, rfl, by rw [← e1]; simp [rdD, Rep]⟩
      · exact ⟨_, rfl, by rw [← e1]; simp [rdD, Rep]⟩
      · exact ⟨_, rfl, by rw [← e1]; simp [rdD, Rep]⟩
    obtain ⟨z, hz, rz⟩ := fin
    exact ⟨_, h1, x.p, _, (k : Nat), z, rfl, rfl, .of d3, hz, q z F H (.refl o.fh) o.dok rz⟩
theorem cWr (C : Fam X P w K mg base N lv) (i k : Nat) {x : Str} {p2 p3 p4 : Pos} {kk} (h : CE X K e f) (hk : 1 ≤ k ∧ k ≤ 3) (hN : N[i]? = some x := by rfl) (hv : ∀ j, Vis (X j).env.scope x := by intro _; first | exact Or.inl rfl | exact Or.inr (Or.inl rfl) | exact Or.inr (Or.inr rfl))
    (hd : (x == ("__debug__" : Str)) = false := by decide) (hcd : (x == ("__classdict__" : Str)) = false := by decide)
    (ha : ∀ j, ∀ v, assign (.Subscript (.Name x p2) (.Constant (.int (k : Nat)) kk p4) p3) (X j).env v = (do
      let ov ← holding [v] (eval (.Name x p2) (X j).env)
      let iv ← holding [v, ov] (eval (.Constant (.int (k : Nat)) kk p4) (X j).env)
      standAt p3
      holding [v, ov, iv] (setItem ov iv v)
      release [v, ov, iv] []) := by intro _ _; rfl)
    (hs : ∀ j, swapsWithSole [.Subscript (.Name x p2) (.Constant (.int (k : Nat)) kk p4) p3] e pos.line (X j).env = pure false := by intro _; rfl) (hw : ∀ j, swappedStores [.Subscript (.Name x p2) (.Constant (.int (k : Nat)) kk p4) p3] e (X j).env = pure none := by intro _; rfl)
    (h1 : ∀ j, (assignEach [.Subscript (.Name x p2) (.Constant (.int (k : Nat)) kk p4) p3] (X j).env).map (·.2) = [assign (.Subscript (.Name x p2) (.Constant (.int (k : Nat)) kk p4) p3) (X j).env] := by intro _; rfl) :
    CS X K (.Assign [.Subscript (.Name x p2) (.Constant (.int (k : Nat)) kk p4) p3] e pos) (sWr i k f) := by
  obtain ⟨t, e1, e2⟩ := h
  refine ⟨_, fun j => ps_asg (e1 j) (pg_sub (pe_var (by rw [C.n j]; exact hN) (hv j) hd hcd) (pe_int (i := ((k : Nat) : Int)) (j := kk) (pos := p4)) set_list (ha j)) (hs j) (hw j) (h1 j), fun pd F0 H0 F H ρ σ s r ρ' s' o e E q => ?_⟩
  obtain ⟨d, s1, a1, e⟩ := Mb_eq e
  obtain ⟨v, rfl, e⟩ := onInt_eq e
  obtain ⟨hr, e⟩ := onSh_rng e
  split at e
  · rename_i hok
    obtain ⟨e3, e4⟩ := Prod.mk.inj (Option.some.inj e)
    cases e3
    subst e4
    refine e2 pd F0 H0 F H _ σ s _ _ o a1 _ fun z F1 H1 x1 d1 r1 => ?_
    have o1 := o.step x1 d1
    simp only [Rep] at r1
    subst r1
    obtain ⟨x, rfl, h1, c1, c2, c3, c4⟩ := o1.rng hr
    unfold wrOk at hok
    simp only [Bool.and_eq_true, Bool.or_eq_true, bne_iff_ne, ne_eq, decide_eq_true_eq] at hok
    refine ⟨_, h1, x.p, _, (k : Nat), k, rfl, rfl, c3, ?_, ?_⟩
    · rcases (show k = 1 ∨ k = 2 ∨ k = 3 by omega) with rfl | rfl | rfl <;> rfl
    · rcases (show k = 1 ∨ k = 2 ∨ k = 3 by omega) with rfl | rfl | rfl
      · exact q σ F1 _ x1.ff (o1.wr (s' := wrD 1 v s1) ⟨hok.1, c2.a0, c2.s0, c2.s1, c2.nl⟩ rfl)
      · exact q σ F1 _ x1.ff (o1.wr (s' := wrD 2 v s1) ⟨c2.p0, hok.1, c2.s0, c2.s1, c2.nl⟩ rfl)
      · exact q σ F1 _ x1.ff (o1.wr (s' := wrD 3 v s1) ⟨c2.p0, c2.a0, hok.1, by rcases hok.2 with z | z; exact absurd rfl z; exact z, c2.nl⟩ rfl)
  · cases e
end

/-! ### _law_begin(script) -/
def spBegin (K : PySem.W.Frag) : Sp := fun vs H Q _ => ∃ (a : Addr) (ns : List Int), vs = [.ref a] ∧ SqL K H a (ns.map V.int) ∧ ns.length ≤ 63 ∧
  ∀ (q p : Addr) (H1 : Hp) (seed : Int), 0 ≤ seed → seed < 2147483647 → p ≠ q → H1 q = some (.lst (ns.map V.int)) → H1 p = some (.lst [.ref q, .int 0, .int 0, .int seed]) → Q (.ref p) H1
theorem seed_next {s c : Int} (h0 : 0 ≤ s) (h1 : s < 2147483647) : 0 ≤ (s * 69621 + c % 2147483629 + 7) % 2147483647 ∧ (s * 69621 + c % 2147483629 + 7) % 2147483647 < 2147483647 := ⟨Int.emod_nonneg _ (by decide), Int.emod_lt_of_pos _ (by decide)⟩
theorem log_small {x : Int} (h : x.natAbs < 2 ^ 64) : x.natAbs.log2 < 64 := by
  by_cases h0 : x.natAbs = 0
  · rw [h0]; decide
  · exact (Nat.log2_lt h0).mpr h
/-- the reading of its body, by hand (N = script, seed, cell) -/
def tBegin (K : PySem.W.Frag) (tl : TE) : TS := tSeq (tAsg (tC (.int 1)) (gName 1)) (tSeq (tFor (iList K (tVar 0)) (gName 2) (tAsg (tOp (rI (fun _ j => 0 < j) fun i j => .int (i % j)) (tOp (rAddAll K) (tOp (rAddAll K) (tOp (rI CMulW fun i j => .int (i * j)) (tVar 1) (tC (.int 69621)))
  (tOp (rI (fun _ j => 0 < j) fun i j => .int (i % j)) (tCB (fun xs H Q => (∃ i, xs = [.int i] ∧ Q (.int i) H) ∨ ∃ k, xs = [.bl k] ∧ Q (.int (if k then 1 else 0)) H) (tCons (tVar 2) tNil)) (tC (.int 2147483629)))) (tC (.int 7))) (tC (.int 2147483647))) (gName 1))) (tRet tl))
theorem semBegin {K : PySem.W.Frag} {H : Hp} {a : Addr} {ns : List Int} {Q : VK} {E : Ends} (hS : SqL K H a (ns.map V.int)) (hl : ns.length ≤ 63)
    (q : ∀ (q p : Addr) (H1 : Hp) (seed : Int), 0 ≤ seed → seed < 2147483647 → p ≠ q → H1 q = some (.lst (ns.map V.int)) → H1 p = some (.lst [.ref q, .int 0, .int 0, .int seed]) → Q (.ref p) H1) (hE : E.rt = Q) {y1 y2 : Option V}
    (tl : TE) (htl : tl = tLst (tCons (tCB (fun xs H Q => ∃ p ys, xs = [.ref p] ∧ (SqL K H p ys ∨ SqT K H p ys) ∧ ∀ l, H l = none → Q (.ref l) (L2.upd H l (.lst ys))) (tCons (tVar 0) tNil)) (tCons (tC (.int 0)) (tCons (tC (.int 0)) (tCons (tVar 1) tNil))))) :
    tBegin K tl E [some (.ref a), y1, y2] H := by
  refine ⟨.ref a, rfl, a, rfl, ⟨_, hS⟩, ?_⟩
  refine ⟨fun i m σ H' => H' = H ∧ i + m = ns.length ∧ ∃ s y, σ = [some (.ref a), some (.int s), y] ∧ 0 ≤ s ∧ s < 2147483647, ⟨ns.length, rfl, by simp, 1, _, rfl, by decide, by decide⟩, ?_⟩
  rintro i m σ H' ⟨rfl, him, s, y, rfl, h0, h1⟩
  by_cases hi : i < ns.length
  · have g : (ns.map V.int)[i]? = some (.int ns[i]) := by rw [List.getElem?_map, List.getElem?_eq_getElem hi]; rfl
    refine .inr ⟨⟨_, _, hS, g⟩, fun σ' H2 => H2 = H' ∧ i + 1 + (m - 1) = ns.length ∧ ∃ s y, σ' = [some (.ref a), some (.int s), y] ∧ 0 ≤ s ∧ s < 2147483647, fun σ' H2 h => ⟨m - 1, by omega, h⟩, fun x H2 hy => ?_⟩
    obtain ⟨rfl, hx⟩ := hy
    have ex : x = .int ns[i] := Option.some.inj ((hx _ hS).symm.trans g)
    subst ex
    have hlog : s.natAbs.log2 + (69621 : Int).natAbs.log2 < 1000000 := by
      have := log_small (x := s) (by omega)
      have : (69621 : Int).natAbs.log2 < 64 := log_small (by decide)
      omega
    have hn := seed_next (c := ns[i]) h0 h1
    exact ⟨_, rfl, s, 69621, rfl, rfl, hlog, _, rfl, .inl ⟨_, rfl, _, _, rfl, rfl, (by show (0 : Int) < 2147483629; decide), .inl ⟨_, _, rfl, rfl, .inl ⟨_, _, rfl, rfl, ⟨_, _, rfl, rfl, (by show (0 : Int) < 2147483647; decide), ⟨rfl, by omega, _, _, rfl, hn.1, hn.2⟩⟩⟩⟩⟩⟩
  · refine .inl ⟨⟨_, hS, by rw [List.length_map]; omega⟩, ?_⟩
    show tl [some (.ref a), some (.int s), y] H' E.rt
    rw [hE]
    subst htl
    refine ⟨.ref a, rfl, a, _, rfl, .inl hS, fun l hl' => ⟨.int s, rfl, by show 4 ≤ sizeLine; decide, fun p hp => ?_⟩⟩
    have hne : p ≠ l := by rintro rfl; rw [upd_same] at hp; cases hp
    exact q l p _ s h0 h1 hne (by rw [upd_ne (Ne.symm hne), upd_same]) upd_same
abbrev tBeginL (K : PySem.W.Frag) : TE := tLst (tCons (tCB (fun xs H Q => ∃ p ys, xs = [.ref p] ∧ (SqL K H p ys ∨ SqT K H p ys) ∧ ∀ l, H l = none → Q (.ref l) (L2.upd H l (.lst ys))) (tCons (tVar 0) tNil)) (tCons (tC (.int 0)) (tCons (tC (.int 0)) (tCons (tVar 1) tNil))))
section
variable {P : Program} {w : World} {K : PySem.W.Frag} {mg : Str → Option Value} {base : Heap}
theorem begin_ok {st : Stmt} {f : Addr} {fd : FuncData} {k : Nat} {x : Str} (F : FnP K x st f fd) (S : FnScope ["script", "seed", "cell"] ["script"] (defScope st))
    (h : ∀ i, PSs (entF P w K mg base ["script", "seed", "cell"] k x (defScope st) f i) (defBody st) (tBegin K (tBeginL K))) : FnOk P w K mg base CX0 (k + 1) f fd ["script"] (spBegin K) := by
  refine F.okP S (fun vs H Q E h => ?_) (fun cdv A outer s H vs Q E hr h' => ?_)
  · obtain ⟨a, ns, rfl, _⟩ := h
    rfl
  · obtain ⟨a, ns, rfl, hS, hlen, q⟩ := h'
    exact ⟨_, h ⟨cdv, A, outer, s, H, E, hr⟩, semBegin hS hlen q rfl _ rfl⟩
/-- the start of a law's slots: the script forgotten, d the draw object -/
def rho0 (n : Nat) : Rho := .un :: .sh .rng :: List.replicate (n - 2) .un
def spLaw (K : PySem.W.Frag) (n : Nat) (g : SF) : Sp := fun vs H Q _ => ∃ (a : Addr) (ns : List Int), vs = [.ref a] ∧ SqL K H a (ns.map V.int) ∧ ns.length ≤ 63 ∧ (∀ seed, 0 ≤ seed → seed < 2147483647 → ∃ ρ' s', g (rho0 n) ⟨ns, 0, 0, seed⟩ = some ((.rt (.bl true), ρ'), s')) ∧ ∀ H', Q (.bl true) H'
theorem law_ok {st : Stmt} {f fB : Addr} {fd fdB : FuncData} {k kB : Nat} {x : Str} {N : List Str} {p2 p3 p4 p5 pos : Pos} {rest : List Stmt} {g : SF} (F : FnP K x st f fd) (S : FnScope N ["script"] (defScope st))
    (FB : FnOk P w K mg base CX0 kB fB fdB ["script"] (spBegin K)) (hkB : kB ≤ k) (bB : Binds K fdB ["script"] []) (gB : mg "_law_begin" = some (.ref fB)) (kpB : PySem.W.keepIn K (.ref fB) = true)
    (hb : defBody st = .Assign [.Name "d" p2] (.Call (.Name "_law_begin" p3) [.Name "script" p4] [] p5) pos :: rest) (h : CSs (entF P w K mg base N k x (defScope st) f) K rest g)
    (hN0 : N[0]? = some (Str.ofString "script")) (hN1 : N[1]? = some (Str.ofString "d")) (n : Nat := N.length) (hn : N.length = n := by rfl) (hn2 : 2 ≤ n := by decide)
    (hv : ∀ j, Vis (entF P w K mg base N k x (defScope st) f j).env.scope "script" := by intro _; first | exact Or.inl rfl | exact Or.inr (Or.inl rfl) | exact Or.inr (Or.inr rfl)) (hx : ∀ j, Loc (entF P w K mg base N k x (defScope st) f j).env.scope "d" := by intro _; first | exact Or.inl rfl | exact Or.inr rfl)
    (hg : ∀ i, Gl (entF P w K mg base N k x (defScope st) f i) "_law_begin" := by intro _; rfl)
    (he : ∀ i, starEach [.Name "script" p4] (entF P w K mg base N k x (defScope st) f i).env = (false, eval (.Name "script" p4) (entF P w K mg base N k x (defScope st) f i).env) :: starEach [] (entF P w K mg base N k x (defScope st) f i).env := by intro _; rfl)
    (hpl : ∀ i, (backTo p5 (starEach [] (entF P w K mg base N k x (defScope st) f i).env)).any (·.1) = false := by intro _; rfl)
    (hs : ∀ j, swapsWith (.Call (.Name "_law_begin" p3) [.Name "script" p4] [] p5) (some (.Name "d" p2)) pos.line (entF P w K mg base N k x (defScope st) f j).env = pure false := by intro _; rfl) :
    FnOk P w K mg base CX0 (k + 1) f fd ["script"] (spLaw K n g) := by
  subst hn
  refine F.okP S (fun vs H Q E h => ?_) (fun cdv A outer s H vs Q E hr h' => ?_)
  · obtain ⟨a, ns, rfl, _⟩ := h
    rfl
  · obtain ⟨a, ns, rfl, hS, hlen, hG, q⟩ := h'
    obtain ⟨t, t1, t2⟩ := h
    have i0 : EntI k x (defScope st) f := ⟨cdv, A, outer, s, H, E, hr⟩
    refine ⟨tSeq (tAsg (tCall (spBegin K) [] E0 (tCons (tVar 0) tNil)) (gName 1)) t, ?_, ?_⟩
    · rw [hb]
      refine pss_cons (ps_set (S.nd) hN1 (hx ⟨cdv, A, outer, s, H, E, hr⟩) ?_ (hs ⟨cdv, A, outer, s, H, E, hr⟩)) (t1 ⟨cdv, A, outer, s, H, E, hr⟩)
      exact pe_call (X := entF P w K mg base N k x (defScope st) f ⟨cdv, A, outer, s, H, E, hr⟩) FB (hr.mono hkB) (hg ⟨cdv, A, outer, s, H, E, hr⟩) gB kpB bB .nil pass0 (pa_cons (pe_var hN0 (hv ⟨cdv, A, outer, s, H, E, hr⟩)) pa_nil (he ⟨cdv, A, outer, s, H, E, hr⟩)) (by decide) (he ⟨cdv, A, outer, s, H, E, hr⟩) (hpl ⟨cdv, A, outer, s, H, E, hr⟩)
    · have hst : L2.start N [V.ref a] = some (.ref a) :: none :: List.replicate (N.length - 2) none := by
        show [some (V.ref a)] ++ List.replicate (N.length - 1) none = _
        have : N.length - 1 = (N.length - 2) + 1 := by omega
        rw [this, List.replicate_succ]; rfl
      rw [hst]
      refine ⟨.ref a, rfl, a, ns, rfl, hS, hlen, fun qa p H1 seed h0 h1 hne e1 e2 => ?_⟩
      obtain ⟨ρ', s', hgg⟩ := hG seed h0 h1
      have nF : (L2.upd (fun _ => none) qa (HO.lst (ns.map V.int)) : Hp) p = none := by rw [upd_ne hne]
      refine t2 (some ⟨p, qa⟩) (L2.upd (fun _ => none) qa (.lst (ns.map V.int))) H1 (L2.upd (fun _ => none) qa (.lst (ns.map V.int))) H1 (rho0 N.length) _ ⟨ns, 0, 0, seed⟩ _ ρ' s' ⟨.refl fun b u e => ?_, ⟨?_, fun i sl e => ?_, fun i j ds es z hij e3 => ?_⟩, nF, ⟨Int.le_refl _, Int.le_refl _, h0, h1, hlen⟩, e2, upd_same⟩ hgg _ ?_
      · by_cases hb' : b = qa
        · subst hb'; rw [upd_same] at e; cases e; exact e1
        · rw [upd_ne hb'] at e; cases e
      · simp [rho0]
      · cases i with
        | zero => cases e; exact ⟨_, rfl, trivial⟩
        | succ i =>
          cases i with
          | zero => cases e; exact ⟨some (.ref p), rfl, .ref p, rfl, by simp only [Rep]; exact ⟨p, rfl, rfl⟩⟩
          | succ i =>
            have e : (List.replicate (N.length - 2) Slot.un)[i]? = some sl := e
            rw [List.getElem?_replicate] at e
            split at e
            · rename_i hlt
              cases e
              refine ⟨none, ?_, trivial⟩
              show (List.replicate (N.length - 2) (none : Option V))[i]? = some none
              rw [List.getElem?_replicate, if_pos hlt]
            · cases e
      · exfalso
        have := List.mem_of_getElem? e3
        simp [rho0] at this
      · exact fun v F' H' _ _ r => by
          simp only [Rep] at r
          subst r
          exact q H'
end
end Pu
namespace Pu
open PySem PySem.Spec PyProof.Rows L2

/-! ### plain values as data -/
class EnQ (α : Type) where
  e : α → D
  k : Nat
  cl : ∀ a, clean (e a) = true
  lay : ∀ a, (toP (e a)).canLay0 = true
  dp : ∀ a, (toP (e a)).depth ≤ k
  eqv : ∀ a b, PyData.eqv (toP (e a)) (toP (e b)) = true ↔ a = b
class En (α : Type) extends EnQ α where
  nn : ∀ a, isNonD (e a) = false
  lt : α → α → Bool
  al : ∀ a b, PySem.W.alike (toP (e a)) (toP (e b)) = true
  ltv : ∀ a b, PySem.W.dataLt (toP (e a)) (toP (e b)) = lt a b
  irr : ∀ a, lt a a = false
  trans : ∀ a b c, lt a b = true → lt b c = true → lt a c = true
  tot : ∀ a b, lt a b = false → lt b a = false → a = b
abbrev en {α : Type} [EnQ α] (a : α) : D := EnQ.e a
@[reducible] instance : En Int where
  e := .int
  k := 0
  cl _ := rfl
  lay _ := by simp [toP, PyData.canLay0]
  dp _ := by simp [toP, PyData.depth]
  nn _ := rfl
  eqv a b := by simp [toP, PyData.eqv]
  lt a b := decide (a < b)
  al a b := by simp [toP, PySem.W.alike]
  ltv a b := by simp [toP, PySem.W.dataLt_int]
  irr a := by simp
  trans a b c h1 h2 := by simp at *; omega
  tot a b h1 h2 := by simp at *; omega
@[reducible] instance : En Nat where
  e n := .int n
  k := 0
  cl _ := rfl
  lay _ := by simp [toP, PyData.canLay0]
  dp _ := by simp [toP, PyData.depth]
  nn _ := rfl
  eqv a b := by simp only [toP, PyData.eqv, beq_iff_eq]; omega
  lt a b := decide (a < b)
  al a b := by simp [toP, PySem.W.alike]
  ltv a b := by simp [toP, PySem.W.dataLt_int]
  irr a := by simp
  trans a b c h1 h2 := by simp at *; omega
  tot a b h1 h2 := by simp at *; omega
@[reducible] instance : EnQ Bool where
  e := .bl
  k := 0
  cl _ := rfl
  lay _ := by simp [toP, PyData.canLay0]
  dp _ := by simp [toP, PyData.depth]
  eqv a b := by simp [toP, PyData.eqv]
section
variable {α β : Type}
theorem cleanL_map [EnQ α] : ∀ l : List α, cleanL (l.map EnQ.e) = true
  | [] => rfl
  | a :: l => by simp [cleanL, EnQ.cl, cleanL_map l]
theorem lay_map [EnQ α] : ∀ l : List α, PyData.canLayAll0 (toPs (l.map EnQ.e)) = true
  | [] => by simp [toPs, PyData.canLayAll0]
  | a :: l => by simp [toPs, PyData.canLayAll0, EnQ.lay, lay_map l]
theorem dp_map [EnQ α] : ∀ l : List α, PyData.depthAll (toPs (l.map EnQ.e)) ≤ EnQ.k α
  | [] => by simp [toPs, PyData.depthAll]
  | a :: l => by
    have := dp_map l
    have := EnQ.dp a
    simp only [List.map_cons, toPs, PyData.depthAll]
    omega
theorem eqvAll_map [EnQ α] : ∀ l m : List α, PyData.eqvAll (toPs (l.map EnQ.e)) (toPs (m.map EnQ.e)) = true ↔ l = m
  | [], [] => by simp [toPs, PyData.eqvAll]
  | [], b :: m => by simp [toPs, PyData.eqvAll]
  | a :: l, [] => by simp [toPs, PyData.eqvAll]
  | a :: l, b :: m => by simp [toPs, PyData.eqvAll, EnQ.eqv, eqvAll_map l m]
@[reducible] instance [EnQ α] : EnQ (List α) where
  e l := .tup (l.map EnQ.e)
  k := EnQ.k α + 1
  cl l := by simp only [clean]; exact cleanL_map l
  lay l := by simp only [toP, PyData.canLay0]; exact lay_map l
  dp l := by simp only [toP, PyData.depth]; have := dp_map l; omega
  eqv l m := by simp only [toP, PyData.eqv]; exact eqvAll_map l m
def lxL (lt : α → α → Bool) : List α → List α → Bool
  | [], [] => false
  | [], _ :: _ => true
  | _ :: _, [] => false
  | a :: l, b :: m => lt a b || (!lt b a && lxL lt l m)
theorem alL [En α] : ∀ l m : List α, PySem.W.alikeAll (toPs (l.map EnQ.e)) (toPs (m.map EnQ.e)) = true
  | [], _ => by simp [toPs, PySem.W.alikeAll]
  | a :: l, [] => by simp [toPs, PySem.W.alikeAll]
  | a :: l, b :: m => by simp [toPs, PySem.W.alikeAll, En.al, alL l m]
theorem ltL [En α] : ∀ l m : List α, PyProof.Rows.lexLt PyProof.Rows.itemOrd (PySem.W.keyToksAll (toPs (l.map EnQ.e))) (PySem.W.keyToksAll (toPs (m.map EnQ.e))) = lxL En.lt l m
  | [], [] => by simp [toPs, PySem.W.keyToksAll, PyProof.Rows.lexLt, lxL]; rfl
  | [], b :: m => by
    simp only [List.map_nil, List.map_cons, toPs, PySem.W.keyToksAll, lxL]
    rfl
  | a :: l, [] => by
    simp only [List.map_nil, List.map_cons, toPs, PySem.W.keyToksAll, lxL]
    rfl
  | a :: l, b :: m => by
    simp only [List.map_cons, toPs, lxL]
    cases h : PyData.eqv (toP (EnQ.e a)) (toP (EnQ.e b)) with
    | true =>
      have := (EnQ.eqv a b).mp h
      subst this
      rw [PySem.W.dataLt_all_yes (En.al a a) h, ltL l m, En.irr]; simp
    | false =>
      rw [PySem.W.dataLt_all_no (En.al a b) h, En.ltv]
      have hne : a ≠ b := fun z => by rw [(EnQ.eqv a b).mpr z] at h; cases h
      cases h1 : En.lt a b with
      | true => simp
      | false =>
        cases h2 : En.lt b a with
        | true => simp
        | false => exact absurd (En.tot a b h1 h2) hne
theorem lxL_irr [En α] : ∀ l : List α, lxL En.lt l l = false
  | [] => rfl
  | a :: l => by simp [lxL, En.irr, lxL_irr l]
theorem lt_asym [En α] {a b : α} (h : En.lt a b = true) : En.lt b a = false := by
  cases h2 : En.lt b a with
  | false => rfl
  | true => have := En.trans a b a h h2; rw [En.irr] at this; cases this
theorem lxL_trans [En α] : ∀ l m n : List α, lxL En.lt l m = true → lxL En.lt m n = true → lxL En.lt l n = true
  | [], [], _, h, _ => by simp [lxL] at h
  | [], _ :: _, [], _, h => by simp [lxL] at h
  | [], _ :: _, _ :: _, _, _ => rfl
  | _ :: _, [], _, h, _ => by simp [lxL] at h
  | _ :: _, _ :: _, [], _, h => by simp [lxL] at h
  | a :: l, b :: m, c :: n, h1, h2 => by
    simp only [lxL, Bool.or_eq_true, Bool.and_eq_true, Bool.not_eq_true'] at h1 h2 ⊢
    rcases h1 with h1 | ⟨h1, h1'⟩ <;> rcases h2 with h2 | ⟨h2, h2'⟩
    · exact .inl (En.trans a b c h1 h2)
    · cases hb : En.lt b c with
      | true => exact .inl (En.trans a b c h1 hb)
      | false => have := En.tot b c hb h2; subst this; exact .inl h1
    · cases ha : En.lt a b with
      | true => exact .inl (En.trans a b c ha h2)
      | false => have := En.tot a b ha h1; subst this; exact .inl h2
    · cases ha : En.lt a b with
      | true =>
        cases hb : En.lt b c with
        | true => exact .inl (En.trans a b c ha hb)
        | false => have := En.tot b c hb h2; subst this; exact .inl ha
      | false =>
        have := En.tot a b ha h1; subst this
        exact .inr ⟨h2, lxL_trans l m n h1' h2'⟩
theorem lxL_tot [En α] : ∀ l m : List α, lxL En.lt l m = false → lxL En.lt m l = false → l = m
  | [], [], _, _ => rfl
  | [], _ :: _, h, _ => by simp [lxL] at h
  | _ :: _, [], _, h => by simp [lxL] at h
  | a :: l, b :: m, h1, h2 => by
    simp only [lxL, Bool.or_eq_false_iff, Bool.and_eq_false_iff, Bool.not_eq_false'] at h1 h2
    have hab := En.tot a b h1.1 h2.1
    subst hab
    rw [En.irr] at h1 h2
    rw [lxL_tot l m (by simpa using h1.2) (by simpa using h2.2)]
@[reducible] instance [En α] : En (List α) where
  nn _ := rfl
  lt := lxL En.lt
  al l m := by show PySem.W.alike (toP (.tup _)) (toP (.tup _)) = true; simp only [toP, PySem.W.alike]; exact alL l m
  ltv l m := by show PySem.W.dataLt (toP (.tup _)) (toP (.tup _)) = _; simp only [toP]; rw [PySem.W.dataLt_tuple]; exact ltL l m
  irr := lxL_irr
  trans := lxL_trans
  tot := lxL_tot
@[reducible] instance [EnQ α] [EnQ β] : EnQ (α × β) where
  e p := .tup [EnQ.e p.1, EnQ.e p.2]
  k := EnQ.k α + EnQ.k β + 1
  cl p := by simp [clean, cleanL, EnQ.cl]
  lay p := by simp [toP, toPs, PyData.canLay0, PyData.canLayAll0, EnQ.lay]
  dp p := by
    have := EnQ.dp p.1
    have := EnQ.dp p.2
    simp only [toP, toPs, PyData.depth, PyData.depthAll]; omega
  eqv p q := by
    simp only [toP, toPs, PyData.eqv, PyData.eqvAll, Bool.and_true, Bool.and_eq_true, EnQ.eqv]
    exact ⟨fun h => Prod.ext h.1 h.2, fun h => by rw [h]; exact ⟨rfl, rfl⟩⟩
def ltP (f : α → α → Bool) (g : β → β → Bool) (p q : α × β) : Bool := f p.1 q.1 || (!f q.1 p.1 && g p.2 q.2)
theorem ltP_v [En α] [En β] (p q : α × β) : PySem.W.dataLt (toP (EnQ.e p)) (toP (EnQ.e q)) = ltP En.lt En.lt p q := by
  show PySem.W.dataLt (toP (.tup [EnQ.e p.1, EnQ.e p.2])) (toP (.tup [EnQ.e q.1, EnQ.e q.2])) = _
  simp only [toP, toPs]
  rw [PySem.W.dataLt_tuple]
  unfold ltP
  cases h : PyData.eqv (toP (EnQ.e p.1)) (toP (EnQ.e q.1)) with
  | true =>
    have e1 := (EnQ.eqv _ _).mp h
    rw [PySem.W.dataLt_all_yes (En.al _ _) h]
    cases h' : PyData.eqv (toP (EnQ.e p.2)) (toP (EnQ.e q.2)) with
    | true =>
      have e2 := (EnQ.eqv _ _).mp h'
      rw [PySem.W.dataLt_all_yes (En.al _ _) h', e1, e2, En.irr, En.irr]; rfl
    | false =>
      rw [PySem.W.dataLt_all_no (En.al _ _) h', En.ltv, e1, En.irr]; simp
  | false =>
    rw [PySem.W.dataLt_all_no (En.al _ _) h, En.ltv]
    have hne : p.1 ≠ q.1 := fun z => by rw [(EnQ.eqv _ _).mpr z] at h; cases h
    cases h1 : En.lt p.1 q.1 with
    | true => simp
    | false =>
      cases h2 : En.lt q.1 p.1 with
      | true => simp
      | false => exact absurd (En.tot _ _ h1 h2) hne
@[reducible] instance [En α] [En β] : En (α × β) where
  nn _ := rfl
  lt := ltP En.lt En.lt
  al p q := by show PySem.W.alike (toP (.tup [EnQ.e p.1, EnQ.e p.2])) (toP (.tup [EnQ.e q.1, EnQ.e q.2])) = true; simp [toP, toPs, PySem.W.alike, PySem.W.alikeAll, En.al]
  ltv := ltP_v
  irr p := by simp [ltP, En.irr]
  trans p q r h1 h2 := by
    simp only [ltP, Bool.or_eq_true, Bool.and_eq_true, Bool.not_eq_true'] at h1 h2 ⊢
    rcases h1 with h1 | ⟨h1, h1'⟩ <;> rcases h2 with h2 | ⟨h2, h2'⟩
    · exact .inl (En.trans _ _ _ h1 h2)
    · cases hb : En.lt q.1 r.1 with
      | true => exact .inl (En.trans _ _ _ h1 hb)
      | false => have := En.tot _ _ hb h2; rw [this] at h1; exact .inl h1
    · cases ha : En.lt p.1 q.1 with
      | true => exact .inl (En.trans _ _ _ ha h2)
      | false => have := En.tot _ _ ha h1; rw [← this] at h2; exact .inl h2
    · cases ha : En.lt p.1 q.1 with
      | true =>
        cases hb : En.lt q.1 r.1 with
        | true => exact .inl (En.trans _ _ _ ha hb)
        | false => have := En.tot _ _ hb h2; rw [this] at ha; exact .inl ha
      | false =>
        have := En.tot _ _ ha h1
        rw [← this] at h2
        exact .inr ⟨h2, En.trans _ _ _ h1' h2'⟩
  tot p q h1 h2 := by
    simp only [ltP, Bool.or_eq_false_iff, Bool.and_eq_false_iff, Bool.not_eq_false'] at h1 h2
    have e1 := En.tot _ _ h1.1 h2.1
    rw [e1, En.irr] at h1
    rw [e1, En.irr] at h2
    exact Prod.ext e1 (En.tot _ _ (by simpa using h1.2) (by simpa using h2.2))
@[reducible] instance [En α] : EnQ (Option α) where
  e o := match o with
    | none => .non
    | some a => EnQ.e a
  k := EnQ.k α
  cl o := by cases o with
    | none => rfl
    | some a => exact EnQ.cl a
  lay o := by cases o with
    | none => simp [toP, PyData.canLay0]
    | some a => exact EnQ.lay a
  dp o := by cases o with
    | none => simp [toP, PyData.depth]
    | some a => exact EnQ.dp a
  eqv o p := by
    cases o with
    | none => cases p with
      | none => simp [toP, PyData.eqv]
      | some b =>
        have := En.nn b
        show PyData.eqv (toP .non) (toP (EnQ.e b)) = true ↔ _
        cases h : (EnQ.e b : D) <;> simp [toP, PyData.eqv, h, isNonD] at this ⊢
    | some a => cases p with
      | none =>
        have := En.nn a
        show PyData.eqv (toP (EnQ.e a)) (toP .non) = true ↔ _
        cases h : (EnQ.e a : D) <;> simp [toP, PyData.eqv, h, isNonD] at this ⊢
      | some b =>
        show PyData.eqv (toP (EnQ.e a)) (toP (EnQ.e b)) = true ↔ _
        rw [EnQ.eqv]; simp
/-! the operations on such -/
class Sh (α : Type) [EnQ α] : Prop where
  s : EnQ.k α ≤ 60
instance : Sh Int := ⟨by decide⟩
instance : Sh Nat := ⟨by decide⟩
instance : Sh Bool := ⟨by decide⟩
theorem shaped_en [EnQ α] (h : EnQ.k α ≤ 64) (a : α) : cmpOk (EnQ.e a) = true := by
  unfold cmpOk SeqAt.shaped
  rw [EnQ.cl, EnQ.lay]
  have := EnQ.dp a
  simp; omega
theorem cmpOk_tup [EnQ α] (h : EnQ.k α ≤ 60) (l : List α) : cmpOk (.tup (l.map EnQ.e)) = true := shaped_en (α := List α) (by show EnQ.k α + 1 ≤ 64; omega) l
theorem cmpOk_lst [EnQ α] (h : EnQ.k α ≤ 60) (l : List α) : cmpOk (.lst (l.map EnQ.e)) = true := by
  unfold cmpOk SeqAt.shaped
  simp only [clean, toP, PyData.canLay0, PyData.depth, cleanL_map, lay_map, Bool.true_and, decide_eq_true_eq]
  have := dp_map l
  omega
theorem eq_en [EnQ α] [DecidableEq α] (h : EnQ.k α ≤ 60) (a b : α) : eqD (EnQ.e a) (EnQ.e b) = some (.bl (decide (a = b))) := by
  unfold eqD
  rw [if_pos ⟨shaped_en (by omega) a, shaped_en (by omega) b⟩]
  congr 2
  by_cases e : a = b
  · rw [decide_eq_true e, (EnQ.eqv a b).mpr e]
  · rw [decide_eq_false e]
    cases hh : PyData.eqv (toP (EnQ.e a)) (toP (EnQ.e b)) with
    | false => rfl
    | true => exact absurd ((EnQ.eqv a b).mp hh) e
theorem ne_en [EnQ α] [DecidableEq α] (h : EnQ.k α ≤ 60) (a b : α) : neD (EnQ.e a) (EnQ.e b) = some (.bl (!decide (a = b))) := by
  unfold neD
  rw [if_pos ⟨shaped_en (by omega) a, shaped_en (by omega) b⟩]
  congr 3
  by_cases e : a = b
  · rw [decide_eq_true e, (EnQ.eqv a b).mpr e]
  · rw [decide_eq_false e]
    cases hh : PyData.eqv (toP (EnQ.e a)) (toP (EnQ.e b)) with
    | false => rfl
    | true => exact absurd ((EnQ.eqv a b).mp hh) e
theorem eqL_en [EnQ α] [DecidableEq α] (h : EnQ.k α ≤ 60) (l m : List α) : eqD (.lst (l.map EnQ.e)) (.lst (m.map EnQ.e)) = some (.bl (decide (l = m))) := by
  unfold eqD
  rw [if_pos ⟨cmpOk_lst h l, cmpOk_lst h m⟩]
  simp only [toP, PyData.eqv]
  congr 2
  by_cases e : l = m
  · rw [decide_eq_true e, (eqvAll_map l m).mpr e]
  · rw [decide_eq_false e]
    cases hh : PyData.eqvAll (toPs (l.map EnQ.e)) (toPs (m.map EnQ.e)) with
    | false => rfl
    | true => exact absurd ((eqvAll_map l m).mp hh) e
theorem neL_en [EnQ α] [DecidableEq α] (h : EnQ.k α ≤ 60) (l m : List α) : neD (.lst (l.map EnQ.e)) (.lst (m.map EnQ.e)) = some (.bl (!decide (l = m))) := by
  have := eqL_en h l m
  unfold eqD at this
  unfold neD
  rw [if_pos ⟨cmpOk_lst h l, cmpOk_lst h m⟩] at this ⊢
  have := D.bl.inj (Option.some.inj this)
  rw [this]
theorem hasD_en [EnQ α] [DecidableEq α] (a : α) : ∀ l : List α, hasD (EnQ.e a) (l.map EnQ.e) = decide (a ∈ l)
  | [] => rfl
  | b :: l => by
    have ih := hasD_en a l
    unfold hasD at ih ⊢
    rw [List.map_cons, List.any_cons, ih]
    by_cases e : a = b
    · subst e
      rw [(EnQ.eqv a a).mpr rfl]; simp
    · have : PyData.eqv (toP (EnQ.e b)) (toP (EnQ.e a)) = false := by
        cases hh : PyData.eqv (toP (EnQ.e b)) (toP (EnQ.e a)) with
        | false => rfl
        | true => exact absurd ((EnQ.eqv b a).mp hh).symm e
      rw [this]; simp [e]
theorem inL_en [EnQ α] [DecidableEq α] (h : EnQ.k α ≤ 60) (a : α) (l : List α) : inD (EnQ.e a) (.lst (l.map EnQ.e)) = some (.bl (decide (a ∈ l))) := by
  unfold inD; simp only [seqD]; rw [if_pos ⟨shaped_en (by omega) a, cmpOk_lst h l⟩, hasD_en]
theorem inT_en [EnQ α] [DecidableEq α] (h : EnQ.k α ≤ 60) (a : α) (l : List α) : inD (EnQ.e a) (.tup (l.map EnQ.e)) = some (.bl (decide (a ∈ l))) := by
  unfold inD; simp only [seqD]; rw [if_pos ⟨shaped_en (by omega) a, cmpOk_tup h l⟩, hasD_en]
theorem ninL_en [EnQ α] [DecidableEq α] (h : EnQ.k α ≤ 60) (a : α) (l : List α) : ninD (EnQ.e a) (.lst (l.map EnQ.e)) = some (.bl (!decide (a ∈ l))) := by
  unfold ninD; simp only [seqD]; rw [if_pos ⟨shaped_en (by omega) a, cmpOk_lst h l⟩, hasD_en]
theorem ninT_en [EnQ α] [DecidableEq α] (h : EnQ.k α ≤ 60) (a : α) (l : List α) : ninD (EnQ.e a) (.tup (l.map EnQ.e)) = some (.bl (!decide (a ∈ l))) := by
  unfold ninD; simp only [seqD]; rw [if_pos ⟨shaped_en (by omega) a, cmpOk_tup h l⟩, hasD_en]
theorem ninT_yes [EnQ α] [DecidableEq α] (h : EnQ.k α ≤ 60) {a : α} {l : List α} (hm : a ∈ l) : ninD (EnQ.e a) (.tup (l.map EnQ.e)) = some (.bl false) := by rw [ninT_en h a l]; simp [hm]
theorem ninL_yes [EnQ α] [DecidableEq α] (h : EnQ.k α ≤ 60) {a : α} {l : List α} (hm : a ∈ l) : ninD (EnQ.e a) (.lst (l.map EnQ.e)) = some (.bl false) := by rw [ninL_en h a l]; simp [hm]
theorem ordOk_en [En α] (h : EnQ.k α ≤ 60) (a b : α) : ordOk (EnQ.e a) (EnQ.e b) = true := by
  unfold ordOk; rw [shaped_en (by omega) a, shaped_en (by omega) b, En.al, En.nn]; rfl
theorem lt_en [En α] (h : EnQ.k α ≤ 60) (a b : α) : ltA (EnQ.e a) (EnQ.e b) = some (.bl (En.lt a b)) := by unfold ltA; rw [if_pos (ordOk_en h a b), En.ltv]
/-! least, greatest -/
def mnE [En α] (x : α) (xs : List α) : α := xs.foldl (fun a y => if En.lt y a = true then y else a) x
def mxE [En α] (x : α) (xs : List α) : α := xs.foldl (fun a y => if En.lt a y = true then y else a) x
theorem minA_en [En α] : ∀ (xs : List α) (x : α), minA (EnQ.e x) (xs.map EnQ.e) = EnQ.e (mnE x xs)
  | [], x => rfl
  | y :: xs, x => by
    have ih := minA_en xs (if En.lt y x = true then y else x)
    unfold minA mnE at ih ⊢
    rw [List.map_cons, List.foldl_cons, List.foldl_cons, ← ih, En.ltv]
    by_cases h : En.lt y x = true <;> simp [h]
theorem maxA_en [En α] : ∀ (xs : List α) (x : α), maxA (EnQ.e x) (xs.map EnQ.e) = EnQ.e (mxE x xs)
  | [], x => rfl
  | y :: xs, x => by
    have ih := maxA_en xs (if En.lt x y = true then y else x)
    unfold maxA mxE at ih ⊢
    rw [List.map_cons, List.foldl_cons, List.foldl_cons, ← ih, En.ltv]
    by_cases h : En.lt x y = true <;> simp [h]
theorem allCmp_en [En α] (h : EnQ.k α ≤ 60) (l : List α) : allCmp (l.map EnQ.e) = true := by
  unfold allCmp
  simp only [Bool.and_eq_true, List.all_eq_true, List.mem_map, forall_exists_index, and_imp, forall_apply_eq_imp_iff₂, Bool.not_eq_true']
  exact ⟨fun a _ => ⟨shaped_en (by omega) a, En.nn a⟩, fun a _ b _ => En.al a b⟩
theorem min_seq [En α] (h : EnQ.k α ≤ 60) {d : D} {x : α} {xs : List α} (hd : seqD d = some ((x :: xs).map EnQ.e)) : minD [d] = some (EnQ.e (mnE x xs)) := by
  unfold minD onSeq
  simp only [hd, List.map_cons]
  have := allCmp_en h (x :: xs)
  rw [List.map_cons] at this
  rw [if_pos this, minA_en]
theorem max_seq [En α] (h : EnQ.k α ≤ 60) {d : D} {x : α} {xs : List α} (hd : seqD d = some ((x :: xs).map EnQ.e)) : maxD [d] = some (EnQ.e (mxE x xs)) := by
  unfold maxD onSeq
  simp only [hd, List.map_cons]
  have := allCmp_en h (x :: xs)
  rw [List.map_cons] at this
  rw [if_pos this, maxA_en]
theorem mnE_mem [En α] (x : α) (xs : List α) : mnE x xs ∈ x :: xs := by
  unfold mnE
  induction xs generalizing x with
  | nil => simp
  | cons y ys ih =>
    rw [List.foldl_cons]
    have := ih (if En.lt y x = true then y else x)
    by_cases h : En.lt y x = true
    · simp only [h, if_true] at this ⊢; exact List.mem_cons_of_mem _ this
    · simp only [h] at this ⊢
      rcases List.mem_cons.mp this with z | z
      · exact List.mem_cons.mpr (.inl z)
      · exact List.mem_cons_of_mem _ (List.mem_cons_of_mem _ z)
theorem mxE_mem [En α] (x : α) (xs : List α) : mxE x xs ∈ x :: xs := by
  unfold mxE
  induction xs generalizing x with
  | nil => simp
  | cons y ys ih =>
    rw [List.foldl_cons]
    have := ih (if En.lt x y = true then y else x)
    by_cases h : En.lt x y = true
    · simp only [h, if_true] at this ⊢; exact List.mem_cons_of_mem _ this
    · simp only [h] at this ⊢
      rcases List.mem_cons.mp this with z | z
      · exact List.mem_cons.mpr (.inl z)
      · exact List.mem_cons_of_mem _ (List.mem_cons_of_mem _ z)
theorem le_trans' [En α] {a b c : α} (h1 : En.lt b a = false) (h2 : En.lt c b = false) : En.lt c a = false := by
  cases h : En.lt c a with
  | false => rfl
  | true =>
    cases h3 : En.lt a b with
    | true => have := En.trans _ _ _ h h3; rw [h2] at this; cases this
    | false => have := En.tot _ _ h3 h1; subst this; rw [h2] at h; cases h
theorem mnE_le [En α] (x : α) (xs : List α) : ∀ y ∈ x :: xs, En.lt y (mnE x xs) = false := by
  unfold mnE
  induction xs generalizing x with
  | nil => intro y hy; rw [List.mem_singleton.mp hy]; exact En.irr x
  | cons z zs ih =>
    intro y hy
    rw [List.foldl_cons]
    by_cases h : En.lt z x = true
    · simp only [h, if_true]
      have := ih z
      rcases List.mem_cons.mp hy with e | e
      · subst e
        exact le_trans' (this z (by simp)) (lt_asym h)
      · exact this y e
    · simp only [h]
      have := ih x
      rcases List.mem_cons.mp hy with e | e
      · subst e; exact this y (by simp)
      · rcases List.mem_cons.mp e with e | e
        · subst e
          exact le_trans' (this x (by simp)) (by simpa using h)
        · exact this y (List.mem_cons_of_mem _ e)
theorem mxE_le [En α] (x : α) (xs : List α) : ∀ y ∈ x :: xs, En.lt (mxE x xs) y = false := by
  unfold mxE
  induction xs generalizing x with
  | nil => intro y hy; rw [List.mem_singleton.mp hy]; exact En.irr x
  | cons z zs ih =>
    intro y hy
    rw [List.foldl_cons]
    by_cases h : En.lt x z = true
    · simp only [h, if_true]
      have := ih z
      rcases List.mem_cons.mp hy with e | e
      · subst e
        exact le_trans' (lt_asym h) (this z (by simp))
      · exact this y e
    · simp only [h]
      have := ih x
      rcases List.mem_cons.mp hy with e | e
      · subst e; exact this y (by simp)
      · rcases List.mem_cons.mp e with e | e
        · subst e
          exact le_trans' (by simpa using h) (this x (by simp))
        · exact this y (List.mem_cons_of_mem _ e)
theorem mnE_uniq [En α] {x : α} {xs : List α} {m : α} (h1 : m ∈ x :: xs) (h2 : ∀ y ∈ x :: xs, En.lt y m = false) : mnE x xs = m := En.tot _ _ (mnE_le x xs m h1 |> fun h => h2 _ (mnE_mem x xs)) (mnE_le x xs m h1)
/-! places -/
theorem idxD_en [EnQ α] [DecidableEq α] (a : α) : ∀ l : List α, idxD (EnQ.e a) (l.map EnQ.e) = l.findIdx? fun z => decide (z = a)
  | [] => rfl
  | b :: l => by
    have ih := idxD_en a l
    unfold idxD at ih ⊢
    rw [List.map_cons, List.findIdx?_cons, List.findIdx?_cons, ih]
    by_cases e : b = a
    · subst e
      rw [(EnQ.eqv b b).mpr rfl]; simp
    · have : PyData.eqv (toP (EnQ.e b)) (toP (EnQ.e a)) = false := by
        cases hh : PyData.eqv (toP (EnQ.e b)) (toP (EnQ.e a)) with
        | false => rfl
        | true => exact absurd ((EnQ.eqv b a).mp hh) e
      rw [this]; simp [e]
theorem index_en [EnQ α] [DecidableEq α] (h : EnQ.k α ≤ 60) (a : α) (l : List α) : indexD (.lst (l.map EnQ.e)) (EnQ.e a) = (l.findIdx? fun z => decide (z = a)).map fun j => .int (j : Nat) := by
  unfold indexD; simp only []
  rw [if_pos ⟨cmpOk_lst h l, shaped_en (by omega) a⟩, idxD_en]
end
end Pu
namespace Pu
open PySem PySem.Spec PyProof.Rows L2

/-! ### what the words come to: weakest preconditions -/
def wp {α : Type} (m : M α) (s : DS) (Q : α → DS → Prop) : Prop := ∃ a s', m s = some (a, s') ∧ Q a s'
section
variable {α β : Type} {s : DS} {Q : α → DS → Prop}
theorem wp_some {m : M α} {a : α} {s' : DS} (h : m s = some (a, s')) : wp m s Q ↔ Q a s' := by
  unfold wp; rw [h]
  exact ⟨fun ⟨b, t, e, q⟩ => by cases e; exact q, fun q => ⟨a, s', rfl, q⟩⟩
theorem Mb_some {m : M β} {f : β → M α} {b : β} {s s1 : DS} (h : m s = some (b, s1)) : Mb m f s = f b s1 := by unfold Mb; rw [h]
theorem wp_mono {m : M α} {Q' : α → DS → Prop} (h : wp m s Q) (hq : ∀ a s', Q a s' → Q' a s') : wp m s Q' := let ⟨a, s', e, q⟩ := h; ⟨a, s', e, hq a s' q⟩
@[simp] theorem wp_Mp (a : α) : wp (Mp a) s Q ↔ Q a s := wp_some rfl
@[simp] theorem wp_Mf : wp (Mf : M α) s Q ↔ False := ⟨(fun h => by obtain ⟨_, _, e, _⟩ := h; cases e), False.elim⟩
theorem wp_congr {m : M α} {Q' : α → DS → Prop} (h : ∀ a s', Q a s' ↔ Q' a s') : wp m s Q ↔ wp m s Q' := ⟨fun x => wp_mono x fun a s' => (h a s').mp, fun x => wp_mono x fun a s' => (h a s').mpr⟩
theorem ite_F {c P : Prop} [Decidable c] : (if c then P else False) ↔ c ∧ P := by by_cases h : c <;> simp [h]
@[simp] theorem wp_Mb (m : M β) (f : β → M α) : wp (Mb m f) s Q ↔ wp m s fun b s' => wp (f b) s' Q := by
  constructor
  · rintro ⟨a, s', e, q⟩
    obtain ⟨b, s1, e1, e2⟩ := Mb_eq e
    exact ⟨b, s1, e1, a, s', e2, q⟩
  · rintro ⟨b, s1, e1, a, s', e2, q⟩
    refine ⟨a, s', ?_, q⟩
    unfold Mb; rw [e1]; exact e2
@[simp] theorem wp_Mo (o : Option α) : wp (Mo o) s Q ↔ ∃ a, o = some a ∧ Q a s := by
  cases o with
  | none => simp
  | some a => simp
@[simp] theorem wp_ite (c : Prop) [Decidable c] (a b : M α) : wp (if c then a else b) s Q ↔ if c then wp a s Q else wp b s Q := by split <;> rfl
@[simp] theorem wp_asB {d : D} {Q : Bool → DS → Prop} : wp (asB d) s Q ↔ ∃ b, d = .bl b ∧ Q b s := by
  cases d <;> simp [asB]
@[simp] theorem wp_onOw {o : Option Slot} {k : List D → M α} : wp (onOw o k) s Q ↔ ∃ ds, o = some (.ow ds) ∧ wp (k ds) s Q := by
  cases o with
  | none => simp [onOw]
  | some x => cases x <;> simp [onOw]
@[simp] theorem wp_onSh {o : Option Slot} {k : D → M α} : wp (onSh o k) s Q ↔ ∃ ds, o = some (.sh ds) ∧ wp (k ds) s Q := by
  cases o with
  | none => simp [onSh]
  | some x => cases x <;> simp [onSh]
@[simp] theorem wp_onInt {o : D} {k : Int → M α} : wp (onInt o k) s Q ↔ ∃ i, o = .int i ∧ wp (k i) s Q := by cases o <;> simp [onInt]
@[simp] theorem wp_onLst {o : D} {k : List D → M α} : wp (onLst o k) s Q ↔ ∃ i, o = .lst i ∧ wp (k i) s Q := by cases o <;> simp [onLst]
@[simp] theorem wp_onSome {o : Option β} {k : β → M α} : wp (onSome o k) s Q ↔ ∃ i, o = some i ∧ wp (k i) s Q := by cases o <;> simp [onSome]
end
section
variable {s : DS} {ρ : Rho} {Q : D → DS → Prop} {QA : List D → DS → Prop} {QT : Bool → DS → Prop} {QS : Res × Rho → DS → Prop}
@[simp] theorem w_xSh (i : Nat) : wp (xSh i ρ) s Q ↔ ∃ d, ρ[i]? = some (.sh d) ∧ Q d s := by
  unfold xSh
  cases h : ρ[i]? with
  | none => simp
  | some x => cases x <;> simp
/-- what a slot holds, as data -/
def slotD : Option Slot → Option D
  | some (.sh d) => some d
  | some (.ow ds) => some (.lst ds)
  | _ => none
@[simp] theorem slotD_sh (d : D) : slotD (some (.sh d)) = some d := rfl
@[simp] theorem slotD_ow (d : List D) : slotD (some (.ow d)) = some (.lst d) := rfl
@[simp] theorem w_xNm (i : Nat) : wp (xNm i ρ) s Q ↔ ∃ d, slotD ρ[i]? = some d ∧ Q d s := by
  unfold xNm
  cases h : ρ[i]? with
  | none => simp [slotD]
  | some x => cases x <;> simp [slotD]
@[simp] theorem w_xC (d : D) : wp (xC d ρ) s Q ↔ Q d s := by unfold xC; simp
@[simp] theorem w_x1 (g : D → Option D) (a : EF) : wp (x1 g a ρ) s Q ↔ wp (a ρ) s fun x s1 => ∃ d, g x = some d ∧ Q d s1 := by unfold x1; simp
@[simp] theorem w_x2 (g : D → D → Option D) (a b : EF) : wp (x2 g a b ρ) s Q ↔ wp (a ρ) s fun x s1 => wp (b ρ) s1 fun y s2 => ∃ d, g x y = some d ∧ Q d s2 := by unfold x2; simp
@[simp] theorem w_xL (g : List D → Option D) (a : AF) : wp (xL g a ρ) s Q ↔ wp (a ρ) s fun x s1 => ∃ d, g x = some d ∧ Q d s1 := by unfold xL; simp
@[simp] theorem w_o1 (g : D → Option (List D)) (a : EF) : wp (o1 g a ρ) s QA ↔ wp (a ρ) s fun x s1 => ∃ d, g x = some d ∧ QA d s1 := by unfold o1; simp
@[simp] theorem w_o2 (g : D → D → Option (List D)) (a b : EF) : wp (o2 g a b ρ) s QA ↔ wp (a ρ) s fun x s1 => wp (b ρ) s1 fun y s2 => ∃ d, g x y = some d ∧ QA d s2 := by unfold o2; simp
@[simp] theorem w_oL (g : List D → Option (List D)) (a : AF) : wp (oL g a ρ) s QA ↔ wp (a ρ) s fun x s1 => ∃ d, g x = some d ∧ QA d s1 := by unfold oL; simp
@[simp] theorem w_xOf (a : AF) : wp (xOf a ρ) s Q ↔ wp (a ρ) s fun ds s1 => Q (.lst ds) s1 := by unfold xOf; simp
@[simp] theorem w_xTp (a : AF) : wp (xTp a ρ) s Q ↔ wp (a ρ) s fun ds s1 => Q (.tup ds) s1 := by unfold xTp; simp
@[simp] theorem w_aN : wp (aN ρ) s QA ↔ QA [] s := by unfold aN; simp
@[simp] theorem w_aC (a : EF) (r : AF) : wp (aC a r ρ) s QA ↔ wp (a ρ) s fun x s1 => wp (r ρ) s1 fun xs s2 => QA (x :: xs) s2 := by unfold aC; simp
@[simp] theorem w_xCh (g g' : D → D → Option D) (a b c : EF) : wp (xCh g g' a b c ρ) s Q ↔ wp (a ρ) s fun x s1 => wp (b ρ) s1 fun y s2 => ∃ k, g x y = some (.bl k) ∧ if k = true then wp (c ρ) s2 fun w s3 => ∃ d, g' y w = some d ∧ Q d s3 else Q (.bl false) s2 := by
  unfold xCh; simp only [wp_Mb, wp_Mo, wp_asB, wp_ite, wp_Mp]
  refine wp_congr fun x s1 => wp_congr fun y s2 => ⟨?_, ?_⟩
  · rintro ⟨z, h1, b, rfl, h2⟩; exact ⟨b, h1, h2⟩
  · rintro ⟨b, h1, h2⟩; exact ⟨_, h1, b, rfl, h2⟩
@[simp] theorem w_xAnd (a b : EF) : wp (xAnd a b ρ) s Q ↔ wp (a ρ) s fun x s1 => ∃ k, x = .bl k ∧ if k = true then wp (b ρ) s1 Q else Q (.bl false) s1 := by unfold xAnd; simp
@[simp] theorem w_xOr (a b : EF) : wp (xOr a b ρ) s Q ↔ wp (a ρ) s fun x s1 => ∃ k, x = .bl k ∧ if k = true then Q (.bl true) s1 else wp (b ρ) s1 Q := by unfold xOr; simp
@[simp] theorem w_xNot (a : EF) : wp (xNot a ρ) s Q ↔ wp (a ρ) s fun x s1 => ∃ k, x = .bl k ∧ Q (.bl (!k)) s1 := by unfold xNot; simp
@[simp] theorem w_xIf (t : TF) (a b : EF) : wp (xIf t a b ρ) s Q ↔ wp (t ρ) s fun k s1 => if k = true then wp (a ρ) s1 Q else wp (b ρ) s1 Q := by unfold xIf; simp
@[simp] theorem w_xTup (a : AF) : wp (xTup a ρ) s Q ↔ wp (a ρ) s fun xs s1 => xs.length ≤ SZ ∧ Q (.tup xs) s1 := by
  unfold xTup; simp only [wp_Mb, wp_ite, wp_Mp, wp_Mf, ite_F]
@[simp] theorem w_oLst (a : AF) : wp (oLst a ρ) s QA ↔ wp (a ρ) s fun xs s1 => xs.length ≤ SZ ∧ QA xs s1 := by
  unfold oLst; simp only [wp_Mb, wp_ite, wp_Mp, wp_Mf, ite_F]
@[simp] theorem w_tV (a : EF) : wp (tV a ρ) s QT ↔ wp (a ρ) s fun x s1 => ∃ b, x = .bl b ∧ QT b s1 := by unfold tV; simp
@[simp] theorem w_tAnd (a b : TF) : wp (tAnd a b ρ) s QT ↔ wp (a ρ) s fun k s1 => if k = true then wp (b ρ) s1 QT else QT false s1 := by unfold tAnd; simp
@[simp] theorem w_tOr (a b : TF) : wp (tOr a b ρ) s QT ↔ wp (a ρ) s fun k s1 => if k = true then QT true s1 else wp (b ρ) s1 QT := by unfold tOr; simp
@[simp] theorem w_tNot (a : TF) : wp (tNot a ρ) s QT ↔ wp (a ρ) s fun k s1 => QT (!k) s1 := by unfold tNot; simp
@[simp] theorem w_tTr (a : EF) : wp (tTr a ρ) s QT ↔ wp (a ρ) s fun x s1 => ∃ b, truD x = some b ∧ QT b s1 := by unfold tTr; simp
@[simp] theorem w_tYes : wp (tYes' ρ) s QT ↔ QT true s := by unfold tYes'; simp
@[simp] theorem w_xCall (m : List D → M D) (a : AF) : wp (xCall m a ρ) s Q ↔ wp (a ρ) s fun xs s1 => wp (m xs) s1 Q := by unfold xCall; simp
@[simp] theorem w_xCallB (m : List D → M D) (a : AF) : wp (xCallB m a ρ) s Q ↔ wp (a ρ) s fun xs s1 => wp (m xs) s1 fun d s2 => noL d = true ∧ Q d s2 := by
  unfold xCallB; simp only [wp_Mb, wp_ite, wp_Mp, wp_Mf, ite_F]
@[simp] theorem w_iSq (f : EF) : wp (iSq f ρ) s QA ↔ wp (f ρ) s fun d s1 => ∃ ds, seqD d = some ds ∧ QA ds s1 := by unfold iSq; simp
@[simp] theorem w_iRg (g : List D → Option (List D)) (f : AF) : wp (iRg g f ρ) s QA ↔ wp (f ρ) s fun xs s1 => ∃ ds, g xs = some ds ∧ QA ds s1 := by unfold iRg; simp
/-- a slice's end -/
def wpO (f : Option EF) (ρ : Rho) (s : DS) (Q : Option Int → DS → Prop) : Prop := match f with
  | none => Q none s
  | some f => wp (f ρ) s fun d s1 => ∃ i, d = .int i ∧ Q (some i) s1
@[simp] theorem wpO_none {Q : Option Int → DS → Prop} : wpO none ρ s Q ↔ Q none s := Iff.rfl
@[simp] theorem wpO_some {f : EF} {Q : Option Int → DS → Prop} : wpO (some f) ρ s Q ↔ wp (f ρ) s fun d s1 => ∃ i, d = .int i ∧ Q (some i) s1 := Iff.rfl
@[simp] theorem w_xSl (g : D → Option Int → Option Int → Option D) (a : EF) (lo hi : Option EF) : wp (xSl g a lo hi ρ) s Q ↔ wp (a ρ) s fun x s1 => wpO lo ρ s1 fun l s2 => wpO hi ρ s2 fun u s3 => ∃ d, g x l u = some d ∧ Q d s3 := by
  have k1 : ∀ (d : D) (s2 : DS) (R : Option Int → DS → Prop), wp ((match d with | .int i => Mp (some i) | _ => Mf) : M (Option Int)) s2 R ↔ ∃ i, d = .int i ∧ R (some i) s2 := fun d s2 R => by cases d <;> simp
  unfold xSl; simp only [wp_Mb, wp_Mo]
  refine wp_congr fun x s1 => ?_
  cases lo with
  | none =>
    simp only [wpO_none, wp_Mp]
    cases hi with
    | none => simp only [wpO_none, wp_Mp]
    | some f =>
      simp only [wpO_some, wp_Mb]
      refine wp_congr fun d s2 => ?_
      cases d <;> simp
  | some f =>
    simp only [wpO_some, wp_Mb]
    refine wp_congr fun d s2 => ?_
    cases d <;> simp
    cases hi with
    | none => simp
    | some f' =>
      simp
      refine wp_congr fun d' s3 => ?_
      cases d' <;> simp
/-! statements -/
@[simp] theorem w_sNext : wp (sNext ρ) s QS ↔ QS (.nx, ρ) s := by unfold sNext; simp
@[simp] theorem w_sFail : wp (sFail ρ) s QS ↔ False := by unfold sFail; simp
@[simp] theorem w_sBreak : wp (sBreak ρ) s QS ↔ QS (.bk, ρ) s := by unfold sBreak; simp
@[simp] theorem w_sCont : wp (sCont ρ) s QS ↔ QS (.ct, ρ) s := by unfold sCont; simp
/-- what follows a statement -/
def aft (b : SF) (QS : Res × Rho → DS → Prop) : Res × Rho → DS → Prop
  | (.nx, ρ'), s' => wp (b ρ') s' QS
  | r, s' => QS r s'
@[simp] theorem aft_nx {b : SF} : aft b QS (.nx, ρ) s ↔ wp (b ρ) s QS := Iff.rfl
@[simp] theorem aft_rt {b : SF} {d : D} : aft b QS (.rt d, ρ) s ↔ QS (.rt d, ρ) s := Iff.rfl
@[simp] theorem aft_bk {b : SF} : aft b QS (.bk, ρ) s ↔ QS (.bk, ρ) s := Iff.rfl
@[simp] theorem aft_ct {b : SF} : aft b QS (.ct, ρ) s ↔ QS (.ct, ρ) s := Iff.rfl
@[simp] theorem w_sSeq (a b : SF) : wp (sSeq a b ρ) s QS ↔ wp (a ρ) s (aft b QS) := by
  unfold sSeq; simp only [wp_Mb]
  refine wp_congr fun r s1 => ?_
  obtain ⟨r, ρ1⟩ := r
  cases r <;> simp [aft]
@[simp] theorem w_sSet (i : Nat) (f : EF) : wp (sSet i f ρ) s QS ↔ wp (f ρ) s fun d s1 => QS (.nx, ρ.set i (.sh d)) s1 := by unfold sSet; simp
@[simp] theorem w_sOwn (i : Nat) (f : AF) : wp (sOwn i f ρ) s QS ↔ wp (f ρ) s fun d s1 => QS (.nx, ρ.set i (.ow d)) s1 := by unfold sOwn; simp
@[simp] theorem w_sDrop (f : EF) : wp (sDrop f ρ) s QS ↔ wp (f ρ) s fun d s1 => QS (.nx, ρ) s1 := by unfold sDrop; simp
@[simp] theorem w_sRet (f : EF) : wp (sRet f ρ) s QS ↔ wp (f ρ) s fun d s1 => QS (.rt d, ρ) s1 := by unfold sRet; simp
@[simp] theorem w_sRetN : wp (sRetN ρ) s QS ↔ QS (.rt .non, ρ) s := by unfold sRetN; simp
@[simp] theorem w_sTo (g : TGt) (f : EF) : wp (sTo g f ρ) s QS ↔ wp (f ρ) s fun d s1 => ∃ ρ', g d ρ = some ρ' ∧ QS (.nx, ρ') s1 := by unfold sTo; simp
@[simp] theorem w_sRetOw (i : Nat) : wp (sRetOw i ρ) s QS ↔ ∃ ds, ρ[i]? = some (.ow ds) ∧ QS (.rt (.lst ds), ρ) s := by unfold sRetOw; simp
@[simp] theorem w_sMove (i j : Nat) : wp (sMove i j ρ) s QS ↔ ∃ ds, ρ[i]? = some (.ow ds) ∧ QS (.nx, (ρ.set i (.sh (.lst ds))).set j (.sh (.lst ds))) s := by unfold sMove; simp
@[simp] theorem w_sFz (i : Nat) (g : SF) : wp (sFz i g ρ) s QS ↔ ∃ ds, ρ[i]? = some (.ow ds) ∧ wp (g (ρ.set i (.sh (.lst ds)))) s QS := by unfold sFz; simp
@[simp] theorem w_sIf (t : TF) (a b : SF) : wp (sIf t a b ρ) s QS ↔ wp (t ρ) s fun k s1 => if k = true then wp (a ρ) s1 QS else wp (b ρ) s1 QS := by unfold sIf; simp
@[simp] theorem w_sAug (i : Nat) (g : D → D → Option D) (f : EF) : wp (sAug i g f ρ) s QS ↔ ∃ x, ρ[i]? = some (.sh x) ∧ wp (f ρ) s fun y s1 => ∃ z, g x y = some z ∧ QS (.nx, ρ.set i (.sh z)) s1 := by unfold sAug; simp
@[simp] theorem w_sMeth (i : Nat) (u : List D → D → Option (List D)) (f : EF) : wp (sMeth i u f ρ) s QS ↔ wp (f ρ) s fun d s1 => ∃ ds, ρ[i]? = some (.ow ds) ∧ ∃ es, u ds d = some es ∧ QS (.nx, ρ.set i (.ow es)) s1 := by unfold sMeth; simp
@[simp] theorem w_sPut (i : Nat) (fk f : EF) : wp (sPut i fk f ρ) s QS ↔ wp (f ρ) s fun d s1 => wp (fk ρ) s1 fun k s2 => ∃ ds, ρ[i]? = some (.ow ds) ∧ ∃ k', k = .int k' ∧ ∃ j, ixN ds.length k' = some j ∧ QS (.nx, ρ.set i (.ow (ds.set j d))) s2 := by unfold sPut; simp
@[simp] theorem w_sAugIx (i : Nat) (g : D → D → Option D) (fk f : EF) : wp (sAugIx i g fk f ρ) s QS ↔ wp (fk ρ) s fun k s1 => ∃ ds, ρ[i]? = some (.ow ds) ∧ ∃ k', k = .int k' ∧ ∃ j, ixN ds.length k' = some j ∧ ∃ x, ds[j]? = some x ∧ wp (f ρ) s1 fun y s2 => ∃ z, g x y = some z ∧ QS (.nx, ρ.set i (.ow (ds.set j z))) s2 := by unfold sAugIx; simp
@[simp] theorem gNm_eq (i : Nat) (d : D) : gNm i d ρ = some (ρ.set i (.sh d)) := rfl
@[simp] theorem gTp_eq (gs : List TGt) (ds : List D) : gTp gs (.tup ds) ρ = gTs gs ds ρ := rfl
@[simp] theorem gTs_nil : gTs [] [] ρ = some ρ := rfl
@[simp] theorem gTs_nm (i : Nat) (gs : List TGt) (d : D) (ds : List D) : gTs (gNm i :: gs) (d :: ds) ρ = gTs gs ds (ρ.set i (.sh d)) := rfl
theorem gTs_cons (g : TGt) (gs : List TGt) (d : D) (ds : List D) {ρ1 : Rho} (h : g d ρ = some ρ1) : gTs (g :: gs) (d :: ds) ρ = gTs gs ds ρ1 := by show (match g d ρ with | some ρ' => gTs gs ds ρ' | none => none) = _; rw [h]
@[simp] theorem gTs_tp (g : List TGt) (gs : List TGt) (d : List D) (ds : List D) : gTs (gTp g :: gs) (.tup d :: ds) ρ = (gTs g d ρ).bind (gTs gs ds) := by
  show (match gTs g d ρ with | some ρ' => gTs gs ds ρ' | none => none) = _
  cases gTs g d ρ <;> rfl
/-- a def's run -/
theorem wp_def {n k : Nat} {g : SF} {args : List D} (hk : args.length = k) (h : wp (g (args.map Slot.sh ++ List.replicate (n - args.length) Slot.un)) s fun r s' => (∃ d, r.1 = .rt d ∧ Q d s') ∨ (r.1 = .nx ∧ Q .non s')) : wp (runDef n k g args) s Q := by
  unfold runDef
  rw [if_pos hk, wp_Mb]
  refine wp_mono h fun r s' h => ?_
  obtain ⟨r, ρ'⟩ := r
  rcases h with ⟨d, rfl, q⟩ | ⟨rfl, q⟩ <;> simpa
/-- a def that comes to one value and draws nothing -/
theorem def_eq {m : List D → M D} {args : List D} {d : D} (h : ∀ s, wp (m args) s fun x s' => x = d ∧ s' = s) (s : DS) : m args s = some (d, s) := by
  obtain ⟨a, s', e, rfl, rfl⟩ := h s
  exact e
theorem wp_eq {m : List D → M D} {args : List D} {d : D} (h : ∀ s, m args s = some (d, s)) : wp (m args) s Q ↔ Q d s := wp_some (h s)

/-! comprehensions and loops -/
theorem wp_comp {α : Type} {gg : TGt} {ft : TF} {fe : EF} {ρ : Rho} (I : DS → Prop) (P : D → D → Prop) (items : List D)
    (h : ∀ x ∈ items, ∀ s, I s → ∃ ρ1, gg x ρ = some ρ1 ∧ wp (ft ρ1) s fun b s1 => if b = true then wp (fe ρ1) s1 fun y s2 => I s2 ∧ P x y else I s1) :
    ∀ s, I s → wp (compM gg ft fe ρ items) s fun ys s' => I s' ∧ (∀ y ∈ ys, ∃ x ∈ items, P x y) ∧ ys.length ≤ items.length := by
  induction items with
  | nil => intro s hs; simp [compM, hs]
  | cons x xs ih =>
    intro s hs
    obtain ⟨ρ1, e, hw⟩ := h x (by simp) s hs
    unfold compM
    rw [e]
    simp only [wp_Mb]
    refine wp_mono hw fun b s1 hb => ?_
    have ih' := ih fun y hy => h y (by simp [hy])
    cases b with
    | true =>
      simp only [if_true, wp_Mb] at hb ⊢
      refine wp_mono hb fun y s2 ⟨h2, hp⟩ => ?_
      refine wp_mono (ih' s2 h2) fun ys s3 ⟨h3, h4, h5⟩ => ?_
      rw [wp_Mp]
      exact ⟨h3, fun z hz => by
        rcases List.mem_cons.mp hz with rfl | hz
        · exact ⟨x, by simp, hp⟩
        · obtain ⟨x', hx', hp'⟩ := h4 z hz; exact ⟨x', by simp [hx'], hp'⟩, by simp; omega⟩
    | false =>
      simp only [Bool.false_eq_true, if_false] at hb ⊢
      exact wp_mono (ih' s1 hb) fun ys s3 ⟨h3, h4, h5⟩ => ⟨h3, fun z hz => by obtain ⟨x', hx', hp'⟩ := h4 z hz; exact ⟨x', by simp [hx'], hp'⟩, by simp; omega⟩
/-- a comprehension that draws nothing -/
theorem comp_map {α : Type} {gg : TGt} {ft : TF} {fe : EF} {ρ : Rho} {en' : α → D} {p : α → Bool} {f : α → D} (l : List α)
    (h : ∀ x ∈ l, ∃ ρ1, gg (en' x) ρ = some ρ1 ∧ ∀ s, wp (ft ρ1) s (fun b s1 => b = p x ∧ s1 = s) ∧ (p x = true → wp (fe ρ1) s fun y s2 => y = f x ∧ s2 = s)) (s : DS) :
    compM gg ft fe ρ (l.map en') s = some ((l.filter p).map f, s) := by
  induction l generalizing s with
  | nil => rfl
  | cons x xs ih =>
    obtain ⟨ρ1, e, hw⟩ := h x (by simp)
    have ih' := ih fun y hy => h y (by simp [hy])
    obtain ⟨h1, h2⟩ := hw s
    obtain ⟨b, s1, e1, eb, es⟩ := h1
    subst eb es
    rw [List.map_cons]
    unfold compM
    rw [e]
    show Mb (ft ρ1) _ _ = _
    rw [Mb_some e1]
    cases hp : p x with
    | false => simp only [Bool.false_eq_true, if_false, List.filter_cons, hp]; exact ih' _
    | true =>
      obtain ⟨y, s2, e2, rfl, rfl⟩ := h2 hp
      simp only [if_true, List.filter_cons, hp, List.map_cons]
      rw [Mb_some e2, Mb_some (ih' _)]
      rfl
theorem comp_mapT {α : Type} {gg : TGt} {fe : EF} {ρ : Rho} {en' : α → D} {f : α → D} (l : List α)
    (h : ∀ x ∈ l, ∃ ρ1, gg (en' x) ρ = some ρ1 ∧ ∀ s, wp (fe ρ1) s fun y s2 => y = f x ∧ s2 = s) (s : DS) : compM gg tYes' fe ρ (l.map en') s = some (l.map f, s) := by
  have := comp_map (ft := tYes') (p := fun _ => true) l (fun x hx => let ⟨ρ1, e, hw⟩ := h x hx; ⟨ρ1, e, fun s => ⟨by simp, fun _ => hw s⟩⟩) s
  rw [List.filter_eq_self.mpr (by simp)] at this
  exact this
@[simp] theorem w_oComp (fi : AF) (gg : TGt) (ft : TF) (fe : EF) (vs : List Nat) : wp (oComp fi gg ft fe vs ρ) s QA ↔ wp (fi ρ) s fun xs s1 => wp (compM gg ft fe (wipeR ρ vs) xs) s1 QA := by unfold oComp; simp
@[simp] theorem w_sFor (fi : AF) (g : TGt) (body : SF) : wp (sFor fi g body ρ) s QS ↔ wp (fi ρ) s fun xs s1 => wp (loopM g body xs ρ) s1 QS := by unfold sFor; simp
/-- THE RULE for loops: what holds ahead of the items that are left -/
theorem wp_loop {g : TGt} {body : SF} (I : List D → Rho → DS → Prop) (h : ∀ x xs ρ s, I (x :: xs) ρ s → ∃ ρ1, g x ρ = some ρ1 ∧ wp (body ρ1) s fun r s' => match r with
      | (.nx, ρ2) => I xs ρ2 s'
      | (.ct, ρ2) => I xs ρ2 s'
      | (.bk, ρ2) => QS (.nx, ρ2) s'
      | (.rt d, ρ2) => QS (.rt d, ρ2) s') (h0 : ∀ ρ s, I [] ρ s → QS (.nx, ρ) s) : ∀ (xs : List D) (ρ : Rho) (s : DS), I xs ρ s → wp (loopM g body xs ρ) s QS
  | [], ρ, s, hi => by unfold loopM; rw [wp_Mp]; exact h0 ρ s hi
  | x :: xs, ρ, s, hi => by
    obtain ⟨ρ1, e, hw⟩ := h x xs ρ s hi
    unfold loopM
    rw [e]
    simp only [wp_Mb]
    refine wp_mono hw fun r s' hr => ?_
    obtain ⟨r, ρ2⟩ := r
    cases r with
    | nx => exact wp_loop I h h0 xs ρ2 s' hr
    | ct => exact wp_loop I h h0 xs ρ2 s' hr
    | bk => rw [wp_Mp]; exact hr
    | rt d => rw [wp_Mp]; exact hr
/-- THE RULE for while: a measure that falls -/
theorem wp_while {t : TF} {body : SF} (I : Nat → Rho → DS → Prop) (h : ∀ n ρ s, I n ρ s → wp (t ρ) s fun k s1 => if k = true then wp (body ρ) s1 fun r s' => match r with
      | (.nx, ρ2) => ∃ m, m < n ∧ I m ρ2 s'
      | (.ct, ρ2) => ∃ m, m < n ∧ I m ρ2 s'
      | (.bk, ρ2) => QS (.nx, ρ2) s'
      | (.rt d, ρ2) => QS (.rt d, ρ2) s' else QS (.nx, ρ) s1) : ∀ (F n : Nat) (ρ : Rho) (s : DS), n < F → I n ρ s → wp (whileM t body F ρ) s QS
  | 0, n, _, _, hn, _ => by omega
  | F + 1, n, ρ, s, hn, hi => by
    unfold whileM
    simp only [wp_Mb, wp_ite]
    refine wp_mono (h n ρ s hi) fun k s1 hk => ?_
    cases k with
    | false => simpa using hk
    | true =>
      simp only [if_true, wp_Mb] at hk ⊢
      refine wp_mono hk fun r s' hr => ?_
      obtain ⟨r, ρ2⟩ := r
      cases r with
      | nx => obtain ⟨m, hm, hi'⟩ := hr; exact wp_while I h F m ρ2 s' (by omega) hi'
      | ct => obtain ⟨m, hm, hi'⟩ := hr; exact wp_while I h F m ρ2 s' (by omega) hi'
      | bk => rw [wp_Mp]; exact hr
      | rt d => rw [wp_Mp]; exact hr
theorem w_sWhile {t : TF} {body : SF} (I : Nat → Rho → DS → Prop) (h : ∀ n ρ s, I n ρ s → wp (t ρ) s fun k s1 => if k = true then wp (body ρ) s1 fun r s' => match r with
      | (.nx, ρ2) => ∃ m, m < n ∧ I m ρ2 s'
      | (.ct, ρ2) => ∃ m, m < n ∧ I m ρ2 s'
      | (.bk, ρ2) => QS (.nx, ρ2) s'
      | (.rt d, ρ2) => QS (.rt d, ρ2) s' else QS (.nx, ρ) s1) (n : Nat) (hn : n < FUEL) (hi : I n ρ s) : wp (sWhile t body ρ) s QS := wp_while I h FUEL n ρ s hn hi
end
end Pu
namespace Pu
open PySem PySem.Spec PyProof.Rows L2
/-! ### the law's draws -/
def gTake : SF := sSeq (sIf (tAnd (tV (x2 eqD (xRd 0 2) (xC (.int 0)))) (tV (x2 ltA (xRd 0 1) (xL lenD (aC (xRd 0 0) (aN)))))) (sSeq (sWr 0 2 (xL absD (aC (xL intD (aC (x2 ixD (xRd 0 0) (xRd 0 1)) (aN))) (aN)))) (sSeq (sWr 0 1 (x2 addD (xRd 0 1) (xC (.int 1)))) (sIf (tV (x2 ltA (xRd 0 2) (x2 powD (xC (.int 10)) (xC (.int 18))))) (sSeq (sSet 3 (xL intD (aC (xRd 0 2) (aN)))) (sSeq (sWr 0 2 (xC (.int 0))) (sRet (x2 modD (xNm 3) (xNm 1))))) (sNext)))) (sNext)) (sSeq (sIf (tV (x2 gtA (xRd 0 2) (xC (.int 0)))) (sSeq (sSet 2 (x2 modD (xL intD (aC (xRd 0 2) (aN))) (xNm 1))) (sSeq (sWr 0 2 (x2 divD (xL intD (aC (xRd 0 2) (aN))) (xNm 1))) (sRet (xSh 2)))) (sNext)) (sSeq (sWr 0 3 (x2 modD (xL intD (aC (x2 addD (x2 mulD (xRd 0 3) (xC (.int 48271))) (xC (.int 11))) (aN))) (xC (.int 2147483647)))) (sRet (x2 modD (xL intD (aC (x2 divD (xRd 0 3) (xC (.int 3))) (aN))) (xNm 1)))))
def mTake : List D → M D := runDef 4 2 gTake
section
variable {s : DS} {ρ : Rho} {Q : D → DS → Prop} {QA : List D → DS → Prop} {QT : Bool → DS → Prop} {QS : Res × Rho → DS → Prop}
@[simp] theorem w_xRd (i k : Nat) : wp (xRd i k ρ) s Q ↔ ρ[i]? = some (.sh .rng) ∧ Q (rdD k s) s := by
  unfold xRd
  simp only [wp_onSh]
  constructor
  · rintro ⟨d, h, w⟩
    cases d <;> first | (simp at w; done) | skip
    obtain ⟨a, s', e, q⟩ := w
    cases e
    exact ⟨h, q⟩
  · rintro ⟨h, q⟩
    exact ⟨.rng, h, _, _, rfl, q⟩
@[simp] theorem w_sWr (i k : Nat) (f : EF) : wp (sWr i k f ρ) s QS ↔ wp (f ρ) s fun d s1 => ∃ v, d = .int v ∧ ρ[i]? = some (.sh .rng) ∧ wrOk k v = true ∧ QS (.nx, ρ) (wrD k v s1) := by
  unfold sWr
  simp only [wp_Mb, wp_onInt, wp_onSh]
  refine wp_congr fun d s1 => ⟨?_, ?_⟩
  · rintro ⟨v, rfl, x, h, w⟩
    cases x <;> first | (simp at w; done) | skip
    obtain ⟨a, s', e, q⟩ := w
    have e : (if wrOk k v = true then some ((Res.nx, ρ), wrD k v s1) else none) = some (a, s') := e
    split at e
    · rename_i hok
      cases e
      exact ⟨v, rfl, h, hok, q⟩
    · cases e
  · rintro ⟨v, rfl, h, hok, q⟩
    refine ⟨v, rfl, .rng, h, (.nx, ρ), wrD k v s1, ?_, q⟩
    show (if wrOk k v = true then some ((Res.nx, ρ), wrD k v s1) else none) = _
    rw [if_pos hok]
@[simp] theorem eqD_ii (a b : Int) : eqD (.int a) (.int b) = some (.bl (decide (a = b))) := eq_en (α := Int) (by decide) a b
@[simp] theorem neD_ii (a b : Int) : neD (.int a) (.int b) = some (.bl (!decide (a = b))) := ne_en (α := Int) (by decide) a b
@[simp] theorem lenD_l (a : List D) : lenD [.lst a] = some (.int a.length) := rfl
@[simp] theorem lenD_t (a : List D) : lenD [.tup a] = some (.int a.length) := rfl
@[simp] theorem tupD_l (a : List D) : tupD [.lst a] = some (.tup a) := rfl
@[simp] theorem tupD_t (a : List D) : tupD [.tup a] = some (.tup a) := rfl
@[simp] theorem listO_l (a : List D) : listO [.lst a] = some a := rfl
@[simp] theorem listO_t (a : List D) : listO [.tup a] = some a := rfl
@[simp] theorem absD_i (a : Int) : absD [.int a] = some (.int (if a < 0 then -a else a)) := rfl
@[simp] theorem intD_i (a : Int) : intD [.int a] = some (.int a) := rfl
@[simp] theorem intD_b (a : Bool) : intD [.bl a] = some (.int (if a then 1 else 0)) := rfl
@[simp] theorem max2D_ii (a b : Int) : max2D [.int a, .int b] = some (.int (max a b)) := by unfold max2D; simp only []; congr 2; omega
@[simp] theorem min2D_ii (a b : Int) : min2D [.int a, .int b] = some (.int (min a b)) := by unfold min2D; simp only []; congr 2; omega
@[simp] theorem addD_ii (a b : Int) : addD (.int a) (.int b) = some (.int (a + b)) := rfl
@[simp] theorem subD_ii (a b : Int) : subD (.int a) (.int b) = some (.int (a - b)) := rfl
@[simp] theorem addI_ii (a b : Int) : addI (.int a) (.int b) = some (.int (a + b)) := rfl
@[simp] theorem negD_i (a : Int) : negD (.int a) = some (.int (-a)) := rfl
theorem modD_ii (a : Int) {b : Int} (h : 0 < b) : modD (.int a) (.int b) = some (.int (a % b)) := by show (if 0 < b then some (D.int (a % b)) else none) = _; rw [if_pos h]
theorem divD_ii (a : Int) {b : Int} (h : 0 < b) (h2 : b.natAbs.log2 < 9000) : divD (.int a) (.int b) = some (.int (a / b)) := by show (if 0 < b ∧ b.natAbs.log2 < 9000 then some (D.int (a / b)) else none) = _; rw [if_pos ⟨h, h2⟩]
theorem mulD_ii {a b : Int} (h : a.natAbs.log2 + b.natAbs.log2 < 1000000) : mulD (.int a) (.int b) = some (.int (a * b)) := by show (if a.natAbs.log2 + b.natAbs.log2 < 1000000 then some (D.int (a * b)) else none) = _; rw [if_pos h]
theorem log_lt {x : Int} {k : Nat} (h : x.natAbs < 2 ^ k) : x.natAbs.log2 ≤ k := by
  by_cases h0 : x.natAbs = 0
  · rw [h0]; simp
  · exact Nat.le_of_lt ((Nat.log2_lt h0).mpr h)
theorem mulD_sm {a b : Int} (k : Nat) (h : a.natAbs < 2 ^ k) (h2 : b.natAbs < 2 ^ k) (hk : k < 500000 := by decide) : mulD (.int a) (.int b) = some (.int (a * b)) := mulD_ii (by have := log_lt h; have := log_lt h2; omega)
theorem divD_sm (a : Int) {b : Int} (k : Nat) (h : 0 < b) (h2 : b.natAbs < 2 ^ k) (hk : k < 9000 := by decide) : divD (.int a) (.int b) = some (.int (a / b)) := divD_ii a h (by have := log_lt h2; omega)
theorem atI_nat' {α : Type} (xs : List α) (n : Nat) : atI xs (n : Int) = xs[n]? := by
  cases h : xs[n]? with
  | some v => exact atI_nat h
  | none =>
    unfold atI ixN
    have := List.getElem?_eq_none_iff.mp h
    rw [if_pos (by omega), if_neg (by omega)]; rfl
theorem ixN_nat {n k : Nat} (h : k < n) : ixN n (k : Int) = some k := by unfold ixN; rw [if_pos (by omega), if_pos (by omega)]; simp
@[simp] theorem ixD_tn (xs : List D) (n : Nat) : ixD (.tup xs) (.int (n : Nat)) = xs[n]? := atI_nat' xs n
@[simp] theorem ixD_ln (xs : List D) (n : Nat) : ixD (.lst xs) (.int (n : Nat)) = xs[n]? := atI_nat' xs n
theorem ixD_t0 (xs : List D) : ixD (.tup xs) (.int 0) = xs[0]? := atI_nat' xs 0
theorem ixD_t1 (xs : List D) : ixD (.tup xs) (.int 1) = xs[1]? := atI_nat' xs 1
theorem ixD_t2 (xs : List D) : ixD (.tup xs) (.int 2) = xs[2]? := atI_nat' xs 2
theorem ixD_l0 (xs : List D) : ixD (.lst xs) (.int 0) = xs[0]? := atI_nat' xs 0
theorem ixD_l1 (xs : List D) : ixD (.lst xs) (.int 1) = xs[1]? := atI_nat' xs 1
@[simp] theorem seqD_t (xs : List D) : seqD (.tup xs) = some xs := rfl
@[simp] theorem seqD_l (xs : List D) : seqD (.lst xs) = some xs := rfl
@[simp] theorem isD_non (x : D) : isD x .non = some (.bl (isNonD x)) := rfl
@[simp] theorem isNotD_non (x : D) : isNotD x .non = some (.bl (!isNonD x)) := rfl
@[simp] theorem wrD1 (ns : List Int) (p a sd v : Int) : wrD 1 v ⟨ns, p, a, sd⟩ = ⟨ns, v, a, sd⟩ := rfl
@[simp] theorem wrD2 (ns : List Int) (p a sd v : Int) : wrD 2 v ⟨ns, p, a, sd⟩ = ⟨ns, p, v, sd⟩ := rfl
@[simp] theorem wrD3 (ns : List Int) (p a sd v : Int) : wrD 3 v ⟨ns, p, a, sd⟩ = ⟨ns, p, a, v⟩ := rfl
theorem pow18 : powD (.int 10) (.int 18) = some (.int 1000000000000000000) := by
  show (if (0 : Int) ≤ 18 ∧ (18 : Int) ≤ 1000000 ∧ (10 : Int).natAbs < 2 ^ 64 then some (D.int (10 ^ (18 : Int).toNat)) else none) = _
  rw [if_pos (by decide)]; rfl
set_option maxHeartbeats 4000000 in
/-- a draw: a number below many, the draw object still well -/
theorem take_ok {m : Int} (hm : 0 < m) (hm2 : m.natAbs < 2 ^ 64) (h : s.ok) : wp (mTake [.rng, .int m]) s fun d s' => s'.ok ∧ ∃ r : Int, d = .int r ∧ 0 ≤ r ∧ r < m := by
  have hmod : ∀ a : Int, 0 ≤ a % m ∧ a % m < m := fun a => ⟨Int.emod_nonneg _ (by omega), Int.emod_lt_of_pos _ hm⟩
  obtain ⟨ns, pos, acc, seed⟩ := s
  obtain ⟨p0, a0, s0, s1, hl⟩ := h
  simp only at p0 a0 s0 s1 hl
  have hdiv : ∀ a : Int, divD (.int a) (.int m) = some (.int (a / m)) := fun a => divD_sm a 64 hm hm2
  have hdivp : ∀ a : Int, 0 ≤ a → 0 ≤ a / m := fun a ha => Int.ediv_nonneg ha (by omega)
  have last : ∀ (p a : Int), 0 ≤ p → a = 0 → ∃ d, mulD (D.int seed) (D.int 48271) = some d ∧ ∃ d_1, addD d (D.int 11) = some d_1 ∧ ∃ d, intD [d_1] = some d ∧ ∃ d_2, modD d (D.int 2147483647) = some d_2 ∧ ∃ v, d_2 = D.int v ∧ wrOk 3 v = true ∧
      ∃ d, divD (D.int v) (D.int 3) = some d ∧ ∃ d_3, intD [d] = some d_3 ∧ ∃ d, modD d_3 (D.int m) = some d ∧ (DS.mk ns p a v).ok ∧ ∃ r, d = D.int r ∧ 0 ≤ r ∧ r < m := by
    intro p a hp ha
    have h1 : 0 ≤ (seed * 48271 + 11) % 2147483647 := Int.emod_nonneg _ (by decide)
    have h2 : (seed * 48271 + 11) % 2147483647 < 2147483647 := Int.emod_lt_of_pos _ (by decide)
    refine ⟨_, mulD_sm 64 (by omega) (by decide), _, rfl, _, rfl, _, modD_ii _ (by decide), _, rfl, by unfold wrOk; simp [h1, h2], _, divD_sm _ 64 (by decide) (by decide), _, rfl, _, modD_ii _ hm, ⟨hp, by rw [ha]; exact Int.le_refl _, h1, h2, hl⟩, _, rfl, (hmod _).1, (hmod _).2⟩
  refine wp_def rfl ?_
  by_cases hacc : acc = 0
  · subst hacc
    by_cases hpos : pos < ns.length
    · obtain ⟨k, rfl⟩ := Int.eq_ofNat_of_zero_le p0
      have hk : k < ns.length := by omega
      have hx : ixD (.lst (ns.map D.int)) (.int (k : Nat)) = some (.int ns[k]) := by rw [ixD_ln, List.getElem?_map, List.getElem?_eq_getElem hk]; rfl
      have hv : 0 ≤ (if ns[k] < 0 then -ns[k] else ns[k]) := by split <;> omega
      generalize hvv : (if ns[k] < 0 then -ns[k] else ns[k]) = v at hv
      have hvv' : absD [.int ns[k]] = some (.int v) := by rw [absD_i, hvv]
      by_cases hsm : v < 1000000000000000000
      · simp [gTake, List.replicate, modD_ii _ hm, rdD, hx, hvv', pow18, hk, wrOk, hv, hsm, hmod, hdiv, Nat.not_le.mpr hk, Int.not_le.mpr hsm]
        exact ⟨by omega, ⟨by show (0 : Int) ≤ (k : Int) + 1; omega, Int.le_refl _, s0, s1, hl⟩⟩
      · have hv0 : 0 < v := by omega
        simp [gTake, List.replicate, modD_ii _ hm, rdD, hx, hvv', pow18, hk, wrOk, hv, hsm, hmod, hdiv, hv0, Nat.not_le.mpr hk, Int.not_le.mpr hv0]
        exact ⟨by omega, Int.not_lt.mp hsm, hdivp v hv, ⟨by show (0 : Int) ≤ (k : Int) + 1; omega, hdivp v hv, s0, s1, hl⟩⟩
    · have := last pos 0 p0 rfl
      simp [gTake, List.replicate, rdD, hpos, Int.not_lt.mp hpos]
      simpa using this
  · have hacc0 : 0 < acc := by omega
    simp [gTake, List.replicate, modD_ii _ hm, rdD, hacc, hacc0, hdiv, wrOk, hmod, Int.not_le.mpr hacc0]
    exact ⟨hdivp acc a0, ⟨p0, hdivp acc a0, s0, s1, hl⟩⟩
end
end Pu
namespace Pu
open PySem PySem.Spec PyProof.Rows L2
section
variable {α β : Type}
theorem e_L [EnQ α] (l : List α) : (EnQ.e l : D) = .tup (l.map EnQ.e) := rfl
theorem e_P [EnQ α] [EnQ β] (p : α × β) : (EnQ.e p : D) = .tup [EnQ.e p.1, EnQ.e p.2] := rfl
theorem e_I (i : Int) : (EnQ.e i : D) = .int i := rfl
theorem e_N (i : Nat) : (EnQ.e i : D) = .int (i : Nat) := rfl
theorem e_B (i : Bool) : (EnQ.e i : D) = .bl i := rfl
theorem e_none [En α] : (EnQ.e (none : Option α) : D) = .non := rfl
theorem e_some [En α] (a : α) : (EnQ.e (some a) : D) = EnQ.e a := rfl
theorem SZ_eq : SZ = 16777216 := by decide
/-! ranges -/
theorem rng1_n {n : Nat} (h : n ≤ 16777216) : rng1D [.int (n : Nat)] = some ((List.range n).map EnQ.e) := by
  show (if (n : Int) ≤ 16777216 ∧ -(2 ^ 62) ≤ (n : Int) then some (rangeL 0 (n : Int).toNat) else none) = _
  rw [if_pos (by omega)]
  unfold rangeL
  simp only [Int.toNat_natCast, Option.some.injEq]
  exact List.map_congr_left fun i _ => by rw [Int.zero_add]; rfl
theorem rng1_i {j : Int} (h : j ≤ 16777216) (h2 : -1000 ≤ j) : rng1D [.int j] = some ((List.range j.toNat).map EnQ.e) := by
  show (if j ≤ 16777216 ∧ -(2 ^ 62) ≤ j then some (rangeL 0 j.toNat) else none) = _
  rw [if_pos (by omega)]
  unfold rangeL
  simp only [Option.some.injEq]
  exact List.map_congr_left fun i _ => by rw [Int.zero_add]; rfl
theorem rng2_n {a b : Nat} (h : a ≤ 16777216) (h : b ≤ 16777216) : rng2D [.int (a : Nat), .int (b : Nat)] = some ((List.range' a (b - a)).map EnQ.e) := by
  simp only [rng2D]
  rw [if_pos (by omega)]
  unfold rangeL
  rw [List.range'_eq_map_range, List.map_map]
  have : ((b : Int) - a).toNat = b - a := by omega
  rw [this]
  congr 1
/-! all, any, sums -/
theorem blsD_f (p : α → Bool) : ∀ l : List α, blsD (l.map fun x => .bl (p x)) = some (l.map p)
  | [] => rfl
  | x :: l => by simp [blsD, blsD_f p l]
theorem intsD_f (p : α → Int) : ∀ l : List α, intsD (l.map fun x => .int (p x)) = some (l.map p)
  | [] => rfl
  | x :: l => by simp [intsD, intsD_f p l]
theorem allD_f (p : α → Bool) (l : List α) : allD [.lst (l.map fun x => .bl (p x))] = some (.bl (l.all p)) := by
  show (blsD _).map _ = _
  rw [blsD_f]
  simp [List.all_map, Function.comp_def]
theorem anyD_f (p : α → Bool) (l : List α) : anyD [.lst (l.map fun x => .bl (p x))] = some (.bl (l.any p)) := by
  show (blsD _).map _ = _
  rw [blsD_f]
  simp [List.any_map, Function.comp_def]
theorem sumL_f (p : α → Int) (l : List α) : sumD [.lst (l.map fun x => .int (p x))] = some (.int (l.map p).sum) := by
  show (intsD _).map _ = _
  rw [intsD_f]; rfl
theorem sumT_f (p : α → Int) (l : List α) : sumD [.tup (l.map fun x => .int (p x))] = some (.int (l.map p).sum) := by
  show (intsD _).map _ = _
  rw [intsD_f]; rfl
theorem sumL_i (l : List Int) : sumD [.lst (l.map D.int)] = some (.int l.sum) := by
  show (intsD _).map _ = _
  rw [intsD_map]; rfl
theorem sumT_i (l : List Int) : sumD [.tup (l.map D.int)] = some (.int l.sum) := by
  show (intsD _).map _ = _
  rw [intsD_map]; rfl
theorem blsD_rep (b : Bool) : ∀ n : Nat, blsD (List.replicate n (.bl b)) = some (List.replicate n b)
  | 0 => rfl
  | n + 1 => by rw [List.replicate_succ, List.replicate_succ]; simp [blsD, blsD_rep b n]
@[simp] theorem allD_rep (n : Nat) : allD [.lst (List.replicate n (.bl true))] = some (.bl true) := by
  show (blsD _).map _ = _
  rw [blsD_rep]; simp
@[simp] theorem allD_true (l : List α) : allD [.lst (l.map fun _ => .bl true)] = some (.bl true) := by rw [allD_f (fun _ => true)]; simp
@[simp] theorem truD_bl (b : Bool) : truD (.bl b) = some b := rfl
@[simp] theorem truD_int (b : Int) : truD (.int b) = some (b != 0) := rfl
@[simp] theorem truD_non : truD .non = some false := rfl
@[simp] theorem truD_tup (l : List D) : truD (.tup l) = some (!l.isEmpty) := rfl
@[simp] theorem truD_lst (l : List D) : truD (.lst l) = some (!l.isEmpty) := rfl
/-! slices -/
theorem cut_take {γ : Type} (xs : List γ) (n : Nat) : cutD xs none (some (n : Int)) = xs.take n := by
  unfold cutD
  rw [HT.sIx_none, HT.sIx_nat, List.drop_zero, Nat.sub_zero]
  rcases Nat.le_total n xs.length with h | h
  · rw [Nat.min_eq_left h]
  · rw [Nat.min_eq_right h, List.take_of_length_le (Nat.le_refl _), List.take_of_length_le h]
theorem cut_drop {γ : Type} (xs : List γ) (n : Nat) : cutD xs (some (n : Int)) none = xs.drop n := by
  unfold cutD
  rw [HT.sIx_none, HT.sIx_nat]
  rcases Nat.le_total n xs.length with h | h
  · rw [Nat.min_eq_left h, List.take_of_length_le (by rw [List.length_drop]; exact Nat.le_refl _)]
  · rw [Nat.min_eq_right h, List.drop_of_length_le h, List.drop_of_length_le (Nat.le_refl xs.length)]; simp
theorem cut_init {γ : Type} (xs : List γ) : cutD xs none (some (-1)) = xs.dropLast := by
  unfold cutD
  rw [HT.sIx_none, List.drop_zero, Nat.sub_zero, List.dropLast_eq_take]
  have : HT.sIx xs.length xs.length (some (-1)) = xs.length - 1 := by
    show (if (-1 : Int) < 0 then (-1 + (xs.length : Int)).toNat else min (-1 : Int).toNat xs.length) = xs.length - 1
    rw [if_pos (by decide)]; omega
  rw [this]
theorem sl_take (xs : List D) (n : Nat) : slD (.tup xs) none (some (n : Int)) = some (.tup (xs.take n)) := by show some (D.tup _) = _; rw [cut_take]
theorem sl_drop (xs : List D) (n : Nat) : slD (.tup xs) (some (n : Int)) none = some (.tup (xs.drop n)) := by show some (D.tup _) = _; rw [cut_drop]
theorem slL_take (xs : List D) (n : Nat) : slD (.lst xs) none (some (n : Int)) = some (.lst (xs.take n)) := by show some (D.lst _) = _; rw [cut_take]
theorem slL_drop (xs : List D) (n : Nat) : slD (.lst xs) (some (n : Int)) none = some (.lst (xs.drop n)) := by show some (D.lst _) = _; rw [cut_drop]
theorem addD_tt {a b : List D} (h : a.length + b.length ≤ 16777216) : addD (.tup a) (.tup b) = some (.tup (a ++ b)) := by
  show (if a.length + b.length ≤ SZ then some (D.tup (a ++ b)) else none) = _
  rw [if_pos (by rw [SZ_eq]; exact h)]
theorem catO_ll {a b : List D} (h : a.length + b.length ≤ 16777216) : catO (.lst a) (.lst b) = some (a ++ b) := by
  show (if a.length + b.length ≤ SZ then some (a ++ b) else none) = _
  rw [if_pos (by rw [SZ_eq]; exact h)]
theorem repO_1 (x : D) {n : Nat} (h : n ≤ 16777216) : repO (.lst [x]) (.int (n : Nat)) = some (List.replicate n x) := by
  simp only [repO]
  rw [if_pos ⟨by omega, by omega, by rw [SZ_eq]; simp; exact h⟩]
  simp
theorem repT_1 (x : D) {n : Nat} (h : n ≤ 1000) : repT (.tup [x]) (.int (n : Nat)) = some (.tup (List.replicate n x)) := by
  simp only [repT]
  rw [if_pos ⟨by omega, by omega, by simp⟩]
  simp
theorem appU_eq {ds : List D} {d : D} (h : ds.length < 16777216) : appU ds d = some (ds ++ [d]) := by
  unfold appU; rw [if_pos (by rw [SZ_eq]; exact h)]
theorem extU_eq {ds es : List D} (h : ds.length + es.length ≤ 16777216) : extU ds (.lst es) = some (ds ++ es) := by
  show (if ds.length + es.length ≤ SZ then some (ds ++ es) else none) = _
  rw [if_pos (by rw [SZ_eq]; exact h)]
/-! enumerate, zip -/
theorem enL_map [EnQ α] (l : List α) : enL (l.map EnQ.e) = l.zipIdx.map fun p => .tup [.int (p.2 : Nat), EnQ.e p.1] := by
  unfold enL
  rw [List.mapIdx_eq_zipIdx_map, List.zipIdx_map, List.map_map]
  rfl
theorem zpL_map [EnQ α] [EnQ β] (l : List α) (m : List β) : zpL (l.map EnQ.e) (m.map EnQ.e) = (l.zip m).map EnQ.e := by
  unfold zpL
  rw [List.zipWith_map]
  induction l generalizing m with
  | nil => rfl
  | cons a l ih => cases m with
    | nil => rfl
    | cons b m => simp [ih m]; rfl
theorem fold_app {γ : Type} (f : α → γ) : ∀ (l : List α) (q : List γ), l.foldl (fun q x => q ++ [f x]) q = q ++ l.map f
  | [], q => by simp
  | a :: l, q => by rw [List.foldl_cons, fold_app f l]; simp
/-! loops over lists of values -/
def lpost (J : Rho → DS → Prop) (QS : Res × Rho → DS → Prop) : Res × Rho → DS → Prop
  | (.nx, ρ), s => J ρ s
  | (.ct, ρ), s => J ρ s
  | (.bk, ρ), s => QS (.nx, ρ) s
  | (.rt d, ρ), s => QS (.rt d, ρ) s
section
variable {J : Rho → DS → Prop} {QS : Res × Rho → DS → Prop} {ρ : Rho} {s : DS} {g : TGt} {body : SF}
@[simp] theorem lpost_nx : lpost J QS (.nx, ρ) s ↔ J ρ s := Iff.rfl
@[simp] theorem lpost_ct : lpost J QS (.ct, ρ) s ↔ J ρ s := Iff.rfl
@[simp] theorem lpost_bk : lpost J QS (.bk, ρ) s ↔ QS (.nx, ρ) s := Iff.rfl
@[simp] theorem lpost_rt {d : D} : lpost J QS (.rt d, ρ) s ↔ QS (.rt d, ρ) s := Iff.rfl
/-- a loop: J st by what is gathered so far (f) -/
theorem wp_fold {σ : Type} (en' : α → D) (f : σ → α → σ) (J : σ → Rho → DS → Prop) (l : List α) (st : σ)
    (h : ∀ x ∈ l, ∀ st ρ s, J st ρ s → ∃ ρ1, g (en' x) ρ = some ρ1 ∧ wp (body ρ1) s (lpost (J (f st x)) QS)) (h0 : ∀ ρ s, J (l.foldl f st) ρ s → QS (.nx, ρ) s) (hJ : J st ρ s) : wp (loopM g body (l.map en') ρ) s QS := by
  induction l generalizing st ρ s with
  | nil => unfold loopM; simp only [List.map_nil]; rw [wp_Mp]; exact h0 ρ s hJ
  | cons x xs ih =>
    obtain ⟨ρ1, e, hw⟩ := h x (by simp) st ρ s hJ
    rw [List.map_cons]
    unfold loopM
    rw [e]
    simp only [wp_Mb]
    refine wp_mono hw fun r s' hr => ?_
    obtain ⟨r, ρ2⟩ := r
    cases r with
    | nx => exact ih (f st x) (fun y hy => h y (by simp [hy])) h0 hr
    | ct => exact ih (f st x) (fun y hy => h y (by simp [hy])) h0 hr
    | bk => rw [wp_Mp]; exact hr
    | rt d => rw [wp_Mp]; exact hr
/-- a loop: J rest by what is left -/
theorem wp_rest (en' : α → D) (J : List α → Rho → DS → Prop) (l : List α)
    (h : ∀ x xs ρ s, J (x :: xs) ρ s → ∃ ρ1, g (en' x) ρ = some ρ1 ∧ wp (body ρ1) s (lpost (J xs) QS)) (h0 : ∀ ρ s, J [] ρ s → QS (.nx, ρ) s) (hJ : J l ρ s) : wp (loopM g body (l.map en') ρ) s QS := by
  induction l generalizing ρ s with
  | nil => unfold loopM; simp only [List.map_nil]; rw [wp_Mp]; exact h0 ρ s hJ
  | cons x xs ih =>
    obtain ⟨ρ1, e, hw⟩ := h x xs ρ s hJ
    rw [List.map_cons]
    unfold loopM
    rw [e]
    simp only [wp_Mb]
    refine wp_mono hw fun r s' hr => ?_
    obtain ⟨r, ρ2⟩ := r
    cases r with
    | nx => exact ih hr
    | ct => exact ih hr
    | bk => rw [wp_Mp]; exact hr
    | rt d => rw [wp_Mp]; exact hr
/-- a loop that keeps J -/
theorem wp_each (en' : α → D) (J : Rho → DS → Prop) (l : List α)
    (h : ∀ x ∈ l, ∀ ρ s, J ρ s → ∃ ρ1, g (en' x) ρ = some ρ1 ∧ wp (body ρ1) s (lpost J QS)) (h0 : ∀ ρ s, J ρ s → QS (.nx, ρ) s) (hJ : J ρ s) : wp (loopM g body (l.map en') ρ) s QS :=
  wp_fold (σ := Unit) en' (fun _ _ => ()) (fun _ => J) l () (fun x hx _ ρ s hj => h x hx ρ s hj) h0 hJ
end
theorem wp_whl {J : Unit} {QS : Res × Rho → DS → Prop} {ρ : Rho} {s : DS} {t : TF} {body : SF} (I : Nat → Rho → DS → Prop) (h : ∀ n ρ s, I n ρ s → wp (t ρ) s fun k s1 => if k = true then wp (body ρ) s1 (lpost (fun ρ2 s' => ∃ m, m < n ∧ I m ρ2 s') QS) else QS (.nx, ρ) s1)
    (n : Nat) (hn : n < FUEL) (hi : I n ρ s) : wp (sWhile t body ρ) s QS :=
  w_sWhile I (fun n ρ s hI => wp_mono (h n ρ s hI) fun k s1 hk => by
    cases k with
    | false => simpa using hk
    | true =>
      simp only [if_true] at hk ⊢
      refine wp_mono hk fun r s' hr => ?_
      obtain ⟨r, ρ2⟩ := r
      cases r <;> exact hr) n hn hi
/-- a comprehension, told by its list -/
theorem wp_compT {gg : TGt} {fe : EF} {ρ : Rho} {s : DS} {QA : List D → DS → Prop} {en' : α → D} {f : α → D} (l : List α)
    (h : ∀ x ∈ l, ∃ ρ1, gg (en' x) ρ = some ρ1 ∧ ∀ s, wp (fe ρ1) s fun y s2 => y = f x ∧ s2 = s) (q : QA (l.map f) s) : wp (compM gg tYes' fe ρ (l.map en')) s QA :=
  (wp_some (comp_mapT l h s)).mpr q
theorem wp_compF {gg : TGt} {ft : TF} {fe : EF} {ρ : Rho} {s : DS} {QA : List D → DS → Prop} {en' : α → D} {p : α → Bool} {f : α → D} (l : List α)
    (h : ∀ x ∈ l, ∃ ρ1, gg (en' x) ρ = some ρ1 ∧ ∀ s, wp (ft ρ1) s (fun b s1 => b = p x ∧ s1 = s) ∧ (p x = true → wp (fe ρ1) s fun y s2 => y = f x ∧ s2 = s)) (q : QA ((l.filter p).map f) s) : wp (compM gg ft fe ρ (l.map en')) s QA :=
  (wp_some (comp_map l h s)).mpr q
/-- a draw, as a natural number -/
theorem wp_take {m : Nat} {s : DS} {Q : D → DS → Prop} (hm : 0 < m) (hm2 : m < 2 ^ 64) (h : s.ok) (q : ∀ (r : Nat) (s' : DS), r < m → s'.ok → Q (.int (r : Nat)) s') : wp (mTake [.rng, .int (m : Nat)]) s Q := by
  refine wp_mono (take_ok (by omega) (by simpa using hm2) h) fun d s' ⟨ok, r, hr, h0, h1⟩ => ?_
  subst hr
  obtain ⟨k, rfl⟩ := Int.eq_ofNat_of_zero_le h0
  exact q k s' (by omega) ok
/-- a comprehension that draws -/
theorem wp_compS {gg : TGt} {fe : EF} {ρ : Rho} {en' : α → D} {QA : List D → DS → Prop} (P : α → D → Prop) (l : List α)
    (h : ∀ x ∈ l, ∀ s, s.ok → ∃ ρ1, gg (en' x) ρ = some ρ1 ∧ wp (fe ρ1) s fun y s2 => s2.ok ∧ P x y) {s : DS} (hs : s.ok) (q : ∀ ys s', s'.ok → ys.length = l.length → (∀ y ∈ ys, ∃ x ∈ l, P x y) → QA ys s') :
    wp (compM gg tYes' fe ρ (l.map en')) s QA := by
  have main : ∀ (l : List α), (∀ x ∈ l, ∀ s, s.ok → ∃ ρ1, gg (en' x) ρ = some ρ1 ∧ wp (fe ρ1) s fun y s2 => s2.ok ∧ P x y) → ∀ s, s.ok → wp (compM gg tYes' fe ρ (l.map en')) s fun ys s' => s'.ok ∧ ys.length = l.length ∧ ∀ y ∈ ys, ∃ x ∈ l, P x y := by
    intro l
    induction l with
    | nil => intro _ s hs; simp [compM, hs]
    | cons x xs ih =>
      intro h s hs
      obtain ⟨ρ1, e, hw⟩ := h x (by simp) s hs
      rw [List.map_cons]
      unfold compM
      rw [e]
      simp only [wp_Mb, w_tYes, if_true]
      refine wp_mono hw fun y s2 ⟨h2, hp⟩ => ?_
      refine wp_mono (ih (fun y hy => h y (by simp [hy])) s2 h2) fun ys s3 ⟨h3, h4, h5⟩ => ?_
      rw [wp_Mp]
      refine ⟨h3, by simp [h4], fun z hz => ?_⟩
      rcases List.mem_cons.mp hz with rfl | hz
      · exact ⟨x, by simp, hp⟩
      · obtain ⟨x', hx', hp'⟩ := h5 z hz; exact ⟨x', by simp [hx'], hp'⟩
  exact wp_mono (main l h s hs) fun ys s' ⟨a, b, c⟩ => q ys s' a b c
/-- a comprehension whose filter draws -/
theorem wp_compSub {gg : TGt} {ft : TF} {fe : EF} {ρ : Rho} {en' f : α → D} {QA : List D → DS → Prop} (l : List α)
    (h : ∀ x ∈ l, ∀ s, s.ok → ∃ ρ1, gg (en' x) ρ = some ρ1 ∧ wp (ft ρ1) s (fun _ s2 => s2.ok) ∧ ∀ s, wp (fe ρ1) s fun y s2 => y = f x ∧ s2 = s) {s : DS} (hs : s.ok) (q : ∀ (l' : List α) s', s'.ok → l'.Sublist l → QA (l'.map f) s') :
    wp (compM gg ft fe ρ (l.map en')) s QA := by
  have main : ∀ (l : List α), (∀ x ∈ l, ∀ s, s.ok → ∃ ρ1, gg (en' x) ρ = some ρ1 ∧ wp (ft ρ1) s (fun _ s2 => s2.ok) ∧ ∀ s, wp (fe ρ1) s fun y s2 => y = f x ∧ s2 = s) → ∀ s, s.ok → wp (compM gg ft fe ρ (l.map en')) s fun ys s' => s'.ok ∧ ∃ l' : List α, l'.Sublist l ∧ ys = l'.map f := by
    intro l
    induction l with
    | nil => intro _ s hs; simp [compM, hs]
    | cons x xs ih =>
      intro h s hs
      obtain ⟨ρ1, e, hw, hf⟩ := h x (by simp) s hs
      rw [List.map_cons]
      unfold compM
      rw [e]
      simp only [wp_Mb, wp_ite]
      refine wp_mono hw fun b s2 h2 => ?_
      have ih' := ih (fun y hy => h y (by simp [hy])) s2 h2
      cases b with
      | true =>
        simp only [if_true, wp_Mb]
        refine wp_mono (hf s2) fun y s3 ⟨e1, e2⟩ => ?_
        subst e1 e2
        refine wp_mono ih' fun ys s4 ⟨h3, l', h4, h5⟩ => ?_
        rw [wp_Mp]
        exact ⟨h3, x :: l', h4.cons₂ x, by rw [h5]; rfl⟩
      | false =>
        simp only [Bool.false_eq_true, if_false]
        exact wp_mono ih' fun ys s4 ⟨h3, l', h4, h5⟩ => ⟨h3, l', h4.cons x, h5⟩
  exact wp_mono (main l h s hs) fun ys s' ⟨a, l', b, c⟩ => by rw [c]; exact q l' s' a b
theorem choose_all {P : α → Prop} {f : α → D} : ∀ {ds : List D}, (∀ d ∈ ds, ∃ a, d = f a ∧ P a) → ∃ l : List α, ds = l.map f ∧ ∀ a ∈ l, P a
  | [], _ => ⟨[], rfl, fun _ h => by cases h⟩
  | d :: ds, h => by
    obtain ⟨a, h1, h2⟩ := h d (by simp)
    obtain ⟨l, h3, h4⟩ := choose_all (ds := ds) fun d hd => h d (by simp [hd])
    exact ⟨a :: l, by rw [h1, h3]; rfl, fun b hb => by rcases List.mem_cons.mp hb with rfl | hb; exact h2; exact h4 b hb⟩
end
end Pu
namespace Pu
open PySem PySem.Spec PyProof.Rows L2
/-! ### a module's name for a built-in function -/
section
variable {ι : Type} {X : ι → Cx} {P : Program} {w : World} {K : PySem.W.Frag} {mg : Str → Option Value} {base : Heap} {N : List Str} {lv : Nat} {pos : Pos} {a b c e : Expr} {es elts : List Expr} {f fa fb fc : EF} {g : AF}
theorem cCallBf (C : Fam X P w K mg base N lv) {x : Str} {p : Pos} {id : String} {r : List V → Hp → VK → Prop} {gg : List D → Option D} (hc : ∀ i, CallR (X i) (.builtin id) r) (hv' : VL K r gg) (hm : mg x = some (.builtin id)) (ha : CAB X K (e :: es) g) (hg : ∀ i, Gl (X i) x := by intro _; rfl)
    (hdb : (x == ("__debug__" : Str)) = false := by decide) (he : ∀ i, starEach (e :: es) (X i).env = (false, eval e (X i).env) :: starEach es (X i).env := by intro _; rfl)
    (hpl : ∀ i, (backTo pos (starEach es (X i).env)).any (·.1) = false := by intro _; rfl) : CE X K (.Call (.Name x p) (e :: es) [] pos) (xL gg g) :=
  let ⟨t, h1, h2⟩ := ha; ⟨_, fun i => pe_callBfun (hc i) (hg i) (by rw [C.m i]; exact hm) (h1 i) hdb (he i) (hpl i), semE_CB hv' h2⟩
def gcdD : List D → Option D
  | [.int a, .int b] => some (.int ((Nat.gcd a.natAbs b.natAbs : Nat) : Int))
  | _ => none
@[simp] theorem gcdD_ii (a b : Int) : gcdD [.int a, .int b] = some (.int ((Nat.gcd a.natAbs b.natAbs : Nat) : Int)) := rfl
theorem v_gcd : VL K rGcd gcdD := fun pd F H xs d vs fh r e Q q => by
  match xs, e with
  | [.int a, .int b], e =>
    cases e
    obtain ⟨v, w, rfl, r1, r2⟩ := r.two
    exact ⟨a, b, by rw [r1.int, r2.int], q _ F H (.refl fh) (by simp [Rep])⟩
end
/-! ### what the top holds, told by one Bool more -/
def bltB (K : PySem.W.Frag) (x : Str) (id : String) : Bool := He.eqO (PySem.W.nsIn K mainGlobals x) (some (some (.builtin id)))
theorem bltB_ok {K : PySem.W.Frag} {h : Heap} {mg : Str → Option Value} {x : Str} {id : String} (X : K.In h) (G : h.Ns mainGlobals mg) (e : bltB K x id = true) : mg x = some (.builtin id) := PySem.W.mg_of X G (He.eqO_ok e)
def intsB : List Value → List Int → Bool
  | [], [] => true
  | .int i _ :: vs, n :: ns => decide (i = n) && intsB vs ns
  | _, _ => false
theorem intsB_ok : ∀ {vs : List Value} {ns : List Int}, intsB vs ns = true → Vals (ns.map V.int) vs
  | [], [], _ => .nil
  | .int i t :: vs, n :: ns, h => by
    simp only [intsB, Bool.and_eq_true, decide_eq_true_eq] at h
    obtain ⟨rfl, h⟩ := h
    exact .cons ⟨t, rfl⟩ (intsB_ok h)
  | [], _ :: _, h => by simp [intsB] at h
  | v :: _, [], h => by cases v <;> simp [intsB] at h
  | .none :: _, _ :: _, h => by simp [intsB] at h
  | .bool _ :: _, _ :: _, h => by simp [intsB] at h
  | .str _ _ :: _, _ :: _, h => by simp [intsB] at h
  | .ref _ :: _, _ :: _, h => by simp [intsB] at h
  | .builtin _ :: _, _ :: _, h => by simp [intsB] at h
  | .type _ :: _, _ :: _, h => by simp [intsB] at h
  | .bytes _ _ :: _, _ :: _, h => by simp [intsB] at h
  | .float _ _ :: _, _ :: _, h => by simp [intsB] at h
  | .ellipsis :: _, _ :: _, h => by simp [intsB] at h
  | .notImplemented :: _, _ :: _, h => by simp [intsB] at h
def tupB (K : PySem.W.Frag) (x : Str) (ns : List Int) : Bool := match PySem.W.nsIn K mainGlobals x with
  | some (some (.ref a)) => (match K.lookup a with
    | some ⟨.type c, _, .seq its _, _⟩ => decide (c = "tuple") && intsB its.toList ns && decide (ns.length ≤ 1000)
    | _ => false)
  | _ => false
theorem tupB_ok {K : PySem.W.Frag} {h : Heap} {mg : Str → Option Value} {x : Str} {ns : List Int} (X : K.In h) (G : h.Ns mainGlobals mg) (e : tupB K x ns = true) : CstOk mg x (.tup (ns.map D.int)) K := by
  unfold tupB at e
  cases q : PySem.W.nsIn K mainGlobals x with
  | none => rw [q] at e; cases e
  | some o =>
    rw [q] at e
    cases o with
    | none => cases e
    | some v =>
      cases v <;> first | (cases e; done) | skip
      rename_i a
      have e : (match K.lookup a with
        | some ⟨.type c, _, .seq its _, _⟩ => decide (c = "tuple") && intsB its.toList ns && decide (ns.length ≤ 1000)
        | _ => false) = true := e
      cases q2 : K.lookup a with
      | none => rw [q2] at e; cases e
      | some ob =>
        rw [q2] at e
        obtain ⟨oc, od, dt, osl⟩ := ob
        cases oc <;> first | (cases e; done) | skip
        cases dt <;> first | (cases e; done) | skip
        rename_i c its n
        have e : (decide (c = "tuple") && intsB its.toList ns && decide (ns.length ≤ 1000)) = true := e
        simp only [Bool.and_eq_true, decide_eq_true_eq] at e
        obtain ⟨⟨rfl, h1⟩, h2⟩ := e
        have hv := intsB_ok h1
        have hl : its.toList.length = ns.length := by rw [← hv.length, List.length_map]
        refine ⟨.ref a, _, PySem.W.mg_of X G q, rfl, fun pd F => ?_⟩
        simp only [Rep]
        refine ⟨a, ns.map V.int, rfl, .inr ⟨_, its, n, q2, rfl, rfl, ?_, hv⟩, ?_, RepL.ofInts ns⟩
        · rw [← Array.length_toList, hl]; exact Nat.le_trans h2 (by decide)
        · rw [List.length_map]; exact Nat.le_trans h2 (by decide)
end Pu
namespace Pu
open PySem PySem.Spec PyProof.Rows L2
/-! ### sorted(list) -/
def isTupN : D → Bool
  | .tup (_ :: _) => true
  | _ => false
def notTup : D → Bool
  | .tup _ => false
  | _ => true
def sortB (ds : List D) : Bool := allCmp ds && (ds.all isTupN || ds.all notTup)
def sortL (ds : List D) : List D := ds.mergeSort fun x y => !PySem.W.dataLt (toP y) (toP x)
def sortO : List D → Option (List D)
  | [.lst ds] => if sortB ds = true then some (sortL ds) else none
  | _ => none
def rSortA (K : PySem.W.Frag) : List V → Hp → VK → Prop := fun vs H Q => ∃ (a : Addr) (xs : List V) (ds : List D), vs = [V.ref a] ∧ SqL K H a xs ∧ ds.length = xs.length ∧ DpAll K H xs (toPs ds) ∧ sortB ds = true ∧
  ∀ (zs : List (V × D)) (p : Addr), zs.Perm (xs.zip ds) → zs.map Prod.snd = sortL ds → H p = none → Q (.ref p) (L2.upd H p (.lst (zs.map Prod.fst)))
theorem each_zip {R : Value → V × D → Prop} : ∀ {us : List Value} {xs : List V} {ds : List D}, us.length = xs.length → ds.length = xs.length → (∀ (i : Nat) (u : Value) (x : V) (d : D), us[i]? = some u → xs[i]? = some x → ds[i]? = some d → R u (x, d)) → PySem.W.EachIs R us (xs.zip ds)
  | [], [], [], _, _, _ => .nil
  | u :: us, x :: xs, d :: ds, h1, h2, h => .cons (h 0 u x d rfl rfl rfl) (each_zip (by simpa using h1) (by simpa using h2) fun i u x d a b c => h (i + 1) u x d a b c)
  | [], _ :: _, _, h, _, _ => by simp at h
  | _ :: _, [], _, h, _, _ => by simp at h
  | _, [], _ :: _, _, h, _ => by simp at h
  | _, _ :: _, [], _, h, _ => by simp at h
theorem each_vals : ∀ {us : List Value} {zs : List (V × D)}, PySem.W.EachIs (fun u z => L2.RelV z.1 u) us zs → Vals (zs.map Prod.fst) us
  | _, _, .nil => .nil
  | _, _, .cons h t => .cons h (each_vals t)
theorem c_sorted {X : Cx} {K : PySem.W.Frag} (hk : X.K = K) (hu : X.A.units + 200 < cLine) : CallR X (.builtin "sorted") (rSortA K) := by
  subst hk
  intro pins s σ H vs us Q I r h
  obtain ⟨a, xs, ds, rfl, hs, hlen, hd, hb, q⟩ := h
  obtain ⟨its, rv, hl, hz⟩ := I.list hs
  rw [Vals.ref1 r]
  unfold sortB at hb
  simp only [Bool.and_eq_true, Bool.or_eq_true, List.all_eq_true] at hb
  obtain ⟨hc, ht⟩ := hb
  obtain ⟨m1, m2⟩ := allCmp_mem hc
  obtain ⟨as, ra⟩ := Dp.readsAll I (toPs ds) xs its hd rv
  have hlv := rv.length
  have henc : (xs.zip ds).map (fun z : V × D => toP z.2) = ds.map toP := by
    have : (xs.zip ds).map Prod.snd = ds := List.map_snd_zip (by omega)
    show (xs.zip ds).map (toP ∘ Prod.snd) = _
    rw [← List.map_map, this]
  have hal : PySem.W.AllAlike ((xs.zip ds).map fun z : V × D => toP z.2) := by
    rw [henc]
    intro d hd d' hd'
    obtain ⟨x, hx, rfl⟩ := List.mem_map.mp hd
    obtain ⟨y, hy, rfl⟩ := List.mem_map.mp hd'
    exact m2 x hx y hy
  have hsort : PySem.W.Sortable ((xs.zip ds).map fun z : V × D => toP z.2) := by
    rw [henc]
    rcases ht with ht | ht
    · refine .inl fun d hd => ?_
      obtain ⟨x, hx, rfl⟩ := List.mem_map.mp hd
      have := ht x hx
      cases x <;> first | (cases this; done) | skip
      rename_i l
      cases l with
      | nil => cases this
      | cons y ys => exact ⟨toP y, toPs ys, by simp [toP, toPs]⟩
    · refine .inr fun d hd => ?_
      obtain ⟨x, hx, rfl⟩ := List.mem_map.mp hd
      have h1 := ht x hx
      have h2 := (m1 x hx).2.2
      cases x <;> simp [notTup, isNonD, toP] at h1 h2 ⊢
  have hread : PySem.W.EachIs (fun v (z : V × D) => ∃ as, Reads s.heap v (toP z.2) as) its (xs.zip ds) := each_zip hlv.symm hlen fun i u x d h1 h2 h3 => by
    obtain ⟨d', bs, e1, e2⟩ := readsAll_get ra h1
    rw [toPs_eq, List.getElem?_map, h3] at e1
    cases e1
    exact ⟨bs, e2⟩
  refine PySem.W.sorted_data (R := fun u z => L2.RelV z.1 u) (enc := fun z : V × D => toP z.2) (vs := its) (bs := xs.zip ds) hl.isList (each_zip hlv.symm hlen fun i u x d h1 h2 h3 => ?_) hread hal hsort (by simp; omega) (fun b hb => ?_) fun out ho eo => ?_
  · obtain ⟨u', e1, e2⟩ := rv.get h2
    rw [h1] at e1; cases e1
    exact e2
  · have hbm := (List.of_mem_zip (show (b.1, b.2) ∈ xs.zip ds from hb)).2
    have := SeqAt.depth_of_shaped (m1 _ hbm).2.1
    omega
  · obtain ⟨n, hn⟩ := sortedAll_at s.heap its out.toArray
    have hperm : ((xs.zip ds).mergeSort (PySem.W.dataLe false fun z : V × D => toP z.2)).Perm (xs.zip ds) := List.mergeSort_perm _ _
    refine ⟨.ref _, _, I.laid (t' := s.toks) (o := .lst (((xs.zip ds).mergeSort (PySem.W.dataLe false fun z : V × D => toP z.2)).map Prod.fst)) (fun b ob q => sortedAll_old q) (Nat.le_succ _) ⟨?_, out, n, each_vals eo, hn⟩, rfl, q _ _ hperm ?_ (I.hok.fresh (Nat.le_succ _))⟩
    · rw [List.length_map, hperm.length_eq, List.length_zip]; omega
    · have hsnd : (xs.zip ds).map Prod.snd = ds := List.map_snd_zip (by omega)
      rw [List.map_mergeSort (r := PySem.W.dataLe false fun z : V × D => toP z.2) (s := fun x y => !PySem.W.dataLt (toP y) (toP x)) (f := Prod.snd) (fun a _ b _ => rfl), hsnd]
      rfl
theorem rep_zip {K : PySem.W.Frag} {pd : Option PD} {F : Hp} : ∀ {ds : List D} {xs : List V}, RepL K pd F ds xs → ∀ z ∈ xs.zip ds, Rep K pd F z.2 z.1
  | [], _, h, z, hz => by have := h.cases0; subst this; simp at hz
  | d :: ds, _, h, z, hz => by
    obtain ⟨y, ys, rfl, h1, h2⟩ := h.cases
    rw [List.zip_cons_cons] at hz
    rcases List.mem_cons.mp hz with rfl | hz
    · exact h1
    · exact rep_zip h2 z hz
theorem rep_unzip {K : PySem.W.Frag} {pd : Option PD} {F : Hp} : ∀ {zs : List (V × D)}, (∀ z ∈ zs, Rep K pd F z.2 z.1) → RepL K pd F (zs.map Prod.snd) (zs.map Prod.fst)
  | [], _ => .nil
  | z :: zs, h => .cons (h z (by simp)) (rep_unzip fun y hy => h y (by simp [hy]))
theorem v_sorted {K : PySem.W.Frag} : VLO K (rSortA K) sortO := fun pd F H xs ds vs fh r e Q q => by
  match xs, e with
  | [.lst as], e =>
    simp only [sortO] at e
    split at e
    · rename_i hb
      cases e
      cases r with
      | cons r0 rt =>
        cases rt
        have hcl : cleanL as = true := by
          unfold sortB at hb
          simp only [Bool.and_eq_true] at hb
          exact cleanL_all.mpr fun z hz => ((allCmp_mem hb.1).1 z hz).1
        obtain ⟨a, ys, rfl, h3, hl, h4⟩ := r0.lst fh
        refine ⟨a, ys, as, rfl, .of h3, h4.length.symm, RepL.dp fh hcl h4, hb, fun zs p hp hs n => ?_⟩
        refine q p _ F _ (Ext.own fh n) n (nF_of fh n) upd_same ?_ ?_
        · have : (sortL as).length = as.length := List.length_mergeSort _
          rw [this]; exact hl
        · rw [← hs]
          exact rep_unzip fun z hz => rep_zip h4 z (hp.mem_iff.mp hz)
    · cases e
end Pu
/-! The head of a program with imports at its top, for an open law with facts. -/
noncomputable section
namespace Pu
open PySem PySem.W PySem.Calls PyProof.Rows HandSHeadRun
/-- the whole run's equation at a world -/
def RunEqI (r : OpenRow) (q : Program) (H : Hook) (ob : SharedT → H.α) (M : Nat) (loose : List PySem.Str) (w : World) : Prop :=
  (wholeF (fun p => stepQ (denQ tabQ) p w) fenceQ M r.prog).map (fun x => (looksF r.prog x.1.heap x.2.abs, seenQ q loose (importedModules r.prog.main.body) (fun s => xlAt q [] s && recOk r.toRowW.records s) x.2.abs, ob x.2)) = some (true, openGood q loose, H.val w)
theorem head_anyI {r : OpenRow} {q : Program} {H : Hook} {ob : SharedT → H.α} {M : Nat} {loose : List PySem.Str} {d : DefRec} {kwd : List (PySem.Str × PySem.Expr)} (ho : ∀ s : SharedT, ob s = H.obs s.abs) (run : ∀ w, RunEqI r q H ob M loose w)
    (hdef : defOf q r.name = some (d, kwd)) (hp : r.prog.theDef r.name = some (d.params, d.body, d.scope)) (hk : kwWritten? d.params.kwonlyargs d.params.kw_defaults = some kwd)
    (hwr : (!r.writes || r.records.isEmpty) = true) (k1 : r.wellSaid = true) (ok : (chainsOk q && opensWell r.prog && (frees r.toRowW && r.within.isEmpty)) = true) (hb : r.prog.bare) (hw : r.toRowW.promised)
    (call : WalkO q loose (XL q []) H.says r.toRowW d kwd fun f vs => PySem.call f vs) : r.Holds := by
  have left : LeftO r.prog q loose (fun s => xlAt q [] s && recOk r.toRowW.records s) H.obs H.val M true :=
    left_imp fun w => by
      have z := run w
      have eo : ob = fun s => H.obs s.abs := funext ho
      unfold RunEqI at z
      rw [eo] at z
      rw [wholeQ_eq]
      simp only [seenQ_eq]
      exact z
  exact holds_open (r := r) (q := q) (loose := loose) (XP := XL q []) (YP := H.says) (d := d) (kwd := kwd) left H.of H.keeps (fun s z => xl_of s (Bool.and_eq_true_iff.mp z).1) XL.keeps hdef hp hk (fun s z => recFacts_of (Bool.and_eq_true_iff.mp z).2) hwr k1 ok hb hw call
end Pu
namespace Pu
open PySem PySem.Spec PyProof.Rows L2
/-! ### x.append(y.pop(e)) -/
def sAppPop (i j : Nat) (f : EF) : SF := fun ρ => Mb (f ρ) fun d => onInt d fun k => onOw ρ[j]? fun ds => onSome (ixN ds.length k) fun n => onSome ds[n]? fun y =>
  onOw ρ[i]? fun es => onSome (appU es y) fun es' => Mp (.nx, (ρ.set j (.ow (ds.eraseIdx n))).set i (.ow es'))
section
variable {ι : Type} {X : ι → Cx} {P : Program} {w : World} {K : PySem.W.Frag} {mg : Str → Option Value} {base : Heap} {N : List Str} {lv : Nat} {pos cpos apos cpos2 apos2 : Pos} {e : Expr} {f : EF}
theorem cAppPop (C : Fam X P w K mg base N lv) (i j : Nat) {x y : Str} {p2 p3 : Pos} (h : CE X K e f) (hij : i ≠ j := by decide) (hN : N[i]? = some x := by rfl) (hM : N[j]? = some y := by rfl)
    (hv : ∀ l, Vis (X l).env.scope x := by intro _; first | exact Or.inl rfl | exact Or.inr (Or.inl rfl) | exact Or.inr (Or.inr rfl))
    (hv2 : ∀ l, Vis (X l).env.scope y := by intro _; first | exact Or.inl rfl | exact Or.inr (Or.inl rfl) | exact Or.inr (Or.inr rfl))
    (hd : (x == ("__debug__" : Str)) = false := by decide) (hcd : (x == ("__classdict__" : Str)) = false := by decide)
    (hd2 : (y == ("__debug__" : Str)) = false := by decide) (hcd2 : (y == ("__classdict__" : Str)) = false := by decide)
    (hbase : ∀ l, attributeBase (.Name x p2) "append" (X l).env (eval (.Name x p2) (X l).env) = eval (.Name x p2) (X l).env := by intro _; rfl)
    (hbase2 : ∀ l, attributeBase (.Name y p3) "pop" (X l).env (eval (.Name y p3) (X l).env) = eval (.Name y p3) (X l).env := by intro _; rfl)
    (hfew : ∀ l, ((backTo cpos (starEach [.Call (.Attribute (.Name y p3) "pop" apos2) [e] [] cpos2] (X l).env)).all (fun x => !x.1) && (backToKw cpos (keywordEach [] (X l).env)).all (fun x => x.1.isSome)
      && decide (([.Call (.Attribute (.Name y p3) "pop" apos2) [e] [] cpos2] : List Expr).length + ([] : List Keyword).length + (if ([] : List Keyword).isEmpty then 0 else 1) < 30)) = true := by intro _; rfl)
    (hfew2 : ∀ l, ((backTo cpos2 (starEach [e] (X l).env)).all (fun x => !x.1) && (backToKw cpos2 (keywordEach [] (X l).env)).all (fun x => x.1.isSome)
      && decide (([e] : List Expr).length + ([] : List Keyword).length + (if ([] : List Keyword).isEmpty then 0 else 1) < 30)) = true := by intro _; rfl)
    (hline : (apos.endLine == cpos.line) = true := by rfl) (hline2 : (apos2.endLine == cpos2.line) = true := by rfl)
    (hs : ∀ l, starEach [.Call (.Attribute (.Name y p3) "pop" apos2) [e] [] cpos2] (X l).env = (false, eval (.Call (.Attribute (.Name y p3) "pop" apos2) [e] [] cpos2) (X l).env) :: starEach [] (X l).env := by intro _; rfl)
    (hs2 : ∀ l, starEach [e] (X l).env = (false, eval e (X l).env) :: starEach [] (X l).env := by intro _; rfl)
    (hplain : ∀ l, (backTo cpos (starEach [] (X l).env)).any (·.1) = false := by intro _; rfl) (hplain2 : ∀ l, (backTo cpos2 (starEach [] (X l).env)).any (·.1) = false := by intro _; rfl)
    (hsw : ∀ l, swapsWith (.Call (.Attribute (.Name x p2) "append" apos) [.Call (.Attribute (.Name y p3) "pop" apos2) [e] [] cpos2] [] cpos) none pos.line (X l).env = pure false := by intro _; rfl) :
    CS X K (.Expr (.Call (.Attribute (.Name x p2) "append" apos) [.Call (.Attribute (.Name y p3) "pop" apos2) [e] [] cpos2] [] cpos) pos) (sAppPop i j f) := by
  obtain ⟨t, h1, h2⟩ := h
  refine ⟨tDrop (tBM K "list" rAppend (tVar i) (tCons (tBM K "list" rPopAt (tVar j) (tCons t tNil)) tNil)), fun l => ps_expr (by
    have inner := pe_bm (X := X l) (cpos := cpos2) (apos := apos2) PySem.F.plainAttrs_list PySem.F.slot_list_pop PySem.F.type_list_pop mt_popAt (pe_var (pos := p3) (by rw [C.n l]; exact hM) (hv2 l) hd2 hcd2) (pa_cons (h1 l) pa_nil (hs2 l)) (hbase2 l) (hfew2 l) hline2 (hs2 l) (hplain2 l)
    have := pe_bm (X := X l) (cpos := cpos) (apos := apos) PySem.F.plainAttrs_list PySem.F.slot_list_append PySem.F.type_list_append mt_append (pe_var (pos := p2) (by rw [C.n l]; exact hN) (hv l) hd hcd) (pa_cons inner pa_nil (hs l)) (hbase l) (hfew l) hline (hs l) (hplain l)
    rw [C.k l] at this
    exact this) (hsw l), ?_⟩
  intro pd F0 H0 F H ρ σ s r' ρ' s' o e E q
  obtain ⟨d, s1, e1, e⟩ := Mb_eq e
  obtain ⟨k, rfl, e⟩ := onInt_eq e
  obtain ⟨ds, hds, e⟩ := onOw_eq e
  obtain ⟨n, hn, e⟩ := onSome_eq e
  obtain ⟨dy, hy, e⟩ := onSome_eq e
  obtain ⟨es, hes, e⟩ := onOw_eq e
  obtain ⟨es', hu, e⟩ := onSome_eq e
  obtain ⟨a, rfl⟩ := Mp_eq e
  cases a
  obtain ⟨z, a1, p, xs, rfl, a2, a3, a4, a5, a6, a7⟩ := o.env.at' i _ hes
  obtain ⟨z, b1, q', ys, rfl, b2, b3, b4, b5, b6, b7⟩ := o.env.at' j _ hds
  refine ⟨.ref p, a1, .inl ⟨rfl, xs, .of a5⟩, ?_⟩
  refine ⟨.ref q', b1, .inl ⟨rfl, ys, .of b5⟩, h2 pd F0 H0 F H _ σ s _ _ o e1 _ fun v F1 H1 x1 d1 r1 => ?_⟩
  have o1 := o.step x1 d1
  simp only [Rep] at r1
  subst r1
  have b7' := b7.mono x1.ff
  obtain ⟨i1, i2, i3, i4⟩ := ixN_seq hn
  obtain ⟨yv, hyv, ry⟩ := b7'.get hy
  have hSZ : SZ = 16777216 := by decide
  refine ⟨q', ys, k, n, yv, rfl, rfl, x1.hh _ _ b5 b4, by omega, by omega, by rw [b7.length]; exact i1, hyv, ?_⟩
  have o2 := o1.upd hds b1 (es' := ds.eraseIdx n) (ys := ys.eraseIdx n) (by have := List.length_eraseIdx_le ds n; omega) (b7'.eraseIdx n)
  have hes2 : (ρ.set j (.ow (ds.eraseIdx n)))[i]? = some (.ow es) := by rw [List.getElem?_set_ne (fun z => hij z.symm)]; exact hes
  obtain ⟨z, c1, p', zs, hz, c2, c3, c4, c5, c6, c7⟩ := o2.env.at' i _ hes2
  rw [a1] at c1
  cases c1
  cases hz
  exact v_app pd F1 _ p zs es dy yv es' o2.fh c5 c7 c6 ry hu (fun _ Hn => E.nx σ Hn) fun ys' hl ry' => q σ F1 _ x1.ff (o2.upd hes2 a1 hl ry')
end
@[simp] theorem w_sAppPop {QS : Res × Rho → DS → Prop} {ρ : Rho} {s : DS} (i j : Nat) (f : EF) : wp (sAppPop i j f ρ) s QS ↔ wp (f ρ) s fun d s1 => ∃ k, d = .int k ∧ ∃ ds, ρ[j]? = some (.ow ds) ∧ ∃ n, ixN ds.length k = some n ∧ ∃ y, ds[n]? = some y ∧
    ∃ es, ρ[i]? = some (.ow es) ∧ ∃ es', appU es y = some es' ∧ QS (.nx, (ρ.set j (.ow (ds.eraseIdx n))).set i (.ow es')) s1 := by unfold sAppPop; simp
end Pu
namespace Pu
open PySem PySem.Spec PyProof.Rows L2
theorem iop_mulW {X : Cx} : OpR X (inplaceOp .Mult) (rI CMulW fun i j => .int (i * j)) := opI fun _ _ _ _ _ _ _ hc q => imul_int q hc.ok
/-! ### sorted(tuple) -/
section
open PySem.Calls
variable {prog : Program} {w : World} {A : Around} {E : Value → Shared → Prop} {s : Shared}
theorem collectT {a : Addr} {us : List Value} {Q : List Value → Shared → Prop} (hT : IsTup s.heap a us.toArray) (hz : us.length ≤ sizeLine)
    (q : Q us { s with heap := (s.heap.push (seqObj "list" #[] 0)).update s.heap.objs.size (Obj.mapSeq (· ++ us.toArray)) }) : wpAny (model prog w) A (collect (.ref a)) Q E s := by
  obtain ⟨ob, hob, hcl, m, hdt⟩ := id hT
  unfold collect
  refine wpAny_bind (wpAny_runValue (codeAny_builtin entry_proto_collect' ?_))
  show wpAny (model prog w) _ (do again (.builtin "list.__iadd__" ⟨[← newList [], .ref a], []⟩)) _ _ s
  refine wpAny_bind (wpAny_newList (wpAny_pure ⟨Code.quiet_builtin _ (by decide +kernel), codeAny_builtin entry_list_iadd' ?_⟩))
  show wpAny (model prog w) _ (Builtin.List.listExtendWith (.ref s.heap.objs.size) (.ref a) (.ref s.heap.objs.size)) _ _ { s with heap := s.heap.push (seqObj "list" #[] 0) }
  unfold Builtin.List.listExtendWith
  have hob' : (s.heap.push (seqObj "list" #[] 0)).get? a = some ob := Heap.get?_push_of_some _ hob
  have hnew : (s.heap.push (seqObj "list" #[] 0)).get? s.heap.objs.size = some (seqObj "list" #[] 0) := Heap.get?_push_size _ rfl
  refine wpAny_bind (wpAny_typeOf (T := "tuple") ⟨ob, hob', hcl⟩ ?_)
  rw [if_pos (by rw [show (Value.type "tuple" == Value.type "tuple") = true from rfl]; simp)]
  refine wpAny_bind (listItems_at hob' hdt ?_)
  refine wpAny_bind (listItems_at (xs := #[]) (n := 0) hnew rfl ?_)
  rw [if_neg (by simp)]
  refine wpAny_bind (listUpdate_at (xs := #[]) (n := 0) hnew rfl ?_ (Nat.zero_le _) (by show (#[] ++ us.toArray).size ≤ sizeLine + 1; simp only [Array.size_append, List.size_toArray, List.length_nil]; omega))
  refine wpAny_pure ?_
  show wpAny (model prog w) A (do
      let ob ← load s.heap.objs.size
      match ob.data with
      | .seq ys _ => pure ys.toList
      | _ => unsupported "internal:collect") Q E { s with heap := (s.heap.push (seqObj "list" #[] 0)).update s.heap.objs.size (Obj.mapSeq (· ++ us.toArray)) }
  refine wpAny_bind (wpAny_load (get?_update_seq hnew _) ?_)
  show wpAny (model prog w) _ (pure ((#[] : Array Value) ++ us.toArray).toList) Q E _
  rw [show ((#[] : Array Value) ++ us.toArray).toList = us by simp]
  exact wpAny_pure q
theorem sortedT_of {a : Addr} {us : List Value} {Q : Value → Shared → Prop} (hT : IsTup s.heap a us.toArray) (hz : us.length ≤ sizeLine)
    (body : ∀ E' : Value → Shared → Prop, wpAny (model prog w) A.in1.in1 (Builtin.«list.sort» ⟨[.ref (s.heap.objs.size + 1)], []⟩) (fun f s' => f = .done (.ret .none) ∧ Q (.ref (s.heap.objs.size + 1)) s') E' { s with heap := PySem.W.copyHeap s.heap us }) :
    wpAny (model prog w) A (call (.builtin "sorted") [.ref a] []) Q E s := by
  refine call_function_entry_kw kind_sorted plain_sorted entry_sorted (args_sorted1 _) ?_
  unfold Builtin.«sorted»
  refine wpAny_bind (m := checkCount "sorted" 1 1 _) (wpAny_pure ?_)
  refine wpAny_bind (collectT hT hz ?_)
  refine wpAny_bind (wpAny_newList ?_ hz)
  have hsz : ((s.heap.push (seqObj "list" #[] 0)).update s.heap.objs.size (Obj.mapSeq (· ++ us.toArray))).objs.size = s.heap.objs.size + 1 := by rw [Heap.size_update, size_push']
  show wpAny (model prog w) _ _ _ _ { s with heap := PySem.W.copyHeap s.heap us }
  rw [hsz]
  refine wpAny_bind (wpAny_holding (wpAny_call_entry_kw slot_list_sort ⟨_, PySem.W.copyHeap_at s.heap us, rfl⟩ entry_list_sort ?body (args_list_sort _)))
  case body =>
    show wpAny (model prog w) A.in1.in1 (Builtin.«list.sort» ⟨[.ref (s.heap.objs.size + 1)], []⟩) _ _ _
    refine wpAny_mono (body _) (fun f s' hf => ?_) fun _ _ e => e
    obtain ⟨rfl, hq⟩ := hf
    exact ⟨_, rfl, wpAny_pure ⟨_, rfl, hq⟩⟩
theorem sortedT_data {β : Type} {us : List Value} {bs : List β} {enc : β → PyData} {R : Value → β → Prop} {a : Addr} {Q : Value → Shared → Prop} (hT : IsTup s.heap a us.toArray) (e : PySem.W.EachIs R us bs) (er : PySem.W.EachIs (fun v b => ∃ as, Reads s.heap v (enc b) as) us bs)
    (hal : PySem.W.AllAlike (bs.map enc)) (hk : PySem.W.Sortable (bs.map enc)) (hL : bs.length ≤ sizeLine) (hu : ∀ b, b ∈ bs → A.units + 2 + (enc b).depth < cLine)
    (h : ∀ out, out.length = bs.length → PySem.W.EachIs R out (bs.mergeSort (PySem.W.dataLe false enc)) → Q (.ref (s.heap.objs.size + 1)) { s with heap := sortedAll s.heap us (List.toArray out) }) :
    wpAny (model prog w) A (call (.builtin "sorted") [.ref a] []) Q E s := by
  have er' : PySem.W.EachIs (fun v b => ∃ as, Reads (PySem.W.sortingHeap (PySem.W.copyHeap s.heap us) (s.heap.objs.size + 1) us) v (enc b) as) us bs := er.mono fun _ _ ⟨as, r⟩ => ⟨as, PyProof.Rows.Reads.keeps (fun _ _ => PySem.W.sorting_copy_old) r⟩
  have hl : us.length ≤ sizeLine := by rw [e.length]; exact hL
  refine sortedT_of hT hl fun E' => ?_
  have S := PySem.W.SortsAt.data (prog := prog) (w := w) (A := A.in1.in1) (s := { s with heap := PySem.W.sortingHeap (PySem.W.copyHeap s.heap us) (s.heap.objs.size + 1) us }) (PySem.W.each_map (R := fun v d => ∃ as, Reads (PySem.W.sortingHeap (PySem.W.copyHeap s.heap us) (s.heap.objs.size + 1) us) v d as) enc er') hal hk (PySem.W.bound_map hu)
  exact PySem.W.list_sort_vals (s := { s with heap := PySem.W.copyHeap s.heap us }) (PySem.W.copyHeap_at s.heap us) S hl ⟨rfl, h _ (by rw [PySem.W.sortVals_length false rfl]; exact e.length) (PySem.W.sortVals_data false e er' hal)⟩
end
/-- sorted of a list or of a tuple -/
def sortX : List D → Option (List D)
  | [.lst ds] => if sortB ds = true then some (sortL ds) else none
  | [.tup ds] => if sortB ds = true then some (sortL ds) else none
  | _ => none
def rSortX (K : PySem.W.Frag) : List V → Hp → VK → Prop := fun vs H Q => rSortA K vs H Q ∨ ∃ (a : Addr) (xs : List V) (ds : List D), vs = [V.ref a] ∧ SqT K H a xs ∧ ds.length = xs.length ∧ DpAll K H xs (toPs ds) ∧ sortB ds = true ∧
  ∀ (zs : List (V × D)) (p : Addr), zs.Perm (xs.zip ds) → zs.map Prod.snd = sortL ds → H p = none → Q (.ref p) (L2.upd H p (.lst (zs.map Prod.fst)))
theorem c_sortedX {X : Cx} {K : PySem.W.Frag} (hk : X.K = K) (hu : X.A.units + 200 < cLine) : CallR X (.builtin "sorted") (rSortX K) := by
  intro pins s σ H vs us Q I r h
  rcases h with h | h
  · exact c_sorted hk hu pins s σ H vs us Q I r h
  subst hk
  obtain ⟨a, xs, ds, rfl, hs, hlen, hd, hb, q⟩ := h
  obtain ⟨its, rv, hl, hz⟩ := I.tuple hs
  rw [Vals.ref1 r]
  unfold sortB at hb
  simp only [Bool.and_eq_true, Bool.or_eq_true, List.all_eq_true] at hb
  obtain ⟨hc, ht⟩ := hb
  obtain ⟨m1, m2⟩ := allCmp_mem hc
  obtain ⟨as, ra⟩ := Dp.readsAll I (toPs ds) xs its hd rv
  have hlv := rv.length
  have henc : (xs.zip ds).map (fun z : V × D => toP z.2) = ds.map toP := by
    have : (xs.zip ds).map Prod.snd = ds := List.map_snd_zip (by omega)
    show (xs.zip ds).map (toP ∘ Prod.snd) = _
    rw [← List.map_map, this]
  have hal : PySem.W.AllAlike ((xs.zip ds).map fun z : V × D => toP z.2) := by
    rw [henc]
    intro d hd d' hd'
    obtain ⟨x, hx, rfl⟩ := List.mem_map.mp hd
    obtain ⟨y, hy, rfl⟩ := List.mem_map.mp hd'
    exact m2 x hx y hy
  have hsort : PySem.W.Sortable ((xs.zip ds).map fun z : V × D => toP z.2) := by
    rw [henc]
    rcases ht with ht | ht
    · refine .inl fun d hd => ?_
      obtain ⟨x, hx, rfl⟩ := List.mem_map.mp hd
      have := ht x hx
      cases x <;> first | (cases this; done) | skip
      rename_i l
      cases l with
      | nil => cases this
      | cons y ys => exact ⟨toP y, toPs ys, by simp [toP, toPs]⟩
    · refine .inr fun d hd => ?_
      obtain ⟨x, hx, rfl⟩ := List.mem_map.mp hd
      have h1 := ht x hx
      have h2 := (m1 x hx).2.2
      cases x <;> simp [notTup, isNonD, toP] at h1 h2 ⊢
  have hread : PySem.W.EachIs (fun v (z : V × D) => ∃ as, Reads s.heap v (toP z.2) as) its (xs.zip ds) := each_zip hlv.symm hlen fun i u x d h1 h2 h3 => by
    obtain ⟨d', bs, e1, e2⟩ := readsAll_get ra h1
    rw [toPs_eq, List.getElem?_map, h3] at e1
    cases e1
    exact ⟨bs, e2⟩
  refine sortedT_data (R := fun u z => L2.RelV z.1 u) (enc := fun z : V × D => toP z.2) (us := its) (bs := xs.zip ds) hl (each_zip hlv.symm hlen fun i u x d h1 h2 h3 => ?_) hread hal hsort (by simp; omega) (fun b hb => ?_) fun out ho eo => ?_
  · obtain ⟨u', e1, e2⟩ := rv.get h2
    rw [h1] at e1; cases e1
    exact e2
  · have hbm := (List.of_mem_zip (show (b.1, b.2) ∈ xs.zip ds from hb)).2
    have := SeqAt.depth_of_shaped (m1 _ hbm).2.1
    omega
  · obtain ⟨n, hn⟩ := sortedAll_at s.heap its out.toArray
    have hperm : ((xs.zip ds).mergeSort (PySem.W.dataLe false fun z : V × D => toP z.2)).Perm (xs.zip ds) := List.mergeSort_perm _ _
    refine ⟨.ref _, _, I.laid (t' := s.toks) (o := .lst (((xs.zip ds).mergeSort (PySem.W.dataLe false fun z : V × D => toP z.2)).map Prod.fst)) (fun b ob q => sortedAll_old q) (Nat.le_succ _) ⟨?_, out, n, each_vals eo, hn⟩, rfl, q _ _ hperm ?_ (I.hok.fresh (Nat.le_succ _))⟩
    · rw [List.length_map, hperm.length_eq, List.length_zip]; omega
    · have hsnd : (xs.zip ds).map Prod.snd = ds := List.map_snd_zip (by omega)
      rw [List.map_mergeSort (r := PySem.W.dataLe false fun z : V × D => toP z.2) (s := fun x y => !PySem.W.dataLt (toP y) (toP x)) (f := Prod.snd) (fun a _ b _ => rfl), hsnd]
      rfl
theorem v_sortedX {K : PySem.W.Frag} : VLO K (rSortX K) sortX := fun pd F H xs ds vs fh r e Q q => by
  match xs, e with
  | [.lst as], e => exact .inl (v_sorted pd F H [.lst as] ds vs fh r e Q q)
  | [.tup as], e =>
    refine .inr ?_
    simp only [sortX] at e
    split at e
    · rename_i hb
      cases e
      obtain ⟨v, rfl, rb⟩ := r.one
      have hcl : cleanL as = true := by
        unfold sortB at hb
        simp only [Bool.and_eq_true] at hb
        exact cleanL_all.mpr fun z hz => ((allCmp_mem hb.1).1 z hz).1
      obtain ⟨a, ys, rfl, h3, h3', hl, h4⟩ := rb.tup fh
      refine ⟨a, ys, as, rfl, h3, h4.length.symm, RepL.dp fh hcl h4, hb, fun zs p hp hs n => ?_⟩
      refine q p _ F _ (Ext.own fh n) n (nF_of fh n) upd_same ?_ ?_
      · have : (sortL as).length = as.length := List.length_mergeSort _
        rw [this]; exact hl
      · rw [← hs]
        exact rep_unzip fun z hz => rep_zip h4 z (hp.mem_iff.mp hz)
    · cases e
end Pu
set_option maxHeartbeats 4000000
namespace Lw
open PySem PySem.Spec PyProof.Rows L2 Pu
def topS (i : Nat) : Stmt := PySem.Challenge.pw_marketguild_k74_whole_loans_together.main.body.getD i (.Pass ⟨0, 0, 0, 0⟩)
def c_ZERO : D := (.tup [(.int 0), (.int 1)])
def c_ONE : D := (.tup [(.int 1), (.int 1)])
def c_MOST_ROUNDS : D := (.int 24)
section
variable {P : Program} {w : World} {K : PySem.W.Frag} {mg : Str → Option Value} {base : Heap}
abbrev s_fraction : Stmt := topS 8
theorem sc_fraction : FnScope ["numerator", "denominator", "common"] ["numerator", "denominator"] (defScope s_fraction) := ⟨rfl, rfl, rfl, by decide +kernel, rfl, by decide +kernel, by decide +kernel⟩
def g_fraction : SF := sSeq (sIf (tV (x2 eqD (xNm 1) (xC (.int 0)))) (sFail) (sNext)) (sSeq (sIf (tV (x2 ltA (xNm 1) (xC (.int 0)))) (sSeq (sSet 0 (x1 negD (xNm 0))) (sSet 1 (x1 negD (xNm 1)))) (sNext)) (sSeq (sSet 2 (xL gcdD (aC (xNm 0) (aC (xNm 1) (aN))))) (sRet (xTup (aC (x2 divD (xNm 0) (xNm 2)) (aC (x2 divD (xNm 1) (xNm 2)) (aN)))))))
def m_fraction : List D → M D := runDef 3 2 g_fraction
theorem ok_fraction (B : Bi mg) (h_gcd : mg "gcd" = some (.builtin "math.gcd")) {f : Addr} {fd : FuncData} (F : FnP K "fraction" s_fraction f fd) (hm : mg "fraction" = some (.ref f)) (hb : Binds K fd ["numerator", "denominator"] []) : DefOk P w K mg base "fraction" 1 ["numerator", "denominator"] m_fraction :=
  have C := Fam.ent (P := P) (w := w) (K := K) (mg := mg) (base := base) (N := ["numerator", "denominator", "common"]) (k := 0) (qual := "fraction") (scope := defScope s_fraction) (f := f) sc_fraction.nd
  def_ok F sc_fraction (show CSs _ K (defBody s_fraction) g_fraction from ssCons (cIfS (tCmp (fun i => op_eqA (C.k i) (roomU (C.r i))) v_eq (cNm C 1) (CE.brw (cInt)) (nomark _)) (ssOne (cNever)) (ssNil)) (ssCons (cIfS (tCmp (fun i => op_ltA (C.k i) (roomU (C.r i))) v_ltA (cNm C 1) (CE.brw (cInt)) (nomark _)) (ssCons (cSet C 0 (cUn (fun _ => un_neg) v_neg (cNm C 0))) (ssOne (cSet C 1 (cUn (fun _ => un_neg) v_neg (cNm C 1))))) (ssNil)) (ssCons (cSet C 2 (cCallBf C (fun _ => cr_gcd) v_gcd h_gcd (cbCons (cNm C 0) (cbCons (cNm C 1) (cbNil))))) (ssOne (cRet (cTup (caCons (cBin (fun _ => op_fdivW) v_div (cNm C 0) (cNm C 2)) (caCons (cBin (fun _ => op_fdivW) v_div (cNm C 1) (cNm C 2)) (caNil))))))))) hm hb 3 2
abbrev s_plus : Stmt := topS 9
theorem sc_plus : FnScope ["a", "b"] ["a", "b"] (defScope s_plus) := ⟨rfl, rfl, rfl, by decide +kernel, rfl, by decide +kernel, by decide +kernel⟩
def g_plus : SF := sRet (xCall m_fraction (aC (x2 addD (x2 mulD (x2 ixD (xNm 0) (xC (.int 0))) (x2 ixD (xNm 1) (xC (.int 1)))) (x2 mulD (x2 ixD (xNm 1) (xC (.int 0))) (x2 ixD (xNm 0) (xC (.int 1))))) (aC (x2 mulD (x2 ixD (xNm 0) (xC (.int 1))) (x2 ixD (xNm 1) (xC (.int 1)))) (aN))))
def m_plus : List D → M D := runDef 2 2 g_plus
theorem ok_plus (B : Bi mg) (d_fraction : DefOk P w K mg base "fraction" 1 ["numerator", "denominator"] m_fraction) {f : Addr} {fd : FuncData} (F : FnP K "plus" s_plus f fd) (hm : mg "plus" = some (.ref f)) (hb : Binds K fd ["a", "b"] []) : DefOk P w K mg base "plus" 2 ["a", "b"] m_plus :=
  have C := Fam.ent (P := P) (w := w) (K := K) (mg := mg) (base := base) (N := ["a", "b"]) (k := 1) (qual := "plus") (scope := defScope s_plus) (f := f) sc_plus.nd
  def_ok F sc_plus (show CSs _ K (defBody s_plus) g_plus from ssOne (cRet (cCall C d_fraction (by decide) (caCons (cBin (fun i => op_addAll (C.k i)) v_add (CE.brw (cBin (fun _ => op_mulW) v_mul (CE.brw (cIx (fun i => ix_both (C.k i)) v_ix (cNm C 0) (CE.brw (cInt)) (fun _ _ => rfl))) (CE.brw (cIx (fun i => ix_both (C.k i)) v_ix (cNm C 1) (CE.brw (cInt)) (fun _ _ => rfl))))) (CE.brw (cBin (fun _ => op_mulW) v_mul (CE.brw (cIx (fun i => ix_both (C.k i)) v_ix (cNm C 1) (CE.brw (cInt)) (fun _ _ => rfl))) (CE.brw (cIx (fun i => ix_both (C.k i)) v_ix (cNm C 0) (CE.brw (cInt)) (fun _ _ => rfl)))))) (caCons (cBin (fun _ => op_mulW) v_mul (CE.brw (cIx (fun i => ix_both (C.k i)) v_ix (cNm C 0) (CE.brw (cInt)) (fun _ _ => rfl))) (CE.brw (cIx (fun i => ix_both (C.k i)) v_ix (cNm C 1) (CE.brw (cInt)) (fun _ _ => rfl)))) (caNil)))))) hm hb 2 2
abbrev s_minus : Stmt := topS 10
theorem sc_minus : FnScope ["a", "b"] ["a", "b"] (defScope s_minus) := ⟨rfl, rfl, rfl, by decide +kernel, rfl, by decide +kernel, by decide +kernel⟩
def g_minus : SF := sRet (xCall m_fraction (aC (x2 subD (x2 mulD (x2 ixD (xNm 0) (xC (.int 0))) (x2 ixD (xNm 1) (xC (.int 1)))) (x2 mulD (x2 ixD (xNm 1) (xC (.int 0))) (x2 ixD (xNm 0) (xC (.int 1))))) (aC (x2 mulD (x2 ixD (xNm 0) (xC (.int 1))) (x2 ixD (xNm 1) (xC (.int 1)))) (aN))))
def m_minus : List D → M D := runDef 2 2 g_minus
theorem ok_minus (B : Bi mg) (d_fraction : DefOk P w K mg base "fraction" 1 ["numerator", "denominator"] m_fraction) {f : Addr} {fd : FuncData} (F : FnP K "minus" s_minus f fd) (hm : mg "minus" = some (.ref f)) (hb : Binds K fd ["a", "b"] []) : DefOk P w K mg base "minus" 2 ["a", "b"] m_minus :=
  have C := Fam.ent (P := P) (w := w) (K := K) (mg := mg) (base := base) (N := ["a", "b"]) (k := 1) (qual := "minus") (scope := defScope s_minus) (f := f) sc_minus.nd
  def_ok F sc_minus (show CSs _ K (defBody s_minus) g_minus from ssOne (cRet (cCall C d_fraction (by decide) (caCons (cBin (fun _ => op_sub) v_sub (CE.brw (cBin (fun _ => op_mulW) v_mul (CE.brw (cIx (fun i => ix_both (C.k i)) v_ix (cNm C 0) (CE.brw (cInt)) (fun _ _ => rfl))) (CE.brw (cIx (fun i => ix_both (C.k i)) v_ix (cNm C 1) (CE.brw (cInt)) (fun _ _ => rfl))))) (CE.brw (cBin (fun _ => op_mulW) v_mul (CE.brw (cIx (fun i => ix_both (C.k i)) v_ix (cNm C 1) (CE.brw (cInt)) (fun _ _ => rfl))) (CE.brw (cIx (fun i => ix_both (C.k i)) v_ix (cNm C 0) (CE.brw (cInt)) (fun _ _ => rfl)))))) (caCons (cBin (fun _ => op_mulW) v_mul (CE.brw (cIx (fun i => ix_both (C.k i)) v_ix (cNm C 0) (CE.brw (cInt)) (fun _ _ => rfl))) (CE.brw (cIx (fun i => ix_both (C.k i)) v_ix (cNm C 1) (CE.brw (cInt)) (fun _ _ => rfl)))) (caNil)))))) hm hb 2 2
abbrev s_times : Stmt := topS 11
theorem sc_times : FnScope ["a", "b"] ["a", "b"] (defScope s_times) := ⟨rfl, rfl, rfl, by decide +kernel, rfl, by decide +kernel, by decide +kernel⟩
def g_times : SF := sRet (xCall m_fraction (aC (x2 mulD (x2 ixD (xNm 0) (xC (.int 0))) (x2 ixD (xNm 1) (xC (.int 0)))) (aC (x2 mulD (x2 ixD (xNm 0) (xC (.int 1))) (x2 ixD (xNm 1) (xC (.int 1)))) (aN))))
def m_times : List D → M D := runDef 2 2 g_times
theorem ok_times (B : Bi mg) (d_fraction : DefOk P w K mg base "fraction" 1 ["numerator", "denominator"] m_fraction) {f : Addr} {fd : FuncData} (F : FnP K "times" s_times f fd) (hm : mg "times" = some (.ref f)) (hb : Binds K fd ["a", "b"] []) : DefOk P w K mg base "times" 2 ["a", "b"] m_times :=
  have C := Fam.ent (P := P) (w := w) (K := K) (mg := mg) (base := base) (N := ["a", "b"]) (k := 1) (qual := "times") (scope := defScope s_times) (f := f) sc_times.nd
  def_ok F sc_times (show CSs _ K (defBody s_times) g_times from ssOne (cRet (cCall C d_fraction (by decide) (caCons (cBin (fun _ => op_mulW) v_mul (CE.brw (cIx (fun i => ix_both (C.k i)) v_ix (cNm C 0) (CE.brw (cInt)) (fun _ _ => rfl))) (CE.brw (cIx (fun i => ix_both (C.k i)) v_ix (cNm C 1) (CE.brw (cInt)) (fun _ _ => rfl)))) (caCons (cBin (fun _ => op_mulW) v_mul (CE.brw (cIx (fun i => ix_both (C.k i)) v_ix (cNm C 0) (CE.brw (cInt)) (fun _ _ => rfl))) (CE.brw (cIx (fun i => ix_both (C.k i)) v_ix (cNm C 1) (CE.brw (cInt)) (fun _ _ => rfl)))) (caNil)))))) hm hb 2 2
abbrev s_over : Stmt := topS 12
theorem sc_over : FnScope ["a", "b"] ["a", "b"] (defScope s_over) := ⟨rfl, rfl, rfl, by decide +kernel, rfl, by decide +kernel, by decide +kernel⟩
def g_over : SF := sRet (xCall m_fraction (aC (x2 mulD (x2 ixD (xNm 0) (xC (.int 0))) (x2 ixD (xNm 1) (xC (.int 1)))) (aC (x2 mulD (x2 ixD (xNm 0) (xC (.int 1))) (x2 ixD (xNm 1) (xC (.int 0)))) (aN))))
def m_over : List D → M D := runDef 2 2 g_over
theorem ok_over (B : Bi mg) (d_fraction : DefOk P w K mg base "fraction" 1 ["numerator", "denominator"] m_fraction) {f : Addr} {fd : FuncData} (F : FnP K "over" s_over f fd) (hm : mg "over" = some (.ref f)) (hb : Binds K fd ["a", "b"] []) : DefOk P w K mg base "over" 2 ["a", "b"] m_over :=
  have C := Fam.ent (P := P) (w := w) (K := K) (mg := mg) (base := base) (N := ["a", "b"]) (k := 1) (qual := "over") (scope := defScope s_over) (f := f) sc_over.nd
  def_ok F sc_over (show CSs _ K (defBody s_over) g_over from ssOne (cRet (cCall C d_fraction (by decide) (caCons (cBin (fun _ => op_mulW) v_mul (CE.brw (cIx (fun i => ix_both (C.k i)) v_ix (cNm C 0) (CE.brw (cInt)) (fun _ _ => rfl))) (CE.brw (cIx (fun i => ix_both (C.k i)) v_ix (cNm C 1) (CE.brw (cInt)) (fun _ _ => rfl)))) (caCons (cBin (fun _ => op_mulW) v_mul (CE.brw (cIx (fun i => ix_both (C.k i)) v_ix (cNm C 0) (CE.brw (cInt)) (fun _ _ => rfl))) (CE.brw (cIx (fun i => ix_both (C.k i)) v_ix (cNm C 1) (CE.brw (cInt)) (fun _ _ => rfl)))) (caNil)))))) hm hb 2 2
abbrev s_compare : Stmt := topS 13
theorem sc_compare : FnScope ["a", "b", "left", "right"] ["a", "b"] (defScope s_compare) := ⟨rfl, rfl, rfl, by decide +kernel, rfl, by decide +kernel, by decide +kernel⟩
def g_compare : SF := sSeq (sSet 2 (x2 mulD (x2 ixD (xNm 0) (xC (.int 0))) (x2 ixD (xNm 1) (xC (.int 1))))) (sSeq (sSet 3 (x2 mulD (x2 ixD (xNm 1) (xC (.int 0))) (x2 ixD (xNm 0) (xC (.int 1))))) (sSeq (sIf (tV (x2 ltA (xNm 2) (xNm 3))) (sRet (x1 negD (xC (.int 1)))) (sNext)) (sSeq (sIf (tV (x2 gtA (xNm 2) (xNm 3))) (sRet (xC (.int 1))) (sNext)) (sRet (xC (.int 0))))))
def m_compare : List D → M D := runDef 4 2 g_compare
theorem ok_compare (B : Bi mg)  {f : Addr} {fd : FuncData} (F : FnP K "compare" s_compare f fd) (hm : mg "compare" = some (.ref f)) (hb : Binds K fd ["a", "b"] []) : DefOk P w K mg base "compare" 1 ["a", "b"] m_compare :=
  have C := Fam.ent (P := P) (w := w) (K := K) (mg := mg) (base := base) (N := ["a", "b", "left", "right"]) (k := 0) (qual := "compare") (scope := defScope s_compare) (f := f) sc_compare.nd
  def_ok F sc_compare (show CSs _ K (defBody s_compare) g_compare from ssCons (cSet C 2 (cBin (fun _ => op_mulW) v_mul (CE.brw (cIx (fun i => ix_both (C.k i)) v_ix (cNm C 0) (CE.brw (cInt)) (fun _ _ => rfl))) (CE.brw (cIx (fun i => ix_both (C.k i)) v_ix (cNm C 1) (CE.brw (cInt)) (fun _ _ => rfl))))) (ssCons (cSet C 3 (cBin (fun _ => op_mulW) v_mul (CE.brw (cIx (fun i => ix_both (C.k i)) v_ix (cNm C 1) (CE.brw (cInt)) (fun _ _ => rfl))) (CE.brw (cIx (fun i => ix_both (C.k i)) v_ix (cNm C 0) (CE.brw (cInt)) (fun _ _ => rfl))))) (ssCons (cIfS (tCmp (fun i => op_ltA (C.k i) (roomU (C.r i))) v_ltA (cNm C 2) (cNm C 3) (nomark _)) (ssOne (cRet (cUn (fun _ => un_neg) v_neg (CE.brw (cInt))))) (ssNil)) (ssCons (cIfS (tCmp (fun i => op_gtA (C.k i) (roomU (C.r i))) v_gtA (cNm C 2) (cNm C 3) (nomark _)) (ssOne (cRet (cInt))) (ssNil)) (ssOne (cRet (cInt))))))) hm hb 4 2
abbrev s_total : Stmt := topS 14
theorem sc_total : FnScope ["items", "result", "item"] ["items"] (defScope s_total) := ⟨rfl, rfl, rfl, by decide +kernel, rfl, by decide +kernel, by decide +kernel⟩
def g_total : SF := sSeq (sSet 1 (xC c_ZERO)) (sSeq (sFor (iSq (xSh 0)) (gNm 2) (sSet 1 (xCall m_plus (aC (xSh 1) (aC (xSh 2) (aN)))))) (sRet (xSh 1)))
def m_total : List D → M D := runDef 3 1 g_total
theorem ok_total (B : Bi mg) (k_ZERO : CstOk mg "ZERO" c_ZERO K) (d_plus : DefOk P w K mg base "plus" 2 ["a", "b"] m_plus) {f : Addr} {fd : FuncData} (F : FnP K "total" s_total f fd) (hm : mg "total" = some (.ref f)) (hb : Binds K fd ["items"] []) : DefOk P w K mg base "total" 3 ["items"] m_total :=
  have C := Fam.ent (P := P) (w := w) (K := K) (mg := mg) (base := base) (N := ["items", "result", "item"]) (k := 2) (qual := "total") (scope := defScope s_total) (f := f) sc_total.nd
  def_ok F sc_total (show CSs _ K (defBody s_total) g_total from ssCons (cSet C 1 (k_ZERO.ce C)) (ssCons (cFor C (fun _ => PassesOwn.never) (iSeqE C (cSh C 0)) (gName' C 2) (ssOne (cSet C 1 (cCall C d_plus (by decide) (caCons (cSh C 1) (caCons (cSh C 2) (caNil))))))) (ssOne (cRet (cSh C 1))))) hm hb 3 1
abbrev s_check_loan : Stmt := topS 17
theorem sc_check_loan : FnScope ["amount", "rate", "rounds"] ["amount", "rate", "rounds"] (defScope s_check_loan) := ⟨rfl, rfl, rfl, by decide +kernel, rfl, by decide +kernel, by decide +kernel⟩
def g_check_loan : SF := sSeq (sIf (tV (x2 ltA (xNm 0) (xC (.int 0)))) (sFail) (sNext)) (sSeq (sIf (tV (x2 ltA (xCall m_compare (aC (xSh 1) (aC (xC c_ZERO) (aN)))) (xC (.int 0)))) (sFail) (sNext)) (sIf (tNot (tV (xCh leA leA (xC (.int 1)) (xNm 2) (xC c_MOST_ROUNDS)))) (sFail) (sNext)))
def m_check_loan : List D → M D := runDef 3 3 g_check_loan
theorem ok_check_loan (B : Bi mg) (k_ZERO : CstOk mg "ZERO" c_ZERO K) (k_MOST_ROUNDS : CstOk mg "MOST_ROUNDS" c_MOST_ROUNDS K) (d_compare : DefOk P w K mg base "compare" 1 ["a", "b"] m_compare) {f : Addr} {fd : FuncData} (F : FnP K "check_loan" s_check_loan f fd) (hm : mg "check_loan" = some (.ref f)) (hb : Binds K fd ["amount", "rate", "rounds"] []) : DefOk P w K mg base "check_loan" 2 ["amount", "rate", "rounds"] m_check_loan :=
  have C := Fam.ent (P := P) (w := w) (K := K) (mg := mg) (base := base) (N := ["amount", "rate", "rounds"]) (k := 1) (qual := "check_loan") (scope := defScope s_check_loan) (f := f) sc_check_loan.nd
  def_ok F sc_check_loan (show CSs _ K (defBody s_check_loan) g_check_loan from ssCons (cIfS (tCmp (fun i => op_ltA (C.k i) (roomU (C.r i))) v_ltA (cNm C 0) (CE.brw (cInt)) (nomark _)) (ssOne (cNever)) (ssNil)) (ssCons (cIfS (tCmp (fun i => op_ltA (C.k i) (roomU (C.r i))) v_ltA (CE.brw (cCall C d_compare (by decide) (caCons (cSh C 1) (caCons (k_ZERO.ce C) (caNil))))) (CE.brw (cInt)) (nomark _)) (ssOne (cNever)) (ssNil)) (ssOne (cIfS (tNotR (tChainR (fun i => op_leA (C.k i) (roomU (C.r i))) (fun i => op_leA (C.k i) (roomU (C.r i))) v_leA v_leA (CE.brw (cInt)) (cNm C 2) (CE.brw (k_MOST_ROUNDS.ce C)))) (ssOne (cNever)) (ssNil))))) hm hb 3 3
abbrev s_balances : Stmt := topS 18
theorem sc_balances : FnScope ["amount", "rate", "paid", "left", "found", "one"] ["amount", "rate", "paid"] (defScope s_balances) := ⟨rfl, rfl, rfl, by decide +kernel, rfl, by decide +kernel, by decide +kernel⟩
def g_balances : SF := sSeq (sDrop (xCall m_check_loan (aC (xSh 0) (aC (xSh 1) (aC (xL max2D (aC (xC (.int 1)) (aC (xL lenD (aC (xNm 2) (aN))) (aN)))) (aN)))))) (sSeq (sSet 3 (xCall m_fraction (aC (xSh 0) (aC (xC (.int 1)) (aN))))) (sSeq (sOwn 4 (oLst (aN))) (sSeq (sFor (iSq (xSh 2)) (gNm 5) (sSeq (sSet 3 (xCall m_minus (aC (xCall m_times (aC (xSh 3) (aC (xCall m_plus (aC (xC c_ONE) (aC (xSh 1) (aN)))) (aN)))) (aC (xSh 5) (aN))))) (sMeth 4 appU (xSh 3)))) (sRet (xL tupD (aC (xNm 4) (aN)))))))
def m_balances : List D → M D := runDef 6 3 g_balances
theorem ok_balances (B : Bi mg) (k_ONE : CstOk mg "ONE" c_ONE K) (d_check_loan : DefOk P w K mg base "check_loan" 2 ["amount", "rate", "rounds"] m_check_loan) (d_fraction : DefOk P w K mg base "fraction" 1 ["numerator", "denominator"] m_fraction) (d_minus : DefOk P w K mg base "minus" 2 ["a", "b"] m_minus) (d_times : DefOk P w K mg base "times" 2 ["a", "b"] m_times) (d_plus : DefOk P w K mg base "plus" 2 ["a", "b"] m_plus) {f : Addr} {fd : FuncData} (F : FnP K "balances" s_balances f fd) (hm : mg "balances" = some (.ref f)) (hb : Binds K fd ["amount", "rate", "paid"] []) : DefOk P w K mg base "balances" 3 ["amount", "rate", "paid"] m_balances :=
  have C := Fam.ent (P := P) (w := w) (K := K) (mg := mg) (base := base) (N := ["amount", "rate", "paid", "left", "found", "one"]) (k := 2) (qual := "balances") (scope := defScope s_balances) (f := f) sc_balances.nd
  def_ok F sc_balances (show CSs _ K (defBody s_balances) g_balances from ssCons (cExpr (cCall C d_check_loan (by decide) (caCons (cSh C 0) (caCons (cSh C 1) (caCons (cCallB C (fun i => call_max2 (C.c i)) v_max2 B.max bt_max (cbCons (CE.brw (cInt)) (cbCons (CE.brw (cCallB C (fun i => c_len (C.k i)) v_len B.len bt_len (cbCons (cNm C 2) (cbNil)))) (cbNil)))) (caNil)))))) (ssCons (cSet C 3 (cCall C d_fraction (by decide) (caCons (cSh C 0) (caCons (cInt) (caNil))))) (ssCons (cOwn C 4 (oList (caNil))) (ssCons (cFor C (fun _ => PassesOwn.never) (iSeqE C (cSh C 2)) (gName' C 5) (ssCons (cSet C 3 (cCall C d_minus (by decide) (caCons (cCall C d_times (by decide) (caCons (cSh C 3) (caCons (cCall C d_plus (by decide) (caCons (k_ONE.ce C) (caCons (cSh C 1) (caNil)))) (caNil)))) (caCons (cSh C 5) (caNil))))) (ssOne (cApp C 4 (cSh C 3))))) (ssOne (cRet (cCallT C (fun i => c_tup (C.k i)) v_tup B.tuple bt_tuple (cbCons (cNm C 4) (cbNil))))))))) hm hb 6 3
abbrev s_equal_payment : Stmt := topS 19
theorem sc_equal_payment : FnScope ["amount", "rate", "rounds", "whole", "factor", "_"] ["amount", "rate", "rounds"] (defScope s_equal_payment) := ⟨rfl, rfl, rfl, by decide +kernel, rfl, by decide +kernel, by decide +kernel⟩
def g_equal_payment : SF := sSeq (sDrop (xCall m_check_loan (aC (xSh 0) (aC (xSh 1) (aC (xSh 2) (aN)))))) (sSeq (sSet 3 (xC c_ZERO)) (sSeq (sSet 4 (xC c_ONE)) (sSeq (sFor (iRg rng1D (aC (xSh 2) (aN))) (gNm 5) (sSeq (sSet 4 (xCall m_over (aC (xSh 4) (aC (xCall m_plus (aC (xC c_ONE) (aC (xSh 1) (aN)))) (aN))))) (sSet 3 (xCall m_plus (aC (xSh 3) (aC (xSh 4) (aN))))))) (sRet (xCall m_over (aC (xCall m_fraction (aC (xSh 0) (aC (xC (.int 1)) (aN)))) (aC (xSh 3) (aN))))))))
def m_equal_payment : List D → M D := runDef 6 3 g_equal_payment
theorem ok_equal_payment (B : Bi mg) (k_ZERO : CstOk mg "ZERO" c_ZERO K) (k_ONE : CstOk mg "ONE" c_ONE K) (d_check_loan : DefOk P w K mg base "check_loan" 2 ["amount", "rate", "rounds"] m_check_loan) (d_over : DefOk P w K mg base "over" 2 ["a", "b"] m_over) (d_plus : DefOk P w K mg base "plus" 2 ["a", "b"] m_plus) (d_fraction : DefOk P w K mg base "fraction" 1 ["numerator", "denominator"] m_fraction) {f : Addr} {fd : FuncData} (F : FnP K "equal_payment" s_equal_payment f fd) (hm : mg "equal_payment" = some (.ref f)) (hb : Binds K fd ["amount", "rate", "rounds"] []) : DefOk P w K mg base "equal_payment" 3 ["amount", "rate", "rounds"] m_equal_payment :=
  have C := Fam.ent (P := P) (w := w) (K := K) (mg := mg) (base := base) (N := ["amount", "rate", "rounds", "whole", "factor", "_"]) (k := 2) (qual := "equal_payment") (scope := defScope s_equal_payment) (f := f) sc_equal_payment.nd
  def_ok F sc_equal_payment (show CSs _ K (defBody s_equal_payment) g_equal_payment from ssCons (cExpr (cCall C d_check_loan (by decide) (caCons (cSh C 0) (caCons (cSh C 1) (caCons (cSh C 2) (caNil)))))) (ssCons (cSet C 3 (k_ZERO.ce C)) (ssCons (cSet C 4 (k_ONE.ce C)) (ssCons (cFor C (fun _ => PassesOwn.never) (iRng1E C B.range (caCons (cSh C 2) (caNil))) (gName' C 5) (ssCons (cSet C 4 (cCall C d_over (by decide) (caCons (cSh C 4) (caCons (cCall C d_plus (by decide) (caCons (k_ONE.ce C) (caCons (cSh C 1) (caNil)))) (caNil))))) (ssOne (cSet C 3 (cCall C d_plus (by decide) (caCons (cSh C 3) (caCons (cSh C 4) (caNil)))))))) (ssOne (cRet (cCall C d_over (by decide) (caCons (cCall C d_fraction (by decide) (caCons (cSh C 0) (caCons (cInt) (caNil)))) (caCons (cSh C 3) (caNil)))))))))) hm hb 6 3
abbrev s_parts : Stmt := topS 20
theorem sc_parts : FnScope ["amount", "rate", "rounds", "payment", "left", "found", "_", "interest"] ["amount", "rate", "rounds"] (defScope s_parts) := ⟨rfl, rfl, rfl, by decide +kernel, rfl, by decide +kernel, by decide +kernel⟩
def g_parts : SF := sSeq (sSet 3 (xCall m_equal_payment (aC (xSh 0) (aC (xSh 1) (aC (xSh 2) (aN)))))) (sSeq (sSet 4 (xCall m_fraction (aC (xSh 0) (aC (xC (.int 1)) (aN))))) (sSeq (sOwn 5 (oLst (aN))) (sSeq (sFor (iRg rng1D (aC (xSh 2) (aN))) (gNm 6) (sSeq (sSet 7 (xCall m_times (aC (xSh 4) (aC (xSh 1) (aN))))) (sSeq (sMeth 5 appU (xTup (aC (xSh 7) (aC (xCall m_minus (aC (xSh 3) (aC (xSh 7) (aN)))) (aN))))) (sSet 4 (xCall m_minus (aC (xSh 4) (aC (xCall m_minus (aC (xSh 3) (aC (xSh 7) (aN)))) (aN)))))))) (sRet (xL tupD (aC (xNm 5) (aN)))))))
def m_parts : List D → M D := runDef 8 3 g_parts
theorem ok_parts (B : Bi mg) (d_equal_payment : DefOk P w K mg base "equal_payment" 3 ["amount", "rate", "rounds"] m_equal_payment) (d_fraction : DefOk P w K mg base "fraction" 1 ["numerator", "denominator"] m_fraction) (d_times : DefOk P w K mg base "times" 2 ["a", "b"] m_times) (d_minus : DefOk P w K mg base "minus" 2 ["a", "b"] m_minus) {f : Addr} {fd : FuncData} (F : FnP K "parts" s_parts f fd) (hm : mg "parts" = some (.ref f)) (hb : Binds K fd ["amount", "rate", "rounds"] []) : DefOk P w K mg base "parts" 4 ["amount", "rate", "rounds"] m_parts :=
  have C := Fam.ent (P := P) (w := w) (K := K) (mg := mg) (base := base) (N := ["amount", "rate", "rounds", "payment", "left", "found", "_", "interest"]) (k := 3) (qual := "parts") (scope := defScope s_parts) (f := f) sc_parts.nd
  def_ok F sc_parts (show CSs _ K (defBody s_parts) g_parts from ssCons (cSet C 3 (cCall C d_equal_payment (by decide) (caCons (cSh C 0) (caCons (cSh C 1) (caCons (cSh C 2) (caNil)))))) (ssCons (cSet C 4 (cCall C d_fraction (by decide) (caCons (cSh C 0) (caCons (cInt) (caNil))))) (ssCons (cOwn C 5 (oList (caNil))) (ssCons (cFor C (fun _ => PassesOwn.never) (iRng1E C B.range (caCons (cSh C 2) (caNil))) (gName' C 6) (ssCons (cSet C 7 (cCall C d_times (by decide) (caCons (cSh C 4) (caCons (cSh C 1) (caNil))))) (ssCons (cApp C 5 (cTup (caCons (cSh C 7) (caCons (cCall C d_minus (by decide) (caCons (cSh C 3) (caCons (cSh C 7) (caNil)))) (caNil))))) (ssOne (cSet C 4 (cCall C d_minus (by decide) (caCons (cSh C 4) (caCons (cCall C d_minus (by decide) (caCons (cSh C 3) (caCons (cSh C 7) (caNil)))) (caNil))))))))) (ssOne (cRet (cCallT C (fun i => c_tup (C.k i)) v_tup B.tuple bt_tuple (cbCons (cNm C 5) (cbNil))))))))) hm hb 8 3
abbrev s_worth_now : Stmt := topS 21
theorem sc_worth_now : FnScope ["rate", "flows", "found", "factor", "flow"] ["rate", "flows"] (defScope s_worth_now) := ⟨rfl, rfl, rfl, by decide +kernel, rfl, by decide +kernel, by decide +kernel⟩
def g_worth_now : SF := sSeq (sDrop (xCall m_check_loan (aC (xC (.int 0)) (aC (xSh 0) (aC (xL max2D (aC (xC (.int 1)) (aC (xL lenD (aC (xNm 1) (aN))) (aN)))) (aN)))))) (sSeq (sSet 2 (xC c_ZERO)) (sSeq (sSet 3 (xC c_ONE)) (sSeq (sFor (iSq (xSh 1)) (gNm 4) (sSeq (sSet 2 (xCall m_plus (aC (xSh 2) (aC (xCall m_times (aC (xCall m_fraction (aC (xSh 4) (aC (xC (.int 1)) (aN)))) (aC (xSh 3) (aN)))) (aN))))) (sSet 3 (xCall m_over (aC (xSh 3) (aC (xCall m_plus (aC (xC c_ONE) (aC (xSh 0) (aN)))) (aN))))))) (sRet (xSh 2)))))
def m_worth_now : List D → M D := runDef 5 2 g_worth_now
theorem ok_worth_now (B : Bi mg) (k_ZERO : CstOk mg "ZERO" c_ZERO K) (k_ONE : CstOk mg "ONE" c_ONE K) (d_check_loan : DefOk P w K mg base "check_loan" 2 ["amount", "rate", "rounds"] m_check_loan) (d_plus : DefOk P w K mg base "plus" 2 ["a", "b"] m_plus) (d_over : DefOk P w K mg base "over" 2 ["a", "b"] m_over) (d_times : DefOk P w K mg base "times" 2 ["a", "b"] m_times) (d_fraction : DefOk P w K mg base "fraction" 1 ["numerator", "denominator"] m_fraction) {f : Addr} {fd : FuncData} (F : FnP K "worth_now" s_worth_now f fd) (hm : mg "worth_now" = some (.ref f)) (hb : Binds K fd ["rate", "flows"] []) : DefOk P w K mg base "worth_now" 3 ["rate", "flows"] m_worth_now :=
  have C := Fam.ent (P := P) (w := w) (K := K) (mg := mg) (base := base) (N := ["rate", "flows", "found", "factor", "flow"]) (k := 2) (qual := "worth_now") (scope := defScope s_worth_now) (f := f) sc_worth_now.nd
  def_ok F sc_worth_now (show CSs _ K (defBody s_worth_now) g_worth_now from ssCons (cExpr (cCall C d_check_loan (by decide) (caCons (cInt) (caCons (cSh C 0) (caCons (cCallB C (fun i => call_max2 (C.c i)) v_max2 B.max bt_max (cbCons (CE.brw (cInt)) (cbCons (CE.brw (cCallB C (fun i => c_len (C.k i)) v_len B.len bt_len (cbCons (cNm C 1) (cbNil)))) (cbNil)))) (caNil)))))) (ssCons (cSet C 2 (k_ZERO.ce C)) (ssCons (cSet C 3 (k_ONE.ce C)) (ssCons (cFor C (fun _ => PassesOwn.never) (iSeqE C (cSh C 1)) (gName' C 4) (ssCons (cSet C 2 (cCall C d_plus (by decide) (caCons (cSh C 2) (caCons (cCall C d_times (by decide) (caCons (cCall C d_fraction (by decide) (caCons (cSh C 4) (caCons (cInt) (caNil)))) (caCons (cSh C 3) (caNil)))) (caNil))))) (ssOne (cSet C 3 (cCall C d_over (by decide) (caCons (cSh C 3) (caCons (cCall C d_plus (by decide) (caCons (k_ONE.ce C) (caCons (cSh C 0) (caNil)))) (caNil)))))))) (ssOne (cRet (cSh C 2))))))) hm hb 5 2
abbrev s_rounds_needed : Stmt := topS 22
theorem sc_rounds_needed : FnScope ["amount", "rate", "payment", "left", "count", "grown"] ["amount", "rate", "payment"] (defScope s_rounds_needed) := ⟨rfl, rfl, rfl, by decide +kernel, rfl, by decide +kernel, by decide +kernel⟩
def g_rounds_needed : SF := sSeq (sDrop (xCall m_check_loan (aC (xSh 0) (aC (xSh 1) (aC (xC (.int 1)) (aN)))))) (sSeq (sSet 3 (xCall m_fraction (aC (xSh 0) (aC (xC (.int 1)) (aN))))) (sSeq (sSet 4 (xC (.int 0))) (sSeq (sWhile (tV (x2 neD (xNm 3) (xC c_ZERO))) (sSeq (sSet 5 (xCall m_times (aC (xSh 3) (aC (xCall m_plus (aC (xC c_ONE) (aC (xSh 1) (aN)))) (aN))))) (sSeq (sIf (tOr (tV (x2 geA (xNm 4) (xC c_MOST_ROUNDS))) (tV (x2 geA (xCall m_compare (aC (xCall m_minus (aC (xSh 5) (aC (xCall m_fraction (aC (xSh 2) (aC (xC (.int 1)) (aN)))) (aN)))) (aC (xSh 3) (aN)))) (xC (.int 0))))) (sRet (xC .non)) (sNext)) (sSeq (sAug 4 addI (xC (.int 1))) (sSeq (sIf (tV (x2 leA (xCall m_compare (aC (xSh 5) (aC (xCall m_fraction (aC (xSh 2) (aC (xC (.int 1)) (aN)))) (aN)))) (xC (.int 0)))) (sRet (xTup (aC (xSh 4) (aC (xSh 5) (aN))))) (sNext)) (sSet 3 (xCall m_minus (aC (xSh 5) (aC (xCall m_fraction (aC (xSh 2) (aC (xC (.int 1)) (aN)))) (aN)))))))))) (sRet (xTup (aC (xC (.int 0)) (aC (xC c_ZERO) (aN))))))))
def m_rounds_needed : List D → M D := runDef 6 3 g_rounds_needed
theorem ok_rounds_needed (B : Bi mg) (k_ZERO : CstOk mg "ZERO" c_ZERO K) (k_ONE : CstOk mg "ONE" c_ONE K) (k_MOST_ROUNDS : CstOk mg "MOST_ROUNDS" c_MOST_ROUNDS K) (d_check_loan : DefOk P w K mg base "check_loan" 2 ["amount", "rate", "rounds"] m_check_loan) (d_fraction : DefOk P w K mg base "fraction" 1 ["numerator", "denominator"] m_fraction) (d_times : DefOk P w K mg base "times" 2 ["a", "b"] m_times) (d_minus : DefOk P w K mg base "minus" 2 ["a", "b"] m_minus) (d_plus : DefOk P w K mg base "plus" 2 ["a", "b"] m_plus) (d_compare : DefOk P w K mg base "compare" 1 ["a", "b"] m_compare) {f : Addr} {fd : FuncData} (F : FnP K "rounds_needed" s_rounds_needed f fd) (hm : mg "rounds_needed" = some (.ref f)) (hb : Binds K fd ["amount", "rate", "payment"] []) : DefOk P w K mg base "rounds_needed" 3 ["amount", "rate", "payment"] m_rounds_needed :=
  have C := Fam.ent (P := P) (w := w) (K := K) (mg := mg) (base := base) (N := ["amount", "rate", "payment", "left", "count", "grown"]) (k := 2) (qual := "rounds_needed") (scope := defScope s_rounds_needed) (f := f) sc_rounds_needed.nd
  def_ok F sc_rounds_needed (show CSs _ K (defBody s_rounds_needed) g_rounds_needed from ssCons (cExpr (cCall C d_check_loan (by decide) (caCons (cSh C 0) (caCons (cSh C 1) (caCons (cInt) (caNil)))))) (ssCons (cSet C 3 (cCall C d_fraction (by decide) (caCons (cSh C 0) (caCons (cInt) (caNil))))) (ssCons (cSet C 4 (cInt)) (ssCons (cWhile (fun _ => PassesOwn.never) (tCmp (fun i => op_neA (C.k i) (roomU (C.r i))) v_ne (cNm C 3) (CE.brw (k_ZERO.ce C)) (nomark _)) (ssCons (cSet C 5 (cCall C d_times (by decide) (caCons (cSh C 3) (caCons (cCall C d_plus (by decide) (caCons (k_ONE.ce C) (caCons (cSh C 1) (caNil)))) (caNil))))) (ssCons (cIfS (CW.t (wOr (tCmp (fun i => op_geA (C.k i) (roomU (C.r i))) v_geA (cNm C 4) (CE.brw (k_MOST_ROUNDS.ce C)) (nomark _)) (wOr1 (tCmp (fun i => op_geA (C.k i) (roomU (C.r i))) v_geA (CE.brw (cCall C d_compare (by decide) (caCons (cCall C d_minus (by decide) (caCons (cSh C 5) (caCons (cCall C d_fraction (by decide) (caCons (cSh C 2) (caCons (cInt) (caNil)))) (caNil)))) (caCons (cSh C 3) (caNil))))) (CE.brw (cInt)) (nomark _))))) (ssOne (cRet (cNon))) (ssNil)) (ssCons (cAug C 4 (fun _ => iop_add) v_iadd (cInt)) (ssCons (cIfS (tCmp (fun i => op_leA (C.k i) (roomU (C.r i))) v_leA (CE.brw (cCall C d_compare (by decide) (caCons (cSh C 5) (caCons (cCall C d_fraction (by decide) (caCons (cSh C 2) (caCons (cInt) (caNil)))) (caNil))))) (CE.brw (cInt)) (nomark _)) (ssOne (cRet (cTup (caCons (cSh C 4) (caCons (cSh C 5) (caNil)))))) (ssNil)) (ssOne (cSet C 3 (cCall C d_minus (by decide) (caCons (cSh C 5) (caCons (cCall C d_fraction (by decide) (caCons (cSh C 2) (caCons (cInt) (caNil)))) (caNil))))))))))) (ssOne (cRet (cTup (caCons (cInt) (caCons (k_ZERO.ce C) (caNil)))))))))) hm hb 6 3
abbrev s_turning_rates : Stmt := topS 23
theorem sc_turning_rates : FnScope ["flows", "step", "most", "found", "before", "k", "now"] ["flows", "step", "most"] (defScope s_turning_rates) := ⟨rfl, rfl, rfl, by decide +kernel, rfl, by decide +kernel, by decide +kernel⟩
def g_turning_rates : SF := sSeq (sIf (tNot (tV (xCh leA leA (xC (.int 1)) (xL lenD (aC (xNm 0) (aN))) (xC c_MOST_ROUNDS)))) (sFail) (sNext)) (sSeq (sIf (tOr (tV (x2 leA (xCall m_compare (aC (xSh 1) (aC (xC c_ZERO) (aN)))) (xC (.int 0)))) (tNot (tV (xCh leA leA (xC (.int 0)) (xNm 2) (xC (.int 200)))))) (sFail) (sNext)) (sSeq (sOwn 3 (oLst (aN))) (sSeq (sSet 4 (xC .non)) (sSeq (sFor (iRg rng1D (aC (x2 addD (xNm 2) (xC (.int 1))) (aN))) (gNm 5) (sSeq (sSet 6 (xCall m_compare (aC (xCall m_worth_now (aC (xCall m_times (aC (xSh 1) (aC (xCall m_fraction (aC (xSh 5) (aC (xC (.int 1)) (aN)))) (aN)))) (aC (xSh 0) (aN)))) (aC (xC c_ZERO) (aN))))) (sSeq (sIf (tV (x2 eqD (xNm 6) (xC (.int 0)))) (sMeth 3 appU (xTup (aC (xSh 5) (aC (xSh 5) (aN))))) (sIf (tV (x2 eqD (xNm 4) (x2 subD (xC (.int 0)) (xNm 6)))) (sMeth 3 appU (xTup (aC (x2 subD (xNm 5) (xC (.int 1))) (aC (xSh 5) (aN))))) (sNext))) (sSet 4 (xIf (tV (x2 neD (xNm 6) (xC (.int 0)))) (xSh 6) (xSh 4)))))) (sRet (xL tupD (aC (xNm 3) (aN))))))))
def m_turning_rates : List D → M D := runDef 7 3 g_turning_rates
theorem ok_turning_rates (B : Bi mg) (k_MOST_ROUNDS : CstOk mg "MOST_ROUNDS" c_MOST_ROUNDS K) (k_ZERO : CstOk mg "ZERO" c_ZERO K) (d_compare : DefOk P w K mg base "compare" 1 ["a", "b"] m_compare) (d_worth_now : DefOk P w K mg base "worth_now" 3 ["rate", "flows"] m_worth_now) (d_times : DefOk P w K mg base "times" 2 ["a", "b"] m_times) (d_fraction : DefOk P w K mg base "fraction" 1 ["numerator", "denominator"] m_fraction) {f : Addr} {fd : FuncData} (F : FnP K "turning_rates" s_turning_rates f fd) (hm : mg "turning_rates" = some (.ref f)) (hb : Binds K fd ["flows", "step", "most"] []) : DefOk P w K mg base "turning_rates" 4 ["flows", "step", "most"] m_turning_rates :=
  have C := Fam.ent (P := P) (w := w) (K := K) (mg := mg) (base := base) (N := ["flows", "step", "most", "found", "before", "k", "now"]) (k := 3) (qual := "turning_rates") (scope := defScope s_turning_rates) (f := f) sc_turning_rates.nd
  def_ok F sc_turning_rates (show CSs _ K (defBody s_turning_rates) g_turning_rates from ssCons (cIfS (tNotR (tChainR (fun i => op_leA (C.k i) (roomU (C.r i))) (fun i => op_leA (C.k i) (roomU (C.r i))) v_leA v_leA (CE.brw (cInt)) (CE.brw (cCallB C (fun i => c_len (C.k i)) v_len B.len bt_len (cbCons (cNm C 0) (cbNil)))) (CE.brw (k_MOST_ROUNDS.ce C)))) (ssOne (cNever)) (ssNil)) (ssCons (cIfS (CW.t (wOr (tCmp (fun i => op_leA (C.k i) (roomU (C.r i))) v_leA (CE.brw (cCall C d_compare (by decide) (caCons (cSh C 1) (caCons (k_ZERO.ce C) (caNil))))) (CE.brw (cInt)) (nomark _)) (wOr1 (tNotR (tChainR (fun i => op_leA (C.k i) (roomU (C.r i))) (fun i => op_leA (C.k i) (roomU (C.r i))) v_leA v_leA (CE.brw (cInt)) (cNm C 2) (CE.brw (cInt))))))) (ssOne (cNever)) (ssNil)) (ssCons (cOwn C 3 (oList (caNil))) (ssCons (cSet C 4 (cNon)) (ssCons (cFor C (fun _ => PassesOwn.never) (iRng1E C B.range (caCons (cBin (fun i => op_addAll (C.k i)) v_add (cNm C 2) (CE.brw (cInt))) (caNil))) (gName' C 5) (ssCons (cSet C 6 (cCall C d_compare (by decide) (caCons (cCall C d_worth_now (by decide) (caCons (cCall C d_times (by decide) (caCons (cSh C 1) (caCons (cCall C d_fraction (by decide) (caCons (cSh C 5) (caCons (cInt) (caNil)))) (caNil)))) (caCons (cSh C 0) (caNil)))) (caCons (k_ZERO.ce C) (caNil))))) (ssCons (cIfS (tCmp (fun i => op_eqA (C.k i) (roomU (C.r i))) v_eq (cNm C 6) (CE.brw (cInt)) (nomark _)) (ssOne (cApp C 3 (cTup (caCons (cSh C 5) (caCons (cSh C 5) (caNil)))))) (ssOne (cIfS (tCmp (fun i => op_eqA (C.k i) (roomU (C.r i))) v_eq (cNm C 4) (CE.brw (cBin (fun _ => op_sub) v_sub (CE.brw (cInt)) (cNm C 6))) (nomark _)) (ssOne (cApp C 3 (cTup (caCons (cBin (fun _ => op_sub) v_sub (cNm C 5) (CE.brw (cInt))) (caCons (cSh C 5) (caNil)))))) (ssNil)))) (ssOne (cSet C 4 (cIf (tCmp (fun i => op_neA (C.k i) (roomU (C.r i))) v_ne (cNm C 6) (CE.brw (cInt)) (nomark _)) (cSh C 6) (cSh C 4))))))) (ssOne (cRet (cCallT C (fun i => c_tup (C.k i)) v_tup B.tuple bt_tuple (cbCons (cNm C 3) (cbNil)))))))))) hm hb 7 3
abbrev s_cheapest : Stmt := topS 24
theorem sc_cheapest : FnScope ["rate", "offers", "best", "number", "flows", "worth"] ["rate", "offers"] (defScope s_cheapest) := ⟨rfl, rfl, rfl, by decide +kernel, rfl, by decide +kernel, by decide +kernel⟩
def g_cheapest : SF := sSeq (sIf (tNot (tTr (xNm 1))) (sFail) (sNext)) (sSeq (sSet 2 (xC .non)) (sSeq (sFor (iRg enD (aC (xSh 1) (aN))) (gTp [gNm 3, gNm 4]) (sSeq (sSet 5 (xCall m_worth_now (aC (xSh 0) (aC (xSh 4) (aN))))) (sIf (tOr (tV (x2 isD (xNm 2) (xC .non))) (tV (x2 ltA (xCall m_compare (aC (xSh 5) (aC (x2 ixD (xNm 2) (xC (.int 1))) (aN)))) (xC (.int 0))))) (sSet 2 (xTup (aC (xSh 3) (aC (xSh 5) (aN))))) (sNext)))) (sRet (xSh 2))))
def m_cheapest : List D → M D := runDef 6 2 g_cheapest
theorem ok_cheapest (B : Bi mg) (d_worth_now : DefOk P w K mg base "worth_now" 3 ["rate", "flows"] m_worth_now) (d_compare : DefOk P w K mg base "compare" 1 ["a", "b"] m_compare) {f : Addr} {fd : FuncData} (F : FnP K "cheapest" s_cheapest f fd) (hm : mg "cheapest" = some (.ref f)) (hb : Binds K fd ["rate", "offers"] []) : DefOk P w K mg base "cheapest" 4 ["rate", "offers"] m_cheapest :=
  have C := Fam.ent (P := P) (w := w) (K := K) (mg := mg) (base := base) (N := ["rate", "offers", "best", "number", "flows", "worth"]) (k := 3) (qual := "cheapest") (scope := defScope s_cheapest) (f := f) sc_cheapest.nd
  def_ok F sc_cheapest (show CSs _ K (defBody s_cheapest) g_cheapest from ssCons (cIfS (tNotR (tTruth C (cNm C 1))) (ssOne (cNever)) (ssNil)) (ssCons (cSet C 2 (cNon)) (ssCons (cFor C (fun _ => PassesOwn.never) (iEnE C B.enumerate (caCons (cSh C 1) (caNil))) (gTup' C (gsCons (gName' C 3) (gsCons (gName' C 4) (gsNil)))) (ssCons (cSet C 5 (cCall C d_worth_now (by decide) (caCons (cSh C 0) (caCons (cSh C 4) (caNil))))) (ssOne (cIfS (CW.t (wOr (tCmp (fun _ => op_isN) v_is (cNm C 2) (CE.brw (cNon)) (nomark _)) (wOr1 (tCmp (fun i => op_ltA (C.k i) (roomU (C.r i))) v_ltA (CE.brw (cCall C d_compare (by decide) (caCons (cSh C 5) (caCons (cIx (fun i => ix_both (C.k i)) v_ix (cNm C 2) (CE.brw (cInt)) (fun _ _ => rfl)) (caNil))))) (CE.brw (cInt)) (nomark _))))) (ssOne (cSet C 2 (cTup (caCons (cSh C 3) (caCons (cSh C 5) (caNil)))))) (ssNil))))) (ssOne (cRet (cSh C 2)))))) hm hb 6 2
abbrev s_whole_interest : Stmt := topS 25
theorem sc_whole_interest : FnScope ["amount", "rate", "paid", "left", "one"] ["amount", "rate", "paid"] (defScope s_whole_interest) := ⟨rfl, rfl, rfl, by decide +kernel, rfl, by decide +kernel, by decide +kernel⟩
def g_whole_interest : SF := sSeq (sSet 3 (x2 addD (xTup (aC (xCall m_fraction (aC (xSh 0) (aC (xC (.int 1)) (aN)))) (aN))) (xCall m_balances (aC (xSh 0) (aC (xSh 1) (aC (xSh 2) (aN))))))) (sRet (xCall m_total (aC (xOf (oComp (iSq (xSl slD (xNm 3) none (some (x1 negD (xC (.int 1)))))) (gNm 4) (tYes') (xCall m_times (aC (xSh 4) (aC (xSh 1) (aN)))) [4])) (aN))))
def m_whole_interest : List D → M D := runDef 5 3 g_whole_interest
theorem ok_whole_interest (B : Bi mg) (d_total : DefOk P w K mg base "total" 3 ["items"] m_total) (d_balances : DefOk P w K mg base "balances" 3 ["amount", "rate", "paid"] m_balances) (d_fraction : DefOk P w K mg base "fraction" 1 ["numerator", "denominator"] m_fraction) (d_times : DefOk P w K mg base "times" 2 ["a", "b"] m_times) {f : Addr} {fd : FuncData} (F : FnP K "whole_interest" s_whole_interest f fd) (hm : mg "whole_interest" = some (.ref f)) (hb : Binds K fd ["amount", "rate", "paid"] []) : DefOk P w K mg base "whole_interest" 4 ["amount", "rate", "paid"] m_whole_interest :=
  have C := Fam.ent (P := P) (w := w) (K := K) (mg := mg) (base := base) (N := ["amount", "rate", "paid", "left", "one"]) (k := 3) (qual := "whole_interest") (scope := defScope s_whole_interest) (f := f) sc_whole_interest.nd
  def_ok F sc_whole_interest (show CSs _ K (defBody s_whole_interest) g_whole_interest from ssCons (cSet C 3 (cBin (fun i => op_addAll (C.k i)) v_add (CE.brw (cTup (caCons (cCall C d_fraction (by decide) (caCons (cSh C 0) (caCons (cInt) (caNil)))) (caNil)))) (CE.brw (cCall C d_balances (by decide) (caCons (cSh C 0) (caCons (cSh C 1) (caCons (cSh C 2) (caNil)))))))) (ssOne (cRet (cCall C d_total (by decide) (caCons (CO.frz (oLc C [("one", 4)] (iSeqB C (CE.brw (cSlice (fun i => sl_all (C.k i)) v_sl (cNm C 3) cpNone (cpSome (cUn (fun _ => un_neg) v_neg (CE.brw (cInt))))))) (fun _ => blkOk_by (by rw [ent_sc]; decide +kernel)) (gName' (C.blk _) 4) (ctNone) (cCall (C.blk _) d_times (by decide) (caCons (cSh (C.blk _) 4) (caCons (cSh (C.blk _) 1) (caNil)))))) (caNil)))))) hm hb 5 3
abbrev s__law_begin : Stmt := topS 27
theorem sc__law_begin : FnScope ["script", "seed", "cell"] ["script"] (defScope s__law_begin) := ⟨rfl, rfl, rfl, by decide +kernel, rfl, by decide +kernel, by decide +kernel⟩
theorem rd_begin {k : Nat} {f : Addr} (B : Bi mg) (i : EntI k "_law_begin" (defScope s__law_begin) f) : PSs (entF P w K mg base ["script", "seed", "cell"] k "_law_begin" (defScope s__law_begin) f i) (defBody s__law_begin) (tBegin K (tBeginL K)) :=
  pss_cons (ps_set (i := 1) sc__law_begin.nd rfl (.inl rfl) pe_int)
    (pss_cons (ps_for PassesOwn.never rfl (pi_list (pv 0)) (pg_name (i := 2) sc__law_begin.nd rfl (.inl rfl)) (pss_one (ps_set (i := 1) sc__law_begin.nd rfl (.inl rfl) (pe_op op_mod (pe_op (op_addAll rfl) (pe_op (op_addAll rfl) (pe_op op_mulW (pv 1) pe_int) (pe_op op_mod (pe_callTy call_int1 (by rfl) B.int bt_int (pa_cons (pv 2) pa_nil)) pe_int)) pe_int) pe_int))))
      (pss_one (ps_ret (pe_lst (pa_cons (pe_callTy call_list_of (by rfl) B.list bt_list (pa_cons (pv 0) pa_nil)) (pa_cons pe_int (pa_cons pe_int (pa_cons (pv 1) pa_nil))))))))
theorem ok_begin (B : Bi mg) {f : Addr} {fd : FuncData} (F : FnP K "_law_begin" s__law_begin f fd) : FnOk P w K mg base CX0 1 f fd ["script"] (spBegin K) := begin_ok F sc__law_begin fun i => rd_begin B i
abbrev s__law_take : Stmt := topS 28
theorem sc__law_take : FnScope ["d", "many", "digit", "small"] ["d", "many"] (defScope s__law_take) := ⟨rfl, rfl, rfl, by decide +kernel, rfl, by decide +kernel, by decide +kernel⟩
def g__law_take : SF := sSeq (sIf (tAnd (tV (x2 eqD (xRd 0 2) (xC (.int 0)))) (tV (x2 ltA (xRd 0 1) (xL lenD (aC (xRd 0 0) (aN)))))) (sSeq (sWr 0 2 (xL absD (aC (xL intD (aC (x2 ixD (xRd 0 0) (xRd 0 1)) (aN))) (aN)))) (sSeq (sWr 0 1 (x2 addD (xRd 0 1) (xC (.int 1)))) (sIf (tV (x2 ltA (xRd 0 2) (x2 powD (xC (.int 10)) (xC (.int 18))))) (sSeq (sSet 3 (xL intD (aC (xRd 0 2) (aN)))) (sSeq (sWr 0 2 (xC (.int 0))) (sRet (x2 modD (xNm 3) (xNm 1))))) (sNext)))) (sNext)) (sSeq (sIf (tV (x2 gtA (xRd 0 2) (xC (.int 0)))) (sSeq (sSet 2 (x2 modD (xL intD (aC (xRd 0 2) (aN))) (xNm 1))) (sSeq (sWr 0 2 (x2 divD (xL intD (aC (xRd 0 2) (aN))) (xNm 1))) (sRet (xSh 2)))) (sNext)) (sSeq (sWr 0 3 (x2 modD (xL intD (aC (x2 addD (x2 mulD (xRd 0 3) (xC (.int 48271))) (xC (.int 11))) (aN))) (xC (.int 2147483647)))) (sRet (x2 modD (xL intD (aC (x2 divD (xRd 0 3) (xC (.int 3))) (aN))) (xNm 1)))))
def m__law_take : List D → M D := runDef 4 2 g__law_take
theorem ok__law_take (B : Bi mg)  {f : Addr} {fd : FuncData} (F : FnP K "_law_take" s__law_take f fd) (hm : mg "_law_take" = some (.ref f)) (hb : Binds K fd ["d", "many"] []) : DefOk P w K mg base "_law_take" 1 ["d", "many"] m__law_take :=
  have C := Fam.ent (P := P) (w := w) (K := K) (mg := mg) (base := base) (N := ["d", "many", "digit", "small"]) (k := 0) (qual := "_law_take") (scope := defScope s__law_take) (f := f) sc__law_take.nd
  def_ok F sc__law_take (show CSs _ K (defBody s__law_take) g__law_take from ssCons (cIfS (CW.t (wAnd (tCmp (fun i => op_eqA (C.k i) (roomU (C.r i))) v_eq (CE.brw (cRd C 0 2 (by decide))) (CE.brw (cInt)) (nomark _)) (wAnd1 (tCmp (fun i => op_ltA (C.k i) (roomU (C.r i))) v_ltA (CE.brw (cRd C 0 1 (by decide))) (CE.brw (cCallB C (fun i => c_len (C.k i)) v_len B.len bt_len (cbCons (CE.brw (cRd C 0 0 (by decide))) (cbNil)))) (nomark _))))) (ssCons (cWr C 0 2 (cCallB C (fun i => call_abs) v_abs B.abs bt_abs (cbCons (CE.brw (cCallT C (fun i => call_int1) v_int B.int bt_int (cbCons (CE.brw (cIx (fun i => ix_both (C.k i)) v_ix (CE.brw (cRd C 0 0 (by decide))) (CE.brw (cRd C 0 1 (by decide))) (fun _ _ => rfl))) (cbNil)))) (cbNil))) (by decide)) (ssCons (cWr C 0 1 (cBin (fun i => op_addAll (C.k i)) v_add (CE.brw (cRd C 0 1 (by decide))) (CE.brw (cInt))) (by decide)) (ssOne (cIfS (tCmp (fun i => op_ltA (C.k i) (roomU (C.r i))) v_ltA (CE.brw (cRd C 0 2 (by decide))) (CE.brw (cBin (fun _ => op_pow) v_pow (CE.brw (cInt)) (CE.brw (cInt)))) (nomark _)) (ssCons (cSet C 3 (cCallT C (fun i => call_int1) v_int B.int bt_int (cbCons (CE.brw (cRd C 0 2 (by decide))) (cbNil)))) (ssCons (cWr C 0 2 (cInt) (by decide)) (ssOne (cRet (cBin (fun _ => op_mod) v_mod (cNm C 3) (cNm C 1)))))) (ssNil))))) (ssNil)) (ssCons (cIfS (tCmp (fun i => op_gtA (C.k i) (roomU (C.r i))) v_gtA (CE.brw (cRd C 0 2 (by decide))) (CE.brw (cInt)) (nomark _)) (ssCons (cSet C 2 (cBin (fun _ => op_mod) v_mod (CE.brw (cCallT C (fun i => call_int1) v_int B.int bt_int (cbCons (CE.brw (cRd C 0 2 (by decide))) (cbNil)))) (cNm C 1))) (ssCons (cWr C 0 2 (cBin (fun _ => op_fdivW) v_div (CE.brw (cCallT C (fun i => call_int1) v_int B.int bt_int (cbCons (CE.brw (cRd C 0 2 (by decide))) (cbNil)))) (cNm C 1)) (by decide)) (ssOne (cRet (cSh C 2))))) (ssNil)) (ssCons (cWr C 0 3 (cBin (fun _ => op_mod) v_mod (CE.brw (cCallT C (fun i => call_int1) v_int B.int bt_int (cbCons (CE.brw (cBin (fun i => op_addAll (C.k i)) v_add (CE.brw (cBin (fun _ => op_mulW) v_mul (CE.brw (cRd C 0 3 (by decide))) (CE.brw (cInt)))) (CE.brw (cInt)))) (cbNil)))) (CE.brw (cInt))) (by decide)) (ssOne (cRet (cBin (fun _ => op_mod) v_mod (CE.brw (cCallT C (fun i => call_int1) v_int B.int bt_int (cbCons (CE.brw (cBin (fun _ => op_fdivW) v_div (CE.brw (cRd C 0 3 (by decide))) (CE.brw (cInt)))) (cbNil)))) (cNm C 1))))))) hm hb 4 2
abbrev s__law_part1 : Stmt := topS 29
theorem sc__law_part1 : FnScope ["d", "one", "two", "rate", "factor", "paid", "first", "second", "both", "flows", "others", "gains", "signs", "changes", "turned", "each", "told", "least", "worth", "flow", "count", "last", "rest", "more", "k"] ["d", "one", "two", "rate", "factor", "paid", "first", "second"] (defScope s__law_part1) := ⟨rfl, rfl, rfl, by decide +kernel, rfl, by decide +kernel, by decide +kernel⟩
def g__law_part1 : SF := sSeq (sSet 8 (xCall m_balances (aC (x2 addD (xNm 1) (xNm 2)) (aC (xSh 3) (aC (xSh 5) (aN)))))) (sSeq (sIf (tV (x2 neD (xNm 8) (xL tupD (aC (xOf (oComp (iRg rng1D (aC (xL lenD (aC (xNm 5) (aN))) (aN))) (gNm 24) (tYes') (xCall m_plus (aC (x2 ixD (xNm 6) (xNm 24)) (aC (x2 ixD (xNm 7) (xNm 24)) (aN)))) [24])) (aN))))) (sRet (xC (.bl false))) (sNext)) (sSeq (sSet 9 (xL tupD (aC (xOf (oComp (iRg rng1D (aC (x2 addD (xC (.int 1)) (xCall m__law_take (aC (xSh 0) (aC (xC (.int 5)) (aN))))) (aN))) (gNm 24) (tYes') (x2 subD (xCall m__law_take (aC (xSh 0) (aC (xC (.int 20)) (aN)))) (xC (.int 8))) [24])) (aN)))) (sSeq (sSet 10 (xL tupD (aC (xOf (oComp (iRg rng1D (aC (xL lenD (aC (xNm 9) (aN))) (aN))) (gNm 24) (tYes') (x2 subD (xCall m__law_take (aC (xSh 0) (aC (xC (.int 20)) (aN)))) (xC (.int 8))) [24])) (aN)))) (sSeq (sIf (tV (x2 neD (xCall m_worth_now (aC (xSh 3) (aC (xL tupD (aC (xOf (oComp (iRg rng1D (aC (xL lenD (aC (xNm 9) (aN))) (aN))) (gNm 24) (tYes') (x2 addD (x2 ixD (xNm 9) (xNm 24)) (x2 ixD (xNm 10) (xNm 24))) [24])) (aN))) (aN)))) (xCall m_plus (aC (xCall m_worth_now (aC (xSh 3) (aC (xSh 9) (aN)))) (aC (xCall m_worth_now (aC (xSh 3) (aC (xSh 10) (aN)))) (aN)))))) (sRet (xC (.bl false))) (sNext)) (sSeq (sIf (tOr (tV (x2 neD (xCall m_worth_now (aC (xSh 3) (aC (x2 addD (xTup (aC (xC (.int 0)) (aN))) (xNm 9)) (aN)))) (xCall m_times (aC (xSh 4) (aC (xCall m_worth_now (aC (xSh 3) (aC (xSh 9) (aN)))) (aN)))))) (tV (x2 neD (xCall m_worth_now (aC (xTup (aC (xC (.int 0)) (aC (xC (.int 1)) (aN)))) (aC (xSh 9) (aN)))) (xCall m_fraction (aC (xL sumD (aC (xNm 9) (aN))) (aC (xC (.int 1)) (aN))))))) (sRet (xC (.bl false))) (sNext)) (sSeq (sSet 11 (xL tupD (aC (xOf (oComp (iSq (xNm 9)) (gNm 19) (tYes') (xL absD (aC (xNm 19) (aN))) [19])) (aN)))) (sSeq (sIf (tV (x2 gtA (xCall m_compare (aC (xCall m_worth_now (aC (xCall m_plus (aC (xSh 3) (aC (xTup (aC (xC (.int 1)) (aC (xC (.int 7)) (aN)))) (aN)))) (aC (xSh 11) (aN)))) (aC (xCall m_worth_now (aC (xSh 3) (aC (xSh 11) (aN)))) (aN)))) (xC (.int 0)))) (sRet (xC (.bl false))) (sNext)) (sSeq (sSet 12 (xOf (oComp (iSq (xNm 9)) (gNm 19) (tV (x2 neD (xNm 19) (xC (.int 0)))) (xSh 19) [19]))) (sSeq (sSet 13 (xL lenD (aC (xOf (oComp (iRg rng2D (aC (xC (.int 1)) (aC (xL lenD (aC (xNm 12) (aN))) (aN)))) (gNm 24) (tV (x2 neD (x2 gtA (x2 ixD (xNm 12) (xNm 24)) (xC (.int 0))) (x2 gtA (x2 ixD (xNm 12) (x2 subD (xNm 24) (xC (.int 1)))) (xC (.int 0))))) (xSh 24) [24])) (aN)))) (sSeq (sSet 14 (xCall m_turning_rates (aC (xSh 9) (aC (xTup (aC (xC (.int 1)) (aC (xC (.int 5)) (aN)))) (aC (xC (.int 15)) (aN)))))) (sSeq (sIf (tAnd (tV (x2 gtA (xL lenD (aC (xNm 12) (aN))) (xC (.int 0)))) (tV (x2 gtA (xL lenD (aC (xNm 14) (aN))) (x2 mulD (xC (.int 2)) (xNm 13))))) (sRet (xC (.bl false))) (sNext)) (sSeq (sTo (gTp [gNm 17, gNm 18]) (xCall m_cheapest (aC (xSh 3) (aC (xTup (aC (xSh 9) (aC (xSh 10) (aN)))) (aN))))) (sSeq (sIf (tOr (tV (x2 neD (xNm 18) (xCall m_worth_now (aC (xSh 3) (aC (x2 ixD (xTup (aC (xSh 9) (aC (xSh 10) (aN)))) (xNm 17)) (aN)))))) (tV (x2 gtA (xCall m_compare (aC (xSh 18) (aC (xCall m_worth_now (aC (xSh 3) (aC (x2 ixD (xTup (aC (xSh 9) (aC (xSh 10) (aN)))) (x2 subD (xC (.int 1)) (xNm 17))) (aN)))) (aN)))) (xC (.int 0))))) (sRet (xC (.bl false))) (sNext)) (sSeq (sSet 15 (x2 addD (xC (.int 1)) (xCall m__law_take (aC (xSh 0) (aC (xC (.int 60)) (aN)))))) (sSeq (sSet 16 (xCall m_rounds_needed (aC (xSh 1) (aC (xSh 3) (aC (xSh 15) (aN)))))) (sSeq (sIf (tV (x2 isNotD (xNm 16) (xC .non))) (sSeq (sTo (gTp [gNm 20, gNm 21]) (xSh 16)) (sIf (tV (x2 gtA (xNm 20) (xC (.int 0)))) (sSeq (sSet 22 (xIf (tV (x2 gtA (xNm 20) (xC (.int 1)))) (x2 ixD (xCall m_balances (aC (xSh 1) (aC (xSh 3) (aC (x2 addD (x2 repT (xTup (aC (xCall m_fraction (aC (xSh 15) (aC (xC (.int 1)) (aN)))) (aN))) (x2 subD (xNm 20) (xC (.int 1)))) (xTup (aC (xSh 21) (aN)))) (aN))))) (x1 negD (xC (.int 1)))) (xCall m_minus (aC (xCall m_times (aC (xCall m_fraction (aC (xSh 1) (aC (xC (.int 1)) (aN)))) (aC (xCall m_plus (aC (xTup (aC (xC (.int 1)) (aC (xC (.int 1)) (aN)))) (aC (xSh 3) (aN)))) (aN)))) (aC (xSh 21) (aN)))))) (sSeq (sIf (tOr (tV (x2 neD (xNm 22) (xTup (aC (xC (.int 0)) (aC (xC (.int 1)) (aN)))))) (tV (x2 gtA (xCall m_compare (aC (xSh 21) (aC (xCall m_fraction (aC (xSh 15) (aC (xC (.int 1)) (aN)))) (aN)))) (xC (.int 0))))) (sRet (xC (.bl false))) (sNext)) (sSeq (sSet 23 (xCall m_rounds_needed (aC (xSh 1) (aC (xSh 3) (aC (x2 addD (xNm 15) (xC (.int 1))) (aN)))))) (sIf (tOr (tV (x2 isD (xNm 23) (xC .non))) (tV (x2 gtA (x2 ixD (xNm 23) (xC (.int 0))) (xNm 20)))) (sRet (xC (.bl false))) (sNext))))) (sNext))) (sNext)) (sRet (xC (.bl true)))))))))))))))))))
def m__law_part1 : List D → M D := runDef 25 8 g__law_part1
theorem ok__law_part1 (B : Bi mg) (d_balances : DefOk P w K mg base "balances" 3 ["amount", "rate", "paid"] m_balances) (d_turning_rates : DefOk P w K mg base "turning_rates" 4 ["flows", "step", "most"] m_turning_rates) (d_cheapest : DefOk P w K mg base "cheapest" 4 ["rate", "offers"] m_cheapest) (d_rounds_needed : DefOk P w K mg base "rounds_needed" 3 ["amount", "rate", "payment"] m_rounds_needed) (d_worth_now : DefOk P w K mg base "worth_now" 3 ["rate", "flows"] m_worth_now) (d_plus : DefOk P w K mg base "plus" 2 ["a", "b"] m_plus) (d_compare : DefOk P w K mg base "compare" 1 ["a", "b"] m_compare) (d__law_take : DefOk P w K mg base "_law_take" 1 ["d", "many"] m__law_take) (d_times : DefOk P w K mg base "times" 2 ["a", "b"] m_times) (d_fraction : DefOk P w K mg base "fraction" 1 ["numerator", "denominator"] m_fraction) (d_minus : DefOk P w K mg base "minus" 2 ["a", "b"] m_minus) {f : Addr} {fd : FuncData} (F : FnP K "_law_part1" s__law_part1 f fd) (hm : mg "_law_part1" = some (.ref f)) (hb : Binds K fd ["d", "one", "two", "rate", "factor", "paid", "first", "second"] []) : DefOk P w K mg base "_law_part1" 5 ["d", "one", "two", "rate", "factor", "paid", "first", "second"] m__law_part1 :=
  have C := Fam.ent (P := P) (w := w) (K := K) (mg := mg) (base := base) (N := ["d", "one", "two", "rate", "factor", "paid", "first", "second", "both", "flows", "others", "gains", "signs", "changes", "turned", "each", "told", "least", "worth", "flow", "count", "last", "rest", "more", "k"]) (k := 4) (qual := "_law_part1") (scope := defScope s__law_part1) (f := f) sc__law_part1.nd
  def_ok F sc__law_part1 (show CSs _ K (defBody s__law_part1) g__law_part1 from ssCons (cSet C 8 (cCall C d_balances (by decide) (caCons (cBin (fun i => op_addAll (C.k i)) v_add (cNm C 1) (cNm C 2)) (caCons (cSh C 3) (caCons (cSh C 5) (caNil)))))) (ssCons (cIfS (tCmp (fun i => op_neA (C.k i) (roomU (C.r i))) v_ne (cNm C 8) (CE.brw (cCallT C (fun i => c_tup (C.k i)) v_tup B.tuple bt_tuple (cbCons (CE.brw (CO.frz (oLc C [("k", 24)] (CI.w (iRng1E C B.range (caCons (cCallB C (fun i => c_len (C.k i)) v_len B.len bt_len (cbCons (cNm C 5) (cbNil))) (caNil)))) (fun _ => blkOk_by (by rw [ent_sc]; decide +kernel)) (gName' (C.blk _) 24) (ctNone) (cCall (C.blk _) d_plus (by decide) (caCons (cIx (fun i => ix_both ((C.blk _).k i)) v_ix (cNm (C.blk _) 6) (cNm (C.blk _) 24) (fun _ _ => rfl)) (caCons (cIx (fun i => ix_both ((C.blk _).k i)) v_ix (cNm (C.blk _) 7) (cNm (C.blk _) 24) (fun _ _ => rfl)) (caNil))))))) (cbNil)))) (nomark _)) (ssOne (cRet (cBl))) (ssNil)) (ssCons (cSet C 9 (cCallT C (fun i => c_tup (C.k i)) v_tup B.tuple bt_tuple (cbCons (CE.brw (CO.frz (oLc C [("k", 24)] (CI.w (iRng1E C B.range (caCons (cBin (fun i => op_addAll (C.k i)) v_add (CE.brw (cInt)) (CE.brw (cCall C d__law_take (by decide) (caCons (cSh C 0) (caCons (cInt) (caNil)))))) (caNil)))) (fun _ => blkOk_by (by rw [ent_sc]; decide +kernel)) (gName' (C.blk _) 24) (ctNone) (cBin (fun _ => op_sub) v_sub (CE.brw (cCall (C.blk _) d__law_take (by decide) (caCons (cSh (C.blk _) 0) (caCons (cInt) (caNil))))) (CE.brw (cInt)))))) (cbNil)))) (ssCons (cSet C 10 (cCallT C (fun i => c_tup (C.k i)) v_tup B.tuple bt_tuple (cbCons (CE.brw (CO.frz (oLc C [("k", 24)] (CI.w (iRng1E C B.range (caCons (cCallB C (fun i => c_len (C.k i)) v_len B.len bt_len (cbCons (cNm C 9) (cbNil))) (caNil)))) (fun _ => blkOk_by (by rw [ent_sc]; decide +kernel)) (gName' (C.blk _) 24) (ctNone) (cBin (fun _ => op_sub) v_sub (CE.brw (cCall (C.blk _) d__law_take (by decide) (caCons (cSh (C.blk _) 0) (caCons (cInt) (caNil))))) (CE.brw (cInt)))))) (cbNil)))) (ssCons (cIfS (tCmp (fun i => op_neA (C.k i) (roomU (C.r i))) v_ne (CE.brw (cCall C d_worth_now (by decide) (caCons (cSh C 3) (caCons (cCallT C (fun i => c_tup (C.k i)) v_tup B.tuple bt_tuple (cbCons (CE.brw (CO.frz (oLc C [("k", 24)] (CI.w (iRng1E C B.range (caCons (cCallB C (fun i => c_len (C.k i)) v_len B.len bt_len (cbCons (cNm C 9) (cbNil))) (caNil)))) (fun _ => blkOk_by (by rw [ent_sc]; decide +kernel)) (gName' (C.blk _) 24) (ctNone) (cBin (fun i => op_addAll ((C.blk _).k i)) v_add (CE.brw (cIx (fun i => ix_both ((C.blk _).k i)) v_ix (cNm (C.blk _) 9) (cNm (C.blk _) 24) (fun _ _ => rfl))) (CE.brw (cIx (fun i => ix_both ((C.blk _).k i)) v_ix (cNm (C.blk _) 10) (cNm (C.blk _) 24) (fun _ _ => rfl))))))) (cbNil))) (caNil))))) (CE.brw (cCall C d_plus (by decide) (caCons (cCall C d_worth_now (by decide) (caCons (cSh C 3) (caCons (cSh C 9) (caNil)))) (caCons (cCall C d_worth_now (by decide) (caCons (cSh C 3) (caCons (cSh C 10) (caNil)))) (caNil))))) (nomark _)) (ssOne (cRet (cBl))) (ssNil)) (ssCons (cIfS (CW.t (wOr (tCmp (fun i => op_neA (C.k i) (roomU (C.r i))) v_ne (CE.brw (cCall C d_worth_now (by decide) (caCons (cSh C 3) (caCons (cBin (fun i => op_addAll (C.k i)) v_add (CE.brw (cTup (caCons (cInt) (caNil)))) (cNm C 9)) (caNil))))) (CE.brw (cCall C d_times (by decide) (caCons (cSh C 4) (caCons (cCall C d_worth_now (by decide) (caCons (cSh C 3) (caCons (cSh C 9) (caNil)))) (caNil))))) (nomark _)) (wOr1 (tCmp (fun i => op_neA (C.k i) (roomU (C.r i))) v_ne (CE.brw (cCall C d_worth_now (by decide) (caCons (cTup (caCons (cInt) (caCons (cInt) (caNil)))) (caCons (cSh C 9) (caNil))))) (CE.brw (cCall C d_fraction (by decide) (caCons (cCallB C (fun i => c_sum (C.k i) (C.c i)) v_sum B.sum bt_sum (cbCons (cNm C 9) (cbNil))) (caCons (cInt) (caNil))))) (nomark _))))) (ssOne (cRet (cBl))) (ssNil)) (ssCons (cSet C 11 (cCallT C (fun i => c_tup (C.k i)) v_tup B.tuple bt_tuple (cbCons (CE.brw (CO.frz (oLc C [("flow", 19)] (iSeqB C (cNm C 9)) (fun _ => blkOk_by (by rw [ent_sc]; decide +kernel)) (gName' (C.blk _) 19) (ctNone) (cCallB (C.blk _) (fun i => call_abs) v_abs B.abs bt_abs (cbCons (cNm (C.blk _) 19) (cbNil)))))) (cbNil)))) (ssCons (cIfS (tCmp (fun i => op_gtA (C.k i) (roomU (C.r i))) v_gtA (CE.brw (cCall C d_compare (by decide) (caCons (cCall C d_worth_now (by decide) (caCons (cCall C d_plus (by decide) (caCons (cSh C 3) (caCons (cTup (caCons (cInt) (caCons (cInt) (caNil)))) (caNil)))) (caCons (cSh C 11) (caNil)))) (caCons (cCall C d_worth_now (by decide) (caCons (cSh C 3) (caCons (cSh C 11) (caNil)))) (caNil))))) (CE.brw (cInt)) (nomark _)) (ssOne (cRet (cBl))) (ssNil)) (ssCons (cSet C 12 (CO.frz (oLc C [("flow", 19)] (iSeqB C (cNm C 9)) (fun _ => blkOk_by (by rw [ent_sc]; decide +kernel)) (gName' (C.blk _) 19) (ctOne (tCmp (fun i => op_neA ((C.blk _).k i) (roomU ((C.blk _).r i))) v_ne (cNm (C.blk _) 19) (CE.brw (cInt)) (nomark _))) (cSh (C.blk _) 19)))) (ssCons (cSet C 13 (cCallB C (fun i => c_len (C.k i)) v_len B.len bt_len (cbCons (CE.brw (CO.frz (oLc C [("k", 24)] (CI.w (iRng2E C B.range (caCons (cInt) (caCons (cCallB C (fun i => c_len (C.k i)) v_len B.len bt_len (cbCons (cNm C 12) (cbNil))) (caNil))))) (fun _ => blkOk_by (by rw [ent_sc]; decide +kernel)) (gName' (C.blk _) 24) (ctOne (tCmp (fun i => op_neA ((C.blk _).k i) (roomU ((C.blk _).r i))) v_ne (CE.brw (cCmp (fun i => op_gtA ((C.blk _).k i) (roomU ((C.blk _).r i))) v_gtA (CE.brw (cIx (fun i => ix_both ((C.blk _).k i)) v_ix (cNm (C.blk _) 12) (cNm (C.blk _) 24) (fun _ _ => rfl))) (CE.brw (cInt)) (nomark _))) (CE.brw (cCmp (fun i => op_gtA ((C.blk _).k i) (roomU ((C.blk _).r i))) v_gtA (CE.brw (cIx (fun i => ix_both ((C.blk _).k i)) v_ix (cNm (C.blk _) 12) (CE.brw (cBin (fun _ => op_sub) v_sub (cNm (C.blk _) 24) (CE.brw (cInt)))) (fun _ _ => rfl))) (CE.brw (cInt)) (nomark _))) (nomark _))) (cSh (C.blk _) 24)))) (cbNil)))) (ssCons (cSet C 14 (cCall C d_turning_rates (by decide) (caCons (cSh C 9) (caCons (cTup (caCons (cInt) (caCons (cInt) (caNil)))) (caCons (cInt) (caNil)))))) (ssCons (cIfS (CW.t (wAnd (tCmp (fun i => op_gtA (C.k i) (roomU (C.r i))) v_gtA (CE.brw (cCallB C (fun i => c_len (C.k i)) v_len B.len bt_len (cbCons (cNm C 12) (cbNil)))) (CE.brw (cInt)) (nomark _)) (wAnd1 (tCmp (fun i => op_gtA (C.k i) (roomU (C.r i))) v_gtA (CE.brw (cCallB C (fun i => c_len (C.k i)) v_len B.len bt_len (cbCons (cNm C 14) (cbNil)))) (CE.brw (cBin (fun _ => op_mulW) v_mul (CE.brw (cInt)) (cNm C 13))) (nomark _))))) (ssOne (cRet (cBl))) (ssNil)) (ssCons (cTo (cCall C d_cheapest (by decide) (caCons (cSh C 3) (caCons (cTup (caCons (cSh C 9) (caCons (cSh C 10) (caNil)))) (caNil)))) (gTup' C (gsCons (gName' C 17) (gsCons (gName' C 18) (gsNil))))) (ssCons (cIfS (CW.t (wOr (tCmp (fun i => op_neA (C.k i) (roomU (C.r i))) v_ne (cNm C 18) (CE.brw (cCall C d_worth_now (by decide) (caCons (cSh C 3) (caCons (cIx (fun i => ix_both (C.k i)) v_ix (CE.brw (cTup (caCons (cSh C 9) (caCons (cSh C 10) (caNil))))) (cNm C 17) (fun _ _ => rfl)) (caNil))))) (nomark _)) (wOr1 (tCmp (fun i => op_gtA (C.k i) (roomU (C.r i))) v_gtA (CE.brw (cCall C d_compare (by decide) (caCons (cSh C 18) (caCons (cCall C d_worth_now (by decide) (caCons (cSh C 3) (caCons (cIx (fun i => ix_both (C.k i)) v_ix (CE.brw (cTup (caCons (cSh C 9) (caCons (cSh C 10) (caNil))))) (CE.brw (cBin (fun _ => op_sub) v_sub (CE.brw (cInt)) (cNm C 17))) (fun _ _ => rfl)) (caNil)))) (caNil))))) (CE.brw (cInt)) (nomark _))))) (ssOne (cRet (cBl))) (ssNil)) (ssCons (cSet C 15 (cBin (fun i => op_addAll (C.k i)) v_add (CE.brw (cInt)) (CE.brw (cCall C d__law_take (by decide) (caCons (cSh C 0) (caCons (cInt) (caNil))))))) (ssCons (cSet C 16 (cCall C d_rounds_needed (by decide) (caCons (cSh C 1) (caCons (cSh C 3) (caCons (cSh C 15) (caNil)))))) (ssCons (cIfS (tCmp (fun _ => op_notN) v_isNot (cNm C 16) (CE.brw (cNon)) (nomark _)) (ssCons (cTo (cSh C 16) (gTup' C (gsCons (gName' C 20) (gsCons (gName' C 21) (gsNil))))) (ssOne (cIfS (tCmp (fun i => op_gtA (C.k i) (roomU (C.r i))) v_gtA (cNm C 20) (CE.brw (cInt)) (nomark _)) (ssCons (cSet C 22 (cIf (tCmp (fun i => op_gtA (C.k i) (roomU (C.r i))) v_gtA (cNm C 20) (CE.brw (cInt)) (nomark _)) (cIx (fun i => ix_both (C.k i)) v_ix (CE.brw (cCall C d_balances (by decide) (caCons (cSh C 1) (caCons (cSh C 3) (caCons (cBin (fun i => op_addAll (C.k i)) v_add (CE.brw (cBin (fun i => op_repTA (C.k i)) v_repT (CE.brw (cTup (caCons (cCall C d_fraction (by decide) (caCons (cSh C 15) (caCons (cInt) (caNil)))) (caNil)))) (CE.brw (cBin (fun _ => op_sub) v_sub (cNm C 20) (CE.brw (cInt)))))) (CE.brw (cTup (caCons (cSh C 21) (caNil))))) (caNil)))))) (CE.brw (cUn (fun _ => un_neg) v_neg (CE.brw (cInt)))) (fun _ _ => rfl)) (cCall C d_minus (by decide) (caCons (cCall C d_times (by decide) (caCons (cCall C d_fraction (by decide) (caCons (cSh C 1) (caCons (cInt) (caNil)))) (caCons (cCall C d_plus (by decide) (caCons (cTup (caCons (cInt) (caCons (cInt) (caNil)))) (caCons (cSh C 3) (caNil)))) (caNil)))) (caCons (cSh C 21) (caNil)))))) (ssCons (cIfS (CW.t (wOr (tCmp (fun i => op_neA (C.k i) (roomU (C.r i))) v_ne (cNm C 22) (CE.brw (cTup (caCons (cInt) (caCons (cInt) (caNil))))) (nomark _)) (wOr1 (tCmp (fun i => op_gtA (C.k i) (roomU (C.r i))) v_gtA (CE.brw (cCall C d_compare (by decide) (caCons (cSh C 21) (caCons (cCall C d_fraction (by decide) (caCons (cSh C 15) (caCons (cInt) (caNil)))) (caNil))))) (CE.brw (cInt)) (nomark _))))) (ssOne (cRet (cBl))) (ssNil)) (ssCons (cSet C 23 (cCall C d_rounds_needed (by decide) (caCons (cSh C 1) (caCons (cSh C 3) (caCons (cBin (fun i => op_addAll (C.k i)) v_add (cNm C 15) (CE.brw (cInt))) (caNil)))))) (ssOne (cIfS (CW.t (wOr (tCmp (fun _ => op_isN) v_is (cNm C 23) (CE.brw (cNon)) (nomark _)) (wOr1 (tCmp (fun i => op_gtA (C.k i) (roomU (C.r i))) v_gtA (CE.brw (cIx (fun i => ix_both (C.k i)) v_ix (cNm C 23) (CE.brw (cInt)) (fun _ _ => rfl))) (cNm C 20) (nomark _))))) (ssOne (cRet (cBl))) (ssNil)))))) (ssNil)))) (ssNil)) (ssOne (cRet (cBl)))))))))))))))))))) hm hb 25 8
abbrev s_law : Stmt := topS 30
theorem sc_law : FnScope ("script" :: "d" :: "one" :: "two" :: "rate" :: "rounds" :: "pay" :: "factor" :: "now" :: "power" :: "k" :: "longer" :: "rows" :: "paid" :: "none" :: "first" :: "second" :: []) ["script"] (defScope s_law) := ⟨rfl, rfl, rfl, by decide +kernel, rfl, by decide +kernel, by decide +kernel⟩
def g_law : SF := sSeq (sSet 2 (xCall m__law_take (aC (xSh 1) (aC (xC (.int 300)) (aN))))) (sSeq (sSet 3 (xCall m__law_take (aC (xSh 1) (aC (xC (.int 300)) (aN))))) (sSeq (sSet 4 (xCall m_fraction (aC (xCall m__law_take (aC (xSh 1) (aC (xC (.int 6)) (aN)))) (aC (x2 addD (xC (.int 1)) (xCall m__law_take (aC (xSh 1) (aC (xC (.int 15)) (aN))))) (aN))))) (sSeq (sSet 5 (x2 addD (xC (.int 1)) (xCall m__law_take (aC (xSh 1) (aC (xC (.int 9)) (aN)))))) (sSeq (sSet 6 (xCall m_equal_payment (aC (xSh 2) (aC (xSh 4) (aC (xSh 5) (aN)))))) (sSeq (sIf (tV (x2 neD (xCall m_plus (aC (xSh 6) (aC (xCall m_equal_payment (aC (xSh 3) (aC (xSh 4) (aC (xSh 5) (aN))))) (aN)))) (xCall m_equal_payment (aC (x2 addD (xNm 2) (xNm 3)) (aC (xSh 4) (aC (xSh 5) (aN))))))) (sRet (xC (.bl false))) (sNext)) (sSeq (sSet 7 (xCall m_over (aC (xTup (aC (xC (.int 1)) (aC (xC (.int 1)) (aN)))) (aC (xCall m_plus (aC (xTup (aC (xC (.int 1)) (aC (xC (.int 1)) (aN)))) (aC (xSh 4) (aN)))) (aN))))) (sSeq (sSet 8 (xTup (aC (xC (.int 0)) (aC (xC (.int 1)) (aN))))) (sSeq (sSet 9 (xTup (aC (xC (.int 1)) (aC (xC (.int 1)) (aN))))) (sSeq (sFor (iRg rng1D (aC (xSh 5) (aN))) (gNm 10) (sSeq (sSet 9 (xCall m_times (aC (xSh 9) (aC (xSh 7) (aN))))) (sSet 8 (xCall m_plus (aC (xSh 8) (aC (xCall m_times (aC (xSh 6) (aC (xSh 9) (aN)))) (aN))))))) (sSeq (sIf (tV (x2 neD (xNm 8) (xCall m_fraction (aC (xSh 2) (aC (xC (.int 1)) (aN)))))) (sRet (xC (.bl false))) (sNext)) (sSeq (sSet 11 (xCall m_equal_payment (aC (xSh 2) (aC (xSh 4) (aC (x2 addD (xNm 5) (xC (.int 1))) (aN)))))) (sSeq (sIf (tAnd (tV (x2 gtA (xNm 2) (xC (.int 0)))) (tOr (tV (x2 geA (xCall m_compare (aC (xSh 11) (aC (xSh 6) (aN)))) (xC (.int 0)))) (tV (x2 ltA (xCall m_compare (aC (xCall m_whole_interest (aC (xSh 2) (aC (xSh 4) (aC (x2 repT (xTup (aC (xSh 11) (aN))) (x2 addD (xNm 5) (xC (.int 1)))) (aN))))) (aC (xCall m_whole_interest (aC (xSh 2) (aC (xSh 4) (aC (x2 repT (xTup (aC (xSh 6) (aN))) (xNm 5)) (aN))))) (aN)))) (xC (.int 0)))))) (sRet (xC (.bl false))) (sNext)) (sSeq (sIf (tAnd (tV (x2 eqD (xNm 4) (xTup (aC (xC (.int 0)) (aC (xC (.int 1)) (aN)))))) (tV (x2 neD (xNm 6) (xCall m_fraction (aC (xSh 2) (aC (xSh 5) (aN))))))) (sRet (xC (.bl false))) (sNext)) (sSeq (sSet 12 (xCall m_parts (aC (xSh 2) (aC (xSh 4) (aC (xSh 5) (aN)))))) (sSeq (sIf (tOr (tV (x2 neD (xCall m_total (aC (xOf (oComp (iSq (xNm 12)) (gTp [gNm 15, gNm 16]) (tYes') (xSh 15) [15, 16])) (aN))) (xCall m_whole_interest (aC (xSh 2) (aC (xSh 4) (aC (x2 repT (xTup (aC (xSh 6) (aN))) (xNm 5)) (aN))))))) (tV (x2 neD (xCall m_total (aC (xOf (oComp (iSq (xNm 12)) (gTp [gNm 15, gNm 16]) (tYes') (xSh 16) [15, 16])) (aN))) (xCall m_fraction (aC (xSh 2) (aC (xC (.int 1)) (aN))))))) (sRet (xC (.bl false))) (sNext)) (sSeq (sFor (iRg rng2D (aC (xC (.int 1)) (aC (xSh 5) (aN)))) (gNm 10) (sIf (tOr (tV (x2 ltA (xCall m_compare (aC (x2 ixD (x2 ixD (xNm 12) (xNm 10)) (xC (.int 1))) (aC (x2 ixD (x2 ixD (xNm 12) (x2 subD (xNm 10) (xC (.int 1)))) (xC (.int 1))) (aN)))) (xC (.int 0)))) (tV (x2 gtA (xCall m_compare (aC (x2 ixD (x2 ixD (xNm 12) (xNm 10)) (xC (.int 0))) (aC (x2 ixD (x2 ixD (xNm 12) (x2 subD (xNm 10) (xC (.int 1)))) (xC (.int 0))) (aN)))) (xC (.int 0))))) (sRet (xC (.bl false))) (sNext))) (sSeq (sSet 13 (xL tupD (aC (xOf (oComp (iRg rng1D (aC (xCall m__law_take (aC (xSh 1) (aC (xC (.int 6)) (aN)))) (aN))) (gNm 10) (tYes') (xCall m_fraction (aC (xCall m__law_take (aC (xSh 1) (aC (xC (.int 40)) (aN)))) (aC (x2 addD (xC (.int 1)) (xCall m__law_take (aC (xSh 1) (aC (xC (.int 3)) (aN))))) (aN)))) [10])) (aN)))) (sSeq (sSet 14 (x2 repT (xTup (aC (xTup (aC (xC (.int 0)) (aC (xC (.int 1)) (aN)))) (aN))) (xL lenD (aC (xNm 13) (aN))))) (sSeq (sSet 15 (xCall m_balances (aC (xSh 2) (aC (xSh 4) (aC (xSh 13) (aN)))))) (sSeq (sSet 16 (xCall m_balances (aC (xSh 3) (aC (xSh 4) (aC (xSh 14) (aN)))))) (sRet (xCall m__law_part1 (aC (xSh 1) (aC (xSh 2) (aC (xSh 3) (aC (xSh 4) (aC (xSh 7) (aC (xSh 13) (aC (xSh 15) (aC (xSh 16) (aN)))))))))))))))))))))))))))))))
theorem ok_law (B : Bi mg) (d__law_take : DefOk P w K mg base "_law_take" 1 ["d", "many"] m__law_take) (d_fraction : DefOk P w K mg base "fraction" 1 ["numerator", "denominator"] m_fraction) (d_equal_payment : DefOk P w K mg base "equal_payment" 3 ["amount", "rate", "rounds"] m_equal_payment) (d_over : DefOk P w K mg base "over" 2 ["a", "b"] m_over) (d_parts : DefOk P w K mg base "parts" 4 ["amount", "rate", "rounds"] m_parts) (d_balances : DefOk P w K mg base "balances" 3 ["amount", "rate", "paid"] m_balances) (d__law_part1 : DefOk P w K mg base "_law_part1" 5 ["d", "one", "two", "rate", "factor", "paid", "first", "second"] m__law_part1) (d_plus : DefOk P w K mg base "plus" 2 ["a", "b"] m_plus) (d_times : DefOk P w K mg base "times" 2 ["a", "b"] m_times) (d_total : DefOk P w K mg base "total" 3 ["items"] m_total) (d_whole_interest : DefOk P w K mg base "whole_interest" 4 ["amount", "rate", "paid"] m_whole_interest) (d_compare : DefOk P w K mg base "compare" 1 ["a", "b"] m_compare) {f fB : Addr} {fd fdB : FuncData} (F : FnP K "law" s_law f fd) (FB : FnOk P w K mg base CX0 1 fB fdB ["script"] (spBegin K)) (bB : Binds K fdB ["script"] []) (gB : mg "_law_begin" = some (.ref fB)) (kpB : PySem.W.keepIn K (.ref fB) = true) : FnOk P w K mg base CX0 6 f fd ["script"] (spLaw K 17 g_law) :=
  have C := Fam.ent (P := P) (w := w) (K := K) (mg := mg) (base := base) (N := ("script" :: "d" :: "one" :: "two" :: "rate" :: "rounds" :: "pay" :: "factor" :: "now" :: "power" :: "k" :: "longer" :: "rows" :: "paid" :: "none" :: "first" :: "second" :: [])) (k := 5) (qual := "law") (scope := defScope s_law) (f := f) sc_law.nd
  law_ok F sc_law FB (by decide) bB gB kpB rfl (show CSs _ K ((defBody s_law).drop 1) g_law from ssCons (cSet C 2 (cCall C d__law_take (by decide) (caCons (cSh C 1) (caCons (cInt) (caNil))))) (ssCons (cSet C 3 (cCall C d__law_take (by decide) (caCons (cSh C 1) (caCons (cInt) (caNil))))) (ssCons (cSet C 4 (cCall C d_fraction (by decide) (caCons (cCall C d__law_take (by decide) (caCons (cSh C 1) (caCons (cInt) (caNil)))) (caCons (cBin (fun i => op_addAll (C.k i)) v_add (CE.brw (cInt)) (CE.brw (cCall C d__law_take (by decide) (caCons (cSh C 1) (caCons (cInt) (caNil)))))) (caNil))))) (ssCons (cSet C 5 (cBin (fun i => op_addAll (C.k i)) v_add (CE.brw (cInt)) (CE.brw (cCall C d__law_take (by decide) (caCons (cSh C 1) (caCons (cInt) (caNil))))))) (ssCons (cSet C 6 (cCall C d_equal_payment (by decide) (caCons (cSh C 2) (caCons (cSh C 4) (caCons (cSh C 5) (caNil)))))) (ssCons (cIfS (tCmp (fun i => op_neA (C.k i) (roomU (C.r i))) v_ne (CE.brw (cCall C d_plus (by decide) (caCons (cSh C 6) (caCons (cCall C d_equal_payment (by decide) (caCons (cSh C 3) (caCons (cSh C 4) (caCons (cSh C 5) (caNil))))) (caNil))))) (CE.brw (cCall C d_equal_payment (by decide) (caCons (cBin (fun i => op_addAll (C.k i)) v_add (cNm C 2) (cNm C 3)) (caCons (cSh C 4) (caCons (cSh C 5) (caNil)))))) (nomark _)) (ssOne (cRet (cBl))) (ssNil)) (ssCons (cSet C 7 (cCall C d_over (by decide) (caCons (cTup (caCons (cInt) (caCons (cInt) (caNil)))) (caCons (cCall C d_plus (by decide) (caCons (cTup (caCons (cInt) (caCons (cInt) (caNil)))) (caCons (cSh C 4) (caNil)))) (caNil))))) (ssCons (cSet C 8 (cTup (caCons (cInt) (caCons (cInt) (caNil))))) (ssCons (cSet C 9 (cTup (caCons (cInt) (caCons (cInt) (caNil))))) (ssCons (cFor C (fun _ => PassesOwn.never) (iRng1E C B.range (caCons (cSh C 5) (caNil))) (gName' C 10) (ssCons (cSet C 9 (cCall C d_times (by decide) (caCons (cSh C 9) (caCons (cSh C 7) (caNil))))) (ssOne (cSet C 8 (cCall C d_plus (by decide) (caCons (cSh C 8) (caCons (cCall C d_times (by decide) (caCons (cSh C 6) (caCons (cSh C 9) (caNil)))) (caNil)))))))) (ssCons (cIfS (tCmp (fun i => op_neA (C.k i) (roomU (C.r i))) v_ne (cNm C 8) (CE.brw (cCall C d_fraction (by decide) (caCons (cSh C 2) (caCons (cInt) (caNil))))) (nomark _)) (ssOne (cRet (cBl))) (ssNil)) (ssCons (cSet C 11 (cCall C d_equal_payment (by decide) (caCons (cSh C 2) (caCons (cSh C 4) (caCons (cBin (fun i => op_addAll (C.k i)) v_add (cNm C 5) (CE.brw (cInt))) (caNil)))))) (ssCons (cIfS (CW.t (wAnd (tCmp (fun i => op_gtA (C.k i) (roomU (C.r i))) v_gtA (cNm C 2) (CE.brw (cInt)) (nomark _)) (wAnd1 (CW.t (wOr (tCmp (fun i => op_geA (C.k i) (roomU (C.r i))) v_geA (CE.brw (cCall C d_compare (by decide) (caCons (cSh C 11) (caCons (cSh C 6) (caNil))))) (CE.brw (cInt)) (nomark _)) (wOr1 (tCmp (fun i => op_ltA (C.k i) (roomU (C.r i))) v_ltA (CE.brw (cCall C d_compare (by decide) (caCons (cCall C d_whole_interest (by decide) (caCons (cSh C 2) (caCons (cSh C 4) (caCons (cBin (fun i => op_repTA (C.k i)) v_repT (CE.brw (cTup (caCons (cSh C 11) (caNil)))) (CE.brw (cBin (fun i => op_addAll (C.k i)) v_add (cNm C 5) (CE.brw (cInt))))) (caNil))))) (caCons (cCall C d_whole_interest (by decide) (caCons (cSh C 2) (caCons (cSh C 4) (caCons (cBin (fun i => op_repTA (C.k i)) v_repT (CE.brw (cTup (caCons (cSh C 6) (caNil)))) (cNm C 5)) (caNil))))) (caNil))))) (CE.brw (cInt)) (nomark _)))))))) (ssOne (cRet (cBl))) (ssNil)) (ssCons (cIfS (CW.t (wAnd (tCmp (fun i => op_eqA (C.k i) (roomU (C.r i))) v_eq (cNm C 4) (CE.brw (cTup (caCons (cInt) (caCons (cInt) (caNil))))) (nomark _)) (wAnd1 (tCmp (fun i => op_neA (C.k i) (roomU (C.r i))) v_ne (cNm C 6) (CE.brw (cCall C d_fraction (by decide) (caCons (cSh C 2) (caCons (cSh C 5) (caNil))))) (nomark _))))) (ssOne (cRet (cBl))) (ssNil)) (ssCons (cSet C 12 (cCall C d_parts (by decide) (caCons (cSh C 2) (caCons (cSh C 4) (caCons (cSh C 5) (caNil)))))) (ssCons (cIfS (CW.t (wOr (tCmp (fun i => op_neA (C.k i) (roomU (C.r i))) v_ne (CE.brw (cCall C d_total (by decide) (caCons (CO.frz (oLc C [("first", 15), ("second", 16)] (iSeqB C (cNm C 12)) (fun _ => blkOk_by (by rw [ent_sc]; decide +kernel)) (gTup' (C.blk _) (gsCons (gName' (C.blk _) 15) (gsCons (gName' (C.blk _) 16) (gsNil)))) (ctNone) (cSh (C.blk _) 15))) (caNil)))) (CE.brw (cCall C d_whole_interest (by decide) (caCons (cSh C 2) (caCons (cSh C 4) (caCons (cBin (fun i => op_repTA (C.k i)) v_repT (CE.brw (cTup (caCons (cSh C 6) (caNil)))) (cNm C 5)) (caNil)))))) (nomark _)) (wOr1 (tCmp (fun i => op_neA (C.k i) (roomU (C.r i))) v_ne (CE.brw (cCall C d_total (by decide) (caCons (CO.frz (oLc C [("first", 15), ("second", 16)] (iSeqB C (cNm C 12)) (fun _ => blkOk_by (by rw [ent_sc]; decide +kernel)) (gTup' (C.blk _) (gsCons (gName' (C.blk _) 15) (gsCons (gName' (C.blk _) 16) (gsNil)))) (ctNone) (cSh (C.blk _) 16))) (caNil)))) (CE.brw (cCall C d_fraction (by decide) (caCons (cSh C 2) (caCons (cInt) (caNil))))) (nomark _))))) (ssOne (cRet (cBl))) (ssNil)) (ssCons (cFor C (fun _ => PassesOwn.never) (iRng2E C B.range (caCons (cInt) (caCons (cSh C 5) (caNil)))) (gName' C 10) (ssOne (cIfS (CW.t (wOr (tCmp (fun i => op_ltA (C.k i) (roomU (C.r i))) v_ltA (CE.brw (cCall C d_compare (by decide) (caCons (cIx (fun i => ix_both (C.k i)) v_ix (CE.brw (cIx (fun i => ix_both (C.k i)) v_ix (cNm C 12) (cNm C 10) (fun _ _ => rfl))) (CE.brw (cInt)) (fun _ _ => rfl)) (caCons (cIx (fun i => ix_both (C.k i)) v_ix (CE.brw (cIx (fun i => ix_both (C.k i)) v_ix (cNm C 12) (CE.brw (cBin (fun _ => op_sub) v_sub (cNm C 10) (CE.brw (cInt)))) (fun _ _ => rfl))) (CE.brw (cInt)) (fun _ _ => rfl)) (caNil))))) (CE.brw (cInt)) (nomark _)) (wOr1 (tCmp (fun i => op_gtA (C.k i) (roomU (C.r i))) v_gtA (CE.brw (cCall C d_compare (by decide) (caCons (cIx (fun i => ix_both (C.k i)) v_ix (CE.brw (cIx (fun i => ix_both (C.k i)) v_ix (cNm C 12) (cNm C 10) (fun _ _ => rfl))) (CE.brw (cInt)) (fun _ _ => rfl)) (caCons (cIx (fun i => ix_both (C.k i)) v_ix (CE.brw (cIx (fun i => ix_both (C.k i)) v_ix (cNm C 12) (CE.brw (cBin (fun _ => op_sub) v_sub (cNm C 10) (CE.brw (cInt)))) (fun _ _ => rfl))) (CE.brw (cInt)) (fun _ _ => rfl)) (caNil))))) (CE.brw (cInt)) (nomark _))))) (ssOne (cRet (cBl))) (ssNil)))) (ssCons (cSet C 13 (cCallT C (fun i => c_tup (C.k i)) v_tup B.tuple bt_tuple (cbCons (CE.brw (CO.frz (oLc C [("k", 10)] (CI.w (iRng1E C B.range (caCons (cCall C d__law_take (by decide) (caCons (cSh C 1) (caCons (cInt) (caNil)))) (caNil)))) (fun _ => blkOk_by (by rw [ent_sc]; decide +kernel)) (gName' (C.blk _) 10) (ctNone) (cCall (C.blk _) d_fraction (by decide) (caCons (cCall (C.blk _) d__law_take (by decide) (caCons (cSh (C.blk _) 1) (caCons (cInt) (caNil)))) (caCons (cBin (fun i => op_addAll ((C.blk _).k i)) v_add (CE.brw (cInt)) (CE.brw (cCall (C.blk _) d__law_take (by decide) (caCons (cSh (C.blk _) 1) (caCons (cInt) (caNil)))))) (caNil))))))) (cbNil)))) (ssCons (cSet C 14 (cBin (fun i => op_repTA (C.k i)) v_repT (CE.brw (cTup (caCons (cTup (caCons (cInt) (caCons (cInt) (caNil)))) (caNil)))) (CE.brw (cCallB C (fun i => c_len (C.k i)) v_len B.len bt_len (cbCons (cNm C 13) (cbNil)))))) (ssCons (cSet C 15 (cCall C d_balances (by decide) (caCons (cSh C 2) (caCons (cSh C 4) (caCons (cSh C 13) (caNil)))))) (ssCons (cSet C 16 (cCall C d_balances (by decide) (caCons (cSh C 3) (caCons (cSh C 4) (caCons (cSh C 14) (caNil)))))) (ssOne (cRet (cCall C d__law_part1 (by decide) (caCons (cSh C 1) (caCons (cSh C 2) (caCons (cSh C 3) (caCons (cSh C 4) (caCons (cSh C 7) (caCons (cSh C 13) (caCons (cSh C 15) (caCons (cSh C 16) (caNil))))))))))))))))))))))))))))))))) rfl rfl 17
end
end Lw
set_option maxHeartbeats 1000000
namespace Lw
open PySem PySem.Spec PyProof.Rows L2 Pu
theorem take_eq : m__law_take = mTake := rfl
/-! ### fractions -/
@[reducible] instance : EnQ Rat where
  e q := EnQ.e ((q.num, q.den) : Int × Nat)
  k := EnQ.k (Int × Nat)
  cl _ := EnQ.cl _
  lay _ := EnQ.lay _
  dp _ := EnQ.dp _
  eqv a b := by
    rw [EnQ.eqv]
    constructor
    · intro h; exact Rat.ext (congrArg Prod.fst h) (congrArg Prod.snd h)
    · intro h; rw [h]
def qD (q : Rat) : D := .tup [.int q.num, .int (q.den : Nat)]
theorem e_Q (q : Rat) : (EnQ.e q : D) = qD q := rfl
theorem q_self (a : Rat) : (a.num : Rat) / ((a.den : Nat) : Rat) = a := by rw [← Rat.mkRat_eq_div, Rat.mkRat_self]
theorem den_ne (a : Rat) : ((a.den : Nat) : Rat) ≠ 0 := by
  have := a.den_nz
  intro h
  exact this (by exact_mod_cast h)
theorem frac_nd (n : Int) {d : Nat} (hd : d ≠ 0) : ((n : Rat) / (d : Rat)).num = n / ((Nat.gcd n.natAbs d : Nat) : Int) ∧ ((n : Rat) / (d : Rat)).den = d / Nat.gcd n.natAbs d := by
  rw [← Rat.mkRat_eq_div, ← Rat.normalize_eq_mkRat hd, Rat.normalize_eq hd]
  exact ⟨rfl, rfl⟩
/-- sizes -/
def Sz (k : Nat) (q : Rat) : Prop := q.num.natAbs < 2 ^ k ∧ q.den < 2 ^ k
theorem frac_le (n : Int) {d : Int} (hd : d ≠ 0) : ((n : Rat) / (d : Rat)).num.natAbs ≤ n.natAbs ∧ ((n : Rat) / (d : Rat)).den ≤ d.natAbs := by
  have key : ∀ (n : Int) {d : Nat}, d ≠ 0 → ((n : Rat) / (d : Rat)).num.natAbs ≤ n.natAbs ∧ ((n : Rat) / (d : Rat)).den ≤ d := fun n d hd => by
    obtain ⟨h1, h2⟩ := frac_nd n hd
    rw [h1, h2]
    exact ⟨Int.natAbs_ediv_le_natAbs _ _, Nat.div_le_self _ _⟩
  rcases Int.lt_or_gt_of_ne hd with h | h
  · obtain ⟨e, he⟩ : ∃ e : Nat, d = -(e : Int) := ⟨d.natAbs, by omega⟩
    subst he
    have := key (-n) (d := e) (by omega)
    have e2 : ((n : Rat) / ((-(e : Int) : Int) : Rat)) = (((-n : Int) : Rat)) / (e : Rat) := by
      have : (e : Rat) ≠ 0 := by intro z; have : e = 0 := by exact_mod_cast z
                                 omega
      push_cast
      grind
    rw [e2]
    simpa using this
  · obtain ⟨e, he⟩ : ∃ e : Nat, d = (e : Int) := ⟨d.natAbs, by omega⟩
    subst he
    have := key n (d := e) (by omega)
    rw [Rat.intCast_natCast]
    simpa using this
theorem frac_eq (n : Int) {d : Int} (hd : d ≠ 0) (h2 : d.natAbs < 2 ^ 8500) (s : DS) : m_fraction [.int n, .int d] s = some (EnQ.e ((n : Rat) / (d : Rat)), s) := by
  refine def_eq (fun s => ?_) s
  refine wp_def rfl ?_
  have key : ∀ (n : Int) {d : Nat}, d ≠ 0 → d < 2 ^ 8500 → divD (.int n) (.int ((Nat.gcd n.natAbs d : Nat) : Int)) = some (.int ((n : Rat) / (d : Rat)).num) ∧ divD (.int (d : Nat)) (.int ((Nat.gcd n.natAbs d : Nat) : Int)) = some (.int ((((n : Rat) / (d : Rat)).den : Nat) : Int)) := fun n d hd h2 => by
    obtain ⟨e1, e2⟩ := frac_nd n hd
    have hg : 0 < Nat.gcd n.natAbs d := Nat.gcd_pos_of_pos_right _ (by omega)
    have hl : Nat.gcd n.natAbs d ≤ d := Nat.gcd_le_right _ (by omega)
    rw [e1, e2]
    have hdv : ∀ x : Int, divD (.int x) (.int ((Nat.gcd n.natAbs d : Nat) : Int)) = some (.int (x / (Nat.gcd n.natAbs d : Nat))) := fun x => divD_sm x 8500 (by omega) (Nat.lt_of_le_of_lt hl h2)
    rw [hdv, hdv]
    exact ⟨rfl, by simp⟩
  rcases Int.lt_or_gt_of_ne hd with h | h
  · obtain ⟨e, he⟩ : ∃ e : Nat, d = -(e : Int) := ⟨d.natAbs, by omega⟩
    subst he
    have he0 : e ≠ 0 := by omega
    obtain ⟨k1, k2⟩ := key (-n) he0 (by simpa using h2)
    have e2 : ((n : Rat) / ((-(e : Int) : Int) : Rat)) = (((-n : Int) : Rat)) / (e : Rat) := by
      have : (e : Rat) ≠ 0 := by intro z; have : e = 0 := by exact_mod_cast z
                                 omega
      push_cast
      grind
    rw [e2]
    have hlt : -(e : Int) < 0 := by omega
    simp at k1 k2
    simp [g_fraction, List.replicate, he0, hlt, k1, k2, SZ_eq, e_Q, qD]
    omega
  · obtain ⟨e, he⟩ : ∃ e : Nat, d = (e : Int) := ⟨d.natAbs, by omega⟩
    subst he
    have he0 : e ≠ 0 := by omega
    obtain ⟨k1, k2⟩ := key n he0 (by simpa using h2)
    have hlt : ¬ ((e : Int) < 0) := by omega
    rw [Rat.intCast_natCast]
    simp [g_fraction, List.replicate, he0, hlt, k1, k2, SZ_eq, e_Q, qD]
theorem Sz.mono {k l : Nat} {q : Rat} (h : Sz k q) (hl : k ≤ l) : Sz l q := ⟨Nat.lt_of_lt_of_le h.1 (Nat.pow_le_pow_right (by decide) hl), Nat.lt_of_lt_of_le h.2 (Nat.pow_le_pow_right (by decide) hl)⟩
theorem Sz.int {k : Nat} {n : Int} (h : n.natAbs < 2 ^ k) (hk : 1 ≤ k) : Sz k (n : Rat) := ⟨by simpa using h, by
  have : 2 ^ 1 ≤ 2 ^ k := Nat.pow_le_pow_right (by decide) hk
  simp; omega⟩
theorem mul2 {k l a b : Nat} (h : a < 2 ^ k) (g : b < 2 ^ l) : a * b < 2 ^ (k + l) := by rw [Nat.pow_add]; exact Nat.mul_lt_mul'' h g
theorem add_frac (a b : Rat) : a + b = ((a.num * (b.den : Nat) + b.num * (a.den : Nat) : Int) : Rat) / (((a.den : Nat) * (b.den : Nat) : Int) : Rat) := by
  have h1 := q_self a
  have h2 := q_self b
  have d1 := den_ne a
  have d2 := den_ne b
  rw [Rat.intCast_add, Rat.intCast_mul, Rat.intCast_mul, Rat.intCast_mul, Rat.intCast_natCast, Rat.intCast_natCast]
  generalize ((a.den : Nat) : Rat) = x at *
  generalize ((b.den : Nat) : Rat) = y at *
  generalize ((a.num : Int) : Rat) = u at *
  generalize ((b.num : Int) : Rat) = v at *
  rw [← h1, ← h2]
  grind
theorem sub_frac (a b : Rat) : a - b = ((a.num * (b.den : Nat) - b.num * (a.den : Nat) : Int) : Rat) / (((a.den : Nat) * (b.den : Nat) : Int) : Rat) := by
  have h1 := q_self a
  have h2 := q_self b
  have d1 := den_ne a
  have d2 := den_ne b
  rw [Rat.intCast_sub, Rat.intCast_mul, Rat.intCast_mul, Rat.intCast_mul, Rat.intCast_natCast, Rat.intCast_natCast]
  generalize ((a.den : Nat) : Rat) = x at *
  generalize ((b.den : Nat) : Rat) = y at *
  generalize ((a.num : Int) : Rat) = u at *
  generalize ((b.num : Int) : Rat) = v at *
  rw [← h1, ← h2]
  grind
theorem mul_frac (a b : Rat) : a * b = ((a.num * b.num : Int) : Rat) / (((a.den : Nat) * (b.den : Nat) : Int) : Rat) := by
  have h1 := q_self a
  have h2 := q_self b
  have d1 := den_ne a
  have d2 := den_ne b
  rw [Rat.intCast_mul, Rat.intCast_mul, Rat.intCast_natCast, Rat.intCast_natCast]
  generalize ((a.den : Nat) : Rat) = x at *
  generalize ((b.den : Nat) : Rat) = y at *
  generalize ((a.num : Int) : Rat) = u at *
  generalize ((b.num : Int) : Rat) = v at *
  rw [← h1, ← h2]
  grind
theorem num_ne {b : Rat} (h : b ≠ 0) : b.num ≠ 0 := fun z => h (Rat.num_eq_zero.mp z)
theorem div_frac (a : Rat) {b : Rat} (hb : b ≠ 0) : a / b = ((a.num * (b.den : Nat) : Int) : Rat) / (((a.den : Nat) * b.num : Int) : Rat) := by
  have h1 := q_self a
  have h2 := q_self b
  have d1 := den_ne a
  have d2 := den_ne b
  have d3 : ((b.num : Int) : Rat) ≠ 0 := fun z => num_ne hb (by exact_mod_cast z)
  rw [Rat.intCast_mul, Rat.intCast_mul, Rat.intCast_natCast, Rat.intCast_natCast]
  generalize ((a.den : Nat) : Rat) = x at *
  generalize ((b.den : Nat) : Rat) = y at *
  generalize ((a.num : Int) : Rat) = u at *
  generalize ((b.num : Int) : Rat) = v at *
  rw [← h1, ← h2]
  grind
theorem dd_ne (a b : Rat) : ((a.den : Nat) * (b.den : Nat) : Int) ≠ 0 := by
  have := a.den_nz
  have := b.den_nz
  exact Int.mul_ne_zero (by omega) (by omega)
theorem Sz.add {k l : Nat} {a b : Rat} (h : Sz k a) (g : Sz l b) : Sz (k + l + 1) (a + b) := by
  obtain ⟨e1, e2⟩ := frac_le (a.num * (b.den : Nat) + b.num * (a.den : Nat)) (dd_ne a b)
  rw [← add_frac] at e1 e2
  have m1 := mul2 h.1 g.2
  have m2 := mul2 g.1 h.2
  have m3 := mul2 h.2 g.2
  have t := Int.natAbs_add_le (a.num * (b.den : Nat)) (b.num * (a.den : Nat))
  rw [Int.natAbs_mul, Int.natAbs_mul] at t
  rw [Int.natAbs_mul] at e2
  rw [Nat.add_comm l k] at m2
  simp only [Int.natAbs_natCast] at t e2
  unfold Sz
  rw [Nat.pow_succ]
  exact ⟨by omega, by omega⟩
theorem Sz.sub {k l : Nat} {a b : Rat} (h : Sz k a) (g : Sz l b) : Sz (k + l + 1) (a - b) := by
  obtain ⟨e1, e2⟩ := frac_le (a.num * (b.den : Nat) - b.num * (a.den : Nat)) (dd_ne a b)
  rw [← sub_frac] at e1 e2
  have m1 := mul2 h.1 g.2
  have m2 := mul2 g.1 h.2
  have m3 := mul2 h.2 g.2
  have t := Int.natAbs_sub_le (a.num * (b.den : Nat)) (b.num * (a.den : Nat))
  rw [Int.natAbs_mul, Int.natAbs_mul] at t
  rw [Int.natAbs_mul] at e2
  rw [Nat.add_comm l k] at m2
  simp only [Int.natAbs_natCast] at t e2
  unfold Sz
  rw [Nat.pow_succ]
  exact ⟨by omega, by omega⟩
theorem Sz.mul {k l : Nat} {a b : Rat} (h : Sz k a) (g : Sz l b) : Sz (k + l) (a * b) := by
  obtain ⟨e1, e2⟩ := frac_le (a.num * b.num) (dd_ne a b)
  rw [← mul_frac] at e1 e2
  have m1 := mul2 h.1 g.1
  have m3 := mul2 h.2 g.2
  rw [Int.natAbs_mul] at e1 e2
  simp only [Int.natAbs_natCast] at e2
  exact ⟨by omega, by omega⟩
theorem dn_ne (a : Rat) {b : Rat} (hb : b ≠ 0) : ((a.den : Nat) * b.num : Int) ≠ 0 := by
  have := a.den_nz
  exact Int.mul_ne_zero (by omega) (num_ne hb)
theorem Sz.div {k l : Nat} {a b : Rat} (h : Sz k a) (g : Sz l b) (hb : b ≠ 0) : Sz (k + l) (a / b) := by
  obtain ⟨e1, e2⟩ := frac_le (a.num * (b.den : Nat)) (dn_ne a hb)
  rw [← div_frac a hb] at e1 e2
  have m1 := mul2 h.1 g.2
  have m3 := mul2 h.2 g.1
  rw [Int.natAbs_mul] at e1 e2
  simp only [Int.natAbs_natCast] at e1 e2
  exact ⟨by omega, by omega⟩
theorem ixq0 (a : Rat) : ixD (qD a) (.int 0) = some (.int a.num) := rfl
theorem ixq1 (a : Rat) : ixD (qD a) (.int 1) = some (.int (a.den : Nat)) := rfl
theorem mulS {x y : Int} (h : x.natAbs < 2 ^ 4000) (g : y.natAbs < 2 ^ 4000) : mulD (.int x) (.int y) = some (.int (x * y)) := mulD_sm 4000 h g
theorem big {a b : Nat} (h : a < 2 ^ 4000) (g : b < 2 ^ 4000) : a * b < 2 ^ 8500 := Nat.lt_of_lt_of_le (mul2 h g) (Nat.pow_le_pow_right (by decide) (by decide))
theorem plus_eq {a b : Rat} (h : Sz 4000 a) (g : Sz 4000 b) (s : DS) : m_plus [qD a, qD b] s = some (qD (a + b), s) := by
  refine def_eq (fun s => ?_) s
  refine wp_def rfl ?_
  have hb : ((a.den : Nat) * (b.den : Nat) : Int).natAbs < 2 ^ 8500 := by rw [Int.natAbs_mul]; exact big h.2 g.2
  have e := frac_eq (a.num * (b.den : Nat) + b.num * (a.den : Nat)) (dd_ne a b) hb
  rw [← add_frac, e_Q] at e
  have m1 := mulS h.1 (y := (b.den : Nat)) g.2
  have m2 := mulS g.1 (y := (a.den : Nat)) h.2
  have m3 := mulS (x := (a.den : Nat)) h.2 (y := (b.den : Nat)) g.2
  simp [g_plus, List.replicate, ixq0, ixq1, m1, m2, m3, -ixD_tn]
  exact wp_eq e |>.mpr ⟨rfl, rfl⟩
theorem minus_eq {a b : Rat} (h : Sz 4000 a) (g : Sz 4000 b) (s : DS) : m_minus [qD a, qD b] s = some (qD (a - b), s) := by
  refine def_eq (fun s => ?_) s
  refine wp_def rfl ?_
  have hb : ((a.den : Nat) * (b.den : Nat) : Int).natAbs < 2 ^ 8500 := by rw [Int.natAbs_mul]; exact big h.2 g.2
  have e := frac_eq (a.num * (b.den : Nat) - b.num * (a.den : Nat)) (dd_ne a b) hb
  rw [← sub_frac, e_Q] at e
  have m1 := mulS h.1 (y := (b.den : Nat)) g.2
  have m2 := mulS g.1 (y := (a.den : Nat)) h.2
  have m3 := mulS (x := (a.den : Nat)) h.2 (y := (b.den : Nat)) g.2
  simp [g_minus, List.replicate, ixq0, ixq1, m1, m2, m3, -ixD_tn]
  exact wp_eq e |>.mpr ⟨rfl, rfl⟩
theorem times_eq {a b : Rat} (h : Sz 4000 a) (g : Sz 4000 b) (s : DS) : m_times [qD a, qD b] s = some (qD (a * b), s) := by
  refine def_eq (fun s => ?_) s
  refine wp_def rfl ?_
  have hb : ((a.den : Nat) * (b.den : Nat) : Int).natAbs < 2 ^ 8500 := by rw [Int.natAbs_mul]; exact big h.2 g.2
  have e := frac_eq (a.num * b.num) (dd_ne a b) hb
  rw [← mul_frac, e_Q] at e
  have m1 := mulS h.1 g.1
  have m3 := mulS (x := (a.den : Nat)) h.2 (y := (b.den : Nat)) g.2
  simp [g_times, List.replicate, ixq0, ixq1, m1, m3, -ixD_tn]
  exact wp_eq e |>.mpr ⟨rfl, rfl⟩
theorem over_eq {a b : Rat} (h : Sz 4000 a) (g : Sz 4000 b) (hn : b ≠ 0) (s : DS) : m_over [qD a, qD b] s = some (qD (a / b), s) := by
  refine def_eq (fun s => ?_) s
  refine wp_def rfl ?_
  have hb : ((a.den : Nat) * b.num : Int).natAbs < 2 ^ 8500 := by rw [Int.natAbs_mul]; exact big h.2 g.1
  have e := frac_eq (a.num * (b.den : Nat)) (dn_ne a hn) hb
  rw [← div_frac a hn, e_Q] at e
  have m1 := mulS h.1 (y := (b.den : Nat)) g.2
  have m3 := mulS (x := (a.den : Nat)) h.2 g.1
  simp [g_over, List.replicate, ixq0, ixq1, m1, m3, -ixD_tn]
  exact wp_eq e |>.mpr ⟨rfl, rfl⟩
def cmpR (a b : Rat) : Int := if a < b then -1 else if b < a then 1 else 0
theorem cmp_eq {a b : Rat} (h : Sz 4000 a) (g : Sz 4000 b) (s : DS) : m_compare [qD a, qD b] s = some (.int (cmpR a b), s) := by
  refine def_eq (fun s => ?_) s
  refine wp_def rfl ?_
  have m1 := mulS h.1 (y := (b.den : Nat)) g.2
  have m2 := mulS g.1 (y := (a.den : Nat)) h.2
  have c1 := Rat.lt_iff a b
  have c2 := Rat.lt_iff b a
  simp [g_compare, List.replicate, ixq0, ixq1, m1, m2, -ixD_tn]
  unfold cmpR
  by_cases h1 : a < b
  · have := c1.mp h1
    simp [h1, this]
  · have n1 : ¬ a.num * (b.den : Nat) < b.num * (a.den : Nat) := fun z => h1 (c1.mpr z)
    by_cases h2 : b < a
    · have := c2.mp h2
      simp [h1, h2, n1, this]
      omega
    · have n2 : ¬ b.num * (a.den : Nat) < a.num * (b.den : Nat) := fun z => h2 (c2.mpr z)
      simp [h1, h2, n1, n2]
      omega
end Lw
set_option maxHeartbeats 1000000
set_option exponentiation.threshold 64
namespace Lw
open PySem PySem.Spec PyProof.Rows L2 Pu
theorem cZ : c_ZERO = qD 0 := rfl
theorem cO : c_ONE = qD 1 := rfl
theorem one_lt : (1 : Nat) < 2 ^ 8500 := Nat.one_lt_two_pow (by decide)
theorem frac1 (n : Int) (s : DS) : m_fraction [.int n, .int 1] s = some (qD (n : Rat), s) := by
  have := frac_eq n (d := 1) (by decide) one_lt s
  rw [this]
  have : ((n : Rat) / ((1 : Int) : Rat)) = (n : Rat) := by grind
  rw [this, e_Q]
theorem Sz0 : Sz 1 0 := ⟨by decide, by decide⟩
theorem Sz1 : Sz 1 1 := ⟨by decide, by decide⟩
/-- a rate -/
structure Rt (r : Rat) : Prop where
  nn : 0 ≤ r
  sz : Sz 8 r
theorem Rt.szu {r : Rat} (R : Rt r) : Sz 10 (1 + r) := Sz1.add R.sz
theorem Rt.une {r : Rat} (R : Rt r) : 1 + r ≠ 0 := by have := R.nn; grind
theorem Rt.u1 {r : Rat} (R : Rt r) : 1 ≤ 1 + r := by have := R.nn; grind
theorem u_eq {r : Rat} (R : Rt r) (s : DS) : m_plus [qD 1, qD r] s = some (qD (1 + r), s) := plus_eq (Sz1.mono (by decide)) (R.sz.mono (by decide)) s
theorem loan_eq {a : Int} (ha : 0 ≤ a) {r : Rat} (R : Rt r) {n : Nat} (h1 : 1 ≤ n) (h2 : n ≤ 24) (s : DS) : m_check_loan [.int a, qD r, .int (n : Nat)] s = some (.non, s) := by
  refine def_eq (fun s => ?_) s
  refine wp_def rfl ?_
  have hc := cmp_eq (R.sz.mono (by decide : 8 ≤ 4000)) (Sz0.mono (by decide : 1 ≤ 4000))
  have hn : ¬ cmpR r 0 < 0 := by
    have := R.nn
    unfold cmpR
    rw [if_neg (by grind)]
    split <;> decide
  have ha' : ¬ a < 0 := by omega
  simp [g_check_loan, List.replicate, ha', cZ, wp_eq hc, hn, c_MOST_ROUNDS]
  omega
/-! ### sums -/
def BdT : Rat → List Rat → Prop
  | _, [] => True
  | acc, x :: xs => Sz 4000 acc ∧ Sz 4000 x ∧ BdT (acc + x) xs
theorem total_eq {l : List Rat} (h : BdT 0 l) {d : D} (hd : seqD d = some (l.map qD)) (s : DS) : m_total [d] s = some (qD (l.foldl (· + ·) 0), s) := by
  refine def_eq (fun s => ?_) s
  refine wp_def rfl ?_
  simp [g_total, List.replicate, cZ, hd]
  refine wp_rest qD (fun rest ρ s' => s' = s ∧ ∃ (acc : Rat) (x2 : Slot), BdT acc rest ∧ rest.foldl (· + ·) acc = l.foldl (· + ·) 0 ∧ ρ = [.sh d, .sh (qD acc), x2]) l
    (fun x xs ρ s' hJ => ?_) (fun ρ s' hJ => ?_) ⟨rfl, 0, .un, h, rfl, rfl⟩
  · obtain ⟨rfl, acc, x2, hb, hf, rfl⟩ := hJ
    obtain ⟨b1, b2, b3⟩ := hb
    refine ⟨_, rfl, ?_⟩
    simp [wp_eq (plus_eq b1 b2)]
    exact ⟨_, b3, hf, rfl⟩
  · obtain ⟨rfl, acc, x2, hb, hf, rfl⟩ := hJ
    have hf : acc = l.foldl (· + ·) 0 := hf
    subst hf
    simp
/-! ### what is owed behind each round -/
def bal (u : Rat) : Rat → List Rat → List Rat
  | _, [] => []
  | l, p :: ps => (l * u - p) :: bal u (l * u - p) ps
def BdB (u : Rat) : Rat → List Rat → Prop
  | _, [] => True
  | l, p :: ps => Sz 3900 l ∧ Sz 4000 p ∧ BdB u (l * u - p) ps
theorem bal_len (u : Rat) : ∀ (l : Rat) (ps : List Rat), (bal u l ps).length = ps.length
  | _, [] => rfl
  | l, p :: ps => by show _ + 1 = _ + 1; rw [bal_len u _ ps]
theorem balances_eq {a : Int} (ha : 0 ≤ a) {r : Rat} (R : Rt r) {ps : List Rat} (h : BdB (1 + r) (a : Rat) ps) (hl : ps.length ≤ 24) (s : DS) :
    m_balances [.int a, qD r, .tup (ps.map qD)] s = some (.tup ((bal (1 + r) (a : Rat) ps).map qD), s) := by
  refine def_eq (fun s => ?_) s
  refine wp_def rfl ?_
  have hmx : max2D [.int 1, .int (ps.length : Nat)] = some (.int (max 1 ps.length : Nat)) := by rw [max2D_ii]; congr 2; omega
  have hmx2 : max (1 : Int) (ps.length : Nat) = (max 1 ps.length : Nat) := by omega
  have hlo := loan_eq ha R (n := max 1 ps.length) (by omega) (by omega)
  have hbl := bal_len (1 + r) (a : Rat) ps
  simp [g_balances, List.replicate, hmx2, wp_eq hlo, wp_eq (frac1 a), SZ_eq, cO]
  refine wp_rest qD (fun rest ρ s' => s' = s ∧ ∃ (l : Rat) (found : List Rat) (x5 : Slot), BdB (1 + r) l rest ∧ found ++ bal (1 + r) l rest = bal (1 + r) (a : Rat) ps ∧ ρ = [.sh (.int a), .sh (qD r), .sh (.tup (ps.map qD)), .sh (qD l), .ow (found.map qD), x5]) ps
    (fun x xs ρ s' hJ => ?_) (fun ρ s' hJ => ?_) ⟨rfl, _, [], .un, h, rfl, rfl⟩
  · obtain ⟨rfl, l, found, x5, hb, hf, rfl⟩ := hJ
    obtain ⟨b1, b2, b3⟩ := hb
    have t1 := times_eq (b1.mono (by decide : 3900 ≤ 4000)) (R.szu.mono (by decide : 10 ≤ 4000))
    have t2 := minus_eq ((b1.mul R.szu).mono (by decide : 3910 ≤ 4000)) b2
    have hlen := congrArg List.length hf
    rw [List.length_append, hbl] at hlen
    refine ⟨_, rfl, ?_⟩
    simp [wp_eq (u_eq R), wp_eq t1, wp_eq t2]
    refine ⟨_, appU_eq (by simp; omega), l * (1 + r) - x, b3, found ++ [l * (1 + r) - x], ?_, rfl, by rw [List.map_append]; rfl⟩
    rw [← hf, List.append_assoc]; rfl
  · obtain ⟨rfl, l, found, x5, hb, hf, rfl⟩ := hJ
    have hf : found = bal (1 + r) (a : Rat) ps := by simpa [bal] using hf
    subst hf
    simp
/-! ### powers of the factor, and their sums -/
def pw (r : Rat) : Nat → Rat
  | 0 => 1
  | k + 1 => pw r k / (1 + r)
def Wh (r : Rat) : Nat → Rat
  | 0 => 0
  | k + 1 => Wh r k + pw r (k + 1)
theorem pw_sz {r : Rat} (R : Rt r) : ∀ k, Sz (1 + 10 * k) (pw r k)
  | 0 => Sz1
  | k + 1 => ((pw_sz R k).div R.szu R.une).mono (by omega)
theorem Wh_sz {r : Rat} (R : Rt r) : ∀ k, k ≤ 10 → Sz (1 + 7 * k + 5 * (k * k)) (Wh r k)
  | 0, _ => Sz0
  | k + 1, h => ((Wh_sz R k (by omega)).add (pw_sz R (k + 1))).mono (by
    have : (k + 1) * (k + 1) = k * k + 2 * k + 1 := by grind
    omega)
theorem Wh_sz' {r : Rat} (R : Rt r) {k : Nat} (h : k ≤ 10) : Sz 571 (Wh r k) := (Wh_sz R k h).mono (by
  have : k * k ≤ 10 * 10 := Nat.mul_le_mul h h
  omega)
theorem pw_pos {r : Rat} (R : Rt r) : ∀ k, 0 < pw r k
  | 0 => by show (0 : Rat) < 1; decide
  | k + 1 => by
    have h1 := pw_pos R k
    have h2 : 0 < 1 + r := by have := R.nn; grind
    show 0 < pw r k / (1 + r)
    rw [Rat.div_def]
    exact Rat.mul_pos h1 (Rat.inv_pos.mpr h2)
theorem pw_step {r : Rat} (R : Rt r) (k : Nat) : pw r (k + 1) * (1 + r) = pw r k := by
  show pw r k / (1 + r) * (1 + r) = _
  exact Rat.div_mul_cancel R.une
theorem pw_le {r : Rat} (R : Rt r) (k : Nat) : pw r (k + 1) ≤ pw r k := by
  have h1 := pw_step R k
  have h2 := pw_pos R (k + 1)
  have h3 := R.nn
  have h4 := Rat.mul_nonneg (Rat.le_of_lt h2) h3
  grind
theorem Wh_nn {r : Rat} (R : Rt r) : ∀ k, 0 ≤ Wh r k
  | 0 => by show (0 : Rat) ≤ 0; decide
  | k + 1 => by
    have := Wh_nn R k
    have := pw_pos R (k + 1)
    show 0 ≤ Wh r k + pw r (k + 1)
    grind
theorem Wh_pos {r : Rat} (R : Rt r) {k : Nat} (h : 1 ≤ k) : 0 < Wh r k := by
  obtain ⟨j, rfl⟩ : ∃ j, k = j + 1 := ⟨k - 1, by omega⟩
  have := Wh_nn R j
  have := pw_pos R (j + 1)
  show 0 < Wh r j + pw r (j + 1)
  grind
theorem Wh_u {r : Rat} (R : Rt r) : ∀ k, Wh r (k + 1) * (1 + r) = 1 + Wh r k
  | 0 => by
    have := pw_step R 0
    show (0 + pw r 1) * (1 + r) = 1 + 0
    have h : pw r 0 = 1 := rfl
    grind
  | k + 1 => by
    have h1 := Wh_u R k
    have h2 := pw_step R (k + 1)
    show (Wh r (k + 1) + pw r (k + 2)) * (1 + r) = 1 + (Wh r k + pw r (k + 1))
    grind
theorem Wh_r {r : Rat} (R : Rt r) (k : Nat) : Wh r k * r = 1 - pw r k := by
  cases k with
  | zero => show (0 : Rat) * r = 1 - 1; grind
  | succ k =>
    have h1 := Wh_u R k
    have h2 : Wh r (k + 1) = Wh r k + pw r (k + 1) := rfl
    grind
theorem payment_eq {a : Int} (ha : 0 ≤ a) (hs : a.natAbs < 2 ^ 10) {r : Rat} (R : Rt r) {n : Nat} (h1 : 1 ≤ n) (h2 : n ≤ 10) (s : DS) :
    m_equal_payment [.int a, qD r, .int (n : Nat)] s = some (qD ((a : Rat) / Wh r n), s) := by
  refine def_eq (fun s => ?_) s
  refine wp_def rfl ?_
  have hlo := loan_eq ha R h1 (by omega : n ≤ 24)
  have hr : rng1D [.int (n : Nat)] = some ((List.range n).map EnQ.e) := rng1_n (by omega)
  have hW := Wh_pos R h1
  have ho := over_eq ((Sz.int hs (by decide)).mono (by decide : 10 ≤ 4000)) ((Wh_sz' R h2).mono (by decide : 571 ≤ 4000)) (by grind)
  simp [g_equal_payment, List.replicate, wp_eq hlo, hr, cZ, cO]
  refine wp_rest EnQ.e (fun rest ρ s' => s' = s ∧ ∃ (k : Nat) (x5 : Slot), k + rest.length = n ∧ ρ = [.sh (.int a), .sh (qD r), .sh (.int (n : Nat)), .sh (qD (Wh r k)), .sh (qD (pw r k)), x5]) (List.range n)
    (fun x xs ρ s' hJ => ?_) (fun ρ s' hJ => ?_) ⟨rfl, 0, .un, by simp, rfl⟩
  · obtain ⟨rfl, k, x5, hk, rfl⟩ := hJ
    rw [List.length_cons] at hk
    have t1 := over_eq ((pw_sz R k).mono (by omega : 1 + 10 * k ≤ 4000)) (R.szu.mono (by decide : 10 ≤ 4000)) R.une
    have t2 := plus_eq ((Wh_sz' R (k := k) (by omega)).mono (by decide : 571 ≤ 4000)) ((pw_sz R (k + 1)).mono (by omega : 1 + 10 * (k + 1) ≤ 4000))
    refine ⟨_, rfl, ?_⟩
    simp [wp_eq (u_eq R), wp_eq t1]
    refine (wp_eq t2).mpr ?_
    exact ⟨rfl, k + 1, by omega, rfl, rfl⟩
  · obtain ⟨rfl, k, x5, hk, rfl⟩ := hJ
    have hk : k = n := by simpa using hk
    subst hk
    simp [wp_eq (frac1 a), wp_eq ho]
end Lw
set_option maxHeartbeats 1000000
set_option exponentiation.threshold 64
namespace Lw
open PySem PySem.Spec PyProof.Rows L2 Pu
/-- g n, .., g 1 -/
def dnL {α : Type} (g : Nat → α) : Nat → List α
  | 0 => []
  | n + 1 => g (n + 1) :: dnL g n
theorem dnL_map {α β : Type} (g : Nat → α) (h : α → β) : ∀ n, (dnL g n).map h = dnL (fun j => h (g j)) n
  | 0 => rfl
  | n + 1 => by show h _ :: _ = h _ :: _; rw [dnL_map g h n]
theorem dnL_get {α : Type} (g : Nat → α) : ∀ (n k : Nat), k < n → (dnL g n)[k]? = some (g (n - k))
  | n + 1, 0, _ => rfl
  | n + 1, k + 1, h => by
    show (dnL g n)[k]? = _
    rw [dnL_get g n k (by omega), show n + 1 - (k + 1) = n - k by omega]
theorem dnL_len {α : Type} (g : Nat → α) : ∀ n, (dnL g n).length = n
  | 0 => rfl
  | n + 1 => by show _ + 1 = _; rw [dnL_len g n]
theorem dnL_congr {α : Type} {g h : Nat → α} (e : ∀ j, g j = h j) (n : Nat) : dnL g n = dnL h n := by rw [show g = h from funext e]
/-- owed: what is paid back in equal parts -/
theorem bal_equal {r : Rat} (R : Rt r) (p : Rat) : ∀ n, ((p * Wh r n) :: bal (1 + r) (p * Wh r n) (List.replicate n p)).dropLast = dnL (fun j => p * Wh r j) n ∧ (p * Wh r n) * (1 + r) = (p * Wh r n) * (1 + r)
  | 0 => ⟨rfl, rfl⟩
  | n + 1 => by
    have ih := (bal_equal R p n).1
    have e : p * Wh r (n + 1) * (1 + r) - p = p * Wh r n := by
      have := Wh_u R n
      grind
    refine ⟨?_, rfl⟩
    rw [List.replicate_succ]
    show (p * Wh r (n + 1) :: (p * Wh r (n + 1) * (1 + r) - p) :: bal (1 + r) (p * Wh r (n + 1) * (1 + r) - p) (List.replicate n p)).dropLast = p * Wh r (n + 1) :: _
    rw [e]
    show p * Wh r (n + 1) :: (p * Wh r n :: bal (1 + r) (p * Wh r n) (List.replicate n p)).dropLast = _
    rw [ih]
theorem bdB_equal {r : Rat} (R : Rt r) {p : Rat} (hp : Sz 581 p) : ∀ n, n ≤ 10 → BdB (1 + r) (p * Wh r n) (List.replicate n p)
  | 0, _ => trivial
  | n + 1, h => by
    have e : p * Wh r (n + 1) * (1 + r) - p = p * Wh r n := by
      have := Wh_u R n
      grind
    rw [List.replicate_succ]
    refine ⟨(hp.mul (Wh_sz' R h)).mono (by decide), hp.mono (by decide), ?_⟩
    rw [e]; exact bdB_equal R hp n (by omega)
theorem nat_sz {k : Nat} (h : k ≤ 10) : Sz 4 ((k : Nat) : Rat) := by
  have : ((k : Nat) : Rat) = (((k : Nat) : Int) : Rat) := (Rat.intCast_natCast k).symm
  rw [this]
  exact Sz.int (by simp; omega) (by decide)
/-- all interest together -/
theorem bdT_int {r : Rat} (R : Rt r) {p : Rat} (hp : Sz 581 p) {N : Nat} (hN : N ≤ 10) : ∀ n, n ≤ N → BdT (p * (((N - n : Nat) : Rat) - (Wh r N - Wh r n))) (dnL (fun j => p * (1 - pw r j)) n) ∧
    (dnL (fun j => p * (1 - pw r j)) n).foldl (· + ·) (p * (((N - n : Nat) : Rat) - (Wh r N - Wh r n))) = p * (((N : Nat) : Rat) - Wh r N)
  | 0, _ => ⟨trivial, by show p * _ = _; have : Wh r 0 = 0 := rfl; rw [this, Nat.sub_zero]; grind⟩
  | n + 1, h => by
    have ih := bdT_int R hp hN n (by omega)
    have e : p * (((N - (n + 1) : Nat) : Rat) - (Wh r N - Wh r (n + 1))) + p * (1 - pw r (n + 1)) = p * (((N - n : Nat) : Rat) - (Wh r N - Wh r n)) := by
      have h1 : Wh r (n + 1) = Wh r n + pw r (n + 1) := rfl
      have h2 : ((N - n : Nat) : Rat) = ((N - (n + 1) : Nat) : Rat) + 1 := by
        rw [show N - n = (N - (n + 1)) + 1 by omega, Rat.natCast_add]; rfl
      rw [h1, h2]; grind
    have s1 : Sz 4000 (p * (((N - (n + 1) : Nat) : Rat) - (Wh r N - Wh r (n + 1)))) := (hp.mul ((nat_sz (by omega)).sub ((Wh_sz' R hN).sub (Wh_sz' R (by omega))))).mono (by decide)
    have s2 : Sz 4000 (p * (1 - pw r (n + 1))) := (hp.mul (Sz1.sub (pw_sz R (n + 1)))).mono (by omega)
    refine ⟨⟨s1, s2, ?_⟩, ?_⟩
    · rw [e]; exact ih.1
    · show (dnL _ n).foldl (· + ·) (_ + _) = _
      rw [e]; exact ih.2
theorem bdT_pri {r : Rat} (R : Rt r) {p : Rat} (hp : Sz 581 p) {N : Nat} (hN : N ≤ 10) : ∀ n, n ≤ N → BdT (p * (Wh r N - Wh r n)) (dnL (fun j => p * pw r j) n) ∧ (dnL (fun j => p * pw r j) n).foldl (· + ·) (p * (Wh r N - Wh r n)) = p * Wh r N
  | 0, _ => ⟨trivial, by show p * _ = _; have : Wh r 0 = 0 := rfl; rw [this]; grind⟩
  | n + 1, h => by
    have ih := bdT_pri R hp hN n (by omega)
    have e : p * (Wh r N - Wh r (n + 1)) + p * pw r (n + 1) = p * (Wh r N - Wh r n) := by
      have h1 : Wh r (n + 1) = Wh r n + pw r (n + 1) := rfl
      rw [h1]; grind
    have s1 : Sz 4000 (p * (Wh r N - Wh r (n + 1))) := (hp.mul ((Wh_sz' R hN).sub (Wh_sz' R (by omega)))).mono (by decide)
    have s2 : Sz 4000 (p * pw r (n + 1)) := (hp.mul (pw_sz R (n + 1))).mono (by omega)
    refine ⟨⟨s1, s2, ?_⟩, ?_⟩
    · rw [e]; exact ih.1
    · show (dnL _ n).foldl (· + ·) (_ + _) = _
      rw [e]; exact ih.2
theorem bdT_int0 {r : Rat} (R : Rt r) {p : Rat} (hp : Sz 581 p) {N : Nat} (hN : N ≤ 10) : BdT 0 (dnL (fun j => p * (1 - pw r j)) N) ∧ (dnL (fun j => p * (1 - pw r j)) N).foldl (· + ·) 0 = p * (((N : Nat) : Rat) - Wh r N) := by
  have := bdT_int R hp hN N (Nat.le_refl _)
  have e : p * (((N - N : Nat) : Rat) - (Wh r N - Wh r N)) = 0 := by rw [Nat.sub_self]; grind
  rwa [e] at this
theorem bdT_pri0 {r : Rat} (R : Rt r) {p : Rat} (hp : Sz 581 p) {N : Nat} (hN : N ≤ 10) : BdT 0 (dnL (fun j => p * pw r j) N) ∧ (dnL (fun j => p * pw r j) N).foldl (· + ·) 0 = p * Wh r N := by
  have := bdT_pri R hp hN N (Nat.le_refl _)
  have e : p * (Wh r N - Wh r N) = 0 := by grind
  rwa [e] at this
theorem pay_sz {a : Int} (hs : a.natAbs < 2 ^ 10) {r : Rat} (R : Rt r) {n : Nat} (h1 : 1 ≤ n) (h2 : n ≤ 10) : Sz 581 ((a : Rat) / Wh r n) := ((Sz.int hs (by decide)).div (Wh_sz' R h2) (by have := Wh_pos R h1; grind)).mono (by decide)
theorem whole_int_eq {a : Int} (ha : 0 ≤ a) {r : Rat} (R : Rt r) {n : Nat} (h2 : n ≤ 10) {p : Rat} (hp : Sz 581 p) (e : p * Wh r n = (a : Rat)) (s : DS) :
    m_whole_interest [.int a, qD r, .tup (List.replicate n (qD p))] s = some (qD (p * (((n : Nat) : Rat) - Wh r n)), s) := by
  refine def_eq (fun s => ?_) s
  refine wp_def rfl ?_
  have hb := balances_eq ha R (ps := List.replicate n p) (by rw [← e]; exact bdB_equal R hp n h2) (by simp; omega)
  rw [List.map_replicate] at hb
  have hlen : (bal (1 + r) (a : Rat) (List.replicate n p)).length = n := by rw [bal_len]; simp
  have ad : addD (.tup [qD (a : Rat)]) (.tup ((bal (1 + r) (a : Rat) (List.replicate n p)).map qD)) = some (.tup (((a : Rat) :: bal (1 + r) (a : Rat) (List.replicate n p)).map qD)) := by
    rw [addD_tt (by simp [hlen]; omega)]; rfl
  have hdrop := (bal_equal R p n).1
  rw [e] at hdrop
  have hsl : slD (.tup (((a : Rat) :: bal (1 + r) (a : Rat) (List.replicate n p)).map qD)) none (some (-1)) = some (.tup ((dnL (fun j => p * Wh r j) n).map qD)) := by
    show some (D.tup (cutD _ none (some (-1)))) = _
    rw [cut_init, ← hdrop, List.map_dropLast]
  obtain ⟨t1, t2⟩ := bdT_int0 R hp h2
  have ht := total_eq t1 (d := .lst ((dnL (fun j => p * (1 - pw r j)) n).map qD)) rfl
  rw [t2] at ht
  generalize (((a : Rat) :: bal (1 + r) (a : Rat) (List.replicate n p)).map qD) = L at *
  simp [g_whole_interest, List.replicate, wp_eq (frac1 a), wp_eq hb, ad, SZ_eq, hsl, wipeR]
  have hmap : (dnL (fun j => p * Wh r j) n).map qD = (dnL (fun j => j) n).map (fun j => qD (p * Wh r j)) := by rw [dnL_map, dnL_map]
  rw [hmap]
  refine wp_compT (f := fun j : Nat => qD (p * (1 - pw r j))) _ (fun j hj => ⟨_, rfl, fun s => ?_⟩) ?_
  · have hj10 : j ≤ n := by
      have key : ∀ n, j ∈ dnL (fun j => j) n → j ≤ n := fun n => by
        induction n with
        | zero => intro h; cases h
        | succ n ih =>
          intro h
          rcases List.mem_cons.mp h with h | h
          · have h : j = n + 1 := h
            omega
          · have := ih h; omega
      exact key n hj
    have e2 : p * Wh r j * r = p * (1 - pw r j) := by have := Wh_r R j; grind
    have t := times_eq ((hp.mul (Wh_sz' R (k := j) (by omega))).mono (by decide : 581 + 571 ≤ 4000)) (R.sz.mono (by decide : 8 ≤ 4000))
    rw [e2] at t
    simp [wp_eq t]
  · rw [dnL_map] at *
    simp [wp_eq ht]
/-! ### parts -/
def rowP (r p : Rat) (j : Nat) : D := .tup [qD (p * (1 - pw r j)), qD (p * pw r j)]
theorem parts_eq {a : Int} (ha : 0 ≤ a) (hs : a.natAbs < 2 ^ 10) {r : Rat} (R : Rt r) {n : Nat} (h1 : 1 ≤ n) (h2 : n ≤ 10) {p : Rat} (ep : p = (a : Rat) / Wh r n) (s : DS) :
    m_parts [.int a, qD r, .int (n : Nat)] s = some (.tup (dnL (rowP r p) n), s) := by
  refine def_eq (fun s => ?_) s
  refine wp_def rfl ?_
  have hp : Sz 581 p := by rw [ep]; exact pay_sz hs R h1 h2
  have e : p * Wh r n = (a : Rat) := by rw [ep]; exact Rat.div_mul_cancel (by have := Wh_pos R h1; grind)
  have hpay := payment_eq ha hs R h1 h2
  rw [← ep] at hpay
  have hr : rng1D [.int (n : Nat)] = some ((List.range n).map EnQ.e) := rng1_n (by omega)
  simp [g_parts, List.replicate, wp_eq hpay, wp_eq (frac1 a), SZ_eq, hr]
  refine wp_rest EnQ.e (fun rest ρ s' => s' = s ∧ ∃ (k : Nat) (found : List D) (x6 x7 : Slot), k = rest.length ∧ k ≤ n ∧ found ++ dnL (rowP r p) k = dnL (rowP r p) n ∧ ρ = [.sh (.int a), .sh (qD r), .sh (.int (n : Nat)), .sh (qD p), .sh (qD (p * Wh r k)), .ow found, x6, x7]) (List.range n)
    (fun x xs ρ s' hJ => ?_) (fun ρ s' hJ => ?_) ⟨rfl, n, [], .un, .un, by simp, Nat.le_refl _, rfl, by rw [e]⟩
  · obtain ⟨rfl, k, found, x6, x7, hk, hkn, hf, rfl⟩ := hJ
    rw [List.length_cons] at hk
    subst hk
    have w := hp.mul (Wh_sz' R (k := xs.length + 1) (by omega))
    have e1 : p * Wh r (xs.length + 1) * r = p * (1 - pw r (xs.length + 1)) := by have := Wh_r R (xs.length + 1); grind
    have t1 := times_eq (w.mono (by decide : 581 + 571 ≤ 4000)) (R.sz.mono (by decide : 8 ≤ 4000))
    rw [e1] at t1
    have si : Sz 4000 (p * (1 - pw r (xs.length + 1))) := (hp.mul (Sz1.sub (pw_sz R (xs.length + 1)))).mono (by omega)
    have e2 : p - p * (1 - pw r (xs.length + 1)) = p * pw r (xs.length + 1) := by grind
    have t2 := minus_eq (hp.mono (by decide : 581 ≤ 4000)) si
    rw [e2] at t2
    have sp : Sz 4000 (p * pw r (xs.length + 1)) := (hp.mul (pw_sz R (xs.length + 1))).mono (by omega)
    have e3 : p * Wh r (xs.length + 1) - p * pw r (xs.length + 1) = p * Wh r xs.length := by
      have : Wh r (xs.length + 1) = Wh r xs.length + pw r (xs.length + 1) := rfl
      rw [this]; grind
    have t3 := minus_eq (w.mono (by decide : 581 + 571 ≤ 4000)) sp
    rw [e3] at t3
    have hlen := congrArg List.length hf
    rw [List.length_append, dnL_len, dnL_len] at hlen
    refine ⟨_, rfl, ?_⟩
    simp [wp_eq t1, wp_eq t2, SZ_eq]
    refine ⟨_, appU_eq (by omega), ?_⟩
    simp [wp_eq t2]
    refine (wp_eq t3).mpr ?_
    exact ⟨rfl, by omega, hf, rfl⟩
  · obtain ⟨rfl, k, found, x6, x7, hk, hkn, hf, rfl⟩ := hJ
    have hk : k = 0 := by simpa using hk
    subst hk
    have hf : found = dnL (rowP r p) n := by simpa [dnL] using hf
    subst hf
    simp
end Lw
set_option maxHeartbeats 1000000
set_option exponentiation.threshold 64
namespace Lw
open PySem PySem.Spec PyProof.Rows L2 Pu
/-! ### worth now -/
abbrev fD (fl : List Int) : D := .tup (fl.map EnQ.e)
def wvS (r : Rat) : Nat → List Int → Rat
  | _, [] => 0
  | k, c :: cs => (c : Rat) * pw r k + wvS r (k + 1) cs
structure Fl (fl : List Int) : Prop where
  len : fl.length ≤ 6
  sm : ∀ c ∈ fl, c.natAbs < 2 ^ 6
theorem worth_now_eq {r : Rat} (R : Rt r) {fl : List Int} (F : Fl fl) (s : DS) : m_worth_now [qD r, fD fl] s = some (qD (wvS r 0 fl), s) := by
  refine def_eq (fun s => ?_) s
  refine wp_def rfl ?_
  have hl := F.len
  have hmx : max (1 : Int) (fl.length : Nat) = (max 1 fl.length : Nat) := by omega
  have hlo := loan_eq (a := 0) (by decide) R (n := max 1 fl.length) (by omega) (by omega)
  simp [g_worth_now, List.replicate, hmx, wp_eq hlo, cZ, cO]
  refine wp_rest EnQ.e (fun rest ρ s' => s' = s ∧ (∀ c ∈ rest, c.natAbs < 2 ^ 6) ∧ ∃ (k : Nat) (acc : Rat) (x4 : Slot), k + rest.length = fl.length ∧ Sz (1 + 70 * k) acc ∧ acc + wvS r k rest = wvS r 0 fl ∧ ρ = [.sh (qD r), .sh (fD fl), .sh (qD acc), .sh (qD (pw r k)), x4]) fl
    (fun c cs ρ s' hJ => ?_) (fun ρ s' hJ => ?_) ⟨rfl, F.sm, 0, 0, .un, by omega, Sz0, by grind, rfl⟩
  · obtain ⟨rfl, hsm, k, acc, x4, hk, ha, hf, rfl⟩ := hJ
    rw [List.length_cons] at hk
    have hc := Sz.int (hsm c (by simp)) (by decide : 1 ≤ 6)
    have t1 := times_eq (hc.mono (by decide : 6 ≤ 4000)) ((pw_sz R k).mono (by omega : 1 + 10 * k ≤ 4000))
    have t2 := plus_eq (ha.mono (by omega : 1 + 70 * k ≤ 4000)) ((hc.mul (pw_sz R k)).mono (by omega : 6 + (1 + 10 * k) ≤ 4000))
    have t3 := over_eq ((pw_sz R k).mono (by omega : 1 + 10 * k ≤ 4000)) (R.szu.mono (by decide : 10 ≤ 4000)) R.une
    refine ⟨_, rfl, ?_⟩
    simp [e_I, wp_eq (frac1 c), wp_eq t1, wp_eq t2, wp_eq (u_eq R), cO]
    refine (wp_eq t3).mpr ?_
    refine ⟨rfl, fun x hx => hsm x (by simp [hx]), k + 1, by omega, _, (ha.add (hc.mul (pw_sz R k))).mono (by omega), ?_, rfl, rfl⟩
    rw [← hf]
    show _ + _ = acc + ((c : Rat) * pw r k + wvS r (k + 1) cs)
    grind
  · obtain ⟨rfl, hsm, k, acc, x4, hk, ha, hf, rfl⟩ := hJ
    have hf : acc = wvS r 0 fl := by
      rw [← hf]; show acc = acc + 0; grind
    subst hf
    simp
theorem wv_sz {r : Rat} (R : Rt r) : ∀ (fl : List Int) (k : Nat), (∀ c ∈ fl, c.natAbs < 2 ^ 6) → k + fl.length ≤ 6 → Sz (1 + 70 * fl.length) (wvS r k fl)
  | [], k, _, _ => Sz0
  | c :: cs, k, h, hl => by
    have ih := wv_sz R cs (k + 1) (fun x hx => h x (by simp [hx])) (by simp at hl; omega)
    have hc := Sz.int (h c (by simp)) (by decide : 1 ≤ 6)
    simp at hl
    exact ((hc.mul (pw_sz R k)).add ih).mono (by simp; omega)
theorem wv_sz' {r : Rat} (R : Rt r) {fl : List Int} (F : Fl fl) : Sz 4000 (wvS r 0 fl) := (wv_sz R fl 0 F.sm (by have := F.len; omega)).mono (by have := F.len; omega)
/-! ### the cheapest of two -/
theorem cheapest_eq {r : Rat} (R : Rt r) {f g : List Int} (F : Fl f) (G : Fl g) (s : DS) : m_cheapest [qD r, .tup [fD f, fD g]] s = some (if wvS r 0 g < wvS r 0 f then .tup [.int 1, qD (wvS r 0 g)] else .tup [.int 0, qD (wvS r 0 f)], s) := by
  refine def_eq (fun s => ?_) s
  refine wp_def rfl ?_
  have hc := cmp_eq (wv_sz' R G) (wv_sz' R F)
  have nn : ∀ z : D, isNonD (.tup [.int 0, z]) = false := fun _ => rfl
  have nn0 : isNonD D.non = true := rfl
  have i1 : ∀ z : D, ixD (.tup [.int 0, z]) (.int 1) = some z := fun _ => rfl
  have hen : enD [.tup [fD f, fD g]] = some [.tup [.int 0, fD f], .tup [.int 1, fD g]] := rfl
  simp [g_cheapest, List.replicate, hen, loopM, wp_eq (worth_now_eq R F), wp_eq (worth_now_eq R G), nn, nn0, SZ_eq, i1, wp_eq hc, -ixD_tn]
  unfold cmpR
  by_cases h : wvS r 0 g < wvS r 0 f
  · simp [h]
  · simp [h]
    split <;> simp
end Lw
set_option maxHeartbeats 1000000
set_option exponentiation.threshold 64
namespace Lw
open PySem PySem.Spec PyProof.Rows L2 Pu
theorem cmp_lt0 (a b : Rat) : cmpR a b < 0 ↔ a < b := by
  unfold cmpR
  by_cases h : a < b
  · simp [h]
  · by_cases h2 : b < a <;> simp [h, h2]
theorem cmp_gt0 (a b : Rat) : 0 < cmpR a b ↔ b < a := by
  unfold cmpR
  by_cases h : a < b
  · have : ¬ b < a := by grind
    simp [h, this]
  · by_cases h2 : b < a <;> simp [h, h2]
theorem cmp_e0 (a b : Rat) : cmpR a b = 0 ↔ a = b := by
  unfold cmpR
  by_cases h : a < b
  · have : ¬ a = b := by grind
    simp [h, this]
  · by_cases h2 : b < a
    · have : ¬ a = b := by grind
      simp [h, h2, this]
    · have : a = b := by grind
      simp [h, h2, this]
theorem cmp_3 (a b : Rat) : cmpR a b = -1 ∨ cmpR a b = 0 ∨ cmpR a b = 1 := by
  unfold cmpR; split; exact .inl rfl; split; exact .inr (.inr rfl); exact .inr (.inl rfl)
theorem ne_Q (a b : Rat) : neD (qD a) (qD b) = some (.bl (!decide (a = b))) := ne_en (α := Rat) (by decide) a b
theorem eq_Q (a b : Rat) : eqD (qD a) (qD b) = some (.bl (decide (a = b))) := eq_en (α := Rat) (by decide) a b
/-! ### rounds needed -/
def Lk (a u p : Rat) : Nat → Rat
  | 0 => a
  | k + 1 => Lk a u p k * u - p
def RN (a u p : Rat) (d : D) : Prop := (d = .tup [.int 0, qD 0] ∧ a = 0) ∨ ∃ k : Nat, (∀ i, i < k → Lk a u p i * u - p < Lk a u p i ∧ p < Lk a u p i * u) ∧
  ((d = .non ∧ (24 ≤ k ∨ ¬ Lk a u p k * u - p < Lk a u p k)) ∨ (d = .tup [.int ((k : Int) + 1), qD (Lk a u p k * u)] ∧ k < 24 ∧ Lk a u p k * u - p < Lk a u p k ∧ Lk a u p k * u ≤ p ∧ Sz 460 (Lk a u p k * u)))
theorem Lk_sz {a : Rat} (ha : Sz 10 a) {r : Rat} (R : Rt r) {p : Rat} (hp : Sz 7 p) : ∀ k, Sz (10 + 18 * k) (Lk a (1 + r) p k)
  | 0 => ha
  | k + 1 => (((Lk_sz ha R hp k).mul R.szu).sub hp).mono (by omega)
theorem rounds_eq {a : Int} (ha : 0 ≤ a) (hs : a.natAbs < 2 ^ 10) {r : Rat} (R : Rt r) {pm : Int} (hp : pm.natAbs < 2 ^ 7) (s : DS) :
    wp (m_rounds_needed [.int a, qD r, .int pm]) s fun d s' => s' = s ∧ RN (a : Rat) (1 + r) (pm : Rat) d := by
  refine wp_def rfl ?_
  have hlo := loan_eq ha R (n := 1) (by decide) (by decide)
  have hA := Sz.int hs (by decide : 1 ≤ 10)
  have hP := Sz.int hp (by decide : 1 ≤ 7)
  have hlo' : ∀ s, m_check_loan [.int a, qD r, .int 1] s = some (.non, s) := hlo
  simp [g_rounds_needed, List.replicate, wp_eq hlo', wp_eq (frac1 a), cZ, cO, c_MOST_ROUNDS]
  refine wp_whl (J := ()) (fun n ρ s' => s' = s ∧ ∃ (k : Nat) (x5 : Slot), n = 25 - k ∧ k ≤ 24 ∧ (∀ i, i < k → Lk a (1 + r) pm i * (1 + r) - pm < Lk a (1 + r) pm i ∧ (pm : Rat) < Lk a (1 + r) pm i * (1 + r)) ∧ ρ = [.sh (.int a), .sh (qD r), .sh (.int pm), .sh (qD (Lk a (1 + r) pm k)), .sh (.int (k : Nat)), x5]) (fun n ρ s' hJ => ?_) 25 (by decide) ⟨rfl, 0, .un, rfl, by decide, fun i hi => by omega, rfl⟩
  obtain ⟨rfl, k, x5, hn, hk, hc, rfl⟩ := hJ
  have sk := Lk_sz hA R hP k
  have sg := sk.mul R.szu
  have t1 := times_eq (sk.mono (by omega : 10 + 18 * k ≤ 4000)) (R.szu.mono (by decide : 10 ≤ 4000))
  have t2 := minus_eq (sg.mono (by omega : 10 + 18 * k + 10 ≤ 4000)) (hP.mono (by decide : 7 ≤ 4000))
  have t3 := cmp_eq ((sg.sub hP).mono (by omega : 10 + 18 * k + 10 + 7 + 1 ≤ 4000)) (sk.mono (by omega : 10 + 18 * k ≤ 4000))
  have t4 := cmp_eq (sg.mono (by omega : 10 + 18 * k + 10 ≤ 4000)) (hP.mono (by decide : 7 ≤ 4000))
  by_cases h0 : Lk a (1 + r) pm k = 0
  · -- only at the start
    have hk0 : k = 0 := by
      cases k with
      | zero => rfl
      | succ k =>
        have := (hc k (by omega)).2
        have e : Lk (a : Rat) (1 + r) pm (k + 1) = Lk (a : Rat) (1 + r) pm k * (1 + r) - pm := rfl
        rw [e] at h0
        grind
    subst hk0
    simp [ne_Q, h0, SZ_eq]
    exact .inl ⟨rfl, h0⟩
  · simp [ne_Q, h0, wp_eq (u_eq R), wp_eq t1, wp_eq (frac1 pm), wp_eq t2, wp_eq t3, wp_eq t4, SZ_eq]
    by_cases h24 : 24 ≤ k
    · have h24' : (24 : Int) ≤ (k : Nat) := by omega
      simp [h24', h24]
      exact .inr (.inr ⟨k, hc, .inl ⟨rfl, .inl h24⟩⟩)
    · have h24' : ¬ (24 : Int) ≤ (k : Nat) := by omega
      by_cases hd : Lk a (1 + r) pm k * (1 + r) - pm < Lk a (1 + r) pm k
      · have c1 := (cmp_lt0 _ _).mpr hd
        have c1' : ¬ 0 ≤ cmpR (Lk a (1 + r) pm k * (1 + r) - pm) (Lk a (1 + r) pm k) := by omega
        by_cases he : (pm : Rat) < Lk a (1 + r) pm k * (1 + r)
        · have c2 := (cmp_gt0 _ _).mpr he
          have c2' : ¬ cmpR (Lk a (1 + r) pm k * (1 + r)) pm ≤ 0 := by omega
          simp [h24', h24, c1, c1', c2, c2']
          refine ⟨by omega, 24 - k, by omega, k + 1, by omega, by omega, fun i hi => ?_, rfl, rfl⟩
          by_cases e : i = k
          · subst e; exact ⟨hd, he⟩
          · exact hc i (by omega)
        · have c2 : ¬ 0 < cmpR (Lk a (1 + r) pm k * (1 + r)) pm := fun z => he ((cmp_gt0 _ _).mp z)
          have c2' : cmpR (Lk a (1 + r) pm k * (1 + r)) pm ≤ 0 := by omega
          simp [h24', h24, c1, c1', c2, c2']
          exact ⟨by omega, .inr ⟨k, hc, .inr ⟨rfl, by omega, hd, by grind, sg.mono (by omega)⟩⟩⟩
      · have c1 : ¬ cmpR (Lk a (1 + r) pm k * (1 + r) - pm) (Lk a (1 + r) pm k) < 0 := fun z => hd ((cmp_lt0 _ _).mp z)
        have c1' : 0 ≤ cmpR (Lk a (1 + r) pm k * (1 + r) - pm) (Lk a (1 + r) pm k) := by omega
        simp [h24', h24, c1, c1']
        exact ⟨by omega, .inr ⟨k, hc, .inl ⟨rfl, .inr hd⟩⟩⟩
/-! ### turning rates -/
def stp (v : Nat → Int) (st : Option Int × Nat) (k : Nat) : Option Int × Nat := (if v k = 0 then st.1 else some (v k), if v k = 0 then st.2 + 1 else if st.1 = some (0 - v k) then st.2 + 1 else st.2)
def q5 : Rat := ⟨1, 5, by decide, by decide⟩
theorem q5_sz : Sz 3 q5 := ⟨by decide, by decide⟩
theorem q5_pos : 0 < q5 := by
  have h : 0 ≤ q5 := Rat.num_nonneg.mp (by decide)
  have h2 : q5 ≠ 0 := fun z => by have := congrArg Rat.num z; revert this; decide
  grind
def r5 (k : Nat) : Rat := q5 * (k : Rat)
def sg5 (fl : List Int) (k : Nat) : Int := cmpR (wvS (r5 k) 0 fl) 0
theorem r5_rt {k : Nat} (h : k ≤ 15) : Rt (r5 k) := by
  have e : ((k : Nat) : Rat) = (((k : Nat) : Int) : Rat) := (Rat.intCast_natCast k).symm
  have h5 := q5_sz
  refine ⟨?_, ?_⟩
  · unfold r5
    have : (0 : Rat) ≤ (k : Rat) := by rw [e]; exact Rat.intCast_nonneg.mpr (by omega)
    exact Rat.mul_nonneg (Rat.le_of_lt q5_pos) this
  · unfold r5
    rw [e]
    exact (h5.mul (Sz.int (k := 4) (by simp; omega) (by decide))).mono (by decide)
theorem cS : D.tup [.int 1, .int 5] = qD q5 := rfl
theorem turning_eq {fl : List Int} (F : Fl fl) (h1 : 1 ≤ fl.length) (s : DS) : wp (m_turning_rates [fD fl, .tup [.int 1, .int 5], .int 15]) s fun d s' => s' = s ∧ ∃ L : List D, d = .tup L ∧ L.length = ((List.range 16).foldl (stp (sg5 fl)) (none, 0)).2 := by
  refine wp_def rfl ?_
  have hl := F.len
  have h5 := q5_sz
  have t0 := cmp_eq (h5.mono (by decide : 3 ≤ 4000)) (Sz0.mono (by decide : 1 ≤ 4000))
  have c0 : ¬ cmpR q5 0 ≤ 0 := by have := (cmp_gt0 q5 0).mpr q5_pos; omega
  have hr : rng1D [.int 16] = some ((List.range 16).map EnQ.e) := rng1_n (n := 16) (by decide)
  simp [g_turning_rates, List.replicate, c_MOST_ROUNDS, cS, cZ, wp_eq t0, c0, hr]
  refine ⟨by omega, by omega, ?_⟩
  refine wp_rest EnQ.e (fun rest ρ s' => s' = s ∧ (∀ k ∈ rest, k ≤ 15) ∧ ∃ (st : Option Int × Nat) (L : List D) (x5 x6 : Slot), L.length = st.2 ∧ st.2 + rest.length ≤ 16 ∧ rest.foldl (stp (sg5 fl)) st = (List.range 16).foldl (stp (sg5 fl)) (none, 0) ∧ ρ = [.sh (fD fl), .sh (qD q5), .sh (.int 15), .ow L, .sh (EnQ.e st.1), x5, x6]) (List.range 16)
    (fun k ks ρ s' hJ => ?_) (fun ρ s' hJ => ?_) ⟨rfl, fun k hk => by have := List.mem_range.mp hk; omega, (none, 0), [], .un, .un, rfl, by simp, rfl, rfl⟩
  · obtain ⟨rfl, hk, ⟨b, c⟩, L, x5, x6, hL, hcn, hf, rfl⟩ := hJ
    have hk0 := hk k (by simp)
    have hks : ∀ j ∈ ks, j ≤ 15 := fun j hj => hk j (by simp [hj])
    have R := r5_rt hk0
    have hkS : Sz 4 ((k : Int) : Rat) := Sz.int (k := 4) (by simp; omega) (by decide)
    have t1 := times_eq (h5.mono (by decide : 3 ≤ 4000)) (hkS.mono (by decide : 4 ≤ 4000))
    have e1 : q5 * ((k : Int) : Rat) = r5 k := by unfold r5; rw [Rat.intCast_natCast]
    rw [e1] at t1
    have t2 := cmp_eq (wv_sz' R F) (Sz0.mono (by decide : 1 ≤ 4000))
    have t2' : ∀ s, m_compare [qD (wvS (r5 k) 0 fl), qD 0] s = some (.int (sg5 fl k), s) := t2
    have fc := frac1 (k : Int)
    have ee : eqD (EnQ.e b) (.int (0 - sg5 fl k)) = some (.bl (decide (b = some (0 - sg5 fl k)))) := eq_en (α := Option Int) (by decide) b (some (0 - sg5 fl k))
    rw [List.foldl_cons] at hf
    rw [List.length_cons] at hcn
    have hL : L.length = c := hL
    have hcn : c + (ks.length + 1) ≤ 16 := hcn
    refine ⟨_, rfl, ?_⟩
    simp only [e_N]
    simp [wp_eq fc, wp_eq t1, wp_eq (worth_now_eq R F), cZ, wp_eq t2']
    by_cases h0 : sg5 fl k = 0
    · have hst : stp (sg5 fl) (b, c) k = (b, c + 1) := by unfold stp; simp [h0]
      rw [hst] at hf
      simp [h0, SZ_eq]
      exact ⟨L ++ [.tup [.int (k : Nat), .int (k : Nat)]], appU_eq (by rw [hL]; omega), hks, b, c + 1, _, by rw [List.length_append, hL]; rfl, by omega, hf, rfl, rfl⟩
    · by_cases hb : b = some (0 - sg5 fl k)
      · have hst : stp (sg5 fl) (b, c) k = (some (sg5 fl k), c + 1) := by unfold stp; simp [h0, hb]
        rw [hst] at hf
        rw [decide_eq_true hb] at ee
        simp at ee
        simp [h0, ee, SZ_eq]
        exact ⟨L ++ [.tup [.int ((k : Int) - 1), .int (k : Nat)]], appU_eq (by rw [hL]; omega), hks, some (sg5 fl k), c + 1, _, by rw [List.length_append, hL]; rfl, by omega, hf, rfl, rfl⟩
      · have hst : stp (sg5 fl) (b, c) k = (some (sg5 fl k), c) := by unfold stp; simp [h0]; intro z; exact absurd (by simpa using z) hb
        rw [hst] at hf
        rw [decide_eq_false hb] at ee
        simp at ee
        simp [h0, ee, SZ_eq]
        exact ⟨hks, some (sg5 fl k), c, L, hL, by omega, hf, rfl, rfl⟩
  · obtain ⟨rfl, hk, st, L, x5, x6, hL, hcn, hf, rfl⟩ := hJ
    have hf : st = (List.range 16).foldl (stp (sg5 fl)) (none, 0) := hf
    simp
    rw [hL, hf]
end Lw
set_option maxHeartbeats 1000000
namespace Lw
/-! ### changes of sign: what a row of numbers has, and what a shift leaves -/
def Vs : Rat → List Rat → Nat
  | _, [] => 0
  | s, x :: xs => if x = 0 then Vs s xs else (if s * x < 0 then 1 else 0) + Vs x xs
theorem Vs0 (s : Rat) (xs : List Rat) : Vs s (0 :: xs) = Vs s xs := by unfold Vs; rw [if_pos rfl]; cases xs <;> rfl
theorem Vs1 (s : Rat) {x : Rat} (h : x ≠ 0) (xs : List Rat) : Vs s (x :: xs) = (if s * x < 0 then 1 else 0) + Vs x xs := by
  show (if x = 0 then Vs s xs else (if s * x < 0 then 1 else 0) + Vs x xs) = _
  rw [if_neg h]
theorem neg_iff {a b : Rat} : a * b < 0 ↔ (a < 0 ∧ 0 < b) ∨ (0 < a ∧ b < 0) := by
  constructor
  · intro h
    by_cases ha : a < 0
    · by_cases hb : 0 < b
      · exact .inl ⟨ha, hb⟩
      · have h2 : 0 ≤ -a * -b := Rat.mul_nonneg (by grind) (by grind)
        grind
    · by_cases hb : b < 0
      · by_cases ha0 : a = 0
        · subst ha0; grind
        · exact .inr ⟨by grind, hb⟩
      · have h2 : 0 ≤ a * b := Rat.mul_nonneg (by grind) (by grind)
        grind
  · rintro (⟨h1, h2⟩ | ⟨h1, h2⟩)
    · have h3 : 0 < -a * b := Rat.mul_pos (by grind) h2
      grind
    · have h3 : 0 < a * -b := Rat.mul_pos h1 (by grind)
      grind
def sn (a b : Rat) : Nat := if a * b < 0 then 1 else 0
theorem sn_le1 (a b : Rat) : sn a b ≤ 1 := by unfold sn; split <;> omega
theorem sn_tri {a b : Rat} (c : Rat) (hb : b ≠ 0) : sn a c ≤ sn a b + sn b c := by
  unfold sn
  by_cases h1 : a * c < 0
  · rw [if_pos h1]
    by_cases h2 : a * b < 0
    · rw [if_pos h2]; omega
    · by_cases h3 : b * c < 0
      · rw [if_pos h3]; omega
      · rw [neg_iff] at h1 h2 h3; grind
  · rw [if_neg h1]; omega
theorem Vs_step (a b : Rat) (hb : b ≠ 0) : ∀ l : List Rat, Vs a l ≤ sn a b + Vs b l
  | [] => Nat.zero_le _
  | x :: xs => by
    by_cases hx : x = 0
    · subst hx; rw [Vs0, Vs0]; exact Vs_step a b hb xs
    · rw [Vs1 _ hx, Vs1 _ hx]
      have := sn_tri (a := a) x hb
      unfold sn at *
      omega
theorem Vs_del (s x : Rat) (l : List Rat) : Vs s l ≤ Vs s (x :: l) := by
  by_cases hx : x = 0
  · subst hx; rw [Vs0]; exact Nat.le_refl _
  · rw [Vs1 _ hx]; exact Vs_step s x hx l
theorem Vs_cons {s x : Rat} {l m : List Rat} (h : ∀ s, Vs s l ≤ Vs s m) : Vs s (x :: l) ≤ Vs s (x :: m) := by
  by_cases hx : x = 0
  · subst hx; rw [Vs0, Vs0]; exact h s
  · rw [Vs1 _ hx, Vs1 _ hx]; have := h x; omega
theorem Vs_mid {s x y a : Rat} (ha : 0 < a) (ys : List Rat) : Vs s ((x + a * y) :: y :: ys) ≤ Vs s (x :: y :: ys) := by
  by_cases hy : y = 0
  · subst hy
    have : x + a * 0 = x := by grind
    rw [this]; exact Nat.le_refl _
  by_cases hx : x = 0
  · subst hx
    have hz : 0 + a * y ≠ 0 := by
      rcases (show y < 0 ∨ 0 < y by grind) with h | h
      · have := Rat.mul_pos ha (show 0 < -y by grind); grind
      · have := Rat.mul_pos ha h; grind
    rw [Vs0, Vs1 _ hz, Vs1 _ hy, Vs1 _ hy]
    have h1 : ¬ (0 + a * y) * y < 0 := by
      rw [neg_iff]
      rcases (show y < 0 ∨ 0 < y by grind) with h | h
      · have := Rat.mul_pos ha (show 0 < -y by grind); grind
      · have := Rat.mul_pos ha h; grind
    have h2 : s * (0 + a * y) < 0 ↔ s * y < 0 := by
      rw [neg_iff, neg_iff]
      rcases (show y < 0 ∨ 0 < y by grind) with h | h
      · have := Rat.mul_pos ha (show 0 < -y by grind); grind
      · have := Rat.mul_pos ha h; grind
    rw [if_neg h1]
    by_cases h3 : s * y < 0
    · rw [if_pos h3, if_pos (h2.mpr h3)]; omega
    · rw [if_neg h3, if_neg (fun z => h3 (h2.mp z))]; omega
  · rw [Vs1 _ hx, Vs1 _ hy]
    by_cases hxy : x * y < 0
    · rw [if_pos hxy]
      by_cases hz : x + a * y = 0
      · rw [hz, Vs0, Vs1 _ hy]
        have := sn_le1 s y
        unfold sn at this
        omega
      · rw [Vs1 _ hz, Vs1 _ hy]
        have t := sn_tri (a := s) (b := x) (x + a * y) hx
        unfold sn at t
        by_cases h4 : (x + a * y) * y < 0
        · -- on x's side
          have h5 : s * (x + a * y) < 0 ↔ s * x < 0 := by
            rw [neg_iff, neg_iff]
            rw [neg_iff] at h4 hxy
            grind
          rw [if_pos h4]
          by_cases h6 : s * x < 0
          · rw [if_pos h6, if_pos (h5.mpr h6)]; omega
          · rw [if_neg h6, if_neg (fun z => h6 (h5.mp z))]; omega
        · rw [if_neg h4]
          have := sn_le1 s (x + a * y)
          unfold sn at this
          omega
    · have hz : x + a * y ≠ 0 ∧ ¬ (x + a * y) * y < 0 ∧ (s * (x + a * y) < 0 ↔ s * x < 0) := by
        rw [neg_iff] at hxy
        rcases (show y < 0 ∨ 0 < y by grind) with h | h
        · have h1 := Rat.mul_pos ha (show 0 < -y by grind)
          have h2 : x < 0 := by grind
          refine ⟨by grind, ?_, ?_⟩
          · rw [neg_iff]; grind
          · rw [neg_iff, neg_iff]; grind
        · have h1 := Rat.mul_pos ha h
          have h2 : 0 < x := by grind
          refine ⟨by grind, ?_, ?_⟩
          · rw [neg_iff]; grind
          · rw [neg_iff, neg_iff]; grind
      rw [if_neg hxy, Vs1 _ hz.1, Vs1 _ hy, if_neg hz.2.1]
      by_cases h6 : s * x < 0
      · rw [if_pos h6, if_pos (hz.2.2.mpr h6)]; omega
      · rw [if_neg h6, if_neg (fun z => h6 (hz.2.2.mp z))]; omega
def cut (a : Rat) : Rat → List Rat → List Rat
  | x, [] => [x]
  | x, y :: ys => (x + a * y) :: cut a y ys
theorem Vs_cut {a : Rat} (ha : 0 < a) : ∀ (ys : List Rat) (s x : Rat), Vs s (cut a x ys) ≤ Vs s (x :: ys)
  | [], s, x => Nat.le_refl _
  | y :: ys, s, x => by
    have ih := fun s => Vs_cut ha ys s y
    exact Nat.le_trans (Vs_cons ih) (Vs_mid ha ys)
/-- the shift of a polynomial -/
def Ty (a : Rat) : List Rat → List Rat
  | [] => []
  | c :: cs => cut a c (Ty a cs)
theorem Vs_Ty {a : Rat} (ha : 0 < a) : ∀ (c : List Rat) (s : Rat), Vs s (Ty a c) ≤ Vs s c
  | [], s => Nat.le_refl _
  | c :: cs, s => Nat.le_trans (Vs_cut ha _ s c) (Vs_cons fun s => Vs_Ty ha cs s)
def pe : List Rat → Rat → Rat
  | [], _ => 0
  | c :: cs, x => c + x * pe cs x
theorem pe_cut (a x : Rat) : ∀ (ys : List Rat) (c : Rat), pe (cut a c ys) x = c + (x + a) * pe ys x
  | [], c => by show c + x * 0 = c + (x + a) * 0; grind
  | y :: ys, c => by
    show (c + a * y) + x * pe (cut a y ys) x = c + (x + a) * (y + x * pe ys x)
    rw [pe_cut a x ys y]; grind
theorem pe_Ty (a x : Rat) : ∀ c : List Rat, pe (Ty a c) x = pe c (x + a)
  | [] => rfl
  | c :: cs => by
    show pe (cut a c (Ty a cs)) x = c + (x + a) * pe cs (x + a)
    rw [pe_cut, pe_Ty a x cs]
def hd (l : List Rat) : Rat := l.headD 0
theorem hd_pe : ∀ c : List Rat, hd c = pe c 0
  | [] => rfl
  | c :: cs => by show c = c + 0 * _; grind
theorem hd_Ty (a : Rat) (c : List Rat) : hd (Ty a c) = pe c a := by rw [hd_pe, pe_Ty]; congr 1; grind
def NZ (l : List Rat) : Prop := ∃ x ∈ l, x ≠ 0
theorem cut_zero {a : Rat} : ∀ (ys : List Rat) (x : Rat), (∀ z ∈ cut a x ys, z = 0) → x = 0 ∧ ∀ z ∈ ys, z = 0
  | [], x, h => ⟨h x (by simp [cut]), by simp⟩
  | y :: ys, x, h => by
    have h1 := h (x + a * y) (by simp [cut])
    obtain ⟨h2, h3⟩ := cut_zero (a := a) ys y fun z hz => h z (by simp [cut, hz])
    subst h2
    refine ⟨by grind, fun z hz => ?_⟩
    rcases List.mem_cons.mp hz with rfl | hz
    · rfl
    · exact h3 z hz
theorem Ty_zero {a : Rat} : ∀ (c : List Rat), (∀ z ∈ Ty a c, z = 0) → ∀ z ∈ c, z = 0
  | [], _ => by simp
  | c :: cs, h => by
    obtain ⟨h1, h2⟩ := cut_zero (Ty a cs) c h
    intro z hz
    rcases List.mem_cons.mp hz with rfl | hz
    · exact h1
    · exact Ty_zero cs h2 z hz
theorem NZ_Ty {a : Rat} {c : List Rat} (h : NZ c) : NZ (Ty a c) := Classical.byContradiction fun n => by
  obtain ⟨x, hx, hne⟩ := h
  exact hne (Ty_zero c (fun z hz => Classical.byContradiction fun k => n ⟨z, hz, k⟩) x hx)
/-- a root takes a change away -/
theorem Vs_root {a : Rat} (ha : 0 < a) : ∀ c : List Rat, NZ c → hd (Ty a c) = 0 → Vs 0 (Ty a c) + 1 ≤ Vs 0 c
  | [], h, _ => by obtain ⟨x, hx, _⟩ := h; cases hx
  | c :: cs, h, h0 => by
    have hle : Vs 0 (c :: Ty a cs) ≤ Vs 0 (c :: cs) := Vs_cons fun s => Vs_Ty ha cs s
    cases ht : Ty a cs with
    | nil =>
      have e : Ty a (c :: cs) = [c] := by show cut a c (Ty a cs) = _; rw [ht]; rfl
      rw [e] at h0
      have h0 : c = 0 := h0
      obtain ⟨x, hx, hne⟩ := h
      rcases List.mem_cons.mp hx with rfl | hx
      · exact absurd h0 hne
      · obtain ⟨y, hy, _⟩ := NZ_Ty (a := a) ⟨x, hx, hne⟩
        rw [ht] at hy; cases hy
    | cons t ts =>
      have e : Ty a (c :: cs) = (c + a * t) :: cut a t ts := by show cut a c (Ty a cs) = _; rw [ht]; rfl
      rw [e] at h0 ⊢
      have h0 : c + a * t = 0 := h0
      rw [h0, Vs0]
      rw [ht] at hle
      have h1 := Vs_cut ha ts 0 t
      by_cases hc : c = 0
      · subst hc
        have htz : t = 0 := by
          refine Classical.byContradiction fun z => ?_
          rcases (show t < 0 ∨ 0 < t by grind) with q | q
          · have := Rat.mul_pos ha (show 0 < -t by grind); grind
          · have := Rat.mul_pos ha q; grind
        have hnz : NZ cs := by
          obtain ⟨x, hx, hne⟩ := h
          rcases List.mem_cons.mp hx with rfl | hx
          · exact absurd rfl hne
          · exact ⟨x, hx, hne⟩
        have ih := Vs_root ha cs hnz (by rw [ht]; exact htz)
        rw [ht] at ih
        rw [Vs0]
        omega
      · have htn : t ≠ 0 := fun z => by subst z; grind
        have hct : c * t < 0 := by
          rw [neg_iff]
          rcases (show t < 0 ∨ 0 < t by grind) with q | q
          · have := Rat.mul_pos ha (show 0 < -t by grind); grind
          · have := Rat.mul_pos ha q; grind
        rw [Vs1 _ hc, Vs1 _ htn, if_pos hct] at hle
        rw [Vs1 _ htn] at h1
        have z1 : ¬ (0 : Rat) * t < 0 := by grind
        have z2 : ¬ (0 : Rat) * c < 0 := by grind
        rw [if_neg z1] at h1
        rw [if_neg z2] at hle
        omega
/-- a change of the value's sign takes a change away -/
theorem Vs_turn {a : Rat} (ha : 0 < a) (c : List Rat) (s : Rat) (h : hd (Ty a c) ≠ 0) : sn s (hd (Ty a c)) + Vs (hd (Ty a c)) (Ty a c) ≤ Vs s c := by
  have h1 := Vs_Ty ha c s
  cases ht : Ty a c with
  | nil => rw [ht] at h; exact absurd rfl h
  | cons t ts =>
    rw [ht] at h h1
    have h : t ≠ 0 := h
    show sn s t + Vs t (t :: ts) ≤ _
    rw [Vs1 _ h] at h1 ⊢
    have z : ¬ t * t < 0 := by rw [neg_iff]; grind
    rw [if_neg z]
    unfold sn
    omega
end Lw
set_option maxHeartbeats 1000000
namespace Lw
open PySem PySem.Spec PyProof.Rows L2 Pu
/-! ### the worth as a polynomial -/
def hz (u : Rat) : Rat → List Int → Rat
  | acc, [] => acc
  | acc, c :: cs => hz u ((c : Rat) + u * acc) cs
def dl (fl : List Int) : List Rat := (fl.map fun c : Int => (c : Rat)).reverse
theorem pe_hz (u : Rat) : ∀ (cs : List Int) (A : List Rat), pe ((cs.map fun c : Int => (c : Rat)).reverse ++ A) u = hz u (pe A u) cs
  | [], A => rfl
  | c :: cs, A => by
    rw [List.map_cons, List.reverse_cons, List.append_assoc]
    exact pe_hz u cs ((c : Rat) :: A)
theorem wv_hz {r : Rat} (R : Rt r) : ∀ (cs : List Int) (k : Nat) (acc : Rat), acc * pw r k + wvS r (k + 1) cs = hz (1 + r) acc cs * pw r (k + cs.length)
  | [], k, acc => by show _ + 0 = _; simp [hz]; grind
  | c :: cs, k, acc => by
    have ih := wv_hz R cs (k + 1) ((c : Rat) + (1 + r) * acc)
    have h := pw_step R k
    show acc * pw r k + ((c : Rat) * pw r (k + 1) + wvS r (k + 1 + 1) cs) = hz (1 + r) ((c : Rat) + (1 + r) * acc) cs * pw r (k + (cs.length + 1))
    rw [show k + (cs.length + 1) = k + 1 + cs.length by omega, ← ih]
    grind
theorem wv_pe {r : Rat} (R : Rt r) {fl : List Int} (h : fl ≠ []) : ∃ q : Rat, 0 < q ∧ wvS r 0 fl = pe (dl fl) (1 + r) * q := by
  obtain ⟨c, cs, rfl⟩ := List.exists_cons_of_ne_nil h
  refine ⟨pw r cs.length, pw_pos R _, ?_⟩
  have h1 := wv_hz R cs 0 (c : Rat)
  have h2 := pe_hz (1 + r) (c :: cs) []
  rw [List.append_nil] at h2
  unfold dl
  rw [h2]
  show (c : Rat) * pw r 0 + wvS r 1 cs = hz (1 + r) ((c : Rat) + (1 + r) * 0) cs * _
  rw [show (c : Rat) + (1 + r) * 0 = (c : Rat) by grind, h1, Nat.zero_add]
theorem cmp_pos {a q : Rat} (h : 0 < q) : cmpR (a * q) 0 = cmpR a 0 := by
  have h1 : a * q < 0 ↔ a < 0 := by rw [neg_iff]; grind
  have h2 : 0 < a * q ↔ 0 < a := by
    have := neg_iff (a := -a) (b := q)
    have e : -a * q = -(a * q) := by grind
    rw [e] at this
    grind
  unfold cmpR
  by_cases c1 : a < 0
  · rw [if_pos c1, if_pos (h1.mpr c1)]
  · rw [if_neg c1, if_neg fun z => c1 (h1.mp z)]
    by_cases c2 : 0 < a
    · rw [if_pos c2, if_pos (h2.mpr c2)]
    · rw [if_neg c2, if_neg fun z => c2 (h2.mp z)]
def cz (d : List Rat) : Nat → List Rat
  | 0 => d
  | k + 1 => Ty (if k = 0 then 1 else q5) (cz d k)
theorem cz_pe (d : List Rat) (x : Rat) : ∀ k, pe (cz d (k + 1)) x = pe d (x + (1 + r5 k))
  | 0 => by
    show pe (Ty 1 d) x = _
    rw [pe_Ty]
    congr 1
    unfold r5
    have : ((0 : Nat) : Rat) = 0 := rfl
    rw [this]; grind
  | k + 1 => by
    show pe (Ty (if k + 1 = 0 then 1 else q5) (cz d (k + 1))) x = _
    rw [if_neg (by omega), pe_Ty, cz_pe d _ k]
    congr 1
    unfold r5
    have : ((k + 1 : Nat) : Rat) = (k : Rat) + 1 := Rat.natCast_add k 1
    rw [this]; grind
theorem cz_sg {fl : List Int} (h : fl ≠ []) {k : Nat} (hk : k ≤ 15) : sg5 fl k = cmpR (hd (cz (dl fl) (k + 1))) 0 := by
  obtain ⟨q, hq, e⟩ := wv_pe (r5_rt hk) h
  unfold sg5
  rw [e, cmp_pos hq, hd_pe, cz_pe]
  congr 2
  grind
theorem ev_ok {fl : List Int} (h : fl ≠ []) (hn : NZ (dl fl)) : ∀ k, k ≤ 16 → ∃ (s : Rat) (nz ns : Nat), ((List.range k).foldl (stp (sg5 fl)) (none, 0)).2 = nz + ns ∧ nz + Vs 0 (cz (dl fl) k) ≤ Vs 0 (dl fl) ∧ ns + Vs s (cz (dl fl) k) ≤ Vs 0 (dl fl) ∧
    ((List.range k).foldl (stp (sg5 fl)) (none, 0)).1 = (if s = 0 then none else some (cmpR s 0)) ∧ NZ (cz (dl fl) k)
  | 0, _ => ⟨0, 0, 0, rfl, by show 0 + Vs 0 (dl fl) ≤ _; omega, by show 0 + Vs 0 (dl fl) ≤ _; omega, rfl, hn⟩
  | k + 1, hk => by
    obtain ⟨s, nz, ns, h1, h2, h3, h4, h5⟩ := ev_ok h hn k (by omega)
    have ha : 0 < (if k = 0 then (1 : Rat) else q5) := by
      by_cases e : k = 0
      · rw [if_pos e]; decide
      · rw [if_neg e]; exact q5_pos
    have hsg := cz_sg h (k := k) (by omega)
    have hT := fun s => Vs_Ty ha (cz (dl fl) k) s
    have hN := NZ_Ty (a := if k = 0 then (1 : Rat) else q5) h5
    have ec : cz (dl fl) (k + 1) = Ty (if k = 0 then 1 else q5) (cz (dl fl) k) := rfl
    rw [← ec] at hT hN
    rw [List.range_succ, List.foldl_append]
    show ∃ s nz' ns', (stp (sg5 fl) ((List.range k).foldl (stp (sg5 fl)) (none, 0)) k).2 = nz' + ns' ∧ _ ∧ _ ∧ (stp (sg5 fl) ((List.range k).foldl (stp (sg5 fl)) (none, 0)) k).1 = _ ∧ _
    generalize (List.range k).foldl (stp (sg5 fl)) (none, 0) = st at h1 h4 ⊢
    obtain ⟨b, cnt⟩ := st
    have h1 : cnt = nz + ns := h1
    have h4 : b = if s = 0 then none else some (cmpR s 0) := h4
    by_cases hv : hd (cz (dl fl) (k + 1)) = 0
    · have hs0 : sg5 fl k = 0 := by rw [hsg, hv]; rfl
      have hr := Vs_root ha (cz (dl fl) k) h5 hv
      rw [← ec] at hr
      have t1 := hT s
      refine ⟨s, nz + 1, ns, ?_, by omega, by omega, ?_, hN⟩
      · unfold stp; simp [hs0]; omega
      · unfold stp; simp [hs0]; exact h4
    · have hs0 : sg5 fl k ≠ 0 := by rw [hsg]; exact fun z => hv ((cmp_e0 _ _).mp z)
      have ht := Vs_turn ha (cz (dl fl) k) s hv
      rw [← ec] at ht
      have t0 := hT 0
      by_cases hb : b = some (0 - sg5 fl k)
      · have hsn : sn s (hd (cz (dl fl) (k + 1))) = 1 := by
          have hs : s ≠ 0 := fun z => by rw [if_pos z, hb] at h4; cases h4
          rw [if_neg hs, hb] at h4
          have h4 := Option.some.inj h4
          rw [hsg] at h4
          unfold sn
          rw [if_pos]
          rw [neg_iff]
          have a1 := cmp_lt0 s 0
          have a2 := cmp_gt0 s 0
          have a3 := cmp_lt0 (hd (cz (dl fl) (k + 1))) 0
          have a4 := cmp_gt0 (hd (cz (dl fl) (k + 1))) 0
          rcases (show s < 0 ∨ 0 < s by grind) with q | q
          · have := a1.mpr q
            exact .inl ⟨q, a4.mp (by omega)⟩
          · have := a2.mpr q
            exact .inr ⟨q, a3.mp (by omega)⟩
        refine ⟨hd (cz (dl fl) (k + 1)), nz, ns + 1, ?_, by omega, by omega, ?_, hN⟩
        · unfold stp; simp [hs0, hb]; omega
        · show (if sg5 fl k = 0 then b else some (sg5 fl k)) = _
          rw [if_neg hs0, if_neg hv, hsg]
      · refine ⟨hd (cz (dl fl) (k + 1)), nz, ns, ?_, by omega, by omega, ?_, hN⟩
        · unfold stp
          have hb' : ¬ b = some (-sg5 fl k) := fun z => hb (by rw [z]; congr 1; omega)
          simp [hs0, hb']; exact h1
        · show (if sg5 fl k = 0 then b else some (sg5 fl k)) = _
          rw [if_neg hs0, if_neg hv, hsg]
/-! ### changes as the law counts them -/
def chp (x y : Int) : Nat := if decide (0 < y) ≠ decide (0 < x) then 1 else 0
def chI : List Int → Nat
  | x :: y :: l => chp x y + chI (y :: l)
  | _ => 0
theorem chp_comm (x y : Int) : chp x y = chp y x := by
  unfold chp
  by_cases h : decide (0 < y) = decide (0 < x)
  · rw [if_neg (fun z => z h), if_neg (fun z => z h.symm)]
  · rw [if_pos h, if_pos (fun z => h z.symm)]
theorem chI_snoc (x y : Int) : ∀ l : List Int, chI (l ++ [x, y]) = chI (l ++ [x]) + chp x y
  | [] => by show chp x y + 0 = 0 + chp x y; omega
  | [a] => by show chp a x + (chp x y + 0) = chp a x + 0 + chp x y; omega
  | a :: b :: l => by
    have ih := chI_snoc x y (b :: l)
    show chp a b + chI (b :: l ++ [x, y]) = chp a b + chI (b :: l ++ [x]) + chp x y
    rw [ih]; omega
theorem chI_rev : ∀ l : List Int, chI l.reverse = chI l
  | [] => rfl
  | [_] => rfl
  | x :: y :: l => by
    have ih := chI_rev (y :: l)
    rw [List.reverse_cons, List.reverse_cons, List.append_assoc]
    show chI (l.reverse ++ [y, x]) = _
    rw [chI_snoc, ← List.reverse_cons, ih, chp_comm]
    show _ = chp x y + chI (y :: l)
    omega
theorem sn_chp {x y : Int} (hx : x ≠ 0) (hy : y ≠ 0) : sn (x : Rat) (y : Rat) = chp x y := by
  unfold sn chp
  have e1 : (x : Rat) < 0 ↔ x < 0 := by rw [← Rat.intCast_lt_intCast]; rfl
  have e2 : (0 : Rat) < y ↔ 0 < y := by rw [← Rat.intCast_lt_intCast]; rfl
  have e3 : (0 : Rat) < x ↔ 0 < x := by rw [← Rat.intCast_lt_intCast]; rfl
  have e4 : (y : Rat) < 0 ↔ y < 0 := by rw [← Rat.intCast_lt_intCast]; rfl
  have h : (x : Rat) * y < 0 ↔ decide (0 < y) ≠ decide (0 < x) := by
    rw [neg_iff, e1, e2, e3, e4]
    by_cases p : 0 < x <;> by_cases q : 0 < y <;> simp [p, q] <;> omega
  by_cases c : (x : Rat) * y < 0
  · rw [if_pos c, if_pos (h.mp c)]
  · rw [if_neg c, if_neg (fun z => c (h.mpr z))]
def nzl (l : List Int) : List Int := l.filter fun c => decide (c ≠ 0)
theorem Vs_chI : ∀ (l : List Int) (x : Int), x ≠ 0 → Vs (x : Rat) (l.map fun c : Int => (c : Rat)) = chI (x :: nzl l)
  | [], x, _ => rfl
  | c :: l, x, hx => by
    rw [List.map_cons]
    by_cases hc : c = 0
    · subst hc
      show Vs _ ((0 : Rat) :: _) = _
      rw [Vs0, Vs_chI l x hx]
      unfold nzl
      rw [List.filter_cons_of_neg (by simp)]
    · have hcr : (c : Rat) ≠ 0 := fun z => hc (Rat.intCast_inj.mp z)
      rw [Vs1 _ hcr, Vs_chI l c hc]
      have := sn_chp hx hc
      unfold sn at this
      rw [this]
      unfold nzl
      rw [List.filter_cons_of_pos (by simpa using hc)]
      rfl
theorem Vs_chI0 : ∀ l : List Int, Vs 0 (l.map fun c : Int => (c : Rat)) = chI (nzl l)
  | [] => rfl
  | c :: l => by
    rw [List.map_cons]
    by_cases hc : c = 0
    · subst hc
      show Vs _ ((0 : Rat) :: _) = _
      rw [Vs0, Vs_chI0 l]
      unfold nzl
      rw [List.filter_cons_of_neg (by simp)]
    · have hcr : (c : Rat) ≠ 0 := fun z => hc (Rat.intCast_inj.mp z)
      rw [Vs1 _ hcr, Vs_chI l c hc, if_neg (by grind)]
      unfold nzl
      rw [List.filter_cons_of_pos (by simpa using hc)]
      omega
theorem turn_bound {fl : List Int} (hn : nzl fl ≠ []) : ((List.range 16).foldl (stp (sg5 fl)) (none, 0)).2 ≤ 2 * chI (nzl fl) := by
  obtain ⟨c, cs, hc⟩ := List.exists_cons_of_ne_nil hn
  have hm : c ∈ nzl fl := by rw [hc]; simp
  obtain ⟨h1, h2⟩ := List.mem_filter.mp hm
  have h2 : c ≠ 0 := of_decide_eq_true h2
  have hne : fl ≠ [] := List.ne_nil_of_mem h1
  have hNZ : NZ (dl fl) := ⟨(c : Rat), by unfold dl; rw [List.mem_reverse]; exact List.mem_map.mpr ⟨c, h1, rfl⟩, fun z => h2 (Rat.intCast_inj.mp z)⟩
  obtain ⟨s, nz, ns, e1, e2, e3, _⟩ := ev_ok hne hNZ 16 (Nat.le_refl _)
  have e4 : Vs 0 (dl fl) = chI (nzl fl) := by
    unfold dl
    rw [← List.map_reverse, Vs_chI0]
    have : nzl fl.reverse = (nzl fl).reverse := by unfold nzl; rw [List.filter_reverse]
    rw [this, chI_rev]
  omega
def chk (l : List Int) (k : Nat) : Bool := decide (0 < l.getD k 0) != decide (0 < l.getD (k - 1) 0)
theorem ch_count : ∀ l : List Int, ((List.range' 1 (l.length - 1)).filter (chk l)).length = chI l
  | [] => rfl
  | [_] => rfl
  | x :: y :: l => by
    have ih := ch_count (y :: l)
    have e : List.range' 1 ((x :: y :: l).length - 1) = 1 :: (List.range' 1 ((y :: l).length - 1)).map (· + 1) := by
      show List.range' 1 (l.length + 1) = 1 :: (List.range' 1 l.length).map (· + 1)
      rw [List.range'_succ]
      congr 1
      rw [List.range'_eq_map_range, List.range'_eq_map_range, List.map_map]
      exact List.map_congr_left fun x _ => by show 1 + 1 + x = 1 + x + 1; omega
    rw [e, List.filter_cons, List.filter_map]
    have e2 : ((List.range' 1 ((y :: l).length - 1)).filter (chk (x :: y :: l) ∘ (· + 1))) = (List.range' 1 ((y :: l).length - 1)).filter (chk (y :: l)) := by
      refine List.filter_congr fun k hk => ?_
      have hk := List.mem_range'_1.mp hk
      obtain ⟨j, rfl⟩ : ∃ j, k = j + 1 := ⟨k - 1, by omega⟩
      rfl
    have e3 : chk (x :: y :: l) 1 = (decide (0 < y) != decide (0 < x)) := rfl
    rw [e2, e3]
    show _ = chp x y + chI (y :: l)
    unfold chp
    by_cases h : decide (0 < y) = decide (0 < x)
    · rw [if_neg (by simp [h]), if_neg (fun z => z h), List.length_map, ih]; omega
    · rw [if_pos (by simpa using h), if_pos h, List.length_cons, List.length_map, ih]; omega
end Lw
namespace Lw
open PySem PySem.Spec PyProof.Rows L2 Pu
def gp17 : SF := sRet (xC (.bl true))
def gp16 : SF := sSeq (sIf (tV (x2 isNotD (xNm 16) (xC .non))) (sSeq (sTo (gTp [gNm 20, gNm 21]) (xSh 16)) (sIf (tV (x2 gtA (xNm 20) (xC (.int 0)))) (sSeq (sSet 22 (xIf (tV (x2 gtA (xNm 20) (xC (.int 1)))) (x2 ixD (xCall m_balances (aC (xSh 1) (aC (xSh 3) (aC (x2 addD (x2 repT (xTup (aC (xCall m_fraction (aC (xSh 15) (aC (xC (.int 1)) (aN)))) (aN))) (x2 subD (xNm 20) (xC (.int 1)))) (xTup (aC (xSh 21) (aN)))) (aN))))) (x1 negD (xC (.int 1)))) (xCall m_minus (aC (xCall m_times (aC (xCall m_fraction (aC (xSh 1) (aC (xC (.int 1)) (aN)))) (aC (xCall m_plus (aC (xTup (aC (xC (.int 1)) (aC (xC (.int 1)) (aN)))) (aC (xSh 3) (aN)))) (aN)))) (aC (xSh 21) (aN)))))) (sSeq (sIf (tOr (tV (x2 neD (xNm 22) (xTup (aC (xC (.int 0)) (aC (xC (.int 1)) (aN)))))) (tV (x2 gtA (xCall m_compare (aC (xSh 21) (aC (xCall m_fraction (aC (xSh 15) (aC (xC (.int 1)) (aN)))) (aN)))) (xC (.int 0))))) (sRet (xC (.bl false))) (sNext)) (sSeq (sSet 23 (xCall m_rounds_needed (aC (xSh 1) (aC (xSh 3) (aC (x2 addD (xNm 15) (xC (.int 1))) (aN)))))) (sIf (tOr (tV (x2 isD (xNm 23) (xC .non))) (tV (x2 gtA (x2 ixD (xNm 23) (xC (.int 0))) (xNm 20)))) (sRet (xC (.bl false))) (sNext))))) (sNext))) (sNext)) gp17
def gp15 : SF := sSeq (sSet 16 (xCall m_rounds_needed (aC (xSh 1) (aC (xSh 3) (aC (xSh 15) (aN)))))) gp16
def gp14 : SF := sSeq (sSet 15 (x2 addD (xC (.int 1)) (xCall m__law_take (aC (xSh 0) (aC (xC (.int 60)) (aN)))))) gp15
def gp13 : SF := sSeq (sIf (tOr (tV (x2 neD (xNm 18) (xCall m_worth_now (aC (xSh 3) (aC (x2 ixD (xTup (aC (xSh 9) (aC (xSh 10) (aN)))) (xNm 17)) (aN)))))) (tV (x2 gtA (xCall m_compare (aC (xSh 18) (aC (xCall m_worth_now (aC (xSh 3) (aC (x2 ixD (xTup (aC (xSh 9) (aC (xSh 10) (aN)))) (x2 subD (xC (.int 1)) (xNm 17))) (aN)))) (aN)))) (xC (.int 0))))) (sRet (xC (.bl false))) (sNext)) gp14
def gp12 : SF := sSeq (sTo (gTp [gNm 17, gNm 18]) (xCall m_cheapest (aC (xSh 3) (aC (xTup (aC (xSh 9) (aC (xSh 10) (aN)))) (aN))))) gp13
def gp11 : SF := sSeq (sIf (tAnd (tV (x2 gtA (xL lenD (aC (xNm 12) (aN))) (xC (.int 0)))) (tV (x2 gtA (xL lenD (aC (xNm 14) (aN))) (x2 mulD (xC (.int 2)) (xNm 13))))) (sRet (xC (.bl false))) (sNext)) gp12
def gp10 : SF := sSeq (sSet 14 (xCall m_turning_rates (aC (xSh 9) (aC (xTup (aC (xC (.int 1)) (aC (xC (.int 5)) (aN)))) (aC (xC (.int 15)) (aN)))))) gp11
def gp9 : SF := sSeq (sSet 13 (xL lenD (aC (xOf (oComp (iRg rng2D (aC (xC (.int 1)) (aC (xL lenD (aC (xNm 12) (aN))) (aN)))) (gNm 24) (tV (x2 neD (x2 gtA (x2 ixD (xNm 12) (xNm 24)) (xC (.int 0))) (x2 gtA (x2 ixD (xNm 12) (x2 subD (xNm 24) (xC (.int 1)))) (xC (.int 0))))) (xSh 24) [24])) (aN)))) gp10
def gp8 : SF := sSeq (sSet 12 (xOf (oComp (iSq (xNm 9)) (gNm 19) (tV (x2 neD (xNm 19) (xC (.int 0)))) (xSh 19) [19]))) gp9
def gp7 : SF := sSeq (sIf (tV (x2 gtA (xCall m_compare (aC (xCall m_worth_now (aC (xCall m_plus (aC (xSh 3) (aC (xTup (aC (xC (.int 1)) (aC (xC (.int 7)) (aN)))) (aN)))) (aC (xSh 11) (aN)))) (aC (xCall m_worth_now (aC (xSh 3) (aC (xSh 11) (aN)))) (aN)))) (xC (.int 0)))) (sRet (xC (.bl false))) (sNext)) gp8
def gp6 : SF := sSeq (sSet 11 (xL tupD (aC (xOf (oComp (iSq (xNm 9)) (gNm 19) (tYes') (xL absD (aC (xNm 19) (aN))) [19])) (aN)))) gp7
def gp5 : SF := sSeq (sIf (tOr (tV (x2 neD (xCall m_worth_now (aC (xSh 3) (aC (x2 addD (xTup (aC (xC (.int 0)) (aN))) (xNm 9)) (aN)))) (xCall m_times (aC (xSh 4) (aC (xCall m_worth_now (aC (xSh 3) (aC (xSh 9) (aN)))) (aN)))))) (tV (x2 neD (xCall m_worth_now (aC (xTup (aC (xC (.int 0)) (aC (xC (.int 1)) (aN)))) (aC (xSh 9) (aN)))) (xCall m_fraction (aC (xL sumD (aC (xNm 9) (aN))) (aC (xC (.int 1)) (aN))))))) (sRet (xC (.bl false))) (sNext)) gp6
def gp4 : SF := sSeq (sIf (tV (x2 neD (xCall m_worth_now (aC (xSh 3) (aC (xL tupD (aC (xOf (oComp (iRg rng1D (aC (xL lenD (aC (xNm 9) (aN))) (aN))) (gNm 24) (tYes') (x2 addD (x2 ixD (xNm 9) (xNm 24)) (x2 ixD (xNm 10) (xNm 24))) [24])) (aN))) (aN)))) (xCall m_plus (aC (xCall m_worth_now (aC (xSh 3) (aC (xSh 9) (aN)))) (aC (xCall m_worth_now (aC (xSh 3) (aC (xSh 10) (aN)))) (aN)))))) (sRet (xC (.bl false))) (sNext)) gp5
def gp3 : SF := sSeq (sSet 10 (xL tupD (aC (xOf (oComp (iRg rng1D (aC (xL lenD (aC (xNm 9) (aN))) (aN))) (gNm 24) (tYes') (x2 subD (xCall m__law_take (aC (xSh 0) (aC (xC (.int 20)) (aN)))) (xC (.int 8))) [24])) (aN)))) gp4
def gp2 : SF := sSeq (sSet 9 (xL tupD (aC (xOf (oComp (iRg rng1D (aC (x2 addD (xC (.int 1)) (xCall m__law_take (aC (xSh 0) (aC (xC (.int 5)) (aN))))) (aN))) (gNm 24) (tYes') (x2 subD (xCall m__law_take (aC (xSh 0) (aC (xC (.int 20)) (aN)))) (xC (.int 8))) [24])) (aN)))) gp3
def gp1 : SF := sSeq (sIf (tV (x2 neD (xNm 8) (xL tupD (aC (xOf (oComp (iRg rng1D (aC (xL lenD (aC (xNm 5) (aN))) (aN))) (gNm 24) (tYes') (xCall m_plus (aC (x2 ixD (xNm 6) (xNm 24)) (aC (x2 ixD (xNm 7) (xNm 24)) (aN)))) [24])) (aN))))) (sRet (xC (.bl false))) (sNext)) gp2
def gp0 : SF := sSeq (sSet 8 (xCall m_balances (aC (x2 addD (xNm 1) (xNm 2)) (aC (xSh 3) (aC (xSh 5) (aN)))))) gp1
theorem gp_eq : g__law_part1 = gp0 := rfl
def gl21 : SF := sRet (xCall m__law_part1 (aC (xSh 1) (aC (xSh 2) (aC (xSh 3) (aC (xSh 4) (aC (xSh 7) (aC (xSh 13) (aC (xSh 15) (aC (xSh 16) (aN))))))))))
def gl20 : SF := sSeq (sSet 16 (xCall m_balances (aC (xSh 3) (aC (xSh 4) (aC (xSh 14) (aN)))))) gl21
def gl19 : SF := sSeq (sSet 15 (xCall m_balances (aC (xSh 2) (aC (xSh 4) (aC (xSh 13) (aN)))))) gl20
def gl18 : SF := sSeq (sSet 14 (x2 repT (xTup (aC (xTup (aC (xC (.int 0)) (aC (xC (.int 1)) (aN)))) (aN))) (xL lenD (aC (xNm 13) (aN))))) gl19
def gl17 : SF := sSeq (sSet 13 (xL tupD (aC (xOf (oComp (iRg rng1D (aC (xCall m__law_take (aC (xSh 1) (aC (xC (.int 6)) (aN)))) (aN))) (gNm 10) (tYes') (xCall m_fraction (aC (xCall m__law_take (aC (xSh 1) (aC (xC (.int 40)) (aN)))) (aC (x2 addD (xC (.int 1)) (xCall m__law_take (aC (xSh 1) (aC (xC (.int 3)) (aN))))) (aN)))) [10])) (aN)))) gl18
def gl16 : SF := sSeq (sFor (iRg rng2D (aC (xC (.int 1)) (aC (xSh 5) (aN)))) (gNm 10) (sIf (tOr (tV (x2 ltA (xCall m_compare (aC (x2 ixD (x2 ixD (xNm 12) (xNm 10)) (xC (.int 1))) (aC (x2 ixD (x2 ixD (xNm 12) (x2 subD (xNm 10) (xC (.int 1)))) (xC (.int 1))) (aN)))) (xC (.int 0)))) (tV (x2 gtA (xCall m_compare (aC (x2 ixD (x2 ixD (xNm 12) (xNm 10)) (xC (.int 0))) (aC (x2 ixD (x2 ixD (xNm 12) (x2 subD (xNm 10) (xC (.int 1)))) (xC (.int 0))) (aN)))) (xC (.int 0))))) (sRet (xC (.bl false))) (sNext))) gl17
def gl15 : SF := sSeq (sIf (tOr (tV (x2 neD (xCall m_total (aC (xOf (oComp (iSq (xNm 12)) (gTp [gNm 15, gNm 16]) (tYes') (xSh 15) [15, 16])) (aN))) (xCall m_whole_interest (aC (xSh 2) (aC (xSh 4) (aC (x2 repT (xTup (aC (xSh 6) (aN))) (xNm 5)) (aN))))))) (tV (x2 neD (xCall m_total (aC (xOf (oComp (iSq (xNm 12)) (gTp [gNm 15, gNm 16]) (tYes') (xSh 16) [15, 16])) (aN))) (xCall m_fraction (aC (xSh 2) (aC (xC (.int 1)) (aN))))))) (sRet (xC (.bl false))) (sNext)) gl16
def gl14 : SF := sSeq (sSet 12 (xCall m_parts (aC (xSh 2) (aC (xSh 4) (aC (xSh 5) (aN)))))) gl15
def gl13 : SF := sSeq (sIf (tAnd (tV (x2 eqD (xNm 4) (xTup (aC (xC (.int 0)) (aC (xC (.int 1)) (aN)))))) (tV (x2 neD (xNm 6) (xCall m_fraction (aC (xSh 2) (aC (xSh 5) (aN))))))) (sRet (xC (.bl false))) (sNext)) gl14
def gl12 : SF := sSeq (sIf (tAnd (tV (x2 gtA (xNm 2) (xC (.int 0)))) (tOr (tV (x2 geA (xCall m_compare (aC (xSh 11) (aC (xSh 6) (aN)))) (xC (.int 0)))) (tV (x2 ltA (xCall m_compare (aC (xCall m_whole_interest (aC (xSh 2) (aC (xSh 4) (aC (x2 repT (xTup (aC (xSh 11) (aN))) (x2 addD (xNm 5) (xC (.int 1)))) (aN))))) (aC (xCall m_whole_interest (aC (xSh 2) (aC (xSh 4) (aC (x2 repT (xTup (aC (xSh 6) (aN))) (xNm 5)) (aN))))) (aN)))) (xC (.int 0)))))) (sRet (xC (.bl false))) (sNext)) gl13
def gl11 : SF := sSeq (sSet 11 (xCall m_equal_payment (aC (xSh 2) (aC (xSh 4) (aC (x2 addD (xNm 5) (xC (.int 1))) (aN)))))) gl12
def gl10 : SF := sSeq (sIf (tV (x2 neD (xNm 8) (xCall m_fraction (aC (xSh 2) (aC (xC (.int 1)) (aN)))))) (sRet (xC (.bl false))) (sNext)) gl11
def gl9 : SF := sSeq (sFor (iRg rng1D (aC (xSh 5) (aN))) (gNm 10) (sSeq (sSet 9 (xCall m_times (aC (xSh 9) (aC (xSh 7) (aN))))) (sSet 8 (xCall m_plus (aC (xSh 8) (aC (xCall m_times (aC (xSh 6) (aC (xSh 9) (aN)))) (aN))))))) gl10
def gl8 : SF := sSeq (sSet 9 (xTup (aC (xC (.int 1)) (aC (xC (.int 1)) (aN))))) gl9
def gl7 : SF := sSeq (sSet 8 (xTup (aC (xC (.int 0)) (aC (xC (.int 1)) (aN))))) gl8
def gl6 : SF := sSeq (sSet 7 (xCall m_over (aC (xTup (aC (xC (.int 1)) (aC (xC (.int 1)) (aN)))) (aC (xCall m_plus (aC (xTup (aC (xC (.int 1)) (aC (xC (.int 1)) (aN)))) (aC (xSh 4) (aN)))) (aN))))) gl7
def gl5 : SF := sSeq (sIf (tV (x2 neD (xCall m_plus (aC (xSh 6) (aC (xCall m_equal_payment (aC (xSh 3) (aC (xSh 4) (aC (xSh 5) (aN))))) (aN)))) (xCall m_equal_payment (aC (x2 addD (xNm 2) (xNm 3)) (aC (xSh 4) (aC (xSh 5) (aN))))))) (sRet (xC (.bl false))) (sNext)) gl6
def gl4 : SF := sSeq (sSet 6 (xCall m_equal_payment (aC (xSh 2) (aC (xSh 4) (aC (xSh 5) (aN)))))) gl5
def gl3 : SF := sSeq (sSet 5 (x2 addD (xC (.int 1)) (xCall m__law_take (aC (xSh 1) (aC (xC (.int 9)) (aN)))))) gl4
def gl2 : SF := sSeq (sSet 4 (xCall m_fraction (aC (xCall m__law_take (aC (xSh 1) (aC (xC (.int 6)) (aN)))) (aC (x2 addD (xC (.int 1)) (xCall m__law_take (aC (xSh 1) (aC (xC (.int 15)) (aN))))) (aN))))) gl3
def gl1 : SF := sSeq (sSet 3 (xCall m__law_take (aC (xSh 1) (aC (xC (.int 300)) (aN))))) gl2
def gl0 : SF := sSeq (sSet 2 (xCall m__law_take (aC (xSh 1) (aC (xC (.int 300)) (aN))))) gl1
theorem gl_eq : g_law = gl0 := rfl
end Lw
set_option maxHeartbeats 1000000
set_option exponentiation.threshold 64
namespace Lw
open PySem PySem.Spec PyProof.Rows L2 Pu
def RT (r : Res × Rho) (s : DS) : Prop := r.1 = .rt (.bl true)
theorem ixD_last (xs : List D) {n : Nat} (h : xs.length = n + 1) : ixD (.tup xs) (.int (-1)) = xs[n]? := by
  show atI xs (-1) = _
  unfold atI ixN
  rw [if_neg (by omega), if_pos (by omega), h]
  show xs[((-1 : Int) + (n + 1 : Nat)).toNat]? = _
  congr 1; omega
/-! ### the last payment -/
theorem bal_app (u : Rat) (x : Rat) : ∀ (l : Rat) (p : Rat) (k : Nat), (bal u l (List.replicate k p ++ [x]))[k]? = some (Lk l u p k * u - x)
  | l, p, 0 => rfl
  | l, p, k + 1 => by
    rw [List.replicate_succ]
    show ((l * u - p) :: bal u (l * u - p) (List.replicate k p ++ [x]))[k + 1]? = _
    rw [List.getElem?_cons_succ, bal_app u x _ p k]
    have : ∀ k, Lk (l * u - p) u p k = Lk l u p (k + 1) := fun k => by
      induction k with
      | zero => rfl
      | succ k ih => show Lk (l * u - p) u p k * u - p = _; rw [ih]; rfl
    rw [this]
theorem bdB_app {r : Rat} (R : Rt r) {x p : Rat} (hp : Sz 7 p) (hx : Sz 4000 x) : ∀ (k : Nat) (l : Rat) (b : Nat), Sz b l → b + 18 * k ≤ 3900 → BdB (1 + r) l (List.replicate k p ++ [x])
  | 0, l, b, h, hb => ⟨h.mono (by omega), hx, trivial⟩
  | k + 1, l, b, h, hb => by
    rw [List.replicate_succ]
    exact ⟨h.mono (by omega), hp.mono (by decide), bdB_app R hp hx k _ (b + 10 + 7 + 1) ((h.mul R.szu).sub hp) (by omega)⟩
/-- one more each round: no later done -/
theorem RN_more {a r p : Rat} (hr : 0 ≤ r) {k : Nat} (h1 : ∀ i, i ≤ k → Lk a (1 + r) p i * (1 + r) - p < Lk a (1 + r) p i) (hk : k < 24) (h2 : Lk a (1 + r) p k * (1 + r) ≤ p) {d : D} (h : RN a (1 + r) (p + 1) d) :
    ∃ j : Nat, j ≤ k + 1 ∧ ∃ z, d = .tup [.int (j : Nat), z] := by
  have mono : ∀ i, Lk a (1 + r) (p + 1) i ≤ Lk a (1 + r) p i := fun i => by
    induction i with
    | zero => show a ≤ a; grind
    | succ i ih =>
      show Lk a (1 + r) (p + 1) i * (1 + r) - (p + 1) ≤ Lk a (1 + r) p i * (1 + r) - p
      have := Rat.mul_le_mul_of_nonneg_right ih (show 0 ≤ 1 + r by grind)
      grind
  rcases h with ⟨_, h⟩ | ⟨j, hj, h⟩
  · exact ⟨0, by omega, _, by assumption⟩
  have hjk : j ≤ k := Nat.le_of_not_lt fun z => by
    have h3 := (hj k z).2
    have := Rat.mul_le_mul_of_nonneg_right (mono k) (show 0 ≤ 1 + r by grind)
    grind
  rcases h with ⟨_, h⟩ | ⟨h, _⟩
  · exfalso
    rcases h with h | h
    · omega
    · have h3 := h1 j hjk
      have := Rat.mul_le_mul_of_nonneg_right (mono j) hr
      grind
  · exact ⟨j + 1, by omega, _, h⟩
def gq : SF := sSeq (sIf (tOr (tV (x2 neD (xNm 22) (xTup (aC (xC (.int 0)) (aC (xC (.int 1)) (aN)))))) (tV (x2 gtA (xCall m_compare (aC (xSh 21) (aC (xCall m_fraction (aC (xSh 15) (aC (xC (.int 1)) (aN)))) (aN)))) (xC (.int 0))))) (sRet (xC (.bl false))) (sNext)) (sSeq (sSet 23 (xCall m_rounds_needed (aC (xSh 1) (aC (xSh 3) (aC (x2 addD (xNm 15) (xC (.int 1))) (aN)))))) (sIf (tOr (tV (x2 isD (xNm 23) (xC .non))) (tV (x2 gtA (x2 ixD (xNm 23) (xC (.int 0))) (xNm 20)))) (sRet (xC (.bl false))) (sNext)))
theorem gp16_in : gp16 = sSeq (sIf (tV (x2 isNotD (xNm 16) (xC .non))) (sSeq (sTo (gTp [gNm 20, gNm 21]) (xSh 16)) (sIf (tV (x2 gtA (xNm 20) (xC (.int 0)))) (sSeq (sSet 22 (xIf (tV (x2 gtA (xNm 20) (xC (.int 1)))) (x2 ixD (xCall m_balances (aC (xSh 1) (aC (xSh 3) (aC (x2 addD (x2 repT (xTup (aC (xCall m_fraction (aC (xSh 15) (aC (xC (.int 1)) (aN)))) (aN))) (x2 subD (xNm 20) (xC (.int 1)))) (xTup (aC (xSh 21) (aN)))) (aN))))) (x1 negD (xC (.int 1)))) (xCall m_minus (aC (xCall m_times (aC (xCall m_fraction (aC (xSh 1) (aC (xC (.int 1)) (aN)))) (aC (xCall m_plus (aC (xTup (aC (xC (.int 1)) (aC (xC (.int 1)) (aN)))) (aC (xSh 3) (aN)))) (aN)))) (aC (xSh 21) (aN)))))) gq) (sNext))) (sNext)) gp17 := rfl
theorem gp14_ok {a : Nat} (ha : a < 300) {r : Rat} (R : Rt r) (x2 x4 x5 x6 x7 x8 x9 x10 x11 x12 x13 x14 x15 x16 x17 x18 x19 x20 x21 x22 x23 x24 : Slot) (s : DS) (ok : s.ok) :
    wp (gp14 [.sh .rng, .sh (.int (a : Nat)), x2, .sh (qD r), x4, x5, x6, x7, x8, x9, x10, x11, x12, x13, x14, x15, x16, x17, x18, x19, x20, x21, x22, x23, x24]) s RT := by
  have hA : ((a : Nat) : Int).natAbs < 2 ^ 10 := by simp; omega
  have hA0 : (0 : Int) ≤ (a : Nat) := by omega
  have nn : isNonD D.non = true := rfl
  simp [gp14, take_eq]
  refine wp_take (m := 60) (by decide) (by decide) ok fun e s2 he ok2 => ?_
  obtain ⟨pm, hpm, hp1, hp2⟩ : ∃ pm : Nat, (1 + (e : Int)) = pm ∧ 1 ≤ pm ∧ pm ≤ 60 := ⟨1 + e, by omega, by omega, by omega⟩
  simp [hpm, gp15]
  refine wp_mono (rounds_eq hA0 hA R (pm := (pm : Nat)) (by simp; omega) s2) fun d s3 h => ?_
  obtain ⟨rfl, h⟩ := h
  rcases h with ⟨rfl, h0⟩ | ⟨k, hk, ⟨rfl, _⟩ | ⟨rfl, hk24, hlt, hle, hsz⟩⟩
  · have nn2 : isNonD (D.tup [.int 0, qD 0]) = false := rfl
    simp [gp16, gp17, nn2, RT]
  · simp [gp16, gp17, nn, RT]
  · have nn2 : isNonD (D.tup [.int ((k : Int) + 1), qD (Lk ((a : Nat) : Int) (1 + r) ((pm : Nat) : Int) k * (1 + r))]) = false := rfl
    have hPz : Sz 7 (((pm : Nat) : Int) : Rat) := Sz.int (by simp; omega) (by decide)
    have hAz : Sz 10 (((a : Nat) : Int) : Rat) := Sz.int hA (by decide)
    have hsz4 := hsz.mono (by decide : 460 ≤ 4000)
    have c0 : (0 : Int) < (k : Int) + 1 := by omega
    have hc := cmp_eq hsz4 (hPz.mono (by decide : 7 ≤ 4000))
    have hc0 : ¬ 0 < cmpR (Lk ((a : Nat) : Int) (1 + r) ((pm : Nat) : Int) k * (1 + r)) (((pm : Nat) : Int) : Rat) := fun z => by have := (cmp_gt0 _ _).mp z; grind
    have ec : D.tup [.int 1, .int 1] = qD 1 := rfl
    have ez : D.tup [.int 0, .int 1] = qD 0 := rfl
    have u1 : ∀ s, m_plus [qD 1, qD r] s = some (qD (1 + r), s) := u_eq R
    have ft := frac1 ((pm : Nat) : Int)
    have fa := frac1 ((a : Nat) : Int)
    have hi1 : ∀ i, i ≤ k → Lk ((a : Nat) : Int) (1 + r) ((pm : Nat) : Int) i * (1 + r) - (((pm : Nat) : Int) : Rat) < Lk ((a : Nat) : Int) (1 + r) ((pm : Nat) : Int) i := fun i hi => by
      by_cases e : i = k
      · subst e; exact hlt
      · exact (hk i (by omega)).1
    have K : ∀ (x0 x4 x5 x6 x7 x8 x9 x10 x11 x12 x13 x14 x16 x17 x18 x19 x23 x24 : Slot) (s : DS), wp (gq [.sh .rng, .sh (.int (a : Nat)), x0, .sh (qD r), x4, x5, x6, x7, x8, x9, x10, x11, x12, x13, x14, .sh (.int (pm : Nat)), x16, x17, x18, x19, .sh (.int ((k : Int) + 1)), .sh (qD (Lk ((a : Nat) : Int) (1 + r) ((pm : Nat) : Int) k * (1 + r))), .sh (qD 0), x23, x24]) s (fun r' s' => r'.1 = .nx) := fun x0 x4 x5 x6 x7 x8 x9 x10 x11 x12 x13 x14 x16 x17 x18 x19 x23 x24 s => by
      have hp1 : ((pm : Nat) : Int) + 1 = ((pm + 1 : Nat) : Int) := by omega
      have hc0' := Int.not_lt.mp hc0
      simp [gq, ez, ne_Q, wp_eq ft, wp_eq hc, hc0, hc0', SZ_eq]
      rw [hp1]
      refine wp_mono (rounds_eq hA0 hA R (pm := ((pm + 1 : Nat) : Int)) (by simp; omega) s) fun d s' h => ?_
      obtain ⟨rfl, h⟩ := h
      have e1 : ((((pm + 1 : Nat) : Int)) : Rat) = (((pm : Nat) : Int) : Rat) + 1 := by rw [← hp1, Rat.intCast_add]; rfl
      rw [e1] at h
      obtain ⟨j, hj, z, rfl⟩ := RN_more R.nn hi1 hk24 hle h
      have nn3 : isNonD (D.tup [.int (j : Nat), z]) = false := rfl
      have j0 : ixD (D.tup [.int (j : Nat), z]) (.int 0) = some (.int (j : Nat)) := rfl
      have hjk : ¬ (k : Int) + 1 < (j : Int) := by omega
      simp [nn3, j0, hjk, -ixD_tn]
    rw [gp16_in]
    have nx_fin : ∀ (x0 x4 x5 x6 x7 x8 x9 x10 x11 x12 x13 x14 x16 x17 x18 x19 x23 x24 : Slot) (s : DS), wp (gq [.sh .rng, .sh (.int (a : Nat)), x0, .sh (qD r), x4, x5, x6, x7, x8, x9, x10, x11, x12, x13, x14, .sh (.int (pm : Nat)), x16, x17, x18, x19, .sh (.int ((k : Int) + 1)), .sh (qD (Lk ((a : Nat) : Int) (1 + r) ((pm : Nat) : Int) k * (1 + r))), .sh (qD 0), x23, x24]) s (aft gp17 RT) := fun x0 x4 x5 x6 x7 x8 x9 x10 x11 x12 x13 x14 x16 x17 x18 x19 x23 x24 s => wp_mono (K x0 x4 x5 x6 x7 x8 x9 x10 x11 x12 x13 x14 x16 x17 x18 x19 x23 x24 s) fun r' s' h => by
      obtain ⟨q, ρ⟩ := r'
      have h : q = .nx := h
      subst h
      simp [gp17, RT]
    by_cases hk0 : k = 0
    · subst hk0
      have t1 := times_eq (hAz.mono (by decide : 10 ≤ 4000)) (R.szu.mono (by decide : 10 ≤ 4000))
      have e0 : (((a : Nat) : Int) : Rat) * (1 + r) - Lk ((a : Nat) : Int) (1 + r) ((pm : Nat) : Int) 0 * (1 + r) = 0 := by show _ - (((a : Nat) : Int) : Rat) * (1 + r) = 0; grind
      have t2 := minus_eq ((hAz.mul R.szu).mono (by decide : 10 + 10 ≤ 4000)) hsz4
      rw [e0] at t2
      simp [nn2, wp_eq fa, ec, SZ_eq, wp_eq u1, wp_eq t1]
      exact .inr ⟨rfl, (wp_eq t2).mpr (nx_fin _ _ _ _ _ _ _ _ _ _ _ _ _ _ _ _ _ _ _)⟩
    · have h1k : (1 : Int) < (k : Int) + 1 := by omega
      have hrep : repT (.tup [qD (((pm : Nat) : Int) : Rat)]) (.int (k : Nat)) = some (.tup (List.replicate k (qD (((pm : Nat) : Int) : Rat)))) := repT_1 _ (by omega)
      have had : addD (.tup (List.replicate k (qD (((pm : Nat) : Int) : Rat)))) (.tup [qD (Lk ((a : Nat) : Int) (1 + r) ((pm : Nat) : Int) k * (1 + r))]) = some (.tup ((List.replicate k (((pm : Nat) : Int) : Rat) ++ [Lk ((a : Nat) : Int) (1 + r) ((pm : Nat) : Int) k * (1 + r)]).map qD)) := by
        rw [addD_tt (by simp; omega), List.map_append, List.map_replicate]; rfl
      have hbal := balances_eq hA0 R (ps := List.replicate k (((pm : Nat) : Int) : Rat) ++ [Lk ((a : Nat) : Int) (1 + r) ((pm : Nat) : Int) k * (1 + r)]) (bdB_app R hPz hsz4 k _ 10 hAz (by omega)) (by simp; omega)
      have hlst : ixD (.tup ((bal (1 + r) (((a : Nat) : Int) : Rat) (List.replicate k (((pm : Nat) : Int) : Rat) ++ [Lk ((a : Nat) : Int) (1 + r) ((pm : Nat) : Int) k * (1 + r)])).map qD)) (.int (-1)) = some (qD 0) := by
        rw [ixD_last (n := k) _ (by rw [List.length_map, bal_len]; simp), List.getElem?_map, bal_app]
        show some (qD _) = _
        congr 2
        grind
      generalize ((List.replicate k (((pm : Nat) : Int) : Rat) ++ [Lk ((a : Nat) : Int) (1 + r) ((pm : Nat) : Int) k * (1 + r)]).map qD) = PL at *
      generalize bal (1 + r) (((a : Nat) : Int) : Rat) (List.replicate k (((pm : Nat) : Int) : Rat) ++ [Lk ((a : Nat) : Int) (1 + r) ((pm : Nat) : Int) k * (1 + r)]) = BL at *
      simp [nn2, c0, h1k, wp_eq ft, SZ_eq, hrep, had, wp_eq hbal, hlst]
      exact nx_fin _ _ _ _ _ _ _ _ _ _ _ _ _ _ _ _ _ _ _
end Lw
set_option maxHeartbeats 1000000
set_option exponentiation.threshold 64
namespace Lw
open PySem PySem.Spec PyProof.Rows L2 Pu
/-! ### sums of flows -/
def zadd : List Int → List Int → List Int
  | x :: f, y :: g => (x + y) :: zadd f g
  | _, _ => []
theorem wv_add (r : Rat) : ∀ (f g : List Int) (k : Nat), f.length = g.length → wvS r k (zadd f g) = wvS r k f + wvS r k g
  | [], [], k, _ => by show (0 : Rat) = 0 + 0; grind
  | x :: f, y :: g, k, h => by
    have ih := wv_add r f g (k + 1) (by simpa using h)
    show ((x + y : Int) : Rat) * pw r k + wvS r (k + 1) (zadd f g) = ((x : Rat) * pw r k + wvS r (k + 1) f) + ((y : Rat) * pw r k + wvS r (k + 1) g)
    rw [ih, Rat.intCast_add]; grind
  | [], _ :: _, _, h => by simp at h
  | _ :: _, [], _, h => by simp at h
theorem zadd_len : ∀ (f g : List Int), f.length = g.length → (zadd f g).length = f.length
  | [], [], _ => rfl
  | x :: f, y :: g, h => by show _ + 1 = _ + 1; rw [zadd_len f g (by simpa using h)]
  | [], _ :: _, h => by simp at h
  | _ :: _, [], h => by simp at h
theorem zadd_get : ∀ (f g : List Int) (k : Nat), f.length = g.length → k < f.length → (zadd f g)[k]? = some (f.getD k 0 + g.getD k 0)
  | x :: f, y :: g, 0, _, _ => rfl
  | x :: f, y :: g, k + 1, h, hk => by
    have ih := zadd_get f g k (by simpa using h) (by simpa using hk)
    simpa [zadd] using ih
  | [], _, _, _, hk => by simp at hk
  | _ :: _, [], _, h, _ => by simp at h
theorem zadd_mem : ∀ (f g : List Int) (c : Int), c ∈ zadd f g → ∃ x ∈ f, ∃ y ∈ g, c = x + y
  | x :: f, y :: g, c, h => by
    rcases List.mem_cons.mp h with rfl | h
    · exact ⟨x, by simp, y, by simp, rfl⟩
    · obtain ⟨u, hu, v, hv, e⟩ := zadd_mem f g c h
      exact ⟨u, by simp [hu], v, by simp [hv], e⟩
  | [], _, _, h => by cases h
  | _ :: _, [], _, h => by cases h
theorem pw1 {r : Rat} (R : Rt r) (k : Nat) : pw r (k + 1) = pw r 1 * pw r k := by
  show pw r k / (1 + r) = (1 : Rat) / (1 + r) * pw r k
  have := R.une
  grind
theorem wv_shift {r : Rat} (R : Rt r) : ∀ (f : List Int) (k : Nat), wvS r (k + 1) f = pw r 1 * wvS r k f
  | [], k => by show (0 : Rat) = _ * 0; grind
  | x :: f, k => by
    have ih := wv_shift R f (k + 1)
    have h := pw1 R k
    show (x : Rat) * pw r (k + 1) + wvS r (k + 1 + 1) f = pw r 1 * ((x : Rat) * pw r k + wvS r (k + 1) f)
    rw [ih, h]; grind
theorem pw_0 : ∀ k, pw 0 k = 1
  | 0 => rfl
  | k + 1 => by show pw 0 k / (1 + 0) = 1; rw [pw_0 k]; grind
theorem wv_0 : ∀ (f : List Int) (k : Nat), wvS 0 k f = ((f.sum : Int) : Rat)
  | [], _ => rfl
  | x :: f, k => by
    show (x : Rat) * pw 0 k + wvS 0 (k + 1) f = _
    rw [wv_0 f, pw_0, List.sum_cons, Rat.intCast_add]; grind
theorem pw_anti {r q : Rat} (R : Rt r) (Q : Rt q) (h : r ≤ q) : ∀ k, pw q k ≤ pw r k
  | 0 => by show (1 : Rat) ≤ 1; grind
  | k + 1 => by
    have ih := pw_anti R Q h k
    have h1 := pw_step R k
    have h2 := pw_step Q k
    have h3 := pw_pos R (k + 1)
    have h4 : pw r (k + 1) * (1 + r) ≤ pw r (k + 1) * (1 + q) := Rat.mul_le_mul_of_nonneg_left (by grind) (Rat.le_of_lt h3)
    refine Rat.not_lt.mp fun z => ?_
    have h5 := Rat.mul_lt_mul_of_pos_right z (show 0 < 1 + q by have := Q.nn; grind)
    grind
theorem wv_anti {r q : Rat} (R : Rt r) (Q : Rt q) (h : r ≤ q) : ∀ (f : List Int) (k : Nat), (∀ c ∈ f, 0 ≤ c) → wvS q k f ≤ wvS r k f
  | [], k, _ => by show (0 : Rat) ≤ 0; grind
  | x :: f, k, hc => by
    have ih := wv_anti R Q h f (k + 1) fun c hcm => hc c (by simp [hcm])
    have h1 := pw_anti R Q h k
    have h2 : (0 : Rat) ≤ (x : Rat) := Rat.intCast_nonneg.mpr (hc x (by simp))
    have h3 := Rat.mul_le_mul_of_nonneg_left h1 h2
    show (x : Rat) * pw q k + wvS q (k + 1) f ≤ (x : Rat) * pw r k + wvS r (k + 1) f
    grind
theorem Rt0 : Rt 0 := ⟨by grind, Sz0.mono (by decide)⟩
def q7 : Rat := ⟨1, 7, by decide, by decide⟩
theorem q7_sz : Sz 3 q7 := ⟨by decide, by decide⟩
theorem q7_nn : 0 ≤ q7 := Rat.num_nonneg.mp (by decide)
theorem Rt7 {r : Rat} (R : Rt r) (h4 : Sz 4 r) : Rt (r + q7) := ⟨by have := R.nn; have := q7_nn; grind, (h4.add q7_sz).mono (by decide)⟩
theorem ixF (f : List Int) {k : Nat} (h : k < f.length) : ixD (fD f) (.int (k : Nat)) = some (.int (f.getD k 0)) := by
  rw [ixD_tn, List.getElem?_map, List.getElem?_eq_getElem h, List.getD_eq_getElem?_getD, List.getElem?_eq_getElem h]; rfl
theorem ixFL (f : List Int) {k : Nat} (h : k < f.length) : ixD (.lst (f.map EnQ.e)) (.int (k : Nat)) = some (.int (f.getD k 0)) := by
  rw [ixD_ln, List.getElem?_map, List.getElem?_eq_getElem h, List.getD_eq_getElem?_getD, List.getElem?_eq_getElem h]; rfl
theorem sumF (f : List Int) : sumD [fD f] = some (.int f.sum) := sumT_i f
theorem gp12_ok {a : Nat} (ha : a < 300) {r : Rat} (R : Rt r) {fl ol : List Int} (F : Fl fl) (G : Fl ol) (x2 x4 x5 x6 x7 x8 x11 x12 x13 x14 x15 x16 x17 x18 x19 x20 x21 x22 x23 x24 : Slot) (s : DS) (ok : s.ok) :
    wp (gp12 [.sh .rng, .sh (.int (a : Nat)), x2, .sh (qD r), x4, x5, x6, x7, x8, .sh (fD fl), .sh (fD ol), x11, x12, x13, x14, x15, x16, x17, x18, x19, x20, x21, x22, x23, x24]) s RT := by
  have hc1 := cmp_eq (wv_sz' R G) (wv_sz' R F)
  have hc2 := cmp_eq (wv_sz' R F) (wv_sz' R G)
  have j0 : ixD (D.tup [fD fl, fD ol]) (.int 0) = some (fD fl) := rfl
  have j1 : ixD (D.tup [fD fl, fD ol]) (.int 1) = some (fD ol) := rfl
  simp [gp12, SZ_eq, wp_eq (cheapest_eq R F G)]
  by_cases h : wvS r 0 ol < wvS r 0 fl
  · have c : ¬ 0 < cmpR (wvS r 0 ol) (wvS r 0 fl) := fun z => by have := (cmp_gt0 _ _).mp z; grind
    have c' := Int.not_lt.mp c
    simp [h, gp13, j0, j1, SZ_eq, wp_eq (worth_now_eq R G), wp_eq (worth_now_eq R F), ne_Q, wp_eq hc1, c, c', -ixD_tn]
    exact gp14_ok ha R _ _ _ _ _ _ _ _ _ _ _ _ _ _ _ _ _ _ _ _ _ _ _ ok
  · have c : ¬ 0 < cmpR (wvS r 0 fl) (wvS r 0 ol) := fun z => by have := (cmp_gt0 _ _).mp z; grind
    have c' := Int.not_lt.mp c
    simp [h, gp13, j0, j1, SZ_eq, wp_eq (worth_now_eq R G), wp_eq (worth_now_eq R F), ne_Q, wp_eq hc2, c, c', -ixD_tn]
    exact gp14_ok ha R _ _ _ _ _ _ _ _ _ _ _ _ _ _ _ _ _ _ _ _ _ _ _ ok
theorem gp8_ok {a : Nat} (ha : a < 300) {r : Rat} (R : Rt r) {fl ol : List Int} (F : Fl fl) (G : Fl ol) (h1 : 1 ≤ fl.length) (x2 x4 x5 x6 x7 x8 x11 x12 x13 x14 x15 x16 x17 x18 x19 x20 x21 x22 x23 x24 : Slot) (s : DS) (ok : s.ok) :
    wp (gp8 [.sh .rng, .sh (.int (a : Nat)), x2, .sh (qD r), x4, x5, x6, x7, x8, .sh (fD fl), .sh (fD ol), x11, x12, x13, x14, x15, x16, x17, x18, x19, x20, x21, x22, x23, x24]) s RT := by
  have hl := F.len
  have hnl : (nzl fl).length ≤ 6 := Nat.le_trans (List.length_filter_le _ _) hl
  simp [gp8, wipeR]
  refine wp_compF (p := fun c : Int => decide (c ≠ 0)) (f := EnQ.e) _ (fun c hc => ⟨_, rfl, fun s => ⟨?_, fun _ => ?_⟩⟩) ?_
  · simp [e_I]
    exact Classical.em _
  · simp
  · have hr : rng2D [.int 1, .int ((nzl fl).length : Nat)] = some ((List.range' 1 ((nzl fl).length - 1)).map EnQ.e) := rng2_n (a := 1) (by decide) (by omega)
    rw [show fl.filter (fun c : Int => decide (c ≠ 0)) = nzl fl from rfl]
    simp [gp9, hr, wipeR]
    refine wp_compF (p := chk (nzl fl)) (f := EnQ.e) _ (fun k hk => ?_) ?_
    · have hk := List.mem_range'_1.mp hk
      have i1 := ixFL (nzl fl) (k := k) (by omega)
      have i2 := ixFL (nzl fl) (k := k - 1) (by omega)
      have hk1 : (k : Int) - 1 = ((k - 1 : Nat) : Int) := by omega
      have hne : ∀ x y : Bool, neD (.bl x) (.bl y) = some (.bl (x != y)) := fun x y => by
        have := ne_en (α := Bool) (by decide) x y
        exact (show neD (.bl x) (.bl y) = _ from this).trans (by cases x <;> cases y <;> rfl)
      refine ⟨_, rfl, fun s => ⟨?_, fun _ => ?_⟩⟩
      · simp only [e_N]
        simp [i1, hk1, i2, hne, -ixD_ln]
        unfold chk
        cases hx : (decide (0 < (nzl fl).getD k 0) != decide (0 < (nzl fl).getD (k - 1) 0)) <;> simp_all
      · simp
    · simp [ch_count, gp10, SZ_eq]
      refine wp_mono (turning_eq F h1 s) fun d s' h => ?_
      obtain ⟨rfl, L, rfl, hL⟩ := h
      have hm : mulD (.int 2) (.int (chI (nzl fl) : Nat)) = some (.int (2 * chI (nzl fl) : Nat)) := by
        have hb : chI (nzl fl) ≤ 6 := by
          rw [← ch_count]
          have := List.length_filter_le (chk (nzl fl)) (List.range' 1 ((nzl fl).length - 1))
          simp at this
          omega
        rw [mulD_sm 64 (by decide) (by simp; omega)]; simp
      by_cases hn : nzl fl = []
      · simp [gp11, hn]
        exact gp12_ok ha R F G _ _ _ _ _ _ _ _ _ _ _ _ _ _ _ _ _ _ _ _ _ ok
      · have hp : 0 < (nzl fl).length := List.length_pos_iff.mpr hn
        have hp' : (0 : Int) < ((nzl fl).length : Nat) := by omega
        have hb := turn_bound hn
        have c : ¬ ((2 * chI (nzl fl) : Nat) : Int) < (L.length : Nat) := by omega
        have c' := Int.not_lt.mp c
        simp [gp11, hp, hp', hm, c, c', hn, -Int.natCast_mul]
        exact gp12_ok ha R F G _ _ _ _ _ _ _ _ _ _ _ _ _ _ _ _ _ _ _ _ _ ok
end Lw
set_option maxHeartbeats 1000000
set_option exponentiation.threshold 64
namespace Lw
open PySem PySem.Spec PyProof.Rows L2 Pu
/-! ### balances add up -/
theorem bal_add (u : Rat) : ∀ (ps : List Rat) (a b : Rat) (k : Nat), k < ps.length → (bal u (a + b) ps)[k]? = some ((bal u a ps).getD k 0 + (bal u b (List.replicate ps.length 0)).getD k 0)
  | p :: ps, a, b, 0, _ => by
    show some ((a + b) * u - p) = some ((a * u - p) + (b * u - 0))
    congr 1; grind
  | p :: ps, a, b, k + 1, h => by
    have ih := bal_add u ps (a * u - p) (b * u - 0) k (by simpa using h)
    rw [show (a * u - p) + (b * u - 0) = (a + b) * u - p by grind] at ih
    exact ih
theorem bdB_small {r : Rat} (R : Rt r) : ∀ (ps : List Rat) (l : Rat) (b : Nat), (∀ p ∈ ps, Sz 8 p) → Sz b l → b + 20 * ps.length ≤ 3900 → BdB (1 + r) l ps
  | [], _, _, _, _, _ => trivial
  | p :: ps, l, b, h, hb, hl => by
    rw [List.length_cons] at hl
    exact ⟨hb.mono (by omega), (h p (by simp)).mono (by decide), bdB_small R ps _ (b + 10 + 8 + 1) (fun q hq => h q (by simp [hq])) ((hb.mul R.szu).sub (h p (by simp))) (by omega)⟩
theorem bal_sz {r : Rat} (R : Rt r) : ∀ (ps : List Rat) (l : Rat) (b : Nat), (∀ p ∈ ps, Sz 8 p) → Sz b l → b + 20 * ps.length ≤ 3900 → ∀ k, k < ps.length → Sz 4000 ((bal (1 + r) l ps).getD k 0)
  | p :: ps, l, b, h, hb, hl, 0, _ => by
    rw [List.length_cons] at hl
    exact ((hb.mul R.szu).sub (h p (by simp))).mono (by omega)
  | p :: ps, l, b, h, hb, hl, k + 1, hk => by
    rw [List.length_cons] at hl
    exact bal_sz R ps _ (b + 10 + 8 + 1) (fun q hq => h q (by simp [hq])) ((hb.mul R.szu).sub (h p (by simp))) (by omega) k (by simpa using hk)
theorem ixQ (l : List Rat) {k : Nat} (h : k < l.length) : ixD (.tup (l.map qD)) (.int (k : Nat)) = some (qD (l.getD k 0)) := by
  rw [ixD_tn, List.getElem?_map, List.getElem?_eq_getElem h, List.getD_eq_getElem?_getD, List.getElem?_eq_getElem h]; rfl
theorem neT_Q (l : List Rat) : neD (.tup (l.map qD)) (.tup (l.map qD)) = some (.bl false) := by
  have := ne_en (α := List Rat) (by decide) l l
  exact (show neD (.tup _) (.tup _) = _ from this).trans (by simp)
theorem gp4_ok {a : Nat} (ha : a < 300) {r : Rat} (R : Rt r) (h4 : Sz 4 r) {fl ol : List Int} (F : ∀ c ∈ fl, -8 ≤ c ∧ c < 12) (G : ∀ c ∈ ol, -8 ≤ c ∧ c < 12) (h1 : 1 ≤ fl.length) (h5 : fl.length ≤ 5) (he : ol.length = fl.length) (x2 x5 x6 x7 x8 x11 x12 x13 x14 x15 x16 x17 x18 x19 x20 x21 x22 x23 x24 : Slot) (s : DS) (ok : s.ok) :
    wp (gp4 [.sh .rng, .sh (.int (a : Nat)), x2, .sh (qD r), .sh (qD (pw r 1)), x5, x6, x7, x8, .sh (fD fl), .sh (fD ol), x11, x12, x13, x14, x15, x16, x17, x18, x19, x20, x21, x22, x23, x24]) s RT := by
  have FF : Fl fl := ⟨by omega, fun c hc => by have := F c hc; omega⟩
  have GG : Fl ol := ⟨by omega, fun c hc => by have := G c hc; omega⟩
  have hzl := zadd_len fl ol he.symm
  have SS : Fl (zadd fl ol) := ⟨by omega, fun c hc => by
    obtain ⟨x, hx, y, hy, rfl⟩ := zadd_mem fl ol c hc
    have := F x hx
    have := G y hy
    omega⟩
  have ZZ : Fl (0 :: fl) := ⟨by simp; omega, fun c hc => by
    rcases List.mem_cons.mp hc with rfl | hc
    · decide
    · exact FF.sm c hc⟩
  have AA : Fl (fl.map fun c : Int => if c < 0 then -c else c) := ⟨by simp; omega, fun c hc => by
    obtain ⟨x, hx, rfl⟩ := List.mem_map.mp hc
    have := F x hx
    show (if x < 0 then -x else x).natAbs < 2 ^ 6
    split <;> omega⟩
  have hr : rng1D [.int (fl.length : Nat)] = some ((List.range fl.length).map EnQ.e) := rng1_n (by omega)
  have emap : ((List.range fl.length).map fun k : Nat => D.int (fl.getD k 0 + ol.getD k 0)) = (zadd fl ol).map EnQ.e := by
    refine List.ext_getElem? fun k => ?_
    by_cases hk : k < fl.length
    · rw [List.getElem?_map, List.getElem?_range hk, List.getElem?_map, zadd_get fl ol k he.symm hk]; rfl
    · rw [List.getElem?_eq_none (by simp; omega), List.getElem?_eq_none (by simp; omega)]
  have t1 := plus_eq (wv_sz' R FF) (wv_sz' R GG)
  rw [← wv_add r fl ol 0 he.symm] at t1
  have hf1 : Sz 11 (pw r 1) := pw_sz R 1
  have t2 := times_eq (hf1.mono (by decide : 11 ≤ 4000)) (wv_sz' R FF)
  have e2 : wvS r 0 (0 :: fl) = pw r 1 * wvS r 0 fl := by
    rw [← wv_shift R fl 0]
    show ((0 : Int) : Rat) * pw r 0 + wvS r 1 fl = wvS r 1 fl
    have : ((0 : Int) : Rat) = 0 := rfl
    rw [this]; grind
  rw [← e2] at t2
  have had : addD (.tup [.int 0]) (fD fl) = some (fD (0 :: fl)) := by
    rw [addD_tt (by simp; omega)]; rfl
  have ez : D.tup [.int 0, .int 1] = qD 0 := rfl
  have hw0 := worth_now_eq Rt0 FF
  rw [wv_0] at hw0
  have R7 := Rt7 R h4
  have e7 : D.tup [.int 1, .int 7] = qD q7 := rfl
  have t7 := plus_eq (R.sz.mono (by decide : 8 ≤ 4000)) (q7_sz.mono (by decide : 3 ≤ 4000))
  have hc := cmp_eq (wv_sz' R7 AA) (wv_sz' R AA)
  have hle := wv_anti R R7 (by have := q7_nn; grind) (fl.map fun c : Int => if c < 0 then -c else c) 0 fun c hc => by
    obtain ⟨x, hx, rfl⟩ := List.mem_map.mp hc
    show 0 ≤ if x < 0 then -x else x
    split <;> omega
  have c : ¬ 0 < cmpR (wvS (r + q7) 0 (fl.map fun c : Int => if c < 0 then -c else c)) (wvS r 0 (fl.map fun c : Int => if c < 0 then -c else c)) := fun z => by have := (cmp_gt0 _ _).mp z; grind
  have c' := Int.not_lt.mp c
  have eabs : (fl.map fun c : Int => D.int (if c < 0 then -c else c)) = (fl.map fun c : Int => if c < 0 then -c else c).map EnQ.e := by rw [List.map_map]; rfl
  simp [gp4, hr, wipeR]
  refine wp_compT (f := fun k : Nat => D.int (fl.getD k 0 + ol.getD k 0)) _ (fun k hk => ⟨_, rfl, fun s => ?_⟩) ?_
  · have hk := List.mem_range.mp hk
    have i1 := ixF fl hk
    have i2 := ixF ol (k := k) (by omega)
    simp only [e_N]
    simp [i1, i2, -ixD_tn]
  · rw [emap]
    have w1 := worth_now_eq R SS
    have w2 := worth_now_eq R ZZ
    have w3 := worth_now_eq R FF
    have w4 := worth_now_eq R GG
    have w5 := worth_now_eq R AA
    have w6 := worth_now_eq R7 AA
    have sf := sumF fl
    have fs := frac1 fl.sum
    simp [wp_eq w1, wp_eq w3, wp_eq w4, wp_eq t1, ne_Q]
    simp [gp5, SZ_eq, had, wp_eq w2, wp_eq w3, wp_eq t2, ne_Q, wp_eq hw0, sf, wp_eq fs, ez]
    simp [gp6, wipeR]
    refine wp_compT (f := fun c : Int => D.int (if c < 0 then -c else c)) _ (fun c hc => ⟨_, rfl, fun s => ?_⟩) ?_
    · simp [e_I]
    · rw [eabs]
      obtain ⟨L, hL⟩ : ∃ L : List D, L = (fl.map fun c : Int => if c < 0 then -c else c).map EnQ.e := ⟨_, rfl⟩
      rw [← hL]
      have w5' : ∀ s, m_worth_now [qD r, .tup L] s = some (qD (wvS r 0 (fl.map fun c : Int => if c < 0 then -c else c)), s) := fun s => by rw [hL]; exact w5 s
      have w6' : ∀ s, m_worth_now [qD (r + q7), .tup L] s = some (qD (wvS (r + q7) 0 (fl.map fun c : Int => if c < 0 then -c else c)), s) := fun s => by rw [hL]; exact w6 s
      simp [gp7, SZ_eq, e7, wp_eq t7, wp_eq w5', wp_eq w6', wp_eq hc, c, c']
      exact gp8_ok ha R FF GG h1 _ _ _ _ _ _ _ _ _ _ _ _ _ _ _ _ _ _ _ _ _ ok
theorem gp0_ok {a b : Nat} (ha : a < 300) (hb : b < 300) {r : Rat} (R : Rt r) (h4 : Sz 4 r) {ps : List Rat} (hp : ∀ p ∈ ps, Sz 8 p) (hl : ps.length ≤ 5) (x8 x9 x10 x11 x12 x13 x14 x15 x16 x17 x18 x19 x20 x21 x22 x23 x24 : Slot) (s : DS) (ok : s.ok) :
    wp (gp0 [.sh .rng, .sh (.int (a : Nat)), .sh (.int (b : Nat)), .sh (qD r), .sh (qD (pw r 1)), .sh (.tup (ps.map qD)), .sh (.tup ((bal (1 + r) ((a : Nat) : Int) ps).map qD)), .sh (.tup ((bal (1 + r) ((b : Nat) : Int) (List.replicate ps.length 0)).map qD)), x8, x9, x10, x11, x12, x13, x14, x15, x16, x17, x18, x19, x20, x21, x22, x23, x24]) s RT := by
  have hA0 : (0 : Int) ≤ (a : Nat) := by omega
  have hAz : Sz 10 (((a : Nat) : Int) : Rat) := Sz.int (by simp; omega) (by decide)
  have hBz : Sz 10 (((b : Nat) : Int) : Rat) := Sz.int (by simp; omega) (by decide)
  have hS : (a : Int) + (b : Int) = ((a + b : Nat) : Int) := by omega
  have hSz : Sz 10 (((a + b : Nat) : Int) : Rat) := Sz.int (by simp; omega) (by decide)
  have eS : (((a + b : Nat) : Int) : Rat) = (((a : Nat) : Int) : Rat) + (((b : Nat) : Int) : Rat) := by rw [← hS, Rat.intCast_add]
  have hbal := balances_eq (a := ((a + b : Nat) : Int)) (by omega) R (ps := ps) (bdB_small R ps _ 10 hp hSz (by omega)) (by omega)
  rw [eS, ← hS] at hbal
  have hr : rng1D [.int (ps.length : Nat)] = some ((List.range ps.length).map EnQ.e) := rng1_n (by omega)
  have emap : ((List.range ps.length).map fun k : Nat => qD ((bal (1 + r) ((a : Nat) : Int) ps).getD k 0 + (bal (1 + r) ((b : Nat) : Int) (List.replicate ps.length 0)).getD k 0)) = (bal (1 + r) ((((a : Nat) : Int) : Rat) + (((b : Nat) : Int) : Rat)) ps).map qD := by
    refine List.ext_getElem? fun k => ?_
    by_cases hk : k < ps.length
    · rw [List.getElem?_map, List.getElem?_range hk, List.getElem?_map, bal_add (1 + r) ps _ _ k hk]; rfl
    · rw [List.getElem?_eq_none (by simp; omega), List.getElem?_eq_none (by simp [bal_len]; omega)]
  simp [gp0]
  refine (wp_eq hbal).mpr ?_
  simp [gp1, hr, wipeR]
  refine wp_compT (f := fun k : Nat => qD ((bal (1 + r) ((a : Nat) : Int) ps).getD k 0 + (bal (1 + r) ((b : Nat) : Int) (List.replicate ps.length 0)).getD k 0)) _ (fun k hk => ⟨_, rfl, fun s => ?_⟩) ?_
  · have hk := List.mem_range.mp hk
    have i1 := ixQ (bal (1 + r) ((a : Nat) : Int) ps) (k := k) (by rw [bal_len]; exact hk)
    have i2 := ixQ (bal (1 + r) ((b : Nat) : Int) (List.replicate ps.length 0)) (k := k) (by rw [bal_len]; simpa using hk)
    have s1 := bal_sz R ps _ 10 hp hAz (by omega) k hk
    have s2 := bal_sz R (List.replicate ps.length 0) _ 10 (fun p hp => by rw [List.eq_of_mem_replicate hp]; exact Sz0.mono (by decide)) hBz (by simp; omega) k (by simpa using hk)
    simp only [e_N]
    simp [i1, i2, wp_eq (plus_eq s1 s2), -ixD_tn, -List.getD_eq_getElem?_getD]
  · rw [emap]
    have hne := neT_Q (bal (1 + r) ((((a : Nat) : Int) : Rat) + (((b : Nat) : Int) : Rat)) ps)
    generalize (bal (1 + r) ((((a : Nat) : Int) : Rat) + (((b : Nat) : Int) : Rat)) ps).map qD = L at *
    simp [hne, gp2, take_eq]
    refine wp_take (m := 5) (by decide) (by decide) ok fun m0 s2 hm ok2 => ?_
    obtain ⟨m, hme, hm1, hm5⟩ : ∃ m : Nat, (1 + (m0 : Int)) = m ∧ 1 ≤ m ∧ m ≤ 5 := ⟨1 + m0, by omega, by omega, by omega⟩
    simp [hme, rng1_n (n := m) (by omega), wipeR]
    refine wp_compS (fun (_ : Nat) y => ∃ z : Int, y = EnQ.e z ∧ (-8 ≤ z ∧ z < 12)) (List.range m) (fun i hi s ok => ⟨_, rfl, ?_⟩) ok2 fun ys s3 ok3 hlen hys => ?_
    · simp [take_eq]
      exact wp_take (m := 20) (by decide) (by decide) ok fun q s hq ok => ⟨_, rfl, ok, (q : Int) - 8, rfl, by omega, by omega⟩
    · obtain ⟨fl, e1, e2⟩ := choose_all (P := fun z : Int => -8 ≤ z ∧ z < 12) (f := EnQ.e) (ds := ys) fun d hd => by
        obtain ⟨_, _, z, hz, hs⟩ := hys d hd; exact ⟨z, hz, hs⟩
      subst e1
      simp at hlen
      have hr2 : rng1D [.int (fl.length : Nat)] = some ((List.range fl.length).map EnQ.e) := rng1_n (by omega)
      simp [gp3, hr2, wipeR]
      refine wp_compS (fun (_ : Nat) y => ∃ z : Int, y = EnQ.e z ∧ (-8 ≤ z ∧ z < 12)) (List.range fl.length) (fun i hi s ok => ⟨_, rfl, ?_⟩) ok3 fun ys s4 ok4 hlen2 hys2 => ?_
      · simp [take_eq]
        exact wp_take (m := 20) (by decide) (by decide) ok fun q s hq ok => ⟨_, rfl, ok, (q : Int) - 8, rfl, by omega, by omega⟩
      · obtain ⟨ol, e3, e4⟩ := choose_all (P := fun z : Int => -8 ≤ z ∧ z < 12) (f := EnQ.e) (ds := ys) fun d hd => by
          obtain ⟨_, _, z, hz, hs⟩ := hys2 d hd; exact ⟨z, hz, hs⟩
        subst e3
        simp at hlen2
        exact gp4_ok ha R h4 e2 e4 (by omega) (by omega) hlen2 _ _ _ _ _ _ _ _ _ _ _ _ _ _ _ _ _ _ _ _ ok4
end Lw
set_option maxHeartbeats 1000000
set_option exponentiation.threshold 64
namespace Lw
open PySem PySem.Spec PyProof.Rows L2 Pu
theorem gl17_ok {a b : Nat} (ha : a < 300) (hb : b < 300) {r : Rat} (R : Rt r) (h4 : Sz 4 r) {n : Nat} (h1 : 1 ≤ n) (h9 : n ≤ 9) (x0 x6 x8 x9 x10 x11 x12 x13 x14 x15 x16 : Slot) (s : DS) (ok : s.ok) :
    wp (gl17 [x0, .sh .rng, .sh (.int (a : Nat)), .sh (.int (b : Nat)), .sh (qD r), .sh (.int (n : Nat)), x6, .sh (qD (pw r 1)), x8, x9, x10, x11, x12, x13, x14, x15, x16]) s RT := by
  simp [gl17, take_eq]
  refine wp_take (m := 6) (by decide) (by decide) ok fun m s2 hm ok2 => ?_
  simp [rng1_n (n := m) (by omega), wipeR]
  refine wp_compS (fun (_ : Nat) y => ∃ z : Rat, y = qD z ∧ Sz 8 z) (List.range m) (fun i hi s ok => ⟨_, rfl, ?_⟩) ok2 fun ys s3 ok3 hlen hys => ?_
  · simp [take_eq]
    refine wp_take (m := 40) (by decide) (by decide) ok fun q s hq ok => ?_
    refine wp_take (m := 3) (by decide) (by decide) ok fun w s hw ok => ?_
    obtain ⟨d, hd, hd1, hd3⟩ : ∃ d : Nat, (1 + (w : Int)) = d ∧ 1 ≤ d ∧ d ≤ 3 := ⟨1 + w, by omega, by omega, by omega⟩
    have hlt : ((d : Nat) : Int).natAbs < 2 ^ 8500 := Nat.lt_of_lt_of_le (show d < 2 ^ 2 by omega) (Nat.pow_le_pow_right (by decide) (by decide))
    have e := frac_eq (q : Int) (d := ((d : Nat) : Int)) (by omega) hlt
    have le := frac_le (q : Int) (d := ((d : Nat) : Int)) (by omega)
    simp [hd]
    refine (wp_eq e).mpr ?_
    refine ⟨ok, _, rfl, ?_, ?_⟩
    · have := le.1; simp at this ⊢; omega
    · have := le.2; simp at this ⊢; omega
  · obtain ⟨ps, e1, e2⟩ := choose_all (P := fun z : Rat => Sz 8 z) (f := qD) (ds := ys) fun d hd => by
      obtain ⟨_, _, z, hz, hs⟩ := hys d hd; exact ⟨z, hz, hs⟩
    subst e1
    simp at hlen
    have hAz : Sz 10 (((a : Nat) : Int) : Rat) := Sz.int (by simp; omega) (by decide)
    have hBz : Sz 10 (((b : Nat) : Int) : Rat) := Sz.int (by simp; omega) (by decide)
    have ez : D.tup [.int 0, .int 1] = qD 0 := rfl
    have hrep : repT (.tup [qD 0]) (.int (ps.length : Nat)) = some (.tup ((List.replicate ps.length (0 : Rat)).map qD)) := by
      rw [repT_1 _ (by omega), List.map_replicate]
    have b1 := balances_eq (a := (a : Nat)) (by omega) R (ps := ps) (bdB_small R ps _ 10 e2 hAz (by omega)) (by omega)
    have b2 := balances_eq (a := (b : Nat)) (by omega) R (ps := List.replicate ps.length (0 : Rat)) (bdB_small R _ _ 10 (fun p hp => by rw [List.eq_of_mem_replicate hp]; exact Sz0.mono (by decide)) hBz (by simp; omega)) (by simp; omega)
    have K := gp0_ok ha hb R h4 e2 (show ps.length ≤ 5 by omega) .un .un .un .un .un .un .un .un .un .un .un .un .un .un .un .un .un s3 ok3
    have K2 : wp (m__law_part1 [.rng, .int (a : Nat), .int (b : Nat), qD r, qD (pw r 1), .tup (ps.map qD), .tup ((bal (1 + r) ((a : Nat) : Int) ps).map qD), .tup ((bal (1 + r) ((b : Nat) : Int) (List.replicate ps.length 0)).map qD)]) s3 fun d _ => d = .bl true := by
      refine wp_def rfl ?_
      rw [gp_eq]
      exact wp_mono K fun r' s' h => .inl ⟨_, h, rfl⟩
    obtain ⟨L0, hL0⟩ : ∃ L : List D, L = (List.replicate ps.length (0 : Rat)).map qD := ⟨_, rfl⟩
    rw [← hL0] at hrep b2
    simp [ez, gl18, SZ_eq, hrep, gl19, wp_eq b1, gl20, wp_eq b2, gl21]
    refine wp_mono K2 fun d s' h => ?_
    subst h
    rfl
theorem Wh_0 : ∀ n, Wh 0 n = ((n : Nat) : Rat)
  | 0 => rfl
  | n + 1 => by
    show Wh 0 n + pw 0 (n + 1) = _
    rw [Wh_0 n, pw_0, Rat.natCast_add]; rfl
theorem gl13_ok {a b : Nat} (ha : a < 300) (hb : b < 300) {r : Rat} (R : Rt r) (h4 : Sz 4 r) {n : Nat} (h1 : 1 ≤ n) (h9 : n ≤ 9) {p : Rat} (ep : p = (((a : Nat) : Int) : Rat) / Wh r n) (x0 x8 x9 x10 x11 x12 x13 x14 x15 x16 : Slot) (s : DS) (ok : s.ok) :
    wp (gl13 [x0, .sh .rng, .sh (.int (a : Nat)), .sh (.int (b : Nat)), .sh (qD r), .sh (.int (n : Nat)), .sh (qD p), .sh (qD (pw r 1)), x8, x9, x10, x11, x12, x13, x14, x15, x16]) s RT := by
  have hA : ((a : Nat) : Int).natAbs < 2 ^ 10 := by simp; omega
  have hA0 : (0 : Int) ≤ (a : Nat) := by omega
  have ez : D.tup [.int 0, .int 1] = qD 0 := rfl
  have hW := Wh_pos R h1
  have hp : Sz 581 p := by rw [ep]; exact pay_sz hA R h1 (by omega)
  have e : p * Wh r n = (((a : Nat) : Int) : Rat) := by rw [ep]; exact Rat.div_mul_cancel (by grind)
  have hlt : ((n : Nat) : Int).natAbs < 2 ^ 8500 := Nat.lt_of_lt_of_le (show n < 2 ^ 4 by omega) (Nat.pow_le_pow_right (by decide) (by decide))
  have hfr := frac_eq ((a : Nat) : Int) (d := ((n : Nat) : Int)) (by omega) hlt
  have hpart := parts_eq hA0 hA R h1 (show n ≤ 10 by omega) ep
  have hwi := whole_int_eq hA0 R (show n ≤ 10 by omega) hp e
  have fa := frac1 ((a : Nat) : Int)
  obtain ⟨i1, i2⟩ := bdT_int0 R hp (show n ≤ 10 by omega)
  obtain ⟨p1, p2⟩ := bdT_pri0 R hp (show n ≤ 10 by omega)
  have ti := total_eq i1 (d := .lst (dnL (fun j => qD (p * (1 - pw r j))) n)) (by rw [dnL_map]; rfl)
  have tp := total_eq p1 (d := .lst (dnL (fun j => qD (p * pw r j)) n)) (by rw [dnL_map]; rfl)
  rw [i2] at ti
  rw [p2, e] at tp
  have hrep : repT (.tup [qD p]) (.int (n : Nat)) = some (.tup (List.replicate n (qD p))) := repT_1 _ (by omega)
  have h0n : r = 0 → p = (((a : Nat) : Int) : Rat) / (((n : Nat) : Int) : Rat) := fun h => by
    have : Wh r n = (((n : Nat) : Int) : Rat) := by
      have := Wh_0 n
      rw [h, this, Rat.intCast_natCast]
    rw [ep, this]
  have hcmp := fun (x y : Rat) (hx : Sz 4000 x) (hy : Sz 4000 y) => cmp_eq hx hy
  have K := fun (a0 a6 a8 a9 a10 a11 a12 a13 a14 a15 a16 : Slot) (s : DS) (ok : s.ok) => gl17_ok ha hb R h4 h1 h9 a0 a6 a8 a9 a10 a11 a12 a13 a14 a15 a16 s ok
  have rows : ∀ a0 a8 a9 a10 a11 a13 a14 a15 a16 : Slot, wp (gl14 [a0, .sh .rng, .sh (.int (a : Nat)), .sh (.int (b : Nat)), .sh (qD r), .sh (.int (n : Nat)), .sh (qD p), .sh (qD (pw r 1)), a8, a9, a10, a11, x12, a13, a14, a15, a16]) s RT := fun a0 a8 a9 a10 a11 a13 a14 a15 a16 => by
    have hl : dnL (rowP r p) n = (dnL (fun j => j) n).map (rowP r p) := by rw [dnL_map]
    have sq : seqD (.tup (dnL (rowP r p) n)) = some ((dnL (fun j => j) n).map (rowP r p)) := by rw [← hl]; rfl
    have hdlen := dnL_len (rowP r p) n
    have hget := fun k hk => dnL_get (rowP r p) n k hk
    have hp0 : 0 ≤ p := by
      rw [ep, Rat.div_def]
      exact Rat.mul_nonneg (Rat.intCast_nonneg.mpr (by omega)) (Rat.le_of_lt (Rat.inv_pos.mpr hW))
    have hr2 : rng2D [.int 1, .int (n : Nat)] = some ((List.range' 1 (n - 1)).map EnQ.e) := rng2_n (a := 1) (by decide) (by omega)
    simp [gl14, wp_eq hpart]
    generalize hDL : (D.tup (dnL (rowP r p) n)) = DL at sq
    simp [gl15, sq, wipeR]
    refine wp_compT (f := fun j : Nat => qD (p * (1 - pw r j))) _ (fun j hj => ⟨_, rfl, fun s => ?_⟩) ?_
    · simp
    · rw [dnL_map]
      simp [wp_eq ti, SZ_eq, hrep, wp_eq hwi, ne_Q, sq, wipeR]
      refine wp_compT (f := fun j : Nat => qD (p * pw r j)) _ (fun j hj => ⟨_, rfl, fun s => ?_⟩) ?_
      · simp
      · rw [dnL_map]
        simp [wp_eq tp, wp_eq fa, ne_Q, gl16, hr2]
        refine wp_each EnQ.e (fun ρ s' => s' = s ∧ ∃ x10 a15 a16, ρ = [a0, .sh .rng, .sh (.int (a : Nat)), .sh (.int (b : Nat)), .sh (qD r), .sh (.int (n : Nat)), .sh (qD p), .sh (qD (pw r 1)), a8, a9, x10, a11, .sh DL, a13, a14, a15, a16]) (List.range' 1 (n - 1)) (fun k hk ρ s' hJ => ?_) (fun ρ s' hJ => ?_) ⟨rfl, _, _, _, rfl⟩
        · obtain ⟨rfl, x10, a15, a16, rfl⟩ := hJ
          have hk := List.mem_range'_1.mp hk
          have hk1 : (k : Int) - 1 = ((k - 1 : Nat) : Int) := by omega
          have g1 : ixD DL (.int (k : Nat)) = some (rowP r p (n - k)) := by rw [← hDL, ixD_tn]; exact hget k (by omega)
          have g2 : ixD DL (.int ((k - 1 : Nat) : Int)) = some (rowP r p (n - k + 1)) := by
            rw [← hDL, ixD_tn, hget (k - 1) (by omega), show n - (k - 1) = n - k + 1 by omega]
          have q0 : ∀ j, ixD (rowP r p j) (.int 0) = some (qD (p * (1 - pw r j))) := fun j => by unfold rowP; rw [ixD_t0]; simp only [List.getElem?_cons_zero]
          have q1 : ∀ j, ixD (rowP r p j) (.int 1) = some (qD (p * pw r j)) := fun j => by unfold rowP; rw [ixD_t1]; simp only [List.getElem?_cons_succ, List.getElem?_cons_zero]
          have si : ∀ j, j ≤ 10 → Sz 4000 (p * (1 - pw r j)) := fun j hj => (hp.mul (Sz1.sub (pw_sz R j))).mono (by omega)
          have sp : ∀ j, j ≤ 10 → Sz 4000 (p * pw r j) := fun j hj => (hp.mul (pw_sz R j)).mono (by omega)
          have c1 := cmp_eq (sp (n - k) (by omega)) (sp (n - k + 1) (by omega))
          have c2 := cmp_eq (si (n - k) (by omega)) (si (n - k + 1) (by omega))
          have hle := pw_le R (n - k)
          have hm := Rat.mul_le_mul_of_nonneg_left hle hp0
          have d1 : ¬ cmpR (p * pw r (n - k)) (p * pw r (n - k + 1)) < 0 := fun z => by have := (cmp_lt0 _ _).mp z; grind
          have d2 : ¬ 0 < cmpR (p * (1 - pw r (n - k))) (p * (1 - pw r (n - k + 1))) := fun z => by have := (cmp_gt0 _ _).mp z; grind
          have d1' := Int.not_lt.mp d1
          have d2' := Int.not_lt.mp d2
          refine ⟨_, rfl, ?_⟩
          simp only [e_N]
          simp [g1, hk1, g2, q0, q1, wp_eq c1, wp_eq c2, d1, d2, d1', d2', -ixD_tn]
        · obtain ⟨rfl, x10, a15, a16, rfl⟩ := hJ
          exact K _ _ _ _ _ _ _ _ _ _ _ _ ok
  by_cases hr0 : r = 0
  · have hpe := h0n hr0
    have hne : neD (qD p) (qD ((((a : Nat) : Int) : Rat) / (((n : Nat) : Int) : Rat))) = some (.bl false) := by rw [ne_Q, decide_eq_true hpe]; rfl
    simp [gl13, SZ_eq, ez, eq_Q, hr0]
    refine (wp_eq hfr).mpr ?_
    rw [e_Q, hne]
    simp
    rw [← hr0]
    exact rows _ _ _ _ _ _ _ _ _
  · simp [gl13, SZ_eq, ez, eq_Q, hr0]
    exact rows _ _ _ _ _ _ _ _ _
end Lw
set_option maxHeartbeats 1000000
set_option exponentiation.threshold 64
namespace Lw
open PySem PySem.Spec PyProof.Rows L2 Pu
theorem Wh_ge {r : Rat} (R : Rt r) : ∀ n : Nat, (n : Rat) * pw r (n + 1) ≤ Wh r n
  | 0 => by show ((0 : Nat) : Rat) * _ ≤ 0; have : ((0 : Nat) : Rat) = 0 := rfl; rw [this]; grind
  | n + 1 => by
    have ih := Wh_ge R n
    have h := pw_le R (n + 1)
    have e : ((n + 1 : Nat) : Rat) = (n : Rat) + 1 := Rat.natCast_add n 1
    have hn : (0 : Rat) ≤ (n : Rat) := by rw [← Rat.intCast_natCast]; exact Rat.intCast_nonneg.mpr (by omega)
    have m := Rat.mul_le_mul_of_nonneg_left h (show (0 : Rat) ≤ (n : Rat) + 1 by grind)
    show ((n + 1 : Nat) : Rat) * pw r (n + 2) ≤ Wh r n + pw r (n + 1)
    rw [e]; grind
theorem longer_less {r : Rat} (R : Rt r) {n : Nat} {a p q : Rat} (ha : 0 < a) (hp : p * Wh r n = a) (hq : q * Wh r (n + 1) = a) (h1 : 1 ≤ n) : q < p ∧ p * ((n : Rat) - Wh r n) ≤ q * (((n + 1 : Nat) : Rat) - Wh r (n + 1)) := by
  have w1 := Wh_pos R h1
  have w2 := Wh_pos R (show 1 ≤ n + 1 by omega)
  have hw : Wh r (n + 1) = Wh r n + pw r (n + 1) := rfl
  have hpw := pw_pos R (n + 1)
  have hp0 : 0 < p := Rat.not_le.mp fun z => by
    have := Rat.mul_nonneg (show 0 ≤ -p by grind) (Rat.le_of_lt w1)
    grind
  have hge := Wh_ge R n
  have e : ((n + 1 : Nat) : Rat) = (n : Rat) + 1 := Rat.natCast_add n 1
  refine ⟨Rat.not_le.mp fun z => ?_, ?_⟩
  · have m := Rat.mul_le_mul_of_nonneg_right z (Rat.le_of_lt w2)
    have m2 := Rat.mul_pos hp0 hpw
    rw [hw] at m hq
    grind
  · refine Rat.not_lt.mp fun z => ?_
    have z2 : ((n : Rat) + 1) * q < (n : Rat) * p := by rw [e] at z; grind
    have m := Rat.mul_lt_mul_of_pos_right z2 w2
    have m2 := Rat.mul_le_mul_of_nonneg_left hge (Rat.le_of_lt hp0)
    have e1 : ((n : Rat) + 1) * q * Wh r (n + 1) = ((n : Rat) + 1) * a := by rw [← hq]; grind
    have e2 : (n : Rat) * p * Wh r (n + 1) = (n : Rat) * a + (n : Rat) * (p * pw r (n + 1)) := by rw [hw, ← hp]; grind
    rw [e1, e2] at m
    grind
theorem gl11_ok {a b : Nat} (ha : a < 300) (hb : b < 300) {r : Rat} (R : Rt r) (h4 : Sz 4 r) {n : Nat} (h1 : 1 ≤ n) (h9 : n ≤ 9) {p : Rat} (ep : p = (((a : Nat) : Int) : Rat) / Wh r n) (x0 x8 x9 x10 x11 x12 x13 x14 x15 x16 : Slot) (s : DS) (ok : s.ok) :
    wp (gl11 [x0, .sh .rng, .sh (.int (a : Nat)), .sh (.int (b : Nat)), .sh (qD r), .sh (.int (n : Nat)), .sh (qD p), .sh (qD (pw r 1)), x8, x9, x10, x11, x12, x13, x14, x15, x16]) s RT := by
  have hA : ((a : Nat) : Int).natAbs < 2 ^ 10 := by simp; omega
  have hA0 : (0 : Int) ≤ (a : Nat) := by omega
  have hn1 : (n : Int) + 1 = ((n + 1 : Nat) : Int) := by omega
  have hW := Wh_pos R h1
  have hW2 := Wh_pos R (show 1 ≤ n + 1 by omega)
  have hp : Sz 581 p := by rw [ep]; exact pay_sz hA R h1 (by omega)
  have e : p * Wh r n = (((a : Nat) : Int) : Rat) := by rw [ep]; exact Rat.div_mul_cancel (by grind)
  have hpay : ∀ s, m_equal_payment [.int (a : Nat), qD r, .int ((n : Int) + 1)] s = some (qD ((((a : Nat) : Int) : Rat) / Wh r (n + 1)), s) := fun s => by rw [hn1]; exact payment_eq hA0 hA R (show 1 ≤ n + 1 by omega) (by omega) s
  have hq := pay_sz hA R (show 1 ≤ n + 1 by omega) (show n + 1 ≤ 10 by omega)
  have e2 : (((a : Nat) : Int) : Rat) / Wh r (n + 1) * Wh r (n + 1) = (((a : Nat) : Int) : Rat) := Rat.div_mul_cancel (by grind)
  generalize (((a : Nat) : Int) : Rat) / Wh r (n + 1) = q at hpay hq e2
  have w1 := whole_int_eq hA0 R (show n ≤ 10 by omega) hp e
  have w2 := whole_int_eq hA0 R (show n + 1 ≤ 10 by omega) hq e2
  have r1 : repT (.tup [qD p]) (.int (n : Nat)) = some (.tup (List.replicate n (qD p))) := repT_1 _ (by omega)
  have r2 : repT (.tup [qD q]) (.int ((n : Int) + 1)) = some (.tup (List.replicate (n + 1) (qD q))) := by rw [hn1]; exact repT_1 _ (by omega)
  have c1 := cmp_eq (hq.mono (by decide : 581 ≤ 4000)) (hp.mono (by decide : 581 ≤ 4000))
  have c2 := cmp_eq ((hq.mul ((nat_sz (show n + 1 ≤ 10 by omega)).sub (Wh_sz' R (show n + 1 ≤ 10 by omega)))).mono (by decide : 581 + (4 + 571 + 1) ≤ 4000)) ((hp.mul ((nat_sz (show n ≤ 10 by omega)).sub (Wh_sz' R (show n ≤ 10 by omega)))).mono (by decide : 581 + (4 + 571 + 1) ≤ 4000))
  have K := fun (a0 a8 a9 a10 a11 a12 a13 a14 a15 a16 : Slot) (s : DS) (ok : s.ok) => gl13_ok ha hb R h4 h1 h9 ep a0 a8 a9 a10 a11 a12 a13 a14 a15 a16 s ok
  generalize List.replicate (n + 1) (qD q) = RQ at r2 w2
  generalize List.replicate n (qD p) = RP at r1 w1
  simp [gl11, wp_eq hpay]
  by_cases h0 : a = 0
  · have h0' : ¬ (0 : Int) < (a : Nat) := by omega
    simp [gl12, h0]
    subst h0
    exact K _ _ _ _ _ _ _ _ _ _ _ ok
  · have h0' : (0 : Int) < (a : Nat) := by omega
    have hp0 : 0 < a := by omega
    have haR : (0 : Rat) < (((a : Nat) : Int) : Rat) := by
      have h1 : (0 : Rat) ≤ (((a : Nat) : Int) : Rat) := Rat.intCast_nonneg.mpr (by omega)
      have h2 : (((a : Nat) : Int) : Rat) ≠ 0 := fun z => h0 (by have : ((a : Nat) : Int) = 0 := Rat.intCast_inj.mp z; omega)
      grind
    obtain ⟨l1, l2⟩ := longer_less R haR e e2 h1
    have d1 := (cmp_lt0 _ _).mpr l1
    have d1' : ¬ 0 ≤ cmpR q p := by omega
    have d2 : ¬ cmpR (q * (((n + 1 : Nat) : Rat) - Wh r (n + 1))) (p * ((n : Rat) - Wh r n)) < 0 := fun z => by have := (cmp_lt0 _ _).mp z; grind
    have d2' := Int.not_lt.mp d2
    have e5 : ((n + 1 : Nat) : Rat) = (n : Rat) + 1 := Rat.natCast_add n 1
    simp only [e5] at w2 c2 d2 d2'
    simp [gl12, h0', hp0, SZ_eq, wp_eq c1, d1, d1', r1, r2, wp_eq w1, wp_eq w2, wp_eq c2, d2, d2']
    exact K _ _ _ _ _ _ _ _ _ _ _ ok
theorem gl6_ok {a b : Nat} (ha : a < 300) (hb : b < 300) {r : Rat} (R : Rt r) (h4 : Sz 4 r) {n : Nat} (h1 : 1 ≤ n) (h9 : n ≤ 9) {p : Rat} (ep : p = (((a : Nat) : Int) : Rat) / Wh r n) (x0 x7 x8 x9 x10 x11 x12 x13 x14 x15 x16 : Slot) (s : DS) (ok : s.ok) :
    wp (gl6 [x0, .sh .rng, .sh (.int (a : Nat)), .sh (.int (b : Nat)), .sh (qD r), .sh (.int (n : Nat)), .sh (qD p), x7, x8, x9, x10, x11, x12, x13, x14, x15, x16]) s RT := by
  have hA : ((a : Nat) : Int).natAbs < 2 ^ 10 := by simp; omega
  have hW := Wh_pos R h1
  have hp : Sz 581 p := by rw [ep]; exact pay_sz hA R h1 (by omega)
  have e : p * Wh r n = (((a : Nat) : Int) : Rat) := by rw [ep]; exact Rat.div_mul_cancel (by grind)
  have eo : D.tup [.int 1, .int 1] = qD 1 := rfl
  have ez : D.tup [.int 0, .int 1] = qD 0 := rfl
  have t1 := over_eq (Sz1.mono (by decide : 1 ≤ 4000)) (R.szu.mono (by decide : 10 ≤ 4000)) R.une
  have e1 : (1 : Rat) / (1 + r) = pw r 1 := rfl
  rw [e1] at t1
  have u1 := u_eq R
  have fa := frac1 ((a : Nat) : Int)
  have hr : rng1D [.int (n : Nat)] = some ((List.range n).map EnQ.e) := rng1_n (by omega)
  have K := fun (a0 a9 a10 a11 a12 a13 a14 a15 a16 a8 : Slot) (s : DS) (ok : s.ok) => gl11_ok ha hb R h4 h1 h9 ep a0 a8 a9 a10 a11 a12 a13 a14 a15 a16 s ok
  simp [gl6, SZ_eq, eo, wp_eq u1, wp_eq t1, gl7, ez, gl8, gl9, hr]
  refine wp_rest EnQ.e (fun rest ρ s' => s' = s ∧ ∃ (k : Nat) (x10 : Slot), k + rest.length = n ∧ ρ = [x0, .sh .rng, .sh (.int (a : Nat)), .sh (.int (b : Nat)), .sh (qD r), .sh (.int (n : Nat)), .sh (qD p), .sh (qD (pw r 1)), .sh (qD (p * Wh r k)), .sh (qD (pw r k)), x10, x11, x12, x13, x14, x15, x16]) (List.range n) (fun x xs ρ s' hJ => ?_) (fun ρ s' hJ => ?_) ⟨rfl, 0, _, by simp, by rw [show p * Wh r 0 = 0 from by show p * 0 = 0; grind]; rfl⟩
  · obtain ⟨rfl, k, x10, hk, rfl⟩ := hJ
    rw [List.length_cons] at hk
    have t2 := times_eq ((pw_sz R k).mono (by omega : 1 + 10 * k ≤ 4000)) ((pw_sz R 1).mono (by decide : 1 + 10 * 1 ≤ 4000))
    have e2 : pw r k * pw r 1 = pw r (k + 1) := by rw [pw1 R k]; grind
    rw [e2] at t2
    have t3 := times_eq (hp.mono (by decide : 581 ≤ 4000)) ((pw_sz R (k + 1)).mono (by omega : 1 + 10 * (k + 1) ≤ 4000))
    have t4 := plus_eq ((hp.mul (Wh_sz' R (k := k) (by omega))).mono (by decide : 581 + 571 ≤ 4000)) ((hp.mul (pw_sz R (k + 1))).mono (by omega : 581 + (1 + 10 * (k + 1)) ≤ 4000))
    have e3 : p * Wh r k + p * pw r (k + 1) = p * Wh r (k + 1) := by
      have : Wh r (k + 1) = Wh r k + pw r (k + 1) := rfl
      rw [this]; grind
    rw [e3] at t4
    refine ⟨_, rfl, ?_⟩
    simp [wp_eq t2, wp_eq t3]
    refine (wp_eq t4).mpr ?_
    first
      | exact ⟨rfl, k + 1, by omega, rfl, rfl⟩
      | exact ⟨rfl, k + 1, by omega, _, rfl⟩
      | exact ⟨rfl, k + 1, by omega, rfl⟩
      | trace_state
  · obtain ⟨rfl, k, x10, hk, rfl⟩ := hJ
    have hk : k = n := by simpa using hk
    subst hk
    simp [gl10, wp_eq fa, e, ne_Q]
    exact K _ _ _ _ _ _ _ _ _ _ _ ok
theorem gl4_ok {a b : Nat} (ha : a < 300) (hb : b < 300) {r : Rat} (R : Rt r) (h4 : Sz 4 r) {n : Nat} (h1 : 1 ≤ n) (h9 : n ≤ 9) (x0 x6 x7 x8 x9 x10 x11 x12 x13 x14 x15 x16 : Slot) (s : DS) (ok : s.ok) :
    wp (gl4 [x0, .sh .rng, .sh (.int (a : Nat)), .sh (.int (b : Nat)), .sh (qD r), .sh (.int (n : Nat)), x6, x7, x8, x9, x10, x11, x12, x13, x14, x15, x16]) s RT := by
  have hA : ((a : Nat) : Int).natAbs < 2 ^ 10 := by simp; omega
  have hB : ((b : Nat) : Int).natAbs < 2 ^ 10 := by simp; omega
  have hS : (a : Int) + (b : Int) = ((a + b : Nat) : Int) := by omega
  have hSz : ((a : Int) + (b : Int)).natAbs < 2 ^ 10 := by omega
  have p1 := payment_eq (a := (a : Nat)) (by omega) hA R h1 (show n ≤ 10 by omega)
  have p2 := payment_eq (a := (b : Nat)) (by omega) hB R h1 (show n ≤ 10 by omega)
  have p3 := payment_eq (a := (a : Int) + (b : Int)) (by omega) hSz R h1 (show n ≤ 10 by omega)
  have t := plus_eq ((pay_sz hA R h1 (show n ≤ 10 by omega)).mono (by decide : 581 ≤ 4000)) ((pay_sz hB R h1 (show n ≤ 10 by omega)).mono (by decide : 581 ≤ 4000))
  have e : (((a : Nat) : Int) : Rat) / Wh r n + (((b : Nat) : Int) : Rat) / Wh r n = (((a : Int) + (b : Int) : Int) : Rat) / Wh r n := by
    rw [Rat.intCast_add]
    have := Wh_pos R h1
    grind
  rw [e] at t
  simp [gl4, wp_eq p1, gl5, wp_eq p2, wp_eq t]
  refine (wp_eq p3).mpr ?_
  rw [ne_Q]
  simp
  exact gl6_ok ha hb R h4 h1 h9 rfl _ _ _ _ _ _ _ _ _ _ _ _ ok
theorem main_wp (ns : List Int) (hl : ns.length ≤ 63) (seed : Int) (h0 : 0 ≤ seed) (h1 : seed < 2147483647) : wp (g_law (rho0 17)) ⟨ns, 0, 0, seed⟩ fun r _ => r.1 = .rt (.bl true) := by
  have ok0 : (DS.mk ns 0 0 seed).ok := ⟨Int.le_refl _, Int.le_refl _, h0, h1, hl⟩
  rw [gl_eq]
  unfold gl0 rho0
  generalize (DS.mk ns 0 0 seed) = s at ok0
  simp only [List.replicate, take_eq]
  simp
  refine wp_take (m := 300) (by decide) (by decide) ok0 fun a s ha ok => ?_
  simp [gl1, take_eq]
  refine wp_take (m := 300) (by decide) (by decide) ok fun b s hb ok => ?_
  simp [gl2, take_eq]
  refine wp_take (m := 6) (by decide) (by decide) ok fun q s hq ok => ?_
  refine wp_take (m := 15) (by decide) (by decide) ok fun w s hw ok => ?_
  obtain ⟨d, hd, hd1, hd15⟩ : ∃ d : Nat, (1 + (w : Int)) = d ∧ 1 ≤ d ∧ d ≤ 15 := ⟨1 + w, by omega, by omega, by omega⟩
  have hlt : ((d : Nat) : Int).natAbs < 2 ^ 8500 := Nat.lt_of_lt_of_le (show d < 2 ^ 4 by omega) (Nat.pow_le_pow_right (by decide) (by decide))
  have e := frac_eq (q : Int) (d := ((d : Nat) : Int)) (by omega) hlt
  have le := frac_le (q : Int) (d := ((d : Nat) : Int)) (by omega)
  have hz : Sz 4 (((q : Int) : Rat) / (((d : Nat) : Int) : Rat)) := ⟨by have := le.1; simp at this ⊢; omega, by have := le.2; simp at this ⊢; omega⟩
  have hnn : 0 ≤ ((q : Int) : Rat) / (((d : Nat) : Int) : Rat) := by
    rw [Rat.div_def]
    have h1 : (0 : Rat) ≤ ((q : Int) : Rat) := Rat.intCast_nonneg.mpr (by omega)
    have h2 : (0 : Rat) ≤ (((d : Nat) : Int) : Rat) := Rat.intCast_nonneg.mpr (by omega)
    have h3 : (((d : Nat) : Int) : Rat) ≠ 0 := fun z => by have : ((d : Nat) : Int) = 0 := Rat.intCast_inj.mp z; omega
    exact Rat.mul_nonneg h1 (Rat.le_of_lt (Rat.inv_pos.mpr (by grind)))
  have R : Rt (((q : Int) : Rat) / (((d : Nat) : Int) : Rat)) := ⟨hnn, hz.mono (by decide)⟩
  simp [hd]
  refine (wp_eq e).mpr ?_
  rw [e_Q]
  generalize ((q : Int) : Rat) / (((d : Nat) : Int) : Rat) = r at R hz
  simp [gl3, take_eq]
  refine wp_take (m := 9) (by decide) (by decide) ok fun n0 s hn ok => ?_
  obtain ⟨n, hn', hn1, hn9⟩ : ∃ n : Nat, (1 + (n0 : Int)) = n ∧ 1 ≤ n ∧ n ≤ 9 := ⟨1 + n0, by omega, by omega, by omega⟩
  simp [hn']
  exact gl4_ok ha hb R hz hn1 hn9 _ _ _ _ _ _ _ _ _ _ _ _ _ ok
theorem main (ns : List Int) (hl : ns.length ≤ 63) (seed : Int) (h0 : 0 ≤ seed) (h1 : seed < 2147483647) : ∃ ρ' s', g_law (rho0 17) ⟨ns, 0, 0, seed⟩ = some ((.rt (.bl true), ρ'), s') := by
  obtain ⟨⟨r, ρ'⟩, s', e, q⟩ := main_wp ns hl seed h0 h1
  have q : r = .rt (.bl true) := q
  subst q
  exact ⟨ρ', s', e⟩
end Lw
set_option maxHeartbeats 0
namespace Lw
open PySem PySem.Spec PyProof.Rows L2 Pu
def q__law_take : He.DefD := ⟨("_law_take", none), "_law_take", "_law_take", defArgs s__law_take, defBody s__law_take, defScope s__law_take, [], []⟩
def q_fraction : He.DefD := ⟨("fraction", none), "fraction", "fraction", defArgs s_fraction, defBody s_fraction, defScope s_fraction, [], []⟩
def q_compare : He.DefD := ⟨("compare", none), "compare", "compare", defArgs s_compare, defBody s_compare, defScope s_compare, [], []⟩
def q_check_loan : He.DefD := ⟨("check_loan", none), "check_loan", "check_loan", defArgs s_check_loan, defBody s_check_loan, defScope s_check_loan, [], []⟩
def q_over : He.DefD := ⟨("over", none), "over", "over", defArgs s_over, defBody s_over, defScope s_over, [], []⟩
def q_plus : He.DefD := ⟨("plus", none), "plus", "plus", defArgs s_plus, defBody s_plus, defScope s_plus, [], []⟩
def q_equal_payment : He.DefD := ⟨("equal_payment", none), "equal_payment", "equal_payment", defArgs s_equal_payment, defBody s_equal_payment, defScope s_equal_payment, [], []⟩
def q_times : He.DefD := ⟨("times", none), "times", "times", defArgs s_times, defBody s_times, defScope s_times, [], []⟩
def q_minus : He.DefD := ⟨("minus", none), "minus", "minus", defArgs s_minus, defBody s_minus, defScope s_minus, [], []⟩
def q_parts : He.DefD := ⟨("parts", none), "parts", "parts", defArgs s_parts, defBody s_parts, defScope s_parts, [], []⟩
def q_balances : He.DefD := ⟨("balances", none), "balances", "balances", defArgs s_balances, defBody s_balances, defScope s_balances, [], []⟩
def q_worth_now : He.DefD := ⟨("worth_now", none), "worth_now", "worth_now", defArgs s_worth_now, defBody s_worth_now, defScope s_worth_now, [], []⟩
def q_turning_rates : He.DefD := ⟨("turning_rates", none), "turning_rates", "turning_rates", defArgs s_turning_rates, defBody s_turning_rates, defScope s_turning_rates, [], []⟩
def q_cheapest : He.DefD := ⟨("cheapest", none), "cheapest", "cheapest", defArgs s_cheapest, defBody s_cheapest, defScope s_cheapest, [], []⟩
def q_rounds_needed : He.DefD := ⟨("rounds_needed", none), "rounds_needed", "rounds_needed", defArgs s_rounds_needed, defBody s_rounds_needed, defScope s_rounds_needed, [], []⟩
def q__law_part1 : He.DefD := ⟨("_law_part1", none), "_law_part1", "_law_part1", defArgs s__law_part1, defBody s__law_part1, defScope s__law_part1, [], []⟩
def q_total : He.DefD := ⟨("total", none), "total", "total", defArgs s_total, defBody s_total, defScope s_total, [], []⟩
def q_whole_interest : He.DefD := ⟨("whole_interest", none), "whole_interest", "whole_interest", defArgs s_whole_interest, defBody s_whole_interest, defScope s_whole_interest, [], []⟩
def q__law_begin : He.DefD := ⟨("_law_begin", none), "_law_begin", "_law_begin", defArgs s__law_begin, defBody s__law_begin, defScope s__law_begin, [], []⟩
def q_law : He.DefD := ⟨("law", none), "law", "law", defArgs s_law, defBody s_law, defScope s_law, [], []⟩
def fn : List He.DefD := q__law_take :: q_fraction :: q_compare :: q_check_loan :: q_over :: q_plus :: q_equal_payment :: q_times :: q_minus :: q_parts :: q_balances :: q_worth_now :: q_turning_rates :: q_cheapest :: q_rounds_needed :: q__law_part1 :: q_total :: q_whole_interest :: q__law_begin :: q_law :: []
def fa : List He.Fa := .glo "_law_take" :: .glo "fraction" :: .glo "compare" :: .glo "check_loan" :: .glo "over" :: .glo "plus" :: .glo "equal_payment" :: .glo "times" :: .glo "minus" :: .glo "parts" :: .glo "balances" :: .glo "worth_now" :: .glo "turning_rates" :: .glo "cheapest" :: .glo "rounds_needed" :: .glo "_law_part1" :: .glo "total" :: .glo "whole_interest" :: .glo "_law_begin" :: .glo "law" :: .free "len" :: .free "sum" :: .free "min" :: .free "max" :: .free "all" :: .free "any" :: .free "abs" :: .free "int" :: .free "sorted" :: .free "tuple" :: .free "list" :: .free "range" :: .free "enumerate" :: .free "zip" :: .int "MOST_ROUNDS" 24 :: []
abbrev R : PySem.W.OpenRow := PySem.W.OpenLaw.row PySem.Challenge.rw_marketguild_k74_whole_loans_together
def ex (K : PySem.W.Frag) : Bool := bltB K "gcd" "math.gcd" && (tupB K "ZERO" [0, 1] && (tupB K "ONE" [1, 1]))
abbrev hk : PySem.W.Hook := He.hookX 4 fa fn [] [] ex
def ob (s : PySem.W.SharedT) : He.AlX := He.obsX 4 fa fn [] [] ex (HandSHeadRun.getT s)
theorem ob_eq (s : PySem.W.SharedT) : ob s = hk.obs s.abs := He.obsX_eq (HandSHeadRun.getT_eq s)
def nms0 : List PySem.Str := ["MarketplaceError", "ZeroDenominator", "GuildError", "ZERO", "ONE", "fraction", "plus", "minus", "times", "over", "compare", "total", "MOST_ROUNDS", "check_loan", "balances", "equal_payment", "parts", "worth_now", "rounds_needed", "turning_rates", "cheapest", "whole_interest", "_law_begin", "_law_take", "_law_part1"]
def nms : List PySem.Str := nms0
theorem run (w : World) : Pu.RunEqI R (PySem.W.view R.prog [0, 30]) hk ob 4000 nms w := by
  unfold Pu.RunEqI
  kernel_rfl
theorem facts {P : Program} {w : World} {K : PySem.W.Frag} {h : Heap} {mg : Str → Option Value} {f : Addr} (X : K.In h) (G : h.Ns mainGlobals mg) (hfa : mg ("law" : Str) = some (.ref f)) (c : He.SaysD fa fn K) (cx : ex K = true) :
    ∃ fd : FuncData, (∀ (s : Shared) (v : Value), BindsTo s fd ⟨[v], []⟩ [("script", v)]) ∧ ∀ base : Heap, K.In base → base.Ns mainGlobals mg → FnOk P w K mg base CX0 6 f fd ["script"] (spLaw K 17 g_law) := by
  have x_gcd := (Bool.and_eq_true_iff.mp (show (bltB K "gcd" "math.gcd" && (tupB K "ZERO" [0, 1] && (tupB K "ONE" [1, 1]))) = true from cx)).1
  have r0 := (Bool.and_eq_true_iff.mp (show (bltB K "gcd" "math.gcd" && (tupB K "ZERO" [0, 1] && (tupB K "ONE" [1, 1]))) = true from cx)).2
  have x_ZERO := (Bool.and_eq_true_iff.mp (show (tupB K "ZERO" [0, 1] && (tupB K "ONE" [1, 1])) = true from r0)).1
  have r1 := (Bool.and_eq_true_iff.mp (show (tupB K "ZERO" [0, 1] && (tupB K "ONE" [1, 1])) = true from r0)).2
  have x_ONE : (tupB K "ONE" [1, 1]) = true := r1
  have h_gcd := bltB_ok X G x_gcd
  have k_ZERO : CstOk mg "ZERO" c_ZERO K := tupB_ok X G x_ZERO
  have k_ONE : CstOk mg "ONE" c_ONE K := tupB_ok X G x_ONE
  have B : Bi mg := ⟨He.free_ok X G (c.fact 20 (f := .free "len") rfl), He.free_ok X G (c.fact 21 (f := .free "sum") rfl), He.free_ok X G (c.fact 22 (f := .free "min") rfl), He.free_ok X G (c.fact 23 (f := .free "max") rfl), He.free_ok X G (c.fact 24 (f := .free "all") rfl), He.free_ok X G (c.fact 25 (f := .free "any") rfl), He.free_ok X G (c.fact 26 (f := .free "abs") rfl), He.free_ok X G (c.fact 27 (f := .free "int") rfl), He.free_ok X G (c.fact 28 (f := .free "sorted") rfl), He.free_ok X G (c.fact 29 (f := .free "tuple") rfl), He.free_ok X G (c.fact 30 (f := .free "list") rfl), He.free_ok X G (c.fact 31 (f := .free "range") rfl), He.free_ok X G (c.fact 32 (f := .free "enumerate") rfl), He.free_ok X G (c.fact 33 (f := .free "zip") rfl)⟩
  obtain ⟨t_MOST_ROUNDS, e_MOST_ROUNDS⟩ := He.int_ok X G (c.fact 34 (f := .int "MOST_ROUNDS" 24) rfl)
  have k_MOST_ROUNDS : CstOk mg "MOST_ROUNDS" c_MOST_ROUNDS K := CstOk.int e_MOST_ROUNDS
  obtain ⟨fd__law_take, F__law_take⟩ := c.def_ 0 (d := q__law_take) rfl
  obtain ⟨fd_fraction, F_fraction⟩ := c.def_ 1 (d := q_fraction) rfl
  obtain ⟨fd_compare, F_compare⟩ := c.def_ 2 (d := q_compare) rfl
  obtain ⟨fd_check_loan, F_check_loan⟩ := c.def_ 3 (d := q_check_loan) rfl
  obtain ⟨fd_over, F_over⟩ := c.def_ 4 (d := q_over) rfl
  obtain ⟨fd_plus, F_plus⟩ := c.def_ 5 (d := q_plus) rfl
  obtain ⟨fd_equal_payment, F_equal_payment⟩ := c.def_ 6 (d := q_equal_payment) rfl
  obtain ⟨fd_times, F_times⟩ := c.def_ 7 (d := q_times) rfl
  obtain ⟨fd_minus, F_minus⟩ := c.def_ 8 (d := q_minus) rfl
  obtain ⟨fd_parts, F_parts⟩ := c.def_ 9 (d := q_parts) rfl
  obtain ⟨fd_balances, F_balances⟩ := c.def_ 10 (d := q_balances) rfl
  obtain ⟨fd_worth_now, F_worth_now⟩ := c.def_ 11 (d := q_worth_now) rfl
  obtain ⟨fd_turning_rates, F_turning_rates⟩ := c.def_ 12 (d := q_turning_rates) rfl
  obtain ⟨fd_cheapest, F_cheapest⟩ := c.def_ 13 (d := q_cheapest) rfl
  obtain ⟨fd_rounds_needed, F_rounds_needed⟩ := c.def_ 14 (d := q_rounds_needed) rfl
  obtain ⟨fd__law_part1, F__law_part1⟩ := c.def_ 15 (d := q__law_part1) rfl
  obtain ⟨fd_total, F_total⟩ := c.def_ 16 (d := q_total) rfl
  obtain ⟨fd_whole_interest, F_whole_interest⟩ := c.def_ 17 (d := q_whole_interest) rfl
  obtain ⟨fd__law_begin, F__law_begin⟩ := c.def_ 18 (d := q__law_begin) rfl
  obtain ⟨fd_law, F_law⟩ := c.def_ 19 (d := q_law) rfl
  have e := hfa.symm.trans (He.glo_ok X G (c.fact 19 (f := .glo "law") rfl))
  cases e
  have b__law_take : Binds K fd__law_take ["d", "many"] [] := FunD.bindsN F__law_take fun _ _ _ _ _ _ us hl => match us, hl with | [_, _], _ => rfl
  have b_fraction : Binds K fd_fraction ["numerator", "denominator"] [] := FunD.bindsN F_fraction fun _ _ _ _ _ _ us hl => match us, hl with | [_, _], _ => rfl
  have b_compare : Binds K fd_compare ["a", "b"] [] := FunD.bindsN F_compare fun _ _ _ _ _ _ us hl => match us, hl with | [_, _], _ => rfl
  have b_check_loan : Binds K fd_check_loan ["amount", "rate", "rounds"] [] := FunD.bindsN F_check_loan fun _ _ _ _ _ _ us hl => match us, hl with | [_, _, _], _ => rfl
  have b_over : Binds K fd_over ["a", "b"] [] := FunD.bindsN F_over fun _ _ _ _ _ _ us hl => match us, hl with | [_, _], _ => rfl
  have b_plus : Binds K fd_plus ["a", "b"] [] := FunD.bindsN F_plus fun _ _ _ _ _ _ us hl => match us, hl with | [_, _], _ => rfl
  have b_equal_payment : Binds K fd_equal_payment ["amount", "rate", "rounds"] [] := FunD.bindsN F_equal_payment fun _ _ _ _ _ _ us hl => match us, hl with | [_, _, _], _ => rfl
  have b_times : Binds K fd_times ["a", "b"] [] := FunD.bindsN F_times fun _ _ _ _ _ _ us hl => match us, hl with | [_, _], _ => rfl
  have b_minus : Binds K fd_minus ["a", "b"] [] := FunD.bindsN F_minus fun _ _ _ _ _ _ us hl => match us, hl with | [_, _], _ => rfl
  have b_parts : Binds K fd_parts ["amount", "rate", "rounds"] [] := FunD.bindsN F_parts fun _ _ _ _ _ _ us hl => match us, hl with | [_, _, _], _ => rfl
  have b_balances : Binds K fd_balances ["amount", "rate", "paid"] [] := FunD.bindsN F_balances fun _ _ _ _ _ _ us hl => match us, hl with | [_, _, _], _ => rfl
  have b_worth_now : Binds K fd_worth_now ["rate", "flows"] [] := FunD.bindsN F_worth_now fun _ _ _ _ _ _ us hl => match us, hl with | [_, _], _ => rfl
  have b_turning_rates : Binds K fd_turning_rates ["flows", "step", "most"] [] := FunD.bindsN F_turning_rates fun _ _ _ _ _ _ us hl => match us, hl with | [_, _, _], _ => rfl
  have b_cheapest : Binds K fd_cheapest ["rate", "offers"] [] := FunD.bindsN F_cheapest fun _ _ _ _ _ _ us hl => match us, hl with | [_, _], _ => rfl
  have b_rounds_needed : Binds K fd_rounds_needed ["amount", "rate", "payment"] [] := FunD.bindsN F_rounds_needed fun _ _ _ _ _ _ us hl => match us, hl with | [_, _, _], _ => rfl
  have b__law_part1 : Binds K fd__law_part1 ["d", "one", "two", "rate", "factor", "paid", "first", "second"] [] := FunD.bindsN F__law_part1 fun _ _ _ _ _ _ us hl => match us, hl with | [_, _, _, _, _, _, _, _], _ => rfl
  have b_total : Binds K fd_total ["items"] [] := FunD.bindsN F_total fun _ _ _ _ _ _ us hl => match us, hl with | [_], _ => rfl
  have b_whole_interest : Binds K fd_whole_interest ["amount", "rate", "paid"] [] := FunD.bindsN F_whole_interest fun _ _ _ _ _ _ us hl => match us, hl with | [_, _, _], _ => rfl
  have b__law_begin : Binds K fd__law_begin ["script"] [] := FunD.bindsN F__law_begin fun _ _ _ _ _ _ us hl => match us, hl with | [_], _ => rfl
  have b := FunD.bindsA (ps := ["script"]) F_law fun _ _ _ _ _ _ us hl => match us, hl with | [_], _ => rfl
  refine ⟨fd_law, fun s v => b s [v] rfl, fun base _ _ => ?_⟩
  have d__law_take : DefOk P w K mg base "_law_take" 1 ["d", "many"] m__law_take := ok__law_take B F__law_take (He.glo_ok X G (c.fact 0 (f := .glo "_law_take") rfl)) b__law_take
  have d_fraction : DefOk P w K mg base "fraction" 1 ["numerator", "denominator"] m_fraction := ok_fraction B h_gcd F_fraction (He.glo_ok X G (c.fact 1 (f := .glo "fraction") rfl)) b_fraction
  have d_compare : DefOk P w K mg base "compare" 1 ["a", "b"] m_compare := ok_compare B F_compare (He.glo_ok X G (c.fact 2 (f := .glo "compare") rfl)) b_compare
  have d_check_loan : DefOk P w K mg base "check_loan" 2 ["amount", "rate", "rounds"] m_check_loan := ok_check_loan B k_ZERO k_MOST_ROUNDS d_compare F_check_loan (He.glo_ok X G (c.fact 3 (f := .glo "check_loan") rfl)) b_check_loan
  have d_over : DefOk P w K mg base "over" 2 ["a", "b"] m_over := ok_over B d_fraction F_over (He.glo_ok X G (c.fact 4 (f := .glo "over") rfl)) b_over
  have d_plus : DefOk P w K mg base "plus" 2 ["a", "b"] m_plus := ok_plus B d_fraction F_plus (He.glo_ok X G (c.fact 5 (f := .glo "plus") rfl)) b_plus
  have d_equal_payment : DefOk P w K mg base "equal_payment" 3 ["amount", "rate", "rounds"] m_equal_payment := ok_equal_payment B k_ZERO k_ONE d_check_loan d_over d_plus d_fraction F_equal_payment (He.glo_ok X G (c.fact 6 (f := .glo "equal_payment") rfl)) b_equal_payment
  have d_times : DefOk P w K mg base "times" 2 ["a", "b"] m_times := ok_times B d_fraction F_times (He.glo_ok X G (c.fact 7 (f := .glo "times") rfl)) b_times
  have d_minus : DefOk P w K mg base "minus" 2 ["a", "b"] m_minus := ok_minus B d_fraction F_minus (He.glo_ok X G (c.fact 8 (f := .glo "minus") rfl)) b_minus
  have d_parts : DefOk P w K mg base "parts" 4 ["amount", "rate", "rounds"] m_parts := ok_parts B d_equal_payment d_fraction d_times d_minus F_parts (He.glo_ok X G (c.fact 9 (f := .glo "parts") rfl)) b_parts
  have d_balances : DefOk P w K mg base "balances" 3 ["amount", "rate", "paid"] m_balances := ok_balances B k_ONE d_check_loan d_fraction d_minus d_times d_plus F_balances (He.glo_ok X G (c.fact 10 (f := .glo "balances") rfl)) b_balances
  have d_worth_now : DefOk P w K mg base "worth_now" 3 ["rate", "flows"] m_worth_now := ok_worth_now B k_ZERO k_ONE d_check_loan d_plus d_over d_times d_fraction F_worth_now (He.glo_ok X G (c.fact 11 (f := .glo "worth_now") rfl)) b_worth_now
  have d_turning_rates : DefOk P w K mg base "turning_rates" 4 ["flows", "step", "most"] m_turning_rates := ok_turning_rates B k_MOST_ROUNDS k_ZERO d_compare d_worth_now d_times d_fraction F_turning_rates (He.glo_ok X G (c.fact 12 (f := .glo "turning_rates") rfl)) b_turning_rates
  have d_cheapest : DefOk P w K mg base "cheapest" 4 ["rate", "offers"] m_cheapest := ok_cheapest B d_worth_now d_compare F_cheapest (He.glo_ok X G (c.fact 13 (f := .glo "cheapest") rfl)) b_cheapest
  have d_rounds_needed : DefOk P w K mg base "rounds_needed" 3 ["amount", "rate", "payment"] m_rounds_needed := ok_rounds_needed B k_ZERO k_ONE k_MOST_ROUNDS d_check_loan d_fraction d_times d_minus d_plus d_compare F_rounds_needed (He.glo_ok X G (c.fact 14 (f := .glo "rounds_needed") rfl)) b_rounds_needed
  have d__law_part1 : DefOk P w K mg base "_law_part1" 5 ["d", "one", "two", "rate", "factor", "paid", "first", "second"] m__law_part1 := ok__law_part1 B d_balances d_turning_rates d_cheapest d_rounds_needed d_worth_now d_plus d_compare d__law_take d_times d_fraction d_minus F__law_part1 (He.glo_ok X G (c.fact 15 (f := .glo "_law_part1") rfl)) b__law_part1
  have d_total : DefOk P w K mg base "total" 3 ["items"] m_total := ok_total B k_ZERO d_plus F_total (He.glo_ok X G (c.fact 16 (f := .glo "total") rfl)) b_total
  have d_whole_interest : DefOk P w K mg base "whole_interest" 4 ["amount", "rate", "paid"] m_whole_interest := ok_whole_interest B d_total d_balances d_fraction d_times F_whole_interest (He.glo_ok X G (c.fact 17 (f := .glo "whole_interest") rfl)) b_whole_interest
  exact ok_law B d__law_take d_fraction d_equal_payment d_over d_parts d_balances d__law_part1 d_plus d_times d_total d_whole_interest d_compare F_law (ok_begin B F__law_begin) b__law_begin (He.glo_ok X G (c.fact 18 (f := .glo "_law_begin") rfl)) F__law_begin.kp
end Lw
open PySem PySem.W PySem.Calls PyProof.Rows
theorem PySem.Challenge.cw_marketguild_k74_whole_loans_together_holds : PySem.Challenge.rw_marketguild_k74_whole_loans_together.Holds := by
  w_on; o_law
  refine Pu.head_anyI (r := OpenLaw.row PySem.Challenge.rw_marketguild_k74_whole_loans_together) (q := view (OpenLaw.row PySem.Challenge.rw_marketguild_k74_whole_loans_together).prog [0, 30]) (H := Lw.hk) (ob := Lw.ob) (M := 4000) (loose := Lw.nms) (d := HandSHeadRun.topDef (OpenLaw.row PySem.Challenge.rw_marketguild_k74_whole_loans_together).prog 30) (kwd := []) Lw.ob_eq
    Lw.run (by kernel_rfl) (by kernel_rfl) (by kernel_rfl) (by rfl) (by first | assumption | decide +kernel) (by decide +kernel) ⟨rfl, rfl, rfl, rfl, rfl, by decide +kernel⟩ ?hw ?hc
  case hw => w_witness2
  case hc =>
    refine L2.walk_ofE (l := PySem.Challenge.rw_marketguild_k74_whole_loans_together) (n := 63) (k := 6) (x := "script") (CX := L2.CX0) rfl (by decide) (by kernel_rfl) ⟨rfl, by decide, by decide⟩ ?F (fun _ _ _ _ z => z)
    intro w mg fa h Y G hmg0
    obtain ⟨K, KX, c⟩ := Y
    have hmg : mg ("law" : PySem.Str) = some (.ref fa) := by
      have e : (HandSHeadRun.topDef (OpenLaw.row PySem.Challenge.rw_marketguild_k74_whole_loans_together).prog 30).name = ("law" : PySem.Str) := by kernel_rfl
      rw [← e]
      exact hmg0
    obtain ⟨fd, hb, hF⟩ := Lw.facts (P := (PySem.Challenge.rw_marketguild_k74_whole_loans_together).prog) (w := w) KX G hmg (congrArg (fun z : He.AlT => z.1) c.t) c.more
    exact ⟨K, fd, Pu.spLaw K 17 Lw.g_law, KX, hb, fun H a ns hl _ hS => ⟨a, ns, rfl, hS, hl, fun seed h0 h1 => Lw.main ns hl seed h0 h1, fun _ => rfl⟩, hF⟩
