import PyProof.Rows.All
import Wide.All
import OpenK.AllK
import Wide.FinOn
import HandS.ForMost
import HandS.Wide
import HandS.TupLe
import HandS.TupAny
import HandS.TupMul
import HandS.Deep
import HandS.Zip
import HandS.Conv
import HandS.Style
import HandS.SortKw
import HandS.Gcd
import HandS.Walk
import HandS.Defaults
import HandS.WordsExc
import KE.GoesMore
import KE.GoesEnum
import KE.GoesZip
import KE.DataCmp
import KE.DataMinMax
import KE.KTupSum
import HandS.HeadHook4
import KE.SortData
import KE.KStateDown
import HandS.Head0
import HandS.Head1
import HandS.Head2
import HandS.Head3
import PySem.Challenge.RW_marketguild_k78_whole_seats_for_all
import HandS.Base
import HandS.Call
import HandS.Ends
import HandS.More
import HandS.Words
import HandS.HeadEnd
import HandS.HeadHook1
import HandS.HeadHook2
set_option Elab.async false
set_option linter.all false
set_option maxRecDepth 100000
/-! Pu: a pure layer over HandS. Python data as plain trees, defs as functions in a small monad. -/
namespace Pu
open PySem PySem.Spec PyProof.Rows L2

abbrev SZ : Nat := sizeLine
/-- pure data; rng stands for the law's own draw object -/
inductive D where
  | non | bl (b : Bool) | int (i : Int) | str (x : Str) | tup (xs : List D) | lst (xs : List D) | rng

/-- the state of the law's draw object -/
structure DS where
  ns : List Int
  pos : Int
  acc : Int
  seed : Int
structure DS.ok (d : DS) : Prop where
  p0 : 0 ≤ d.pos
  a0 : 0 ≤ d.acc
  s0 : 0 ≤ d.seed
  s1 : d.seed < 2147483647
  nl : d.ns.length ≤ 63
/-- computations -/
abbrev M (α : Type) := DS → Option (α × DS)
def Mp {α : Type} (a : α) : M α := fun s => some (a, s)
def Mf {α : Type} : M α := fun _ => none
def Mb {α β : Type} (x : M α) (f : α → M β) : M β := fun s => match x s with
  | none => none
  | some (a, s') => f a s'
def Mo {α : Type} : Option α → M α
  | none => Mf
  | some a => Mp a
section
variable {α β γ : Type}
theorem Mb_eq {x : M α} {f : α → M β} {s s' : DS} {b : β} (h : Mb x f s = some (b, s')) : ∃ a s1, x s = some (a, s1) ∧ f a s1 = some (b, s') := by
  unfold Mb at h
  cases e : x s with
  | none => rw [e] at h; cases h
  | some p => obtain ⟨a, s1⟩ := p; rw [e] at h; exact ⟨a, s1, rfl, h⟩
theorem Mp_eq {a b : α} {s s' : DS} (h : Mp a s = some (b, s')) : a = b ∧ s = s' := by
  unfold Mp at h
  have := Option.some.inj h
  exact ⟨congrArg Prod.fst this, congrArg Prod.snd this⟩
theorem Mo_eq {o : Option α} {b : α} {s s' : DS} (h : Mo o s = some (b, s')) : o = some b ∧ s = s' := by
  cases o with
  | none => cases h
  | some a => obtain ⟨e1, e2⟩ := Mp_eq h; exact ⟨by rw [e1], e2⟩
theorem Mf_eq {b : α} {s s' : DS} (h : (Mf : M α) s = some (b, s')) : False := by cases h
@[simp] theorem Mb_Mp (a : α) (f : α → M β) : Mb (Mp a) f = f a := rfl
@[simp] theorem Mb_Mf (f : α → M β) : Mb (Mf : M α) f = Mf := rfl
@[simp] theorem Mb_id (x : M α) : Mb x Mp = x := by
  funext s; unfold Mb; cases h : x s with
  | none => rfl
  | some p => rfl
@[simp] theorem Mb_assoc (x : M α) (f : α → M β) (g : β → M γ) : Mb (Mb x f) g = Mb x fun a => Mb (f a) g := by
  funext s; unfold Mb; cases h : x s with
  | none => rfl
  | some p => rfl
@[simp] theorem Mo_some (a : α) : Mo (some a) = Mp a := rfl
@[simp] theorem Mo_none : Mo (none : Option α) = Mf := rfl
end

/-- where the law's draw object lies, and the script's copy -/
structure PD where
  p : Addr
  q : Addr
@[simp] def pp : Option PD → Option Addr
  | none => none
  | some x => some x.p
/-! ### how data lie in the abstract heap -/
section
variable (K : PySem.W.Frag) (pd : Option PD) (F : Hp)
mutual
def Rep : D → V → Prop
  | .non, v => v = .non
  | .bl b, v => v = .bl b
  | .int i, v => v = .int i
  | .str x, v => v = .str x
  | .tup ds, v => ∃ a xs, v = .ref a ∧ SqT K F a xs ∧ ds.length ≤ SZ ∧ RepL ds xs
  | .lst ds, v => ∃ a xs, v = .ref a ∧ F a = some (.lst xs) ∧ ds.length ≤ SZ ∧ RepL ds xs
  | .rng, v => ∃ a, v = .ref a ∧ pp pd = some a
def RepL : List D → List V → Prop
  | [], xs => xs = []
  | d :: ds, xs => ∃ y ys, xs = y :: ys ∧ Rep d y ∧ RepL ds ys
end
end
section
variable {K : PySem.W.Frag} {pd : Option PD} {F F' H H' : Hp}
theorem RepL.length : ∀ {ds : List D} {xs : List V}, RepL K pd F ds xs → xs.length = ds.length
  | [], xs, h => by simp only [RepL] at h; rw [h]; rfl
  | d :: ds, xs, h => by
    simp only [RepL] at h
    obtain ⟨y, ys, rfl, _, h⟩ := h
    simp [RepL.length h]
theorem RepL.get : ∀ {ds : List D} {xs : List V} {i : Nat} {d : D}, RepL K pd F ds xs → ds[i]? = some d → ∃ x, xs[i]? = some x ∧ Rep K pd F d x
  | [], _, _, _, _, e => by simp at e
  | d :: ds, xs, 0, _, h, e => by
    simp only [RepL] at h
    obtain ⟨y, ys, rfl, h1, _⟩ := h
    simp at e; subst e
    exact ⟨y, rfl, h1⟩
  | d :: ds, xs, i + 1, _, h, e => by
    simp only [RepL] at h
    obtain ⟨y, ys, rfl, _, h⟩ := h
    obtain ⟨x, e1, r⟩ := RepL.get (i := i) h (by simpa using e)
    exact ⟨x, by simpa using e1, r⟩
theorem RepL.getV : ∀ {ds : List D} {xs : List V} {i : Nat} {x : V}, RepL K pd F ds xs → xs[i]? = some x → ∃ d, ds[i]? = some d ∧ Rep K pd F d x
  | [], xs, _, _, h, e => by simp only [RepL] at h; subst h; simp at e
  | d :: ds, xs, 0, _, h, e => by
    simp only [RepL] at h
    obtain ⟨y, ys, rfl, h1, _⟩ := h
    simp at e; subst e
    exact ⟨d, rfl, h1⟩
  | d :: ds, xs, i + 1, _, h, e => by
    simp only [RepL] at h
    obtain ⟨y, ys, rfl, _, h⟩ := h
    obtain ⟨x, e1, r⟩ := RepL.getV (i := i) h (by simpa using e)
    exact ⟨x, by simpa using e1, r⟩
theorem RepL.nil : RepL K pd F [] [] := by simp [RepL]
theorem RepL.cons {d : D} {ds : List D} {x : V} {xs : List V} (h : Rep K pd F d x) (t : RepL K pd F ds xs) : RepL K pd F (d :: ds) (x :: xs) := by
  simp only [RepL]; exact ⟨x, xs, rfl, h, t⟩
theorem RepL.cases {d : D} {ds : List D} {xs : List V} (h : RepL K pd F (d :: ds) xs) : ∃ y ys, xs = y :: ys ∧ Rep K pd F d y ∧ RepL K pd F ds ys := by
  simpa only [RepL] using h
theorem RepL.cases0 {xs : List V} (h : RepL K pd F [] xs) : xs = [] := by simpa only [RepL] using h
theorem RepL.append : ∀ {ds es : List D} {xs ys : List V}, RepL K pd F ds xs → RepL K pd F es ys → RepL K pd F (ds ++ es) (xs ++ ys)
  | [], _, _, _, h, h' => by have := h.cases0; subst this; exact h'
  | d :: ds, _, _, _, h, h' => by
    obtain ⟨y, ys, rfl, h1, h2⟩ := h.cases
    exact .cons h1 (RepL.append h2 h')
theorem RepL.take : ∀ {ds : List D} {xs : List V} (n : Nat), RepL K pd F ds xs → RepL K pd F (ds.take n) (xs.take n)
  | _, _, 0, _ => by simp; exact .nil
  | [], _, n + 1, h => by have := h.cases0; subst this; exact .nil
  | d :: ds, _, n + 1, h => by
    obtain ⟨y, ys, rfl, h1, h2⟩ := h.cases
    exact .cons h1 (RepL.take n h2)
theorem RepL.drop : ∀ {ds : List D} {xs : List V} (n : Nat), RepL K pd F ds xs → RepL K pd F (ds.drop n) (xs.drop n)
  | _, _, 0, h => h
  | [], _, n + 1, h => by have := h.cases0; subst this; exact .nil
  | d :: ds, _, n + 1, h => by
    obtain ⟨y, ys, rfl, h1, h2⟩ := h.cases
    exact RepL.drop n h2
theorem RepL.set : ∀ {ds : List D} {xs : List V} (n : Nat) {d : D} {x : V}, RepL K pd F ds xs → Rep K pd F d x → RepL K pd F (ds.set n d) (xs.set n x)
  | [], _, _, _, _, h, _ => by have := h.cases0; subst this; exact .nil
  | e :: ds, _, 0, d, x, h, r => by
    obtain ⟨y, ys, rfl, h1, h2⟩ := h.cases
    exact .cons r h2
  | e :: ds, _, n + 1, d, x, h, r => by
    obtain ⟨y, ys, rfl, h1, h2⟩ := h.cases
    exact .cons h1 (RepL.set n h2 r)
theorem RepL.reverse : ∀ {ds : List D} {xs : List V}, RepL K pd F ds xs → RepL K pd F ds.reverse xs.reverse
  | [], _, h => by have := h.cases0; subst this; exact .nil
  | d :: ds, _, h => by
    obtain ⟨y, ys, rfl, h1, h2⟩ := h.cases
    rw [List.reverse_cons, List.reverse_cons]
    exact (RepL.reverse h2).append (.cons h1 .nil)
theorem RepL.eraseIdx : ∀ {ds : List D} {xs : List V} (n : Nat), RepL K pd F ds xs → RepL K pd F (ds.eraseIdx n) (xs.eraseIdx n)
  | [], _, _, h => by have := h.cases0; subst this; exact .nil
  | e :: ds, _, 0, h => by
    obtain ⟨y, ys, rfl, h1, h2⟩ := h.cases
    exact h2
  | e :: ds, _, n + 1, h => by
    obtain ⟨y, ys, rfl, h1, h2⟩ := h.cases
    exact .cons h1 (RepL.eraseIdx n h2)
theorem RepL.dropLast : ∀ {ds : List D} {xs : List V}, RepL K pd F ds xs → RepL K pd F ds.dropLast xs.dropLast := fun {ds xs} h => by
  rw [List.dropLast_eq_take, List.dropLast_eq_take, h.length]
  exact h.take _
theorem RepL.rep {ds : List D} {xs : List V} (h : RepL K pd F ds xs) : ∀ n : Nat, RepL K pd F (List.replicate n ds).flatten (List.replicate n xs).flatten
  | 0 => .nil
  | n + 1 => by
    rw [List.replicate_succ, List.replicate_succ, List.flatten_cons, List.flatten_cons]
    exact h.append (RepL.rep h n)
theorem RepL.ints : ∀ {ns : List Int} {xs : List V}, RepL K pd F (ns.map D.int) xs → xs = ns.map V.int
  | [], _, h => h.cases0
  | n :: ns, _, h => by
    obtain ⟨y, ys, rfl, h1, h2⟩ := h.cases
    simp only [Rep] at h1
    rw [h1, RepL.ints h2]; rfl
theorem RepL.ofInts : ∀ (ns : List Int), RepL K pd F (ns.map D.int) (ns.map V.int)
  | [] => .nil
  | n :: ns => .cons (by simp [Rep]) (RepL.ofInts ns)
theorem RepL.bls : ∀ {ns : List Bool} {xs : List V}, RepL K pd F (ns.map D.bl) xs → xs = ns.map V.bl
  | [], _, h => h.cases0
  | n :: ns, _, h => by
    obtain ⟨y, ys, rfl, h1, h2⟩ := h.cases
    simp only [Rep] at h1
    rw [h1, RepL.bls h2]; rfl
theorem sqT_mono {a : Addr} {xs : List V} (e : Same F F') (h : SqT K F a xs) : SqT K F' a xs := by
  rcases h with (h | ⟨o, h⟩) | h
  · exact .inl (.inl (e _ _ h))
  · exact .inl (.inr ⟨o, e _ _ h⟩)
  · exact .inr h
mutual
theorem Rep.mono (e : Same F F') : ∀ {d : D} {v : V}, Rep K pd F d v → Rep K pd F' d v
  | .non, _, h => by simpa only [Rep] using h
  | .bl _, _, h => by simpa only [Rep] using h
  | .int _, _, h => by simpa only [Rep] using h
  | .str _, _, h => by simpa only [Rep] using h
  | .rng, _, h => by simpa only [Rep] using h
  | .tup ds, _, h => by
    simp only [Rep] at h ⊢
    obtain ⟨a, xs, r, s, hl, q⟩ := h
    exact ⟨a, xs, r, sqT_mono e s, hl, RepL.mono e q⟩
  | .lst ds, _, h => by
    simp only [Rep] at h ⊢
    obtain ⟨a, xs, r, s, hl, q⟩ := h
    exact ⟨a, xs, r, e _ _ s, hl, RepL.mono e q⟩
theorem RepL.mono (e : Same F F') : ∀ {ds : List D} {xs : List V}, RepL K pd F ds xs → RepL K pd F' ds xs
  | [], _, h => by simpa only [RepL] using h
  | d :: ds, _, h => by
    simp only [RepL] at h ⊢
    obtain ⟨y, ys, r, h1, h2⟩ := h
    exact ⟨y, ys, r, Rep.mono e h1, RepL.mono e h2⟩
end
theorem same_upd {p : Addr} {o : HO} (h : H p = none) : Same H (upd H p o) := fun b x e => by
  rw [upd_ne (ne_of_none e h)]
  exact e
end

/-! ### evolution -/
structure Ext (pd : Option PD) (F H F' H' : Hp) : Prop where
  ff : Same F F'
  hh : ∀ a o, H a = some o → some a ≠ pp pd → H' a = some o
  hd : ∀ a, H a ≠ none → H' a ≠ none
  nw : ∀ a o, F' a = some o → F a = some o ∨ H a = none
  fh : Same F' H'
section
variable {K : PySem.W.Frag} {pd : Option PD} {F H F' H' F'' H'' : Hp}
theorem Ext.refl (h : Same F H) : Ext pd F H F H := ⟨Same.refl _, fun _ _ e _ => e, fun _ e => e, fun _ _ e => .inl e, h⟩
theorem Ext.trans (a : Ext pd F H F' H') (b : Ext pd F' H' F'' H'') : Ext pd F H F'' H'' :=
  ⟨a.ff.trans b.ff, fun x o e n => b.hh x o (a.hh x o e n) n, fun x e => b.hd x (a.hd x e), fun x o e => by
    rcases b.nw x o e with z | z
    · exact a.nw x o z
    · refine .inr ?_
      cases q : H x with
      | none => rfl
      | some u => exact absurd z (a.hd x (by rw [q]; simp)), b.fh⟩
theorem Ext.lift (a : Ext none F H F' H') : Ext pd F H F' H' := ⟨a.ff, fun x o e _ => a.hh x o e (by simp), a.hd, a.nw, a.fh⟩
theorem Ext.same (a : Ext none F H F' H') : Same H H' := fun x o e => a.hh x o e (by simp)
/-- a new object that is known -/
theorem Ext.new {p : Addr} {o : HO} (h : Same F H) (n : H p = none) : Ext none F H (upd F p o) (upd H p o) := by
  have nF : F p = none := by
    cases q : F p with
    | none => rfl
    | some u => have := h _ _ q; rw [n] at this; cases this
  refine ⟨same_upd nF, fun x u e _ => same_upd n _ _ e, fun x e => ?_, fun x u e => ?_, fun x u e => ?_⟩
  · by_cases hx : x = p
    · subst hx; rw [upd_same]; simp
    · rw [upd_ne hx]; exact e
  · by_cases hx : x = p
    · subst hx; exact .inr n
    · rw [upd_ne hx] at e; exact .inl e
  · by_cases hx : x = p
    · subst hx; rw [upd_same] at e ⊢; exact e
    · rw [upd_ne hx] at e ⊢; exact h _ _ e
/-- a new object that is a def's own -/
theorem Ext.own {p : Addr} {o : HO} (h : Same F H) (n : H p = none) : Ext none F H F (upd H p o) :=
  ⟨Same.refl _, fun x u e _ => same_upd n _ _ e, fun x e => by
    by_cases hx : x = p
    · subst hx; rw [upd_same]; simp
    · rw [upd_ne hx]; exact e, fun _ _ e => .inl e, fun x u e => same_upd n _ _ (h _ _ e)⟩
theorem Ext.Fnone {p : Addr} (e : Ext pd F H F' H') (h : F p = none) (t : H p ≠ none) : F' p = none := by
  cases q : F' p with
  | none => rfl
  | some u =>
    rcases e.nw p u q with z | z
    · rw [h] at z; cases z
    · exact absurd z t

def DOk (K : PySem.W.Frag) (pd : Option PD) (F H : Hp) (ds : DS) : Prop := match pd with
  | none => True
  | some x => F x.p = none ∧ ds.ok ∧ H x.p = some (.lst [.ref x.q, .int ds.pos, .int ds.acc, .int ds.seed]) ∧ F x.q = some (.lst (ds.ns.map V.int))
theorem DOk.grow {ds : DS} (e : Ext none F H F' H') (h : DOk K pd F H ds) : DOk K pd F' H' ds := by
  cases pd with
  | none => trivial
  | some p =>
    obtain ⟨h1, h2, h3, h4⟩ := h
    exact ⟨e.Fnone h1 (by rw [h3]; simp), h2, e.same _ _ h3, e.ff _ _ h4⟩

/-- data at a value; at the top it may be a def's own list -/
def RepB (K : PySem.W.Frag) (pd : Option PD) (F H : Hp) (d : D) (v : V) : Prop :=
  Rep K pd F d v ∨ ∃ p ds xs, d = .lst ds ∧ v = .ref p ∧ H p = some (.lst xs) ∧ some p ≠ pp pd ∧ F p = none ∧ ds.length ≤ SZ ∧ RepL K pd F ds xs
theorem RepB.mono {d : D} {v : V} (e : Ext pd F H F' H') (h : RepB K pd F H d v) : RepB K pd F' H' d v := by
  rcases h with h | ⟨p, ds, xs, h1, h2, h3, h4, h5, h7, h6⟩
  · exact .inl (h.mono e.ff)
  · exact .inr ⟨p, ds, xs, h1, h2, e.hh _ _ h3 h4, h4, e.Fnone h5 (by rw [h3]; simp), h7, h6.mono e.ff⟩
theorem RepB.lst {ds : List D} {v : V} (fh : Same F H) (h : RepB K pd F H (.lst ds) v) : ∃ p xs, v = .ref p ∧ H p = some (.lst xs) ∧ ds.length ≤ SZ ∧ RepL K pd F ds xs := by
  rcases h with h | ⟨p, es, xs, h1, h2, h3, h4, h5, h7, h6⟩
  · simp only [Rep] at h
    obtain ⟨a, xs, r, s, hl, q⟩ := h
    exact ⟨a, xs, r, fh _ _ s, hl, q⟩
  · cases h1
    exact ⟨p, xs, h2, h3, h7, h6⟩
theorem RepB.tup {ds : List D} {v : V} (fh : Same F H) (h : RepB K pd F H (.tup ds) v) : ∃ p xs, v = .ref p ∧ SqT K H p xs ∧ SqT K F p xs ∧ ds.length ≤ SZ ∧ RepL K pd F ds xs := by
  rcases h with h | ⟨p, es, xs, h1, _⟩
  · simp only [Rep] at h
    obtain ⟨a, xs, r, s, hl, q⟩ := h
    exact ⟨a, xs, r, sqT_mono fh s, s, hl, q⟩
  · cases h1
theorem RepB.int {i : Int} {v : V} (h : RepB K pd F H (.int i) v) : v = .int i := by
  rcases h with h | ⟨p, es, xs, h1, _⟩
  · simpa only [Rep] using h
  · cases h1
theorem RepB.bl {i : Bool} {v : V} (h : RepB K pd F H (.bl i) v) : v = .bl i := by
  rcases h with h | ⟨p, es, xs, h1, _⟩
  · simpa only [Rep] using h
  · cases h1
theorem RepB.str {i : Str} {v : V} (h : RepB K pd F H (.str i) v) : v = .str i := by
  rcases h with h | ⟨p, es, xs, h1, _⟩
  · simpa only [Rep] using h
  · cases h1
theorem RepB.non {v : V} (h : RepB K pd F H .non v) : v = .non := by
  rcases h with h | ⟨p, es, xs, h1, _⟩
  · simpa only [Rep] using h
  · cases h1
/-- a list of such -/
inductive RepBL (K : PySem.W.Frag) (pd : Option PD) (F H : Hp) : List D → List V → Prop
  | nil : RepBL K pd F H [] []
  | cons {d ds v vs} : RepB K pd F H d v → RepBL K pd F H ds vs → RepBL K pd F H (d :: ds) (v :: vs)
theorem RepBL.mono (e : Ext pd F H F' H') : ∀ {ds : List D} {vs : List V}, RepBL K pd F H ds vs → RepBL K pd F' H' ds vs
  | _, _, .nil => .nil
  | _, _, .cons h t => .cons (h.mono e) (RepBL.mono e t)
end

/-! ### the slots of a def -/
inductive Slot where
  | un | sh (d : D) | ow (ds : List D)
abbrev Rho := List Slot
section
variable (K : PySem.W.Frag) (pd : Option PD) (F H H0 : Hp)
def SlotR : Slot → Option V → Prop
  | .un, _ => True
  | .sh d, o => ∃ x, o = some x ∧ Rep K pd F d x
  | .ow ds, o => ∃ p xs, o = some (.ref p) ∧ F p = none ∧ H0 p = none ∧ some p ≠ pp pd ∧ H p = some (.lst xs) ∧ ds.length ≤ SZ ∧ RepL K pd F ds xs
structure ERel (ρ : Rho) (σ : L2.St) : Prop where
  len : ρ.length = σ.length
  at' : ∀ (i : Nat) (s : Slot), ρ[i]? = some s → ∃ o, σ[i]? = some o ∧ SlotR K pd F H H0 s o
  ap : ∀ (i j : Nat) (ds es : List D) (p : Addr), i ≠ j → ρ[i]? = some (.ow ds) → ρ[j]? = some (.ow es) → σ[i]? = some (some (.ref p)) → σ[j]? ≠ some (some (.ref p))
end
structure Ok (K : PySem.W.Frag) (pd : Option PD) (F0 H0 F H : Hp) (ρ : Rho) (σ : L2.St) (ds : DS) : Prop where
  ext : Ext pd F0 H0 F H
  env : ERel K pd F H H0 ρ σ
  dok : DOk K pd F H ds
section
variable {K : PySem.W.Frag} {pd : Option PD} {F0 H0 F H F' H' : Hp} {ρ : Rho} {σ : L2.St} {ds ds' : DS}
theorem SlotR.mono {s : Slot} {o : Option V} (e : Ext pd F H F' H') (h : SlotR K pd F H H0 s o) : SlotR K pd F' H' H0 s o := by
  cases s with
  | un => trivial
  | sh d => obtain ⟨x, h1, h2⟩ := h; exact ⟨x, h1, h2.mono e.ff⟩
  | ow es =>
    obtain ⟨p, xs, h1, h2, h3, h4, h5, h7, h6⟩ := h
    exact ⟨p, xs, h1, e.Fnone h2 (by rw [h5]; simp), h3, h4, e.hh _ _ h5 h4, h7, h6.mono e.ff⟩
theorem Ok.step (o : Ok K pd F0 H0 F H ρ σ ds) (e : Ext pd F H F' H') (d : DOk K pd F' H' ds') : Ok K pd F0 H0 F' H' ρ σ ds' :=
  ⟨o.ext.trans e, ⟨o.env.len, fun i s h => let ⟨x, h1, h2⟩ := o.env.at' i s h; ⟨x, h1, h2.mono e⟩, o.env.ap⟩, d⟩
theorem Ok.fh (o : Ok K pd F0 H0 F H ρ σ ds) : Same F H := o.ext.fh
theorem Ok.sh {i : Nat} {d : D} (o : Ok K pd F0 H0 F H ρ σ ds) (h : ρ[i]? = some (.sh d)) : ∃ x, σ[i]? = some (some x) ∧ Rep K pd F d x := by
  obtain ⟨q, h1, x, rfl, h2⟩ := o.env.at' i _ h
  exact ⟨x, h1, h2⟩
/-- a slot is stored -/
theorem Ok.set {i : Nat} {d : D} {x : V} (o : Ok K pd F0 H0 F H ρ σ ds) (r : Rep K pd F d x) : Ok K pd F0 H0 F H (ρ.set i (.sh d)) (σ.set i (some x)) ds := by
  refine ⟨o.ext, ⟨by simp [o.env.len], fun j s h => ?_, fun j k es fs p hjk h1 h2 h3 => ?_⟩, o.dok⟩
  · by_cases hj : i = j
    · subst hj
      have hl : i < ρ.length := by
        have := (List.getElem?_eq_some_iff.mp h).1
        simpa using this
      rw [List.getElem?_set_self hl] at h
      cases h
      exact ⟨some x, by rw [List.getElem?_set_self (by rw [← o.env.len]; exact hl)], x, rfl, r⟩
    · rw [List.getElem?_set_ne hj] at h
      obtain ⟨q, h1, h2⟩ := o.env.at' j s h
      exact ⟨q, by rw [List.getElem?_set_ne hj]; exact h1, h2⟩
  · have a1 : i ≠ j := by
      rintro rfl
      have hl : i < ρ.length := by have := (List.getElem?_eq_some_iff.mp h1).1; simpa using this
      rw [List.getElem?_set_self hl] at h1; cases h1
    have a2 : i ≠ k := by
      rintro rfl
      have hl : i < ρ.length := by have := (List.getElem?_eq_some_iff.mp h2).1; simpa using this
      rw [List.getElem?_set_self hl] at h2; cases h2
    rw [List.getElem?_set_ne a1] at h1 h3
    rw [List.getElem?_set_ne a2] at h2 ⊢
    exact o.env.ap j k es fs p hjk h1 h2 h3
/-- a slot becomes the owner of a new list -/
theorem Ok.setOw {i : Nat} {es : List D} {p : Addr} {xs : List V} (o : Ok K pd F0 H0 F H ρ σ ds) (h1 : F p = none) (h2 : H0 p = none) (h3 : some p ≠ pp pd) (h4 : H p = some (.lst xs)) (hl : es.length ≤ SZ) (r : RepL K pd F es xs)
    (ap : ∀ j fs, i ≠ j → ρ[j]? = some (.ow fs) → σ[j]? ≠ some (some (.ref p))) : Ok K pd F0 H0 F H (ρ.set i (.ow es)) (σ.set i (some (.ref p))) ds := by
  refine ⟨o.ext, ⟨by simp [o.env.len], fun j s h => ?_, fun j k as bs q hjk a1 a2 a3 => ?_⟩, o.dok⟩
  · by_cases hj : i = j
    · subst hj
      have hl' : i < ρ.length := by
        have := (List.getElem?_eq_some_iff.mp h).1
        simpa using this
      rw [List.getElem?_set_self hl'] at h
      cases h
      exact ⟨_, by rw [List.getElem?_set_self (by rw [← o.env.len]; exact hl')], p, xs, rfl, h1, h2, h3, h4, hl, r⟩
    · rw [List.getElem?_set_ne hj] at h
      obtain ⟨q, h1, h2⟩ := o.env.at' j s h
      exact ⟨q, by rw [List.getElem?_set_ne hj]; exact h1, h2⟩
  · by_cases hj : i = j
    · subst hj
      have hk : i ≠ k := hjk
      have hl' : i < ρ.length := by have := (List.getElem?_eq_some_iff.mp a1).1; simpa using this
      rw [List.getElem?_set_self (by rw [← o.env.len]; exact hl')] at a3
      cases a3
      rw [List.getElem?_set_ne hk] at a2 ⊢
      exact ap k bs hk a2
    · rw [List.getElem?_set_ne hj] at a1 a3
      by_cases hk : i = k
      · subst hk
        have hl' : i < ρ.length := by have := (List.getElem?_eq_some_iff.mp a2).1; simpa using this
        rw [List.getElem?_set_self (by rw [← o.env.len]; exact hl')]
        intro z
        have z' : p = q := by simpa using z
        subst z'
        exact ap j as hj a1 a3
      · rw [List.getElem?_set_ne hk] at a2 ⊢
        exact o.env.ap j k as bs q hjk a1 a2 a3
/-- a slot is forgotten -/
theorem Ok.forget {i : Nat} {x : Option V} (o : Ok K pd F0 H0 F H ρ σ ds) : Ok K pd F0 H0 F H (ρ.set i .un) (σ.set i x) ds := by
  refine ⟨o.ext, ⟨by simp [o.env.len], fun j s h => ?_, fun j k es fs p hjk h1 h2 h3 => ?_⟩, o.dok⟩
  · by_cases hj : i = j
    · subst hj
      have hl : i < ρ.length := by
        have := (List.getElem?_eq_some_iff.mp h).1
        simpa using this
      rw [List.getElem?_set_self hl] at h
      cases h
      exact ⟨x, by rw [List.getElem?_set_self (by rw [← o.env.len]; exact hl)], trivial⟩
    · rw [List.getElem?_set_ne hj] at h
      obtain ⟨q, h1, h2⟩ := o.env.at' j s h
      exact ⟨q, by rw [List.getElem?_set_ne hj]; exact h1, h2⟩
  · have a1 : i ≠ j := by
      rintro rfl
      have hl : i < ρ.length := by have := (List.getElem?_eq_some_iff.mp h1).1; simpa using this
      rw [List.getElem?_set_self hl] at h1; cases h1
    have a2 : i ≠ k := by
      rintro rfl
      have hl : i < ρ.length := by have := (List.getElem?_eq_some_iff.mp h2).1; simpa using this
      rw [List.getElem?_set_self hl] at h2; cases h2
    rw [List.getElem?_set_ne a1] at h1 h3
    rw [List.getElem?_set_ne a2] at h2 ⊢
    exact o.env.ap j k es fs p hjk h1 h2 h3
end
end Pu
namespace Pu
open PySem PySem.Spec PyProof.Rows L2

/-! ### what a reading means in data -/
abbrev EF := Rho → M D
abbrev TF := Rho → M Bool
abbrev AF := Rho → M (List D)
section
variable (K : PySem.W.Frag)
def SemE (t : TE) (f : EF) : Prop := ∀ (pd : Option PD) (F0 H0 F H : Hp) (ρ : Rho) (σ : L2.St) (s : DS) (d : D) (s' : DS), Ok K pd F0 H0 F H ρ σ s → f ρ s = some (d, s') →
  ∀ Q : VK, (∀ v F' H', Ext pd F H F' H' → DOk K pd F' H' s' → Rep K pd F' d v → Q v H') → t σ H Q
def SemB (t : TE) (f : EF) : Prop := ∀ (pd : Option PD) (F0 H0 F H : Hp) (ρ : Rho) (σ : L2.St) (s : DS) (d : D) (s' : DS), Ok K pd F0 H0 F H ρ σ s → f ρ s = some (d, s') →
  ∀ Q : VK, (∀ v F' H', Ext pd F H F' H' → DOk K pd F' H' s' → RepB K pd F' H' d v → Q v H') → t σ H Q
/-- a new list, nobody's yet -/
def SemO (t : TE) (f : AF) : Prop := ∀ (pd : Option PD) (F0 H0 F H : Hp) (ρ : Rho) (σ : L2.St) (s : DS) (ds : List D) (s' : DS), Ok K pd F0 H0 F H ρ σ s → f ρ s = some (ds, s') →
  ∀ Q : VK, (∀ p xs F' H', Ext pd F H F' H' → DOk K pd F' H' s' → H p = none → F' p = none → H' p = some (.lst xs) → ds.length ≤ SZ → RepL K pd F' ds xs → Q (.ref p) H') → t σ H Q
def SemT (t : TT) (f : TF) : Prop := ∀ (pd : Option PD) (F0 H0 F H : Hp) (ρ : Rho) (σ : L2.St) (s : DS) (b : Bool) (s' : DS), Ok K pd F0 H0 F H ρ σ s → f ρ s = some (b, s') →
  ∀ Q : Bool → Hp → Prop, (∀ F' H', Ext pd F H F' H' → DOk K pd F' H' s' → Q b H') → t σ H Q
def SemA (t : TA) (f : AF) : Prop := ∀ (pd : Option PD) (F0 H0 F H : Hp) (ρ : Rho) (σ : L2.St) (s : DS) (ds : List D) (s' : DS), Ok K pd F0 H0 F H ρ σ s → f ρ s = some (ds, s') →
  ∀ Q : List V → Hp → Prop, (∀ vs F' H', Ext pd F H F' H' → DOk K pd F' H' s' → RepL K pd F' ds vs → Q vs H') → t σ H Q
def SemAB (t : TA) (f : AF) : Prop := ∀ (pd : Option PD) (F0 H0 F H : Hp) (ρ : Rho) (σ : L2.St) (s : DS) (ds : List D) (s' : DS), Ok K pd F0 H0 F H ρ σ s → f ρ s = some (ds, s') →
  ∀ Q : List V → Hp → Prop, (∀ vs F' H', Ext pd F H F' H' → DOk K pd F' H' s' → RepBL K pd F' H' ds vs → Q vs H') → t σ H Q
/-- operations by values -/
def V1 (r : V → Hp → VK → Prop) (g : D → Option D) : Prop := ∀ (pd : Option PD) (F H : Hp) (x d : D) (v : V), Same F H → RepB K pd F H x v → g x = some d →
  ∀ Q : VK, (∀ u F' H', Ext none F H F' H' → Rep K pd F' d u → Q u H') → r v H Q
def V2 (r : R2) (g : D → D → Option D) : Prop := ∀ (pd : Option PD) (F H : Hp) (x y d : D) (v w : V), Same F H → RepB K pd F H x v → RepB K pd F H y w → g x y = some d →
  ∀ Q : VK, (∀ u F' H', Ext none F H F' H' → Rep K pd F' d u → Q u H') → r v w H Q
def VL (r : List V → Hp → VK → Prop) (g : List D → Option D) : Prop := ∀ (pd : Option PD) (F H : Hp) (xs : List D) (d : D) (vs : List V), Same F H → RepBL K pd F H xs vs → g xs = some d →
  ∀ Q : VK, (∀ u F' H', Ext none F H F' H' → Rep K pd F' d u → Q u H') → r vs H Q
def V2O (r : R2) (g : D → D → Option (List D)) : Prop := ∀ (pd : Option PD) (F H : Hp) (x y : D) (ds : List D) (v w : V), Same F H → RepB K pd F H x v → RepB K pd F H y w → g x y = some ds →
  ∀ Q : VK, (∀ p xs F' H', Ext none F H F' H' → H p = none → F' p = none → H' p = some (.lst xs) → ds.length ≤ SZ → RepL K pd F' ds xs → Q (.ref p) H') → r v w H Q
def VLO (r : List V → Hp → VK → Prop) (g : List D → Option (List D)) : Prop := ∀ (pd : Option PD) (F H : Hp) (xs : List D) (ds : List D) (vs : List V), Same F H → RepBL K pd F H xs vs → g xs = some ds →
  ∀ Q : VK, (∀ p xs F' H', Ext none F H F' H' → H p = none → F' p = none → H' p = some (.lst xs) → ds.length ≤ SZ → RepL K pd F' ds xs → Q (.ref p) H') → r vs H Q
end

/-! ### families of contexts -/
structure Fam {ι : Type} (X : ι → Cx) (P : Program) (w : World) (K : PySem.W.Frag) (mg : Str → Option Value) (base : Heap) (N : List Str) (lv : Nat) : Prop where
  p : ∀ i, (X i).prog = P
  w : ∀ i, (X i).w = w
  k : ∀ i, (X i).K = K
  m : ∀ i, (X i).mg = mg
  b : ∀ i, (X i).base = base
  n : ∀ i, (X i).N = N
  c : ∀ i, (X i).calm = true
  nd : N.Nodup
  r : ∀ i, Room lv (X i).A
section
variable {ι : Type}
def CE (X : ι → Cx) (K : PySem.W.Frag) (e : Expr) (f : EF) : Prop := ∃ t, (∀ i, PE (X i) e t) ∧ SemE K t f
def CB (X : ι → Cx) (K : PySem.W.Frag) (e : Expr) (f : EF) : Prop := ∃ t, (∀ i, PE (X i) e t) ∧ SemB K t f
def CO (X : ι → Cx) (K : PySem.W.Frag) (e : Expr) (f : AF) : Prop := ∃ t, (∀ i, PE (X i) e t) ∧ SemO K t f
def CT (X : ι → Cx) (K : PySem.W.Frag) (e : Expr) (f : TF) : Prop := ∃ t, (∀ i, PT (X i) e t) ∧ SemT K t f
def CW (X : ι → Cx) (K : PySem.W.Frag) (e : Expr) (f : TF) : Prop := ∃ t, (∀ i, PW (X i) e t) ∧ SemT K t f
def CA (X : ι → Cx) (K : PySem.W.Frag) (es : List Expr) (f : AF) : Prop := ∃ t, (∀ i, PA (X i) es t) ∧ SemA K t f
def CAB (X : ι → Cx) (K : PySem.W.Frag) (es : List Expr) (f : AF) : Prop := ∃ t, (∀ i, PA (X i) es t) ∧ SemAB K t f
end

/-! ### the pure words -/
def xSh (i : Nat) : EF := fun ρ => match ρ[i]? with
  | some (.sh d) => Mp d
  | _ => Mf
def xNm (i : Nat) : EF := fun ρ => match ρ[i]? with
  | some (.sh d) => Mp d
  | some (.ow ds) => Mp (.lst ds)
  | _ => Mf
def xC (d : D) : EF := fun _ => Mp d
def x1 (g : D → Option D) (a : EF) : EF := fun ρ => Mb (a ρ) fun x => Mo (g x)
def x2 (g : D → D → Option D) (a b : EF) : EF := fun ρ => Mb (a ρ) fun x => Mb (b ρ) fun y => Mo (g x y)
def xL (g : List D → Option D) (a : AF) : EF := fun ρ => Mb (a ρ) fun x => Mo (g x)
def o2 (g : D → D → Option (List D)) (a b : EF) : AF := fun ρ => Mb (a ρ) fun x => Mb (b ρ) fun y => Mo (g x y)
def oL (g : List D → Option (List D)) (a : AF) : AF := fun ρ => Mb (a ρ) fun x => Mo (g x)
def xOf (a : AF) : EF := fun ρ => Mb (a ρ) fun ds => Mp (.lst ds)
def aN : AF := fun _ => Mp []
def aC (a : EF) (r : AF) : AF := fun ρ => Mb (a ρ) fun x => Mb (r ρ) fun xs => Mp (x :: xs)
def asB : D → M Bool
  | .bl b => Mp b
  | _ => Mf
def xCh (g g' : D → D → Option D) (a b c : EF) : EF := fun ρ => Mb (a ρ) fun x => Mb (b ρ) fun y => Mb (Mo (g x y)) fun z => Mb (asB z) fun k => if k = true then Mb (c ρ) fun w => Mo (g' y w) else Mp (.bl false)
def xAnd (a b : EF) : EF := fun ρ => Mb (a ρ) fun x => Mb (asB x) fun k => if k = true then b ρ else Mp (.bl false)
def xOr (a b : EF) : EF := fun ρ => Mb (a ρ) fun x => Mb (asB x) fun k => if k = true then Mp (.bl true) else b ρ
def xNot (a : EF) : EF := fun ρ => Mb (a ρ) fun x => Mb (asB x) fun k => Mp (.bl (!k))
def xIf (t : TF) (a b : EF) : EF := fun ρ => Mb (t ρ) fun k => if k = true then a ρ else b ρ
def xTup (a : AF) : EF := fun ρ => Mb (a ρ) fun xs => if xs.length ≤ SZ then Mp (.tup xs) else Mf
def oLst (a : AF) : AF := fun ρ => Mb (a ρ) fun xs => if xs.length ≤ SZ then Mp xs else Mf
def tV (a : EF) : TF := fun ρ => Mb (a ρ) asB
def tAnd (a b : TF) : TF := fun ρ => Mb (a ρ) fun k => if k = true then b ρ else Mp false
def tOr (a b : TF) : TF := fun ρ => Mb (a ρ) fun k => if k = true then Mp true else b ρ
def tNot (a : TF) : TF := fun ρ => Mb (a ρ) fun k => Mp (!k)
def truD : D → Option Bool
  | .non => some false
  | .bl b => some b
  | .int i => some (i != 0)
  | .tup ds => some (!ds.isEmpty)
  | .lst ds => some (!ds.isEmpty)
  | _ => none
def tTr (a : EF) : TF := fun ρ => Mb (a ρ) fun x => Mo (truD x)

/-! ### the rules for expressions -/
section
variable {ι : Type} {X : ι → Cx} {P : Program} {w : World} {K : PySem.W.Frag} {mg : Str → Option Value} {base : Heap} {N : List Str} {lv : Nat} {pos : Pos} {a b c e : Expr} {es : List Expr} {f fa fb fc : EF} {g : AF}
theorem CE.brw (h : CE X K e f) : CB X K e f := by
  obtain ⟨t, h1, h2⟩ := h
  exact ⟨t, h1, fun pd F0 H0 F H ρ σ s d s' o e Q q => h2 pd F0 H0 F H ρ σ s d s' o e Q fun v F' H' x y z => q v F' H' x y (.inl z)⟩
theorem sem_of_O {t : TE} (h : SemO K t g) : SemE K t (xOf g) := fun pd F0 H0 F H ρ σ s d s' o e Q q => by
  obtain ⟨ds, s1, e1, e2⟩ := Mb_eq e
  obtain ⟨rfl, rfl⟩ := Mp_eq e2
  refine h pd F0 H0 F H ρ σ s ds s1 o e1 Q fun p xs F' H' x y n1 n2 l z r => ?_
  have eF : Same F' (upd F' p (.lst xs)) := same_upd n2
  refine q _ (upd F' p (.lst xs)) H' ⟨x.ff.trans eF, x.hh, x.hd, fun b u q => ?_, fun b u q => ?_⟩ ?_ ?_
  · by_cases hb : b = p
    · subst hb; exact .inr n1
    · rw [upd_ne hb] at q; exact x.nw b u q
  · by_cases hb : b = p
    · subst hb; rw [upd_same] at q; cases q; exact l
    · rw [upd_ne hb] at q; exact x.fh b u q
  · cases pd with
    | none => trivial
    | some a =>
      obtain ⟨h1, h2, h3, h4⟩ := y
      refine ⟨?_, h2, h3, eF _ _ h4⟩
      have : a.p ≠ p := by
        rintro rfl
        obtain ⟨_, _, h3', _⟩ := o.dok
        rw [n1] at h3'; cases h3'
      rw [upd_ne this]; exact h1
  · simp only [Rep]
    exact ⟨p, xs, rfl, upd_same, z, r.mono eF⟩
theorem CO.frz (h : CO X K e g) : CE X K e (xOf g) := let ⟨t, h1, h2⟩ := h; ⟨t, h1, sem_of_O h2⟩

theorem semE_var {i : Nat} : SemE K (tVar i) (xSh i) := fun pd F0 H0 F H ρ σ s d s' o e Q q => by
  unfold xSh at e
  cases h : ρ[i]? with
  | none => rw [h] at e; cases e
  | some sl =>
    rw [h] at e
    cases sl with
    | un => cases e
    | ow ds => cases e
    | sh d' =>
      obtain ⟨rfl, rfl⟩ := Mp_eq e
      obtain ⟨x, h1, h2⟩ := o.sh h
      exact ⟨x, h1, q x F H (.refl o.fh) o.dok h2⟩
theorem semB_var {i : Nat} : SemB K (tVar i) (xNm i) := fun pd F0 H0 F H ρ σ s d s' o e Q q => by
  unfold xNm at e
  cases h : ρ[i]? with
  | none => rw [h] at e; cases e
  | some sl =>
    rw [h] at e
    cases sl with
    | un => cases e
    | ow ds =>
      obtain ⟨rfl, rfl⟩ := Mp_eq e
      obtain ⟨x, h1, p, xs, rfl, h2, h3, h4, h5, h6, h7⟩ := o.env.at' i _ h
      exact ⟨_, h1, q _ F H (.refl o.fh) o.dok (.inr ⟨p, ds, xs, rfl, rfl, h5, h4, h2, h6, h7⟩)⟩
    | sh d' =>
      obtain ⟨rfl, rfl⟩ := Mp_eq e
      obtain ⟨x, h1, h2⟩ := o.sh h
      exact ⟨x, h1, q x F H (.refl o.fh) o.dok (.inl h2)⟩
theorem cSh (C : Fam X P w K mg base N lv) (i : Nat) {x : Str} (hN : N[i]? = some x := by rfl) (hv : ∀ j, Vis (X j).env.scope x := by intro _; first | exact Or.inl rfl | exact Or.inr (Or.inl rfl) | exact Or.inr (Or.inr rfl))
    (hd : (x == ("__debug__" : Str)) = false := by decide) (hcd : (x == ("__classdict__" : Str)) = false := by decide) : CE X K (.Name x pos) (xSh i) :=
  ⟨_, fun j => pe_var (by rw [C.n j]; exact hN) (hv j) hd hcd, semE_var⟩
theorem cNm (C : Fam X P w K mg base N lv) (i : Nat) {x : Str} (hN : N[i]? = some x := by rfl) (hv : ∀ j, Vis (X j).env.scope x := by intro _; first | exact Or.inl rfl | exact Or.inr (Or.inl rfl) | exact Or.inr (Or.inr rfl))
    (hd : (x == ("__debug__" : Str)) = false := by decide) (hcd : (x == ("__classdict__" : Str)) = false := by decide) : CB X K (.Name x pos) (xNm i) :=
  ⟨_, fun j => pe_var (by rw [C.n j]; exact hN) (hv j) hd hcd, semB_var⟩
theorem semE_c {v : V} {d : D} (h : ∀ pd F, Rep K pd F d v) : SemE K (tC v) (xC d) := fun pd F0 H0 F H ρ σ s d s' o e Q q => by
  obtain ⟨rfl, rfl⟩ := Mp_eq e
  exact q v F H (.refl o.fh) o.dok (h pd F)
theorem cInt {i : Int} {k} : CE X K (.Constant (.int i) k pos) (xC (.int i)) := ⟨_, fun _ => pe_int, semE_c fun _ _ => by simp [Rep]⟩
theorem cBl {i : Bool} {k} : CE X K (.Constant (.bool i) k pos) (xC (.bl i)) := ⟨_, fun _ => pe_bl, semE_c fun _ _ => by simp [Rep]⟩
theorem cNon {k} : CE X K (.Constant .none k pos) (xC .non) := ⟨_, fun _ => pe_non, semE_c fun _ _ => by simp [Rep]⟩
theorem cStr {i : Str} {k} : CE X K (.Constant (.str i) k pos) (xC (.str i)) := ⟨_, fun _ => pe_str, semE_c fun _ _ => by simp [Rep]⟩
/-- a module's constant -/
theorem cGlob (C : Fam X P w K mg base N lv) {x : Str} {v : V} {u : Value} {d : D} (hm : mg x = some u) (r : RelV v u) (h : ∀ pd F, Rep K pd F d v) (hg : ∀ j, Gl (X j) x := by intro _; rfl) (hd : (x == ("__debug__" : Str)) = false := by decide) :
    CE X K (.Name x pos) (xC d) := ⟨_, fun j => pe_glob (hg j) (by rw [C.m j]; exact hm) r hd, semE_c h⟩

/-! two operands -/
theorem semE_op2 {r : R2} {gg : D → D → Option D} {ta tb : TE} (hv : V2 K r gg) (ha : SemB K ta fa) (hb : SemB K tb fb) : SemE K (tOp r ta tb) (x2 gg fa fb) := fun pd F0 H0 F H ρ σ s d s' o e Q q => by
  obtain ⟨x, s1, e1, e⟩ := Mb_eq e
  obtain ⟨y, s2, e2, e⟩ := Mb_eq e
  obtain ⟨e3, rfl⟩ := Mo_eq e
  refine ha pd F0 H0 F H ρ σ s x s1 o e1 _ fun v F1 H1 x1 d1 r1 => ?_
  have o1 := o.step x1 d1
  refine hb pd F0 H0 F1 H1 ρ σ s1 y s2 o1 e2 _ fun u F2 H2 x2 d2 r2 => ?_
  have o2 := o1.step x2 d2
  exact hv pd F2 H2 x y d v u o2.fh (r1.mono x2) r2 e3 Q fun z F3 H3 x3 r3 => q z F3 H3 (x1.trans (x2.trans x3.lift)) (d2.grow x3) r3
theorem semO_op2 {r : R2} {gg : D → D → Option (List D)} {ta tb : TE} (hv : V2O K r gg) (ha : SemB K ta fa) (hb : SemB K tb fb) : SemO K (tOp r ta tb) (o2 gg fa fb) := fun pd F0 H0 F H ρ σ s d s' o e Q q => by
  obtain ⟨x, s1, e1, e⟩ := Mb_eq e
  obtain ⟨y, s2, e2, e⟩ := Mb_eq e
  obtain ⟨e3, rfl⟩ := Mo_eq e
  refine ha pd F0 H0 F H ρ σ s x s1 o e1 _ fun v F1 H1 x1 d1 r1 => ?_
  have o1 := o.step x1 d1
  refine hb pd F0 H0 F1 H1 ρ σ s1 y s2 o1 e2 _ fun u F2 H2 x2 d2 r2 => ?_
  have o2 := o1.step x2 d2
  refine hv pd F2 H2 x y d v u o2.fh (r1.mono x2) r2 e3 Q fun p xs F3 H3 x3 n1 n2 l z r3 => q p xs F3 H3 (x1.trans (x2.trans x3.lift)) (d2.grow x3) ?_ n2 l z r3
  cases hp : H p with
  | none => rfl
  | some o => exact absurd n1 ((x1.trans x2).hd p (by rw [hp]; simp))
theorem cBin {op : Operator} {r : R2} {gg : D → D → Option D} (ho : ∀ i, OpR (X i) (binaryOp op) r) (hv : V2 K r gg) (ha : CB X K a fa) (hb : CB X K b fb) : CE X K (.BinOp a op b pos) (x2 gg fa fb) :=
  let ⟨ta, a1, a2⟩ := ha; let ⟨tb, b1, b2⟩ := hb; ⟨_, fun i => pe_op (ho i) (a1 i) (b1 i), semE_op2 hv a2 b2⟩
theorem oBin {op : Operator} {r : R2} {gg : D → D → Option (List D)} (ho : ∀ i, OpR (X i) (binaryOp op) r) (hv : V2O K r gg) (ha : CB X K a fa) (hb : CB X K b fb) : CO X K (.BinOp a op b pos) (o2 gg fa fb) :=
  let ⟨ta, a1, a2⟩ := ha; let ⟨tb, b1, b2⟩ := hb; ⟨_, fun i => pe_op (ho i) (a1 i) (b1 i), semO_op2 hv a2 b2⟩
theorem cCmp {op : CmpOp} {r : R2} {gg : D → D → Option D} (ho : ∀ i, OpR (X i) (compareOp op) r) (hv : V2 K r gg) (ha : CB X K a fa) (hb : CB X K b fb) (hm : behindInMarks op b = false) : CE X K (.Compare a [op] [b] pos) (x2 gg fa fb) :=
  let ⟨ta, a1, a2⟩ := ha; let ⟨tb, b1, b2⟩ := hb; ⟨_, fun i => pe_cmpR (ho i) (a1 i) (b1 i) hm, semE_op2 hv a2 b2⟩
theorem semT_V {t : TE} (h : SemE K t f) : SemT K (tTest t) (tV f) := fun pd F0 H0 F H ρ σ s d s' o e Q q => by
  obtain ⟨x, s1, e1, e⟩ := Mb_eq e
  refine h pd F0 H0 F H ρ σ s x s1 o e1 _ fun v F1 H1 x1 d1 r1 => ?_
  cases x with
  | bl k =>
    obtain ⟨rfl, rfl⟩ := Mp_eq e
    simp only [Rep] at r1
    exact ⟨k, r1, q F1 H1 x1 d1⟩
  | _ => cases e
theorem tCmp {op : CmpOp} {r : R2} {gg : D → D → Option D} (ho : ∀ i, OpR (X i) (compareOp op) r) (hv : V2 K r gg) (ha : CB X K a fa) (hb : CB X K b fb) (hm : behindInMarks op b = false) : CT X K (.Compare a [op] [b] pos) (tV (x2 gg fa fb)) :=
  let ⟨ta, a1, a2⟩ := ha; let ⟨tb, b1, b2⟩ := hb; ⟨_, fun i => pt_cmpR (ho i) (a1 i) (b1 i) hm, semT_V (semE_op2 hv a2 b2)⟩
/-! chains -/
theorem semE_chain {r r' : R2} {gg gg' : D → D → Option D} {ta tb tc : TE} (hv : V2 K r gg) (hv' : V2 K r' gg') (ha : SemB K ta fa) (hb : SemB K tb fb) (hc : SemB K tc fc) : SemE K (tChain r r' ta tb tc) (xCh gg gg' fa fb fc) := fun pd F0 H0 F H ρ σ s d s' o e Q q => by
  obtain ⟨x, s1, e1, e⟩ := Mb_eq e
  obtain ⟨y, s2, e2, e⟩ := Mb_eq e
  obtain ⟨z, s3, e0, e⟩ := Mb_eq e
  obtain ⟨e3, rfl⟩ := Mo_eq e0
  obtain ⟨k, s4, e4, e⟩ := Mb_eq e
  refine ha pd F0 H0 F H ρ σ s x s1 o e1 _ fun v F1 H1 x1 d1 r1 => ?_
  have o1 := o.step x1 d1
  refine hb pd F0 H0 F1 H1 ρ σ s1 y _ o1 e2 _ fun u F2 H2 x2 d2 r2 => ?_
  have o2 := o1.step x2 d2
  refine hv pd F2 H2 x y z v u o2.fh (r1.mono x2) r2 e3 _ fun zv F3 H3 x3 r3 => ?_
  have o3 := o2.step (x3.lift (pd := pd)) (d2.grow x3)
  cases z with
  | bl k' =>
    obtain ⟨rfl, rfl⟩ := Mp_eq e4
    simp only [Rep] at r3
    refine ⟨k', r3, ?_⟩
    cases k' with
    | false =>
      obtain ⟨rfl, rfl⟩ := Mp_eq e
      exact iteF (q _ F3 H3 (x1.trans (x2.trans x3.lift)) o3.dok (by simp [Rep]))
    | true =>
      obtain ⟨w', s5, e5, e⟩ := Mb_eq (show Mb (fc ρ) (fun w => Mo (gg' y w)) _ = _ from e)
      obtain ⟨e6, rfl⟩ := Mo_eq e
      refine iteT (hc pd F0 H0 F3 H3 ρ σ _ w' _ o3 e5 _ fun wv F4 H4 x4 d4 r4 => ?_)
      exact hv' pd F4 H4 y w' d u wv (o3.step x4 d4).fh ((r2.mono x3.lift).mono x4) r4 e6 Q fun zz F5 H5 x5 r5 => q zz F5 H5 (x1.trans (x2.trans (x3.lift.trans (x4.trans x5.lift)))) (d4.grow x5) r5
  | _ => cases e4
theorem cChain {op op' : CmpOp} {r r' : R2} {gg gg' : D → D → Option D} (ho : ∀ i, OpR (X i) (compareOp op) r) (ho' : ∀ i, OpR (X i) (compareOp op') r') (hv : V2 K r gg) (hv' : V2 K r' gg') (ha : CB X K a fa) (hb : CB X K b fb) (hc : CB X K c fc)
    (hm : lastMarks [op, op'] [b, c] = false := by with_unfolding_all rfl) : CE X K (.Compare a [op, op'] [b, c] pos) (xCh gg gg' fa fb fc) :=
  let ⟨ta, a1, a2⟩ := ha; let ⟨tb, b1, b2⟩ := hb; let ⟨tc, c1, c2⟩ := hc; ⟨_, fun i => pe_chain (ho i) (ho' i) (a1 i) (b1 i) (c1 i) hm, semE_chain hv hv' a2 b2 c2⟩
theorem tChainR {op op' : CmpOp} {r r' : R2} {gg gg' : D → D → Option D} (ho : ∀ i, OpR (X i) (compareOp op) r) (ho' : ∀ i, OpR (X i) (compareOp op') r') (hv : V2 K r gg) (hv' : V2 K r' gg') (ha : CB X K a fa) (hb : CB X K b fb) (hc : CB X K c fc)
    (hm : lastMarks [op, op'] [b, c] = false := by with_unfolding_all rfl) : CT X K (.Compare a [op, op'] [b, c] pos) (tV (xCh gg gg' fa fb fc)) :=
  let ⟨ta, a1, a2⟩ := ha; let ⟨tb, b1, b2⟩ := hb; let ⟨tc, c1, c2⟩ := hc; ⟨_, fun i => pt_chain (ho i) (ho' i) (a1 i) (b1 i) (c1 i) hm, semT_V (semE_chain hv hv' a2 b2 c2)⟩
/-! truth, and, or, not -/
theorem tTruth (C : Fam X P w K mg base N lv) (ha : CB X K a fa) (he : ∀ i, ∀ whole, isTrue a (X i).env whole = (do let v ← whole; standAt a.pos; holding [v] (truthy v)) := by intro _ _; rfl) : CT X K a (tTr fa) := by
  obtain ⟨ta, a1, a2⟩ := ha
  refine ⟨fun σ H Q => ta σ H fun x H' => ∃ k, TruV K x H' k ∧ Q k H', fun i => by have := pt_truth (a1 i) (he i); rw [C.k i] at this; exact this, fun pd F0 H0 F H ρ σ s d s' o e Q q => ?_⟩
  obtain ⟨x, s1, e1, e⟩ := Mb_eq e
  obtain ⟨e2, rfl⟩ := Mo_eq e
  refine a2 pd F0 H0 F H ρ σ s x s1 o e1 _ fun v F1 H1 x1 d1 r1 => ⟨d, ?_, q F1 H1 x1 d1⟩
  have fh := (o.step x1 d1).fh
  cases x with
  | non => rw [r1.non]; exact (Option.some.inj e2).symm
  | bl k => rw [r1.bl]; exact (Option.some.inj e2).symm
  | int k => rw [r1.int]; exact (Option.some.inj e2).symm
  | tup ds =>
    obtain ⟨p, xs, rfl, h1, _, _, h2⟩ := r1.tup fh
    refine .inr (.inl ⟨xs, h1, ?_⟩)
    have e3 := (Option.some.inj e2).symm
    rw [e3]
    have := h2.length
    cases xs <;> cases ds <;> simp_all
  | lst ds =>
    obtain ⟨p, xs, rfl, h1, _, h2⟩ := r1.lst fh
    refine .inl ⟨xs, .of h1, ?_⟩
    have e3 := (Option.some.inj e2).symm
    rw [e3]
    have := h2.length
    cases xs <;> cases ds <;> simp_all
  | str _ => cases e2
  | rng => cases e2
theorem semT_and {ta tb : TT} {fa fb : TF} (ha : SemT K ta fa) (hb : SemT K tb fb) : SemT K (L2.tAnd ta tb) (tAnd fa fb) := fun pd F0 H0 F H ρ σ s d s' o e Q q => by
  obtain ⟨k, s1, e1, e⟩ := Mb_eq e
  refine ha pd F0 H0 F H ρ σ s k s1 o e1 _ fun F1 H1 x1 d1 => ?_
  cases k with
  | true => exact iteT (hb pd F0 H0 F1 H1 ρ σ s1 d s' (o.step x1 d1) e Q fun F2 H2 x2 d2 => q F2 H2 (x1.trans x2) d2)
  | false => obtain ⟨rfl, rfl⟩ := Mp_eq e; exact iteF (q F1 H1 x1 d1)
theorem semT_or {ta tb : TT} {fa fb : TF} (ha : SemT K ta fa) (hb : SemT K tb fb) : SemT K (L2.tOr ta tb) (tOr fa fb) := fun pd F0 H0 F H ρ σ s d s' o e Q q => by
  obtain ⟨k, s1, e1, e⟩ := Mb_eq e
  refine ha pd F0 H0 F H ρ σ s k s1 o e1 _ fun F1 H1 x1 d1 => ?_
  cases k with
  | false => exact iteF (hb pd F0 H0 F1 H1 ρ σ s1 d s' (o.step x1 d1) e Q fun F2 H2 x2 d2 => q F2 H2 (x1.trans x2) d2)
  | true => obtain ⟨rfl, rfl⟩ := Mp_eq e; exact iteT (q F1 H1 x1 d1)
theorem wAnd1 {fa : TF} (ha : CT X K a fa) : CW X K (.BoolOp .And [a] pos) fa := let ⟨t, h1, h2⟩ := ha; ⟨t, fun i => pw_and1 (h1 i), h2⟩
theorem wOr1 {fa : TF} (ha : CT X K a fa) : CW X K (.BoolOp .Or [a] pos) fa := let ⟨t, h1, h2⟩ := ha; ⟨t, fun i => pw_or1 (h1 i), h2⟩
theorem wAnd {fa fb : TF} (ha : CT X K a fa) (hb : CW X K (.BoolOp .And (b :: es) pos) fb) : CW X K (.BoolOp .And (a :: b :: es) pos) (tAnd fa fb) :=
  let ⟨t, h1, h2⟩ := ha; let ⟨u, b1, b2⟩ := hb; ⟨_, fun i => pw_and (h1 i) (b1 i), semT_and h2 b2⟩
theorem wOr {fa fb : TF} (ha : CT X K a fa) (hb : CW X K (.BoolOp .Or (b :: es) pos) fb) : CW X K (.BoolOp .Or (a :: b :: es) pos) (tOr fa fb) :=
  let ⟨t, h1, h2⟩ := ha; let ⟨u, b1, b2⟩ := hb; ⟨_, fun i => pw_or (h1 i) (b1 i), semT_or h2 b2⟩
theorem CW.t {fa : TF} (h : CW X K a fa) : CT X K a fa := let ⟨t, h1, h2⟩ := h; ⟨t, fun i => (h1 i).pt, h2⟩
theorem tNotR {fa : TF} (h : CT X K a fa) : CT X K (.UnaryOp .Not a pos) (tNot fa) := by
  obtain ⟨t, h1, h2⟩ := h
  refine ⟨_, fun i => pt_not (h1 i), fun pd F0 H0 F H ρ σ s d s' o e Q q => ?_⟩
  obtain ⟨k, s1, e1, e⟩ := Mb_eq e
  obtain ⟨rfl, rfl⟩ := Mp_eq e
  exact h2 pd F0 H0 F H ρ σ s k s1 o e1 _ fun F1 H1 x1 d1 => q F1 H1 x1 d1
theorem rep_bl {pd : Option PD} {F : Hp} {k : Bool} {v : V} (h : Rep K pd F (.bl k) v) : v = .bl k := by simpa only [Rep] using h
theorem cOne {op} (h : CE X K a f) : CE X K (.BoolOp op [a] pos) f := let ⟨t, h1, h2⟩ := h; ⟨t, fun i => pe_one (h1 i), h2⟩
theorem cAnd (ha : CE X K a fa) (hb : CE X K (.BoolOp .And (b :: es) pos) fb) : CE X K (.BoolOp .And (a :: b :: es) pos) (xAnd fa fb) := by
  obtain ⟨t, h1, h2⟩ := ha
  obtain ⟨u, b1, b2⟩ := hb
  refine ⟨_, fun i => pe_and (h1 i) (b1 i), fun pd F0 H0 F H ρ σ s d s' o e Q q => ?_⟩
  obtain ⟨x, s1, e1, e⟩ := Mb_eq e
  obtain ⟨k, s2, e2, e⟩ := Mb_eq e
  refine h2 pd F0 H0 F H ρ σ s x s1 o e1 _ fun v F1 H1 x1 d1 r1 => ?_
  cases x with
  | bl k' =>
    obtain ⟨rfl, rfl⟩ := Mp_eq e2
    refine ⟨k', rep_bl r1, ?_⟩
    cases k' with
    | true => exact iteT (b2 pd F0 H0 F1 H1 ρ σ _ d s' (o.step x1 d1) e Q fun v F2 H2 x2 d2 => q v F2 H2 (x1.trans x2) d2)
    | false => obtain ⟨rfl, rfl⟩ := Mp_eq e; exact iteF (q _ F1 H1 x1 d1 (by simp [Rep]))
  | _ => cases e2
theorem cOr (ha : CE X K a fa) (hb : CE X K (.BoolOp .Or (b :: es) pos) fb) : CE X K (.BoolOp .Or (a :: b :: es) pos) (xOr fa fb) := by
  obtain ⟨t, h1, h2⟩ := ha
  obtain ⟨u, b1, b2⟩ := hb
  refine ⟨_, fun i => pe_or (h1 i) (b1 i), fun pd F0 H0 F H ρ σ s d s' o e Q q => ?_⟩
  obtain ⟨x, s1, e1, e⟩ := Mb_eq e
  obtain ⟨k, s2, e2, e⟩ := Mb_eq e
  refine h2 pd F0 H0 F H ρ σ s x s1 o e1 _ fun v F1 H1 x1 d1 r1 => ?_
  cases x with
  | bl k' =>
    obtain ⟨rfl, rfl⟩ := Mp_eq e2
    refine ⟨k', rep_bl r1, ?_⟩
    cases k' with
    | false => exact iteF (b2 pd F0 H0 F1 H1 ρ σ _ d s' (o.step x1 d1) e Q fun v F2 H2 x2 d2 => q v F2 H2 (x1.trans x2) d2)
    | true => obtain ⟨rfl, rfl⟩ := Mp_eq e; exact iteT (q _ F1 H1 x1 d1 (by simp [Rep]))
  | _ => cases e2
theorem cNotV (ha : CE X K a fa) : CE X K (.UnaryOp .Not a pos) (xNot fa) := by
  obtain ⟨t, h1, h2⟩ := ha
  refine ⟨_, fun i => pe_not (h1 i), fun pd F0 H0 F H ρ σ s d s' o e Q q => ?_⟩
  obtain ⟨x, s1, e1, e⟩ := Mb_eq e
  obtain ⟨k, s2, e2, e⟩ := Mb_eq e
  obtain ⟨rfl, rfl⟩ := Mp_eq e
  refine h2 pd F0 H0 F H ρ σ s x s1 o e1 _ fun v F1 H1 x1 d1 r1 => ?_
  cases x with
  | bl k' =>
    obtain ⟨rfl, rfl⟩ := Mp_eq e2
    exact ⟨k', rep_bl r1, q _ F1 H1 x1 d1 (by simp [Rep])⟩
  | _ => cases e2
theorem cIf {ft : TF} (hc : CT X K c ft) (ha : CE X K a fa) (hb : CE X K b fb) : CE X K (.IfExp c a b pos) (xIf ft fa fb) := by
  obtain ⟨t, h1, h2⟩ := hc
  obtain ⟨ta, a1, a2⟩ := ha
  obtain ⟨tb, b1, b2⟩ := hb
  refine ⟨_, fun i => pe_ifExp (h1 i) (a1 i) (b1 i), fun pd F0 H0 F H ρ σ s d s' o e Q q => ?_⟩
  obtain ⟨k, s1, e1, e⟩ := Mb_eq e
  refine h2 pd F0 H0 F H ρ σ s k s1 o e1 _ fun F1 H1 x1 d1 => ?_
  cases k with
  | true => exact iteT (a2 pd F0 H0 F1 H1 ρ σ s1 d s' (o.step x1 d1) e Q fun v F2 H2 x2 d2 => q v F2 H2 (x1.trans x2) d2)
  | false => exact iteF (b2 pd F0 H0 F1 H1 ρ σ s1 d s' (o.step x1 d1) e Q fun v F2 H2 x2 d2 => q v F2 H2 (x1.trans x2) d2)
/-! one operand -/
theorem cUn {op : UnaryOp} {r : V → Hp → VK → Prop} {gg : D → Option D} (ho : ∀ i, UnR (X i) (unaryOp op) r) (hv : V1 K r gg) (ha : CB X K a fa) : CE X K (.UnaryOp op a pos) (x1 gg fa) := by
  obtain ⟨t, h1, h2⟩ := ha
  refine ⟨_, fun i => pe_un (ho i) (h1 i), fun pd F0 H0 F H ρ σ s d s' o e Q q => ?_⟩
  obtain ⟨x, s1, e1, e⟩ := Mb_eq e
  obtain ⟨e2, rfl⟩ := Mo_eq e
  refine h2 pd F0 H0 F H ρ σ s x s1 o e1 _ fun v F1 H1 x1 d1 r1 => ?_
  exact hv pd F1 H1 x d v (o.step x1 d1).fh r1 e2 Q fun z F3 H3 x3 r3 => q z F3 H3 (x1.trans x3.lift) (d1.grow x3) r3
/-! arguments -/
theorem caNil : CA X K [] aN := ⟨_, fun _ => pa_nil, fun pd F0 H0 F H ρ σ s d s' o e Q q => by obtain ⟨rfl, rfl⟩ := Mp_eq e; exact q _ F H (.refl o.fh) o.dok .nil⟩
theorem cbNil : CAB X K [] aN := ⟨_, fun _ => pa_nil, fun pd F0 H0 F H ρ σ s d s' o e Q q => by obtain ⟨rfl, rfl⟩ := Mp_eq e; exact q _ F H (.refl o.fh) o.dok .nil⟩
theorem caCons (ha : CE X K a fa) (hr : CA X K es g) (hs : ∀ i, starEach (a :: es) (X i).env = (false, eval a (X i).env) :: starEach es (X i).env := by intro _; rfl) : CA X K (a :: es) (aC fa g) := by
  obtain ⟨t, h1, h2⟩ := ha
  obtain ⟨u, b1, b2⟩ := hr
  refine ⟨_, fun i => pa_cons (h1 i) (b1 i) (hs i), fun pd F0 H0 F H ρ σ s d s' o e Q q => ?_⟩
  obtain ⟨x, s1, e1, e⟩ := Mb_eq e
  obtain ⟨xs, s2, e2, e⟩ := Mb_eq e
  obtain ⟨rfl, rfl⟩ := Mp_eq e
  refine h2 pd F0 H0 F H ρ σ s x s1 o e1 _ fun v F1 H1 x1 d1 r1 => ?_
  exact b2 pd F0 H0 F1 H1 ρ σ s1 xs s2 (o.step x1 d1) e2 _ fun vs F2 H2 x2 d2 r2 => q _ F2 H2 (x1.trans x2) d2 (.cons (r1.mono x2.ff) r2)
theorem cbCons (ha : CB X K a fa) (hr : CAB X K es g) (hs : ∀ i, starEach (a :: es) (X i).env = (false, eval a (X i).env) :: starEach es (X i).env := by intro _; rfl) : CAB X K (a :: es) (aC fa g) := by
  obtain ⟨t, h1, h2⟩ := ha
  obtain ⟨u, b1, b2⟩ := hr
  refine ⟨_, fun i => pa_cons (h1 i) (b1 i) (hs i), fun pd F0 H0 F H ρ σ s d s' o e Q q => ?_⟩
  obtain ⟨x, s1, e1, e⟩ := Mb_eq e
  obtain ⟨xs, s2, e2, e⟩ := Mb_eq e
  obtain ⟨rfl, rfl⟩ := Mp_eq e
  refine h2 pd F0 H0 F H ρ σ s x s1 o e1 _ fun v F1 H1 x1 d1 r1 => ?_
  exact b2 pd F0 H0 F1 H1 ρ σ s1 xs s2 (o.step x1 d1) e2 _ fun vs F2 H2 x2 d2 r2 => q _ F2 H2 (x1.trans x2) d2 (.cons (r1.mono x2) r2)
/-! displays -/
theorem cTup {k} (h : CA X K es g) : CE X K (.Tuple es k pos) (xTup g) := by
  obtain ⟨t, h1, h2⟩ := h
  refine ⟨_, fun i => pe_tup (h1 i), fun pd F0 H0 F H ρ σ s d s' o e Q q => ?_⟩
  obtain ⟨xs, s1, e1, e⟩ := Mb_eq e
  split at e
  · rename_i hl
    obtain ⟨rfl, rfl⟩ := Mp_eq e
    refine h2 pd F0 H0 F H ρ σ s xs s1 o e1 _ fun vs F1 H1 x1 d1 r1 => ⟨by rw [r1.length]; exact hl, fun p n => ?_⟩
    have o1 := o.step x1 d1
    have x2 := Ext.new (o := .tup vs) o1.fh n
    refine q _ _ _ (x1.trans x2.lift) (d1.grow x2) ?_
    simp only [Rep]
    exact ⟨p, vs, rfl, .of upd_same, hl, r1.mono x2.ff⟩
  · exact (Mf_eq e).elim
theorem oList (h : CA X K es g) : CO X K (.List es pos) (oLst g) := by
  obtain ⟨t, h1, h2⟩ := h
  refine ⟨_, fun i => pe_lst (h1 i), fun pd F0 H0 F H ρ σ s d s' o e Q q => ?_⟩
  obtain ⟨xs, s1, e1, e⟩ := Mb_eq e
  split at e
  · rename_i hl
    obtain ⟨rfl, rfl⟩ := Mp_eq e
    refine h2 pd F0 H0 F H ρ σ s xs s1 o e1 _ fun vs F1 H1 x1 d1 r1 => ⟨by rw [r1.length]; exact hl, fun p n => ?_⟩
    have o1 := o.step x1 d1
    have x2 := Ext.own (o := .lst vs) o1.fh n
    have nF : F1 p = none := by
      cases hF : F1 p with
      | none => rfl
      | some u => have := o1.fh _ _ hF; rw [n] at this; cases this
    have nH : H p = none := by
      cases hp : H p with
      | none => rfl
      | some u => exact absurd n (x1.hd p (by rw [hp]; simp))
    exact q p vs F1 _ (x1.trans x2.lift) (d1.grow x2) nH nF upd_same hl r1
  · exact (Mf_eq e).elim
/-! calls of built-ins -/
theorem semE_CB {r : List V → Hp → VK → Prop} {gg : List D → Option D} {t : TA} (hv : VL K r gg) (h : SemAB K t g) : SemE K (tCB r t) (xL gg g) := fun pd F0 H0 F H ρ σ s d s' o e Q q => by
  obtain ⟨xs, s1, e1, e⟩ := Mb_eq e
  obtain ⟨e2, rfl⟩ := Mo_eq e
  refine h pd F0 H0 F H ρ σ s xs s1 o e1 _ fun vs F1 H1 x1 d1 r1 => ?_
  exact hv pd F1 H1 xs d vs (o.step x1 d1).fh r1 e2 Q fun z F3 H3 x3 r3 => q z F3 H3 (x1.trans x3.lift) (d1.grow x3) r3
theorem semO_CB {r : List V → Hp → VK → Prop} {gg : List D → Option (List D)} {t : TA} (hv : VLO K r gg) (h : SemAB K t g) : SemO K (tCB r t) (oL gg g) := fun pd F0 H0 F H ρ σ s d s' o e Q q => by
  obtain ⟨xs, s1, e1, e⟩ := Mb_eq e
  obtain ⟨e2, rfl⟩ := Mo_eq e
  refine h pd F0 H0 F H ρ σ s xs s1 o e1 _ fun vs F1 H1 x1 d1 r1 => ?_
  refine hv pd F1 H1 xs d vs (o.step x1 d1).fh r1 e2 Q fun p ys F3 H3 x3 n1 n2 l z r3 => q p ys F3 H3 (x1.trans x3.lift) (d1.grow x3) ?_ n2 l z r3
  cases hp : H p with
  | none => rfl
  | some o => exact absurd n1 (x1.hd p (by rw [hp]; simp))
section
variable {x : Str} {p : Pos} {id T : String} {r : List V → Hp → VK → Prop}
theorem cCallB (C : Fam X P w K mg base N lv) {gg : List D → Option D} (hc : ∀ i, CallR (X i) (.builtin id) r) (hv' : VL K r gg) (hm : mg x = none) (hv : bootBuiltins x = some (.builtin id)) (ha : CAB X K (e :: es) g) (hg : ∀ i, Gl (X i) x := by intro _; rfl)
    (hn : x ≠ "__name__" := by decide) (hdb : (x == ("__debug__" : Str)) = false := by decide) (he : ∀ i, starEach (e :: es) (X i).env = (false, eval e (X i).env) :: starEach es (X i).env := by intro _; rfl)
    (hpl : ∀ i, (backTo pos (starEach es (X i).env)).any (·.1) = false := by intro _; rfl) : CE X K (.Call (.Name x p) (e :: es) [] pos) (xL gg g) :=
  let ⟨t, h1, h2⟩ := ha; ⟨_, fun i => pe_callB (hc i) (hg i) (by rw [C.m i]; exact hm) hv (h1 i) hn hdb (he i) (hpl i), semE_CB hv' h2⟩
theorem oCallB (C : Fam X P w K mg base N lv) {gg : List D → Option (List D)} (hc : ∀ i, CallR (X i) (.builtin id) r) (hv' : VLO K r gg) (hm : mg x = none) (hv : bootBuiltins x = some (.builtin id)) (ha : CAB X K (e :: es) g) (hg : ∀ i, Gl (X i) x := by intro _; rfl)
    (hn : x ≠ "__name__" := by decide) (hdb : (x == ("__debug__" : Str)) = false := by decide) (he : ∀ i, starEach (e :: es) (X i).env = (false, eval e (X i).env) :: starEach es (X i).env := by intro _; rfl)
    (hpl : ∀ i, (backTo pos (starEach es (X i).env)).any (·.1) = false := by intro _; rfl) : CO X K (.Call (.Name x p) (e :: es) [] pos) (oL gg g) :=
  let ⟨t, h1, h2⟩ := ha; ⟨_, fun i => pe_callB (hc i) (hg i) (by rw [C.m i]; exact hm) hv (h1 i) hn hdb (he i) (hpl i), semO_CB hv' h2⟩
theorem cCallT (C : Fam X P w K mg base N lv) {gg : List D → Option D} (hc : ∀ i, CallR (X i) (.type T) r) (hv' : VL K r gg) (hm : mg x = none) (hv : bootBuiltins x = some (.type T)) (ha : CAB X K (e :: es) g) (hg : ∀ i, Gl (X i) x := by intro _; rfl)
    (hn : x ≠ "__name__" := by decide) (hdb : (x == ("__debug__" : Str)) = false := by decide) (he : ∀ i, starEach (e :: es) (X i).env = (false, eval e (X i).env) :: starEach es (X i).env := by intro _; rfl)
    (hpl : ∀ i, (backTo pos (starEach es (X i).env)).any (·.1) = false := by intro _; rfl) : CE X K (.Call (.Name x p) (e :: es) [] pos) (xL gg g) :=
  let ⟨t, h1, h2⟩ := ha; ⟨_, fun i => pe_callTy (hc i) (hg i) (by rw [C.m i]; exact hm) hv (h1 i) hn hdb (he i) (hpl i), semE_CB hv' h2⟩
theorem oCallT (C : Fam X P w K mg base N lv) {gg : List D → Option (List D)} (hc : ∀ i, CallR (X i) (.type T) r) (hv' : VLO K r gg) (hm : mg x = none) (hv : bootBuiltins x = some (.type T)) (ha : CAB X K (e :: es) g) (hg : ∀ i, Gl (X i) x := by intro _; rfl)
    (hn : x ≠ "__name__" := by decide) (hdb : (x == ("__debug__" : Str)) = false := by decide) (he : ∀ i, starEach (e :: es) (X i).env = (false, eval e (X i).env) :: starEach es (X i).env := by intro _; rfl)
    (hpl : ∀ i, (backTo pos (starEach es (X i).env)).any (·.1) = false := by intro _; rfl) : CO X K (.Call (.Name x p) (e :: es) [] pos) (oL gg g) :=
  let ⟨t, h1, h2⟩ := ha; ⟨_, fun i => pe_callTy (hc i) (hg i) (by rw [C.m i]; exact hm) hv (h1 i) hn hdb (he i) (hpl i), semO_CB hv' h2⟩
end
end
end Pu
namespace Pu
open PySem PySem.Spec PyProof.Rows L2

/-! ### data as the library's data -/
mutual
def toP : D → PyData
  | .non => .none
  | .bl b => .bool b
  | .int i => .int i
  | .str x => .str x
  | .tup ds => .tuple (toPs ds)
  | .lst ds => .list (toPs ds)
  | .rng => .dict []
def toPs : List D → List PyData
  | [] => []
  | d :: ds => toP d :: toPs ds
end
mutual
def clean : D → Bool
  | .rng => false
  | .tup ds => cleanL ds
  | .lst ds => cleanL ds
  | _ => true
def cleanL : List D → Bool
  | [] => true
  | d :: ds => clean d && cleanL ds
end
section
variable {K : PySem.W.Frag} {pd : Option PD} {F H : Hp}
mutual
theorem Rep.dp (fh : Same F H) : ∀ {d : D} {v : V}, clean d = true → Rep K pd F d v → Dp K H v (toP d)
  | .non, _, _, h => by simp only [Rep] at h; subst h; exact .non
  | .bl _, _, _, h => by simp only [Rep] at h; subst h; exact .bl _
  | .int _, _, _, h => by simp only [Rep] at h; subst h; exact .int _
  | .str _, _, _, h => by simp only [Rep] at h; subst h; exact .str _
  | .rng, _, c, _ => by simp [clean] at c
  | .tup ds, _, c, h => by
    simp only [Rep] at h
    obtain ⟨a, xs, rfl, s, hl, q⟩ := h
    exact .tup (sqT_mono fh s) (RepL.dp fh (by simpa only [clean] using c) q)
  | .lst ds, _, c, h => by
    simp only [Rep] at h
    obtain ⟨a, xs, rfl, s, hl, q⟩ := h
    exact .lst (.of (fh _ _ s)) (RepL.dp fh (by simpa only [clean] using c) q)
theorem RepL.dp (fh : Same F H) : ∀ {ds : List D} {xs : List V}, cleanL ds = true → RepL K pd F ds xs → DpAll K H xs (toPs ds)
  | [], _, _, h => by have := h.cases0; subst this; exact .nil
  | d :: ds, _, c, h => by
    obtain ⟨y, ys, rfl, h1, h2⟩ := h.cases
    simp only [cleanL, Bool.and_eq_true] at c
    exact .cons (Rep.dp fh c.1 h1) (RepL.dp fh c.2 h2)
end
theorem RepB.dp {d : D} {v : V} (fh : Same F H) (c : clean d = true) (h : RepB K pd F H d v) : Dp K H v (toP d) := by
  rcases h with h | ⟨p, ds, xs, rfl, rfl, h3, _, _, _, h6⟩
  · exact h.dp fh c
  · exact .lst (.of h3) (RepL.dp fh (by simpa only [clean] using c) h6)
theorem toPs_eq : ∀ ds : List D, toPs ds = ds.map toP
  | [] => rfl
  | d :: ds => by rw [toPs, toPs_eq ds]; rfl
end
/-- may be compared -/
def cmpOk (d : D) : Bool := clean d && SeqAt.shaped (toP d)
def eqD (x y : D) : Option D := if cmpOk x = true ∧ cmpOk y = true then some (.bl (PyData.eqv (toP x) (toP y))) else none
def neD (x y : D) : Option D := if cmpOk x = true ∧ cmpOk y = true then some (.bl (!PyData.eqv (toP x) (toP y))) else none
def isNonD : D → Bool
  | .non => true
  | _ => false
def isD (x y : D) : Option D := match y with
  | .non => some (.bl (isNonD x))
  | _ => none
def isNotD (x y : D) : Option D := match y with
  | .non => some (.bl (!isNonD x))
  | _ => none
def ltD : D → D → Option D
  | .int a, .int b => some (.bl (decide (a < b)))
  | _, _ => none
def leD : D → D → Option D
  | .int a, .int b => some (.bl (decide (a ≤ b)))
  | _, _ => none
def gtD : D → D → Option D
  | .int a, .int b => some (.bl (decide (b < a)))
  | _, _ => none
def geD : D → D → Option D
  | .int a, .int b => some (.bl (decide (b ≤ a)))
  | _, _ => none
def addD : D → D → Option D
  | .int a, .int b => some (.int (a + b))
  | .tup a, .tup b => if a.length + b.length ≤ SZ then some (.tup (a ++ b)) else none
  | .lst a, .lst b => if a.length + b.length ≤ SZ then some (.lst (a ++ b)) else none
  | _, _ => none
def catO : D → D → Option (List D)
  | .lst a, .lst b => if a.length + b.length ≤ SZ then some (a ++ b) else none
  | _, _ => none
def subD : D → D → Option D
  | .int a, .int b => some (.int (a - b))
  | _, _ => none
def mulD : D → D → Option D
  | .int a, .int b => if a.natAbs.log2 + b.natAbs.log2 < 1000000 then some (.int (a * b)) else none
  | _, _ => none
def divD : D → D → Option D
  | .int a, .int b => if 0 < b ∧ b.natAbs.log2 < 9000 then some (.int (a / b)) else none
  | _, _ => none
def modD : D → D → Option D
  | .int a, .int b => if 0 < b then some (.int (a % b)) else none
  | _, _ => none
def negD : D → Option D
  | .int a => some (.int (-a))
  | _ => none
def repO : D → D → Option (List D)
  | .lst a, .int k => if -(2 ^ 63) ≤ k ∧ k < 2 ^ 63 ∧ a.length * k.toNat ≤ SZ then some (List.replicate k.toNat a).flatten else none
  | _, _ => none
def ixD : D → D → Option D
  | .lst a, .int k => atI a k
  | .tup a, .int k => atI a k
  | _, _ => none
def lenD : List D → Option D
  | [.lst a] => some (.int a.length)
  | [.tup a] => some (.int a.length)
  | _ => none
def tupD : List D → Option D
  | [.lst a] => some (.tup a)
  | [.tup a] => some (.tup a)
  | _ => none
def listO : List D → Option (List D)
  | [.lst a] => some a
  | [.tup a] => some a
  | _ => none
def absD : List D → Option D
  | [.int a] => some (.int (if a < 0 then -a else a))
  | _ => none
def intD : List D → Option D
  | [.int a] => some (.int a)
  | [.bl b] => some (.int (if b then 1 else 0))
  | _ => none
def max2D : List D → Option D
  | [.int a, .int b] => some (.int (if b > a then b else a))
  | _ => none
def min2D : List D → Option D
  | [.int a, .int b] => some (.int (if b < a then b else a))
  | _ => none

section
variable {K : PySem.W.Frag} {X : Cx}
theorem v2I {g : Int → Int → D} {gv : Int → Int → V} {C : Int → Int → Prop} (h : ∀ pd F i j, Rep K pd F (g i j) (gv i j)) {gg : D → D → Option D}
    (hg : ∀ x y d, gg x y = some d → ∃ i j, x = .int i ∧ y = .int j ∧ C i j ∧ d = g i j) : V2 K (rI C gv) gg := fun pd F H x y d v w fh rx ry e Q q => by
  obtain ⟨i, j, rfl, rfl, c, rfl⟩ := hg x y d e
  exact ⟨i, j, rx.int, ry.int, c, q _ F H (.refl fh) (h pd F i j)⟩
theorem v2I0 {g : Int → Int → D} {gv : Int → Int → V} (h : ∀ pd F i j, Rep K pd F (g i j) (gv i j)) {gg : D → D → Option D}
    (hg : ∀ x y d, gg x y = some d → ∃ i j, x = .int i ∧ y = .int j ∧ d = g i j) : V2 K (rI0 gv) gg := fun pd F H x y d v w fh rx ry e Q q => by
  obtain ⟨i, j, rfl, rfl, rfl⟩ := hg x y d e
  exact ⟨i, j, rx.int, ry.int, q _ F H (.refl fh) (h pd F i j)⟩
theorem int2 {gg : D → D → Option D} {g : Int → Int → D} (h1 : ∀ i j, gg (.int i) (.int j) = some (g i j)) (h2 : ∀ x y, (∀ i j, x = .int i → y = .int j → False) → gg x y = none) (x y d : D) (e : gg x y = some d) :
    ∃ i j, x = .int i ∧ y = .int j ∧ d = g i j := by
  by_cases hx : ∃ i j, x = .int i ∧ y = .int j
  · obtain ⟨i, j, rfl, rfl⟩ := hx
    rw [h1] at e
    exact ⟨i, j, rfl, rfl, (Option.some.inj e).symm⟩
  · rw [h2 x y fun i j e1 e2 => hx ⟨i, j, e1, e2⟩] at e
    cases e
theorem v_lt : V2 K (rI0 fun i j => .bl (decide (i < j))) ltD := v2I0 (g := fun i j => .bl (decide (i < j))) (fun _ _ _ _ => by simp [Rep]) (int2 (fun _ _ => rfl) fun x y h => by cases x <;> cases y <;> first | rfl | exact (h _ _ rfl rfl).elim)
theorem v_le : V2 K (rI0 fun i j => .bl (decide (i ≤ j))) leD := v2I0 (g := fun i j => .bl (decide (i ≤ j))) (fun _ _ _ _ => by simp [Rep]) (int2 (fun _ _ => rfl) fun x y h => by cases x <;> cases y <;> first | rfl | exact (h _ _ rfl rfl).elim)
theorem v_gt : V2 K (rI0 fun i j => .bl (decide (j < i))) gtD := v2I0 (g := fun i j => .bl (decide (j < i))) (fun _ _ _ _ => by simp [Rep]) (int2 (fun _ _ => rfl) fun x y h => by cases x <;> cases y <;> first | rfl | exact (h _ _ rfl rfl).elim)
theorem v_ge : V2 K (rI0 fun i j => .bl (decide (j ≤ i))) geD := v2I0 (g := fun i j => .bl (decide (j ≤ i))) (fun _ _ _ _ => by simp [Rep]) (int2 (fun _ _ => rfl) fun x y h => by cases x <;> cases y <;> first | rfl | exact (h _ _ rfl rfl).elim)
theorem v_sub : V2 K (rI0 fun i j => .int (i - j)) subD := v2I0 (g := fun i j => .int (i - j)) (fun _ _ _ _ => by simp [Rep]) (int2 (fun _ _ => rfl) fun x y h => by cases x <;> cases y <;> first | rfl | exact (h _ _ rfl rfl).elim)
theorem v_mul : V2 K (rI CMulW fun i j => .int (i * j)) mulD := v2I (g := fun i j => .int (i * j)) (fun _ _ _ _ => by simp [Rep]) fun x y d e => by
  cases x <;> cases y <;> first | (cases e; done) | skip
  rename_i i j
  simp only [mulD] at e
  split at e
  · rename_i h; exact ⟨i, j, rfl, rfl, h, (Option.some.inj e).symm⟩
  · cases e
theorem v_div : V2 K (rI CDivW fun i j => .int (i / j)) divD := v2I (g := fun i j => .int (i / j)) (fun _ _ _ _ => by simp [Rep]) fun x y d e => by
  cases x <;> cases y <;> first | (cases e; done) | skip
  rename_i i j
  simp only [divD] at e
  split at e
  · rename_i h; exact ⟨i, j, rfl, rfl, h, (Option.some.inj e).symm⟩
  · cases e
theorem v_mod : V2 K (rI (fun _ j => 0 < j) fun i j => .int (i % j)) modD := v2I (g := fun i j => .int (i % j)) (fun _ _ _ _ => by simp [Rep]) fun x y d e => by
  cases x <;> cases y <;> first | (cases e; done) | skip
  rename_i i j
  simp only [modD] at e
  split at e
  · rename_i h; exact ⟨i, j, rfl, rfl, h, (Option.some.inj e).symm⟩
  · cases e
theorem v_neg : V1 K (rU fun i => .int (-i)) negD := fun pd F H x d v fh rx e Q q => by
  cases x <;> first | (cases e; done) | skip
  rename_i i
  cases e
  exact ⟨i, rx.int, q _ F H (.refl fh) (by simp [Rep])⟩
/-! sums of ints, tuples, lists -/
def rAddAll (K : PySem.W.Frag) : R2 := fun x y H Q => (rI0 fun i j => .int (i + j)) x y H Q ∨ rCatA K x y H Q ∨ rCat x y H Q
theorem op_addAll (h : X.K = K) : OpR X (binaryOp .Add) (rAddAll K) := by subst h; exact op_add.or (op_catA.or op_cat)
theorem v_add : V2 K (rAddAll K) addD := fun pd F H x y d v w fh rx ry e Q q => by
  cases x <;> cases y <;> first | (cases e; done) | skip
  · rename_i i j
    cases e
    exact .inl ⟨i, j, rx.int, ry.int, q _ F H (.refl fh) (by simp [Rep])⟩
  · rename_i as bs
    simp only [addD] at e
    split at e
    · rename_i hl
      cases e
      obtain ⟨a, xs, rfl, t1, t2, l1, r1⟩ := rx.tup fh
      obtain ⟨b, ys, rfl, u1, u2, l2, r2⟩ := ry.tup fh
      refine .inr (.inl ⟨a, b, xs, ys, rfl, rfl, t1, u1, by rw [r1.length, r2.length]; exact hl, fun z => ?_, fun _ z => ?_, fun _ _ p n => ?_⟩)
      · subst z
        have : as = [] := List.eq_nil_of_length_eq_zero r1.length.symm
        subst this
        exact q _ F H (.refl fh) (by simp only [Rep]; exact ⟨b, ys, rfl, u2, l2, r2⟩)
      · subst z
        have : bs = [] := List.eq_nil_of_length_eq_zero r2.length.symm
        subst this
        rw [List.append_nil] at q
        exact q _ F H (.refl fh) (by simp only [Rep]; exact ⟨a, xs, rfl, t2, l1, r1⟩)
      · have x2 := Ext.new (o := .tup (xs ++ ys)) fh n
        exact q _ _ _ x2 (by simp only [Rep]; exact ⟨p, _, rfl, .of upd_same, by rw [List.length_append]; exact hl, (r1.append r2).mono x2.ff⟩)
    · cases e
  · rename_i as bs
    simp only [addD] at e
    split at e
    · rename_i hl
      cases e
      obtain ⟨a, xs, rfl, t1, l1, r1⟩ := rx.lst fh
      obtain ⟨b, ys, rfl, u1, l2, r2⟩ := ry.lst fh
      refine .inr (.inr ⟨a, b, xs, ys, rfl, rfl, t1, u1, by rw [r1.length, r2.length]; exact hl, fun p n => ?_⟩)
      have x2 := Ext.new (o := .lst (xs ++ ys)) fh n
      exact q _ _ _ x2 (by simp only [Rep]; exact ⟨p, _, rfl, upd_same, by rw [List.length_append]; exact hl, (r1.append r2).mono x2.ff⟩)
    · cases e
theorem nF_of {F H : Hp} {p : Addr} (fh : Same F H) (n : H p = none) : F p = none := fh.free n
theorem v_catO : V2O K rCat catO := fun pd F H x y d v w fh rx ry e Q q => by
  cases x <;> cases y <;> first | (cases e; done) | skip
  rename_i as bs
  simp only [catO] at e
  split at e
  · rename_i hl
    cases e
    obtain ⟨a, xs, rfl, t1, l1, r1⟩ := rx.lst fh
    obtain ⟨b, ys, rfl, u1, l2, r2⟩ := ry.lst fh
    refine ⟨a, b, xs, ys, rfl, rfl, t1, u1, by rw [r1.length, r2.length]; exact hl, fun p n => ?_⟩
    exact q p _ F _ (Ext.own fh n) n (nF_of fh n) upd_same (by rw [List.length_append]; exact hl) (r1.append r2)
  · cases e
theorem v_repO : V2O K rRep repO := fun pd F H x y d v w fh rx ry e Q q => by
  cases x <;> cases y <;> first | (cases e; done) | skip
  rename_i as k
  simp only [repO] at e
  split at e
  · rename_i hl
    cases e
    obtain ⟨a, xs, rfl, t1, l1, r1⟩ := rx.lst fh
    refine ⟨a, k, xs, rfl, ry.int, t1, hl.1, hl.2.1, by rw [r1.length]; exact hl.2.2, fun p n => ?_⟩
    refine q p _ F _ (Ext.own fh n) n (nF_of fh n) upd_same ?_ (r1.rep _)
    have : (List.replicate k.toNat as).flatten.length = as.length * k.toNat := by
      rw [List.length_flatten, List.map_replicate, List.sum_replicate_nat, Nat.mul_comm]
    rw [this]; exact hl.2.2
  · cases e
/-! subscripts -/
theorem atI_rep {pd : Option PD} {F : Hp} {ds : List D} {xs : List V} {k : Int} {d : D} (r : RepL K pd F ds xs) (e : atI ds k = some d) : ∃ x, atI xs k = some x ∧ Rep K pd F d x := by
  unfold atI at e ⊢
  rw [r.length]
  cases h : ixN ds.length k with
  | none => rw [h] at e; cases e
  | some j =>
    rw [h] at e
    exact r.get e
def rIxS2 (K : PySem.W.Frag) : R2 := fun x y H Q => rIxL K x y H Q ∨ rIxT K x y H Q
theorem ix_both (h : X.K = K) : IxR X (rIxS2 K) := by subst h; exact ix_list.or ix_tup
theorem v_ix : V2 K (rIxS2 K) ixD := fun pd F H x y d v w fh rx ry e Q q => by
  cases x <;> cases y <;> first | (cases e; done) | skip
  · rename_i as k
    obtain ⟨a, xs, rfl, t1, t2, l1, r1⟩ := rx.tup fh
    obtain ⟨z, h1, h2⟩ := atI_rep r1 e
    exact .inr ⟨a, xs, k, z, rfl, ry.int, t1, h1, q _ F H (.refl fh) h2⟩
  · rename_i as k
    obtain ⟨a, xs, rfl, t1, l1, r1⟩ := rx.lst fh
    obtain ⟨z, h1, h2⟩ := atI_rep r1 e
    exact .inl ⟨a, xs, k, z, rfl, ry.int, .of t1, h1, q _ F H (.refl fh) h2⟩
/-! equality -/
theorem v_eq : V2 K (rEqD K) eqD := fun pd F H x y d v w fh rx ry e Q q => by
  unfold eqD at e
  split at e
  · rename_i h
    cases e
    obtain ⟨h1, h2⟩ := h
    unfold cmpOk at h1 h2
    rw [Bool.and_eq_true] at h1 h2
    exact ⟨_, _, rx.dp fh h1.1, ry.dp fh h2.1, h1.2, h2.2, q _ F H (.refl fh) (by simp [Rep])⟩
  · cases e
theorem v_ne : V2 K (rNeD K) neD := fun pd F H x y d v w fh rx ry e Q q => by
  unfold neD at e
  split at e
  · rename_i h
    cases e
    obtain ⟨h1, h2⟩ := h
    unfold cmpOk at h1 h2
    rw [Bool.and_eq_true] at h1 h2
    exact ⟨_, _, rx.dp fh h1.1, ry.dp fh h2.1, h1.2, h2.2, q _ F H (.refl fh) (by simp [Rep])⟩
  · cases e
theorem non_iff {pd : Option PD} {F H : Hp} {x : D} {v : V} (h : RepB K pd F H x v) : decide (v = .non) = isNonD x := by
  cases x with
  | non => rw [h.non]; rfl
  | bl b => rw [h.bl]; rfl
  | int b => rw [h.int]; rfl
  | str b => rw [h.str]; rfl
  | rng =>
    rcases h with h | ⟨p, ds, xs, h1, _⟩
    · simp only [Rep] at h; obtain ⟨a, rfl, _⟩ := h; rfl
    · cases h1
  | tup ds =>
    rcases h with h | ⟨p, ds, xs, h1, _⟩
    · simp only [Rep] at h; obtain ⟨a, xs, rfl, _⟩ := h; rfl
    · cases h1
  | lst ds =>
    rcases h with h | ⟨p, ds, xs, h1, h2, _⟩
    · simp only [Rep] at h; obtain ⟨a, xs, rfl, _⟩ := h; rfl
    · subst h2; rfl
theorem v_is : V2 K (fun x y H Q => y = .non ∧ Q (.bl (decide (x = .non))) H) isD := fun pd F H x y d v w fh rx ry e Q q => by
  cases y <;> first | (cases e; done) | skip
  cases e
  exact ⟨ry.non, by rw [non_iff rx]; exact q _ F H (.refl fh) (by simp [Rep])⟩
theorem v_isNot : V2 K (fun x y H Q => y = .non ∧ Q (.bl (!decide (x = .non))) H) isNotD := fun pd F H x y d v w fh rx ry e Q q => by
  cases y <;> first | (cases e; done) | skip
  cases e
  exact ⟨ry.non, by rw [non_iff rx]; exact q _ F H (.refl fh) (by simp [Rep])⟩
/-! calls -/
theorem RepBL.one {pd : Option PD} {F H : Hp} {d : D} {vs : List V} (h : RepBL K pd F H [d] vs) : ∃ v, vs = [v] ∧ RepB K pd F H d v := by
  cases h with
  | cons a b => cases b; exact ⟨_, rfl, a⟩
theorem RepBL.two {pd : Option PD} {F H : Hp} {d e : D} {vs : List V} (h : RepBL K pd F H [d, e] vs) : ∃ v w, vs = [v, w] ∧ RepB K pd F H d v ∧ RepB K pd F H e w := by
  cases h with
  | cons a b => obtain ⟨w, rfl, r⟩ := b.one; exact ⟨_, _, rfl, a, r⟩
def rLen (K : PySem.W.Frag) : List V → Hp → VK → Prop := fun xs H Q => ∃ p ys, xs = [.ref p] ∧ (SqL K H p ys ∨ SqT K H p ys) ∧ Q (.int ys.length) H
theorem c_len (h : X.K = K) : CallR X (.builtin "len") (rLen K) := by subst h; exact call_len_seq
theorem v_len : VL K (rLen K) lenD := fun pd F H xs d vs fh r e Q q => by
  match xs, e with
  | [.lst a], e =>
    cases e
    obtain ⟨v, rfl, rb⟩ := r.one
    obtain ⟨p, ys, rfl, t, l, rl⟩ := rb.lst fh
    exact ⟨p, ys, rfl, .inl (.of t), by rw [rl.length]; exact q _ F H (.refl fh) (by simp [Rep])⟩
  | [.tup a], e =>
    cases e
    obtain ⟨v, rfl, rb⟩ := r.one
    obtain ⟨p, ys, rfl, t, _, l, rl⟩ := rb.tup fh
    exact ⟨p, ys, rfl, .inr t, by rw [rl.length]; exact q _ F H (.refl fh) (by simp [Rep])⟩
def rTupOf (K : PySem.W.Frag) : List V → Hp → VK → Prop := fun xs H Q => ∃ p ys, xs = [.ref p] ∧ ((SqL K H p ys ∧ ∀ l, H l = none → Q (.ref l) (upd H l (.tup ys))) ∨ (SqT K H p ys ∧ Q (.ref p) H))
theorem c_tup (h : X.K = K) : CallR X (.type "tuple") (rTupOf K) := by subst h; exact call_tuple_of
theorem v_tup : VL K (rTupOf K) tupD := fun pd F H xs d vs fh r e Q q => by
  match xs, e with
  | [.lst a], e =>
    cases e
    obtain ⟨v, rfl, rb⟩ := r.one
    obtain ⟨p, ys, rfl, t, l, rl⟩ := rb.lst fh
    refine ⟨p, ys, rfl, .inl ⟨.of t, fun b n => ?_⟩⟩
    have x2 := Ext.new (o := .tup ys) fh n
    exact q _ _ _ x2 (by simp only [Rep]; exact ⟨b, _, rfl, .of upd_same, l, rl.mono x2.ff⟩)
  | [.tup a], e =>
    cases e
    obtain ⟨v, rfl, rb⟩ := r.one
    obtain ⟨p, ys, rfl, t, t2, l, rl⟩ := rb.tup fh
    exact ⟨p, ys, rfl, .inr ⟨t, q _ F H (.refl fh) (by simp only [Rep]; exact ⟨p, _, rfl, t2, l, rl⟩)⟩⟩
def rListOf (K : PySem.W.Frag) : List V → Hp → VK → Prop := fun xs H Q => ∃ p ys, xs = [.ref p] ∧ (SqL K H p ys ∨ SqT K H p ys) ∧ ∀ l, H l = none → Q (.ref l) (upd H l (.lst ys))
theorem c_list (h : X.K = K) : CallR X (.type "list") (rListOf K) := by subst h; exact call_list_of
theorem v_list : VLO K (rListOf K) listO := fun pd F H xs d vs fh r e Q q => by
  match xs, e with
  | [.lst a], e =>
    cases e
    obtain ⟨v, rfl, rb⟩ := r.one
    obtain ⟨p, ys, rfl, t, l, rl⟩ := rb.lst fh
    exact ⟨p, ys, rfl, .inl (.of t), fun b n => q b _ F _ (Ext.own fh n) n (nF_of fh n) upd_same l rl⟩
  | [.tup a], e =>
    cases e
    obtain ⟨v, rfl, rb⟩ := r.one
    obtain ⟨p, ys, rfl, t, t2, l, rl⟩ := rb.tup fh
    exact ⟨p, ys, rfl, .inr t, fun b n => q b _ F _ (Ext.own fh n) n (nF_of fh n) upd_same l rl⟩
theorem v_abs : VL K (fun xs H Q => ∃ i, xs = [.int i] ∧ Q (.int (if i < 0 then -i else i)) H) absD := fun pd F H xs d vs fh r e Q q => by
  match xs, e with
  | [.int a], e =>
    cases e
    obtain ⟨v, rfl, rb⟩ := r.one
    exact ⟨a, by rw [rb.int], q _ F H (.refl fh) (by simp [Rep])⟩
theorem v_int : VL K (fun xs H Q => (∃ i, xs = [.int i] ∧ Q (.int i) H) ∨ ∃ k, xs = [.bl k] ∧ Q (.int (if k then 1 else 0)) H) intD := fun pd F H xs d vs fh r e Q q => by
  match xs, e with
  | [.int a], e =>
    cases e
    obtain ⟨v, rfl, rb⟩ := r.one
    exact .inl ⟨a, by rw [rb.int], q _ F H (.refl fh) (by simp [Rep])⟩
  | [.bl a], e =>
    cases e
    obtain ⟨v, rfl, rb⟩ := r.one
    exact .inr ⟨a, by rw [rb.bl], q _ F H (.refl fh) (by simp [Rep])⟩
theorem v_max2 : VL K (fun xs H Q => ∃ i j, xs = [.int i, .int j] ∧ Q (.int (if j > i then j else i)) H) max2D := fun pd F H xs d vs fh r e Q q => by
  match xs, e with
  | [.int a, .int b], e =>
    cases e
    obtain ⟨v, w, rfl, r1, r2⟩ := r.two
    exact ⟨a, b, by rw [r1.int, r2.int], q _ F H (.refl fh) (by simp [Rep])⟩
theorem v_min2 : VL K (fun xs H Q => ∃ i j, xs = [.int i, .int j] ∧ Q (.int (if j < i then j else i)) H) min2D := fun pd F H xs d vs fh r e Q q => by
  match xs, e with
  | [.int a, .int b], e =>
    cases e
    obtain ⟨v, w, rfl, r1, r2⟩ := r.two
    exact ⟨a, b, by rw [r1.int, r2.int], q _ F H (.refl fh) (by simp [Rep])⟩
end

/-! ### subscripts and slices as rules -/
def xSl (g : D → Option Int → Option Int → Option D) (a : EF) (lo hi : Option EF) : EF := fun ρ => Mb (a ρ) fun x =>
  Mb (match lo with | none => Mp none | some f => Mb (f ρ) fun d => match d with | .int i => Mp (some i) | _ => Mf) fun l =>
  Mb (match hi with | none => Mp none | some f => Mb (f ρ) fun d => match d with | .int i => Mp (some i) | _ => Mf) fun u => Mo (g x l u)
def cutD {α : Type} (xs : List α) (lo hi : Option Int) : List α := (xs.drop (HT.sIx xs.length 0 lo)).take (HT.sIx xs.length xs.length hi - HT.sIx xs.length 0 lo)
def slD : D → Option Int → Option Int → Option D
  | .lst a, l, u => some (.lst (cutD a l u))
  | .tup a, l, u => some (.tup (cutD a l u))
  | _, _, _ => none
section
variable {ι : Type} {X : ι → Cx} {P : Program} {w : World} {K : PySem.W.Frag} {mg : Str → Option Value} {base : Heap} {N : List Str} {lv : Nat} {pos : Pos} {a b c e : Expr} {es : List Expr} {f fa fb fc : EF} {g : AF}
theorem cIx {r : R2} {gg : D → D → Option D} (hr : ∀ i, IxR (X i) r) (hv : V2 K r gg) (ha : CB X K a fa) (hb : CB X K b fb) (hs : PlainIx b) : CE X K (.Subscript a b pos) (x2 gg fa fb) :=
  let ⟨ta, a1, a2⟩ := ha; let ⟨tb, b1, b2⟩ := hb; ⟨_, fun i => pe_ix (hr i) (a1 i) (b1 i) hs, semE_op2 hv a2 b2⟩
def SemP (K : PySem.W.Frag) (t : TO) (f : Option EF) : Prop := ∀ (pd : Option PD) (F0 H0 F H : Hp) (ρ : Rho) (σ : L2.St) (s : DS) (o : Option Int) (s' : DS), Ok K pd F0 H0 F H ρ σ s →
  (match f with | none => (Mp none : M (Option Int)) | some f => Mb (f ρ) fun d => match d with | .int i => Mp (some i) | _ => Mf) s = some (o, s') →
  ∀ Q : Option Int → Hp → Prop, (∀ F' H', Ext pd F H F' H' → DOk K pd F' H' s' → Q o H') → t σ H Q
def CP (X : ι → Cx) (K : PySem.W.Frag) (e : Option Expr) (f : Option EF) : Prop := ∃ t, (∀ i, PO (X i) e t) ∧ SemP K t f
theorem cpNone : CP X K none none := ⟨_, fun _ => po_none, fun pd F0 H0 F H ρ σ s d s' o e Q q => by obtain ⟨rfl, rfl⟩ := Mp_eq e; exact q F H (.refl o.fh) o.dok⟩
theorem cpSome (h : CE X K e f) : CP X K (some e) (some f) := by
  obtain ⟨t, h1, h2⟩ := h
  refine ⟨_, fun i => po_some (h1 i), fun pd F0 H0 F H ρ σ s d s' o e Q q => ?_⟩
  obtain ⟨x, s1, e1, e⟩ := Mb_eq e
  refine h2 pd F0 H0 F H ρ σ s x s1 o e1 _ fun v F1 H1 x1 d1 r1 => ?_
  cases x with
  | int i =>
    obtain ⟨rfl, rfl⟩ := Mp_eq e
    simp only [Rep] at r1
    exact ⟨i, r1, q F1 H1 x1 d1⟩
  | _ => cases e
def V3 (K : PySem.W.Frag) (r : V → Option Int → Option Int → Hp → VK → Prop) (g : D → Option Int → Option Int → Option D) : Prop := ∀ (pd : Option PD) (F H : Hp) (x d : D) (l u : Option Int) (v : V), Same F H → RepB K pd F H x v → g x l u = some d →
  ∀ Q : VK, (∀ u F' H', Ext none F H F' H' → Rep K pd F' d u → Q u H') → r v l u H Q
theorem cSlice {r : V → Option Int → Option Int → Hp → VK → Prop} {gg : D → Option Int → Option Int → Option D} {lo hi : Option Expr} {fl fu : Option EF} {p2 : Pos} (hr : ∀ i, SlR (X i) r) (hv : V3 K r gg) (ha : CB X K a fa) (hl : CP X K lo fl) (hu : CP X K hi fu) :
    CE X K (.Subscript a (.Slice lo hi none p2) pos) (xSl gg fa fl fu) := by
  obtain ⟨ta, a1, a2⟩ := ha
  obtain ⟨tl, l1, l2⟩ := hl
  obtain ⟨tu, u1, u2⟩ := hu
  refine ⟨_, fun i => pe_slice (hr i) (a1 i) (l1 i) (u1 i), fun pd F0 H0 F H ρ σ s d s' o e Q q => ?_⟩
  obtain ⟨x, s1, e1, e⟩ := Mb_eq e
  obtain ⟨l, s2, e2, e⟩ := Mb_eq e
  obtain ⟨u, s3, e3, e⟩ := Mb_eq e
  obtain ⟨e4, rfl⟩ := Mo_eq e
  refine a2 pd F0 H0 F H ρ σ s x s1 o e1 _ fun v F1 H1 x1 d1 r1 => ?_
  have o1 := o.step x1 d1
  refine l2 pd F0 H0 F1 H1 ρ σ s1 l s2 o1 e2 _ fun F2 H2 x2 d2 => ?_
  have o2 := o1.step x2 d2
  refine u2 pd F0 H0 F2 H2 ρ σ s2 u _ o2 e3 _ fun F3 H3 x3 d3 => ?_
  exact hv pd F3 H3 x d l u v (o2.step x3 d3).fh ((r1.mono x2).mono x3) e4 Q fun z F4 H4 x4 r4 => q z F4 H4 (x1.trans (x2.trans (x3.trans x4.lift))) (d3.grow x4) r4
end
section
variable {K : PySem.W.Frag} {X : Cx}
def rSlAll (K : PySem.W.Frag) : V → Option Int → Option Int → Hp → VK → Prop := fun x l u H Q => rSlL K x l u H Q ∨ rSlA K x l u H Q
theorem sl_all (h : X.K = K) : SlR X (rSlAll K) := by subst h; exact sl_list.or sl_tupA
theorem cut_rep {pd : Option PD} {F : Hp} {ds : List D} {xs : List V} (r : RepL K pd F ds xs) (l u : Option Int) : RepL K pd F (cutD ds l u) (cutV xs l u) := by
  unfold cutD cutV
  rw [r.length]
  exact (r.drop _).take _
theorem cutD_le {α : Type} (ds : List α) (l u : Option Int) : (cutD ds l u).length ≤ ds.length := by
  unfold cutD
  rw [List.length_take, List.length_drop]
  omega
theorem v_sl : V3 K (rSlAll K) slD := fun pd F H x d l u v fh rx e Q q => by
  cases x <;> first | (cases e; done) | skip
  · rename_i as
    cases e
    obtain ⟨a, xs, rfl, t1, t2, l1, r1⟩ := rx.tup fh
    have hc := cutD_le as l u
    refine .inr ⟨a, xs, rfl, t1, fun w => ?_, fun w p n => ?_⟩
    · have : cutD as l u = as := by
        unfold cutD
        rw [← r1.length, w.1, w.2]
        simp [r1.length]
      rw [this] at q
      exact q _ F H (.refl fh) (by simp only [Rep]; exact ⟨a, xs, rfl, t2, l1, r1⟩)
    · have x2 := Ext.new (o := .tup (cutV xs l u)) fh n
      exact q _ _ _ x2 (by simp only [Rep]; exact ⟨p, _, rfl, .of upd_same, Nat.le_trans hc l1, (cut_rep r1 l u).mono x2.ff⟩)
  · rename_i as
    cases e
    obtain ⟨a, xs, rfl, t1, l1, r1⟩ := rx.lst fh
    have hc := cutD_le as l u
    refine .inl ⟨a, xs, rfl, .of t1, fun p n => ?_⟩
    have x2 := Ext.new (o := .lst (cutV xs l u)) fh n
    exact q _ _ _ x2 (by simp only [Rep]; exact ⟨p, _, rfl, upd_same, Nat.le_trans hc l1, (cut_rep r1 l u).mono x2.ff⟩)
end
end Pu
namespace Pu
open PySem PySem.Spec PyProof.Rows L2

/-! ### what is walked -/
def WalkS (K : PySem.W.Frag) (pd : Option PD) (J : It) (F : Hp) (ds : List D) : Prop := ds.length ≤ SZ ∧ ∀ (i : Nat) (F1 H1 : Hp), Same F F1 → Same F1 H1 →
  (∀ d, ds[i]? = some d → J.go i H1 ∧ ∀ x H2, J.yld i H1 x H2 → ∃ F2, Ext none F1 H1 F2 H2 ∧ Rep K pd F2 d x) ∧ (i = ds.length → J.stop i H1)
def WalkW (K : PySem.W.Frag) (pd : Option PD) (J : It) (F H : Hp) (ds : List D) : Prop := ds.length ≤ SZ ∧ ∀ (i : Nat) (F1 H1 : Hp), Ext pd F H F1 H1 →
  (∀ d, ds[i]? = some d → J.go i H1 ∧ ∀ x H2, J.yld i H1 x H2 → ∃ F2, Ext none F1 H1 F2 H2 ∧ Rep K pd F2 d x) ∧ (i = ds.length → J.stop i H1)
theorem WalkS.w {K : PySem.W.Frag} {pd : Option PD} {J : It} {F H : Hp} {ds : List D} (h : WalkS K pd J F ds) : WalkW K pd J F H ds := ⟨h.1, fun i F1 H1 x => h.2 i F1 H1 x.ff x.fh⟩
def SemI (K : PySem.W.Frag) (t : TI) (f : AF) : Prop := ∀ (pd : Option PD) (F0 H0 F H : Hp) (ρ : Rho) (σ : L2.St) (s : DS) (ds : List D) (s' : DS), Ok K pd F0 H0 F H ρ σ s → f ρ s = some (ds, s') →
  ∀ R : It → Hp → Prop, (∀ J F' H', Ext pd F H F' H' → DOk K pd F' H' s' → WalkS K pd J F' ds → R J H') → t σ H R
def SemIW (K : PySem.W.Frag) (t : TI) (f : AF) : Prop := ∀ (pd : Option PD) (F0 H0 F H : Hp) (ρ : Rho) (σ : L2.St) (s : DS) (ds : List D) (s' : DS), Ok K pd F0 H0 F H ρ σ s → f ρ s = some (ds, s') →
  ∀ R : It → Hp → Prop, (∀ J F' H', Ext pd F H F' H' → DOk K pd F' H' s' → WalkW K pd J F' H' ds → R J H') → t σ H R
section
variable {ι : Type}
def CI (X : ι → Cx) (K : PySem.W.Frag) (tg e : Expr) (f : AF) : Prop := ∃ t, (∀ i, PI (X i) tg e t) ∧ SemI K t f
def CIW (X : ι → Cx) (K : PySem.W.Frag) (tg e : Expr) (f : AF) : Prop := ∃ t, (∀ i, PI (X i) tg e t) ∧ SemIW K t f
theorem CI.w {X : ι → Cx} {K : PySem.W.Frag} {tg e : Expr} {f : AF} (h : CI X K tg e f) : CIW X K tg e f :=
  let ⟨t, h1, h2⟩ := h; ⟨t, h1, fun pd F0 H0 F H ρ σ s d s' o e R q => h2 pd F0 H0 F H ρ σ s d s' o e R fun J F' H' x y z => q J F' H' x y z.w⟩
end
def seqD : D → Option (List D)
  | .lst a => some a
  | .tup a => some a
  | _ => none
def iSq (f : EF) : AF := fun ρ => Mb (f ρ) fun d => Mo (seqD d)
def rangeL (lo : Int) (n : Nat) : List D := (List.range n).map fun i => .int (lo + (i : Nat))
def rng1D : List D → Option (List D)
  | [.int j] => if j ≤ 16777216 ∧ -(2 ^ 62) ≤ j then some (rangeL 0 j.toNat) else none
  | _ => none
def rng2D : List D → Option (List D)
  | [.int i, .int j] => if -(2 ^ 61) ≤ i ∧ i < 2 ^ 61 ∧ -(2 ^ 61) ≤ j ∧ j < 2 ^ 61 ∧ j - i ≤ 16777216 then some (rangeL i (j - i).toNat) else none
  | _ => none
def iRg (gg : List D → Option (List D)) (f : AF) : AF := fun ρ => Mb (f ρ) fun xs => Mo (gg xs)

section
variable {K : PySem.W.Frag} {pd : Option PD}
theorem walkS_list {F : Hp} {a : Addr} {xs : List V} {ds : List D} (h : F a = some (.lst xs)) (hl : ds.length ≤ SZ) (r : RepL K pd F ds xs) : WalkS K pd (Itl K a) F ds := by
  refine ⟨hl, fun i F1 H1 f1 f2 => ⟨fun d hd => ?_, fun e => ⟨xs, .of (f2 _ _ (f1 _ _ h)), by rw [r.length, e]; exact Nat.le_refl _⟩⟩⟩
  obtain ⟨x, hx, rx⟩ := r.get hd
  refine ⟨⟨xs, x, .of (f2 _ _ (f1 _ _ h)), hx⟩, fun y H2 ⟨e1, e2⟩ => ?_⟩
  subst e1
  have := e2 xs (.of (f2 _ _ (f1 _ _ h)))
  rw [hx] at this; cases this
  exact ⟨F1, .refl f2, rx.mono f1⟩
theorem walkS_tup {F : Hp} {a : Addr} {xs : List V} {ds : List D} (h : SqT K F a xs) (hl : ds.length ≤ SZ) (r : RepL K pd F ds xs) : WalkS K pd (Itt K a) F ds := by
  refine ⟨hl, fun i F1 H1 f1 f2 => ⟨fun d hd => ?_, fun e => ⟨xs, sqT_mono f2 (sqT_mono f1 h), by rw [r.length, e]; exact Nat.le_refl _⟩⟩⟩
  obtain ⟨x, hx, rx⟩ := r.get hd
  refine ⟨⟨xs, x, sqT_mono f2 (sqT_mono f1 h), hx⟩, fun y H2 ⟨e1, e2⟩ => ?_⟩
  subst e1
  have := e2 xs (sqT_mono f2 (sqT_mono f1 h))
  rw [hx] at this; cases this
  exact ⟨F1, .refl f2, rx.mono f1⟩
theorem walkW_own {F H : Hp} {a : Addr} {xs : List V} {ds : List D} (h : H a = some (.lst xs)) (hp : some a ≠ pp pd) (hl : ds.length ≤ SZ) (r : RepL K pd F ds xs) : WalkW K pd (Itl K a) F H ds := by
  refine ⟨hl, fun i F1 H1 x => ⟨fun d hd => ?_, fun e => ⟨xs, .of (x.hh _ _ h hp), by rw [r.length, e]; exact Nat.le_refl _⟩⟩⟩
  obtain ⟨y, hx, rx⟩ := r.get hd
  refine ⟨⟨xs, y, .of (x.hh _ _ h hp), hx⟩, fun z H2 ⟨e1, e2⟩ => ?_⟩
  subst e1
  have := e2 xs (.of (x.hh _ _ h hp))
  rw [hx] at this; cases this
  exact ⟨F1, .refl x.fh, rx.mono x.ff⟩
theorem walkS_range {F : Hp} {lo : Int} {n : Nat} (hn : n ≤ SZ) : WalkS K pd (Itr lo n) F (rangeL lo n) := by
  have hl : (rangeL lo n).length = n := by simp [rangeL]
  refine ⟨by rw [hl]; exact hn, fun i F1 H1 f1 f2 => ⟨fun d hd => ?_, fun e => by rw [hl] at e; exact Nat.le_of_eq e.symm⟩⟩
  have hi : i < n := by have := (List.getElem?_eq_some_iff.mp hd).1; rw [hl] at this; exact this
  refine ⟨hi, fun y H2 ⟨e1, e2⟩ => ?_⟩
  subst e1
  refine ⟨F1, .refl f2, ?_⟩
  have : d = .int (lo + (i : Nat)) := by
    unfold rangeL at hd
    rw [List.getElem?_map, List.getElem?_range hi] at hd
    exact (Option.some.inj hd).symm
  subst this
  simp only [Rep]; exact e2
end
/-- a list or a tuple, as it comes -/
def iSeq (K : PySem.W.Frag) (tl : TE) : TI := fun σ H R => tl σ H fun x H1 => ∃ a, x = .ref a ∧ (((∃ xs, SqL K H1 a xs) ∧ R (Itl K a) H1) ∨ ((∃ xs, SqT K H1 a xs) ∧ R (Itt K a) H1))
theorem pi_seq {X : Cx} {tg l : Expr} {tl : TE} (hl : PE X l tl) : PI X tg l (iSeq X.K tl) := by
  refine ⟨fun pins s σ H R I h => thn (hl.run pins s σ H _ I h) fun v s1 ⟨x, H1, I1, r1, a, e, q⟩ => ?_⟩
  subst e
  cases r1
  have fp : ∀ {b : Addr}, b ∈ [s1.heap.objs.size] → FpOk X pins H1 b := fun {b} hb => by
    have e : b = s1.heap.objs.size := by simpa using hb
    subst e
    exact I1.fpOk (Nat.le_refl _) (I1.hok.fresh (Nat.le_refl _))
  rcases q with ⟨⟨xs, hq⟩, q⟩ | ⟨⟨xs, hq⟩, q⟩
  · obtain ⟨its, rv, p, hz⟩ := I1.list hq
    exact wpAny_pyIter_list p.isList ⟨s1.heap.objs.size, [s1.heap.objs.size], _, _, H1, rfl, I1.kept (t' := s1.toks) fun b o e => Heap.get?_push_of_some _ e, turn_list a _, ⟨_, Heap.get?_push_size _ rfl, rfl, rfl⟩, fun b hb => fp hb, q⟩
  · obtain ⟨its, rv, p, hz⟩ := I1.tuple hq
    exact wpAny_pyIter_tuple (show s1.heap.IsTuple a its.toArray from p) ⟨s1.heap.objs.size, [s1.heap.objs.size], _, _, H1, rfl, I1.kept (t' := s1.toks) fun b o e => Heap.get?_push_of_some _ e, turn_tuple a _, ⟨_, Heap.get?_push_size _ rfl, rfl, rfl⟩, fun b hb => fp hb, q⟩
section
variable {ι : Type} {X : ι → Cx} {P : Program} {w : World} {K : PySem.W.Frag} {mg : Str → Option Value} {base : Heap} {N : List Str} {lv : Nat} {pos : Pos} {tg a b c e : Expr} {es : List Expr} {f fa fb fc : EF} {g : AF}
theorem iSeqE (C : Fam X P w K mg base N lv) (h : CE X K e f) : CI X K tg e (iSq f) := by
  obtain ⟨t, h1, h2⟩ := h
  refine ⟨_, fun i => by have := pi_seq (tg := tg) (h1 i); rw [C.k i] at this; exact this, fun pd F0 H0 F H ρ σ s d s' o e R q => ?_⟩
  obtain ⟨x, s1, e1, e⟩ := Mb_eq e
  obtain ⟨e2, rfl⟩ := Mo_eq e
  refine h2 pd F0 H0 F H ρ σ s x s1 o e1 _ fun v F1 H1 x1 d1 r1 => ?_
  have fh := (o.step x1 d1).fh
  cases x <;> first | (cases e2; done) | skip
  · cases e2
    simp only [Rep] at r1
    obtain ⟨a, xs, rfl, t1, hl, r⟩ := r1
    exact ⟨a, rfl, .inr ⟨⟨xs, sqT_mono fh t1⟩, q _ F1 H1 x1 d1 (walkS_tup t1 hl r)⟩⟩
  · cases e2
    simp only [Rep] at r1
    obtain ⟨a, xs, rfl, t1, hl, r⟩ := r1
    exact ⟨a, rfl, .inl ⟨⟨xs, .of (fh _ _ t1)⟩, q _ F1 H1 x1 d1 (walkS_list t1 hl r)⟩⟩
theorem iSeqB (C : Fam X P w K mg base N lv) (h : CB X K e f) : CIW X K tg e (iSq f) := by
  obtain ⟨t, h1, h2⟩ := h
  refine ⟨_, fun i => by have := pi_seq (tg := tg) (h1 i); rw [C.k i] at this; exact this, fun pd F0 H0 F H ρ σ s d s' o e R q => ?_⟩
  obtain ⟨x, s1, e1, e⟩ := Mb_eq e
  obtain ⟨e2, rfl⟩ := Mo_eq e
  refine h2 pd F0 H0 F H ρ σ s x s1 o e1 _ fun v F1 H1 x1 d1 r1 => ?_
  have fh := (o.step x1 d1).fh
  rcases r1 with r1 | ⟨p, es, xs, h1, h2, h3, h4, h5, h7, h6⟩
  · cases x <;> first | (cases e2; done) | skip
    · cases e2
      simp only [Rep] at r1
      obtain ⟨a, xs, rfl, t1, hl, r⟩ := r1
      exact ⟨a, rfl, .inr ⟨⟨xs, sqT_mono fh t1⟩, q _ F1 H1 x1 d1 (walkS_tup t1 hl r).w⟩⟩
    · cases e2
      simp only [Rep] at r1
      obtain ⟨a, xs, rfl, t1, hl, r⟩ := r1
      exact ⟨a, rfl, .inl ⟨⟨xs, .of (fh _ _ t1)⟩, q _ F1 H1 x1 d1 (walkS_list t1 hl r).w⟩⟩
  · subst h1; subst h2
    cases e2
    exact ⟨p, rfl, .inl ⟨⟨xs, .of h3⟩, q _ F1 H1 x1 d1 (walkW_own h3 h4 h7 h6)⟩⟩
theorem iRng1E (C : Fam X P w K mg base N lv) {p : Pos} (hm : mg "range" = none) (h : CA X K [a] g) (hg : ∀ i, Gl (X i) "range" := by intro _; rfl) (hs : ∀ i, starEach [a] (X i).env = [(false, eval a (X i).env)] := by intro _; rfl) :
    CI X K tg (.Call (.Name "range" p) [a] [] pos) (iRg rng1D g) := by
  obtain ⟨t, h1, h2⟩ := h
  refine ⟨_, fun i => pi_range1 (hg i) (by rw [C.m i]; exact hm) (h1 i) (hs i), fun pd F0 H0 F H ρ σ s d s' o e R q => ?_⟩
  obtain ⟨xs, s1, e1, e⟩ := Mb_eq e
  obtain ⟨e2, rfl⟩ := Mo_eq e
  refine h2 pd F0 H0 F H ρ σ s xs s1 o e1 _ fun vs F1 H1 x1 d1 r1 => ?_
  unfold rng1D at e2
  split at e2
  · rename_i j
    split at e2
    · rename_i hj
      cases e2
      obtain ⟨y, ys, rfl, h3, h4⟩ := r1.cases
      have := h4.cases0; subst this
      simp only [Rep] at h3
      subst h3
      refine ⟨j, rfl, hj.2, ?_, q _ F1 H1 x1 d1 (walkS_range ?_)⟩
      · have := hj.1; omega
      · show j.toNat ≤ 2 ^ 24
        have := hj.1; omega
    · cases e2
  · cases e2
theorem iRng2E (C : Fam X P w K mg base N lv) {p : Pos} (hm : mg "range" = none) (h : CA X K [a, b] g) (hg : ∀ i, Gl (X i) "range" := by intro _; rfl)
    (hs : ∀ i, starEach [a, b] (X i).env = [(false, eval a (X i).env), (false, eval b (X i).env)] := by intro _; rfl) (hs2 : ∀ i, starEach [b] (X i).env = [(false, eval b (X i).env)] := by intro _; rfl) :
    CI X K tg (.Call (.Name "range" p) [a, b] [] pos) (iRg rng2D g) := by
  obtain ⟨t, h1, h2⟩ := h
  refine ⟨_, fun i => pi_range2 (hg i) (by rw [C.m i]; exact hm) (h1 i) (hs i) (hs2 i), fun pd F0 H0 F H ρ σ s d s' o e R q => ?_⟩
  obtain ⟨xs, s1, e1, e⟩ := Mb_eq e
  obtain ⟨e2, rfl⟩ := Mo_eq e
  refine h2 pd F0 H0 F H ρ σ s xs s1 o e1 _ fun vs F1 H1 x1 d1 r1 => ?_
  unfold rng2D at e2
  split at e2
  · rename_i i j
    split at e2
    · rename_i hj
      cases e2
      obtain ⟨y, ys, rfl, h3, h4⟩ := r1.cases
      obtain ⟨z, zs, rfl, h5, h6⟩ := h4.cases
      have := h6.cases0; subst this
      simp only [Rep] at h3 h5
      subst h3; subst h5
      refine ⟨i, j, rfl, ⟨by omega, by omega, by omega, by omega⟩, q _ F1 H1 x1 d1 (walkS_range ?_)⟩
      show (j - i).toNat ≤ 2 ^ 24
      omega
    · cases e2
  · cases e2
end

/-! ### targets -/
abbrev TGt := D → Rho → Option Rho
def gNm (i : Nat) : TGt := fun d ρ => some (ρ.set i (.sh d))
def gTs : List TGt → List D → Rho → Option Rho
  | [], [], ρ => some ρ
  | g :: gs, d :: ds, ρ => match g d ρ with
    | some ρ' => gTs gs ds ρ'
    | none => none
  | _, _, _ => none
def gTp (gs : List TGt) : TGt := fun d ρ => match d with
  | .tup ds => gTs gs ds ρ
  | _ => none
def SemG (K : PySem.W.Frag) (t : TG) (js : List Nat) (g : TGt) : Prop := ∀ (pd : Option PD) (F0 H0 F H : Hp) (ρ ρ' : Rho) (σ : L2.St) (s : DS) (d : D) (v : V), Ok K pd F0 H0 F H ρ σ s → Rep K pd F d v → g d ρ = some ρ' →
  ∀ Q : L2.St → Hp → Prop, (∀ σ', Ok K pd F0 H0 F H ρ' σ' s → (∀ j, j ∉ js → σ'[j]? = σ[j]?) → σ'.length = σ.length → Q σ' H) → t v σ H Q
def SemGs (K : PySem.W.Frag) (t : TGs) (js : List Nat) (g : List TGt) : Prop := ∀ (pd : Option PD) (F0 H0 F H : Hp) (ρ ρ' : Rho) (σ : L2.St) (s : DS) (ds : List D) (vs : List V), Ok K pd F0 H0 F H ρ σ s → RepL K pd F ds vs → gTs g ds ρ = some ρ' →
  ∀ Q : L2.St → Hp → Prop, (∀ σ', Ok K pd F0 H0 F H ρ' σ' s → (∀ j, j ∉ js → σ'[j]? = σ[j]?) → σ'.length = σ.length → Q σ' H) → t vs σ H Q
section
variable {ι : Type}
def CG (X : ι → Cx) (K : PySem.W.Frag) (tg : Expr) (js : List Nat) (g : TGt) : Prop := ∃ t, (∀ i, PG (X i) tg t) ∧ SemG K t js g
def CGs (X : ι → Cx) (K : PySem.W.Frag) (tg : List Expr) (js : List Nat) (n : Nat) (g : List TGt) : Prop := ∃ t, (∀ i, PGs (X i) tg t) ∧ SemGs K t js g ∧ g.length = n
variable {X : ι → Cx} {P : Program} {w : World} {K : PySem.W.Frag} {mg : Str → Option Value} {base : Heap} {N : List Str} {lv : Nat} {pos : Pos}
theorem gName' (C : Fam X P w K mg base N lv) (i : Nat) {x : Str} (hi : N[i]? = some x := by rfl) (hx : ∀ j, Loc (X j).env.scope x := by intro _; first | exact Or.inl rfl | exact Or.inr rfl)
    (hf : ∀ j, (X j).fn x = true ∨ (X j).env.scope.names.lookup x = some .local := by intro _; first | exact Or.inl rfl | exact Or.inr rfl) : CG X K (.Name x pos) [i] (gNm i) := by
  refine ⟨gName i, fun j => pg_name (by rw [C.n j]; exact C.nd) (by rw [C.n j]; exact hi) (hx j) (hf j), fun pd F0 H0 F H ρ ρ' σ s d v o r e Q q => ?_⟩
  cases e
  exact q _ (o.set r) (fun j hj => by
    rw [List.getElem?_set_ne]
    rintro rfl
    exact hj (by simp)) (by simp)
theorem gsNil : CGs X K [] [] 0 [] := by
  refine ⟨_, fun j => pgs_nil, fun pd F0 H0 F H ρ ρ' σ s d v o r e Q q => ?_, rfl⟩
  cases d with
  | nil => cases e; exact ⟨r.cases0, q σ o (fun _ _ => rfl) rfl⟩
  | cons a b => cases e
theorem gsCons {e : Expr} {es : List Expr} {js js' : List Nat} {n : Nat} {g : TGt} {gs : List TGt} (h : CG X K e js g) (h' : CGs X K es js' n gs)
    (hs : ∀ i, (assignEach (e :: es) (X i).env).map (·.2) = assign e (X i).env :: (assignEach es (X i).env).map (·.2) := by intro _; rfl) : CGs X K (e :: es) (js ++ js') (n + 1) (g :: gs) := by
  obtain ⟨t, h1, h2⟩ := h
  obtain ⟨u, u1, u2, u3⟩ := h'
  refine ⟨_, fun i => pgs_cons (h1 i) (u1 i) (hs i), fun pd F0 H0 F H ρ ρ' σ s d v o r e Q q => ?_, by simp [u3]⟩
  cases d with
  | nil => cases e
  | cons a b =>
    obtain ⟨y, ys, rfl, r1, r2⟩ := r.cases
    have e' : (match g a ρ with | some ρ' => gTs gs b ρ' | none => none) = some ρ' := e
    cases hg : g a ρ with
    | none => rw [hg] at e'; cases e'
    | some ρ1 =>
      rw [hg] at e'
      refine ⟨y, ys, rfl, h2 pd F0 H0 F H ρ ρ1 σ s a y o r1 hg _ fun σ1 o1 k1 l1 => ?_⟩
      exact u2 pd F0 H0 F H ρ1 ρ' σ1 s b ys o1 r2 e' Q fun σ2 o2 k2 l2 => q σ2 o2 (fun j hj => by
        rw [List.mem_append] at hj
        rw [k2 j fun z => hj (.inr z), k1 j fun z => hj (.inl z)]) (l2.trans l1)
theorem gTs_len : ∀ {gs : List TGt} {ds : List D} {ρ ρ' : Rho}, gTs gs ds ρ = some ρ' → ds.length = gs.length
  | [], [], _, _, _ => rfl
  | [], _ :: _, _, _, e => by simp [gTs] at e
  | _ :: _, [], _, _, e => by simp [gTs] at e
  | g :: gs, d :: ds, ρ, ρ', e => by
    simp only [gTs] at e
    split at e
    · simp [gTs_len e]
    · cases e
theorem gTup' (C : Fam X P w K mg base N lv) {es : List Expr} {k n : Nat} {js : List Nat} {gs : List TGt} (h : CGs X K es js n gs) (hn : ∀ i, (assignEach es (X i).env).length = n := by intro _; rfl)
    (hst : ∀ i, (assignEach es (X i).env).findIdx? (·.1) = none := by intro _; rfl) : CG X K (.Tuple es k pos) js (gTp gs) := by
  obtain ⟨t, h1, h2, h3⟩ := h
  refine ⟨gTup K n t, fun i => by have := pg_tup (pos := pos) (k := k) (C.c i) (h1 i) (hn i) (hst i); rw [C.k i] at this; exact this, fun pd F0 H0 F H ρ ρ' σ s d v o r e Q q => ?_⟩
  cases d <;> first | (cases e; done) | skip
  rename_i ds
  simp only [Rep] at r
  obtain ⟨a, xs, rfl, t1, _, r⟩ := r
  have e' : gTs gs ds ρ = some ρ' := e
  exact ⟨a, xs, rfl, sqT_mono o.fh t1, by rw [r.length, gTs_len e', h3], h2 pd F0 H0 F H ρ ρ' σ s ds xs o r e' Q q⟩
end

/-! ### comprehensions -/
def wipeR (ρ : Rho) : List Nat → Rho
  | [] => ρ
  | v :: vs => (wipeR ρ vs).set v .un
theorem Ok.wipe {K : PySem.W.Frag} {pd : Option PD} {F0 H0 F H : Hp} {ρ : Rho} {σ : L2.St} {s : DS} (o : Ok K pd F0 H0 F H ρ σ s) : ∀ vs : List Nat, Ok K pd F0 H0 F H (wipeR ρ vs) (L2.wipe σ vs) s
  | [] => o
  | v :: vs => (Ok.wipe o vs).forget
theorem wipe_get (σ : L2.St) : ∀ (vs : List Nat) (j : Nat), (L2.wipe σ vs)[j]? = if j ∈ vs then (if j < σ.length then some none else none) else σ[j]?
  | [], j => by simp [L2.wipe]
  | v :: vs, j => by
    unfold L2.wipe
    by_cases h : v = j
    · subst h
      rw [if_pos (by simp)]
      by_cases hl : v < σ.length
      · rw [if_pos hl, List.getElem?_set_self (by rw [wipe_length]; exact hl)]
      · rw [if_neg hl, List.getElem?_eq_none (by rw [List.length_set, wipe_length]; omega)]
    · rw [List.getElem?_set_ne h, wipe_get σ vs j]
      have : (j ∈ v :: vs) = (j ∈ vs) := by simp [Ne.symm h]
      simp only [this]
theorem wipe_eq {σ σ' : L2.St} {vs js : List Nat} (hs : ∀ j ∈ js, j ∈ vs) (hl : σ'.length = σ.length) (h : ∀ j, j ∉ js → σ'[j]? = (L2.wipe σ vs)[j]?) : L2.wipe σ' vs = L2.wipe σ vs := by
  refine List.ext_getElem? fun j => ?_
  rw [wipe_get, wipe_get]
  by_cases hj : j ∈ vs
  · rw [if_pos hj, if_pos hj, hl]
  · rw [if_neg hj, if_neg hj, h j fun z => hj (hs j z), wipe_get, if_neg hj]
def compM (gg : TGt) (ft : TF) (fe : EF) (ρ : Rho) : List D → M (List D)
  | [] => Mp []
  | x :: xs => match gg x ρ with
    | none => Mf
    | some ρ1 => Mb (ft ρ1) fun b => if b = true then Mb (fe ρ1) fun y => Mb (compM gg ft fe ρ xs) fun ys => Mp (y :: ys) else compM gg ft fe ρ xs
def oComp (fi : AF) (gg : TGt) (ft : TF) (fe : EF) (vs : List Nat) : AF := fun ρ => Mb (fi ρ) fun xs => compM gg ft fe (wipeR ρ vs) xs
def tYes' : TF := fun _ => Mp true
theorem semT_yes {K : PySem.W.Frag} : SemT K tYes tYes' := fun pd F0 H0 F H ρ σ s d s' o e Q q => by
  obtain ⟨rfl, rfl⟩ := Mp_eq e
  exact q F H (.refl o.fh) o.dok
section
variable {K : PySem.W.Frag}
theorem DOk.ne {pd : Option PD} {F H : Hp} {s : DS} {p : Addr} (d : DOk K pd F H s) (n : H p = none) : some p ≠ pp pd := by
  cases pd with
  | none => simp
  | some x =>
    intro e
    obtain ⟨_, _, h, _⟩ := d
    have e' : p = x.p := by simpa using e
    rw [← e', n] at h; cases h
theorem semO_comp {wi : TI} {tg : TG} {tt : TT} {te : TE} {vs js : List Nat} {fi : AF} {gg : TGt} {ft : TF} {fe : EF} (hi : SemIW K wi fi) (hg : SemG K tg js gg) (ht : SemT K tt ft) (he : SemE K te fe) (hj : ∀ j ∈ js, j ∈ vs) :
    SemO K (tLc wi tg tt te vs) (oComp fi gg ft fe vs) := fun pd F0 H0 F H ρ σ s ds s' o e Q q => by
  obtain ⟨items, s1, e1, e⟩ := Mb_eq e
  refine hi pd F0 H0 F H ρ σ s items s1 o e1 _ fun J F1 H1 x1 d1 wk A nA => ?_
  have o1 := o.step x1 d1
  have nF : F1 A = none := o1.fh.free nA
  have nH : H A = none := by
    cases hp : H A with
    | none => rfl
    | some u => exact absurd nA (x1.hd A (by rw [hp]; simp))
  have npd : some A ≠ pp pd := d1.ne nA
  obtain ⟨hsz, wk⟩ := wk
  refine ⟨fun i m Hc => i + m = items.length ∧ ∃ Fc sc accV accD rest, Ext pd F1 H1 Fc Hc ∧ DOk K pd Fc Hc sc ∧ Fc A = none ∧ Hc A = some (.lst accV) ∧ accD.length ≤ i ∧ RepL K pd Fc accD accV ∧
    compM gg ft fe (wipeR ρ vs) (items.drop i) sc = some (rest, s') ∧ ds = accD ++ rest, ⟨items.length, by simp, F1, s1, [], [], ds, (Ext.own o1.fh nA).lift, d1.grow (Ext.own o1.fh nA), nF, upd_same, Nat.le_refl _, .nil, e, rfl⟩, ?_⟩
  rintro i m Hc ⟨him, Fc, sc, accV, accD, rest, xc, dc, nA', hA, hlen, rc, ec, eds⟩
  by_cases hlt : i < items.length
  · have hd : items[i]? = some items[i] := List.getElem?_eq_getElem hlt
    have edrop : items.drop i = items[i] :: items.drop (i + 1) := List.drop_eq_getElem_cons hlt
    rw [edrop] at ec
    unfold compM at ec
    obtain ⟨w1, w2⟩ := (wk i Fc Hc xc).1 _ hd
    refine .inr ⟨w1, fun Hn => i + 1 + (m - 1) = items.length ∧ ∃ Fc sc accV accD rest', Ext pd F1 H1 Fc Hn ∧ DOk K pd Fc Hn sc ∧ Fc A = none ∧ Hn A = some (.lst accV) ∧ accD.length ≤ i + 1 ∧ RepL K pd Fc accD accV ∧
      compM gg ft fe (wipeR ρ vs) (items.drop (i + 1)) sc = some (rest', s') ∧ ds = accD ++ rest', fun Hn hn => ⟨m - 1, by omega, hn⟩, fun x H2 hy => ?_⟩
    obtain ⟨F2, x2, r2⟩ := w2 x H2 hy
    cases hgg : gg items[i] (wipeR ρ vs) with
    | none => rw [hgg] at ec; cases ec
    | some ρ1 =>
      rw [hgg] at ec
      obtain ⟨b, s2, e2, ec⟩ := Mb_eq (show Mb (ft ρ1) _ sc = _ from ec)
      have oc : Ok K pd F0 H0 F2 H2 (wipeR ρ vs) (L2.wipe σ vs) sc := ((o1.step xc dc).step (x2.lift (pd := pd)) (dc.grow x2)).wipe vs
      refine hg pd F0 H0 F2 H2 _ ρ1 _ sc _ x oc r2 hgg _ fun σ2 o2 k2 l2 => ⟨wipe_eq hj (by rw [l2, wipe_length]) k2, ?_⟩
      refine ht pd F0 H0 F2 H2 ρ1 σ2 sc b s2 o2 e2 _ fun F3 H3 x3 d3 => ?_
      have o3 := o2.step x3 d3
      have hA3 : H3 A = some (.lst accV) := x3.hh _ _ (x2.same _ _ hA) npd
      have nA3 : F3 A = none := x3.Fnone (x2.Fnone nA' (by rw [hA]; simp)) (by rw [x2.same _ _ hA]; simp)
      cases b with
      | false =>
        refine iteF ⟨by omega, F3, s2, accV, accD, rest, xc.trans (x2.lift.trans x3), d3, nA3, hA3, by omega, (rc.mono x2.ff).mono x3.ff, ec, eds⟩
      | true =>
        obtain ⟨y, s3, e3, ec⟩ := Mb_eq (show Mb (fe ρ1) _ s2 = _ from ec)
        obtain ⟨ys, s4, e4, ec⟩ := Mb_eq ec
        obtain ⟨rfl, rfl⟩ := Mp_eq ec
        refine iteT (he pd F0 H0 F3 H3 ρ1 σ2 s2 y s3 o3 e3 _ fun v F4 H4 x4 d4 r4 => ?_)
        have hA4 : H4 A = some (.lst accV) := x4.hh _ _ hA3 npd
        have nA4 : F4 A = none := x4.Fnone nA3 (by rw [hA3]; simp)
        have xx := xc.trans (x2.lift.trans (x3.trans x4))
        have rr : RepL K pd F4 accD accV := ((rc.mono x2.ff).mono x3.ff).mono x4.ff
        refine ⟨accV, hA4, ?_, by omega, F4, s3, accV ++ [v], accD ++ [y], ys, ⟨xx.ff, fun b u hb np => ?_, fun b hb => ?_, xx.nw, fun b u hb => ?_⟩, ?_, nA4, upd_same, by simp; omega, rr.append (.cons r4 .nil), e4, by rw [eds]; simp⟩
        · rw [rr.length]
          exact Nat.lt_of_le_of_lt hlen (Nat.lt_of_lt_of_le hlt hsz)
        · have hb' : b ≠ A := by rintro rfl; rw [nA] at hb; cases hb
          rw [upd_ne hb']; exact xx.hh b u hb np
        · by_cases hb' : b = A
          · subst hb'; rw [upd_same]; simp
          · rw [upd_ne hb']; exact xx.hd b hb
        · have hb' : b ≠ A := by rintro rfl; rw [nA4] at hb; cases hb
          rw [upd_ne hb']; exact xx.fh b u hb
        · cases pd with
          | none => trivial
          | some a =>
            obtain ⟨h1, h2, h3, h4⟩ := d4
            refine ⟨h1, h2, ?_, h4⟩
            rw [upd_ne (fun z => npd (by simp [z]))]
            exact h3
  · have ei : i = items.length := by omega
    refine .inl ⟨(wk i Fc Hc xc).2 ei, ?_⟩
    rw [ei, List.drop_length] at ec
    obtain ⟨rfl, rfl⟩ := Mp_eq ec
    rw [List.append_nil] at eds
    subst eds
    exact q A accV Fc Hc (x1.trans xc) dc nH nA' hA (Nat.le_trans hlen (by rw [ei]; exact hsz)) rc
end
end Pu
namespace Pu
open PySem PySem.Spec PyProof.Rows L2

/-! ### comprehensions as expressions -/
section
variable {ι : Type} {X : ι → Cx} {P : Program} {w : World} {K : PySem.W.Frag} {mg : Str → Option Value} {base : Heap} {N : List Str} {lv : Nat} {pos : Pos}
/-- the contexts of a comprehension's block -/
structure BlkI (ι : Type) where
  i : ι
  s : Shared
  H : Hp
  C : Addr
  cl : List (Str × Addr)
  fp : List Addr
abbrev blkF (X : ι → Cx) (scope : Scope) : BlkI ι → Cx := fun b => (X b.i).blk b.s b.H scope (compEnvC scope b.cl b.C (X b.i).env) b.fp
theorem Fam.blk (C : Fam X P w K mg base N lv) (scope : Scope) : Fam (blkF X scope) P w K mg base N lv :=
  ⟨fun b => C.p b.i, fun b => C.w b.i, fun b => C.k b.i, fun b => C.m b.i, fun b => C.b b.i, fun b => C.n b.i, fun b => C.c b.i, C.nd, fun b => C.r b.i⟩
theorem oLc (C : Fam X P w K mg base N lv) {elt tg iter : Expr} {ifs : List Expr} {scope : Scope} {js : List Nat} {fi : AF} {gg : TGt} {ft : TF} {fe : EF} (own : List (Str × Nat)) (hi : CIW X K tg iter fi) (ok : ∀ i, BlkOk N (X i).env.scope scope own)
    (hg : CG (blkF X scope) K tg js gg) (ht : ∃ t, (∀ b, PTs (blkF X scope b) ifs t) ∧ SemT K t ft) (he : CE (blkF X scope) K elt fe) (hj : ∀ j ∈ js, j ∈ own.map (·.2) := by decide) (hs : ∀ i, ∀ x, foldedSetIterable iter (X i).env x = pure x := by intro _ _; rfl) :
    CO X K (.ListComp elt [⟨tg, iter, ifs, 0⟩] scope pos) (oComp fi gg ft fe (own.map (·.2))) := by
  obtain ⟨wi, i1, i2⟩ := hi
  obtain ⟨g, g1, g2⟩ := hg
  obtain ⟨tt, t1, t2⟩ := ht
  obtain ⟨te, e1, e2⟩ := he
  exact ⟨_, fun i => pe_lc (own := own) (C.c i) (by rw [C.n i]; exact C.nd) (i1 i) (by rw [C.n i]; exact ok i) (fun s H Cc cl fp => g1 ⟨i, s, H, Cc, cl, fp⟩) (fun s H Cc cl fp => t1 ⟨i, s, H, Cc, cl, fp⟩) (fun s H Cc cl fp => e1 ⟨i, s, H, Cc, cl, fp⟩) (hs i), semO_comp i2 g2 t2 e2 hj⟩
theorem ctNone {ι : Type} {X : ι → Cx} : ∃ t, (∀ b, PTs (X b) [] t) ∧ SemT K t tYes' := ⟨_, fun _ => pts_nil, semT_yes⟩
theorem ctOne {ι : Type} {X : ι → Cx} {c : Expr} {ft : TF} (h : CT X K c ft) : ∃ t, (∀ b, PTs (X b) [c] t) ∧ SemT K t ft := let ⟨t, h1, h2⟩ := h; ⟨t, fun b => pts_one (h1 b), h2⟩
end

/-! ### statements -/
inductive Res where
  | nx | rt (d : D) | bk | ct
abbrev SF := Rho → M (Res × Rho)
def PostS (K : PySem.W.Frag) (pd : Option PD) (F0 H0 F : Hp) (ρ' : Rho) (s' : DS) : Res → Ends → Prop
  | .nx, E => ∀ σ' F' H', Same F F' → Ok K pd F0 H0 F' H' ρ' σ' s' → E.nx σ' H'
  | .bk, E => ∀ σ' F' H', Same F F' → Ok K pd F0 H0 F' H' ρ' σ' s' → E.bk σ' H'
  | .ct, E => ∀ σ' F' H', Same F F' → Ok K pd F0 H0 F' H' ρ' σ' s' → E.ct σ' H'
  | .rt d, E => ∀ v F' H', Ext pd F0 H0 F' H' → DOk K pd F' H' s' → Rep K pd F' d v → E.rt v H'
def SemS (K : PySem.W.Frag) (t : TS) (g : SF) : Prop := ∀ (pd : Option PD) (F0 H0 F H : Hp) (ρ : Rho) (σ : L2.St) (s : DS) (r : Res) (ρ' : Rho) (s' : DS), Ok K pd F0 H0 F H ρ σ s → g ρ s = some ((r, ρ'), s') →
  ∀ E : Ends, PostS K pd F0 H0 F ρ' s' r E → t E σ H
section
variable {ι : Type}
def CS (X : ι → Cx) (K : PySem.W.Frag) (st : Stmt) (g : SF) : Prop := ∃ t, (∀ i, PS (X i) st t) ∧ SemS K t g
def CSs (X : ι → Cx) (K : PySem.W.Frag) (st : List Stmt) (g : SF) : Prop := ∃ t, (∀ i, PSs (X i) st t) ∧ SemS K t g
end
theorem PostS.from {K : PySem.W.Frag} {pd : Option PD} {F0 H0 F F1 : Hp} {ρ' : Rho} {s' : DS} {r : Res} {E : Ends} (h : Same F F1) (p : PostS K pd F0 H0 F ρ' s' r E) : PostS K pd F0 H0 F1 ρ' s' r E := by
  cases r with
  | nx => exact fun σ' F' H' a b => p σ' F' H' (h.trans a) b
  | bk => exact fun σ' F' H' a b => p σ' F' H' (h.trans a) b
  | ct => exact fun σ' F' H' a b => p σ' F' H' (h.trans a) b
  | rt d => exact p

def sNext : SF := fun ρ => Mp (.nx, ρ)
def sFail : SF := fun _ => Mf
def sBreak : SF := fun ρ => Mp (.bk, ρ)
def sCont : SF := fun ρ => Mp (.ct, ρ)
def sSeq (a b : SF) : SF := fun ρ => Mb (a ρ) fun r => match r with
  | (.nx, ρ') => b ρ'
  | r => Mp r
def sSet (i : Nat) (f : EF) : SF := fun ρ => Mb (f ρ) fun d => Mp (.nx, ρ.set i (.sh d))
def sOwn (i : Nat) (f : AF) : SF := fun ρ => Mb (f ρ) fun ds => Mp (.nx, ρ.set i (.ow ds))
def sDrop (f : EF) : SF := fun ρ => Mb (f ρ) fun _ => Mp (.nx, ρ)
def sRet (f : EF) : SF := fun ρ => Mb (f ρ) fun d => Mp (.rt d, ρ)
def sRetN : SF := fun ρ => Mp (.rt .non, ρ)
def onOw {α : Type} (o : Option Slot) (k : List D → M α) : M α := match o with
  | some (.ow ds) => k ds
  | _ => Mf
def onSh {α : Type} (o : Option Slot) (k : D → M α) : M α := match o with
  | some (.sh d) => k d
  | _ => Mf
def onInt {α : Type} (d : D) (k : Int → M α) : M α := match d with
  | .int i => k i
  | _ => Mf
def onLst {α : Type} (d : D) (k : List D → M α) : M α := match d with
  | .lst i => k i
  | _ => Mf
def onSome {α β : Type} (o : Option β) (k : β → M α) : M α := match o with
  | some x => k x
  | none => Mf
section
variable {α β : Type}
@[simp] theorem onOw_ow (ds : List D) (k : List D → M α) : onOw (some (.ow ds)) k = k ds := rfl
@[simp] theorem onSh_sh (d : D) (k : D → M α) : onSh (some (.sh d)) k = k d := rfl
@[simp] theorem onInt_int (d : Int) (k : Int → M α) : onInt (.int d) k = k d := rfl
@[simp] theorem onLst_lst (d : List D) (k : List D → M α) : onLst (.lst d) k = k d := rfl
@[simp] theorem onSome_some (d : β) (k : β → M α) : onSome (some d) k = k d := rfl
@[simp] theorem onSome_none (k : β → M α) : onSome none k = Mf := rfl
theorem onOw_eq {o : Option Slot} {k : List D → M α} {s s' : DS} {a : α} (e : onOw o k s = some (a, s')) : ∃ ds, o = some (.ow ds) ∧ k ds s = some (a, s') := by
  cases o with
  | none => cases e
  | some x => cases x <;> first | (cases e; done) | exact ⟨_, rfl, e⟩
theorem onSh_eq {o : Option Slot} {k : D → M α} {s s' : DS} {a : α} (e : onSh o k s = some (a, s')) : ∃ d, o = some (.sh d) ∧ k d s = some (a, s') := by
  cases o with
  | none => cases e
  | some x => cases x <;> first | (cases e; done) | exact ⟨_, rfl, e⟩
theorem onInt_eq {d : D} {k : Int → M α} {s s' : DS} {a : α} (e : onInt d k s = some (a, s')) : ∃ i, d = .int i ∧ k i s = some (a, s') := by
  cases d <;> first | (cases e; done) | exact ⟨_, rfl, e⟩
theorem onLst_eq {d : D} {k : List D → M α} {s s' : DS} {a : α} (e : onLst d k s = some (a, s')) : ∃ i, d = .lst i ∧ k i s = some (a, s') := by
  cases d <;> first | (cases e; done) | exact ⟨_, rfl, e⟩
theorem onSome_eq {d : Option β} {k : β → M α} {s s' : DS} {a : α} (e : onSome d k s = some (a, s')) : ∃ i, d = some i ∧ k i s = some (a, s') := by
  cases d <;> first | (cases e; done) | exact ⟨_, rfl, e⟩
end
def sTo (g : TGt) (f : EF) : SF := fun ρ => Mb (f ρ) fun d => onSome (g d ρ) fun ρ' => Mp (.nx, ρ')
def sRetOw (i : Nat) : SF := fun ρ => onOw ρ[i]? fun ds => Mp (.rt (.lst ds), ρ)
def sMove (i j : Nat) : SF := fun ρ => onOw ρ[i]? fun ds => Mp (.nx, (ρ.set i (.sh (.lst ds))).set j (.sh (.lst ds)))
def sIf (t : TF) (a b : SF) : SF := fun ρ => Mb (t ρ) fun k => if k = true then a ρ else b ρ
def sAug (i : Nat) (g : D → D → Option D) (f : EF) : SF := fun ρ => onSh ρ[i]? fun x => Mb (f ρ) fun y => Mb (Mo (g x y)) fun z => Mp (.nx, ρ.set i (.sh z))
/-- an own list changed by a method -/
def sMeth (i : Nat) (u : List D → D → Option (List D)) (f : EF) : SF := fun ρ => Mb (f ρ) fun d => onOw ρ[i]? fun ds => onSome (u ds d) fun es => Mp (.nx, ρ.set i (.ow es))
def appU (ds : List D) (d : D) : Option (List D) := if ds.length < SZ then some (ds ++ [d]) else none
def extU (ds : List D) (d : D) : Option (List D) := match d with
  | .lst es => if ds.length + es.length ≤ SZ then some (ds ++ es) else none
  | _ => none
def sPut (i : Nat) (fk f : EF) : SF := fun ρ => Mb (f ρ) fun d => Mb (fk ρ) fun k => onOw ρ[i]? fun ds => onInt k fun k => onSome (ixN ds.length k) fun j => Mp (.nx, ρ.set i (.ow (ds.set j d)))
def sAugIx (i : Nat) (g : D → D → Option D) (fk f : EF) : SF := fun ρ => Mb (fk ρ) fun k => onOw ρ[i]? fun ds => onInt k fun k => onSome (ixN ds.length k) fun j => onSome ds[j]? fun x =>
  Mb (f ρ) fun y => Mb (Mo (g x y)) fun z => Mp (.nx, ρ.set i (.ow (ds.set j z)))
def loopM (g : TGt) (body : SF) : List D → SF
  | [], ρ => Mp (.nx, ρ)
  | x :: xs, ρ => match g x ρ with
    | none => Mf
    | some ρ1 => Mb (body ρ1) fun r => match r with
      | (.nx, ρ2) => loopM g body xs ρ2
      | (.ct, ρ2) => loopM g body xs ρ2
      | (.bk, ρ2) => Mp (.nx, ρ2)
      | (.rt d, ρ2) => Mp (.rt d, ρ2)
def sFor (fi : AF) (g : TGt) (body : SF) : SF := fun ρ => Mb (fi ρ) fun xs => loopM g body xs ρ
def whileM (t : TF) (body : SF) : Nat → SF
  | 0, _ => Mf
  | n + 1, ρ => Mb (t ρ) fun k => if k = true then Mb (body ρ) fun r => match r with
      | (.nx, ρ2) => whileM t body n ρ2
      | (.ct, ρ2) => whileM t body n ρ2
      | (.bk, ρ2) => Mp (.nx, ρ2)
      | (.rt d, ρ2) => Mp (.rt d, ρ2)
    else Mp (.nx, ρ)
/-- how many turns a while may take -/
def FUEL : Nat := 2 ^ 40
def sWhile (t : TF) (body : SF) : SF := whileM t body FUEL

section
variable {K : PySem.W.Frag} {pd : Option PD} {F0 H0 F H F' H' : Hp} {ρ : Rho} {σ : L2.St} {s s' : DS}
/-- an owned list gets a new content -/
theorem Ok.upd {i : Nat} {es es' : List D} {p : Addr} {ys : List V} (o : Ok K pd F0 H0 F H ρ σ s) (h : ρ[i]? = some (.ow es)) (hp : σ[i]? = some (some (.ref p))) (hl : es'.length ≤ SZ) (r : RepL K pd F es' ys) :
    Ok K pd F0 H0 F (L2.upd H p (.lst ys)) (ρ.set i (.ow es')) σ s := by
  obtain ⟨q, h1, p', xs, rfl, h2, h3, h4, h5, h6, h7⟩ := o.env.at' i _ h
  rw [hp] at h1; cases h1
  refine ⟨⟨o.ext.ff, fun a u e n => ?_, fun a e => ?_, o.ext.nw, fun a u e => ?_⟩, ⟨by simp [o.env.len], fun j sl e => ?_, fun j k as bs q hjk e1 e2 e3 => ?_⟩, ?_⟩
  · have : a ≠ p := by rintro rfl; rw [h3] at e; cases e
    rw [upd_ne this]; exact o.ext.hh a u e n
  · by_cases ha : a = p
    · subst ha; rw [upd_same]; simp
    · rw [upd_ne ha]; exact o.ext.hd a e
  · have : a ≠ p := by rintro rfl; rw [h2] at e; cases e
    rw [upd_ne this]; exact o.ext.fh a u e
  · by_cases hj : i = j
    · subst hj
      have hl' : i < ρ.length := by have := (List.getElem?_eq_some_iff.mp e).1; simpa using this
      rw [List.getElem?_set_self hl'] at e
      cases e
      exact ⟨_, hp, p, ys, rfl, h2, h3, h4, upd_same, hl, r⟩
    · rw [List.getElem?_set_ne hj] at e
      obtain ⟨q, e1, e2⟩ := o.env.at' j sl e
      refine ⟨q, e1, ?_⟩
      cases sl with
      | un => trivial
      | sh d => exact e2
      | ow fs =>
        obtain ⟨p', xs', rfl, a2, a3, a4, a5, a6, a7⟩ := e2
        have : p' ≠ p := by
          rintro rfl
          exact o.env.ap i j es fs p' hj h e hp e1
        exact ⟨p', xs', rfl, a2, a3, a4, by rw [upd_ne this]; exact a5, a6, a7⟩
  · by_cases hj : i = j
    · subst hj
      have hk : i ≠ k := hjk
      rw [List.getElem?_set_ne hk] at e2
      exact o.env.ap i k es bs q hk h e2 e3
    · rw [List.getElem?_set_ne hj] at e1
      by_cases hk : i = k
      · subst hk
        exact o.env.ap j i as es q hjk e1 h e3
      · rw [List.getElem?_set_ne hk] at e2
        exact o.env.ap j k as bs q hjk e1 e2 e3
  · have d := o.dok
    cases pd with
    | none => trivial
    | some x =>
      obtain ⟨d1, d2, d3, d4⟩ := d
      refine ⟨d1, d2, ?_, d4⟩
      rw [upd_ne (fun z => h4 (by simp [z]))]
      exact d3
/-- an owned list becomes known to all -/
theorem Ok.freeze {i : Nat} {es : List D} (o : Ok K pd F0 H0 F H ρ σ s) (h : ρ[i]? = some (.ow es)) : ∃ p F', σ[i]? = some (some (.ref p)) ∧ Same F F' ∧ Ok K pd F0 H0 F' H (ρ.set i (.sh (.lst es))) σ s ∧ Rep K pd F' (.lst es) (.ref p) := by
  obtain ⟨q, h1, p, xs, rfl, h2, h3, h4, h5, h6, h7⟩ := o.env.at' i _ h
  have f1 : Same F (L2.upd F p (.lst xs)) := same_upd h2
  have rr : Rep K pd (L2.upd F p (.lst xs)) (.lst es) (.ref p) := by
    simp only [Rep]
    exact ⟨p, xs, rfl, upd_same, h6, h7.mono f1⟩
  refine ⟨p, _, h1, f1, ⟨⟨o.ext.ff.trans f1, o.ext.hh, o.ext.hd, fun a u e => ?_, fun a u e => ?_⟩, ⟨by simp [o.env.len], fun j sl e => ?_, fun j k as bs q hjk e1 e2 e3 => ?_⟩, ?_⟩, rr⟩
  · by_cases ha : a = p
    · subst ha; exact .inr h3
    · rw [upd_ne ha] at e; exact o.ext.nw a u e
  · by_cases ha : a = p
    · subst ha; rw [upd_same] at e; cases e; exact h5
    · rw [upd_ne ha] at e; exact o.ext.fh a u e
  · by_cases hj : i = j
    · subst hj
      have hl' : i < ρ.length := by have := (List.getElem?_eq_some_iff.mp e).1; simpa using this
      rw [List.getElem?_set_self hl'] at e
      cases e
      exact ⟨_, h1, _, rfl, rr⟩
    · rw [List.getElem?_set_ne hj] at e
      obtain ⟨q, e1, e2⟩ := o.env.at' j sl e
      refine ⟨q, e1, ?_⟩
      cases sl with
      | un => trivial
      | sh d => obtain ⟨x, a1, a2⟩ := e2; exact ⟨x, a1, a2.mono f1⟩
      | ow fs =>
        obtain ⟨p', xs', rfl, a2, a3, a4, a5, a6, a7⟩ := e2
        have : p' ≠ p := by
          rintro rfl
          exact o.env.ap i j es fs p' hj h e h1 e1
        exact ⟨p', xs', rfl, by rw [upd_ne this]; exact a2, a3, a4, a5, a6, a7.mono f1⟩
  · have a1 : i ≠ j := by
      rintro rfl
      have hl' : i < ρ.length := by have := (List.getElem?_eq_some_iff.mp e1).1; simpa using this
      rw [List.getElem?_set_self hl'] at e1; cases e1
    have a2 : i ≠ k := by
      rintro rfl
      have hl' : i < ρ.length := by have := (List.getElem?_eq_some_iff.mp e2).1; simpa using this
      rw [List.getElem?_set_self hl'] at e2; cases e2
    rw [List.getElem?_set_ne a1] at e1
    rw [List.getElem?_set_ne a2] at e2
    exact o.env.ap j k as bs q hjk e1 e2 e3
  · have d := o.dok
    cases pd with
    | none => trivial
    | some x =>
      obtain ⟨d1, d2, d3, d4⟩ := d
      refine ⟨?_, d2, d3, f1 _ _ d4⟩
      rw [upd_ne (fun z => h4 (by simp [z]))]
      exact d1
end

section
variable {ι : Type} {X : ι → Cx} {P : Program} {w : World} {K : PySem.W.Frag} {mg : Str → Option Value} {base : Heap} {N : List Str} {lv : Nat} {pos : Pos} {st : Stmt} {rest : List Stmt} {e : Expr} {f fk : EF} {g g' : SF}
theorem ssNil : CSs X K [] sNext := ⟨_, fun _ => pss_nil, fun pd F0 H0 F H ρ σ s r ρ' s' o e E q => by cases Mp_eq e with | intro a b => cases a; cases b; exact q σ F H (Same.refl _) o⟩
theorem ssCons (h : CS X K st g) (h' : CSs X K rest g') : CSs X K (st :: rest) (sSeq g g') := by
  obtain ⟨t, h1, h2⟩ := h
  obtain ⟨u, u1, u2⟩ := h'
  refine ⟨_, fun i => pss_cons (h1 i) (u1 i), fun pd F0 H0 F H ρ σ s r ρ' s' o e E q => ?_⟩
  obtain ⟨⟨r1, ρ1⟩, s1, e1, e2⟩ := Mb_eq e
  refine h2 pd F0 H0 F H ρ σ s r1 ρ1 s1 o e1 _ ?_
  cases r1 with
  | nx => exact fun σ' F' H' a b => u2 pd F0 H0 F' H' ρ1 σ' s1 r ρ' s' b e2 E (q.from a)
  | bk => obtain ⟨a, rfl⟩ := Mp_eq e2; cases a; exact q
  | ct => obtain ⟨a, rfl⟩ := Mp_eq e2; cases a; exact q
  | rt d => obtain ⟨a, rfl⟩ := Mp_eq e2; cases a; exact q
theorem ssOne (h : CS X K st g) : CSs X K [st] g := by
  obtain ⟨t, h1, h2⟩ := h
  exact ⟨_, fun i => pss_one (h1 i), h2⟩
theorem cPass : CS X K (.Pass pos) sNext := ⟨_, fun _ => ps_pass, fun pd F0 H0 F H ρ σ s r ρ' s' o e E q => by cases Mp_eq e with | intro a b => cases a; cases b; exact q σ F H (Same.refl _) o⟩
theorem cBreak : CS X K (.Break pos) sBreak := ⟨_, fun _ => ps_break, fun pd F0 H0 F H ρ σ s r ρ' s' o e E q => by cases Mp_eq e with | intro a b => cases a; cases b; exact q σ F H (Same.refl _) o⟩
theorem cCont : CS X K (.Continue pos) sCont := ⟨_, fun _ => ps_continue, fun pd F0 H0 F H ρ σ s r ρ' s' o e E q => by cases Mp_eq e with | intro a b => cases a; cases b; exact q σ F H (Same.refl _) o⟩
theorem cNever : CS X K st sFail := ⟨_, fun _ => ps_never, fun pd F0 H0 F H ρ σ s r ρ' s' o e E q => (Mf_eq e).elim⟩
theorem cRet (h : CE X K e f) : CS X K (.Return (some e) pos) (sRet f) := by
  obtain ⟨t, h1, h2⟩ := h
  refine ⟨_, fun i => ps_ret (h1 i), fun pd F0 H0 F H ρ σ s r ρ' s' o e E q => ?_⟩
  obtain ⟨d, s1, e1, e2⟩ := Mb_eq e
  obtain ⟨a, rfl⟩ := Mp_eq e2
  cases a
  exact h2 pd F0 H0 F H _ σ s d _ o e1 _ fun v F' H' x d' r => q v F' H' (o.ext.trans x) d' r
theorem cRetN : CS X K (.Return none pos) sRetN := ⟨_, fun _ => ps_retN, fun pd F0 H0 F H ρ σ s r ρ' s' o e E q => by
  obtain ⟨a, rfl⟩ := Mp_eq e
  cases a
  exact q _ F H o.ext o.dok (by simp [Rep])⟩
theorem cRetOw (C : Fam X P w K mg base N lv) (i : Nat) {x : Str} {p2 : Pos} (hN : N[i]? = some x := by rfl) (hv : ∀ j, Vis (X j).env.scope x := by intro _; first | exact Or.inl rfl | exact Or.inr (Or.inl rfl) | exact Or.inr (Or.inr rfl))
    (hd : (x == ("__debug__" : Str)) = false := by decide) (hcd : (x == ("__classdict__" : Str)) = false := by decide) : CS X K (.Return (some (.Name x p2)) pos) (sRetOw i) := by
  refine ⟨_, fun j => ps_ret (pe_var (by rw [C.n j]; exact hN) (hv j) hd hcd), fun pd F0 H0 F H ρ σ s r ρ' s' o e E q => ?_⟩
  obtain ⟨ds, h, e⟩ := onOw_eq e
  obtain ⟨a, rfl⟩ := Mp_eq e
  cases a
  obtain ⟨p, F', h1, f1, o', rr⟩ := o.freeze h
  exact ⟨_, h1, q _ F' H o'.ext o'.dok rr⟩
theorem cExpr (h : CE X K e f) (hs : ∀ i, swapsWith e none pos.line (X i).env = pure false := by intro _; rfl) : CS X K (.Expr e pos) (sDrop f) := by
  obtain ⟨t, h1, h2⟩ := h
  refine ⟨_, fun i => ps_expr (h1 i) (hs i), fun pd F0 H0 F H ρ σ s r ρ' s' o e E q => ?_⟩
  obtain ⟨d, s1, e1, e2⟩ := Mb_eq e
  obtain ⟨a, rfl⟩ := Mp_eq e2
  cases a
  exact h2 pd F0 H0 F H _ σ s d _ o e1 _ fun v F' H' x d' r => q σ F' H' x.ff (o.step x d')
theorem cIfS {c : Expr} {a b : List Stmt} {ft : TF} (hc : CT X K c ft) (ha : CSs X K a g) (hb : CSs X K b g') : CS X K (.If c a b pos) (sIf ft g g') := by
  obtain ⟨t, h1, h2⟩ := hc
  obtain ⟨ta, a1, a2⟩ := ha
  obtain ⟨tb, b1, b2⟩ := hb
  refine ⟨_, fun i => ps_if (h1 i) (a1 i) (b1 i), fun pd F0 H0 F H ρ σ s r ρ' s' o e E q => ?_⟩
  obtain ⟨k, s1, e1, e2⟩ := Mb_eq e
  refine h2 pd F0 H0 F H ρ σ s k s1 o e1 _ fun F1 H1 x1 d1 => ?_
  cases k with
  | true => exact iteT (a2 pd F0 H0 F1 H1 ρ σ s1 r ρ' s' (o.step x1 d1) e2 E (q.from x1.ff))
  | false => exact iteF (b2 pd F0 H0 F1 H1 ρ σ s1 r ρ' s' (o.step x1 d1) e2 E (q.from x1.ff))
theorem cSet (C : Fam X P w K mg base N lv) (i : Nat) {x : Str} {p2 : Pos} (h : CE X K e f) (hi : N[i]? = some x := by rfl) (hx : ∀ j, Loc (X j).env.scope x := by intro _; first | exact Or.inl rfl | exact Or.inr rfl)
    (hs : ∀ j, swapsWith e (some (.Name x p2)) pos.line (X j).env = pure false := by intro _; rfl) (hf : ∀ j, (X j).fn x = true ∨ (X j).env.scope.names.lookup x = some .local := by intro _; first | exact Or.inl rfl | exact Or.inr rfl) :
    CS X K (.Assign [.Name x p2] e pos) (sSet i f) := by
  obtain ⟨t, h1, h2⟩ := h
  refine ⟨_, fun j => ps_set (by rw [C.n j]; exact C.nd) (by rw [C.n j]; exact hi) (hx j) (h1 j) (hs j) (hf j), fun pd F0 H0 F H ρ σ s r ρ' s' o e E q => ?_⟩
  obtain ⟨d, s1, e1, e2⟩ := Mb_eq e
  obtain ⟨a, rfl⟩ := Mp_eq e2
  cases a
  exact h2 pd F0 H0 F H _ σ s d _ o e1 _ fun v F' H' x d' r => q _ F' H' x.ff ((o.step x d').set r)
theorem semS_own {i : Nat} {te : TE} {fo : AF} (h2 : SemO K te fo) : SemS K (tAsg te (gName i)) (sOwn i fo) := fun pd F0 H0 F H ρ σ s r ρ' s' o e E q => by
  obtain ⟨d, s1, e1, e2⟩ := Mb_eq e
  obtain ⟨a, rfl⟩ := Mp_eq e2
  cases a
  refine h2 pd F0 H0 F H _ σ s d _ o e1 _ fun p xs F' H' x d' n1 n2 l z r => q _ F' H' x.ff ?_
  have o' := o.step x d'
  have n0 : H0 p = none := by
    cases hp : H0 p with
    | none => rfl
    | some u => exact absurd n1 (o.ext.hd p (by rw [hp]; simp))
  refine o'.setOw n2 n0 (o.dok.ne n1) l z r fun j fs hj e1 e2 => ?_
  obtain ⟨q, a1, p', xs', rfl, a2, a3, a4, a5, _⟩ := o.env.at' j _ e1
  rw [a1] at e2
  cases e2
  rw [n1] at a5; cases a5
theorem cOwn (C : Fam X P w K mg base N lv) (i : Nat) {x : Str} {p2 : Pos} {fo : AF} (h : CO X K e fo) (hi : N[i]? = some x := by rfl) (hx : ∀ j, Loc (X j).env.scope x := by intro _; first | exact Or.inl rfl | exact Or.inr rfl)
    (hs : ∀ j, swapsWith e (some (.Name x p2)) pos.line (X j).env = pure false := by intro _; rfl) (hf : ∀ j, (X j).fn x = true ∨ (X j).env.scope.names.lookup x = some .local := by intro _; first | exact Or.inl rfl | exact Or.inr rfl) :
    CS X K (.Assign [.Name x p2] e pos) (sOwn i fo) := by
  obtain ⟨t, h1, h2⟩ := h
  exact ⟨_, fun j => ps_set (by rw [C.n j]; exact C.nd) (by rw [C.n j]; exact hi) (hx j) (h1 j) (hs j) (hf j), semS_own h2⟩
theorem cTo {tg : Expr} {js : List Nat} {gg : TGt} (h : CE X K e f) (hg : CG X K tg js gg) (hs : ∀ j, swapsWithSole [tg] e pos.line (X j).env = pure false := by intro _; rfl) (hw : ∀ j, swappedStores [tg] e (X j).env = pure none := by intro _; rfl)
    (h1 : ∀ j, (assignEach [tg] (X j).env).map (·.2) = [assign tg (X j).env] := by intro _; rfl) : CS X K (.Assign [tg] e pos) (sTo gg f) := by
  obtain ⟨t, e1, e2⟩ := h
  obtain ⟨tg', g1, g2⟩ := hg
  refine ⟨_, fun j => ps_asg (e1 j) (g1 j) (hs j) (hw j) (h1 j), fun pd F0 H0 F H ρ σ s r ρ' s' o e E q => ?_⟩
  obtain ⟨d, s1, a1, a2⟩ := Mb_eq e
  obtain ⟨ρ1, hρ, a2⟩ := onSome_eq a2
  obtain ⟨a, rfl⟩ := Mp_eq a2
  cases a
  refine e2 pd F0 H0 F H _ σ s d _ o a1 _ fun v F' H' x d' r => ?_
  exact g2 pd F0 H0 F' H' _ _ σ _ d v (o.step x d') r hρ _ fun σ' o' _ _ => q σ' F' H' x.ff o'
theorem cMove (C : Fam X P w K mg base N lv) (i j : Nat) {x y : Str} {p2 p3 : Pos} (hN : N[i]? = some x := by rfl) (hv : ∀ k, Vis (X k).env.scope x := by intro _; first | exact Or.inl rfl | exact Or.inr (Or.inl rfl) | exact Or.inr (Or.inr rfl))
    (hi : N[j]? = some y := by rfl) (hx : ∀ k, Loc (X k).env.scope y := by intro _; first | exact Or.inl rfl | exact Or.inr rfl)
    (hd : (x == ("__debug__" : Str)) = false := by decide) (hcd : (x == ("__classdict__" : Str)) = false := by decide)
    (hs : ∀ k, swapsWith (.Name x p3) (some (.Name y p2)) pos.line (X k).env = pure false := by intro _; rfl) (hf : ∀ k, (X k).fn y = true ∨ (X k).env.scope.names.lookup y = some .local := by intro _; first | exact Or.inl rfl | exact Or.inr rfl) :
    CS X K (.Assign [.Name y p2] (.Name x p3) pos) (sMove i j) := by
  refine ⟨_, fun k => ps_set (by rw [C.n k]; exact C.nd) (by rw [C.n k]; exact hi) (hx k) (pe_var (by rw [C.n k]; exact hN) (hv k) hd hcd) (hs k) (hf k), fun pd F0 H0 F H ρ σ s r ρ' s' o e E q => ?_⟩
  obtain ⟨ds, h, e⟩ := onOw_eq e
  obtain ⟨a, rfl⟩ := Mp_eq e
  cases a
  obtain ⟨p, F', h1, f1, o', rr⟩ := o.freeze h
  exact ⟨_, h1, q _ F' H f1 (o'.set rr)⟩
theorem cAug (C : Fam X P w K mg base N lv) (i : Nat) {x : Str} {p2 : Pos} {op : Operator} {r : R2} {gg : D → D → Option D} (ho : ∀ j, OpR (X j) (inplaceOp op) r) (hv : V2 K r gg) (h : CE X K e f) (hi : N[i]? = some x := by rfl)
    (hx : ∀ j, Loc (X j).env.scope x := by intro _; first | exact Or.inl rfl | exact Or.inr rfl) (hf : ∀ j, (X j).fn x = true ∨ (X j).env.scope.names.lookup x = some .local := by intro _; first | exact Or.inl rfl | exact Or.inr rfl) :
    CS X K (.AugAssign (.Name x p2) op e pos) (sAug i gg f) := by
  obtain ⟨t, h1, h2⟩ := h
  refine ⟨_, fun j => ps_aug (by rw [C.n j]; exact C.nd) (by rw [C.n j]; exact hi) (hx j) (h1 j) (ho j) (hf j), fun pd F0 H0 F H ρ σ s r ρ' s' o e E q => ?_⟩
  obtain ⟨xd, hxd, e⟩ := onSh_eq e
  obtain ⟨y, s1, e1, e⟩ := Mb_eq e
  obtain ⟨z, s2, e0, e⟩ := Mb_eq e
  obtain ⟨e2, rfl⟩ := Mo_eq e0
  obtain ⟨a, rfl⟩ := Mp_eq e
  cases a
  obtain ⟨xv, a1, a2⟩ := o.sh hxd
  refine ⟨xv, a1, h2 pd F0 H0 F H _ σ s y _ o e1 _ fun v F1 H1 x1 d1 r1 => ?_⟩
  have o1 := o.step x1 d1
  exact hv pd F1 H1 xd y z xv v o1.fh (.inl (a2.mono x1.ff)) (.inl r1) e2 _ fun u F2 H2 x2 r2 => q _ F2 H2 (x1.ff.trans x2.ff) ((o1.step x2.lift (d1.grow x2)).set r2)
theorem semS_never : SemS K tNever sFail := fun pd F0 H0 F H ρ σ s r ρ' s' o e E q => (Mf_eq e).elim
/-! loops -/
theorem semS_for {wi : TI} {tg : TG} {tb : TS} {fi : AF} {gg : TGt} {js : List Nat} {body : SF} (hi : SemI K wi fi) (hg : SemG K tg js gg) (hb : SemS K tb body) : SemS K (tFor wi tg tb) (sFor fi gg body) := fun pd F0 H0 F H ρ σ s r ρ' s' o e E q => by
  obtain ⟨items, s1, e1, e⟩ := Mb_eq e
  refine hi pd F0 H0 F H ρ σ s items s1 o e1 _ fun J F1 H1 x1 d1 wk => ?_
  obtain ⟨hsz, wk⟩ := wk
  have q1 := q.from x1.ff
  refine ⟨fun i m σc Hc => i + m = items.length ∧ ∃ Fc ρc sc, Same F1 Fc ∧ Ok K pd F0 H0 Fc Hc ρc σc sc ∧ loopM gg body (items.drop i) ρc sc = some ((r, ρ'), s'), ⟨items.length, by simp, F1, ρ, s1, Same.refl _, o.step x1 d1, e⟩, ?_⟩
  rintro i m σc Hc ⟨him, Fc, ρc, sc, fc, oc, ec⟩
  by_cases hlt : i < items.length
  · have hd : items[i]? = some items[i] := List.getElem?_eq_getElem hlt
    rw [List.drop_eq_getElem_cons hlt] at ec
    unfold loopM at ec
    obtain ⟨w1, w2⟩ := (wk i Fc Hc fc oc.fh).1 _ hd
    refine .inr ⟨w1, ?_⟩
    cases hgg : gg items[i] ρc with
    | none => rw [hgg] at ec; exact (Mf_eq ec).elim
    | some ρ1 =>
      rw [hgg] at ec
      obtain ⟨⟨r1, ρ2⟩, s2, e2, ec⟩ := Mb_eq ec
      refine ⟨fun σn Hn => (r1 = .nx ∨ r1 = .ct) ∧ i + 1 + (m - 1) = items.length ∧ ∃ Fn, Same F1 Fn ∧ Ok K pd F0 H0 Fn Hn ρ2 σn s2, fun σn Hn ⟨h1, h2, Fn, h3, h4⟩ => ⟨m - 1, by omega, h2, Fn, ρ2, s2, h3, h4, ?_⟩, fun x H2 hy => ?_⟩
      · rcases h1 with rfl | rfl <;> exact ec
      · obtain ⟨F2, x2, r2⟩ := w2 x H2 hy
        have o2 := oc.step (x2.lift (pd := pd)) (oc.dok.grow x2)
        refine hg pd F0 H0 F2 H2 ρc ρ1 σc sc _ x o2 r2 hgg _ fun σ3 o3 _ _ => ?_
        refine hb pd F0 H0 F2 H2 ρ1 σ3 sc r1 ρ2 s2 o3 e2 _ ?_
        cases r1 with
        | nx => exact fun σn Fn Hn a b => ⟨.inl rfl, by omega, Fn, fc.trans (x2.ff.trans a), b⟩
        | ct => exact fun σn Fn Hn a b => ⟨.inr rfl, by omega, Fn, fc.trans (x2.ff.trans a), b⟩
        | bk => obtain ⟨a, rfl⟩ := Mp_eq ec; cases a; exact fun σn Fn Hn a b => q1 σn Fn Hn (fc.trans (x2.ff.trans a)) b
        | rt d => obtain ⟨a, rfl⟩ := Mp_eq ec; cases a; exact q1
  · have ei : i = items.length := by omega
    refine .inl ⟨(wk i Fc Hc fc oc.fh).2 ei, ?_⟩
    rw [ei, List.drop_length] at ec
    obtain ⟨a, rfl⟩ := Mp_eq ec
    cases a
    exact q1 σc Fc Hc fc oc
theorem cFor (C : Fam X P w K mg base N lv) {tg iter : Expr} {body : List Stmt} {fi : AF} {gg : TGt} {js : List Nat} (hp : ∀ i, PassesOwn (model (X i).prog (X i).w) (X i).A (X i).env (X i).xe) (hi : CI X K tg iter fi) (hg : CG X K tg js gg) (hb : CSs X K body g)
    (hs : ∀ i, ∀ x, foldedSetIterable iter (X i).env x = pure x := by intro _ _; rfl) : CS X K (.For tg iter body [] pos) (sFor fi gg g) := by
  obtain ⟨wi, i1, i2⟩ := hi
  obtain ⟨tg', g1, g2⟩ := hg
  obtain ⟨tb, b1, b2⟩ := hb
  exact ⟨_, fun i => ps_for (hp i) (C.c i) (i1 i) (g1 i) (b1 i) (hs i), semS_for i2 g2 b2⟩
theorem semS_while {tc : TT} {tb : TS} {ft : TF} {body : SF} (hc : SemT K tc ft) (hb : SemS K tb body) (n : Nat) : SemS K (tWhile tc tb) (whileM ft body n) := fun pd F0 H0 F H ρ σ s r ρ' s' o e E q => by
  refine ⟨fun m σc Hc => ∃ Fc ρc sc, Same F Fc ∧ Ok K pd F0 H0 Fc Hc ρc σc sc ∧ whileM ft body m ρc sc = some ((r, ρ'), s'), ⟨n, F, ρ, s, Same.refl _, o, e⟩, ?_⟩
  rintro m σc Hc ⟨Fc, ρc, sc, fc, oc, ec⟩
  cases m with
  | zero => exact (Mf_eq ec).elim
  | succ m =>
    unfold whileM at ec
    obtain ⟨k, s1, e1, ec⟩ := Mb_eq ec
    refine hc pd F0 H0 Fc Hc ρc σc sc k s1 oc e1 _ fun F1 H1 x1 d1 => ?_
    have o1 := oc.step x1 d1
    have f1 := fc.trans x1.ff
    cases k with
    | false =>
      obtain ⟨a, rfl⟩ := Mp_eq ec
      cases a
      exact iteF (q σc F1 H1 f1 o1)
    | true =>
      refine iteT ?_
      obtain ⟨⟨r1, ρ2⟩, s2, e2, ec⟩ := Mb_eq (show Mb (body ρc) _ s1 = _ from ec)
      refine ⟨fun σn Hn => (r1 = .nx ∨ r1 = .ct) ∧ ∃ Fn, Same F Fn ∧ Ok K pd F0 H0 Fn Hn ρ2 σn s2, fun σn Hn ⟨h1, Fn, h3, h4⟩ => ⟨m, Nat.lt_succ_self _, Fn, ρ2, s2, h3, h4, ?_⟩, ?_⟩
      · rcases h1 with rfl | rfl <;> exact ec
      · refine hb pd F0 H0 F1 H1 ρc σc s1 r1 ρ2 s2 o1 e2 _ ?_
        cases r1 with
        | nx => exact fun σn Fn Hn a b => ⟨.inl rfl, Fn, f1.trans a, b⟩
        | ct => exact fun σn Fn Hn a b => ⟨.inr rfl, Fn, f1.trans a, b⟩
        | bk => obtain ⟨a, rfl⟩ := Mp_eq ec; cases a; exact fun σn Fn Hn a b => q σn Fn Hn (f1.trans a) b
        | rt d => obtain ⟨a, rfl⟩ := Mp_eq ec; cases a; exact q
theorem cWhile {c : Expr} {body : List Stmt} {ft : TF} (hp : ∀ i, PassesOwn (model (X i).prog (X i).w) (X i).A (X i).env (X i).xe) (hc : CT X K c ft) (hb : CSs X K body g) : CS X K (.While c body [] pos) (sWhile ft g) := by
  obtain ⟨tc, c1, c2⟩ := hc
  obtain ⟨tb, b1, b2⟩ := hb
  exact ⟨_, fun i => ps_while (hp i) (c1 i) (b1 i), semS_while c2 b2 FUEL⟩
/-! own lists changed -/
theorem semS_meth {i : Nat} {t : TA} {fa : EF} {r : V → List V → Hp → VK → Prop} {u : List D → D → Option (List D)}
    (ha : ∀ (pd : Option PD) (F0 H0 F H : Hp) (ρ : Rho) (σ : L2.St) (s : DS) (d : D) (s' : DS), Ok K pd F0 H0 F H ρ σ s → fa ρ s = some (d, s') → ∀ Q : List V → Hp → Prop, (∀ v F' H', Ext pd F H F' H' → DOk K pd F' H' s' → RepB K pd F' H' d v → Q [v] H') → t σ H Q)
    (hr : ∀ (pd : Option PD) (F H : Hp) (p : Addr) (xs : List V) (es : List D) (d : D) (v : V) (es' : List D), Same F H → H p = some (.lst xs) → RepL K pd F es xs → es.length ≤ SZ → RepB K pd F H d v → u es d = some es' →
      ∀ Q : VK, (∀ ys, es'.length ≤ SZ → RepL K pd F es' ys → Q .non (upd H p (.lst ys))) → r (.ref p) [v] H Q) :
    SemS K (tDrop (tBM K "list" r (tVar i) t)) (sMeth i u fa) := fun pd F0 H0 F H ρ σ s r' ρ' s' o e E q => by
  obtain ⟨d, s1, e1, e⟩ := Mb_eq e
  obtain ⟨es, hes, e⟩ := onOw_eq e
  obtain ⟨es', hu, e⟩ := onSome_eq e
  obtain ⟨a, rfl⟩ := Mp_eq e
  cases a
  obtain ⟨z, h1, p, xs, rfl, h2, h3, h4, h5, h6, h7⟩ := o.env.at' i _ hes
  refine ⟨.ref p, h1, .inl ⟨rfl, xs, .of h5⟩, ha pd F0 H0 F H _ σ s d _ o e1 _ fun v F1 H1 x1 d1 r1 => ?_⟩
  have o1 := o.step x1 d1
  exact hr pd F1 H1 p xs es d v es' o1.fh (x1.hh _ _ h5 h4) (h7.mono x1.ff) h6 r1 hu _ fun ys hl ry => q σ F1 _ x1.ff (o1.upd hes h1 hl ry)
theorem v_app (pd : Option PD) (F H : Hp) (p : Addr) (xs : List V) (es : List D) (d : D) (v : V) (es' : List D) (fh : Same F H) (hp : H p = some (.lst xs)) (r : RepL K pd F es xs) (hl : es.length ≤ SZ) (rd : Rep K pd F d v) (e : appU es d = some es')
    (Q : VK) (q : ∀ ys, es'.length ≤ SZ → RepL K pd F es' ys → Q .non (upd H p (.lst ys))) : rAppend (.ref p) [v] H Q := by
  unfold appU at e
  split at e
  · rename_i h
    cases e
    exact ⟨p, xs, v, rfl, rfl, hp, by rw [r.length]; exact h, q _ (by simp; exact h) (r.append (.cons rd .nil))⟩
  · cases e
theorem v_ext (pd : Option PD) (F H : Hp) (p : Addr) (xs : List V) (es : List D) (d : D) (v : V) (es' : List D) (fh : Same F H) (hp : H p = some (.lst xs)) (r : RepL K pd F es xs) (hl : es.length ≤ SZ) (rd : RepB K pd F H d v) (e : extU es d = some es')
    (Q : VK) (q : ∀ ys, es'.length ≤ SZ → RepL K pd F es' ys → Q .non (upd H p (.lst ys))) : rExtend (.ref p) [v] H Q := by
  cases d <;> first | (cases e; done) | skip
  rename_i fs
  simp only [extU] at e
  split at e
  · rename_i h
    cases e
    obtain ⟨b, zs, rfl, h1, _, h2⟩ := rd.lst fh
    exact ⟨p, b, xs, zs, rfl, rfl, hp, h1, by rw [r.length, h2.length]; exact h, q _ (by simp; exact h) (r.append h2)⟩
  · cases e
end
section
variable {ι : Type} {X : ι → Cx} {P : Program} {w : World} {K : PySem.W.Frag} {mg : Str → Option Value} {base : Heap} {N : List Str} {lv : Nat} {pos cpos apos : Pos} {st : Stmt} {rest : List Stmt} {e : Expr} {f fk : EF} {g g' : SF}
/-- x.append(e) -/
theorem cApp (C : Fam X P w K mg base N lv) (i : Nat) {x : Str} {p2 : Pos} (h : CE X K e f) (hN : N[i]? = some x := by rfl) (hv : ∀ j, Vis (X j).env.scope x := by intro _; first | exact Or.inl rfl | exact Or.inr (Or.inl rfl) | exact Or.inr (Or.inr rfl))
    (hd : (x == ("__debug__" : Str)) = false := by decide) (hcd : (x == ("__classdict__" : Str)) = false := by decide)
    (hbase : ∀ j, attributeBase (.Name x p2) "append" (X j).env (eval (.Name x p2) (X j).env) = eval (.Name x p2) (X j).env := by intro _; rfl)
    (hfew : ∀ j, ((backTo cpos (starEach [e] (X j).env)).all (fun x => !x.1) && (backToKw cpos (keywordEach [] (X j).env)).all (fun x => x.1.isSome)
      && decide (([e] : List Expr).length + ([] : List Keyword).length + (if ([] : List Keyword).isEmpty then 0 else 1) < 30)) = true := by intro _; rfl)
    (hline : (apos.endLine == cpos.line) = true := by rfl) (hs : ∀ j, starEach [e] (X j).env = (false, eval e (X j).env) :: starEach [] (X j).env := by intro _; rfl) (hplain : ∀ j, (backTo cpos (starEach [] (X j).env)).any (·.1) = false := by intro _; rfl)
    (hsw : ∀ j, swapsWith (.Call (.Attribute (.Name x p2) "append" apos) [e] [] cpos) none pos.line (X j).env = pure false := by intro _; rfl) :
    CS X K (.Expr (.Call (.Attribute (.Name x p2) "append" apos) [e] [] cpos) pos) (sMeth i appU f) := by
  obtain ⟨t, h1, h2⟩ := h
  refine ⟨tDrop (tBM K "list" rAppend (tVar i) (tCons t tNil)), fun j => ps_expr (by
    have := pe_bm (X := X j) (cpos := cpos) (apos := apos) PySem.F.plainAttrs_list PySem.F.slot_list_append PySem.F.type_list_append mt_append (pe_var (pos := p2) (by rw [C.n j]; exact hN) (hv j) hd hcd) (pa_cons (h1 j) pa_nil (hs j)) (hbase j) (hfew j) hline (hs j) (hplain j)
    rw [C.k j] at this
    exact this) (hsw j), ?_⟩
  intro pd F0 H0 F H ρ σ s r' ρ' s' o e E q
  obtain ⟨d, s1, e1, e⟩ := Mb_eq e
  obtain ⟨es, hes, e⟩ := onOw_eq e
  obtain ⟨es', hu, e⟩ := onSome_eq e
  obtain ⟨a, rfl⟩ := Mp_eq e
  cases a
  obtain ⟨z, a1, p, xs, rfl, a2, a3, a4, a5, a6, a7⟩ := o.env.at' i _ hes
  refine ⟨.ref p, a1, .inl ⟨rfl, xs, .of a5⟩, h2 pd F0 H0 F H _ σ s d _ o e1 _ fun v F1 H1 x1 d1 r1 => ?_⟩
  have o1 := o.step x1 d1
  exact v_app pd F1 H1 p xs es d v es' o1.fh (x1.hh _ _ a5 a4) (a7.mono x1.ff) a6 r1 hu (fun _ Hn => E.nx σ Hn) fun ys hl ry => q σ F1 _ x1.ff (o1.upd hes a1 hl ry)
/-- x.extend(e) -/
theorem cExt (C : Fam X P w K mg base N lv) (i : Nat) {x : Str} {p2 : Pos} (h : CB X K e f) (hN : N[i]? = some x := by rfl) (hv : ∀ j, Vis (X j).env.scope x := by intro _; first | exact Or.inl rfl | exact Or.inr (Or.inl rfl) | exact Or.inr (Or.inr rfl))
    (hd : (x == ("__debug__" : Str)) = false := by decide) (hcd : (x == ("__classdict__" : Str)) = false := by decide)
    (hbase : ∀ j, attributeBase (.Name x p2) "extend" (X j).env (eval (.Name x p2) (X j).env) = eval (.Name x p2) (X j).env := by intro _; rfl)
    (hfew : ∀ j, ((backTo cpos (starEach [e] (X j).env)).all (fun x => !x.1) && (backToKw cpos (keywordEach [] (X j).env)).all (fun x => x.1.isSome)
      && decide (([e] : List Expr).length + ([] : List Keyword).length + (if ([] : List Keyword).isEmpty then 0 else 1) < 30)) = true := by intro _; rfl)
    (hline : (apos.endLine == cpos.line) = true := by rfl) (hs : ∀ j, starEach [e] (X j).env = (false, eval e (X j).env) :: starEach [] (X j).env := by intro _; rfl) (hplain : ∀ j, (backTo cpos (starEach [] (X j).env)).any (·.1) = false := by intro _; rfl)
    (hsw : ∀ j, swapsWith (.Call (.Attribute (.Name x p2) "extend" apos) [e] [] cpos) none pos.line (X j).env = pure false := by intro _; rfl) :
    CS X K (.Expr (.Call (.Attribute (.Name x p2) "extend" apos) [e] [] cpos) pos) (sMeth i extU f) := by
  obtain ⟨t, h1, h2⟩ := h
  refine ⟨tDrop (tBM K "list" rExtend (tVar i) (tCons t tNil)), fun j => ps_expr (by
    have := pe_bm (X := X j) (cpos := cpos) (apos := apos) PySem.F.plainAttrs_list PySem.F.slot_list_extend PySem.F.type_list_extend mt_extend (pe_var (pos := p2) (by rw [C.n j]; exact hN) (hv j) hd hcd) (pa_cons (h1 j) pa_nil (hs j)) (hbase j) (hfew j) hline (hs j) (hplain j)
    rw [C.k j] at this
    exact this) (hsw j), semS_meth (fun pd F0 H0 F H ρ σ s d s' o e Q q => h2 pd F0 H0 F H ρ σ s d s' o e _ fun v F' H' x y z => q v F' H' x y z) v_ext⟩
/-- x[k] = e -/
theorem cPut (C : Fam X P w K mg base N lv) (i : Nat) {x : Str} {p2 p3 : Pos} {ek : Expr} (h : CE X K e f) (hk : CE X K ek fk) (hN : N[i]? = some x := by rfl) (hv : ∀ j, Vis (X j).env.scope x := by intro _; first | exact Or.inl rfl | exact Or.inr (Or.inl rfl) | exact Or.inr (Or.inr rfl))
    (hd : (x == ("__debug__" : Str)) = false := by decide) (hcd : (x == ("__classdict__" : Str)) = false := by decide)
    (ha : ∀ j, ∀ v, assign (.Subscript (.Name x p2) ek p3) (X j).env v = (do
      let ov ← holding [v] (eval (.Name x p2) (X j).env)
      let iv ← holding [v, ov] (eval ek (X j).env)
      standAt p3
      holding [v, ov, iv] (setItem ov iv v)
      release [v, ov, iv] []) := by intro _ _; rfl)
    (hs : ∀ j, swapsWithSole [.Subscript (.Name x p2) ek p3] e pos.line (X j).env = pure false := by intro _; rfl) (hw : ∀ j, swappedStores [.Subscript (.Name x p2) ek p3] e (X j).env = pure none := by intro _; rfl)
    (h1 : ∀ j, (assignEach [.Subscript (.Name x p2) ek p3] (X j).env).map (·.2) = [assign (.Subscript (.Name x p2) ek p3) (X j).env] := by intro _; rfl) :
    CS X K (.Assign [.Subscript (.Name x p2) ek p3] e pos) (sPut i fk f) := by
  obtain ⟨t, e1, e2⟩ := h
  obtain ⟨tk, k1, k2⟩ := hk
  refine ⟨_, fun j => ps_asg (e1 j) (pg_sub (pe_var (by rw [C.n j]; exact hN) (hv j) hd hcd) (k1 j) set_list (ha j)) (hs j) (hw j) (h1 j), fun pd F0 H0 F H ρ σ s r ρ' s' o e E q => ?_⟩
  obtain ⟨d, s1, a1, e⟩ := Mb_eq e
  obtain ⟨kd, s2, a2, e⟩ := Mb_eq e
  obtain ⟨ds, hds, e⟩ := onOw_eq e
  obtain ⟨k, rfl, e⟩ := onInt_eq e
  obtain ⟨j, hj, e⟩ := onSome_eq e
  obtain ⟨a, rfl⟩ := Mp_eq e
  cases a
  refine e2 pd F0 H0 F H _ σ s d _ o a1 _ fun v F1 H1 x1 d1 r1 => ?_
  have o1 := o.step x1 d1
  obtain ⟨z, b1, p, xs, rfl, b2, b3, b4, b5, b6, b7⟩ := o1.env.at' i _ hds
  refine ⟨.ref p, b1, k2 pd F0 H0 F1 H1 _ σ s1 _ _ o1 a2 _ fun kv F2 H2 x2 d2 r2 => ?_⟩
  have o2 := o1.step x2 d2
  simp only [Rep] at r2
  refine ⟨p, xs, k, j, rfl, r2, x2.hh _ _ b5 b4, by rw [b7.length]; exact hj, q σ F2 _ (x1.ff.trans x2.ff) (o2.upd hds b1 (by rw [List.length_set]; exact b6) ((b7.mono x2.ff).set j (r1.mono x2.ff)))⟩
theorem pget_list {X : Cx} (hK : X.K = K) : PGet X (rIxL K) := by
  subst hK
  intro pins s σ H o i ov iv Q I ro ri h
  obtain ⟨p, xs, k, v, rfl, rfl, hq, he, q⟩ := h
  cases ro
  obtain ⟨t, rfl⟩ := ri
  obtain ⟨its, r, pl, hz⟩ := I.list hq
  obtain ⟨j, h1, h2, h3, h4, h5⟩ := atI_get he
  obtain ⟨u, eu, ru⟩ := r.get h2
  have hl := r.length
  have hn := line63
  have fin : EP X pins σ Q u s := ⟨v, H, I, ru, q⟩
  by_cases h0 : 0 ≤ k
  · have hj : k.toNat = j := by
      rw [seqIndex_of h0 h5] at h1
      exact Option.some.inj h1
    exact wpAny_getItem_list pl.isList h0 (by omega) (by rw [hj]; simpa using eu) fin
  · have hj : (k + (its.toArray.size : Int)).toNat = j := by
      rw [seqIndex_neg (by omega) h4] at h1
      rw [List.size_toArray, ← hl]
      exact Option.some.inj h1
    exact wpAny_getItem_list_neg pl.isList (by omega) (by rw [List.size_toArray] <;> omega) (by omega) (by rw [hj]; simpa using eu) fin
/-- x[k] op= e -/
theorem cAugIx (C : Fam X P w K mg base N lv) (i : Nat) {x : Str} {p2 p3 : Pos} {ek : Expr} {op : Operator} {r : R2} {gg : D → D → Option D} (ho : ∀ j, OpR (X j) (inplaceOp op) r) (hvv : V2 K r gg) (hk : CE X K ek fk) (h : CE X K e f) (hN : N[i]? = some x := by rfl)
    (hv : ∀ j, Vis (X j).env.scope x := by intro _; first | exact Or.inl rfl | exact Or.inr (Or.inl rfl) | exact Or.inr (Or.inr rfl))
    (hd : (x == ("__debug__" : Str)) = false := by decide) (hcd : (x == ("__classdict__" : Str)) = false := by decide)
    (ha : ∀ ov iv new, augStore ek ov iv new = (do holding [new, ov, iv] (setItem ov iv new); release [new, ov, iv] []; pure .next) := by intros; rfl) :
    CS X K (.AugAssign (.Subscript (.Name x p2) ek p3) op e pos) (sAugIx i gg fk f) := by
  obtain ⟨t, e1, e2⟩ := h
  obtain ⟨tk, k1, k2⟩ := hk
  refine ⟨_, fun j => ps_augS (pe_var (by rw [C.n j]; exact hN) (hv j) hd hcd) (k1 j) (pget_list (C.k j)) (e1 j) (ho j) set_list ha, fun pd F0 H0 F H ρ σ s r ρ' s' o e E q => ?_⟩
  obtain ⟨kd, s1, a1, e⟩ := Mb_eq e
  obtain ⟨ds, hds, e⟩ := onOw_eq e
  obtain ⟨k, rfl, e⟩ := onInt_eq e
  obtain ⟨j, hj, e⟩ := onSome_eq e
  obtain ⟨x0, hx0, e⟩ := onSome_eq e
  obtain ⟨y, s2, a2, e⟩ := Mb_eq e
  obtain ⟨z, s3, a3, e⟩ := Mb_eq e
  obtain ⟨a3, rfl⟩ := Mo_eq a3
  obtain ⟨a, rfl⟩ := Mp_eq e
  cases a
  obtain ⟨zz, b1, p, xs, rfl, b2, b3, b4, b5, b6, b7⟩ := o.env.at' i _ hds
  refine ⟨.ref p, b1, k2 pd F0 H0 F H _ σ s _ _ o a1 _ fun kv F1 H1 x1 d1 r1 => ?_⟩
  have o1 := o.step x1 d1
  simp only [Rep] at r1
  obtain ⟨xv, hxv, rxv⟩ := b7.get hx0
  have hp1 := x1.hh _ _ b5 b4
  refine ⟨p, xs, k, xv, rfl, r1, .of hp1, by unfold atI; rw [b7.length, hj]; exact hxv, e2 pd F0 H0 F1 H1 _ σ s1 y _ o1 a2 _ fun v F2 H2 x2 d2 r2 => ?_⟩
  have o2 := o1.step x2 d2
  refine hvv pd F2 H2 x0 y z xv v o2.fh (.inl ((rxv.mono x1.ff).mono x2.ff)) (.inl r2) (by assumption) _ fun u F3 H3 x3 r3 => ?_
  have o3 := o2.step (x3.lift (pd := pd)) (d2.grow x3)
  refine ⟨p, xs, k, j, rfl, r1, x3.same _ _ (x2.hh _ _ hp1 b4), by rw [b7.length]; exact hj, q σ F3 _ (x1.ff.trans (x2.ff.trans x3.ff)) (o3.upd hds b1 (by rw [List.length_set]; exact b6) ((((b7.mono x1.ff).mono x2.ff).mono x3.ff).set j r3))⟩
end

/-! ### defs -/
abbrev FnP (K : PySem.W.Frag) (x : Str) (st : Stmt) (f : Addr) (fd : FuncData) : Prop := FunD K x x (defArgs st) (defBody st) (defScope st) [] [] f fd
theorem FnP.okP {P : Program} {w : World} {K : PySem.W.Frag} {mg : Str → Option Value} {base : Heap} {x : Str} {st : Stmt} {f : Addr} {fd : FuncData} {N ps : List Str} {k : Nat} {sp : Sp} (F : FnP K x st f fd) (S : FnScope N ps (defScope st)) (len : ∀ vs H Q E, sp vs H Q E → vs.length = ps.length)
    (hbody : ∀ (cdv : Value) (A : Around) (outer : List Env) (s : Shared) (H : Hp) (vs : List V) (Q : VK) (E : XK), Room k (A.deeper (envOfC x (defScope st) s.heap.objs.size f cdv)) → sp vs H Q E →
      ∃ t, PSs (cxOf CX0 P w K mg base N x (defScope st) f cdv A outer s H E).nox (defBody st) t ∧ t { nx := fun _ H' => Q .non H', rt := Q } (L2.start N vs) H) : FnOk P w K mg base CX0 (k + 1) f fd ps sp :=
  F.ok S len fun cdv A outer s H vs Q E hr h => let ⟨t, t1, t2⟩ := hbody cdv A outer s H vs Q E hr h; ⟨t, PSs.nox t1, t2⟩
def runDef (n k : Nat) (g : SF) (args : List D) : M D := if args.length = k then Mb (g (args.map Slot.sh ++ List.replicate (n - args.length) Slot.un)) fun r => match r with
  | (.rt d, _) => Mp d
  | (.nx, _) => Mp .non
  | _ => Mf else Mf
def spM (K : PySem.W.Frag) (m : List D → M D) : Sp := fun vs H Q _ => ∃ (pd : Option PD) (F : Hp) (args : List D) (s : DS) (d : D) (s' : DS), Same F H ∧ DOk K pd F H s ∧ RepL K pd F args vs ∧ m args s = some (d, s') ∧
  ∀ v F' H', Ext pd F H F' H' → DOk K pd F' H' s' → Rep K pd F' d v → Q v H'
/-- a def of the text, its mirror m -/
structure DefOk (P : Program) (w : World) (K : PySem.W.Frag) (mg : Str → Option Value) (base : Heap) (name : Str) (k : Nat) (ps : List Str) (m : List D → M D) : Prop where
  ex : ∃ f fd, FnOk P w K mg base CX0 k f fd ps (spM K m) ∧ mg name = some (.ref f) ∧ PySem.W.keepIn K (.ref f) = true ∧ Binds K fd ps []
/-- the entries of a def -/
structure EntI (k : Nat) (qual : Str) (scope : Scope) (f : Addr) where
  cdv : Value
  A : Around
  outer : List Env
  s : Shared
  H : Hp
  E : XK
  hr : Room k (A.deeper (envOfC qual scope s.heap.objs.size f cdv))
abbrev entF (P : Program) (w : World) (K : PySem.W.Frag) (mg : Str → Option Value) (base : Heap) (N : List Str) (k : Nat) (qual : Str) (scope : Scope) (f : Addr) : EntI k qual scope f → Cx :=
  fun i => (cxOf CX0 P w K mg base N qual scope f i.cdv i.A i.outer i.s i.H i.E).nox
section
variable {P : Program} {w : World} {K : PySem.W.Frag} {mg : Str → Option Value} {base : Heap}
theorem Fam.ent {N : List Str} {k : Nat} {qual : Str} {scope : Scope} {f : Addr} (nd : N.Nodup) : Fam (entF P w K mg base N k qual scope f) P w K mg base N k :=
  ⟨fun _ => rfl, fun _ => rfl, fun _ => rfl, fun _ => rfl, fun _ => rfl, fun _ => rfl, fun _ => rfl, nd, fun i => ⟨i.hr.hd, i.hr.dp, i.hr.un⟩⟩
theorem ok_start {pd : Option PD} {F H : Hp} {N : List Str} {args : List D} {vs : List V} {s : DS} (fh : Same F H) (d : DOk K pd F H s) (r : RepL K pd F args vs) :
    Ok K pd F H F H (args.map Slot.sh ++ List.replicate (N.length - args.length) Slot.un) (L2.start N vs) s := by
  refine ⟨.refl fh, ⟨by simp [L2.start, r.length], fun i sl e => ?_, fun i j es fs p hij e1 => ?_⟩, d⟩
  · by_cases hi : i < args.length
    · rw [List.getElem?_append_left (by simpa using hi), List.getElem?_map, List.getElem?_eq_getElem hi] at e
      cases e
      obtain ⟨x, h1, h2⟩ := r.get (List.getElem?_eq_getElem hi)
      refine ⟨some x, ?_, x, rfl, h2⟩
      unfold L2.start
      rw [List.getElem?_append_left (by simpa [r.length] using hi), List.getElem?_map, h1]
      rfl
    · rw [List.getElem?_append_right (by simpa using hi), List.getElem?_replicate] at e
      split at e
      · cases e
        rename_i hlt
        refine ⟨none, ?_, trivial⟩
        unfold L2.start
        rw [List.getElem?_append_right (by simpa [r.length] using hi), List.getElem?_replicate, if_pos (by simpa [r.length] using hlt)]
      · cases e
  · exfalso
    have hm := List.mem_of_getElem? e1
    simp at hm
theorem runDef_len {n k : Nat} {g : SF} {args : List D} {s : DS} {r : D × DS} (h : runDef n k g args s = some r) : args.length = k := by
  unfold runDef at h
  split at h
  · assumption
  · cases h
theorem runDef_eq {n k : Nat} {g : SF} {args : List D} {s s' : DS} {d : D} (h : runDef n k g args s = some (d, s')) : ∃ r ρ', g (args.map Slot.sh ++ List.replicate (n - args.length) Slot.un) s = some ((r, ρ'), s') ∧ (r = .rt d ∨ (r = .nx ∧ d = .non)) := by
  unfold runDef at h
  split at h
  · obtain ⟨⟨r, ρ'⟩, s1, e1, e2⟩ := Mb_eq h
    cases r with
    | nx => obtain ⟨rfl, rfl⟩ := Mp_eq e2; exact ⟨_, _, e1, .inr ⟨rfl, rfl⟩⟩
    | rt d' => obtain ⟨rfl, rfl⟩ := Mp_eq e2; exact ⟨_, _, e1, .inl rfl⟩
    | bk => exact (Mf_eq e2).elim
    | ct => exact (Mf_eq e2).elim
  · cases h
/-- THE RULE for a def -/
theorem def_ok {x : Str} {st : Stmt} {f : Addr} {fd : FuncData} {N ps : List Str} {k : Nat} {g : SF} (F : FnP K x st f fd) (S : FnScope N ps (defScope st)) (h : CSs (entF P w K mg base N k x (defScope st) f) K (defBody st) g)
    (hm : mg x = some (.ref f)) (hb : Binds K fd ps []) (n : Nat := N.length) (kk : Nat := ps.length) (hn : N.length = n := by rfl) (hk : ps.length = kk := by rfl) : DefOk P w K mg base x (k + 1) ps (runDef n kk g) := by
  subst hn; subst hk
  refine ⟨f, fd, F.okP S (fun vs H Q E h => ?_) (fun cdv A outer s H vs Q E hr h' => ?_), hm, F.kp, hb⟩
  · obtain ⟨pd, F, args, s, d, s', _, _, r, e, _⟩ := h
    rw [r.length]
    exact runDef_len e
  · obtain ⟨t, t1, t2⟩ := h
    obtain ⟨pd, F, args, s0, d, s', fh, dk, r, e, q⟩ := h'
    refine ⟨t, t1 ⟨cdv, A, outer, s, H, E, hr⟩, ?_⟩
    obtain ⟨r1, ρ', e1, e2⟩ := runDef_eq e
    refine t2 pd F H F H _ _ s0 r1 ρ' s' (ok_start fh dk r) e1 _ ?_
    rcases e2 with rfl | ⟨rfl, rfl⟩
    · exact fun v F' H' a b c => q v F' H' a b c
    · exact fun σ' F' H' a b => q .non F' H' b.ext b.dok (by simp [Rep])
end
def xCall (m : List D → M D) (a : AF) : EF := fun ρ => Mb (a ρ) m
mutual
def noL : D → Bool
  | .lst _ => false
  | .rng => false
  | .tup ds => noLs ds
  | _ => true
def noLs : List D → Bool
  | [] => true
  | d :: ds => noL d && noLs ds
end
/-- a call whose arguments may be own lists; what comes back holds no list -/
def xCallB (m : List D → M D) (a : AF) : EF := fun ρ => Mb (a ρ) fun xs => Mb (m xs) fun d => if noL d = true then Mp d else Mf
section
variable {K : PySem.W.Frag} {pd : Option PD} {F F' H : Hp}
mutual
/-- data without lists lean on tuples alone -/
theorem Rep.keep (h : ∀ a xs, F a = some (.tup xs) → F' a = some (.tup xs)) (h' : ∀ a o xs, F a = some (.frz o (.tup xs)) → F' a = some (.frz o (.tup xs))) : ∀ {d : D} {v : V}, noL d = true → Rep K pd F d v → Rep K pd F' d v
  | .non, _, _, r => by simpa only [Rep] using r
  | .bl _, _, _, r => by simpa only [Rep] using r
  | .int _, _, _, r => by simpa only [Rep] using r
  | .str _, _, _, r => by simpa only [Rep] using r
  | .rng, _, n, _ => by simp [noL] at n
  | .lst _, _, n, _ => by simp [noL] at n
  | .tup ds, _, n, r => by
    simp only [Rep] at r ⊢
    obtain ⟨a, xs, e, s, hl, q⟩ := r
    refine ⟨a, xs, e, ?_, hl, RepL.keep h h' (by simpa only [noL] using n) q⟩
    rcases s with (s | ⟨o, s⟩) | s
    · exact .inl (.inl (h _ _ s))
    · exact .inl (.inr ⟨o, h' _ _ _ s⟩)
    · exact .inr s
theorem RepL.keep (h : ∀ a xs, F a = some (.tup xs) → F' a = some (.tup xs)) (h' : ∀ a o xs, F a = some (.frz o (.tup xs)) → F' a = some (.frz o (.tup xs))) : ∀ {ds : List D} {xs : List V}, noLs ds = true → RepL K pd F ds xs → RepL K pd F' ds xs
  | [], _, _, r => by simpa only [RepL] using r
  | d :: ds, _, n, r => by
    obtain ⟨y, ys, rfl, r1, r2⟩ := r.cases
    simp only [noLs, Bool.and_eq_true] at n
    exact .cons (Rep.keep h h' n.1 r1) (RepL.keep h h' n.2 r2)
end
end
section
variable {ι : Type} {X : ι → Cx} {P : Program} {w : World} {K : PySem.W.Frag} {mg : Str → Option Value} {base : Heap} {N : List Str} {lv : Nat} {pos p : Pos} {e : Expr} {es : List Expr} {g : AF} {x : Str} {k : Nat} {ps : List Str} {m : List D → M D}
theorem cCall (C : Fam X P w K mg base N lv) (Df : DefOk P w K mg base x k ps m) (hk : k ≤ lv) (ha : CA X K (e :: es) g) (hg : ∀ i, Gl (X i) x := by intro _; rfl) (hdb : (x == ("__debug__" : Str)) = false := by decide)
    (he : ∀ i, starEach (e :: es) (X i).env = (false, eval e (X i).env) :: starEach es (X i).env := by intro _; rfl) (hpl : ∀ i, (backTo pos (starEach es (X i).env)).any (·.1) = false := by intro _; rfl) :
    CE X K (.Call (.Name x p) (e :: es) [] pos) (xCall m g) := by
  obtain ⟨f, fd, F, hm, kp, hb⟩ := Df.ex
  obtain ⟨t, h1, h2⟩ := ha
  refine ⟨tCall (spM K m) [] E0 t, fun i => ?_, fun pd F0 H0 F H ρ σ s d s' o e Q q => ?_⟩
  · have hF : FnOk (X i).prog (X i).w (X i).K (X i).mg (X i).base CX0 k f fd ps (spM K m) := by rw [C.p i, C.w i, C.k i, C.m i, C.b i]; exact F
    exact pe_call hF ((C.r i).mono hk) (hg i) (by rw [C.m i]; exact hm) (by rw [C.k i]; exact kp) (by rw [C.k i]; exact hb) .nil pass0 (h1 i) hdb (he i) (hpl i)
  · obtain ⟨xs, s1, e1, e2⟩ := Mb_eq e
    refine h2 pd F0 H0 F H ρ σ s xs s1 o e1 _ fun vs F1 H1 x1 d1 r1 => ?_
    rw [List.append_nil]
    exact ⟨pd, F1, xs, s1, d, s', (o.step x1 d1).fh, d1, r1, e2, fun v F' H' x2 d2 r2 => q v F' H' (x1.trans x2) d2 r2⟩
theorem cCallB' (C : Fam X P w K mg base N lv) (Df : DefOk P w K mg base x k ps m) (hk : k ≤ lv) (ha : CAB X K (e :: es) g) (hg : ∀ i, Gl (X i) x := by intro _; rfl) (hdb : (x == ("__debug__" : Str)) = false := by decide)
    (he : ∀ i, starEach (e :: es) (X i).env = (false, eval e (X i).env) :: starEach es (X i).env := by intro _; rfl) (hpl : ∀ i, (backTo pos (starEach es (X i).env)).any (·.1) = false := by intro _; rfl) :
    CE X K (.Call (.Name x p) (e :: es) [] pos) (xCallB m g) := by
  obtain ⟨f, fd, F, hm, kp, hb⟩ := Df.ex
  obtain ⟨t, h1, h2⟩ := ha
  refine ⟨tCall (spM K m) [] E0 t, fun i => ?_, fun pd F0 H0 F H ρ σ s d s' o e Q q => ?_⟩
  · have hF : FnOk (X i).prog (X i).w (X i).K (X i).mg (X i).base CX0 k f fd ps (spM K m) := by rw [C.p i, C.w i, C.k i, C.m i, C.b i]; exact F
    exact pe_call hF ((C.r i).mono hk) (hg i) (by rw [C.m i]; exact hm) (by rw [C.k i]; exact kp) (by rw [C.k i]; exact hb) .nil pass0 (h1 i) hdb (he i) (hpl i)
  · obtain ⟨xs, s1, e1, e⟩ := Mb_eq e
    obtain ⟨d', s2, e2, e⟩ := Mb_eq e
    split at e
    · rename_i hno
      obtain ⟨rfl, rfl⟩ := Mp_eq e
      refine h2 pd F0 H0 F H ρ σ s xs s1 o e1 _ fun vs F1 H1 x1 d1 r1 => ?_
      have o1 := o.step x1 d1
      rw [List.append_nil]
      -- what is borrowed is told for the time of the call
      have hFb : ∃ Fb : Hp, (∀ a u, F1 a = some u → Fb a = some u) ∧ (∀ a u, Fb a = some u → H1 a = some u) ∧ (∀ a, some a = pp pd → Fb a = F1 a) ∧ RepL K pd Fb xs vs ∧ (∀ a, Fb a = F1 a ∨ ∃ ys, Fb a = some (.lst ys)) := by
        classical
        refine ⟨fun a => if V.ref a ∈ vs ∧ some a ≠ pp pd ∧ ∃ ys, H1 a = some (.lst ys) then H1 a else F1 a, fun a u h => ?_, fun a u h => ?_, fun a h => ?_, ?_, fun a => ?_⟩
        · show (if V.ref a ∈ vs ∧ some a ≠ pp pd ∧ ∃ ys, H1 a = some (.lst ys) then H1 a else F1 a) = some u
          split
          · exact o1.fh _ _ h
          · exact h
        · have h : (if V.ref a ∈ vs ∧ some a ≠ pp pd ∧ ∃ ys, H1 a = some (.lst ys) then H1 a else F1 a) = some u := h
          split at h
          · exact h
          · exact o1.fh _ _ h
        · show (if V.ref a ∈ vs ∧ some a ≠ pp pd ∧ ∃ ys, H1 a = some (.lst ys) then H1 a else F1 a) = F1 a
          rw [if_neg (fun z => z.2.1 h)]
        · have key : ∀ {xs : List D} {ws : List V}, RepBL K pd F1 H1 xs ws → (∀ v ∈ ws, v ∈ vs) → RepL K pd (fun a => if V.ref a ∈ vs ∧ some a ≠ pp pd ∧ ∃ ys, H1 a = some (.lst ys) then H1 a else F1 a) xs ws := by
            intro xs ws r
            induction r with
            | nil => intro _; exact .nil
            | @cons dd dds v ws h t ih =>
              intro hm
              have sm : Same F1 (fun a => if V.ref a ∈ vs ∧ some a ≠ pp pd ∧ ∃ ys, H1 a = some (.lst ys) then H1 a else F1 a) := fun a u h => by
                show (if V.ref a ∈ vs ∧ some a ≠ pp pd ∧ ∃ ys, H1 a = some (.lst ys) then H1 a else F1 a) = some u
                split
                · exact o1.fh _ _ h
                · exact h
              refine .cons ?_ (ih fun v hv => hm v (List.mem_cons_of_mem _ hv))
              rcases h with h | ⟨p, es, ys, rfl, rfl, h3, h4, h5, h6, h7⟩
              · exact h.mono sm
              · simp only [Rep]
                exact ⟨p, ys, rfl, by rw [if_pos ⟨hm _ (by simp), h4, ys, h3⟩]; exact h3, h6, h7.mono sm⟩
          exact key r1 fun v hv => hv
        · show (if V.ref a ∈ vs ∧ some a ≠ pp pd ∧ ∃ ys, H1 a = some (.lst ys) then H1 a else F1 a) = F1 a ∨ ∃ ys, (if V.ref a ∈ vs ∧ some a ≠ pp pd ∧ ∃ ys, H1 a = some (.lst ys) then H1 a else F1 a) = some (.lst ys)
          split
          · rename_i z; exact .inr z.2.2
          · exact .inl rfl
      obtain ⟨Fb, b1, b2, b3, b4, b5⟩ := hFb
      have db : DOk K pd Fb H1 s1 := by
        cases pd with
        | none => trivial
        | some y =>
          obtain ⟨c1, c2, c3, c4⟩ := d1
          exact ⟨by rw [b3 _ rfl]; exact c1, c2, c3, b1 _ _ c4⟩
      refine ⟨pd, Fb, xs, s1, d', s2, b2, db, b4, e2, fun v F' H' x2 d2 r2 => ?_⟩
      classical
      let F2 : Hp := fun a => if F1 a = none ∧ H1 a ≠ none then none else F' a
      have k1 : ∀ a u, F' a = some u → ¬ (F1 a = none ∧ H1 a ≠ none) → F2 a = some u := fun a u h n => by
        show (if F1 a = none ∧ H1 a ≠ none then none else F' a) = some u
        rw [if_neg n]; exact h
      have k2 : ∀ a u, F2 a = some u → F' a = some u ∧ ¬ (F1 a = none ∧ H1 a ≠ none) := fun a u h => by
        have h : (if F1 a = none ∧ H1 a ≠ none then none else F' a) = some u := h
        split at h
        · cases h
        · rename_i n; exact ⟨h, n⟩
      have keep1 : ∀ a u, F1 a = some u → F2 a = some u := fun a u h => k1 a u (x2.ff _ _ (b1 _ _ h)) fun z => by rw [h] at z; exact absurd z.1 (by simp)
      have xx : Ext pd F1 H1 F2 H' := by
        refine ⟨keep1, x2.hh, x2.hd, fun a u h => ?_, fun a u h => x2.fh _ _ (k2 a u h).1⟩
        obtain ⟨h, n⟩ := k2 a u h
        rcases x2.nw a u h with z | z
        · cases hF : F1 a with
          | none => exact absurd ⟨hF, by rw [b2 _ _ z]; simp⟩ n
          | some u' =>
            have := x2.ff _ _ (b1 _ _ hF)
            rw [h] at this; cases this; exact .inl rfl
        · exact .inr z
      refine q v F2 H' (x1.trans xx) ?_ ?_
      · cases pd with
        | none => trivial
        | some y =>
          obtain ⟨c1, c2, c3, c4⟩ := d2
          refine ⟨?_, c2, c3, ?_⟩
          · cases hz : F2 y.p with
            | none => rfl
            | some u => rw [(k2 _ _ hz).1] at c1; cases c1
          · obtain ⟨_, _, _, c4'⟩ := d1
            have := keep1 _ _ c4'
            have h0 := (k2 _ _ this).1
            rw [c4] at h0
            rw [this]; exact h0.symm
      · have known : ∀ a u, F' a = some u → (∀ ys, u ≠ .lst ys) → F2 a = some u := fun a u h ne => k1 a u h fun n => by
          rcases x2.nw a u h with z | z
          · rcases b5 a with y | ⟨ys, y⟩
            · rw [y] at z; rw [n.1] at z; cases z
            · rw [y] at z; cases z; exact ne ys rfl
          · exact n.2 z
        exact r2.keep (fun a ys h => known a _ h fun _ z => by cases z) (fun a ob ys h => known a _ h fun _ z => by cases z) hno
    · exact (Mf_eq e).elim
end
end Pu
namespace Pu
open PySem PySem.Spec PyProof.Rows L2

/-! ### enumerate, zip over lists and tuples as they come (b: a tuple) -/
def SqA (K : PySem.W.Frag) (H : Hp) (b : Bool) (a : Addr) (xs : List V) : Prop := if b = true then SqT K H a xs else SqL K H a xs
def ItA (h : Heap) (b : Bool) (it a : Addr) (i : Nat) : Prop := if b = true then h.IsTupleIter it a i else h.IsListIter it a i
def SeqB (h : Heap) (b : Bool) (a : Addr) (its : Array Value) : Prop := if b = true then h.IsTuple a its else h.IsList a its
def itOb (b : Bool) (a : Addr) : Obj := if b = true then { cls := .type "tuple_iterator", data := .fields #[.ref a, .int 0 0] } else { cls := .type "list_iterator", data := .fields #[.ref a, .int 0 0] }
theorem ItA.ob {h : Heap} {b : Bool} {it a : Addr} {i : Nat} (x : ItA h b it a i) : ∃ o, h.get? it = some o ∧ ∀ v, o.data ≠ .cell v := by
  unfold ItA at x
  cases b
  · obtain ⟨o, h1, _, h2⟩ : h.IsListIter it a i := x
    exact ⟨o, h1, fun v q => by rw [h2] at q; cases q⟩
  · obtain ⟨o, h1, _, h2⟩ : h.IsTupleIter it a i := x
    exact ⟨o, h1, fun v q => by rw [h2] at q; cases q⟩
theorem ItA.at' {h h' : Heap} {b : Bool} {it a : Addr} {i : Nat} (x : ItA h b it a i) (e : ∀ o, h.get? it = some o → h'.get? it = some o) : ItA h' b it a i := by
  unfold ItA at x ⊢
  cases b
  · exact Heap.IsListIter.at (show h.IsListIter it a i from x) e
  · exact Heap.IsTupleIter.at (show h.IsTupleIter it a i from x) e
theorem itA_new {h : Heap} {b : Bool} {it a : Addr} (e : h.get? it = some (itOb b a)) : ItA h b it a 0 := by
  cases b
  · exact ⟨_, e, rfl, rfl⟩
  · exact ⟨_, e, rfl, rfl⟩
theorem inv_seqA {X : Cx} {pins : List (Addr × Obj)} {σ : L2.St} {H : Hp} {s : Shared} {b : Bool} {a : Addr} {xs : List V} (I : Inv X pins σ H s) (h : SqA X.K H b a xs) : ∃ its : List Value, Vals xs its ∧ SeqB s.heap b a its.toArray := by
  cases b
  · obtain ⟨its, r, p, _⟩ := I.list (show SqL X.K H a xs from h)
    exact ⟨its, r, p.isList⟩
  · obtain ⟨its, r, p, _⟩ := I.tuple (show SqT X.K H a xs from h)
    exact ⟨its, r, p⟩
theorem inv_injA {X : Cx} {pins : List (Addr × Obj)} {σ : L2.St} {H : Hp} {s : Shared} {b : Bool} {a : Addr} {xs ys : List V} (I : Inv X pins σ H s) (h : SqA X.K H b a xs) (h' : SqA X.K H b a ys) : xs = ys := by
  cases b
  · exact I.list_inj (show SqL X.K H a xs from h) h'
  · exact I.tuple_inj (show SqT X.K H a xs from h) h'
theorem seqB_live {h : Heap} {b : Bool} {a : Addr} {its : Array Value} (x : SeqB h b a its) : a < h.objs.size := by
  cases b
  · obtain ⟨o, e, _⟩ := (show h.IsList a its from x); exact Heap.lt_size e
  · obtain ⟨o, e, _⟩ := (show h.IsTuple a its from x); exact Heap.lt_size e
theorem drawsB {prog : Program} {w : World} {A : Around} (hh : A.handled = none) (b : Bool) (it a : Addr) (hne : a ≠ it) (items : Array Value) :
    Draws prog w A it [it, a] items.size (fun i v => items[i]? = some v) (fun i h => ItA h b it a i ∧ SeqB h b a items) := by
  cases b
  · exact Draws.list hh it a hne items
  · exact Draws.tuple hh it a hne items
theorem beginsB (b : Bool) (a : Addr) (items : Array Value) : Begins (.ref a) (itOb b a) fun h => SeqB h b a items := by
  cases b
  · exact begins_list a items
  · exact begins_tuple a items
set_option maxHeartbeats 1000000 in
theorem meets_enum1 {v : Value} {o : Obj} {H : Heap → Prop} (B : Begins v o H) :
    Meets (Builtin.«enumerate.__new__» ⟨[.type "enumerate", v], []⟩) (fun _ R s => H s.heap ∧
      R (.ok (.ret (.ref (s.heap.push o).objs.size))) { s with heap := (s.heap.push o).push { cls := .type "enumerate", data := .fields #[.none, .bool false, .ref s.heap.objs.size, rawInt 0, .none, .none] } }) :=
  .of_wp fun prog w A R s h => by
    obtain ⟨hp, g, d, tk, os⟩ := s; obtain ⟨h1, h⟩ := h
    have hsub := sub_enumerate
    have go : ∀ {A' : Around} {E : Value → Shared → Prop} {Q : Value → Shared → Prop}, Q (.ref hp.objs.size) ⟨hp.push o, g, d, tk, os⟩ → wpAny (model prog w) A' (pyIter v) Q E ⟨hp, g, d, tk, os⟩ := fun q => B.iter prog w _ _ ⟨hp, g, d, tk, os⟩ _ h1 q
    wp_walk using go
    refine wpAny_stack_any fun st => wpAny_pure ?_
    split
    · rename_i c _ _ _ _ _
      cases (c == Value.type "enumerate")
      · wp_walk using go
        exact ⟨_, rfl, h⟩
      · wp_walk using go
        exact ⟨_, rfl, h⟩
    · wp_walk using go
      exact ⟨_, rfl, h⟩
theorem call_enum1 {prog : Program} {w : World} {A : Around} {E : Value → Shared → Prop} {s : Shared} {v : Value} {o : Obj} {H : Heap → Prop} {Q : Value → Shared → Prop} (B : Begins v o H) (h1 : H s.heap)
    (h : ∀ h', IsEnum h' (s.heap.objs.size + 1) s.heap.objs.size 0 .none → h'.get? s.heap.objs.size = some o → h'.objs.size = s.heap.objs.size + 2 →
      (∀ b o, s.heap.get? b = some o → h'.get? b = some o) → Q (.ref (s.heap.objs.size + 1)) { s with heap := h' }) : wpAny (model prog w) A (call (.type "enumerate") [v]) Q E s := by
  refine callType_new F.called_enumerate (by decide) (F.typeCall_enumerate_1 _) (F.newCall_enumerate_1 _) (fun obj => F.args_object_init_2 obj _) F.entry_enumerate_new (meets_enum1 B) ⟨h1, ?_⟩
  have hz : (s.heap.push o).objs.size = s.heap.objs.size + 1 := Heap.size_push ..
  show _ ∧ _
  rw [hz]
  have he : IsEnum ((s.heap.push o).push { cls := .type "enumerate", data := .fields #[.none, .bool false, .ref s.heap.objs.size, rawInt 0, .none, .none] }) (s.heap.objs.size + 1) s.heap.objs.size 0 .none := by
    have z := Heap.get?_push_size (s.heap.push o) (o := { cls := .type "enumerate", data := .fields #[.none, .bool false, .ref s.heap.objs.size, rawInt 0, .none, .none] }) rfl
    rw [hz] at z; exact z
  exact ⟨⟨_, he, rfl⟩, h _ he (Heap.get?_push_of_some _ (Heap.get?_push_size _ B.free)) (by rw [Heap.size_push, hz]) fun b o x => Heap.get?_push_of_some _ (Heap.get?_push_of_some _ x)⟩

def IteA (K : PySem.W.Frag) (b : Bool) (a : Addr) : It :=
  ⟨fun i H => ∃ (xs : List V) (x : V), SqA K H b a xs ∧ xs[i]? = some x, fun i H v H' => ∃ T x, v = .ref T ∧ H T = none ∧ H' = L2.upd H T (.tup [.int (i : Nat), x]) ∧ ∀ xs, SqA K H b a xs → xs[i]? = some x, fun i H => ∃ xs : List V, SqA K H b a xs ∧ xs.length = i⟩
theorem turn_enumA {P : Program} {w : World} {K : PySem.W.Frag} {elts : List Expr} {kk : Nat} {tpos : Pos} (b : Bool) (a e it : Addr) (nei : e ≠ it) (nae : a ≠ e) (nai : a ≠ it) :
    Turn P w K (.Tuple elts kk tpos) (IteA K b a) [e, it] e (fun i h => (∃ old, IsEnum h e it ((i : Nat) : Int) old) ∧ ItA h b it a i) where
  mem := by simp
  obj := fun i h st c hc => by
    obtain ⟨⟨old, he⟩, hi⟩ := st
    rcases (by simpa using hc : c = e ∨ c = it) with rfl | rfl
    · exact ⟨_, he, fun v q => nomatch q⟩
    · exact hi.ob
  keep := fun i h h' st k => let ⟨⟨old, he⟩, hi⟩ := st; ⟨⟨old, k e (by simp) _ he⟩, hi.at' fun o q => k it (by simp) o q⟩
  item := by
    intro X hP hw hK hc i pins s σ H E I hf st hg
    subst hP hw hK
    obtain ⟨⟨old, he⟩, hit⟩ := st
    obtain ⟨xs, x, hq, hx⟩ := hg
    obtain ⟨its, rv, p⟩ := inv_seqA I hq
    obtain ⟨u, hu, ru⟩ := rv.get hx
    have hlt : i < its.toArray.size := by
      have := (List.getElem?_eq_some_iff.mp hu).1
      simpa using this
    have hel : e < s.heap.objs.size := Heap.lt_size he
    have hil : it < s.heap.objs.size := by obtain ⟨_, q, _⟩ := hit.ob; exact Heap.lt_size q
    refine wpAny_pyNext_enum_itemD (drawsB (A := X.A.in1) (I.ok.hd hc) b it a nai its.toArray) he ⟨hit, p⟩ hlt nei (by simp [nei, Ne.symm nae]) fun z h' tk hz ho hs' hT hsz hk => ?_
    have hzu : z = u := by
      have h1 : its[i]? = some z := by simpa using hz
      rw [hu] at h1; exact (Option.some.inj h1).symm
    subst hzu
    refine ⟨_, rfl, wpAny_letOwnedTupleGo_enum (s := { s with heap := h', toks := tk + 1 }) ho fun h'' he' sb => ?_⟩
    have hT2 : h''.get? s.heap.objs.size = some { cls := .type "tuple", data := .seq #[.int i tk, z] } := (sb.2 _ (Nat.ne_of_gt hel)).trans hT
    have new : ObjOk X.prog X.w (L2.upd H s.heap.objs.size (.tup [.int (i : Nat), x])) h'' s.heap.objs.size (.tup [.int (i : Nat), x]) :=
      ⟨by show 2 ≤ sizeLine; decide, [.int i tk, z], .cons ⟨_, rfl⟩ (.cons ru .nil), ⟨_, hT2, rfl, _, rfl⟩⟩
    have I1 : Inv X pins σ (L2.upd H s.heap.objs.size (.tup [.int (i : Nat), x])) { s with heap := h'', toks := tk + 1 } :=
      I.turnedNew (ch := [e, it]) (fun c ob hb q => (sb.2 c (fun y => hb (by simp [y]))).trans (hk c ob (fun y => hb (by simp [y])) (fun y => hb (by simp [y])) q)) hf (Nat.le_refl _) new
    refine ⟨.ref s.heap.objs.size, _, I1, rfl, ⟨_, x, rfl, I.hok.fresh (Nat.le_refl _), rfl, fun ys hy => by rw [inv_injA I hy hq]; exact hx⟩, ⟨⟨z, ?_⟩, hs'.1.at' fun o q => (sb.2 it (Ne.symm nei)).trans q⟩, fun c hc' => ?_⟩
    · have e1 : ((i + 1 : Nat) : Int) = (i : Int) + 1 := by omega
      rw [e1]; exact he'
    · have hb' : c < s.heap.objs.size := by
        rcases (by simpa using hc' : c = e ∨ c = it) with rfl | rfl
        · exact hel
        · exact hil
      rw [upd_ne (Nat.ne_of_lt hb')]
      exact (hf c hc').1
  done := by
    intro X hP hw hK hc i pins s σ H E I hf st hg
    subst hP hw hK
    obtain ⟨⟨old, he⟩, hit⟩ := st
    obtain ⟨xs, hq, hx⟩ := hg
    obtain ⟨its, rv, p⟩ := inv_seqA I hq
    obtain ⟨f0, f1, f2, f3, f4, f5⟩ := hf it (by simp)
    have hl := rv.length
    have hn : its.toArray.size = i := by simp; omega
    have D := drawsB (prog := X.prog) (w := X.w) (A := X.A.in1) (I.ok.hd hc) b it a nai its.toArray
    rw [hn] at D
    exact wpAny_pyNext_enum_endD D he ⟨hit, p⟩ fun h' eb => ⟨rfl, I.turned (t' := s.toks) (fun c o hb q => eb c o hb q) f0 f1 f3 f4 f5⟩
  self := fun A i s Q E st h => let ⟨⟨_, he⟩, _⟩ := st; wpAny_pyIter_enum he h
def iEnumA (K : PySem.W.Frag) (ta : TA) : TI := fun σ H R => ta σ H fun vs H1 => ∃ b a xs, vs = [.ref a] ∧ SqA K H1 b a xs ∧ R (IteA K b a) H1
theorem pi_enumA {X : Cx} {e : Expr} {ta : TA} {p pos tpos : Pos} {elts : List Expr} {kk : Nat} (hg : Gl X "enumerate") (hm : X.mg "enumerate" = none) (ha : PA X [e] ta) (hs : starEach [e] X.env = [(false, eval e X.env)] := by rfl) :
    PI X (.Tuple elts kk tpos) (.Call (.Name "enumerate" p) [e] [] pos) (iEnumA X.K ta) := by
  refine ⟨fun pins s σ H R I h => ?_⟩
  refine Call_ (ld_blt I hg hm boot_enumerate (PyProof.Rows.callWith_type1 (thn (ha.run pos pins s σ H _ I h) fun us s1 ⟨vs, H1, I1, r1, q1⟩ => ?_) hs rfl))
  obtain ⟨b, a, xs, ex, hq, q⟩ := q1
  subst ex
  cases r1 with
  | cons r rr =>
    cases rr
    cases r
    obtain ⟨its, rv, p'⟩ := inv_seqA I1 hq
    have ha' := seqB_live p'
    refine call_enum1 (beginsB b a its.toArray) p' fun h' he hit hsz hk => wpAny_pyIter_enum he ?_
    have I2 : Inv X pins σ H1 { s1 with heap := h' } := I1.kept (t' := s1.toks) hk
    refine ⟨s1.heap.objs.size + 1, [s1.heap.objs.size + 1, s1.heap.objs.size], _, _, H1, rfl, I2, turn_enumA b a (s1.heap.objs.size + 1) s1.heap.objs.size (Nat.succ_ne_self _) (Nat.ne_of_lt (Nat.lt_succ_of_lt ha')) (Nat.ne_of_lt ha'), ⟨⟨.none, he⟩, itA_new hit⟩, fun c hb => ?_, q⟩
    have hle : s1.heap.objs.size ≤ c := by
      rcases (by simpa using hb : c = s1.heap.objs.size + 1 ∨ c = s1.heap.objs.size) with z | z
      · rw [z]; exact Nat.le_add_right _ _
      · rw [z]; exact Nat.le_refl _
    exact I1.fpOk hle (I1.hok.fresh hle)

def ItzA (K : PySem.W.Frag) (b c : Bool) (p q : Addr) : It :=
  ⟨fun i H => ∃ (xs ys : List V) (x y : V), SqA K H b p xs ∧ SqA K H c q ys ∧ xs[i]? = some x ∧ ys[i]? = some y,
    fun i H v H' => ∃ T x y, v = .ref T ∧ H T = none ∧ H' = L2.upd H T (.tup [x, y]) ∧ (∀ xs, SqA K H b p xs → xs[i]? = some x) ∧ ∀ ys, SqA K H c q ys → ys[i]? = some y,
    fun i H => ∃ xs ys : List V, SqA K H b p xs ∧ SqA K H c q ys ∧ i ≤ xs.length ∧ i ≤ ys.length ∧ (i = xs.length ∨ i = ys.length)⟩
theorem turn_zipB {P : Program} {w : World} {K : PySem.W.Frag} {elts : List Expr} {kk : Nat} {tpos : Pos} {b c : Bool} {p q z TI TO i1 i2 : Addr} (D : ZipSep2 z TI TO i1 i2 [i1, p] [i2, q]) (n1 : p ≠ i1) (n2 : q ≠ i2) :
    Turn P w K (.Tuple elts kk tpos) (ItzA K b c p q) [z, TI, TO, i1, i2] z (fun i h => IsZip h z TI TO .none ∧ IsTupOf2 h TI (.ref i1) (.ref i2) ∧ (∃ x y, IsTupOf2 h TO x y) ∧ ItA h b i1 p i ∧ ItA h c i2 q i) where
  mem := by simp
  obj := fun i h st k hk => by
    obtain ⟨hz, hTI, ⟨x, y, hTO⟩, h1, h2⟩ := st
    rcases (by simpa using hk : k = z ∨ k = TI ∨ k = TO ∨ k = i1 ∨ k = i2) with e | e | e | e | e
    · rw [e]; exact ⟨_, hz, fun v q => nomatch q⟩
    · rw [e]; exact ⟨_, hTI, fun v q => nomatch q⟩
    · rw [e]; exact ⟨_, hTO, fun v q => nomatch q⟩
    · rw [e]; exact h1.ob
    · rw [e]; exact h2.ob
  keep := fun i h h' st k => by
    obtain ⟨hz, hTI, ⟨x, y, hTO⟩, h1, h2⟩ := st
    exact ⟨k z (by simp) _ hz, k TI (by simp) _ hTI, ⟨x, y, k TO (by simp) _ hTO⟩, h1.at' fun o q => k i1 (by simp) o q, h2.at' fun o q => k i2 (by simp) o q⟩
  item := by
    intro X hP hw hK hc i pins s σ H E I hf st hg
    subst hP hw hK
    obtain ⟨hz, hTI, ⟨x0, y0, hTO⟩, h1, h2⟩ := st
    obtain ⟨xs, ys, x, y, hqx, hqy, hx, hy⟩ := hg
    obtain ⟨its, rv, p1⟩ := inv_seqA I hqx
    obtain ⟨its2, rv2, p2⟩ := inv_seqA I hqy
    obtain ⟨u, hu, ru⟩ := rv.get hx
    obtain ⟨u2, hu2, ru2⟩ := rv2.get hy
    have hlt : i < its.toArray.size := by
      have := (List.getElem?_eq_some_iff.mp hu).1
      simpa using this
    have hlt2 : i < its2.toArray.size := by
      have := (List.getElem?_eq_some_iff.mp hu2).1
      simpa using this
    have hzl : z < s.heap.objs.size := Heap.lt_size hz
    refine wpAny_pyNext_zipD2_item D (drawsB (A := X.A.in1) (I.ok.hd hc) b i1 p n1 its.toArray) (drawsB (A := X.A.in1) (I.ok.hd hc) c i2 q n2 its2.toArray) hz hTI hTO ⟨h1, p1⟩ ⟨h2, p2⟩ hlt hlt2 fun y1 y2 h' tk e1 e2 z' TO' s1 s2 hT hsz hk => ?_
    have hyu : y1 = u := by
      have h1 : its[i]? = some y1 := by simpa using e1
      rw [hu] at h1; exact (Option.some.inj h1).symm
    have hyu2 : y2 = u2 := by
      have h1 : its2[i]? = some y2 := by simpa using e2
      rw [hu2] at h1; exact (Option.some.inj h1).symm
    subst hyu hyu2
    refine ⟨_, rfl, wpAny_letOwnedTupleGo_zip (s := { s with heap := h', toks := tk }) z' fun h'' z'' sb => ?_⟩
    have hT2 : h''.get? s.heap.objs.size = some { cls := .type "tuple", data := .seq #[y1, y2] } := (sb.2 _ (Nat.ne_of_gt hzl)).trans hT
    have new : ObjOk X.prog X.w (L2.upd H s.heap.objs.size (.tup [x, y])) h'' s.heap.objs.size (.tup [x, y]) :=
      ⟨by show 2 ≤ sizeLine; decide, [y1, y2], .cons ru (.cons ru2 .nil), ⟨_, hT2, rfl, _, rfl⟩⟩
    have I1 : Inv X pins σ (L2.upd H s.heap.objs.size (.tup [x, y])) { s with heap := h'', toks := tk } :=
      I.turnedNew (t' := tk) (ch := [z, TI, TO, i1, i2]) (fun k o hb q => (sb.2 k (fun q' => hb (by simp [q']))).trans (hk k o (fun q' => hb (by simp [q'])) (fun q' => hb (by simp [q'])) (fun q' => hb (by simp [q'])) (fun q' => hb (by simp [q'])) q)) hf (Nat.le_refl _) new
    have TIi1 := D.TIi1
    have TIi2 := D.TIi2
    refine ⟨.ref s.heap.objs.size, _, I1, rfl, ⟨_, x, y, rfl, I.hok.fresh (Nat.le_refl _), rfl, fun l hl => by rw [inv_injA I hl hqx]; exact hx, fun l hl => by rw [inv_injA I hl hqy]; exact hy⟩, ⟨z'', ?_, ⟨y1, y2, ?_⟩, ?_, ?_⟩, fun k hk' => ?_⟩
    · exact (sb.2 _ D.TIz).trans (hk _ _ D.TIz D.TITO TIi1 TIi2 hTI)
    · exact (sb.2 _ D.TOz).trans TO'
    · exact s1.1.at' fun o q => (sb.2 _ (Ne.symm D.zi1)).trans q
    · exact s2.1.at' fun o q => (sb.2 _ (Ne.symm D.zi2)).trans q
    · have hlt : k < s.heap.objs.size := by
        rcases (by simpa using hk' : k = z ∨ k = TI ∨ k = TO ∨ k = i1 ∨ k = i2) with e | e | e | e | e
        · rw [e]; exact hzl
        · rw [e]; exact Heap.lt_size hTI
        · rw [e]; exact Heap.lt_size hTO
        · rw [e]; obtain ⟨_, e1, _⟩ := h1.ob; exact Heap.lt_size e1
        · rw [e]; obtain ⟨_, e2, _⟩ := h2.ob; exact Heap.lt_size e2
      rw [upd_ne (Nat.ne_of_lt hlt)]
      exact (hf k hk').1
  done := by
    intro X hP hw hK hc i pins s σ H E I hf st hg
    subst hP hw hK
    obtain ⟨hz, hTI, ⟨x0, y0, hTO⟩, h1, h2⟩ := st
    obtain ⟨xs, ys, hqx, hqy, l1, l2, hend⟩ := hg
    obtain ⟨its, rv, p1⟩ := inv_seqA I hqx
    obtain ⟨its2, rv2, p2⟩ := inv_seqA I hqy
    have e1 := rv.length
    have e2 := rv2.length
    exact wpAny_pyNext_zipD2_end D (drawsB (A := X.A.in1) (I.ok.hd hc) b i1 p n1 its.toArray) (drawsB (A := X.A.in1) (I.ok.hd hc) c i2 q n2 its2.toArray) hz hTI hTO ⟨h1, p1⟩ ⟨h2, p2⟩ (by simp; omega) (by simp; omega) (by simp; omega) fun h' tk hk =>
      ⟨rfl, I.turnedL (t' := tk) (ch := [z, TI, TO, i1, i2]) (fun k o hb q => hk k o (fun q' => hb (by simp [q'])) (fun q' => hb (by simp [q'])) (fun q' => hb (by simp [q'])) (fun q' => hb (by simp [q'])) q) hf⟩
  self := fun A i s Q E st h => wpAny_pyIter_zip st.1 h
def iZipB (K : PySem.W.Frag) (ta : TA) : TI := fun σ H R => ta σ H fun vs H1 => ∃ b c p q xs ys, vs = [.ref p, .ref q] ∧ SqA K H1 b p xs ∧ SqA K H1 c q ys ∧ R (ItzA K b c p q) H1
theorem pi_zipB {X : Cx} {e e2 : Expr} {ta : TA} {p pos tpos : Pos} {elts : List Expr} {kk : Nat} (hg : Gl X "zip") (hm : X.mg "zip" = none) (ha : PA X [e, e2] ta)
    (hs : starEach [e, e2] X.env = (false, eval e X.env) :: starEach [e2] X.env := by rfl) (hpl : (backTo pos (starEach [e2] X.env)).any (·.1) = false := by rfl) :
    PI X (.Tuple elts kk tpos) (.Call (.Name "zip" p) [e, e2] [] pos) (iZipB X.K ta) := by
  refine ⟨fun pins s σ H R I h => ?_⟩
  refine Call_ (ld_blt I hg hm PyProof.Rows.boot_zip (PyProof.Rows.callWith_type1 (thn (ha.run pos pins s σ H _ I h) fun us s1 ⟨vs, H1, I1, r1, q1⟩ => ?_) hs hpl))
  obtain ⟨b, c, p, q, xs, ys, ex, hqx, hqy, q1⟩ := q1
  subst ex
  cases r1 with
  | cons r rr =>
    cases rr with
    | cons r' rr =>
      cases rr
      cases r
      cases r'
      obtain ⟨its, rv, p1⟩ := inv_seqA I1 hqx
      obtain ⟨its2, rv2, p2⟩ := inv_seqA I1 hqy
      have l1 := seqB_live p1
      have l2 := seqB_live p2
      have sep : ZipSep2 (s1.heap.objs.size + 4) (s1.heap.objs.size + 2) (s1.heap.objs.size + 3) s1.heap.objs.size (s1.heap.objs.size + 1) [s1.heap.objs.size, p] [s1.heap.objs.size + 1, q] :=
        zip_sep2 (fp1 := [p]) (fp2 := [q]) (fun k hk => by rw [List.mem_singleton.mp hk]; exact l1) (fun k hk => by rw [List.mem_singleton.mp hk]; exact l2)
      refine zip_begins2 (beginsB b p its.toArray) (beginsB c q its2.toArray) p1 p2 fun h' hz hTI hTO h1 h2 hsz hk => wpAny_pyIter_zip hz ?_
      have I2 : Inv X pins σ H1 { s1 with heap := h' } := I1.kept (t' := s1.toks) hk
      refine ⟨s1.heap.objs.size + 4, [s1.heap.objs.size + 4, s1.heap.objs.size + 2, s1.heap.objs.size + 3, s1.heap.objs.size, s1.heap.objs.size + 1], _, _, H1, rfl, I2,
        turn_zipB sep (Nat.ne_of_lt l1) (Nat.ne_of_lt (Nat.lt_succ_of_lt l2)), ⟨hz, hTI, ⟨_, _, hTO⟩, itA_new h1, itA_new h2⟩, fun k hk' => ?_, q1⟩
      have hle : s1.heap.objs.size ≤ k := by
        rcases (by simpa using hk' : k = s1.heap.objs.size + 4 ∨ k = s1.heap.objs.size + 2 ∨ k = s1.heap.objs.size + 3 ∨ k = s1.heap.objs.size ∨ k = s1.heap.objs.size + 1) with z | z | z | z | z
        · rw [z]; exact Nat.le_add_right _ _
        · rw [z]; exact Nat.le_add_right _ _
        · rw [z]; exact Nat.le_add_right _ _
        · rw [z]; exact Nat.le_refl _
        · rw [z]; exact Nat.le_add_right _ _
      exact I1.fpOk hle (I1.hok.fresh hle)

/-! their pure side -/
def enL (ds : List D) : List D := ds.mapIdx fun i d => .tup [.int (i : Nat), d]
def zpL (xs ys : List D) : List D := List.zipWith (fun x y => .tup [x, y]) xs ys
def enD : List D → Option (List D)
  | [d] => (seqD d).map enL
  | _ => none
def zpD : List D → Option (List D)
  | [d, e] => match seqD d, seqD e with
    | some xs, some ys => some (zpL xs ys)
    | _, _ => none
  | _ => none
section
variable {K : PySem.W.Frag} {pd : Option PD} {F H : Hp}
theorem seqS {d : D} {v : V} {ds : List D} (r : Rep K pd F d v) (e : seqD d = some ds) : ∃ b a xs, v = .ref a ∧ ds.length ≤ SZ ∧ ∀ F1 H1, Same F F1 → Same F1 H1 → SqA K H1 b a xs ∧ RepL K pd F1 ds xs := by
  cases d <;> first | (cases e; done) | skip
  · cases e
    simp only [Rep] at r
    obtain ⟨a, xs, rfl, t1, hl, r⟩ := r
    exact ⟨true, a, xs, rfl, hl, fun F1 H1 f1 f2 => ⟨sqT_mono f2 (sqT_mono f1 t1), r.mono f1⟩⟩
  · cases e
    simp only [Rep] at r
    obtain ⟨a, xs, rfl, t1, hl, r⟩ := r
    exact ⟨false, a, xs, rfl, hl, fun F1 H1 f1 f2 => ⟨.of (f2 _ _ (f1 _ _ t1)), r.mono f1⟩⟩
theorem seqW {d : D} {v : V} {ds : List D} (r : RepB K pd F H d v) (e : seqD d = some ds) : ∃ b a xs, v = .ref a ∧ ds.length ≤ SZ ∧ ∀ F1 H1, Ext pd F H F1 H1 → SqA K H1 b a xs ∧ RepL K pd F1 ds xs := by
  rcases r with r | ⟨p, es, xs, rfl, rfl, h3, h4, h5, h6, h7⟩
  · obtain ⟨b, a, xs, h1, h2, h3⟩ := seqS r e
    exact ⟨b, a, xs, h1, h2, fun F1 H1 x => h3 F1 H1 x.ff x.fh⟩
  · cases e
    exact ⟨false, p, xs, rfl, h6, fun F1 H1 x => ⟨.of (x.hh _ _ h3 h4), h7.mono x.ff⟩⟩
theorem walk_en {G : Hp → Hp → Prop} {b : Bool} {a : Addr} {xs : List V} {ds : List D} (hG : ∀ F1 H1, G F1 H1 → Same F1 H1 ∧ SqA K H1 b a xs ∧ RepL K pd F1 ds xs) (i : Nat) (F1 H1 : Hp) (g : G F1 H1) :
    (∀ d, (enL ds)[i]? = some d → (IteA K b a).go i H1 ∧ ∀ x H2, (IteA K b a).yld i H1 x H2 → ∃ F2, Ext none F1 H1 F2 H2 ∧ Rep K pd F2 d x) ∧ (i = (enL ds).length → (IteA K b a).stop i H1) := by
  obtain ⟨fh, h1, h2⟩ := hG F1 H1 g
  refine ⟨fun d hd => ?_, fun e => ⟨xs, h1, by rw [h2.length, e]; simp [enL]⟩⟩
  unfold enL at hd
  rw [List.getElem?_mapIdx] at hd
  cases hdd : ds[i]? with
  | none => rw [hdd] at hd; cases hd
  | some d0 =>
    rw [hdd] at hd
    have hd := (Option.some.inj hd).symm
    subst hd
    obtain ⟨y, hy, ry⟩ := h2.get hdd
    refine ⟨⟨xs, y, h1, hy⟩, fun x H2 ⟨T, z, e1, e2, e3, e4⟩ => ?_⟩
    subst e1 e3
    have := e4 xs h1
    rw [hy] at this; cases this
    have x2 := Ext.new (o := .tup [V.int (i : Nat), y]) fh e2
    refine ⟨_, x2, ?_⟩
    simp only [Rep]
    exact ⟨T, _, rfl, .of upd_same, (by show 2 ≤ sizeLine; decide), .cons (by simp [Rep]) (.cons (ry.mono x2.ff) .nil)⟩
theorem walk_zp {G : Hp → Hp → Prop} {b c : Bool} {p q : Addr} {xs ys : List V} {ds es : List D} (hG : ∀ F1 H1, G F1 H1 → Same F1 H1 ∧ (SqA K H1 b p xs ∧ RepL K pd F1 ds xs) ∧ SqA K H1 c q ys ∧ RepL K pd F1 es ys) (i : Nat) (F1 H1 : Hp) (g : G F1 H1) :
    (∀ d, (zpL ds es)[i]? = some d → (ItzA K b c p q).go i H1 ∧ ∀ x H2, (ItzA K b c p q).yld i H1 x H2 → ∃ F2, Ext none F1 H1 F2 H2 ∧ Rep K pd F2 d x) ∧ (i = (zpL ds es).length → (ItzA K b c p q).stop i H1) := by
  obtain ⟨fh, ⟨h1, h2⟩, h3, h4⟩ := hG F1 H1 g
  refine ⟨fun d hd => ?_, fun e => ⟨xs, ys, h1, h3, ?_⟩⟩
  · unfold zpL at hd
    rw [List.getElem?_zipWith] at hd
    cases hdd : ds[i]? with
    | none => rw [hdd] at hd; cases hd
    | some d0 =>
      cases hee : es[i]? with
      | none => rw [hdd, hee] at hd; cases hd
      | some e0 =>
        rw [hdd, hee] at hd
        have hd := (Option.some.inj hd).symm
        subst hd
        obtain ⟨y, hy, ry⟩ := h2.get hdd
        obtain ⟨y', hy', ry'⟩ := h4.get hee
        refine ⟨⟨xs, ys, y, y', h1, h3, hy, hy'⟩, fun x H2 ⟨T, z, z', e1, e2, e3, e4, e5⟩ => ?_⟩
        subst e1 e3
        have a1 := e4 xs h1
        rw [hy] at a1; cases a1
        have a2 := e5 ys h3
        rw [hy'] at a2; cases a2
        have x2 := Ext.new (o := .tup [y, y']) fh e2
        refine ⟨_, x2, ?_⟩
        simp only [Rep]
        exact ⟨T, _, rfl, .of upd_same, (by show 2 ≤ sizeLine; decide), .cons (ry.mono x2.ff) (.cons (ry'.mono x2.ff) .nil)⟩
  · have : (zpL ds es).length = min ds.length es.length := by simp [zpL]
    rw [this] at e
    rw [h2.length, h4.length]
    omega
end
section
variable {ι : Type} {X : ι → Cx} {P : Program} {w : World} {K : PySem.W.Frag} {mg : Str → Option Value} {base : Heap} {N : List Str} {lv : Nat} {pos : Pos} {a b c e : Expr} {es elts : List Expr} {f fa fb fc : EF} {g : AF} {kk : Nat} {tpos p : Pos}
theorem iEnE (C : Fam X P w K mg base N lv) (hm : mg "enumerate" = none) (h : CA X K [a] g) (hg : ∀ i, Gl (X i) "enumerate" := by intro _; rfl) (hs : ∀ i, starEach [a] (X i).env = [(false, eval a (X i).env)] := by intro _; rfl) :
    CI X K (.Tuple elts kk tpos) (.Call (.Name "enumerate" p) [a] [] pos) (iRg enD g) := by
  obtain ⟨t, h1, h2⟩ := h
  refine ⟨iEnumA K t, fun i => by have := pi_enumA (pos := pos) (p := p) (elts := elts) (kk := kk) (tpos := tpos) (hg i) (by rw [C.m i]; exact hm) (h1 i) (hs i); rw [C.k i] at this; exact this, fun pd F0 H0 F H ρ σ s d s' o e R q => ?_⟩
  obtain ⟨xs, s1, e1, e⟩ := Mb_eq e
  obtain ⟨e2, rfl⟩ := Mo_eq e
  refine h2 pd F0 H0 F H ρ σ s xs s1 o e1 _ fun vs F1 H1 x1 d1 r1 => ?_
  have fh := (o.step x1 d1).fh
  unfold enD at e2
  split at e2
  · rename_i d0
    obtain ⟨y, ys, rfl, h3, h4⟩ := r1.cases
    have := h4.cases0; subst this
    cases h5 : seqD d0 with
    | none => rw [h5] at e2; cases e2
    | some ds =>
      rw [h5] at e2; cases e2
      obtain ⟨b, a, zs, rfl, hl, k⟩ := seqS h3 h5
      exact ⟨b, a, zs, rfl, (k F1 H1 (Same.refl _) fh).1, q _ F1 H1 x1 d1 ⟨by simp [enL]; exact hl, fun i F2 H2 f2 f3 => walk_en (G := fun F2 H2 => Same F1 F2 ∧ Same F2 H2) (fun F2 H2 g => ⟨g.2, k F2 H2 g.1 g.2⟩) i F2 H2 ⟨f2, f3⟩⟩⟩
  · cases e2
theorem iEnB (C : Fam X P w K mg base N lv) (hm : mg "enumerate" = none) (h : CAB X K [a] g) (hg : ∀ i, Gl (X i) "enumerate" := by intro _; rfl) (hs : ∀ i, starEach [a] (X i).env = [(false, eval a (X i).env)] := by intro _; rfl) :
    CIW X K (.Tuple elts kk tpos) (.Call (.Name "enumerate" p) [a] [] pos) (iRg enD g) := by
  obtain ⟨t, h1, h2⟩ := h
  refine ⟨iEnumA K t, fun i => by have := pi_enumA (pos := pos) (p := p) (elts := elts) (kk := kk) (tpos := tpos) (hg i) (by rw [C.m i]; exact hm) (h1 i) (hs i); rw [C.k i] at this; exact this, fun pd F0 H0 F H ρ σ s d s' o e R q => ?_⟩
  obtain ⟨xs, s1, e1, e⟩ := Mb_eq e
  obtain ⟨e2, rfl⟩ := Mo_eq e
  refine h2 pd F0 H0 F H ρ σ s xs s1 o e1 _ fun vs F1 H1 x1 d1 r1 => ?_
  have fh := (o.step x1 d1).fh
  unfold enD at e2
  split at e2
  · rename_i d0
    cases r1 with
    | cons h3 h4 =>
      cases h4
      cases h5 : seqD d0 with
      | none => rw [h5] at e2; cases e2
      | some ds =>
        rw [h5] at e2; cases e2
        obtain ⟨b, a, zs, rfl, hl, k⟩ := seqW h3 h5
        exact ⟨b, a, zs, rfl, (k F1 H1 (.refl fh)).1, q _ F1 H1 x1 d1 ⟨by simp [enL]; exact hl, fun i F2 H2 f2 => walk_en (G := fun F2 H2 => Ext pd F1 H1 F2 H2) (fun F2 H2 g => ⟨g.fh, k F2 H2 g⟩) i F2 H2 f2⟩⟩
  · cases e2
theorem iZpE (C : Fam X P w K mg base N lv) (hm : mg "zip" = none) (h : CA X K [a, b] g) (hg : ∀ i, Gl (X i) "zip" := by intro _; rfl) (hs : ∀ i, starEach [a, b] (X i).env = (false, eval a (X i).env) :: starEach [b] (X i).env := by intro _; rfl)
    (hpl : ∀ i, (backTo pos (starEach [b] (X i).env)).any (·.1) = false := by intro _; rfl) : CI X K (.Tuple elts kk tpos) (.Call (.Name "zip" p) [a, b] [] pos) (iRg zpD g) := by
  obtain ⟨t, h1, h2⟩ := h
  refine ⟨iZipB K t, fun i => by have := pi_zipB (pos := pos) (p := p) (elts := elts) (kk := kk) (tpos := tpos) (hg i) (by rw [C.m i]; exact hm) (h1 i) (hs i) (hpl i); rw [C.k i] at this; exact this, fun pd F0 H0 F H ρ σ s d s' o e R q => ?_⟩
  obtain ⟨xs, s1, e1, e⟩ := Mb_eq e
  obtain ⟨e2, rfl⟩ := Mo_eq e
  refine h2 pd F0 H0 F H ρ σ s xs s1 o e1 _ fun vs F1 H1 x1 d1 r1 => ?_
  have fh := (o.step x1 d1).fh
  unfold zpD at e2
  split at e2
  · rename_i d0 d1'
    obtain ⟨y, ys, rfl, h3, h4⟩ := r1.cases
    obtain ⟨y', ys', rfl, h3', h4'⟩ := h4.cases
    have := h4'.cases0; subst this
    cases h5 : seqD d0 with
    | none => rw [h5] at e2; cases e2
    | some ds =>
      cases h6 : seqD d1' with
      | none => rw [h5, h6] at e2; cases e2
      | some ds' =>
        rw [h5, h6] at e2; cases e2
        obtain ⟨b, a, zs, rfl, hl, k⟩ := seqS h3 h5
        obtain ⟨b', a', zs', rfl, hl', k'⟩ := seqS h3' h6
        exact ⟨b, b', a, a', zs, zs', rfl, (k F1 H1 (Same.refl _) fh).1, (k' F1 H1 (Same.refl _) fh).1, q _ F1 H1 x1 d1 ⟨by simp [zpL]; omega, fun i F2 H2 f2 f3 => walk_zp (G := fun F2 H2 => Same F1 F2 ∧ Same F2 H2) (fun F2 H2 g => ⟨g.2, k F2 H2 g.1 g.2, k' F2 H2 g.1 g.2⟩) i F2 H2 ⟨f2, f3⟩⟩⟩
  · cases e2
theorem iZpB (C : Fam X P w K mg base N lv) (hm : mg "zip" = none) (h : CAB X K [a, b] g) (hg : ∀ i, Gl (X i) "zip" := by intro _; rfl) (hs : ∀ i, starEach [a, b] (X i).env = (false, eval a (X i).env) :: starEach [b] (X i).env := by intro _; rfl)
    (hpl : ∀ i, (backTo pos (starEach [b] (X i).env)).any (·.1) = false := by intro _; rfl) : CIW X K (.Tuple elts kk tpos) (.Call (.Name "zip" p) [a, b] [] pos) (iRg zpD g) := by
  obtain ⟨t, h1, h2⟩ := h
  refine ⟨iZipB K t, fun i => by have := pi_zipB (pos := pos) (p := p) (elts := elts) (kk := kk) (tpos := tpos) (hg i) (by rw [C.m i]; exact hm) (h1 i) (hs i) (hpl i); rw [C.k i] at this; exact this, fun pd F0 H0 F H ρ σ s d s' o e R q => ?_⟩
  obtain ⟨xs, s1, e1, e⟩ := Mb_eq e
  obtain ⟨e2, rfl⟩ := Mo_eq e
  refine h2 pd F0 H0 F H ρ σ s xs s1 o e1 _ fun vs F1 H1 x1 d1 r1 => ?_
  have fh := (o.step x1 d1).fh
  unfold zpD at e2
  split at e2
  · rename_i d0 d1'
    cases r1 with
    | cons h3 h4 =>
      cases h4 with
      | cons h3' h4' =>
        cases h4'
        cases h5 : seqD d0 with
        | none => rw [h5] at e2; cases e2
        | some ds =>
          cases h6 : seqD d1' with
          | none => rw [h5, h6] at e2; cases e2
          | some ds' =>
            rw [h5, h6] at e2; cases e2
            obtain ⟨b, a, zs, rfl, hl, k⟩ := seqW h3 h5
            obtain ⟨b', a', zs', rfl, hl', k'⟩ := seqW h3' h6
            exact ⟨b, b', a, a', zs, zs', rfl, (k F1 H1 (.refl fh)).1, (k' F1 H1 (.refl fh)).1, q _ F1 H1 x1 d1 ⟨by simp [zpL]; omega, fun i F2 H2 f2 => walk_zp (G := fun F2 H2 => Ext pd F1 H1 F2 H2) (fun F2 H2 g => ⟨g.fh, k F2 H2 g, k' F2 H2 g⟩) i F2 H2 f2⟩⟩
  · cases e2
end
end Pu
namespace Pu
open PySem PySem.Spec PyProof.Rows L2

theorem blk_sc {ι : Type} {X : ι → Cx} {sc : Scope} {b : BlkI ι} : (blkF X sc b).env.scope = L2.relS sc (X b.i).env.scope := rfl
theorem ent_sc {P : Program} {w : World} {K : PySem.W.Frag} {mg : Str → Option Value} {base : Heap} {N : List Str} {k : Nat} {qual : Str} {scope : Scope} {f : Addr} {i : EntI k qual scope f} : (entF P w K mg base N k qual scope f i).env.scope = scope := rfl
theorem bt_len : bootBuiltins "len" = some (.builtin "len") := by decide +kernel
theorem bt_sum : bootBuiltins "sum" = some (.builtin "sum") := by decide +kernel
theorem bt_min : bootBuiltins "min" = some (.builtin "min") := by decide +kernel
theorem bt_max : bootBuiltins "max" = some (.builtin "max") := by decide +kernel
theorem bt_all : bootBuiltins "all" = some (.builtin "all") := by decide +kernel
theorem bt_any : bootBuiltins "any" = some (.builtin "any") := by decide +kernel
theorem bt_abs : bootBuiltins "abs" = some (.builtin "abs") := by decide +kernel
theorem bt_sorted : bootBuiltins "sorted" = some (.builtin "sorted") := by decide +kernel
theorem bt_tuple : bootBuiltins "tuple" = some (.type "tuple") := by decide +kernel
theorem bt_list : bootBuiltins "list" = some (.type "list") := by decide +kernel
theorem bt_int : bootBuiltins "int" = some (.type "int") := by decide +kernel
theorem roomU {lv : Nat} {A : Around} (r : Room lv A) : A.units + 200 < cLine := by have := r.un; omega

/-! ### D and the library's data -/
mutual
theorem toP_inj : ∀ {x y : D}, clean x = true → clean y = true → toP x = toP y → x = y
  | .non, y, _, c, e => by cases y <;> simp [toP] at e <;> first | rfl | simp [clean] at c
  | .bl a, y, _, c, e => by cases y <;> simp [toP] at e <;> first | (rw [e]; done) | simp [clean] at c
  | .int a, y, _, c, e => by cases y <;> simp [toP] at e <;> first | (rw [e]; done) | simp [clean] at c
  | .str a, y, _, c, e => by cases y <;> simp [toP] at e <;> first | (rw [e]; done) | simp [clean] at c
  | .rng, y, c, _, e => by simp [clean] at c
  | .tup a, y, c, c', e => by
    cases y <;> simp [toP] at e
    rw [toPs_inj (by simpa only [clean] using c) (by simpa only [clean] using c') e]
  | .lst a, y, c, c', e => by
    cases y <;> simp [toP] at e
    rw [toPs_inj (by simpa only [clean] using c) (by simpa only [clean] using c') e]
theorem toPs_inj : ∀ {x y : List D}, cleanL x = true → cleanL y = true → toPs x = toPs y → x = y
  | [], [], _, _, _ => rfl
  | [], _ :: _, _, _, e => by simp [toPs] at e
  | _ :: _, [], _, _, e => by simp [toPs] at e
  | a :: as, b :: bs, c, c', e => by
    simp only [toPs, List.cons.injEq] at e
    simp only [cleanL, Bool.and_eq_true] at c c'
    rw [toP_inj c.1 c'.1 e.1, toPs_inj c.2 c'.2 e.2]
end
theorem cleanL_all : ∀ {ds : List D}, cleanL ds = true ↔ ∀ d ∈ ds, clean d = true
  | [] => by simp [cleanL]
  | d :: ds => by simp [cleanL, cleanL_all (ds := ds)]

/-! ### order -/
def ordOk (x y : D) : Bool := cmpOk x && cmpOk y && PySem.W.alike (toP x) (toP y) && !isNonD x
def ltA (x y : D) : Option D := if ordOk x y = true then some (.bl (PySem.W.dataLt (toP x) (toP y))) else none
def gtA (x y : D) : Option D := if ordOk x y = true then some (.bl (PySem.W.dataLt (toP y) (toP x))) else none
def leA (x y : D) : Option D := if ordOk x y = true then some (.bl (!PySem.W.dataLt (toP y) (toP x))) else none
def geA (x y : D) : Option D := if ordOk x y = true then some (.bl (!PySem.W.dataLt (toP x) (toP y))) else none
theorem ordOk_ii (a b : Int) : ordOk (.int a) (.int b) = true := by simp [ordOk, cmpOk, clean, toP, SeqAt.shaped, PyData.canLay0, PyData.depth, PySem.W.alike, isNonD]
@[simp] theorem ltA_ii (a b : Int) : ltA (.int a) (.int b) = some (.bl (decide (a < b))) := by unfold ltA; rw [if_pos (ordOk_ii a b)]; simp [toP, PySem.W.dataLt_int]
@[simp] theorem gtA_ii (a b : Int) : gtA (.int a) (.int b) = some (.bl (decide (b < a))) := by unfold gtA; rw [if_pos (ordOk_ii a b)]; simp [toP, PySem.W.dataLt_int]
@[simp] theorem leA_ii (a b : Int) : leA (.int a) (.int b) = some (.bl (decide (a ≤ b))) := by unfold leA; rw [if_pos (ordOk_ii a b)]; simp only [toP, PySem.W.dataLt_int, ← decide_not]; exact congrArg (fun z => some (D.bl z)) (decide_eq_decide.mpr (by omega))
@[simp] theorem geA_ii (a b : Int) : geA (.int a) (.int b) = some (.bl (decide (b ≤ a))) := by unfold geA; rw [if_pos (ordOk_ii a b)]; simp only [toP, PySem.W.dataLt_int, ← decide_not]; exact congrArg (fun z => some (D.bl z)) (decide_eq_decide.mpr (by omega))
def rOrd (K : PySem.W.Frag) (f : PyData → PyData → Bool) : R2 := fun x y H Q => ∃ d e, Dp K H x d ∧ Dp K H y e ∧ PySem.W.alike d e = true ∧ d ≠ .none ∧ d.depth ≤ 64 ∧ Q (.bl (f d e)) H
section
variable {X : Cx} {K : PySem.W.Frag}
theorem dmin {d e : PyData} (h : d.depth ≤ 64) : min d.depth e.depth ≤ 64 := Nat.le_trans (Nat.min_le_left _ _) h
theorem op_ltA (hk : X.K = K) (hu : X.A.units + 200 < cLine) : OpR X (compareOp .Lt) (rOrd K fun d e => PySem.W.dataLt d e) := by
  subst hk
  intro pins s σ H x y v u Q I rx ry ⟨d, e, hd, he, ha, hn, hz, q⟩
  obtain ⟨as, r1⟩ := Dp.reads I d x v hd rx
  obtain ⟨bs, r2⟩ := Dp.reads I e y u he ry
  have := dmin (e := e) hz
  exact PySem.W.lt_data r1 r2 ha hn (by omega) ⟨.bl _, H, I, rfl, q⟩
theorem op_gtA (hk : X.K = K) (hu : X.A.units + 200 < cLine) : OpR X (compareOp .Gt) (rOrd K fun d e => PySem.W.dataLt e d) := by
  subst hk
  intro pins s σ H x y v u Q I rx ry ⟨d, e, hd, he, ha, hn, hz, q⟩
  obtain ⟨as, r1⟩ := Dp.reads I d x v hd rx
  obtain ⟨bs, r2⟩ := Dp.reads I e y u he ry
  have := dmin (e := e) hz
  exact PySem.W.gt_data r1 r2 ha hn (by omega) ⟨.bl _, H, I, rfl, q⟩
theorem op_leA (hk : X.K = K) (hu : X.A.units + 200 < cLine) : OpR X (compareOp .LtE) (rOrd K fun d e => !PySem.W.dataLt e d) := by
  subst hk
  intro pins s σ H x y v u Q I rx ry ⟨d, e, hd, he, ha, hn, hz, q⟩
  obtain ⟨as, r1⟩ := Dp.reads I d x v hd rx
  obtain ⟨bs, r2⟩ := Dp.reads I e y u he ry
  have := dmin (e := e) hz
  exact PySem.W.le_data r1 r2 ha hn (by omega) ⟨.bl _, H, I, rfl, q⟩
theorem op_geA (hk : X.K = K) (hu : X.A.units + 200 < cLine) : OpR X (compareOp .GtE) (rOrd K fun d e => !PySem.W.dataLt d e) := by
  subst hk
  intro pins s σ H x y v u Q I rx ry ⟨d, e, hd, he, ha, hn, hz, q⟩
  obtain ⟨as, r1⟩ := Dp.reads I d x v hd rx
  obtain ⟨bs, r2⟩ := Dp.reads I e y u he ry
  have := dmin (e := e) hz
  exact PySem.W.ge_data r1 r2 ha hn (by omega) ⟨.bl _, H, I, rfl, q⟩
theorem v_ord {f : PyData → PyData → Bool} {gg : D → D → Option D} (hg : ∀ x y, gg x y = if ordOk x y = true then some (.bl (f (toP x) (toP y))) else none) : V2 K (rOrd K f) gg := fun pd F H x y d v w fh rx ry e Q q => by
  rw [hg] at e
  split at e
  · rename_i h
    cases e
    unfold ordOk cmpOk at h
    simp only [Bool.and_eq_true, Bool.not_eq_true'] at h
    obtain ⟨⟨⟨⟨c1, s1⟩, c2, s2⟩, ha⟩, hn⟩ := h
    exact ⟨_, _, rx.dp fh c1, ry.dp fh c2, ha, by cases x <;> simp [toP, isNonD] at hn ⊢, SeqAt.depth_of_shaped s1, q _ F H (.refl fh) (by simp [Rep])⟩
  · cases e
theorem v_ltA : V2 K (rOrd K fun d e => PySem.W.dataLt d e) ltA := v_ord fun _ _ => rfl
theorem v_gtA : V2 K (rOrd K fun d e => PySem.W.dataLt e d) gtA := v_ord fun _ _ => rfl
theorem v_leA : V2 K (rOrd K fun d e => !PySem.W.dataLt e d) leA := v_ord fun _ _ => rfl
theorem v_geA : V2 K (rOrd K fun d e => !PySem.W.dataLt d e) geA := v_ord fun _ _ => rfl
theorem op_eqA (hk : X.K = K) (hu : X.A.units + 200 < cLine) : OpR X (compareOp .Eq) (rEqD K) := by subst hk; exact op_eqD (by omega)
theorem op_neA (hk : X.K = K) (hu : X.A.units + 200 < cLine) : OpR X (compareOp .NotEq) (rNeD K) := by subst hk; exact op_neD (by omega)

/-! ### in -/
def hasD (d : D) (ds : List D) : Bool := ds.any fun z => PyData.eqv (toP z) (toP d)
def inD (x y : D) : Option D := match seqD y with
  | some ds => if cmpOk x = true ∧ cmpOk y = true then some (.bl (hasD x ds)) else none
  | none => none
def ninD (x y : D) : Option D := match seqD y with
  | some ds => if cmpOk x = true ∧ cmpOk y = true then some (.bl (!hasD x ds)) else none
  | none => none
def sqP (b : Bool) (ds : List PyData) : PyData := if b = true then .tuple ds else .list ds
def rInA (K : PySem.W.Frag) (f : Bool → Bool) : R2 := fun x y H Q => ∃ b d ds, Dp K H x d ∧ Dp K H y (sqP b ds) ∧ SeqAt.shaped d = true ∧ SeqAt.shaped (sqP b ds) = true ∧ Q (.bl (f (ds.any fun z => PyData.eqv z d))) H
theorem op_inA (hk : X.K = K) (hu : X.A.units + 200 < cLine) : OpR X (compareOp .In) (rInA K id) := by
  subst hk
  intro pins s σ H x y v u Q I rx ry ⟨b, d, ds, hd, he, sd, se, q⟩
  obtain ⟨as, r1⟩ := Dp.reads I d x v hd rx
  cases b with
  | false =>
    obtain ⟨bs, r2⟩ := Dp.reads I (.list ds) y u he ry
    exact SeqAt.in_list_reads r2 r1 (SeqAt.canLay_of_shaped se) (SeqAt.canLay_of_shaped sd) (room_in_shaped sd (by omega)) ⟨.bl _, H, I, rfl, q⟩
  | true =>
    obtain ⟨bs, r2⟩ := Dp.reads I (.tuple ds) y u he ry
    exact SeqAt.in_tuple_reads r2 r1 (SeqAt.canLay_of_shaped se) (SeqAt.canLay_of_shaped sd) (room_in_shaped sd (by omega)) ⟨.bl _, H, I, rfl, q⟩
theorem op_ninA (hk : X.K = K) (hu : X.A.units + 200 < cLine) : OpR X (compareOp .NotIn) (rInA K not) := by
  subst hk
  intro pins s σ H x y v u Q I rx ry ⟨b, d, ds, hd, he, sd, se, q⟩
  obtain ⟨as, r1⟩ := Dp.reads I d x v hd rx
  cases b with
  | false =>
    obtain ⟨bs, r2⟩ := Dp.reads I (.list ds) y u he ry
    exact SeqAt.notIn_list_reads r2 r1 (SeqAt.canLay_of_shaped se) (SeqAt.canLay_of_shaped sd) (room_in_shaped sd (by omega)) ⟨.bl _, H, I, rfl, q⟩
  | true =>
    obtain ⟨bs, r2⟩ := Dp.reads I (.tuple ds) y u he ry
    exact SeqAt.notIn_tuple_reads r2 r1 (SeqAt.canLay_of_shaped se) (SeqAt.canLay_of_shaped sd) (room_in_shaped sd (by omega)) ⟨.bl _, H, I, rfl, q⟩
theorem any_toP (d : D) (ds : List D) : ((toPs ds).any fun z => PyData.eqv z (toP d)) = hasD d ds := by rw [toPs_eq, List.any_map]; rfl
theorem seq_sq {y : D} {ds : List D} (e : seqD y = some ds) : ∃ b, toP y = sqP b (toPs ds) := by
  cases y <;> first | (cases e; done) | skip
  · cases e; exact ⟨true, by simp [toP, sqP]⟩
  · cases e; exact ⟨false, by simp [toP, sqP]⟩
theorem v_inG {f : Bool → Bool} {gg : D → D → Option D} (hg : ∀ x y, gg x y = match seqD y with
    | some ds => if cmpOk x = true ∧ cmpOk y = true then some (.bl (f (hasD x ds))) else none
    | none => none) : V2 K (rInA K f) gg := fun pd F H x y d v w fh rx ry e Q q => by
  rw [hg] at e
  cases h5 : seqD y with
  | none => rw [h5] at e; cases e
  | some ds =>
    rw [h5] at e
    have e : (if cmpOk x = true ∧ cmpOk y = true then some (D.bl (f (hasD x ds))) else none) = some d := e
    split at e
    · rename_i h
      cases e
      unfold cmpOk at h
      simp only [Bool.and_eq_true] at h
      obtain ⟨⟨c1, s1⟩, c2, s2⟩ := h
      obtain ⟨b, hb⟩ := seq_sq h5
      have dy := ry.dp fh c2
      rw [hb] at dy s2
      exact ⟨b, _, _, rx.dp fh c1, dy, s1, s2, by rw [any_toP]; exact q _ F H (.refl fh) (by simp [Rep])⟩
    · cases e
theorem v_in : V2 K (rInA K id) inD := v_inG fun _ _ => rfl
theorem v_nin : V2 K (rInA K not) ninD := v_inG fun _ _ => rfl

/-! ### min, max of a sequence -/
def minA (x : D) (xs : List D) : D := xs.foldl (fun a y => if PySem.W.dataLt (toP y) (toP a) = true then y else a) x
def maxA (x : D) (xs : List D) : D := xs.foldl (fun a y => if PySem.W.dataLt (toP a) (toP y) = true then y else a) x
def allCmp (ds : List D) : Bool := (ds.all fun x => cmpOk x && !isNonD x) && ds.all fun x => ds.all fun y => PySem.W.alike (toP x) (toP y)
def onSeq {α : Type} (k : List D → Option α) : List D → Option α
  | [d] => match seqD d with
    | some ds => k ds
    | none => none
  | _ => none
def minD : List D → Option D := onSeq fun ds => match ds with
  | x :: xs => if allCmp (x :: xs) = true then some (minA x xs) else none
  | [] => none
def maxD : List D → Option D := onSeq fun ds => match ds with
  | x :: xs => if allCmp (x :: xs) = true then some (maxA x xs) else none
  | [] => none
theorem fold_toP (c : PyData → PyData → Bool) : ∀ (xs : List D) (x : D), toP (xs.foldl (fun a y => if c (toP y) (toP a) = true then y else a) x) = (toPs xs).foldl (fun a y => if c y a = true then y else a) (toP x)
  | [], x => rfl
  | y :: ys, x => by
    rw [List.foldl_cons, fold_toP c ys, toPs, List.foldl_cons]
    by_cases h : c (toP y) (toP x) = true
    · rw [if_pos h, if_pos h]
    · rw [if_neg h, if_neg h]
theorem minA_toP (x : D) (xs : List D) : toP (minA x xs) = PySem.W.minD (toP x) (toPs xs) := fold_toP (fun y a => PySem.W.dataLt y a) xs x
theorem maxA_toP (x : D) (xs : List D) : toP (maxA x xs) = PySem.W.maxD (toP x) (toPs xs) := fold_toP (fun y a => PySem.W.dataLt a y) xs x
theorem fold_mem (c : D → D → Bool) : ∀ (xs : List D) (x : D), xs.foldl (fun a y => if c y a = true then y else a) x ∈ x :: xs
  | [], x => by simp
  | y :: ys, x => by
    rw [List.foldl_cons]
    have := fold_mem c ys (if c y x = true then y else x)
    by_cases h : c y x = true
    · rw [if_pos h] at this ⊢
      exact List.mem_cons_of_mem _ this
    · rw [if_neg h] at this ⊢
      rcases List.mem_cons.mp this with z | z
      · rw [z]; simp
      · exact List.mem_cons_of_mem _ (List.mem_cons_of_mem _ z)
theorem minA_mem (x : D) (xs : List D) : minA x xs ∈ x :: xs := fold_mem (fun y a => PySem.W.dataLt (toP y) (toP a)) xs x
theorem maxA_mem (x : D) (xs : List D) : maxA x xs ∈ x :: xs := fold_mem (fun y a => PySem.W.dataLt (toP a) (toP y)) xs x
theorem allCmp_mem {ds : List D} (h : allCmp ds = true) : (∀ x ∈ ds, clean x = true ∧ SeqAt.shaped (toP x) = true ∧ isNonD x = false) ∧ ∀ x ∈ ds, ∀ y ∈ ds, PySem.W.alike (toP x) (toP y) = true := by
  unfold allCmp cmpOk at h
  simp only [Bool.and_eq_true, List.all_eq_true, Bool.not_eq_true'] at h
  exact ⟨fun x hx => ⟨(h.1 x hx).1.1, (h.1 x hx).1.2, (h.1 x hx).2⟩, h.2⟩
theorem alike_all {ds : List D} (h : allCmp ds = true) : PySem.W.AlikeAll (toPs ds) := by
  obtain ⟨h1, h2⟩ := allCmp_mem h
  rw [toPs_eq]
  refine ⟨fun x hx y hy => ?_, fun x hx => ?_⟩
  · obtain ⟨a, ha, rfl⟩ := List.mem_map.mp hx
    obtain ⟨b, hb, rfl⟩ := List.mem_map.mp hy
    exact h2 a ha b hb
  · obtain ⟨a, ha, rfl⟩ := List.mem_map.mp hx
    have := (h1 a ha).2.2
    cases a <;> simp [toP, isNonD] at this ⊢
theorem depthAll_le : ∀ {ds : List D}, (∀ x ∈ ds, SeqAt.shaped (toP x) = true) → PyData.depthAll (toPs ds) ≤ 64
  | [], _ => by simp [toPs, PyData.depthAll]
  | d :: ds, h => by
    have h1 := SeqAt.depth_of_shaped (h d (by simp))
    have h2 := depthAll_le (ds := ds) fun x hx => h x (by simp [hx])
    simp only [toPs, PyData.depthAll]
    omega
def rBest (K : PySem.W.Frag) (f : PyData → List PyData → PyData) : List V → Hp → VK → Prop := fun vs H Q => ∃ b a xs d ds, vs = [V.ref a] ∧ SqA K H b a xs ∧ DpAll K H xs (d :: ds) ∧ PySem.W.AlikeAll (d :: ds) ∧ PyData.depthAll (d :: ds) ≤ 64 ∧ (f d ds ∈ d :: ds) ∧
  ∀ (i : Nat) (v : V), (xs : List V)[i]? = some v → (d :: ds)[i]? = some (f d ds) → Q v H
theorem Vals.getB : ∀ {xs : List V} {us : List Value} {i : Nat} {u : Value}, Vals xs us → us[i]? = some u → ∃ x, xs[i]? = some x ∧ L2.RelV x u
  | _, _, i, u, .nil, e => by simp at e
  | _, _, 0, u, .cons r t, e => by simp at e; subst e; exact ⟨_, rfl, r⟩
  | _, _, i + 1, u, .cons r t, e => by
    obtain ⟨x, h1, h2⟩ := Vals.getB (i := i) t (by simpa using e)
    exact ⟨x, by simpa using h1, h2⟩
theorem readsAll_get : ∀ {h : Heap} {vs : List Value} {ds : List PyData} {as : List Addr} {i : Nat} {v : Value}, ReadsAll h vs ds as → vs[i]? = some v → ∃ d bs, ds[i]? = some d ∧ Reads h v d bs
  | _, _, _, _, i, v, .nil, e => by simp at e
  | _, _, _, _, 0, v, .cons r t, e => by simp at e; subst e; exact ⟨_, _, rfl, r⟩
  | _, _, _, _, i + 1, v, .cons r t, e => by
    obtain ⟨d, bs, h1, h2⟩ := readsAll_get (i := i) t (by simpa using e)
    exact ⟨d, bs, by simpa using h1, h2⟩
theorem c_best {id : String} {f : PyData → List PyData → PyData} (hk : X.K = K)
    (hl : ∀ {prog : Program} {w : World} {A : Around} {E : Value → Shared → Prop} {s : Shared} {l : Addr} {b : Bool} {vs : Array Value} {x : PyData} {xs : List PyData} {as : List Addr} {Q : Value → Shared → Prop}, A.handled = none → SeqB s.heap b l vs → ReadsAll s.heap vs.toList (x :: xs) as → PySem.W.AlikeAll (x :: xs) → A.units + 1 + PyData.depthAll (x :: xs) < cLine →
      (∀ (i : Nat) v h' tk bs, vs[i]? = some v → Reads h' v (f x xs) bs → (∀ b o, s.heap.get? b = some o → h'.get? b = some o) → Q v { s with heap := h', toks := tk }) → wpAny (model prog w) A (call (.builtin id) [.ref l]) Q E s)
    (hc : X.calm = true) (hu : X.A.units + 200 < cLine) : CallR X (.builtin id) (rBest K f) := by
  subst hk
  intro pins s σ H vs us Q I r h
  obtain ⟨b, a, xs, d, ds, rfl, hs, hd, ha, hz, hm, q⟩ := h
  obtain ⟨its, rv, p⟩ := inv_seqA I hs
  rw [Vals.ref1 r]
  obtain ⟨as, ra⟩ := Dp.readsAll I (d :: ds) xs its hd rv
  refine hl (I.ok.hd hc) p ra ha (by omega) fun i v h' tk bs hv rd hkeep => ?_
  have hv' : its[i]? = some v := by simpa using hv
  obtain ⟨x, hx, rx⟩ := Vals.getB rv hv'
  obtain ⟨e, cs, he, re⟩ := readsAll_get ra hv'
  have hmem : e ∈ d :: ds := List.mem_of_getElem? he
  have ee : e = f d ds := PySem.W.alike_unique e (f d ds) v cs bs (ha.1 _ hmem _ hm) (PySem.W.reads_keeps hkeep re) rd
  subst ee
  exact ⟨x, H, I.kept hkeep, rx, q i x hx he⟩
theorem c_min (hk : X.K = K) (hc : X.calm = true) (hu : X.A.units + 200 < cLine) : CallR X (.builtin "min") (rBest K PySem.W.minD) := c_best hk (fun {prog w A E s l b vs x xs as Q} h0 h1 h2 h3 h4 h5 => by
  cases b
  · exact PySem.W.min_list_data h0 h1 h2 h3 h4 h5
  · exact PySem.W.min_tuple_data h0 h1 h2 h3 h4 h5) hc hu
theorem c_max (hk : X.K = K) (hc : X.calm = true) (hu : X.A.units + 200 < cLine) : CallR X (.builtin "max") (rBest K PySem.W.maxD) := c_best hk (fun {prog w A E s l b vs x xs as Q} h0 h1 h2 h3 h4 h5 => by
  cases b
  · exact PySem.W.max_list_data h0 h1 h2 h3 h4 h5
  · exact PySem.W.max_tuple_data h0 h1 h2 h3 h4 h5) hc hu
theorem seqV {pd : Option PD} {F H : Hp} {d : D} {v : V} {ds : List D} (fh : Same F H) (r : RepB K pd F H d v) (e : seqD d = some ds) : ∃ b a xs, v = .ref a ∧ ds.length ≤ SZ ∧ SqA K H b a xs ∧ RepL K pd F ds xs := by
  obtain ⟨b, a, xs, h1, h2, h3⟩ := seqW r e
  exact ⟨b, a, xs, h1, h2, h3 F H (.refl fh)⟩
theorem v_best {f : PyData → List PyData → PyData} {fA : D → List D → D} (h1 : ∀ x xs, toP (fA x xs) = f (toP x) (toPs xs)) (h2 : ∀ x xs, fA x xs ∈ x :: xs) {gg : List D → Option D}
    (hg : gg = onSeq fun ds => match ds with
      | x :: xs => if allCmp (x :: xs) = true then some (fA x xs) else none
      | [] => none) : VL K (rBest K f) gg := fun pd F H xs d vs fh r e Q q => by
  subst hg
  unfold onSeq at e
  split at e
  · rename_i d0
    cases r with
    | cons r0 rt =>
      cases rt
      cases h5 : seqD d0 with
      | none => rw [h5] at e; cases e
      | some ds =>
        rw [h5] at e
        cases ds with
        | nil => cases e
        | cons x xs =>
          have e : (if allCmp (x :: xs) = true then some (fA x xs) else none) = some d := e
          split at e
          · rename_i hc
            cases e
            obtain ⟨b, a, ys, rfl, hl, sq, rr⟩ := seqV fh r0 h5
            obtain ⟨m1, m2⟩ := allCmp_mem hc
            have hcl : cleanL (x :: xs) = true := cleanL_all.mpr fun z hz => (m1 z hz).1
            refine ⟨b, a, ys, toP x, toPs xs, rfl, sq, RepL.dp fh hcl rr, alike_all hc, depthAll_le (ds := x :: xs) fun z hz => (m1 z hz).2.1, ?_, fun i v hv hi => ?_⟩
            · rw [← h1]
              have := List.mem_map_of_mem (f := toP) (h2 x xs)
              rw [← toPs_eq] at this
              exact this
            · obtain ⟨dd, hdd, rd⟩ := rr.getV hv
              have hi' : (toPs (x :: xs))[i]? = some (f (toP x) (toPs xs)) := hi
              rw [toPs_eq, List.getElem?_map, hdd, ← h1] at hi'
              have : dd = fA x xs := toP_inj (m1 _ (List.mem_of_getElem? hdd)).1 (m1 _ (h2 x xs)).1 (Option.some.inj hi')
              subst this
              exact q v F H (.refl fh) rd
          · cases e
  · cases e
theorem v_min : VL K (rBest K PySem.W.minD) minD := v_best minA_toP minA_mem rfl
theorem v_max : VL K (rBest K PySem.W.maxD) maxD := v_best maxA_toP maxA_mem rfl

/-! ### sum, all, any -/
def intsD : List D → Option (List Int)
  | [] => some []
  | .int i :: ds => (intsD ds).map (i :: ·)
  | _ => none
def blsD : List D → Option (List Bool)
  | [] => some []
  | .bl i :: ds => (blsD ds).map (i :: ·)
  | _ => none
theorem intsD_eq : ∀ {ds : List D} {ns : List Int}, intsD ds = some ns → ds = ns.map D.int
  | [], _, e => by cases e; rfl
  | .int i :: ds, ns, e => by
    simp only [intsD] at e
    cases h : intsD ds with
    | none => rw [h] at e; cases e
    | some ms => rw [h] at e; cases e; rw [intsD_eq h]; rfl
  | .non :: _, _, e => by cases e
  | .bl _ :: _, _, e => by cases e
  | .str _ :: _, _, e => by cases e
  | .tup _ :: _, _, e => by cases e
  | .lst _ :: _, _, e => by cases e
  | .rng :: _, _, e => by cases e
theorem blsD_eq : ∀ {ds : List D} {ns : List Bool}, blsD ds = some ns → ds = ns.map D.bl
  | [], _, e => by cases e; rfl
  | .bl i :: ds, ns, e => by
    simp only [blsD] at e
    cases h : blsD ds with
    | none => rw [h] at e; cases e
    | some ms => rw [h] at e; cases e; rw [blsD_eq h]; rfl
  | .non :: _, _, e => by cases e
  | .int _ :: _, _, e => by cases e
  | .str _ :: _, _, e => by cases e
  | .tup _ :: _, _, e => by cases e
  | .lst _ :: _, _, e => by cases e
  | .rng :: _, _, e => by cases e
@[simp] theorem intsD_map : ∀ ns : List Int, intsD (ns.map D.int) = some ns
  | [] => rfl
  | n :: ns => by simp [intsD, intsD_map ns]
@[simp] theorem blsD_map : ∀ ns : List Bool, blsD (ns.map D.bl) = some ns
  | [] => rfl
  | n :: ns => by simp [blsD, blsD_map ns]
def sumD : List D → Option D := onSeq fun ds => (intsD ds).map fun ns => .int ns.sum
def allD : List D → Option D
  | [.lst ds] => (blsD ds).map fun bs => .bl (bs.all id)
  | _ => none
def anyD : List D → Option D
  | [.lst ds] => (blsD ds).map fun bs => .bl (bs.any id)
  | _ => none
def rSumA (K : PySem.W.Frag) : List V → Hp → VK → Prop := fun vs H Q => ∃ (b : Bool) (a : Addr) (ns : List Int), vs = [V.ref a] ∧ SqA K H b a (ns.map V.int) ∧ Q (.int ns.sum) H
theorem c_sum (hk : X.K = K) (hc : X.calm = true) : CallR X (.builtin "sum") (rSumA K) := by
  subst hk
  intro pins s σ H vs us Q I r h
  obtain ⟨b, a, ns, rfl, hs, q⟩ := h
  cases b with
  | false => exact cr_sum hc pins s σ H _ us Q I r ⟨a, ns, rfl, hs, q⟩
  | true =>
    obtain ⟨its, rv, p, _⟩ := I.tuple (show SqT X.K H a (ns.map V.int) from hs)
    rw [Vals.ref1 r]
    have hi : IntsAre its ns := Vals.ints rv
    obtain ⟨xs, hx⟩ := hi.allInts.items
    have hn : numsOf its.toArray.toList = ns := by rw [show its.toArray.toList = its from rfl, hi.numsOf]
    have ht : s.heap.IsTuple a its.toArray := p
    rw [hx] at ht hn
    rw [nums_intItems] at hn
    refine PySem.W.ktm_sumG (I.ok.hd hc) ht fun h' tk t' hkp => ?_
    rw [preSum_eq, List.take_of_length_le (by simp), hn]
    exact ⟨.int _, H, I.kept hkp, ⟨_, rfl⟩, q⟩
theorem v_sum : VL K (rSumA K) sumD := fun pd F H xs d vs fh r e Q q => by
  unfold sumD onSeq at e
  split at e
  · rename_i d0
    cases r with
    | cons r0 rt =>
      cases rt
      cases h5 : seqD d0 with
      | none => rw [h5] at e; cases e
      | some ds =>
        rw [h5] at e
        have e : (intsD ds).map (fun ns => D.int ns.sum) = some d := e
        cases h6 : intsD ds with
        | none => rw [h6] at e; cases e
        | some ns =>
          rw [h6] at e; cases e
          obtain ⟨b, a, ys, rfl, hl, sq, rr⟩ := seqV fh r0 h5
          rw [intsD_eq h6] at rr
          rw [rr.ints] at sq
          exact ⟨b, a, ns, rfl, sq, q _ F H (.refl fh) (by simp [Rep])⟩
  · cases e
theorem c_all (hk : X.K = K) (hc : X.calm = true) : CallR X (.builtin "all") (rAll K) := by subst hk; exact cr_all hc
theorem c_any (hk : X.K = K) (hc : X.calm = true) : CallR X (.builtin "any") (rAny K) := by subst hk; exact cr_any hc
theorem v_all : VL K (rAll K) allD := fun pd F H xs d vs fh r e Q q => by
  unfold allD at e
  split at e
  · rename_i ds
    cases h6 : blsD ds with
    | none => rw [h6] at e; cases e
    | some bs =>
      rw [h6] at e; cases e
      cases r with
      | cons r0 rt =>
        cases rt
        obtain ⟨a, ys, rfl, h3, _, h4⟩ := r0.lst fh
        rw [blsD_eq h6] at h4
        rw [h4.bls] at h3
        exact ⟨a, bs, rfl, .of h3, q _ F H (.refl fh) (by simp [Rep])⟩
  · cases e
theorem v_any : VL K (rAny K) anyD := fun pd F H xs d vs fh r e Q q => by
  unfold anyD at e
  split at e
  · rename_i ds
    cases h6 : blsD ds with
    | none => rw [h6] at e; cases e
    | some bs =>
      rw [h6] at e; cases e
      cases r with
      | cons r0 rt =>
        cases rt
        obtain ⟨a, ys, rfl, h3, _, h4⟩ := r0.lst fh
        rw [blsD_eq h6] at h4
        rw [h4.bls] at h3
        exact ⟨a, bs, rfl, .of h3, q _ F H (.refl fh) (by simp [Rep])⟩
  · cases e

/-! ### is True -/
def isBD : D → D → Option D
  | .bl a, .bl b => some (.bl (decide (a = b)))
  | _, _ => none
def isNotBD : D → D → Option D
  | .bl a, .bl b => some (.bl (!decide (a = b)))
  | _, _ => none
theorem v_isB : V2 K rIsB isBD := fun pd F H x y d v w fh rx ry e Q q => by
  cases x <;> cases y <;> first | (cases e; done) | skip
  cases e
  exact ⟨_, _, rx.bl, ry.bl, q _ F H (.refl fh) (by simp [Rep])⟩
theorem v_isNotB : V2 K rNotB isNotBD := fun pd F H x y d v w fh rx ry e Q q => by
  cases x <;> cases y <;> first | (cases e; done) | skip
  cases e
  exact ⟨_, _, rx.bl, ry.bl, q _ F H (.refl fh) (by simp [Rep])⟩

/-! ### += of ints; powers -/
def addI : D → D → Option D
  | .int a, .int b => some (.int (a + b))
  | _, _ => none
theorem v_iadd : V2 K (rI0 fun i j => .int (i + j)) addI := v2I0 (g := fun i j => .int (i + j)) (fun _ _ _ _ => by simp [Rep]) (int2 (fun _ _ => rfl) fun x y h => by cases x <;> cases y <;> first | rfl | exact (h _ _ rfl rfl).elim)
def powD : D → D → Option D
  | .int i, .int j => if 0 ≤ j ∧ j ≤ 1000000 ∧ i.natAbs < 2 ^ 64 then some (.int (i ^ j.toNat)) else none
  | _, _ => none
theorem v_pow : V2 K (rI CPow fun i j => .int (i ^ j.toNat)) powD := v2I (g := fun i j => .int (i ^ j.toNat)) (fun _ _ _ _ => by simp [Rep]) fun x y d e => by
  cases x <;> cases y <;> first | (cases e; done) | skip
  rename_i i j
  simp only [powD] at e
  split at e
  · rename_i h; exact ⟨i, j, rfl, rfl, h, (Option.some.inj e).symm⟩
  · cases e
end
end Pu
namespace Pu
open PySem PySem.Spec PyProof.Rows L2

/-! ### tuple * int -/
theorem tmul_same (l : Addr) (items : Array Value) (n : Nat) (dd : Option Addr) (sl : Array (Option Value)) (x : Int) (u : Tok) (c0 : (decide (x < -(2 ^ 63)) || decide (x ≥ 2 ^ 63)) = false) (c1 : (items.isEmpty || x == 1) = true) :
    Meets (Builtin.«tuple.__mul__» ⟨[.ref l, .int x u], []⟩) (fun _ R s => s.heap.get? l = some { cls := .type "tuple", dict := dd, data := .seq items n, slots := sl } ∧ R (.ok (.ret (Value.ref l))) s) :=
  .of_wp fun prog w A R s h => by
    obtain ⟨hp, g, d, tk, os⟩ := s
    obtain ⟨hl, h⟩ := h
    have f1 := AutoSeq1.idx_int
    wp_walk using wpAny_loadPart' hl
    repeat (first
      | (refine wpAny_ite_false (decide_eq_false (by rw [c0]; exact Bool.false_ne_true)) ?_; wp_walk using wpAny_loadPart' hl)
      | (refine wpAny_ite_true (decide_eq_true c1) ?_; wp_walk using wpAny_loadPart' hl))
    exact ⟨_, rfl, h⟩
theorem tmul_none (l : Addr) (items : Array Value) (n : Nat) (dd : Option Addr) (sl : Array (Option Value)) (x : Int) (u : Tok) (c0 : (decide (x < -(2 ^ 63)) || decide (x ≥ 2 ^ 63)) = false) (c1 : (items.isEmpty || x == 1) = false) (c2 : (decide (x ≤ 0) || items.isEmpty) = true) :
    Meets (Builtin.«tuple.__mul__» ⟨[.ref l, .int x u], []⟩) (fun _ R s => s.heap.get? l = some { cls := .type "tuple", dict := dd, data := .seq items n, slots := sl } ∧
      R (.ok (.ret (Value.ref s.heap.objs.size))) { s with heap := s.heap.push { cls := Value.type "tuple", data := Data.seq #[] }, toks := s.toks }) :=
  .of_wp fun prog w A R s h => by
    obtain ⟨hp, g, d, tk, os⟩ := s
    obtain ⟨hl, h⟩ := h
    have f1 := AutoSeq1.idx_int
    wp_walk using wpAny_loadPart' hl
    repeat (first
      | (refine wpAny_ite_false (decide_eq_false (by rw [c0]; exact Bool.false_ne_true)) ?_; wp_walk using wpAny_loadPart' hl)
      | (refine wpAny_ite_false (decide_eq_false (by rw [c1]; exact Bool.false_ne_true)) ?_; wp_walk using wpAny_loadPart' hl)
      | (refine wpAny_ite_true (decide_eq_true c2) ?_; wp_walk using wpAny_loadPart' hl))
    exact ⟨_, rfl, h⟩
def rRepA (K : PySem.W.Frag) : R2 := fun x y H Q => ∃ l k xs, x = .ref l ∧ y = .int k ∧ SqT K H l xs ∧ -(2 ^ 63) ≤ k ∧ k ≤ 1000 ∧ xs.length ≤ 1000 ∧ (xs = [] ∨ k = 1 → Q (.ref l) H) ∧ (xs ≠ [] → k ≠ 1 → ∀ p, H p = none → Q (.ref p) (L2.upd H p (.tup (List.replicate k.toNat xs).flatten)))
section
variable {X : Cx} {K : PySem.W.Frag}
theorem op_repTA (hk : X.K = K) : OpR X (binaryOp .Mult) (rRepA K) := by
  subst hk
  intro pins s σ H x y v u Q I rx ry h
  obtain ⟨l, k, xs, rfl, rfl, hT, h1, h2, hz, q1, q2⟩ := h
  by_cases hbig : xs ≠ [] ∧ 2 ≤ k
  · exact op_repT pins s σ H _ _ v u Q I rx ry ⟨l, k, xs, rfl, rfl, hT, hbig.1, hbig.2, h2, hz, q2 hbig.1 (by omega)⟩
  cases rx
  obtain ⟨t, rfl⟩ := ry
  obtain ⟨its, r, ⟨⟨cls, dd, data, sl⟩, ho, hc, n, hd⟩, hs⟩ := I.tuple hT
  simp only at hc hd
  subst hc hd
  have hle : its.length = xs.length := r.length.symm
  have c0 : (decide (k < -(2 ^ 63)) || decide (k ≥ 2 ^ 63)) = false := by
    rw [decide_eq_false (by omega), decide_eq_false (by omega)] <;> rfl
  by_cases hsame : xs = [] ∨ k = 1
  · have c1 : (its.toArray.isEmpty || k == 1) = true := by
      rcases hsame with e | e
      · subst e
        cases its with
        | nil => rfl
        | cons a b => cases hle
      · subst e; simp
    exact wpAny_binaryOp_repeat_ref (T := "tuple") (U := "int") (by decide) ⟨_, ho, rfl⟩ (fun s' => typeIs_int s' k t) noFill_tuple_mul F.fills_int_mul F.slot_int_rmul repeat_tuple F.slot_int_index.lookup
      (call_meets F.slot_int_rmul (typeIs_int s k t) F.entry_int_rmul (F.args_int_rmul_2 _ _) (int_rmul_tuple k t l its.toArray n dd sl)
        ⟨ho, rfl, ⟨_, ho, rfl⟩, call_meets F.slot_tuple_mul ⟨_, ho, rfl⟩ F.entry_tuple_mul (F.args_tuple_mul_2 _ _) (tmul_same l its.toArray n dd sl k t c0 c1) ⟨ho, .ref l, H, I, rfl, q1 hsame⟩⟩)
  · have hx : xs ≠ [] := fun e => hsame (.inl e)
    have hk1 : k ≠ 1 := fun e => hsame (.inr e)
    have hk0 : k ≤ 0 := by
      by_cases h2 : 2 ≤ k
      · exact absurd ⟨hx, h2⟩ hbig
      · omega
    have hi : its.toArray.isEmpty = false := by
      cases its with
      | nil => exact absurd (List.eq_nil_of_length_eq_zero hle.symm) hx
      | cons a b => rfl
    have c1 : (its.toArray.isEmpty || k == 1) = false := by
      rw [hi, Bool.false_or]
      exact beq_eq_false_iff_ne.mpr hk1
    have c2 : (decide (k ≤ 0) || its.toArray.isEmpty) = true := by rw [decide_eq_true hk0]; rfl
    have e0 : k.toNat = 0 := by omega
    have q := q2 hx hk1
    rw [e0] at q
    refine wpAny_binaryOp_repeat_ref (T := "tuple") (U := "int") (by decide) ⟨_, ho, rfl⟩ (fun s' => typeIs_int s' k t) noFill_tuple_mul F.fills_int_mul F.slot_int_rmul repeat_tuple F.slot_int_index.lookup
      (call_meets F.slot_int_rmul (typeIs_int s k t) F.entry_int_rmul (F.args_int_rmul_2 _ _) (int_rmul_tuple k t l its.toArray n dd sl)
        ⟨ho, rfl, ⟨_, ho, rfl⟩, call_meets F.slot_tuple_mul ⟨_, ho, rfl⟩ F.entry_tuple_mul (F.args_tuple_mul_2 _ _) (tmul_none l its.toArray n dd sl k t c0 c1 c2) ⟨ho, ?_⟩⟩)
    refine ⟨.ref s.heap.objs.size, _, I.laid (t' := s.toks) (o := .tup []) (fun b ob q => Heap.get?_push_of_some _ q) (Nat.le_refl _) ?_, rfl, q _ (I.hok.fresh (Nat.le_refl _))⟩
    exact ⟨Nat.zero_le _, [], .nil, IsTup.new _ _⟩
def repT : D → D → Option D
  | .tup a, .int k => if -(2 ^ 63) ≤ k ∧ k ≤ 1000 ∧ a.length ≤ 1000 then some (.tup (List.replicate k.toNat a).flatten) else none
  | _, _ => none
theorem v_repT : V2 K (rRepA K) repT := fun pd F H x y d v w fh rx ry e Q q => by
  cases x <;> cases y <;> first | (cases e; done) | skip
  rename_i as k
  simp only [repT] at e
  split at e
  · rename_i hl
    cases e
    obtain ⟨a, xs, rfl, t1, t2, l1, r1⟩ := rx.tup fh
    refine ⟨a, k, xs, rfl, ry.int, t1, hl.1, hl.2.1, by rw [r1.length]; exact hl.2.2, fun z => ?_, fun _ _ p n => ?_⟩
    · have : (List.replicate k.toNat as).flatten = as := by
        rcases z with z | z
        · subst z
          have : as = [] := List.eq_nil_of_length_eq_zero r1.length.symm
          subst this
          simp
        · subst z; simp
      rw [this] at q
      exact q _ F H (.refl fh) (by simp only [Rep]; exact ⟨a, xs, rfl, t2, l1, r1⟩)
    · have x2 := Ext.new (o := .tup (List.replicate k.toNat xs).flatten) fh n
      refine q _ _ _ x2 ?_
      simp only [Rep]
      refine ⟨p, _, rfl, .of upd_same, ?_, (r1.rep _).mono x2.ff⟩
      rw [List.length_flatten, List.map_replicate, List.sum_replicate_nat]
      have a1 : k.toNat * as.length ≤ 1000 * 1000 := Nat.mul_le_mul (by omega) hl.2.2
      exact Nat.le_trans a1 (by decide)
  · cases e

/-! ### x[::-1] -/
theorem sliceRev {prog : Program} {w : World} {A : Around} {E : Value → Shared → Prop} {s : Shared} {sl : Addr} {vl vu vs : Value} {n : Nat} {Q : Int × Int × Nat → Shared → Prop} (hs : s.heap.IsSliceOf sl vl vu vs) (pl : IsPart vl none) (pu : IsPart vu none) (ps : IsPart vs (some (-1)))
    (h : Q ((n : Int) - 1, -1, n) s) : wpAny (model prog w) A (Builtin.Slice.sliceApplied (.ref sl) (pure (n : Int))) Q E s := by
  obtain ⟨os, hos, hcs, hds⟩ := id hs
  unfold Builtin.Slice.sliceApplied Builtin.Slice.sliceFields
  refine wpAny_bind (wpAny_bind (wpAny_field hos hds (x := vl) rfl (wpAny_bind (wpAny_field hos hds (x := vu) rfl (wpAny_bind (wpAny_field hos hds (x := vs) rfl (wpAny_pure ?_)))))))
  refine wpAny_bind (HT.slicePart_ ps ?_)
  show wpAny _ _ (if ((-1 : Int) == 0) = true then _ else _) _ _ s
  rw [if_neg (by decide)]
  refine wpAny_bind (HT.slicePart_ pl (wpAny_bind (HT.slicePart_ pu (wpAny_bind (wpAny_pure ?_)))))
  show wpAny _ _ (pure ((n : Int) - 1, (-1 : Int), Builtin.Slice.slicePlaces ((n : Int) - 1) (-1) (-1))) _ _ s
  have e : Builtin.Slice.slicePlaces ((n : Int) - 1) (-1) (-1) = n := by
    unfold Builtin.Slice.slicePlaces
    rw [if_neg (by decide)]
    by_cases h : (n : Int) - 1 > -1
    · rw [if_pos h, show (- -1 : Int) = 1 by decide, Int.ediv_one]; omega
    · rw [if_neg h]; omega
  rw [e]
  exact wpAny_pure h
theorem filterMap_same {α β : Type} {f g : α → Option β} : ∀ {l : List α}, (∀ x ∈ l, f x = g x) → l.filterMap f = l.filterMap g
  | [], _ => rfl
  | a :: l, h => by
    rw [List.filterMap_cons, List.filterMap_cons, h a (by simp), filterMap_same fun x hx => h x (by simp [hx])]
theorem pick_rev (xs : Array Value) : ((List.range xs.size).filterMap fun (m : Nat) => xs[((xs.size : Int) - 1 + (m : Int) * -1).toNat]?).toArray = xs.toList.reverse.toArray := by
  have e := PySem.W.krv_all xs
  have e2 : ((List.range xs.size).filterMap fun (m : Nat) => xs[((xs.size : Int) - 1 + (m : Int) * -1).toNat]?) = ((List.range xs.size).map fun k => xs.size - 1 - k).filterMap (xs[·]?) := by
    rw [List.filterMap_map]
    refine filterMap_same fun m hm => ?_
    have := List.mem_range.mp hm
    show xs[((xs.size : Int) - 1 + (m : Int) * -1).toNat]? = xs[xs.size - 1 - m]?
    rw [show ((xs.size : Int) - 1 + (m : Int) * -1).toNat = xs.size - 1 - m by omega]
  rw [e2, PySem.W.krv_range, List.filterMap_reverse, e]
theorem getItem_tuple_rev {prog : Program} {w : World} {A : Around} {E : Value → Shared → Prop} {s : Shared} {t sl : Addr} {items : Array Value} {vl vu vs : Value} {Q : Value → Shared → Prop} (ht : IsTup s.heap t items) (hs : s.heap.IsSliceOf sl vl vu vs) (pl : IsPart vl none) (pu : IsPart vu none) (ps : IsPart vs (some (-1)))
    (h : Q (.ref s.heap.objs.size) { s with heap := s.heap.push { cls := .type "tuple", data := .seq items.toList.reverse.toArray } })
    (hsz : items.size ≤ sizeLine) : wpAny (model prog w) A (getItem (.ref t) (.ref sl)) Q E s := by
  have htake : sizeOk (.seq items.toList.reverse.toArray) := by
    show items.toList.reverse.toArray.size ≤ sizeLine
    simpa using hsz
  obtain ⟨os, hos, hcs, hds⟩ := id hs
  have hTs : s.TypeIs (.ref sl) "slice" := ⟨os, hos, hcs⟩
  unfold getItem
  try with_reducible refine wpAny_holding ?_
  first | refine wpAny_bind (wpAny_pure ?_) | skip
  refine wpAny_bind (wpAny_sequenceKey ht.typeIs (by decide) ?_)
  refine wpAny_bind (wpAny_callSpecial?_slot (name := Str.ofString "__getitem__") ht.typeIs PyProof.Rows.slot_tuple_getitem
    (wpAny_call_entry PyProof.Rows.slot_tuple_getitem ht.typeIs entry_tuple_getitem ?_ (args_tuple_getitem _ _)))
  show wpAny _ _ (Builtin.Tuple.tupleItemsOf (.ref t) >>= _) _ _ s
  refine wpAny_bind (tupleItemsOf_ ht ?_)
  refine wpAny_bind (wpAny_typeOf hTs ?_)
  rw [if_pos (by decide)]
  refine wpAny_bind (sliceRev hs pl pu ps ?_)
  have hno : ¬ ((((items.size : Int) - 1) == 0 && (-1 : Int) == 1 && items.size == items.size) = true) := by simp
  show wpAny _ _ (if (((items.size : Int) - 1) == 0 && (-1 : Int) == 1 && items.size == items.size) = true then _ else _) _ _ s
  rw [if_neg hno, pick_rev]
  first
    | exact wpAny_bind (m := Builtin.Tuple.tupleExact _) (wpAny_newObj_type (wpAny_pure ⟨_, rfl, wpAny_pure h⟩) htake)
    | exact wpAny_bind (m := Builtin.Tuple.tupleExact _) (wpAny_newObj_type (wpAny_bind (wpAny_pure (wpAny_pure ⟨_, rfl, wpAny_pure h⟩))) htake)
    | exact wpAny_bind (wpAny_bind (m := Builtin.Tuple.tupleExact _) (wpAny_newObj_type (wpAny_pure (wpAny_pure ⟨_, rfl, wpAny_pure h⟩)) htake))
    | exact wpAny_bind (wpAny_bind (m := Builtin.Tuple.tupleExact _) (wpAny_newObj_type (wpAny_pure ⟨_, rfl, wpAny_pure h⟩) htake))
def tRevA (K : PySem.W.Frag) (te : TE) : TE := fun σ H Q => te σ H fun x H1 => ∃ b a xs, x = .ref a ∧ SqA K H1 b a xs ∧ ∀ p, H1 p = none → Q (.ref p) (L2.upd H1 p (if b = true then .tup xs.reverse else .lst xs.reverse))
theorem pe_revA {X : Cx} {e : Expr} {te : TE} {k : Nat} {p1 p2 p3 pos : Pos} (he : PE X e te) : PE X (.Subscript e (.Slice none none (some (.UnaryOp .USub (.Constant (.int 1) k p1) p2)) p3) pos) (tRevA X.K te) := by
  refine ⟨fun pins s σ H Q I h => ?_⟩
  refine Subscript_ (thn (he.run pins s σ H _ I h) fun v s1 ⟨x, H1, I1, r1, q1⟩ => ?_)
  obtain ⟨b, a, xs, ex, hx, q⟩ := q1
  subst ex
  cases r1
  have hst : PO X (some (.UnaryOp .USub (.Constant (.int 1) k p1) p2)) (tPart (tUn (rU fun i => .int (-i)) (tC (.int 1)))) := po_some (pe_un un_neg pe_int)
  refine wpAny_Slice (thn (po_none.run pins s1 σ H1 (fun o H2 => o = none ∧ H2 = H1) I1 ⟨rfl, rfl⟩) fun vl s2 ⟨l, H2, I2, pl, el, e2⟩ => ?_)
  subst el e2
  refine thn (po_none.run pins s2 σ H2 (fun o H3 => o = none ∧ H3 = H2) I2 ⟨rfl, rfl⟩) fun vu s3 ⟨u, H3, I3, pu, eu, e3⟩ => ?_
  subst eu e3
  refine thn (hst.run pins s3 σ H3 (fun o H4 => o = some (-1) ∧ H4 = H3) I3 ⟨1, rfl, -1, rfl, rfl, rfl⟩) fun vs s4 ⟨o, H4, I4, ps, eo, e4⟩ => ?_
  subst eo e4
  have I5 : Inv X pins σ H4 { s4 with heap := s4.heap.push { cls := .type "slice", data := .fields #[vl, vu, vs] } } := I4.kept (t' := s4.toks) fun b ob q => Heap.get?_push_of_some _ q
  show wpAny (model X.prog X.w) X.A (subscriptTail e (.Slice none none (some (.UnaryOp .USub (.Constant (.int 1) k p1) p2)) p3) (.ref a) (.ref s4.heap.objs.size)) (EP X pins σ Q) X.xe { s4 with heap := s4.heap.push { cls := .type "slice", data := .fields #[vl, vu, vs] } }
  cases b with
  | false =>
    obtain ⟨its, r, ht, hz⟩ := I5.list (show SqL X.K H4 a xs from hx)
    have hlen := r.length
    refine tail_any (ops := [.ref a, .ref s4.heap.objs.size]) ht.isList.typeIs (PySem.slot_list_getitem.lookup) ?_ (by with_unfolding_all rfl)
    refine wpAny_getItem_list_slice ht.isList (Heap.IsSliceOf.new _ vl vu vs) pl pu ps (by decide) ?_ (by rw [List.size_toArray]; omega)
    rw [PySem.W.krv_pick]
    refine ⟨.ref _, _, I5.laid (t' := s4.toks) (o := .lst xs.reverse) (fun b ob q => Heap.get?_push_of_some _ q) (Nat.le_refl _) ?_, rfl, q _ (I5.hok.fresh (Nat.le_refl _))⟩
    exact ⟨by rw [List.length_reverse]; exact hz, _, 0, r.reverse, Heap.get?_push_size _ rfl⟩
  | true =>
    obtain ⟨its, r, ht, hz⟩ := I5.tuple (show SqT X.K H4 a xs from hx)
    have hlen := r.length
    refine tail_any (ops := [.ref a, .ref s4.heap.objs.size]) ht.typeIs (PyProof.Rows.slot_tuple_getitem.lookup) ?_ (by with_unfolding_all rfl)
    refine getItem_tuple_rev ht (Heap.IsSliceOf.new _ vl vu vs) pl pu ps ?_ (by rw [List.size_toArray]; omega)
    refine ⟨.ref _, _, I5.laid (t' := s4.toks) (o := .tup xs.reverse) (fun b ob q => Heap.get?_push_of_some _ q) (Nat.le_refl _) ?_, rfl, q _ (I5.hok.fresh (Nat.le_refl _))⟩
    exact ⟨by rw [List.length_reverse]; exact hz, _, r.reverse, IsTup.new _ _⟩
def revD : D → Option D
  | .tup a => some (.tup a.reverse)
  | .lst a => some (.lst a.reverse)
  | _ => none
end
section
variable {ι : Type} {X : ι → Cx} {P : Program} {w : World} {K : PySem.W.Frag} {mg : Str → Option Value} {base : Heap} {N : List Str} {lv : Nat} {pos : Pos} {a b c e : Expr} {es elts : List Expr} {f fa fb fc : EF} {g : AF}
theorem cRev (C : Fam X P w K mg base N lv) {k : Nat} {p1 p2 p3 : Pos} (h : CB X K e f) : CE X K (.Subscript e (.Slice none none (some (.UnaryOp .USub (.Constant (.int 1) k p1) p2)) p3) pos) (x1 revD f) := by
  obtain ⟨t, h1, h2⟩ := h
  refine ⟨tRevA K t, fun i => by have := pe_revA (pos := pos) (k := k) (p1 := p1) (p2 := p2) (p3 := p3) (h1 i); rw [C.k i] at this; exact this, fun pd F0 H0 F H ρ σ s d s' o e Q q => ?_⟩
  obtain ⟨x, s1, e1, e⟩ := Mb_eq e
  obtain ⟨e2, rfl⟩ := Mo_eq e
  refine h2 pd F0 H0 F H ρ σ s x s1 o e1 _ fun v F1 H1 x1 d1 r1 => ?_
  have fh := (o.step x1 d1).fh
  cases x <;> first | (cases e2; done) | skip
  · cases e2
    obtain ⟨p, xs, rfl, t1, t2, hl, r⟩ := r1.tup fh
    refine ⟨true, p, xs, rfl, t1, fun z n => ?_⟩
    have x2 := Ext.new (o := .tup xs.reverse) fh n
    refine q _ _ _ (x1.trans x2.lift) (d1.grow x2) ?_
    simp only [Rep]
    exact ⟨z, _, rfl, .of upd_same, by rw [List.length_reverse]; exact hl, r.reverse.mono x2.ff⟩
  · cases e2
    obtain ⟨p, xs, rfl, t1, hl, r⟩ := r1.lst fh
    refine ⟨false, p, xs, rfl, .of t1, fun z n => ?_⟩
    have x2 := Ext.new (o := .lst xs.reverse) fh n
    refine q _ _ _ (x1.trans x2.lift) (d1.grow x2) ?_
    simp only [Rep]
    exact ⟨z, _, rfl, upd_same, by rw [List.length_reverse]; exact hl, r.reverse.mono x2.ff⟩

/-! ### l.index(x) -/
def idxD (d : D) (ds : List D) : Option Nat := ds.findIdx? fun z => PyData.eqv (toP z) (toP d)
def indexD (x y : D) : Option D := match x with
  | .lst ds => if cmpOk (.lst ds) = true ∧ cmpOk y = true then (idxD y ds).map fun j => .int (j : Nat) else none
  | _ => none
theorem cIndex (C : Fam X P w K mg base N lv) {apos cpos : Pos} (ho : CB X K a fa) (ha : CB X K b fb)
    (hbase : ∀ j, attributeBase a "index" (X j).env (eval a (X j).env) = eval a (X j).env := by intro _; rfl)
    (hfew : ∀ j, ((backTo cpos (starEach [b] (X j).env)).all (fun x => !x.1) && (backToKw cpos (keywordEach [] (X j).env)).all (fun x => x.1.isSome)
      && decide (([b] : List Expr).length + ([] : List Keyword).length + (if ([] : List Keyword).isEmpty then 0 else 1) < 30)) = true := by intro _; rfl)
    (hline : (apos.endLine == cpos.line) = true := by rfl) (hs : ∀ j, starEach [b] (X j).env = (false, eval b (X j).env) :: starEach [] (X j).env := by intro _; rfl) (hplain : ∀ j, (backTo cpos (starEach [] (X j).env)).any (·.1) = false := by intro _; rfl) :
    CE X K (.Call (.Attribute a "index" apos) [b] [] cpos) (x2 indexD fa fb) := by
  obtain ⟨ta, a1, a2⟩ := ho
  obtain ⟨tb, b1, b2⟩ := ha
  refine ⟨tBM K "list" (rIndexD K) ta (tCons tb tNil), fun j => by
    have := pe_bm (X := X j) (cpos := cpos) (apos := apos) PySem.F.plainAttrs_list PySem.F.slot_list_index PySem.F.type_list_index (mt_indexD (by have := (C.r j).un; omega)) (a1 j) (pa_cons (b1 j) pa_nil (hs j)) (hbase j) (hfew j) hline (hs j) (hplain j)
    rw [C.k j] at this
    exact this, fun pd F0 H0 F H ρ σ s d s' o e Q q => ?_⟩
  obtain ⟨x, s1, e1, e⟩ := Mb_eq e
  obtain ⟨y, s2, e2, e⟩ := Mb_eq e
  obtain ⟨e3, rfl⟩ := Mo_eq e
  refine a2 pd F0 H0 F H ρ σ s x s1 o e1 _ fun v F1 H1 x1 d1 r1 => ?_
  have o1 := o.step x1 d1
  obtain ⟨ds, rfl⟩ : ∃ ds, x = .lst ds := by cases x <;> first | (cases e3; done) | exact ⟨_, rfl⟩
  · simp only [indexD] at e3
    split at e3
    · rename_i hc
      cases hj : idxD y ds with
      | none => rw [hj] at e3; cases e3
      | some j =>
        rw [hj] at e3; cases e3
        obtain ⟨p, xs, rfl, h3, _, h4⟩ := r1.lst o1.fh
        refine ⟨.inl ⟨rfl, xs, .of h3⟩, b2 pd F0 H0 F1 H1 ρ σ s1 y s2 o1 e2 _ fun u F2 H2 x2 d2 r2 => ?_⟩
        have o2 := o1.step x2 d2
        have r1' := r1.mono x2
        unfold cmpOk at hc
        simp only [Bool.and_eq_true] at hc
        obtain ⟨⟨c1, s1'⟩, c2, s2'⟩ := hc
        have dl := r1'.dp o2.fh c1
        have hjj := hj
        unfold idxD at hjj
        rw [List.findIdx?_eq_some_iff_getElem] at hjj
        obtain ⟨hlt, h5, h6⟩ := hjj
        simp only [toP] at dl s1'
        refine ⟨p, u, toP y, toPs ds, j, toP ds[j], rfl, rfl, dl, r2.dp o2.fh c2, s1', s2', by rw [toPs_eq, List.getElem?_map, List.getElem?_eq_getElem hlt]; rfl, h5, fun m z' hm hz => ?_, q _ F2 H2 (x1.trans x2) o2.dok (by simp [Rep])⟩
        rw [toPs_eq, List.getElem?_map, List.getElem?_eq_getElem (by omega)] at hz
        have hz := Option.some.inj hz
        subst hz
        simpa using h6 m hm
    · cases e3

/-! ### list(range(..)), tuple(range(..)) -/
def o1 (g : D → Option (List D)) (f : EF) : AF := fun ρ => Mb (f ρ) fun x => Mo (g x)
def rgo1 : D → Option (List D)
  | .int j => if -(2 ^ 62) ≤ j ∧ j ≤ 16777216 then some (rangeL 0 j.toNat) else none
  | _ => none
def rgo2 : D → D → Option (List D)
  | .int i, .int j => if -(2 ^ 61) ≤ i ∧ i < 2 ^ 61 ∧ -(2 ^ 61) ≤ j ∧ j < 2 ^ 61 ∧ j - i ≤ 16777216 then some (rangeL i (j - i).toNat) else none
  | _, _ => none
def xTp (a : AF) : EF := fun ρ => Mb (a ρ) fun xs => Mp (.tup xs)
theorem rgV_rep {K : PySem.W.Frag} {pd : Option PD} {F : Hp} (i : Int) (j : Int) : RepL K pd F (rangeL i (j - i).toNat) (L2.rgV i j) := by
  have e1 : rangeL i (j - i).toNat = ((List.range (j - i).toNat).map fun (k : Nat) => i + (k : Int)).map D.int := by unfold rangeL; rw [List.map_map]; rfl
  have e2 : L2.rgV i j = ((List.range (j - i).toNat).map fun (k : Nat) => i + (k : Int)).map V.int := by unfold L2.rgV; rw [List.map_map]; rfl
  rw [e1, e2]
  exact RepL.ofInts _
theorem oListRg1 (C : Fam X P w K mg base N lv) (hm1 : mg "list" = none) (hm2 : mg "range" = none) {p p2 pos2 : Pos} (h : CE X K a fa) (hg : ∀ i, Gl (X i) "list" := by intro _; rfl) (hg2 : ∀ i, Gl (X i) "range" := by intro _; rfl)
    (na : ∀ i, starEach [a] (X i).env = (false, eval a (X i).env) :: starEach [] (X i).env := by intro _; rfl) (nb : ∀ i, starEach [.Call (.Name "range" p2) [a] [] pos2] (X i).env = (false, eval (.Call (.Name "range" p2) [a] [] pos2) (X i).env) :: starEach [] (X i).env := by intro _; rfl) :
    CO X K (.Call (.Name "list" p) [.Call (.Name "range" p2) [a] [] pos2] [] pos) (o1 rgo1 fa) := by
  obtain ⟨t, h1, h2⟩ := h
  refine ⟨_, fun i => pe_listRg (C.c i) (hg i) (by rw [C.m i]; exact hm1) (prg_1 (hg2 i) (by rw [C.m i]; exact hm2) (h1 i) (na i)) (nb i), fun pd F0 H0 F H ρ σ s d s' o e Q q => ?_⟩
  obtain ⟨x, s1, e1, e⟩ := Mb_eq e
  obtain ⟨e2, rfl⟩ := Mo_eq e
  refine h2 pd F0 H0 F H ρ σ s x s1 o e1 _ fun v F1 H1 x1 d1 r1 => ?_
  have fh := (o.step x1 d1).fh
  cases x <;> first | (cases e2; done) | skip
  rename_i j
  simp only [rgo1] at e2
  split at e2
  · rename_i hj
    cases e2
    simp only [Rep] at r1
    subst r1
    refine ⟨j, rfl, ⟨by omega, by omega, by omega, by omega, by omega⟩, fun z n => ?_⟩
    have x2 := Ext.own (o := .lst (L2.rgV 0 j)) fh n
    have rr := rgV_rep (K := K) (pd := pd) (F := F1) 0 j
    rw [Int.sub_zero] at rr
    refine q z (L2.rgV 0 j) F1 _ (x1.trans x2.lift) (d1.grow x2) ?_ (nF_of fh n) upd_same ?_ rr
    · cases hp : H z with
      | none => rfl
      | some u => exact absurd n (x1.hd z (by rw [hp]; simp))
    · unfold rangeL; rw [List.length_map, List.length_range]; show j.toNat ≤ 2 ^ 24; omega
  · cases e2
theorem oListRg2 (C : Fam X P w K mg base N lv) (hm1 : mg "list" = none) (hm2 : mg "range" = none) {p p2 pos2 : Pos} (h : CE X K a fa) (h' : CE X K b fb) (hg : ∀ i, Gl (X i) "list" := by intro _; rfl) (hg2 : ∀ i, Gl (X i) "range" := by intro _; rfl)
    (na : ∀ i, starEach [a, b] (X i).env = (false, eval a (X i).env) :: starEach [b] (X i).env := by intro _; rfl) (na2 : ∀ i, starEach [b] (X i).env = (false, eval b (X i).env) :: starEach [] (X i).env := by intro _; rfl)
    (hp : ∀ i, (backTo pos2 (starEach [b] (X i).env)).any (·.1) = false := by intro _; rfl)
    (nb : ∀ i, starEach [.Call (.Name "range" p2) [a, b] [] pos2] (X i).env = (false, eval (.Call (.Name "range" p2) [a, b] [] pos2) (X i).env) :: starEach [] (X i).env := by intro _; rfl) :
    CO X K (.Call (.Name "list" p) [.Call (.Name "range" p2) [a, b] [] pos2] [] pos) (o2 rgo2 fa fb) := by
  obtain ⟨t, h1, h2⟩ := h
  obtain ⟨u, u1, u2⟩ := h'
  refine ⟨_, fun i => pe_listRg (C.c i) (hg i) (by rw [C.m i]; exact hm1) (prg_2 (hg2 i) (by rw [C.m i]; exact hm2) (h1 i) (u1 i) (na i) (na2 i) (hp i)) (nb i), fun pd F0 H0 F H ρ σ s d s' o e Q q => ?_⟩
  obtain ⟨x, s1, e1, e⟩ := Mb_eq e
  obtain ⟨y, s2, e2, e⟩ := Mb_eq e
  obtain ⟨e3, rfl⟩ := Mo_eq e
  refine h2 pd F0 H0 F H ρ σ s x s1 o e1 _ fun v F1 H1 x1 d1 r1 => ?_
  refine u2 pd F0 H0 F1 H1 ρ σ s1 y s2 (o.step x1 d1) e2 _ fun v' F2 H2 x2 d2 r2 => ?_
  have fh := ((o.step x1 d1).step x2 d2).fh
  obtain ⟨i, j, rfl, rfl⟩ : ∃ i j, x = .int i ∧ y = .int j := by cases x <;> cases y <;> first | (cases e3; done) | exact ⟨_, _, rfl, rfl⟩
  simp only [rgo2] at e3
  split at e3
  · rename_i hj
    cases e3
    simp only [Rep] at r1 r2
    subst r1 r2
    refine ⟨i, j, rfl, rfl, ⟨by omega, by omega, by omega, by omega, by omega⟩, fun z n => ?_⟩
    have x3 := Ext.own (o := .lst (L2.rgV i j)) fh n
    refine q z (L2.rgV i j) F2 _ (x1.trans (x2.trans x3.lift)) (d2.grow x3) ?_ (nF_of fh n) upd_same ?_ (rgV_rep i j)
    · cases hp : H z with
      | none => rfl
      | some u => exact absurd n ((x1.trans x2).hd z (by rw [hp]; simp))
    · unfold rangeL; rw [List.length_map, List.length_range]; show (j - i).toNat ≤ 2 ^ 24; omega
  · cases e3
theorem cTupRg1 (C : Fam X P w K mg base N lv) (hm1 : mg "tuple" = none) (hm2 : mg "range" = none) {p p2 pos2 : Pos} (h : CE X K a fa) (hg : ∀ i, Gl (X i) "tuple" := by intro _; rfl) (hg2 : ∀ i, Gl (X i) "range" := by intro _; rfl)
    (na : ∀ i, starEach [a] (X i).env = (false, eval a (X i).env) :: starEach [] (X i).env := by intro _; rfl) (nb : ∀ i, starEach [.Call (.Name "range" p2) [a] [] pos2] (X i).env = (false, eval (.Call (.Name "range" p2) [a] [] pos2) (X i).env) :: starEach [] (X i).env := by intro _; rfl) :
    CE X K (.Call (.Name "tuple" p) [.Call (.Name "range" p2) [a] [] pos2] [] pos) (xTp (o1 rgo1 fa)) := by
  obtain ⟨t, h1, h2⟩ := h
  refine ⟨_, fun i => pe_tupRg (C.c i) (hg i) (by rw [C.m i]; exact hm1) (prg_1 (hg2 i) (by rw [C.m i]; exact hm2) (h1 i) (na i)) (nb i), fun pd F0 H0 F H ρ σ s d s' o e Q q => ?_⟩
  obtain ⟨x0, s0, e0, e⟩ := Mb_eq e
  obtain ⟨rfl, rfl⟩ := Mp_eq e
  obtain ⟨x, s1, e1, e⟩ := Mb_eq e0
  obtain ⟨e2, rfl⟩ := Mo_eq e
  refine h2 pd F0 H0 F H ρ σ s x s1 o e1 _ fun v F1 H1 x1 d1 r1 => ?_
  have fh := (o.step x1 d1).fh
  cases x <;> first | (cases e2; done) | skip
  rename_i j
  simp only [rgo1] at e2
  split at e2
  · rename_i hj
    cases e2
    simp only [Rep] at r1
    subst r1
    refine ⟨j, rfl, ⟨by omega, by omega, by omega, by omega, by omega⟩, fun z n => ?_⟩
    have x2 := Ext.new (o := .tup (L2.rgV 0 j)) fh n
    have rr := rgV_rep (K := K) (pd := pd) (F := F1) 0 j
    rw [Int.sub_zero] at rr
    refine q _ _ _ (x1.trans x2.lift) (d1.grow x2) ?_
    simp only [Rep]
    exact ⟨z, _, rfl, .of upd_same, by unfold rangeL; rw [List.length_map, List.length_range]; show j.toNat ≤ 2 ^ 24; omega, rr.mono x2.ff⟩
  · cases e2

/-! ### x = [.. for ..] -/
theorem semS_set {i : Nat} {te : TE} (h2 : SemE K te f) : SemS K (tAsg te (gName i)) (sSet i f) := fun pd F0 H0 F H ρ σ s r ρ' s' o e E q => by
  obtain ⟨d, s1, e1, e2⟩ := Mb_eq e
  obtain ⟨a, rfl⟩ := Mp_eq e2
  cases a
  exact h2 pd F0 H0 F H _ σ s d _ o e1 _ fun v F' H' x d' r => q _ F' H' x.ff ((o.step x d').set r)
theorem cSwLc (C : Fam X P w K mg base N lv) {y : Str} {py : Pos} {elt tg iter : Expr} {ifs : List Expr} {scope : Scope} {js : List Nat} {fi : AF} {gg : TGt} {ft : TF} {fe : EF} {lpos : Pos} (i : Nat) (own : List (Str × Nat)) (hi : CIW X K tg iter fi) (ok : ∀ i, BlkOk N (X i).env.scope scope own)
    (hg : CG (blkF X scope) K tg js gg) (ht : ∃ t, (∀ b, PTs (blkF X scope b) ifs t) ∧ SemT K t ft) (he : CE (blkF X scope) K elt fe) (hN : N[i]? = some y) (hk : ∀ j, (X j).env.scope.kind = .function) (hy : ∀ j, (X j).env.scope.names.lookup y = some .local) (hl : (py.line == lpos.line) = true)
    (ha : (scope.names.any fun (n, k) => n == y && (k == .local || k == .cell)) = false) (hj : ∀ j ∈ js, j ∈ own.map (·.2)) (hs : ∀ i, ∀ x, foldedSetIterable iter (X i).env x = pure x) :
    ∃ te, (∀ j, PS (X j) (.Assign [.Name y py] (.ListComp elt [⟨tg, iter, ifs, 0⟩] scope lpos) pos) (tAsg te (gName i))) ∧ SemO K te (oComp fi gg ft fe (own.map (·.2))) := by
  obtain ⟨wi, i1, i2⟩ := hi
  obtain ⟨g, g1, g2⟩ := hg
  obtain ⟨tt, t1, t2⟩ := ht
  obtain ⟨te, e1, e2⟩ := he
  exact ⟨_, fun i => ps_setLc (own := own) (C.c i) (by rw [C.n i]; exact C.nd) (by rw [C.n i]; exact hN) (hy i) (sw_true (hk i) (hy i) hl ha) (i1 i) (by rw [C.n i]; exact ok i) (fun s H Cc cl fp => g1 ⟨i, s, H, Cc, cl, fp⟩) (fun s H Cc cl fp => t1 ⟨i, s, H, Cc, cl, fp⟩) (fun s H Cc cl fp => e1 ⟨i, s, H, Cc, cl, fp⟩) (hs i), semO_comp i2 g2 t2 e2 hj⟩
theorem cOwnLc (C : Fam X P w K mg base N lv) {y : Str} {py : Pos} {elt tg iter : Expr} {ifs : List Expr} {scope : Scope} {js : List Nat} {fi : AF} {gg : TGt} {ft : TF} {fe : EF} {lpos : Pos} (i : Nat) (own : List (Str × Nat)) (hi : CIW X K tg iter fi) (ok : ∀ i, BlkOk N (X i).env.scope scope own)
    (hg : CG (blkF X scope) K tg js gg) (ht : ∃ t, (∀ b, PTs (blkF X scope b) ifs t) ∧ SemT K t ft) (he : CE (blkF X scope) K elt fe) (hN : N[i]? = some y := by rfl) (hk : ∀ j, (X j).env.scope.kind = .function := by intro _; rfl) (hy : ∀ j, (X j).env.scope.names.lookup y = some .local := by intro _; rfl) (hl : (py.line == lpos.line) = true := by rfl)
    (ha : (scope.names.any fun (n, k) => n == y && (k == .local || k == .cell)) = false := by decide +kernel) (hj : ∀ j ∈ js, j ∈ own.map (·.2) := by decide) (hs : ∀ i, ∀ x, foldedSetIterable iter (X i).env x = pure x := by intro _ _; rfl) :
    CS X K (.Assign [.Name y py] (.ListComp elt [⟨tg, iter, ifs, 0⟩] scope lpos) pos) (sOwn i (oComp fi gg ft fe (own.map (·.2)))) :=
  let ⟨te, h1, h2⟩ := cSwLc C i own hi ok hg ht he hN hk hy hl ha hj hs; ⟨_, h1, semS_own h2⟩
theorem cSetLc (C : Fam X P w K mg base N lv) {y : Str} {py : Pos} {elt tg iter : Expr} {ifs : List Expr} {scope : Scope} {js : List Nat} {fi : AF} {gg : TGt} {ft : TF} {fe : EF} {lpos : Pos} (i : Nat) (own : List (Str × Nat)) (hi : CIW X K tg iter fi) (ok : ∀ i, BlkOk N (X i).env.scope scope own)
    (hg : CG (blkF X scope) K tg js gg) (ht : ∃ t, (∀ b, PTs (blkF X scope b) ifs t) ∧ SemT K t ft) (he : CE (blkF X scope) K elt fe) (hN : N[i]? = some y := by rfl) (hk : ∀ j, (X j).env.scope.kind = .function := by intro _; rfl) (hy : ∀ j, (X j).env.scope.names.lookup y = some .local := by intro _; rfl) (hl : (py.line == lpos.line) = true := by rfl)
    (ha : (scope.names.any fun (n, k) => n == y && (k == .local || k == .cell)) = false := by decide +kernel) (hj : ∀ j ∈ js, j ∈ own.map (·.2) := by decide) (hs : ∀ i, ∀ x, foldedSetIterable iter (X i).env x = pure x := by intro _ _; rfl) :
    CS X K (.Assign [.Name y py] (.ListComp elt [⟨tg, iter, ifs, 0⟩] scope lpos) pos) (sSet i (xOf (oComp fi gg ft fe (own.map (·.2))))) :=
  let ⟨te, h1, h2⟩ := cSwLc C i own hi ok hg ht he hN hk hy hl ha hj hs; ⟨_, h1, semS_set (sem_of_O h2)⟩

/-! ### a module's names -/
structure CstOk (mg : Str → Option Value) (x : Str) (d : D) (K : PySem.W.Frag) : Prop where
  ex : ∃ v u, mg x = some u ∧ L2.RelV v u ∧ ∀ pd F, Rep K pd F d v
theorem CstOk.ce {x : Str} {d : D} (k : CstOk mg x d K) (C : Fam X P w K mg base N lv) (hg : ∀ j, Gl (X j) x := by intro _; rfl) (hd : (x == ("__debug__" : Str)) = false := by decide) : CE X K (.Name x pos) (xC d) :=
  let ⟨v, u, h1, h2, h3⟩ := k.ex; cGlob C h1 h2 h3 hg hd
theorem CstOk.int {x : Str} {i : Int} {t : Tok} (h : mg x = some (.int i t)) : CstOk mg x (.int i) K := ⟨.int i, _, h, ⟨t, rfl⟩, fun _ _ => by simp [Rep]⟩
structure Bi (mg : Str → Option Value) : Prop where
  len : mg "len" = none
  sum : mg "sum" = none
  min : mg "min" = none
  max : mg "max" = none
  all : mg "all" = none
  any : mg "any" = none
  abs : mg "abs" = none
  int : mg "int" = none
  sorted : mg "sorted" = none
  tuple : mg "tuple" = none
  list : mg "list" = none
  range : mg "range" = none
  enumerate : mg "enumerate" = none
  zip : mg "zip" = none
end
end Pu
namespace Pu
open PySem PySem.Spec PyProof.Rows L2

/-! ### a def's own list becomes known to all, ahead of a statement -/
def sFz (i : Nat) (g : SF) : SF := fun ρ => onOw ρ[i]? fun ds => g (ρ.set i (.sh (.lst ds)))
section
variable {ι : Type} {X : ι → Cx} {P : Program} {w : World} {K : PySem.W.Frag} {mg : Str → Option Value} {base : Heap} {N : List Str} {lv : Nat} {pos : Pos} {st : Stmt} {rest : List Stmt} {e : Expr} {f fk : EF} {g g' : SF}
theorem cFz (i : Nat) (h : CS X K st g) : CS X K st (sFz i g) := by
  obtain ⟨t, h1, h2⟩ := h
  refine ⟨t, h1, fun pd F0 H0 F H ρ σ s r ρ' s' o e E q => ?_⟩
  obtain ⟨ds, hds, e⟩ := onOw_eq e
  obtain ⟨p, F', _, f1, o', _⟩ := o.freeze hds
  exact h2 pd F0 H0 F' H _ σ s r ρ' s' o' e E (q.from f1)

/-! ### a, b = x, y: from the right -/
def sPar (i j : Nat) (f g : EF) : SF := fun ρ => Mb (f ρ) fun a => Mb (g ρ) fun b => Mp (.nx, (ρ.set i (.sh a)).set j (.sh b))

/-! ### the law's draw object -/
def rdD (k : Nat) (s : DS) : D := match k with
  | 0 => .lst (s.ns.map D.int)
  | 1 => .int s.pos
  | 2 => .int s.acc
  | _ => .int s.seed
def xRd (i k : Nat) : EF := fun ρ => onSh ρ[i]? fun d => match d with
  | .rng => fun s => some (rdD k s, s)
  | _ => Mf
def wrD (k : Nat) (v : Int) (s : DS) : DS := match k with
  | 1 => { s with pos := v }
  | 2 => { s with acc := v }
  | _ => { s with seed := v }
def wrOk (k : Nat) (v : Int) : Bool := decide (0 ≤ v) && (k != 3 || decide (v < 2147483647))
def sWr (i k : Nat) (f : EF) : SF := fun ρ => Mb (f ρ) fun d => onInt d fun v => onSh ρ[i]? fun x => match x with
  | .rng => fun s => if wrOk k v = true then some ((.nx, ρ), wrD k v s) else none
  | _ => Mf
theorem onSh_rng {i : Nat} {ρ : Rho} {α : Type} {k : M α} {s s' : DS} {a : α} (e : onSh ρ[i]? (fun d => match d with
  | .rng => k
  | _ => Mf) s = some (a, s')) : ρ[i]? = some (.sh .rng) ∧ k s = some (a, s') := by
  obtain ⟨d, h, e⟩ := onSh_eq e
  cases d <;> first | (cases e; done) | exact ⟨h, e⟩
theorem Ok.rng {K : PySem.W.Frag} {pd : Option PD} {F0 H0 F H : Hp} {ρ : Rho} {σ : L2.St} {s : DS} {i : Nat} (o : Ok K pd F0 H0 F H ρ σ s) (h : ρ[i]? = some (.sh .rng)) :
    ∃ x, pd = some x ∧ σ[i]? = some (some (.ref x.p)) ∧ F x.p = none ∧ s.ok ∧ H x.p = some (.lst [.ref x.q, .int s.pos, .int s.acc, .int s.seed]) ∧ F x.q = some (.lst (s.ns.map V.int)) := by
  obtain ⟨v, h1, h2⟩ := o.sh h
  simp only [Rep] at h2
  obtain ⟨a, rfl, h2⟩ := h2
  cases pd with
  | none => cases h2
  | some x =>
    have : x.p = a := Option.some.inj h2
    subst this
    obtain ⟨d1, d2, d3, d4⟩ := o.dok
    exact ⟨x, rfl, h1, d1, d2, d3, d4⟩
theorem Ok.wr {K : PySem.W.Frag} {x : PD} {F0 H0 F H : Hp} {ρ : Rho} {σ : L2.St} {s s' : DS} (o : Ok K (some x) F0 H0 F H ρ σ s) (ok : s'.ok) (hn : s'.ns = s.ns) :
    Ok K (some x) F0 H0 F (L2.upd H x.p (.lst [.ref x.q, .int s'.pos, .int s'.acc, .int s'.seed])) ρ σ s' := by
  obtain ⟨d1, d2, d3, d4⟩ := o.dok
  refine ⟨⟨o.ext.ff, fun a u e n => ?_, fun a e => ?_, o.ext.nw, fun a u e => ?_⟩, ⟨o.env.len, fun i sl e => ?_, o.env.ap⟩, d1, ok, upd_same, by rw [hn]; exact d4⟩
  · have : a ≠ x.p := fun z => n (by rw [z]; rfl)
    rw [upd_ne this]; exact o.ext.hh a u e n
  · by_cases ha : a = x.p
    · subst ha; rw [upd_same]; simp
    · rw [upd_ne ha]; exact o.ext.hd a e
  · have : a ≠ x.p := fun z => by rw [z, d1] at e; cases e
    rw [upd_ne this]; exact o.ext.fh a u e
  · obtain ⟨q, h1, h2⟩ := o.env.at' i sl e
    refine ⟨q, h1, ?_⟩
    cases sl with
    | un => trivial
    | sh d => exact h2
    | ow fs =>
      obtain ⟨p', xs', rfl, a2, a3, a4, a5, a6, a7⟩ := h2
      exact ⟨p', xs', rfl, a2, a3, a4, by rw [upd_ne (fun z => a4 (by rw [z]; rfl))]; exact a5, a6, a7⟩
theorem cRd (C : Fam X P w K mg base N lv) (i k : Nat) {x : Str} {p2 p3 : Pos} {kk} (hk : k ≤ 3) (hN : N[i]? = some x := by rfl) (hv : ∀ j, Vis (X j).env.scope x := by intro _; first | exact Or.inl rfl | exact Or.inr (Or.inl rfl) | exact Or.inr (Or.inr rfl))
    (hd : (x == ("__debug__" : Str)) = false := by decide) (hcd : (x == ("__classdict__" : Str)) = false := by decide) : CE X K (.Subscript (.Name x p2) (.Constant (.int (k : Nat)) kk p3) pos) (xRd i k) := by
  refine ⟨tOp (rIxL K) (tVar i) (tC (.int (k : Nat))), fun j => ?_, fun pd F0 H0 F H ρ σ s d s' o e Q q => ?_⟩
  · have := pe_ix (pos := pos) (X := X j) ix_list (pe_var (pos := p2) (by rw [C.n j]; exact hN) (hv j) hd hcd) (pe_int (i := ((k : Nat) : Int)) (j := kk) (pos := p3)) (fun _ _ => rfl)
    rw [C.k j] at this
    exact this
  · obtain ⟨h, e⟩ := onSh_rng e
    obtain ⟨e1, e2⟩ := Prod.mk.inj (Option.some.inj e)
    subst e2
    obtain ⟨x, rfl, h1, d1, d2, d3, d4⟩ := o.rng h
    have hcase : k = 0 ∨ k = 1 ∨ k = 2 ∨ k = 3 := by omega
    have fin : ∃ z, atI [V.ref x.q, .int s.pos, .int s.acc, .int s.seed] (k : Nat) = some z ∧ Rep K (some x) F d z := by
      rcases hcase with rfl | rfl | rfl | rfl
      · refine ⟨_, rfl, ?_⟩
        rw [← e1]
        simp only [rdD, Rep]
        exact ⟨x.q, _, rfl, d4, by rw [List.length_map]; exact Nat.le_trans d2.nl (by decide), RepL.ofInts _⟩
      · exact ⟨_, rfl, by rw [← e1]; simp [rdD, Rep]⟩
      · exact ⟨_, rfl, by rw [← e1]; simp [rdD, Rep]⟩
      · exact ⟨_, rfl, by rw [← e1]; simp [rdD, Rep]⟩
    obtain ⟨z, hz, rz⟩ := fin
    exact ⟨_, h1, x.p, _, (k : Nat), z, rfl, rfl, .of d3, hz, q z F H (.refl o.fh) o.dok rz⟩
theorem cWr (C : Fam X P w K mg base N lv) (i k : Nat) {x : Str} {p2 p3 p4 : Pos} {kk} (h : CE X K e f) (hk : 1 ≤ k ∧ k ≤ 3) (hN : N[i]? = some x := by rfl) (hv : ∀ j, Vis (X j).env.scope x := by intro _; first | exact Or.inl rfl | exact Or.inr (Or.inl rfl) | exact Or.inr (Or.inr rfl))
    (hd : (x == ("__debug__" : Str)) = false := by decide) (hcd : (x == ("__classdict__" : Str)) = false := by decide)
    (ha : ∀ j, ∀ v, assign (.Subscript (.Name x p2) (.Constant (.int (k : Nat)) kk p4) p3) (X j).env v = (do
      let ov ← holding [v] (eval (.Name x p2) (X j).env)
      let iv ← holding [v, ov] (eval (.Constant (.int (k : Nat)) kk p4) (X j).env)
      standAt p3
      holding [v, ov, iv] (setItem ov iv v)
      release [v, ov, iv] []) := by intro _ _; rfl)
    (hs : ∀ j, swapsWithSole [.Subscript (.Name x p2) (.Constant (.int (k : Nat)) kk p4) p3] e pos.line (X j).env = pure false := by intro _; rfl) (hw : ∀ j, swappedStores [.Subscript (.Name x p2) (.Constant (.int (k : Nat)) kk p4) p3] e (X j).env = pure none := by intro _; rfl)
    (h1 : ∀ j, (assignEach [.Subscript (.Name x p2) (.Constant (.int (k : Nat)) kk p4) p3] (X j).env).map (·.2) = [assign (.Subscript (.Name x p2) (.Constant (.int (k : Nat)) kk p4) p3) (X j).env] := by intro _; rfl) :
    CS X K (.Assign [.Subscript (.Name x p2) (.Constant (.int (k : Nat)) kk p4) p3] e pos) (sWr i k f) := by
  obtain ⟨t, e1, e2⟩ := h
  refine ⟨_, fun j => ps_asg (e1 j) (pg_sub (pe_var (by rw [C.n j]; exact hN) (hv j) hd hcd) (pe_int (i := ((k : Nat) : Int)) (j := kk) (pos := p4)) set_list (ha j)) (hs j) (hw j) (h1 j), fun pd F0 H0 F H ρ σ s r ρ' s' o e E q => ?_⟩
  obtain ⟨d, s1, a1, e⟩ := Mb_eq e
  obtain ⟨v, rfl, e⟩ := onInt_eq e
  obtain ⟨hr, e⟩ := onSh_rng e
  split at e
  · rename_i hok
    obtain ⟨e3, e4⟩ := Prod.mk.inj (Option.some.inj e)
    cases e3
    subst e4
    refine e2 pd F0 H0 F H _ σ s _ _ o a1 _ fun z F1 H1 x1 d1 r1 => ?_
    have o1 := o.step x1 d1
    simp only [Rep] at r1
    subst r1
    obtain ⟨x, rfl, h1, c1, c2, c3, c4⟩ := o1.rng hr
    unfold wrOk at hok
    simp only [Bool.and_eq_true, Bool.or_eq_true, bne_iff_ne, ne_eq, decide_eq_true_eq] at hok
    refine ⟨_, h1, x.p, _, (k : Nat), k, rfl, rfl, c3, ?_, ?_⟩
    · rcases (show k = 1 ∨ k = 2 ∨ k = 3 by omega) with rfl | rfl | rfl <;> rfl
    · rcases (show k = 1 ∨ k = 2 ∨ k = 3 by omega) with rfl | rfl | rfl
      · exact q σ F1 _ x1.ff (o1.wr (s' := wrD 1 v s1) ⟨hok.1, c2.a0, c2.s0, c2.s1, c2.nl⟩ rfl)
      · exact q σ F1 _ x1.ff (o1.wr (s' := wrD 2 v s1) ⟨c2.p0, hok.1, c2.s0, c2.s1, c2.nl⟩ rfl)
      · exact q σ F1 _ x1.ff (o1.wr (s' := wrD 3 v s1) ⟨c2.p0, c2.a0, hok.1, by rcases hok.2 with z | z; exact absurd rfl z; exact z, c2.nl⟩ rfl)
  · cases e
end

/-! ### _law_begin(script) -/
def spBegin (K : PySem.W.Frag) : Sp := fun vs H Q _ => ∃ (a : Addr) (ns : List Int), vs = [.ref a] ∧ SqL K H a (ns.map V.int) ∧ ns.length ≤ 63 ∧
  ∀ (q p : Addr) (H1 : Hp) (seed : Int), 0 ≤ seed → seed < 2147483647 → p ≠ q → H1 q = some (.lst (ns.map V.int)) → H1 p = some (.lst [.ref q, .int 0, .int 0, .int seed]) → Q (.ref p) H1
theorem seed_next {s c : Int} (h0 : 0 ≤ s) (h1 : s < 2147483647) : 0 ≤ (s * 69621 + c % 2147483629 + 7) % 2147483647 ∧ (s * 69621 + c % 2147483629 + 7) % 2147483647 < 2147483647 := ⟨Int.emod_nonneg _ (by decide), Int.emod_lt_of_pos _ (by decide)⟩
theorem log_small {x : Int} (h : x.natAbs < 2 ^ 64) : x.natAbs.log2 < 64 := by
  by_cases h0 : x.natAbs = 0
  · rw [h0]; decide
  · exact (Nat.log2_lt h0).mpr h
/-- the reading of its body, by hand (N = script, seed, cell) -/
def tBegin (K : PySem.W.Frag) (tl : TE) : TS := tSeq (tAsg (tC (.int 1)) (gName 1)) (tSeq (tFor (iList K (tVar 0)) (gName 2) (tAsg (tOp (rI (fun _ j => 0 < j) fun i j => .int (i % j)) (tOp (rAddAll K) (tOp (rAddAll K) (tOp (rI CMulW fun i j => .int (i * j)) (tVar 1) (tC (.int 69621)))
  (tOp (rI (fun _ j => 0 < j) fun i j => .int (i % j)) (tCB (fun xs H Q => (∃ i, xs = [.int i] ∧ Q (.int i) H) ∨ ∃ k, xs = [.bl k] ∧ Q (.int (if k then 1 else 0)) H) (tCons (tVar 2) tNil)) (tC (.int 2147483629)))) (tC (.int 7))) (tC (.int 2147483647))) (gName 1))) (tRet tl))
theorem semBegin {K : PySem.W.Frag} {H : Hp} {a : Addr} {ns : List Int} {Q : VK} {E : Ends} (hS : SqL K H a (ns.map V.int)) (hl : ns.length ≤ 63)
    (q : ∀ (q p : Addr) (H1 : Hp) (seed : Int), 0 ≤ seed → seed < 2147483647 → p ≠ q → H1 q = some (.lst (ns.map V.int)) → H1 p = some (.lst [.ref q, .int 0, .int 0, .int seed]) → Q (.ref p) H1) (hE : E.rt = Q) {y1 y2 : Option V}
    (tl : TE) (htl : tl = tLst (tCons (tCB (fun xs H Q => ∃ p ys, xs = [.ref p] ∧ (SqL K H p ys ∨ SqT K H p ys) ∧ ∀ l, H l = none → Q (.ref l) (L2.upd H l (.lst ys))) (tCons (tVar 0) tNil)) (tCons (tC (.int 0)) (tCons (tC (.int 0)) (tCons (tVar 1) tNil))))) :
    tBegin K tl E [some (.ref a), y1, y2] H := by
  refine ⟨.ref a, rfl, a, rfl, ⟨_, hS⟩, ?_⟩
  refine ⟨fun i m σ H' => H' = H ∧ i + m = ns.length ∧ ∃ s y, σ = [some (.ref a), some (.int s), y] ∧ 0 ≤ s ∧ s < 2147483647, ⟨ns.length, rfl, by simp, 1, _, rfl, by decide, by decide⟩, ?_⟩
  rintro i m σ H' ⟨rfl, him, s, y, rfl, h0, h1⟩
  by_cases hi : i < ns.length
  · have g : (ns.map V.int)[i]? = some (.int ns[i]) := by rw [List.getElem?_map, List.getElem?_eq_getElem hi]; rfl
    refine .inr ⟨⟨_, _, hS, g⟩, fun σ' H2 => H2 = H' ∧ i + 1 + (m - 1) = ns.length ∧ ∃ s y, σ' = [some (.ref a), some (.int s), y] ∧ 0 ≤ s ∧ s < 2147483647, fun σ' H2 h => ⟨m - 1, by omega, h⟩, fun x H2 hy => ?_⟩
    obtain ⟨rfl, hx⟩ := hy
    have ex : x = .int ns[i] := Option.some.inj ((hx _ hS).symm.trans g)
    subst ex
    have hlog : s.natAbs.log2 + (69621 : Int).natAbs.log2 < 1000000 := by
      have := log_small (x := s) (by omega)
      have : (69621 : Int).natAbs.log2 < 64 := log_small (by decide)
      omega
    have hn := seed_next (c := ns[i]) h0 h1
    exact ⟨_, rfl, s, 69621, rfl, rfl, hlog, _, rfl, .inl ⟨_, rfl, _, _, rfl, rfl, (by show (0 : Int) < 2147483629; decide), .inl ⟨_, _, rfl, rfl, .inl ⟨_, _, rfl, rfl, ⟨_, _, rfl, rfl, (by show (0 : Int) < 2147483647; decide), ⟨rfl, by omega, _, _, rfl, hn.1, hn.2⟩⟩⟩⟩⟩⟩
  · refine .inl ⟨⟨_, hS, by rw [List.length_map]; omega⟩, ?_⟩
    show tl [some (.ref a), some (.int s), y] H' E.rt
    rw [hE]
    subst htl
    refine ⟨.ref a, rfl, a, _, rfl, .inl hS, fun l hl' => ⟨.int s, rfl, by show 4 ≤ sizeLine; decide, fun p hp => ?_⟩⟩
    have hne : p ≠ l := by rintro rfl; rw [upd_same] at hp; cases hp
    exact q l p _ s h0 h1 hne (by rw [upd_ne (Ne.symm hne), upd_same]) upd_same
abbrev tBeginL (K : PySem.W.Frag) : TE := tLst (tCons (tCB (fun xs H Q => ∃ p ys, xs = [.ref p] ∧ (SqL K H p ys ∨ SqT K H p ys) ∧ ∀ l, H l = none → Q (.ref l) (L2.upd H l (.lst ys))) (tCons (tVar 0) tNil)) (tCons (tC (.int 0)) (tCons (tC (.int 0)) (tCons (tVar 1) tNil))))
section
variable {P : Program} {w : World} {K : PySem.W.Frag} {mg : Str → Option Value} {base : Heap}
theorem begin_ok {st : Stmt} {f : Addr} {fd : FuncData} {k : Nat} {x : Str} (F : FnP K x st f fd) (S : FnScope ["script", "seed", "cell"] ["script"] (defScope st))
    (h : ∀ i, PSs (entF P w K mg base ["script", "seed", "cell"] k x (defScope st) f i) (defBody st) (tBegin K (tBeginL K))) : FnOk P w K mg base CX0 (k + 1) f fd ["script"] (spBegin K) := by
  refine F.okP S (fun vs H Q E h => ?_) (fun cdv A outer s H vs Q E hr h' => ?_)
  · obtain ⟨a, ns, rfl, _⟩ := h
    rfl
  · obtain ⟨a, ns, rfl, hS, hlen, q⟩ := h'
    exact ⟨_, h ⟨cdv, A, outer, s, H, E, hr⟩, semBegin hS hlen q rfl _ rfl⟩
/-- the start of a law's slots: the script forgotten, d the draw object -/
def rho0 (n : Nat) : Rho := .un :: .sh .rng :: List.replicate (n - 2) .un
def spLaw (K : PySem.W.Frag) (n : Nat) (g : SF) : Sp := fun vs H Q _ => ∃ (a : Addr) (ns : List Int), vs = [.ref a] ∧ SqL K H a (ns.map V.int) ∧ ns.length ≤ 63 ∧ (∀ seed, 0 ≤ seed → seed < 2147483647 → ∃ ρ' s', g (rho0 n) ⟨ns, 0, 0, seed⟩ = some ((.rt (.bl true), ρ'), s')) ∧ ∀ H', Q (.bl true) H'
theorem law_ok {st : Stmt} {f fB : Addr} {fd fdB : FuncData} {k kB : Nat} {x : Str} {N : List Str} {p2 p3 p4 p5 pos : Pos} {rest : List Stmt} {g : SF} (F : FnP K x st f fd) (S : FnScope N ["script"] (defScope st))
    (FB : FnOk P w K mg base CX0 kB fB fdB ["script"] (spBegin K)) (hkB : kB ≤ k) (bB : Binds K fdB ["script"] []) (gB : mg "_law_begin" = some (.ref fB)) (kpB : PySem.W.keepIn K (.ref fB) = true)
    (hb : defBody st = .Assign [.Name "d" p2] (.Call (.Name "_law_begin" p3) [.Name "script" p4] [] p5) pos :: rest) (h : CSs (entF P w K mg base N k x (defScope st) f) K rest g)
    (hN0 : N[0]? = some (Str.ofString "script")) (hN1 : N[1]? = some (Str.ofString "d")) (n : Nat := N.length) (hn : N.length = n := by rfl) (hn2 : 2 ≤ n := by decide)
    (hv : ∀ j, Vis (entF P w K mg base N k x (defScope st) f j).env.scope "script" := by intro _; first | exact Or.inl rfl | exact Or.inr (Or.inl rfl) | exact Or.inr (Or.inr rfl)) (hx : ∀ j, Loc (entF P w K mg base N k x (defScope st) f j).env.scope "d" := by intro _; first | exact Or.inl rfl | exact Or.inr rfl)
    (hg : ∀ i, Gl (entF P w K mg base N k x (defScope st) f i) "_law_begin" := by intro _; rfl)
    (he : ∀ i, starEach [.Name "script" p4] (entF P w K mg base N k x (defScope st) f i).env = (false, eval (.Name "script" p4) (entF P w K mg base N k x (defScope st) f i).env) :: starEach [] (entF P w K mg base N k x (defScope st) f i).env := by intro _; rfl)
    (hpl : ∀ i, (backTo p5 (starEach [] (entF P w K mg base N k x (defScope st) f i).env)).any (·.1) = false := by intro _; rfl)
    (hs : ∀ j, swapsWith (.Call (.Name "_law_begin" p3) [.Name "script" p4] [] p5) (some (.Name "d" p2)) pos.line (entF P w K mg base N k x (defScope st) f j).env = pure false := by intro _; rfl) :
    FnOk P w K mg base CX0 (k + 1) f fd ["script"] (spLaw K n g) := by
  subst hn
  refine F.okP S (fun vs H Q E h => ?_) (fun cdv A outer s H vs Q E hr h' => ?_)
  · obtain ⟨a, ns, rfl, _⟩ := h
    rfl
  · obtain ⟨a, ns, rfl, hS, hlen, hG, q⟩ := h'
    obtain ⟨t, t1, t2⟩ := h
    have i0 : EntI k x (defScope st) f := ⟨cdv, A, outer, s, H, E, hr⟩
    refine ⟨tSeq (tAsg (tCall (spBegin K) [] E0 (tCons (tVar 0) tNil)) (gName 1)) t, ?_, ?_⟩
    · rw [hb]
      refine pss_cons (ps_set (S.nd) hN1 (hx ⟨cdv, A, outer, s, H, E, hr⟩) ?_ (hs ⟨cdv, A, outer, s, H, E, hr⟩)) (t1 ⟨cdv, A, outer, s, H, E, hr⟩)
      exact pe_call (X := entF P w K mg base N k x (defScope st) f ⟨cdv, A, outer, s, H, E, hr⟩) FB (hr.mono hkB) (hg ⟨cdv, A, outer, s, H, E, hr⟩) gB kpB bB .nil pass0 (pa_cons (pe_var hN0 (hv ⟨cdv, A, outer, s, H, E, hr⟩)) pa_nil (he ⟨cdv, A, outer, s, H, E, hr⟩)) (by decide) (he ⟨cdv, A, outer, s, H, E, hr⟩) (hpl ⟨cdv, A, outer, s, H, E, hr⟩)
    · have hst : L2.start N [V.ref a] = some (.ref a) :: none :: List.replicate (N.length - 2) none := by
        show [some (V.ref a)] ++ List.replicate (N.length - 1) none = _
        have : N.length - 1 = (N.length - 2) + 1 := by omega
        rw [this, List.replicate_succ]; rfl
      rw [hst]
      refine ⟨.ref a, rfl, a, ns, rfl, hS, hlen, fun qa p H1 seed h0 h1 hne e1 e2 => ?_⟩
      obtain ⟨ρ', s', hgg⟩ := hG seed h0 h1
      have nF : (L2.upd (fun _ => none) qa (HO.lst (ns.map V.int)) : Hp) p = none := by rw [upd_ne hne]
      refine t2 (some ⟨p, qa⟩) (L2.upd (fun _ => none) qa (.lst (ns.map V.int))) H1 (L2.upd (fun _ => none) qa (.lst (ns.map V.int))) H1 (rho0 N.length) _ ⟨ns, 0, 0, seed⟩ _ ρ' s' ⟨.refl fun b u e => ?_, ⟨?_, fun i sl e => ?_, fun i j ds es z hij e3 => ?_⟩, nF, ⟨Int.le_refl _, Int.le_refl _, h0, h1, hlen⟩, e2, upd_same⟩ hgg _ ?_
      · by_cases hb' : b = qa
        · subst hb'; rw [upd_same] at e; cases e; exact e1
        · rw [upd_ne hb'] at e; cases e
      · simp [rho0]
      · cases i with
        | zero => cases e; exact ⟨_, rfl, trivial⟩
        | succ i =>
          cases i with
          | zero => cases e; exact ⟨some (.ref p), rfl, .ref p, rfl, by simp only [Rep]; exact ⟨p, rfl, rfl⟩⟩
          | succ i =>
            have e : (List.replicate (N.length - 2) Slot.un)[i]? = some sl := e
            rw [List.getElem?_replicate] at e
            split at e
            · rename_i hlt
              cases e
              refine ⟨none, ?_, trivial⟩
              show (List.replicate (N.length - 2) (none : Option V))[i]? = some none
              rw [List.getElem?_replicate, if_pos hlt]
            · cases e
      · exfalso
        have := List.mem_of_getElem? e3
        simp [rho0] at this
      · exact fun v F' H' _ _ r => by
          simp only [Rep] at r
          subst r
          exact q H'
end
end Pu
namespace Pu
open PySem PySem.Spec PyProof.Rows L2

/-! ### plain values as data -/
class EnQ (α : Type) where
  e : α → D
  k : Nat
  cl : ∀ a, clean (e a) = true
  lay : ∀ a, (toP (e a)).canLay0 = true
  dp : ∀ a, (toP (e a)).depth ≤ k
  eqv : ∀ a b, PyData.eqv (toP (e a)) (toP (e b)) = true ↔ a = b
class En (α : Type) extends EnQ α where
  nn : ∀ a, isNonD (e a) = false
  lt : α → α → Bool
  al : ∀ a b, PySem.W.alike (toP (e a)) (toP (e b)) = true
  ltv : ∀ a b, PySem.W.dataLt (toP (e a)) (toP (e b)) = lt a b
  irr : ∀ a, lt a a = false
  trans : ∀ a b c, lt a b = true → lt b c = true → lt a c = true
  tot : ∀ a b, lt a b = false → lt b a = false → a = b
abbrev en {α : Type} [EnQ α] (a : α) : D := EnQ.e a
@[reducible] instance : En Int where
  e := .int
  k := 0
  cl _ := rfl
  lay _ := by simp [toP, PyData.canLay0]
  dp _ := by simp [toP, PyData.depth]
  nn _ := rfl
  eqv a b := by simp [toP, PyData.eqv]
  lt a b := decide (a < b)
  al a b := by simp [toP, PySem.W.alike]
  ltv a b := by simp [toP, PySem.W.dataLt_int]
  irr a := by simp
  trans a b c h1 h2 := by simp at *; omega
  tot a b h1 h2 := by simp at *; omega
@[reducible] instance : En Nat where
  e n := .int n
  k := 0
  cl _ := rfl
  lay _ := by simp [toP, PyData.canLay0]
  dp _ := by simp [toP, PyData.depth]
  nn _ := rfl
  eqv a b := by simp only [toP, PyData.eqv, beq_iff_eq]; omega
  lt a b := decide (a < b)
  al a b := by simp [toP, PySem.W.alike]
  ltv a b := by simp [toP, PySem.W.dataLt_int]
  irr a := by simp
  trans a b c h1 h2 := by simp at *; omega
  tot a b h1 h2 := by simp at *; omega
@[reducible] instance : EnQ Bool where
  e := .bl
  k := 0
  cl _ := rfl
  lay _ := by simp [toP, PyData.canLay0]
  dp _ := by simp [toP, PyData.depth]
  eqv a b := by simp [toP, PyData.eqv]
section
variable {α β : Type}
theorem cleanL_map [EnQ α] : ∀ l : List α, cleanL (l.map EnQ.e) = true
  | [] => rfl
  | a :: l => by simp [cleanL, EnQ.cl, cleanL_map l]
theorem lay_map [EnQ α] : ∀ l : List α, PyData.canLayAll0 (toPs (l.map EnQ.e)) = true
  | [] => by simp [toPs, PyData.canLayAll0]
  | a :: l => by simp [toPs, PyData.canLayAll0, EnQ.lay, lay_map l]
theorem dp_map [EnQ α] : ∀ l : List α, PyData.depthAll (toPs (l.map EnQ.e)) ≤ EnQ.k α
  | [] => by simp [toPs, PyData.depthAll]
  | a :: l => by
    have := dp_map l
    have := EnQ.dp a
    simp only [List.map_cons, toPs, PyData.depthAll]
    omega
theorem eqvAll_map [EnQ α] : ∀ l m : List α, PyData.eqvAll (toPs (l.map EnQ.e)) (toPs (m.map EnQ.e)) = true ↔ l = m
  | [], [] => by simp [toPs, PyData.eqvAll]
  | [], b :: m => by simp [toPs, PyData.eqvAll]
  | a :: l, [] => by simp [toPs, PyData.eqvAll]
  | a :: l, b :: m => by simp [toPs, PyData.eqvAll, EnQ.eqv, eqvAll_map l m]
@[reducible] instance [EnQ α] : EnQ (List α) where
  e l := .tup (l.map EnQ.e)
  k := EnQ.k α + 1
  cl l := by simp only [clean]; exact cleanL_map l
  lay l := by simp only [toP, PyData.canLay0]; exact lay_map l
  dp l := by simp only [toP, PyData.depth]; have := dp_map l; omega
  eqv l m := by simp only [toP, PyData.eqv]; exact eqvAll_map l m
def lxL (lt : α → α → Bool) : List α → List α → Bool
  | [], [] => false
  | [], _ :: _ => true
  | _ :: _, [] => false
  | a :: l, b :: m => lt a b || (!lt b a && lxL lt l m)
theorem alL [En α] : ∀ l m : List α, PySem.W.alikeAll (toPs (l.map EnQ.e)) (toPs (m.map EnQ.e)) = true
  | [], _ => by simp [toPs, PySem.W.alikeAll]
  | a :: l, [] => by simp [toPs, PySem.W.alikeAll]
  | a :: l, b :: m => by simp [toPs, PySem.W.alikeAll, En.al, alL l m]
theorem ltL [En α] : ∀ l m : List α, PyProof.Rows.lexLt PyProof.Rows.itemOrd (PySem.W.keyToksAll (toPs (l.map EnQ.e))) (PySem.W.keyToksAll (toPs (m.map EnQ.e))) = lxL En.lt l m
  | [], [] => by simp [toPs, PySem.W.keyToksAll, PyProof.Rows.lexLt, lxL]; rfl
  | [], b :: m => by
    simp only [List.map_nil, List.map_cons, toPs, PySem.W.keyToksAll, lxL]
    rfl
  | a :: l, [] => by
    simp only [List.map_nil, List.map_cons, toPs, PySem.W.keyToksAll, lxL]
    rfl
  | a :: l, b :: m => by
    simp only [List.map_cons, toPs, lxL]
    cases h : PyData.eqv (toP (EnQ.e a)) (toP (EnQ.e b)) with
    | true =>
      have := (EnQ.eqv a b).mp h
      subst this
      rw [PySem.W.dataLt_all_yes (En.al a a) h, ltL l m, En.irr]; simp
    | false =>
      rw [PySem.W.dataLt_all_no (En.al a b) h, En.ltv]
      have hne : a ≠ b := fun z => by rw [(EnQ.eqv a b).mpr z] at h; cases h
      cases h1 : En.lt a b with
      | true => simp
      | false =>
        cases h2 : En.lt b a with
        | true => simp
        | false => exact absurd (En.tot a b h1 h2) hne
theorem lxL_irr [En α] : ∀ l : List α, lxL En.lt l l = false
  | [] => rfl
  | a :: l => by simp [lxL, En.irr, lxL_irr l]
theorem lt_asym [En α] {a b : α} (h : En.lt a b = true) : En.lt b a = false := by
  cases h2 : En.lt b a with
  | false => rfl
  | true => have := En.trans a b a h h2; rw [En.irr] at this; cases this
theorem lxL_trans [En α] : ∀ l m n : List α, lxL En.lt l m = true → lxL En.lt m n = true → lxL En.lt l n = true
  | [], [], _, h, _ => by simp [lxL] at h
  | [], _ :: _, [], _, h => by simp [lxL] at h
  | [], _ :: _, _ :: _, _, _ => rfl
  | _ :: _, [], _, h, _ => by simp [lxL] at h
  | _ :: _, _ :: _, [], _, h => by simp [lxL] at h
  | a :: l, b :: m, c :: n, h1, h2 => by
    simp only [lxL, Bool.or_eq_true, Bool.and_eq_true, Bool.not_eq_true'] at h1 h2 ⊢
    rcases h1 with h1 | ⟨h1, h1'⟩ <;> rcases h2 with h2 | ⟨h2, h2'⟩
    · exact .inl (En.trans a b c h1 h2)
    · cases hb : En.lt b c with
      | true => exact .inl (En.trans a b c h1 hb)
      | false => have := En.tot b c hb h2; subst this; exact .inl h1
    · cases ha : En.lt a b with
      | true => exact .inl (En.trans a b c ha h2)
      | false => have := En.tot a b ha h1; subst this; exact .inl h2
    · cases ha : En.lt a b with
      | true =>
        cases hb : En.lt b c with
        | true => exact .inl (En.trans a b c ha hb)
        | false => have := En.tot b c hb h2; subst this; exact .inl ha
      | false =>
        have := En.tot a b ha h1; subst this
        exact .inr ⟨h2, lxL_trans l m n h1' h2'⟩
theorem lxL_tot [En α] : ∀ l m : List α, lxL En.lt l m = false → lxL En.lt m l = false → l = m
  | [], [], _, _ => rfl
  | [], _ :: _, h, _ => by simp [lxL] at h
  | _ :: _, [], _, h => by simp [lxL] at h
  | a :: l, b :: m, h1, h2 => by
    simp only [lxL, Bool.or_eq_false_iff, Bool.and_eq_false_iff, Bool.not_eq_false'] at h1 h2
    have hab := En.tot a b h1.1 h2.1
    subst hab
    rw [En.irr] at h1 h2
    rw [lxL_tot l m (by simpa using h1.2) (by simpa using h2.2)]
@[reducible] instance [En α] : En (List α) where
  nn _ := rfl
  lt := lxL En.lt
  al l m := by show PySem.W.alike (toP (.tup _)) (toP (.tup _)) = true; simp only [toP, PySem.W.alike]; exact alL l m
  ltv l m := by show PySem.W.dataLt (toP (.tup _)) (toP (.tup _)) = _; simp only [toP]; rw [PySem.W.dataLt_tuple]; exact ltL l m
  irr := lxL_irr
  trans := lxL_trans
  tot := lxL_tot
@[reducible] instance [EnQ α] [EnQ β] : EnQ (α × β) where
  e p := .tup [EnQ.e p.1, EnQ.e p.2]
  k := EnQ.k α + EnQ.k β + 1
  cl p := by simp [clean, cleanL, EnQ.cl]
  lay p := by simp [toP, toPs, PyData.canLay0, PyData.canLayAll0, EnQ.lay]
  dp p := by
    have := EnQ.dp p.1
    have := EnQ.dp p.2
    simp only [toP, toPs, PyData.depth, PyData.depthAll]; omega
  eqv p q := by
    simp only [toP, toPs, PyData.eqv, PyData.eqvAll, Bool.and_true, Bool.and_eq_true, EnQ.eqv]
    exact ⟨fun h => Prod.ext h.1 h.2, fun h => by rw [h]; exact ⟨rfl, rfl⟩⟩
def ltP (f : α → α → Bool) (g : β → β → Bool) (p q : α × β) : Bool := f p.1 q.1 || (!f q.1 p.1 && g p.2 q.2)
theorem ltP_v [En α] [En β] (p q : α × β) : PySem.W.dataLt (toP (EnQ.e p)) (toP (EnQ.e q)) = ltP En.lt En.lt p q := by
  show PySem.W.dataLt (toP (.tup [EnQ.e p.1, EnQ.e p.2])) (toP (.tup [EnQ.e q.1, EnQ.e q.2])) = _
  simp only [toP, toPs]
  rw [PySem.W.dataLt_tuple]
  unfold ltP
  cases h : PyData.eqv (toP (EnQ.e p.1)) (toP (EnQ.e q.1)) with
  | true =>
    have e1 := (EnQ.eqv _ _).mp h
    rw [PySem.W.dataLt_all_yes (En.al _ _) h]
    cases h' : PyData.eqv (toP (EnQ.e p.2)) (toP (EnQ.e q.2)) with
    | true =>
      have e2 := (EnQ.eqv _ _).mp h'
      rw [PySem.W.dataLt_all_yes (En.al _ _) h', e1, e2, En.irr, En.irr]; rfl
    | false =>
      rw [PySem.W.dataLt_all_no (En.al _ _) h', En.ltv, e1, En.irr]; simp
  | false =>
    rw [PySem.W.dataLt_all_no (En.al _ _) h, En.ltv]
    have hne : p.1 ≠ q.1 := fun z => by rw [(EnQ.eqv _ _).mpr z] at h; cases h
    cases h1 : En.lt p.1 q.1 with
    | true => simp
    | false =>
      cases h2 : En.lt q.1 p.1 with
      | true => simp
      | false => exact absurd (En.tot _ _ h1 h2) hne
@[reducible] instance [En α] [En β] : En (α × β) where
  nn _ := rfl
  lt := ltP En.lt En.lt
  al p q := by show PySem.W.alike (toP (.tup [EnQ.e p.1, EnQ.e p.2])) (toP (.tup [EnQ.e q.1, EnQ.e q.2])) = true; simp [toP, toPs, PySem.W.alike, PySem.W.alikeAll, En.al]
  ltv := ltP_v
  irr p := by simp [ltP, En.irr]
  trans p q r h1 h2 := by
    simp only [ltP, Bool.or_eq_true, Bool.and_eq_true, Bool.not_eq_true'] at h1 h2 ⊢
    rcases h1 with h1 | ⟨h1, h1'⟩ <;> rcases h2 with h2 | ⟨h2, h2'⟩
    · exact .inl (En.trans _ _ _ h1 h2)
    · cases hb : En.lt q.1 r.1 with
      | true => exact .inl (En.trans _ _ _ h1 hb)
      | false => have := En.tot _ _ hb h2; rw [this] at h1; exact .inl h1
    · cases ha : En.lt p.1 q.1 with
      | true => exact .inl (En.trans _ _ _ ha h2)
      | false => have := En.tot _ _ ha h1; rw [← this] at h2; exact .inl h2
    · cases ha : En.lt p.1 q.1 with
      | true =>
        cases hb : En.lt q.1 r.1 with
        | true => exact .inl (En.trans _ _ _ ha hb)
        | false => have := En.tot _ _ hb h2; rw [this] at ha; exact .inl ha
      | false =>
        have := En.tot _ _ ha h1
        rw [← this] at h2
        exact .inr ⟨h2, En.trans _ _ _ h1' h2'⟩
  tot p q h1 h2 := by
    simp only [ltP, Bool.or_eq_false_iff, Bool.and_eq_false_iff, Bool.not_eq_false'] at h1 h2
    have e1 := En.tot _ _ h1.1 h2.1
    rw [e1, En.irr] at h1
    rw [e1, En.irr] at h2
    exact Prod.ext e1 (En.tot _ _ (by simpa using h1.2) (by simpa using h2.2))
@[reducible] instance [En α] : EnQ (Option α) where
  e o := match o with
    | none => .non
    | some a => EnQ.e a
  k := EnQ.k α
  cl o := by cases o with
    | none => rfl
    | some a => exact EnQ.cl a
  lay o := by cases o with
    | none => simp [toP, PyData.canLay0]
    | some a => exact EnQ.lay a
  dp o := by cases o with
    | none => simp [toP, PyData.depth]
    | some a => exact EnQ.dp a
  eqv o p := by
    cases o with
    | none => cases p with
      | none => simp [toP, PyData.eqv]
      | some b =>
        have := En.nn b
        show PyData.eqv (toP .non) (toP (EnQ.e b)) = true ↔ _
        cases h : (EnQ.e b : D) <;> simp [toP, PyData.eqv, h, isNonD] at this ⊢
    | some a => cases p with
      | none =>
        have := En.nn a
        show PyData.eqv (toP (EnQ.e a)) (toP .non) = true ↔ _
        cases h : (EnQ.e a : D) <;> simp [toP, PyData.eqv, h, isNonD] at this ⊢
      | some b =>
        show PyData.eqv (toP (EnQ.e a)) (toP (EnQ.e b)) = true ↔ _
        rw [EnQ.eqv]; simp
/-! the operations on such -/
class Sh (α : Type) [EnQ α] : Prop where
  s : EnQ.k α ≤ 60
instance : Sh Int := ⟨by decide⟩
instance : Sh Nat := ⟨by decide⟩
instance : Sh Bool := ⟨by decide⟩
theorem shaped_en [EnQ α] (h : EnQ.k α ≤ 64) (a : α) : cmpOk (EnQ.e a) = true := by
  unfold cmpOk SeqAt.shaped
  rw [EnQ.cl, EnQ.lay]
  have := EnQ.dp a
  simp; omega
theorem cmpOk_tup [EnQ α] (h : EnQ.k α ≤ 60) (l : List α) : cmpOk (.tup (l.map EnQ.e)) = true := shaped_en (α := List α) (by show EnQ.k α + 1 ≤ 64; omega) l
theorem cmpOk_lst [EnQ α] (h : EnQ.k α ≤ 60) (l : List α) : cmpOk (.lst (l.map EnQ.e)) = true := by
  unfold cmpOk SeqAt.shaped
  simp only [clean, toP, PyData.canLay0, PyData.depth, cleanL_map, lay_map, Bool.true_and, decide_eq_true_eq]
  have := dp_map l
  omega
theorem eq_en [EnQ α] [DecidableEq α] (h : EnQ.k α ≤ 60) (a b : α) : eqD (EnQ.e a) (EnQ.e b) = some (.bl (decide (a = b))) := by
  unfold eqD
  rw [if_pos ⟨shaped_en (by omega) a, shaped_en (by omega) b⟩]
  congr 2
  by_cases e : a = b
  · rw [decide_eq_true e, (EnQ.eqv a b).mpr e]
  · rw [decide_eq_false e]
    cases hh : PyData.eqv (toP (EnQ.e a)) (toP (EnQ.e b)) with
    | false => rfl
    | true => exact absurd ((EnQ.eqv a b).mp hh) e
theorem ne_en [EnQ α] [DecidableEq α] (h : EnQ.k α ≤ 60) (a b : α) : neD (EnQ.e a) (EnQ.e b) = some (.bl (!decide (a = b))) := by
  unfold neD
  rw [if_pos ⟨shaped_en (by omega) a, shaped_en (by omega) b⟩]
  congr 3
  by_cases e : a = b
  · rw [decide_eq_true e, (EnQ.eqv a b).mpr e]
  · rw [decide_eq_false e]
    cases hh : PyData.eqv (toP (EnQ.e a)) (toP (EnQ.e b)) with
    | false => rfl
    | true => exact absurd ((EnQ.eqv a b).mp hh) e
theorem eqL_en [EnQ α] [DecidableEq α] (h : EnQ.k α ≤ 60) (l m : List α) : eqD (.lst (l.map EnQ.e)) (.lst (m.map EnQ.e)) = some (.bl (decide (l = m))) := by
  unfold eqD
  rw [if_pos ⟨cmpOk_lst h l, cmpOk_lst h m⟩]
  simp only [toP, PyData.eqv]
  congr 2
  by_cases e : l = m
  · rw [decide_eq_true e, (eqvAll_map l m).mpr e]
  · rw [decide_eq_false e]
    cases hh : PyData.eqvAll (toPs (l.map EnQ.e)) (toPs (m.map EnQ.e)) with
    | false => rfl
    | true => exact absurd ((eqvAll_map l m).mp hh) e
theorem neL_en [EnQ α] [DecidableEq α] (h : EnQ.k α ≤ 60) (l m : List α) : neD (.lst (l.map EnQ.e)) (.lst (m.map EnQ.e)) = some (.bl (!decide (l = m))) := by
  have := eqL_en h l m
  unfold eqD at this
  unfold neD
  rw [if_pos ⟨cmpOk_lst h l, cmpOk_lst h m⟩] at this ⊢
  have := D.bl.inj (Option.some.inj this)
  rw [this]
theorem hasD_en [EnQ α] [DecidableEq α] (a : α) : ∀ l : List α, hasD (EnQ.e a) (l.map EnQ.e) = decide (a ∈ l)
  | [] => rfl
  | b :: l => by
    have ih := hasD_en a l
    unfold hasD at ih ⊢
    rw [List.map_cons, List.any_cons, ih]
    by_cases e : a = b
    · subst e
      rw [(EnQ.eqv a a).mpr rfl]; simp
    · have : PyData.eqv (toP (EnQ.e b)) (toP (EnQ.e a)) = false := by
        cases hh : PyData.eqv (toP (EnQ.e b)) (toP (EnQ.e a)) with
        | false => rfl
        | true => exact absurd ((EnQ.eqv b a).mp hh).symm e
      rw [this]; simp [e]
theorem inL_en [EnQ α] [DecidableEq α] (h : EnQ.k α ≤ 60) (a : α) (l : List α) : inD (EnQ.e a) (.lst (l.map EnQ.e)) = some (.bl (decide (a ∈ l))) := by
  unfold inD; simp only [seqD]; rw [if_pos ⟨shaped_en (by omega) a, cmpOk_lst h l⟩, hasD_en]
theorem inT_en [EnQ α] [DecidableEq α] (h : EnQ.k α ≤ 60) (a : α) (l : List α) : inD (EnQ.e a) (.tup (l.map EnQ.e)) = some (.bl (decide (a ∈ l))) := by
  unfold inD; simp only [seqD]; rw [if_pos ⟨shaped_en (by omega) a, cmpOk_tup h l⟩, hasD_en]
theorem ninL_en [EnQ α] [DecidableEq α] (h : EnQ.k α ≤ 60) (a : α) (l : List α) : ninD (EnQ.e a) (.lst (l.map EnQ.e)) = some (.bl (!decide (a ∈ l))) := by
  unfold ninD; simp only [seqD]; rw [if_pos ⟨shaped_en (by omega) a, cmpOk_lst h l⟩, hasD_en]
theorem ninT_en [EnQ α] [DecidableEq α] (h : EnQ.k α ≤ 60) (a : α) (l : List α) : ninD (EnQ.e a) (.tup (l.map EnQ.e)) = some (.bl (!decide (a ∈ l))) := by
  unfold ninD; simp only [seqD]; rw [if_pos ⟨shaped_en (by omega) a, cmpOk_tup h l⟩, hasD_en]
theorem ninT_yes [EnQ α] [DecidableEq α] (h : EnQ.k α ≤ 60) {a : α} {l : List α} (hm : a ∈ l) : ninD (EnQ.e a) (.tup (l.map EnQ.e)) = some (.bl false) := by rw [ninT_en h a l]; simp [hm]
theorem ninL_yes [EnQ α] [DecidableEq α] (h : EnQ.k α ≤ 60) {a : α} {l : List α} (hm : a ∈ l) : ninD (EnQ.e a) (.lst (l.map EnQ.e)) = some (.bl false) := by rw [ninL_en h a l]; simp [hm]
theorem ordOk_en [En α] (h : EnQ.k α ≤ 60) (a b : α) : ordOk (EnQ.e a) (EnQ.e b) = true := by
  unfold ordOk; rw [shaped_en (by omega) a, shaped_en (by omega) b, En.al, En.nn]; rfl
theorem lt_en [En α] (h : EnQ.k α ≤ 60) (a b : α) : ltA (EnQ.e a) (EnQ.e b) = some (.bl (En.lt a b)) := by unfold ltA; rw [if_pos (ordOk_en h a b), En.ltv]
/-! least, greatest -/
def mnE [En α] (x : α) (xs : List α) : α := xs.foldl (fun a y => if En.lt y a = true then y else a) x
def mxE [En α] (x : α) (xs : List α) : α := xs.foldl (fun a y => if En.lt a y = true then y else a) x
theorem minA_en [En α] : ∀ (xs : List α) (x : α), minA (EnQ.e x) (xs.map EnQ.e) = EnQ.e (mnE x xs)
  | [], x => rfl
  | y :: xs, x => by
    have ih := minA_en xs (if En.lt y x = true then y else x)
    unfold minA mnE at ih ⊢
    rw [List.map_cons, List.foldl_cons, List.foldl_cons, ← ih, En.ltv]
    by_cases h : En.lt y x = true <;> simp [h]
theorem maxA_en [En α] : ∀ (xs : List α) (x : α), maxA (EnQ.e x) (xs.map EnQ.e) = EnQ.e (mxE x xs)
  | [], x => rfl
  | y :: xs, x => by
    have ih := maxA_en xs (if En.lt x y = true then y else x)
    unfold maxA mxE at ih ⊢
    rw [List.map_cons, List.foldl_cons, List.foldl_cons, ← ih, En.ltv]
    by_cases h : En.lt x y = true <;> simp [h]
theorem allCmp_en [En α] (h : EnQ.k α ≤ 60) (l : List α) : allCmp (l.map EnQ.e) = true := by
  unfold allCmp
  simp only [Bool.and_eq_true, List.all_eq_true, List.mem_map, forall_exists_index, and_imp, forall_apply_eq_imp_iff₂, Bool.not_eq_true']
  exact ⟨fun a _ => ⟨shaped_en (by omega) a, En.nn a⟩, fun a _ b _ => En.al a b⟩
theorem min_seq [En α] (h : EnQ.k α ≤ 60) {d : D} {x : α} {xs : List α} (hd : seqD d = some ((x :: xs).map EnQ.e)) : minD [d] = some (EnQ.e (mnE x xs)) := by
  unfold minD onSeq
  simp only [hd, List.map_cons]
  have := allCmp_en h (x :: xs)
  rw [List.map_cons] at this
  rw [if_pos this, minA_en]
theorem max_seq [En α] (h : EnQ.k α ≤ 60) {d : D} {x : α} {xs : List α} (hd : seqD d = some ((x :: xs).map EnQ.e)) : maxD [d] = some (EnQ.e (mxE x xs)) := by
  unfold maxD onSeq
  simp only [hd, List.map_cons]
  have := allCmp_en h (x :: xs)
  rw [List.map_cons] at this
  rw [if_pos this, maxA_en]
theorem mnE_mem [En α] (x : α) (xs : List α) : mnE x xs ∈ x :: xs := by
  unfold mnE
  induction xs generalizing x with
  | nil => simp
  | cons y ys ih =>
    rw [List.foldl_cons]
    have := ih (if En.lt y x = true then y else x)
    by_cases h : En.lt y x = true
    · simp only [h, if_true] at this ⊢; exact List.mem_cons_of_mem _ this
    · simp only [h] at this ⊢
      rcases List.mem_cons.mp this with z | z
      · exact List.mem_cons.mpr (.inl z)
      · exact List.mem_cons_of_mem _ (List.mem_cons_of_mem _ z)
theorem mxE_mem [En α] (x : α) (xs : List α) : mxE x xs ∈ x :: xs := by
  unfold mxE
  induction xs generalizing x with
  | nil => simp
  | cons y ys ih =>
    rw [List.foldl_cons]
    have := ih (if En.lt x y = true then y else x)
    by_cases h : En.lt x y = true
    · simp only [h, if_true] at this ⊢; exact List.mem_cons_of_mem _ this
    · simp only [h] at this ⊢
      rcases List.mem_cons.mp this with z | z
      · exact List.mem_cons.mpr (.inl z)
      · exact List.mem_cons_of_mem _ (List.mem_cons_of_mem _ z)
theorem le_trans' [En α] {a b c : α} (h1 : En.lt b a = false) (h2 : En.lt c b = false) : En.lt c a = false := by
  cases h : En.lt c a with
  | false => rfl
  | true =>
    cases h3 : En.lt a b with
    | true => have := En.trans _ _ _ h h3; rw [h2] at this; cases this
    | false => have := En.tot _ _ h3 h1; subst this; rw [h2] at h; cases h
theorem mnE_le [En α] (x : α) (xs : List α) : ∀ y ∈ x :: xs, En.lt y (mnE x xs) = false := by
  unfold mnE
  induction xs generalizing x with
  | nil => intro y hy; rw [List.mem_singleton.mp hy]; exact En.irr x
  | cons z zs ih =>
    intro y hy
    rw [List.foldl_cons]
    by_cases h : En.lt z x = true
    · simp only [h, if_true]
      have := ih z
      rcases List.mem_cons.mp hy with e | e
      · subst e
        exact le_trans' (this z (by simp)) (lt_asym h)
      · exact this y e
    · simp only [h]
      have := ih x
      rcases List.mem_cons.mp hy with e | e
      · subst e; exact this y (by simp)
      · rcases List.mem_cons.mp e with e | e
        · subst e
          exact le_trans' (this x (by simp)) (by simpa using h)
        · exact this y (List.mem_cons_of_mem _ e)
theorem mxE_le [En α] (x : α) (xs : List α) : ∀ y ∈ x :: xs, En.lt (mxE x xs) y = false := by
  unfold mxE
  induction xs generalizing x with
  | nil => intro y hy; rw [List.mem_singleton.mp hy]; exact En.irr x
  | cons z zs ih =>
    intro y hy
    rw [List.foldl_cons]
    by_cases h : En.lt x z = true
    · simp only [h, if_true]
      have := ih z
      rcases List.mem_cons.mp hy with e | e
      · subst e
        exact le_trans' (lt_asym h) (this z (by simp))
      · exact this y e
    · simp only [h]
      have := ih x
      rcases List.mem_cons.mp hy with e | e
      · subst e; exact this y (by simp)
      · rcases List.mem_cons.mp e with e | e
        · subst e
          exact le_trans' (by simpa using h) (this x (by simp))
        · exact this y (List.mem_cons_of_mem _ e)
theorem mnE_uniq [En α] {x : α} {xs : List α} {m : α} (h1 : m ∈ x :: xs) (h2 : ∀ y ∈ x :: xs, En.lt y m = false) : mnE x xs = m := En.tot _ _ (mnE_le x xs m h1 |> fun h => h2 _ (mnE_mem x xs)) (mnE_le x xs m h1)
/-! places -/
theorem idxD_en [EnQ α] [DecidableEq α] (a : α) : ∀ l : List α, idxD (EnQ.e a) (l.map EnQ.e) = l.findIdx? fun z => decide (z = a)
  | [] => rfl
  | b :: l => by
    have ih := idxD_en a l
    unfold idxD at ih ⊢
    rw [List.map_cons, List.findIdx?_cons, List.findIdx?_cons, ih]
    by_cases e : b = a
    · subst e
      rw [(EnQ.eqv b b).mpr rfl]; simp
    · have : PyData.eqv (toP (EnQ.e b)) (toP (EnQ.e a)) = false := by
        cases hh : PyData.eqv (toP (EnQ.e b)) (toP (EnQ.e a)) with
        | false => rfl
        | true => exact absurd ((EnQ.eqv b a).mp hh) e
      rw [this]; simp [e]
theorem index_en [EnQ α] [DecidableEq α] (h : EnQ.k α ≤ 60) (a : α) (l : List α) : indexD (.lst (l.map EnQ.e)) (EnQ.e a) = (l.findIdx? fun z => decide (z = a)).map fun j => .int (j : Nat) := by
  unfold indexD; simp only []
  rw [if_pos ⟨cmpOk_lst h l, shaped_en (by omega) a⟩, idxD_en]
end
end Pu
namespace Pu
open PySem PySem.Spec PyProof.Rows L2

/-! ### what the words come to: weakest preconditions -/
def wp {α : Type} (m : M α) (s : DS) (Q : α → DS → Prop) : Prop := ∃ a s', m s = some (a, s') ∧ Q a s'
section
variable {α β : Type} {s : DS} {Q : α → DS → Prop}
theorem wp_some {m : M α} {a : α} {s' : DS} (h : m s = some (a, s')) : wp m s Q ↔ Q a s' := by
  unfold wp; rw [h]
  exact ⟨fun ⟨b, t, e, q⟩ => by cases e; exact q, fun q => ⟨a, s', rfl, q⟩⟩
theorem Mb_some {m : M β} {f : β → M α} {b : β} {s s1 : DS} (h : m s = some (b, s1)) : Mb m f s = f b s1 := by unfold Mb; rw [h]
theorem wp_mono {m : M α} {Q' : α → DS → Prop} (h : wp m s Q) (hq : ∀ a s', Q a s' → Q' a s') : wp m s Q' := let ⟨a, s', e, q⟩ := h; ⟨a, s', e, hq a s' q⟩
@[simp] theorem wp_Mp (a : α) : wp (Mp a) s Q ↔ Q a s := wp_some rfl
@[simp] theorem wp_Mf : wp (Mf : M α) s Q ↔ False := ⟨(fun h => by obtain ⟨_, _, e, _⟩ := h; cases e), False.elim⟩
theorem wp_congr {m : M α} {Q' : α → DS → Prop} (h : ∀ a s', Q a s' ↔ Q' a s') : wp m s Q ↔ wp m s Q' := ⟨fun x => wp_mono x fun a s' => (h a s').mp, fun x => wp_mono x fun a s' => (h a s').mpr⟩
theorem ite_F {c P : Prop} [Decidable c] : (if c then P else False) ↔ c ∧ P := by by_cases h : c <;> simp [h]
@[simp] theorem wp_Mb (m : M β) (f : β → M α) : wp (Mb m f) s Q ↔ wp m s fun b s' => wp (f b) s' Q := by
  constructor
  · rintro ⟨a, s', e, q⟩
    obtain ⟨b, s1, e1, e2⟩ := Mb_eq e
    exact ⟨b, s1, e1, a, s', e2, q⟩
  · rintro ⟨b, s1, e1, a, s', e2, q⟩
    refine ⟨a, s', ?_, q⟩
    unfold Mb; rw [e1]; exact e2
@[simp] theorem wp_Mo (o : Option α) : wp (Mo o) s Q ↔ ∃ a, o = some a ∧ Q a s := by
  cases o with
  | none => simp
  | some a => simp
@[simp] theorem wp_ite (c : Prop) [Decidable c] (a b : M α) : wp (if c then a else b) s Q ↔ if c then wp a s Q else wp b s Q := by split <;> rfl
@[simp] theorem wp_asB {d : D} {Q : Bool → DS → Prop} : wp (asB d) s Q ↔ ∃ b, d = .bl b ∧ Q b s := by
  cases d <;> simp [asB]
@[simp] theorem wp_onOw {o : Option Slot} {k : List D → M α} : wp (onOw o k) s Q ↔ ∃ ds, o = some (.ow ds) ∧ wp (k ds) s Q := by
  cases o with
  | none => simp [onOw]
  | some x => cases x <;> simp [onOw]
@[simp] theorem wp_onSh {o : Option Slot} {k : D → M α} : wp (onSh o k) s Q ↔ ∃ ds, o = some (.sh ds) ∧ wp (k ds) s Q := by
  cases o with
  | none => simp [onSh]
  | some x => cases x <;> simp [onSh]
@[simp] theorem wp_onInt {o : D} {k : Int → M α} : wp (onInt o k) s Q ↔ ∃ i, o = .int i ∧ wp (k i) s Q := by cases o <;> simp [onInt]
@[simp] theorem wp_onLst {o : D} {k : List D → M α} : wp (onLst o k) s Q ↔ ∃ i, o = .lst i ∧ wp (k i) s Q := by cases o <;> simp [onLst]
@[simp] theorem wp_onSome {o : Option β} {k : β → M α} : wp (onSome o k) s Q ↔ ∃ i, o = some i ∧ wp (k i) s Q := by cases o <;> simp [onSome]
end
section
variable {s : DS} {ρ : Rho} {Q : D → DS → Prop} {QA : List D → DS → Prop} {QT : Bool → DS → Prop} {QS : Res × Rho → DS → Prop}
@[simp] theorem w_xSh (i : Nat) : wp (xSh i ρ) s Q ↔ ∃ d, ρ[i]? = some (.sh d) ∧ Q d s := by
  unfold xSh
  cases h : ρ[i]? with
  | none => simp
  | some x => cases x <;> simp
/-- what a slot holds, as data -/
def slotD : Option Slot → Option D
  | some (.sh d) => some d
  | some (.ow ds) => some (.lst ds)
  | _ => none
@[simp] theorem slotD_sh (d : D) : slotD (some (.sh d)) = some d := rfl
@[simp] theorem slotD_ow (d : List D) : slotD (some (.ow d)) = some (.lst d) := rfl
@[simp] theorem w_xNm (i : Nat) : wp (xNm i ρ) s Q ↔ ∃ d, slotD ρ[i]? = some d ∧ Q d s := by
  unfold xNm
  cases h : ρ[i]? with
  | none => simp [slotD]
  | some x => cases x <;> simp [slotD]
@[simp] theorem w_xC (d : D) : wp (xC d ρ) s Q ↔ Q d s := by unfold xC; simp
@[simp] theorem w_x1 (g : D → Option D) (a : EF) : wp (x1 g a ρ) s Q ↔ wp (a ρ) s fun x s1 => ∃ d, g x = some d ∧ Q d s1 := by unfold x1; simp
@[simp] theorem w_x2 (g : D → D → Option D) (a b : EF) : wp (x2 g a b ρ) s Q ↔ wp (a ρ) s fun x s1 => wp (b ρ) s1 fun y s2 => ∃ d, g x y = some d ∧ Q d s2 := by unfold x2; simp
@[simp] theorem w_xL (g : List D → Option D) (a : AF) : wp (xL g a ρ) s Q ↔ wp (a ρ) s fun x s1 => ∃ d, g x = some d ∧ Q d s1 := by unfold xL; simp
@[simp] theorem w_o1 (g : D → Option (List D)) (a : EF) : wp (o1 g a ρ) s QA ↔ wp (a ρ) s fun x s1 => ∃ d, g x = some d ∧ QA d s1 := by unfold o1; simp
@[simp] theorem w_o2 (g : D → D → Option (List D)) (a b : EF) : wp (o2 g a b ρ) s QA ↔ wp (a ρ) s fun x s1 => wp (b ρ) s1 fun y s2 => ∃ d, g x y = some d ∧ QA d s2 := by unfold o2; simp
@[simp] theorem w_oL (g : List D → Option (List D)) (a : AF) : wp (oL g a ρ) s QA ↔ wp (a ρ) s fun x s1 => ∃ d, g x = some d ∧ QA d s1 := by unfold oL; simp
@[simp] theorem w_xOf (a : AF) : wp (xOf a ρ) s Q ↔ wp (a ρ) s fun ds s1 => Q (.lst ds) s1 := by unfold xOf; simp
@[simp] theorem w_xTp (a : AF) : wp (xTp a ρ) s Q ↔ wp (a ρ) s fun ds s1 => Q (.tup ds) s1 := by unfold xTp; simp
@[simp] theorem w_aN : wp (aN ρ) s QA ↔ QA [] s := by unfold aN; simp
@[simp] theorem w_aC (a : EF) (r : AF) : wp (aC a r ρ) s QA ↔ wp (a ρ) s fun x s1 => wp (r ρ) s1 fun xs s2 => QA (x :: xs) s2 := by unfold aC; simp
@[simp] theorem w_xCh (g g' : D → D → Option D) (a b c : EF) : wp (xCh g g' a b c ρ) s Q ↔ wp (a ρ) s fun x s1 => wp (b ρ) s1 fun y s2 => ∃ k, g x y = some (.bl k) ∧ if k = true then wp (c ρ) s2 fun w s3 => ∃ d, g' y w = some d ∧ Q d s3 else Q (.bl false) s2 := by
  unfold xCh; simp only [wp_Mb, wp_Mo, wp_asB, wp_ite, wp_Mp]
  refine wp_congr fun x s1 => wp_congr fun y s2 => ⟨?_, ?_⟩
  · rintro ⟨z, h1, b, rfl, h2⟩; exact ⟨b, h1, h2⟩
  · rintro ⟨b, h1, h2⟩; exact ⟨_, h1, b, rfl, h2⟩
@[simp] theorem w_xAnd (a b : EF) : wp (xAnd a b ρ) s Q ↔ wp (a ρ) s fun x s1 => ∃ k, x = .bl k ∧ if k = true then wp (b ρ) s1 Q else Q (.bl false) s1 := by unfold xAnd; simp
@[simp] theorem w_xOr (a b : EF) : wp (xOr a b ρ) s Q ↔ wp (a ρ) s fun x s1 => ∃ k, x = .bl k ∧ if k = true then Q (.bl true) s1 else wp (b ρ) s1 Q := by unfold xOr; simp
@[simp] theorem w_xNot (a : EF) : wp (xNot a ρ) s Q ↔ wp (a ρ) s fun x s1 => ∃ k, x = .bl k ∧ Q (.bl (!k)) s1 := by unfold xNot; simp
@[simp] theorem w_xIf (t : TF) (a b : EF) : wp (xIf t a b ρ) s Q ↔ wp (t ρ) s fun k s1 => if k = true then wp (a ρ) s1 Q else wp (b ρ) s1 Q := by unfold xIf; simp
@[simp] theorem w_xTup (a : AF) : wp (xTup a ρ) s Q ↔ wp (a ρ) s fun xs s1 => xs.length ≤ SZ ∧ Q (.tup xs) s1 := by
  unfold xTup; simp only [wp_Mb, wp_ite, wp_Mp, wp_Mf, ite_F]
@[simp] theorem w_oLst (a : AF) : wp (oLst a ρ) s QA ↔ wp (a ρ) s fun xs s1 => xs.length ≤ SZ ∧ QA xs s1 := by
  unfold oLst; simp only [wp_Mb, wp_ite, wp_Mp, wp_Mf, ite_F]
@[simp] theorem w_tV (a : EF) : wp (tV a ρ) s QT ↔ wp (a ρ) s fun x s1 => ∃ b, x = .bl b ∧ QT b s1 := by unfold tV; simp
@[simp] theorem w_tAnd (a b : TF) : wp (tAnd a b ρ) s QT ↔ wp (a ρ) s fun k s1 => if k = true then wp (b ρ) s1 QT else QT false s1 := by unfold tAnd; simp
@[simp] theorem w_tOr (a b : TF) : wp (tOr a b ρ) s QT ↔ wp (a ρ) s fun k s1 => if k = true then QT true s1 else wp (b ρ) s1 QT := by unfold tOr; simp
@[simp] theorem w_tNot (a : TF) : wp (tNot a ρ) s QT ↔ wp (a ρ) s fun k s1 => QT (!k) s1 := by unfold tNot; simp
@[simp] theorem w_tTr (a : EF) : wp (tTr a ρ) s QT ↔ wp (a ρ) s fun x s1 => ∃ b, truD x = some b ∧ QT b s1 := by unfold tTr; simp
@[simp] theorem w_tYes : wp (tYes' ρ) s QT ↔ QT true s := by unfold tYes'; simp
@[simp] theorem w_xCall (m : List D → M D) (a : AF) : wp (xCall m a ρ) s Q ↔ wp (a ρ) s fun xs s1 => wp (m xs) s1 Q := by unfold xCall; simp
@[simp] theorem w_xCallB (m : List D → M D) (a : AF) : wp (xCallB m a ρ) s Q ↔ wp (a ρ) s fun xs s1 => wp (m xs) s1 fun d s2 => noL d = true ∧ Q d s2 := by
  unfold xCallB; simp only [wp_Mb, wp_ite, wp_Mp, wp_Mf, ite_F]
@[simp] theorem w_iSq (f : EF) : wp (iSq f ρ) s QA ↔ wp (f ρ) s fun d s1 => ∃ ds, seqD d = some ds ∧ QA ds s1 := by unfold iSq; simp
@[simp] theorem w_iRg (g : List D → Option (List D)) (f : AF) : wp (iRg g f ρ) s QA ↔ wp (f ρ) s fun xs s1 => ∃ ds, g xs = some ds ∧ QA ds s1 := by unfold iRg; simp
/-- a slice's end -/
def wpO (f : Option EF) (ρ : Rho) (s : DS) (Q : Option Int → DS → Prop) : Prop := match f with
  | none => Q none s
  | some f => wp (f ρ) s fun d s1 => ∃ i, d = .int i ∧ Q (some i) s1
@[simp] theorem wpO_none {Q : Option Int → DS → Prop} : wpO none ρ s Q ↔ Q none s := Iff.rfl
@[simp] theorem wpO_some {f : EF} {Q : Option Int → DS → Prop} : wpO (some f) ρ s Q ↔ wp (f ρ) s fun d s1 => ∃ i, d = .int i ∧ Q (some i) s1 := Iff.rfl
@[simp] theorem w_xSl (g : D → Option Int → Option Int → Option D) (a : EF) (lo hi : Option EF) : wp (xSl g a lo hi ρ) s Q ↔ wp (a ρ) s fun x s1 => wpO lo ρ s1 fun l s2 => wpO hi ρ s2 fun u s3 => ∃ d, g x l u = some d ∧ Q d s3 := by
  have k1 : ∀ (d : D) (s2 : DS) (R : Option Int → DS → Prop), wp ((match d with | .int i => Mp (some i) | _ => Mf) : M (Option Int)) s2 R ↔ ∃ i, d = .int i ∧ R (some i) s2 := fun d s2 R => by cases d <;> simp
  unfold xSl; simp only [wp_Mb, wp_Mo]
  refine wp_congr fun x s1 => ?_
  cases lo with
  | none =>
    simp only [wpO_none, wp_Mp]
    cases hi with
    | none => simp only [wpO_none, wp_Mp]
    | some f =>
      simp only [wpO_some, wp_Mb]
      refine wp_congr fun d s2 => ?_
      cases d <;> simp
  | some f =>
    simp only [wpO_some, wp_Mb]
    refine wp_congr fun d s2 => ?_
    cases d <;> simp
    cases hi with
    | none => simp
    | some f' =>
      simp
      refine wp_congr fun d' s3 => ?_
      cases d' <;> simp
/-! statements -/
@[simp] theorem w_sNext : wp (sNext ρ) s QS ↔ QS (.nx, ρ) s := by unfold sNext; simp
@[simp] theorem w_sFail : wp (sFail ρ) s QS ↔ False := by unfold sFail; simp
@[simp] theorem w_sBreak : wp (sBreak ρ) s QS ↔ QS (.bk, ρ) s := by unfold sBreak; simp
@[simp] theorem w_sCont : wp (sCont ρ) s QS ↔ QS (.ct, ρ) s := by unfold sCont; simp
/-- what follows a statement -/
def aft (b : SF) (QS : Res × Rho → DS → Prop) : Res × Rho → DS → Prop
  | (.nx, ρ'), s' => wp (b ρ') s' QS
  | r, s' => QS r s'
@[simp] theorem aft_nx {b : SF} : aft b QS (.nx, ρ) s ↔ wp (b ρ) s QS := Iff.rfl
@[simp] theorem aft_rt {b : SF} {d : D} : aft b QS (.rt d, ρ) s ↔ QS (.rt d, ρ) s := Iff.rfl
@[simp] theorem aft_bk {b : SF} : aft b QS (.bk, ρ) s ↔ QS (.bk, ρ) s := Iff.rfl
@[simp] theorem aft_ct {b : SF} : aft b QS (.ct, ρ) s ↔ QS (.ct, ρ) s := Iff.rfl
@[simp] theorem w_sSeq (a b : SF) : wp (sSeq a b ρ) s QS ↔ wp (a ρ) s (aft b QS) := by
  unfold sSeq; simp only [wp_Mb]
  refine wp_congr fun r s1 => ?_
  obtain ⟨r, ρ1⟩ := r
  cases r <;> simp [aft]
@[simp] theorem w_sSet (i : Nat) (f : EF) : wp (sSet i f ρ) s QS ↔ wp (f ρ) s fun d s1 => QS (.nx, ρ.set i (.sh d)) s1 := by unfold sSet; simp
@[simp] theorem w_sOwn (i : Nat) (f : AF) : wp (sOwn i f ρ) s QS ↔ wp (f ρ) s fun d s1 => QS (.nx, ρ.set i (.ow d)) s1 := by unfold sOwn; simp
@[simp] theorem w_sDrop (f : EF) : wp (sDrop f ρ) s QS ↔ wp (f ρ) s fun d s1 => QS (.nx, ρ) s1 := by unfold sDrop; simp
@[simp] theorem w_sRet (f : EF) : wp (sRet f ρ) s QS ↔ wp (f ρ) s fun d s1 => QS (.rt d, ρ) s1 := by unfold sRet; simp
@[simp] theorem w_sRetN : wp (sRetN ρ) s QS ↔ QS (.rt .non, ρ) s := by unfold sRetN; simp
@[simp] theorem w_sTo (g : TGt) (f : EF) : wp (sTo g f ρ) s QS ↔ wp (f ρ) s fun d s1 => ∃ ρ', g d ρ = some ρ' ∧ QS (.nx, ρ') s1 := by unfold sTo; simp
@[simp] theorem w_sRetOw (i : Nat) : wp (sRetOw i ρ) s QS ↔ ∃ ds, ρ[i]? = some (.ow ds) ∧ QS (.rt (.lst ds), ρ) s := by unfold sRetOw; simp
@[simp] theorem w_sMove (i j : Nat) : wp (sMove i j ρ) s QS ↔ ∃ ds, ρ[i]? = some (.ow ds) ∧ QS (.nx, (ρ.set i (.sh (.lst ds))).set j (.sh (.lst ds))) s := by unfold sMove; simp
@[simp] theorem w_sFz (i : Nat) (g : SF) : wp (sFz i g ρ) s QS ↔ ∃ ds, ρ[i]? = some (.ow ds) ∧ wp (g (ρ.set i (.sh (.lst ds)))) s QS := by unfold sFz; simp
@[simp] theorem w_sIf (t : TF) (a b : SF) : wp (sIf t a b ρ) s QS ↔ wp (t ρ) s fun k s1 => if k = true then wp (a ρ) s1 QS else wp (b ρ) s1 QS := by unfold sIf; simp
@[simp] theorem w_sAug (i : Nat) (g : D → D → Option D) (f : EF) : wp (sAug i g f ρ) s QS ↔ ∃ x, ρ[i]? = some (.sh x) ∧ wp (f ρ) s fun y s1 => ∃ z, g x y = some z ∧ QS (.nx, ρ.set i (.sh z)) s1 := by unfold sAug; simp
@[simp] theorem w_sMeth (i : Nat) (u : List D → D → Option (List D)) (f : EF) : wp (sMeth i u f ρ) s QS ↔ wp (f ρ) s fun d s1 => ∃ ds, ρ[i]? = some (.ow ds) ∧ ∃ es, u ds d = some es ∧ QS (.nx, ρ.set i (.ow es)) s1 := by unfold sMeth; simp
@[simp] theorem w_sPut (i : Nat) (fk f : EF) : wp (sPut i fk f ρ) s QS ↔ wp (f ρ) s fun d s1 => wp (fk ρ) s1 fun k s2 => ∃ ds, ρ[i]? = some (.ow ds) ∧ ∃ k', k = .int k' ∧ ∃ j, ixN ds.length k' = some j ∧ QS (.nx, ρ.set i (.ow (ds.set j d))) s2 := by unfold sPut; simp
@[simp] theorem w_sAugIx (i : Nat) (g : D → D → Option D) (fk f : EF) : wp (sAugIx i g fk f ρ) s QS ↔ wp (fk ρ) s fun k s1 => ∃ ds, ρ[i]? = some (.ow ds) ∧ ∃ k', k = .int k' ∧ ∃ j, ixN ds.length k' = some j ∧ ∃ x, ds[j]? = some x ∧ wp (f ρ) s1 fun y s2 => ∃ z, g x y = some z ∧ QS (.nx, ρ.set i (.ow (ds.set j z))) s2 := by unfold sAugIx; simp
@[simp] theorem gNm_eq (i : Nat) (d : D) : gNm i d ρ = some (ρ.set i (.sh d)) := rfl
@[simp] theorem gTp_eq (gs : List TGt) (ds : List D) : gTp gs (.tup ds) ρ = gTs gs ds ρ := rfl
@[simp] theorem gTs_nil : gTs [] [] ρ = some ρ := rfl
@[simp] theorem gTs_nm (i : Nat) (gs : List TGt) (d : D) (ds : List D) : gTs (gNm i :: gs) (d :: ds) ρ = gTs gs ds (ρ.set i (.sh d)) := rfl
theorem gTs_cons (g : TGt) (gs : List TGt) (d : D) (ds : List D) {ρ1 : Rho} (h : g d ρ = some ρ1) : gTs (g :: gs) (d :: ds) ρ = gTs gs ds ρ1 := by show (match g d ρ with | some ρ' => gTs gs ds ρ' | none => none) = _; rw [h]
@[simp] theorem gTs_tp (g : List TGt) (gs : List TGt) (d : List D) (ds : List D) : gTs (gTp g :: gs) (.tup d :: ds) ρ = (gTs g d ρ).bind (gTs gs ds) := by
  show (match gTs g d ρ with | some ρ' => gTs gs ds ρ' | none => none) = _
  cases gTs g d ρ <;> rfl
/-- a def's run -/
theorem wp_def {n k : Nat} {g : SF} {args : List D} (hk : args.length = k) (h : wp (g (args.map Slot.sh ++ List.replicate (n - args.length) Slot.un)) s fun r s' => (∃ d, r.1 = .rt d ∧ Q d s') ∨ (r.1 = .nx ∧ Q .non s')) : wp (runDef n k g args) s Q := by
  unfold runDef
  rw [if_pos hk, wp_Mb]
  refine wp_mono h fun r s' h => ?_
  obtain ⟨r, ρ'⟩ := r
  rcases h with ⟨d, rfl, q⟩ | ⟨rfl, q⟩ <;> simpa
/-- a def that comes to one value and draws nothing -/
theorem def_eq {m : List D → M D} {args : List D} {d : D} (h : ∀ s, wp (m args) s fun x s' => x = d ∧ s' = s) (s : DS) : m args s = some (d, s) := by
  obtain ⟨a, s', e, rfl, rfl⟩ := h s
  exact e
theorem wp_eq {m : List D → M D} {args : List D} {d : D} (h : ∀ s, m args s = some (d, s)) : wp (m args) s Q ↔ Q d s := wp_some (h s)

/-! comprehensions and loops -/
theorem wp_comp {α : Type} {gg : TGt} {ft : TF} {fe : EF} {ρ : Rho} (I : DS → Prop) (P : D → D → Prop) (items : List D)
    (h : ∀ x ∈ items, ∀ s, I s → ∃ ρ1, gg x ρ = some ρ1 ∧ wp (ft ρ1) s fun b s1 => if b = true then wp (fe ρ1) s1 fun y s2 => I s2 ∧ P x y else I s1) :
    ∀ s, I s → wp (compM gg ft fe ρ items) s fun ys s' => I s' ∧ (∀ y ∈ ys, ∃ x ∈ items, P x y) ∧ ys.length ≤ items.length := by
  induction items with
  | nil => intro s hs; simp [compM, hs]
  | cons x xs ih =>
    intro s hs
    obtain ⟨ρ1, e, hw⟩ := h x (by simp) s hs
    unfold compM
    rw [e]
    simp only [wp_Mb]
    refine wp_mono hw fun b s1 hb => ?_
    have ih' := ih fun y hy => h y (by simp [hy])
    cases b with
    | true =>
      simp only [if_true, wp_Mb] at hb ⊢
      refine wp_mono hb fun y s2 ⟨h2, hp⟩ => ?_
      refine wp_mono (ih' s2 h2) fun ys s3 ⟨h3, h4, h5⟩ => ?_
      rw [wp_Mp]
      exact ⟨h3, fun z hz => by
        rcases List.mem_cons.mp hz with rfl | hz
        · exact ⟨x, by simp, hp⟩
        · obtain ⟨x', hx', hp'⟩ := h4 z hz; exact ⟨x', by simp [hx'], hp'⟩, by simp; omega⟩
    | false =>
      simp only [Bool.false_eq_true, if_false] at hb ⊢
      exact wp_mono (ih' s1 hb) fun ys s3 ⟨h3, h4, h5⟩ => ⟨h3, fun z hz => by obtain ⟨x', hx', hp'⟩ := h4 z hz; exact ⟨x', by simp [hx'], hp'⟩, by simp; omega⟩
/-- a comprehension that draws nothing -/
theorem comp_map {α : Type} {gg : TGt} {ft : TF} {fe : EF} {ρ : Rho} {en' : α → D} {p : α → Bool} {f : α → D} (l : List α)
    (h : ∀ x ∈ l, ∃ ρ1, gg (en' x) ρ = some ρ1 ∧ ∀ s, wp (ft ρ1) s (fun b s1 => b = p x ∧ s1 = s) ∧ (p x = true → wp (fe ρ1) s fun y s2 => y = f x ∧ s2 = s)) (s : DS) :
    compM gg ft fe ρ (l.map en') s = some ((l.filter p).map f, s) := by
  induction l generalizing s with
  | nil => rfl
  | cons x xs ih =>
    obtain ⟨ρ1, e, hw⟩ := h x (by simp)
    have ih' := ih fun y hy => h y (by simp [hy])
    obtain ⟨h1, h2⟩ := hw s
    obtain ⟨b, s1, e1, eb, es⟩ := h1
    subst eb es
    rw [List.map_cons]
    unfold compM
    rw [e]
    show Mb (ft ρ1) _ _ = _
    rw [Mb_some e1]
    cases hp : p x with
    | false => simp only [Bool.false_eq_true, if_false, List.filter_cons, hp]; exact ih' _
    | true =>
      obtain ⟨y, s2, e2, rfl, rfl⟩ := h2 hp
      simp only [if_true, List.filter_cons, hp, List.map_cons]
      rw [Mb_some e2, Mb_some (ih' _)]
      rfl
theorem comp_mapT {α : Type} {gg : TGt} {fe : EF} {ρ : Rho} {en' : α → D} {f : α → D} (l : List α)
    (h : ∀ x ∈ l, ∃ ρ1, gg (en' x) ρ = some ρ1 ∧ ∀ s, wp (fe ρ1) s fun y s2 => y = f x ∧ s2 = s) (s : DS) : compM gg tYes' fe ρ (l.map en') s = some (l.map f, s) := by
  have := comp_map (ft := tYes') (p := fun _ => true) l (fun x hx => let ⟨ρ1, e, hw⟩ := h x hx; ⟨ρ1, e, fun s => ⟨by simp, fun _ => hw s⟩⟩) s
  rw [List.filter_eq_self.mpr (by simp)] at this
  exact this
@[simp] theorem w_oComp (fi : AF) (gg : TGt) (ft : TF) (fe : EF) (vs : List Nat) : wp (oComp fi gg ft fe vs ρ) s QA ↔ wp (fi ρ) s fun xs s1 => wp (compM gg ft fe (wipeR ρ vs) xs) s1 QA := by unfold oComp; simp
@[simp] theorem w_sFor (fi : AF) (g : TGt) (body : SF) : wp (sFor fi g body ρ) s QS ↔ wp (fi ρ) s fun xs s1 => wp (loopM g body xs ρ) s1 QS := by unfold sFor; simp
/-- THE RULE for loops: what holds ahead of the items that are left -/
theorem wp_loop {g : TGt} {body : SF} (I : List D → Rho → DS → Prop) (h : ∀ x xs ρ s, I (x :: xs) ρ s → ∃ ρ1, g x ρ = some ρ1 ∧ wp (body ρ1) s fun r s' => match r with
      | (.nx, ρ2) => I xs ρ2 s'
      | (.ct, ρ2) => I xs ρ2 s'
      | (.bk, ρ2) => QS (.nx, ρ2) s'
      | (.rt d, ρ2) => QS (.rt d, ρ2) s') (h0 : ∀ ρ s, I [] ρ s → QS (.nx, ρ) s) : ∀ (xs : List D) (ρ : Rho) (s : DS), I xs ρ s → wp (loopM g body xs ρ) s QS
  | [], ρ, s, hi => by unfold loopM; rw [wp_Mp]; exact h0 ρ s hi
  | x :: xs, ρ, s, hi => by
    obtain ⟨ρ1, e, hw⟩ := h x xs ρ s hi
    unfold loopM
    rw [e]
    simp only [wp_Mb]
    refine wp_mono hw fun r s' hr => ?_
    obtain ⟨r, ρ2⟩ := r
    cases r with
    | nx => exact wp_loop I h h0 xs ρ2 s' hr
    | ct => exact wp_loop I h h0 xs ρ2 s' hr
    | bk => rw [wp_Mp]; exact hr
    | rt d => rw [wp_Mp]; exact hr
/-- THE RULE for while: a measure that falls -/
theorem wp_while {t : TF} {body : SF} (I : Nat → Rho → DS → Prop) (h : ∀ n ρ s, I n ρ s → wp (t ρ) s fun k s1 => if k = true then wp (body ρ) s1 fun r s' => match r with
      | (.nx, ρ2) => ∃ m, m < n ∧ I m ρ2 s'
      | (.ct, ρ2) => ∃ m, m < n ∧ I m ρ2 s'
      | (.bk, ρ2) => QS (.nx, ρ2) s'
      | (.rt d, ρ2) => QS (.rt d, ρ2) s' else QS (.nx, ρ) s1) : ∀ (F n : Nat) (ρ : Rho) (s : DS), n < F → I n ρ s → wp (whileM t body F ρ) s QS
  | 0, n, _, _, hn, _ => by omega
  | F + 1, n, ρ, s, hn, hi => by
    unfold whileM
    simp only [wp_Mb, wp_ite]
    refine wp_mono (h n ρ s hi) fun k s1 hk => ?_
    cases k with
    | false => simpa using hk
    | true =>
      simp only [if_true, wp_Mb] at hk ⊢
      refine wp_mono hk fun r s' hr => ?_
      obtain ⟨r, ρ2⟩ := r
      cases r with
      | nx => obtain ⟨m, hm, hi'⟩ := hr; exact wp_while I h F m ρ2 s' (by omega) hi'
      | ct => obtain ⟨m, hm, hi'⟩ := hr; exact wp_while I h F m ρ2 s' (by omega) hi'
      | bk => rw [wp_Mp]; exact hr
      | rt d => rw [wp_Mp]; exact hr
theorem w_sWhile {t : TF} {body : SF} (I : Nat → Rho → DS → Prop) (h : ∀ n ρ s, I n ρ s → wp (t ρ) s fun k s1 => if k = true then wp (body ρ) s1 fun r s' => match r with
      | (.nx, ρ2) => ∃ m, m < n ∧ I m ρ2 s'
      | (.ct, ρ2) => ∃ m, m < n ∧ I m ρ2 s'
      | (.bk, ρ2) => QS (.nx, ρ2) s'
      | (.rt d, ρ2) => QS (.rt d, ρ2) s' else QS (.nx, ρ) s1) (n : Nat) (hn : n < FUEL) (hi : I n ρ s) : wp (sWhile t body ρ) s QS := wp_while I h FUEL n ρ s hn hi
end
end Pu
namespace Pu
open PySem PySem.Spec PyProof.Rows L2
/-! ### the law's draws -/
def gTake : SF := sSeq (sIf (tAnd (tV (x2 eqD (xRd 0 2) (xC (.int 0)))) (tV (x2 ltA (xRd 0 1) (xL lenD (aC (xRd 0 0) (aN)))))) (sSeq (sWr 0 2 (xL absD (aC (xL intD (aC (x2 ixD (xRd 0 0) (xRd 0 1)) (aN))) (aN)))) (sSeq (sWr 0 1 (x2 addD (xRd 0 1) (xC (.int 1)))) (sIf (tV (x2 ltA (xRd 0 2) (x2 powD (xC (.int 10)) (xC (.int 18))))) (sSeq (sSet 3 (xL intD (aC (xRd 0 2) (aN)))) (sSeq (sWr 0 2 (xC (.int 0))) (sRet (x2 modD (xNm 3) (xNm 1))))) (sNext)))) (sNext)) (sSeq (sIf (tV (x2 gtA (xRd 0 2) (xC (.int 0)))) (sSeq (sSet 2 (x2 modD (xL intD (aC (xRd 0 2) (aN))) (xNm 1))) (sSeq (sWr 0 2 (x2 divD (xL intD (aC (xRd 0 2) (aN))) (xNm 1))) (sRet (xSh 2)))) (sNext)) (sSeq (sWr 0 3 (x2 modD (xL intD (aC (x2 addD (x2 mulD (xRd 0 3) (xC (.int 48271))) (xC (.int 11))) (aN))) (xC (.int 2147483647)))) (sRet (x2 modD (xL intD (aC (x2 divD (xRd 0 3) (xC (.int 3))) (aN))) (xNm 1)))))
def mTake : List D → M D := runDef 4 2 gTake
section
variable {s : DS} {ρ : Rho} {Q : D → DS → Prop} {QA : List D → DS → Prop} {QT : Bool → DS → Prop} {QS : Res × Rho → DS → Prop}
@[simp] theorem w_xRd (i k : Nat) : wp (xRd i k ρ) s Q ↔ ρ[i]? = some (.sh .rng) ∧ Q (rdD k s) s := by
  unfold xRd
  simp only [wp_onSh]
  constructor
  · rintro ⟨d, h, w⟩
    cases d <;> first | (simp at w; done) | skip
    obtain ⟨a, s', e, q⟩ := w
    cases e
    exact ⟨h, q⟩
  · rintro ⟨h, q⟩
    exact ⟨.rng, h, _, _, rfl, q⟩
@[simp] theorem w_sWr (i k : Nat) (f : EF) : wp (sWr i k f ρ) s QS ↔ wp (f ρ) s fun d s1 => ∃ v, d = .int v ∧ ρ[i]? = some (.sh .rng) ∧ wrOk k v = true ∧ QS (.nx, ρ) (wrD k v s1) := by
  unfold sWr
  simp only [wp_Mb, wp_onInt, wp_onSh]
  refine wp_congr fun d s1 => ⟨?_, ?_⟩
  · rintro ⟨v, rfl, x, h, w⟩
    cases x <;> first | (simp at w; done) | skip
    obtain ⟨a, s', e, q⟩ := w
    have e : (if wrOk k v = true then some ((Res.nx, ρ), wrD k v s1) else none) = some (a, s') := e
    split at e
    · rename_i hok
      cases e
      exact ⟨v, rfl, h, hok, q⟩
    · cases e
  · rintro ⟨v, rfl, h, hok, q⟩
    refine ⟨v, rfl, .rng, h, (.nx, ρ), wrD k v s1, ?_, q⟩
    show (if wrOk k v = true then some ((Res.nx, ρ), wrD k v s1) else none) = _
    rw [if_pos hok]
@[simp] theorem eqD_ii (a b : Int) : eqD (.int a) (.int b) = some (.bl (decide (a = b))) := eq_en (α := Int) (by decide) a b
@[simp] theorem neD_ii (a b : Int) : neD (.int a) (.int b) = some (.bl (!decide (a = b))) := ne_en (α := Int) (by decide) a b
@[simp] theorem lenD_l (a : List D) : lenD [.lst a] = some (.int a.length) := rfl
@[simp] theorem lenD_t (a : List D) : lenD [.tup a] = some (.int a.length) := rfl
@[simp] theorem tupD_l (a : List D) : tupD [.lst a] = some (.tup a) := rfl
@[simp] theorem tupD_t (a : List D) : tupD [.tup a] = some (.tup a) := rfl
@[simp] theorem listO_l (a : List D) : listO [.lst a] = some a := rfl
@[simp] theorem listO_t (a : List D) : listO [.tup a] = some a := rfl
@[simp] theorem absD_i (a : Int) : absD [.int a] = some (.int (if a < 0 then -a else a)) := rfl
@[simp] theorem intD_i (a : Int) : intD [.int a] = some (.int a) := rfl
@[simp] theorem intD_b (a : Bool) : intD [.bl a] = some (.int (if a then 1 else 0)) := rfl
@[simp] theorem max2D_ii (a b : Int) : max2D [.int a, .int b] = some (.int (max a b)) := by unfold max2D; simp only []; congr 2; omega
@[simp] theorem min2D_ii (a b : Int) : min2D [.int a, .int b] = some (.int (min a b)) := by unfold min2D; simp only []; congr 2; omega
@[simp] theorem addD_ii (a b : Int) : addD (.int a) (.int b) = some (.int (a + b)) := rfl
@[simp] theorem subD_ii (a b : Int) : subD (.int a) (.int b) = some (.int (a - b)) := rfl
@[simp] theorem addI_ii (a b : Int) : addI (.int a) (.int b) = some (.int (a + b)) := rfl
@[simp] theorem negD_i (a : Int) : negD (.int a) = some (.int (-a)) := rfl
theorem modD_ii (a : Int) {b : Int} (h : 0 < b) : modD (.int a) (.int b) = some (.int (a % b)) := by show (if 0 < b then some (D.int (a % b)) else none) = _; rw [if_pos h]
theorem divD_ii (a : Int) {b : Int} (h : 0 < b) (h2 : b.natAbs.log2 < 9000) : divD (.int a) (.int b) = some (.int (a / b)) := by show (if 0 < b ∧ b.natAbs.log2 < 9000 then some (D.int (a / b)) else none) = _; rw [if_pos ⟨h, h2⟩]
theorem mulD_ii {a b : Int} (h : a.natAbs.log2 + b.natAbs.log2 < 1000000) : mulD (.int a) (.int b) = some (.int (a * b)) := by show (if a.natAbs.log2 + b.natAbs.log2 < 1000000 then some (D.int (a * b)) else none) = _; rw [if_pos h]
theorem log_lt {x : Int} {k : Nat} (h : x.natAbs < 2 ^ k) : x.natAbs.log2 ≤ k := by
  by_cases h0 : x.natAbs = 0
  · rw [h0]; simp
  · exact Nat.le_of_lt ((Nat.log2_lt h0).mpr h)
theorem mulD_sm {a b : Int} (k : Nat) (h : a.natAbs < 2 ^ k) (h2 : b.natAbs < 2 ^ k) (hk : k < 500000 := by decide) : mulD (.int a) (.int b) = some (.int (a * b)) := mulD_ii (by have := log_lt h; have := log_lt h2; omega)
theorem divD_sm (a : Int) {b : Int} (k : Nat) (h : 0 < b) (h2 : b.natAbs < 2 ^ k) (hk : k < 9000 := by decide) : divD (.int a) (.int b) = some (.int (a / b)) := divD_ii a h (by have := log_lt h2; omega)
theorem atI_nat' {α : Type} (xs : List α) (n : Nat) : atI xs (n : Int) = xs[n]? := by
  cases h : xs[n]? with
  | some v => exact atI_nat h
  | none =>
    unfold atI ixN
    have := List.getElem?_eq_none_iff.mp h
    rw [if_pos (by omega), if_neg (by omega)]; rfl
theorem ixN_nat {n k : Nat} (h : k < n) : ixN n (k : Int) = some k := by unfold ixN; rw [if_pos (by omega), if_pos (by omega)]; simp
@[simp] theorem ixD_tn (xs : List D) (n : Nat) : ixD (.tup xs) (.int (n : Nat)) = xs[n]? := atI_nat' xs n
@[simp] theorem ixD_ln (xs : List D) (n : Nat) : ixD (.lst xs) (.int (n : Nat)) = xs[n]? := atI_nat' xs n
theorem ixD_t0 (xs : List D) : ixD (.tup xs) (.int 0) = xs[0]? := atI_nat' xs 0
theorem ixD_t1 (xs : List D) : ixD (.tup xs) (.int 1) = xs[1]? := atI_nat' xs 1
theorem ixD_t2 (xs : List D) : ixD (.tup xs) (.int 2) = xs[2]? := atI_nat' xs 2
theorem ixD_l0 (xs : List D) : ixD (.lst xs) (.int 0) = xs[0]? := atI_nat' xs 0
theorem ixD_l1 (xs : List D) : ixD (.lst xs) (.int 1) = xs[1]? := atI_nat' xs 1
@[simp] theorem seqD_t (xs : List D) : seqD (.tup xs) = some xs := rfl
@[simp] theorem seqD_l (xs : List D) : seqD (.lst xs) = some xs := rfl
@[simp] theorem isD_non (x : D) : isD x .non = some (.bl (isNonD x)) := rfl
@[simp] theorem isNotD_non (x : D) : isNotD x .non = some (.bl (!isNonD x)) := rfl
@[simp] theorem wrD1 (ns : List Int) (p a sd v : Int) : wrD 1 v ⟨ns, p, a, sd⟩ = ⟨ns, v, a, sd⟩ := rfl
@[simp] theorem wrD2 (ns : List Int) (p a sd v : Int) : wrD 2 v ⟨ns, p, a, sd⟩ = ⟨ns, p, v, sd⟩ := rfl
@[simp] theorem wrD3 (ns : List Int) (p a sd v : Int) : wrD 3 v ⟨ns, p, a, sd⟩ = ⟨ns, p, a, v⟩ := rfl
theorem pow18 : powD (.int 10) (.int 18) = some (.int 1000000000000000000) := by
  show (if (0 : Int) ≤ 18 ∧ (18 : Int) ≤ 1000000 ∧ (10 : Int).natAbs < 2 ^ 64 then some (D.int (10 ^ (18 : Int).toNat)) else none) = _
  rw [if_pos (by decide)]; rfl
set_option maxHeartbeats 4000000 in
/-- a draw: a number below many, the draw object still well -/
theorem take_ok {m : Int} (hm : 0 < m) (hm2 : m.natAbs < 2 ^ 64) (h : s.ok) : wp (mTake [.rng, .int m]) s fun d s' => s'.ok ∧ ∃ r : Int, d = .int r ∧ 0 ≤ r ∧ r < m := by
  have hmod : ∀ a : Int, 0 ≤ a % m ∧ a % m < m := fun a => ⟨Int.emod_nonneg _ (by omega), Int.emod_lt_of_pos _ hm⟩
  obtain ⟨ns, pos, acc, seed⟩ := s
  obtain ⟨p0, a0, s0, s1, hl⟩ := h
  simp only at p0 a0 s0 s1 hl
  have hdiv : ∀ a : Int, divD (.int a) (.int m) = some (.int (a / m)) := fun a => divD_sm a 64 hm hm2
  have hdivp : ∀ a : Int, 0 ≤ a → 0 ≤ a / m := fun a ha => Int.ediv_nonneg ha (by omega)
  have last : ∀ (p a : Int), 0 ≤ p → a = 0 → ∃ d, mulD (D.int seed) (D.int 48271) = some d ∧ ∃ d_1, addD d (D.int 11) = some d_1 ∧ ∃ d, intD [d_1] = some d ∧ ∃ d_2, modD d (D.int 2147483647) = some d_2 ∧ ∃ v, d_2 = D.int v ∧ wrOk 3 v = true ∧
      ∃ d, divD (D.int v) (D.int 3) = some d ∧ ∃ d_3, intD [d] = some d_3 ∧ ∃ d, modD d_3 (D.int m) = some d ∧ (DS.mk ns p a v).ok ∧ ∃ r, d = D.int r ∧ 0 ≤ r ∧ r < m := by
    intro p a hp ha
    have h1 : 0 ≤ (seed * 48271 + 11) % 2147483647 := Int.emod_nonneg _ (by decide)
    have h2 : (seed * 48271 + 11) % 2147483647 < 2147483647 := Int.emod_lt_of_pos _ (by decide)
    refine ⟨_, mulD_sm 64 (by omega) (by decide), _, rfl, _, rfl, _, modD_ii _ (by decide), _, rfl, by unfold wrOk; simp [h1, h2], _, divD_sm _ 64 (by decide) (by decide), _, rfl, _, modD_ii _ hm, ⟨hp, by rw [ha]; exact Int.le_refl _, h1, h2, hl⟩, _, rfl, (hmod _).1, (hmod _).2⟩
  refine wp_def rfl ?_
  by_cases hacc : acc = 0
  · subst hacc
    by_cases hpos : pos < ns.length
    · obtain ⟨k, rfl⟩ := Int.eq_ofNat_of_zero_le p0
      have hk : k < ns.length := by omega
      have hx : ixD (.lst (ns.map D.int)) (.int (k : Nat)) = some (.int ns[k]) := by rw [ixD_ln, List.getElem?_map, List.getElem?_eq_getElem hk]; rfl
      have hv : 0 ≤ (if ns[k] < 0 then -ns[k] else ns[k]) := by split <;> omega
      generalize hvv : (if ns[k] < 0 then -ns[k] else ns[k]) = v at hv
      have hvv' : absD [.int ns[k]] = some (.int v) := by rw [absD_i, hvv]
      by_cases hsm : v < 1000000000000000000
      · simp [gTake, List.replicate, modD_ii _ hm, rdD, hx, hvv', pow18, hk, wrOk, hv, hsm, hmod, hdiv, Nat.not_le.mpr hk, Int.not_le.mpr hsm]
        exact ⟨by omega, ⟨by show (0 : Int) ≤ (k : Int) + 1; omega, Int.le_refl _, s0, s1, hl⟩⟩
      · have hv0 : 0 < v := by omega
        simp [gTake, List.replicate, modD_ii _ hm, rdD, hx, hvv', pow18, hk, wrOk, hv, hsm, hmod, hdiv, hv0, Nat.not_le.mpr hk, Int.not_le.mpr hv0]
        exact ⟨by omega, Int.not_lt.mp hsm, hdivp v hv, ⟨by show (0 : Int) ≤ (k : Int) + 1; omega, hdivp v hv, s0, s1, hl⟩⟩
    · have := last pos 0 p0 rfl
      simp [gTake, List.replicate, rdD, hpos, Int.not_lt.mp hpos]
      simpa using this
  · have hacc0 : 0 < acc := by omega
    simp [gTake, List.replicate, modD_ii _ hm, rdD, hacc, hacc0, hdiv, wrOk, hmod, Int.not_le.mpr hacc0]
    exact ⟨hdivp acc a0, ⟨p0, hdivp acc a0, s0, s1, hl⟩⟩
end
end Pu
namespace Pu
open PySem PySem.Spec PyProof.Rows L2
section
variable {α β : Type}
theorem e_L [EnQ α] (l : List α) : (EnQ.e l : D) = .tup (l.map EnQ.e) := rfl
theorem e_P [EnQ α] [EnQ β] (p : α × β) : (EnQ.e p : D) = .tup [EnQ.e p.1, EnQ.e p.2] := rfl
theorem e_I (i : Int) : (EnQ.e i : D) = .int i := rfl
theorem e_N (i : Nat) : (EnQ.e i : D) = .int (i : Nat) := rfl
theorem e_B (i : Bool) : (EnQ.e i : D) = .bl i := rfl
theorem e_none [En α] : (EnQ.e (none : Option α) : D) = .non := rfl
theorem e_some [En α] (a : α) : (EnQ.e (some a) : D) = EnQ.e a := rfl
theorem SZ_eq : SZ = 16777216 := by decide
/-! ranges -/
theorem rng1_n {n : Nat} (h : n ≤ 16777216) : rng1D [.int (n : Nat)] = some ((List.range n).map EnQ.e) := by
  show (if (n : Int) ≤ 16777216 ∧ -(2 ^ 62) ≤ (n : Int) then some (rangeL 0 (n : Int).toNat) else none) = _
  rw [if_pos (by omega)]
  unfold rangeL
  simp only [Int.toNat_natCast, Option.some.injEq]
  exact List.map_congr_left fun i _ => by rw [Int.zero_add]; rfl
theorem rng1_i {j : Int} (h : j ≤ 16777216) (h2 : -1000 ≤ j) : rng1D [.int j] = some ((List.range j.toNat).map EnQ.e) := by
  show (if j ≤ 16777216 ∧ -(2 ^ 62) ≤ j then some (rangeL 0 j.toNat) else none) = _
  rw [if_pos (by omega)]
  unfold rangeL
  simp only [Option.some.injEq]
  exact List.map_congr_left fun i _ => by rw [Int.zero_add]; rfl
theorem rng2_n {a b : Nat} (h : a ≤ 16777216) (h : b ≤ 16777216) : rng2D [.int (a : Nat), .int (b : Nat)] = some ((List.range' a (b - a)).map EnQ.e) := by
  simp only [rng2D]
  rw [if_pos (by omega)]
  unfold rangeL
  rw [List.range'_eq_map_range, List.map_map]
  have : ((b : Int) - a).toNat = b - a := by omega
  rw [this]
  congr 1
/-! all, any, sums -/
theorem blsD_f (p : α → Bool) : ∀ l : List α, blsD (l.map fun x => .bl (p x)) = some (l.map p)
  | [] => rfl
  | x :: l => by simp [blsD, blsD_f p l]
theorem intsD_f (p : α → Int) : ∀ l : List α, intsD (l.map fun x => .int (p x)) = some (l.map p)
  | [] => rfl
  | x :: l => by simp [intsD, intsD_f p l]
theorem allD_f (p : α → Bool) (l : List α) : allD [.lst (l.map fun x => .bl (p x))] = some (.bl (l.all p)) := by
  show (blsD _).map _ = _
  rw [blsD_f]
  simp [List.all_map, Function.comp_def]
theorem anyD_f (p : α → Bool) (l : List α) : anyD [.lst (l.map fun x => .bl (p x))] = some (.bl (l.any p)) := by
  show (blsD _).map _ = _
  rw [blsD_f]
  simp [List.any_map, Function.comp_def]
theorem sumL_f (p : α → Int) (l : List α) : sumD [.lst (l.map fun x => .int (p x))] = some (.int (l.map p).sum) := by
  show (intsD _).map _ = _
  rw [intsD_f]; rfl
theorem sumT_f (p : α → Int) (l : List α) : sumD [.tup (l.map fun x => .int (p x))] = some (.int (l.map p).sum) := by
  show (intsD _).map _ = _
  rw [intsD_f]; rfl
theorem sumL_i (l : List Int) : sumD [.lst (l.map D.int)] = some (.int l.sum) := by
  show (intsD _).map _ = _
  rw [intsD_map]; rfl
theorem sumT_i (l : List Int) : sumD [.tup (l.map D.int)] = some (.int l.sum) := by
  show (intsD _).map _ = _
  rw [intsD_map]; rfl
theorem blsD_rep (b : Bool) : ∀ n : Nat, blsD (List.replicate n (.bl b)) = some (List.replicate n b)
  | 0 => rfl
  | n + 1 => by rw [List.replicate_succ, List.replicate_succ]; simp [blsD, blsD_rep b n]
@[simp] theorem allD_rep (n : Nat) : allD [.lst (List.replicate n (.bl true))] = some (.bl true) := by
  show (blsD _).map _ = _
  rw [blsD_rep]; simp
@[simp] theorem allD_true (l : List α) : allD [.lst (l.map fun _ => .bl true)] = some (.bl true) := by rw [allD_f (fun _ => true)]; simp
@[simp] theorem truD_bl (b : Bool) : truD (.bl b) = some b := rfl
@[simp] theorem truD_int (b : Int) : truD (.int b) = some (b != 0) := rfl
@[simp] theorem truD_non : truD .non = some false := rfl
@[simp] theorem truD_tup (l : List D) : truD (.tup l) = some (!l.isEmpty) := rfl
@[simp] theorem truD_lst (l : List D) : truD (.lst l) = some (!l.isEmpty) := rfl
/-! slices -/
theorem cut_take {γ : Type} (xs : List γ) (n : Nat) : cutD xs none (some (n : Int)) = xs.take n := by
  unfold cutD
  rw [HT.sIx_none, HT.sIx_nat, List.drop_zero, Nat.sub_zero]
  rcases Nat.le_total n xs.length with h | h
  · rw [Nat.min_eq_left h]
  · rw [Nat.min_eq_right h, List.take_of_length_le (Nat.le_refl _), List.take_of_length_le h]
theorem cut_drop {γ : Type} (xs : List γ) (n : Nat) : cutD xs (some (n : Int)) none = xs.drop n := by
  unfold cutD
  rw [HT.sIx_none, HT.sIx_nat]
  rcases Nat.le_total n xs.length with h | h
  · rw [Nat.min_eq_left h, List.take_of_length_le (by rw [List.length_drop]; exact Nat.le_refl _)]
  · rw [Nat.min_eq_right h, List.drop_of_length_le h, List.drop_of_length_le (Nat.le_refl xs.length)]; simp
theorem cut_init {γ : Type} (xs : List γ) : cutD xs none (some (-1)) = xs.dropLast := by
  unfold cutD
  rw [HT.sIx_none, List.drop_zero, Nat.sub_zero, List.dropLast_eq_take]
  have : HT.sIx xs.length xs.length (some (-1)) = xs.length - 1 := by
    show (if (-1 : Int) < 0 then (-1 + (xs.length : Int)).toNat else min (-1 : Int).toNat xs.length) = xs.length - 1
    rw [if_pos (by decide)]; omega
  rw [this]
theorem sl_take (xs : List D) (n : Nat) : slD (.tup xs) none (some (n : Int)) = some (.tup (xs.take n)) := by show some (D.tup _) = _; rw [cut_take]
theorem sl_drop (xs : List D) (n : Nat) : slD (.tup xs) (some (n : Int)) none = some (.tup (xs.drop n)) := by show some (D.tup _) = _; rw [cut_drop]
theorem slL_take (xs : List D) (n : Nat) : slD (.lst xs) none (some (n : Int)) = some (.lst (xs.take n)) := by show some (D.lst _) = _; rw [cut_take]
theorem slL_drop (xs : List D) (n : Nat) : slD (.lst xs) (some (n : Int)) none = some (.lst (xs.drop n)) := by show some (D.lst _) = _; rw [cut_drop]
theorem addD_tt {a b : List D} (h : a.length + b.length ≤ 16777216) : addD (.tup a) (.tup b) = some (.tup (a ++ b)) := by
  show (if a.length + b.length ≤ SZ then some (D.tup (a ++ b)) else none) = _
  rw [if_pos (by rw [SZ_eq]; exact h)]
theorem catO_ll {a b : List D} (h : a.length + b.length ≤ 16777216) : catO (.lst a) (.lst b) = some (a ++ b) := by
  show (if a.length + b.length ≤ SZ then some (a ++ b) else none) = _
  rw [if_pos (by rw [SZ_eq]; exact h)]
theorem repO_1 (x : D) {n : Nat} (h : n ≤ 16777216) : repO (.lst [x]) (.int (n : Nat)) = some (List.replicate n x) := by
  simp only [repO]
  rw [if_pos ⟨by omega, by omega, by rw [SZ_eq]; simp; exact h⟩]
  simp
theorem repT_1 (x : D) {n : Nat} (h : n ≤ 1000) : repT (.tup [x]) (.int (n : Nat)) = some (.tup (List.replicate n x)) := by
  simp only [repT]
  rw [if_pos ⟨by omega, by omega, by simp⟩]
  simp
theorem appU_eq {ds : List D} {d : D} (h : ds.length < 16777216) : appU ds d = some (ds ++ [d]) := by
  unfold appU; rw [if_pos (by rw [SZ_eq]; exact h)]
theorem extU_eq {ds es : List D} (h : ds.length + es.length ≤ 16777216) : extU ds (.lst es) = some (ds ++ es) := by
  show (if ds.length + es.length ≤ SZ then some (ds ++ es) else none) = _
  rw [if_pos (by rw [SZ_eq]; exact h)]
/-! enumerate, zip -/
theorem enL_map [EnQ α] (l : List α) : enL (l.map EnQ.e) = l.zipIdx.map fun p => .tup [.int (p.2 : Nat), EnQ.e p.1] := by
  unfold enL
  rw [List.mapIdx_eq_zipIdx_map, List.zipIdx_map, List.map_map]
  rfl
theorem zpL_map [EnQ α] [EnQ β] (l : List α) (m : List β) : zpL (l.map EnQ.e) (m.map EnQ.e) = (l.zip m).map EnQ.e := by
  unfold zpL
  rw [List.zipWith_map]
  induction l generalizing m with
  | nil => rfl
  | cons a l ih => cases m with
    | nil => rfl
    | cons b m => simp [ih m]; rfl
theorem fold_app {γ : Type} (f : α → γ) : ∀ (l : List α) (q : List γ), l.foldl (fun q x => q ++ [f x]) q = q ++ l.map f
  | [], q => by simp
  | a :: l, q => by rw [List.foldl_cons, fold_app f l]; simp
/-! loops over lists of values -/
def lpost (J : Rho → DS → Prop) (QS : Res × Rho → DS → Prop) : Res × Rho → DS → Prop
  | (.nx, ρ), s => J ρ s
  | (.ct, ρ), s => J ρ s
  | (.bk, ρ), s => QS (.nx, ρ) s
  | (.rt d, ρ), s => QS (.rt d, ρ) s
section
variable {J : Rho → DS → Prop} {QS : Res × Rho → DS → Prop} {ρ : Rho} {s : DS} {g : TGt} {body : SF}
@[simp] theorem lpost_nx : lpost J QS (.nx, ρ) s ↔ J ρ s := Iff.rfl
@[simp] theorem lpost_ct : lpost J QS (.ct, ρ) s ↔ J ρ s := Iff.rfl
@[simp] theorem lpost_bk : lpost J QS (.bk, ρ) s ↔ QS (.nx, ρ) s := Iff.rfl
@[simp] theorem lpost_rt {d : D} : lpost J QS (.rt d, ρ) s ↔ QS (.rt d, ρ) s := Iff.rfl
/-- a loop: J st by what is gathered so far (f) -/
theorem wp_fold {σ : Type} (en' : α → D) (f : σ → α → σ) (J : σ → Rho → DS → Prop) (l : List α) (st : σ)
    (h : ∀ x ∈ l, ∀ st ρ s, J st ρ s → ∃ ρ1, g (en' x) ρ = some ρ1 ∧ wp (body ρ1) s (lpost (J (f st x)) QS)) (h0 : ∀ ρ s, J (l.foldl f st) ρ s → QS (.nx, ρ) s) (hJ : J st ρ s) : wp (loopM g body (l.map en') ρ) s QS := by
  induction l generalizing st ρ s with
  | nil => unfold loopM; simp only [List.map_nil]; rw [wp_Mp]; exact h0 ρ s hJ
  | cons x xs ih =>
    obtain ⟨ρ1, e, hw⟩ := h x (by simp) st ρ s hJ
    rw [List.map_cons]
    unfold loopM
    rw [e]
    simp only [wp_Mb]
    refine wp_mono hw fun r s' hr => ?_
    obtain ⟨r, ρ2⟩ := r
    cases r with
    | nx => exact ih (f st x) (fun y hy => h y (by simp [hy])) h0 hr
    | ct => exact ih (f st x) (fun y hy => h y (by simp [hy])) h0 hr
    | bk => rw [wp_Mp]; exact hr
    | rt d => rw [wp_Mp]; exact hr
/-- a loop: J rest by what is left -/
theorem wp_rest (en' : α → D) (J : List α → Rho → DS → Prop) (l : List α)
    (h : ∀ x xs ρ s, J (x :: xs) ρ s → ∃ ρ1, g (en' x) ρ = some ρ1 ∧ wp (body ρ1) s (lpost (J xs) QS)) (h0 : ∀ ρ s, J [] ρ s → QS (.nx, ρ) s) (hJ : J l ρ s) : wp (loopM g body (l.map en') ρ) s QS := by
  induction l generalizing ρ s with
  | nil => unfold loopM; simp only [List.map_nil]; rw [wp_Mp]; exact h0 ρ s hJ
  | cons x xs ih =>
    obtain ⟨ρ1, e, hw⟩ := h x xs ρ s hJ
    rw [List.map_cons]
    unfold loopM
    rw [e]
    simp only [wp_Mb]
    refine wp_mono hw fun r s' hr => ?_
    obtain ⟨r, ρ2⟩ := r
    cases r with
    | nx => exact ih hr
    | ct => exact ih hr
    | bk => rw [wp_Mp]; exact hr
    | rt d => rw [wp_Mp]; exact hr
/-- a loop that keeps J -/
theorem wp_each (en' : α → D) (J : Rho → DS → Prop) (l : List α)
    (h : ∀ x ∈ l, ∀ ρ s, J ρ s → ∃ ρ1, g (en' x) ρ = some ρ1 ∧ wp (body ρ1) s (lpost J QS)) (h0 : ∀ ρ s, J ρ s → QS (.nx, ρ) s) (hJ : J ρ s) : wp (loopM g body (l.map en') ρ) s QS :=
  wp_fold (σ := Unit) en' (fun _ _ => ()) (fun _ => J) l () (fun x hx _ ρ s hj => h x hx ρ s hj) h0 hJ
end
theorem wp_whl {J : Unit} {QS : Res × Rho → DS → Prop} {ρ : Rho} {s : DS} {t : TF} {body : SF} (I : Nat → Rho → DS → Prop) (h : ∀ n ρ s, I n ρ s → wp (t ρ) s fun k s1 => if k = true then wp (body ρ) s1 (lpost (fun ρ2 s' => ∃ m, m < n ∧ I m ρ2 s') QS) else QS (.nx, ρ) s1)
    (n : Nat) (hn : n < FUEL) (hi : I n ρ s) : wp (sWhile t body ρ) s QS :=
  w_sWhile I (fun n ρ s hI => wp_mono (h n ρ s hI) fun k s1 hk => by
    cases k with
    | false => simpa using hk
    | true =>
      simp only [if_true] at hk ⊢
      refine wp_mono hk fun r s' hr => ?_
      obtain ⟨r, ρ2⟩ := r
      cases r <;> exact hr) n hn hi
/-- a comprehension, told by its list -/
theorem wp_compT {gg : TGt} {fe : EF} {ρ : Rho} {s : DS} {QA : List D → DS → Prop} {en' : α → D} {f : α → D} (l : List α)
    (h : ∀ x ∈ l, ∃ ρ1, gg (en' x) ρ = some ρ1 ∧ ∀ s, wp (fe ρ1) s fun y s2 => y = f x ∧ s2 = s) (q : QA (l.map f) s) : wp (compM gg tYes' fe ρ (l.map en')) s QA :=
  (wp_some (comp_mapT l h s)).mpr q
theorem wp_compF {gg : TGt} {ft : TF} {fe : EF} {ρ : Rho} {s : DS} {QA : List D → DS → Prop} {en' : α → D} {p : α → Bool} {f : α → D} (l : List α)
    (h : ∀ x ∈ l, ∃ ρ1, gg (en' x) ρ = some ρ1 ∧ ∀ s, wp (ft ρ1) s (fun b s1 => b = p x ∧ s1 = s) ∧ (p x = true → wp (fe ρ1) s fun y s2 => y = f x ∧ s2 = s)) (q : QA ((l.filter p).map f) s) : wp (compM gg ft fe ρ (l.map en')) s QA :=
  (wp_some (comp_map l h s)).mpr q
/-- a draw, as a natural number -/
theorem wp_take {m : Nat} {s : DS} {Q : D → DS → Prop} (hm : 0 < m) (hm2 : m < 2 ^ 64) (h : s.ok) (q : ∀ (r : Nat) (s' : DS), r < m → s'.ok → Q (.int (r : Nat)) s') : wp (mTake [.rng, .int (m : Nat)]) s Q := by
  refine wp_mono (take_ok (by omega) (by simpa using hm2) h) fun d s' ⟨ok, r, hr, h0, h1⟩ => ?_
  subst hr
  obtain ⟨k, rfl⟩ := Int.eq_ofNat_of_zero_le h0
  exact q k s' (by omega) ok
/-- a comprehension that draws -/
theorem wp_compS {gg : TGt} {fe : EF} {ρ : Rho} {en' : α → D} {QA : List D → DS → Prop} (P : α → D → Prop) (l : List α)
    (h : ∀ x ∈ l, ∀ s, s.ok → ∃ ρ1, gg (en' x) ρ = some ρ1 ∧ wp (fe ρ1) s fun y s2 => s2.ok ∧ P x y) {s : DS} (hs : s.ok) (q : ∀ ys s', s'.ok → ys.length = l.length → (∀ y ∈ ys, ∃ x ∈ l, P x y) → QA ys s') :
    wp (compM gg tYes' fe ρ (l.map en')) s QA := by
  have main : ∀ (l : List α), (∀ x ∈ l, ∀ s, s.ok → ∃ ρ1, gg (en' x) ρ = some ρ1 ∧ wp (fe ρ1) s fun y s2 => s2.ok ∧ P x y) → ∀ s, s.ok → wp (compM gg tYes' fe ρ (l.map en')) s fun ys s' => s'.ok ∧ ys.length = l.length ∧ ∀ y ∈ ys, ∃ x ∈ l, P x y := by
    intro l
    induction l with
    | nil => intro _ s hs; simp [compM, hs]
    | cons x xs ih =>
      intro h s hs
      obtain ⟨ρ1, e, hw⟩ := h x (by simp) s hs
      rw [List.map_cons]
      unfold compM
      rw [e]
      simp only [wp_Mb, w_tYes, if_true]
      refine wp_mono hw fun y s2 ⟨h2, hp⟩ => ?_
      refine wp_mono (ih (fun y hy => h y (by simp [hy])) s2 h2) fun ys s3 ⟨h3, h4, h5⟩ => ?_
      rw [wp_Mp]
      refine ⟨h3, by simp [h4], fun z hz => ?_⟩
      rcases List.mem_cons.mp hz with rfl | hz
      · exact ⟨x, by simp, hp⟩
      · obtain ⟨x', hx', hp'⟩ := h5 z hz; exact ⟨x', by simp [hx'], hp'⟩
  exact wp_mono (main l h s hs) fun ys s' ⟨a, b, c⟩ => q ys s' a b c
/-- a comprehension whose filter draws -/
theorem wp_compSub {gg : TGt} {ft : TF} {fe : EF} {ρ : Rho} {en' f : α → D} {QA : List D → DS → Prop} (l : List α)
    (h : ∀ x ∈ l, ∀ s, s.ok → ∃ ρ1, gg (en' x) ρ = some ρ1 ∧ wp (ft ρ1) s (fun _ s2 => s2.ok) ∧ ∀ s, wp (fe ρ1) s fun y s2 => y = f x ∧ s2 = s) {s : DS} (hs : s.ok) (q : ∀ (l' : List α) s', s'.ok → l'.Sublist l → QA (l'.map f) s') :
    wp (compM gg ft fe ρ (l.map en')) s QA := by
  have main : ∀ (l : List α), (∀ x ∈ l, ∀ s, s.ok → ∃ ρ1, gg (en' x) ρ = some ρ1 ∧ wp (ft ρ1) s (fun _ s2 => s2.ok) ∧ ∀ s, wp (fe ρ1) s fun y s2 => y = f x ∧ s2 = s) → ∀ s, s.ok → wp (compM gg ft fe ρ (l.map en')) s fun ys s' => s'.ok ∧ ∃ l' : List α, l'.Sublist l ∧ ys = l'.map f := by
    intro l
    induction l with
    | nil => intro _ s hs; simp [compM, hs]
    | cons x xs ih =>
      intro h s hs
      obtain ⟨ρ1, e, hw, hf⟩ := h x (by simp) s hs
      rw [List.map_cons]
      unfold compM
      rw [e]
      simp only [wp_Mb, wp_ite]
      refine wp_mono hw fun b s2 h2 => ?_
      have ih' := ih (fun y hy => h y (by simp [hy])) s2 h2
      cases b with
      | true =>
        simp only [if_true, wp_Mb]
        refine wp_mono (hf s2) fun y s3 ⟨e1, e2⟩ => ?_
        subst e1 e2
        refine wp_mono ih' fun ys s4 ⟨h3, l', h4, h5⟩ => ?_
        rw [wp_Mp]
        exact ⟨h3, x :: l', h4.cons₂ x, by rw [h5]; rfl⟩
      | false =>
        simp only [Bool.false_eq_true, if_false]
        exact wp_mono ih' fun ys s4 ⟨h3, l', h4, h5⟩ => ⟨h3, l', h4.cons x, h5⟩
  exact wp_mono (main l h s hs) fun ys s' ⟨a, l', b, c⟩ => by rw [c]; exact q l' s' a b
theorem choose_all {P : α → Prop} {f : α → D} : ∀ {ds : List D}, (∀ d ∈ ds, ∃ a, d = f a ∧ P a) → ∃ l : List α, ds = l.map f ∧ ∀ a ∈ l, P a
  | [], _ => ⟨[], rfl, fun _ h => by cases h⟩
  | d :: ds, h => by
    obtain ⟨a, h1, h2⟩ := h d (by simp)
    obtain ⟨l, h3, h4⟩ := choose_all (ds := ds) fun d hd => h d (by simp [hd])
    exact ⟨a :: l, by rw [h1, h3]; rfl, fun b hb => by rcases List.mem_cons.mp hb with rfl | hb; exact h2; exact h4 b hb⟩
end
end Pu
namespace Pu
open PySem PySem.Spec PyProof.Rows L2
/-! ### a module's name for a built-in function -/
section
variable {ι : Type} {X : ι → Cx} {P : Program} {w : World} {K : PySem.W.Frag} {mg : Str → Option Value} {base : Heap} {N : List Str} {lv : Nat} {pos : Pos} {a b c e : Expr} {es elts : List Expr} {f fa fb fc : EF} {g : AF}
theorem cCallBf (C : Fam X P w K mg base N lv) {x : Str} {p : Pos} {id : String} {r : List V → Hp → VK → Prop} {gg : List D → Option D} (hc : ∀ i, CallR (X i) (.builtin id) r) (hv' : VL K r gg) (hm : mg x = some (.builtin id)) (ha : CAB X K (e :: es) g) (hg : ∀ i, Gl (X i) x := by intro _; rfl)
    (hdb : (x == ("__debug__" : Str)) = false := by decide) (he : ∀ i, starEach (e :: es) (X i).env = (false, eval e (X i).env) :: starEach es (X i).env := by intro _; rfl)
    (hpl : ∀ i, (backTo pos (starEach es (X i).env)).any (·.1) = false := by intro _; rfl) : CE X K (.Call (.Name x p) (e :: es) [] pos) (xL gg g) :=
  let ⟨t, h1, h2⟩ := ha; ⟨_, fun i => pe_callBfun (hc i) (hg i) (by rw [C.m i]; exact hm) (h1 i) hdb (he i) (hpl i), semE_CB hv' h2⟩
def gcdD : List D → Option D
  | [.int a, .int b] => some (.int ((Nat.gcd a.natAbs b.natAbs : Nat) : Int))
  | _ => none
@[simp] theorem gcdD_ii (a b : Int) : gcdD [.int a, .int b] = some (.int ((Nat.gcd a.natAbs b.natAbs : Nat) : Int)) := rfl
theorem v_gcd : VL K rGcd gcdD := fun pd F H xs d vs fh r e Q q => by
  match xs, e with
  | [.int a, .int b], e =>
    cases e
    obtain ⟨v, w, rfl, r1, r2⟩ := r.two
    exact ⟨a, b, by rw [r1.int, r2.int], q _ F H (.refl fh) (by simp [Rep])⟩
end
/-! ### what the top holds, told by one Bool more -/
def bltB (K : PySem.W.Frag) (x : Str) (id : String) : Bool := He.eqO (PySem.W.nsIn K mainGlobals x) (some (some (.builtin id)))
theorem bltB_ok {K : PySem.W.Frag} {h : Heap} {mg : Str → Option Value} {x : Str} {id : String} (X : K.In h) (G : h.Ns mainGlobals mg) (e : bltB K x id = true) : mg x = some (.builtin id) := PySem.W.mg_of X G (He.eqO_ok e)
def intsB : List Value → List Int → Bool
  | [], [] => true
  | .int i _ :: vs, n :: ns => decide (i = n) && intsB vs ns
  | _, _ => false
theorem intsB_ok : ∀ {vs : List Value} {ns : List Int}, intsB vs ns = true → Vals (ns.map V.int) vs
  | [], [], _ => .nil
  | .int i t :: vs, n :: ns, h => by
    simp only [intsB, Bool.and_eq_true, decide_eq_true_eq] at h
    obtain ⟨rfl, h⟩ := h
    exact .cons ⟨t, rfl⟩ (intsB_ok h)
  | [], _ :: _, h => by simp [intsB] at h
  | v :: _, [], h => by cases v <;> simp [intsB] at h
  | .none :: _, _ :: _, h => by simp [intsB] at h
  | .bool _ :: _, _ :: _, h => by simp [intsB] at h
  | .str _ _ :: _, _ :: _, h => by simp [intsB] at h
  | .ref _ :: _, _ :: _, h => by simp [intsB] at h
  | .builtin _ :: _, _ :: _, h => by simp [intsB] at h
  | .type _ :: _, _ :: _, h => by simp [intsB] at h
  | .bytes _ _ :: _, _ :: _, h => by simp [intsB] at h
  | .float _ _ :: _, _ :: _, h => by simp [intsB] at h
  | .ellipsis :: _, _ :: _, h => by simp [intsB] at h
  | .notImplemented :: _, _ :: _, h => by simp [intsB] at h
def tupB (K : PySem.W.Frag) (x : Str) (ns : List Int) : Bool := match PySem.W.nsIn K mainGlobals x with
  | some (some (.ref a)) => (match K.lookup a with
    | some ⟨.type c, _, .seq its _, _⟩ => decide (c = "tuple") && intsB its.toList ns && decide (ns.length ≤ 1000)
    | _ => false)
  | _ => false
theorem tupB_ok {K : PySem.W.Frag} {h : Heap} {mg : Str → Option Value} {x : Str} {ns : List Int} (X : K.In h) (G : h.Ns mainGlobals mg) (e : tupB K x ns = true) : CstOk mg x (.tup (ns.map D.int)) K := by
  unfold tupB at e
  cases q : PySem.W.nsIn K mainGlobals x with
  | none => rw [q] at e; cases e
  | some o =>
    rw [q] at e
    cases o with
    | none => cases e
    | some v =>
      cases v <;> first | (cases e; done) | skip
      rename_i a
      have e : (match K.lookup a with
        | some ⟨.type c, _, .seq its _, _⟩ => decide (c = "tuple") && intsB its.toList ns && decide (ns.length ≤ 1000)
        | _ => false) = true := e
      cases q2 : K.lookup a with
      | none => rw [q2] at e; cases e
      | some ob =>
        rw [q2] at e
        obtain ⟨oc, od, dt, osl⟩ := ob
        cases oc <;> first | (cases e; done) | skip
        cases dt <;> first | (cases e; done) | skip
        rename_i c its n
        have e : (decide (c = "tuple") && intsB its.toList ns && decide (ns.length ≤ 1000)) = true := e
        simp only [Bool.and_eq_true, decide_eq_true_eq] at e
        obtain ⟨⟨rfl, h1⟩, h2⟩ := e
        have hv := intsB_ok h1
        have hl : its.toList.length = ns.length := by rw [← hv.length, List.length_map]
        refine ⟨.ref a, _, PySem.W.mg_of X G q, rfl, fun pd F => ?_⟩
        simp only [Rep]
        refine ⟨a, ns.map V.int, rfl, .inr ⟨_, its, n, q2, rfl, rfl, ?_, hv⟩, ?_, RepL.ofInts ns⟩
        · rw [← Array.length_toList, hl]; exact Nat.le_trans h2 (by decide)
        · rw [List.length_map]; exact Nat.le_trans h2 (by decide)
end Pu
namespace Pu
open PySem PySem.Spec PyProof.Rows L2
/-! ### sorted(list) -/
def isTupN : D → Bool
  | .tup (_ :: _) => true
  | _ => false
def notTup : D → Bool
  | .tup _ => false
  | _ => true
def sortB (ds : List D) : Bool := allCmp ds && (ds.all isTupN || ds.all notTup)
def sortL (ds : List D) : List D := ds.mergeSort fun x y => !PySem.W.dataLt (toP y) (toP x)
def sortO : List D → Option (List D)
  | [.lst ds] => if sortB ds = true then some (sortL ds) else none
  | _ => none
def rSortA (K : PySem.W.Frag) : List V → Hp → VK → Prop := fun vs H Q => ∃ (a : Addr) (xs : List V) (ds : List D), vs = [V.ref a] ∧ SqL K H a xs ∧ ds.length = xs.length ∧ DpAll K H xs (toPs ds) ∧ sortB ds = true ∧
  ∀ (zs : List (V × D)) (p : Addr), zs.Perm (xs.zip ds) → zs.map Prod.snd = sortL ds → H p = none → Q (.ref p) (L2.upd H p (.lst (zs.map Prod.fst)))
theorem each_zip {R : Value → V × D → Prop} : ∀ {us : List Value} {xs : List V} {ds : List D}, us.length = xs.length → ds.length = xs.length → (∀ (i : Nat) (u : Value) (x : V) (d : D), us[i]? = some u → xs[i]? = some x → ds[i]? = some d → R u (x, d)) → PySem.W.EachIs R us (xs.zip ds)
  | [], [], [], _, _, _ => .nil
  | u :: us, x :: xs, d :: ds, h1, h2, h => .cons (h 0 u x d rfl rfl rfl) (each_zip (by simpa using h1) (by simpa using h2) fun i u x d a b c => h (i + 1) u x d a b c)
  | [], _ :: _, _, h, _, _ => by simp at h
  | _ :: _, [], _, h, _, _ => by simp at h
  | _, [], _ :: _, _, h, _ => by simp at h
  | _, _ :: _, [], _, h, _ => by simp at h
theorem each_vals : ∀ {us : List Value} {zs : List (V × D)}, PySem.W.EachIs (fun u z => L2.RelV z.1 u) us zs → Vals (zs.map Prod.fst) us
  | _, _, .nil => .nil
  | _, _, .cons h t => .cons h (each_vals t)
theorem c_sorted {X : Cx} {K : PySem.W.Frag} (hk : X.K = K) (hu : X.A.units + 200 < cLine) : CallR X (.builtin "sorted") (rSortA K) := by
  subst hk
  intro pins s σ H vs us Q I r h
  obtain ⟨a, xs, ds, rfl, hs, hlen, hd, hb, q⟩ := h
  obtain ⟨its, rv, hl, hz⟩ := I.list hs
  rw [Vals.ref1 r]
  unfold sortB at hb
  simp only [Bool.and_eq_true, Bool.or_eq_true, List.all_eq_true] at hb
  obtain ⟨hc, ht⟩ := hb
  obtain ⟨m1, m2⟩ := allCmp_mem hc
  obtain ⟨as, ra⟩ := Dp.readsAll I (toPs ds) xs its hd rv
  have hlv := rv.length
  have henc : (xs.zip ds).map (fun z : V × D => toP z.2) = ds.map toP := by
    have : (xs.zip ds).map Prod.snd = ds := List.map_snd_zip (by omega)
    show (xs.zip ds).map (toP ∘ Prod.snd) = _
    rw [← List.map_map, this]
  have hal : PySem.W.AllAlike ((xs.zip ds).map fun z : V × D => toP z.2) := by
    rw [henc]
    intro d hd d' hd'
    obtain ⟨x, hx, rfl⟩ := List.mem_map.mp hd
    obtain ⟨y, hy, rfl⟩ := List.mem_map.mp hd'
    exact m2 x hx y hy
  have hsort : PySem.W.Sortable ((xs.zip ds).map fun z : V × D => toP z.2) := by
    rw [henc]
    rcases ht with ht | ht
    · refine .inl fun d hd => ?_
      obtain ⟨x, hx, rfl⟩ := List.mem_map.mp hd
      have := ht x hx
      cases x <;> first | (cases this; done) | skip
      rename_i l
      cases l with
      | nil => cases this
      | cons y ys => exact ⟨toP y, toPs ys, by simp [toP, toPs]⟩
    · refine .inr fun d hd => ?_
      obtain ⟨x, hx, rfl⟩ := List.mem_map.mp hd
      have h1 := ht x hx
      have h2 := (m1 x hx).2.2
      cases x <;> simp [notTup, isNonD, toP] at h1 h2 ⊢
  have hread : PySem.W.EachIs (fun v (z : V × D) => ∃ as, Reads s.heap v (toP z.2) as) its (xs.zip ds) := each_zip hlv.symm hlen fun i u x d h1 h2 h3 => by
    obtain ⟨d', bs, e1, e2⟩ := readsAll_get ra h1
    rw [toPs_eq, List.getElem?_map, h3] at e1
    cases e1
    exact ⟨bs, e2⟩
  refine PySem.W.sorted_data (R := fun u z => L2.RelV z.1 u) (enc := fun z : V × D => toP z.2) (vs := its) (bs := xs.zip ds) hl.isList (each_zip hlv.symm hlen fun i u x d h1 h2 h3 => ?_) hread hal hsort (by simp; omega) (fun b hb => ?_) fun out ho eo => ?_
  · obtain ⟨u', e1, e2⟩ := rv.get h2
    rw [h1] at e1; cases e1
    exact e2
  · have hbm := (List.of_mem_zip (show (b.1, b.2) ∈ xs.zip ds from hb)).2
    have := SeqAt.depth_of_shaped (m1 _ hbm).2.1
    omega
  · obtain ⟨n, hn⟩ := sortedAll_at s.heap its out.toArray
    have hperm : ((xs.zip ds).mergeSort (PySem.W.dataLe false fun z : V × D => toP z.2)).Perm (xs.zip ds) := List.mergeSort_perm _ _
    refine ⟨.ref _, _, I.laid (t' := s.toks) (o := .lst (((xs.zip ds).mergeSort (PySem.W.dataLe false fun z : V × D => toP z.2)).map Prod.fst)) (fun b ob q => sortedAll_old q) (Nat.le_succ _) ⟨?_, out, n, each_vals eo, hn⟩, rfl, q _ _ hperm ?_ (I.hok.fresh (Nat.le_succ _))⟩
    · rw [List.length_map, hperm.length_eq, List.length_zip]; omega
    · have hsnd : (xs.zip ds).map Prod.snd = ds := List.map_snd_zip (by omega)
      rw [List.map_mergeSort (r := PySem.W.dataLe false fun z : V × D => toP z.2) (s := fun x y => !PySem.W.dataLt (toP y) (toP x)) (f := Prod.snd) (fun a _ b _ => rfl), hsnd]
      rfl
theorem rep_zip {K : PySem.W.Frag} {pd : Option PD} {F : Hp} : ∀ {ds : List D} {xs : List V}, RepL K pd F ds xs → ∀ z ∈ xs.zip ds, Rep K pd F z.2 z.1
  | [], _, h, z, hz => by have := h.cases0; subst this; simp at hz
  | d :: ds, _, h, z, hz => by
    obtain ⟨y, ys, rfl, h1, h2⟩ := h.cases
    rw [List.zip_cons_cons] at hz
    rcases List.mem_cons.mp hz with rfl | hz
    · exact h1
    · exact rep_zip h2 z hz
theorem rep_unzip {K : PySem.W.Frag} {pd : Option PD} {F : Hp} : ∀ {zs : List (V × D)}, (∀ z ∈ zs, Rep K pd F z.2 z.1) → RepL K pd F (zs.map Prod.snd) (zs.map Prod.fst)
  | [], _ => .nil
  | z :: zs, h => .cons (h z (by simp)) (rep_unzip fun y hy => h y (by simp [hy]))
theorem v_sorted {K : PySem.W.Frag} : VLO K (rSortA K) sortO := fun pd F H xs ds vs fh r e Q q => by
  match xs, e with
  | [.lst as], e =>
    simp only [sortO] at e
    split at e
    · rename_i hb
      cases e
      cases r with
      | cons r0 rt =>
        cases rt
        have hcl : cleanL as = true := by
          unfold sortB at hb
          simp only [Bool.and_eq_true] at hb
          exact cleanL_all.mpr fun z hz => ((allCmp_mem hb.1).1 z hz).1
        obtain ⟨a, ys, rfl, h3, hl, h4⟩ := r0.lst fh
        refine ⟨a, ys, as, rfl, .of h3, h4.length.symm, RepL.dp fh hcl h4, hb, fun zs p hp hs n => ?_⟩
        refine q p _ F _ (Ext.own fh n) n (nF_of fh n) upd_same ?_ ?_
        · have : (sortL as).length = as.length := List.length_mergeSort _
          rw [this]; exact hl
        · rw [← hs]
          exact rep_unzip fun z hz => rep_zip h4 z (hp.mem_iff.mp hz)
    · cases e
end Pu
/-! The head of a program with imports at its top, for an open law with facts. -/
noncomputable section
namespace Pu
open PySem PySem.W PySem.Calls PyProof.Rows HandSHeadRun
/-- the whole run's equation at a world -/
def RunEqI (r : OpenRow) (q : Program) (H : Hook) (ob : SharedT → H.α) (M : Nat) (loose : List PySem.Str) (w : World) : Prop :=
  (wholeF (fun p => stepQ (denQ tabQ) p w) fenceQ M r.prog).map (fun x => (looksF r.prog x.1.heap x.2.abs, seenQ q loose (importedModules r.prog.main.body) (fun s => xlAt q [] s && recOk r.toRowW.records s) x.2.abs, ob x.2)) = some (true, openGood q loose, H.val w)
theorem head_anyI {r : OpenRow} {q : Program} {H : Hook} {ob : SharedT → H.α} {M : Nat} {loose : List PySem.Str} {d : DefRec} {kwd : List (PySem.Str × PySem.Expr)} (ho : ∀ s : SharedT, ob s = H.obs s.abs) (run : ∀ w, RunEqI r q H ob M loose w)
    (hdef : defOf q r.name = some (d, kwd)) (hp : r.prog.theDef r.name = some (d.params, d.body, d.scope)) (hk : kwWritten? d.params.kwonlyargs d.params.kw_defaults = some kwd)
    (hwr : (!r.writes || r.records.isEmpty) = true) (k1 : r.wellSaid = true) (ok : (chainsOk q && opensWell r.prog && (frees r.toRowW && r.within.isEmpty)) = true) (hb : r.prog.bare) (hw : r.toRowW.promised)
    (call : WalkO q loose (XL q []) H.says r.toRowW d kwd fun f vs => PySem.call f vs) : r.Holds := by
  have left : LeftO r.prog q loose (fun s => xlAt q [] s && recOk r.toRowW.records s) H.obs H.val M true :=
    left_imp fun w => by
      have z := run w
      have eo : ob = fun s => H.obs s.abs := funext ho
      unfold RunEqI at z
      rw [eo] at z
      rw [wholeQ_eq]
      simp only [seenQ_eq]
      exact z
  exact holds_open (r := r) (q := q) (loose := loose) (XP := XL q []) (YP := H.says) (d := d) (kwd := kwd) left H.of H.keeps (fun s z => xl_of s (Bool.and_eq_true_iff.mp z).1) XL.keeps hdef hp hk (fun s z => recFacts_of (Bool.and_eq_true_iff.mp z).2) hwr k1 ok hb hw call
end Pu
set_option maxHeartbeats 4000000
namespace Lw
open PySem PySem.Spec PyProof.Rows L2 Pu
def topS (i : Nat) : Stmt := PySem.Challenge.pw_marketguild_k78_whole_seats_for_all.main.body.getD i (.Pass ⟨0, 0, 0, 0⟩)
def c_MOST_LISTS : D := (.int 8)
def c_MOST_SEATS : D := (.int 40)
section
variable {P : Program} {w : World} {K : PySem.W.Frag} {mg : Str → Option Value} {base : Heap}
abbrev s_fraction : Stmt := topS 6
theorem sc_fraction : FnScope ["numerator", "denominator", "common"] ["numerator", "denominator"] (defScope s_fraction) := ⟨rfl, rfl, rfl, by decide +kernel, rfl, by decide +kernel, by decide +kernel⟩
def g_fraction : SF := sSeq (sIf (tV (x2 eqD (xNm 1) (xC (.int 0)))) (sFail) (sNext)) (sSeq (sIf (tV (x2 ltA (xNm 1) (xC (.int 0)))) (sSeq (sSet 0 (x1 negD (xNm 0))) (sSet 1 (x1 negD (xNm 1)))) (sNext)) (sSeq (sSet 2 (xL gcdD (aC (xNm 0) (aC (xNm 1) (aN))))) (sRet (xTup (aC (x2 divD (xNm 0) (xNm 2)) (aC (x2 divD (xNm 1) (xNm 2)) (aN)))))))
def m_fraction : List D → M D := runDef 3 2 g_fraction
theorem ok_fraction (B : Bi mg) (h_gcd : mg "gcd" = some (.builtin "math.gcd")) {f : Addr} {fd : FuncData} (F : FnP K "fraction" s_fraction f fd) (hm : mg "fraction" = some (.ref f)) (hb : Binds K fd ["numerator", "denominator"] []) : DefOk P w K mg base "fraction" 1 ["numerator", "denominator"] m_fraction :=
  have C := Fam.ent (P := P) (w := w) (K := K) (mg := mg) (base := base) (N := ["numerator", "denominator", "common"]) (k := 0) (qual := "fraction") (scope := defScope s_fraction) (f := f) sc_fraction.nd
  def_ok F sc_fraction (show CSs _ K (defBody s_fraction) g_fraction from ssCons (cIfS (tCmp (fun i => op_eqA (C.k i) (roomU (C.r i))) v_eq (cNm C 1) (CE.brw (cInt)) (nomark _)) (ssOne (cNever)) (ssNil)) (ssCons (cIfS (tCmp (fun i => op_ltA (C.k i) (roomU (C.r i))) v_ltA (cNm C 1) (CE.brw (cInt)) (nomark _)) (ssCons (cSet C 0 (cUn (fun _ => un_neg) v_neg (cNm C 0))) (ssOne (cSet C 1 (cUn (fun _ => un_neg) v_neg (cNm C 1))))) (ssNil)) (ssCons (cSet C 2 (cCallBf C (fun _ => cr_gcd) v_gcd h_gcd (cbCons (cNm C 0) (cbCons (cNm C 1) (cbNil))))) (ssOne (cRet (cTup (caCons (cBin (fun _ => op_fdivW) v_div (cNm C 0) (cNm C 2)) (caCons (cBin (fun _ => op_fdivW) v_div (cNm C 1) (cNm C 2)) (caNil))))))))) hm hb 3 2
abbrev s_compare : Stmt := topS 7
theorem sc_compare : FnScope ["a", "b", "left", "right"] ["a", "b"] (defScope s_compare) := ⟨rfl, rfl, rfl, by decide +kernel, rfl, by decide +kernel, by decide +kernel⟩
def g_compare : SF := sSeq (sSet 2 (x2 mulD (x2 ixD (xNm 0) (xC (.int 0))) (x2 ixD (xNm 1) (xC (.int 1))))) (sSeq (sSet 3 (x2 mulD (x2 ixD (xNm 1) (xC (.int 0))) (x2 ixD (xNm 0) (xC (.int 1))))) (sSeq (sIf (tV (x2 ltA (xNm 2) (xNm 3))) (sRet (x1 negD (xC (.int 1)))) (sNext)) (sSeq (sIf (tV (x2 gtA (xNm 2) (xNm 3))) (sRet (xC (.int 1))) (sNext)) (sRet (xC (.int 0))))))
def m_compare : List D → M D := runDef 4 2 g_compare
theorem ok_compare (B : Bi mg)  {f : Addr} {fd : FuncData} (F : FnP K "compare" s_compare f fd) (hm : mg "compare" = some (.ref f)) (hb : Binds K fd ["a", "b"] []) : DefOk P w K mg base "compare" 1 ["a", "b"] m_compare :=
  have C := Fam.ent (P := P) (w := w) (K := K) (mg := mg) (base := base) (N := ["a", "b", "left", "right"]) (k := 0) (qual := "compare") (scope := defScope s_compare) (f := f) sc_compare.nd
  def_ok F sc_compare (show CSs _ K (defBody s_compare) g_compare from ssCons (cSet C 2 (cBin (fun _ => op_mulW) v_mul (CE.brw (cIx (fun i => ix_both (C.k i)) v_ix (cNm C 0) (CE.brw (cInt)) (fun _ _ => rfl))) (CE.brw (cIx (fun i => ix_both (C.k i)) v_ix (cNm C 1) (CE.brw (cInt)) (fun _ _ => rfl))))) (ssCons (cSet C 3 (cBin (fun _ => op_mulW) v_mul (CE.brw (cIx (fun i => ix_both (C.k i)) v_ix (cNm C 1) (CE.brw (cInt)) (fun _ _ => rfl))) (CE.brw (cIx (fun i => ix_both (C.k i)) v_ix (cNm C 0) (CE.brw (cInt)) (fun _ _ => rfl))))) (ssCons (cIfS (tCmp (fun i => op_ltA (C.k i) (roomU (C.r i))) v_ltA (cNm C 2) (cNm C 3) (nomark _)) (ssOne (cRet (cUn (fun _ => un_neg) v_neg (CE.brw (cInt))))) (ssNil)) (ssCons (cIfS (tCmp (fun i => op_gtA (C.k i) (roomU (C.r i))) v_gtA (cNm C 2) (cNm C 3) (nomark _)) (ssOne (cRet (cInt))) (ssNil)) (ssOne (cRet (cInt))))))) hm hb 4 2
abbrev s_check_seats : Stmt := topS 11
theorem sc_check_seats : FnScope ["votes", "seats"] ["votes", "seats"] (defScope s_check_seats) := ⟨rfl, rfl, rfl, by decide +kernel, rfl, by decide +kernel, by decide +kernel⟩
def g_check_seats : SF := sSeq (sIf (tNot (tV (xCh leA leA (xC (.int 1)) (xL lenD (aC (xNm 0) (aN))) (xC c_MOST_LISTS)))) (sFail) (sNext)) (sSeq (sIf (tOr (tV (x2 ltA (xL minD (aC (xNm 0) (aN))) (xC (.int 0)))) (tV (x2 eqD (xL sumD (aC (xNm 0) (aN))) (xC (.int 0))))) (sFail) (sNext)) (sIf (tNot (tV (xCh leA leA (xC (.int 0)) (xNm 1) (xC c_MOST_SEATS)))) (sFail) (sNext)))
def m_check_seats : List D → M D := runDef 2 2 g_check_seats
theorem ok_check_seats (B : Bi mg) (k_MOST_LISTS : CstOk mg "MOST_LISTS" c_MOST_LISTS K) (k_MOST_SEATS : CstOk mg "MOST_SEATS" c_MOST_SEATS K) {f : Addr} {fd : FuncData} (F : FnP K "check_seats" s_check_seats f fd) (hm : mg "check_seats" = some (.ref f)) (hb : Binds K fd ["votes", "seats"] []) : DefOk P w K mg base "check_seats" 1 ["votes", "seats"] m_check_seats :=
  have C := Fam.ent (P := P) (w := w) (K := K) (mg := mg) (base := base) (N := ["votes", "seats"]) (k := 0) (qual := "check_seats") (scope := defScope s_check_seats) (f := f) sc_check_seats.nd
  def_ok F sc_check_seats (show CSs _ K (defBody s_check_seats) g_check_seats from ssCons (cIfS (tNotR (tChainR (fun i => op_leA (C.k i) (roomU (C.r i))) (fun i => op_leA (C.k i) (roomU (C.r i))) v_leA v_leA (CE.brw (cInt)) (CE.brw (cCallB C (fun i => c_len (C.k i)) v_len B.len bt_len (cbCons (cNm C 0) (cbNil)))) (CE.brw (k_MOST_LISTS.ce C)))) (ssOne (cNever)) (ssNil)) (ssCons (cIfS (CW.t (wOr (tCmp (fun i => op_ltA (C.k i) (roomU (C.r i))) v_ltA (CE.brw (cCallB C (fun i => c_min (C.k i) (C.c i) (roomU (C.r i))) v_min B.min bt_min (cbCons (cNm C 0) (cbNil)))) (CE.brw (cInt)) (nomark _)) (wOr1 (tCmp (fun i => op_eqA (C.k i) (roomU (C.r i))) v_eq (CE.brw (cCallB C (fun i => c_sum (C.k i) (C.c i)) v_sum B.sum bt_sum (cbCons (cNm C 0) (cbNil)))) (CE.brw (cInt)) (nomark _))))) (ssOne (cNever)) (ssNil)) (ssOne (cIfS (tNotR (tChainR (fun i => op_leA (C.k i) (roomU (C.r i))) (fun i => op_leA (C.k i) (roomU (C.r i))) v_leA v_leA (CE.brw (cInt)) (cNm C 1) (CE.brw (k_MOST_SEATS.ce C)))) (ssOne (cNever)) (ssNil))))) hm hb 2 2
abbrev s_by_rests : Stmt := topS 12
theorem sc_by_rests : FnScope ["votes", "seats", "whole", "found", "rests", "_", "k", "one"] ["votes", "seats"] (defScope s_by_rests) := ⟨rfl, rfl, rfl, by decide +kernel, rfl, by decide +kernel, by decide +kernel⟩
def g_by_rests : SF := sSeq (sDrop (xCall m_check_seats (aC (xSh 0) (aC (xSh 1) (aN))))) (sSeq (sSet 2 (xL sumD (aC (xNm 0) (aN)))) (sSeq (sOwn 3 (oComp (iSq (xNm 0)) (gNm 7) (tYes') (x2 divD (x2 mulD (xNm 7) (xNm 1)) (xNm 2)) [7])) (sSeq (sSet 4 (xOf (oL sortO (aC (xOf (oComp (iRg enD (aC (xNm 0) (aN))) (gTp [gNm 6, gNm 7]) (tYes') (xTup (aC (x2 subD (xC (.int 0)) (x2 subD (x2 mulD (xNm 7) (xNm 1)) (x2 mulD (x2 ixD (xNm 3) (xNm 6)) (xNm 2)))) (aC (xSh 6) (aN)))) [6, 7])) (aN))))) (sSeq (sFor (iSq (xSl slD (xNm 4) none (some (x2 subD (xNm 1) (xL sumD (aC (xNm 3) (aN))))))) (gTp [gNm 5, gNm 6]) (sAugIx 3 addI (xSh 6) (xC (.int 1)))) (sRet (xL tupD (aC (xNm 3) (aN))))))))
def m_by_rests : List D → M D := runDef 8 2 g_by_rests
theorem ok_by_rests (B : Bi mg) (d_check_seats : DefOk P w K mg base "check_seats" 1 ["votes", "seats"] m_check_seats) {f : Addr} {fd : FuncData} (F : FnP K "by_rests" s_by_rests f fd) (hm : mg "by_rests" = some (.ref f)) (hb : Binds K fd ["votes", "seats"] []) : DefOk P w K mg base "by_rests" 2 ["votes", "seats"] m_by_rests :=
  have C := Fam.ent (P := P) (w := w) (K := K) (mg := mg) (base := base) (N := ["votes", "seats", "whole", "found", "rests", "_", "k", "one"]) (k := 1) (qual := "by_rests") (scope := defScope s_by_rests) (f := f) sc_by_rests.nd
  def_ok F sc_by_rests (show CSs _ K (defBody s_by_rests) g_by_rests from ssCons (cExpr (cCall C d_check_seats (by decide) (caCons (cSh C 0) (caCons (cSh C 1) (caNil))))) (ssCons (cSet C 2 (cCallB C (fun i => c_sum (C.k i) (C.c i)) v_sum B.sum bt_sum (cbCons (cNm C 0) (cbNil)))) (ssCons (cOwn C 3 (oLc C [("one", 7)] (iSeqB C (cNm C 0)) (fun _ => blkOk_by (by rw [ent_sc]; decide +kernel)) (gName' (C.blk _) 7) (ctNone) (cBin (fun _ => op_fdivW) v_div (CE.brw (cBin (fun _ => op_mulW) v_mul (cNm (C.blk _) 7) (cNm (C.blk _) 1))) (cNm (C.blk _) 2)))) (ssCons (cSet C 4 (CO.frz (oCallB C (fun i => c_sorted (C.k i) (roomU (C.r i))) v_sorted B.sorted bt_sorted (cbCons (CE.brw (CO.frz (oLc C [("k", 6), ("one", 7)] (iEnB C B.enumerate (cbCons (cNm C 0) (cbNil))) (fun _ => blkOk_by (by rw [ent_sc]; decide +kernel)) (gTup' (C.blk _) (gsCons (gName' (C.blk _) 6) (gsCons (gName' (C.blk _) 7) (gsNil)))) (ctNone) (cTup (caCons (cBin (fun _ => op_sub) v_sub (CE.brw (cInt)) (CE.brw (cBin (fun _ => op_sub) v_sub (CE.brw (cBin (fun _ => op_mulW) v_mul (cNm (C.blk _) 7) (cNm (C.blk _) 1))) (CE.brw (cBin (fun _ => op_mulW) v_mul (CE.brw (cIx (fun i => ix_both ((C.blk _).k i)) v_ix (cNm (C.blk _) 3) (cNm (C.blk _) 6) (fun _ _ => rfl))) (cNm (C.blk _) 2)))))) (caCons (cSh (C.blk _) 6) (caNil))))))) (cbNil))))) (ssCons (cFor C (fun _ => PassesOwn.never) (iSeqE C (cSlice (fun i => sl_all (C.k i)) v_sl (cNm C 4) cpNone (cpSome (cBin (fun _ => op_sub) v_sub (cNm C 1) (CE.brw (cCallB C (fun i => c_sum (C.k i) (C.c i)) v_sum B.sum bt_sum (cbCons (cNm C 3) (cbNil)))))))) (gTup' C (gsCons (gName' C 5) (gsCons (gName' C 6) (gsNil)))) (ssOne (cAugIx C 3 (fun _ => iop_add) v_iadd (cSh C 6) (cInt)))) (ssOne (cRet (cCallT C (fun i => c_tup (C.k i)) v_tup B.tuple bt_tuple (cbCons (cNm C 3) (cbNil)))))))))) hm hb 8 2
abbrev s_divisor : Stmt := topS 13
theorem sc_divisor : FnScope ["kind", "seats"] ["kind", "seats"] (defScope s_divisor) := ⟨rfl, rfl, rfl, by decide +kernel, rfl, by decide +kernel, by decide +kernel⟩
def g_divisor : SF := sSeq (sIf (tV (x2 eqD (xNm 0) (xC (.str "greatest")))) (sRet (xCall m_fraction (aC (x2 addD (xNm 1) (xC (.int 1))) (aC (xC (.int 1)) (aN))))) (sNext)) (sSeq (sIf (tV (x2 eqD (xNm 0) (xC (.str "middle")))) (sRet (xCall m_fraction (aC (x2 addD (x2 mulD (xC (.int 2)) (xNm 1)) (xC (.int 1))) (aC (xC (.int 2)) (aN))))) (sNext)) (sSeq (sIf (tV (x2 eqD (xNm 0) (xC (.str "least")))) (sRet (xCall m_fraction (aC (xSh 1) (aC (xC (.int 1)) (aN))))) (sNext)) (sFail)))
def m_divisor : List D → M D := runDef 2 2 g_divisor
theorem ok_divisor (B : Bi mg) (d_fraction : DefOk P w K mg base "fraction" 1 ["numerator", "denominator"] m_fraction) {f : Addr} {fd : FuncData} (F : FnP K "divisor" s_divisor f fd) (hm : mg "divisor" = some (.ref f)) (hb : Binds K fd ["kind", "seats"] []) : DefOk P w K mg base "divisor" 2 ["kind", "seats"] m_divisor :=
  have C := Fam.ent (P := P) (w := w) (K := K) (mg := mg) (base := base) (N := ["kind", "seats"]) (k := 1) (qual := "divisor") (scope := defScope s_divisor) (f := f) sc_divisor.nd
  def_ok F sc_divisor (show CSs _ K (defBody s_divisor) g_divisor from ssCons (cIfS (tCmp (fun i => op_eqA (C.k i) (roomU (C.r i))) v_eq (cNm C 0) (CE.brw (cStr)) (nomark _)) (ssOne (cRet (cCall C d_fraction (by decide) (caCons (cBin (fun i => op_addAll (C.k i)) v_add (cNm C 1) (CE.brw (cInt))) (caCons (cInt) (caNil)))))) (ssNil)) (ssCons (cIfS (tCmp (fun i => op_eqA (C.k i) (roomU (C.r i))) v_eq (cNm C 0) (CE.brw (cStr)) (nomark _)) (ssOne (cRet (cCall C d_fraction (by decide) (caCons (cBin (fun i => op_addAll (C.k i)) v_add (CE.brw (cBin (fun _ => op_mulW) v_mul (CE.brw (cInt)) (cNm C 1))) (CE.brw (cInt))) (caCons (cInt) (caNil)))))) (ssNil)) (ssCons (cIfS (tCmp (fun i => op_eqA (C.k i) (roomU (C.r i))) v_eq (cNm C 0) (CE.brw (cStr)) (nomark _)) (ssOne (cRet (cCall C d_fraction (by decide) (caCons (cSh C 1) (caCons (cInt) (caNil)))))) (ssNil)) (ssOne (cNever))))) hm hb 2 2
abbrev s_quotient : Stmt := topS 14
theorem sc_quotient : FnScope ["one", "down"] ["one", "down"] (defScope s_quotient) := ⟨rfl, rfl, rfl, by decide +kernel, rfl, by decide +kernel, by decide +kernel⟩
def g_quotient : SF := sSeq (sIf (tV (x2 eqD (xNm 1) (xTup (aC (xC (.int 0)) (aC (xC (.int 1)) (aN)))))) (sRet (xTup (aC (xL intD (aC (x2 gtA (xNm 0) (xC (.int 0))) (aN))) (aC (xCall m_fraction (aC (xSh 0) (aC (xC (.int 1)) (aN)))) (aN))))) (sNext)) (sRet (xTup (aC (xC (.int 0)) (aC (xCall m_fraction (aC (x2 mulD (xNm 0) (x2 ixD (xNm 1) (xC (.int 1)))) (aC (x2 ixD (xNm 1) (xC (.int 0))) (aN)))) (aN)))))
def m_quotient : List D → M D := runDef 2 2 g_quotient
theorem ok_quotient (B : Bi mg) (d_fraction : DefOk P w K mg base "fraction" 1 ["numerator", "denominator"] m_fraction) {f : Addr} {fd : FuncData} (F : FnP K "quotient" s_quotient f fd) (hm : mg "quotient" = some (.ref f)) (hb : Binds K fd ["one", "down"] []) : DefOk P w K mg base "quotient" 2 ["one", "down"] m_quotient :=
  have C := Fam.ent (P := P) (w := w) (K := K) (mg := mg) (base := base) (N := ["one", "down"]) (k := 1) (qual := "quotient") (scope := defScope s_quotient) (f := f) sc_quotient.nd
  def_ok F sc_quotient (show CSs _ K (defBody s_quotient) g_quotient from ssCons (cIfS (tCmp (fun i => op_eqA (C.k i) (roomU (C.r i))) v_eq (cNm C 1) (CE.brw (cTup (caCons (cInt) (caCons (cInt) (caNil))))) (nomark _)) (ssOne (cRet (cTup (caCons (cCallT C (fun i => call_int1) v_int B.int bt_int (cbCons (CE.brw (cCmp (fun i => op_gtA (C.k i) (roomU (C.r i))) v_gtA (cNm C 0) (CE.brw (cInt)) (nomark _))) (cbNil))) (caCons (cCall C d_fraction (by decide) (caCons (cSh C 0) (caCons (cInt) (caNil)))) (caNil)))))) (ssNil)) (ssOne (cRet (cTup (caCons (cInt) (caCons (cCall C d_fraction (by decide) (caCons (cBin (fun _ => op_mulW) v_mul (cNm C 0) (CE.brw (cIx (fun i => ix_both (C.k i)) v_ix (cNm C 1) (CE.brw (cInt)) (fun _ _ => rfl)))) (caCons (cIx (fun i => ix_both (C.k i)) v_ix (cNm C 1) (CE.brw (cInt)) (fun _ _ => rfl)) (caNil)))) (caNil))))))) hm hb 2 2
abbrev s_is_more : Stmt := topS 15
theorem sc_is_more : FnScope ["one", "other"] ["one", "other"] (defScope s_is_more) := ⟨rfl, rfl, rfl, by decide +kernel, rfl, by decide +kernel, by decide +kernel⟩
def g_is_more : SF := sSeq (sIf (tV (x2 neD (x2 ixD (xNm 0) (xC (.int 0))) (x2 ixD (xNm 1) (xC (.int 0))))) (sRet (x2 gtA (x2 ixD (xNm 0) (xC (.int 0))) (x2 ixD (xNm 1) (xC (.int 0))))) (sNext)) (sRet (x2 gtA (xCall m_compare (aC (x2 ixD (xNm 0) (xC (.int 1))) (aC (x2 ixD (xNm 1) (xC (.int 1))) (aN)))) (xC (.int 0))))
def m_is_more : List D → M D := runDef 2 2 g_is_more
theorem ok_is_more (B : Bi mg) (d_compare : DefOk P w K mg base "compare" 1 ["a", "b"] m_compare) {f : Addr} {fd : FuncData} (F : FnP K "is_more" s_is_more f fd) (hm : mg "is_more" = some (.ref f)) (hb : Binds K fd ["one", "other"] []) : DefOk P w K mg base "is_more" 2 ["one", "other"] m_is_more :=
  have C := Fam.ent (P := P) (w := w) (K := K) (mg := mg) (base := base) (N := ["one", "other"]) (k := 1) (qual := "is_more") (scope := defScope s_is_more) (f := f) sc_is_more.nd
  def_ok F sc_is_more (show CSs _ K (defBody s_is_more) g_is_more from ssCons (cIfS (tCmp (fun i => op_neA (C.k i) (roomU (C.r i))) v_ne (CE.brw (cIx (fun i => ix_both (C.k i)) v_ix (cNm C 0) (CE.brw (cInt)) (fun _ _ => rfl))) (CE.brw (cIx (fun i => ix_both (C.k i)) v_ix (cNm C 1) (CE.brw (cInt)) (fun _ _ => rfl))) (nomark _)) (ssOne (cRet (cCmp (fun i => op_gtA (C.k i) (roomU (C.r i))) v_gtA (CE.brw (cIx (fun i => ix_both (C.k i)) v_ix (cNm C 0) (CE.brw (cInt)) (fun _ _ => rfl))) (CE.brw (cIx (fun i => ix_both (C.k i)) v_ix (cNm C 1) (CE.brw (cInt)) (fun _ _ => rfl))) (nomark _)))) (ssNil)) (ssOne (cRet (cCmp (fun i => op_gtA (C.k i) (roomU (C.r i))) v_gtA (CE.brw (cCall C d_compare (by decide) (caCons (cIx (fun i => ix_both (C.k i)) v_ix (cNm C 0) (CE.brw (cInt)) (fun _ _ => rfl)) (caCons (cIx (fun i => ix_both (C.k i)) v_ix (cNm C 1) (CE.brw (cInt)) (fun _ _ => rfl)) (caNil))))) (CE.brw (cInt)) (nomark _))))) hm hb 2 2
abbrev s_next_list : Stmt := topS 16
theorem sc_next_list : FnScope ["votes", "kind", "found", "best", "k"] ["votes", "kind", "found"] (defScope s_next_list) := ⟨rfl, rfl, rfl, by decide +kernel, rfl, by decide +kernel, by decide +kernel⟩
def g_next_list : SF := sSeq (sSet 3 (xC (.int 0))) (sSeq (sFor (iRg rng2D (aC (xC (.int 1)) (aC (xL lenD (aC (xNm 0) (aN))) (aN)))) (gNm 4) (sIf (tTr (xCall m_is_more (aC (xCall m_quotient (aC (x2 ixD (xNm 0) (xNm 4)) (aC (xCall m_divisor (aC (xSh 1) (aC (x2 ixD (xNm 2) (xNm 4)) (aN)))) (aN)))) (aC (xCall m_quotient (aC (x2 ixD (xNm 0) (xNm 3)) (aC (xCall m_divisor (aC (xSh 1) (aC (x2 ixD (xNm 2) (xNm 3)) (aN)))) (aN)))) (aN))))) (sSet 3 (xSh 4)) (sNext))) (sRet (xSh 3)))
def m_next_list : List D → M D := runDef 5 3 g_next_list
theorem ok_next_list (B : Bi mg) (d_is_more : DefOk P w K mg base "is_more" 2 ["one", "other"] m_is_more) (d_quotient : DefOk P w K mg base "quotient" 2 ["one", "down"] m_quotient) (d_divisor : DefOk P w K mg base "divisor" 2 ["kind", "seats"] m_divisor) {f : Addr} {fd : FuncData} (F : FnP K "next_list" s_next_list f fd) (hm : mg "next_list" = some (.ref f)) (hb : Binds K fd ["votes", "kind", "found"] []) : DefOk P w K mg base "next_list" 3 ["votes", "kind", "found"] m_next_list :=
  have C := Fam.ent (P := P) (w := w) (K := K) (mg := mg) (base := base) (N := ["votes", "kind", "found", "best", "k"]) (k := 2) (qual := "next_list") (scope := defScope s_next_list) (f := f) sc_next_list.nd
  def_ok F sc_next_list (show CSs _ K (defBody s_next_list) g_next_list from ssCons (cSet C 3 (cInt)) (ssCons (cFor C (fun _ => PassesOwn.never) (iRng2E C B.range (caCons (cInt) (caCons (cCallB C (fun i => c_len (C.k i)) v_len B.len bt_len (cbCons (cNm C 0) (cbNil))) (caNil)))) (gName' C 4) (ssOne (cIfS (tTruth C (CE.brw (cCall C d_is_more (by decide) (caCons (cCall C d_quotient (by decide) (caCons (cIx (fun i => ix_both (C.k i)) v_ix (cNm C 0) (cNm C 4) (fun _ _ => rfl)) (caCons (cCall C d_divisor (by decide) (caCons (cSh C 1) (caCons (cIx (fun i => ix_both (C.k i)) v_ix (cNm C 2) (cNm C 4) (fun _ _ => rfl)) (caNil)))) (caNil)))) (caCons (cCall C d_quotient (by decide) (caCons (cIx (fun i => ix_both (C.k i)) v_ix (cNm C 0) (cNm C 3) (fun _ _ => rfl)) (caCons (cCall C d_divisor (by decide) (caCons (cSh C 1) (caCons (cIx (fun i => ix_both (C.k i)) v_ix (cNm C 2) (cNm C 3) (fun _ _ => rfl)) (caNil)))) (caNil)))) (caNil)))))) (ssOne (cSet C 3 (cSh C 4))) (ssNil)))) (ssOne (cRet (cSh C 3))))) hm hb 5 3
abbrev s_by_quotients : Stmt := topS 17
theorem sc_by_quotients : FnScope ["votes", "seats", "kind", "found", "_"] ["votes", "seats", "kind"] (defScope s_by_quotients) := ⟨rfl, rfl, rfl, by decide +kernel, rfl, by decide +kernel, by decide +kernel⟩
def g_by_quotients : SF := sSeq (sDrop (xCall m_check_seats (aC (xSh 0) (aC (xSh 1) (aN))))) (sSeq (sDrop (xCall m_divisor (aC (xSh 2) (aC (xC (.int 1)) (aN))))) (sSeq (sOwn 3 (o2 repO (xOf (oLst (aC (xC (.int 0)) (aN)))) (xL lenD (aC (xNm 0) (aN))))) (sSeq (sFor (iRg rng1D (aC (xSh 1) (aN))) (gNm 4) (sAugIx 3 addI (xCallB m_next_list (aC (xNm 0) (aC (xNm 2) (aC (xNm 3) (aN))))) (xC (.int 1)))) (sRet (xL tupD (aC (xNm 3) (aN)))))))
def m_by_quotients : List D → M D := runDef 5 3 g_by_quotients
theorem ok_by_quotients (B : Bi mg) (d_check_seats : DefOk P w K mg base "check_seats" 1 ["votes", "seats"] m_check_seats) (d_divisor : DefOk P w K mg base "divisor" 2 ["kind", "seats"] m_divisor) (d_next_list : DefOk P w K mg base "next_list" 3 ["votes", "kind", "found"] m_next_list) {f : Addr} {fd : FuncData} (F : FnP K "by_quotients" s_by_quotients f fd) (hm : mg "by_quotients" = some (.ref f)) (hb : Binds K fd ["votes", "seats", "kind"] []) : DefOk P w K mg base "by_quotients" 4 ["votes", "seats", "kind"] m_by_quotients :=
  have C := Fam.ent (P := P) (w := w) (K := K) (mg := mg) (base := base) (N := ["votes", "seats", "kind", "found", "_"]) (k := 3) (qual := "by_quotients") (scope := defScope s_by_quotients) (f := f) sc_by_quotients.nd
  def_ok F sc_by_quotients (show CSs _ K (defBody s_by_quotients) g_by_quotients from ssCons (cExpr (cCall C d_check_seats (by decide) (caCons (cSh C 0) (caCons (cSh C 1) (caNil))))) (ssCons (cExpr (cCall C d_divisor (by decide) (caCons (cSh C 2) (caCons (cInt) (caNil))))) (ssCons (cOwn C 3 (oBin (fun _ => op_rep) v_repO (CE.brw (CO.frz (oList (caCons (cInt) (caNil))))) (CE.brw (cCallB C (fun i => c_len (C.k i)) v_len B.len bt_len (cbCons (cNm C 0) (cbNil)))))) (ssCons (cFor C (fun _ => PassesOwn.never) (iRng1E C B.range (caCons (cSh C 1) (caNil))) (gName' C 4) (ssOne (cAugIx C 3 (fun _ => iop_add) v_iadd (cCallB' C d_next_list (by decide) (cbCons (cNm C 0) (cbCons (cNm C 2) (cbCons (cNm C 3) (cbNil))))) (cInt)))) (ssOne (cRet (cCallT C (fun i => c_tup (C.k i)) v_tup B.tuple bt_tuple (cbCons (cNm C 3) (cbNil))))))))) hm hb 5 3
abbrev s_turns : Stmt := topS 18
theorem sc_turns : FnScope ["votes", "seats", "kind", "found", "order", "_"] ["votes", "seats", "kind"] (defScope s_turns) := ⟨rfl, rfl, rfl, by decide +kernel, rfl, by decide +kernel, by decide +kernel⟩
def g_turns : SF := sSeq (sDrop (xCall m_check_seats (aC (xSh 0) (aC (xSh 1) (aN))))) (sSeq (sDrop (xCall m_divisor (aC (xSh 2) (aC (xC (.int 1)) (aN))))) (sSeq (sOwn 3 (o2 repO (xOf (oLst (aC (xC (.int 0)) (aN)))) (xL lenD (aC (xNm 0) (aN))))) (sSeq (sOwn 4 (oLst (aN))) (sSeq (sFor (iRg rng1D (aC (xSh 1) (aN))) (gNm 5) (sSeq (sMeth 4 appU (xCallB m_next_list (aC (xNm 0) (aC (xNm 2) (aC (xNm 3) (aN)))))) (sAugIx 3 addI (x2 ixD (xNm 4) (x1 negD (xC (.int 1)))) (xC (.int 1))))) (sRet (xL tupD (aC (xNm 4) (aN))))))))
def m_turns : List D → M D := runDef 6 3 g_turns
theorem ok_turns (B : Bi mg) (d_check_seats : DefOk P w K mg base "check_seats" 1 ["votes", "seats"] m_check_seats) (d_divisor : DefOk P w K mg base "divisor" 2 ["kind", "seats"] m_divisor) (d_next_list : DefOk P w K mg base "next_list" 3 ["votes", "kind", "found"] m_next_list) {f : Addr} {fd : FuncData} (F : FnP K "turns" s_turns f fd) (hm : mg "turns" = some (.ref f)) (hb : Binds K fd ["votes", "seats", "kind"] []) : DefOk P w K mg base "turns" 4 ["votes", "seats", "kind"] m_turns :=
  have C := Fam.ent (P := P) (w := w) (K := K) (mg := mg) (base := base) (N := ["votes", "seats", "kind", "found", "order", "_"]) (k := 3) (qual := "turns") (scope := defScope s_turns) (f := f) sc_turns.nd
  def_ok F sc_turns (show CSs _ K (defBody s_turns) g_turns from ssCons (cExpr (cCall C d_check_seats (by decide) (caCons (cSh C 0) (caCons (cSh C 1) (caNil))))) (ssCons (cExpr (cCall C d_divisor (by decide) (caCons (cSh C 2) (caCons (cInt) (caNil))))) (ssCons (cOwn C 3 (oBin (fun _ => op_rep) v_repO (CE.brw (CO.frz (oList (caCons (cInt) (caNil))))) (CE.brw (cCallB C (fun i => c_len (C.k i)) v_len B.len bt_len (cbCons (cNm C 0) (cbNil)))))) (ssCons (cOwn C 4 (oList (caNil))) (ssCons (cFor C (fun _ => PassesOwn.never) (iRng1E C B.range (caCons (cSh C 1) (caNil))) (gName' C 5) (ssCons (cApp C 4 (cCallB' C d_next_list (by decide) (cbCons (cNm C 0) (cbCons (cNm C 2) (cbCons (cNm C 3) (cbNil)))))) (ssOne (cAugIx C 3 (fun _ => iop_add) v_iadd (cIx (fun i => ix_both (C.k i)) v_ix (cNm C 4) (CE.brw (cUn (fun _ => un_neg) v_neg (CE.brw (cInt)))) (fun _ _ => rfl)) (cInt))))) (ssOne (cRet (cCallT C (fun i => c_tup (C.k i)) v_tup B.tuple bt_tuple (cbCons (cNm C 4) (cbNil)))))))))) hm hb 6 3
abbrev s_check_dealt : Stmt := topS 20
theorem sc_check_dealt : FnScope ["votes", "dealt"] ["votes", "dealt"] (defScope s_check_dealt) := ⟨rfl, rfl, rfl, by decide +kernel, rfl, by decide +kernel, by decide +kernel⟩
def g_check_dealt : SF := sSeq (sDrop (xCall m_check_seats (aC (xSh 0) (aC (xC (.int 0)) (aN))))) (sIf (tOr (tV (x2 neD (xL lenD (aC (xNm 1) (aN))) (xL lenD (aC (xNm 0) (aN))))) (tV (x2 ltA (xL minD (aC (xNm 1) (aN))) (xC (.int 0))))) (sFail) (sNext))
def m_check_dealt : List D → M D := runDef 2 2 g_check_dealt
theorem ok_check_dealt (B : Bi mg) (d_check_seats : DefOk P w K mg base "check_seats" 1 ["votes", "seats"] m_check_seats) {f : Addr} {fd : FuncData} (F : FnP K "check_dealt" s_check_dealt f fd) (hm : mg "check_dealt" = some (.ref f)) (hb : Binds K fd ["votes", "dealt"] []) : DefOk P w K mg base "check_dealt" 2 ["votes", "dealt"] m_check_dealt :=
  have C := Fam.ent (P := P) (w := w) (K := K) (mg := mg) (base := base) (N := ["votes", "dealt"]) (k := 1) (qual := "check_dealt") (scope := defScope s_check_dealt) (f := f) sc_check_dealt.nd
  def_ok F sc_check_dealt (show CSs _ K (defBody s_check_dealt) g_check_dealt from ssCons (cExpr (cCall C d_check_seats (by decide) (caCons (cSh C 0) (caCons (cInt) (caNil))))) (ssOne (cIfS (CW.t (wOr (tCmp (fun i => op_neA (C.k i) (roomU (C.r i))) v_ne (CE.brw (cCallB C (fun i => c_len (C.k i)) v_len B.len bt_len (cbCons (cNm C 1) (cbNil)))) (CE.brw (cCallB C (fun i => c_len (C.k i)) v_len B.len bt_len (cbCons (cNm C 0) (cbNil)))) (nomark _)) (wOr1 (tCmp (fun i => op_ltA (C.k i) (roomU (C.r i))) v_ltA (CE.brw (cCallB C (fun i => c_min (C.k i) (C.c i) (roomU (C.r i))) v_min B.min bt_min (cbCons (cNm C 1) (cbNil)))) (CE.brw (cInt)) (nomark _))))) (ssOne (cNever)) (ssNil)))) hm hb 2 2
abbrev s_price_of : Stmt := topS 19
theorem sc_price_of : FnScope ["votes", "dealt", "kind", "low", "high", "one", "many", "last", "after"] ["votes", "dealt", "kind"] (defScope s_price_of) := ⟨rfl, rfl, rfl, by decide +kernel, rfl, by decide +kernel, by decide +kernel⟩
def g_price_of : SF := sSeq (sDrop (xCall m_check_dealt (aC (xSh 0) (aC (xSh 1) (aN))))) (sSeq (sDrop (xCall m_divisor (aC (xSh 2) (aC (xC (.int 1)) (aN))))) (sSeq (sSet 3 (xCall m_fraction (aC (xC (.int 0)) (aC (xC (.int 1)) (aN))))) (sSeq (sSet 4 (xC .non)) (sSeq (sFor (iRg zpD (aC (xSh 0) (aC (xSh 1) (aN)))) (gTp [gNm 5, gNm 6]) (sSeq (sSet 7 (xIf (tV (x2 gtA (xNm 6) (xC (.int 0)))) (xCall m_quotient (aC (xSh 5) (aC (xCall m_divisor (aC (xSh 2) (aC (x2 subD (xNm 6) (xC (.int 1))) (aN)))) (aN)))) (xTup (aC (xC (.int 1)) (aC (xTup (aC (xC (.int 0)) (aC (xC (.int 1)) (aN)))) (aN)))))) (sSeq (sSet 8 (xCall m_quotient (aC (xSh 5) (aC (xCall m_divisor (aC (xSh 2) (aC (xSh 6) (aN)))) (aN))))) (sSeq (sIf (tV (x2 gtA (x2 ixD (xNm 8) (xC (.int 0))) (xC (.int 0)))) (sRet (xC .non)) (sNext)) (sSeq (sSet 3 (xIf (tV (x2 gtA (xCall m_compare (aC (x2 ixD (xNm 8) (xC (.int 1))) (aC (xSh 3) (aN)))) (xC (.int 0)))) (x2 ixD (xNm 8) (xC (.int 1))) (xSh 3))) (sIf (tAnd (tV (x2 eqD (x2 ixD (xNm 7) (xC (.int 0))) (xC (.int 0)))) (tOr (tV (x2 isD (xNm 4) (xC .non))) (tV (x2 ltA (xCall m_compare (aC (x2 ixD (xNm 7) (xC (.int 1))) (aC (xSh 4) (aN)))) (xC (.int 0)))))) (sSet 4 (x2 ixD (xNm 7) (xC (.int 1)))) (sNext))))))) (sSeq (sIf (tAnd (tV (x2 isNotD (xNm 4) (xC .non))) (tV (x2 gtA (xCall m_compare (aC (xSh 3) (aC (xSh 4) (aN)))) (xC (.int 0))))) (sRet (xC .non)) (sNext)) (sRet (xTup (aC (xSh 3) (aC (xSh 4) (aN))))))))))
def m_price_of : List D → M D := runDef 9 3 g_price_of
theorem ok_price_of (B : Bi mg) (d_check_dealt : DefOk P w K mg base "check_dealt" 2 ["votes", "dealt"] m_check_dealt) (d_divisor : DefOk P w K mg base "divisor" 2 ["kind", "seats"] m_divisor) (d_fraction : DefOk P w K mg base "fraction" 1 ["numerator", "denominator"] m_fraction) (d_quotient : DefOk P w K mg base "quotient" 2 ["one", "down"] m_quotient) (d_compare : DefOk P w K mg base "compare" 1 ["a", "b"] m_compare) {f : Addr} {fd : FuncData} (F : FnP K "price_of" s_price_of f fd) (hm : mg "price_of" = some (.ref f)) (hb : Binds K fd ["votes", "dealt", "kind"] []) : DefOk P w K mg base "price_of" 3 ["votes", "dealt", "kind"] m_price_of :=
  have C := Fam.ent (P := P) (w := w) (K := K) (mg := mg) (base := base) (N := ["votes", "dealt", "kind", "low", "high", "one", "many", "last", "after"]) (k := 2) (qual := "price_of") (scope := defScope s_price_of) (f := f) sc_price_of.nd
  def_ok F sc_price_of (show CSs _ K (defBody s_price_of) g_price_of from ssCons (cExpr (cCall C d_check_dealt (by decide) (caCons (cSh C 0) (caCons (cSh C 1) (caNil))))) (ssCons (cExpr (cCall C d_divisor (by decide) (caCons (cSh C 2) (caCons (cInt) (caNil))))) (ssCons (cSet C 3 (cCall C d_fraction (by decide) (caCons (cInt) (caCons (cInt) (caNil))))) (ssCons (cSet C 4 (cNon)) (ssCons (cFor C (fun _ => PassesOwn.never) (iZpE C B.zip (caCons (cSh C 0) (caCons (cSh C 1) (caNil)))) (gTup' C (gsCons (gName' C 5) (gsCons (gName' C 6) (gsNil)))) (ssCons (cSet C 7 (cIf (tCmp (fun i => op_gtA (C.k i) (roomU (C.r i))) v_gtA (cNm C 6) (CE.brw (cInt)) (nomark _)) (cCall C d_quotient (by decide) (caCons (cSh C 5) (caCons (cCall C d_divisor (by decide) (caCons (cSh C 2) (caCons (cBin (fun _ => op_sub) v_sub (cNm C 6) (CE.brw (cInt))) (caNil)))) (caNil)))) (cTup (caCons (cInt) (caCons (cTup (caCons (cInt) (caCons (cInt) (caNil)))) (caNil)))))) (ssCons (cSet C 8 (cCall C d_quotient (by decide) (caCons (cSh C 5) (caCons (cCall C d_divisor (by decide) (caCons (cSh C 2) (caCons (cSh C 6) (caNil)))) (caNil))))) (ssCons (cIfS (tCmp (fun i => op_gtA (C.k i) (roomU (C.r i))) v_gtA (CE.brw (cIx (fun i => ix_both (C.k i)) v_ix (cNm C 8) (CE.brw (cInt)) (fun _ _ => rfl))) (CE.brw (cInt)) (nomark _)) (ssOne (cRet (cNon))) (ssNil)) (ssCons (cSet C 3 (cIf (tCmp (fun i => op_gtA (C.k i) (roomU (C.r i))) v_gtA (CE.brw (cCall C d_compare (by decide) (caCons (cIx (fun i => ix_both (C.k i)) v_ix (cNm C 8) (CE.brw (cInt)) (fun _ _ => rfl)) (caCons (cSh C 3) (caNil))))) (CE.brw (cInt)) (nomark _)) (cIx (fun i => ix_both (C.k i)) v_ix (cNm C 8) (CE.brw (cInt)) (fun _ _ => rfl)) (cSh C 3))) (ssOne (cIfS (CW.t (wAnd (tCmp (fun i => op_eqA (C.k i) (roomU (C.r i))) v_eq (CE.brw (cIx (fun i => ix_both (C.k i)) v_ix (cNm C 7) (CE.brw (cInt)) (fun _ _ => rfl))) (CE.brw (cInt)) (nomark _)) (wAnd1 (CW.t (wOr (tCmp (fun _ => op_isN) v_is (cNm C 4) (CE.brw (cNon)) (nomark _)) (wOr1 (tCmp (fun i => op_ltA (C.k i) (roomU (C.r i))) v_ltA (CE.brw (cCall C d_compare (by decide) (caCons (cIx (fun i => ix_both (C.k i)) v_ix (cNm C 7) (CE.brw (cInt)) (fun _ _ => rfl)) (caCons (cSh C 4) (caNil))))) (CE.brw (cInt)) (nomark _)))))))) (ssOne (cSet C 4 (cIx (fun i => ix_both (C.k i)) v_ix (cNm C 7) (CE.brw (cInt)) (fun _ _ => rfl)))) (ssNil)))))))) (ssCons (cIfS (CW.t (wAnd (tCmp (fun _ => op_notN) v_isNot (cNm C 4) (CE.brw (cNon)) (nomark _)) (wAnd1 (tCmp (fun i => op_gtA (C.k i) (roomU (C.r i))) v_gtA (CE.brw (cCall C d_compare (by decide) (caCons (cSh C 3) (caCons (cSh C 4) (caNil))))) (CE.brw (cInt)) (nomark _))))) (ssOne (cRet (cNon))) (ssNil)) (ssOne (cRet (cTup (caCons (cSh C 3) (caCons (cSh C 4) (caNil)))))))))))) hm hb 9 3
abbrev s_unfair_pair : Stmt := topS 21
theorem sc_unfair_pair : FnScope ["votes", "dealt", "kind", "one", "mine", "other"] ["votes", "dealt", "kind"] (defScope s_unfair_pair) := ⟨rfl, rfl, rfl, by decide +kernel, rfl, by decide +kernel, by decide +kernel⟩
def g_unfair_pair : SF := sSeq (sDrop (xCall m_check_dealt (aC (xSh 0) (aC (xSh 1) (aN))))) (sSeq (sDrop (xCall m_divisor (aC (xSh 2) (aC (xC (.int 1)) (aN))))) (sSeq (sFor (iRg rng1D (aC (xL lenD (aC (xNm 0) (aN))) (aN))) (gNm 3) (sSeq (sSet 4 (xCall m_quotient (aC (x2 ixD (xNm 0) (xNm 3)) (aC (xCall m_divisor (aC (xSh 2) (aC (x2 ixD (xNm 1) (xNm 3)) (aN)))) (aN))))) (sFor (iRg rng1D (aC (xL lenD (aC (xNm 0) (aN))) (aN))) (gNm 5) (sIf (tAnd (tV (x2 gtA (x2 ixD (xNm 1) (xNm 5)) (xC (.int 0)))) (tTr (xCall m_is_more (aC (xSh 4) (aC (xCall m_quotient (aC (x2 ixD (xNm 0) (xNm 5)) (aC (xCall m_divisor (aC (xSh 2) (aC (x2 subD (x2 ixD (xNm 1) (xNm 5)) (xC (.int 1))) (aN)))) (aN)))) (aN)))))) (sRet (xTup (aC (xSh 3) (aC (xSh 5) (aN))))) (sNext))))) (sRet (xC .non))))
def m_unfair_pair : List D → M D := runDef 6 3 g_unfair_pair
theorem ok_unfair_pair (B : Bi mg) (d_check_dealt : DefOk P w K mg base "check_dealt" 2 ["votes", "dealt"] m_check_dealt) (d_divisor : DefOk P w K mg base "divisor" 2 ["kind", "seats"] m_divisor) (d_quotient : DefOk P w K mg base "quotient" 2 ["one", "down"] m_quotient) (d_is_more : DefOk P w K mg base "is_more" 2 ["one", "other"] m_is_more) {f : Addr} {fd : FuncData} (F : FnP K "unfair_pair" s_unfair_pair f fd) (hm : mg "unfair_pair" = some (.ref f)) (hb : Binds K fd ["votes", "dealt", "kind"] []) : DefOk P w K mg base "unfair_pair" 3 ["votes", "dealt", "kind"] m_unfair_pair :=
  have C := Fam.ent (P := P) (w := w) (K := K) (mg := mg) (base := base) (N := ["votes", "dealt", "kind", "one", "mine", "other"]) (k := 2) (qual := "unfair_pair") (scope := defScope s_unfair_pair) (f := f) sc_unfair_pair.nd
  def_ok F sc_unfair_pair (show CSs _ K (defBody s_unfair_pair) g_unfair_pair from ssCons (cExpr (cCall C d_check_dealt (by decide) (caCons (cSh C 0) (caCons (cSh C 1) (caNil))))) (ssCons (cExpr (cCall C d_divisor (by decide) (caCons (cSh C 2) (caCons (cInt) (caNil))))) (ssCons (cFor C (fun _ => PassesOwn.never) (iRng1E C B.range (caCons (cCallB C (fun i => c_len (C.k i)) v_len B.len bt_len (cbCons (cNm C 0) (cbNil))) (caNil))) (gName' C 3) (ssCons (cSet C 4 (cCall C d_quotient (by decide) (caCons (cIx (fun i => ix_both (C.k i)) v_ix (cNm C 0) (cNm C 3) (fun _ _ => rfl)) (caCons (cCall C d_divisor (by decide) (caCons (cSh C 2) (caCons (cIx (fun i => ix_both (C.k i)) v_ix (cNm C 1) (cNm C 3) (fun _ _ => rfl)) (caNil)))) (caNil))))) (ssOne (cFor C (fun _ => PassesOwn.never) (iRng1E C B.range (caCons (cCallB C (fun i => c_len (C.k i)) v_len B.len bt_len (cbCons (cNm C 0) (cbNil))) (caNil))) (gName' C 5) (ssOne (cIfS (CW.t (wAnd (tCmp (fun i => op_gtA (C.k i) (roomU (C.r i))) v_gtA (CE.brw (cIx (fun i => ix_both (C.k i)) v_ix (cNm C 1) (cNm C 5) (fun _ _ => rfl))) (CE.brw (cInt)) (nomark _)) (wAnd1 (tTruth C (CE.brw (cCall C d_is_more (by decide) (caCons (cSh C 4) (caCons (cCall C d_quotient (by decide) (caCons (cIx (fun i => ix_both (C.k i)) v_ix (cNm C 0) (cNm C 5) (fun _ _ => rfl)) (caCons (cCall C d_divisor (by decide) (caCons (cSh C 2) (caCons (cBin (fun _ => op_sub) v_sub (CE.brw (cIx (fun i => ix_both (C.k i)) v_ix (cNm C 1) (cNm C 5) (fun _ _ => rfl))) (CE.brw (cInt))) (caNil)))) (caNil)))) (caNil))))))))) (ssOne (cRet (cTup (caCons (cSh C 3) (caCons (cSh C 5) (caNil)))))) (ssNil))))))) (ssOne (cRet (cNon)))))) hm hb 6 3
abbrev s_out_of_parts : Stmt := topS 22
theorem sc_out_of_parts : FnScope ["votes", "dealt", "whole", "seats", "k", "one"] ["votes", "dealt"] (defScope s_out_of_parts) := ⟨rfl, rfl, rfl, by decide +kernel, rfl, by decide +kernel, by decide +kernel⟩
def g_out_of_parts : SF := sSeq (sDrop (xCall m_check_dealt (aC (xSh 0) (aC (xSh 1) (aN))))) (sSeq (sSet 2 (xL sumD (aC (xNm 0) (aN)))) (sSeq (sSet 3 (xL sumD (aC (xNm 1) (aN)))) (sSeq (sFor (iRg enD (aC (xSh 0) (aN))) (gTp [gNm 4, gNm 5]) (sIf (tV (x2 geA (xL absD (aC (x2 subD (x2 mulD (x2 ixD (xNm 1) (xNm 4)) (xNm 2)) (x2 mulD (xNm 5) (xNm 3))) (aN))) (xNm 2))) (sRet (xSh 4)) (sNext))) (sRet (xC .non)))))
def m_out_of_parts : List D → M D := runDef 6 2 g_out_of_parts
theorem ok_out_of_parts (B : Bi mg) (d_check_dealt : DefOk P w K mg base "check_dealt" 2 ["votes", "dealt"] m_check_dealt) {f : Addr} {fd : FuncData} (F : FnP K "out_of_parts" s_out_of_parts f fd) (hm : mg "out_of_parts" = some (.ref f)) (hb : Binds K fd ["votes", "dealt"] []) : DefOk P w K mg base "out_of_parts" 3 ["votes", "dealt"] m_out_of_parts :=
  have C := Fam.ent (P := P) (w := w) (K := K) (mg := mg) (base := base) (N := ["votes", "dealt", "whole", "seats", "k", "one"]) (k := 2) (qual := "out_of_parts") (scope := defScope s_out_of_parts) (f := f) sc_out_of_parts.nd
  def_ok F sc_out_of_parts (show CSs _ K (defBody s_out_of_parts) g_out_of_parts from ssCons (cExpr (cCall C d_check_dealt (by decide) (caCons (cSh C 0) (caCons (cSh C 1) (caNil))))) (ssCons (cSet C 2 (cCallB C (fun i => c_sum (C.k i) (C.c i)) v_sum B.sum bt_sum (cbCons (cNm C 0) (cbNil)))) (ssCons (cSet C 3 (cCallB C (fun i => c_sum (C.k i) (C.c i)) v_sum B.sum bt_sum (cbCons (cNm C 1) (cbNil)))) (ssCons (cFor C (fun _ => PassesOwn.never) (iEnE C B.enumerate (caCons (cSh C 0) (caNil))) (gTup' C (gsCons (gName' C 4) (gsCons (gName' C 5) (gsNil)))) (ssOne (cIfS (tCmp (fun i => op_geA (C.k i) (roomU (C.r i))) v_geA (CE.brw (cCallB C (fun i => call_abs) v_abs B.abs bt_abs (cbCons (CE.brw (cBin (fun _ => op_sub) v_sub (CE.brw (cBin (fun _ => op_mulW) v_mul (CE.brw (cIx (fun i => ix_both (C.k i)) v_ix (cNm C 1) (cNm C 4) (fun _ _ => rfl))) (cNm C 2))) (CE.brw (cBin (fun _ => op_mulW) v_mul (cNm C 5) (cNm C 3))))) (cbNil)))) (cNm C 2) (nomark _)) (ssOne (cRet (cSh C 4))) (ssNil)))) (ssOne (cRet (cNon))))))) hm hb 6 2
abbrev s_loses_by_more : Stmt := topS 23
theorem sc_loses_by_more : FnScope ["votes", "most", "seats", "before", "after", "k"] ["votes", "most"] (defScope s_loses_by_more) := ⟨rfl, rfl, rfl, by decide +kernel, rfl, by decide +kernel, by decide +kernel⟩
def g_loses_by_more : SF := sSeq (sDrop (xCall m_check_seats (aC (xSh 0) (aC (xSh 1) (aN))))) (sSeq (sFor (iRg rng2D (aC (xC (.int 1)) (aC (x2 addD (xNm 1) (xC (.int 1))) (aN)))) (gNm 2) (sSeq (sSet 3 (xCall m_by_rests (aC (xSh 0) (aC (x2 subD (xNm 2) (xC (.int 1))) (aN))))) (sSeq (sSet 4 (xCall m_by_rests (aC (xSh 0) (aC (xSh 2) (aN))))) (sFor (iRg rng1D (aC (xL lenD (aC (xNm 0) (aN))) (aN))) (gNm 5) (sIf (tV (x2 ltA (x2 ixD (xNm 4) (xNm 5)) (x2 ixD (xNm 3) (xNm 5)))) (sRet (xTup (aC (xSh 2) (aC (xSh 5) (aN))))) (sNext)))))) (sRet (xC .non)))
def m_loses_by_more : List D → M D := runDef 6 2 g_loses_by_more
theorem ok_loses_by_more (B : Bi mg) (d_check_seats : DefOk P w K mg base "check_seats" 1 ["votes", "seats"] m_check_seats) (d_by_rests : DefOk P w K mg base "by_rests" 2 ["votes", "seats"] m_by_rests) {f : Addr} {fd : FuncData} (F : FnP K "loses_by_more" s_loses_by_more f fd) (hm : mg "loses_by_more" = some (.ref f)) (hb : Binds K fd ["votes", "most"] []) : DefOk P w K mg base "loses_by_more" 3 ["votes", "most"] m_loses_by_more :=
  have C := Fam.ent (P := P) (w := w) (K := K) (mg := mg) (base := base) (N := ["votes", "most", "seats", "before", "after", "k"]) (k := 2) (qual := "loses_by_more") (scope := defScope s_loses_by_more) (f := f) sc_loses_by_more.nd
  def_ok F sc_loses_by_more (show CSs _ K (defBody s_loses_by_more) g_loses_by_more from ssCons (cExpr (cCall C d_check_seats (by decide) (caCons (cSh C 0) (caCons (cSh C 1) (caNil))))) (ssCons (cFor C (fun _ => PassesOwn.never) (iRng2E C B.range (caCons (cInt) (caCons (cBin (fun i => op_addAll (C.k i)) v_add (cNm C 1) (CE.brw (cInt))) (caNil)))) (gName' C 2) (ssCons (cSet C 3 (cCall C d_by_rests (by decide) (caCons (cSh C 0) (caCons (cBin (fun _ => op_sub) v_sub (cNm C 2) (CE.brw (cInt))) (caNil))))) (ssCons (cSet C 4 (cCall C d_by_rests (by decide) (caCons (cSh C 0) (caCons (cSh C 2) (caNil))))) (ssOne (cFor C (fun _ => PassesOwn.never) (iRng1E C B.range (caCons (cCallB C (fun i => c_len (C.k i)) v_len B.len bt_len (cbCons (cNm C 0) (cbNil))) (caNil))) (gName' C 5) (ssOne (cIfS (tCmp (fun i => op_ltA (C.k i) (roomU (C.r i))) v_ltA (CE.brw (cIx (fun i => ix_both (C.k i)) v_ix (cNm C 4) (cNm C 5) (fun _ _ => rfl))) (CE.brw (cIx (fun i => ix_both (C.k i)) v_ix (cNm C 3) (cNm C 5) (fun _ _ => rfl))) (nomark _)) (ssOne (cRet (cTup (caCons (cSh C 2) (caCons (cSh C 5) (caNil)))))) (ssNil)))))))) (ssOne (cRet (cNon))))) hm hb 6 2
abbrev s__law_begin : Stmt := topS 25
theorem sc__law_begin : FnScope ["script", "seed", "cell"] ["script"] (defScope s__law_begin) := ⟨rfl, rfl, rfl, by decide +kernel, rfl, by decide +kernel, by decide +kernel⟩
theorem rd_begin {k : Nat} {f : Addr} (B : Bi mg) (i : EntI k "_law_begin" (defScope s__law_begin) f) : PSs (entF P w K mg base ["script", "seed", "cell"] k "_law_begin" (defScope s__law_begin) f i) (defBody s__law_begin) (tBegin K (tBeginL K)) :=
  pss_cons (ps_set (i := 1) sc__law_begin.nd rfl (.inl rfl) pe_int)
    (pss_cons (ps_for PassesOwn.never rfl (pi_list (pv 0)) (pg_name (i := 2) sc__law_begin.nd rfl (.inl rfl)) (pss_one (ps_set (i := 1) sc__law_begin.nd rfl (.inl rfl) (pe_op op_mod (pe_op (op_addAll rfl) (pe_op (op_addAll rfl) (pe_op op_mulW (pv 1) pe_int) (pe_op op_mod (pe_callTy call_int1 (by rfl) B.int bt_int (pa_cons (pv 2) pa_nil)) pe_int)) pe_int) pe_int))))
      (pss_one (ps_ret (pe_lst (pa_cons (pe_callTy call_list_of (by rfl) B.list bt_list (pa_cons (pv 0) pa_nil)) (pa_cons pe_int (pa_cons pe_int (pa_cons (pv 1) pa_nil))))))))
theorem ok_begin (B : Bi mg) {f : Addr} {fd : FuncData} (F : FnP K "_law_begin" s__law_begin f fd) : FnOk P w K mg base CX0 1 f fd ["script"] (spBegin K) := begin_ok F sc__law_begin fun i => rd_begin B i
abbrev s__law_take : Stmt := topS 26
theorem sc__law_take : FnScope ["d", "many", "digit", "small"] ["d", "many"] (defScope s__law_take) := ⟨rfl, rfl, rfl, by decide +kernel, rfl, by decide +kernel, by decide +kernel⟩
def g__law_take : SF := sSeq (sIf (tAnd (tV (x2 eqD (xRd 0 2) (xC (.int 0)))) (tV (x2 ltA (xRd 0 1) (xL lenD (aC (xRd 0 0) (aN)))))) (sSeq (sWr 0 2 (xL absD (aC (xL intD (aC (x2 ixD (xRd 0 0) (xRd 0 1)) (aN))) (aN)))) (sSeq (sWr 0 1 (x2 addD (xRd 0 1) (xC (.int 1)))) (sIf (tV (x2 ltA (xRd 0 2) (x2 powD (xC (.int 10)) (xC (.int 18))))) (sSeq (sSet 3 (xL intD (aC (xRd 0 2) (aN)))) (sSeq (sWr 0 2 (xC (.int 0))) (sRet (x2 modD (xNm 3) (xNm 1))))) (sNext)))) (sNext)) (sSeq (sIf (tV (x2 gtA (xRd 0 2) (xC (.int 0)))) (sSeq (sSet 2 (x2 modD (xL intD (aC (xRd 0 2) (aN))) (xNm 1))) (sSeq (sWr 0 2 (x2 divD (xL intD (aC (xRd 0 2) (aN))) (xNm 1))) (sRet (xSh 2)))) (sNext)) (sSeq (sWr 0 3 (x2 modD (xL intD (aC (x2 addD (x2 mulD (xRd 0 3) (xC (.int 48271))) (xC (.int 11))) (aN))) (xC (.int 2147483647)))) (sRet (x2 modD (xL intD (aC (x2 divD (xRd 0 3) (xC (.int 3))) (aN))) (xNm 1)))))
def m__law_take : List D → M D := runDef 4 2 g__law_take
theorem ok__law_take (B : Bi mg)  {f : Addr} {fd : FuncData} (F : FnP K "_law_take" s__law_take f fd) (hm : mg "_law_take" = some (.ref f)) (hb : Binds K fd ["d", "many"] []) : DefOk P w K mg base "_law_take" 1 ["d", "many"] m__law_take :=
  have C := Fam.ent (P := P) (w := w) (K := K) (mg := mg) (base := base) (N := ["d", "many", "digit", "small"]) (k := 0) (qual := "_law_take") (scope := defScope s__law_take) (f := f) sc__law_take.nd
  def_ok F sc__law_take (show CSs _ K (defBody s__law_take) g__law_take from ssCons (cIfS (CW.t (wAnd (tCmp (fun i => op_eqA (C.k i) (roomU (C.r i))) v_eq (CE.brw (cRd C 0 2 (by decide))) (CE.brw (cInt)) (nomark _)) (wAnd1 (tCmp (fun i => op_ltA (C.k i) (roomU (C.r i))) v_ltA (CE.brw (cRd C 0 1 (by decide))) (CE.brw (cCallB C (fun i => c_len (C.k i)) v_len B.len bt_len (cbCons (CE.brw (cRd C 0 0 (by decide))) (cbNil)))) (nomark _))))) (ssCons (cWr C 0 2 (cCallB C (fun i => call_abs) v_abs B.abs bt_abs (cbCons (CE.brw (cCallT C (fun i => call_int1) v_int B.int bt_int (cbCons (CE.brw (cIx (fun i => ix_both (C.k i)) v_ix (CE.brw (cRd C 0 0 (by decide))) (CE.brw (cRd C 0 1 (by decide))) (fun _ _ => rfl))) (cbNil)))) (cbNil))) (by decide)) (ssCons (cWr C 0 1 (cBin (fun i => op_addAll (C.k i)) v_add (CE.brw (cRd C 0 1 (by decide))) (CE.brw (cInt))) (by decide)) (ssOne (cIfS (tCmp (fun i => op_ltA (C.k i) (roomU (C.r i))) v_ltA (CE.brw (cRd C 0 2 (by decide))) (CE.brw (cBin (fun _ => op_pow) v_pow (CE.brw (cInt)) (CE.brw (cInt)))) (nomark _)) (ssCons (cSet C 3 (cCallT C (fun i => call_int1) v_int B.int bt_int (cbCons (CE.brw (cRd C 0 2 (by decide))) (cbNil)))) (ssCons (cWr C 0 2 (cInt) (by decide)) (ssOne (cRet (cBin (fun _ => op_mod) v_mod (cNm C 3) (cNm C 1)))))) (ssNil))))) (ssNil)) (ssCons (cIfS (tCmp (fun i => op_gtA (C.k i) (roomU (C.r i))) v_gtA (CE.brw (cRd C 0 2 (by decide))) (CE.brw (cInt)) (nomark _)) (ssCons (cSet C 2 (cBin (fun _ => op_mod) v_mod (CE.brw (cCallT C (fun i => call_int1) v_int B.int bt_int (cbCons (CE.brw (cRd C 0 2 (by decide))) (cbNil)))) (cNm C 1))) (ssCons (cWr C 0 2 (cBin (fun _ => op_fdivW) v_div (CE.brw (cCallT C (fun i => call_int1) v_int B.int bt_int (cbCons (CE.brw (cRd C 0 2 (by decide))) (cbNil)))) (cNm C 1)) (by decide)) (ssOne (cRet (cSh C 2))))) (ssNil)) (ssCons (cWr C 0 3 (cBin (fun _ => op_mod) v_mod (CE.brw (cCallT C (fun i => call_int1) v_int B.int bt_int (cbCons (CE.brw (cBin (fun i => op_addAll (C.k i)) v_add (CE.brw (cBin (fun _ => op_mulW) v_mul (CE.brw (cRd C 0 3 (by decide))) (CE.brw (cInt)))) (CE.brw (cInt)))) (cbNil)))) (CE.brw (cInt))) (by decide)) (ssOne (cRet (cBin (fun _ => op_mod) v_mod (CE.brw (cCallT C (fun i => call_int1) v_int B.int bt_int (cbCons (CE.brw (cBin (fun _ => op_fdivW) v_div (CE.brw (cRd C 0 3 (by decide))) (CE.brw (cInt)))) (cbNil)))) (cNm C 1))))))) hm hb 4 2
abbrev s__law_part1 : Stmt := topS 27
theorem sc__law_part1 : FnScope ["d", "votes", "seats", "many", "first", "last", "fair", "k", "lost", "alike", "base", "one", "other", "part", "rest", "joined", "keeps", "number"] ["d", "votes", "seats", "many"] (defScope s__law_part1) := ⟨rfl, rfl, rfl, by decide +kernel, rfl, by decide +kernel, by decide +kernel⟩
def g__law_part1 : SF := sSeq (sSet 4 (xCall m_by_quotients (aC (xSh 1) (aC (xSh 2) (aC (xC (.str "greatest")) (aN)))))) (sSeq (sSet 5 (xCall m_by_quotients (aC (xSh 1) (aC (xSh 2) (aC (xC (.str "least")) (aN)))))) (sSeq (sIf (tV (x2 gtA (xL lenD (aC (xOf (oComp (iRg rng1D (aC (xSh 3) (aN))) (gNm 7) (tOr (tV (x2 ltA (x2 mulD (x2 ixD (xNm 4) (xNm 7)) (xL sumD (aC (xNm 1) (aN)))) (x2 addD (x2 subD (x2 mulD (x2 ixD (xNm 1) (xNm 7)) (xNm 2)) (xL sumD (aC (xNm 1) (aN)))) (xC (.int 1))))) (tV (x2 gtA (x2 divD (x2 mulD (x2 ixD (xNm 1) (xNm 7)) (xNm 2)) (xL sumD (aC (xNm 1) (aN)))) (x2 ixD (xNm 4) (xNm 7))))) (xSh 7) [7])) (aN))) (xC (.int 0)))) (sRet (xC (.bl false))) (sNext)) (sSeq (sIf (tV (x2 gtA (xNm 3) (xC (.int 1)))) (sSeq (sSet 11 (xCall m__law_take (aC (xSh 0) (aC (xSh 3) (aN))))) (sSeq (sSet 12 (xCall m__law_take (aC (xSh 0) (aC (xSh 3) (aN))))) (sIf (tV (x2 neD (xNm 11) (xNm 12))) (sSeq (sSet 14 (xL tupD (aC (xOf (oComp (iRg rng1D (aC (xSh 3) (aN))) (gNm 7) (tV (x2 ninD (xNm 7) (xTup (aC (xSh 11) (aC (xSh 12) (aN)))))) (x2 ixD (xNm 1) (xNm 7)) [7])) (aN)))) (sSeq (sSet 15 (x2 addD (xTup (aC (x2 addD (x2 ixD (xNm 1) (xNm 11)) (x2 ixD (xNm 1) (xNm 12))) (aN))) (xNm 14))) (sSeq (sIf (tOr (tV (x2 ltA (x2 addD (x2 ixD (xCall m_by_quotients (aC (xSh 15) (aC (xSh 2) (aC (xC (.str "greatest")) (aN))))) (xC (.int 0))) (xC (.int 1))) (x2 addD (x2 ixD (xNm 4) (xNm 11)) (x2 ixD (xNm 4) (xNm 12))))) (tV (x2 gtA (x2 ixD (xCall m_by_quotients (aC (xSh 15) (aC (xSh 2) (aC (xC (.str "least")) (aN))))) (xC (.int 0))) (x2 addD (x2 addD (x2 ixD (xNm 5) (xNm 11)) (x2 ixD (xNm 5) (xNm 12))) (xC (.int 1)))))) (sRet (xC (.bl false))) (sNext)) (sSeq (sSet 16 (xCall m_turns (aC (xSh 15) (aC (xSh 2) (aC (xC (.str "greatest")) (aN)))))) (sIf (tV (x2 neD (xL lenD (aC (xOf (oComp (iSq (xNm 16)) (gNm 7) (tV (x2 eqD (xNm 7) (xC (.int 0)))) (xSh 7) [7])) (aN))) (x2 ixD (xCall m_by_quotients (aC (xSh 15) (aC (xSh 2) (aC (xC (.str "greatest")) (aN))))) (xC (.int 0))))) (sRet (xC (.bl false))) (sNext)))))) (sNext)))) (sNext)) (sSeq (sSet 6 (xCall m_by_rests (aC (xSh 1) (aC (xSh 2) (aN))))) (sSeq (sIf (tOr (tV (x2 isNotD (xCall m_out_of_parts (aC (xSh 1) (aC (xSh 6) (aN)))) (xC .non))) (tV (x2 neD (xL sumD (aC (xNm 6) (aN))) (xNm 2)))) (sRet (xC (.bl false))) (sNext)) (sSeq (sFor (iRg rng1D (aC (xSh 3) (aN))) (gNm 7) (sSeq (sSet 13 (x2 mulD (x2 ixD (xNm 1) (xNm 7)) (xNm 2))) (sIf (tV (x2 ninD (x2 ixD (xNm 6) (xNm 7)) (xTup (aC (x2 divD (xNm 13) (xL sumD (aC (xNm 1) (aN)))) (aC (x2 addD (x2 divD (xNm 13) (xL sumD (aC (xNm 1) (aN)))) (xC (.int 1))) (aN)))))) (sRet (xC (.bl false))) (sNext)))) (sSeq (sSet 8 (xCall m_loses_by_more (aC (xSh 1) (aC (xSh 2) (aN))))) (sSeq (sIf (tV (x2 isNotD (xNm 8) (xC .non))) (sSeq (sTo (gTp [gNm 17, gNm 7]) (xSh 8)) (sIf (tV (x2 geA (x2 ixD (xCall m_by_rests (aC (xSh 1) (aC (xSh 17) (aN)))) (xNm 7)) (x2 ixD (xCall m_by_rests (aC (xSh 1) (aC (x2 subD (xNm 17) (xC (.int 1))) (aN)))) (xNm 7)))) (sRet (xC (.bl false))) (sNext))) (sNext)) (sSeq (sSet 9 (x2 repT (xTup (aC (xC (.int 7)) (aN))) (xNm 3))) (sSeq (sSet 10 (xCall m_by_rests (aC (xSh 9) (aC (xSh 2) (aN))))) (sRet (xAnd (x2 leA (x2 subD (xL maxD (aC (xNm 10) (aN))) (xL minD (aC (xNm 10) (aN)))) (xC (.int 1))) (xAnd (x2 eqD (xCall m_by_quotients (aC (xSh 9) (aC (xSh 2) (aC (xC (.str "middle")) (aN))))) (xNm 10)) (x2 eqD (xCall m_by_quotients (aC (xSh 9) (aC (xSh 2) (aC (xC (.str "greatest")) (aN))))) (xNm 10)))))))))))))))
def m__law_part1 : List D → M D := runDef 18 4 g__law_part1
theorem ok__law_part1 (B : Bi mg) (d_by_quotients : DefOk P w K mg base "by_quotients" 4 ["votes", "seats", "kind"] m_by_quotients) (d_by_rests : DefOk P w K mg base "by_rests" 2 ["votes", "seats"] m_by_rests) (d_loses_by_more : DefOk P w K mg base "loses_by_more" 3 ["votes", "most"] m_loses_by_more) (d__law_take : DefOk P w K mg base "_law_take" 1 ["d", "many"] m__law_take) (d_turns : DefOk P w K mg base "turns" 4 ["votes", "seats", "kind"] m_turns) (d_out_of_parts : DefOk P w K mg base "out_of_parts" 3 ["votes", "dealt"] m_out_of_parts) {f : Addr} {fd : FuncData} (F : FnP K "_law_part1" s__law_part1 f fd) (hm : mg "_law_part1" = some (.ref f)) (hb : Binds K fd ["d", "votes", "seats", "many"] []) : DefOk P w K mg base "_law_part1" 5 ["d", "votes", "seats", "many"] m__law_part1 :=
  have C := Fam.ent (P := P) (w := w) (K := K) (mg := mg) (base := base) (N := ["d", "votes", "seats", "many", "first", "last", "fair", "k", "lost", "alike", "base", "one", "other", "part", "rest", "joined", "keeps", "number"]) (k := 4) (qual := "_law_part1") (scope := defScope s__law_part1) (f := f) sc__law_part1.nd
  def_ok F sc__law_part1 (show CSs _ K (defBody s__law_part1) g__law_part1 from ssCons (cSet C 4 (cCall C d_by_quotients (by decide) (caCons (cSh C 1) (caCons (cSh C 2) (caCons (cStr) (caNil)))))) (ssCons (cSet C 5 (cCall C d_by_quotients (by decide) (caCons (cSh C 1) (caCons (cSh C 2) (caCons (cStr) (caNil)))))) (ssCons (cIfS (tCmp (fun i => op_gtA (C.k i) (roomU (C.r i))) v_gtA (CE.brw (cCallB C (fun i => c_len (C.k i)) v_len B.len bt_len (cbCons (CE.brw (CO.frz (oLc C [("k", 7)] (CI.w (iRng1E C B.range (caCons (cSh C 3) (caNil)))) (fun _ => blkOk_by (by rw [ent_sc]; decide +kernel)) (gName' (C.blk _) 7) (ctOne (CW.t (wOr (tCmp (fun i => op_ltA ((C.blk _).k i) (roomU ((C.blk _).r i))) v_ltA (CE.brw (cBin (fun _ => op_mulW) v_mul (CE.brw (cIx (fun i => ix_both ((C.blk _).k i)) v_ix (cNm (C.blk _) 4) (cNm (C.blk _) 7) (fun _ _ => rfl))) (CE.brw (cCallB (C.blk _) (fun i => c_sum ((C.blk _).k i) ((C.blk _).c i)) v_sum B.sum bt_sum (cbCons (cNm (C.blk _) 1) (cbNil)))))) (CE.brw (cBin (fun i => op_addAll ((C.blk _).k i)) v_add (CE.brw (cBin (fun _ => op_sub) v_sub (CE.brw (cBin (fun _ => op_mulW) v_mul (CE.brw (cIx (fun i => ix_both ((C.blk _).k i)) v_ix (cNm (C.blk _) 1) (cNm (C.blk _) 7) (fun _ _ => rfl))) (cNm (C.blk _) 2))) (CE.brw (cCallB (C.blk _) (fun i => c_sum ((C.blk _).k i) ((C.blk _).c i)) v_sum B.sum bt_sum (cbCons (cNm (C.blk _) 1) (cbNil)))))) (CE.brw (cInt)))) (nomark _)) (wOr1 (tCmp (fun i => op_gtA ((C.blk _).k i) (roomU ((C.blk _).r i))) v_gtA (CE.brw (cBin (fun _ => op_fdivW) v_div (CE.brw (cBin (fun _ => op_mulW) v_mul (CE.brw (cIx (fun i => ix_both ((C.blk _).k i)) v_ix (cNm (C.blk _) 1) (cNm (C.blk _) 7) (fun _ _ => rfl))) (cNm (C.blk _) 2))) (CE.brw (cCallB (C.blk _) (fun i => c_sum ((C.blk _).k i) ((C.blk _).c i)) v_sum B.sum bt_sum (cbCons (cNm (C.blk _) 1) (cbNil)))))) (CE.brw (cIx (fun i => ix_both ((C.blk _).k i)) v_ix (cNm (C.blk _) 4) (cNm (C.blk _) 7) (fun _ _ => rfl))) (nomark _)))))) (cSh (C.blk _) 7)))) (cbNil)))) (CE.brw (cInt)) (nomark _)) (ssOne (cRet (cBl))) (ssNil)) (ssCons (cIfS (tCmp (fun i => op_gtA (C.k i) (roomU (C.r i))) v_gtA (cNm C 3) (CE.brw (cInt)) (nomark _)) (ssCons (cSet C 11 (cCall C d__law_take (by decide) (caCons (cSh C 0) (caCons (cSh C 3) (caNil))))) (ssCons (cSet C 12 (cCall C d__law_take (by decide) (caCons (cSh C 0) (caCons (cSh C 3) (caNil))))) (ssOne (cIfS (tCmp (fun i => op_neA (C.k i) (roomU (C.r i))) v_ne (cNm C 11) (cNm C 12) (nomark _)) (ssCons (cSet C 14 (cCallT C (fun i => c_tup (C.k i)) v_tup B.tuple bt_tuple (cbCons (CE.brw (CO.frz (oLc C [("k", 7)] (CI.w (iRng1E C B.range (caCons (cSh C 3) (caNil)))) (fun _ => blkOk_by (by rw [ent_sc]; decide +kernel)) (gName' (C.blk _) 7) (ctOne (tCmp (fun i => op_ninA ((C.blk _).k i) (roomU ((C.blk _).r i))) v_nin (cNm (C.blk _) 7) (CE.brw (cTup (caCons (cSh (C.blk _) 11) (caCons (cSh (C.blk _) 12) (caNil))))) rfl)) (cIx (fun i => ix_both ((C.blk _).k i)) v_ix (cNm (C.blk _) 1) (cNm (C.blk _) 7) (fun _ _ => rfl))))) (cbNil)))) (ssCons (cSet C 15 (cBin (fun i => op_addAll (C.k i)) v_add (CE.brw (cTup (caCons (cBin (fun i => op_addAll (C.k i)) v_add (CE.brw (cIx (fun i => ix_both (C.k i)) v_ix (cNm C 1) (cNm C 11) (fun _ _ => rfl))) (CE.brw (cIx (fun i => ix_both (C.k i)) v_ix (cNm C 1) (cNm C 12) (fun _ _ => rfl)))) (caNil)))) (cNm C 14))) (ssCons (cIfS (CW.t (wOr (tCmp (fun i => op_ltA (C.k i) (roomU (C.r i))) v_ltA (CE.brw (cBin (fun i => op_addAll (C.k i)) v_add (CE.brw (cIx (fun i => ix_both (C.k i)) v_ix (CE.brw (cCall C d_by_quotients (by decide) (caCons (cSh C 15) (caCons (cSh C 2) (caCons (cStr) (caNil)))))) (CE.brw (cInt)) (fun _ _ => rfl))) (CE.brw (cInt)))) (CE.brw (cBin (fun i => op_addAll (C.k i)) v_add (CE.brw (cIx (fun i => ix_both (C.k i)) v_ix (cNm C 4) (cNm C 11) (fun _ _ => rfl))) (CE.brw (cIx (fun i => ix_both (C.k i)) v_ix (cNm C 4) (cNm C 12) (fun _ _ => rfl))))) (nomark _)) (wOr1 (tCmp (fun i => op_gtA (C.k i) (roomU (C.r i))) v_gtA (CE.brw (cIx (fun i => ix_both (C.k i)) v_ix (CE.brw (cCall C d_by_quotients (by decide) (caCons (cSh C 15) (caCons (cSh C 2) (caCons (cStr) (caNil)))))) (CE.brw (cInt)) (fun _ _ => rfl))) (CE.brw (cBin (fun i => op_addAll (C.k i)) v_add (CE.brw (cBin (fun i => op_addAll (C.k i)) v_add (CE.brw (cIx (fun i => ix_both (C.k i)) v_ix (cNm C 5) (cNm C 11) (fun _ _ => rfl))) (CE.brw (cIx (fun i => ix_both (C.k i)) v_ix (cNm C 5) (cNm C 12) (fun _ _ => rfl))))) (CE.brw (cInt)))) (nomark _))))) (ssOne (cRet (cBl))) (ssNil)) (ssCons (cSet C 16 (cCall C d_turns (by decide) (caCons (cSh C 15) (caCons (cSh C 2) (caCons (cStr) (caNil)))))) (ssOne (cIfS (tCmp (fun i => op_neA (C.k i) (roomU (C.r i))) v_ne (CE.brw (cCallB C (fun i => c_len (C.k i)) v_len B.len bt_len (cbCons (CE.brw (CO.frz (oLc C [("k", 7)] (iSeqB C (cNm C 16)) (fun _ => blkOk_by (by rw [ent_sc]; decide +kernel)) (gName' (C.blk _) 7) (ctOne (tCmp (fun i => op_eqA ((C.blk _).k i) (roomU ((C.blk _).r i))) v_eq (cNm (C.blk _) 7) (CE.brw (cInt)) (nomark _))) (cSh (C.blk _) 7)))) (cbNil)))) (CE.brw (cIx (fun i => ix_both (C.k i)) v_ix (CE.brw (cCall C d_by_quotients (by decide) (caCons (cSh C 15) (caCons (cSh C 2) (caCons (cStr) (caNil)))))) (CE.brw (cInt)) (fun _ _ => rfl))) (nomark _)) (ssOne (cRet (cBl))) (ssNil))))))) (ssNil))))) (ssNil)) (ssCons (cSet C 6 (cCall C d_by_rests (by decide) (caCons (cSh C 1) (caCons (cSh C 2) (caNil))))) (ssCons (cIfS (CW.t (wOr (tCmp (fun _ => op_notN) v_isNot (CE.brw (cCall C d_out_of_parts (by decide) (caCons (cSh C 1) (caCons (cSh C 6) (caNil))))) (CE.brw (cNon)) (nomark _)) (wOr1 (tCmp (fun i => op_neA (C.k i) (roomU (C.r i))) v_ne (CE.brw (cCallB C (fun i => c_sum (C.k i) (C.c i)) v_sum B.sum bt_sum (cbCons (cNm C 6) (cbNil)))) (cNm C 2) (nomark _))))) (ssOne (cRet (cBl))) (ssNil)) (ssCons (cFor C (fun _ => PassesOwn.never) (iRng1E C B.range (caCons (cSh C 3) (caNil))) (gName' C 7) (ssCons (cSet C 13 (cBin (fun _ => op_mulW) v_mul (CE.brw (cIx (fun i => ix_both (C.k i)) v_ix (cNm C 1) (cNm C 7) (fun _ _ => rfl))) (cNm C 2))) (ssOne (cIfS (tCmp (fun i => op_ninA (C.k i) (roomU (C.r i))) v_nin (CE.brw (cIx (fun i => ix_both (C.k i)) v_ix (cNm C 6) (cNm C 7) (fun _ _ => rfl))) (CE.brw (cTup (caCons (cBin (fun _ => op_fdivW) v_div (cNm C 13) (CE.brw (cCallB C (fun i => c_sum (C.k i) (C.c i)) v_sum B.sum bt_sum (cbCons (cNm C 1) (cbNil))))) (caCons (cBin (fun i => op_addAll (C.k i)) v_add (CE.brw (cBin (fun _ => op_fdivW) v_div (cNm C 13) (CE.brw (cCallB C (fun i => c_sum (C.k i) (C.c i)) v_sum B.sum bt_sum (cbCons (cNm C 1) (cbNil)))))) (CE.brw (cInt))) (caNil))))) rfl) (ssOne (cRet (cBl))) (ssNil))))) (ssCons (cSet C 8 (cCall C d_loses_by_more (by decide) (caCons (cSh C 1) (caCons (cSh C 2) (caNil))))) (ssCons (cIfS (tCmp (fun _ => op_notN) v_isNot (cNm C 8) (CE.brw (cNon)) (nomark _)) (ssCons (cTo (cSh C 8) (gTup' C (gsCons (gName' C 17) (gsCons (gName' C 7) (gsNil))))) (ssOne (cIfS (tCmp (fun i => op_geA (C.k i) (roomU (C.r i))) v_geA (CE.brw (cIx (fun i => ix_both (C.k i)) v_ix (CE.brw (cCall C d_by_rests (by decide) (caCons (cSh C 1) (caCons (cSh C 17) (caNil))))) (cNm C 7) (fun _ _ => rfl))) (CE.brw (cIx (fun i => ix_both (C.k i)) v_ix (CE.brw (cCall C d_by_rests (by decide) (caCons (cSh C 1) (caCons (cBin (fun _ => op_sub) v_sub (cNm C 17) (CE.brw (cInt))) (caNil))))) (cNm C 7) (fun _ _ => rfl))) (nomark _)) (ssOne (cRet (cBl))) (ssNil)))) (ssNil)) (ssCons (cSet C 9 (cBin (fun i => op_repTA (C.k i)) v_repT (CE.brw (cTup (caCons (cInt) (caNil)))) (cNm C 3))) (ssCons (cSet C 10 (cCall C d_by_rests (by decide) (caCons (cSh C 9) (caCons (cSh C 2) (caNil))))) (ssOne (cRet (cAnd (cCmp (fun i => op_leA (C.k i) (roomU (C.r i))) v_leA (CE.brw (cBin (fun _ => op_sub) v_sub (CE.brw (cCallB C (fun i => c_max (C.k i) (C.c i) (roomU (C.r i))) v_max B.max bt_max (cbCons (cNm C 10) (cbNil)))) (CE.brw (cCallB C (fun i => c_min (C.k i) (C.c i) (roomU (C.r i))) v_min B.min bt_min (cbCons (cNm C 10) (cbNil)))))) (CE.brw (cInt)) (nomark _)) (cAnd (cCmp (fun i => op_eqA (C.k i) (roomU (C.r i))) v_eq (CE.brw (cCall C d_by_quotients (by decide) (caCons (cSh C 9) (caCons (cSh C 2) (caCons (cStr) (caNil)))))) (cNm C 10) (nomark _)) (cOne (cCmp (fun i => op_eqA (C.k i) (roomU (C.r i))) v_eq (CE.brw (cCall C d_by_quotients (by decide) (caCons (cSh C 9) (caCons (cSh C 2) (caCons (cStr) (caNil)))))) (cNm C 10) (nomark _)))))))))))))))))) hm hb 18 4
abbrev s_law : Stmt := topS 28
theorem sc_law : FnScope ("script" :: "d" :: "votes" :: "seats" :: "many" :: "kind" :: "dealt" :: "row" :: "at" :: "grown" :: "more" :: "factor" :: "k" :: "after" :: "j" :: "told" :: "low" :: "high" :: "one" :: []) ["script"] (defScope s_law) := ⟨rfl, rfl, rfl, by decide +kernel, rfl, by decide +kernel, by decide +kernel⟩
def g_law : SF := sSeq (sSet 2 (xOf (oComp (iRg rng1D (aC (x2 addD (xC (.int 1)) (xCall m__law_take (aC (xSh 1) (aC (xC (.int 5)) (aN))))) (aN))) (gNm 12) (tYes') (x2 addD (xC (.int 1)) (xCall m__law_take (aC (xSh 1) (aC (xC (.int 40)) (aN))))) [12]))) (sSeq (sSet 2 (xL tupD (aC (xNm 2) (aN)))) (sSeq (sSet 3 (xCall m__law_take (aC (xSh 1) (aC (xC (.int 13)) (aN))))) (sSeq (sSet 4 (xL lenD (aC (xNm 2) (aN)))) (sSeq (sFor (iSq (xTup (aC (xC (.str "greatest")) (aC (xC (.str "middle")) (aC (xC (.str "least")) (aN)))))) (gNm 5) (sSeq (sSet 6 (xCall m_by_quotients (aC (xSh 2) (aC (xSh 3) (aC (xSh 5) (aN)))))) (sSeq (sSet 7 (xCall m_turns (aC (xSh 2) (aC (xSh 3) (aC (xSh 5) (aN)))))) (sSeq (sIf (tOr (tV (x2 neD (xL sumD (aC (xNm 6) (aN))) (xNm 3))) (tV (x2 neD (xOf (oComp (iRg rng1D (aC (xSh 4) (aN))) (gNm 18) (tYes') (xL lenD (aC (xOf (oComp (iSq (xNm 7)) (gNm 12) (tV (x2 eqD (xNm 12) (xNm 18))) (xSh 12) [12])) (aN))) [18])) (xOf (oL listO (aC (xNm 6) (aN))))))) (sRet (xC (.bl false))) (sNext)) (sSeq (sIf (tV (x2 ltA (xNm 3) (xC (.int 12)))) (sSeq (sSet 13 (xCall m_by_quotients (aC (xSh 2) (aC (x2 addD (xNm 3) (xC (.int 1))) (aC (xSh 5) (aN)))))) (sIf (tOr (tV (x2 neD (xOf (oL sortO (aC (xOf (oComp (iRg rng1D (aC (xSh 4) (aN))) (gNm 12) (tYes') (x2 subD (x2 ixD (xNm 13) (xNm 12)) (x2 ixD (xNm 6) (xNm 12))) [12])) (aN)))) (xOf (o2 catO (xOf (o2 repO (xOf (oLst (aC (xC (.int 0)) (aN)))) (x2 subD (xNm 4) (xC (.int 1))))) (xOf (oLst (aC (xC (.int 1)) (aN)))))))) (tV (x2 neD (xSl slD (xCall m_turns (aC (xSh 2) (aC (x2 addD (xNm 3) (xC (.int 1))) (aC (xSh 5) (aN))))) none (some (xSh 3))) (xNm 7)))) (sRet (xC (.bl false))) (sNext))) (sNext)) (sSeq (sSet 8 (xCall m__law_take (aC (xSh 1) (aC (xSh 4) (aN))))) (sSeq (sSet 9 (x2 addD (x2 addD (xSl slD (xNm 2) none (some (xSh 8))) (xTup (aC (x2 addD (x2 addD (x2 ixD (xNm 2) (xNm 8)) (xC (.int 1))) (xCall m__law_take (aC (xSh 1) (aC (xC (.int 20)) (aN))))) (aN)))) (xSl slD (xNm 2) (some (x2 addD (xNm 8) (xC (.int 1)))) none))) (sSeq (sSet 10 (xCall m_by_quotients (aC (xSh 9) (aC (xSh 3) (aC (xSh 5) (aN)))))) (sSeq (sIf (tOr (tV (x2 ltA (x2 ixD (xNm 10) (xNm 8)) (x2 ixD (xNm 6) (xNm 8)))) (tV (x2 gtA (xL lenD (aC (xOf (oComp (iRg rng1D (aC (xSh 4) (aN))) (gNm 12) (tAnd (tV (x2 neD (xNm 12) (xNm 8))) (tV (x2 gtA (x2 ixD (xNm 10) (xNm 12)) (x2 ixD (xNm 6) (xNm 12))))) (xSh 12) [12])) (aN))) (xC (.int 0))))) (sRet (xC (.bl false))) (sNext)) (sSeq (sSet 11 (x2 addD (xC (.int 2)) (xCall m__law_take (aC (xSh 1) (aC (xC (.int 4)) (aN)))))) (sSeq (sIf (tV (x2 neD (xCall m_by_quotients (aC (xL tupD (aC (xOf (oComp (iSq (xNm 2)) (gNm 18) (tYes') (x2 mulD (xNm 11) (xNm 18)) [18])) (aN))) (aC (xSh 3) (aC (xSh 5) (aN))))) (xNm 6))) (sRet (xC (.bl false))) (sNext)) (sSeq (sIf (tV (x2 isNotD (xCall m_unfair_pair (aC (xSh 2) (aC (xSh 6) (aC (xSh 5) (aN))))) (xC .non))) (sRet (xC (.bl false))) (sNext)) (sSeq (sFor (iRg rng1D (aC (xSh 4) (aN))) (gNm 12) (sFor (iRg rng1D (aC (xSh 4) (aN))) (gNm 14) (sIf (tAnd (tV (x2 gtA (x2 ixD (xNm 2) (xNm 12)) (x2 ixD (xNm 2) (xNm 14)))) (tV (x2 ltA (x2 ixD (xNm 6) (xNm 12)) (x2 ixD (xNm 6) (xNm 14))))) (sRet (xC (.bl false))) (sNext)))) (sIf (tOr (tV (x2 eqD (xNm 5) (xC (.str "greatest")))) (tV (x2 geA (xNm 3) (xNm 4)))) (sSeq (sSet 15 (xCall m_price_of (aC (xSh 2) (aC (xSh 6) (aC (xSh 5) (aN)))))) (sSeq (sIf (tV (x2 isD (xNm 15) (xC .non))) (sRet (xC (.bl false))) (sNext)) (sSeq (sTo (gTp [gNm 16, gNm 17]) (xSh 15)) (sIf (tAnd (tV (x2 isNotD (xNm 17) (xC .non))) (tV (x2 gtA (x2 mulD (x2 ixD (xNm 16) (xC (.int 0))) (x2 ixD (xNm 17) (xC (.int 1)))) (x2 mulD (x2 ixD (xNm 17) (xC (.int 0))) (x2 ixD (xNm 16) (xC (.int 1))))))) (sRet (xC (.bl false))) (sNext))))) (sNext))))))))))))))) (sRet (xCall m__law_part1 (aC (xSh 1) (aC (xSh 2) (aC (xSh 3) (aC (xSh 4) (aN)))))))))))
theorem ok_law (B : Bi mg) (d__law_take : DefOk P w K mg base "_law_take" 1 ["d", "many"] m__law_take) (d__law_part1 : DefOk P w K mg base "_law_part1" 5 ["d", "votes", "seats", "many"] m__law_part1) (d_by_quotients : DefOk P w K mg base "by_quotients" 4 ["votes", "seats", "kind"] m_by_quotients) (d_turns : DefOk P w K mg base "turns" 4 ["votes", "seats", "kind"] m_turns) (d_unfair_pair : DefOk P w K mg base "unfair_pair" 3 ["votes", "dealt", "kind"] m_unfair_pair) (d_price_of : DefOk P w K mg base "price_of" 3 ["votes", "dealt", "kind"] m_price_of) {f fB : Addr} {fd fdB : FuncData} (F : FnP K "law" s_law f fd) (FB : FnOk P w K mg base CX0 1 fB fdB ["script"] (spBegin K)) (bB : Binds K fdB ["script"] []) (gB : mg "_law_begin" = some (.ref fB)) (kpB : PySem.W.keepIn K (.ref fB) = true) : FnOk P w K mg base CX0 6 f fd ["script"] (spLaw K 19 g_law) :=
  have C := Fam.ent (P := P) (w := w) (K := K) (mg := mg) (base := base) (N := ("script" :: "d" :: "votes" :: "seats" :: "many" :: "kind" :: "dealt" :: "row" :: "at" :: "grown" :: "more" :: "factor" :: "k" :: "after" :: "j" :: "told" :: "low" :: "high" :: "one" :: [])) (k := 5) (qual := "law") (scope := defScope s_law) (f := f) sc_law.nd
  law_ok F sc_law FB (by decide) bB gB kpB rfl (show CSs _ K ((defBody s_law).drop 1) g_law from ssCons (cSetLc C 2 [("k", 12)] (CI.w (iRng1E C B.range (caCons (cBin (fun i => op_addAll (C.k i)) v_add (CE.brw (cInt)) (CE.brw (cCall C d__law_take (by decide) (caCons (cSh C 1) (caCons (cInt) (caNil)))))) (caNil)))) (fun _ => blkOk_by (by rw [ent_sc]; decide +kernel)) (gName' (C.blk _) 12) (ctNone) (cBin (fun i => op_addAll ((C.blk _).k i)) v_add (CE.brw (cInt)) (CE.brw (cCall (C.blk _) d__law_take (by decide) (caCons (cSh (C.blk _) 1) (caCons (cInt) (caNil))))))) (ssCons (cSet C 2 (cCallT C (fun i => c_tup (C.k i)) v_tup B.tuple bt_tuple (cbCons (cNm C 2) (cbNil)))) (ssCons (cSet C 3 (cCall C d__law_take (by decide) (caCons (cSh C 1) (caCons (cInt) (caNil))))) (ssCons (cSet C 4 (cCallB C (fun i => c_len (C.k i)) v_len B.len bt_len (cbCons (cNm C 2) (cbNil)))) (ssCons (cFor C (fun _ => PassesOwn.never) (iSeqE C (cTup (caCons (cStr) (caCons (cStr) (caCons (cStr) (caNil)))))) (gName' C 5) (ssCons (cSet C 6 (cCall C d_by_quotients (by decide) (caCons (cSh C 2) (caCons (cSh C 3) (caCons (cSh C 5) (caNil)))))) (ssCons (cSet C 7 (cCall C d_turns (by decide) (caCons (cSh C 2) (caCons (cSh C 3) (caCons (cSh C 5) (caNil)))))) (ssCons (cIfS (CW.t (wOr (tCmp (fun i => op_neA (C.k i) (roomU (C.r i))) v_ne (CE.brw (cCallB C (fun i => c_sum (C.k i) (C.c i)) v_sum B.sum bt_sum (cbCons (cNm C 6) (cbNil)))) (cNm C 3) (nomark _)) (wOr1 (tCmp (fun i => op_neA (C.k i) (roomU (C.r i))) v_ne (CE.brw (CO.frz (oLc C [("one", 18)] (CI.w (iRng1E C B.range (caCons (cSh C 4) (caNil)))) (fun _ => blkOk_by (by rw [ent_sc]; decide +kernel)) (gName' (C.blk _) 18) (ctNone) (cCallB (C.blk _) (fun i => c_len ((C.blk _).k i)) v_len B.len bt_len (cbCons (CE.brw (CO.frz (oLc (C.blk _) [("k", 12)] (iSeqB (C.blk _) (cNm (C.blk _) 7)) (fun _ => blkOk_by (by rw [blk_sc, ent_sc]; decide +kernel)) (gName' ((C.blk _).blk _) 12) (ctOne (tCmp (fun i => op_eqA (((C.blk _).blk _).k i) (roomU (((C.blk _).blk _).r i))) v_eq (cNm ((C.blk _).blk _) 12) (cNm ((C.blk _).blk _) 18) (nomark _))) (cSh ((C.blk _).blk _) 12)))) (cbNil)))))) (CE.brw (CO.frz (oCallT C (fun i => c_list (C.k i)) v_list B.list bt_list (cbCons (cNm C 6) (cbNil))))) (nomark _))))) (ssOne (cRet (cBl))) (ssNil)) (ssCons (cIfS (tCmp (fun i => op_ltA (C.k i) (roomU (C.r i))) v_ltA (cNm C 3) (CE.brw (cInt)) (nomark _)) (ssCons (cSet C 13 (cCall C d_by_quotients (by decide) (caCons (cSh C 2) (caCons (cBin (fun i => op_addAll (C.k i)) v_add (cNm C 3) (CE.brw (cInt))) (caCons (cSh C 5) (caNil)))))) (ssOne (cIfS (CW.t (wOr (tCmp (fun i => op_neA (C.k i) (roomU (C.r i))) v_ne (CE.brw (CO.frz (oCallB C (fun i => c_sorted (C.k i) (roomU (C.r i))) v_sorted B.sorted bt_sorted (cbCons (CE.brw (CO.frz (oLc C [("k", 12)] (CI.w (iRng1E C B.range (caCons (cSh C 4) (caNil)))) (fun _ => blkOk_by (by rw [ent_sc]; decide +kernel)) (gName' (C.blk _) 12) (ctNone) (cBin (fun _ => op_sub) v_sub (CE.brw (cIx (fun i => ix_both ((C.blk _).k i)) v_ix (cNm (C.blk _) 13) (cNm (C.blk _) 12) (fun _ _ => rfl))) (CE.brw (cIx (fun i => ix_both ((C.blk _).k i)) v_ix (cNm (C.blk _) 6) (cNm (C.blk _) 12) (fun _ _ => rfl))))))) (cbNil))))) (CE.brw (CO.frz (oBin (fun _ => op_cat) v_catO (CE.brw (CO.frz (oBin (fun _ => op_rep) v_repO (CE.brw (CO.frz (oList (caCons (cInt) (caNil))))) (CE.brw (cBin (fun _ => op_sub) v_sub (cNm C 4) (CE.brw (cInt))))))) (CE.brw (CO.frz (oList (caCons (cInt) (caNil)))))))) (nomark _)) (wOr1 (tCmp (fun i => op_neA (C.k i) (roomU (C.r i))) v_ne (CE.brw (cSlice (fun i => sl_all (C.k i)) v_sl (CE.brw (cCall C d_turns (by decide) (caCons (cSh C 2) (caCons (cBin (fun i => op_addAll (C.k i)) v_add (cNm C 3) (CE.brw (cInt))) (caCons (cSh C 5) (caNil)))))) cpNone (cpSome (cSh C 3)))) (cNm C 7) (nomark _))))) (ssOne (cRet (cBl))) (ssNil)))) (ssNil)) (ssCons (cSet C 8 (cCall C d__law_take (by decide) (caCons (cSh C 1) (caCons (cSh C 4) (caNil))))) (ssCons (cSet C 9 (cBin (fun i => op_addAll (C.k i)) v_add (CE.brw (cBin (fun i => op_addAll (C.k i)) v_add (CE.brw (cSlice (fun i => sl_all (C.k i)) v_sl (cNm C 2) cpNone (cpSome (cSh C 8)))) (CE.brw (cTup (caCons (cBin (fun i => op_addAll (C.k i)) v_add (CE.brw (cBin (fun i => op_addAll (C.k i)) v_add (CE.brw (cIx (fun i => ix_both (C.k i)) v_ix (cNm C 2) (cNm C 8) (fun _ _ => rfl))) (CE.brw (cInt)))) (CE.brw (cCall C d__law_take (by decide) (caCons (cSh C 1) (caCons (cInt) (caNil)))))) (caNil)))))) (CE.brw (cSlice (fun i => sl_all (C.k i)) v_sl (cNm C 2) (cpSome (cBin (fun i => op_addAll (C.k i)) v_add (cNm C 8) (CE.brw (cInt)))) cpNone)))) (ssCons (cSet C 10 (cCall C d_by_quotients (by decide) (caCons (cSh C 9) (caCons (cSh C 3) (caCons (cSh C 5) (caNil)))))) (ssCons (cIfS (CW.t (wOr (tCmp (fun i => op_ltA (C.k i) (roomU (C.r i))) v_ltA (CE.brw (cIx (fun i => ix_both (C.k i)) v_ix (cNm C 10) (cNm C 8) (fun _ _ => rfl))) (CE.brw (cIx (fun i => ix_both (C.k i)) v_ix (cNm C 6) (cNm C 8) (fun _ _ => rfl))) (nomark _)) (wOr1 (tCmp (fun i => op_gtA (C.k i) (roomU (C.r i))) v_gtA (CE.brw (cCallB C (fun i => c_len (C.k i)) v_len B.len bt_len (cbCons (CE.brw (CO.frz (oLc C [("k", 12)] (CI.w (iRng1E C B.range (caCons (cSh C 4) (caNil)))) (fun _ => blkOk_by (by rw [ent_sc]; decide +kernel)) (gName' (C.blk _) 12) (ctOne (CW.t (wAnd (tCmp (fun i => op_neA ((C.blk _).k i) (roomU ((C.blk _).r i))) v_ne (cNm (C.blk _) 12) (cNm (C.blk _) 8) (nomark _)) (wAnd1 (tCmp (fun i => op_gtA ((C.blk _).k i) (roomU ((C.blk _).r i))) v_gtA (CE.brw (cIx (fun i => ix_both ((C.blk _).k i)) v_ix (cNm (C.blk _) 10) (cNm (C.blk _) 12) (fun _ _ => rfl))) (CE.brw (cIx (fun i => ix_both ((C.blk _).k i)) v_ix (cNm (C.blk _) 6) (cNm (C.blk _) 12) (fun _ _ => rfl))) (nomark _)))))) (cSh (C.blk _) 12)))) (cbNil)))) (CE.brw (cInt)) (nomark _))))) (ssOne (cRet (cBl))) (ssNil)) (ssCons (cSet C 11 (cBin (fun i => op_addAll (C.k i)) v_add (CE.brw (cInt)) (CE.brw (cCall C d__law_take (by decide) (caCons (cSh C 1) (caCons (cInt) (caNil))))))) (ssCons (cIfS (tCmp (fun i => op_neA (C.k i) (roomU (C.r i))) v_ne (CE.brw (cCall C d_by_quotients (by decide) (caCons (cCallT C (fun i => c_tup (C.k i)) v_tup B.tuple bt_tuple (cbCons (CE.brw (CO.frz (oLc C [("one", 18)] (iSeqB C (cNm C 2)) (fun _ => blkOk_by (by rw [ent_sc]; decide +kernel)) (gName' (C.blk _) 18) (ctNone) (cBin (fun _ => op_mulW) v_mul (cNm (C.blk _) 11) (cNm (C.blk _) 18))))) (cbNil))) (caCons (cSh C 3) (caCons (cSh C 5) (caNil)))))) (cNm C 6) (nomark _)) (ssOne (cRet (cBl))) (ssNil)) (ssCons (cIfS (tCmp (fun _ => op_notN) v_isNot (CE.brw (cCall C d_unfair_pair (by decide) (caCons (cSh C 2) (caCons (cSh C 6) (caCons (cSh C 5) (caNil)))))) (CE.brw (cNon)) (nomark _)) (ssOne (cRet (cBl))) (ssNil)) (ssCons (cFor C (fun _ => PassesOwn.never) (iRng1E C B.range (caCons (cSh C 4) (caNil))) (gName' C 12) (ssOne (cFor C (fun _ => PassesOwn.never) (iRng1E C B.range (caCons (cSh C 4) (caNil))) (gName' C 14) (ssOne (cIfS (CW.t (wAnd (tCmp (fun i => op_gtA (C.k i) (roomU (C.r i))) v_gtA (CE.brw (cIx (fun i => ix_both (C.k i)) v_ix (cNm C 2) (cNm C 12) (fun _ _ => rfl))) (CE.brw (cIx (fun i => ix_both (C.k i)) v_ix (cNm C 2) (cNm C 14) (fun _ _ => rfl))) (nomark _)) (wAnd1 (tCmp (fun i => op_ltA (C.k i) (roomU (C.r i))) v_ltA (CE.brw (cIx (fun i => ix_both (C.k i)) v_ix (cNm C 6) (cNm C 12) (fun _ _ => rfl))) (CE.brw (cIx (fun i => ix_both (C.k i)) v_ix (cNm C 6) (cNm C 14) (fun _ _ => rfl))) (nomark _))))) (ssOne (cRet (cBl))) (ssNil)))))) (ssOne (cIfS (CW.t (wOr (tCmp (fun i => op_eqA (C.k i) (roomU (C.r i))) v_eq (cNm C 5) (CE.brw (cStr)) (nomark _)) (wOr1 (tCmp (fun i => op_geA (C.k i) (roomU (C.r i))) v_geA (cNm C 3) (cNm C 4) (nomark _))))) (ssCons (cSet C 15 (cCall C d_price_of (by decide) (caCons (cSh C 2) (caCons (cSh C 6) (caCons (cSh C 5) (caNil)))))) (ssCons (cIfS (tCmp (fun _ => op_isN) v_is (cNm C 15) (CE.brw (cNon)) (nomark _)) (ssOne (cRet (cBl))) (ssNil)) (ssCons (cTo (cSh C 15) (gTup' C (gsCons (gName' C 16) (gsCons (gName' C 17) (gsNil))))) (ssOne (cIfS (CW.t (wAnd (tCmp (fun _ => op_notN) v_isNot (cNm C 17) (CE.brw (cNon)) (nomark _)) (wAnd1 (tCmp (fun i => op_gtA (C.k i) (roomU (C.r i))) v_gtA (CE.brw (cBin (fun _ => op_mulW) v_mul (CE.brw (cIx (fun i => ix_both (C.k i)) v_ix (cNm C 16) (CE.brw (cInt)) (fun _ _ => rfl))) (CE.brw (cIx (fun i => ix_both (C.k i)) v_ix (cNm C 17) (CE.brw (cInt)) (fun _ _ => rfl))))) (CE.brw (cBin (fun _ => op_mulW) v_mul (CE.brw (cIx (fun i => ix_both (C.k i)) v_ix (cNm C 17) (CE.brw (cInt)) (fun _ _ => rfl))) (CE.brw (cIx (fun i => ix_both (C.k i)) v_ix (cNm C 16) (CE.brw (cInt)) (fun _ _ => rfl))))) (nomark _))))) (ssOne (cRet (cBl))) (ssNil)))))) (ssNil)))))))))))))))) (ssOne (cRet (cCall C d__law_part1 (by decide) (caCons (cSh C 1) (caCons (cSh C 2) (caCons (cSh C 3) (caCons (cSh C 4) (caNil))))))))))))) rfl rfl 19
end
end Lw
set_option maxHeartbeats 1000000
namespace Lw
open PySem PySem.Spec PyProof.Rows L2 Pu
theorem take_eq : m__law_take = mTake := rfl
def fr (n d : Nat) : Nat × Nat := (n / Nat.gcd n d, d / Nat.gcd n d)
theorem fraction_eq {n d : Nat} (h : 0 < d) (h2 : d < 2 ^ 64) (s : DS) : m_fraction [.int (n : Nat), .int (d : Nat)] s = some (EnQ.e (fr n d), s) := by
  refine def_eq (fun s => ?_) s
  refine wp_def rfl ?_
  have hg : 0 < Nat.gcd n d := Nat.gcd_pos_of_pos_right _ h
  have hl : Nat.gcd n d ≤ d := Nat.gcd_le_right _ h
  have hb : Nat.gcd n d < 2 ^ 64 := by omega
  have hd : ∀ x : Int, divD (.int x) (.int ((Nat.gcd n d : Nat) : Int)) = some (.int (x / (Nat.gcd n d : Nat))) := fun x => divD_sm x 64 (by omega) (by simpa using hb)
  have h0 : ¬ (d = 0) := by omega
  have h1 : ¬ ((d : Int) < 0) := by omega
  simp [g_fraction, List.replicate, h0, h1, hd, SZ_eq, e_P, e_N, fr]
theorem fr1 (n : Nat) : fr n 1 = (n, 1) := by simp [fr]
theorem fr2 (a : Nat) : fr (2 * a + 1) 2 = (2 * a + 1, 2) := by
  have : Nat.gcd (2 * a + 1) 2 = 1 := by rw [Nat.gcd_comm, Nat.gcd_rec]; simp [Nat.add_mod]
  simp [fr, this]
inductive Kd | g | m | l deriving DecidableEq
def Kd.str : Kd → D
  | .g => .str "greatest"
  | .m => .str "middle"
  | .l => .str "least"
def dv : Kd → Nat → Nat × Nat
  | .g, a => (a + 1, 1)
  | .m, a => (2 * a + 1, 2)
  | .l, a => (a, 1)
theorem divisor_eq (k : Kd) {a : Nat} (h : a < 2 ^ 32) (s : DS) : m_divisor [k.str, .int (a : Nat)] s = some (EnQ.e (dv k a), s) := by
  refine def_eq (fun s => ?_) s
  refine wp_def rfl ?_
  have e1 : ∀ s, m_fraction [.int ((a : Int) + 1), .int 1] s = some (EnQ.e (fr (a + 1) 1), s) := fun s => fraction_eq (n := a + 1) (d := 1) (by omega) (by omega) s
  have e2 : ∀ s, m_fraction [.int (2 * (a : Int) + 1), .int 2] s = some (EnQ.e (fr (2 * a + 1) 2), s) := fun s => fraction_eq (n := 2 * a + 1) (d := 2) (by omega) (by omega) s
  have e3 : ∀ s, m_fraction [.int (a : Int), .int 1] s = some (EnQ.e (fr a 1), s) := fun s => fraction_eq (n := a) (d := 1) (by omega) (by omega) s
  have hm : mulD (.int 2) (.int (a : Int)) = some (.int (2 * (a : Int))) := mulD_sm 64 (by decide) (by simp; omega)
  rw [fr1] at e1 e3
  rw [fr2] at e2
  cases k with
  | g => 
    have q1 : eqD (.str "greatest") (.str "greatest") = some (.bl true) := by kernel_rfl
    simp [g_divisor, List.replicate, Kd.str, q1, wp_eq e1, dv]
  | m =>
    have q1 : eqD (.str "middle") (.str "greatest") = some (.bl false) := by kernel_rfl
    have q2 : eqD (.str "middle") (.str "middle") = some (.bl true) := by kernel_rfl
    simp [g_divisor, List.replicate, Kd.str, q1, q2, hm, wp_eq e2, dv]
  | l =>
    have q1 : eqD (.str "least") (.str "greatest") = some (.bl false) := by kernel_rfl
    have q2 : eqD (.str "least") (.str "middle") = some (.bl false) := by kernel_rfl
    have q3 : eqD (.str "least") (.str "least") = some (.bl true) := by kernel_rfl
    simp [g_divisor, List.replicate, Kd.str, q1, q2, q3, wp_eq e3, dv]
def qn (v : Nat) (d : Nat × Nat) : Nat × (Nat × Nat) := if d = (0, 1) then ((if 0 < v then 1 else 0), fr v 1) else (0, fr (v * d.2) d.1)
theorem quotient_eq {v : Nat} {d : Nat × Nat} (hv : v < 2 ^ 32) (h : d = (0, 1) ∨ (0 < d.1 ∧ d.1 < 2 ^ 64 ∧ d.2 < 2 ^ 32)) (s : DS) : m_quotient [.int (v : Nat), EnQ.e d] s = some (EnQ.e (qn v d), s) := by
  refine def_eq (fun s => ?_) s
  refine wp_def rfl ?_
  have e1 : ∀ s, m_fraction [.int (v : Int), .int 1] s = some (EnQ.e (fr v 1), s) := fun s => fraction_eq (n := v) (d := 1) (by omega) (by omega) s
  have q : eqD (EnQ.e d) (.tup [.int 0, .int 1]) = some (.bl (decide (d = (0, 1)))) := eq_en (α := Nat × Nat) (by decide) d (0, 1)
  by_cases hd : d = (0, 1)
  · subst hd
    have q' : eqD (.tup [.int 0, .int 1]) (.tup [.int 0, .int 1]) = some (.bl true) := q.trans (by simp)
    simp [g_quotient, List.replicate, SZ_eq, wp_eq e1, qn, e_P, e_N, q']
    split <;> simp_all
  · obtain ⟨h1, h2, h3⟩ := h.resolve_left hd
    have e2 : ∀ s, m_fraction [.int ((v : Int) * (d.2 : Int)), .int (d.1 : Int)] s = some (EnQ.e (fr (v * d.2) d.1), s) := fun s => by have := fraction_eq (n := v * d.2) (d := d.1) h1 h2 s; simpa using this
    have hm : mulD (.int (v : Int)) (.int (d.2 : Int)) = some (.int ((v : Int) * (d.2 : Int))) := mulD_sm 64 (by simp; omega) (by simp; omega)
    have x1 : ixD (EnQ.e d) (.int 1) = some (.int (d.2 : Nat)) := ixD_t1 _
    have x0 : ixD (EnQ.e d) (.int 0) = some (.int (d.1 : Nat)) := ixD_t0 _
    simp [g_quotient, List.replicate, q, hd, SZ_eq, wp_eq e2, hm, x0, x1, qn]
    simp [e_P, e_N]
def lessQ (a b : Nat × Nat) : Bool := decide (a.1 * b.2 < b.1 * a.2)
def cmpQ (a b : Nat × Nat) : Int := if a.1 * b.2 < b.1 * a.2 then -1 else if b.1 * a.2 < a.1 * b.2 then 1 else 0
theorem compare_eq {a b : Nat × Nat} (h1 : a.1 < 2 ^ 64) (h2 : a.2 < 2 ^ 64) (h3 : b.1 < 2 ^ 64) (h4 : b.2 < 2 ^ 64) (s : DS) : m_compare [EnQ.e a, EnQ.e b] s = some (.int (cmpQ a b), s) := by
  refine def_eq (fun s => ?_) s
  refine wp_def rfl ?_
  have x1 : ∀ d : Nat × Nat, ixD (EnQ.e d) (.int 1) = some (.int (d.2 : Nat)) := fun d => ixD_t1 _
  have x0 : ∀ d : Nat × Nat, ixD (EnQ.e d) (.int 0) = some (.int (d.1 : Nat)) := fun d => ixD_t0 _
  have m1 : mulD (.int (a.1 : Int)) (.int (b.2 : Int)) = some (.int ((a.1 * b.2 : Nat) : Int)) := by rw [mulD_sm 64 (by simpa using h1) (by simpa using h4)]; simp
  have m2 : mulD (.int (b.1 : Int)) (.int (a.2 : Int)) = some (.int ((b.1 * a.2 : Nat) : Int)) := by rw [mulD_sm 64 (by simpa using h3) (by simpa using h2)]; simp
  simp only [g_compare, List.replicate]
  simp [x0, x1, m1, m2, -Int.natCast_mul]
  unfold cmpQ
  by_cases c1 : a.1 * b.2 < b.1 * a.2
  · simp [c1] <;> omega
  · by_cases c2 : b.1 * a.2 < a.1 * b.2
    · simp [c1, c2] <;> omega
    · simp [c1, c2]; omega
def moreQ (a b : Nat × (Nat × Nat)) : Bool := if a.1 = b.1 then lessQ b.2 a.2 else decide (b.1 < a.1)
theorem is_more_eq {a b : Nat × (Nat × Nat)} (h1 : a.2.1 < 2 ^ 64) (h2 : a.2.2 < 2 ^ 64) (h3 : b.2.1 < 2 ^ 64) (h4 : b.2.2 < 2 ^ 64) (s : DS) : m_is_more [EnQ.e a, EnQ.e b] s = some (.bl (moreQ a b), s) := by
  refine def_eq (fun s => ?_) s
  refine wp_def rfl ?_
  have x1 : ∀ d : Nat × (Nat × Nat), ixD (EnQ.e d) (.int 1) = some (EnQ.e d.2) := fun d => ixD_t1 _
  have x0 : ∀ d : Nat × (Nat × Nat), ixD (EnQ.e d) (.int 0) = some (.int (d.1 : Nat)) := fun d => ixD_t0 _
  simp only [g_is_more, List.replicate]
  simp [x0, x1, wp_eq (compare_eq h1 h2 h3 h4)]
  unfold moreQ cmpQ lessQ
  by_cases c : a.1 = b.1
  · simp [c]
    by_cases c1 : a.2.1 * b.2.2 < b.2.1 * a.2.2
    · have : ¬ b.2.1 * a.2.2 < a.2.1 * b.2.2 := by omega
      simp [c1, this]
    · by_cases c2 : b.2.1 * a.2.2 < a.2.1 * b.2.2
      · simp [c1, c2]
      · simp [c1, c2]
  · have c' : ¬ ((a.1 : Int) = (b.1 : Int)) := by omega
    simp [c, c']
end Lw
set_option maxHeartbeats 1000000
namespace Lw
/-! ### quotients -/
def dn : Kd → Nat → Nat
  | .g, a => a + 1
  | .m, a => 2 * a + 1
  | .l, a => a
theorem dn_lt (k : Kd) {a b : Nat} (h : a < b) : dn k a < dn k b := by cases k <;> simp only [dn] <;> omega
theorem dn_le (k : Kd) {a b : Nat} (h : a ≤ b) : dn k a ≤ dn k b := by cases k <;> simp only [dn] <;> omega
/-- v's quotient behind a seats is more than w's behind b seats -/
def mo (k : Kd) (v a w b : Nat) : Prop := w * dn k a < v * dn k b ∨ (dn k a = 0 ∧ dn k b = 0 ∧ w < v)
instance : Decidable (mo k v a w b) := by unfold mo; infer_instance
theorem mo_asym {k : Kd} {v a w b : Nat} (h : mo k v a w b) : ¬ mo k w b v a := by
  unfold mo at *
  rcases h with h | ⟨h1, h2, h3⟩
  · rintro (c | ⟨c1, c2, c3⟩)
    · omega
    · rw [c1, c2] at h
      simp at h
  · rintro (c | ⟨c1, c2, c3⟩)
    · rw [h1, h2] at c
      simp at c
    · omega
theorem mo_nt {k : Kd} {v a w b u c : Nat} (hv : 0 < v) (hw : 0 < w) (hu : 0 < u) (h1 : ¬ mo k v a w b) (h2 : ¬ mo k w b u c) : ¬ mo k v a u c := by
  unfold mo at *
  have a1 : v * dn k b ≤ w * dn k a := by omega
  have a2 : w * dn k c ≤ u * dn k b := by omega
  have a3 : v * dn k c ≤ u * dn k a := by
    have b1 := Nat.mul_le_mul_left u a1
    have b2 := Nat.mul_le_mul_left v a2
    refine Nat.le_of_mul_le_mul_left ?_ hw
    calc w * (v * dn k c) = v * (w * dn k c) := by grind
      _ ≤ v * (u * dn k b) := b2
      _ = u * (v * dn k b) := by grind
      _ ≤ u * (w * dn k a) := b1
      _ = w * (u * dn k a) := by grind
  rintro (c1 | ⟨c1, c2, c3⟩)
  · omega
  · by_cases e : dn k b = 0
    · omega
    · rw [c1] at a1
      have : 0 < v * dn k b := Nat.mul_pos hv (by omega)
      omega
theorem mo_down (k : Kd) {v a b : Nat} (hv : 0 < v) (h : a < b) : mo k v a v b := .inl (Nat.mul_lt_mul_of_pos_left (dn_lt k h) hv)
theorem mo_votes (k : Kd) {v w : Nat} (a : Nat) (h : w < v) : mo k v a w a := by
  by_cases e : dn k a = 0
  · exact .inr ⟨e, e, h⟩
  · exact .inl (Nat.mul_lt_mul_of_pos_right h (by omega))
theorem mo_scale (k : Kd) {c v a w b : Nat} (hc : 0 < c) : mo k (c * v) a (c * w) b ↔ mo k v a w b := by
  unfold mo
  rw [Nat.mul_assoc, Nat.mul_assoc, Nat.mul_lt_mul_left hc, Nat.mul_lt_mul_left hc]
/-- an item at its place does not come ahead of another -/
def nb (k : Kd) (v a i w b j : Nat) : Prop := ¬ mo k v a w b ∧ (mo k w b v a ∨ j ≤ i)
theorem nb_trans {k : Kd} {v a i w b j u c l : Nat} (hv : 0 < v) (hw : 0 < w) (hu : 0 < u) (h1 : nb k v a i w b j) (h2 : nb k w b j u c l) : nb k v a i u c l := by
  refine ⟨mo_nt hv hw hu h1.1 h2.1, ?_⟩
  by_cases e : mo k u c v a
  · exact .inl e
  · have e1 : ¬ mo k w b v a := mo_nt hw hu hv h2.1 e
    have e2 : ¬ mo k u c w b := mo_nt hu hv hw e h1.1
    have := h1.2.resolve_left e1
    have := h2.2.resolve_left e2
    exact .inr (by omega)
theorem nb_down (k : Kd) {v a b : Nat} (i : Nat) (hv : 0 < v) (h : a ≤ b) : nb k v b i v a i := by
  by_cases e : a = b
  · subst e
    exact ⟨by unfold mo; omega, .inr (Nat.le_refl _)⟩
  · exact ⟨mo_asym (mo_down k hv (by omega)), .inr (Nat.le_refl _)⟩
/-- two of them not ahead of each other stand at one place -/
theorem nb_anti {k : Kd} {v a i w b j : Nat} (h1 : nb k v a i w b j) (h2 : nb k w b j v a i) : i = j := by
  have := h1.2.resolve_left h2.1
  have := h2.2.resolve_left h1.1
  omega
/-! ### sums -/
def S : Nat → (Nat → Nat) → Nat
  | 0, _ => 0
  | n + 1, f => S n f + f n
theorem S_le : ∀ {n : Nat} {f g : Nat → Nat}, (∀ i, i < n → f i ≤ g i) → S n f ≤ S n g
  | 0, _, _, _ => Nat.le_refl _
  | n + 1, f, g, h => Nat.add_le_add (S_le fun i hi => h i (by omega)) (h n (by omega))
theorem S_lt {n : Nat} {f g : Nat → Nat} (h : ∀ i, i < n → f i ≤ g i) {j : Nat} (hj : j < n) (hl : f j < g j) : S n f < S n g := by
  induction n with
  | zero => omega
  | succ n ih =>
    show S n f + f n < S n g + g n
    have a := h n (by omega)
    by_cases e : j = n
    · subst e
      have : S j f ≤ S j g := S_le fun i hi => h i (by omega)
      omega
    · have := ih (fun i hi => h i (by omega)) (by omega)
      omega
theorem S_ex {n : Nat} {f g : Nat → Nat} (h : S n f < S n g) : ∃ i, i < n ∧ f i < g i := by
  refine Classical.byContradiction fun c => ?_
  have : S n g ≤ S n f := S_le fun i hi => by
    refine Nat.le_of_not_lt fun z => c ⟨i, hi, z⟩
  omega
theorem S_other {n : Nat} {f g : Nat → Nat} (h : S n f = S n g) {i : Nat} (hi : i < n) (hl : f i < g i) : ∃ j, j < n ∧ g j < f j := by
  refine Classical.byContradiction fun c => ?_
  have : S n f < S n g := S_lt (fun j hj => Nat.le_of_not_lt fun z => c ⟨j, hj, z⟩) hi hl
  omega
theorem S_add : ∀ (n : Nat) (f g : Nat → Nat), S n (fun i => f i + g i) = S n f + S n g
  | 0, _, _ => rfl
  | n + 1, f, g => by simp only [S, S_add n f g]; omega
theorem S_mul (c : Nat) : ∀ (n : Nat) (f : Nat → Nat), S n (fun i => c * f i) = c * S n f
  | 0, _ => rfl
  | n + 1, f => by simp only [S, S_mul c n f, Nat.mul_add]
theorem S_congr : ∀ {n : Nat} {f g : Nat → Nat}, (∀ i, i < n → f i = g i) → S n f = S n g
  | 0, _, _, _ => rfl
  | n + 1, f, g, h => by
    have a : S n f = S n g := S_congr fun i hi => h i (by omega)
    have b := h n (by omega)
    show S n f + f n = S n g + g n
    rw [a, b]
theorem S_bump {n : Nat} {f : Nat → Nat} {x : Nat} (hx : x < n) : S n (fun i => if i = x then f i + 1 else f i) = S n f + 1 := by
  induction n with
  | zero => omega
  | succ n ih =>
    by_cases e : x = n
    · subst e
      simp only [S, if_pos]
      rw [S_congr (f := fun i => if i = x then f i + 1 else f i) (g := f) (fun i hi => if_neg (by omega))]
      omega
    · simp only [S, if_neg (show ¬ n = x by omega)]
      rw [ih (by omega)]
      omega
theorem S_split {n : Nat} {f : Nat → Nat} {k : Nat} (hk : k < n) : S n f = S n (fun i => if i = k then 0 else f i) + f k := by
  induction n with
  | zero => omega
  | succ n ih =>
    by_cases e : k = n
    · subst e
      simp only [S, if_pos]
      rw [S_congr (f := fun i => if i = k then 0 else f i) (g := f) (fun i hi => if_neg (by omega))]
      omega
    · simp only [S, if_neg (show ¬ n = k by omega)]
      rw [ih (by omega)]
      omega
/-! ### dealings by quotients -/
def AL (k : Kd) (n : Nat) (v f : Nat → Nat) : Prop := ∀ i j, i < n → j < n → 0 < f j → nb k (v i) (f i) i (v j) (f j - 1) j
theorem AL_zero (k : Kd) (n : Nat) (v : Nat → Nat) : AL k n v fun _ => 0 := fun i j hi hj h => (Nat.lt_irrefl 0 h).elim
theorem AL_step {k : Kd} {n : Nat} {v f : Nat → Nat} (hv : ∀ i, i < n → 0 < v i) (h : AL k n v f) {x : Nat} (hx : x < n) (hm : ∀ i, i < n → nb k (v i) (f i) i (v x) (f x) x) :
    AL k n v fun i => if i = x then f i + 1 else f i := fun i j hi hj hp => by
  have key : ∀ i, i < n → nb k (v i) (if i = x then f i + 1 else f i) i (v i) (f i) i := fun i hi => nb_down k i (hv i hi) (by split <;> omega)
  by_cases e : j = x
  · subst e
    simp only [if_pos]
    exact nb_trans (hv i hi) (hv i hi) (hv j hj) (key i hi) (hm i hi)
  · simp only [if_neg e] at hp ⊢
    exact nb_trans (hv i hi) (hv i hi) (hv j hj) (key i hi) (h i j hi hj hp)
theorem AL_uniq {k : Kd} {n : Nat} {v f g : Nat → Nat} (hv : ∀ i, i < n → 0 < v i) (hf : AL k n v f) (hg : AL k n v g) (hs : S n f = S n g) : ∀ i, i < n → f i = g i := by
  have key : ∀ f g, AL k n v f → AL k n v g → S n f = S n g → ∀ i, i < n → ¬ f i < g i := fun f g hf hg hs i hi hl => by
    obtain ⟨j, hj, hl2⟩ := S_other hs hi hl
    have a1 := hf i j hi hj (by omega)
    have a2 := hg j i hj hi (by omega)
    have b1 : nb k (v i) (g i - 1) i (v j) (f j - 1) j := nb_trans (hv i hi) (hv i hi) (hv j hj) (nb_down k i (hv i hi) (by omega)) a1
    have b2 : nb k (v j) (f j - 1) j (v i) (g i - 1) i := nb_trans (hv j hj) (hv j hj) (hv i hi) (nb_down k j (hv j hj) (by omega)) a2
    have := nb_anti b1 b2
    subst this
    omega
  intro i hi
  have := key f g hf hg hs i hi
  have := key g f hg hf hs.symm i hi
  omega
theorem AL_more {k : Kd} {n : Nat} {v v' f g : Nat → Nat} {x : Nat} (hv : ∀ i, i < n → 0 < v i) (hx : x < n) (hvx : v x < v' x) (he : ∀ i, i ≠ x → v' i = v i) (hf : AL k n v f) (hg : AL k n v' g) (hs : S n f = S n g) :
    f x ≤ g x ∧ ∀ i, i < n → i ≠ x → g i ≤ f i := by
  have hv' : ∀ i, i < n → 0 < v' i := fun i hi => by
    by_cases e : i = x
    · subst e; have := hv i hi; omega
    · rw [he i e]; exact hv i hi
  have h1 : f x ≤ g x := by
    refine Nat.le_of_not_lt fun hl => ?_
    obtain ⟨j, hj, hl2⟩ := S_other hs.symm hx hl
    have hjx : j ≠ x := by intro e; subst e; omega
    have a1 := (hf j x hj hx (by omega)).1
    have a2 := (hg x j hx hj (by omega)).1
    rw [he j hjx] at a2
    -- (x, g x) at v' is not more than (j, g j - 1), which is no more than (j, f j), which is no more than (x, f x - 1) at v, which is no more than (x, g x) at v
    have b1 : ¬ mo k (v j) (g j - 1) (v j) (f j) := (nb_down k j (hv j hj) (show f j ≤ g j - 1 by omega)).1
    have b2 : ¬ mo k (v x) (f x - 1) (v x) (g x) := (nb_down k x (hv x hx) (show g x ≤ f x - 1 by omega)).1
    have c1 := mo_nt (hv' x hx) (hv j hj) (hv j hj) a2 b1
    have c2 := mo_nt (hv' x hx) (hv j hj) (hv x hx) c1 a1
    have c3 := mo_nt (hv' x hx) (hv x hx) (hv x hx) c2 b2
    exact c3 (mo_votes k (g x) hvx)
  refine ⟨h1, fun i hi hne => Nat.le_of_not_lt fun hl => ?_⟩
  have : ∃ j, j < n ∧ j ≠ x ∧ g j < f j := by
    refine Classical.byContradiction fun c => ?_
    have : S n f < S n g := S_lt (fun j hj => Nat.le_of_not_lt fun z => by
      by_cases e : j = x
      · subst e; omega
      · exact c ⟨j, hj, e, z⟩) hi hl
    omega
  obtain ⟨j, hj, hjx, hl2⟩ := this
  have a1 := hf i j hi hj (by omega)
  have a2 := hg j i hj hi (by omega)
  rw [he j hjx, he i hne] at a2
  have b1 : nb k (v i) (g i - 1) i (v j) (f j - 1) j := nb_trans (hv i hi) (hv i hi) (hv j hj) (nb_down k i (hv i hi) (by omega)) a1
  have b2 : nb k (v j) (f j - 1) j (v i) (g i - 1) i := nb_trans (hv j hj) (hv j hj) (hv i hi) (nb_down k j (hv j hj) (by omega)) a2
  have := nb_anti b1 b2
  subst this
  omega
theorem AL_order {k : Kd} {n : Nat} {v f : Nat → Nat} (hv : ∀ i, i < n → 0 < v i) (hf : AL k n v f) {i j : Nat} (hi : i < n) (hj : j < n) (h : v j < v i) : f j ≤ f i := by
  refine Nat.le_of_not_lt fun hl => ?_
  have a1 := (hf i j hi hj (by omega)).1
  have b1 : ¬ mo k (v i) (f i) (v j) (f i) := mo_nt (hv i hi) (hv j hj) (hv j hj) a1 (nb_down k j (hv j hj) (show f i ≤ f j - 1 by omega)).1
  exact b1 (mo_votes k _ h)
/-- D'Hondt keeps the whole part of each share -/
theorem AL_quota {n : Nat} {v f : Nat → Nat} (hv : ∀ i, i < n → 0 < v i) (hf : AL .g n v f) {x : Nat} (hx : x < n) : v x * (S n f + 1) ≤ S n v * (f x + 1) := by
  have hle : ∀ j, j < n → v x * f j ≤ v j * (f x + 1) := fun j hj => by
    by_cases e : f j = 0
    · rw [e]; simp
    · have a := (hf x j hx hj (by omega)).1
      unfold mo at a
      simp only [dn] at a
      rw [show f j - 1 + 1 = f j by omega] at a
      omega
  have h1 : S n (fun j => if j = x then 0 else v x * f j) ≤ S n (fun j => if j = x then 0 else v j * (f x + 1)) := S_le fun j hj => by
    split
    · exact Nat.le_refl _
    · exact hle j hj
  have s1 := S_split (f := fun j => v x * f j) hx
  have s2 := S_split (f := fun j => (f x + 1) * v j) hx
  rw [S_mul] at s1 s2
  have s3 : S n (fun j => if j = x then 0 else v j * (f x + 1)) = S n (fun i => if i = x then 0 else (f x + 1) * v i) := S_congr fun i _ => by split <;> grind
  rw [s3] at h1
  have e1 : v x * (S n f + 1) = v x * S n f + v x := by grind
  have e2 : S n v * (f x + 1) = (f x + 1) * S n v := by grind
  have e3 : (f x + 1) * v x = v x * f x + v x := by grind
  omega
end Lw
set_option maxHeartbeats 1000000
namespace Lw
open PySem PySem.Spec PyProof.Rows L2 Pu
theorem S_succ (g : Nat → Nat) : ∀ m : Nat, S (m + 1) g = g 0 + S m (fun i => g (i + 1))
  | 0 => by simp [S]
  | m + 1 => by
    have := S_succ g m
    show S (m + 1) g + g (m + 1) = g 0 + (S m (fun i => g (i + 1)) + g (m + 1))
    omega
/-- two lists joined gain at D'Hondt, but for one seat -/
theorem AL_joinG {n m : Nat} {v f v' g r : Nat → Nat} {x y : Nat} (hv : ∀ i, i < n → 0 < v i) (hx : x < n) (hy : y < n) (hr : ∀ i, i < m → r i < n) (h0 : v' 0 = v x + v y) (h1 : ∀ i, i < m → v' (i + 1) = v (r i))
    (hf : AL .g n v f) (hg : AL .g (m + 1) v' g) (hs : f x + f y + S m (fun i => f (r i)) = S (m + 1) g) : ¬ g 0 + 1 < f x + f y := fun c => by
  rw [S_succ] at hs
  obtain ⟨i, hi, hl⟩ := S_ex (n := m) (f := fun i => f (r i)) (g := fun i => g (i + 1)) (by omega)
  have a := (hg 0 (i + 1) (by omega) (by omega) (by omega)).1
  have hri := hr i hi
  have b : ∀ z, z < n → v (r i) * f z ≤ v z * (f (r i) + 1) := fun z hz => by
    by_cases e : f z = 0
    · rw [e]; simp
    · have a := (hf (r i) z hri hz (by omega)).1
      unfold mo at a
      simp only [dn] at a
      rw [show f z - 1 + 1 = f z by omega] at a
      omega
  have bx := b x hx
  have bY := b y hy
  unfold mo at a
  simp only [dn] at a
  rw [h0, h1 i hi, show g (i + 1) - 1 + 1 = g (i + 1) by omega] at a
  have a' : (v x + v y) * g (i + 1) ≤ v (r i) * (g 0 + 1) := by omega
  have c1 : (v x + v y) * (f (r i) + 1) ≤ (v x + v y) * g (i + 1) := Nat.mul_le_mul_left _ (by omega)
  have c2 : v (r i) * (g 0 + 1) < v (r i) * (f x + f y) := Nat.mul_lt_mul_of_pos_left c (hv _ hri)
  have e1 : v (r i) * (f x + f y) = v (r i) * f x + v (r i) * f y := by grind
  have e2 : (v x + v y) * (f (r i) + 1) = v x * (f (r i) + 1) + v y * (f (r i) + 1) := by grind
  omega
/-- and lose at Adams, but for one seat -/
theorem AL_joinL {n m : Nat} {v f v' g r : Nat → Nat} {x y : Nat} (hv : ∀ i, i < n → 0 < v i) (hx : x < n) (hy : y < n) (hr : ∀ i, i < m → r i < n) (h0 : v' 0 = v x + v y) (h1 : ∀ i, i < m → v' (i + 1) = v (r i))
    (hf : AL .l n v f) (hg : AL .l (m + 1) v' g) (hs : f x + f y + S m (fun i => f (r i)) = S (m + 1) g) : ¬ f x + f y + 1 < g 0 := fun c => by
  rw [S_succ] at hs
  obtain ⟨i, hi, hl⟩ := S_ex (n := m) (f := fun i => g (i + 1)) (g := fun i => f (r i)) (by omega)
  have a := (hg (i + 1) 0 (by omega) (by omega) (by omega)).1
  have hri := hr i hi
  have b : ∀ z, z < n → v z * (f (r i) - 1) ≤ v (r i) * f z := fun z hz => by
    have a := (hf z (r i) hz hri (by omega)).1
    unfold mo at a
    simp only [dn] at a
    omega
  have bx := b x hx
  have bY := b y hy
  unfold mo at a
  simp only [dn] at a
  rw [h0, h1 i hi] at a
  have a' : v (r i) * (g 0 - 1) ≤ (v x + v y) * g (i + 1) := by omega
  have c1 : (v x + v y) * g (i + 1) ≤ (v x + v y) * (f (r i) - 1) := Nat.mul_le_mul_left _ (by omega)
  have c2 : v (r i) * (f x + f y) < v (r i) * (g 0 - 1) := Nat.mul_lt_mul_of_pos_left (by omega) (hv _ hri)
  have e1 : v (r i) * (f x + f y) = v (r i) * f x + v (r i) * f y := by grind
  have e2 : (v x + v y) * (f (r i) - 1) = v x * (f (r i) - 1) + v y * (f (r i) - 1) := by grind
  omega
/-- lists of alike votes: in turn -/
theorem AL_alike (k : Kd) (n c q r : Nat) (hc : 0 < c) : AL k n (fun _ => c) (fun i => q + if i < r then 1 else 0) := fun i j hi hj hp => by
  by_cases e : (q + if j < r then 1 else 0) - 1 < (q + if i < r then 1 else 0)
  · exact ⟨mo_asym (mo_down k hc e), .inl (mo_down k hc e)⟩
  · have : (q + if j < r then 1 else 0) - 1 = (q + if i < r then 1 else 0) := by
      split at e <;> split at e <;> simp_all <;> omega
    show nb k c _ i c ((q + if j < r then 1 else 0) - 1) j
    rw [this]
    refine ⟨fun z => mo_asym z z, .inr ?_⟩
    by_cases h1 : i < r <;> by_cases h2 : j < r <;> simp [h1, h2] at this hp <;> omega
theorem S_alike (q : Nat) {r : Nat} : ∀ {n : Nat}, S n (fun i => q + if i < r then 1 else 0) = q * n + min r n
  | 0 => by simp [S]
  | n + 1 => by
    have := S_alike q (r := r) (n := n)
    show S n _ + (q + if n < r then 1 else 0) = _
    rw [this, Nat.mul_add]
    split <;> omega
/-! ### the next list -/
def nx (k : Kd) (v f : Nat → Nat) : Nat → Nat
  | 0 => 0
  | m + 1 => if mo k (v (m + 1)) (f (m + 1)) (v (nx k v f m)) (f (nx k v f m)) then m + 1 else nx k v f m
theorem nx_le (k : Kd) (v f : Nat → Nat) : ∀ m, nx k v f m ≤ m
  | 0 => Nat.le_refl _
  | m + 1 => by
    have := nx_le k v f m
    unfold nx
    split <;> omega
theorem nx_ok (k : Kd) {v f : Nat → Nat} : ∀ {m : Nat}, (∀ i, i ≤ m → 0 < v i) → ∀ i, i ≤ m → nb k (v i) (f i) i (v (nx k v f m)) (f (nx k v f m)) (nx k v f m)
  | 0, hv, i, hi => by
    have : i = 0 := by omega
    subst this
    exact nb_down k 0 (hv 0 hi) (Nat.le_refl _)
  | m + 1, hv, i, hi => by
    have ih := nx_ok k (v := v) (f := f) (m := m) fun i hi => hv i (by omega)
    have hle := nx_le k v f m
    unfold nx
    split
    · rename_i c
      by_cases e : i = m + 1
      · subst e
        exact nb_down k _ (hv _ hi) (Nat.le_refl _)
      · exact nb_trans (hv i hi) (hv _ (by omega)) (hv _ (by omega)) (ih i (by omega)) ⟨mo_asym c, .inl c⟩
    · rename_i c
      by_cases e : i = m + 1
      · subst e
        exact ⟨c, .inr (by omega)⟩
      · exact ih i (by omega)
def bump (f : Nat → Nat) (x : Nat) : Nat → Nat := fun i => if i = x then f i + 1 else f i
/-- the dealing of t seats to n + 1 lists -/
def gf (k : Kd) (v : Nat → Nat) (m : Nat) : Nat → Nat → Nat
  | 0 => fun _ => 0
  | t + 1 => bump (gf k v m t) (nx k v (gf k v m t) m)
theorem gf_ok (k : Kd) {v : Nat → Nat} {m : Nat} (hv : ∀ i, i ≤ m → 0 < v i) : ∀ t, AL k (m + 1) v (gf k v m t) ∧ S (m + 1) (gf k v m t) = t
  | 0 => ⟨AL_zero k _ v, by
      have : ∀ n, S n (fun _ => 0) = 0 := fun n => by induction n with
        | zero => rfl
        | succ n ih => exact ih
      exact this _⟩
  | t + 1 => by
    obtain ⟨a, b⟩ := gf_ok k hv t
    have hle := nx_le k v (gf k v m t) m
    refine ⟨AL_step (fun i hi => hv i (by omega)) a (by omega) (fun i hi => nx_ok k hv i (by omega)), ?_⟩
    show S (m + 1) (fun i => if i = _ then _ else _) = _
    rw [S_bump (by omega), b]
theorem nx_congr (k : Kd) {v v' f : Nat → Nat} (h : ∀ a b i j, mo k (v i) a (v j) b ↔ mo k (v' i) a (v' j) b) : ∀ m, nx k v f m = nx k v' f m
  | 0 => rfl
  | m + 1 => by
    unfold nx
    rw [nx_congr k (f := f) h m]
    simp only [h (f (m + 1)) (f (nx k v' f m)) (m + 1) (nx k v' f m)]
theorem gf_scale (k : Kd) {c : Nat} (hc : 0 < c) (v : Nat → Nat) (m : Nat) : ∀ t, gf k (fun i => c * v i) m t = gf k v m t
  | 0 => rfl
  | t + 1 => by
    unfold gf
    rw [gf_scale k hc v m t, nx_congr k (v := fun i => c * v i) (v' := v) (fun a b i j => mo_scale k hc)]
/-! ### quotients of the program -/
theorem lessQ_fr {n d n' d' : Nat} (h : 0 < d) (h' : 0 < d') : lessQ (fr n d) (fr n' d') = decide (n * d' < n' * d) := by
  have hg : 0 < Nat.gcd n d := Nat.gcd_pos_of_pos_right _ h
  have hg' : 0 < Nat.gcd n' d' := Nat.gcd_pos_of_pos_right _ h'
  obtain ⟨a, ha⟩ := Nat.gcd_dvd_left n d
  obtain ⟨b, hb⟩ := Nat.gcd_dvd_right n d
  obtain ⟨a', ha'⟩ := Nat.gcd_dvd_left n' d'
  obtain ⟨b', hb'⟩ := Nat.gcd_dvd_right n' d'
  have e1 : n / Nat.gcd n d = a := Nat.div_eq_of_eq_mul_right hg ha
  have e2 : d / Nat.gcd n d = b := Nat.div_eq_of_eq_mul_right hg hb
  have e3 : n' / Nat.gcd n' d' = a' := Nat.div_eq_of_eq_mul_right hg' ha'
  have e4 : d' / Nat.gcd n' d' = b' := Nat.div_eq_of_eq_mul_right hg' hb'
  unfold lessQ fr
  simp only [e1, e2, e3, e4]
  have t1 : n * d' = (Nat.gcd n d * Nat.gcd n' d') * (a * b') := by
    generalize Nat.gcd n d = p at *
    generalize Nat.gcd n' d' = p' at *
    subst ha; subst hb'; grind
  have t2 : n' * d = (Nat.gcd n d * Nat.gcd n' d') * (a' * b) := by
    generalize Nat.gcd n d = p at *
    generalize Nat.gcd n' d' = p' at *
    subst ha'; subst hb; grind
  rw [t1, t2, decide_eq_decide]
  exact (Nat.mul_lt_mul_left (Nat.mul_pos hg hg')).symm
theorem moreQ_qn (k : Kd) {v a w b : Nat} (hv : 0 < v) (hw : 0 < w) : moreQ (qn v (dv k a)) (qn w (dv k b)) = decide (mo k v a w b) := by
  cases k with
  | g => simp [moreQ, qn, dv, lessQ_fr, mo, dn]
  | m =>
    simp [moreQ, qn, dv, lessQ_fr, mo, dn]
    constructor <;> intro h <;> grind
  | l =>
    by_cases ha : a = 0 <;> by_cases hb : b = 0 <;> simp [moreQ, qn, dv, ha, hb, hv, hw, mo, dn]
    · rw [lessQ_fr (by omega) (by omega)]; simp
    · omega
    · rw [lessQ_fr (by omega) (by omega)]
end Lw
set_option maxHeartbeats 1000000
namespace Lw
open PySem PySem.Spec PyProof.Rows L2 Pu
structure Vt (vs : List Nat) : Prop where
  h1 : 1 ≤ vs.length
  h8 : vs.length ≤ 8
  pos : ∀ x ∈ vs, 0 < x ∧ x < 2 ^ 20
abbrev vtD (vs : List Nat) : D := .tup (vs.map EnQ.e)
def vv (vs : List Nat) : Nat → Nat := fun i => vs.getD i 0
theorem vv_at {vs : List Nat} {i : Nat} (h : i < vs.length) : vv vs i = vs[i] := by unfold vv; rw [List.getD_eq_getElem?_getD, List.getElem?_eq_getElem h]; rfl
theorem vv_pos {vs : List Nat} (W : Vt vs) {i : Nat} (h : i < vs.length) : 0 < vv vs i ∧ vv vs i < 2 ^ 20 := by
  rw [vv_at h]; exact W.pos _ (List.getElem_mem h)
theorem vt_ix {vs : List Nat} {i : Nat} (h : i < vs.length) : ixD (vtD vs) (.int (i : Nat)) = some (.int (vv vs i : Nat)) := by
  rw [ixD_tn, List.getElem?_map, List.getElem?_eq_getElem h, vv_at h]; rfl
theorem sumN (vs : List Nat) : (vs.map fun x => ((x : Nat) : Int)).sum = ((vs.sum : Nat) : Int) := by
  induction vs with
  | nil => rfl
  | cons a l ih => simp [ih]
theorem sumV (vs : List Nat) : sumD [vtD vs] = some (.int (vs.sum : Nat)) := by
  have := sumT_f (fun x : Nat => (x : Int)) vs
  rw [sumN] at this
  exact this
theorem sum_pos {vs : List Nat} (W : Vt vs) : 0 < vs.sum := by
  have h1 := W.h1
  cases vs with
  | nil => simp at h1
  | cons a l => have := (W.pos a (by simp)).1; simp; omega
theorem check_seats_eq {vs : List Nat} (W : Vt vs) {n : Nat} (hn : n ≤ 40) (s : DS) : m_check_seats [vtD vs, .int (n : Nat)] s = some (.non, s) := by
  refine def_eq (fun s => ?_) s
  refine wp_def rfl ?_
  have h1 := W.h1
  have h8 := W.h8
  have hs := sum_pos W
  have hm : ∃ z : Nat, minD [vtD vs] = some (.int (z : Nat)) := by
    cases vs with
    | nil => simp at h1
    | cons z zs => exact ⟨_, min_seq (α := Nat) (by decide) rfl⟩
  obtain ⟨z, hm⟩ := hm
  have hs0 : ¬ vs.sum = 0 := by omega
  simp [g_check_seats, List.replicate, c_MOST_LISTS, c_MOST_SEATS, hm, sumV]
  omega
def fdD (m : Nat) (f : Nat → Nat) : List D := (List.range m).map fun i => D.int (f i : Nat)
theorem fd_ix {m : Nat} (f : Nat → Nat) {i : Nat} (h : i < m) : (fdD m f)[i]? = some (.int (f i : Nat)) := by
  unfold fdD; rw [List.getElem?_map, List.getElem?_range h]; rfl
@[simp] theorem fd_len (m : Nat) (f : Nat → Nat) : (fdD m f).length = m := by simp [fdD]
theorem fd_set {m : Nat} (f : Nat → Nat) (x : Nat) : (fdD m f).set x (.int ((f x : Int) + 1)) = fdD m (bump f x) := by
  unfold fdD bump
  refine List.ext_getElem (by simp) fun i h1 h2 => ?_
  rw [List.getElem_set]
  by_cases e : x = i
  · subst e; simp
  · have : ¬ i = x := fun z => e z.symm
    simp [e, this]
theorem fr_small {n d b : Nat} (h : n < b) : (fr n d).1 < b := Nat.lt_of_le_of_lt (Nat.div_le_self _ _) h
theorem fr_small2 {n d b : Nat} (h : d < b) : (fr n d).2 < b := Nat.lt_of_le_of_lt (Nat.div_le_self _ _) h
theorem qn_small {k : Kd} {v a : Nat} (hv : v < 2 ^ 20) (ha : a < 1000) : (qn v (dv k a)).2.1 < 2 ^ 64 ∧ (qn v (dv k a)).2.2 < 2 ^ 64 := by
  unfold qn
  split
  · exact ⟨fr_small (by omega), fr_small2 (by omega)⟩
  · refine ⟨fr_small ?_, fr_small2 ?_⟩
    · cases k <;> simp only [dv] <;> omega
    · cases k <;> simp only [dv] <;> omega
theorem quot_eq (k : Kd) {v a : Nat} (hv : v < 2 ^ 20) (ha : a < 1000) (s : DS) : m_quotient [.int (v : Nat), EnQ.e (dv k a)] s = some (EnQ.e (qn v (dv k a)), s) := by
  refine quotient_eq (by omega) ?_ s
  cases k with
  | g => exact .inr ⟨by simp [dv], by simp only [dv]; omega, by simp [dv]⟩
  | m => exact .inr ⟨by simp [dv], by simp only [dv]; omega, by simp [dv]⟩
  | l =>
    by_cases e : a = 0
    · exact .inl (by simp [dv, e])
    · exact .inr ⟨by simp only [dv]; omega, by simp only [dv]; omega, by simp [dv]⟩
theorem isq_eq (k : Kd) {v a w b : Nat} (hv : 0 < v ∧ v < 2 ^ 20) (hw : 0 < w ∧ w < 2 ^ 20) (ha : a < 1000) (hb : b < 1000) (s : DS) :
    m_is_more [EnQ.e (qn v (dv k a)), EnQ.e (qn w (dv k b))] s = some (.bl (decide (mo k v a w b)), s) := by
  obtain ⟨a1, a2⟩ := qn_small (k := k) hv.2 ha
  obtain ⟨b1, b2⟩ := qn_small (k := k) hw.2 hb
  rw [is_more_eq a1 a2 b1 b2, moreQ_qn k hv.1 hw.1]
theorem nx_fold (k : Kd) (v f : Nat → Nat) : ∀ m, (List.range' 1 m).foldl (fun best j => if mo k (v j) (f j) (v best) (f best) then j else best) 0 = nx k v f m
  | 0 => rfl
  | m + 1 => by
    rw [List.range'_concat, List.foldl_append, nx_fold k v f m]
    simp only [List.foldl_cons, List.foldl_nil, Nat.one_mul, Nat.add_comm 1 m]
    rfl
theorem next_eq {vs : List Nat} (W : Vt vs) (k : Kd) {m : Nat} (hm : vs.length = m + 1) {f : Nat → Nat} (hf : ∀ i, i ≤ m → f i < 1000) (s : DS) :
    m_next_list [vtD vs, k.str, .lst (fdD (m + 1) f)] s = some (.int (nx k (vv vs) f m : Nat), s) := by
  refine def_eq (fun s => ?_) s
  refine wp_def rfl ?_
  have h8 := W.h8
  have hr : rng2D [.int 1, .int ((m : Int) + 1)] = some ((List.range' 1 m).map EnQ.e) := by
    have := rng2_n (a := 1) (b := m + 1) (by omega) (by omega)
    simpa using this
  simp [g_next_list, List.replicate, hm, hr]
  refine wp_fold (σ := Nat) EnQ.e (fun best j => if mo k (vv vs j) (f j) (vv vs best) (f best) then j else best) (fun b ρ s' => s' = s ∧ b ≤ m ∧ ∃ x4, ρ = [.sh (vtD vs), .sh k.str, .sh (.lst (fdD (m + 1) f)), .sh (.int (b : Nat)), x4]) (List.range' 1 m) 0 (fun j hj b ρ s' hJ => ?_) (fun ρ s' hJ => ?_) ⟨rfl, by omega, _, rfl⟩
  · obtain ⟨rfl, hb, x4, rfl⟩ := hJ
    have hj' : j ≤ m := by have := List.mem_range'_1.mp hj; omega
    refine ⟨_, rfl, ?_⟩
    have i1 := vt_ix (vs := vs) (i := j) (by omega)
    have i2 := vt_ix (vs := vs) (i := b) (by omega)
    have f1 := fd_ix f (m := m + 1) (i := j) (by omega)
    have f2 := fd_ix f (m := m + 1) (i := b) (by omega)
    have p1 := vv_pos W (i := j) (by omega)
    have p2 := vv_pos W (i := b) (by omega)
    have l1 := hf j hj'
    have l2 := hf b hb
    simp only [e_N]
    simp [i1, i2, f1, f2, wp_eq (divisor_eq k (a := f j) (by omega)), wp_eq (divisor_eq k (a := f b) (by omega)), wp_eq (quot_eq k p1.2 l1), wp_eq (quot_eq k p2.2 l2), wp_eq (isq_eq k p1 p2 l1 l2), -ixD_tn]
    by_cases c : mo k (vv vs j) (f j) (vv vs b) (f b)
    · simp [c]; exact hj'
    · simp [c]; exact hb
  · obtain ⟨rfl, hb, x4, rfl⟩ := hJ
    rw [nx_fold]
    simp
end Lw
set_option maxHeartbeats 1000000
namespace Lw
open PySem PySem.Spec PyProof.Rows L2 Pu
theorem gf_le (k : Kd) (v : Nat → Nat) (m : Nat) (i : Nat) : ∀ t, gf k v m t i ≤ t
  | 0 => Nat.le_refl _
  | t + 1 => by
    have := gf_le k v m i t
    unfold gf bump
    split <;> omega
theorem dv1 (k : Kd) (s : DS) : m_divisor [k.str, .int 1] s = some (EnQ.e (dv k 1), s) := divisor_eq k (a := 1) (by decide) s
theorem fd_zero (m : Nat) : List.replicate m (D.int 0) = fdD m (fun _ => 0) := by
  unfold fdD
  refine List.ext_getElem (by simp) fun i h1 h2 => ?_
  simp
abbrev byD (k : Kd) (vs : List Nat) (n : Nat) : D := .tup (fdD vs.length (gf k (vv vs) (vs.length - 1) n))
theorem by_eq {vs : List Nat} (W : Vt vs) (k : Kd) {n : Nat} (hn : n ≤ 40) (s : DS) : m_by_quotients [vtD vs, .int (n : Nat), k.str] s = some (byD k vs n, s) := by
  have h1 := W.h1
  obtain ⟨m, hm⟩ : ∃ m, vs.length = m + 1 := ⟨vs.length - 1, by omega⟩
  unfold byD
  rw [hm, Nat.add_sub_cancel]
  refine def_eq (fun s => ?_) s
  refine wp_def rfl ?_
  have h8 := W.h8
  have hrep : repO (.lst [.int 0]) (.int (m + 1 : Nat)) = some (List.replicate (m + 1) (.int 0)) := repO_1 _ (by omega)
  simp at hrep
  have hr : rng1D [.int (n : Nat)] = some ((List.range n).map EnQ.e) := rng1_n (by omega)
  simp [g_by_quotients, List.replicate, wp_eq (check_seats_eq W hn), wp_eq (dv1 k), hm, hrep, hr, SZ_eq]
  refine wp_rest EnQ.e (fun xs ρ s' => s' = s ∧ ∃ t x4, t + xs.length = n ∧ ρ = [.sh (vtD vs), .sh (.int (n : Nat)), .sh k.str, .ow (fdD (m + 1) (gf k (vv vs) m t)), x4]) (List.range n) (fun j xs ρ s' hJ => ?_) (fun ρ s' hJ => ?_) ⟨rfl, 0, _, by simp, by
    have e := fd_zero (m + 1)
    rw [List.replicate_succ] at e
    rw [e]; rfl⟩
  · obtain ⟨rfl, t, x4, ht, rfl⟩ := hJ
    simp at ht
    have hx := nx_le k (vv vs) (gf k (vv vs) m t) m
    refine ⟨_, rfl, ?_⟩
    simp [wp_eq (next_eq W k hm (f := gf k (vv vs) m t) fun i _ => Nat.lt_of_le_of_lt (gf_le k _ m i t) (by omega)), e_N]
    exact ⟨rfl, _, ixN_nat (by omega), _, fd_ix _ (by omega), _, rfl, t + 1, by omega, by rw [fd_set]; rfl⟩
  · obtain ⟨rfl, t, x4, ht, rfl⟩ := hJ
    simp at ht
    subst ht
    simp
def tuD (k : Kd) (v : Nat → Nat) (m n : Nat) : List D := (List.range n).map fun t => D.int (nx k v (gf k v m t) m : Nat)
abbrev turnsD (k : Kd) (vs : List Nat) (n : Nat) : D := .tup (tuD k (vv vs) (vs.length - 1) n)
theorem turns_eq {vs : List Nat} (W : Vt vs) (k : Kd) {n : Nat} (hn : n ≤ 40) (s : DS) : m_turns [vtD vs, .int (n : Nat), k.str] s = some (turnsD k vs n, s) := by
  have h1 := W.h1
  obtain ⟨m, hm⟩ : ∃ m, vs.length = m + 1 := ⟨vs.length - 1, by omega⟩
  unfold turnsD
  rw [hm, Nat.add_sub_cancel]
  refine def_eq (fun s => ?_) s
  refine wp_def rfl ?_
  have h8 := W.h8
  have hrep : repO (.lst [.int 0]) (.int (m + 1 : Nat)) = some (List.replicate (m + 1) (.int 0)) := repO_1 _ (by omega)
  simp at hrep
  have hr : rng1D [.int (n : Nat)] = some ((List.range n).map EnQ.e) := rng1_n (by omega)
  simp [g_turns, List.replicate, wp_eq (check_seats_eq W hn), wp_eq (dv1 k), hm, hrep, hr, SZ_eq]
  refine wp_rest EnQ.e (fun xs ρ s' => s' = s ∧ ∃ t x4, t + xs.length = n ∧ ρ = [.sh (vtD vs), .sh (.int (n : Nat)), .sh k.str, .ow (fdD (m + 1) (gf k (vv vs) m t)), .ow (tuD k (vv vs) m t), x4]) (List.range n) (fun j xs ρ s' hJ => ?_) (fun ρ s' hJ => ?_) ⟨rfl, 0, _, by simp, by
    have e := fd_zero (m + 1)
    rw [List.replicate_succ] at e
    rw [e]; rfl⟩
  · obtain ⟨rfl, t, x4, ht, rfl⟩ := hJ
    simp at ht
    have hx := nx_le k (vv vs) (gf k (vv vs) m t) m
    have hl : (tuD k (vv vs) m t).length = t := by simp [tuD]
    have ha : appU (tuD k (vv vs) m t) (.int (nx k (vv vs) (gf k (vv vs) m t) m : Nat)) = some (tuD k (vv vs) m (t + 1)) := by
      rw [appU_eq (by omega)]
      simp [tuD, List.range_succ]
    have hi : ixD (.lst (tuD k (vv vs) m (t + 1))) (.int (-1)) = some (.int (nx k (vv vs) (gf k (vv vs) m t) m : Nat)) := by
      have hl' : (tuD k (vv vs) m (t + 1)).length = t + 1 := by simp [tuD]
      have hn : ixN (t + 1) (-1) = some t := by unfold ixN; simp <;> omega
      show (ixN (tuD k (vv vs) m (t + 1)).length (-1)).bind _ = _
      rw [hl', hn]
      show (tuD k (vv vs) m (t + 1))[t]? = _
      unfold tuD
      rw [List.getElem?_map, List.getElem?_range (by omega)]
      rfl
    refine ⟨_, rfl, ?_⟩
    simp [wp_eq (next_eq W k hm (f := gf k (vv vs) m t) fun i _ => Nat.lt_of_le_of_lt (gf_le k _ m i t) (by omega)), e_N, ha, hi]
    exact ⟨rfl, _, ixN_nat (by omega), _, fd_ix _ (by omega), _, rfl, t + 1, by omega, by rw [fd_set]; rfl, rfl⟩
  · obtain ⟨rfl, t, x4, ht, rfl⟩ := hJ
    simp at ht
    subst ht
    simp
end Lw
set_option maxHeartbeats 1000000
namespace Lw
open PySem PySem.Spec PyProof.Rows L2 Pu
theorem fd_map (m : Nat) (f : Nat → Nat) : fdD m f = ((List.range m).map f).map EnQ.e := by unfold fdD; rw [List.map_map]; rfl
theorem fd_min (m : Nat) (f : Nat → Nat) : ∃ z : Nat, minD [.tup (fdD (m + 1) f)] = some (.int (z : Nat)) := by
  rw [fd_map, List.range_succ_eq_map, List.map_cons]
  exact ⟨_, min_seq (α := Nat) (by decide) rfl⟩
theorem check_dealt_eq {vs : List Nat} (W : Vt vs) (f : Nat → Nat) (s : DS) : m_check_dealt [vtD vs, .tup (fdD vs.length f)] s = some (.non, s) := by
  have h1 := W.h1
  obtain ⟨m, hm⟩ : ∃ m, vs.length = m + 1 := ⟨vs.length - 1, by omega⟩
  refine def_eq (fun s => ?_) s
  refine wp_def rfl ?_
  obtain ⟨z, hz⟩ := fd_min m f
  have c0 : ∀ s, m_check_seats [vtD vs, .int 0] s = some (.non, s) := fun s => check_seats_eq W (n := 0) (by omega) s
  simp [g_check_dealt, List.replicate, wp_eq c0, hm, hz]
theorem unfair_eq {vs : List Nat} (W : Vt vs) (k : Kd) {f : Nat → Nat} (hf : ∀ i, i < vs.length → f i < 1000) (ha : AL k vs.length (vv vs) f) (s : DS) : m_unfair_pair [vtD vs, .tup (fdD vs.length f), k.str] s = some (.non, s) := by
  have h1 := W.h1
  have h8 := W.h8
  refine def_eq (fun s => ?_) s
  refine wp_def rfl ?_
  have hr : rng1D [.int (vs.length : Nat)] = some ((List.range vs.length).map EnQ.e) := rng1_n (by omega)
  simp [g_unfair_pair, List.replicate, wp_eq (check_dealt_eq W f), wp_eq (dv1 k), hr]
  refine wp_each EnQ.e (fun ρ s' => s' = s ∧ ∃ x3 x4 x5, ρ = [.sh (vtD vs), .sh (.tup (fdD vs.length f)), .sh k.str, x3, x4, x5]) (List.range vs.length) (fun i hi ρ s' hJ => ?_) (fun ρ s' hJ => ?_) ⟨rfl, _, _, _, rfl⟩
  · obtain ⟨rfl, x3, x4, x5, rfl⟩ := hJ
    have hi' : i < vs.length := List.mem_range.mp hi
    have p1 := vv_pos W hi'
    have l1 := hf i hi'
    refine ⟨_, rfl, ?_⟩
    simp only [e_N]
    simp [vt_ix hi', fd_ix f hi', wp_eq (divisor_eq k (a := f i) (by omega)), wp_eq (quot_eq k p1.2 l1), hr]
    refine wp_each EnQ.e (fun ρ s'' => s'' = s' ∧ ∃ x5, ρ = [.sh (vtD vs), .sh (.tup (fdD vs.length f)), .sh k.str, .sh (.int (i : Nat)), .sh (EnQ.e (qn (vv vs i) (dv k (f i)))), x5]) (List.range vs.length) (fun j hj ρ s'' hJ => ?_) (fun ρ s'' hJ => ?_) ⟨rfl, _, rfl⟩
    · obtain ⟨rfl, x5, rfl⟩ := hJ
      have hj' : j < vs.length := List.mem_range.mp hj
      have p2 := vv_pos W hj'
      have l2 := hf j hj'
      refine ⟨_, rfl, ?_⟩
      simp only [e_N]
      by_cases c : 0 < f j
      · have hs : subD (.int (f j : Nat)) (.int 1) = some (.int (f j - 1 : Nat)) := by
          rw [subD_ii, show ((f j : Nat) : Int) - 1 = ((f j - 1 : Nat) : Int) by omega]
        have hn := (ha i j hi' hj' c).1
        simp [vt_ix hj', fd_ix f hj', c, hs, wp_eq (divisor_eq k (a := f j - 1) (by omega)), wp_eq (quot_eq k (a := f j - 1) p2.2 (by omega)), wp_eq (isq_eq k (b := f j - 1) p1 p2 l1 (by omega)), hn, -subD_ii]
      · simp [vt_ix hj', fd_ix f hj', c]
    · obtain ⟨rfl, x5, rfl⟩ := hJ
      simp
  · obtain ⟨rfl, x3, x4, x5, rfl⟩ := hJ
    simp
theorem sumFd : ∀ (m : Nat) (f : Nat → Nat), ((List.range m).map f).sum = S m f
  | 0, _ => rfl
  | m + 1, f => by
    rw [List.range_succ, List.map_append, List.sum_append, sumFd m f]
    simp [S]
theorem sumD_fd (m : Nat) (f : Nat → Nat) : sumD [.tup (fdD m f)] = some (.int (S m f : Nat)) := by
  rw [fd_map, sumV, sumFd]
theorem sumS (vs : List Nat) : vs.sum = S vs.length (vv vs) := by
  rw [← sumFd]
  congr 1
  refine List.ext_getElem (by simp) fun i h1 h2 => ?_
  simp [vv_at h1]
theorem sum_small {vs : List Nat} (W : Vt vs) : vs.sum < 2 ^ 24 := by
  have h8 := W.h8
  have : ∀ l : List Nat, (∀ x ∈ l, x < 2 ^ 20) → l.sum ≤ l.length * 2 ^ 20 := fun l => by
    induction l with
    | nil => simp
    | cons a l ih =>
      intro h
      have := h a (by simp)
      have := ih fun x hx => h x (by simp [hx])
      simp only [List.sum_cons, List.length_cons]
      omega
  have := this vs fun x hx => (W.pos x hx).2
  omega
def nvD (vs : List Nat) (i : Nat) : D := .tup [.int (i : Nat), .int (vv vs i : Nat)]
theorem en_vs (vs : List Nat) : (vs.zipIdx.map fun p => D.tup [.int (p.2 : Nat), EnQ.e p.1]) = (List.range vs.length).map (nvD vs) := by
  refine List.ext_getElem (by simp) fun i h1 h2 => ?_
  have h : i < vs.length := by simpa using h1
  simp [nvD, vv_at h, e_N]
theorem out_eq {vs : List Nat} (W : Vt vs) {f : Nat → Nat} (hf : ∀ i, i < vs.length → f i < 1000) (hp : ∀ i, i < vs.length → f i * vs.sum < vv vs i * S vs.length f + vs.sum ∧ vv vs i * S vs.length f < f i * vs.sum + vs.sum) (hS : S vs.length f < 1000) (s : DS) :
    m_out_of_parts [vtD vs, .tup (fdD vs.length f)] s = some (.non, s) := by
  have h1 := W.h1
  have h8 := W.h8
  have hs := sum_small W
  refine def_eq (fun s => ?_) s
  refine wp_def rfl ?_
  simp [g_out_of_parts, List.replicate, wp_eq (check_dealt_eq W f), sumV, sumD_fd, enD, enL_map, en_vs]
  refine wp_each (nvD vs) (fun ρ s' => s' = s ∧ ∃ x4 x5, ρ = [.sh (vtD vs), .sh (.tup (fdD vs.length f)), .sh (.int (vs.sum : Nat)), .sh (.int (S vs.length f : Nat)), x4, x5]) (List.range vs.length) (fun i hi ρ s' hJ => ?_) (fun ρ s' hJ => ?_) ⟨rfl, _, _, rfl⟩
  · obtain ⟨rfl, x4, x5, rfl⟩ := hJ
    have hi' : i < vs.length := List.mem_range.mp hi
    obtain ⟨q1, q2⟩ := hp i hi'
    have l1 := hf i hi'
    have p1 := vv_pos W hi'
    have m1 : mulD (.int (f i : Nat)) (.int (vs.sum : Nat)) = some (.int (f i * vs.sum : Nat)) := by
      rw [mulD_sm 64 (by simp; omega) (by simp; omega)]; simp
    have m2 : mulD (.int (vv vs i : Nat)) (.int (S vs.length f : Nat)) = some (.int (vv vs i * S vs.length f : Nat)) := by
      rw [mulD_sm 64 (by simp; omega) (by simp; omega)]; simp
    generalize f i * vs.sum = A at *
    generalize vv vs i * S vs.length f = B at *
    refine ⟨_, rfl, ?_⟩
    simp [fd_ix f hi', m1, m2]
    split <;> omega
  · obtain ⟨rfl, x4, x5, rfl⟩ := hJ
    simp
end Lw
set_option maxHeartbeats 1000000
namespace Lw
open PySem PySem.Spec PyProof.Rows L2 Pu
def srt {α : Type} [En α] (l : List α) : List α := l.mergeSort fun x y => !En.lt y x
theorem sortO_en {α : Type} [En α] (h : EnQ.k α ≤ 60) (l : List α) (ht : ((l.map (EnQ.e (α := α))).all isTupN || (l.map (EnQ.e (α := α))).all notTup) = true) : sortO [.lst (l.map (EnQ.e (α := α)))] = some ((srt l).map EnQ.e) := by
  have a : sortB (l.map (EnQ.e (α := α))) = true := by unfold sortB; rw [allCmp_en h l, ht]; rfl
  show (if sortB (l.map EnQ.e) = true then some (sortL (l.map EnQ.e)) else none) = _
  rw [if_pos a]
  unfold sortL srt
  rw [List.map_mergeSort (s := fun x y => !PySem.W.dataLt (toP y) (toP x))]
  intro a _ b _
  rw [En.ltv]
theorem srt_perm {α : Type} [En α] (l : List α) : (srt l).Perm l := List.mergeSort_perm _ _
theorem srt_pair {α : Type} [En α] (l : List α) : (srt l).Pairwise fun x y => En.lt y x = false := by
  have := List.pairwise_mergeSort (le := fun x y : α => !En.lt y x) (fun a b c h1 h2 => by
    simp only [Bool.not_eq_true'] at *
    cases h : En.lt c a with
    | false => rfl
    | true =>
      cases h3 : En.lt a b with
      | true => have := En.trans c a b h h3; rw [this] at h2; cases h2
      | false =>
        have := En.tot a b h3 h1
        subst this
        rw [h] at h2; cases h2) (fun a b => by
    cases h : En.lt a b with
    | false => simp
    | true => simp [lt_asym h]) l
  exact this.imp fun h => by simpa using h
theorem srt_id {α : Type} [En α] {l : List α} (h : l.Pairwise fun x y => En.lt y x = false) : srt l = l := List.mergeSort_of_pairwise (h.imp fun z => by simp [z])
/-! ### by the largest rests -/
def qt (vs : List Nat) (n i : Nat) : Nat := vv vs i * n / vs.sum
def rm (vs : List Nat) (n i : Nat) : Nat := vv vs i * n % vs.sum
def rs (vs : List Nat) (n : Nat) : List (Int × Nat) := (List.range vs.length).map fun i => (-(rm vs n i : Int), i)
def up (vs : List Nat) (n : Nat) : List Nat := ((srt (rs vs n)).take (n - S vs.length (qt vs n))).map Prod.snd
def ft (vs : List Nat) (n i : Nat) : Nat := qt vs n i + (up vs n).count i
theorem S_qr (vs : List Nat) (n : Nat) : vs.sum * S vs.length (qt vs n) + S vs.length (rm vs n) = vs.sum * n := by
  have a : S vs.length (fun i => vs.sum * qt vs n i + rm vs n i) = S vs.length (fun i => n * vv vs i) := S_congr fun i _ => by
    unfold qt rm
    rw [Nat.div_add_mod, Nat.mul_comm]
  rw [S_add, S_mul, S_mul, ← sumS] at a
  rw [a, Nat.mul_comm]
theorem S_q_le {vs : List Nat} (W : Vt vs) (n : Nat) : S vs.length (qt vs n) ≤ n := by
  have := S_qr vs n
  refine Nat.le_of_mul_le_mul_left ?_ (sum_pos W)
  omega
theorem rm_lt {vs : List Nat} (W : Vt vs) (n i : Nat) : rm vs n i < vs.sum := Nat.mod_lt _ (sum_pos W)
theorem up_perm (vs : List Nat) (n : Nat) : ((srt (rs vs n)).map Prod.snd).Perm (List.range vs.length) := by
  have := (srt_perm (rs vs n)).map Prod.snd
  refine this.trans ?_
  unfold rs
  rw [List.map_map]
  have : (Prod.snd ∘ fun i : Nat => (-(rm vs n i : Int), i)) = id := rfl
  rw [this, List.map_id]
theorem up_nodup (vs : List Nat) (n : Nat) : (up vs n).Nodup := by
  have h : ((srt (rs vs n)).map Prod.snd).Nodup := (up_perm vs n).nodup_iff.mpr List.nodup_range
  unfold up
  rw [List.map_take]
  exact h.sublist (List.take_sublist _ _)
theorem up_lt {vs : List Nat} {n i : Nat} (h : i ∈ up vs n) : i < vs.length := by
  unfold up at h
  rw [List.map_take] at h
  exact List.mem_range.mp ((up_perm vs n).mem_iff.mp (List.mem_of_mem_take h))
theorem count_S : ∀ (l : List Nat) (m : Nat), (∀ i ∈ l, i < m) → S m (fun i => l.count i) = l.length
  | [], m, _ => by
    have : ∀ n, S n (fun i => ([] : List Nat).count i) = 0 := fun n => by induction n with
      | zero => rfl
      | succ n ih => show S n _ + _ = 0; rw [ih]; rfl
    exact this m
  | a :: l, m, h => by
    have ih := count_S l m fun i hi => h i (by simp [hi])
    have e : S m (fun i => (a :: l).count i) = S m (fun i => if i = a then l.count i + 1 else l.count i) := S_congr fun i _ => by
      rw [List.count_cons]
      by_cases e : i = a
      · subst e; simp
      · have : ¬ a = i := fun z => e z.symm
        simp [e, this]
    rw [e, S_bump (f := fun i => l.count i) (h a (by simp)), ih]
    rfl
theorem sum_le_mul (V : Nat) : ∀ (l : List Nat), (∀ x ∈ l, x ≤ V) → l.sum ≤ l.length * V
  | [], _ => by simp
  | a :: l, h => by
    have := sum_le_mul V l fun x hx => h x (by simp [hx])
    have := h a (by simp)
    simp only [List.sum_cons, List.length_cons, Nat.add_mul, Nat.one_mul]
    omega
theorem S_up {vs : List Nat} (W : Vt vs) (n : Nat) : S vs.length (rm vs n) = vs.sum * (n - S vs.length (qt vs n)) := by
  have := S_qr vs n
  have := S_q_le W n
  rw [Nat.mul_sub]
  omega
theorem up_len {vs : List Nat} (W : Vt vs) (n : Nat) : (up vs n).length = n - S vs.length (qt vs n) := by
  have a := S_up W n
  have b := sum_le_mul vs.sum ((List.range vs.length).map (rm vs n)) fun x hx => by
    obtain ⟨i, _, rfl⟩ := List.mem_map.mp hx
    exact Nat.le_of_lt (rm_lt W n i)
  rw [sumFd, a] at b
  simp only [List.length_map, List.length_range] at b
  have c : n - S vs.length (qt vs n) ≤ vs.length := by
    refine Nat.le_of_mul_le_mul_left ?_ (sum_pos W)
    rw [Nat.mul_comm vs.sum vs.length]
    exact b
  have l : (srt (rs vs n)).length = vs.length := by rw [(srt_perm _).length_eq]; simp [rs]
  simp only [up, List.length_map, List.length_take, l]
  omega
theorem rs_mem {vs : List Nat} {n : Nat} {y : Int × Nat} (h : y ∈ srt (rs vs n)) : y.1 = -(rm vs n y.2 : Int) := by
  have := (srt_perm _).mem_iff.mp h
  unfold rs at this
  obtain ⟨i, _, rfl⟩ := List.mem_map.mp this
  rfl
theorem up_pos {vs : List Nat} (W : Vt vs) {n i : Nat} (h : i ∈ up vs n) : 0 < rm vs n i := by
  refine Nat.pos_of_ne_zero fun hz => ?_
  unfold up at h
  obtain ⟨x, hx, rfl⟩ := List.mem_map.mp h
  obtain ⟨p, hp, e⟩ := List.getElem_of_mem hx
  rw [List.getElem_take] at e
  simp only [List.length_take] at hp
  have hpR : p < n - S vs.length (qt vs n) := by omega
  have hpl : p < (srt (rs vs n)).length := by omega
  have hd : ∀ y ∈ (srt (rs vs n)).drop p, rm vs n y.2 = 0 := fun y hy => by
    obtain ⟨j, hj, e2⟩ := List.getElem_of_mem hy
    rw [List.getElem_drop] at e2
    by_cases j0 : j = 0
    · subst j0
      have : y = x := by rw [← e2, ← e]; rfl
      rw [this]; exact hz
    · have hj' : p + j < (srt (rs vs n)).length := by simp at hj; omega
      have q := List.pairwise_iff_getElem.mp (srt_pair (rs vs n)) p (p + j) hpl hj' (by omega)
      rw [e, e2] at q
      have m1 := rs_mem (e ▸ List.getElem_mem hpl : x ∈ srt (rs vs n))
      have m2 := rs_mem (e2 ▸ List.getElem_mem hj' : y ∈ srt (rs vs n))
      have q1 : ¬ y.1 < x.1 := fun z => by
        have : En.lt y x = true := by
          show (decide (y.1 < x.1) || _) = true
          simp [z]
        rw [this] at q; cases q
      rw [hz] at m1
      omega
  have tot : ((srt (rs vs n)).map fun y => rm vs n y.2).sum = vs.sum * (n - S vs.length (qt vs n)) := by
    rw [((srt_perm (rs vs n)).map fun y => rm vs n y.2).sum_nat, ← S_up W n, ← sumFd]
    unfold rs
    rw [List.map_map]
    rfl
  rw [← List.take_append_drop p (srt (rs vs n)), List.map_append, List.sum_append] at tot
  have z : (((srt (rs vs n)).drop p).map fun y => rm vs n y.2).sum = 0 := by
    have := sum_le_mul 0 (((srt (rs vs n)).drop p).map fun y => rm vs n y.2) fun v hv => by
      obtain ⟨y, hy, rfl⟩ := List.mem_map.mp hv
      exact Nat.le_of_eq (hd y hy)
    omega
  have b := sum_le_mul vs.sum (((srt (rs vs n)).take p).map fun y => rm vs n y.2) fun v hv => by
    obtain ⟨y, _, rfl⟩ := List.mem_map.mp hv
    exact Nat.le_of_lt (rm_lt W n _)
  have l : (((srt (rs vs n)).take p).map fun y => rm vs n y.2).length ≤ p := by simp; omega
  have c : p * vs.sum < vs.sum * (n - S vs.length (qt vs n)) := by
    rw [Nat.mul_comm]
    exact Nat.mul_lt_mul_of_pos_left hpR (sum_pos W)
  have d := Nat.mul_le_mul_right vs.sum l
  omega
theorem ft_cnt (vs : List Nat) (n i : Nat) : (up vs n).count i ≤ 1 := List.nodup_iff_count.mp (up_nodup vs n) i
theorem S_ft {vs : List Nat} (W : Vt vs) (n : Nat) : S vs.length (ft vs n) = n := by
  have a : S vs.length (ft vs n) = S vs.length (qt vs n) + S vs.length (fun i => (up vs n).count i) := S_add _ _ _
  rw [a, count_S _ _ fun i hi => up_lt hi, up_len W n]
  have := S_q_le W n
  omega
theorem ft_part {vs : List Nat} (W : Vt vs) (n i : Nat) : ft vs n i * vs.sum < vv vs i * n + vs.sum ∧ vv vs i * n < ft vs n i * vs.sum + vs.sum := by
  have hd : vs.sum * qt vs n i + rm vs n i = vv vs i * n := Nat.div_add_mod _ _
  have hl := rm_lt W n i
  have hc := ft_cnt vs n i
  unfold ft
  by_cases h : i ∈ up vs n
  · have hp := up_pos W h
    have h1 : (up vs n).count i = 1 := by have := List.count_pos_iff.mpr h; omega
    rw [h1, Nat.add_mul, Nat.mul_comm (qt vs n i)]
    omega
  · rw [List.count_eq_zero.mpr h, Nat.add_zero, Nat.mul_comm (qt vs n i)]
    omega
end Lw
set_option maxHeartbeats 1000000
namespace Lw
open PySem PySem.Spec PyProof.Rows L2 Pu
theorem fd_bump_count (m : Nat) (q : Nat → Nat) (l : List Nat) (x : Nat) : (fdD m fun i => q i + l.count i).set x (.int (((q x + l.count x : Nat) : Int) + 1)) = fdD m fun i => q i + (l ++ [x]).count i := by
  rw [fd_set (fun i => q i + l.count i) x]
  unfold fdD bump
  refine List.map_congr_left fun i _ => ?_
  by_cases e : i = x
  · subst e; simp [List.count_append]; omega
  · have : [x].count i = 0 := List.count_eq_zero.mpr (by simp; exact e)
    simp [e, List.count_append, this]
theorem qt_small {vs : List Nat} (W : Vt vs) {n i : Nat} (hn : n ≤ 40) (hi : i < vs.length) : qt vs n i < 2 ^ 26 := by
  have := (vv_pos W hi).2
  refine Nat.lt_of_le_of_lt (Nat.div_le_self _ _) ?_
  have : vv vs i * n ≤ vv vs i * 40 := Nat.mul_le_mul_left _ hn
  omega
theorem rests_eq {vs : List Nat} (W : Vt vs) {n : Nat} (hn : n ≤ 40) (s : DS) : m_by_rests [vtD vs, .int (n : Nat)] s = some (.tup (fdD vs.length (ft vs n)), s) := by
  have h1 := W.h1
  have h8 := W.h8
  have hs := sum_small W
  have hsp := sum_pos W
  refine def_eq (fun s => ?_) s
  refine wp_def rfl ?_
  simp [g_by_rests, List.replicate, wp_eq (check_seats_eq W hn), sumV, wipeR]
  refine wp_compT (f := fun x : Nat => D.int (x * n / vs.sum : Nat)) _ (fun x hx => ⟨_, rfl, fun s => ?_⟩) ?_
  · have hx := W.pos x hx
    have m1 : mulD (.int (x : Nat)) (.int (n : Nat)) = some (.int (x * n : Nat)) := by
      rw [mulD_sm 64 (by simp; omega) (by simp; omega)]; simp
    have m2 : divD (.int (x * n : Nat)) (.int (vs.sum : Nat)) = some (.int (x * n / vs.sum : Nat)) := by
      rw [divD_sm _ 64 (by omega) (by simp; omega)]; simp
    simp only [e_N]
    simp [m1, m2, -Int.natCast_mul]
  · have e : (vs.map fun x : Nat => D.int (x * n / vs.sum : Nat)) = fdD vs.length (qt vs n) := by
      unfold fdD
      refine List.ext_getElem (by simp) fun i h1 h2 => ?_
      have h : i < vs.length := by simpa using h1
      simp [qt, vv_at h]
    rw [e]
    simp [enD, enL_map, en_vs, wipeR]
    refine wp_compT (f := fun i : Nat => EnQ.e (-(rm vs n i : Int), i)) _ (fun i hi => ⟨_, rfl, fun s => ?_⟩) ?_
    · have hi' : i < vs.length := List.mem_range.mp hi
      have p1 := vv_pos W hi'
      have q1 := qt_small W hn hi'
      have m1 : mulD (.int (vv vs i : Nat)) (.int (n : Nat)) = some (.int (vv vs i * n : Nat)) := by
        rw [mulD_sm 64 (by simp; omega) (by simp; omega)]; simp
      have m2 : mulD (.int (qt vs n i : Nat)) (.int (vs.sum : Nat)) = some (.int (qt vs n i * vs.sum : Nat)) := by
        rw [mulD_sm 64 (by simp; omega) (by simp; omega)]; simp
      have hd : vs.sum * qt vs n i + rm vs n i = vv vs i * n := Nat.div_add_mod _ _
      have hx : (0 : Int) - (((vv vs i * n : Nat) : Int) - ((qt vs n i * vs.sum : Nat) : Int)) = -(rm vs n i : Int) := by
        rw [Nat.mul_comm (qt vs n i)]; omega
      simp [fd_ix _ hi', m1, m2, SZ_eq, -Int.natCast_mul]
      simp [e_P, e_I, e_N]
      omega
    · have er : ((List.range vs.length).map fun i : Nat => (EnQ.e (-(rm vs n i : Int), i) : D)) = (rs vs n).map EnQ.e := by
        unfold rs; rw [List.map_map]; rfl
      rw [er]
      have so : sortO [.lst ((rs vs n).map EnQ.e)] = some ((srt (rs vs n)).map EnQ.e) := sortO_en (by decide) _ (by
        have : ((rs vs n).map (EnQ.e (α := Int × Nat))).all isTupN = true := by simp [e_P, isTupN]
        rw [this]; rfl)
      have hq := S_q_le W n
      have sq : sumD [.lst (fdD vs.length (qt vs n))] = some (.int (S vs.length (qt vs n) : Nat)) := by
        have := sumL_f (fun x : Nat => (x : Int)) ((List.range vs.length).map (qt vs n))
        rw [sumN, sumFd] at this
        rw [fd_map]
        exact this
      have sl : slD (.lst ((srt (rs vs n)).map EnQ.e)) none (some ((n : Int) - (S vs.length (qt vs n) : Nat))) = some (.lst (((srt (rs vs n)).take (n - S vs.length (qt vs n))).map EnQ.e)) := by
        rw [show (n : Int) - (S vs.length (qt vs n) : Nat) = ((n - S vs.length (qt vs n) : Nat) : Int) by omega, slL_take, List.map_take]
      simp [so, sq, sl]
      rw [← List.map_take]
      have z0 : (fdD vs.length fun i => qt vs n i + ([] : List Nat).count i) = fdD vs.length (qt vs n) := by simp
      refine wp_fold (σ := List Nat) EnQ.e (fun l y => l ++ [y.2]) (fun l ρ s' => s' = s ∧ ∃ x4 x5 x6 x7, ρ = [.sh (vtD vs), .sh (.int (n : Nat)), .sh (.int (vs.sum : Nat)), .ow (fdD vs.length fun i => qt vs n i + l.count i), x4, x5, x6, x7]) ((srt (rs vs n)).take (n - S vs.length (qt vs n))) [] (fun y hy l ρ s' hJ => ?_) (fun ρ s' hJ => ?_) ⟨rfl, _, _, _, _, by rw [z0]⟩
      · obtain ⟨rfl, x4, x5, x6, x7, rfl⟩ := hJ
        have hl : y.2 < vs.length := up_lt (n := n) (List.mem_map.mpr ⟨y, hy, rfl⟩)
        refine ⟨_, rfl, ?_⟩
        simp [e_I, e_N]
        refine ⟨_, ixN_nat hl, _, fd_ix _ hl, _, rfl, ?_⟩
        have z := fd_bump_count vs.length (qt vs n) l y.2
        simp only [List.count_append] at z
        exact z
      · rw [fold_app] at hJ
        obtain ⟨rfl, x4, x5, x6, x7, rfl⟩ := hJ
        simp
        unfold ft up
        simp only [List.map_take]
end Lw
set_option maxHeartbeats 1000000
namespace Lw
open PySem PySem.Spec PyProof.Rows L2 Pu
/-- the quotient behind i's seats, and at its last seat -/
def aq (k : Kd) (v f : Nat → Nat) (i : Nat) : Nat × (Nat × Nat) := qn (v i) (dv k (f i))
def lq (k : Kd) (v f : Nat → Nat) (i : Nat) : Nat × (Nat × Nat) := if 0 < f i then qn (v i) (dv k (f i - 1)) else (1, (0, 1))
def lowOk (k : Kd) (v f : Nat → Nat) (n : Nat) (lo : Nat × Nat) : Prop := lo = (0, 1) ∨ ∃ i, i < n ∧ lo = (aq k v f i).2
def higOk (k : Kd) (v f : Nat → Nat) (n : Nat) (hi : Option (Nat × Nat)) : Prop := ∀ h, hi = some h → ∃ j, j < n ∧ 0 < f j ∧ (lq k v f j).1 = 0 ∧ h = (lq k v f j).2
theorem aq_key {k : Kd} {v f : Nat → Nat} {i : Nat} (h : dn k (f i) ≠ 0) : (aq k v f i).1 = 0 := by
  unfold aq qn
  rw [if_neg]
  cases k <;> simp [dv, dn] at h ⊢ <;> omega
theorem low_hig {k : Kd} {v f : Nat → Nat} {n : Nat} (hv : ∀ i, i < n → 0 < v i) (ha : AL k n v f) (hd : ∀ i, i < n → dn k (f i) ≠ 0) {lo h : Nat × Nat} (hl : lowOk k v f n lo) (hh : higOk k v f n (some h)) : lo.1 * h.2 ≤ h.1 * lo.2 := by
  obtain ⟨j, hj, hp, hk, rfl⟩ := hh h rfl
  rcases hl with rfl | ⟨i, hi, rfl⟩
  · simp
  · have a := (ha i j hi hj hp).1
    have b := moreQ_qn k (a := f i) (b := f j - 1) (hv i hi) (hv j hj)
    rw [decide_eq_false a] at b
    have e : lq k v f j = qn (v j) (dv k (f j - 1)) := if_pos hp
    rw [e] at hk ⊢
    have hk2 := aq_key (v := v) (hd i hi)
    unfold aq at hk2 ⊢
    unfold moreQ at b
    rw [hk2, hk, if_pos rfl] at b
    unfold lessQ at b
    have := of_decide_eq_false b
    omega
theorem zp_vs (vs : List Nat) (f : Nat → Nat) : zpL (vs.map EnQ.e) (fdD vs.length f) = (List.range vs.length).map fun i => D.tup [.int (vv vs i : Nat), .int (f i : Nat)] := by
  unfold zpL fdD
  refine List.ext_getElem (by simp) fun i h1 h2 => ?_
  have h : i < vs.length := by simpa using h2
  simp [vv_at h, e_N]
theorem cmp_pos (a b : Nat × Nat) : (0 < cmpQ a b) ↔ b.1 * a.2 < a.1 * b.2 := by unfold cmpQ; split <;> (try split) <;> omega
theorem cmp_neg (a b : Nat × Nat) : (cmpQ a b < 0) ↔ a.1 * b.2 < b.1 * a.2 := by unfold cmpQ; split <;> (try split) <;> omega
abbrev sm (a : Nat × Nat) : Prop := a.1 < 2 ^ 64 ∧ a.2 < 2 ^ 64
def POk (d : D) : Prop := ∃ (lo : Nat × Nat) (hi : Option (Nat × Nat)), d = .tup [EnQ.e lo, EnQ.e hi] ∧ sm lo ∧ ∀ h, hi = some h → sm h ∧ lo.1 * h.2 ≤ h.1 * lo.2
def JP (vs : List Nat) (k : Kd) (f : Nat → Nat) (ρ : Rho) : Prop := ∃ (lo : Nat × Nat) (hi : Option (Nat × Nat)) (x5 x6 x7 x8 : Slot), lowOk k (vv vs) f vs.length lo ∧ higOk k (vv vs) f vs.length hi ∧ ρ = [.sh (vtD vs), .sh (.tup (fdD vs.length f)), .sh k.str, .sh (EnQ.e lo), .sh (EnQ.e hi), x5, x6, x7, x8]
theorem price_eq {vs : List Nat} (W : Vt vs) (k : Kd) {f : Nat → Nat} (hf : ∀ i, i < vs.length → f i < 1000) (ha : AL k vs.length (vv vs) f) (hd : ∀ i, i < vs.length → dn k (f i) ≠ 0) (s : DS) :
    wp (m_price_of [vtD vs, .tup (fdD vs.length f), k.str]) s fun d s' => s' = s ∧ POk d := by
  have h1 := W.h1
  have h8 := W.h8
  refine wp_def rfl ?_
  have f0 : ∀ s, m_fraction [.int 0, .int 1] s = some (EnQ.e ((0, 1) : Nat × Nat), s) := fun s => fraction_eq (n := 0) (d := 1) (by omega) (by omega) s
  simp [g_price_of, List.replicate, wp_eq (check_dealt_eq W f), wp_eq (dv1 k), wp_eq f0, zpD, zp_vs]
  have asm : ∀ i, i < vs.length → sm (aq k (vv vs) f i).2 := fun i hi => qn_small (vv_pos W hi).2 (hf i hi)
  have lsm : ∀ i, i < vs.length → sm (lq k (vv vs) f i).2 := fun i hi => by
    unfold lq
    split
    · exact qn_small (vv_pos W hi).2 (by have := hf i hi; omega)
    · exact ⟨by decide, by decide⟩
  have lows : ∀ lo, lowOk k (vv vs) f vs.length lo → sm lo := fun lo h => by
    rcases h with rfl | ⟨i, hi, rfl⟩
    · exact ⟨by decide, by decide⟩
    · exact asm i hi
  have higs : ∀ h, higOk k (vv vs) f vs.length (some h) → sm h := fun h hh => by
    obtain ⟨j, hj, _, _, rfl⟩ := hh h rfl
    exact lsm j hj
  refine wp_each (fun i : Nat => D.tup [.int (vv vs i : Nat), .int (f i : Nat)]) (fun ρ s' => s' = s ∧ JP vs k f ρ) (List.range vs.length) (fun i hi ρ s' hJ => ?_) (fun ρ s' hJ => ?_) ⟨rfl, (0, 1), none, _, _, _, _, .inl rfl, (fun h z => by cases z), rfl⟩
  · obtain ⟨rfl, lo, hg, x5, x6, x7, x8, hlo, hhg, rfl⟩ := hJ
    have hi' : i < vs.length := List.mem_range.mp hi
    have p1 := vv_pos W hi'
    have l1 := hf i hi'
    have k0 := aq_key (v := vv vs) (hd i hi')
    have x1 : ∀ d : Nat × (Nat × Nat), ixD (EnQ.e d) (.int 1) = some (EnQ.e d.2) := fun d => ixD_t1 _
    have x0 : ∀ d : Nat × (Nat × Nat), ixD (EnQ.e d) (.int 0) = some (.int (d.1 : Nat)) := fun d => ixD_t0 _
    obtain ⟨b1, b2⟩ := asm i hi'
    obtain ⟨b3, b4⟩ := lows lo hlo
    obtain ⟨b5, b6⟩ := lsm i hi'
    have ea : ∀ s, m_quotient [.int (vv vs i : Nat), EnQ.e (dv k (f i))] s = some (EnQ.e (aq k (vv vs) f i), s) := fun s => quot_eq k p1.2 l1 s
    refine ⟨_, rfl, ?_⟩
    have tail : wp ((sSeq (sSet 8 (xCall m_quotient (aC (xSh 5) (aC (xCall m_divisor (aC (xSh 2) (aC (xSh 6) (aN)))) (aN))))) (sSeq (sIf (tV (x2 gtA (x2 ixD (xNm 8) (xC (.int 0))) (xC (.int 0)))) (sRet (xC .non)) (sNext)) (sSeq (sSet 3 (xIf (tV (x2 gtA (xCall m_compare (aC (x2 ixD (xNm 8) (xC (.int 1))) (aC (xSh 3) (aN)))) (xC (.int 0)))) (x2 ixD (xNm 8) (xC (.int 1))) (xSh 3))) (sIf (tAnd (tV (x2 eqD (x2 ixD (xNm 7) (xC (.int 0))) (xC (.int 0)))) (tOr (tV (x2 isD (xNm 4) (xC .non))) (tV (x2 ltA (xCall m_compare (aC (x2 ixD (xNm 7) (xC (.int 1))) (aC (xSh 4) (aN)))) (xC (.int 0)))))) (sSet 4 (x2 ixD (xNm 7) (xC (.int 1)))) (sNext))))) [.sh (vtD vs), .sh (.tup (fdD vs.length f)), .sh k.str, .sh (EnQ.e lo), .sh (EnQ.e hg), .sh (.int (vv vs i : Nat)), .sh (.int (f i : Nat)), .sh (EnQ.e (lq k (vv vs) f i)), x8]) s'
        fun r s'' => r.1 = .nx ∧ s'' = s' ∧ JP vs k f r.2 := by
      have fin : ∀ lo' hg', lowOk k (vv vs) f vs.length lo' → higOk k (vv vs) f vs.length hg' → JP vs k f [.sh (vtD vs), .sh (.tup (fdD vs.length f)), .sh k.str, .sh (EnQ.e lo'), .sh (EnQ.e hg'), .sh (.int (vv vs i : Nat)), .sh (.int (f i : Nat)), .sh (EnQ.e (lq k (vv vs) f i)), .sh (EnQ.e (aq k (vv vs) f i))] := fun lo' hg' y z => ⟨lo', hg', _, _, _, _, y, z, rfl⟩
      have la : lowOk k (vv vs) f vs.length (aq k (vv vs) f i).2 := .inr ⟨i, hi', rfl⟩
      have hl : (lq k (vv vs) f i).1 = 0 → higOk k (vv vs) f vs.length (some (lq k (vv vs) f i).2) := fun c2 h z => by
        cases z
        refine ⟨i, hi', ?_, c2, rfl⟩
        refine Nat.pos_of_ne_zero fun w => ?_
        unfold lq at c2
        rw [if_neg (by omega)] at c2
        cases c2
      by_cases c2 : (lq k (vv vs) f i).1 = 0
      · cases hg with
        | none =>
          have nn : isNonD (EnQ.e (none : Option (Nat × Nat))) = true := rfl
          by_cases c1 : lo.1 * (aq k (vv vs) f i).2.2 < (aq k (vv vs) f i).2.1 * lo.2
          · simp [wp_eq (divisor_eq k (a := f i) (by omega)), wp_eq ea, x0, x1, k0, wp_eq (compare_eq b1 b2 b3 b4), cmp_pos, c1, c2, nn, -ixD_tn, -e_none]
            exact fin _ _ la (hl c2)
          · simp [wp_eq (divisor_eq k (a := f i) (by omega)), wp_eq ea, x0, x1, k0, wp_eq (compare_eq b1 b2 b3 b4), cmp_pos, c1, c2, nn, -ixD_tn, -e_none]
            exact fin _ _ hlo (hl c2)
        | some h =>
          have nn : isNonD (EnQ.e (some h)) = false := rfl
          obtain ⟨b7, b8⟩ := higs h hhg
          have ce : ∀ s, m_compare [EnQ.e (lq k (vv vs) f i).2, EnQ.e (some h)] s = some (.int (cmpQ (lq k (vv vs) f i).2 h), s) := fun s => compare_eq b5 b6 b7 b8 s
          by_cases c1 : lo.1 * (aq k (vv vs) f i).2.2 < (aq k (vv vs) f i).2.1 * lo.2 <;> by_cases c3 : (lq k (vv vs) f i).2.1 * h.2 < h.1 * (lq k (vv vs) f i).2.2 <;>
            simp [wp_eq (divisor_eq k (a := f i) (by omega)), wp_eq ea, x0, x1, k0, wp_eq (compare_eq b1 b2 b3 b4), wp_eq ce, cmp_pos, cmp_neg, c1, c2, c3, nn, -ixD_tn]
          · exact fin _ _ la (hl c2)
          · exact fin _ _ la hhg
          · exact fin _ _ hlo (hl c2)
          · exact fin _ _ hlo hhg
      · by_cases c1 : lo.1 * (aq k (vv vs) f i).2.2 < (aq k (vv vs) f i).2.1 * lo.2
        · simp [wp_eq (divisor_eq k (a := f i) (by omega)), wp_eq ea, x0, x1, k0, wp_eq (compare_eq b1 b2 b3 b4), cmp_pos, c1, c2, -ixD_tn]
          exact fin _ _ la hhg
        · simp [wp_eq (divisor_eq k (a := f i) (by omega)), wp_eq ea, x0, x1, k0, wp_eq (compare_eq b1 b2 b3 b4), cmp_pos, c1, c2, -ixD_tn]
          exact fin _ _ hlo hhg
    have first : wp (xIf (tV (x2 gtA (xNm 6) (xC (.int 0)))) (xCall m_quotient (aC (xSh 5) (aC (xCall m_divisor (aC (xSh 2) (aC (x2 subD (xNm 6) (xC (.int 1))) (aN)))) (aN)))) (xTup (aC (xC (.int 1)) (aC (xTup (aC (xC (.int 0)) (aC (xC (.int 1)) (aN)))) (aN)))) [.sh (vtD vs), .sh (.tup (fdD vs.length f)), .sh k.str, .sh (EnQ.e lo), .sh (EnQ.e hg), .sh (.int (vv vs i : Nat)), .sh (.int (f i : Nat)), x7, x8]) s' fun d s1 => d = EnQ.e (lq k (vv vs) f i) ∧ s1 = s' := by
      by_cases c : 0 < f i
      · have hs : subD (.int (f i : Nat)) (.int 1) = some (.int (f i - 1 : Nat)) := by
          rw [subD_ii, show ((f i : Nat) : Int) - 1 = ((f i - 1 : Nat) : Int) by omega]
        have e : lq k (vv vs) f i = qn (vv vs i) (dv k (f i - 1)) := if_pos c
        simp [c, hs, wp_eq (divisor_eq k (a := f i - 1) (by omega)), wp_eq (quot_eq k (a := f i - 1) p1.2 (by omega)), e, -subD_ii]
      · have e : lq k (vv vs) f i = (1, (0, 1)) := if_neg c
        simp [c, e, SZ_eq, e_P, e_N]
    refine (w_sSeq _ _).mpr ((w_sSet _ _).mpr (wp_mono first fun d s1 h => ?_))
    obtain ⟨rfl, rfl⟩ := h
    refine aft_nx.mpr (wp_mono tail fun r s'' z => ?_)
    obtain ⟨r1, r2⟩ := r
    obtain ⟨z1, z2, z3⟩ := z
    cases z1
    exact ⟨z2, z3⟩
  · obtain ⟨rfl, lo, hg, x5, x6, x7, x8, hlo, hhg, rfl⟩ := hJ
    cases hg with
    | none =>
      simp [SZ_eq, e_none]
      exact .inl ⟨rfl, lo, none, rfl, lows lo hlo, fun h z => by cases z⟩
    | some h =>
      obtain ⟨b1, b2⟩ := lows lo hlo
      obtain ⟨b3, b4⟩ := higs h hhg
      have hc := low_hig (fun i hi => (vv_pos W hi).1) ha hd hlo hhg
      have hc' : ¬ h.1 * lo.2 < lo.1 * h.2 := by omega
      have nn : isNonD (EnQ.e h) = false := rfl
      simp [SZ_eq, e_some, nn, wp_eq (compare_eq b1 b2 b3 b4), cmp_pos, hc']
      exact ⟨lo, some h, rfl, lows lo hlo, fun h' z => by cases z; exact ⟨higs h hhg, hc⟩⟩
end Lw
set_option maxHeartbeats 1000000
namespace Lw
open PySem PySem.Spec PyProof.Rows L2 Pu
def LOk (vs : List Nat) (n : Nat) (d : D) : Prop := d = .non ∨ ∃ t i : Nat, d = .tup [.int (t + 1 : Nat), .int (i : Nat)] ∧ t + 1 ≤ n ∧ i < vs.length ∧ ft vs (t + 1) i < ft vs t i
theorem loses_eq {vs : List Nat} (W : Vt vs) {n : Nat} (hn : n ≤ 40) (s : DS) : wp (m_loses_by_more [vtD vs, .int (n : Nat)]) s fun d s' => s' = s ∧ LOk vs n d := by
  have h1 := W.h1
  have h8 := W.h8
  refine wp_def rfl ?_
  have hr : rng2D [.int 1, .int ((n : Int) + 1)] = some ((List.range' 1 n).map EnQ.e) := by
    have := rng2_n (a := 1) (b := n + 1) (by omega) (by omega)
    simpa using this
  have hl : rng1D [.int (vs.length : Nat)] = some ((List.range vs.length).map EnQ.e) := rng1_n (by omega)
  simp [g_loses_by_more, List.replicate, wp_eq (check_seats_eq W hn), hr]
  refine wp_each EnQ.e (fun ρ s' => s' = s ∧ ∃ x2 x3 x4 x5, ρ = [.sh (vtD vs), .sh (.int (n : Nat)), x2, x3, x4, x5]) (List.range' 1 n) (fun t ht ρ s' hJ => ?_) (fun ρ s' hJ => ?_) ⟨rfl, _, _, _, _, rfl⟩
  · obtain ⟨rfl, x2, x3, x4, x5, rfl⟩ := hJ
    have ht' := List.mem_range'_1.mp ht
    obtain ⟨u, rfl⟩ : ∃ u, t = u + 1 := ⟨t - 1, by omega⟩
    have e1 : ∀ s, m_by_rests [vtD vs, .int (u : Nat)] s = some (.tup (fdD vs.length (ft vs u)), s) := fun s => rests_eq W (by omega) s
    have e2 : ∀ s, m_by_rests [vtD vs, .int ((u : Int) + 1)] s = some (.tup (fdD vs.length (ft vs (u + 1))), s) := fun s => rests_eq W (n := u + 1) (by omega) s
    refine ⟨_, rfl, ?_⟩
    simp [e_N, wp_eq e1, wp_eq e2, hl]
    refine wp_each EnQ.e (fun ρ s'' => s'' = s' ∧ ∃ x5, ρ = [.sh (vtD vs), .sh (.int (n : Nat)), .sh (.int ((u : Int) + 1)), .sh (.tup (fdD vs.length (ft vs u))), .sh (.tup (fdD vs.length (ft vs (u + 1)))), x5]) (List.range vs.length) (fun i hi ρ s'' hJ => ?_) (fun ρ s'' hJ => ?_) ⟨rfl, _, rfl⟩
    · obtain ⟨rfl, x5, rfl⟩ := hJ
      have hi' : i < vs.length := List.mem_range.mp hi
      refine ⟨_, rfl, ?_⟩
      simp only [e_N]
      by_cases c : ft vs (u + 1) i < ft vs u i
      · simp [fd_ix _ hi', c]
        exact ⟨by rw [SZ_eq]; decide, .inr ⟨u, i, by simp, by omega, hi', c⟩⟩
      · simp [fd_ix _ hi', c]
    · obtain ⟨rfl, x5, rfl⟩ := hJ
      simp
  · obtain ⟨rfl, x2, x3, x4, x5, rfl⟩ := hJ
    simp
    exact .inl rfl
end Lw
set_option maxHeartbeats 1000000
namespace Lw
open PySem PySem.Spec PyProof.Rows L2 Pu
theorem S_const (q : Nat) : ∀ m, S m (fun _ => q) = m * q
  | 0 => by simp [S]
  | m + 1 => by show S m _ + q = _; rw [S_const q m, Nat.add_mul, Nat.one_mul]
/-- alike votes: the largest rests give them in turn -/
theorem ft_alike {m c : Nat} (hm : 0 < m) (hc : 0 < c) (n : Nat) : ∀ i, i < m → ft (List.replicate m c) n i = n / m + if i < n % m then 1 else 0 := by
  have hl : (List.replicate m c).length = m := by simp
  have hv : ∀ i, i < m → vv (List.replicate m c) i = c := fun i hi => by rw [vv_at (by simpa using hi)]; simp
  have hs : (List.replicate m c).sum = c * m := by simp [Nat.mul_comm]
  have hq : ∀ i, i < m → qt (List.replicate m c) n i = n / m := fun i hi => by
    unfold qt; rw [hv i hi, hs, Nat.mul_div_mul_left _ _ hc]
  have hr : ∀ i, i < m → rm (List.replicate m c) n i = c * (n % m) := fun i hi => by
    unfold rm; rw [hv i hi, hs, Nat.mul_mod_mul_left]
  have hsq : S (List.replicate m c).length (qt (List.replicate m c) n) = m * (n / m) := by
    rw [hl, S_congr (g := fun _ => n / m) hq, S_const]
  have hrs : rs (List.replicate m c) n = (List.range m).map fun i => (-((c * (n % m) : Nat) : Int), i) := by
    unfold rs; rw [hl]
    exact List.map_congr_left fun i hi => by rw [hr i (List.mem_range.mp hi)]
  have hso : srt (rs (List.replicate m c) n) = rs (List.replicate m c) n := by
    refine srt_id ?_
    rw [hrs, List.pairwise_map]
    refine List.pairwise_lt_range.imp fun {a b} hab => ?_
    show (decide _ || (!decide _ && decide (b < a))) = false
    have : ¬ b < a := by omega
    simp [this]
  have hup : up (List.replicate m c) n = List.range (n % m) := by
    unfold up
    have hR : n - S (List.replicate m c).length (qt (List.replicate m c) n) = n % m := by
      rw [hsq]; have := Nat.div_add_mod n m; omega
    have hlt : n % m ≤ m := Nat.le_of_lt (Nat.mod_lt _ hm)
    rw [hR, hso, hrs, ← List.map_take, List.map_map, List.take_range, Nat.min_eq_left hlt]
    exact (List.map_id _)
  intro i hi
  unfold ft
  rw [hq i hi, hup]
  congr 1
  by_cases h : i < n % m
  · rw [if_pos h]
    have := List.nodup_iff_count.mp (List.nodup_range (n := n % m)) i
    have := List.count_pos_iff.mpr (List.mem_range.mpr h)
    omega
  · rw [if_neg h]
    exact List.count_eq_zero.mpr fun z => h (List.mem_range.mp z)
end Lw
namespace Lw
open PySem PySem.Spec PyProof.Rows L2 Pu
def gp11 : SF := sRet (xAnd (x2 leA (x2 subD (xL maxD (aC (xNm 10) (aN))) (xL minD (aC (xNm 10) (aN)))) (xC (.int 1))) (xAnd (x2 eqD (xCall m_by_quotients (aC (xSh 9) (aC (xSh 2) (aC (xC (.str "middle")) (aN))))) (xNm 10)) (x2 eqD (xCall m_by_quotients (aC (xSh 9) (aC (xSh 2) (aC (xC (.str "greatest")) (aN))))) (xNm 10))))
def gp10 : SF := sSeq (sSet 10 (xCall m_by_rests (aC (xSh 9) (aC (xSh 2) (aN))))) gp11
def gp9 : SF := sSeq (sSet 9 (x2 repT (xTup (aC (xC (.int 7)) (aN))) (xNm 3))) gp10
def gp8 : SF := sSeq (sIf (tV (x2 isNotD (xNm 8) (xC .non))) (sSeq (sTo (gTp [gNm 17, gNm 7]) (xSh 8)) (sIf (tV (x2 geA (x2 ixD (xCall m_by_rests (aC (xSh 1) (aC (xSh 17) (aN)))) (xNm 7)) (x2 ixD (xCall m_by_rests (aC (xSh 1) (aC (x2 subD (xNm 17) (xC (.int 1))) (aN)))) (xNm 7)))) (sRet (xC (.bl false))) (sNext))) (sNext)) gp9
def gp7 : SF := sSeq (sSet 8 (xCall m_loses_by_more (aC (xSh 1) (aC (xSh 2) (aN))))) gp8
def gp6 : SF := sSeq (sFor (iRg rng1D (aC (xSh 3) (aN))) (gNm 7) (sSeq (sSet 13 (x2 mulD (x2 ixD (xNm 1) (xNm 7)) (xNm 2))) (sIf (tV (x2 ninD (x2 ixD (xNm 6) (xNm 7)) (xTup (aC (x2 divD (xNm 13) (xL sumD (aC (xNm 1) (aN)))) (aC (x2 addD (x2 divD (xNm 13) (xL sumD (aC (xNm 1) (aN)))) (xC (.int 1))) (aN)))))) (sRet (xC (.bl false))) (sNext)))) gp7
def gp5 : SF := sSeq (sIf (tOr (tV (x2 isNotD (xCall m_out_of_parts (aC (xSh 1) (aC (xSh 6) (aN)))) (xC .non))) (tV (x2 neD (xL sumD (aC (xNm 6) (aN))) (xNm 2)))) (sRet (xC (.bl false))) (sNext)) gp6
def gp4 : SF := sSeq (sSet 6 (xCall m_by_rests (aC (xSh 1) (aC (xSh 2) (aN))))) gp5
def gp3 : SF := sSeq (sIf (tV (x2 gtA (xNm 3) (xC (.int 1)))) (sSeq (sSet 11 (xCall m__law_take (aC (xSh 0) (aC (xSh 3) (aN))))) (sSeq (sSet 12 (xCall m__law_take (aC (xSh 0) (aC (xSh 3) (aN))))) (sIf (tV (x2 neD (xNm 11) (xNm 12))) (sSeq (sSet 14 (xL tupD (aC (xOf (oComp (iRg rng1D (aC (xSh 3) (aN))) (gNm 7) (tV (x2 ninD (xNm 7) (xTup (aC (xSh 11) (aC (xSh 12) (aN)))))) (x2 ixD (xNm 1) (xNm 7)) [7])) (aN)))) (sSeq (sSet 15 (x2 addD (xTup (aC (x2 addD (x2 ixD (xNm 1) (xNm 11)) (x2 ixD (xNm 1) (xNm 12))) (aN))) (xNm 14))) (sSeq (sIf (tOr (tV (x2 ltA (x2 addD (x2 ixD (xCall m_by_quotients (aC (xSh 15) (aC (xSh 2) (aC (xC (.str "greatest")) (aN))))) (xC (.int 0))) (xC (.int 1))) (x2 addD (x2 ixD (xNm 4) (xNm 11)) (x2 ixD (xNm 4) (xNm 12))))) (tV (x2 gtA (x2 ixD (xCall m_by_quotients (aC (xSh 15) (aC (xSh 2) (aC (xC (.str "least")) (aN))))) (xC (.int 0))) (x2 addD (x2 addD (x2 ixD (xNm 5) (xNm 11)) (x2 ixD (xNm 5) (xNm 12))) (xC (.int 1)))))) (sRet (xC (.bl false))) (sNext)) (sSeq (sSet 16 (xCall m_turns (aC (xSh 15) (aC (xSh 2) (aC (xC (.str "greatest")) (aN)))))) (sIf (tV (x2 neD (xL lenD (aC (xOf (oComp (iSq (xNm 16)) (gNm 7) (tV (x2 eqD (xNm 7) (xC (.int 0)))) (xSh 7) [7])) (aN))) (x2 ixD (xCall m_by_quotients (aC (xSh 15) (aC (xSh 2) (aC (xC (.str "greatest")) (aN))))) (xC (.int 0))))) (sRet (xC (.bl false))) (sNext)))))) (sNext)))) (sNext)) gp4
def gp2 : SF := sSeq (sIf (tV (x2 gtA (xL lenD (aC (xOf (oComp (iRg rng1D (aC (xSh 3) (aN))) (gNm 7) (tOr (tV (x2 ltA (x2 mulD (x2 ixD (xNm 4) (xNm 7)) (xL sumD (aC (xNm 1) (aN)))) (x2 addD (x2 subD (x2 mulD (x2 ixD (xNm 1) (xNm 7)) (xNm 2)) (xL sumD (aC (xNm 1) (aN)))) (xC (.int 1))))) (tV (x2 gtA (x2 divD (x2 mulD (x2 ixD (xNm 1) (xNm 7)) (xNm 2)) (xL sumD (aC (xNm 1) (aN)))) (x2 ixD (xNm 4) (xNm 7))))) (xSh 7) [7])) (aN))) (xC (.int 0)))) (sRet (xC (.bl false))) (sNext)) gp3
def gp1 : SF := sSeq (sSet 5 (xCall m_by_quotients (aC (xSh 1) (aC (xSh 2) (aC (xC (.str "least")) (aN)))))) gp2
def gp0 : SF := sSeq (sSet 4 (xCall m_by_quotients (aC (xSh 1) (aC (xSh 2) (aC (xC (.str "greatest")) (aN)))))) gp1
theorem gp_eq : g__law_part1 = gp0 := rfl
def gl5 : SF := sRet (xCall m__law_part1 (aC (xSh 1) (aC (xSh 2) (aC (xSh 3) (aC (xSh 4) (aN))))))
def gl4 : SF := sSeq (sFor (iSq (xTup (aC (xC (.str "greatest")) (aC (xC (.str "middle")) (aC (xC (.str "least")) (aN)))))) (gNm 5) (sSeq (sSet 6 (xCall m_by_quotients (aC (xSh 2) (aC (xSh 3) (aC (xSh 5) (aN)))))) (sSeq (sSet 7 (xCall m_turns (aC (xSh 2) (aC (xSh 3) (aC (xSh 5) (aN)))))) (sSeq (sIf (tOr (tV (x2 neD (xL sumD (aC (xNm 6) (aN))) (xNm 3))) (tV (x2 neD (xOf (oComp (iRg rng1D (aC (xSh 4) (aN))) (gNm 18) (tYes') (xL lenD (aC (xOf (oComp (iSq (xNm 7)) (gNm 12) (tV (x2 eqD (xNm 12) (xNm 18))) (xSh 12) [12])) (aN))) [18])) (xOf (oL listO (aC (xNm 6) (aN))))))) (sRet (xC (.bl false))) (sNext)) (sSeq (sIf (tV (x2 ltA (xNm 3) (xC (.int 12)))) (sSeq (sSet 13 (xCall m_by_quotients (aC (xSh 2) (aC (x2 addD (xNm 3) (xC (.int 1))) (aC (xSh 5) (aN)))))) (sIf (tOr (tV (x2 neD (xOf (oL sortO (aC (xOf (oComp (iRg rng1D (aC (xSh 4) (aN))) (gNm 12) (tYes') (x2 subD (x2 ixD (xNm 13) (xNm 12)) (x2 ixD (xNm 6) (xNm 12))) [12])) (aN)))) (xOf (o2 catO (xOf (o2 repO (xOf (oLst (aC (xC (.int 0)) (aN)))) (x2 subD (xNm 4) (xC (.int 1))))) (xOf (oLst (aC (xC (.int 1)) (aN)))))))) (tV (x2 neD (xSl slD (xCall m_turns (aC (xSh 2) (aC (x2 addD (xNm 3) (xC (.int 1))) (aC (xSh 5) (aN))))) none (some (xSh 3))) (xNm 7)))) (sRet (xC (.bl false))) (sNext))) (sNext)) (sSeq (sSet 8 (xCall m__law_take (aC (xSh 1) (aC (xSh 4) (aN))))) (sSeq (sSet 9 (x2 addD (x2 addD (xSl slD (xNm 2) none (some (xSh 8))) (xTup (aC (x2 addD (x2 addD (x2 ixD (xNm 2) (xNm 8)) (xC (.int 1))) (xCall m__law_take (aC (xSh 1) (aC (xC (.int 20)) (aN))))) (aN)))) (xSl slD (xNm 2) (some (x2 addD (xNm 8) (xC (.int 1)))) none))) (sSeq (sSet 10 (xCall m_by_quotients (aC (xSh 9) (aC (xSh 3) (aC (xSh 5) (aN)))))) (sSeq (sIf (tOr (tV (x2 ltA (x2 ixD (xNm 10) (xNm 8)) (x2 ixD (xNm 6) (xNm 8)))) (tV (x2 gtA (xL lenD (aC (xOf (oComp (iRg rng1D (aC (xSh 4) (aN))) (gNm 12) (tAnd (tV (x2 neD (xNm 12) (xNm 8))) (tV (x2 gtA (x2 ixD (xNm 10) (xNm 12)) (x2 ixD (xNm 6) (xNm 12))))) (xSh 12) [12])) (aN))) (xC (.int 0))))) (sRet (xC (.bl false))) (sNext)) (sSeq (sSet 11 (x2 addD (xC (.int 2)) (xCall m__law_take (aC (xSh 1) (aC (xC (.int 4)) (aN)))))) (sSeq (sIf (tV (x2 neD (xCall m_by_quotients (aC (xL tupD (aC (xOf (oComp (iSq (xNm 2)) (gNm 18) (tYes') (x2 mulD (xNm 11) (xNm 18)) [18])) (aN))) (aC (xSh 3) (aC (xSh 5) (aN))))) (xNm 6))) (sRet (xC (.bl false))) (sNext)) (sSeq (sIf (tV (x2 isNotD (xCall m_unfair_pair (aC (xSh 2) (aC (xSh 6) (aC (xSh 5) (aN))))) (xC .non))) (sRet (xC (.bl false))) (sNext)) (sSeq (sFor (iRg rng1D (aC (xSh 4) (aN))) (gNm 12) (sFor (iRg rng1D (aC (xSh 4) (aN))) (gNm 14) (sIf (tAnd (tV (x2 gtA (x2 ixD (xNm 2) (xNm 12)) (x2 ixD (xNm 2) (xNm 14)))) (tV (x2 ltA (x2 ixD (xNm 6) (xNm 12)) (x2 ixD (xNm 6) (xNm 14))))) (sRet (xC (.bl false))) (sNext)))) (sIf (tOr (tV (x2 eqD (xNm 5) (xC (.str "greatest")))) (tV (x2 geA (xNm 3) (xNm 4)))) (sSeq (sSet 15 (xCall m_price_of (aC (xSh 2) (aC (xSh 6) (aC (xSh 5) (aN)))))) (sSeq (sIf (tV (x2 isD (xNm 15) (xC .non))) (sRet (xC (.bl false))) (sNext)) (sSeq (sTo (gTp [gNm 16, gNm 17]) (xSh 15)) (sIf (tAnd (tV (x2 isNotD (xNm 17) (xC .non))) (tV (x2 gtA (x2 mulD (x2 ixD (xNm 16) (xC (.int 0))) (x2 ixD (xNm 17) (xC (.int 1)))) (x2 mulD (x2 ixD (xNm 17) (xC (.int 0))) (x2 ixD (xNm 16) (xC (.int 1))))))) (sRet (xC (.bl false))) (sNext))))) (sNext))))))))))))))) gl5
def gl3 : SF := sSeq (sSet 4 (xL lenD (aC (xNm 2) (aN)))) gl4
def gl2 : SF := sSeq (sSet 3 (xCall m__law_take (aC (xSh 1) (aC (xC (.int 13)) (aN))))) gl3
def gl1 : SF := sSeq (sSet 2 (xL tupD (aC (xNm 2) (aN)))) gl2
def gl0 : SF := sSeq (sSet 2 (xOf (oComp (iRg rng1D (aC (x2 addD (xC (.int 1)) (xCall m__law_take (aC (xSh 1) (aC (xC (.int 5)) (aN))))) (aN))) (gNm 12) (tYes') (x2 addD (xC (.int 1)) (xCall m__law_take (aC (xSh 1) (aC (xC (.int 40)) (aN))))) [12]))) gl1
theorem gl_eq : g_law = gl0 := rfl
end Lw
set_option maxHeartbeats 1000000
namespace Lw
open PySem PySem.Spec PyProof.Rows L2 Pu
theorem fd_max (m : Nat) (f : Nat → Nat) : ∃ i, i < m + 1 ∧ maxD [.tup (fdD (m + 1) f)] = some (.int (f i : Nat)) := by
  rw [fd_map, List.range_succ_eq_map, List.map_cons]
  have h : maxD [EnQ.e (f 0 :: ((List.range m).map Nat.succ).map f)] = some (.int (mxE (f 0) (((List.range m).map Nat.succ).map f) : Nat)) := max_seq (α := Nat) (by decide) rfl
  have hm := mxE_mem (f 0) (((List.range m).map Nat.succ).map f)
  rw [show f 0 :: ((List.range m).map Nat.succ).map f = (List.range (m + 1)).map f by rw [List.range_succ_eq_map, List.map_cons]] at hm
  obtain ⟨i, hi, e⟩ := List.mem_map.mp hm
  exact ⟨i, List.mem_range.mp hi, by rw [e]; exact h⟩
theorem fd_min' (m : Nat) (f : Nat → Nat) : ∃ i, i < m + 1 ∧ minD [.tup (fdD (m + 1) f)] = some (.int (f i : Nat)) := by
  rw [fd_map, List.range_succ_eq_map, List.map_cons]
  have h : minD [EnQ.e (f 0 :: ((List.range m).map Nat.succ).map f)] = some (.int (mnE (f 0) (((List.range m).map Nat.succ).map f) : Nat)) := min_seq (α := Nat) (by decide) rfl
  have hm := mnE_mem (f 0) (((List.range m).map Nat.succ).map f)
  rw [show f 0 :: ((List.range m).map Nat.succ).map f = (List.range (m + 1)).map f by rw [List.range_succ_eq_map, List.map_cons]] at hm
  obtain ⟨i, hi, e⟩ := List.mem_map.mp hm
  exact ⟨i, List.mem_range.mp hi, by rw [e]; exact h⟩
theorem fd_eq (m : Nat) (f g : Nat → Nat) : eqD (.tup (fdD m f)) (.tup (fdD m g)) = some (.bl (decide ((List.range m).map f = (List.range m).map g))) := by
  rw [fd_map, fd_map]; exact eq_en (α := List Nat) (by decide) _ _
theorem fd_ne (m : Nat) (f g : Nat → Nat) : neD (.tup (fdD m f)) (.tup (fdD m g)) = some (.bl (!decide ((List.range m).map f = (List.range m).map g))) := by
  rw [fd_map, fd_map]; exact ne_en (α := List Nat) (by decide) _ _
def RT (r : Res × Rho) (s : DS) : Prop := r.1 = .rt (.bl true)
theorem alVt {m : Nat} (h1 : 1 ≤ m) (h8 : m ≤ 8) : Vt (List.replicate m 7) := ⟨by simpa using h1, by simpa using h8, fun x hx => by have := (List.mem_replicate.mp hx).2; omega⟩
theorem gp9_ok {m n : Nat} (h1 : 1 ≤ m) (h8 : m ≤ 8) (hn : n ≤ 40) (x0 x1 x4 x5 x6 x7 x8 x9 x10 x11 x12 x13 x14 x15 x16 x17 : Slot) (s : DS) :
    wp (gp9 [x0, x1, .sh (.int (n : Nat)), .sh (.int (m : Nat)), x4, x5, x6, x7, x8, x9, x10, x11, x12, x13, x14, x15, x16, x17]) s RT := by
  have W := alVt h1 h8
  have hl : (List.replicate m 7).length = m := by simp
  have hr : repT (.tup [.int 7]) (.int (m : Nat)) = some (vtD (List.replicate m 7)) := by
    rw [repT_1 _ (by omega)]; simp [vtD, e_N]
  have e1 : ∀ s, m_by_rests [vtD (List.replicate m 7), .int (n : Nat)] s = some (.tup (fdD m (ft (List.replicate m 7) n)), s) := fun s => by have := rests_eq W hn s; rwa [hl] at this
  have hb : ∀ (k : Kd) (s : DS), m_by_quotients [vtD (List.replicate m 7), .int (n : Nat), k.str] s = some (.tup (fdD m (ft (List.replicate m 7) n)), s) := fun k s => by
    have := by_eq W k hn s
    unfold byD at this
    rw [hl] at this
    rw [this]
    have hp : ∀ i, i ≤ m - 1 → 0 < vv (List.replicate m 7) i := fun i hi => (vv_pos W (by omega)).1
    obtain ⟨a, b⟩ := gf_ok k hp n
    rw [Nat.sub_add_cancel h1] at a b
    have hv : ∀ i, i < m → vv (List.replicate m 7) i = 7 := fun i hi => by rw [vv_at (by simpa using hi)]; simp
    have hft := ft_alike (c := 7) h1 (by decide) n
    have a2 : AL k m (vv (List.replicate m 7)) (ft (List.replicate m 7) n) := fun i j hi hj hp => by
      have := AL_alike k m 7 (n / m) (n % m) (by decide) i j hi hj (by show 0 < n / m + (if j < n % m then 1 else 0); rw [← hft j hj]; exact hp)
      rw [hv i hi, hv j hj, hft i hi, hft j hj]
      exact this
    have b2 : S m (ft (List.replicate m 7) n) = n := by have := S_ft W n; rwa [hl] at this
    have := AL_uniq (fun i hi => (vv_pos W (by omega)).1) a a2 (by rw [b, b2])
    have e : fdD m (gf k (vv (List.replicate m 7)) (m - 1) n) = fdD m (ft (List.replicate m 7) n) := List.map_congr_left fun i hi => by rw [this i (List.mem_range.mp hi)]
    rw [e]
  have hbm := hb .m
  have hbg := hb .g
  simp only [Kd.str] at hbm hbg
  obtain ⟨m', rfl⟩ : ∃ m', m = m' + 1 := ⟨m - 1, by omega⟩
  obtain ⟨i, hi, ei⟩ := fd_max m' (ft (List.replicate (m' + 1) 7) n)
  obtain ⟨j, hj, ej⟩ := fd_min' m' (ft (List.replicate (m' + 1) 7) n)
  have hft := ft_alike (m := m' + 1) (c := 7) h1 (by decide) n
  have d : (ft (List.replicate (m' + 1) 7) n i : Int) - (ft (List.replicate (m' + 1) 7) n j : Int) ≤ 1 := by
    rw [hft i hi, hft j hj]
    split <;> split <;> omega
  have eq1 := fd_eq (m' + 1) (ft (List.replicate (m' + 1) 7) n) (ft (List.replicate (m' + 1) 7) n)
  rw [decide_eq_true rfl] at eq1
  clear hb hft
  generalize vtD (List.replicate (m' + 1) 7) = al at *
  generalize ft (List.replicate (m' + 1) 7) n = F at *
  simp at hr
  simp [gp9, gp10, gp11, SZ_eq, hr, wp_eq e1, ei, ej, wp_eq hbm, wp_eq hbg, eq1, RT]
  omega
end Lw
set_option maxHeartbeats 1000000
namespace Lw
open PySem PySem.Spec PyProof.Rows L2 Pu
theorem fd_ixT {m : Nat} (f : Nat → Nat) {i : Nat} (h : i < m) : ixD (.tup (fdD m f)) (.int (i : Nat)) = some (.int (f i : Nat)) := by rw [ixD_tn, fd_ix f h]
theorem gp7_ok {vs : List Nat} (W : Vt vs) {n : Nat} (hn : n ≤ 40) (x0 x4 x5 x6 x7 x8 x9 x10 x11 x12 x13 x14 x15 x16 x17 : Slot) (s : DS) :
    wp (gp7 [x0, .sh (vtD vs), .sh (.int (n : Nat)), .sh (.int (vs.length : Nat)), x4, x5, x6, x7, x8, x9, x10, x11, x12, x13, x14, x15, x16, x17]) s RT := by
  have h1 := W.h1
  have h8 := W.h8
  unfold gp7
  refine (w_sSeq _ _).mpr ((w_sSet _ _).mpr ?_)
  simp
  refine wp_mono (loses_eq W hn s) fun d s' h => ?_
  obtain ⟨rfl, h⟩ := h
  rcases h with rfl | ⟨t, i, rfl, ht, hi, hl⟩
  · have nn : isNonD D.non = true := rfl
    simp [gp8, nn]
    exact gp9_ok h1 h8 hn _ _ _ _ _ _ _ _ _ _ _ _ _ _ _ _ _
  · have nn : isNonD (D.tup [.int (t + 1 : Nat), .int (i : Nat)]) = false := rfl
    have e1 : ∀ s, m_by_rests [vtD vs, .int (t : Nat)] s = some (.tup (fdD vs.length (ft vs t)), s) := fun s => rests_eq W (by omega) s
    have e2 : ∀ s, m_by_rests [vtD vs, .int ((t : Int) + 1)] s = some (.tup (fdD vs.length (ft vs (t + 1))), s) := fun s => rests_eq W (n := t + 1) (by omega) s
    have hl' : ¬ ft vs t i ≤ ft vs (t + 1) i := by omega
    simp at nn
    simp [gp8, nn, wp_eq e1, wp_eq e2, fd_ix _ hi, hl']
    exact gp9_ok h1 h8 hn _ _ _ _ _ _ _ _ _ _ _ _ _ _ _ _ _
theorem gp6_ok {vs : List Nat} (W : Vt vs) {n : Nat} (hn : n ≤ 40) (x0 x4 x5 x7 x8 x9 x10 x11 x12 x13 x14 x15 x16 x17 : Slot) (s : DS) :
    wp (gp4 [x0, .sh (vtD vs), .sh (.int (n : Nat)), .sh (.int (vs.length : Nat)), x4, x5, x6, x7, x8, x9, x10, x11, x12, x13, x14, x15, x16, x17]) s RT := by
  have h1 := W.h1
  have h8 := W.h8
  have hs := sum_small W
  have hsp := sum_pos W
  have hr : rng1D [.int (vs.length : Nat)] = some ((List.range vs.length).map EnQ.e) := rng1_n (by omega)
  have fb : ∀ i, i < vs.length → ft vs n i < 2 ^ 27 := fun i hi => by
    have := qt_small W hn hi
    have := ft_cnt vs n i
    unfold ft; omega
  have fS : ∀ i, i < vs.length → ft vs n i < 1000 := fun i hi => by
    have h := S_ft W n
    have h2 := S_split (f := ft vs n) hi
    omega
  have ho : ∀ s, m_out_of_parts [vtD vs, .tup (fdD vs.length (ft vs n))] s = some (.non, s) := fun s => out_eq W fS (fun i hi => by rw [S_ft W n]; exact ft_part W n i) (by rw [S_ft W n]; omega) s
  have nn : isNonD D.non = true := rfl
  have hsum := sumD_fd vs.length (ft vs n)
  rw [S_ft W n] at hsum
  simp [gp4, gp5, gp6, wp_eq (rests_eq W hn), wp_eq ho, nn, hsum, hr]
  refine wp_each EnQ.e (fun ρ s' => s' = s ∧ ∃ x7 x13, ρ = [x0, .sh (vtD vs), .sh (.int (n : Nat)), .sh (.int (vs.length : Nat)), x4, x5, .sh (.tup (fdD vs.length (ft vs n))), x7, x8, x9, x10, x11, x12, x13, x14, x15, x16, x17]) (List.range vs.length) (fun i hi ρ s' hJ => ?_) (fun ρ s' hJ => ?_) ⟨rfl, _, _, rfl⟩
  · obtain ⟨rfl, x7, x13, rfl⟩ := hJ
    have hi' : i < vs.length := List.mem_range.mp hi
    have p1 := vv_pos W hi'
    have m1 : mulD (.int (vv vs i : Nat)) (.int (n : Nat)) = some (.int (vv vs i * n : Nat)) := by
      rw [mulD_sm 64 (by simp; omega) (by simp; omega)]; simp
    have m2 : divD (.int (vv vs i * n : Nat)) (.int (vs.sum : Nat)) = some (.int (qt vs n i : Nat)) := by
      rw [divD_sm _ 64 (by omega) (by simp; omega)]; unfold qt; simp
    have hc := ft_cnt vs n i
    have hn' : ninD (.int (ft vs n i : Nat)) (.tup [.int (qt vs n i : Nat), .int ((qt vs n i : Nat) + 1 : Int)]) = some (.bl false) := by
      have z := ninT_yes (α := Nat) (by decide) (a := ft vs n i) (l := [qt vs n i, qt vs n i + 1]) (by simp only [List.mem_cons, List.not_mem_nil]; unfold ft; omega)
      exact z
    refine ⟨_, rfl, ?_⟩
    simp only [e_N]
    simp [vt_ix hi', fd_ixT _ hi', m1, m2, sumV, SZ_eq, hn', -Int.natCast_mul, -ixD_tn]
  · obtain ⟨rfl, x7, x13, rfl⟩ := hJ
    exact gp7_ok W hn _ _ _ _ _ _ _ _ _ _ _ _ _ _ _ _
end Lw
set_option maxHeartbeats 1000000
namespace Lw
open PySem PySem.Spec PyProof.Rows L2 Pu
/-! ### who has been given what, from the turns -/
def tn (k : Kd) (v : Nat → Nat) (m n : Nat) : List Nat := (List.range n).map fun t => nx k v (gf k v m t) m
theorem tuD_tn (k : Kd) (v : Nat → Nat) (m n : Nat) : tuD k v m n = (tn k v m n).map EnQ.e := by unfold tuD tn; rw [List.map_map]; rfl
theorem tn_count (k : Kd) (v : Nat → Nat) (m i : Nat) : ∀ n, ((tn k v m n).filter fun x => decide (x = i)).length = gf k v m n i
  | 0 => rfl
  | n + 1 => by
    have ih := tn_count k v m i n
    have e : tn k v m (n + 1) = tn k v m n ++ [nx k v (gf k v m n) m] := by unfold tn; rw [List.range_succ, List.map_append]; rfl
    rw [e, List.filter_append, List.length_append, ih]
    show _ = bump (gf k v m n) (nx k v (gf k v m n) m) i
    unfold bump
    by_cases h : i = nx k v (gf k v m n) m
    · rw [if_pos h, List.filter_cons_of_pos (by simp [h])]; rfl
    · have h' : ¬ nx k v (gf k v m n) m = i := fun z => h z.symm
      rw [if_neg h, List.filter_cons_of_neg (by simp [h'])]; rfl
/-! ### two lists joined -/
def oth (m x y : Nat) : List Nat := (List.range m).filter fun i => decide (i ∉ [x, y])
def js (vs : List Nat) (x y : Nat) : List Nat := (vv vs x + vv vs y) :: (oth vs.length x y).map (vv vs)
theorem filt_S (p : Nat → Bool) (f : Nat → Nat) : ∀ m, (((List.range m).filter p).map f).sum = S m (fun i => if p i then f i else 0)
  | 0 => rfl
  | m + 1 => by
    rw [List.range_succ, List.filter_append, List.map_append, List.sum_append, filt_S p f m]
    show _ = S m _ + _
    congr 1
    by_cases h : p m <;> simp [h]
theorem oth_S {m x y : Nat} (hx : x < m) (hy : y < m) (hxy : x ≠ y) (f : Nat → Nat) : f x + f y + ((oth m x y).map f).sum = S m f := by
  unfold oth
  rw [filt_S]
  have a := S_split (f := f) hx
  have b := S_split (f := fun i => if i = x then 0 else f i) hy
  have e : S m (fun i => if decide (i ∉ [x, y]) = true then f i else 0) = S m (fun i => if i = y then 0 else if i = x then 0 else f i) := S_congr fun i _ => by
    by_cases h1 : i = x <;> by_cases h2 : i = y <;> simp [h1, h2]
  rw [e]
  simp only [if_neg (show ¬ y = x from fun z => hxy z.symm)] at b
  omega
theorem map_getD_S (f : Nat → Nat) (l : List Nat) : (l.map f).sum = S l.length (fun i => f (l.getD i 0)) := by
  rw [← sumFd]
  congr 1
  refine List.ext_getElem (by simp) fun i h1 h2 => ?_
  have h : i < l.length := by simpa using h1
  simp [h]
theorem oth_lt {m x y i : Nat} (h : i ∈ oth m x y) : i < m := List.mem_range.mp (List.mem_filter.mp h).1
theorem oth_len {m x y : Nat} (hx : x < m) : (oth m x y).length + 1 ≤ m := by
  have h : (oth m x y).length < (List.range m).length := by
    unfold oth
    refine Nat.lt_of_le_of_ne (List.length_filter_le _ _) fun e => ?_
    have := List.length_filter_eq_length_iff.mp e x (List.mem_range.mpr hx)
    simp at this
  simp only [List.length_range] at h
  omega
theorem js_Vt {vs : List Nat} (W : Vt vs) (hb : ∀ x ∈ vs, x < 2 ^ 19) {x y : Nat} (hx : x < vs.length) (hy : y < vs.length) : Vt (js vs x y) := by
  have hv : ∀ i, i < vs.length → 0 < vv vs i ∧ vv vs i < 2 ^ 19 := fun i hi => ⟨(vv_pos W hi).1, by rw [vv_at hi]; exact hb _ (List.getElem_mem hi)⟩
  have h8 := W.h8
  have hl := oth_len (y := y) hx
  refine ⟨by simp [js], by simp [js]; omega, fun z hz => ?_⟩
  unfold js at hz
  rcases List.mem_cons.mp hz with rfl | hz
  · have := hv x hx; have := hv y hy; omega
  · obtain ⟨i, hi, rfl⟩ := List.mem_map.mp hz
    have := hv i (oth_lt hi); omega
theorem js_join {vs : List Nat} (W : Vt vs) (hb : ∀ x ∈ vs, x < 2 ^ 19) {x y : Nat} (hx : x < vs.length) (hy : y < vs.length) (hxy : x ≠ y) (n : Nat) :
    ¬ gf .g (vv (js vs x y)) ((js vs x y).length - 1) n 0 + 1 < gf .g (vv vs) (vs.length - 1) n x + gf .g (vv vs) (vs.length - 1) n y ∧
    ¬ gf .l (vv vs) (vs.length - 1) n x + gf .l (vv vs) (vs.length - 1) n y + 1 < gf .l (vv (js vs x y)) ((js vs x y).length - 1) n 0 := by
  have h1 := W.h1
  have V := js_Vt W hb hx hy
  have jl : (js vs x y).length - 1 = (oth vs.length x y).length := by simp [js]
  have hv : ∀ i, i < vs.length → 0 < vv vs i := fun i hi => (vv_pos W hi).1
  have hr : ∀ i, i < (oth vs.length x y).length → (oth vs.length x y).getD i 0 < vs.length := fun i hi => by
    rw [List.getD_eq_getElem?_getD, List.getElem?_eq_getElem hi]
    exact oth_lt (List.getElem_mem hi)
  have h0 : vv (js vs x y) 0 = vv vs x + vv vs y := rfl
  have h2 : ∀ i, i < (oth vs.length x y).length → vv (js vs x y) (i + 1) = vv vs ((oth vs.length x y).getD i 0) := fun i hi => by
    unfold js
    show ((oth vs.length x y).map (vv vs)).getD i 0 = _
    rw [List.getD_eq_getElem?_getD, List.getD_eq_getElem?_getD, List.getElem?_map, List.getElem?_eq_getElem hi]
    rfl
  rw [jl]
  have key : ∀ k, AL k vs.length (vv vs) (gf k (vv vs) (vs.length - 1) n) ∧ AL k ((oth vs.length x y).length + 1) (vv (js vs x y)) (gf k (vv (js vs x y)) (oth vs.length x y).length n) ∧
      gf k (vv vs) (vs.length - 1) n x + gf k (vv vs) (vs.length - 1) n y + S (oth vs.length x y).length (fun i => gf k (vv vs) (vs.length - 1) n ((oth vs.length x y).getD i 0)) = S ((oth vs.length x y).length + 1) (gf k (vv (js vs x y)) (oth vs.length x y).length n) := fun k => by
    obtain ⟨a, b⟩ := gf_ok k (v := vv vs) (m := vs.length - 1) (fun i hi => hv i (by omega)) n
    rw [Nat.sub_add_cancel h1] at a b
    obtain ⟨c, d⟩ := gf_ok k (v := vv (js vs x y)) (m := (oth vs.length x y).length) (fun i hi => (vv_pos V (by rw [← jl] at hi; have := V.h1; omega)).1) n
    refine ⟨a, c, ?_⟩
    rw [d, ← map_getD_S, oth_S hx hy hxy, b]
  obtain ⟨a1, a2, a3⟩ := key .g
  obtain ⟨b1, b2, b3⟩ := key .l
  exact ⟨AL_joinG hv hx hy hr h0 h2 a1 a2 a3, AL_joinL hv hx hy hr h0 h2 b1 b2 b3⟩
end Lw
set_option maxHeartbeats 1000000
namespace Lw
open PySem PySem.Spec PyProof.Rows L2 Pu
theorem gp3_ok {vs : List Nat} (W : Vt vs) (hb : ∀ x ∈ vs, x < 2 ^ 19) {n : Nat} (hn : n ≤ 40) (x6 x7 x8 x9 x10 x11 x12 x13 x14 x15 x16 x17 : Slot) (s : DS) (hs : s.ok) :
    wp (gp3 [.sh .rng, .sh (vtD vs), .sh (.int (n : Nat)), .sh (.int (vs.length : Nat)), .sh (byD .g vs n), .sh (byD .l vs n), x6, x7, x8, x9, x10, x11, x12, x13, x14, x15, x16, x17]) s RT := by
  have h1 := W.h1
  have h8 := W.h8
  have hr : rng1D [.int (vs.length : Nat)] = some ((List.range vs.length).map EnQ.e) := rng1_n (by omega)
  by_cases hm : 1 < vs.length
  case neg =>
    have hmj : (vs.length : Int) ≤ 1 := by omega
    simp [gp3, hmj]
    exact .inl (gp6_ok W hn _ _ _ _ _ _ _ _ _ _ _ _ _ _ _)
  case pos =>
    have hmi : (1 : Int) < (vs.length : Int) := by omega
    have hmj : ¬ (vs.length : Int) ≤ 1 := by omega
    simp [gp3, hmi, hmj, take_eq]
    refine wp_take (by omega) (by omega) hs fun x s1 hx ok1 => ?_
    refine wp_take (by omega) (by omega) ok1 fun y s2 hy ok2 => ?_
    by_cases hxy : x = y
    · subst hxy
      simp
      exact gp6_ok W hn _ _ _ _ _ _ _ _ _ _ _ _ _ _ _
    · have hxyi : ¬ (x : Int) = (y : Int) := by omega
      simp [hxyi, hr, wipeR, vt_ix hx, vt_ix hy, -ixD_tn, SZ_eq]
      refine wp_compF (p := fun i : Nat => !decide (i = x) && !decide (i = y)) (f := fun i => D.int (vv vs i : Nat)) _ (fun i hi => ?_) ?_
      · have hi' := List.mem_range.mp hi
        refine ⟨_, rfl, fun s => ⟨?_, fun _ => ?_⟩⟩
        · have z := ninT_en (α := Nat) (by decide) i [x, y]
          simp only [List.map, e_N] at z
          simp only [e_N]
          simp [SZ_eq, z]
          by_cases a : i = x <;> by_cases b : i = y <;> simp [a, b]
        · simp only [e_N]
          simp [vt_ix hi', -ixD_tn]
      · have V := js_Vt W hb hx hy
        have ad : addD (.tup [.int ((vv vs x : Nat) + (vv vs y : Nat) : Int)]) (.tup (((List.range vs.length).filter fun i => !decide (i = x) && !decide (i = y)).map fun i => D.int (vv vs i : Nat))) = some (vtD (js vs x y)) := by
          rw [addD_tt (by have := List.length_filter_le (fun i => !decide (i = x) && !decide (i = y)) (List.range vs.length); simp only [List.length_range, List.length_map, List.length_cons, List.length_nil] at this ⊢; omega)]
          have e : ((List.range vs.length).filter fun i => !decide (i = x) && !decide (i = y)) = oth vs.length x y := by
            unfold oth; congr 1; funext i; simp
          rw [e]
          simp [vtD, js, e_N]
        obtain ⟨j1, j2⟩ := js_join W hb hx hy hxy n
        have h1j := V.h1
        have eg : ∀ s, m_by_quotients [vtD (js vs x y), .int (n : Nat), .str "greatest"] s = some (byD .g (js vs x y) n, s) := fun s => by_eq V .g hn s
        have el : ∀ s, m_by_quotients [vtD (js vs x y), .int (n : Nat), .str "least"] s = some (byD .l (js vs x y) n, s) := fun s => by_eq V .l hn s
        have et : ∀ s, m_turns [vtD (js vs x y), .int (n : Nat), .str "greatest"] s = some (turnsD .g (js vs x y) n, s) := fun s => turns_eq V .g hn s
        have ij : ∀ k, ixD (byD k (js vs x y) n) (.int 0) = some (.int (gf k (vv (js vs x y)) ((js vs x y).length - 1) n 0 : Nat)) := fun k => fd_ixT (gf k (vv (js vs x y)) ((js vs x y).length - 1) n) (i := 0) (by omega)
        have iv : ∀ k {i : Nat}, i < vs.length → ixD (byD k vs n) (.int (i : Nat)) = some (.int (gf k (vv vs) (vs.length - 1) n i : Nat)) := fun k i hi => fd_ixT _ hi
        have cnt := tn_count .g (vv (js vs x y)) ((js vs x y).length - 1) 0 n
        have j1' : ¬ ((gf .g (vv (js vs x y)) ((js vs x y).length - 1) n 0 : Nat) : Int) + 1 < (gf .g (vv vs) (vs.length - 1) n x : Nat) + (gf .g (vv vs) (vs.length - 1) n y : Nat) := by omega
        have j2' : ¬ ((gf .l (vv vs) (vs.length - 1) n x : Nat) : Int) + (gf .l (vv vs) (vs.length - 1) n y : Nat) + 1 < (gf .l (vv (js vs x y)) ((js vs x y).length - 1) n 0 : Nat) := by omega
        have sq : seqD (turnsD .g (js vs x y) n) = some ((tn .g (vv (js vs x y)) ((js vs x y).length - 1) n).map EnQ.e) := by rw [← tuD_tn]; rfl
        have ijg := ij .g
        have ijl := ij .l
        have ivg := iv .g hx
        have ivg2 := iv .g hy
        have ivl := iv .l hx
        have ivl2 := iv .l hy
        clear ij iv j1 j2
        generalize vtD (js vs x y) = jt at *
        generalize turnsD .g (js vs x y) n = tt at *
        generalize byD .g (js vs x y) n = bg at *
        generalize byD .l (js vs x y) n = bl at *
        simp [ad, wp_eq eg, wp_eq el, wp_eq et, ijg, ijl, ivg, ivg2, ivl, ivl2, j1', j2', sq, wipeR, -ixD_tn]
        refine wp_compF (p := fun z : Nat => decide (z = 0)) (f := EnQ.e) _ (fun z hz => ?_) ?_
        · refine ⟨_, rfl, fun s => ⟨?_, fun _ => ?_⟩⟩
          · simp [e_N]
            exact (Classical.em _).symm
          · simp
        · simp [cnt]
          exact gp6_ok W hn _ _ _ _ _ _ _ _ _ _ _ _ _ _ _
end Lw
set_option maxHeartbeats 1000000
namespace Lw
open PySem PySem.Spec PyProof.Rows L2 Pu
theorem part1_ok {vs : List Nat} (W : Vt vs) (hb : ∀ x ∈ vs, x < 2 ^ 19) {n : Nat} (hn : n ≤ 40) (s : DS) (hs : s.ok) :
    wp (m__law_part1 [.rng, vtD vs, .int (n : Nat), .int (vs.length : Nat)]) s fun d _ => d = .bl true := by
  have h1 := W.h1
  have h8 := W.h8
  have hr : rng1D [.int (vs.length : Nat)] = some ((List.range vs.length).map EnQ.e) := rng1_n (by omega)
  have hsm := sum_small W
  have hsp := sum_pos W
  refine wp_def rfl ?_
  show wp (gp0 _) s _
  have eg : ∀ s, m_by_quotients [vtD vs, .int (n : Nat), .str "greatest"] s = some (byD .g vs n, s) := fun s => by_eq W .g hn s
  have el : ∀ s, m_by_quotients [vtD vs, .int (n : Nat), .str "least"] s = some (byD .l vs n, s) := fun s => by_eq W .l hn s
  have iv : ∀ {i : Nat}, i < vs.length → ixD (byD .g vs n) (.int (i : Nat)) = some (.int (gf .g (vv vs) (vs.length - 1) n i : Nat)) := fun hi => fd_ixT _ hi
  have hv : ∀ i, i < vs.length → 0 < vv vs i := fun i hi => (vv_pos W hi).1
  obtain ⟨a, b⟩ := gf_ok .g (v := vv vs) (m := vs.length - 1) (fun i hi => hv i (by omega)) n
  rw [Nat.sub_add_cancel h1] at a b
  have gl : ∀ i, gf .g (vv vs) (vs.length - 1) n i ≤ n := fun i => gf_le .g (vv vs) (vs.length - 1) i n
  have K := fun s hs => gp3_ok W hb hn Slot.un Slot.un Slot.un Slot.un Slot.un Slot.un Slot.un Slot.un Slot.un Slot.un Slot.un Slot.un s hs
  simp [gp0, gp1, gp2, wp_eq eg, wp_eq el, hr, wipeR, -ixD_tn]
  refine wp_compF (p := fun _ : Nat => false) (f := EnQ.e) _ (fun i hi => ?_) ?_
  · have hi' := List.mem_range.mp hi
    have q := AL_quota hv a hi'
    rw [b, ← sumS] at q
    have g1 := gl i
    have v1 := vv_pos W hi'
    have m1 : mulD (.int (gf .g (vv vs) (vs.length - 1) n i : Nat)) (.int (vs.sum : Nat)) = some (.int (gf .g (vv vs) (vs.length - 1) n i * vs.sum : Nat)) := by
      rw [mulD_sm 64 (by simp; omega) (by simp; omega)]; simp
    have m2 : mulD (.int (vv vs i : Nat)) (.int (n : Nat)) = some (.int (vv vs i * n : Nat)) := by
      rw [mulD_sm 64 (by simp; omega) (by simp; omega)]; simp
    have m3 : divD (.int (vv vs i * n : Nat)) (.int (vs.sum : Nat)) = some (.int (vv vs i * n / vs.sum : Nat)) := by
      rw [divD_sm _ 64 (by omega) (by simp; omega)]; simp
    have e1 : vv vs i * (n + 1) = vv vs i * n + vv vs i := Nat.mul_succ _ _
    have e2 : vs.sum * (gf .g (vv vs) (vs.length - 1) n i + 1) = gf .g (vv vs) (vs.length - 1) n i * vs.sum + vs.sum := by rw [Nat.mul_succ, Nat.mul_comm]
    have c1 : ¬ ((gf .g (vv vs) (vs.length - 1) n i * vs.sum : Nat) : Int) < ((vv vs i * n : Nat) : Int) - (vs.sum : Nat) + 1 := by omega
    have c2 : vv vs i * n / vs.sum ≤ gf .g (vv vs) (vs.length - 1) n i := by
      have : vv vs i * n / vs.sum < gf .g (vv vs) (vs.length - 1) n i + 1 := (Nat.div_lt_iff_lt_mul hsp).mpr (by rw [Nat.mul_comm _ vs.sum]; omega)
      omega
    have c2' : ¬ ((gf .g (vv vs) (vs.length - 1) n i : Nat) : Int) < ((vv vs i * n / vs.sum : Nat) : Int) := by omega
    refine ⟨_, rfl, fun s => ⟨?_, fun h => by cases h⟩⟩
    simp only [e_N]
    simp [iv hi', m1, m2, m3, sumV, vt_ix hi', c1, c2, c2', -ixD_tn, -Int.natCast_mul, -Int.natCast_ediv]
  · simp
    exact wp_mono (K s hs) fun r s' h => h
end Lw
namespace Lw
open PySem PySem.Spec PyProof.Rows L2 Pu
def lb12 : SF := sIf (tOr (tV (x2 eqD (xNm 5) (xC (.str "greatest")))) (tV (x2 geA (xNm 3) (xNm 4)))) (sSeq (sSet 15 (xCall m_price_of (aC (xSh 2) (aC (xSh 6) (aC (xSh 5) (aN)))))) (sSeq (sIf (tV (x2 isD (xNm 15) (xC .non))) (sRet (xC (.bl false))) (sNext)) (sSeq (sTo (gTp [gNm 16, gNm 17]) (xSh 15)) (sIf (tAnd (tV (x2 isNotD (xNm 17) (xC .non))) (tV (x2 gtA (x2 mulD (x2 ixD (xNm 16) (xC (.int 0))) (x2 ixD (xNm 17) (xC (.int 1)))) (x2 mulD (x2 ixD (xNm 17) (xC (.int 0))) (x2 ixD (xNm 16) (xC (.int 1))))))) (sRet (xC (.bl false))) (sNext))))) (sNext)
def lb11 : SF := sSeq (sFor (iRg rng1D (aC (xSh 4) (aN))) (gNm 12) (sFor (iRg rng1D (aC (xSh 4) (aN))) (gNm 14) (sIf (tAnd (tV (x2 gtA (x2 ixD (xNm 2) (xNm 12)) (x2 ixD (xNm 2) (xNm 14)))) (tV (x2 ltA (x2 ixD (xNm 6) (xNm 12)) (x2 ixD (xNm 6) (xNm 14))))) (sRet (xC (.bl false))) (sNext)))) lb12
def lb10 : SF := sSeq (sIf (tV (x2 isNotD (xCall m_unfair_pair (aC (xSh 2) (aC (xSh 6) (aC (xSh 5) (aN))))) (xC .non))) (sRet (xC (.bl false))) (sNext)) lb11
def lb9 : SF := sSeq (sIf (tV (x2 neD (xCall m_by_quotients (aC (xL tupD (aC (xOf (oComp (iSq (xNm 2)) (gNm 18) (tYes') (x2 mulD (xNm 11) (xNm 18)) [18])) (aN))) (aC (xSh 3) (aC (xSh 5) (aN))))) (xNm 6))) (sRet (xC (.bl false))) (sNext)) lb10
def lb8 : SF := sSeq (sSet 11 (x2 addD (xC (.int 2)) (xCall m__law_take (aC (xSh 1) (aC (xC (.int 4)) (aN)))))) lb9
def lb7 : SF := sSeq (sIf (tOr (tV (x2 ltA (x2 ixD (xNm 10) (xNm 8)) (x2 ixD (xNm 6) (xNm 8)))) (tV (x2 gtA (xL lenD (aC (xOf (oComp (iRg rng1D (aC (xSh 4) (aN))) (gNm 12) (tAnd (tV (x2 neD (xNm 12) (xNm 8))) (tV (x2 gtA (x2 ixD (xNm 10) (xNm 12)) (x2 ixD (xNm 6) (xNm 12))))) (xSh 12) [12])) (aN))) (xC (.int 0))))) (sRet (xC (.bl false))) (sNext)) lb8
def lb6 : SF := sSeq (sSet 10 (xCall m_by_quotients (aC (xSh 9) (aC (xSh 3) (aC (xSh 5) (aN)))))) lb7
def lb5 : SF := sSeq (sSet 9 (x2 addD (x2 addD (xSl slD (xNm 2) none (some (xSh 8))) (xTup (aC (x2 addD (x2 addD (x2 ixD (xNm 2) (xNm 8)) (xC (.int 1))) (xCall m__law_take (aC (xSh 1) (aC (xC (.int 20)) (aN))))) (aN)))) (xSl slD (xNm 2) (some (x2 addD (xNm 8) (xC (.int 1)))) none))) lb6
def lb4 : SF := sSeq (sSet 8 (xCall m__law_take (aC (xSh 1) (aC (xSh 4) (aN))))) lb5
def lb3 : SF := sSeq (sIf (tV (x2 ltA (xNm 3) (xC (.int 12)))) (sSeq (sSet 13 (xCall m_by_quotients (aC (xSh 2) (aC (x2 addD (xNm 3) (xC (.int 1))) (aC (xSh 5) (aN)))))) (sIf (tOr (tV (x2 neD (xOf (oL sortO (aC (xOf (oComp (iRg rng1D (aC (xSh 4) (aN))) (gNm 12) (tYes') (x2 subD (x2 ixD (xNm 13) (xNm 12)) (x2 ixD (xNm 6) (xNm 12))) [12])) (aN)))) (xOf (o2 catO (xOf (o2 repO (xOf (oLst (aC (xC (.int 0)) (aN)))) (x2 subD (xNm 4) (xC (.int 1))))) (xOf (oLst (aC (xC (.int 1)) (aN)))))))) (tV (x2 neD (xSl slD (xCall m_turns (aC (xSh 2) (aC (x2 addD (xNm 3) (xC (.int 1))) (aC (xSh 5) (aN))))) none (some (xSh 3))) (xNm 7)))) (sRet (xC (.bl false))) (sNext))) (sNext)) lb4
def lb2 : SF := sSeq (sIf (tOr (tV (x2 neD (xL sumD (aC (xNm 6) (aN))) (xNm 3))) (tV (x2 neD (xOf (oComp (iRg rng1D (aC (xSh 4) (aN))) (gNm 18) (tYes') (xL lenD (aC (xOf (oComp (iSq (xNm 7)) (gNm 12) (tV (x2 eqD (xNm 12) (xNm 18))) (xSh 12) [12])) (aN))) [18])) (xOf (oL listO (aC (xNm 6) (aN))))))) (sRet (xC (.bl false))) (sNext)) lb3
def lb1 : SF := sSeq (sSet 7 (xCall m_turns (aC (xSh 2) (aC (xSh 3) (aC (xSh 5) (aN)))))) lb2
def lb0 : SF := sSeq (sSet 6 (xCall m_by_quotients (aC (xSh 2) (aC (xSh 3) (aC (xSh 5) (aN)))))) lb1
theorem gl4_in : gl4 = sSeq (sFor (iSq (xTup (aC (xC (.str "greatest")) (aC (xC (.str "middle")) (aC (xC (.str "least")) (aN)))))) (gNm 5) lb0) gl5 := rfl
end Lw
set_option maxHeartbeats 1000000
namespace Lw
open PySem PySem.Spec PyProof.Rows L2 Pu
def lbp : SF := sSeq (sSet 15 (xCall m_price_of (aC (xSh 2) (aC (xSh 6) (aC (xSh 5) (aN)))))) (sSeq (sIf (tV (x2 isD (xNm 15) (xC .non))) (sRet (xC (.bl false))) (sNext)) (sSeq (sTo (gTp [gNm 16, gNm 17]) (xSh 15)) (sIf (tAnd (tV (x2 isNotD (xNm 17) (xC .non))) (tV (x2 gtA (x2 mulD (x2 ixD (xNm 16) (xC (.int 0))) (x2 ixD (xNm 17) (xC (.int 1)))) (x2 mulD (x2 ixD (xNm 17) (xC (.int 0))) (x2 ixD (xNm 16) (xC (.int 1))))))) (sRet (xC (.bl false))) (sNext))))
theorem lb12_in : lb12 = sIf (tOr (tV (x2 eqD (xNm 5) (xC (.str "greatest")))) (tV (x2 geA (xNm 3) (xNm 4)))) lbp (sNext) := rfl
def LB (x0 : Slot) (vs : List Nat) (n : Nat) (r : Res × Rho) (s : DS) : Prop := r.1 = .nx ∧ s.ok ∧ ∃ x5 x6 x7 x8 x9 x10 x11 x12 x13 x14 x15 x16 x17 x18 : Slot, r.2 = [x0, .sh .rng, .sh (vtD vs), .sh (.int (n : Nat)), .sh (.int (vs.length : Nat)), x5, x6, x7, x8, x9, x10, x11, x12, x13, x14, x15, x16, x17, x18]
theorem LB_mk {x0 : Slot} {vs : List Nat} {n : Nat} {s : DS} (ok : s.ok) (x5 x6 x7 x8 x9 x10 x11 x12 x13 x14 x15 x16 x17 x18 : Slot) : LB x0 vs n (.nx, [x0, .sh .rng, .sh (vtD vs), .sh (.int (n : Nat)), .sh (.int (vs.length : Nat)), x5, x6, x7, x8, x9, x10, x11, x12, x13, x14, x15, x16, x17, x18]) s := ⟨rfl, ok, _, _, _, _, _, _, _, _, _, _, _, _, _, _, rfl⟩
theorem str_eq (k : Kd) : eqD k.str (.str "greatest") = some (.bl (decide (k = .g))) := by cases k <;> kernel_rfl
theorem dn_ok {vs : List Nat} (W : Vt vs) {n : Nat} {k : Kd} (h : k = .g ∨ vs.length ≤ n) : ∀ i, i < vs.length → dn k (gf k (vv vs) (vs.length - 1) n i) ≠ 0 := fun i hi => by
  have h1 := W.h1
  obtain ⟨a, b⟩ := gf_ok k (v := vv vs) (m := vs.length - 1) (fun i hi => (vv_pos W (by omega)).1) n
  rw [Nat.sub_add_cancel h1] at a b
  cases k with
  | g => simp [dn]
  | m => simp [dn]
  | l =>
    have h : vs.length ≤ n := by rcases h with h | h; cases h; exact h
    show ¬ gf .l (vv vs) (vs.length - 1) n i = 0
    intro hz
    obtain ⟨j, hj, hl⟩ : ∃ j, j < vs.length ∧ 1 < gf .l (vv vs) (vs.length - 1) n j := by
      refine Classical.byContradiction fun c => ?_
      have h2 : S vs.length (gf .l (vv vs) (vs.length - 1) n) < S vs.length fun _ => 1 := S_lt (fun j hj => Nat.le_of_not_lt fun z => c ⟨j, hj, z⟩) hi (by omega)
      rw [b, S_const] at h2
      omega
    have q := (a i j hi hj (by omega)).1
    refine q (.inl ?_)
    rw [hz]
    show vv vs j * 0 < vv vs i * (gf .l (vv vs) (vs.length - 1) n j - 1)
    rw [Nat.mul_zero]
    exact Nat.mul_pos (vv_pos W hi).1 (by omega)
theorem lbp_ok {vs : List Nat} (W : Vt vs) {n : Nat} (hn : n ≤ 40) (k : Kd) (hd : ∀ i, i < vs.length → dn k (gf k (vv vs) (vs.length - 1) n i) ≠ 0) (x0 x7 x8 x9 x10 x11 x12 x13 x14 x15 x16 x17 x18 : Slot) {s : DS} (ok : s.ok) :
    wp (lbp [x0, .sh .rng, .sh (vtD vs), .sh (.int (n : Nat)), .sh (.int (vs.length : Nat)), .sh k.str, .sh (byD k vs n), x7, x8, x9, x10, x11, x12, x13, x14, x15, x16, x17, x18]) s (LB x0 vs n) := by
  have h1 := W.h1
  obtain ⟨a, b⟩ := gf_ok k (v := vv vs) (m := vs.length - 1) (fun i hi => (vv_pos W (by omega)).1) n
  rw [Nat.sub_add_cancel h1] at a b
  have gl : ∀ i, i < vs.length → gf k (vv vs) (vs.length - 1) n i < 1000 := fun i _ => by have := gf_le k (vv vs) (vs.length - 1) i n; omega
  unfold lbp
  simp
  refine wp_mono (price_eq W k gl a hd s) fun d s' h => ?_
  obtain ⟨rfl, lo, hi, rfl, hs, hh⟩ := h
  have nn : isNonD (D.tup [EnQ.e lo, EnQ.e hi]) = false := rfl
  simp [nn]
  cases hi with
  | none =>
    have nn : isNonD (EnQ.e (none : Option (Nat × Nat))) = true := rfl
    simp [nn]
    exact LB_mk ok _ _ _ _ _ _ _ _ _ _ _ _ _ _
  | some h =>
    obtain ⟨hs2, hle⟩ := hh h rfl
    have nn : isNonD (EnQ.e (some h)) = false := rfl
    have m1 : mulD (.int (lo.1 : Nat)) (.int (h.2 : Nat)) = some (.int (lo.1 * h.2 : Nat)) := by
      rw [mulD_sm 64 (by have := hs.1; simp; omega) (by have := hs2.2; simp; omega)]; simp
    have m2 : mulD (.int (h.1 : Nat)) (.int (lo.2 : Nat)) = some (.int (h.1 * lo.2 : Nat)) := by
      rw [mulD_sm 64 (by have := hs2.1; simp; omega) (by have := hs.2; simp; omega)]; simp
    have c : ¬ ((h.1 * lo.2 : Nat) : Int) < ((lo.1 * h.2 : Nat) : Int) := by omega
    simp only [e_some, e_P, e_N] at nn ⊢
    simp [nn, ixD_t0, ixD_t1, m1, m2, c, -Int.natCast_mul]
    exact LB_mk ok _ _ _ _ _ _ _ _ _ _ _ _ _ _
theorem lb12_ok {vs : List Nat} (W : Vt vs) {n : Nat} (hn : n ≤ 40) (k : Kd) (x0 x7 x8 x9 x10 x11 x12 x13 x14 x15 x16 x17 x18 : Slot) {s : DS} (ok : s.ok) :
    wp (lb12 [x0, .sh .rng, .sh (vtD vs), .sh (.int (n : Nat)), .sh (.int (vs.length : Nat)), .sh k.str, .sh (byD k vs n), x7, x8, x9, x10, x11, x12, x13, x14, x15, x16, x17, x18]) s (LB x0 vs n) := by
  rw [lb12_in]
  have nx' : wp (sNext [x0, .sh .rng, .sh (vtD vs), .sh (.int (n : Nat)), .sh (.int (vs.length : Nat)), .sh k.str, .sh (byD k vs n), x7, x8, x9, x10, x11, x12, x13, x14, x15, x16, x17, x18]) s (LB x0 vs n) := by simp; exact LB_mk ok _ _ _ _ _ _ _ _ _ _ _ _ _ _
  by_cases hk : k = .g
  · have := lbp_ok W hn k (dn_ok W (.inl hk)) x0 x7 x8 x9 x10 x11 x12 x13 x14 x15 x16 x17 x18 ok
    simp [str_eq, hk] at this ⊢
    exact this
  · by_cases hl : vs.length ≤ n
    · have := lbp_ok W hn k (dn_ok W (.inr hl)) x0 x7 x8 x9 x10 x11 x12 x13 x14 x15 x16 x17 x18 ok
      have hl' : (vs.length : Int) ≤ (n : Int) := by omega
      simp [str_eq, hk, hl']
      exact this
    · have hl' : ¬ (vs.length : Int) ≤ (n : Int) := by omega
      simp [str_eq, hk, hl']
      exact LB_mk ok _ _ _ _ _ _ _ _ _ _ _ _ _ _
theorem lb11_ok {vs : List Nat} (W : Vt vs) {n : Nat} (hn : n ≤ 40) (k : Kd) (x0 x7 x8 x9 x10 x11 x12 x13 x14 x15 x16 x17 x18 : Slot) {s : DS} (ok : s.ok) :
    wp (lb11 [x0, .sh .rng, .sh (vtD vs), .sh (.int (n : Nat)), .sh (.int (vs.length : Nat)), .sh k.str, .sh (byD k vs n), x7, x8, x9, x10, x11, x12, x13, x14, x15, x16, x17, x18]) s (LB x0 vs n) := by
  have h1 := W.h1
  have h8 := W.h8
  have hr : rng1D [.int (vs.length : Nat)] = some ((List.range vs.length).map EnQ.e) := rng1_n (by omega)
  obtain ⟨a, b⟩ := gf_ok k (v := vv vs) (m := vs.length - 1) (fun i hi => (vv_pos W (by omega)).1) n
  rw [Nat.sub_add_cancel h1] at a b
  have hv : ∀ i, i < vs.length → 0 < vv vs i := fun i hi => (vv_pos W hi).1
  unfold lb11
  simp [hr]
  refine wp_each EnQ.e (fun ρ s' => s' = s ∧ ∃ x12 x14, ρ = [x0, .sh .rng, .sh (vtD vs), .sh (.int (n : Nat)), .sh (.int (vs.length : Nat)), .sh k.str, .sh (byD k vs n), x7, x8, x9, x10, x11, x12, x13, x14, x15, x16, x17, x18]) (List.range vs.length) (fun i hi ρ s' hJ => ?_) (fun ρ s' hJ => ?_) ⟨rfl, _, _, rfl⟩
  · obtain ⟨rfl, x12, x14, rfl⟩ := hJ
    have hi' : i < vs.length := List.mem_range.mp hi
    refine ⟨_, rfl, ?_⟩
    simp [hr]
    refine wp_each EnQ.e (fun ρ s1 => s1 = s' ∧ ∃ x14, ρ = [x0, .sh .rng, .sh (vtD vs), .sh (.int (n : Nat)), .sh (.int (vs.length : Nat)), .sh k.str, .sh (byD k vs n), x7, x8, x9, x10, x11, .sh (.int (i : Nat)), x13, x14, x15, x16, x17, x18]) (List.range vs.length) (fun j hj ρ s' hJ => ?_) (fun ρ s' hJ => ?_) ⟨rfl, _, rfl⟩
    · obtain ⟨rfl, x14, rfl⟩ := hJ
      have hj' : j < vs.length := List.mem_range.mp hj
      have ei := fd_ixT (gf k (vv vs) (vs.length - 1) n) hi'
      have ej := fd_ixT (gf k (vv vs) (vs.length - 1) n) hj'
      refine ⟨_, rfl, ?_⟩
      simp only [e_N]
      simp [vt_ix hi', vt_ix hj', ei, ej, -ixD_tn]
      by_cases hl : vv vs j < vv vs i
      · exact .inr ⟨hl, .inl (AL_order hv a hi' hj' hl)⟩
      · exact .inl (by omega)
    · obtain ⟨rfl, x14, rfl⟩ := hJ
      exact ⟨rfl, _, _, rfl⟩
  · obtain ⟨rfl, x12, x14, rfl⟩ := hJ
    exact lb12_ok W hn k _ _ _ _ _ _ _ _ _ _ _ _ _ ok
theorem lb10_ok {vs : List Nat} (W : Vt vs) {n : Nat} (hn : n ≤ 40) (k : Kd) (x0 x7 x8 x9 x10 x11 x12 x13 x14 x15 x16 x17 x18 : Slot) {s : DS} (ok : s.ok) :
    wp (lb10 [x0, .sh .rng, .sh (vtD vs), .sh (.int (n : Nat)), .sh (.int (vs.length : Nat)), .sh k.str, .sh (byD k vs n), x7, x8, x9, x10, x11, x12, x13, x14, x15, x16, x17, x18]) s (LB x0 vs n) := by
  have h1 := W.h1
  obtain ⟨a, b⟩ := gf_ok k (v := vv vs) (m := vs.length - 1) (fun i hi => (vv_pos W (by omega)).1) n
  rw [Nat.sub_add_cancel h1] at a b
  have gl : ∀ i, i < vs.length → gf k (vv vs) (vs.length - 1) n i < 1000 := fun i _ => by have := gf_le k (vv vs) (vs.length - 1) i n; omega
  have e := unfair_eq W k gl a
  have nn : isNonD D.non = true := rfl
  unfold lb10
  simp [wp_eq e, nn]
  exact lb11_ok W hn k _ _ _ _ _ _ _ _ _ _ _ _ _ ok
end Lw
set_option maxHeartbeats 1000000
namespace Lw
open PySem PySem.Spec PyProof.Rows L2 Pu
theorem by_scale (k : Kd) (vs : List Nat) (n : Nat) {c : Nat} (hc : 0 < c) : byD k (vs.map fun z => c * z) n = byD k vs n := by
  have e : vv (vs.map fun z => c * z) = fun i => c * vv vs i := funext fun i => by
    unfold vv
    rw [List.getD_eq_getElem?_getD, List.getD_eq_getElem?_getD, List.getElem?_map]
    cases vs[i]? <;> simp
  unfold byD
  rw [e, List.length_map, gf_scale k hc]
theorem fd_ne0 (m : Nat) (f : Nat → Nat) : neD (.tup (fdD m f)) (.tup (fdD m f)) = some (.bl false) := by
  have := fd_ne m f f
  rwa [decide_eq_true rfl] at this
theorem lb9_ok {vs : List Nat} (W : Vt vs) (hb : ∀ z ∈ vs, z ≤ 40) {n : Nat} (hn : n ≤ 12) (k : Kd) {c : Nat} (hc : 0 < c) (hc5 : c ≤ 5) (x0 x7 x8 x9 x10 x12 x13 x14 x15 x16 x17 x18 : Slot) {s : DS} (ok : s.ok) :
    wp (lb9 [x0, .sh .rng, .sh (vtD vs), .sh (.int (n : Nat)), .sh (.int (vs.length : Nat)), .sh k.str, .sh (byD k vs n), x7, x8, x9, x10, .sh (.int (c : Nat)), x12, x13, x14, x15, x16, x17, x18]) s (LB x0 vs n) := by
  have V : Vt (vs.map fun z => c * z) := ⟨by simpa using W.h1, by simpa using W.h8, fun z hz => by
    obtain ⟨y, hy, rfl⟩ := List.mem_map.mp hz
    have h1 := (W.pos y hy).1
    have h2 := hb y hy
    have h3 : c * y ≤ 5 * 40 := Nat.mul_le_mul hc5 h2
    have h4 : 0 < c * y := Nat.mul_pos hc h1
    exact ⟨h4, by omega⟩⟩
  have e : ∀ s, m_by_quotients [.tup (vs.map fun z => D.int ((c : Int) * (z : Nat))), .int (n : Nat), k.str] s = some (byD k vs n, s) := fun s => by
    have := by_eq V k (n := n) (by omega) s
    rw [by_scale k vs n hc] at this
    have e2 : vtD (vs.map fun z => c * z) = .tup (vs.map fun z => D.int ((c : Int) * (z : Nat))) := by
      unfold vtD; rw [List.map_map]; congr 1
    rw [e2] at this
    exact this
  unfold lb9
  simp [wipeR]
  refine wp_compT (f := fun z : Nat => D.int ((c : Int) * (z : Nat))) _ (fun z hz => ⟨_, rfl, fun s => ?_⟩) ?_
  · have h2 := hb z hz
    have m1 : mulD (.int (c : Nat)) (.int (z : Nat)) = some (.int ((c : Int) * (z : Nat))) := mulD_sm 64 (by simp; omega) (by simp; omega)
    simp only [e_N]
    simp [m1, -Int.natCast_mul]
  · simp [wp_eq e, fd_ne0]
    exact lb10_ok W (by omega) k _ _ _ _ _ _ _ _ _ _ _ _ _ ok
theorem lb8_ok {vs : List Nat} (W : Vt vs) (hb : ∀ z ∈ vs, z ≤ 40) {n : Nat} (hn : n ≤ 12) (k : Kd) (x0 x7 x8 x9 x10 x11 x12 x13 x14 x15 x16 x17 x18 : Slot) {s : DS} (ok : s.ok) :
    wp (lb8 [x0, .sh .rng, .sh (vtD vs), .sh (.int (n : Nat)), .sh (.int (vs.length : Nat)), .sh k.str, .sh (byD k vs n), x7, x8, x9, x10, x11, x12, x13, x14, x15, x16, x17, x18]) s (LB x0 vs n) := by
  unfold lb8
  simp [take_eq]
  refine wp_take (m := 4) (by decide) (by decide) ok fun r s hr ok => ?_
  obtain ⟨c, hc, h0, h5⟩ : ∃ c : Nat, (2 + (r : Int)) = c ∧ 0 < c ∧ c ≤ 5 := ⟨2 + r, by omega, by omega, by omega⟩
  simp [hc]
  exact lb9_ok W hb hn k h0 h5 _ _ _ _ _ _ _ _ _ _ _ _ ok
theorem lb7_ok {vs : List Nat} (W : Vt vs) (hb : ∀ z ∈ vs, z ≤ 40) {n : Nat} (hn : n ≤ 12) (k : Kd) {at_ : Nat} (ha : at_ < vs.length) {g : Nat → Nat} (h1g : gf k (vv vs) (vs.length - 1) n at_ ≤ g at_) (h2g : ∀ i, i < vs.length → i ≠ at_ → g i ≤ gf k (vv vs) (vs.length - 1) n i) (x0 x7 x9 x11 x12 x13 x14 x15 x16 x17 x18 : Slot) {s : DS} (ok : s.ok) :
    wp (lb7 [x0, .sh .rng, .sh (vtD vs), .sh (.int (n : Nat)), .sh (.int (vs.length : Nat)), .sh k.str, .sh (byD k vs n), x7, .sh (.int (at_ : Nat)), x9, .sh (.tup (fdD vs.length g)), x11, x12, x13, x14, x15, x16, x17, x18]) s (LB x0 vs n) := by
  have h1 := W.h1
  have h8 := W.h8
  have hr : rng1D [.int (vs.length : Nat)] = some ((List.range vs.length).map EnQ.e) := rng1_n (by omega)
  have e1 := fd_ixT g ha
  have e2 := fd_ixT (gf k (vv vs) (vs.length - 1) n) ha
  have c1 : ¬ (g at_ : Int) < (gf k (vv vs) (vs.length - 1) n at_ : Nat) := by omega
  unfold lb7
  simp [hr, e1, e2, c1, wipeR, -ixD_tn]
  refine wp_compF (p := fun _ : Nat => false) (f := EnQ.e) _ (fun i hi => ?_) ?_
  · have hi' := List.mem_range.mp hi
    refine ⟨_, rfl, fun s => ⟨?_, fun h => by cases h⟩⟩
    have f1 := fd_ixT g hi'
    have f2 := fd_ixT (gf k (vv vs) (vs.length - 1) n) hi'
    simp only [e_N]
    by_cases hq : i = at_
    · subst hq; simp
    · have c2 : ¬ ((gf k (vv vs) (vs.length - 1) n i : Nat) : Int) < (g i : Int) := by have := h2g i hi' hq; omega
      have hq' : ¬ (i : Int) = (at_ : Int) := by omega
      simp [hq', f1, f2, c2, -ixD_tn]
  · simp
    exact lb8_ok W hb hn k _ _ _ _ _ _ _ _ _ _ _ _ _ ok
theorem lb6_ok {vs : List Nat} (W : Vt vs) (hb : ∀ z ∈ vs, z ≤ 40) {n : Nat} (hn : n ≤ 12) (k : Kd) {at_ : Nat} (ha : at_ < vs.length) {w : Nat} (hw : vv vs at_ < w) (hw2 : w < 1000) (x0 x7 x10 x11 x12 x13 x14 x15 x16 x17 x18 : Slot) {s : DS} (ok : s.ok) :
    wp (lb6 [x0, .sh .rng, .sh (vtD vs), .sh (.int (n : Nat)), .sh (.int (vs.length : Nat)), .sh k.str, .sh (byD k vs n), x7, .sh (.int (at_ : Nat)), .sh (vtD (vs.set at_ w)), x10, x11, x12, x13, x14, x15, x16, x17, x18]) s (LB x0 vs n) := by
  have h1 := W.h1
  have V : Vt (vs.set at_ w) := ⟨by simpa using W.h1, by simpa using W.h8, fun z hz => by
    rcases List.mem_or_eq_of_mem_set hz with h | rfl
    · exact W.pos z h
    · omega⟩
  have e := by_eq V k (n := n) (by omega)
  have hv : ∀ i, i < vs.length → 0 < vv vs i := fun i hi => (vv_pos W hi).1
  have hv' : ∀ i, i < vs.length → 0 < vv (vs.set at_ w) i := fun i hi => (vv_pos V (by simpa using hi)).1
  obtain ⟨a, b⟩ := gf_ok k (v := vv vs) (m := vs.length - 1) (fun i hi => hv i (by omega)) n
  obtain ⟨c, d⟩ := gf_ok k (v := vv (vs.set at_ w)) (m := vs.length - 1) (fun i hi => hv' i (by omega)) n
  rw [Nat.sub_add_cancel h1] at a b c d
  have hx : vv (vs.set at_ w) at_ = w := by rw [vv_at (by simpa using ha)]; simp
  have ho : ∀ i, i ≠ at_ → vv (vs.set at_ w) i = vv vs i := fun i hi => by
    unfold vv
    rw [List.getD_eq_getElem?_getD, List.getD_eq_getElem?_getD, List.getElem?_set_ne (fun z => hi z.symm)]
  obtain ⟨m1, m2⟩ := AL_more hv ha (by rw [hx]; exact hw) ho a c (by rw [b, d])
  unfold byD at e
  rw [List.length_set] at e
  unfold lb6
  simp [wp_eq e]
  exact lb7_ok W hb hn k ha m1 m2 _ _ _ _ _ _ _ _ _ _ _ ok
theorem lb4_ok {vs : List Nat} (W : Vt vs) (hb : ∀ z ∈ vs, z ≤ 40) {n : Nat} (hn : n ≤ 12) (k : Kd) (x0 x7 x8 x9 x10 x11 x12 x13 x14 x15 x16 x17 x18 : Slot) {s : DS} (ok : s.ok) :
    wp (lb4 [x0, .sh .rng, .sh (vtD vs), .sh (.int (n : Nat)), .sh (.int (vs.length : Nat)), .sh k.str, .sh (byD k vs n), x7, x8, x9, x10, x11, x12, x13, x14, x15, x16, x17, x18]) s (LB x0 vs n) := by
  have h1 := W.h1
  have h8 := W.h8
  unfold lb4
  simp [take_eq]
  refine wp_take (by omega) (by omega) ok fun a s ha ok => ?_
  have sl1 : slD (vtD vs) none (some (a : Int)) = some (.tup ((vs.map EnQ.e).take a)) := sl_take _ a
  have sl2 : slD (vtD vs) (some ((a : Int) + 1)) none = some (.tup ((vs.map EnQ.e).drop (a + 1))) := sl_drop _ (a + 1)
  simp [lb5, sl1, sl2, vt_ix ha, -ixD_tn, take_eq]
  refine wp_take (m := 20) (by decide) (by decide) ok fun r s hr ok => ?_
  have e2 : addD (.tup ((vs.map EnQ.e).take a)) (.tup [.int ((vv vs a : Int) + 1 + (r : Nat))]) = some (.tup ((vs.map EnQ.e).take a ++ [.int ((vv vs a : Int) + 1 + (r : Nat))])) := addD_tt (by simp; omega)
  have e3 : addD (.tup ((vs.map EnQ.e).take a ++ [.int ((vv vs a : Int) + 1 + (r : Nat))])) (.tup ((vs.map EnQ.e).drop (a + 1))) = some (vtD (vs.set a (vv vs a + 1 + r))) := by
    rw [addD_tt (by simp; omega)]
    congr 2
    rw [List.map_set, List.set_eq_take_append_cons_drop, if_pos (by simp; omega)]
    simp [e_N]
  have hv := vv_at ha
  have hb' := hb _ (List.getElem_mem ha)
  simp [SZ_eq, e2, e3]
  exact lb6_ok W hb hn k ha (w := vv vs a + 1 + r) (by omega) (by omega) _ _ _ _ _ _ _ _ _ _ _ ok
end Lw
set_option maxHeartbeats 1000000
namespace Lw
open PySem PySem.Spec PyProof.Rows L2 Pu
theorem neL0 (l : List Int) : neD (.lst (l.map EnQ.e)) (.lst (l.map EnQ.e)) = some (.bl false) := by rw [neL_en (by decide)]; simp
theorem neLN0 (l : List Nat) : neD (.lst (l.map EnQ.e)) (.lst (l.map EnQ.e)) = some (.bl false) := by rw [neL_en (by decide)]; simp
theorem neTN0 (l : List Nat) : neD (.tup (l.map EnQ.e)) (.tup (l.map EnQ.e)) = some (.bl false) := by
  have := ne_en (α := List Nat) (by decide) l l
  exact (show neD (.tup _) (.tup _) = _ from this).trans (by simp)
theorem one_perm {m x : Nat} (hx : x < m) : ((List.range m).map fun i => if i = x then (1 : Int) else 0).Perm (List.replicate (m - 1) 0 ++ [1]) := by
  have e : ((List.range m).map fun i => if i = x then (1 : Int) else 0) = List.replicate x 0 ++ 1 :: List.replicate (m - 1 - x) 0 := by
    refine List.ext_getElem (by simp; omega) fun i h1 h2 => ?_
    rw [List.getElem_map, List.getElem_range, List.getElem_append]
    by_cases h : i < x
    · rw [if_neg (by omega), dif_pos (by simpa using h), List.getElem_replicate]
    · rw [dif_neg (by simpa using h), List.getElem_cons]
      by_cases h3 : i = x
      · rw [if_pos h3, dif_pos (by simp; omega)]
      · rw [if_neg h3, dif_neg (by simp; omega), List.getElem_replicate]
  rw [e, show m - 1 = x + (m - 1 - x) by omega, ← List.replicate_append_replicate]
  exact List.perm_middle.trans (List.perm_append_singleton _ _).symm |>.trans (by simp)
theorem srt_one {m x : Nat} (hx : x < m) : srt ((List.range m).map fun i => if i = x then (1 : Int) else 0) = List.replicate (m - 1) 0 ++ [1] := by
  have p := (srt_perm ((List.range m).map fun i => if i = x then (1 : Int) else 0)).trans (one_perm hx)
  refine p.eq_of_pairwise (le := fun a b : Int => a ≤ b) (fun a b _ _ h1 h2 => by omega) ?_ ?_
  · refine (srt_pair _).imp fun {a b} h => ?_
    have h : decide (b < a) = false := h
    simp at h; exact h
  · rw [List.pairwise_append]
    refine ⟨List.pairwise_replicate.mpr (.inr (by omega)), by simp, fun a ha b hb => ?_⟩
    have := List.eq_of_mem_replicate ha
    have := List.mem_singleton.mp hb
    omega
end Lw
set_option maxHeartbeats 1000000
namespace Lw
open PySem PySem.Spec PyProof.Rows L2 Pu
theorem tn_take (k : Kd) (v : Nat → Nat) (m n : Nat) : (tn k v m (n + 1)).take n = tn k v m n := by
  unfold tn
  rw [List.range_succ, List.map_append]
  exact List.take_left' (by simp)
theorem slot_tn (k : Kd) (vs : List Nat) (n : Nat) : turnsD k vs n = .tup ((tn k (vv vs) (vs.length - 1) n).map EnQ.e) := by
  unfold turnsD; rw [tuD_tn]
theorem bump_eq (k : Kd) (v : Nat → Nat) (m n i : Nat) : ((gf k v m (n + 1) i : Nat) : Int) - (gf k v m n i : Nat) = if i = nx k v (gf k v m n) m then 1 else 0 := by
  show ((bump (gf k v m n) (nx k v (gf k v m n) m) i : Nat) : Int) - _ = _
  unfold bump
  split <;> omega
theorem lb3_ok {vs : List Nat} (W : Vt vs) (hb : ∀ z ∈ vs, z ≤ 40) {n : Nat} (hn : n ≤ 12) (k : Kd) (x0 x8 x9 x10 x11 x12 x13 x14 x15 x16 x17 x18 : Slot) {s : DS} (ok : s.ok) :
    wp (lb3 [x0, .sh .rng, .sh (vtD vs), .sh (.int (n : Nat)), .sh (.int (vs.length : Nat)), .sh k.str, .sh (byD k vs n), .sh (turnsD k vs n), x8, x9, x10, x11, x12, x13, x14, x15, x16, x17, x18]) s (LB x0 vs n) := by
  have h1 := W.h1
  have h8 := W.h8
  have hr : rng1D [.int (vs.length : Nat)] = some ((List.range vs.length).map EnQ.e) := rng1_n (by omega)
  unfold lb3
  by_cases hl : n < 12
  case neg =>
    have hl' : ¬ (n : Int) < 12 := by omega
    simp [hl']
    exact (lb4_ok W hb hn k _ _ _ _ _ _ _ _ _ _ _ _ _ ok)
  case pos =>
    have hl' : (n : Int) < 12 := by omega
    have eb : ∀ s, m_by_quotients [vtD vs, .int ((n : Int) + 1), k.str] s = some (byD k vs (n + 1), s) := fun s => by_eq W k (n := n + 1) (by omega) s
    have et : ∀ s, m_turns [vtD vs, .int ((n : Int) + 1), k.str] s = some (turnsD k vs (n + 1), s) := fun s => turns_eq W k (n := n + 1) (by omega) s
    have hs : slD (turnsD k vs (n + 1)) none (some (n : Int)) = some (turnsD k vs n) := by
      rw [slot_tn, slot_tn, sl_take, ← List.map_take, tn_take]
    have hne : neD (turnsD k vs n) (turnsD k vs n) = some (.bl false) := by rw [slot_tn]; exact neTN0 _
    have hrep : repO (.lst [.int 0]) (.int ((vs.length : Int) - 1)) = some (List.replicate (vs.length - 1) (.int 0)) := by
      rw [show (vs.length : Int) - 1 = ((vs.length - 1 : Nat) : Int) by omega]; exact repO_1 _ (by omega)
    have hcat : catO (.lst (List.replicate (vs.length - 1) (.int 0))) (.lst [.int 1]) = some (List.replicate (vs.length - 1) (.int 0) ++ [.int 1]) := catO_ll (by simp; omega)
    have hx : nx k (vv vs) (gf k (vv vs) (vs.length - 1) n) (vs.length - 1) < vs.length := by have := nx_le k (vv vs) (gf k (vv vs) (vs.length - 1) n) (vs.length - 1); omega
    have hsrt : sortO [.lst ((List.range vs.length).map fun i => D.int ((gf k (vv vs) (vs.length - 1) (n + 1) i : Nat) - (gf k (vv vs) (vs.length - 1) n i : Nat) : Int))] = some (List.replicate (vs.length - 1) (.int 0) ++ [.int 1]) := by
      have e : ((List.range vs.length).map fun i => D.int ((gf k (vv vs) (vs.length - 1) (n + 1) i : Nat) - (gf k (vv vs) (vs.length - 1) n i : Nat) : Int)) = ((List.range vs.length).map fun i => if i = nx k (vv vs) (gf k (vv vs) (vs.length - 1) n) (vs.length - 1) then (1 : Int) else 0).map EnQ.e := by
        rw [List.map_map]
        refine List.map_congr_left fun i _ => ?_
        rw [bump_eq]; rfl
      rw [e, sortO_en (by decide), srt_one hx]
      · simp [e_I]
      · simp [isTupN, notTup, e_I]
    have hne2 : neD (.lst (List.replicate (vs.length - 1) (.int 0) ++ [.int 1])) (.lst (List.replicate (vs.length - 1) (.int 0) ++ [.int 1])) = some (.bl false) := by
      have := neL0 (List.replicate (vs.length - 1) 0 ++ [1])
      simpa [e_I] using this
    simp [hl', hl, wp_eq eb, hr, wipeR]
    refine wp_compT (f := fun i : Nat => D.int ((gf k (vv vs) (vs.length - 1) (n + 1) i : Nat) - (gf k (vv vs) (vs.length - 1) n i : Nat) : Int)) _ (fun i hi => ⟨_, rfl, fun s => ?_⟩) ?_
    · have hi' := List.mem_range.mp hi
      have e1 := fd_ixT (gf k (vv vs) (vs.length - 1) (n + 1)) hi'
      have e2 := fd_ixT (gf k (vv vs) (vs.length - 1) n) hi'
      simp only [e_N]
      simp [e1, e2, -ixD_tn]
    · simp [hsrt, hrep, hcat, hne2, wp_eq et, hs, hne, SZ_eq]
      exact lb4_ok W hb hn k _ _ _ _ _ _ _ _ _ _ _ _ _ ok
theorem lb2_ok {vs : List Nat} (W : Vt vs) (hb : ∀ z ∈ vs, z ≤ 40) {n : Nat} (hn : n ≤ 12) (k : Kd) (x0 x8 x9 x10 x11 x12 x13 x14 x15 x16 x17 x18 : Slot) {s : DS} (ok : s.ok) :
    wp (lb2 [x0, .sh .rng, .sh (vtD vs), .sh (.int (n : Nat)), .sh (.int (vs.length : Nat)), .sh k.str, .sh (byD k vs n), .sh (turnsD k vs n), x8, x9, x10, x11, x12, x13, x14, x15, x16, x17, x18]) s (LB x0 vs n) := by
  have h1 := W.h1
  have h8 := W.h8
  have hr : rng1D [.int (vs.length : Nat)] = some ((List.range vs.length).map EnQ.e) := rng1_n (by omega)
  obtain ⟨a, b⟩ := gf_ok k (v := vv vs) (m := vs.length - 1) (fun i hi => (vv_pos W (by omega)).1) n
  rw [Nat.sub_add_cancel h1] at b
  have hsum := sumD_fd vs.length (gf k (vv vs) (vs.length - 1) n)
  rw [b] at hsum
  have sq : seqD (turnsD k vs n) = some ((tn k (vv vs) (vs.length - 1) n).map EnQ.e) := by rw [← tuD_tn]; rfl
  have hne : neD (.lst (fdD vs.length (gf k (vv vs) (vs.length - 1) n))) (.lst (fdD vs.length (gf k (vv vs) (vs.length - 1) n))) = some (.bl false) := by rw [fd_map]; exact neLN0 _
  unfold lb2
  have K := lb3_ok W hb hn k x0 x8 x9 x10 x11 x12 x13 x14 x15 x16 x17 x18 ok
  generalize turnsD k vs n = tt at *
  simp [hr, wipeR, hsum]
  refine wp_compT (f := fun i : Nat => D.int (gf k (vv vs) (vs.length - 1) n i : Nat)) _ (fun i hi => ⟨_, rfl, fun s => ?_⟩) ?_
  · simp [sq, wipeR]
    refine wp_compF (p := fun z : Nat => decide (z = i)) (f := EnQ.e) _ (fun z hz => ?_) ?_
    · refine ⟨_, rfl, fun s => ⟨?_, fun _ => ?_⟩⟩
      · simp only [e_N]
        simp
        omega
      · simp
    · have cnt := tn_count k (vv vs) (vs.length - 1) i n
      simp [cnt]
  · rw [show ((List.range vs.length).map fun i : Nat => D.int (gf k (vv vs) (vs.length - 1) n i : Nat)) = fdD vs.length (gf k (vv vs) (vs.length - 1) n) from rfl]
    simp [hne]
    exact K
theorem lb0_ok {vs : List Nat} (W : Vt vs) (hb : ∀ z ∈ vs, z ≤ 40) {n : Nat} (hn : n ≤ 12) (k : Kd) (x6 : Slot) (x0 x7 x8 x9 x10 x11 x12 x13 x14 x15 x16 x17 x18 : Slot) {s : DS} (ok : s.ok) :
    wp (lb0 [x0, .sh .rng, .sh (vtD vs), .sh (.int (n : Nat)), .sh (.int (vs.length : Nat)), .sh k.str, x6, x7, x8, x9, x10, x11, x12, x13, x14, x15, x16, x17, x18]) s (LB x0 vs n) := by
  have eb := by_eq W k (n := n) (by omega)
  have et := turns_eq W k (n := n) (by omega)
  unfold lb0
  simp [lb1, wp_eq eb, wp_eq et]
  exact lb2_ok W hb hn k _ _ _ _ _ _ _ _ _ _ _ _ ok
theorem gl4_ok {vs : List Nat} (W : Vt vs) (hb : ∀ z ∈ vs, z ≤ 40) {n : Nat} (hn : n ≤ 12) (x0 x5 x6 x7 x8 x9 x10 x11 x12 x13 x14 x15 x16 x17 x18 : Slot) {s : DS} (ok : s.ok) :
    wp (gl4 [x0, .sh .rng, .sh (vtD vs), .sh (.int (n : Nat)), .sh (.int (vs.length : Nat)), x5, x6, x7, x8, x9, x10, x11, x12, x13, x14, x15, x16, x17, x18]) s RT := by
  rw [gl4_in]
  simp [SZ_eq]
  refine wp_each Kd.str (fun ρ s' => s'.ok ∧ ∃ x5 x6 x7 x8 x9 x10 x11 x12 x13 x14 x15 x16 x17 x18, ρ = [x0, .sh .rng, .sh (vtD vs), .sh (.int (n : Nat)), .sh (.int (vs.length : Nat)), x5, x6, x7, x8, x9, x10, x11, x12, x13, x14, x15, x16, x17, x18]) [.g, .m, .l] (fun k hk ρ s' hJ => ?_) (fun ρ s' hJ => ?_) ⟨ok, _, _, _, _, _, _, _, _, _, _, _, _, _, _, rfl⟩
  · obtain ⟨ok, x5, x6, x7, x8, x9, x10, x11, x12, x13, x14, x15, x16, x17, x18, rfl⟩ := hJ
    refine ⟨_, rfl, ?_⟩
    refine wp_mono (lb0_ok W hb hn k _ _ _ _ _ _ _ _ _ _ _ _ _ _ ok) fun r s' h => ?_
    obtain ⟨r, ρ⟩ := r
    obtain ⟨h1, h2, h3⟩ := h
    have h1 : r = .nx := h1
    subst h1
    exact ⟨h2, h3⟩
  · obtain ⟨ok, x5, x6, x7, x8, x9, x10, x11, x12, x13, x14, x15, x16, x17, x18, rfl⟩ := hJ
    have hb' : ∀ x ∈ vs, x < 2 ^ 19 := fun x hx => by have := hb x hx; omega
    show wp (gl5 _) s' RT
    simp [gl5]
    refine wp_mono (part1_ok W hb' (n := n) (by omega) s' ok) fun d s' h => ?_
    subst h
    rfl
theorem main_wp (ns : List Int) (hl : ns.length ≤ 63) (seed : Int) (h0 : 0 ≤ seed) (h1 : seed < 2147483647) : wp (g_law (rho0 19)) ⟨ns, 0, 0, seed⟩ fun r _ => r.1 = .rt (.bl true) := by
  have ok0 : (DS.mk ns 0 0 seed).ok := ⟨Int.le_refl _, Int.le_refl _, h0, h1, hl⟩
  rw [gl_eq]
  unfold gl0 rho0
  generalize (DS.mk ns 0 0 seed) = s at ok0
  simp only [List.replicate, take_eq]
  simp
  refine wp_take (m := 5) (by decide) (by decide) ok0 fun r s hr ok => ?_
  obtain ⟨m, hm, hm1, hm5⟩ : ∃ m : Nat, (1 + (r : Int)) = m ∧ 1 ≤ m ∧ m ≤ 5 := ⟨1 + r, by omega, by omega, by omega⟩
  simp [hm, rng1_n (n := m) (by omega), wipeR]
  refine wp_compS (fun (_ : Nat) y => ∃ z : Nat, y = EnQ.e z ∧ (1 ≤ z ∧ z ≤ 40)) (List.range m) (fun i hi s ok => ⟨_, rfl, ?_⟩) ok fun ys s ok hlen hys => ?_
  · simp [take_eq]
    refine wp_take (m := 40) (by decide) (by decide) ok fun r s hr ok => ?_
    refine ⟨_, rfl, ok, 1 + r, ?_, by omega, by omega⟩
    rw [e_N]; simp
  · obtain ⟨vs, e1, e2⟩ := choose_all (P := fun z : Nat => 1 ≤ z ∧ z ≤ 40) (f := EnQ.e) (ds := ys) fun d hd => by
      obtain ⟨x, _, z, hz, hs⟩ := hys d hd; exact ⟨z, hz, hs⟩
    subst e1
    simp at hlen
    have W : Vt vs := ⟨by omega, by omega, fun z hz => by have := e2 z hz; omega⟩
    simp [gl1, gl2, take_eq]
    refine wp_take (m := 13) (by decide) (by decide) ok fun n s hn ok => ?_
    simp [gl3]
    exact gl4_ok W (fun z hz => (e2 z hz).2) (by omega) _ _ _ _ _ _ _ _ _ _ _ _ _ _ _ ok
theorem main (ns : List Int) (hl : ns.length ≤ 63) (seed : Int) (h0 : 0 ≤ seed) (h1 : seed < 2147483647) : ∃ ρ' s', g_law (rho0 19) ⟨ns, 0, 0, seed⟩ = some ((.rt (.bl true), ρ'), s') := by
  obtain ⟨⟨r, ρ'⟩, s', e, q⟩ := main_wp ns hl seed h0 h1
  have q : r = .rt (.bl true) := q
  subst q
  exact ⟨ρ', s', e⟩
end Lw
set_option maxHeartbeats 0
namespace Lw
open PySem PySem.Spec PyProof.Rows L2 Pu
def q__law_take : He.DefD := ⟨("_law_take", none), "_law_take", "_law_take", defArgs s__law_take, defBody s__law_take, defScope s__law_take, [], []⟩
def q_check_seats : He.DefD := ⟨("check_seats", none), "check_seats", "check_seats", defArgs s_check_seats, defBody s_check_seats, defScope s_check_seats, [], []⟩
def q_fraction : He.DefD := ⟨("fraction", none), "fraction", "fraction", defArgs s_fraction, defBody s_fraction, defScope s_fraction, [], []⟩
def q_divisor : He.DefD := ⟨("divisor", none), "divisor", "divisor", defArgs s_divisor, defBody s_divisor, defScope s_divisor, [], []⟩
def q_compare : He.DefD := ⟨("compare", none), "compare", "compare", defArgs s_compare, defBody s_compare, defScope s_compare, [], []⟩
def q_is_more : He.DefD := ⟨("is_more", none), "is_more", "is_more", defArgs s_is_more, defBody s_is_more, defScope s_is_more, [], []⟩
def q_quotient : He.DefD := ⟨("quotient", none), "quotient", "quotient", defArgs s_quotient, defBody s_quotient, defScope s_quotient, [], []⟩
def q_next_list : He.DefD := ⟨("next_list", none), "next_list", "next_list", defArgs s_next_list, defBody s_next_list, defScope s_next_list, [], []⟩
def q_by_quotients : He.DefD := ⟨("by_quotients", none), "by_quotients", "by_quotients", defArgs s_by_quotients, defBody s_by_quotients, defScope s_by_quotients, [], []⟩
def q_by_rests : He.DefD := ⟨("by_rests", none), "by_rests", "by_rests", defArgs s_by_rests, defBody s_by_rests, defScope s_by_rests, [], []⟩
def q_loses_by_more : He.DefD := ⟨("loses_by_more", none), "loses_by_more", "loses_by_more", defArgs s_loses_by_more, defBody s_loses_by_more, defScope s_loses_by_more, [], []⟩
def q_turns : He.DefD := ⟨("turns", none), "turns", "turns", defArgs s_turns, defBody s_turns, defScope s_turns, [], []⟩
def q_check_dealt : He.DefD := ⟨("check_dealt", none), "check_dealt", "check_dealt", defArgs s_check_dealt, defBody s_check_dealt, defScope s_check_dealt, [], []⟩
def q_out_of_parts : He.DefD := ⟨("out_of_parts", none), "out_of_parts", "out_of_parts", defArgs s_out_of_parts, defBody s_out_of_parts, defScope s_out_of_parts, [], []⟩
def q__law_part1 : He.DefD := ⟨("_law_part1", none), "_law_part1", "_law_part1", defArgs s__law_part1, defBody s__law_part1, defScope s__law_part1, [], []⟩
def q_unfair_pair : He.DefD := ⟨("unfair_pair", none), "unfair_pair", "unfair_pair", defArgs s_unfair_pair, defBody s_unfair_pair, defScope s_unfair_pair, [], []⟩
def q_price_of : He.DefD := ⟨("price_of", none), "price_of", "price_of", defArgs s_price_of, defBody s_price_of, defScope s_price_of, [], []⟩
def q__law_begin : He.DefD := ⟨("_law_begin", none), "_law_begin", "_law_begin", defArgs s__law_begin, defBody s__law_begin, defScope s__law_begin, [], []⟩
def q_law : He.DefD := ⟨("law", none), "law", "law", defArgs s_law, defBody s_law, defScope s_law, [], []⟩
def fn : List He.DefD := q__law_take :: q_check_seats :: q_fraction :: q_divisor :: q_compare :: q_is_more :: q_quotient :: q_next_list :: q_by_quotients :: q_by_rests :: q_loses_by_more :: q_turns :: q_check_dealt :: q_out_of_parts :: q__law_part1 :: q_unfair_pair :: q_price_of :: q__law_begin :: q_law :: []
def fa : List He.Fa := .glo "_law_take" :: .glo "check_seats" :: .glo "fraction" :: .glo "divisor" :: .glo "compare" :: .glo "is_more" :: .glo "quotient" :: .glo "next_list" :: .glo "by_quotients" :: .glo "by_rests" :: .glo "loses_by_more" :: .glo "turns" :: .glo "check_dealt" :: .glo "out_of_parts" :: .glo "_law_part1" :: .glo "unfair_pair" :: .glo "price_of" :: .glo "_law_begin" :: .glo "law" :: .free "len" :: .free "sum" :: .free "min" :: .free "max" :: .free "all" :: .free "any" :: .free "abs" :: .free "int" :: .free "sorted" :: .free "tuple" :: .free "list" :: .free "range" :: .free "enumerate" :: .free "zip" :: .int "MOST_LISTS" 8 :: .int "MOST_SEATS" 40 :: []
abbrev R : PySem.W.OpenRow := PySem.W.OpenLaw.row PySem.Challenge.rw_marketguild_k78_whole_seats_for_all
def ex (K : PySem.W.Frag) : Bool := bltB K "gcd" "math.gcd"
abbrev hk : PySem.W.Hook := He.hookX 4 fa fn [] [] ex
def ob (s : PySem.W.SharedT) : He.AlX := He.obsX 4 fa fn [] [] ex (HandSHeadRun.getT s)
theorem ob_eq (s : PySem.W.SharedT) : ob s = hk.obs s.abs := He.obsX_eq (HandSHeadRun.getT_eq s)
def nms0 : List PySem.Str := ["MarketplaceError", "ZeroDenominator", "GuildError", "fraction", "compare", "MOST_LISTS", "MOST_SEATS", "check_seats", "by_rests", "divisor", "quotient", "is_more", "next_list", "by_quotients", "turns", "price_of", "check_dealt", "unfair_pair", "out_of_parts", "loses_by_more", "_law_begin", "_law_take", "_law_part1"]
def nms : List PySem.Str := nms0
theorem run (w : World) : Pu.RunEqI R (PySem.W.view R.prog [0, 28]) hk ob 4000 nms w := by
  unfold Pu.RunEqI
  kernel_rfl
theorem facts {P : Program} {w : World} {K : PySem.W.Frag} {h : Heap} {mg : Str → Option Value} {f : Addr} (X : K.In h) (G : h.Ns mainGlobals mg) (hfa : mg ("law" : Str) = some (.ref f)) (c : He.SaysD fa fn K) (cx : ex K = true) :
    ∃ fd : FuncData, (∀ (s : Shared) (v : Value), BindsTo s fd ⟨[v], []⟩ [("script", v)]) ∧ ∀ base : Heap, K.In base → base.Ns mainGlobals mg → FnOk P w K mg base CX0 6 f fd ["script"] (spLaw K 19 g_law) := by
  have x_gcd : (bltB K "gcd" "math.gcd") = true := cx
  have h_gcd := bltB_ok X G x_gcd
  have B : Bi mg := ⟨He.free_ok X G (c.fact 19 (f := .free "len") rfl), He.free_ok X G (c.fact 20 (f := .free "sum") rfl), He.free_ok X G (c.fact 21 (f := .free "min") rfl), He.free_ok X G (c.fact 22 (f := .free "max") rfl), He.free_ok X G (c.fact 23 (f := .free "all") rfl), He.free_ok X G (c.fact 24 (f := .free "any") rfl), He.free_ok X G (c.fact 25 (f := .free "abs") rfl), He.free_ok X G (c.fact 26 (f := .free "int") rfl), He.free_ok X G (c.fact 27 (f := .free "sorted") rfl), He.free_ok X G (c.fact 28 (f := .free "tuple") rfl), He.free_ok X G (c.fact 29 (f := .free "list") rfl), He.free_ok X G (c.fact 30 (f := .free "range") rfl), He.free_ok X G (c.fact 31 (f := .free "enumerate") rfl), He.free_ok X G (c.fact 32 (f := .free "zip") rfl)⟩
  obtain ⟨t_MOST_LISTS, e_MOST_LISTS⟩ := He.int_ok X G (c.fact 33 (f := .int "MOST_LISTS" 8) rfl)
  have k_MOST_LISTS : CstOk mg "MOST_LISTS" c_MOST_LISTS K := CstOk.int e_MOST_LISTS
  obtain ⟨t_MOST_SEATS, e_MOST_SEATS⟩ := He.int_ok X G (c.fact 34 (f := .int "MOST_SEATS" 40) rfl)
  have k_MOST_SEATS : CstOk mg "MOST_SEATS" c_MOST_SEATS K := CstOk.int e_MOST_SEATS
  obtain ⟨fd__law_take, F__law_take⟩ := c.def_ 0 (d := q__law_take) rfl
  obtain ⟨fd_check_seats, F_check_seats⟩ := c.def_ 1 (d := q_check_seats) rfl
  obtain ⟨fd_fraction, F_fraction⟩ := c.def_ 2 (d := q_fraction) rfl
  obtain ⟨fd_divisor, F_divisor⟩ := c.def_ 3 (d := q_divisor) rfl
  obtain ⟨fd_compare, F_compare⟩ := c.def_ 4 (d := q_compare) rfl
  obtain ⟨fd_is_more, F_is_more⟩ := c.def_ 5 (d := q_is_more) rfl
  obtain ⟨fd_quotient, F_quotient⟩ := c.def_ 6 (d := q_quotient) rfl
  obtain ⟨fd_next_list, F_next_list⟩ := c.def_ 7 (d := q_next_list) rfl
  obtain ⟨fd_by_quotients, F_by_quotients⟩ := c.def_ 8 (d := q_by_quotients) rfl
  obtain ⟨fd_by_rests, F_by_rests⟩ := c.def_ 9 (d := q_by_rests) rfl
  obtain ⟨fd_loses_by_more, F_loses_by_more⟩ := c.def_ 10 (d := q_loses_by_more) rfl
  obtain ⟨fd_turns, F_turns⟩ := c.def_ 11 (d := q_turns) rfl
  obtain ⟨fd_check_dealt, F_check_dealt⟩ := c.def_ 12 (d := q_check_dealt) rfl
  obtain ⟨fd_out_of_parts, F_out_of_parts⟩ := c.def_ 13 (d := q_out_of_parts) rfl
  obtain ⟨fd__law_part1, F__law_part1⟩ := c.def_ 14 (d := q__law_part1) rfl
  obtain ⟨fd_unfair_pair, F_unfair_pair⟩ := c.def_ 15 (d := q_unfair_pair) rfl
  obtain ⟨fd_price_of, F_price_of⟩ := c.def_ 16 (d := q_price_of) rfl
  obtain ⟨fd__law_begin, F__law_begin⟩ := c.def_ 17 (d := q__law_begin) rfl
  obtain ⟨fd_law, F_law⟩ := c.def_ 18 (d := q_law) rfl
  have e := hfa.symm.trans (He.glo_ok X G (c.fact 18 (f := .glo "law") rfl))
  cases e
  have b__law_take : Binds K fd__law_take ["d", "many"] [] := FunD.bindsN F__law_take fun _ _ _ _ _ _ us hl => match us, hl with | [_, _], _ => rfl
  have b_check_seats : Binds K fd_check_seats ["votes", "seats"] [] := FunD.bindsN F_check_seats fun _ _ _ _ _ _ us hl => match us, hl with | [_, _], _ => rfl
  have b_fraction : Binds K fd_fraction ["numerator", "denominator"] [] := FunD.bindsN F_fraction fun _ _ _ _ _ _ us hl => match us, hl with | [_, _], _ => rfl
  have b_divisor : Binds K fd_divisor ["kind", "seats"] [] := FunD.bindsN F_divisor fun _ _ _ _ _ _ us hl => match us, hl with | [_, _], _ => rfl
  have b_compare : Binds K fd_compare ["a", "b"] [] := FunD.bindsN F_compare fun _ _ _ _ _ _ us hl => match us, hl with | [_, _], _ => rfl
  have b_is_more : Binds K fd_is_more ["one", "other"] [] := FunD.bindsN F_is_more fun _ _ _ _ _ _ us hl => match us, hl with | [_, _], _ => rfl
  have b_quotient : Binds K fd_quotient ["one", "down"] [] := FunD.bindsN F_quotient fun _ _ _ _ _ _ us hl => match us, hl with | [_, _], _ => rfl
  have b_next_list : Binds K fd_next_list ["votes", "kind", "found"] [] := FunD.bindsN F_next_list fun _ _ _ _ _ _ us hl => match us, hl with | [_, _, _], _ => rfl
  have b_by_quotients : Binds K fd_by_quotients ["votes", "seats", "kind"] [] := FunD.bindsN F_by_quotients fun _ _ _ _ _ _ us hl => match us, hl with | [_, _, _], _ => rfl
  have b_by_rests : Binds K fd_by_rests ["votes", "seats"] [] := FunD.bindsN F_by_rests fun _ _ _ _ _ _ us hl => match us, hl with | [_, _], _ => rfl
  have b_loses_by_more : Binds K fd_loses_by_more ["votes", "most"] [] := FunD.bindsN F_loses_by_more fun _ _ _ _ _ _ us hl => match us, hl with | [_, _], _ => rfl
  have b_turns : Binds K fd_turns ["votes", "seats", "kind"] [] := FunD.bindsN F_turns fun _ _ _ _ _ _ us hl => match us, hl with | [_, _, _], _ => rfl
  have b_check_dealt : Binds K fd_check_dealt ["votes", "dealt"] [] := FunD.bindsN F_check_dealt fun _ _ _ _ _ _ us hl => match us, hl with | [_, _], _ => rfl
  have b_out_of_parts : Binds K fd_out_of_parts ["votes", "dealt"] [] := FunD.bindsN F_out_of_parts fun _ _ _ _ _ _ us hl => match us, hl with | [_, _], _ => rfl
  have b__law_part1 : Binds K fd__law_part1 ["d", "votes", "seats", "many"] [] := FunD.bindsN F__law_part1 fun _ _ _ _ _ _ us hl => match us, hl with | [_, _, _, _], _ => rfl
  have b_unfair_pair : Binds K fd_unfair_pair ["votes", "dealt", "kind"] [] := FunD.bindsN F_unfair_pair fun _ _ _ _ _ _ us hl => match us, hl with | [_, _, _], _ => rfl
  have b_price_of : Binds K fd_price_of ["votes", "dealt", "kind"] [] := FunD.bindsN F_price_of fun _ _ _ _ _ _ us hl => match us, hl with | [_, _, _], _ => rfl
  have b__law_begin : Binds K fd__law_begin ["script"] [] := FunD.bindsN F__law_begin fun _ _ _ _ _ _ us hl => match us, hl with | [_], _ => rfl
  have b := FunD.bindsA (ps := ["script"]) F_law fun _ _ _ _ _ _ us hl => match us, hl with | [_], _ => rfl
  refine ⟨fd_law, fun s v => b s [v] rfl, fun base _ _ => ?_⟩
  have d__law_take : DefOk P w K mg base "_law_take" 1 ["d", "many"] m__law_take := ok__law_take B F__law_take (He.glo_ok X G (c.fact 0 (f := .glo "_law_take") rfl)) b__law_take
  have d_check_seats : DefOk P w K mg base "check_seats" 1 ["votes", "seats"] m_check_seats := ok_check_seats B k_MOST_LISTS k_MOST_SEATS F_check_seats (He.glo_ok X G (c.fact 1 (f := .glo "check_seats") rfl)) b_check_seats
  have d_fraction : DefOk P w K mg base "fraction" 1 ["numerator", "denominator"] m_fraction := ok_fraction B h_gcd F_fraction (He.glo_ok X G (c.fact 2 (f := .glo "fraction") rfl)) b_fraction
  have d_divisor : DefOk P w K mg base "divisor" 2 ["kind", "seats"] m_divisor := ok_divisor B d_fraction F_divisor (He.glo_ok X G (c.fact 3 (f := .glo "divisor") rfl)) b_divisor
  have d_compare : DefOk P w K mg base "compare" 1 ["a", "b"] m_compare := ok_compare B F_compare (He.glo_ok X G (c.fact 4 (f := .glo "compare") rfl)) b_compare
  have d_is_more : DefOk P w K mg base "is_more" 2 ["one", "other"] m_is_more := ok_is_more B d_compare F_is_more (He.glo_ok X G (c.fact 5 (f := .glo "is_more") rfl)) b_is_more
  have d_quotient : DefOk P w K mg base "quotient" 2 ["one", "down"] m_quotient := ok_quotient B d_fraction F_quotient (He.glo_ok X G (c.fact 6 (f := .glo "quotient") rfl)) b_quotient
  have d_next_list : DefOk P w K mg base "next_list" 3 ["votes", "kind", "found"] m_next_list := ok_next_list B d_is_more d_quotient d_divisor F_next_list (He.glo_ok X G (c.fact 7 (f := .glo "next_list") rfl)) b_next_list
  have d_by_quotients : DefOk P w K mg base "by_quotients" 4 ["votes", "seats", "kind"] m_by_quotients := ok_by_quotients B d_check_seats d_divisor d_next_list F_by_quotients (He.glo_ok X G (c.fact 8 (f := .glo "by_quotients") rfl)) b_by_quotients
  have d_by_rests : DefOk P w K mg base "by_rests" 2 ["votes", "seats"] m_by_rests := ok_by_rests B d_check_seats F_by_rests (He.glo_ok X G (c.fact 9 (f := .glo "by_rests") rfl)) b_by_rests
  have d_loses_by_more : DefOk P w K mg base "loses_by_more" 3 ["votes", "most"] m_loses_by_more := ok_loses_by_more B d_check_seats d_by_rests F_loses_by_more (He.glo_ok X G (c.fact 10 (f := .glo "loses_by_more") rfl)) b_loses_by_more
  have d_turns : DefOk P w K mg base "turns" 4 ["votes", "seats", "kind"] m_turns := ok_turns B d_check_seats d_divisor d_next_list F_turns (He.glo_ok X G (c.fact 11 (f := .glo "turns") rfl)) b_turns
  have d_check_dealt : DefOk P w K mg base "check_dealt" 2 ["votes", "dealt"] m_check_dealt := ok_check_dealt B d_check_seats F_check_dealt (He.glo_ok X G (c.fact 12 (f := .glo "check_dealt") rfl)) b_check_dealt
  have d_out_of_parts : DefOk P w K mg base "out_of_parts" 3 ["votes", "dealt"] m_out_of_parts := ok_out_of_parts B d_check_dealt F_out_of_parts (He.glo_ok X G (c.fact 13 (f := .glo "out_of_parts") rfl)) b_out_of_parts
  have d__law_part1 : DefOk P w K mg base "_law_part1" 5 ["d", "votes", "seats", "many"] m__law_part1 := ok__law_part1 B d_by_quotients d_by_rests d_loses_by_more d__law_take d_turns d_out_of_parts F__law_part1 (He.glo_ok X G (c.fact 14 (f := .glo "_law_part1") rfl)) b__law_part1
  have d_unfair_pair : DefOk P w K mg base "unfair_pair" 3 ["votes", "dealt", "kind"] m_unfair_pair := ok_unfair_pair B d_check_dealt d_divisor d_quotient d_is_more F_unfair_pair (He.glo_ok X G (c.fact 15 (f := .glo "unfair_pair") rfl)) b_unfair_pair
  have d_price_of : DefOk P w K mg base "price_of" 3 ["votes", "dealt", "kind"] m_price_of := ok_price_of B d_check_dealt d_divisor d_fraction d_quotient d_compare F_price_of (He.glo_ok X G (c.fact 16 (f := .glo "price_of") rfl)) b_price_of
  exact ok_law B d__law_take d__law_part1 d_by_quotients d_turns d_unfair_pair d_price_of F_law (ok_begin B F__law_begin) b__law_begin (He.glo_ok X G (c.fact 17 (f := .glo "_law_begin") rfl)) F__law_begin.kp
end Lw
open PySem PySem.W PySem.Calls PyProof.Rows
theorem PySem.Challenge.cw_marketguild_k78_whole_seats_for_all_holds : PySem.Challenge.rw_marketguild_k78_whole_seats_for_all.Holds := by
  w_on; o_law
  refine Pu.head_anyI (r := OpenLaw.row PySem.Challenge.rw_marketguild_k78_whole_seats_for_all) (q := view (OpenLaw.row PySem.Challenge.rw_marketguild_k78_whole_seats_for_all).prog [0, 28]) (H := Lw.hk) (ob := Lw.ob) (M := 4000) (loose := Lw.nms) (d := HandSHeadRun.topDef (OpenLaw.row PySem.Challenge.rw_marketguild_k78_whole_seats_for_all).prog 28) (kwd := []) Lw.ob_eq
    Lw.run (by kernel_rfl) (by kernel_rfl) (by kernel_rfl) (by rfl) (by first | assumption | decide +kernel) (by decide +kernel) ⟨rfl, rfl, rfl, rfl, rfl, by decide +kernel⟩ ?hw ?hc
  case hw => w_witness2
  case hc =>
    refine L2.walk_ofE (l := PySem.Challenge.rw_marketguild_k78_whole_seats_for_all) (n := 63) (k := 6) (x := "script") (CX := L2.CX0) rfl (by decide) (by kernel_rfl) ⟨rfl, by decide, by decide⟩ ?F (fun _ _ _ _ z => z)
    intro w mg fa h Y G hmg0
    obtain ⟨K, KX, c⟩ := Y
    have hmg : mg ("law" : PySem.Str) = some (.ref fa) := by
      have e : (HandSHeadRun.topDef (OpenLaw.row PySem.Challenge.rw_marketguild_k78_whole_seats_for_all).prog 28).name = ("law" : PySem.Str) := by kernel_rfl
      rw [← e]
      exact hmg0
    obtain ⟨fd, hb, hF⟩ := Lw.facts (P := (PySem.Challenge.rw_marketguild_k78_whole_seats_for_all).prog) (w := w) KX G hmg (congrArg (fun z : He.AlT => z.1) c.t) c.more
    exact ⟨K, fd, Pu.spLaw K 19 Lw.g_law, KX, hb, fun H a ns hl _ hS => ⟨a, ns, rfl, hS, hl, fun seed h0 h1 => Lw.main ns hl seed h0 h1, fun _ => rfl⟩, hF⟩
